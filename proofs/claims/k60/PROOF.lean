import PyProof.Rows.All
import Wide.All
import OpenK.AllK
import Wide.FinOn
import HandS.ForMost
import KE.KDictKeyed
import KE.KDictCopyH
import HandS.Walk
import HandS.Iter
import KE.KDictPairs
import HandS.Lambda
import PyProof.ReprRoads
import PyProof.ReprReads
import HandS.Evl
import KE.GoesEnum
import HandS.SetKeys
import HandS.More
import HandS.Sort
import HandS.IsInst
import HandS.TupAny
import PyProof.Rows.SortRev
import PyProof.Rows.SortStr
import PyProof.Rows.SortShellK
import PyProof.Rows.CallKwBuiltin
import KE.KDictList
import HandS.ListItems
import KE.KSortTupG
import KE.KExcSuper
import HandS.ForExc
import HandS.TryMany
import HandS.ExcInit
import HandS.ExcSuper
import PySem.Challenge.RW_runshown_k60_sums_of_graphs
import HandS.ExcOwn
import HandS.WordsExc
import HandS.RaiseMore
import PyProof.Rows.StrMeet
import HandS.DictComp
import HandS.Conv
import HandS.EndTab
import HandS.Text
import HandS.Steps
import HandS.Strs
import HandS.TryOnly
import HandS.Style
import KE.KRevSl
import HandS.StrMore
import HandS.TupLen
import HandS.Call
set_option Elab.async false
set_option linter.all false
set_option maxRecDepth 100000
set_option maxHeartbeats 2000000
namespace Rs
open PySem L2 PySem.Spec PyProof.Rows
def tupOf : HO → Option (List V)
  | .tup xs => some xs
  | .frz _ (.tup xs) => some xs
  | _ => none
def TupAt (H : Hp) (a : Addr) (xs : List V) : Prop := ∃ u, H a = some u ∧ tupOf u = some xs
def Tps (H H' : Hp) : Prop := ∀ a u, H a = some u → (tupOf u).isSome = true → H' a = some u
theorem TupAt.of {H : Hp} {a : Addr} {xs : List V} (e : H a = some (.tup xs)) : TupAt H a xs := ⟨_, e, rfl⟩
theorem TupAt.mono {H H' : Hp} {a : Addr} {xs : List V} (h : TupAt H a xs) (t : Tps H H') : TupAt H' a xs := by
  obtain ⟨u, e, q⟩ := h
  exact ⟨u, t a u e (by rw [q]; rfl), q⟩
theorem tupOf_rd {H : Hp} {a : Addr} {u : HO} {xs : List V} (e : H a = some u) (q : tupOf u = some xs) : Rd H a (.tup xs) := by
  cases u with
  | tup ys => cases q; exact .inl e
  | frz o u =>
    cases u with
    | tup ys => cases q; exact .inr ⟨o, e⟩
    | _ => cases q
  | _ => cases q
theorem TupAt.sq {K : PySem.W.Frag} {H : Hp} {a : Addr} {xs : List V} (h : TupAt H a xs) : SqT K H a xs := by
  obtain ⟨u, e, q⟩ := h
  exact .inl (tupOf_rd e q)
theorem TupAt.eq {H : Hp} {a : Addr} {xs ys : List V} (h : TupAt H a xs) (k : TupAt H a ys) : xs = ys := by
  obtain ⟨u, e, q⟩ := h
  obtain ⟨u', e', q'⟩ := k
  rw [e] at e'
  cases e'
  rw [q] at q'
  cases q'
  rfl
mutual
inductive NK (H : Hp) : NestedKey → V → Prop
  | none : NK H .none .non
  | num (i : Int) : NK H (.num i) (.int i)
  | text (x : Str) : NK H (.text x) (.str x)
  | tup {a : Addr} {xs : List V} {ks : List NestedKey} : TupAt H a xs → NKs H ks xs → NK H (.tup ks) (.ref a)
inductive NKs (H : Hp) : List NestedKey → List V → Prop
  | nil : NKs H [] []
  | cons {k : NestedKey} {v : V} {ks : List NestedKey} {vs : List V} : NK H k v → NKs H ks vs → NKs H (k :: ks) (v :: vs)
end
mutual
theorem NK.mono {H H' : Hp} (ht : Tps H H') : ∀ (k : NestedKey) (v : V), NK H k v → NK H' k v
  | .none, _, h => by cases h; exact .none
  | .num _, _, h => by cases h; exact .num _
  | .text _, _, h => by cases h; exact .text _
  | .tup ks, _, h => by
    cases h with
    | tup e r => exact .tup (e.mono ht) (NKs.mono ht ks _ r)
theorem NKs.mono {H H' : Hp} (ht : Tps H H') : ∀ (ks : List NestedKey) (vs : List V), NKs H ks vs → NKs H' ks vs
  | [], _, h => by cases h; exact .nil
  | k :: ks, _, h => by
    cases h with
    | cons h1 h2 => exact .cons (NK.mono ht k _ h1) (NKs.mono ht ks _ h2)
end
mutual
theorem NK.isAt {P : Program} {w : World} {H : Hp} {h : Heap} (ok : HOk P w H h) : ∀ (k : NestedKey) (v : V) (u : Value), NK H k v → RelV v u → NestedIs h k u
  | .none, _, _, h1, r => by cases h1; cases r; exact .none
  | .num i, _, _, h1, r => by cases h1; obtain ⟨t, rfl⟩ := r; exact .int i t
  | .text x, _, _, h1, r => by cases h1; obtain ⟨t, rfl⟩ := r; exact .text x t
  | .tup ks, _, _, h1, r => by
    cases h1 with
    | tup e q =>
      cases r
      obtain ⟨u0, e1, e2⟩ := e
      obtain ⟨_, its, rv, o, ho, hc, n, hd⟩ := (show ObjOk P w H h _ (.tup _) from (tupOf_rd e1 e2).ok ok)
      exact .tup ho hc hd (by simpa using NKs.isAt ok ks _ _ q rv)
theorem NKs.isAt {P : Program} {w : World} {H : Hp} {h : Heap} (ok : HOk P w H h) : ∀ (ks : List NestedKey) (vs : List V) (us : List Value), NKs H ks vs → Vals vs us → NestedAll h ks us
  | [], _, _, h1, r => by cases h1; cases r; exact .nil
  | k :: ks, _, _, h1, r => by
    cases h1 with
    | cons a b =>
      cases r with
      | cons r1 r2 => exact .cons (NK.isAt ok k _ _ a r1) (NKs.isAt ok ks _ _ b r2)
end
def ndPhi (P : Program) (w : World) (a : Addr) (es : List (NestedKey × Addr × V)) : Heap → Prop := fun h =>
  es.length ≤ sizeLine ∧ (a == sysModules) = false ∧ ∃ xs : List (NestedKey × Addr × Value), Paired (fun p q => p.1 = q.1 ∧ p.2.1 = q.2.1 ∧ RelV p.2.2 q.2.2) es xs ∧
    ∃ o des ep, h.get? a = some o ∧ o.ExactDict ∧ o.data = .dict des ep ∧ des.toList = xs.map (entryOfKey (nestedKind P w)) ∧ (xs.map (·.1)).Nodup
def NdO (P : Program) (w : World) (a : Addr) (es : List (NestedKey × Addr × V)) : HO := .ext (ndPhi P w a es)
def ND (P : Program) (w : World) (H : Hp) (a : Addr) (kvs : List (NestedKey × V)) : Prop :=
  ∃ es : List (NestedKey × Addr × V), H a = some (NdO P w a es) ∧ (∀ e ∈ es, NK H e.1 (.ref e.2.1) ∧ e.1.depth ≤ 8) ∧ kvs = es.map fun e => (e.1, e.2.2)
theorem ndo_tup {P : Program} {w : World} {a : Addr} {es : List (NestedKey × Addr × V)} {xs : List V} : NdO P w a es ≠ .tup xs := fun z => by
  have z' : HO.ext _ = HO.tup xs := z
  cases z'
theorem ndo_lst {P : Program} {w : World} {a : Addr} {es : List (NestedKey × Addr × V)} {xs : List V} : NdO P w a es ≠ .lst xs := fun z => by
  have z' : HO.ext _ = HO.lst xs := z
  cases z'
theorem ndo_ins {P : Program} {w : World} {a : Addr} {es : List (NestedKey × Addr × V)} {C dx : Addr} {fs : List (Str × V)} : NdO P w a es ≠ .ins C dx fs := fun z => by
  have z' : HO.ext _ = HO.ins C dx fs := z
  cases z'
theorem ND.frame {P : Program} {w : World} {H H' : Hp} {a : Addr} {kvs : List (NestedKey × V)} (d : ND P w H a kvs) (ha : ∀ o, H a = some o → H' a = some o) (ht : Tps H H') : ND P w H' a kvs := by
  obtain ⟨es, h1, h2, h3⟩ := d
  exact ⟨es, ha _ h1, fun e he => ⟨NK.mono ht _ _ (h2 e he).1, (h2 e he).2⟩, h3⟩
theorem ND.at {P : Program} {w : World} {H : Hp} {h : Heap} {a : Addr} {kvs : List (NestedKey × V)} (ok : HOk P w H h) (d : ND P w H a kvs) :
    kvs.length ≤ sizeLine ∧ (a == sysModules) = false ∧ ∃ (es : List (NestedKey × Addr × V)) (xs : List (NestedKey × Addr × Value)), H a = some (NdO P w a es) ∧ (∀ e ∈ es, NK H e.1 (.ref e.2.1) ∧ e.1.depth ≤ 8) ∧ kvs = es.map (fun e => (e.1, e.2.2)) ∧
      Paired (fun p q => p.1 = q.1 ∧ p.2.1 = q.2.1 ∧ RelV p.2.2 q.2.2) es xs ∧ h.DictOfH (nestedKind P w) a xs := by
  obtain ⟨es, h1, h2, h3⟩ := d
  obtain ⟨⟨z, hd, xs, r, o, des, ep, q1, q2, q3, q4, q5⟩, _, _⟩ := (show ObjOk P w H h a (.ext (ndPhi P w a es)) from ok a _ h1)
  refine ⟨by rw [h3, List.length_map]; exact z, hd, es, xs, h1, h2, h3, r, o, des, ep, q1, q2, q3, q4, fun x hx => ?_, q5⟩
  have all : ∀ {l : List (NestedKey × Addr × V)} {m : List (NestedKey × Addr × Value)}, Paired (fun p q => p.1 = q.1 ∧ p.2.1 = q.2.1 ∧ RelV p.2.2 q.2.2) l m → (∀ e ∈ l, NK H e.1 (.ref e.2.1) ∧ e.1.depth ≤ 8) → ∀ x ∈ m, (nestedKind P w).is h x.1 x.2.1 := by
    intro l m q
    induction q with
    | nil => intro _ x hx; exact nomatch hx
    | @cons p q ps qs hq t ih =>
      intro hl x hx
      rcases List.mem_cons.mp hx with e | hx
      · subst e
        obtain ⟨a1, a2⟩ := hl p List.mem_cons_self
        rw [← hq.1, ← hq.2.1]
        exact ⟨NK.isAt ok _ _ _ a1 rfl, a2⟩
      · exact ih (fun e he => hl e (List.mem_cons_of_mem _ he)) x hx
  exact all r h2 x hx
theorem nd_val {es : List (NestedKey × Addr × V)} {xs : List (NestedKey × Addr × Value)} (r : Paired (fun p q => p.1 = q.1 ∧ p.2.1 = q.2.1 ∧ RelV p.2.2 q.2.2) es xs) (k : NestedKey) :
    RelO (valV (es.map fun e => (e.1, e.2.2)) k) ((atKey xs k).map (·.2)) := by
  induction r with
  | nil => exact True.intro
  | @cons p q ps qs h t ih =>
    obtain ⟨h1, _, h2⟩ := h
    rw [List.map_cons]
    by_cases e : p.1 = k
    · have e' : q.1 = k := h1.symm.trans e
      have b : atKey (q :: qs) k = some q.2 := by simp [atKey, List.find?_cons, e']
      rw [valV_pos e, b]; exact h2
    · have e' : ¬ q.1 = k := fun z => e (h1.trans z)
      have b : atKey (q :: qs) k = atKey qs k := by simp [atKey, List.find?_cons, e']
      rw [valV_neg e, b]; exact ih
def ndPut (es : List (NestedKey × Addr × V)) (k : NestedKey) (b : Addr) (y : V) : List (NestedKey × Addr × V) :=
  if (es.any fun e => decide (e.1 = k)) = true then es.map fun e => if e.1 = k then (e.1, e.2.1, y) else e else es ++ [(k, b, y)]
theorem ndPut_map (es : List (NestedKey × Addr × V)) (k : NestedKey) (b : Addr) (y : V) : (ndPut es k b y).map (fun e => (e.1, e.2.2)) = putK (es.map fun e => (e.1, e.2.2)) k y := by
  unfold ndPut putK
  have e : ((es.map fun e => (e.1, e.2.2)).any fun kv => decide (kv.1 = k)) = (es.any fun e => decide (e.1 = k)) := by
    rw [List.any_map]; rfl
  rw [e]
  by_cases q : (es.any fun e => decide (e.1 = k)) = true
  · rw [if_pos q, if_pos q, List.map_map, List.map_map]
    refine List.map_congr_left fun x _ => ?_
    by_cases h : x.1 = k <;> simp [h]
  · rw [if_neg q, if_neg q]; simp
theorem ndPut_pair {es : List (NestedKey × Addr × V)} {xs : List (NestedKey × Addr × Value)} (r : Paired (fun p q => p.1 = q.1 ∧ p.2.1 = q.2.1 ∧ RelV p.2.2 q.2.2) es xs) (k : NestedKey) (b : Addr) {y : V} {u : Value} (ry : RelV y u) :
    Paired (fun p q => p.1 = q.1 ∧ p.2.1 = q.2.1 ∧ RelV p.2.2 q.2.2) (ndPut es k b y) (storedH xs k b u) := by
  have e : (es.any fun kv => decide (kv.1 = k)) = (atKey xs k).isSome := by
    have q := (nd_val r k).isSome_eq
    rw [Option.isSome_map] at q
    rw [← q, ← valV_any, List.any_map]; rfl
  unfold ndPut storedH
  rw [e]
  by_cases q : (atKey xs k).isSome = true
  · rw [if_pos q, if_pos q]
    clear e q
    induction r with
    | nil => exact .nil
    | @cons p q ps qs h t ih =>
      rw [List.map_cons, List.map_cons]
      refine .cons ?_ ih
      obtain ⟨h1, h2, h3⟩ := h
      unfold putAt
      by_cases e : p.1 = k
      · rw [if_pos e, if_pos (h1.symm.trans e)]; exact ⟨h1, h2, ry⟩
      · rw [if_neg e, if_neg (fun z => e (h1.trans z))]; exact ⟨h1, h2, h3⟩
  · rw [if_neg q, if_neg q]; exact Paired.snoc r ⟨rfl, rfl, ry⟩
theorem ndPut_len (es : List (NestedKey × Addr × V)) (k : NestedKey) (b : Addr) (y : V) : (ndPut es k b y).length ≤ es.length + 1 := by
  unfold ndPut
  split <;> simp
theorem ndPut_keys {H : Hp} {es : List (NestedKey × Addr × V)} (h2 : ∀ e ∈ es, NK H e.1 (.ref e.2.1) ∧ e.1.depth ≤ 8) {k : NestedKey} {b : Addr} (y : V) (hk : NK H k (.ref b)) (hd : k.depth ≤ 8) :
    ∀ e ∈ ndPut es k b y, NK H e.1 (.ref e.2.1) ∧ e.1.depth ≤ 8 := by
  unfold ndPut
  split
  · intro e he
    obtain ⟨e0, h0, rfl⟩ := List.mem_map.mp he
    split
    · exact h2 e0 h0
    · exact h2 e0 h0
  · intro e he
    rcases List.mem_append.mp he with h | h
    · exact h2 e h
    · rw [List.mem_singleton] at h; subst h; exact ⟨hk, hd⟩
section
variable {X : Cx} {pins : List (Addr × Obj)} {σ : L2.St} {H : Hp} {s : Shared} {a b : Addr} {k : NestedKey} {kvs : List (NestedKey × V)} {y v : V} {u r : Value} {A : Around} {E : Value → Shared → Prop}
theorem nd_room (hu : A.units + 64 < cLine) : (nestedKind X.prog X.w).room A.in1 := by
  show A.units + 1 + 8 < cLine
  omega
theorem nd_getItem {Q : Value → Shared → Prop} (hu : A.units + 64 < cLine) (I : Inv X pins σ H s) (d : ND X.prog X.w H a kvs) (hk : NK H k (.ref b)) (hd : k.depth ≤ 8) (g : valV kvs k = some v) (h : ∀ w' s', Inv X pins σ H s' → RelV v w' → Q w' s') :
    wpAny (model X.prog X.w) A (getItem (.ref a) (.ref b)) Q E s := by
  obtain ⟨_, _, es, xs, _, _, rfl, rel, dd⟩ := d.at I.hok
  obtain ⟨w', hw, rw'⟩ := RelO.some_of (v := v) (o := (atKey xs k).map (·.2)) (by rw [← g]; exact nd_val rel k)
  obtain ⟨p, hp, hp2⟩ := Option.map_eq_some_iff.mp hw
  refine wpAny_getItem_heap (nd_room hu) ⟨NK.isAt I.hok _ _ _ hk rfl, hd⟩ dd hp ?_
  rw [hp2]
  exact h w' _ (I.tok _) rw'
theorem nd_notIn {Q : Value → Shared → Prop} (hu : A.units + 64 < cLine) (I : Inv X pins σ H s) (d : ND X.prog X.w H a kvs) (hk : NK H k (.ref b)) (hd : k.depth ≤ 8) (h : ∀ s', Inv X pins σ H s' → Q (.bool (!(valV kvs k).isSome)) s') :
    wpAny (model X.prog X.w) A (compareOp .NotIn (.ref b) (.ref a)) Q E s := by
  obtain ⟨_, hs, es, xs, _, _, rfl, rel, dd⟩ := d.at I.hok
  refine wpAny_notIn_heap (nd_room hu) ⟨NK.isAt I.hok _ _ _ hk rfl, hd⟩ hs dd ?_
  have q := (nd_val rel k).isSome_eq
  rw [Option.isSome_map] at q
  rw [← q]
  exact h _ (I.tok _)
theorem nd_ok {P : Program} {w : World} {H' : Hp} {h' : Heap} {es : List (NestedKey × Addr × V)} {xs : List (NestedKey × Addr × Value)} (z : es.length ≤ sizeLine) (hd : (a == sysModules) = false)
    (rel : Paired (fun p q => p.1 = q.1 ∧ p.2.1 = q.2.1 ∧ RelV p.2.2 q.2.2) es xs) (dd : ∃ o des ep, h'.get? a = some o ∧ o.ExactDict ∧ o.data = .dict des ep ∧ des.toList = xs.map (entryOfKey (nestedKind P w)) ∧ (xs.map (·.1)).Nodup) : ObjOk P w H' h' a (NdO P w a es) := by
  obtain ⟨o, des, ep, q1, q2, q3, q4, q5⟩ := dd
  refine ⟨⟨z, hd, xs, rel, o, des, ep, q1, q2, q3, q4, q5⟩, ⟨o, q1⟩, fun h1 h2 hp hk => ?_⟩
  obtain ⟨z', hd', xs', r', o', des', ep', p1, p2, p3, p4, p5⟩ := hp
  exact ⟨z', hd', xs', r', o', des', ep', hk _ p1, p2, p3, p4, p5⟩
theorem nd_setItem {Q : Unit → Shared → Prop} (hu : A.units + 64 < cLine) (I : Inv X pins σ H s) (d : ND X.prog X.w H a kvs) (hk : NK H k (.ref b)) (hd : k.depth ≤ 8) (hl : kvs.length < sizeLine) (rv : RelV v r)
    (h : ∀ H' s', ND X.prog X.w H' a (putK kvs k v) → (∀ c, c ≠ a → H' c = H c) → Inv X pins σ H' s' → Q () s') : wpAny (model X.prog X.w) A (setItem (.ref a) (.ref b) r) Q E s := by
  obtain ⟨z, hs, es, xs, he, h2, rfl, rel, dd⟩ := d.at I.hok
  rw [List.length_map] at hl z
  have hz : xs.length ≤ sizeLine := by rw [← Paired.length rel]; exact z
  have hl' : (ndPut es k b v).length ≤ sizeLine := by have := ndPut_len es k b v; omega
  refine wpAny_setItem_heap (hsz := hz) (nd_room hu) ⟨NK.isAt I.hok _ _ _ hk rfl, hd⟩ dd fun h' dd' sb => ?_
  obtain ⟨q, qes, ep, hq, p2, p3, p4, _, p5⟩ := dd'
  have ht : Tps H (upd H a (NdO X.prog X.w a (ndPut es k b v))) := fun c u ec hu => by
    rw [upd_ne (ne_of ec he fun z => by rw [z] at hu; cases hu)]
    exact ec
  refine h (upd H a (NdO X.prog X.w a (ndPut es k b v))) _ ⟨_, upd_same, fun e hm => ?_, (ndPut_map es k b v).symm⟩ (fun c hc => upd_ne hc) (d_write I (by rw [he]; exact True.intro) sb ⟨q, hq⟩ (nd_ok hl' hs (ndPut_pair rel k b rv) ⟨q, qes, ep, hq, p2, p3, p4, p5⟩))
  obtain ⟨a1, a2⟩ := ndPut_keys h2 v hk hd e hm
  exact ⟨NK.mono ht _ _ a1, a2⟩
theorem nd_empty {P : Program} {w : World} {H : Hp} (h : Heap) (hb : sysModules < h.objs.size) : ObjOk P w H (h.push { cls := .type "dict", data := .dict #[] }) h.objs.size (NdO P w h.objs.size []) :=
  nd_ok (Nat.zero_le _) (beq_eq_false_iff_ne.mpr (Ne.symm (Nat.ne_of_lt hb))) .nil ⟨_, #[], 0, Heap.get?_push_size _ rfl, ⟨rfl, rfl, rfl⟩, rfl, rfl, List.nodup_nil⟩
end
def tNGet (P : Program) (w : World) (td ty : TE) : TE := fun σ H Q => td σ H fun x H1 => ty σ H1 fun y H2 => ∃ a b kvs k v, x = .ref a ∧ y = .ref b ∧ ND P w H2 a kvs ∧ NK H2 k (.ref b) ∧ k.depth ≤ 8 ∧ valV kvs k = some v ∧ Q v H2
def tNIn (P : Program) (w : World) (neg : Bool) (ty td : TE) : TE := fun σ H Q => ty σ H fun y H1 => td σ H1 fun x H2 => ∃ a b kvs k, x = .ref a ∧ y = .ref b ∧ ND P w H2 a kvs ∧ NK H2 k (.ref b) ∧ k.depth ≤ 8 ∧ Q (.bl (if neg then !(valV kvs k).isSome else (valV kvs k).isSome)) H2
def sNPut (P : Program) (w : World) (td ty tv : TE) : TS := fun D σ H => tv σ H fun v H1 => td σ H1 fun x H2 => ty σ H2 fun y H3 => ∃ a b kvs k, x = .ref a ∧ y = .ref b ∧ ND P w H3 a kvs ∧ NK H3 k (.ref b) ∧ k.depth ≤ 8 ∧ kvs.length < sizeLine ∧
  ∀ H4, ND P w H4 a (putK kvs k v) → (∀ c, c ≠ a → H4 c = H3 c) → D.nx σ H4
def tNNew (P : Program) (w : World) : TE := fun _ H Q => ∀ p, H p = none → ND P w (upd H p (NdO P w p [])) p [] → Q (.ref p) (upd H p (NdO P w p []))
section
variable {X : Cx} {o i e value : Expr} {pos pos' tpos : Pos} {td ty tv : TE}
theorem pe_nget (hu : X.A.units + 64 < cLine) (ho : PE X o td) (hi : PE X i ty) (hs : NoSl i) : PE X (.Subscript o i pos) (tNGet X.prog X.w td ty) := by
  refine ⟨fun pins s σ H Q I h => ?_⟩
  refine subD_of PySem.F.slot_dict_getitem.lookup hs (thn (ho.run pins s σ H _ I h) fun u s1 ⟨x, H1, I1, rx, q1⟩ => thn (hi.run pins s1 σ H1 _ I1 q1) fun iv s2 ⟨y, H2, I2, ry, a, b, kvs, k, v, ex, ey, d, hk, hd, hv, q2⟩ => ?_)
  subst ex ey
  obtain rfl : u = Value.ref a := rx
  obtain rfl : iv = Value.ref b := ry
  have ht : s2.TypeIs (.ref a) "dict" := by
    obtain ⟨_, _, _, _, _, _, _, _, dd⟩ := d.at I2.hok
    exact dd.typeIs
  exact ⟨ht, nd_getItem hu I2 d hk hd hv fun w' s3 I3 rw' => ⟨v, H2, I3, rw', q2⟩⟩
theorem pc_nnotin (hu : X.A.units + 64 < cLine) (hi : PE X i ty) (ho : PE X o td) : PC X .NotIn i o (tNIn X.prog X.w true ty td) := by
  refine ⟨fun pins s σ H Q I h => ?_⟩
  refine thn (hi.run pins s σ H _ I h) fun iv s1 ⟨y, H1, I1, ry, q1⟩ => thn (ho.run pins s1 σ H1 _ I1 q1) fun u s2 ⟨x, H2, I2, rx, a, b, kvs, k, ex, ey, d, hk, hd, q2⟩ => ?_
  subst ex ey
  obtain rfl : u = Value.ref a := rx
  obtain rfl : iv = Value.ref b := ry
  exact nd_notIn hu I2 d hk hd fun s3 I3 => ⟨.bl (!(valV kvs k).isSome), H2, I3, rfl, q2⟩
theorem ps_nput (hu : X.A.units + 64 < cLine) (ho : PE X o td) (hi : PE X i ty) (hv : PE X value tv) (hs : swapsWith value (some (.Subscript o i pos')) pos.line X.env = pure false) :
    PS X (.Assign [.Subscript o i pos'] value pos) (sNPut X.prog X.w td ty tv) := by
  refine ⟨fun pins s σ H D I h => ?_⟩
  refine wpAny_Assign_Subscript (thn (hv.run pins s σ H _ I h) fun r s1 ⟨v, H1, I1, rv, q1⟩ => thn (ho.run pins s1 σ H1 _ I1 q1) fun u s2 ⟨x, H2, I2, rx, q2⟩ => thn (hi.run pins s2 σ H2 _ I2 q2) fun iv s3 ⟨y, H3, I3, ry, a, b, kvs, k, ex, ey, d, hk, hd, hl, q3⟩ => ?_) hs
  subst ex ey
  obtain rfl : u = Value.ref a := rx
  obtain rfl : iv = Value.ref b := ry
  exact nd_setItem hu I3 d hk hd hl rv fun H4 s4 d4 e4 I4 => ⟨σ, H4, I4, q3 H4 d4 e4⟩
theorem pe_nnew : PE X (.Dict [] [] pos) (tNNew X.prog X.w) := ⟨fun pins s σ H Q I h => by
  have hf : H s.heap.objs.size = none := I.hok.fresh (Nat.le_refl _)
  refine wpAny_Dict_empty ⟨.ref s.heap.objs.size, _, I.laid (a := s.heap.objs.size) (o := NdO X.prog X.w s.heap.objs.size []) (t' := s.toks) (fun _ _ q => Heap.get?_push_of_some _ q) (Nat.le_refl _) (nd_empty s.heap I.big), rfl, h _ hf ?_⟩
  exact ⟨[], upd_same, fun e he => (nomatch he), rfl⟩⟩
end
end Rs
set_option maxHeartbeats 2000000
namespace Rs
open PySem L2 PySem.Spec PyProof.Rows
def lV : Leaf → V
  | .none => .non
  | .num i => .int i
  | .text x => .str x
def noB : Value → Bool
  | .bool _ => false
  | _ => true
def lfKind (prog : Program) (w : World) : KeyKind prog w Leaf where
  is := fun k v => Leaf.isOf k v && noB v
  hash := fun k => k.key.hash w
  inj := fun v a b ha hb => by
    rw [Bool.and_eq_true] at ha hb
    exact (leafKind prog w).inj v a b ha.1 hb.1
  byValue := fun k v h => by
    rw [Bool.and_eq_true] at h
    exact (leafKind prog w).byValue k v h.1
  pyHash := fun hv h => by
    rw [Bool.and_eq_true] at hv
    exact (leafKind prog w).pyHash hv.1 h
  eqBool := fun hu hv h => by
    rw [Bool.and_eq_true] at hu hv
    exact (leafKind prog w).eqBool hu.1 hv.1 h
  «strs» := fun k x t v h => by
    rw [Bool.and_eq_true] at h
    have e := (leafKind prog w).strs k x t v h.1
    have e : Leaf.isOf k v = v.isStr x := e
    rw [e]
    cases v <;> first | rfl | (cases hq : Value.isStr x _ <;> rfl) | exact Bool.and_true _
theorem lV_is {P : Program} {w : World} {k : Leaf} {u : Value} (r : RelV (lV k) u) : (lfKind P w).is k u = true := by
  cases k with
  | none => cases r; rfl
  | num i =>
    obtain ⟨t, rfl⟩ := r
    show (decide (i = i) && true) = true
    rw [decide_eq_true rfl]
    rfl
  | text x =>
    obtain ⟨t, rfl⟩ := r
    show (Value.isStrOf x (.str x t) && true) = true
    rw [Bool.and_true]
    exact decide_eq_true rfl
theorem lV_of {P : Program} {w : World} {k : Leaf} {u : Value} (h : (lfKind P w).is k u = true) : RelV (lV k) u := by
  have h : (Leaf.isOf k u && noB u) = true := h
  rw [Bool.and_eq_true] at h
  obtain ⟨h1, h2⟩ := h
  cases k with
  | none => cases u <;> first | rfl | cases h1
  | num i =>
    cases u with
    | int j t => have e : j = i := of_decide_eq_true h1; subst e; exact ⟨t, rfl⟩
    | bool b => cases h2
    | _ => cases h1
  | text x =>
    obtain ⟨t, rfl⟩ := Value.isStrOf_shape (show Value.isStrOf x u = true from h1)
    exact ⟨t, rfl⟩
def ldPhi (P : Program) (w : World) (a : Addr) (kvs : List (Leaf × V)) : Heap → Prop := fun h => kvs.length ≤ sizeLine ∧ (a == sysModules) = false ∧ ∃ vs, KV kvs vs ∧ h.DictOf (lfKind P w) a vs
def LdO (P : Program) (w : World) (a : Addr) (kvs : List (Leaf × V)) : HO := .ext (ldPhi P w a kvs)
def LD (P : Program) (w : World) (H : Hp) (a : Addr) (kvs : List (Leaf × V)) : Prop := Rd H a (LdO P w a kvs)
theorem ld_ok {P : Program} {w : World} {H' : Hp} {h' : Heap} {a : Addr} {kvs : List (Leaf × V)} {vs : List (Leaf × Value)} (z : kvs.length ≤ sizeLine) (hd : (a == sysModules) = false) (rel : KV kvs vs) (dd : h'.DictOf (lfKind P w) a vs) :
    ObjOk P w H' h' a (LdO P w a kvs) := by
  obtain ⟨o, es, ep, q1, q2, q3, q4, q5, q6⟩ := dd
  refine ⟨⟨z, hd, vs, rel, o, es, ep, q1, q2, q3, q4, q5, q6⟩, ⟨o, q1⟩, fun h1 h2 hp hk => ?_⟩
  obtain ⟨z', hd', vs', r', o', es', ep', p1, p⟩ := hp
  exact ⟨z', hd', vs', r', o', es', ep', hk _ p1, p⟩
theorem LD.at {P : Program} {w : World} {H : Hp} {h : Heap} {a : Addr} {kvs : List (Leaf × V)} (ok : HOk P w H h) (d : LD P w H a kvs) : kvs.length ≤ sizeLine ∧ (a == sysModules) = false ∧ ∃ vs, KV kvs vs ∧ h.DictOf (lfKind P w) a vs :=
  (show ObjOk P w H h a (.ext (ldPhi P w a kvs)) from Rd.ok d ok).1
section
variable {X : Cx} {pins : List (Addr × Obj)} {σ : L2.St} {H : Hp} {s : Shared} {a : Addr} {kvs : List (Leaf × V)} {k : Leaf} {v : V} {u r : Value} {A : Around} {E : Value → Shared → Prop}
theorem ld_getItem {Q : Value → Shared → Prop} (I : Inv X pins σ H s) (d : LD X.prog X.w H a kvs) (l : valV kvs k = some v) (ry : RelV (lV k) u) (h : ∀ w' s', Inv X pins σ H s' → RelV v w' → Q w' s') :
    wpAny (model X.prog X.w) A (getItem (.ref a) u) Q E s := by
  obtain ⟨z, hd, vs, rel, dd⟩ := d.at I.hok
  obtain ⟨w', hw, rw'⟩ := RelO.some_of (v := v) (o := valueAt vs k) (by rw [← l]; exact rel.val k)
  exact wpAny_getItem_of (lV_is ry) dd.mapOf hw (h w' _ (I.tok _) rw')
theorem ld_notIn {Q : Value → Shared → Prop} (I : Inv X pins σ H s) (d : LD X.prog X.w H a kvs) (ry : RelV (lV k) u) (h : ∀ s', Inv X pins σ H s' → Q (.bool (!(valV kvs k).isSome)) s') :
    wpAny (model X.prog X.w) A (compareOp .NotIn u (.ref a)) Q E s := by
  obtain ⟨z, hd, vs, rel, dd⟩ := d.at I.hok
  refine wpAny_notIn_of (lV_is ry) hd dd.mapOf ?_
  rw [← (rel.val k).isSome_eq]
  exact h _ (I.tok _)
theorem ld_setItem {Q : Unit → Shared → Prop} (I : Inv X pins σ H s) (e : H a = some (LdO X.prog X.w a kvs)) (l : kvs.length < sizeLine) (ry : RelV (lV k) u) (rv : RelV v r)
    (h : ∀ s', Inv X pins σ (upd H a (LdO X.prog X.w a (putK kvs k v))) s' → Q () s') : wpAny (model X.prog X.w) A (setItem (.ref a) u r) Q E s := by
  obtain ⟨z, hd, vs, rel, dd⟩ := LD.at I.hok (.inl e)
  have hz : vs.length ≤ sizeLine := by rw [← rel.length]; exact z
  have hl : (putK kvs k v).length ≤ sizeLine := by have := length_putK kvs k v; omega
  refine wpAny_setItem_pairs (hsz := hz) (lV_is ry) dd fun h' dd' hs => h _ ?_
  have he : ∃ q, h'.get? a = some q := let ⟨q, _, _, hq, _⟩ := dd'; ⟨q, hq⟩
  exact d_write I (by rw [e]; exact True.intro) hs he (ld_ok hl hd (rel.put k rv) dd')
theorem ld_len {Q : Value → Shared → Prop} (I : Inv X pins σ H s) (d : LD X.prog X.w H a kvs) (h : ∀ t s', Inv X pins σ H s' → Q (.int kvs.length t) s') : wpAny (model X.prog X.w) A (call (.builtin "len") [.ref a]) Q E s := by
  obtain ⟨z, hd, vs, rel, dd⟩ := d.at I.hok
  refine call_len_dict hd dd (by rw [← rel.length]; rw [sizeLine_eq] at z; omega) ?_
  rw [← rel.length]
  exact h _ _ (I.tok _)
theorem ld_empty {P : Program} {w : World} {H : Hp} (h : Heap) (hb : sysModules < h.objs.size) : ObjOk P w H (h.push { cls := .type "dict", data := .dict #[] }) h.objs.size (LdO P w h.objs.size []) :=
  ld_ok (Nat.zero_le _) (beq_eq_false_iff_ne.mpr (Ne.symm (Nat.ne_of_lt hb))) .nil (Heap.DictOf.new h)
theorem ld_typeIs (I : Inv X pins σ H s) (d : LD X.prog X.w H a kvs) : s.TypeIs (.ref a) "dict" := let ⟨_, _, _, _, dd⟩ := d.at I.hok; dd.typeIs
end
def tLGet (P : Program) (w : World) (td ty : TE) : TE := fun σ H Q => td σ H fun x H1 => ty σ H1 fun y H2 => ∃ a kvs k v, x = .ref a ∧ y = lV k ∧ LD P w H2 a kvs ∧ valV kvs k = some v ∧ Q v H2
def tLIn (P : Program) (w : World) (neg : Bool) (ty td : TE) : TE := fun σ H Q => ty σ H fun y H1 => td σ H1 fun x H2 => ∃ a kvs k, x = .ref a ∧ y = lV k ∧ LD P w H2 a kvs ∧ Q (.bl (if neg then !(valV kvs k).isSome else (valV kvs k).isSome)) H2
def sLPut (P : Program) (w : World) (td ty tv : TE) : TS := fun D σ H => tv σ H fun v H1 => td σ H1 fun x H2 => ty σ H2 fun y H3 => ∃ a kvs k, x = .ref a ∧ y = lV k ∧ H3 a = some (LdO P w a kvs) ∧ kvs.length < sizeLine ∧ D.nx σ (upd H3 a (LdO P w a (putK kvs k v)))
def tLNew (P : Program) (w : World) : TE := fun _ H Q => ∀ p, H p = none → Q (.ref p) (upd H p (LdO P w p []))
section
variable {X : Cx} {o i e value : Expr} {pos pos' tpos : Pos} {td ty tv : TE} {P : Program} {w : World}
theorem pe_lget (hP : X.prog = P) (hw : X.w = w) (ho : PE X o td) (hi : PE X i ty) (hs : NoSl i) : PE X (.Subscript o i pos) (tLGet P w td ty) := by
  subst hP
  subst hw
  refine ⟨fun pins s σ H Q I h => ?_⟩
  refine subD_of PySem.F.slot_dict_getitem.lookup hs (thn (ho.run pins s σ H _ I h) fun u s1 ⟨x, H1, I1, rx, q1⟩ => thn (hi.run pins s1 σ H1 _ I1 q1) fun iv s2 ⟨y, H2, I2, ry, a, kvs, k, v, ex, ey, d, l, q2⟩ => ?_)
  subst ex
  subst ey
  obtain rfl : u = Value.ref a := rx
  exact ⟨ld_typeIs I2 d, ld_getItem I2 d l ry fun w' s3 I3 rw' => ⟨v, H2, I3, rw', q2⟩⟩
theorem pc_lnotin (hP : X.prog = P) (hw : X.w = w) (hi : PE X i ty) (ho : PE X o td) : PC X .NotIn i o (tLIn P w true ty td) := by
  subst hP
  subst hw
  refine ⟨fun pins s σ H Q I h => ?_⟩
  refine thn (hi.run pins s σ H _ I h) fun iv s1 ⟨y, H1, I1, ry, q1⟩ => thn (ho.run pins s1 σ H1 _ I1 q1) fun u s2 ⟨x, H2, I2, rx, a, kvs, k, ex, ey, d, q2⟩ => ?_
  subst ex
  subst ey
  obtain rfl : u = Value.ref a := rx
  exact ld_notIn I2 d ry fun s3 I3 => ⟨.bl (!(valV kvs k).isSome), H2, I3, rfl, q2⟩
theorem ps_lput (hP : X.prog = P) (hw : X.w = w) (ho : PE X o td) (hi : PE X i ty) (hv : PE X value tv) (hs : swapsWith value (some (.Subscript o i pos')) pos.line X.env = pure false) :
    PS X (.Assign [.Subscript o i pos'] value pos) (sLPut P w td ty tv) := by
  subst hP
  subst hw
  refine ⟨fun pins s σ H D I h => ?_⟩
  refine wpAny_Assign_Subscript (thn (hv.run pins s σ H _ I h) fun r s1 ⟨v, H1, I1, rv, q1⟩ => thn (ho.run pins s1 σ H1 _ I1 q1) fun u s2 ⟨x, H2, I2, rx, q2⟩ => thn (hi.run pins s2 σ H2 _ I2 q2) fun iv s3 ⟨y, H3, I3, ry, a, kvs, k, ex, ey, e, l, q3⟩ => ?_) hs
  subst ex
  subst ey
  obtain rfl : u = Value.ref a := rx
  exact ld_setItem I3 e l ry rv fun s4 I4 => ⟨σ, _, I4, q3⟩
theorem pe_lnew (hP : X.prog = P) (hw : X.w = w) : PE X (.Dict [] [] pos) (tLNew P w) := by
  subst hP
  subst hw
  exact ⟨fun pins s σ H Q I h =>
    wpAny_Dict_empty ⟨.ref s.heap.objs.size, _, I.laid (a := s.heap.objs.size) (o := LdO X.prog X.w s.heap.objs.size []) (t' := s.toks) (fun _ _ q => Heap.get?_push_of_some _ q) (Nat.le_refl _) (ld_empty s.heap I.big), rfl, h _ (I.hok.fresh (Nat.le_refl _))⟩⟩
end
def Itlf (P : Program) (w : World) (d : Addr) (o : Obj) (kvs : List (Leaf × V)) : It :=
  ⟨fun i H => H d = some (.frz o (LdO P w d kvs)) ∧ i < kvs.length, fun i H x H' => H' = H ∧ ∃ k v, kvs[i]? = some (k, v) ∧ x = lV k, fun i H => H d = some (.frz o (LdO P w d kvs)) ∧ kvs.length ≤ i⟩
section
variable {X : Cx} {pins : List (Addr × Obj)} {σ : L2.St} {H : Hp} {s : Shared} {d : Addr} {o : Obj}
theorem frzL {kvs : List (Leaf × V)} (I : Inv X pins σ H s) (h : H d = some (.frz o (LdO X.prog X.w d kvs))) :
    (d == sysModules) = false ∧ s.heap.get? d = some o ∧ o.ExactDict ∧ ∃ (es : Array DictEntry) (ep : Nat) (vs : List (Leaf × Value)), o.data = .dict es ep ∧ es.size = kvs.length ∧ KV kvs vs ∧ s.heap.DictAt (lfKind X.prog X.w) d vs ep := by
  obtain ⟨hd, ⟨z, hs, vs, kv, o', es, ep, ho, hx, hdt, r⟩, _⟩ := (show ObjOk X.prog X.w H s.heap d (.frz o (.ext (ldPhi X.prog X.w d kvs))) from I.hok d _ h)
  rw [hd] at ho
  cases ho
  refine ⟨hs, hd, hx, es, ep, vs, hdt, ?_, kv, o, es, hd, hx, hdt, r⟩
  have l1 := r.2.1.length
  have l2 : kvs.length = vs.length := Paired.length kv
  rw [Array.length_toList] at l1
  omega
end
section
variable {P : Program} {w : World} {K : PySem.W.Frag} {tg : Expr} {d : Addr} {o : Obj} {es : Array DictEntry} {ep : Nat}
theorem turn_lf {kvs : List (Leaf × V)} (it : Addr) (hod : o.data = .dict es ep) : Turn P w K tg (Itlf P w d o kvs) [it] it (fun i h => h.IsKeyIter it d i kvs.length ep) where
  mem := by simp
  obj := fun i h st b hb => by
    have e : b = it := by simpa using hb
    subst e
    obtain ⟨oi, e, c, dd⟩ := st
    exact ⟨oi, e, fun v z => by rw [dd] at z; cases z⟩
  keep := fun i h h' st k => st.at fun oi e => k it (by simp) oi e
  item := by
    intro X hP hw hK hc i pins s σ H E I hf st hg
    subst hP hw hK
    obtain ⟨hd, hi⟩ := hg
    obtain ⟨f0, f1, f2, f3, f4, f5⟩ := hf it (by simp)
    obtain ⟨hs, hgd, hx, es', ep', vs, hdt, hsz, kv, hm⟩ := frzL I hd
    obtain ⟨rfl, rfl⟩ := dict_ep hod hdt
    obtain ⟨⟨k, v⟩, hkv⟩ : ∃ p, kvs[i]? = some p := ⟨kvs[i], List.getElem?_eq_getElem hi⟩
    obtain ⟨u, hu, ru⟩ := kv_get kv hkv
    have hl : kvs.length = vs.length := Paired.length kv
    rw [hl] at st
    refine wpAny_pyNext_dict_item st hm hu fun key h' hkey st' sb => ?_
    have I1 : Inv X pins σ H { s with heap := h' } := I.turned (t' := s.toks) (fun b ob hb e => (sb.2 b hb).trans e) f0 f1 f3 f4 f5
    obtain ⟨oi, e, c, dd⟩ := id st'
    refine ⟨key, rfl, go_of (s := { s with heap := h' }) e c dd (by decide) ⟨lV k, H, I1, lV_of hkey, ⟨rfl, k, v, hkv, rfl⟩, ?_, fun b hb => (hf b hb).1⟩⟩
    show h'.IsKeyIter it d (i + 1) kvs.length _
    rw [hl]
    exact st'
  done := by
    intro X hP hw hK hc i pins s σ H E I hf st hg
    subst hP hw hK
    obtain ⟨hd, hi⟩ := hg
    obtain ⟨f0, f1, f2, f3, f4, f5⟩ := hf it (by simp)
    obtain ⟨hs, hgd, hx, es', ep', vs, hdt, hsz, kv, hm⟩ := frzL I hd
    obtain ⟨rfl, rfl⟩ := dict_ep hod hdt
    exact next_key_end (I.ok.hd hc) st hgd hdt hsz hi fun h' eb => ⟨rfl, I.turned (t' := s.toks) (fun b ob hb e => eb b ob hb e) f0 f1 f3 f4 f5⟩
  self := fun A i s Q E st h => wpAny_pyIter_keyiter st h
def iLf (P : Program) (w : World) (td : TE) : TI := fun σ H R => td σ H fun x H1 => ∃ d o kvs, x = .ref d ∧ H1 d = some (.frz o (LdO P w d kvs)) ∧ R (Itlf P w d o kvs) H1
theorem pi_lf {X : Cx} {e : Expr} {td : TE} (hP : X.prog = P) (hw : X.w = w) (he : PE X e td) : PI X tg e (iLf P w td) := by
  subst hP
  subst hw
  refine ⟨fun pins s σ H R I h => ?_⟩
  refine thn (he.run pins s σ H _ I h) fun u s1 ⟨x, H1, I1, rx, d, o, kvs, ex, hd, q⟩ => ?_
  subst ex
  obtain rfl : u = Value.ref d := rx
  obtain ⟨hs, hgd, hx, es, ep, vs, hdt, hsz, kv, hm⟩ := frzL I1 hd
  refine iter_keys hs hgd hx hdt (pi_one (tk := s1.toks) I1 _ (turn_lf _ hdt) ⟨_, Heap.get?_push_size _ rfl, rfl, ?_⟩ q)
  rw [hsz] <;> rfl
end
end Rs
set_option maxHeartbeats 2000000
namespace Rs
open PySem L2 PySem.Spec PyProof.Rows
section
variable {X : Cx} {pins : List (Addr × Obj)} {σ : L2.St} {H : Hp} {s : Shared} {a : Addr} {kvs : List (Leaf × V)} {k : Leaf} {d : V} {u r : Value} {A : Around} {E : Value → Shared → Prop}
theorem ld_noDict (I : Inv X pins σ H s) (g : LD X.prog X.w H a kvs) : ∀ b, Value.ref a = .ref b → ∃ ob, s.heap.get? b = some ob ∧ ob.dict = none := fun b q => by
  cases q
  obtain ⟨_, _, vs, _, ob, _, _, h1, h2, _⟩ := g.at I.hok
  exact ⟨ob, h1, h2.2.1⟩
theorem ld_get2 {Q : Value → Shared → Prop} (I : Inv X pins σ H s) (g : LD X.prog X.w H a kvs) (ry : RelV (lV k) u) (rd : RelV d r) (h : ∀ w' s', Inv X pins σ H s' → RelV ((valV kvs k).getD d) w' → Q w' s') :
    wpAny (model X.prog X.w) A (call (.builtin "dict.get") [.ref a, u, r]) Q E s := by
  obtain ⟨z, hd, vs, rel, dd⟩ := g.at I.hok
  refine call_meetsIn PySem.F.slot_dict_get dd.typeIs PySem.F.entry_dict_get (PySem.F.args_dict_get_3 _ _ _) (meets_dict_get_default (lfKind X.prog X.w) a (lV_is ry) hd r) ⟨_, dd.mapOf, h _ _ (I.tok _) ?_⟩
  exact (rel.val k).getD rd
end
def tLGet2 (P : Program) (w : World) (td ty tx : TE) : TE := fun σ H Q => td σ H fun x H1 => ∃ a kvs0, x = .ref a ∧ LD P w H1 a kvs0 ∧ ty σ H1 fun y H2 => tx σ H2 fun z H3 => ∃ kvs k, y = lV k ∧ LD P w H3 a kvs ∧ Q ((valV kvs k).getD z) H3
section
variable {X : Cx} {o e f : Expr} {apos cpos : Pos} {td ty tx : TE} {P : Program} {w : World}
theorem pe_lget2 (hP : X.prog = P) (hw : X.w = w) (ho : PE X o td) (he : PE X e ty) (hf : PE X f tx) (m : M2 X o "get" apos e f cpos) : PE X (.Call (.Attribute o "get" apos) [e, f] [] cpos) (tLGet2 P w td ty tx) := by
  subst hP
  subst hw
  refine ⟨fun pins s σ H Q I h => ?_⟩
  refine wpAny_Call_method m.base m.few m.line PySem.F.plainAttrs_dict PySem.F.slot_dict_get PySem.F.type_dict_get (thn (ho.run pins s σ H _ I h) fun u s1 ⟨x, H1, I1, rx, a, kvs0, ex, d, q1⟩ => ?_)
  subst ex
  obtain rfl : u = Value.ref a := rx
  refine ⟨ld_typeIs I1 d, ld_noDict I1 d, ?_⟩
  rw [m.trees]
  refine Calls.callWith_builtin rfl (Calls.evalArgs_plain (Calls.spliced_cons (thn (he.run pins s1 σ H1 _ I1 q1) fun iv s2 ⟨y, H2, I2, ry, q2⟩ =>
    Calls.spliced_cons (thn (hf.run pins s2 σ H2 _ I2 q2) fun fv s3 ⟨z, H3, I3, rz, kvs, k, ey, g, q3⟩ => Calls.spliced_nil ?_))))
  subst ey
  exact ld_get2 I3 g ry rz fun w' s4 I4 rw' => ⟨_, H3, I4, rw', q3⟩
theorem c_lenLf (hP : X.prog = P) (hw : X.w = w) : CallR X (.builtin "len") (fun xs H Q => ∃ a kvs, xs = [.ref a] ∧ LD P w H a kvs ∧ Q (.int (kvs.length : Int)) H) := by
  subst hP
  subst hw
  intro pins s σ H xs us Q I r h
  obtain ⟨a, kvs, rfl, d, q⟩ := h
  rw [Vals.ref1 r]
  exact ld_len I d fun t s' I' => ⟨.int _, H, I', ⟨t, rfl⟩, q⟩
theorem c_dictLf (hP : X.prog = P) (hw : X.w = w) : CallR X (.type "dict") (fun xs H Q => ∃ (a : Addr) (kvs : List (Leaf × V)), xs = [.ref a] ∧ LD P w H a kvs ∧ ∀ p, H p = none → Q (.ref p) (upd H p (LdO P w p kvs))) := by
  subst hP
  subst hw
  intro pins s σ H xs us Q I r q
  obtain ⟨a, kvs, ex, hd, q⟩ := q
  subst ex
  obtain ⟨u, eu, rx⟩ := vals1 r
  subst eu
  cases rx
  obtain ⟨z, lo, vs, rel, dd⟩ := hd.at I.hok
  refine kt_call_dict lo dd (by rw [← rel.length]; exact z) fun h' d' hs => ?_
  have hm : (s.heap.objs.size == sysModules) = false := beq_eq_false_iff_ne.mpr (Nat.ne_of_gt I.big)
  exact ⟨.ref s.heap.objs.size, upd H s.heap.objs.size (LdO X.prog X.w s.heap.objs.size kvs), I.laid (t' := s.toks) (fun b u e => (hs.2 b (Nat.ne_of_lt (Heap.lt_size e))).trans (Heap.get?_push_of_some _ e)) (Nat.le_refl _)
    (ld_ok z hm rel d'), rfl, q _ (I.hok.fresh (Nat.le_refl _))⟩
theorem keys_lf : ∀ {vs : List (Leaf × Value)} {us : List Value}, us.length = vs.length → (∀ (j : Nat) (u : Value), us[j]? = some u → ∃ q, vs[j]? = some q ∧ (lfKind P w).is q.1 u = true) → Vals (vs.map fun p => lV p.1) us
  | [], [], _, _ => .nil
  | [], _ :: _, h, _ => nomatch h
  | _ :: _, [], h, _ => nomatch h
  | p :: r, u :: us, h, hk => by
    obtain ⟨q, e, hq⟩ := hk 0 u rfl
    cases e
    exact .cons (lV_of hq) (keys_lf (Nat.succ.inj h) fun j x e => hk (j + 1) x e)
theorem c_listLf (hP : X.prog = P) (hw : X.w = w) (hcalm : X.calm = true := by rfl) : CallR X (.type "list") (fun xs H Q => ∃ (a : Addr) (kvs : List (Leaf × V)), xs = [.ref a] ∧ LD P w H a kvs ∧ ∀ p, H p = none → Q (.ref p) (upd H p (.lst (kvs.map fun kv => lV kv.1)))) := by
  subst hP
  subst hw
  intro pins s σ H xs us Q I r q
  obtain ⟨a, kvs, ex, hd, q⟩ := q
  subst ex
  obtain ⟨u, eu, rx⟩ := vals1 r
  subst eu
  cases rx
  obtain ⟨z, lo, vs, rel, dd⟩ := hd.at I.hok
  obtain ⟨ep, hat⟩ := dd.dictAt
  have ek : (kvs.map fun kv => lV kv.1) = vs.map fun p => lV p.1 := by
    have e := congrArg (List.map lV) rel.keys
    rw [List.map_map, List.map_map] at e
    exact e
  refine PySem.W.kdl_call (PySem.W.kdl_dict (knd := lfKind X.prog X.w) (kvs := vs) (ep := ep) lo) (I.ok.hd hcalm) hat (by rw [← rel.length]; exact z) fun h' tk acc c' hk hD hacc => ?_
  have hv : Vals (vs.map fun p => lV p.1) acc.toList := keys_lf (P := X.prog) (w := X.w) (by rw [Array.length_toList]; exact hacc.1) fun j v e => by
    obtain ⟨k, x, e1, e2⟩ := hacc.2 j v (by rw [← Array.getElem?_toList]; exact e)
    exact ⟨(k, x), e1, e2⟩
  refine ⟨.ref s.heap.objs.size, upd H s.heap.objs.size (.lst (kvs.map fun kv => lV kv.1)), I.laid (t' := tk) hk (Nat.le_refl _)
    (show ObjOk X.prog X.w _ _ _ (.lst (kvs.map fun kv => lV kv.1)) from ⟨by rw [List.length_map]; exact z, acc.toList, c', by rw [ek]; exact hv, by rw [Array.toArray_toList]; exact hD⟩), rfl, q _ (I.hok.fresh (Nat.le_refl _))⟩
end
end Rs
set_option maxHeartbeats 2000000
namespace Rs
open PySem L2 PySem.Spec PyProof.Rows
theorem refs_lf : ∀ {ps : List Addr} {its : List Value}, Vals (ps.map V.ref) its → its = ps.map Value.ref
  | [], _, h => by cases h; rfl
  | p :: r, _, h => by
    rw [List.map_cons] at h
    cases h with
    | cons a b => cases a; rw [refs_lf b]; rfl
section
variable {X : Cx} {pins : List (Addr × Obj)} {σ : L2.St} {H : Hp} {s : Shared}
theorem pairsLf (I : Inv X pins σ H s) : ∀ {ps : List Addr} {kvs : List (Leaf × V)}, Paired (fun p e => SqT X.K H p [lV e.1, e.2]) ps kvs → ∃ (prs : List (Value × Value)) (vs : List (Leaf × Value)), prs.length = ps.length ∧ vs.length = prs.length ∧ KV kvs vs ∧
    (∀ (j : Nat) (q : Value × Value), prs[j]? = some q → ∃ p, ps[j]? = some p ∧ PairAt s.heap p q.1 q.2) ∧ ∀ (j : Nat) (q : Value × Value), prs[j]? = some q → ∃ k, vs[j]? = some (k, q.2) ∧ (lfKind X.prog X.w).is k q.1 = true
  | _, _, .nil => ⟨[], [], rfl, rfl, .nil, fun j q h => by simp at h, fun j q h => by simp at h⟩
  | p :: ps, e :: kvs, .cons h t => by
    obtain ⟨prs, vs, l1, l2, kv, hp, hk⟩ := pairsLf I t
    obtain ⟨its, rv, ht, _⟩ := I.tuple h
    cases rv with
    | cons ru rv2 =>
      cases rv2 with
      | cons ry rv3 =>
        cases rv3
        rename_i a b
        refine ⟨(a, b) :: prs, (e.1, b) :: vs, by rw [List.length_cons, List.length_cons, l1], by rw [List.length_cons, List.length_cons, l2], .cons ⟨rfl, ry⟩ kv, fun j q eq => ?_, fun j q eq => ?_⟩
        · cases j with
          | zero =>
            cases Option.some.inj eq
            exact ⟨p, rfl, .inl ht⟩
          | succ j => exact hp j q eq
        · cases j with
          | zero =>
            cases Option.some.inj eq
            exact ⟨e.1, rfl, lV_is ru⟩
          | succ j => exact hk j q eq
end
section
variable {X : Cx} {P : Program} {w : World}
theorem c_dictPLf {K : PySem.W.Frag} (hP : X.prog = P) (hw : X.w = w) (hK : X.K = K) (hcalm : X.calm = true := by rfl) : CallR X (.type "dict") (fun xs H Q => ∃ (a : Addr) (ps : List Addr) (kvs : List (Leaf × V)), xs = [.ref a] ∧ SqL K H a (ps.map V.ref) ∧ Paired (fun p e => SqT K H p [lV e.1, e.2]) ps kvs ∧ (kvs.map (·.1)).Nodup ∧
    ∀ p, H p = none → Q (.ref p) (upd H p (LdO P w p kvs))) := by
  subst hP hw hK
  intro pins s σ H xs us Q I r q
  obtain ⟨a, ps, kvs, ex, hq, hp, hnd, q⟩ := q
  subst ex
  obtain ⟨u, eu, rx⟩ := vals1 r
  subst eu
  cases rx
  obtain ⟨its, rv, pl, hz⟩ := I.list hq
  have ei := refs_lf rv
  subst ei
  rw [List.length_map] at hz
  obtain ⟨prs, vs, l1, l2, kv, hpr, hk⟩ := pairsLf I hp
  have pl' := pl
  obtain ⟨o, n, ho, hc, hd, hdat⟩ := pl'
  have hi : PairItems s.heap (ps.map Value.ref).toArray (fun j => ps.getD j 0) prs := by
    refine ⟨by simp [l1], fun j k v e => ?_⟩
    obtain ⟨b, hb, hT⟩ := hpr j _ e
    have e3 : ps.getD j 0 = b := by rw [List.getD_eq_getElem?_getD, hb]; rfl
    exact ⟨by simp [hb, e3], by show PairAt s.heap (ps.getD j 0) _ _; rw [e3]; exact hT⟩
  have kl : kvs.length = vs.length := kv.length
  have kk : kvs.map (·.1) = vs.map (·.1) := kv.keys
  refine call_dict_pairs (knd := lfKind X.prog X.w) (kvs := vs) (PairArg.list a (ps.map Value.ref).toArray (fun j => ps.getD j 0) prs) (I.ok.hd hcalm) ⟨⟨o, n, ho, hc, hd, hdat⟩, hi⟩ ⟨l2, fun i key v e => hk i _ e⟩ (by rw [l1]; exact hz) fun h' tk d' keep => ?_
  have hm : (s.heap.objs.size == sysModules) = false := beq_eq_false_iff_ne.mpr (Nat.ne_of_gt I.big)
  rw [merged_nil_of_nodup vs (by rw [← kk]; exact hnd)] at d'
  exact ⟨.ref s.heap.objs.size, upd H s.heap.objs.size (LdO X.prog X.w s.heap.objs.size kvs), I.laid (t' := tk) (fun b o e => keep b o (fun z => nomatch z) e) (Nat.le_refl _) (ld_ok (by rw [kl, l2, l1]; exact hz) hm kv d'), rfl, q _ (I.hok.fresh (Nat.le_refl _))⟩
end
end Rs
set_option maxHeartbeats 2000000
namespace Rs
open PySem L2 PySem.Spec PyProof.Rows
theorem carries_lf {P : Program} {w : World} : ∀ {kvs : List (Leaf × V)} {ws : List (Value × Value)}, VV (kvs.map fun kv => (lV kv.1, kv.2)) ws → ∃ rs, Carries (lfKind P w) ws rs ∧ KV kvs rs
  | [], _, r => by rw [List.map_nil] at r; cases r; exact ⟨[], True.intro, .nil⟩
  | p :: kvs, _, r => by
    rw [List.map_cons] at r
    cases r with
    | @cons a b as bs h t =>
      obtain ⟨rs, c, q⟩ := carries_lf (P := P) (w := w) t
      obtain ⟨b1, b2⟩ := b
      exact ⟨(p.1, b2) :: rs, ⟨lV_is h.1, rfl, c⟩, .cons ⟨rfl, h.2⟩ q⟩
def tLDisp (P : Program) (w : World) (trs : List (TE × TE)) : TE := fun σ H Q => ∀ p, H p = none → tPairs trs σ (upd H p (LdO P w p [])) fun ps H2 => H2 p = some (LdO P w p []) ∧ ∃ kvs : List (Leaf × V), ps = kvs.map (fun kv => (lV kv.1, kv.2)) ∧ kvs.length ≤ 15 ∧ (kvs.map (·.1)).Nodup ∧ Q (.ref p) (upd H2 p (LdO P w p kvs))
theorem pe_ldisp {X : Cx} {P : Program} {w : World} {pos : Pos} {keys : List (Option Expr)} {values : List Expr} {trs : List (TE × TE)} (hP : X.prog = P) (hw : X.w = w) (h : PPs X pos keys values trs) (hall : keys.all (·.isSome) = true) (hl : keys.length = values.length) (h0 : keys ≠ [])
    (h15 : keys.length ≤ 15) : PE X (.Dict keys values pos) (tLDisp P w trs) := by
  subst hP
  subst hw
  refine ⟨fun pins s σ H Q I q => ?_⟩
  have hn := I.hok.fresh (Nat.le_refl s.heap.objs.size)
  have I1 := I.laid (a := s.heap.objs.size) (o := LdO X.prog X.w s.heap.objs.size []) (h' := s.heap.push { cls := .type "dict", data := .dict #[] }) (t' := s.toks) (fun _ _ q => Heap.get?_push_of_some _ q) (Nat.le_refl _) (ld_empty s.heap I.big)
  refine wpAny_Dict_walk (knd := lfKind X.prog X.w) hall hl h0 h15 (thn (h.run pins _ σ _ _ I1 (q _ hn)) fun ws s2 ⟨ps, H2, I2, rel, e, kvs, ep, lk, hnd, q2⟩ => ?_)
  subst ep
  obtain ⟨rs, c, rk⟩ := carries_lf (P := X.prog) (w := X.w) rel
  obtain ⟨z, hd, vs0, r0, dd⟩ := LD.at I2.hok (.inl e)
  cases r0
  refine ⟨rs, c, dd, fun h' dd' hs => ⟨.ref s.heap.objs.size, _, ?_, rfl, q2⟩⟩
  have kk : kvs.map (·.1) = rs.map (·.1) := rk.keys
  rw [merged_nil_of_nodup rs (by rw [← kk]; exact hnd)] at dd'
  have he : ∃ q, h'.get? s.heap.objs.size = some q := let ⟨q, _, _, hq, _⟩ := dd'; ⟨q, hq⟩
  exact d_write I2 (by rw [e]; exact True.intro) hs he (ld_ok (by rw [sizeLine_eq]; omega) hd rk dd')
end Rs
set_option maxHeartbeats 2000000
namespace Rs
open PySem L2 PySem.Spec PyProof.Rows
structure FnG (P : Program) (w : World) (K : PySem.W.Frag) (mg : Str → Option Value) (base : Heap) (CX : CXT) (k : Nat) (f : Addr) (fd : FuncData) (ps : List Str) (sp : Sp) : Prop where
  many : ∀ vs H Q E, sp vs H Q E → vs.length = ps.length
  goes : ∀ (A : Around) (around : List Env) (s : Shared) (H : Hp) (given : Args) (us : List Value) (vs : List V) (Q : VK) (E : XK), A.guards = some [] → Room k A → Env0 P w K mg base A around s H → BindsTo s fd given (ps.zip us) → Vals vs us →
    sp vs H Q E → codeAny (model P w) A (.call (.ref f) given) (CR CX around P w H s Q E) s
section
variable {P : Program} {w : World} {K : PySem.W.Frag} {mg : Str → Option Value} {base : Heap}
theorem okG {x qual : Str} {st : Stmt} {f : Addr} {fd : FuncData} {N ps : List Str} {k : Nat} {sp : Sp} (F : Fun K x qual st f fd) (S : FnScope N ps (defScope st)) (hlen : ∀ vs H Q E, sp vs H Q E → vs.length = ps.length)
    (body : ∀ (cdv : Value) (A : Around) (around : List Env) (s : Shared) (H : Hp) (vs : List V) (Q : VK) (E : XK), (A.deeper (envOfC qual (defScope st) s.heap.objs.size f cdv)).guards = some [] → Room k (A.deeper (envOfC qual (defScope st) s.heap.objs.size f cdv)) → sp vs H Q E →
      ∃ t, PSs (cxOf CX0 P w K mg base N qual (defScope st) f cdv A around s H E).nox (defBody st) t ∧ t { nx := fun _ H' => Q .non H', rt := Q } (start N vs) H) : FnG P w K mg base CX0 (k + 1) f fd ps sp := by
  obtain ⟨oc, od, kV, doc, pm, an, cdv, ct, osl, rfl, lk, hcd⟩ := F.ex
  refine ⟨hlen, fun A around s H given us vs Q E hg hr e0 hb r hsp => ?_⟩
  refine LamX.run_ofS lk hcd S hr e0 hb r (hlen _ _ _ _ hsp) fun hr' => ?_
  obtain ⟨t, h, q⟩ := body cdv A around s H vs Q E (by first | exact hg | (simpa [Around.deeper] using hg)) hr' hsp
  exact ⟨t, h.nox, q⟩
end
section
variable {X : Cx} {CX : CXT} {k : Nat} {f : Addr} {fd : FuncData} {ps : List Str} {sp : Sp} {E : XK} {x : Str} {p pos : Pos} {e : Expr} {es : List Expr} {t : TA}
theorem goes_fn {pins : List (Addr × Obj)} {σ : L2.St} {H : Hp} {s : Shared} {Q : VK} {us : List Value} {vs : List V} (F : FnG X.prog X.w X.K X.mg X.base CX k f fd ps sp) (hgd : X.A.guards = some []) (hr : Room k X.A) (hb : Binds X.K fd ps []) (hx : Passes CX X E)
    (I : Inv X pins σ H s) (r : Vals vs us) (h : sp vs H Q E) : wpAny (model X.prog X.w) X.A (call (.ref f) us) (EP X pins σ Q) X.xe s := by
  have hl : us.length = ps.length := by rw [← r.length]; exact F.many _ _ _ _ h
  have bd : BindsTo s fd ⟨us, []⟩ (ps.zip us) := by
    have q := hb s us I.kIn (by rw [List.append_nil]; exact hl)
    rw [List.append_nil] at q
    exact q
  refine wpAny_call (codeAny_mono (F.goes X.A X.stack s H ⟨us, []⟩ us vs Q E hgd hr I.env0 bd r h) fun z s' hq => ?_)
  match z, hq with
  | .error e, hq => exact hx pins σ H s e s' I hq
  | .ok (.ret u), hq => exact I.after hq
  | .ok .next, hq => exact False.elim hq
  | .ok .brk, hq => exact False.elim hq
  | .ok .cont, hq => exact False.elim hq
theorem pe_callG (F : FnG X.prog X.w X.K X.mg X.base CX k f fd ps sp) (hgd : X.A.guards = some []) (hr : Room k X.A) (hg : Gl X x) (hm : X.mg x = some (.ref f)) (hk : PySem.W.keepIn X.K (.ref f) = true) (hb : Binds X.K fd ps []) (hx : Passes CX X E)
    (ha : PA X (e :: es) t) (hdb : (x == ("__debug__" : Str)) = false := by decide) (he : starEach (e :: es) X.env = (false, eval e X.env) :: starEach es X.env := by rfl) (hpl : (backTo pos (starEach es X.env)).any (·.1) = false := by rfl) :
    PE X (.Call (.Name x p) (e :: es) [] pos) (fun σ H Q => t σ H fun vs H1 => sp vs H1 Q E) := by
  refine ⟨fun pins s σ H Q I h => wpAny_Call_Name_kw (ld_glob I hg hm ?_ hdb)⟩
  refine PySem.W.callWith_K (h₀ := X.base) I.ok.mod.kin hk (thn (ha.run pos pins s σ H _ I h) fun us s1 ⟨vs, H1, I1, r, q⟩ => ⟨I1.kIn, goes_fn F hgd hr hb hx I1 r q⟩) he hpl
theorem call_reprD (hgd : X.A.guards = some []) (hu : X.A.units + 128 < cLine) :
    CallR X (.builtin "repr") (fun xs H Q => ∃ a d, xs = [V.ref a] ∧ Dp X.K H (.ref a) d ∧ d.showable = true ∧ d.hasDict = false ∧ d.depth ≤ 60 ∧ d.shown.length ≤ sizeLine ∧ Q (.str d.shown) H) := by
  intro pins s σ H xs us Q I r h
  obtain ⟨a, d, rfl, hd, h1, h2, h3, h4, q⟩ := h
  obtain ⟨u, rfl, ru⟩ := vals1 r
  obtain rfl : u = Value.ref a := ru
  obtain ⟨as, rd⟩ := Dp.reads I d _ _ hd rfl
  exact repr_of_reads' rd h1 (fun z => by rw [h2] at z; cases z) hgd (by omega) (fun _ _ z => z) (fun h' v tk hk => ⟨.str d.shown, H, I.kept hk, ⟨_, rfl⟩, q⟩) h4
end
theorem lawG {P : Program} {w : World} {K : PySem.W.Frag} {mg mb : Str → Option Value} {k : Nat} {fa a : Addr} {fd : FuncData} {x : Str} {sp : Sp} {s₁ : Shared} {vs : List Value} {ns : List Int}
    (KX : K.In s₁.heap) (hns : s₁.heap.Ns mainGlobals mg) (hb : s₁.heap.Ns builtinsNs mb) (hbb : ∀ x : Str, x ≠ "__name__" → mb x = bootBuiltins x) (hlim : s₁.heap.NoLimit) (hg : s₁.gens = #[])
    (ha : s₁.heap.get? a = some { cls := .type "list", data := .seq vs.toArray }) (hi : IntsAre vs ns) (hl : ns.length ≤ sizeLine) (hr : Room k callerA)
    (F : ∀ base : Heap, K.In base → base.Ns mainGlobals mg → FnG P w K mg base CX0 k fa fd [x] sp) (hbind : ∀ (s : Shared) (u : Value), BindsTo s fd ⟨[u], []⟩ [(x, u)])
    (hsp : ∀ H : Hp, Only H → SqL K H a (ns.map V.int) → sp [.ref a] H (fun v _ => v = .bl true) fun _ _ _ => False)
    (hCX : ∀ H e s', CX0 [] H s₁ (fun _ _ _ => False) e s' → False) :
    codeAny (model P w) callerA (.call (.ref fa) ⟨[.ref a], []⟩) (fun r s' => r = .ok (.ret (.bool true)) ∧ OldK s₁.heap s'.heap ∧ s'.os = s₁.os ∧ AllBare s'.gens) s₁ := by
  have vi := vals_ints hi
  -- the law's run from an abstract heap that knows at most the script
  have go : ∀ H : Hp, Only H → SqL K H a (ns.map V.int) → HOk P w H s₁.heap → (∀ b, H b ≠ none → b = a) → (H a ≠ none → K.lookup a = none) →
      codeAny (model P w) callerA (.call (.ref fa) ⟨[.ref a], []⟩) (fun r s' => r = .ok (.ret (.bool true)) ∧ OldK s₁.heap s'.heap ∧ s'.os = s₁.os ∧ AllBare s'.gens) s₁ := by
    intro H hO hS hok hA hK
    have free : ∀ {b : Addr}, b ≠ a → H b = none := fun {b} hb => by
      by_cases q : H b = none
      · exact q
      · exact absurd (hA b q) hb
    have noD : ∀ {b : Addr} {o : Obj} {es : Array DictEntry} {ep : Nat}, s₁.heap.get? b = some o → o.data = .dict es ep → H b = none := fun {b o es ep} e d => by
      by_cases hb : b = a
      · subst hb
        rw [ha] at e
        cases e
        exact absurd d (fun z => nomatch z)
      · exact free hb
    have nsB : ∀ {b : Addr} {m : Str → Option Value}, s₁.heap.Ns b m → (hidT s₁.heap H).Ns b m := fun {b m} ⟨o, es, ep, e, d, r⟩ => ⟨o, es, ep, hidT_get e (noD e d), d, r⟩
    have kB : K.In (hidT s₁.heap H) := fun b o e => by
      refine hidT_get (KX b o e) ?_
      by_cases hb : b = a
      · subst hb
        by_cases q : H b = none
        · exact q
        · rw [hK q] at e
          cases e
      · exact free hb
    have mB : Mod K mg (hidT s₁.heap H) := ⟨kB, nsB hns, ⟨mb, nsB hb, hbb⟩, let ⟨mc, h1, h2⟩ := hlim; ⟨mc, nsB h1, h2⟩⟩
    have e0 : Env0 P w K mg (hidT s₁.heap H) callerA [] s₁ H := ⟨rfl, mB, fun b o e => of_hidT e, Nat.le_of_eq (hidT_size _ _), trivial, fun b hb => (List.not_mem_nil (show b ∈ ([] : List Addr) from hb)).elim, hok, .of_eq hg⟩
    refine codeAny_mono ((F _ kB (nsB hns)).goes callerA [] s₁ H ⟨[.ref a], []⟩ [.ref a] [.ref a] _ _ rfl hr e0 (hbind s₁ (.ref a)) (.cons rfl .nil) (hsp H hO hS)) fun r s' h => ?_
    match r, h with
    | .error e, h => exact (hCX H e s' h).elim
    | .ok .next, h => exact False.elim h
    | .ok .brk, h => exact False.elim h
    | .ok .cont, h => exact False.elim h
    | .ok (.ret u), h =>
      obtain ⟨v, H', os, bare, un, ok', ru, q⟩ := h
      have q' : v = .bl true := q
      subst q'
      obtain rfl : u = Value.bool true := ru
      refine ⟨rfl, OldK.of_keep fun b o e => ?_, os, bare⟩
      cases q : H b with
      | none => exact un.keep b o e q (fun z => (List.not_mem_nil (show b ∈ ([] : List Addr) from z)).elim) List.not_mem_nil
      | some u =>
        rcases hO b with z | ⟨ob, xs, z⟩
        · rw [q] at z; cases z
        · obtain ⟨e1, _⟩ := hok b _ z
          obtain ⟨e2, _⟩ := ok' b _ (un.frzs b ob _ z)
          rw [e] at e1
          cases e1
          exact e2
  have hl' : (ns.map V.int).length ≤ sizeLine := by rw [List.length_map]; exact hl
  cases hk : K.lookup a with
  | some o =>
    have e := KX a o hk
    rw [ha] at e
    cases e
    have vlen := hi.length
    exact go (fun _ => none) (fun _ => .inl rfl) (.inr ⟨_, vs.toArray, _, hk, rfl, rfl, rfl, by rw [List.size_toArray, vlen]; exact hl, by simpa using vi⟩) (fun b u z => nomatch (show (none : Option HO) = some u from z)) (fun b z => (z rfl).elim) fun z => (z rfl).elim
  | none =>
    have here : ∀ b, b = a → (fun c => if c = a then some (HO.frz { cls := .type "list", data := .seq vs.toArray } (.lst (ns.map V.int))) else none) b = some (HO.frz { cls := .type "list", data := .seq vs.toArray } (.lst (ns.map V.int))) := fun b hb => if_pos hb
    have off : ∀ b, b ≠ a → (fun c => if c = a then some (HO.frz { cls := .type "list", data := .seq vs.toArray } (.lst (ns.map V.int))) else none) b = none := fun b hb => if_neg hb
    refine go (fun c => if c = a then some (HO.frz { cls := .type "list", data := .seq vs.toArray } (.lst (ns.map V.int))) else none) (fun b => ?_) (.inl (.inr ⟨{ cls := .type "list", data := .seq vs.toArray }, here a rfl⟩)) (fun b u z => ?_) (fun b z => ?_) fun _ => hk
    · by_cases hb : b = a
      · exact .inr ⟨_, _, here b hb⟩
      · exact .inl (off b hb)
    · by_cases hb : b = a
      · have e := (here b hb).symm.trans z
        cases e
        subst hb
        exact ⟨ha, hl', vs, _, vi, ha⟩
      · have e := (off b hb).symm.trans z
        cases e
    · by_cases hb : b = a
      · exact hb
      · exact (z (off b hb)).elim
theorem walkG {l : PySem.W.OpenLaw} {n k : Nat} {q : Program} {loose : List Str} {XP : (Str → Option Value) → Heap → Prop} {YP : World → Heap → Prop} {d : DefRec} {K : Params → PySem.W.Frag} {sp : World → Sp} {x : Str}
    (hn : l.most = some n) (hn2 : n ≤ sizeLine) (hdf : d.params.defaults = []) (hr : Room k callerA) (hY : ∀ (w : World) (h : Heap), YP w h → (K w.params).In h)
    (F : ∀ (w : World) (mg : Str → Option Value) (fa : Addr) (h : Heap), (K w.params).In h → h.Ns mainGlobals mg → mg d.name = some (.ref fa) →
      ∃ fd : FuncData, (∀ (s : Shared) (u : Value), BindsTo s fd ⟨[u], []⟩ [(x, u)]) ∧ ∀ base : Heap, (K w.params).In base → base.Ns mainGlobals mg → FnG l.prog w (K w.params) mg base CX0 k fa fd [x] (sp w))
    (hsp : ∀ (w : World) (H : Hp) (a : Addr) (ns : List Int), ns.length ≤ n → Only H → SqL (K w.params) H a (ns.map V.int) → sp w [.ref a] H (fun v _ => v = .bl true) fun _ _ _ => False) :
    PySem.W.WalkO q loose XP YP l.row.toRowW d [] (fun f vs => PySem.call f vs) := by
  refine Att.attach_call hn hdf fun w s₀ s₁ mg mb fa o pm cd doc a vs ns G Y ho hd hcd hmg hobj hints hlen hg => ?_
  obtain ⟨fd, hb, hF⟩ := F w mg fa _ (hY w _ Y) G.T.g hmg
  exact lawG (hY w _ Y) G.T.g G.T.b G.T.builtins G.T.nolimit hg hobj hints (Nat.le_trans hlen hn2) hr hF hb (fun H hO hS => hsp w H a ns hlen hO hS) fun _ _ _ z => z
end Rs
set_option maxHeartbeats 4000000
namespace Rs
open PySem L2 PySem.Spec PyProof.Rows
def Fm (S : List Addr) (H H' : Hp) : Prop := ∀ a o, H a = some o → a ∉ S → H' a = some o
section
variable {S T : List Addr} {H H' H1 : Hp} {a p : Addr} {o u : HO} {K : PySem.W.Frag} {xs : List V}
theorem Fm.refl (S : List Addr) (H : Hp) : Fm S H H := fun _ _ h _ => h
theorem Fm.trans (a : Fm S H H1) (b : Fm S H1 H') : Fm S H H' := fun x o h n => b x o (a x o h n) n
theorem Fm.wide (a : Fm S H H') (h : ∀ x ∈ S, x ∈ T) : Fm T H H' := fun x o e n => a x o e fun z => n (h x z)
theorem Fm.nil (a : Fm [] H H') : Fm T H H' := a.wide fun _ h => (List.not_mem_nil h).elim
theorem Fm.new (h : H p = none) : Fm S H (upd H p o) := fun a u e _ => by
  rw [upd_ne (ne_of_none e h)]
  exact e
theorem Fm.put (h : p ∈ S) : Fm S H (upd H p o) := fun a u e n => by
  rw [upd_ne (fun z => n (by rw [z]; exact h))]
  exact e
theorem Fm.thenNew (f : Fm S H H') (h : H' p = none) : Fm S H (upd H' p o) := f.trans (Fm.new h)
theorem Fm.thenPut (f : Fm S H H') (h : p ∈ S) : Fm S H (upd H' p o) := f.trans (Fm.put h)
theorem Fm.thenOwn (f : Fm S H H') (h : H p = none) : Fm S H (upd H' p o) := fun a u e n => by
  rw [upd_ne (ne_of_none e h)]
  exact f a u e n
theorem Fm.drop (f : Fm (p :: S) H H') (h : H p = none) : Fm S H H' := fun a u e n => f a u e fun z => (List.mem_cons.mp z).elim (fun q => ne_of_none e h q) n
theorem Fm.rd (f : Fm S H H') (h : Rd H a u) (n : a ∉ S) : Rd H' a u := by
  rcases h with h | ⟨o, h⟩
  · exact .inl (f _ _ h n)
  · exact .inr ⟨o, f _ _ h n⟩
theorem Fm.seqL (f : Fm S H H') (h : SqL K H a xs) (n : a ∉ S) : SqL K H' a xs := by
  rcases h with h | h
  · exact .inl (f.rd h n)
  · exact .inr h
theorem Fm.seqT (f : Fm S H H') (h : SqT K H a xs) (n : a ∉ S) : SqT K H' a xs := by
  rcases h with h | h
  · exact .inl (f.rd h n)
  · exact .inr h
theorem Fm.none (f : Fm S H H') (h : H' a = Option.none) (n : a ∉ S) : H a = Option.none := by
  cases q : H a with
  | none => rfl
  | some o => rw [f _ _ q n] at h; cases h
theorem not_in1 (h : a ≠ p) : a ∉ [p] := fun z => h (List.mem_singleton.mp z)
end
section
variable {σ : L2.St} {H : Hp} {K : PySem.W.Frag} {Q : VK} {QA : List V → Hp → Prop} {QT : Bool → Hp → Prop} {QO : Option Int → Hp → Prop} {ta tb te tc : TE} {t : TA} {c d : TT} {D : Ends} {s u : TS} {v x y : V} {vs : List V} {r : R2} {i j : Int} {p l b : Addr} {xs ys : List V} {k : Bool}
theorem w_var {i : Nat} (h : σ[i]? = some (some v)) (k : Q v H) : tVar i σ H Q := ⟨v, h, k⟩
theorem w_c (k : Q v H) : tC v σ H Q := k
theorem w_op (k : ta σ H fun x H1 => tb σ H1 fun y H2 => r x y H2 Q) : tOp r ta tb σ H Q := k
theorem w_un {r : V → Hp → VK → Prop} (k : ta σ H fun x H1 => r x H1 Q) : tUn r ta σ H Q := k
theorem w_test (k : te σ H fun x H' => ∃ k, x = .bl k ∧ QT k H') : tTest te σ H QT := k
theorem w_B (k : te σ H fun x H' => ∃ k, x = .bl k ∧ QT k H') : tB te σ H QT := k
theorem w_not (k : c σ H fun b H1 => QT (!b) H1) : tNot c σ H QT := k
theorem w_and (k : c σ H fun b H1 => if b = true then d σ H1 QT else QT false H1) : tAnd c d σ H QT := k
theorem w_or (k : c σ H fun b H1 => if b = true then QT true H1 else d σ H1 QT) : tOr c d σ H QT := k
theorem w_andV (k : ta σ H fun x H1 => ∃ c, x = .bl c ∧ if c = true then tb σ H1 Q else Q (.bl false) H1) : tAndV ta tb σ H Q := k
theorem w_bool {P : Bool → Prop} (h : P k) : ∃ c, V.bl k = .bl c ∧ P c := ⟨k, rfl, h⟩
theorem w_if (k : c σ H fun b H1 => if b = true then ta σ H1 Q else tb σ H1 Q) : tIf c ta tb σ H Q := k
theorem w_cb {r : List V → Hp → VK → Prop} (k : t σ H fun vs H1 => r vs H1 Q) : tCB r t σ H Q := k
theorem w_nil (k : QA [] H) : tNil σ H QA := k
theorem w_cons (k : te σ H fun x H1 => t σ H1 fun xs H2 => QA (x :: xs) H2) : tCons te t σ H QA := k
theorem w_lst (k : t σ H fun xs H1 => xs.length ≤ sizeLine ∧ ∀ p, H1 p = none → Q (.ref p) (upd H1 p (.lst xs))) : tLst t σ H Q := k
theorem w_tup (k : t σ H fun xs H1 => xs.length ≤ sizeLine ∧ ∀ p, H1 p = none → Q (.ref p) (upd H1 p (.tup xs))) : tTup t σ H Q := k
theorem w_small {n : Nat} (h : n ≤ 100000) {P : Prop} (k : P) : n ≤ sizeLine ∧ P := ⟨Nat.le_trans h (by decide), k⟩
theorem w_sl {r : V → Option Int → Option Int → Hp → VK → Prop} {tl th : TO} (k : te σ H fun x H1 => tl σ H1 fun l H2 => th σ H2 fun u H3 => r x l u H3 Q) : tSl r te tl th σ H Q := k
theorem w_part (k : te σ H fun x H1 => ∃ i, x = .int i ∧ QO (some i) H1) : tPart te σ H QO := k
theorem w_intO {P : Int → Prop} (h : P i) : ∃ j, V.int i = .int j ∧ P j := ⟨i, rfl, h⟩
theorem w_nopart (k : QO none H) : tNoPart σ H QO := k
theorem w_asg {g : TG} (k : te σ H fun x H1 => g x σ H1 D.nx) : tAsg te g D σ H := k
theorem w_name {i : Nat} {QS : L2.St → Hp → Prop} (k : QS (σ.set i (some v)) H) : gName i v σ H QS := k
theorem w_gsub {t : TSet} {QS : L2.St → Hp → Prop} (k : ta σ H fun o H1 => tb σ H1 fun i H2 => t o i v H2 fun H3 => QS σ H3) : gSub ta tb t v σ H QS := k
theorem w_ret (k : te σ H D.rt) : tRet te D σ H := k
theorem w_drop (k : te σ H fun _ H1 => D.nx σ H1) : tDrop te D σ H := k
theorem w_seq (k : s { D with nx := u D } σ H) : tSeq s u D σ H := k
theorem w_next (k : D.nx σ H) : tNext D σ H := k
theorem w_ifS (k : c σ H fun b H1 => if b = true then s D σ H1 else u D σ H1) : tIfS c s u D σ H := k
theorem w_I0 {g : Int → Int → V} (k : Q (g i j) H) : rI0 g (.int i) (.int j) H Q := ⟨i, j, rfl, rfl, k⟩
theorem w_I {C : Int → Int → Prop} {g : Int → Int → V} (h : C i j) (k : Q (g i j) H) : rI C g (.int i) (.int j) H Q := ⟨i, j, rfl, rfl, h, k⟩
theorem w_eqI (k : Q (.bl (decide (i = j))) H) : rEq (.int i) (.int j) H Q := ⟨rfl, by
  have e : decide (V.int i = V.int j) = decide (i = j) := decide_eq_decide.mpr ⟨fun z => V.int.inj z, fun z => by rw [z]⟩
  rw [e]
  exact k⟩
theorem w_neI (k : Q (.bl (!decide (i = j))) H) : rNe (.int i) (.int j) H Q := ⟨rfl, by
  have e : decide (V.int i = V.int j) = decide (i = j) := decide_eq_decide.mpr ⟨fun z => V.int.inj z, fun z => by rw [z]⟩
  rw [e]
  exact k⟩
theorem w_eqS {x y : Str} (k : Q (.bl (decide (x = y))) H) : rEq (.str x) (.str y) H Q := ⟨rfl, by
  have e : decide (V.str x = V.str y) = decide (x = y) := decide_eq_decide.mpr ⟨fun z => V.str.inj z, fun z => by rw [z]⟩
  rw [e]
  exact k⟩
theorem w_neS {x y : Str} (k : Q (.bl (!decide (x = y))) H) : rNe (.str x) (.str y) H Q := ⟨rfl, by
  have e : decide (V.str x = V.str y) = decide (x = y) := decide_eq_decide.mpr ⟨fun z => V.str.inj z, fun z => by rw [z]⟩
  rw [e]
  exact k⟩
theorem w_ixL (h : SqL K H p xs) (ha : atI xs i = some v) (k : Q v H) : rIxL K (.ref p) (.int i) H Q := ⟨p, xs, i, v, rfl, rfl, h, ha, k⟩
theorem w_ixT (h : SqT K H p xs) (ha : atI xs i = some v) (k : Q v H) : rIxT K (.ref p) (.int i) H Q := ⟨p, xs, i, v, rfl, rfl, h, ha, k⟩
theorem w_cutL {lo hi : Option Int} (h : SqL K H p xs) (k : ∀ q, H q = none → Q (.ref q) (upd H q (.lst (cutV xs lo hi)))) : rSlL K (.ref p) lo hi H Q := ⟨p, xs, rfl, h, k⟩
theorem w_cat (h : H l = some (.lst xs)) (h2 : H b = some (.lst ys)) (hz : xs.length + ys.length ≤ sizeLine) (k : ∀ p, H p = none → Q (.ref p) (upd H p (.lst (xs ++ ys)))) : rCat (.ref l) (.ref b) H Q := ⟨l, b, xs, ys, rfl, rfl, h, h2, hz, k⟩
def rInt : List V → Hp → VK → Prop := fun xs H Q => ∃ i, xs = [.int i] ∧ Q (.int i) H
def rAbs : List V → Hp → VK → Prop := fun xs H Q => ∃ i, xs = [.int i] ∧ Q (.int (if i < 0 then -i else i)) H
def rLenX (K : PySem.W.Frag) : List V → Hp → VK → Prop := fun xs H Q => ∃ p ys, xs = [.ref p] ∧ (SqL K H p ys ∨ SqT K H p ys) ∧ Q (.int ys.length) H
theorem w_int (k : Q (.int i) H) : rInt [.int i] H Q := ⟨i, rfl, k⟩
theorem w_abs (k : Q (.int (if i < 0 then -i else i)) H) : rAbs [.int i] H Q := ⟨i, rfl, k⟩
theorem w_lenL (h : SqL K H p xs) (k : Q (.int xs.length) H) : rLenX K [.ref p] H Q := ⟨p, xs, rfl, .inl h, k⟩
theorem w_lenT (h : SqT K H p xs) (k : Q (.int xs.length) H) : rLenX K [.ref p] H Q := ⟨p, xs, rfl, .inr h, k⟩
theorem w_setL {j : Nat} {QH : Hp → Prop} (h : H p = some (.lst xs)) (hi : ixN xs.length i = some j) (k : QH (upd H p (.lst (xs.set j v)))) : rSetL (.ref p) (.int i) v H QH := ⟨p, xs, i, j, rfl, rfl, h, hi, k⟩
theorem w_augS {tget : V → V → Hp → VK → Prop} {tip : TIp} {tset : TSet} (k : ta σ H fun o H1 => tb σ H1 fun i H2 => tget o i H2 fun x H3 => te σ H3 fun y H4 => tip x y H4 fun z H5 => tset o i z H5 fun H6 => D.nx σ H6) : tAugS ta tb te tget tip tset D σ H := k
theorem w_ip {f : Int → Int → Int} (k : Q (.int (f i j)) H) : ipI f (.int i) (.int j) H Q := ⟨i, j, rfl, rfl, k⟩
theorem w_fld {P : V → Prop} {f : Str} {C dx : Addr} {fs : List (Str × V)} (hc : Cls K C) (hn : NoAttr K C f) (ha : H p = some (.ins C dx fs)) (hl : fs.lookup f = some v) (k : P v) : ∃ a C dx fs v, V.ref p = .ref a ∧ H a = some (.ins C dx fs) ∧ Cls K C ∧ NoAttr K C f ∧ fs.lookup f = some v ∧ P v := ⟨p, C, dx, fs, v, rfl, ha, hc, hn, hl, k⟩
theorem w_tfld {f : Str} (k : ta σ H fun x H1 => ∃ a C dx fs v, x = .ref a ∧ H1 a = some (.ins C dx fs) ∧ Cls K C ∧ NoAttr K C f ∧ fs.lookup f = some v ∧ Q v H1) : tFld K ta f σ H Q := k
def rGetL (K : PySem.W.Frag) : V → V → Hp → VK → Prop := fun o i H Q => ∃ (p : Addr) (xs : List V) (j : Nat) (v : V), o = .ref p ∧ i = .int (j : Int) ∧ SqL K H p xs ∧ xs[j]? = some v ∧ Q v H
theorem w_getL {j : Nat} (hi : i = (j : Int)) (h : SqL K H p xs) (hx : xs[j]? = some v) (k : Q v H) : rGetL K (.ref p) (.int i) H Q := ⟨p, xs, j, v, rfl, by rw [hi], h, hx, k⟩
theorem w_cut {M : L2.St → Hp → Prop} (h : s { D with nx := M } σ H) (k : ∀ σ' H', M σ' H' → u D σ' H') : Evl.tCut s u D σ H := ⟨M, h, k⟩
abbrev ForG (J : It) (g : TG) (tb : TS) (D : Ends) (σ : L2.St) (H : Hp) : Prop := ∃ W : Nat → Nat → L2.St → Hp → Prop, (∃ m, W 0 m σ H) ∧ ∀ i m σ H, W i m σ H →
  (J.stop i H ∧ D.nx σ H) ∨ (J.go i H ∧ ∃ N : L2.St → Hp → Prop, (∀ σ' H', N σ' H' → ∃ m', m' < m ∧ W (i + 1) m' σ' H') ∧ ∀ x H', J.yld i H x H' → g x σ H' fun σ2 H2 => tb { D with nx := N, ct := N, bk := D.nx } σ2 H2)
abbrev LcG (J : It) (g : TG) (tt : TT) (te : TE) (js : List Nat) (Q : VK) (σ : L2.St) (H : Hp) : Prop := ∀ D, H D = none → ∃ W : Nat → Nat → Hp → Prop, (∃ m, W 0 m (upd H D (.lst []))) ∧ ∀ i m H, W i m H →
  (J.stop i H ∧ Q (.ref D) H) ∨ (J.go i H ∧ ∃ Nx : Hp → Prop, (∀ H', Nx H' → ∃ m', m' < m ∧ W (i + 1) m' H') ∧ ∀ x H', J.yld i H x H' → g x (wipe σ js) H' fun σ2 H2 => wipe σ2 js = wipe σ js ∧ tt σ2 H2 fun b H3 =>
    if b = true then te σ2 H3 fun y H4 => ∃ acc, H4 D = some (.lst acc) ∧ acc.length < sizeLine ∧ Nx (upd H4 D (.lst (acc ++ [y]))) else Nx H3)
theorem w_forL {g : TG} {tb : TS} (k : te σ H fun x H1 => ∃ a, x = .ref a ∧ (∃ xs, SqL K H1 a xs) ∧ ForG (Itl K a) g tb D σ H1) : tFor (iList K te) g tb D σ H := k
theorem w_forT {g : TG} {tb : TS} (k : te σ H fun x H1 => ∃ a, x = .ref a ∧ (∃ xs, SqT K H1 a xs) ∧ ForG (Itt K a) g tb D σ H1) : tFor (iTup K te) g tb D σ H := k
theorem w_forR1 {g : TG} {tb : TS} (k : t σ H fun vs H1 => ∃ j : Int, vs = [.int j] ∧ -(2 ^ 62) ≤ j ∧ j < 2 ^ 62 ∧ ForG (Itr 0 j.toNat) g tb D σ H1) : tFor (iRng1 t) g tb D σ H := k
theorem w_forR2 {g : TG} {tb : TS} (k : t σ H fun vs H1 => ∃ i j : Int, vs = [.int i, .int j] ∧ (-(2 ^ 62) ≤ i ∧ i < 2 ^ 62 ∧ -(2 ^ 62) ≤ j ∧ j < 2 ^ 62) ∧ ForG (Itr i (j - i).toNat) g tb D σ H1) : tFor (iRng2 t) g tb D σ H := k
theorem w_forE {g : TG} {tb : TS} (k : t σ H fun vs H1 => ∃ a xs, vs = [.ref a] ∧ SqL K H1 a xs ∧ ForG (Ite K a) g tb D σ H1) : tFor (iEnum K t) g tb D σ H := k
theorem w_lcL {g : TG} {tt : TT} {js : List Nat} {tl : TE} (k : tl σ H fun x H1 => ∃ a, x = .ref a ∧ (∃ xs, SqL K H1 a xs) ∧ LcG (Itl K a) g tt te js Q σ H1) : tLc (iList K tl) g tt te js σ H Q := k
theorem w_lcR1 {g : TG} {tt : TT} {js : List Nat} (k : t σ H fun vs H1 => ∃ j : Int, vs = [.int j] ∧ -(2 ^ 62) ≤ j ∧ j < 2 ^ 62 ∧ LcG (Itr 0 j.toNat) g tt te js Q σ H1) : tLc (iRng1 t) g tt te js σ H Q := k
theorem w_yes {σ2 : L2.St} {A : Hp → Prop} {B : Hp → Prop} (k : A H) : tYes σ2 H fun b H3 => if b = true then A H3 else B H3 := by
  show if true = true then A H else B H
  rw [if_pos rfl]
  exact k
theorem hp_ne {H : Hp} {a b : Addr} {o u : HO} (h : b ≠ a) (k : H b = some u) : upd H a o b = some u := (upd_ne h).trans k
theorem ne_n1 {H : Hp} {a b : Addr} {o : HO} (h' : H b = none) (h : H a = some o) : a ≠ b := ne_of_none h h'
theorem ne_n2 {H : Hp} {a b : Addr} {o : HO} (h' : H b = none) (h : H a = some o) : b ≠ a := (ne_of_none h h').symm
theorem w_bm {Ty : String} {r : V → List V → Hp → VK → Prop} (k : te σ H fun x H1 => tyV K Ty x H1 ∧ t σ H1 fun xs H2 => r x xs H2 Q) : tBM K Ty r te t σ H Q := k
theorem w_tyL {P : Prop} (h : SqL K H p xs) (k : P) : tyV K "list" (.ref p) H ∧ P := ⟨.inl ⟨rfl, _, h⟩, k⟩
theorem w_append (h : H l = some (.lst xs)) (hz : xs.length < sizeLine) (k : Q .non (upd H l (.lst (xs ++ [y])))) : rAppend (.ref l) [y] H Q := ⟨l, xs, y, rfl, rfl, h, hz, k⟩
theorem w_call {sp : Sp} {dvs : List V} {E : XK} (k : t σ H fun vs H1 => sp (vs ++ dvs) H1 Q E) : tCall sp dvs E t σ H Q := k
theorem w_meth {m : Str} {sp : Sp} {dvs : List V} {E : XK} {C : Addr} (k : ta σ H fun x H1 => ∃ a dx fs, x = .ref a ∧ H1 a = some (.ins C dx fs) ∧ fs.lookup m = none ∧ t σ H1 fun vs H2 => sp (x :: (vs ++ dvs)) H2 Q E) : tMeth C m sp dvs E ta t σ H Q := k
theorem w_methAt {m : Str} {C dx : Addr} {fs : List (Str × V)} {P : Prop} (ha : H p = some (.ins C dx fs)) (hl : fs.lookup m = none) (k : P) : ∃ a dx fs, V.ref p = .ref a ∧ H a = some (.ins C dx fs) ∧ fs.lookup m = none ∧ P := ⟨p, dx, fs, rfl, ha, hl, k⟩
theorem w_nget {P : Program} {w : World} (k : ta σ H fun x H1 => tb σ H1 fun y H2 => ∃ a b kvs k v, x = .ref a ∧ y = .ref b ∧ ND P w H2 a kvs ∧ NK H2 k (.ref b) ∧ k.depth ≤ 8 ∧ valV kvs k = some v ∧ Q v H2) : tNGet P w ta tb σ H Q := k
theorem w_nin {P : Program} {w : World} {neg : Bool} (k : ta σ H fun y H1 => tb σ H1 fun x H2 => ∃ a b kvs k, x = .ref a ∧ y = .ref b ∧ ND P w H2 a kvs ∧ NK H2 k (.ref b) ∧ k.depth ≤ 8 ∧ Q (.bl (if neg then !(valV kvs k).isSome else (valV kvs k).isSome)) H2) : tNIn P w neg ta tb σ H Q := k
theorem w_nput {P : Program} {w : World} (k : tc σ H fun v H1 => ta σ H1 fun x H2 => tb σ H2 fun y H3 => ∃ a b kvs k, x = .ref a ∧ y = .ref b ∧ ND P w H3 a kvs ∧ NK H3 k (.ref b) ∧ k.depth ≤ 8 ∧ kvs.length < sizeLine ∧
  ∀ H4, ND P w H4 a (putK kvs k v) → (∀ c, c ≠ a → H4 c = H3 c) → D.nx σ H4) : sNPut P w ta tb tc D σ H := k
theorem w_ite {c : Prop} [Decidable c] {A B : Prop} (h1 : c → A) (h2 : ¬ c → B) : if decide c = true then A else B := by
  by_cases e : c
  · rw [if_pos (decide_eq_true e)]; exact h1 e
  · rw [if_neg (by rw [decide_eq_false e]; exact Bool.false_ne_true)]; exact h2 e
theorem w_iteN {c : Prop} [Decidable c] {A B : Prop} (h1 : ¬ c → A) (h2 : c → B) : if (!decide c) = true then A else B := by
  by_cases e : c
  · rw [if_neg (by rw [decide_eq_true e]; exact Bool.false_ne_true)]; exact h2 e
  · rw [if_pos (by rw [decide_eq_false e]; rfl)]; exact h1 e
end
section
variable {X : Cx}
theorem c_int : CallR X (.type "int") rInt := fun pins s σ H xs us Q I r ⟨i, e, q⟩ => call_int1 pins s σ H xs us Q I r (.inl ⟨i, e, q⟩)
theorem c_abs : CallR X (.builtin "abs") rAbs := fun pins s σ H xs us Q I r h => call_abs pins s σ H xs us Q I r h
theorem c_len : CallR X (.builtin "len") (rLenX X.K) := fun pins s σ H xs us Q I r h => call_len_seq pins s σ H xs us Q I r h
theorem get_list : PGet X (rGetL X.K) := by
  intro pins s σ H o i ov iv Q I ro ri h
  obtain ⟨p, xs, j, v, rfl, rfl, hq, he, q⟩ := h
  cases ro
  obtain ⟨t, rfl⟩ := ri
  obtain ⟨its, r, pl, hz⟩ := I.list hq
  obtain ⟨w, ew, rw'⟩ := r.get he
  have hl := r.length
  have hn := line63
  have hj : j < xs.length := (List.getElem?_eq_some_iff.mp he).1
  exact wpAny_getItem_list pl.isList (by omega) (by omega) (by rw [Int.toNat_natCast]; simpa using ew) ⟨v, H, I, rw', q⟩
end
end Rs
set_option maxHeartbeats 4000000
namespace Rs
open PySem L2 PySem.Spec PyProof.Rows
structure Framed (rep : Hp → V → List Addr → Prop) : Prop where
  go : ∀ (H H' : Hp) (v : V) (fp : List Addr), rep H v fp → Tps H H' → (∀ a ∈ fp, ∀ o, H a = some o → H' a = some o) → rep H' v fp
  there : ∀ (H : Hp) (v : V) (fp : List Addr), rep H v fp → ∀ a ∈ fp, ∃ o, H a = some o ∧ tupOf o = none
inductive T where
  | non | bl (b : Bool) | int (i : Int) | str (s : Str) | ty (n : String)
  | tup (xs : List T)
  | lst (o : Bool) (xs : List T)
  | dk (o : Bool) (kvs : List (Key × T))
  | lk (od : Obj) (ws : List (Key × V)) (kvs : List (Key × T))
  | dn (P : Program) (w : World) (o : Bool) (kvs : List (NestedKey × T))
  | pin (ks : List NestedKey)
  | ptp (xs : List T)
  | obj (o : Bool) (u : Addr → HO)
  | abs (rep : Hp → V → List Addr → Prop)
mutual
def Rep (Z : Addr → Prop) (H : Hp) : T → V → List Addr → Prop
  | .non, v, fp => v = .non ∧ fp = []
  | .bl b, v, fp => v = .bl b ∧ fp = []
  | .int i, v, fp => v = .int i ∧ fp = []
  | .str s, v, fp => v = .str s ∧ fp = []
  | .ty n, v, fp => v = .ty n ∧ fp = []
  | .tup ts, v, fp => ∃ a vs, v = .ref a ∧ TupAt H a vs ∧ Reps Z H ts vs fp
  | .lst o ts, v, fp => ∃ a vs fp', v = .ref a ∧ H a = some (.lst vs) ∧ Reps Z H ts vs fp' ∧ (if o = true then fp = a :: fp' else Z a ∧ fp' = [] ∧ fp = [])
  | .dk o kvs, v, fp => ∃ a vs fp', v = .ref a ∧ H a = some (.dK vs) ∧ RepK Z H kvs vs fp' ∧ (if o = true then fp = a :: fp' else Z a ∧ fp' = [] ∧ fp = [])
  | .lk od ws kvs, v, fp => ∃ a fp', v = .ref a ∧ H a = some (.frz od (.dK ws)) ∧ RepK Z H kvs ws fp' ∧ fp = a :: fp'
  | .dn P w o kvs, v, fp => ∃ a vs fp', v = .ref a ∧ ND P w H a vs ∧ RepN Z H kvs vs fp' ∧ (if o = true then fp = a :: fp' else Z a ∧ fp' = [] ∧ fp = [])
  | .pin ks, v, fp => (∃ (a : Addr) (o : Obj) (vs : List V), v = .ref a ∧ o.dict = none ∧ H a = some (.frz o (.tup vs)) ∧ NKs H ks vs) ∧ fp = []
  | .ptp ts, v, fp => ∃ (a : Addr) (o : Obj) (vs : List V), v = .ref a ∧ o.dict = none ∧ H a = some (.frz o (.tup vs)) ∧ Reps Z H ts vs fp
  | .obj o u, v, fp => ∃ a fp', v = .ref a ∧ H a = some (u a) ∧ tupOf (u a) = none ∧ fp' = [] ∧ (if o = true then fp = a :: fp' else Z a ∧ fp' = [] ∧ fp = [])
  | .abs rep, v, fp => Framed rep ∧ rep H v fp
def Reps (Z : Addr → Prop) (H : Hp) : List T → List V → List Addr → Prop
  | [], vs, fp => vs = [] ∧ fp = []
  | t :: ts, vs, fp => ∃ v vs' f1 f2, vs = v :: vs' ∧ fp = f1 ++ f2 ∧ Rep Z H t v f1 ∧ Reps Z H ts vs' f2
def RepK (Z : Addr → Prop) (H : Hp) : List (Key × T) → List (Key × V) → List Addr → Prop
  | [], vs, fp => vs = [] ∧ fp = []
  | (k, t) :: ts, vs, fp => ∃ v vs' f1 f2, vs = (k, v) :: vs' ∧ fp = f1 ++ f2 ∧ Rep Z H t v f1 ∧ RepK Z H ts vs' f2
def RepN (Z : Addr → Prop) (H : Hp) : List (NestedKey × T) → List (NestedKey × V) → List Addr → Prop
  | [], vs, fp => vs = [] ∧ fp = []
  | (k, t) :: ts, vs, fp => ∃ v vs' f1 f2, vs = (k, v) :: vs' ∧ fp = f1 ++ f2 ∧ Rep Z H t v f1 ∧ RepN Z H ts vs' f2
end
structure Go (Z Z' : Addr → Prop) (H H' : Hp) (fp : List Addr) : Prop where
  tup : Tps H H'
  sh : ∀ a o, Z a → H a = some o → Z' a ∧ H' a = some o
  own : ∀ a ∈ fp, ∀ o, H a = some o → H' a = some o
section
variable {Z Z' : Addr → Prop} {H H' : Hp}
theorem Go.l {f1 f2 : List Addr} (g : Go Z Z' H H' (f1 ++ f2)) : Go Z Z' H H' f1 := ⟨g.tup, g.sh, fun a h => g.own a (List.mem_append_left _ h)⟩
theorem Go.r {f1 f2 : List Addr} (g : Go Z Z' H H' (f1 ++ f2)) : Go Z Z' H H' f2 := ⟨g.tup, g.sh, fun a h => g.own a (List.mem_append_right _ h)⟩
theorem Go.top {o : Bool} {a : Addr} {fp fp' : List Addr} (g : Go Z Z' H H' fp) (h : if o = true then fp = a :: fp' else Z a ∧ fp' = [] ∧ fp = []) {u : HO} (e : H a = some u) :
    Go Z Z' H H' fp' ∧ H' a = some u ∧ if o = true then fp = a :: fp' else Z' a ∧ fp' = [] ∧ fp = [] := by
  cases o with
  | true =>
    have h' : fp = a :: fp' := by simpa using h
    subst h'
    exact ⟨⟨g.tup, g.sh, fun b hb => g.own b (List.mem_cons_of_mem _ hb)⟩, g.own a List.mem_cons_self _ e, by simp⟩
  | false =>
    obtain ⟨h1, h2, h3⟩ : Z a ∧ fp' = [] ∧ fp = [] := by simpa using h
    subst h2
    subst h3
    obtain ⟨z1, z2⟩ := g.sh a u h1 e
    exact ⟨g, z2, by simpa using z1⟩
mutual
theorem Rep.go : ∀ (t : T) (v : V) (fp : List Addr), Rep Z H t v fp → Go Z Z' H H' fp → Rep Z' H' t v fp
  | .non, _, _, h, _ => by unfold Rep at h ⊢; exact h
  | .bl _, _, _, h, _ => by unfold Rep at h ⊢; exact h
  | .int _, _, _, h, _ => by unfold Rep at h ⊢; exact h
  | .str _, _, _, h, _ => by unfold Rep at h ⊢; exact h
  | .ty _, _, _, h, _ => by unfold Rep at h ⊢; exact h
  | .tup ts, v, fp, h, g => by
    unfold Rep at h ⊢
    obtain ⟨a, vs, e1, e2, r⟩ := h
    exact ⟨a, vs, e1, e2.mono g.tup, Reps.go ts vs fp r g⟩
  | .lst o ts, v, fp, h, g => by
    unfold Rep at h ⊢
    obtain ⟨a, vs, fp', e1, e2, r, c⟩ := h
    obtain ⟨g', e', c'⟩ := g.top c e2
    exact ⟨a, vs, fp', e1, e', Reps.go ts vs fp' r g', c'⟩
  | .dk o ts, v, fp, h, g => by
    unfold Rep at h ⊢
    obtain ⟨a, vs, fp', e1, e2, r, c⟩ := h
    obtain ⟨g', e', c'⟩ := g.top c e2
    exact ⟨a, vs, fp', e1, e', RepK.go ts vs fp' r g', c'⟩
  | .lk od ws ts, v, fp, h, g => by
    unfold Rep at h ⊢
    obtain ⟨a, fp', e1, e2, r, c⟩ := h
    subst c
    exact ⟨a, fp', e1, g.own a List.mem_cons_self _ e2, RepK.go ts ws fp' r ⟨g.tup, g.sh, fun b hb => g.own b (List.mem_cons_of_mem _ hb)⟩, rfl⟩
  | .dn P w o ts, v, fp, h, g => by
    unfold Rep at h ⊢
    obtain ⟨a, vs, fp', e1, e2, r, c⟩ := h
    obtain ⟨es, z, z2⟩ := id e2
    obtain ⟨g', e', c'⟩ := g.top c z
    exact ⟨a, vs, fp', e1, e2.frame (fun o he => by
      rw [z] at he
      cases he
      exact e') g.tup, RepN.go ts vs fp' r g', c'⟩
  | .pin ks, v, fp, h, g => by
    unfold Rep at h ⊢
    obtain ⟨⟨a, o, vs, e1, e2, e3, e4⟩, e5⟩ := h
    exact ⟨⟨a, o, vs, e1, e2, g.tup _ _ e3 rfl, NKs.mono g.tup _ _ e4⟩, e5⟩
  | .ptp ts, v, fp, h, g => by
    unfold Rep at h ⊢
    obtain ⟨a, o, vs, e1, e2, e3, r⟩ := h
    exact ⟨a, o, vs, e1, e2, g.tup _ _ e3 rfl, Reps.go ts vs fp r g⟩
  | .obj o u, v, fp, h, g => by
    unfold Rep at h ⊢
    obtain ⟨a, fp', e1, e2, e3, e4, c⟩ := h
    obtain ⟨_, e', c'⟩ := g.top c e2
    exact ⟨a, fp', e1, e', e3, e4, c'⟩
  | .abs rep, v, fp, h, g => by
    unfold Rep at h ⊢
    exact ⟨h.1, h.1.go _ _ _ _ h.2 g.tup g.own⟩
theorem Reps.go : ∀ (ts : List T) (vs : List V) (fp : List Addr), Reps Z H ts vs fp → Go Z Z' H H' fp → Reps Z' H' ts vs fp
  | [], _, _, h, _ => by unfold Reps at h ⊢; exact h
  | t :: ts, vs, fp, h, g => by
    unfold Reps at h ⊢
    obtain ⟨v, vs', f1, f2, e1, e2, a, b⟩ := h
    subst e2
    exact ⟨v, vs', f1, f2, e1, rfl, Rep.go t v f1 a g.l, Reps.go ts vs' f2 b g.r⟩
theorem RepK.go : ∀ (ts : List (Key × T)) (vs : List (Key × V)) (fp : List Addr), RepK Z H ts vs fp → Go Z Z' H H' fp → RepK Z' H' ts vs fp
  | [], _, _, h, _ => by unfold RepK at h ⊢; exact h
  | (k, t) :: ts, vs, fp, h, g => by
    unfold RepK at h ⊢
    obtain ⟨v, vs', f1, f2, e1, e2, a, b⟩ := h
    subst e2
    exact ⟨v, vs', f1, f2, e1, rfl, Rep.go t v f1 a g.l, RepK.go ts vs' f2 b g.r⟩
theorem RepN.go : ∀ (ts : List (NestedKey × T)) (vs : List (NestedKey × V)) (fp : List Addr), RepN Z H ts vs fp → Go Z Z' H H' fp → RepN Z' H' ts vs fp
  | [], _, _, h, _ => by unfold RepN at h ⊢; exact h
  | (k, t) :: ts, vs, fp, h, g => by
    unfold RepN at h ⊢
    obtain ⟨v, vs', f1, f2, e1, e2, a, b⟩ := h
    subst e2
    exact ⟨v, vs', f1, f2, e1, rfl, Rep.go t v f1 a g.l, RepN.go ts vs' f2 b g.r⟩
end
end
end Rs
set_option maxHeartbeats 4000000
namespace Rs
open PySem L2 PySem.Spec PyProof.Rows
section
variable {Z Z' : Addr → Prop} {H H' : Hp}
def NoTup (H : Hp) (a : Addr) : Prop := ∃ o, H a = some o ∧ tupOf o = none
theorem top_there {o : Bool} {a : Addr} {fp fp' : List Addr} (c : if o = true then fp = a :: fp' else Z a ∧ fp' = [] ∧ fp = []) (h : NoTup H a) (h' : ∀ b ∈ fp', NoTup H b) : ∀ b ∈ fp, NoTup H b := by
  cases o with
  | true =>
    have c' : fp = a :: fp' := by simpa using c
    subst c'
    intro b hb
    rcases List.mem_cons.mp hb with rfl | hb
    · exact h
    · exact h' b hb
  | false =>
    obtain ⟨_, _, c'⟩ : Z a ∧ fp' = [] ∧ fp = [] := by simpa using c
    subst c'
    exact fun b hb => (List.not_mem_nil hb).elim
mutual
theorem Rep.there : ∀ (t : T) (v : V) (fp : List Addr), Rep Z H t v fp → ∀ a ∈ fp, NoTup H a
  | .non, _, fp, h => by unfold Rep at h; rw [h.2]; exact fun a ha => (List.not_mem_nil ha).elim
  | .bl _, _, fp, h => by unfold Rep at h; rw [h.2]; exact fun a ha => (List.not_mem_nil ha).elim
  | .int _, _, fp, h => by unfold Rep at h; rw [h.2]; exact fun a ha => (List.not_mem_nil ha).elim
  | .str _, _, fp, h => by unfold Rep at h; rw [h.2]; exact fun a ha => (List.not_mem_nil ha).elim
  | .ty _, _, fp, h => by unfold Rep at h; rw [h.2]; exact fun a ha => (List.not_mem_nil ha).elim
  | .tup ts, v, fp, h => by
    unfold Rep at h
    obtain ⟨a, vs, e1, e2, r⟩ := h
    exact Reps.there ts vs fp r
  | .lst o ts, v, fp, h => by
    unfold Rep at h
    obtain ⟨a, vs, fp', e1, e2, r, c⟩ := h
    exact top_there c ⟨_, e2, rfl⟩ (Reps.there ts vs fp' r)
  | .dk o ts, v, fp, h => by
    unfold Rep at h
    obtain ⟨a, vs, fp', e1, e2, r, c⟩ := h
    exact top_there c ⟨_, e2, rfl⟩ (RepK.there ts vs fp' r)
  | .lk od ws ts, v, fp, h => by
    unfold Rep at h
    obtain ⟨a, fp', e1, e2, r, c⟩ := h
    subst c
    intro b hb
    rcases List.mem_cons.mp hb with q | q
    · rw [q]
      exact ⟨_, e2, rfl⟩
    · exact RepK.there ts ws fp' r b q
  | .dn P w o ts, v, fp, h => by
    unfold Rep at h
    obtain ⟨a, vs, fp', e1, e2, r, c⟩ := h
    obtain ⟨es, z, _⟩ := e2
    exact top_there c ⟨_, z, rfl⟩ (RepN.there ts vs fp' r)
  | .pin ks, v, fp, h => by
    unfold Rep at h
    rw [h.2]
    exact fun a ha => (List.not_mem_nil ha).elim
  | .ptp ts, v, fp, h => by
    unfold Rep at h
    obtain ⟨a, o, vs, e1, e2, e3, r⟩ := h
    exact Reps.there ts vs fp r
  | .obj o u, v, fp, h => by
    unfold Rep at h
    obtain ⟨a, fp', e1, e2, e3, e4, c⟩ := h
    exact top_there c ⟨_, e2, e3⟩ (by rw [e4]; exact fun a ha => (List.not_mem_nil ha).elim)
  | .abs rep, v, fp, h => by
    unfold Rep at h
    exact h.1.there _ _ _ h.2
theorem Reps.there : ∀ (ts : List T) (vs : List V) (fp : List Addr), Reps Z H ts vs fp → ∀ a ∈ fp, NoTup H a
  | [], _, fp, h => by unfold Reps at h; rw [h.2]; exact fun a ha => (List.not_mem_nil ha).elim
  | t :: ts, vs, fp, h => by
    unfold Reps at h
    obtain ⟨v, vs', f1, f2, e1, e2, a, b⟩ := h
    subst e2
    intro x hx
    rcases List.mem_append.mp hx with hx | hx
    · exact Rep.there t v f1 a x hx
    · exact Reps.there ts vs' f2 b x hx
theorem RepK.there : ∀ (ts : List (Key × T)) (vs : List (Key × V)) (fp : List Addr), RepK Z H ts vs fp → ∀ a ∈ fp, NoTup H a
  | [], _, fp, h => by unfold RepK at h; rw [h.2]; exact fun a ha => (List.not_mem_nil ha).elim
  | (k, t) :: ts, vs, fp, h => by
    unfold RepK at h
    obtain ⟨v, vs', f1, f2, e1, e2, a, b⟩ := h
    subst e2
    intro x hx
    rcases List.mem_append.mp hx with hx | hx
    · exact Rep.there t v f1 a x hx
    · exact RepK.there ts vs' f2 b x hx
theorem RepN.there : ∀ (ts : List (NestedKey × T)) (vs : List (NestedKey × V)) (fp : List Addr), RepN Z H ts vs fp → ∀ a ∈ fp, NoTup H a
  | [], _, fp, h => by unfold RepN at h; rw [h.2]; exact fun a ha => (List.not_mem_nil ha).elim
  | (k, t) :: ts, vs, fp, h => by
    unfold RepN at h
    obtain ⟨v, vs', f1, f2, e1, e2, a, b⟩ := h
    subst e2
    intro x hx
    rcases List.mem_append.mp hx with hx | hx
    · exact Rep.there t v f1 a x hx
    · exact RepN.there ts vs' f2 b x hx
end
end
mutual
def T.still : T → Bool
  | .non | .bl _ | .int _ | .str _ | .ty _ => true
  | .tup ts => stillA ts
  | .lst o ts => !o && stillA ts
  | .dk o kvs => !o && stillK kvs
  | .dn _ _ o kvs => !o && stillN kvs
  | .lk _ _ _ => false
  | .pin _ => true
  | .ptp ts => stillA ts
  | .obj o _ => !o
  | .abs _ => false
def stillA : List T → Bool
  | [] => true
  | t :: ts => t.still && stillA ts
def stillK : List (Key × T) → Bool
  | [] => true
  | (_, t) :: ts => t.still && stillK ts
def stillN : List (NestedKey × T) → Bool
  | [] => true
  | (_, t) :: ts => t.still && stillN ts
end
section
variable {Z : Addr → Prop} {H : Hp}
mutual
theorem Rep.still : ∀ (t : T) (v : V) (fp : List Addr), Rep Z H t v fp → t.still = true → fp = []
  | .non, _, fp, h, _ => by unfold Rep at h; exact h.2
  | .bl _, _, fp, h, _ => by unfold Rep at h; exact h.2
  | .int _, _, fp, h, _ => by unfold Rep at h; exact h.2
  | .str _, _, fp, h, _ => by unfold Rep at h; exact h.2
  | .ty _, _, fp, h, _ => by unfold Rep at h; exact h.2
  | .tup ts, v, fp, h, s => by
    unfold Rep at h
    unfold T.still at s
    obtain ⟨a, vs, e1, e2, r⟩ := h
    exact Reps.still ts vs fp r s
  | .lst o ts, v, fp, h, s => by
    unfold Rep at h
    unfold T.still at s
    rw [Bool.and_eq_true, Bool.not_eq_true'] at s
    obtain ⟨a, vs, fp', e1, e2, r, c⟩ := h
    rw [if_neg (by rw [s.1]; exact Bool.false_ne_true)] at c
    exact c.2.2
  | .dk o ts, v, fp, h, s => by
    unfold Rep at h
    unfold T.still at s
    rw [Bool.and_eq_true, Bool.not_eq_true'] at s
    obtain ⟨a, vs, fp', e1, e2, r, c⟩ := h
    rw [if_neg (by rw [s.1]; exact Bool.false_ne_true)] at c
    exact c.2.2
  | .dn P w o ts, v, fp, h, s => by
    unfold Rep at h
    unfold T.still at s
    rw [Bool.and_eq_true, Bool.not_eq_true'] at s
    obtain ⟨a, vs, fp', e1, e2, r, c⟩ := h
    rw [if_neg (by rw [s.1]; exact Bool.false_ne_true)] at c
    exact c.2.2
  | .lk _ _ _, v, fp, h, s => by
    unfold T.still at s
    cases s
  | .pin ks, v, fp, h, _ => by
    unfold Rep at h
    exact h.2
  | .ptp ts, v, fp, h, s => by
    unfold Rep at h
    unfold T.still at s
    obtain ⟨a, o, vs, e1, e2, e3, r⟩ := h
    exact Reps.still ts vs fp r s
  | .obj o u, v, fp, h, s => by
    unfold Rep at h
    unfold T.still at s
    rw [Bool.not_eq_true'] at s
    obtain ⟨a, fp', e1, e2, e3, e4, c⟩ := h
    rw [if_neg (by rw [s]; exact Bool.false_ne_true)] at c
    exact c.2.2
  | .abs rep, v, fp, h, s => by
    unfold T.still at s
    cases s
theorem Reps.still : ∀ (ts : List T) (vs : List V) (fp : List Addr), Reps Z H ts vs fp → stillA ts = true → fp = []
  | [], _, fp, h, _ => by unfold Reps at h; exact h.2
  | t :: ts, vs, fp, h, s => by
    unfold Reps at h
    unfold stillA at s
    rw [Bool.and_eq_true] at s
    obtain ⟨v, vs', f1, f2, e1, e2, a, b⟩ := h
    rw [e2, Rep.still t v f1 a s.1, Reps.still ts vs' f2 b s.2]
    rfl
end
end
mutual
def T.frz : T → T
  | .tup ts => .tup (frzA ts)
  | .ptp ts => .ptp (frzA ts)
  | .lst _ ts => .lst false (frzA ts)
  | .dk _ kvs => .dk false (frzK kvs)
  | .dn P w _ kvs => .dn P w false (frzN kvs)
  | .obj _ u => .obj false u
  | t => t
def frzA : List T → List T
  | [] => []
  | t :: ts => t.frz :: frzA ts
def frzK : List (Key × T) → List (Key × T)
  | [] => []
  | (k, t) :: ts => (k, t.frz) :: frzK ts
def frzN : List (NestedKey × T) → List (NestedKey × T)
  | [] => []
  | (k, t) :: ts => (k, t.frz) :: frzN ts
end
mutual
def T.plain : T → Bool
  | .tup ts => plainA ts
  | .ptp ts => plainA ts
  | .lst _ ts => plainA ts
  | .dk _ kvs => plainK kvs
  | .dn _ _ _ kvs => plainN kvs
  | .lk _ _ _ => false
  | .abs _ => false
  | _ => true
def plainA : List T → Bool
  | [] => true
  | t :: ts => t.plain && plainA ts
def plainK : List (Key × T) → Bool
  | [] => true
  | (_, t) :: ts => t.plain && plainK ts
def plainN : List (NestedKey × T) → Bool
  | [] => true
  | (_, t) :: ts => t.plain && plainN ts
end
section
variable {Z Z' : Addr → Prop} {H : Hp}
theorem top_frz {o : Bool} {a : Addr} {fp fp' : List Addr} (c : if o = true then fp = a :: fp' else Z a ∧ fp' = [] ∧ fp = []) (hz : ∀ a, Z a → Z' a) (hf : ∀ a ∈ fp, Z' a) : (∀ a ∈ fp', Z' a) ∧ Z' a := by
  cases o with
  | true =>
    have c' : fp = a :: fp' := by simpa using c
    subst c'
    exact ⟨fun b hb => hf b (List.mem_cons_of_mem _ hb), hf a List.mem_cons_self⟩
  | false =>
    obtain ⟨c1, c2, _⟩ : Z a ∧ fp' = [] ∧ fp = [] := by simpa using c
    subst c2
    exact ⟨fun b hb => (List.not_mem_nil hb).elim, hz a c1⟩
mutual
theorem Rep.frz : ∀ (t : T) (v : V) (fp : List Addr), Rep Z H t v fp → t.plain = true → (∀ a, Z a → Z' a) → (∀ a ∈ fp, Z' a) → Rep Z' H t.frz v []
  | .non, _, fp, h, _, _, _ => by unfold Rep at h; unfold T.frz Rep; exact ⟨h.1, rfl⟩
  | .bl _, _, fp, h, _, _, _ => by unfold Rep at h; unfold T.frz Rep; exact ⟨h.1, rfl⟩
  | .int _, _, fp, h, _, _, _ => by unfold Rep at h; unfold T.frz Rep; exact ⟨h.1, rfl⟩
  | .str _, _, fp, h, _, _, _ => by unfold Rep at h; unfold T.frz Rep; exact ⟨h.1, rfl⟩
  | .ty _, _, fp, h, _, _, _ => by unfold Rep at h; unfold T.frz Rep; exact ⟨h.1, rfl⟩
  | .tup ts, v, fp, h, p, hz, hf => by
    unfold Rep at h
    unfold T.plain at p
    unfold T.frz Rep
    obtain ⟨a, vs, e1, e2, r⟩ := h
    exact ⟨a, vs, e1, e2, Reps.frz ts vs fp r p hz hf⟩
  | .lst o ts, v, fp, h, p, hz, hf => by
    unfold Rep at h
    unfold T.plain at p
    unfold T.frz Rep
    obtain ⟨a, vs, fp', e1, e2, r, c⟩ := h
    obtain ⟨c1, c2⟩ := top_frz c hz hf
    exact ⟨a, vs, [], e1, e2, Reps.frz ts vs fp' r p hz c1, by simpa using c2⟩
  | .dk o ts, v, fp, h, p, hz, hf => by
    unfold Rep at h
    unfold T.plain at p
    unfold T.frz Rep
    obtain ⟨a, vs, fp', e1, e2, r, c⟩ := h
    obtain ⟨c1, c2⟩ := top_frz c hz hf
    exact ⟨a, vs, [], e1, e2, RepK.frz ts vs fp' r p hz c1, by simpa using c2⟩
  | .dn P w o ts, v, fp, h, p, hz, hf => by
    unfold Rep at h
    unfold T.plain at p
    unfold T.frz Rep
    obtain ⟨a, vs, fp', e1, e2, r, c⟩ := h
    obtain ⟨c1, c2⟩ := top_frz c hz hf
    exact ⟨a, vs, [], e1, e2, RepN.frz ts vs fp' r p hz c1, by simpa using c2⟩
  | .lk _ _ _, v, fp, h, p, _, _ => by unfold T.plain at p; cases p
  | .pin ks, v, fp, h, _, _, _ => by
    unfold Rep at h
    unfold T.frz Rep
    exact ⟨h.1, rfl⟩
  | .ptp ts, v, fp, h, p, hz, hf => by
    unfold Rep at h
    unfold T.plain at p
    unfold T.frz Rep
    obtain ⟨a, o, vs, e1, e2, e3, r⟩ := h
    exact ⟨a, o, vs, e1, e2, e3, Reps.frz ts vs fp r p hz hf⟩
  | .obj o u, v, fp, h, p, hz, hf => by
    unfold Rep at h
    unfold T.frz Rep
    obtain ⟨a, fp', e1, e2, e3, e4, c⟩ := h
    obtain ⟨c1, c2⟩ := top_frz c hz hf
    exact ⟨a, [], e1, e2, e3, rfl, by simpa using c2⟩
  | .abs rep, v, fp, h, p, _, _ => by unfold T.plain at p; cases p
theorem Reps.frz : ∀ (ts : List T) (vs : List V) (fp : List Addr), Reps Z H ts vs fp → plainA ts = true → (∀ a, Z a → Z' a) → (∀ a ∈ fp, Z' a) → Reps Z' H (frzA ts) vs []
  | [], _, fp, h, _, _, _ => by unfold Reps at h; unfold frzA Reps; exact ⟨h.1, rfl⟩
  | t :: ts, vs, fp, h, p, hz, hf => by
    unfold Reps at h
    unfold plainA at p
    rw [Bool.and_eq_true] at p
    unfold frzA Reps
    obtain ⟨v, vs', f1, f2, e1, e2, a, b⟩ := h
    subst e2
    exact ⟨v, vs', [], [], e1, rfl, Rep.frz t v f1 a p.1 hz fun a ha => hf a (List.mem_append_left _ ha), Reps.frz ts vs' f2 b p.2 hz fun a ha => hf a (List.mem_append_right _ ha)⟩
theorem RepK.frz : ∀ (ts : List (Key × T)) (vs : List (Key × V)) (fp : List Addr), RepK Z H ts vs fp → plainK ts = true → (∀ a, Z a → Z' a) → (∀ a ∈ fp, Z' a) → RepK Z' H (frzK ts) vs []
  | [], _, fp, h, _, _, _ => by unfold RepK at h; unfold frzK RepK; exact ⟨h.1, rfl⟩
  | (k, t) :: ts, vs, fp, h, p, hz, hf => by
    unfold RepK at h
    unfold plainK at p
    rw [Bool.and_eq_true] at p
    unfold frzK RepK
    obtain ⟨v, vs', f1, f2, e1, e2, a, b⟩ := h
    subst e2
    exact ⟨v, vs', [], [], e1, rfl, Rep.frz t v f1 a p.1 hz fun a ha => hf a (List.mem_append_left _ ha), RepK.frz ts vs' f2 b p.2 hz fun a ha => hf a (List.mem_append_right _ ha)⟩
theorem RepN.frz : ∀ (ts : List (NestedKey × T)) (vs : List (NestedKey × V)) (fp : List Addr), RepN Z H ts vs fp → plainN ts = true → (∀ a, Z a → Z' a) → (∀ a ∈ fp, Z' a) → RepN Z' H (frzN ts) vs []
  | [], _, fp, h, _, _, _ => by unfold RepN at h; unfold frzN RepN; exact ⟨h.1, rfl⟩
  | (k, t) :: ts, vs, fp, h, p, hz, hf => by
    unfold RepN at h
    unfold plainN at p
    rw [Bool.and_eq_true] at p
    unfold frzN RepN
    obtain ⟨v, vs', f1, f2, e1, e2, a, b⟩ := h
    subst e2
    exact ⟨v, vs', [], [], e1, rfl, Rep.frz t v f1 a p.1 hz fun a ha => hf a (List.mem_append_left _ ha), RepN.frz ts vs' f2 b p.2 hz fun a ha => hf a (List.mem_append_right _ ha)⟩
end
end
def ReO (Z : Addr → Prop) (H : Hp) : List (Option T) → List (Option V) → List Addr → Prop
  | [], vs, fp => vs = [] ∧ fp = []
  | none :: ts, vs, fp => ∃ v vs', vs = v :: vs' ∧ ReO Z H ts vs' fp
  | some t :: ts, vs, fp => ∃ v vs' f1 f2, vs = some v :: vs' ∧ fp = f1 ++ f2 ∧ Rep Z H t v f1 ∧ ReO Z H ts vs' f2
section
variable {Z Z' : Addr → Prop} {H H' : Hp}
theorem ReO.go : ∀ {ts : List (Option T)} {vs : List (Option V)} {fp : List Addr}, ReO Z H ts vs fp → Go Z Z' H H' fp → ReO Z' H' ts vs fp
  | [], _, _, h, _ => h
  | none :: ts, vs, fp, ⟨v, vs', e, h⟩, g => ⟨v, vs', e, ReO.go h g⟩
  | some t :: ts, vs, fp, ⟨v, vs', f1, f2, e1, e2, a, b⟩, g => by
    subst e2
    exact ⟨v, vs', f1, f2, e1, rfl, a.go _ _ _ g.l, ReO.go b g.r⟩
theorem ReO.there : ∀ {ts : List (Option T)} {vs : List (Option V)} {fp : List Addr}, ReO Z H ts vs fp → ∀ a ∈ fp, NoTup H a
  | [], _, fp, h => by rw [h.2]; exact fun a ha => (List.not_mem_nil ha).elim
  | none :: ts, vs, fp, ⟨v, vs', e, h⟩ => ReO.there h
  | some t :: ts, vs, fp, ⟨v, vs', f1, f2, e1, e2, a, b⟩ => by
    subst e2
    intro x hx
    rcases List.mem_append.mp hx with hx | hx
    · exact a.there _ _ _ x hx
    · exact ReO.there b x hx
theorem ReO.len : ∀ {ts : List (Option T)} {vs : List (Option V)} {fp : List Addr}, ReO Z H ts vs fp → vs.length = ts.length
  | [], _, _, h => by rw [h.1]; rfl
  | none :: ts, vs, fp, ⟨v, vs', e, h⟩ => by rw [e, List.length_cons, List.length_cons, ReO.len h]
  | some t :: ts, vs, fp, ⟨v, vs', f1, f2, e1, e2, a, b⟩ => by rw [e1, List.length_cons, List.length_cons, ReO.len b]
theorem ReO.put : ∀ {ts : List (Option T)} {vs : List (Option V)} {fp : List Addr} {i : Nat}, ReO Z H ts vs fp → i < ts.length → ∃ A f B, fp = A ++ (f ++ B) ∧ (∀ t' v' f', Rep Z H t' v' f' → ReO Z H (ts.set i (some t')) (vs.set i (some v')) (A ++ (f' ++ B)))
  | none :: ts, vs, fp, 0, ⟨v, vs', e, h⟩, _ => ⟨[], [], fp, rfl, fun t' v' f' r => by rw [e]; exact ⟨v', vs', f', fp, rfl, rfl, r, h⟩⟩
  | some t :: ts, vs, fp, 0, ⟨v, vs', f1, f2, e1, e2, a, b⟩, _ => ⟨[], f1, f2, e2, fun t' v' f' r => by rw [e1]; exact ⟨v', vs', f', f2, rfl, rfl, r, b⟩⟩
  | none :: ts, vs, fp, i + 1, ⟨v, vs', e, h⟩, hl => by
    obtain ⟨A, f, B, e2, k⟩ := ReO.put h (Nat.lt_of_succ_lt_succ hl)
    exact ⟨A, f, B, e2, fun t' v' f' r => by rw [e]; exact ⟨v, vs'.set i (some v'), rfl, k t' v' f' r⟩⟩
  | some t :: ts, vs, fp, i + 1, ⟨v, vs', f1, f2, e1, e2, a, b⟩, hl => by
    obtain ⟨A, f, B, e3, k⟩ := ReO.put b (Nat.lt_of_succ_lt_succ hl)
    exact ⟨f1 ++ A, f, B, by rw [e2, e3, List.append_assoc], fun t' v' f' r => by rw [e1]; exact ⟨v, vs'.set i (some v'), f1, A ++ (f' ++ B), rfl, by rw [List.append_assoc], a, k t' v' f' r⟩⟩
theorem ReO.take : ∀ {ts : List (Option T)} {vs : List (Option V)} {fp : List Addr} {i : Nat} {t : T}, ReO Z H ts vs fp → ts[i]? = some (some t) → ∃ v A f B, vs[i]? = some (some v) ∧ fp = A ++ (f ++ B) ∧ Rep Z H t v f ∧ ReO Z H (ts.set i none) vs (A ++ B)
  | some t :: ts, vs, fp, 0, t', ⟨v, vs', f1, f2, e1, e2, a, b⟩, hi => by
    cases hi
    exact ⟨v, [], f1, f2, by rw [e1]; rfl, e2, a, by rw [e1]; exact ⟨some v, vs', rfl, b⟩⟩
  | none :: ts, vs, fp, 0, t', h, hi => by cases hi
  | none :: ts, vs, fp, i + 1, t', ⟨v, vs', e, h⟩, hi => by
    obtain ⟨u, A, f, B, e1, e2, r, k⟩ := ReO.take (i := i) h hi
    exact ⟨u, A, f, B, by rw [e]; exact e1, e2, r, by rw [e]; exact ⟨v, vs', rfl, k⟩⟩
  | some t :: ts, vs, fp, i + 1, t', ⟨v, vs', f1, f2, e1, e2, a, b⟩, hi => by
    obtain ⟨u, A, f, B, e3, e4, r, k⟩ := ReO.take (i := i) b hi
    exact ⟨u, f1 ++ A, f, B, by rw [e1]; exact e3, by rw [e2, e4, List.append_assoc], r, by rw [e1]; exact ⟨v, vs', f1, A ++ B, rfl, by rw [List.append_assoc], a, k⟩⟩
theorem ReO.give : ∀ {ts : List (Option T)} {vs : List (Option V)} {fp : List Addr} {i : Nat} {t : T} {v : V} {f : List Addr}, ReO Z H ts vs fp → ts[i]? = some none → vs[i]? = some (some v) → Rep Z H t v f → ∃ A B, fp = A ++ B ∧ ReO Z H (ts.set i (some t)) vs (A ++ (f ++ B))
  | none :: ts, vs, fp, 0, t, v, f, ⟨u, vs', e, h⟩, _, hv, r => by
    rw [e] at hv
    cases hv
    exact ⟨[], fp, rfl, by rw [e]; exact ⟨v, vs', f, fp, rfl, rfl, r, h⟩⟩
  | some _ :: ts, vs, fp, 0, t, v, f, _, hi, _, _ => by cases hi
  | none :: ts, vs, fp, i + 1, t, v, f, ⟨u, vs', e, h⟩, hi, hv, r => by
    rw [e] at hv
    obtain ⟨A, B, e2, k⟩ := ReO.give (i := i) h hi hv r
    exact ⟨A, B, e2, by rw [e]; exact ⟨u, vs', rfl, k⟩⟩
  | some t' :: ts, vs, fp, i + 1, t, v, f, ⟨u, vs', f1, f2, e1, e2, a, b⟩, hi, hv, r => by
    rw [e1] at hv
    obtain ⟨A, B, e3, k⟩ := ReO.give (i := i) b hi hv r
    exact ⟨f1 ++ A, B, by rw [e2, e3, List.append_assoc], by rw [e1]; exact ⟨u, vs', f1, A ++ (f ++ B), rfl, by rw [List.append_assoc], a, k⟩⟩
theorem Reps.split : ∀ {as bs : List T} {vs : List V} {fp : List Addr}, Reps Z H (as ++ bs) vs fp → ∃ v1 v2 f1 f2, vs = v1 ++ v2 ∧ v1.length = as.length ∧ fp = f1 ++ f2 ∧ Reps Z H as v1 f1 ∧ Reps Z H bs v2 f2
  | [], bs, vs, fp, h => ⟨[], vs, [], fp, rfl, rfl, rfl, by unfold Reps; exact ⟨rfl, rfl⟩, h⟩
  | t :: as, bs, vs, fp, h => by
    rw [List.cons_append] at h
    unfold Reps at h
    obtain ⟨v, vs', f1, f2, e1, e2, a, b⟩ := h
    obtain ⟨v1, v2, g1, g2, e3, e4, e5, c, d⟩ := Reps.split b
    refine ⟨v :: v1, v2, f1 ++ g1, g2, by rw [e1, e3]; rfl, by rw [List.length_cons, List.length_cons, e4], by rw [e2, e5, List.append_assoc], ?_, d⟩
    unfold Reps
    exact ⟨v, v1, f1, g1, rfl, rfl, a, c⟩
theorem Reps.join : ∀ {as bs : List T} {v1 v2 : List V} {f1 f2 : List Addr}, Reps Z H as v1 f1 → Reps Z H bs v2 f2 → Reps Z H (as ++ bs) (v1 ++ v2) (f1 ++ f2)
  | [], bs, v1, v2, f1, f2, h, k => by
    unfold Reps at h
    rw [h.1, h.2]
    exact k
  | t :: as, bs, v1, v2, f1, f2, h, k => by
    unfold Reps at h
    obtain ⟨v, vs', g1, g2, e1, e2, a, b⟩ := h
    rw [List.cons_append]
    unfold Reps
    exact ⟨v, vs' ++ v2, g1, g2 ++ f2, by rw [e1]; rfl, by rw [e2, List.append_assoc], a, Reps.join b k⟩
theorem Reps.len : ∀ {ts : List T} {vs : List V} {fp : List Addr}, Reps Z H ts vs fp → vs.length = ts.length
  | [], _, _, h => by unfold Reps at h; rw [h.1]; rfl
  | t :: ts, _, _, h => by
    unfold Reps at h
    obtain ⟨v, vs', f1, f2, e1, e2, a, b⟩ := h
    rw [e1, List.length_cons, List.length_cons, Reps.len b]
theorem Reps.one {t : T} {v : V} {f : List Addr} (h : Rep Z H t v f) : Reps Z H [t] [v] f := by
  unfold Reps
  exact ⟨v, [], f, [], rfl, (List.append_nil f).symm, h, by unfold Reps; exact ⟨rfl, rfl⟩⟩
end
end Rs
set_option maxHeartbeats 4000000
namespace Rs
open PySem L2 PySem.Spec PyProof.Rows
structure Fr where
  Z0 : Addr → Prop
  H0 : Hp
  io : List Addr
def Zf (fr : Fr) (fp : List Addr) (a : Addr) : Prop := a ∉ fp ∧ (fr.Z0 a ∨ fr.H0 a = none ∨ a ∈ fr.io)
structure Rf (fr : Fr) (pn : List Nat) (pv : Nat → V) (tmp : List T) (tv : List V) (sl : List (Option T)) (σ : L2.St) (H : Hp) (f1 f2 : List Addr) : Prop where
  hands : Reps (Zf fr (f1 ++ f2)) H tmp tv f1
  slots : ReO (Zf fr (f1 ++ f2)) H sl σ f2
  nd : (f1 ++ f2).Nodup
  own : ∀ a ∈ f1 ++ f2, fr.H0 a = none ∨ a ∈ fr.io
  fm : Fm fr.io fr.H0 H
  pins : ∀ j ∈ pn, σ[j]? = some (some (pv j))
def R (fr : Fr) (pn : List Nat) (pv : Nat → V) (tmp : List T) (tv : List V) (sl : List (Option T)) (σ : L2.St) (H : Hp) : Prop := ∃ f1 f2, Rf fr pn pv tmp tv sl σ H f1 f2
section
variable {fr : Fr} {pn : List Nat} {pv : Nat → V} {tmp ts : List T} {tv vs : List V} {sl : List (Option T)} {σ : L2.St} {H H' : Hp} {t : T} {v : V} {fp fp' : List Addr}
theorem Zf.mono (h : ∀ a ∈ fp', a ∈ fp) : ∀ a, Zf fr fp a → Zf fr fp' a := fun a z => ⟨fun q => z.1 (h a q), z.2⟩
theorem Go.same {Z Z' : Addr → Prop} {f : List Addr} (h : ∀ a, Z a → Z' a) : Go Z Z' H H f := ⟨fun _ _ e _ => e, fun a o z e => ⟨h a z, e⟩, fun _ _ _ e => e⟩
theorem R.grow (r : R fr pn pv tmp tv sl σ H) (f : Fm [] H H') : R fr pn pv tmp tv sl σ H' := by
  obtain ⟨f1, f2, r⟩ := r
  have g : ∀ fp, Go (Zf fr (f1 ++ f2)) (Zf fr (f1 ++ f2)) H H' fp := fun fp => ⟨fun a _ e _ => f a _ e List.not_mem_nil, fun a o z e => ⟨z, f a o e List.not_mem_nil⟩, fun a _ o e => f a o e List.not_mem_nil⟩
  exact ⟨f1, f2, r.hands.go _ _ _ (g _), r.slots.go (g _), r.nd, r.own, r.fm.trans f.nil, r.pins⟩
theorem R.pop (r : R fr pn pv (t :: tmp) (v :: tv) sl σ H) : R fr pn pv tmp tv sl σ H := by
  obtain ⟨f1, f2, r⟩ := r
  have h := r.hands
  unfold Reps at h
  obtain ⟨v', vs', g1, g2, e1, e2, a, b⟩ := h
  cases e1
  have sub : ∀ x ∈ g2 ++ f2, x ∈ f1 ++ f2 := fun x hx => by
    rw [e2, List.append_assoc]
    exact List.mem_append_right _ hx
  refine ⟨g2, f2, b.go _ _ _ (Go.same (Zf.mono sub)), r.slots.go (Go.same (Zf.mono sub)), ?_, fun x hx => r.own x (sub x hx), r.fm, r.pins⟩
  have nd := r.nd
  rw [e2, List.append_assoc] at nd
  exact (List.nodup_append.mp nd).2.1
theorem R.top (r : R fr pn pv (t :: tmp) (v :: tv) sl σ H) : ∃ Z f, Rep Z H t v f := by
  obtain ⟨f1, f2, r⟩ := r
  have h := r.hands
  unfold Reps at h
  obtain ⟨v', vs', g1, g2, e1, e2, a, b⟩ := h
  cases e1
  exact ⟨_, _, a⟩
theorem Rf.still {f1 f2 : List Addr} (r : Rf fr pn pv tmp tv sl σ H f1 f2) (h : Rep (Zf fr (f1 ++ f2)) H t v []) : R fr pn pv (t :: tmp) (v :: tv) sl σ H :=
  ⟨f1, f2, by unfold Reps; exact ⟨v, tv, [], f1, rfl, rfl, h, r.hands⟩, r.slots, r.nd, r.own, r.fm, r.pins⟩
theorem R.lit (r : R fr pn pv tmp tv sl σ H) (h : ∀ Z, Rep Z H t v []) : R fr pn pv (t :: tmp) (v :: tv) sl σ H := by
  obtain ⟨f1, f2, r⟩ := r
  exact r.still (h _)
theorem R.copy {i : Nat} (r : R fr pn pv tmp tv sl σ H) (hi : sl[i]? = some (some t)) (hs : t.still = true) : ∃ v, σ[i]? = some (some v) ∧ R fr pn pv (t :: tmp) (v :: tv) sl σ H := by
  obtain ⟨f1, f2, r⟩ := r
  obtain ⟨v, A, f, B, e1, e2, a, _⟩ := r.slots.take hi
  have hf := Rep.still _ _ _ a hs
  subst hf
  exact ⟨v, e1, r.still a⟩
theorem R.slot {i : Nat} (r : R fr pn pv tmp tv sl σ H) (hi : sl[i]? = some (some t)) : ∃ v Z f, σ[i]? = some (some v) ∧ Rep Z H t v f := by
  obtain ⟨f1, f2, r⟩ := r
  obtain ⟨v, A, f, B, e1, e2, a, _⟩ := r.slots.take hi
  exact ⟨v, _, f, e1, a⟩
theorem nodup_move {α : Type} {a b A B : List α} (h : (a ++ b ++ (A ++ B)).Nodup) : (b ++ (A ++ (a ++ B))).Nodup := by
  refine (List.Perm.nodup_iff ?_).mpr h
  have h1 : (b ++ (A ++ (a ++ B))).Perm (b ++ (a ++ (A ++ B))) := by
    refine List.Perm.append_left b ?_
    rw [← List.append_assoc, ← List.append_assoc]
    exact List.Perm.append_right B List.perm_append_comm
  refine h1.trans ?_
  rw [← List.append_assoc]
  exact List.Perm.append_right _ List.perm_append_comm
theorem R.put {i : Nat} (r : R fr pn pv (t :: tmp) (v :: tv) sl σ H) (hi : i < sl.length) (hp : i ∉ pn) : R fr pn pv tmp tv (sl.set i (some t)) (σ.set i (some v)) H := by
  obtain ⟨f1, f2, r⟩ := r
  have h := r.hands
  unfold Reps at h
  obtain ⟨v', vs', g1, g2, e1, e2, a, b⟩ := h
  cases e1
  obtain ⟨A, f, B, e3, k⟩ := r.slots.put hi
  have sub : ∀ x ∈ g2 ++ (A ++ (g1 ++ B)), x ∈ f1 ++ f2 := fun x hx => by
    rw [e2, e3]
    simp only [List.mem_append] at hx ⊢
    rcases hx with h | h | h | h
    · exact .inl (.inr h)
    · exact .inr (.inl h)
    · exact .inl (.inl h)
    · exact .inr (.inr (.inr h))
  have nd := r.nd
  rw [e2, e3] at nd
  have nd2 : (g1 ++ g2 ++ (A ++ B)).Nodup := by
    refine List.Nodup.sublist ?_ nd
    refine List.Sublist.append_left (List.Sublist.append_left (List.sublist_append_right _ _) _) _
  refine ⟨g2, A ++ (g1 ++ B), b.go _ _ _ (Go.same (Zf.mono sub)), ?_, nodup_move nd2, fun x hx => r.own x (sub x hx), r.fm, fun j hj => ?_⟩
  · exact (k t v g1 a).go (Go.same (Zf.mono sub))
  · rw [List.getElem?_set_ne (fun z : i = j => hp (by rw [z]; exact hj))]
    exact r.pins j hj
theorem R.take {i : Nat} (r : R fr pn pv tmp tv sl σ H) (hi : sl[i]? = some (some t)) : ∃ v, σ[i]? = some (some v) ∧ R fr pn pv (t :: tmp) (v :: tv) (sl.set i none) σ H := by
  obtain ⟨f1, f2, r⟩ := r
  obtain ⟨v, A, f, B, e1, e2, a, k⟩ := r.slots.take hi
  have sub : ∀ x, x ∈ (f ++ f1) ++ (A ++ B) ↔ x ∈ f1 ++ f2 := fun x => by
    rw [e2]
    simp only [List.mem_append]
    constructor
    · rintro ((h | h) | (h | h))
      · exact .inr (.inr (.inl h))
      · exact .inl h
      · exact .inr (.inl h)
      · exact .inr (.inr (.inr h))
    · rintro (h | h | h | h)
      · exact .inl (.inr h)
      · exact .inr (.inl h)
      · exact .inl (.inl h)
      · exact .inr (.inr h)
  have nd := r.nd
  rw [e2] at nd
  refine ⟨v, e1, f ++ f1, A ++ B, ?_, k.go (Go.same (Zf.mono fun x hx => (sub x).mp hx)), ?_, fun x hx => r.own x ((sub x).mp hx), r.fm, r.pins⟩
  · unfold Reps
    exact ⟨v, tv, f, f1, rfl, rfl, a.go _ _ _ (Go.same (Zf.mono fun x hx => (sub x).mp hx)), r.hands.go _ _ _ (Go.same (Zf.mono fun x hx => (sub x).mp hx))⟩
  · refine (List.Perm.nodup_iff ?_).mpr nd
    have h1 : (f1 ++ (A ++ (f ++ B))).Perm (f1 ++ (f ++ (A ++ B))) := by
      refine List.Perm.append_left f1 ?_
      rw [← List.append_assoc, ← List.append_assoc]
      exact List.Perm.append_right B List.perm_append_comm
    refine List.Perm.symm (h1.trans ?_)
    rw [← List.append_assoc]
    exact List.Perm.append_right _ List.perm_append_comm
theorem R.give {i : Nat} (r : R fr pn pv (t :: tmp) (v :: tv) sl σ H) (hi : sl[i]? = some none) (hv : σ[i]? = some (some v)) : R fr pn pv tmp tv (sl.set i (some t)) σ H := by
  obtain ⟨f1, f2, r⟩ := r
  have h := r.hands
  unfold Reps at h
  obtain ⟨v', vs', g1, g2, e1, e2, a, b⟩ := h
  cases e1
  obtain ⟨A, B, e3, k⟩ := r.slots.give hi hv a
  have sub : ∀ x ∈ g2 ++ (A ++ (g1 ++ B)), x ∈ f1 ++ f2 := fun x hx => by
    rw [e2, e3]
    simp only [List.mem_append] at hx ⊢
    rcases hx with h | h | h | h
    · exact .inl (.inr h)
    · exact .inr (.inl h)
    · exact .inl (.inl h)
    · exact .inr (.inr h)
  have nd := r.nd
  rw [e2, e3] at nd
  exact ⟨g2, A ++ (g1 ++ B), b.go _ _ _ (Go.same (Zf.mono sub)), k.go (Go.same (Zf.mono sub)), nodup_move nd, fun x hx => r.own x (sub x hx), r.fm, r.pins⟩
theorem R.freeze (r : R fr pn pv (t :: tmp) (v :: tv) sl σ H) (hp : t.plain = true) : R fr pn pv (t.frz :: tmp) (v :: tv) sl σ H := by
  obtain ⟨f1, f2, r⟩ := r
  have h := r.hands
  unfold Reps at h
  obtain ⟨v', vs', g1, g2, e1, e2, a, b⟩ := h
  cases e1
  have sub : ∀ x ∈ g2 ++ f2, x ∈ f1 ++ f2 := fun x hx => by
    rw [e2, List.append_assoc]
    exact List.mem_append_right _ hx
  have nd := r.nd
  rw [e2, List.append_assoc] at nd
  have nd' := List.nodup_append.mp nd
  refine ⟨g2, f2, ?_, r.slots.go (Go.same (Zf.mono sub)), nd'.2.1, fun x hx => r.own x (sub x hx), r.fm, r.pins⟩
  unfold Reps
  refine ⟨v, tv, [], g2, rfl, rfl, a.frz _ _ _ hp (Zf.mono sub) (fun x hx => ⟨fun z => nd'.2.2 x hx x z rfl, ?_⟩), b.go _ _ _ (Go.same (Zf.mono sub))⟩
  have := r.own x (by rw [e2, List.append_assoc]; exact List.mem_append_left _ hx)
  exact .inr this
theorem go_new {Z Z' : Addr → Prop} {p : Addr} {o : HO} {f : List Addr} (hp : H p = none) (h : ∀ a, a ≠ p → Z a → Z' a) : Go Z Z' H (upd H p o) f :=
  ⟨fun a _ e _ => by rw [upd_ne (ne_of_none e hp)]; exact e, fun a u z e => ⟨h a (ne_of_none e hp) z, by rw [upd_ne (ne_of_none e hp)]; exact e⟩, fun a _ u e => by rw [upd_ne (ne_of_none e hp)]; exact e⟩
theorem newOwn {p : Addr} (f : Fm fr.io fr.H0 H) (hp : H p = none) : fr.H0 p = none ∨ p ∈ fr.io := by
  by_cases h : p ∈ fr.io
  · exact .inr h
  · exact .inl (f.none hp h)
theorem R.mkTup {p : Addr} (r : R fr pn pv (ts ++ tmp) (vs ++ tv) sl σ H) (hl : vs.length = ts.length) (hp : H p = none) : R fr pn pv (.tup ts :: tmp) (.ref p :: tv) sl σ (upd H p (.tup vs)) := by
  obtain ⟨f1, f2, r⟩ := r
  obtain ⟨v1, v2, g1, g2, e1, e2, e3, a, b⟩ := r.hands.split
  obtain ⟨q1, q2⟩ := List.append_inj e1 (by omega)
  subst q1
  subst q2
  have g : ∀ f, Go (Zf fr (f1 ++ f2)) (Zf fr (f1 ++ f2)) H (upd H p (.tup vs)) f := fun f => go_new hp fun _ _ z => z
  refine ⟨f1, f2, ?_, r.slots.go (g _), r.nd, r.own, r.fm.thenNew hp, r.pins⟩
  unfold Reps
  refine ⟨.ref p, tv, g1, g2, rfl, e3, ?_, b.go _ _ _ (g _)⟩
  unfold Rep
  exact ⟨p, vs, rfl, .of upd_same, a.go _ _ _ (g _)⟩
theorem R.mkLst {p : Addr} (r : R fr pn pv (ts ++ tmp) (vs ++ tv) sl σ H) (hl : vs.length = ts.length) (hp : H p = none) : R fr pn pv (.lst true ts :: tmp) (.ref p :: tv) sl σ (upd H p (.lst vs)) := by
  obtain ⟨f1, f2, r⟩ := r
  obtain ⟨v1, v2, g1, g2, e1, e2, e3, a, b⟩ := r.hands.split
  obtain ⟨q1, q2⟩ := List.append_inj e1 (by omega)
  subst q1
  subst q2
  have np : p ∉ f1 ++ f2 := fun z => by
    rcases List.mem_append.mp z with z | z
    · obtain ⟨o, e, _⟩ := r.hands.there _ _ _ p z
      rw [hp] at e
      cases e
    · obtain ⟨o, e, _⟩ := r.slots.there p z
      rw [hp] at e
      cases e
  have g : ∀ f, Go (Zf fr (f1 ++ f2)) (Zf fr ((p :: f1) ++ f2)) H (upd H p (.lst vs)) f := fun f => go_new hp fun a ha z => ⟨fun q => by
    rcases List.mem_cons.mp (show a ∈ p :: (f1 ++ f2) from q) with q | q
    · exact ha q
    · exact z.1 q, z.2⟩
  refine ⟨p :: f1, f2, ?_, r.slots.go (g _), List.nodup_cons.mpr ⟨np, r.nd⟩, fun x hx => ?_, r.fm.thenNew hp, r.pins⟩
  · unfold Reps
    refine ⟨.ref p, tv, p :: g1, g2, rfl, by rw [e3]; rfl, ?_, b.go _ _ _ (g _)⟩
    unfold Rep
    exact ⟨p, vs, g1, rfl, upd_same, a.go _ _ _ (g _), by simp⟩
  · rcases List.mem_cons.mp (show x ∈ p :: (f1 ++ f2) from hx) with q | q
    · rw [q]
      exact newOwn r.fm hp
    · exact r.own x q
end
end Rs
set_option maxHeartbeats 4000000
namespace Rs
open PySem L2 PySem.Spec PyProof.Rows
abbrev Sl := List (Option T)
inductive Opd where
  | sl (i : Nat)
  | tp (t : T)
def Opd.on : Opd → List T → List T
  | .sl _, tmp => tmp
  | .tp t, tmp => t :: tmp
def Opd.val (s : Sl) : Opd → Option T
  | .sl i => (s[i]?).join
  | .tp t => some t
structure KS where
  nx : Sl → Prop
  rt : T → Sl → Prop
  bk : Sl → Prop := fun _ => False
  ct : Sl → Prop := fun _ => False
section
variable (fr : Fr) (pn : List Nat)
def WE (tmp : List T) (sl : Sl) (t : TE) (K : T → Sl → Prop) : Prop := ∀ pv tv σ H (Q : VK), R fr pn pv tmp tv sl σ H → (∀ t' sl' v H', K t' sl' → R fr pn pv (t' :: tmp) (v :: tv) sl' σ H' → Q v H') → t σ H Q
def WB (tmp : List T) (sl : Sl) (t : TE) (K : Opd → Sl → Prop) : Prop := ∀ pv tv σ H (Q : VK), R fr pn pv tmp tv sl σ H → (∀ i sl' v H', K (.sl i) sl' → σ[i]? = some (some v) → R fr pn pv tmp tv sl' σ H' → Q v H') →
  (∀ t' sl' v H', K (.tp t') sl' → R fr pn pv (t' :: tmp) (v :: tv) sl' σ H' → Q v H') → t σ H Q
def WT (tmp : List T) (sl : Sl) (t : TT) (K : Bool → Sl → Prop) : Prop := ∀ pv tv σ H (Q : Bool → Hp → Prop), R fr pn pv tmp tv sl σ H → (∀ b sl' H', K b sl' → R fr pn pv tmp tv sl' σ H' → Q b H') → t σ H Q
def WA (tmp : List T) (sl : Sl) (t : TA) (K : List T → Sl → Prop) : Prop := ∀ pv tv σ H (Q : List V → Hp → Prop), R fr pn pv tmp tv sl σ H → (∀ ts sl' vs H', K ts sl' → vs.length = ts.length → R fr pn pv (ts ++ tmp) (vs ++ tv) sl' σ H' → Q vs H') → t σ H Q
inductive Opds (σ : L2.St) : List Opd → List V → List T → List V → Prop where
  | nil : Opds σ [] [] [] []
  | sl {i : Nat} {v : V} {os : List Opd} {vs : List V} {ts : List T} {us : List V} : σ[i]? = some (some v) → Opds σ os vs ts us → Opds σ (.sl i :: os) (v :: vs) ts us
  | tp {t : T} {v : V} {os : List Opd} {vs : List V} {ts : List T} {us : List V} : Opds σ os vs ts us → Opds σ (.tp t :: os) (v :: vs) (t :: ts) (v :: us)
def WO (tmp : List T) (sl : Sl) (t : TA) (K : List Opd → Sl → Prop) : Prop := ∀ pv tv σ H (Q : List V → Hp → Prop), R fr pn pv tmp tv sl σ H → (∀ os sl' vs ts us H', K os sl' → Opds σ os vs ts us → R fr pn pv (ts ++ tmp) (us ++ tv) sl' σ H' → Q vs H') → t σ H Q
def WS (tmp : List T) (sl : Sl) (t : TS) (K : KS) : Prop := ∀ pv tv σ H (D : Ends), R fr pn pv tmp tv sl σ H → (∀ sl' σ' H', K.nx sl' → R fr pn pv tmp tv sl' σ' H' → D.nx σ' H') → (∀ t' sl' v σ' H', K.rt t' sl' → R fr pn pv (t' :: tmp) (v :: tv) sl' σ' H' → D.rt v H') →
  (∀ sl' σ' H', K.bk sl' → R fr pn pv tmp tv sl' σ' H' → D.bk σ' H') → (∀ sl' σ' H', K.ct sl' → R fr pn pv tmp tv sl' σ' H' → D.ct σ' H') → t D σ H
def WG (tmp : List T) (sl : Sl) (g : TG) (x : T) (K : Sl → Prop) : Prop := ∀ pv v tv σ H (Q : L2.St → Hp → Prop), R fr pn pv (x :: tmp) (v :: tv) sl σ H → (∀ sl' σ' H', K sl' → R fr pn pv tmp tv sl' σ' H' → Q σ' H') → g v σ H Q
end
section
variable {fr : Fr} {pn : List Nat} {tmp ts : List T} {sl : Sl} {KE : T → Sl → Prop} {KB : Opd → Sl → Prop} {KT : Bool → Sl → Prop} {KA : List T → Sl → Prop} {KO : List Opd → Sl → Prop} {K : KS} {KG : Sl → Prop} {te ta tb tc : TE} {t t2 : T} {c d : TT} {args : TA} {s u : TS} {g : TG} {i : Nat}
theorem wb_var (h : ∃ t, sl[i]? = some (some t)) (k : KB (.sl i) sl) : WB fr pn tmp sl (tVar i) KB := fun pv tv σ H Q r q _ => by
  obtain ⟨t, h⟩ := h
  obtain ⟨v, Z, f, e, _⟩ := r.slot h
  exact ⟨v, e, q i sl v H k e r⟩
theorem wb_of (h : WE fr pn tmp sl te fun t sl' => KB (.tp t) sl') : WB fr pn tmp sl te KB := fun pv tv σ H Q r _ q => h pv tv σ H Q r fun t' sl' v H' k r' => q t' sl' v H' k r'
theorem we_var (h : sl[i]? = some (some t)) (hs : t.still = true) (k : KE t sl) : WE fr pn tmp sl (tVar i) KE := fun pv tv σ H Q r q => by
  obtain ⟨v, e, r'⟩ := r.copy h hs
  exact ⟨v, e, q t sl v H k r'⟩
theorem we_move (h : sl[i]? = some (some t)) (k : KE t (sl.set i none)) : WE fr pn tmp sl (tVar i) KE := fun pv tv σ H Q r q => by
  obtain ⟨v, e, r'⟩ := r.take h
  exact ⟨v, e, q t _ v H k r'⟩
theorem we_int {n : Int} (k : KE (.int n) sl) : WE fr pn tmp sl (tC (.int n)) KE := fun pv tv σ H Q r q => q _ sl _ H k (r.lit fun Z => by unfold Rep; exact ⟨rfl, rfl⟩)
theorem we_str {x : Str} (k : KE (.str x) sl) : WE fr pn tmp sl (tC (.str x)) KE := fun pv tv σ H Q r q => q _ sl _ H k (r.lit fun Z => by unfold Rep; exact ⟨rfl, rfl⟩)
theorem we_bl {b : Bool} (k : KE (.bl b) sl) : WE fr pn tmp sl (tC (.bl b)) KE := fun pv tv σ H Q r q => q _ sl _ H k (r.lit fun Z => by unfold Rep; exact ⟨rfl, rfl⟩)
theorem we_non (k : KE .non sl) : WE fr pn tmp sl (tC .non) KE := fun pv tv σ H Q r q => q _ sl _ H k (r.lit fun Z => by unfold Rep; exact ⟨rfl, rfl⟩)
theorem we_still (h : WE fr pn tmp sl te fun t sl' => t.plain = true ∧ KE t.frz sl') : WE fr pn tmp sl te KE := fun pv tv σ H Q r q => h pv tv σ H Q r fun t' sl' v H' k r' => q _ sl' v H' k.2 (r'.freeze k.1)
theorem R.rot {fr : Fr} {pn : List Nat} {pv : Nat → V} {tmp ts : List T} {tv vs : List V} {sl : Sl} {σ : L2.St} {H : Hp} {t : T} {v : V} (r : R fr pn pv (ts ++ t :: tmp) (vs ++ v :: tv) sl σ H) (hl : vs.length = ts.length) : R fr pn pv (t :: (ts ++ tmp)) (v :: (vs ++ tv)) sl σ H := by
  obtain ⟨f1, f2, r⟩ := r
  obtain ⟨v1, v2, g1, g2, e1, e2, e3, a, b⟩ := r.hands.split
  obtain ⟨q1, q2⟩ := List.append_inj e1 (by omega)
  subst q1
  subst q2
  unfold Reps at b
  obtain ⟨v', vs', k1, k2, e4, e5, b1, b2⟩ := b
  cases e4
  have sub : ∀ x, x ∈ (k1 ++ (g1 ++ k2)) ++ f2 ↔ x ∈ f1 ++ f2 := fun x => by
    rw [e3, e5]
    simp only [List.mem_append]
    constructor
    · rintro ((h | h | h) | h)
      · exact .inl (.inr (.inl h))
      · exact .inl (.inl h)
      · exact .inl (.inr (.inr h))
      · exact .inr h
    · rintro ((h | h | h) | h)
      · exact .inl (.inr (.inl h))
      · exact .inl (.inl h)
      · exact .inl (.inr (.inr h))
      · exact .inr h
  have go : ∀ f, Go (Zf fr (f1 ++ f2)) (Zf fr ((k1 ++ (g1 ++ k2)) ++ f2)) H H f := fun f => Go.same (Zf.mono fun x hx => (sub x).mp hx)
  refine ⟨k1 ++ (g1 ++ k2), f2, ?_, r.slots.go (go _), ?_, fun x hx => r.own x ((sub x).mp hx), r.fm, r.pins⟩
  · unfold Reps
    exact ⟨v, vs ++ tv, k1, g1 ++ k2, rfl, rfl, b1.go _ _ _ (go _), (a.go _ _ _ (go _)).join (b2.go _ _ _ (go _))⟩
  · have nd := r.nd
    rw [e3, e5] at nd
    refine (List.Perm.nodup_iff (List.Perm.append_right f2 ?_)).mpr nd
    rw [← List.append_assoc, ← List.append_assoc]
    exact List.Perm.append_right k2 List.perm_append_comm
theorem wa_nil (k : KA [] sl) : WA fr pn tmp sl tNil KA := fun pv tv σ H Q r q => q [] sl [] H k rfl r
theorem wa_cons (h : WE fr pn tmp sl te fun t sl1 => WA fr pn (t :: tmp) sl1 args fun ts sl2 => KA (t :: ts) sl2) : WA fr pn tmp sl (tCons te args) KA := fun pv tv σ H Q r q =>
  h pv tv σ H _ r fun t1 sl1 v H1 k r1 => k pv (v :: tv) σ H1 _ r1 fun ts sl2 vs H2 k2 hl r2 => q (t1 :: ts) sl2 (v :: vs) H2 k2 (by rw [List.length_cons, List.length_cons, hl]) (r2.rot hl)
theorem wo_nil (k : KO [] sl) : WO fr pn tmp sl tNil KO := fun pv tv σ H Q r q => q [] sl [] [] [] H k .nil r
theorem Opds.len {σ : L2.St} {os : List Opd} {vs us : List V} {ts : List T} (h : Opds σ os vs ts us) : us.length = ts.length := by
  induction h with
  | nil => rfl
  | sl _ _ ih => exact ih
  | tp _ ih => rw [List.length_cons, List.length_cons, ih]
theorem wo_cons (h : WB fr pn tmp sl te fun o sl1 => WO fr pn (o.on tmp) sl1 args fun os sl2 => KO (o :: os) sl2) : WO fr pn tmp sl (tCons te args) KO := fun pv tv σ H Q r q => by
  refine h pv tv σ H _ r (fun i sl1 v H1 k e r1 => ?_) (fun t1 sl1 v H1 k r1 => ?_)
  · exact k pv tv σ H1 _ r1 fun os sl2 vs ts us H2 k2 o r2 => q (.sl i :: os) sl2 (v :: vs) ts us H2 k2 (.sl e o) r2
  · exact k pv (v :: tv) σ H1 _ r1 fun os sl2 vs ts us H2 k2 o r2 => q (.tp t1 :: os) sl2 (v :: vs) (t1 :: ts) (v :: us) H2 k2 (.tp o) (r2.rot o.len)
theorem we_tup (h : WA fr pn tmp sl args fun ts sl' => ts.length ≤ sizeLine ∧ KE (.tup ts) sl') : WE fr pn tmp sl (tTup args) KE := fun pv tv σ H Q r q =>
  h pv tv σ H _ r fun ts sl' vs H' k hl r' => ⟨by rw [hl]; exact k.1, fun p hp => q _ sl' _ _ k.2 (r'.mkTup hl hp)⟩
theorem we_lst (h : WA fr pn tmp sl args fun ts sl' => ts.length ≤ sizeLine ∧ KE (.lst true ts) sl') : WE fr pn tmp sl (tLst args) KE := fun pv tv σ H Q r q =>
  h pv tv σ H _ r fun ts sl' vs H' k hl r' => ⟨by rw [hl]; exact k.1, fun p hp => q _ sl' _ _ k.2 (r'.mkLst hl hp)⟩
theorem wt_test (h : WE fr pn tmp sl te fun t sl' => ∃ b, t = .bl b ∧ KT b sl') : WT fr pn tmp sl (tTest te) KT := fun pv tv σ H Q r q =>
  h pv tv σ H _ r fun t' sl' v H' ⟨b, e, k⟩ r' => by
    subst e
    obtain ⟨Z, f, z⟩ := r'.top
    unfold Rep at z
    exact ⟨b, z.1, q b sl' H' k r'.pop⟩
theorem wt_B (h : WE fr pn tmp sl te fun t sl' => ∃ b, t = .bl b ∧ KT b sl') : WT fr pn tmp sl (tB te) KT := wt_test h
theorem wt_not (h : WT fr pn tmp sl c fun b sl' => KT (!b) sl') : WT fr pn tmp sl (tNot c) KT := fun pv tv σ H Q r q => h pv tv σ H _ r fun b sl' H' k r' => q _ sl' H' k r'
theorem wt_and (h : WT fr pn tmp sl c fun b sl' => if b = true then WT fr pn tmp sl' d KT else KT false sl') : WT fr pn tmp sl (tAnd c d) KT := fun pv tv σ H Q r q =>
  h pv tv σ H _ r fun b sl' H' k r' => by
    cases b with
    | true =>
      rw [if_pos rfl] at k ⊢
      exact k pv tv σ H' Q r' q
    | false =>
      rw [if_neg Bool.false_ne_true] at k ⊢
      exact q _ sl' H' k r'
theorem wt_or (h : WT fr pn tmp sl c fun b sl' => if b = true then KT true sl' else WT fr pn tmp sl' d KT) : WT fr pn tmp sl (tOr c d) KT := fun pv tv σ H Q r q =>
  h pv tv σ H _ r fun b sl' H' k r' => by
    cases b with
    | true =>
      rw [if_pos rfl] at k ⊢
      exact q _ sl' H' k r'
    | false =>
      rw [if_neg Bool.false_ne_true] at k ⊢
      exact k pv tv σ H' Q r' q
theorem we_if (h : WT fr pn tmp sl c fun b sl' => if b = true then WE fr pn tmp sl' ta KE else WE fr pn tmp sl' tb KE) : WE fr pn tmp sl (tIf c ta tb) KE := fun pv tv σ H Q r q =>
  h pv tv σ H _ r fun b sl' H' k r' => by
    cases b with
    | true =>
      rw [if_pos rfl] at k ⊢
      exact k pv tv σ H' Q r' q
    | false =>
      rw [if_neg Bool.false_ne_true] at k ⊢
      exact k pv tv σ H' Q r' q
def Op2 (r : R2) (g : T → T → (T → Prop) → Prop) : Prop := ∀ Z1 Z2 H t1 v1 f1 t2 v2 f2 (Q : VK) (K : T → Prop), Rep Z1 H t1 v1 f1 → Rep Z2 H t2 v2 f2 → g t1 t2 K → (∀ t v H', K t → (∀ Z, Rep Z H' t v []) → Fm [] H H' → Q v H') → r v1 v2 H Q
theorem join_some {α : Type} {o : Option (Option α)} {a : α} (h : o.join = some a) : o = some (some a) := by
  cases o with
  | none => cases h
  | some o =>
    cases o with
    | none => cases h
    | some b => cases h; rfl
theorem we_op2 {r : R2} {g : T → T → (T → Prop) → Prop} (ho : Op2 r g) (h : WB fr pn tmp sl ta fun o1 sl1 => WB fr pn (o1.on tmp) sl1 tb fun o2 sl2 => ∃ t1 t2, o1.val sl2 = some t1 ∧ o2.val sl2 = some t2 ∧ g t1 t2 fun t => KE t sl2) :
    WE fr pn tmp sl (tOp r ta tb) KE := fun pv tv σ H Q rr q => by
  refine h pv tv σ H _ rr (fun i sl1 v1 H1 k e1 r1 => ?_) (fun t1 sl1 v1 H1 k r1 => ?_)
  · refine k pv tv σ H1 _ r1 (fun j sl2 v2 H2 k2 e2 r2 => ?_) (fun t2 sl2 v2 H2 k2 r2 => ?_)
    · obtain ⟨t1, t2, q1, q2, k2⟩ := k2
      obtain ⟨u1, Z1, f1, z1, p1⟩ := r2.slot (join_some q1)
      obtain ⟨u2, Z2, f2, z2, p2⟩ := r2.slot (join_some q2)
      cases Option.some.inj (Option.some.inj (e1.symm.trans z1))
      cases Option.some.inj (Option.some.inj (e2.symm.trans z2))
      exact ho _ _ _ _ _ _ _ _ _ _ _ p1 p2 k2 fun t v H' kk hz f => q t sl2 v H' kk ((r2.grow f).lit hz)
    · obtain ⟨t1, t2', q1, q2, k2⟩ := k2
      cases (show some t2 = some t2' from q2)
      obtain ⟨u1, Z1, f1, z1, p1⟩ := r2.slot (join_some q1)
      obtain ⟨Z2, f2, p2⟩ := r2.top
      cases Option.some.inj (Option.some.inj (e1.symm.trans z1))
      exact ho _ _ _ _ _ _ _ _ _ _ _ p1 p2 k2 fun t v H' kk hz f => q t sl2 v H' kk ((r2.pop.grow f).lit hz)
  · refine k pv (v1 :: tv) σ H1 _ r1 (fun j sl2 v2 H2 k2 e2 r2 => ?_) (fun t2 sl2 v2 H2 k2 r2 => ?_)
    · obtain ⟨t1', t2, q1, q2, k2⟩ := k2
      cases (show some t1 = some t1' from q1)
      obtain ⟨u2, Z2, f2, z2, p2⟩ := r2.slot (join_some q2)
      obtain ⟨Z1, f1, p1⟩ := (show R fr pn pv (t1 :: tmp) (v1 :: tv) sl2 σ H2 from r2).top
      cases Option.some.inj (Option.some.inj (e2.symm.trans z2))
      exact ho _ _ _ _ _ _ _ _ _ _ _ p1 p2 k2 fun t v H' kk hz f => q t sl2 v H' kk (((show R fr pn pv (t1 :: tmp) (v1 :: tv) sl2 σ H2 from r2).pop.grow f).lit hz)
    · obtain ⟨t1', t2', q1, q2, k2⟩ := k2
      cases (show some t1 = some t1' from q1)
      cases (show some t2 = some t2' from q2)
      have r2' : R fr pn pv (t2 :: t1 :: tmp) (v2 :: v1 :: tv) sl2 σ H2 := r2
      obtain ⟨Z2, f2, p2⟩ := r2'.top
      obtain ⟨Z1, f1, p1⟩ := r2'.pop.top
      exact ho _ _ _ _ _ _ _ _ _ _ _ p1 p2 k2 fun t v H' kk hz f => q t sl2 v H' kk ((r2'.pop.pop.grow f).lit hz)
theorem ws_asg (h : WE fr pn tmp sl te fun t sl1 => WG fr pn tmp sl1 g t K.nx) : WS fr pn tmp sl (tAsg te g) K := fun pv tv σ H D r n _ _ _ =>
  h pv tv σ H _ r fun t' sl1 v H1 k r1 => k pv v tv σ H1 _ r1 n
theorem wg_name {x : T} (hi : i < sl.length) (hp : i ∉ pn) (k : KG (sl.set i (some x))) : WG fr pn tmp sl (gName i) x KG := fun pv v tv σ H Q r q => q _ _ H k (r.put hi hp)
theorem ws_seq (h : WS fr pn tmp sl s { K with nx := fun sl' => WS fr pn tmp sl' u K }) : WS fr pn tmp sl (tSeq s u) K := fun pv tv σ H D r n rt b ct =>
  h pv tv σ H _ r (fun sl' σ' H' k r' => k pv tv σ' H' D r' n rt b ct) rt b ct
theorem ws_cut (M : Sl → Prop) (h : WS fr pn tmp sl s { K with nx := M }) (k : ∀ sl', M sl' → WS fr pn tmp sl' u K) : WS fr pn tmp sl (Evl.tCut s u) K := fun pv tv σ H D r n rt b ct =>
  ⟨fun σ' H' => ∃ sl', M sl' ∧ R fr pn pv tmp tv sl' σ' H', h pv tv σ H _ r (fun sl' σ' H' m r' => ⟨sl', m, r'⟩) rt b ct, fun σ' H' ⟨sl', m, r'⟩ => k sl' m pv tv σ' H' D r' n rt b ct⟩
theorem ws_if (h : WT fr pn tmp sl c fun b sl' => if b = true then WS fr pn tmp sl' s K else WS fr pn tmp sl' u K) : WS fr pn tmp sl (tIfS c s u) K := fun pv tv σ H D r n rt b ct =>
  h pv tv σ H _ r fun q sl' H' k r' => by
    cases q with
    | true =>
      rw [if_pos rfl] at k ⊢
      exact k pv tv σ H' D r' n rt b ct
    | false =>
      rw [if_neg Bool.false_ne_true] at k ⊢
      exact k pv tv σ H' D r' n rt b ct
theorem ws_ret (h : WE fr pn tmp sl te K.rt) : WS fr pn tmp sl (tRet te) K := fun pv tv σ H D r _ rt _ _ => h pv tv σ H _ r fun t' sl' v H' k r' => rt t' sl' v σ H' k r'
theorem ws_drop (h : WE fr pn tmp sl te fun _ sl' => K.nx sl') : WS fr pn tmp sl (tDrop te) K := fun pv tv σ H D r n _ _ _ => h pv tv σ H _ r fun t' sl' v H' k r' => n sl' σ H' k r'.pop
theorem ws_next (k : K.nx sl) : WS fr pn tmp sl tNext K := fun pv tv σ H D r n _ _ _ => n sl σ H k r
end
end Rs
set_option maxHeartbeats 4000000
namespace Rs
open PySem L2 PySem.Spec PyProof.Rows
section
variable {fr : Fr} {pn : List Nat} {pv : Nat → V} {tmp ts as : List T} {tv vs us : List V} {sl sl' : Sl} {σ : L2.St} {H H' : Hp} {t : T} {v : V}
theorem R.unrot (r : R fr pn pv (t :: (ts ++ tmp)) (v :: (vs ++ tv)) sl σ H) (hl : vs.length = ts.length) : R fr pn pv (ts ++ t :: tmp) (vs ++ v :: tv) sl σ H := by
  obtain ⟨f1, f2, r⟩ := r
  have h := r.hands
  unfold Reps at h
  obtain ⟨v', vs', k1, k2, e4, e5, b1, b2⟩ := h
  cases e4
  obtain ⟨v1, v2, g1, g2, e1, e2, e3, a, b⟩ := b2.split
  obtain ⟨q1, q2⟩ := List.append_inj e1 (by omega)
  subst q1
  subst q2
  have sub : ∀ x, x ∈ (g1 ++ (k1 ++ g2)) ++ f2 ↔ x ∈ f1 ++ f2 := fun x => by
    rw [e5, e3]
    simp only [List.mem_append]
    constructor
    · rintro ((h | h | h) | h)
      · exact .inl (.inr (.inl h))
      · exact .inl (.inl h)
      · exact .inl (.inr (.inr h))
      · exact .inr h
    · rintro ((h | h | h) | h)
      · exact .inl (.inr (.inl h))
      · exact .inl (.inl h)
      · exact .inl (.inr (.inr h))
      · exact .inr h
  have go : ∀ f, Go (Zf fr (f1 ++ f2)) (Zf fr ((g1 ++ (k1 ++ g2)) ++ f2)) H H f := fun f => Go.same (Zf.mono fun x hx => (sub x).mp hx)
  refine ⟨g1 ++ (k1 ++ g2), f2, ?_, r.slots.go (go _), ?_, fun x hx => r.own x ((sub x).mp hx), r.fm, r.pins⟩
  · refine (a.go _ _ _ (go _)).join ?_
    unfold Reps
    exact ⟨v, tv, k1, g2, rfl, rfl, b1.go _ _ _ (go _), b.go _ _ _ (go _)⟩
  · have nd := r.nd
    rw [e5, e3] at nd
    refine (List.Perm.nodup_iff (List.Perm.append_right f2 ?_)).mpr nd
    rw [← List.append_assoc, ← List.append_assoc]
    exact List.Perm.append_right g2 List.perm_append_comm
def gatherT : List Opd → Sl → Option (List T × Sl)
  | [], sl => some ([], sl)
  | .sl i :: os, sl => match (sl[i]?).join with
    | none => none
    | some t => (gatherT os (sl.set i none)).map fun p => (t :: p.1, p.2)
  | .tp t :: os, sl => (gatherT os sl).map fun p => (t :: p.1, p.2)
theorem gather : ∀ {os : List Opd} {vs us : List V} {ts : List T} {tmp : List T} {tv : List V} {sl sl' : Sl} {as : List T}, Opds σ os vs ts us → R fr pn pv (ts ++ tmp) (us ++ tv) sl σ H → gatherT os sl = some (as, sl') → R fr pn pv (as ++ tmp) (vs ++ tv) sl' σ H ∧ vs.length = as.length
  | _, _, _, _, _, _, _, _, _, .nil, r, e => by
    cases e
    exact ⟨r, rfl⟩
  | _, _, _, _, tmp, tv, sl, sl', as, .sl (i := i) (v := v) (os := os) (vs := vs) (ts := ts) (us := us) hi o, r, e => by
    unfold gatherT at e
    cases q : (sl[i]?).join with
    | none => rw [q] at e; cases e
    | some t =>
      rw [q] at e
      obtain ⟨p, hp, e2⟩ := Option.map_eq_some_iff.mp e
      obtain ⟨v', e3, r1⟩ := r.take (join_some q)
      cases Option.some.inj (Option.some.inj (hi.symm.trans e3))
      obtain ⟨r2, hl⟩ := gather (os := os) (tmp := t :: tmp) (tv := v :: tv) o (r1.unrot o.len) (show gatherT os (sl.set i none) = some (p.1, p.2) from hp)
      cases e2
      exact ⟨r2.rot hl, by rw [List.length_cons, List.length_cons, hl]⟩
  | _, _, _, _, tmp, tv, sl, sl', as, .tp (t := t) (v := v) (os := os) (vs := vs) (ts := ts) (us := us) o, r, e => by
    unfold gatherT at e
    obtain ⟨p, hp, e2⟩ := Option.map_eq_some_iff.mp e
    obtain ⟨r2, hl⟩ := gather (os := os) (tmp := t :: tmp) (tv := v :: tv) o ((show R fr pn pv (t :: (ts ++ tmp)) (v :: (us ++ tv)) sl σ H from r).unrot o.len) (show gatherT os sl = some (p.1, p.2) from hp)
    cases e2
    exact ⟨r2.rot hl, by rw [List.length_cons, List.length_cons, hl]⟩
def scatterT : List Opd → List T → Sl → Option Sl
  | [], [], sl => some sl
  | .sl i :: os, a :: as, sl => match sl[i]? with
    | some none => scatterT os as (sl.set i (some a))
    | _ => none
  | .tp _ :: os, _ :: as, sl => scatterT os as sl
  | _, _, _ => none
theorem scatter : ∀ {os : List Opd} {vs us : List V} {ts as : List T} {tmp : List T} {tv : List V} {sl sl' : Sl}, Opds σ os vs ts us → R fr pn pv (as ++ tmp) (vs ++ tv) sl σ H → scatterT os as sl = some sl' → R fr pn pv tmp tv sl' σ H
  | _, _, _, _, [], _, _, _, _, .nil, r, e => by
    cases e
    exact r
  | _, _, _, _, a :: as, _, _, _, _, .nil, r, e => by cases e
  | _, _, _, _, [], _, _, _, _, .sl _ _, r, e => by cases e
  | _, _, _, _, [], _, _, _, _, .tp _, r, e => by cases e
  | _, _, _, _, a :: as, tmp, tv, sl, sl', .sl (i := i) (v := v) (os := os) (vs := vs) (ts := ts) (us := us) hi o, r, e => by
    unfold scatterT at e
    split at e
    · rename_i q
      exact scatter (os := os) o ((show R fr pn pv (a :: (as ++ tmp)) (v :: (vs ++ tv)) sl σ H from r).give q hi) e
    · cases e
  | _, _, _, _, a :: as, tmp, tv, sl, sl', .tp (t := t) (v := v) (os := os) (vs := vs) (ts := ts) (us := us) o, r, e => by
    unfold scatterT at e
    exact scatter (os := os) o (show R fr pn pv (a :: (as ++ tmp)) (v :: (vs ++ tv)) sl σ H from r).pop e
end
def spT (g : List T → (T → List T → Prop) → Prop) : Sp := fun vs H Q _ => ∃ (ts : List T) (Z : Addr → Prop) (fp : List Addr), Reps Z H ts vs fp ∧ fp.Nodup ∧ (∀ a ∈ fp, ¬ Z a) ∧
  g ts (fun t ts' => ∀ v H' f, Reps (fun a => a ∉ f ∧ (Z a ∨ H a = none ∨ a ∈ fp)) H' (t :: ts') (v :: vs) f → f.Nodup → (∀ a ∈ f, H a = none ∨ a ∈ fp) → Fm fp H H' → Q v H')
section
variable {fr : Fr} {pn : List Nat} {tmp ts : List T} {sl : Sl} {KE : T → Sl → Prop} {args : TA} {g : List T → (T → List T → Prop) → Prop} {E : XK} {t : T}
theorem call_core {pv : Nat → V} {as : List T} {vs tv : List V} {σ : L2.St} {H : Hp} {Q : VK} {K : T → List T → Prop} (r : R fr pn pv (as ++ tmp) (vs ++ tv) sl σ H) (hl : vs.length = as.length) (k : g as K)
    (mono : ∀ (K K' : T → List T → Prop), (∀ t ts, K t ts → K' t ts) → g as K → g as K') (q : ∀ t ts' v H', K t ts' → R fr pn pv (t :: (ts' ++ tmp)) (v :: (vs ++ tv)) sl σ H' → ts'.length = vs.length → Q v H') : spT g vs H Q E := by
  obtain ⟨f1, f2, r⟩ := r
  obtain ⟨v1, v2, g1, g2, e1, e2, e3, a, b⟩ := r.hands.split
  obtain ⟨q1, q2⟩ := List.append_inj e1 (by omega)
  subst q1
  subst q2
  have nd := r.nd
  rw [e3, List.append_assoc] at nd
  obtain ⟨n1, n2, n3⟩ := List.nodup_append.mp nd
  have tg : ∀ x ∈ g1, NoTup H x := a.there
  have to : ∀ x ∈ g2 ++ f2, NoTup H x := fun x hx => by
    rcases List.mem_append.mp hx with h | h
    · exact b.there _ _ _ x h
    · exact r.slots.there x h
  refine ⟨as, Zf fr (f1 ++ f2), g1, a, n1, fun x hx z => z.1 (by rw [e3]; exact List.mem_append_left _ (List.mem_append_left _ hx)), mono _ _ (fun t ts' kk v H' f rp nf own fm => ?_) k⟩
  have ln := rp.len
  refine q t ts' v H' kk ⟨f ++ g2, f2, ?_⟩ (by rw [List.length_cons, List.length_cons] at ln; omega)
  have zz : ∀ x, (x ∉ f ∧ (Zf fr (f1 ++ f2) x ∨ H x = none ∨ x ∈ g1)) → Zf fr ((f ++ g2) ++ f2) x := fun x ⟨h1, h2⟩ => by
    have out : x ∉ g2 ++ f2 ∧ (fr.Z0 x ∨ fr.H0 x = none ∨ x ∈ fr.io) := by
      rcases h2 with h2 | h2 | h2
      · refine ⟨fun z => h2.1 ?_, h2.2⟩
        rw [e3, List.append_assoc]
        exact List.mem_append_right _ z
      · refine ⟨fun z => ?_, .inr (newOwn r.fm h2)⟩
        obtain ⟨o, e, _⟩ := to x z
        rw [h2] at e
        cases e
      · exact ⟨fun z => n3 x h2 x z rfl, .inr (r.own x (by rw [e3]; exact List.mem_append_left _ (List.mem_append_left _ h2)))⟩
    refine ⟨fun z => ?_, out.2⟩
    rw [List.append_assoc] at z
    rcases List.mem_append.mp z with z | z
    · exact h1 z
    · exact out.1 z
  have go : ∀ h, (∀ x ∈ h, x ∈ g2 ++ f2) → Go (Zf fr (f1 ++ f2)) (Zf fr ((f ++ g2) ++ f2)) H H' h := fun h hh => by
    refine ⟨fun x u e hu => fm x _ e fun z => ?_, fun x o z e => ?_, fun x hx o e => fm x o e fun z => n3 x z x (hh x hx) rfl⟩
    · obtain ⟨o, e', no⟩ := tg x z
      rw [e] at e'
      cases e'
      rw [no] at hu
      cases hu
    · have xg : x ∉ g1 := fun y => z.1 (by rw [e3]; exact List.mem_append_left _ (List.mem_append_left _ y))
      refine ⟨zz x ⟨fun y => ?_, .inl z⟩, fm x o e xg⟩
      rcases own x y with q | q
      · rw [e] at q
        cases q
      · exact xg q
  refine ⟨?_, r.slots.go (go f2 fun x hx => List.mem_append_right _ hx), ?_, fun x hx => ?_, fun x o e n => ?_, r.pins⟩
  · have h1 : Reps (Zf fr ((f ++ g2) ++ f2)) H' (t :: ts') (v :: vs) f := rp.go _ _ _ (Go.same zz)
    exact h1.join (b.go _ _ _ (go g2 fun x hx => List.mem_append_left _ hx))
  · rw [List.append_assoc]
    refine List.nodup_append.mpr ⟨nf, n2, fun x hx y hy e => ?_⟩
    subst e
    rcases own x hx with h | h
    · obtain ⟨o, e, _⟩ := to x hy
      rw [h] at e
      cases e
    · exact n3 x h x hy rfl
  · rw [List.append_assoc] at hx
    rcases List.mem_append.mp hx with h | h
    · rcases own x h with h | h
      · exact newOwn r.fm h
      · exact r.own x (by rw [e3]; exact List.mem_append_left _ (List.mem_append_left _ h))
    · exact r.own x (by rw [e3, List.append_assoc]; exact List.mem_append_right _ h)
  · refine fm x o (r.fm x o e n) fun z => ?_
    rcases r.own x (by rw [e3]; exact List.mem_append_left _ (List.mem_append_left _ z)) with h | h
    · rw [e] at h
      cases h
    · exact n h
def Mono (g : List T → (T → List T → Prop) → Prop) : Prop := ∀ ts (K K' : T → List T → Prop), (∀ t ts', K t ts' → K' t ts') → g ts K → g ts K'
theorem we_call (m : Mono g) (h : WO fr pn tmp sl args fun os sl1 => ∃ as sl2, gatherT os sl1 = some (as, sl2) ∧ g as fun t ts' => ∃ sl3, scatterT os ts' sl2 = some sl3 ∧ KE t sl3) : WE fr pn tmp sl (tCall (spT g) [] E args) KE := fun pv tv σ H Q r q =>
  h pv tv σ H _ r fun os sl1 vs ts us H1 k o r1 => by
    obtain ⟨as, sl2, e1, k⟩ := k
    obtain ⟨r2, hl⟩ := gather o r1 e1
    show spT g (vs ++ []) H1 Q E
    rw [List.append_nil]
    refine call_core r2 hl k (m as) fun t ts' v H' kk r3 hl3 => ?_
    obtain ⟨sl3, e3, kk⟩ := kk
    exact q t sl3 v H' kk (scatter o (r3.unrot hl3.symm) e3)
end
section
variable {g : List T → (T → List T → Prop) → Prop} {E : XK} {N : List Str} {t : TS} {n : Nat}
def Ret (n : Nat) (K : T → List T → Prop) (t : T) (sl : Sl) : Prop := ∃ (as : List T) (sl2 : Sl), gatherT ((List.range n).map Opd.sl) sl = some (as, sl2) ∧ K t as
theorem reps_reO {Z : Addr → Prop} {H : Hp} (m : Nat) : ∀ {ts : List T} {vs : List V} {fp : List Addr}, Reps Z H ts vs fp → ReO Z H (ts.map some ++ List.replicate m none) (vs.map some ++ List.replicate m none) fp
  | [], vs, fp, h => by
    unfold Reps at h
    rw [h.1, h.2]
    have e : ∀ m, ReO Z H (List.replicate m none) (List.replicate m none) [] := fun m => by
      induction m with
      | zero => exact ⟨rfl, rfl⟩
      | succ m ih => exact ⟨none, _, rfl, ih⟩
    exact e m
  | t :: ts, vs, fp, h => by
    unfold Reps at h
    obtain ⟨v, vs', f1, f2, e1, e2, a, b⟩ := h
    subst e1
    exact ⟨v, _, f1, f2, rfl, e2, a, reps_reO m b⟩
theorem opds_range {σ : L2.St} {vs : List V} (h : ∀ (j : Nat) (v : V), vs[j]? = some v → σ[j]? = some (some v)) : Opds σ ((List.range vs.length).map Opd.sl) vs [] [] := by
  have go : ∀ (us : List V) (k : Nat), (∀ (j : Nat) (v : V), us[j]? = some v → σ[k + j]? = some (some v)) → Opds σ ((List.range' k us.length).map Opd.sl) us [] [] := fun us => by
    induction us with
    | nil => exact fun _ _ => .nil
    | cons u r ih =>
      intro k h
      rw [List.length_cons, List.range'_succ, List.map_cons]
      refine .sl (h 0 u rfl) (ih (k + 1) fun j v e => ?_)
      have := h (j + 1) v e
      rw [show k + 1 + j = k + (j + 1) by omega]
      exact this
  have := go vs 0 fun j v e => by rw [Nat.zero_add]; exact h j v e
  rw [← List.range_eq_range'] at this
  exact this
theorem body_run {vs : List V} {H : Hp} {Q : VK} (m : Nat) (hN : N.length - vs.length = m) (hsp : spT g vs H Q E) (hl : n = vs.length)
    (hw : ∀ (fr : Fr) (ts : List T) (K : T → List T → Prop), g ts K → WS fr (List.range n) [] (ts.map some ++ List.replicate m none) t { nx := fun sl' => Ret n K .non sl', rt := fun x sl' => Ret n K x sl' }) :
    t { nx := fun _ H' => Q .non H', rt := Q } (L2.start N vs) H := by
  obtain ⟨ts, Z, fp, rp, nd, nz, k⟩ := hsp
  subst hl
  have fin : ∀ (pv : Nat → V), (∀ j, j < vs.length → pv j = vs.getD j .non) → ∀ x sl' v σ' H', Ret vs.length (fun t ts' => ∀ v H' f, Reps (fun a => a ∉ f ∧ (Z a ∨ H a = none ∨ a ∈ fp)) H' (t :: ts') (v :: vs) f → f.Nodup → (∀ a ∈ f, H a = none ∨ a ∈ fp) → Fm fp H H' → Q v H') x sl' →
      R ⟨Z, H, fp⟩ (List.range vs.length) pv [x] [v] sl' σ' H' → Q v H' := fun pv hpv x sl' v σ' H' ⟨as, sl2, e, kk⟩ r => by
    have o : Opds σ' ((List.range vs.length).map Opd.sl) vs [] [] := opds_range fun j u e => by
      obtain ⟨f1, f2, r⟩ := r
      have hj := (List.getElem?_eq_some_iff.mp e).1
      rw [r.pins j (List.mem_range.mpr hj), hpv j hj, List.getD_eq_getElem?_getD, e]
      rfl
    obtain ⟨r2, hl2⟩ := gather (tmp := [x]) (tv := [v]) o r e
    obtain ⟨f1, f2, r3⟩ := (show R ⟨Z, H, fp⟩ (List.range vs.length) pv (as ++ x :: []) (vs ++ v :: []) sl2 σ' H' from r2).rot hl2
    rw [List.append_nil, List.append_nil] at r3
    have n1 := List.nodup_append.mp r3.nd
    refine kk v H' f1 (r3.hands.go _ _ _ (Go.same fun a z => ⟨fun q => z.1 (List.mem_append_left _ q), z.2⟩)) n1.1 (fun a ha => r3.own a (List.mem_append_left _ ha)) r3.fm
  have hpv : ∀ j, j < vs.length → (fun j => vs.getD j V.non) j = vs.getD j .non := fun _ _ => rfl
  refine hw ⟨Z, H, fp⟩ ts _ k (fun j => vs.getD j .non) [] (L2.start N vs) H _ ⟨[], fp, ?_⟩ (fun sl' σ' H' kk r => ?_) (fun x sl' v σ' H' kk r => fin _ hpv x sl' v σ' H' kk r) (fun _ _ _ kk _ => kk.elim) (fun _ _ _ kk _ => kk.elim)
  · refine ⟨by unfold Reps; exact ⟨rfl, rfl⟩, ?_, nd, fun a ha => .inr ha, Fm.refl _ _, fun j hj => ?_⟩
    · unfold L2.start
      rw [hN]
      exact (reps_reO m rp).go (Go.same fun a z => ⟨fun q => nz a q z, .inl z⟩)
    · have hj' := List.mem_range.mp hj
      unfold L2.start
      rw [List.getElem?_append_left (by rw [List.length_map]; exact hj'), List.getElem?_map, List.getElem?_eq_getElem hj', List.getD_eq_getElem?_getD, List.getElem?_eq_getElem hj']
      rfl
  · exact fin _ hpv .non sl' .non σ' H' kk (r.lit fun Z => by unfold Rep; exact ⟨rfl, rfl⟩)
end
end Rs
set_option maxHeartbeats 4000000
namespace Rs
open PySem L2 PySem.Spec PyProof.Rows
open PySem.Sem (wp)
end Rs
set_option maxHeartbeats 4000000
namespace Rs
open PySem L2 PySem.Spec PyProof.Rows
section
variable {fr : Fr} {pn : List Nat} {pv : Nat → V} {tmp ts xs : List T} {tv vs : List V} {sl : Sl} {σ : L2.St} {H H' : Hp} {t : T} {v : V}
theorem Reps.at {Z : Addr → Prop} : ∀ {ts : List T} {vs : List V} {fp : List Addr} {i : Nat}, Reps Z H ts vs fp → i < ts.length → ∃ t v f, ts[i]? = some t ∧ vs[i]? = some v ∧ Rep Z H t v f ∧ ∀ a ∈ f, a ∈ fp
  | [], _, _, _, _, h => absurd h (Nat.not_lt_zero _)
  | t :: ts, vs, fp, i, h, hi => by
    unfold Reps at h
    obtain ⟨v, vs', f1, f2, e1, e2, a, b⟩ := h
    subst e1
    subst e2
    cases i with
    | zero => exact ⟨t, v, f1, rfl, rfl, a, fun x hx => List.mem_append_left _ hx⟩
    | succ i =>
      obtain ⟨t', v', f, q1, q2, q3, q4⟩ := Reps.at b (Nat.lt_of_succ_lt_succ hi)
      exact ⟨t', v', f, q1, q2, q3, fun x hx => List.mem_append_right _ (q4 x hx)⟩
theorem still_at : ∀ {ts : List T} {i : Nat} {t : T}, stillA ts = true → ts[i]? = some t → t.still = true
  | [], _, _, _, h => by cases h
  | t :: ts, i, t', s, h => by
    unfold stillA at s
    rw [Bool.and_eq_true] at s
    cases i with
    | zero => cases h; exact s.1
    | succ i => exact still_at s.2 h
theorem R.listTop {o : Bool} (r : R fr pn pv (.lst o xs :: tmp) (v :: tv) sl σ H) : ∃ a vs, v = .ref a ∧ H a = some (.lst vs) ∧ vs.length = xs.length ∧ ∀ j u, vs[j]? = some u → stillA xs = true → R fr pn pv (xs.getD j .non :: .lst o xs :: tmp) (u :: v :: tv) sl σ H := by
  obtain ⟨f1, f2, r⟩ := r
  have h := r.hands
  unfold Reps at h
  obtain ⟨v', vs', g1, g2, e1, e2, a, b⟩ := h
  cases e1
  unfold Rep at a
  obtain ⟨ad, vs, fp', q1, q2, q3, q4⟩ := a
  refine ⟨ad, vs, q1, q2, q3.len, fun j u hu hs => ?_⟩
  have hj : j < xs.length := by rw [← q3.len]; exact (List.getElem?_eq_some_iff.mp hu).1
  obtain ⟨t, v2, f, p1, p2, p3, p4⟩ := q3.at hj
  rw [hu] at p2
  cases p2
  have e := Rep.still _ _ _ p3 (still_at hs p1)
  subst e
  have et : xs.getD j .non = t := by rw [List.getD_eq_getElem?_getD, p1]; rfl
  rw [et]
  exact r.still p3
theorem R.tupTop (r : R fr pn pv (.tup xs :: tmp) (v :: tv) sl σ H) : ∃ a vs, v = .ref a ∧ TupAt H a vs ∧ vs.length = xs.length ∧ ∀ j u, vs[j]? = some u → stillA xs = true → R fr pn pv (xs.getD j .non :: .tup xs :: tmp) (u :: v :: tv) sl σ H := by
  obtain ⟨f1, f2, r⟩ := r
  have h := r.hands
  unfold Reps at h
  obtain ⟨v', vs', g1, g2, e1, e2, a, b⟩ := h
  cases e1
  unfold Rep at a
  obtain ⟨ad, vs, q1, q2, q3⟩ := a
  refine ⟨ad, vs, q1, q2, q3.len, fun j u hu hs => ?_⟩
  have hj : j < xs.length := by rw [← q3.len]; exact (List.getElem?_eq_some_iff.mp hu).1
  obtain ⟨t, v2, f, p1, p2, p3, p4⟩ := q3.at hj
  rw [hu] at p2
  cases p2
  have e := Rep.still _ _ _ p3 (still_at hs p1)
  subst e
  have et : xs.getD j .non = t := by rw [List.getD_eq_getElem?_getD, p1]; rfl
  rw [et]
  exact r.still p3
end
def Yl (J : It) (hv : List V) (n : Nat) (hand : List T) (item : Nat → T) : Prop := ∀ fr pn pv tmp tv sl σ H, R fr pn pv (hand ++ tmp) (hv ++ tv) sl σ H → (∀ i, i < n → J.go i H) ∧ J.stop n H ∧
  ∀ i x H', i < n → J.yld i H x H' → R fr pn pv (item i :: (hand ++ tmp)) (x :: (hv ++ tv)) sl σ H'
theorem yl_list {K : PySem.W.Frag} {a : Addr} {o : Bool} {xs : List T} (hs : stillA xs = true) : Yl (Itl K a) [.ref a] xs.length [.lst o xs] fun j => xs.getD j .non := fun fr pn pv tmp tv sl σ H r => by
  obtain ⟨a', vs, e, h, hl, k⟩ := (show R fr pn pv (.lst o xs :: tmp) (.ref a :: tv) sl σ H from r).listTop
  cases e
  refine ⟨fun i hi => ⟨vs, vs[i]'(by omega), SqL.of h, List.getElem?_eq_getElem _⟩, ⟨vs, SqL.of h, by omega⟩, fun i x H' hi y => ?_⟩
  obtain ⟨rfl, y⟩ := y
  exact k i x (y vs (SqL.of h)) hs
theorem yl_tup {K : PySem.W.Frag} {a : Addr} {xs : List T} (hs : stillA xs = true) : Yl (Itt K a) [.ref a] xs.length [.tup xs] fun j => xs.getD j .non := fun fr pn pv tmp tv sl σ H r => by
  obtain ⟨a', vs, e, h, hl, k⟩ := (show R fr pn pv (.tup xs :: tmp) (.ref a :: tv) sl σ H from r).tupTop
  cases e
  refine ⟨fun i hi => ⟨vs, vs[i]'(by omega), h.sq, List.getElem?_eq_getElem _⟩, ⟨vs, h.sq, by omega⟩, fun i x H' hi y => ?_⟩
  obtain ⟨rfl, y⟩ := y
  exact k i x (y vs (h.sq)) hs
theorem yl_range {lo : Int} {n : Nat} : Yl (Itr lo n) [] n [] fun j => .int (lo + (j : Int)) := fun fr pn pv tmp tv sl σ H r =>
  ⟨fun i hi => hi, Nat.le_refl _, fun i x H' hi y => by
    obtain ⟨rfl, rfl⟩ := y
    exact r.lit fun Z => by unfold Rep; exact ⟨rfl, rfl⟩⟩
def WI (fr : Fr) (pn : List Nat) (tmp : List T) (sl : Sl) (wi : TI) (K : Nat → List T → (Nat → T) → Option Nat → Sl → Prop) : Prop := ∀ pv tv σ H (Rk : It → Hp → Prop), R fr pn pv tmp tv sl σ H →
  (∀ n hand item gv sl' hv J H', K n hand item gv sl' → hv.length = hand.length → Yl J hv n hand item → (∀ i, gv = some i → ∃ v, hv = [v] ∧ σ[i]? = some (some v)) → R fr pn pv (hand ++ tmp) (hv ++ tv) sl' σ H' → Rk J H') → wi σ H Rk
def Back (gv : Option Nat) (hand : List T) (sl : Sl) (P : Sl → Prop) : Prop := match gv with
  | none => P sl
  | some i => sl[i]? = some none ∧ P (sl.set i (some (hand.headD .non)))
section
variable {fr : Fr} {pn : List Nat} {tmp : List T} {sl : Sl} {KE : T → Sl → Prop} {KI : Nat → List T → (Nat → T) → Option Nat → Sl → Prop} {K : KS} {te : TE} {args : TA} {wi : TI} {g : TG} {tb : TS} {tt : TT} {js : List Nat} {i : Nat} {Kf : PySem.W.Frag}
theorem wi_listS {o : Bool} {xs : List T} (h : sl[i]? = some (some (.lst o xs))) (hs : stillA xs = true) (k : KI xs.length [.lst o xs] (fun j => xs.getD j .non) (some i) (sl.set i none)) : WI fr pn tmp sl (iList Kf (tVar i)) KI := fun pv tv σ H Rk r q => by
  obtain ⟨v, e, r1⟩ := r.take h
  obtain ⟨a, vs, e2, h1, hl, _⟩ := r1.listTop
  subst e2
  exact ⟨.ref a, e, a, rfl, ⟨vs, SqL.of h1⟩, q _ _ _ _ _ [.ref a] _ H k rfl (yl_list hs) (fun j z => by cases z; exact ⟨_, rfl, e⟩) r1⟩
theorem wi_tup (h : WE fr pn tmp sl te fun t sl1 => ∃ xs, t = .tup xs ∧ stillA xs = true ∧ KI xs.length [.tup xs] (fun j => xs.getD j .non) none sl1) : WI fr pn tmp sl (iTup Kf te) KI := fun pv tv σ H Rk r q =>
  h pv tv σ H _ r fun t sl1 v H1 ⟨xs, e, hs, k⟩ r1 => by
    subst e
    obtain ⟨a, vs, e, h1, hl, _⟩ := r1.tupTop
    subst e
    exact ⟨a, rfl, ⟨vs, h1.sq⟩, q _ _ _ _ sl1 [.ref a] _ H1 k rfl (yl_tup hs) (fun i z => nomatch z) r1⟩
theorem R.popA {pv : Nat → V} {tv : List V} {σ : L2.St} {H : Hp} : ∀ {ts : List T} {vs : List V}, vs.length = ts.length → R fr pn pv (ts ++ tmp) (vs ++ tv) sl σ H → R fr pn pv tmp tv sl σ H
  | [], [], _, r => r
  | t :: ts, v :: vs, hl, r => R.popA (by simpa using hl) (R.pop (show R fr pn pv (t :: (ts ++ tmp)) (v :: (vs ++ tv)) sl σ H from r))
theorem ints_vals {Z : Addr → Prop} {H : Hp} {n : Int} {v : V} {f : List Addr} (h : Rep Z H (.int n) v f) : v = .int n := by
  unfold Rep at h
  exact h.1
theorem wi_range1 (h : WA fr pn tmp sl args fun ts sl1 => ∃ j : Int, ts = [.int j] ∧ (-(2 ^ 62) ≤ j ∧ j < 2 ^ 62) ∧ KI j.toNat [] (fun i => .int (0 + (i : Int))) none sl1) : WI fr pn tmp sl (iRng1 args) KI := fun pv tv σ H Rk r q =>
  h pv tv σ H _ r fun ts sl1 vs H1 ⟨j, e, ⟨b1, b2⟩, k⟩ hl r1 => by
    subst e
    match vs, hl with
    | [v], _ =>
      have r1' : R fr pn pv (.int j :: tmp) (v :: tv) sl1 σ H1 := r1
      obtain ⟨Z, f, z⟩ := r1'.top
      obtain rfl := ints_vals z
      exact ⟨j, rfl, b1, b2, q _ [] _ none sl1 [] _ H1 k rfl yl_range (fun i z => nomatch z) r1'.pop⟩
theorem R.pin {pv : Nat → V} {tv : List V} {σ : L2.St} {H : Hp} {gv : Option Nat} {hv : List V} (r : R fr pn pv tmp tv sl σ H) (hg : ∀ i, gv = some i → ∃ v, hv = [v] ∧ σ[i]? = some (some v)) :
    R fr (gv.toList ++ pn) (fun j => if gv = some j then hv.headD .non else pv j) tmp tv sl σ H := by
  obtain ⟨f1, f2, r⟩ := r
  refine ⟨f1, f2, r.hands, r.slots, r.nd, r.own, r.fm, fun j hj => ?_⟩
  by_cases e : gv = some j
  · obtain ⟨v, h1, h2⟩ := hg j e
    rw [if_pos e, h1]
    exact h2
  · rw [if_neg e]
    rcases List.mem_append.mp hj with h | h
    · cases gv with
      | none => cases h
      | some i =>
        have e2 : j = i := by simpa using h
        rw [e2] at e
        exact absurd rfl e
    · exact r.pins j h
theorem R.unpin {pv : Nat → V} {tv : List V} {σ σ0 : L2.St} {H : Hp} {gv : Option Nat} {hv : List V} (r : R fr (gv.toList ++ pn) (fun j => if gv = some j then hv.headD .non else pv j) tmp tv sl σ H) (hg : ∀ i, gv = some i → ∃ v, hv = [v] ∧ σ0[i]? = some (some v))
    (h0 : ∀ j ∈ pn, σ0[j]? = some (some (pv j))) : R fr pn pv tmp tv sl σ H := by
  obtain ⟨f1, f2, r⟩ := r
  refine ⟨f1, f2, r.hands, r.slots, r.nd, r.own, r.fm, fun j hj => ?_⟩
  have h := r.pins j (List.mem_append_right _ hj)
  by_cases e : gv = some j
  · obtain ⟨v, h1, h2⟩ := hg j e
    rw [if_pos e, h1] at h
    rw [h0 j hj] at h2
    rw [h]
    exact h2.symm
  · rw [if_neg e] at h
    exact h
theorem R.back {pv : Nat → V} {tv hv : List V} {σ : L2.St} {H : Hp} {gv : Option Nat} {hand : List T} {P : Sl → Prop} (r : R fr (gv.toList ++ pn) pv (hand ++ tmp) (hv ++ tv) sl σ H) (hl : hv.length = hand.length) (hp : ∀ i, gv = some i → ∃ v, hv = [v] ∧ pv i = v) (k : Back gv hand sl P) :
    ∃ sl', P sl' ∧ R fr (gv.toList ++ pn) pv tmp tv sl' σ H := by
  cases gv with
  | none => exact ⟨sl, k, r.popA hl⟩
  | some i =>
    obtain ⟨k1, k2⟩ := k
    obtain ⟨v, e, e2⟩ := hp i rfl
    subst e
    match hand, hl with
    | [t], _ =>
      refine ⟨_, k2, R.give (show R fr _ pv (t :: tmp) (v :: tv) sl σ H from r) k1 ?_⟩
      obtain ⟨f1, f2, r⟩ := r
      rw [r.pins i (by simp), e2]
theorem ws_for (h : WI fr pn tmp sl wi fun n hand item gv sl1 => ∃ Iv : Nat → Sl → Prop, Iv 0 sl1 ∧ (∀ j sl', j < n → Iv j sl' → WG fr (gv.toList ++ pn) (hand ++ tmp) sl' g (item j) fun sl2 => WS fr (gv.toList ++ pn) (hand ++ tmp) sl2 tb
    { nx := Iv (j + 1), ct := Iv (j + 1), bk := fun s => Back gv hand s K.nx, rt := fun t s => Back gv hand s (K.rt t) }) ∧ ∀ sl', Iv n sl' → Back gv hand sl' K.nx) : WS fr pn tmp sl (tFor wi g tb) K := fun pv tv σ H D r n rt _ _ => by
  refine h pv tv σ H _ r fun m hand item gv sl1 hv J H1 ⟨Iv, i0, is, ie⟩ hl yl hg r1 => ?_
  have p0 : ∀ j ∈ pn, σ[j]? = some (some (pv j)) := by
    obtain ⟨f1, f2, r⟩ := r
    exact r.pins
  have hpv : ∀ i, gv = some i → ∃ v, hv = [v] ∧ (fun j => if gv = some j then hv.headD .non else pv j) i = v := fun i e => by
    obtain ⟨v, e1, _⟩ := hg i e
    exact ⟨v, e1, by show (if gv = some i then _ else _) = v; rw [if_pos e, e1]; rfl⟩
  have st : ∀ {j : Nat} {σ' : L2.St} {H' : Hp}, (∃ sl', Iv j sl' ∧ R fr (gv.toList ++ pn) (fun j => if gv = some j then hv.headD .non else pv j) (hand ++ tmp) (hv ++ tv) sl' σ' H') → (∀ i, i < m → J.go i H') ∧ J.stop m H' := fun ⟨sl', _, r'⟩ => ⟨(yl _ _ _ _ _ _ _ _ r').1, (yl _ _ _ _ _ _ _ _ r').2.1⟩
  refine ⟨fun i q σ' H' => q = m - i ∧ i ≤ m ∧ ∃ sl', Iv i sl' ∧ R fr (gv.toList ++ pn) (fun j => if gv = some j then hv.headD .non else pv j) (hand ++ tmp) (hv ++ tv) sl' σ' H', ⟨m, by simp, Nat.zero_le _, sl1, i0, r1.pin hg⟩, ?_⟩
  rintro i q σ' H' ⟨rfl, him, sl', iv, r'⟩
  obtain ⟨y1, y2, y3⟩ := yl _ _ _ _ _ _ _ _ r'
  by_cases hlt : i < m
  · refine .inr ⟨y1 i hlt, fun σ' H' => ∃ sl', Iv (i + 1) sl' ∧ R fr (gv.toList ++ pn) (fun j => if gv = some j then hv.headD .non else pv j) (hand ++ tmp) (hv ++ tv) sl' σ' H', fun σ' H' z => ⟨m - (i + 1), by omega, rfl, hlt, z⟩, fun x H2 hy => ?_⟩
    refine is i sl' hlt iv _ x _ σ' H2 _ (y3 i x H2 hlt hy) fun sl2 σ2 H3 kb r2 => ?_
    refine kb _ _ σ2 H3 _ r2 (fun sl' σ' H' z r' => ⟨sl', z, r'⟩) (fun t' sl' v σ' H' z r' => ?_) (fun sl' σ' H' z r' => ?_) (fun sl' σ' H' z r' => ⟨sl', z, r'⟩)
    · obtain ⟨s, z2, r3⟩ := (r'.unrot hl).back hl hpv z
      exact rt t' s v σ' H' z2 (r3.unpin hg p0)
    · obtain ⟨s, z2, r3⟩ := r'.back hl hpv z
      exact n s σ' H' z2 (r3.unpin hg p0)
  · have e : i = m := by omega
    subst e
    obtain ⟨s, z2, r3⟩ := r'.back hl hpv (ie sl' iv)
    exact .inl ⟨y2, n s σ' H' z2 (r3.unpin hg p0)⟩
end
end Rs
set_option maxHeartbeats 4000000
namespace Rs
open PySem L2 PySem.Spec PyProof.Rows
def hideT (sl : Sl) : List Nat → Sl
  | [] => sl
  | j :: js => (hideT sl js).set j none
section
variable {fr : Fr} {pn : List Nat} {pv : Nat → V} {tmp ts xs : List T} {tv vs : List V} {sl : Sl} {σ : L2.St} {H H' : Hp} {t : T} {v : V}
theorem ReO.hide {Z : Addr → Prop} {u : Option V} : ∀ {ts : List (Option T)} {vs : List (Option V)} {fp : List Addr} {j : Nat}, ReO Z H ts vs fp → ∃ fp', fp'.Sublist fp ∧ ReO Z H (ts.set j none) (vs.set j u) fp'
  | [], vs, fp, j, h => ⟨fp, List.Sublist.refl _, by obtain ⟨h1, h2⟩ := h; subst h1; exact ⟨rfl, h2⟩⟩
  | none :: ts, vs, fp, 0, ⟨v, vs', e, h⟩ => ⟨fp, List.Sublist.refl _, by rw [e]; exact ⟨u, vs', rfl, h⟩⟩
  | some t :: ts, vs, fp, 0, ⟨v, vs', f1, f2, e1, e2, a, b⟩ => ⟨f2, by rw [e2]; exact List.sublist_append_right _ _, by rw [e1]; exact ⟨u, vs', rfl, b⟩⟩
  | none :: ts, vs, fp, j + 1, ⟨v, vs', e, h⟩ => by
    obtain ⟨fp', s, k⟩ := ReO.hide (j := j) (u := u) h
    exact ⟨fp', s, by rw [e]; exact ⟨v, vs'.set j u, rfl, k⟩⟩
  | some t :: ts, vs, fp, j + 1, ⟨v, vs', f1, f2, e1, e2, a, b⟩ => by
    obtain ⟨fp', s, k⟩ := ReO.hide (j := j) (u := u) b
    exact ⟨f1 ++ fp', by rw [e2]; exact List.Sublist.append_left s _, by rw [e1]; exact ⟨v, vs'.set j u, f1, fp', rfl, rfl, a, k⟩⟩
theorem R.hide1 {j : Nat} {u : Option V} (r : R fr pn pv tmp tv sl σ H) (hj : j ∉ pn) : R fr pn pv tmp tv (sl.set j none) (σ.set j u) H := by
  obtain ⟨f1, f2, r⟩ := r
  obtain ⟨f3, s, k⟩ := ReO.hide (j := j) (u := u) r.slots
  have sub : ∀ x ∈ f1 ++ f3, x ∈ f1 ++ f2 := fun x hx => (List.Sublist.append_left s f1).subset hx
  refine ⟨f1, f3, r.hands.go _ _ _ (Go.same (Zf.mono sub)), k.go (Go.same (Zf.mono sub)), r.nd.sublist (List.Sublist.append_left s f1), fun x hx => r.own x (sub x hx), r.fm, fun i hi => ?_⟩
  rw [List.getElem?_set_ne (fun z => hj (by rw [z]; exact hi))]
  exact r.pins i hi
theorem R.hide : ∀ {js : List Nat}, R fr pn pv tmp tv sl σ H → (∀ j ∈ js, j ∉ pn) → R fr pn pv tmp tv (hideT sl js) (wipe σ js) H
  | [], r, _ => r
  | j :: js, r, h => (R.hide (js := js) r fun i hi => h i (List.mem_cons_of_mem _ hi)).hide1 (h j List.mem_cons_self)
theorem ReO.unset {Z : Addr → Prop} : ∀ {ts : List (Option T)} {vs : List (Option V)} {fp : List Addr} {j : Nat}, ReO Z H ts (vs.set j none) fp → ReO Z H ts vs fp
  | [], vs, fp, j, h => by
    obtain ⟨h1, h2⟩ := h
    refine ⟨?_, h2⟩
    have := congrArg List.length h1
    rw [List.length_set] at this
    exact List.length_eq_zero_iff.mp this
  | none :: ts, [], fp, j, ⟨v, vs', e, h⟩ => by cases e
  | none :: ts, w :: ws, fp, 0, ⟨v, vs', e, h⟩ => by
    cases e
    exact ⟨w, ws, rfl, h⟩
  | none :: ts, w :: ws, fp, j + 1, ⟨v, vs', e, h⟩ => by
    cases e
    exact ⟨w, ws, rfl, ReO.unset h⟩
  | some t :: ts, [], fp, j, ⟨v, vs', f1, f2, e1, e2, a, b⟩ => by cases e1
  | some t :: ts, w :: ws, fp, 0, ⟨v, vs', f1, f2, e1, e2, a, b⟩ => by cases e1
  | some t :: ts, w :: ws, fp, j + 1, ⟨v, vs', f1, f2, e1, e2, a, b⟩ => by
    cases e1
    exact ⟨v, ws, f1, f2, rfl, e2, a, ReO.unset b⟩
theorem R.unwipe : ∀ {js : List Nat}, R fr pn pv tmp tv sl (wipe σ js) H → (∀ j ∈ pn, σ[j]? = some (some (pv j))) → R fr pn pv tmp tv sl σ H
  | js, ⟨f1, f2, r⟩, h => by
    refine ⟨f1, f2, r.hands, ?_, r.nd, r.own, r.fm, h⟩
    have hs := r.slots
    clear r h
    induction js with
    | nil => exact hs
    | cons j js ih => exact ih (ReO.unset hs)
theorem go_put {Z Z' : Addr → Prop} {a : Addr} {o u : HO} {f : List Addr} (ha : H a = some u) (hu : tupOf u = none) (hz : ∀ b, Z b → b ≠ a ∧ Z' b) (hf : a ∉ f) : Go Z Z' H (upd H a o) f :=
  ⟨fun b w e hw => by rw [upd_ne (fun z => by rw [z, ha] at e; cases e; rw [hu] at hw; cases hw)]; exact e, fun b w z e => ⟨(hz b z).2, by rw [upd_ne (hz b z).1]; exact e⟩, fun b hb w e => by rw [upd_ne (fun z => hf (by rw [← z]; exact hb))]; exact e⟩
theorem R.item (r : R fr pn pv (.lst true xs :: t :: tmp) (v :: u :: tv) sl σ H) : ∃ a vs, v = .ref a ∧ H a = some (.lst vs) ∧ vs.length = xs.length ∧ R fr pn pv (.lst true (xs ++ [t]) :: tmp) (v :: tv) sl σ (upd H a (.lst (vs ++ [u]))) := by
  obtain ⟨f1, f2, r⟩ := r
  have h := r.hands
  unfold Reps at h
  obtain ⟨v', vs', g1, g2, e1, e2, a, b⟩ := h
  cases e1
  unfold Reps at b
  obtain ⟨u', us', k1, k2, e3, e4, b1, b2⟩ := b
  cases e3
  unfold Rep at a
  obtain ⟨ad, vs, fp', q1, q2, q3, q4⟩ := a
  rw [if_pos rfl] at q4
  subst q1
  subst q4
  subst e4
  have nd := r.nd
  rw [e2] at nd
  have hn : ad ∉ fp' ++ (k1 ++ k2) ++ f2 := by
    have := (List.nodup_cons.mp (show (ad :: (fp' ++ (k1 ++ k2) ++ f2)).Nodup from nd)).1
    exact this
  have mem : ∀ x, x ∈ (ad :: (fp' ++ k1) ++ k2) ++ f2 ↔ x ∈ f1 ++ f2 := fun x => by
    rw [e2]
    simp only [List.mem_append, List.mem_cons]
    constructor
    · rintro (((h | h | h) | h) | h)
      · exact .inl (.inl (.inl h))
      · exact .inl (.inl (.inr h))
      · exact .inl (.inr (.inl h))
      · exact .inl (.inr (.inr h))
      · exact .inr h
    · rintro (((h | h) | h | h) | h)
      · exact .inl (.inl (.inl h))
      · exact .inl (.inl (.inr (.inl h)))
      · exact .inl (.inl (.inr (.inr h)))
      · exact .inl (.inr h)
      · exact .inr h
  have hz : ∀ b, Zf fr (f1 ++ f2) b → b ≠ ad ∧ Zf fr ((ad :: (fp' ++ k1) ++ k2) ++ f2) b := fun b z => ⟨fun e => z.1 ((mem b).mp (by rw [e]; exact List.mem_append_left _ (List.mem_append_left _ List.mem_cons_self))), Zf.mono (fun x hx => (mem x).mp hx) b z⟩
  have go : ∀ f, ad ∉ f → Go (Zf fr (f1 ++ f2)) (Zf fr ((ad :: (fp' ++ k1) ++ k2) ++ f2)) H (upd H ad (.lst (vs ++ [u]))) f := fun f hf => go_put q2 rfl hz hf
  have nf : ∀ {f : List Addr}, (∀ x ∈ f, x ∈ fp' ++ (k1 ++ k2) ++ f2) → ad ∉ f := fun h z => hn (h _ z)
  refine ⟨ad, vs, rfl, q2, q3.len, ad :: (fp' ++ k1) ++ k2, f2, ?_, r.slots.go (go _ (nf fun x hx => List.mem_append_right _ hx)), ?_, fun x hx => r.own x ((mem x).mp hx), fun x o e n => ?_, r.pins⟩
  · unfold Reps
    refine ⟨.ref ad, tv, ad :: (fp' ++ k1), k2, rfl, rfl, ?_, b2.go _ _ _ (go _ (nf fun x hx => by simp only [List.mem_append]; exact .inl (.inr (.inr hx))))⟩
    unfold Rep
    refine ⟨ad, vs ++ [u], fp' ++ k1, rfl, upd_same, ?_, by rw [if_pos rfl]⟩
    exact (q3.go _ _ _ (go _ (nf fun x hx => by simp only [List.mem_append]; exact .inl (.inl hx)))).join (Reps.one (b1.go _ _ _ (go _ (nf fun x hx => by simp only [List.mem_append]; exact .inl (.inr (.inl hx))))))
  · refine (List.Perm.nodup_iff ?_).mpr nd
    refine List.Perm.append_right f2 ?_
    show (ad :: (fp' ++ k1 ++ k2)).Perm (ad :: (fp' ++ (k1 ++ k2)))
    rw [List.append_assoc]
  · have hx := r.fm x o e n
    rw [upd_ne (fun z => ?_)]
    · exact hx
    · have := r.own ad (by rw [e2]; exact List.mem_append_left _ (List.mem_append_left _ List.mem_cons_self))
      rw [z] at e n
      rcases this with h | h
      · rw [e] at h
        cases h
      · exact n h
end
section
variable {fr : Fr} {pn : List Nat} {tmp : List T} {sl : Sl} {KE : T → Sl → Prop} {K : KS} {te : TE} {ta : TE} {wi : TI} {g : TG} {tt : TT} {js : List Nat} {i : Nat} {Kf : PySem.W.Frag} {x : T} {KG : Sl → Prop} {o : Bool}
theorem we_append (h0 : ∃ xs, sl[i]? = some (some (.lst true xs))) (h : WE fr pn tmp sl ta fun t sl1 => ∃ xs, sl1[i]? = some (some (.lst true xs)) ∧ xs.length < sizeLine ∧ KE .non (sl1.set i (some (.lst true (xs ++ [t]))))) :
    WE fr pn tmp sl (tBM Kf "list" rAppend (tVar i) (tCons ta tNil)) KE := fun pv tv σ H Q r q => by
  obtain ⟨xs0, e0⟩ := h0
  obtain ⟨v, Z, f, ev, z⟩ := r.slot e0
  unfold Rep at z
  obtain ⟨a, vs, fp', q1, q2, q3, q4⟩ := z
  subst q1
  refine ⟨.ref a, ev, .inl ⟨rfl, vs, SqL.of q2⟩, h pv tv σ H _ r fun t sl1 u H1 ⟨xs, e1, hl, k⟩ r1 => ?_⟩
  obtain ⟨v', ev', r2⟩ := r1.take e1
  cases Option.some.inj (Option.some.inj (ev.symm.trans ev'))
  obtain ⟨a', vs1, e2, h2, hl2, r3⟩ := r2.item
  cases e2
  refine ⟨a, vs1, u, rfl, rfl, h2, by rw [hl2]; exact hl, ?_⟩
  have hlen : i < sl1.length := (List.getElem?_eq_some_iff.mp e1).1
  have r4 := r3.give (i := i) (by rw [List.getElem?_set_self hlen]) ev
  rw [List.set_set] at r4
  exact q .non _ .non _ k (r4.lit fun Z => by unfold Rep; exact ⟨rfl, rfl⟩)
def WGs (fr : Fr) (pn : List Nat) (tmp : List T) (sl : Sl) (g : TGs) (xs : List T) (K : Sl → Prop) : Prop := ∀ pv vs tv σ H (Q : L2.St → Hp → Prop), vs.length = xs.length → R fr pn pv (xs ++ tmp) (vs ++ tv) sl σ H → (∀ sl' σ' H', K sl' → R fr pn pv tmp tv sl' σ' H' → Q σ' H') → g vs σ H Q
theorem wgs_nil (k : KG sl) : WGs fr pn tmp sl gNil [] KG := fun pv vs tv σ H Q hl r q => by
  match vs, hl with
  | [], _ => exact ⟨rfl, q sl σ H k r⟩
theorem wgs_cons {xs : List T} {gs : TGs} (h : WG fr pn (xs ++ tmp) sl g x fun sl1 => WGs fr pn tmp sl1 gs xs KG) : WGs fr pn tmp sl (gCons g gs) (x :: xs) KG := fun pv vs tv σ H Q hl r q => by
  match vs, hl with
  | v :: vs, hl =>
    refine ⟨v, vs, rfl, h pv v (vs ++ tv) σ H _ r fun sl1 σ1 H1 k r1 => k pv vs tv σ1 H1 Q (by simpa using hl) r1 q⟩
theorem R.openTup {pv : Nat → V} {tv : List V} {σ : L2.St} {H : Hp} {v : V} {xs : List T} (r : R fr pn pv (.tup xs :: tmp) (v :: tv) sl σ H) : ∃ a vs, v = .ref a ∧ TupAt H a vs ∧ vs.length = xs.length ∧ R fr pn pv (xs ++ tmp) (vs ++ tv) sl σ H := by
  obtain ⟨f1, f2, r⟩ := r
  have h := r.hands
  unfold Reps at h
  obtain ⟨v', vs', g1, g2, e1, e2, a, b⟩ := h
  cases e1
  unfold Rep at a
  obtain ⟨ad, vs, q1, q2, q3⟩ := a
  exact ⟨ad, vs, q1, q2, q3.len, f1, f2, by rw [e2] at *; exact q3.join b, r.slots, r.nd, r.own, r.fm, r.pins⟩
theorem wg_tup {xs : List T} {gs : TGs} {n : Nat} (hn : xs.length = n) (h : WGs fr pn tmp sl gs xs KG) : WG fr pn tmp sl (gTup Kf n gs) (.tup xs) KG := fun pv v tv σ H Q r q => by
  obtain ⟨a, vs, e, h1, hl, r1⟩ := r.openTup
  exact ⟨a, vs, e, h1.sq, by rw [hl, hn], h pv vs tv σ H Q hl r1 q⟩
def GOwn (g : TG) (js : List Nat) : Prop := ∀ v σ H (Q : L2.St → Hp → Prop), (g v (wipe σ js) H fun σ2 H2 => wipe σ2 js = wipe σ js → Q σ2 H2) → g v (wipe σ js) H fun σ2 H2 => wipe σ2 js = wipe σ js ∧ Q σ2 H2
theorem wipe_set {σ : L2.St} {v : Option V} : ∀ {js : List Nat}, i ∈ js → wipe (σ.set i v) js = wipe σ js
  | j :: js, h => by
    show (wipe (σ.set i v) js).set j none = (wipe σ js).set j none
    by_cases e : i ∈ js
    · rw [wipe_set e]
    · obtain rfl : i = j := (List.mem_cons.mp h).resolve_right e
      have comm : ∀ js : List Nat, i ∉ js → wipe (σ.set i v) js = (wipe σ js).set i v := fun js => by
        induction js with
        | nil => exact fun _ => rfl
        | cons k ks ih =>
          intro hk
          show (wipe (σ.set i v) ks).set k none = ((wipe σ ks).set k none).set i v
          rw [ih fun z => hk (List.mem_cons_of_mem _ z), List.set_comm]
          exact fun z => hk (by rw [z]; exact List.mem_cons_self)
      rw [comm js e, List.set_set]
theorem wipe_wipe {σ : L2.St} : ∀ {js : List Nat}, wipe (wipe σ js) js = wipe σ js := fun {js} => by
  have h : ∀ ks : List Nat, (∀ k ∈ ks, k ∈ js) → wipe (wipe σ ks) js = wipe σ js := fun ks => by
    induction ks with
    | nil => exact fun _ => rfl
    | cons k ks ih =>
      intro hk
      show wipe ((wipe σ ks).set k none) js = _
      rw [wipe_set (hk k List.mem_cons_self)]
      exact ih fun q hq => hk q (List.mem_cons_of_mem _ hq)
  exact h js fun _ h => h
theorem gown_name (h : i ∈ js) : GOwn (gName i) js := fun v σ H Q k => by
  have e : wipe ((wipe σ js).set i (some v)) js = wipe σ js := (wipe_set h).trans wipe_wipe
  exact ⟨e, k e⟩
theorem gown_name2 {j : Nat} (h : i ∈ js) (h2 : j ∈ js) {n : Nat} : GOwn (gTup Kf n (gCons (gName i) (gCons (gName j) gNil))) js := fun v σ H Q ⟨a, xs, e, s, hl, v1, r1, e1, v2, r2, e2, e3, k⟩ => by
  have e' : wipe (((wipe σ js).set i (some v1)).set j (some v2)) js = wipe σ js := (wipe_set h2).trans ((wipe_set h).trans wipe_wipe)
  exact ⟨a, xs, e, s, hl, v1, r1, e1, v2, r2, e2, e3, e', k e'⟩
theorem we_lc (hg : GOwn g js) (h : WI fr pn tmp sl wi fun n hand item gv sl1 => (∀ j ∈ js, j ∉ gv.toList ++ pn) ∧ ∃ Iv : Nat → List T → Sl → Prop, Iv 0 [] (hideT sl1 js) ∧
    (∀ j acc sl', j < n → Iv j acc sl' → acc.length < sizeLine ∧ WG fr (gv.toList ++ pn) (hand ++ .lst true acc :: tmp) sl' g (item j) fun sl2 => WT fr (gv.toList ++ pn) (hand ++ .lst true acc :: tmp) sl2 tt fun b sl3 =>
      if b = true then WE fr (gv.toList ++ pn) (hand ++ .lst true acc :: tmp) sl3 te fun y sl4 => Iv (j + 1) (acc ++ [y]) (hideT sl4 js) else Iv (j + 1) acc (hideT sl3 js)) ∧
    ∀ acc sl', Iv n acc sl' → Back gv hand sl' (KE (.lst true acc))) : WE fr pn tmp sl (tLc wi g tt te js) KE := fun pv tv σ H Q r q => by
  refine h pv tv σ H _ r fun n hand item gv sl1 hv J H1 ⟨hjs, Iv, i0, is, ie⟩ hl yl hg' r1 => ?_
  intro D hD
  have p0 : ∀ j ∈ pn, σ[j]? = some (some (pv j)) := by
    obtain ⟨f1, f2, r⟩ := r
    exact r.pins
  have hpv : ∀ i, gv = some i → ∃ v, hv = [v] ∧ (fun j => if gv = some j then hv.headD .non else pv j) i = v := fun i e => by
    obtain ⟨v, e1, _⟩ := hg' i e
    exact ⟨v, e1, by show (if gv = some i then _ else _) = v; rw [if_pos e, e1]; rfl⟩
  have r2 := (r1.pin hg').hide hjs
  have r3 : R fr (gv.toList ++ pn) (fun j => if gv = some j then hv.headD .non else pv j) (.lst true [] :: (hand ++ tmp)) (.ref D :: (hv ++ tv)) (hideT sl1 js) (wipe σ js) (upd H1 D (.lst [])) :=
    R.mkLst (ts := []) (vs := []) r2 rfl hD
  have r4 := r3.unrot hl
  refine ⟨fun i m H' => m = n - i ∧ i ≤ n ∧ ∃ acc sl', Iv i acc sl' ∧ R fr (gv.toList ++ pn) (fun j => if gv = some j then hv.headD .non else pv j) (hand ++ .lst true acc :: tmp) (hv ++ .ref D :: tv) sl' (wipe σ js) H', ⟨n, by simp, Nat.zero_le _, [], _, i0, r4⟩, ?_⟩
  rintro i m H' ⟨rfl, him, acc, sl', iv, r'⟩
  obtain ⟨y1, y2, y3⟩ := yl _ _ _ _ _ _ _ _ r'
  by_cases hlt : i < n
  · obtain ⟨hz, kg⟩ := is i acc sl' hlt iv
    refine .inr ⟨y1 i hlt, fun H' => ∃ acc sl', Iv (i + 1) acc sl' ∧ R fr (gv.toList ++ pn) (fun j => if gv = some j then hv.headD .non else pv j) (hand ++ .lst true acc :: tmp) (hv ++ .ref D :: tv) sl' (wipe σ js) H', fun H' z => ⟨n - (i + 1), by omega, rfl, hlt, z⟩, fun x H2 hy => ?_⟩
    refine hg x σ H2 _ (kg _ x _ _ H2 _ (y3 i x H2 hlt hy) fun sl2 σ2 H3 k r5 hw => ?_)
    refine k _ _ σ2 H3 _ r5 fun b sl3 H4 kb r6 => ?_
    cases b with
    | true =>
      rw [if_pos rfl] at kb ⊢
      refine kb _ _ σ2 H4 _ r6 fun y sl4 u H5 ky r7 => ?_
      have r8 : R fr (gv.toList ++ pn) _ (.lst true acc :: (y :: (hand ++ tmp))) (.ref D :: (u :: (hv ++ tv))) sl4 σ2 H5 := R.rot (ts := y :: hand) (vs := u :: hv) r7 (by rw [List.length_cons, List.length_cons, hl])
      obtain ⟨a, vs, e1, e2, e3, r9⟩ := r8.item
      cases e1
      refine ⟨vs, e2, by rw [e3]; exact hz, acc ++ [y], hideT sl4 js, ky, ?_⟩
      rw [← hw]
      exact (r9.unrot hl).hide hjs
    | false =>
      rw [if_neg Bool.false_ne_true] at kb ⊢
      refine ⟨acc, hideT sl3 js, kb, ?_⟩
      rw [← hw]
      exact r6.hide hjs
  · have e : i = n := by omega
    subst e
    have pw : ∀ j ∈ gv.toList ++ pn, σ[j]? = some (some ((fun j => if gv = some j then hv.headD .non else pv j) j)) := by
      obtain ⟨f1, f2, rr⟩ := r1.pin hg'
      exact rr.pins
    have r5 := (r'.rot hl).unwipe pw
    obtain ⟨s, z2, r6⟩ := R.back (P := KE (.lst true acc)) (r5.unrot hl) hl hpv (ie acc sl' iv)
    exact .inl ⟨y2, q _ s _ H' z2 (r6.unpin hg' p0)⟩
end
end Rs
set_option maxHeartbeats 4000000
namespace Rs
open PySem L2 PySem.Spec PyProof.Rows
mutual
def T.isData : T → Bool
  | .non | .bl _ | .int _ | .str _ => true
  | .tup ts => isDataA ts
  | .lst _ ts => isDataA ts
  | _ => false
def isDataA : List T → Bool
  | [] => true
  | t :: ts => t.isData && isDataA ts
end
mutual
def T.toD : T → PyData
  | .bl b => .bool b
  | .int i => .int i
  | .str s => .str s
  | .tup ts => .tuple (toDs ts)
  | .lst _ ts => .list (toDs ts)
  | _ => .none
def toDs : List T → List PyData
  | [] => []
  | t :: ts => t.toD :: toDs ts
end
section
variable {Z : Addr → Prop} {H : Hp} {Kf : PySem.W.Frag}
mutual
theorem Rep.dp : ∀ (t : T) (v : V) (fp : List Addr), Rep Z H t v fp → t.isData = true → Dp Kf H v t.toD
  | .non, _, fp, h, _ => by unfold Rep at h; unfold T.toD; rw [h.1]; exact .non
  | .bl _, _, fp, h, _ => by unfold Rep at h; unfold T.toD; rw [h.1]; exact .bl _
  | .int _, _, fp, h, _ => by unfold Rep at h; unfold T.toD; rw [h.1]; exact .int _
  | .str _, _, fp, h, _ => by unfold Rep at h; unfold T.toD; rw [h.1]; exact .str _
  | .ty _, _, fp, h, s => by unfold T.isData at s; cases s
  | .tup ts, v, fp, h, s => by
    unfold Rep at h
    unfold T.isData at s
    unfold T.toD
    obtain ⟨a, vs, e1, e2, r⟩ := h
    rw [e1]
    exact .tup e2.sq (Reps.dp ts vs fp r s)
  | .lst o ts, v, fp, h, s => by
    unfold Rep at h
    unfold T.isData at s
    unfold T.toD
    obtain ⟨a, vs, fp', e1, e2, r, c⟩ := h
    rw [e1]
    exact .lst (SqL.of e2) (Reps.dp ts vs fp' r s)
  | .dk _ _, _, fp, h, s => by unfold T.isData at s; cases s
  | .dn _ _ _ _, _, fp, h, s => by unfold T.isData at s; cases s
  | .lk _ _ _, _, fp, h, s => by unfold T.isData at s; cases s
  | .pin _, _, fp, h, s => by unfold T.isData at s; cases s
  | .ptp _, _, fp, h, s => by unfold T.isData at s; cases s
  | .obj _ _, _, fp, h, s => by unfold T.isData at s; cases s
  | .abs _, _, fp, h, s => by unfold T.isData at s; cases s
theorem Reps.dp : ∀ (ts : List T) (vs : List V) (fp : List Addr), Reps Z H ts vs fp → isDataA ts = true → DpAll Kf H vs (toDs ts)
  | [], _, fp, h, _ => by unfold Reps at h; unfold toDs; rw [h.1]; exact .nil
  | t :: ts, vs, fp, h, s => by
    unfold Reps at h
    unfold isDataA at s
    rw [Bool.and_eq_true] at s
    unfold toDs
    obtain ⟨v, vs', f1, f2, e1, e2, a, b⟩ := h
    rw [e1]
    exact .cons (Rep.dp t v f1 a s.1) (Reps.dp ts vs' f2 b s.2)
end
end
theorem lit_bl {b : Bool} {H : Hp} : ∀ Z, Rep Z H (.bl b) (.bl b) [] := fun Z => by unfold Rep; exact ⟨rfl, rfl⟩
theorem lit_int {b : Int} {H : Hp} : ∀ Z, Rep Z H (.int b) (.int b) [] := fun Z => by unfold Rep; exact ⟨rfl, rfl⟩
theorem lit_str {b : Str} {H : Hp} : ∀ Z, Rep Z H (.str b) (.str b) [] := fun Z => by unfold Rep; exact ⟨rfl, rfl⟩
theorem v_int {Z : Addr → Prop} {H : Hp} {n : Int} {v : V} {f : List Addr} (h : Rep Z H (.int n) v f) : v = .int n := by unfold Rep at h; exact h.1
theorem v_str {Z : Addr → Prop} {H : Hp} {n : Str} {v : V} {f : List Addr} (h : Rep Z H (.str n) v f) : v = .str n := by unfold Rep at h; exact h.1
theorem v_bl {Z : Addr → Prop} {H : Hp} {n : Bool} {v : V} {f : List Addr} (h : Rep Z H (.bl n) v f) : v = .bl n := by unfold Rep at h; exact h.1
theorem v_non {Z : Addr → Prop} {H : Hp} {v : V} {f : List Addr} (h : Rep Z H .non v f) : v = .non := by unfold Rep at h; exact h.1
def gI (C : Int → Int → Prop) (g : Int → Int → Int) (t1 t2 : T) (K : T → Prop) : Prop := ∃ i j, t1 = .int i ∧ t2 = .int j ∧ C i j ∧ K (.int (g i j))
theorem op2_I0 {g : Int → Int → Int} : Op2 (rI0 fun i j => .int (g i j)) (gI (fun _ _ => True) g) := fun Z1 Z2 H t1 v1 f1 t2 v2 f2 Q K r1 r2 ⟨i, j, e1, e2, _, k⟩ q => by
  subst e1
  subst e2
  obtain rfl := v_int r1
  obtain rfl := v_int r2
  exact ⟨i, j, rfl, rfl, q _ _ H k lit_int (Fm.refl _ _)⟩
theorem op2_I {C : Int → Int → Prop} {g : Int → Int → Int} : Op2 (rI C fun i j => .int (g i j)) (gI C g) := fun Z1 Z2 H t1 v1 f1 t2 v2 f2 Q K r1 r2 ⟨i, j, e1, e2, c, k⟩ q => by
  subst e1
  subst e2
  obtain rfl := v_int r1
  obtain rfl := v_int r2
  exact ⟨i, j, rfl, rfl, c, q _ _ H k lit_int (Fm.refl _ _)⟩
inductive EqT : T → T → Bool → Prop where
  | int (i j : Int) : EqT (.int i) (.int j) (decide (i = j))
  | str (x y : Str) : EqT (.str x) (.str y) (decide (x = y))
  | bl (a b : Bool) : EqT (.bl a) (.bl b) (decide (a = b))
theorem EqT.sound {Z1 Z2 : Addr → Prop} {H : Hp} {t1 t2 : T} {v1 v2 : V} {f1 f2 : List Addr} {b : Bool} (h : EqT t1 t2 b) (r1 : Rep Z1 H t1 v1 f1) (r2 : Rep Z2 H t2 v2 f2) : scal v1 v2 = true ∧ decide (v1 = v2) = b := by
  cases h with
  | int i j =>
    obtain rfl := v_int r1
    obtain rfl := v_int r2
    exact ⟨rfl, decide_eq_decide.mpr ⟨fun z => V.int.inj z, fun z => by rw [z]⟩⟩
  | str x y =>
    obtain rfl := v_str r1
    obtain rfl := v_str r2
    exact ⟨rfl, decide_eq_decide.mpr ⟨fun z => V.str.inj z, fun z => by rw [z]⟩⟩
  | bl x y =>
    obtain rfl := v_bl r1
    obtain rfl := v_bl r2
    exact ⟨rfl, decide_eq_decide.mpr ⟨fun z => V.bl.inj z, fun z => by rw [z]⟩⟩
def gEq (neg : Bool) (t1 t2 : T) (K : T → Prop) : Prop := ∃ b, EqT t1 t2 b ∧ K (.bl (if neg = true then !b else b))
theorem op2_eq : Op2 rEq (gEq false) := fun Z1 Z2 H t1 v1 f1 t2 v2 f2 Q K r1 r2 ⟨b, h, k⟩ q => by
  obtain ⟨s, e⟩ := h.sound r1 r2
  refine ⟨s, ?_⟩
  rw [e]
  exact q _ _ H k lit_bl (Fm.refl _ _)
theorem op2_ne : Op2 rNe (gEq true) := fun Z1 Z2 H t1 v1 f1 t2 v2 f2 Q K r1 r2 ⟨b, h, k⟩ q => by
  obtain ⟨s, e⟩ := h.sound r1 r2
  refine ⟨s, ?_⟩
  rw [e]
  exact q _ _ H k lit_bl (Fm.refl _ _)
def T.isNon : T → Bool
  | .non => true
  | _ => false
theorem isNon_sound {Z : Addr → Prop} {H : Hp} {t : T} {v : V} {f : List Addr} (r : Rep Z H t v f) (h : t.isNon = true ∨ t.isData = true) : decide (v = .non) = t.isNon := by
  cases t with
  | non => rw [v_non r]; rfl
  | bl b => rw [v_bl r]; rfl
  | int b => rw [v_int r]; rfl
  | str b => rw [v_str r]; rfl
  | tup ts =>
    unfold Rep at r
    obtain ⟨a, vs, e, _⟩ := r
    rw [e]
    rfl
  | lst o ts =>
    unfold Rep at r
    obtain ⟨a, vs, _, e, _⟩ := r
    rw [e]
    rfl
  | _ => rcases h with h | h <;> cases h
def gIsN (neg : Bool) (t1 t2 : T) (K : T → Prop) : Prop := (t1.isNon = true ∨ t1.isData = true) ∧ t2 = .non ∧ K (.bl (if neg = true then !t1.isNon else t1.isNon))
theorem op2_isN : Op2 (fun x y H Q => y = .non ∧ Q (.bl (decide (x = .non))) H) (gIsN false) := fun Z1 Z2 H t1 v1 f1 t2 v2 f2 Q K r1 r2 ⟨d1, e2, k⟩ q => by
  subst e2
  refine ⟨v_non r2, ?_⟩
  show Q (.bl (decide (v1 = .non))) H
  rw [isNon_sound r1 d1]
  exact q _ _ H k lit_bl (Fm.refl _ _)
theorem op2_notN : Op2 (fun x y H Q => y = .non ∧ Q (.bl (!decide (x = .non))) H) (gIsN true) := fun Z1 Z2 H t1 v1 f1 t2 v2 f2 Q K r1 r2 ⟨d1, e2, k⟩ q => by
  subst e2
  refine ⟨v_non r2, ?_⟩
  show Q (.bl (!decide (v1 = .non))) H
  rw [isNon_sound r1 d1]
  exact q _ _ H k lit_bl (Fm.refl _ _)
def T.flat : T → Option V
  | .non => some .non
  | .bl b => some (.bl b)
  | .int i => some (.int i)
  | .str s => some (.str s)
  | _ => none
theorem flat_sound {Z : Addr → Prop} {H : Hp} {t : T} {v u : V} {f : List Addr} (r : Rep Z H t v f) (h : t.flat = some u) : v = u ∧ flatV v = true := by
  cases t with
  | non => cases h; exact ⟨v_non r, by rw [v_non r]; rfl⟩
  | bl b => cases h; exact ⟨v_bl r, by rw [v_bl r]; rfl⟩
  | int b => cases h; exact ⟨v_int r, by rw [v_int r]; rfl⟩
  | str b => cases h; exact ⟨v_str r, by rw [v_str r]; rfl⟩
  | _ => cases h
def flats : List T → Option (List V)
  | [] => some []
  | t :: ts => (t.flat).bind fun v => (flats ts).map (v :: ·)
theorem flats_sound {Z : Addr → Prop} {H : Hp} : ∀ {ts : List T} {vs us : List V} {f : List Addr}, Reps Z H ts vs f → flats ts = some us → vs = us ∧ vs.all flatV = true
  | [], vs, us, f, r, h => by
    unfold Reps at r
    cases h
    rw [r.1]
    exact ⟨rfl, rfl⟩
  | t :: ts, vs, us, f, r, h => by
    unfold Reps at r
    unfold flats at h
    obtain ⟨v, vs', f1, f2, e1, e2, a, b⟩ := r
    obtain ⟨u, hu, h2⟩ := Option.bind_eq_some_iff.mp h
    obtain ⟨us', hus, e3⟩ := Option.map_eq_some_iff.mp h2
    obtain ⟨q1, q2⟩ := flat_sound a hu
    obtain ⟨q3, q4⟩ := flats_sound b hus
    subst e1
    subst e3
    subst q1
    subst q3
    exact ⟨rfl, by rw [List.all_cons, q2, q4]; rfl⟩
def T.items : T → Option (List T)
  | .lst _ xs => some xs
  | .tup xs => some xs
  | _ => none
theorem items_sound {Kf : PySem.W.Frag} {Z : Addr → Prop} {H : Hp} {t : T} {v : V} {f : List Addr} {xs : List T} (r : Rep Z H t v f) (h : t.items = some xs) : ∃ a vs g, v = .ref a ∧ (SqL Kf H a vs ∨ SqT Kf H a vs) ∧ Reps Z H xs vs g := by
  cases t with
  | lst o ts =>
    cases h
    unfold Rep at r
    obtain ⟨a, vs, g, e1, e2, r, _⟩ := r
    exact ⟨a, vs, g, e1, .inl (SqL.of e2), r⟩
  | tup ts =>
    cases h
    unfold Rep at r
    obtain ⟨a, vs, e1, e2, r⟩ := r
    exact ⟨a, vs, f, e1, .inr (e2.sq), r⟩
  | _ => cases h
def gIn (neg : Bool) (t1 t2 : T) (K : T → Prop) : Prop := ∃ x xs us, t1.flat = some x ∧ t2.items = some xs ∧ flats xs = some us ∧ K (.bl (if neg = true then !inV x us else inV x us))
theorem op2_in {Kf : PySem.W.Frag} {neg : Bool} : Op2 (rIn Kf neg) (gIn neg) := fun Z1 Z2 H t1 v1 f1 t2 v2 f2 Q K r1 r2 ⟨x, xs, us, h1, h2, h3, k⟩ q => by
  obtain ⟨q1, q2⟩ := flat_sound r1 h1
  obtain ⟨a, vs, g, e1, e2, r3⟩ := items_sound (Kf := Kf) r2 h2
  obtain ⟨q3, q4⟩ := flats_sound r3 h3
  refine ⟨a, vs, e1, e2, q2, q4, ?_⟩
  rw [q1, q3]
  exact q _ _ H k lit_bl (Fm.refl _ _)
section
variable {fr : Fr} {pn : List Nat} {tmp : List T} {sl : Sl} {KE : T → Sl → Prop} {te ta tb : TE} {Kf : PySem.W.Frag}
theorem we_len (h : WB fr pn tmp sl te fun o sl1 => ∃ t xs, o.val sl1 = some t ∧ t.items = some xs ∧ KE (.int xs.length) sl1) : WE fr pn tmp sl (tCB (rLenX Kf) (tCons te tNil)) KE := fun pv tv σ H Q r q => by
  refine h pv tv σ H _ r (fun i sl1 v H1 ⟨t, xs, e1, e2, k⟩ e r1 => ?_) (fun t' sl1 v H1 ⟨t, xs, e1, e2, k⟩ r1 => ?_)
  · obtain ⟨v', Z, f, e', z⟩ := r1.slot (join_some e1)
    cases Option.some.inj (Option.some.inj (e.symm.trans e'))
    obtain ⟨a, vs, g, q1, q2, q3⟩ := items_sound (Kf := Kf) z e2
    refine ⟨a, vs, by rw [q1], q2, ?_⟩
    rw [q3.len]
    exact q _ sl1 _ H1 k (r1.lit lit_int)
  · cases (show some t' = some t from e1)
    obtain ⟨Z, f, z⟩ := r1.top
    obtain ⟨a, vs, g, q1, q2, q3⟩ := items_sound (Kf := Kf) z e2
    refine ⟨a, vs, by rw [q1], q2, ?_⟩
    rw [q3.len]
    exact q _ sl1 _ H1 k (r1.pop.lit lit_int)
theorem we_notV (h : WE fr pn tmp sl ta fun t sl1 => ∃ b, t = .bl b ∧ KE (.bl (!b)) sl1) : WE fr pn tmp sl (tNotV ta) KE := fun pv tv σ H Q r q => h pv tv σ H _ r fun t sl1 v H1 ⟨b, e, k⟩ r1 => by
  subst e
  obtain ⟨Z, f, z⟩ := r1.top
  exact ⟨b, v_bl z, q _ sl1 _ H1 k (r1.pop.lit lit_bl)⟩
theorem we_andV (h : WE fr pn tmp sl ta fun t sl1 => ∃ b, t = .bl b ∧ if b = true then WE fr pn tmp sl1 tb KE else KE (.bl false) sl1) : WE fr pn tmp sl (tAndV ta tb) KE := fun pv tv σ H Q r q => h pv tv σ H _ r fun t sl1 v H1 ⟨b, e, k⟩ r1 => by
  subst e
  obtain ⟨Z, f, z⟩ := r1.top
  refine ⟨b, v_bl z, ?_⟩
  cases b with
  | true =>
    rw [if_pos rfl] at k ⊢
    exact k pv tv σ H1 Q r1.pop q
  | false =>
    rw [if_neg Bool.false_ne_true] at k ⊢
    exact q _ sl1 _ H1 k (r1.pop.lit lit_bl)
theorem we_orV (h : WE fr pn tmp sl ta fun t sl1 => ∃ b, t = .bl b ∧ if b = true then KE (.bl true) sl1 else WE fr pn tmp sl1 tb KE) : WE fr pn tmp sl (tOrV ta tb) KE := fun pv tv σ H Q r q => h pv tv σ H _ r fun t sl1 v H1 ⟨b, e, k⟩ r1 => by
  subst e
  obtain ⟨Z, f, z⟩ := r1.top
  refine ⟨b, v_bl z, ?_⟩
  cases b with
  | true =>
    rw [if_pos rfl] at k ⊢
    exact q _ sl1 _ H1 k (r1.pop.lit lit_bl)
  | false =>
    rw [if_neg Bool.false_ne_true] at k ⊢
    exact k pv tv σ H1 Q r1.pop q
theorem R.under {pv : Nat → V} {tv : List V} {σ : L2.St} {H : Hp} {t : T} {v : V} {as : List T} {vs : List V} (r : R fr pn pv (t :: (as ++ tmp)) (v :: (vs ++ tv)) sl σ H) (hl : vs.length = as.length) : R fr pn pv (t :: tmp) (v :: tv) sl σ H := (r.unrot hl).popA hl
theorem Rep.itemAt {Z : Addr → Prop} {H : Hp} {xs : List T} {vs : List V} {g : List Addr} {i : Int} {t : T} (r : Reps Z H xs vs g) (h : atI xs i = some t) (hs : t.still = true) : ∃ v, atI vs i = some v ∧ Rep Z H t v [] := by
  unfold atI at h ⊢
  rw [r.len]
  obtain ⟨j, e, h⟩ := Option.bind_eq_some_iff.mp h
  rw [e]
  obtain ⟨t', v, f, q1, q2, q3, _⟩ := r.at (List.getElem?_eq_some_iff.mp h).1
  rw [h] at q1
  cases q1
  have := Rep.still _ _ _ q3 hs
  subst this
  exact ⟨v, q2, q3⟩
theorem R.itemS {pv : Nat → V} {tv : List V} {σ : L2.St} {H : Hp} {i : Nat} {j : Int} {t u : T} {xs : List T} (r : R fr pn pv tmp tv sl σ H) (hi : sl[i]? = some (some u)) (hx : u.items = some xs) (h : atI xs j = some t) (hs : t.still = true) :
    ∃ a vs v, σ[i]? = some (some (.ref a)) ∧ (SqL Kf H a vs ∨ SqT Kf H a vs) ∧ (∀ o ys, u = .lst o ys → SqL Kf H a vs) ∧ (∀ ys, u = .tup ys → SqT Kf H a vs) ∧ atI vs j = some v ∧ R fr pn pv (t :: tmp) (v :: tv) sl σ H := by
  obtain ⟨f1, f2, r⟩ := r
  obtain ⟨v, A, f, B, e1, e2, z, _⟩ := r.slots.take hi
  cases u with
  | lst o ts =>
    cases hx
    unfold Rep at z
    obtain ⟨a, vs, g, q1, q2, q3, _⟩ := z
    obtain ⟨w, p1, p2⟩ := Rep.itemAt q3 h hs
    subst q1
    exact ⟨a, vs, w, e1, .inl (SqL.of q2), (fun _ _ _ => SqL.of q2), (fun _ e => nomatch e), p1, r.still p2⟩
  | tup ts =>
    cases hx
    unfold Rep at z
    obtain ⟨a, vs, q1, q2, q3⟩ := z
    obtain ⟨w, p1, p2⟩ := Rep.itemAt q3 h hs
    subst q1
    exact ⟨a, vs, w, e1, .inr (q2.sq), (fun _ _ e => nomatch e), (fun _ _ => q2.sq), p1, r.still p2⟩
  | _ => cases hx
theorem R.itemH {pv : Nat → V} {tv : List V} {σ : L2.St} {H : Hp} {j : Int} {t u : T} {v : V} {xs : List T} (r : R fr pn pv (u :: tmp) (v :: tv) sl σ H) (hx : u.items = some xs) (h : atI xs j = some t) (hs : t.still = true) :
    ∃ a vs w, v = .ref a ∧ (∀ o ys, u = .lst o ys → SqL Kf H a vs) ∧ (∀ ys, u = .tup ys → SqT Kf H a vs) ∧ atI vs j = some w ∧ R fr pn pv (t :: u :: tmp) (w :: v :: tv) sl σ H := by
  obtain ⟨f1, f2, r⟩ := r
  have hh := r.hands
  unfold Reps at hh
  obtain ⟨v', vs', g1, g2, e1, e2, z, b⟩ := hh
  cases e1
  cases u with
  | lst o ts =>
    cases hx
    unfold Rep at z
    obtain ⟨a, vs, g, q1, q2, q3, _⟩ := z
    obtain ⟨w, p1, p2⟩ := Rep.itemAt q3 h hs
    exact ⟨a, vs, w, q1, (fun _ _ _ => SqL.of q2), (fun _ e => nomatch e), p1, r.still p2⟩
  | tup ts =>
    cases hx
    unfold Rep at z
    obtain ⟨a, vs, q1, q2, q3⟩ := z
    obtain ⟨w, p1, p2⟩ := Rep.itemAt q3 h hs
    exact ⟨a, vs, w, q1, (fun _ _ e => nomatch e), (fun _ _ => q2.sq), p1, r.still p2⟩
  | _ => cases hx
theorem we_ixL (h : WB fr pn tmp sl ta fun o sl1 => WE fr pn (o.on tmp) sl1 tb fun t2 sl2 => ∃ q xs i t, o.val sl2 = some (.lst q xs) ∧ t2 = .int i ∧ atI xs i = some t ∧ t.still = true ∧ KE t sl2) : WE fr pn tmp sl (tOp (rIxL Kf) ta tb) KE := fun pv tv σ H Q r q => by
  refine h pv tv σ H _ r (fun i sl1 v H1 k e r1 => ?_) (fun t' sl1 v H1 k r1 => ?_)
  · refine k pv tv σ H1 _ r1 fun t2 sl2 w H2 ⟨o, xs, j, t, e1, e2, e3, e4, kk⟩ r2 => ?_
    subst e2
    obtain ⟨Z, f, z⟩ := r2.top
    obtain rfl := v_int z
    obtain ⟨a, vs, u, p1, _, p2, _, p3, p4⟩ := R.itemS (Kf := Kf) r2.pop (join_some e1) rfl e3 e4
    cases Option.some.inj (Option.some.inj (e.symm.trans p1))
    exact ⟨a, vs, j, u, rfl, rfl, p2 _ _ rfl, p3, q t sl2 u H2 kk p4⟩
  · refine k pv (v :: tv) σ H1 _ r1 fun t2 sl2 w H2 ⟨o, xs, j, t, e1, e2, e3, e4, kk⟩ r2 => ?_
    subst e2
    cases (show some t' = some (T.lst o xs) from e1)
    have r2' : R fr pn pv (.int j :: .lst o xs :: tmp) (w :: v :: tv) sl2 σ H2 := r2
    obtain ⟨Z, f, z⟩ := r2'.top
    obtain rfl := v_int z
    obtain ⟨a, vs, u, p1, p2, _, p3, p4⟩ := R.itemH (Kf := Kf) r2'.pop rfl e3 e4
    subst p1
    exact ⟨a, vs, j, u, rfl, rfl, p2 _ _ rfl, p3, q t sl2 u H2 kk (R.under (as := [.lst o xs]) (vs := [.ref a]) p4 rfl)⟩
theorem we_ixT (h : WB fr pn tmp sl ta fun o sl1 => WE fr pn (o.on tmp) sl1 tb fun t2 sl2 => ∃ xs i t, o.val sl2 = some (.tup xs) ∧ t2 = .int i ∧ atI xs i = some t ∧ t.still = true ∧ KE t sl2) : WE fr pn tmp sl (tOp (rIxT Kf) ta tb) KE := fun pv tv σ H Q r q => by
  refine h pv tv σ H _ r (fun i sl1 v H1 k e r1 => ?_) (fun t' sl1 v H1 k r1 => ?_)
  · refine k pv tv σ H1 _ r1 fun t2 sl2 w H2 ⟨xs, j, t, e1, e2, e3, e4, kk⟩ r2 => ?_
    subst e2
    obtain ⟨Z, f, z⟩ := r2.top
    obtain rfl := v_int z
    obtain ⟨a, vs, u, p1, _, _, p2, p3, p4⟩ := R.itemS (Kf := Kf) r2.pop (join_some e1) rfl e3 e4
    cases Option.some.inj (Option.some.inj (e.symm.trans p1))
    exact ⟨a, vs, j, u, rfl, rfl, p2 _ rfl, p3, q t sl2 u H2 kk p4⟩
  · refine k pv (v :: tv) σ H1 _ r1 fun t2 sl2 w H2 ⟨xs, j, t, e1, e2, e3, e4, kk⟩ r2 => ?_
    subst e2
    cases (show some t' = some (T.tup xs) from e1)
    have r2' : R fr pn pv (.int j :: .tup xs :: tmp) (w :: v :: tv) sl2 σ H2 := r2
    obtain ⟨Z, f, z⟩ := r2'.top
    obtain rfl := v_int z
    obtain ⟨a, vs, u, p1, _, p2, p3, p4⟩ := R.itemH (Kf := Kf) r2'.pop rfl e3 e4
    subst p1
    exact ⟨a, vs, j, u, rfl, rfl, p2 _ rfl, p3, q t sl2 u H2 kk (R.under (as := [.tup xs]) (vs := [.ref a]) p4 rfl)⟩
end
end Rs
set_option maxHeartbeats 4000000
namespace Rs
open PySem L2 PySem.Spec PyProof.Rows
section
variable {κ : Type} [DecidableEq κ]
def valT (kvs : List (κ × T)) (k : κ) : Option T := (kvs.find? fun kv => decide (kv.1 = k)).map (·.2)
def putT (kvs : List (κ × T)) (k : κ) (t : T) : List (κ × T) :=
  if (kvs.any fun kv => decide (kv.1 = k)) = true then kvs.map (fun kv => if kv.1 = k then (kv.1, t) else kv) else kvs ++ [(k, t)]
def dropT (kvs : List (κ × T)) (k : κ) : List (κ × T) := kvs.filter fun kv => decide (kv.1 ≠ k)
end
def T.key : T → Option Key
  | .int i => some (.inl i)
  | .str s => some (.inr s)
  | _ => none
def keyT : Key → T
  | .inl i => .int i
  | .inr s => .str s
def T.dict : T → Option (List (Key × T))
  | .dk _ kvs => some kvs
  | .lk _ _ kvs => some kvs
  | _ => none
section
variable {Z : Addr → Prop} {H : Hp}
theorem key_sound {t : T} {v : V} {f : List Addr} {k : Key} (r : Rep Z H t v f) (h : t.key = some k) : v = kV k := by
  cases t with
  | int i => cases h; exact v_int r
  | str s => cases h; exact v_str r
  | _ => cases h
theorem keyT_lit (k : Key) : ∀ Z, Rep Z H (keyT k) (kV k) [] := fun Z => by
  cases k with
  | inl i => exact lit_int Z
  | inr s => exact lit_str Z
theorem dict_sound {t : T} {v : V} {f : List Addr} {kvs : List (Key × T)} (r : Rep Z H t v f) (h : t.dict = some kvs) : ∃ a ws g, v = .ref a ∧ Rd H a (.dK ws) ∧ RepK Z H kvs ws g := by
  cases t with
  | dk o ts =>
    cases h
    unfold Rep at r
    obtain ⟨a, ws, g, e1, e2, r, _⟩ := r
    exact ⟨a, ws, g, e1, .inl e2, r⟩
  | lk od ws ts =>
    cases h
    unfold Rep at r
    obtain ⟨a, g, e1, e2, r, _⟩ := r
    exact ⟨a, ws, g, e1, .inr ⟨od, e2⟩, r⟩
  | _ => cases h
theorem RepK.val : ∀ {kvs : List (Key × T)} {ws : List (Key × V)} {g : List Addr} (k : Key), RepK Z H kvs ws g → (∃ t v f, valT kvs k = some t ∧ valV ws k = some v ∧ Rep Z H t v f) ∨ (valT kvs k = none ∧ valV ws k = none)
  | [], ws, g, k, r => by
    unfold RepK at r
    rw [r.1]
    exact .inr ⟨rfl, rfl⟩
  | (k', t) :: ts, ws, g, k, r => by
    unfold RepK at r
    obtain ⟨v, vs', f1, f2, e1, e2, a, b⟩ := r
    subst e1
    by_cases e : k' = k
    · refine .inl ⟨t, v, f1, ?_, valV_pos e, a⟩
      simp [valT, List.find?_cons, e]
    · rw [valV_neg e]
      have : valT ((k', t) :: ts) k = valT ts k := by simp [valT, List.find?_cons, e]
      rw [this]
      exact RepK.val k b
theorem RepK.len : ∀ {kvs : List (Key × T)} {ws : List (Key × V)} {g : List Addr}, RepK Z H kvs ws g → ws.length = kvs.length
  | [], ws, g, r => by
    unfold RepK at r
    rw [r.1]
    rfl
  | (k', t) :: ts, ws, g, r => by
    unfold RepK at r
    obtain ⟨v, vs', f1, f2, e1, e2, a, b⟩ := r
    rw [e1, List.length_cons, List.length_cons, RepK.len b]
theorem RepK.keys : ∀ {kvs : List (Key × T)} {ws : List (Key × V)} {g : List Addr}, RepK Z H kvs ws g → ws.map (·.1) = kvs.map (·.1)
  | [], ws, g, r => by
    unfold RepK at r
    rw [r.1]
    rfl
  | (k', t) :: ts, ws, g, r => by
    unfold RepK at r
    obtain ⟨v, vs', f1, f2, e1, e2, a, b⟩ := r
    rw [e1, List.map_cons, List.map_cons, RepK.keys b]
theorem RepK.still : ∀ {kvs : List (Key × T)} {ws : List (Key × V)} {g : List Addr}, RepK Z H kvs ws g → stillK kvs = true → g = []
  | [], ws, g, r, _ => by
    unfold RepK at r
    exact r.2
  | (k', t) :: ts, ws, g, r, s => by
    unfold RepK at r
    unfold stillK at s
    rw [Bool.and_eq_true] at s
    obtain ⟨v, vs', f1, f2, e1, e2, a, b⟩ := r
    rw [e2, Rep.still _ _ _ a s.1, RepK.still b s.2]
    rfl
theorem RepK.map {k : Key} {t : T} {v : V} (ht : Rep Z H t v []) : ∀ {kvs : List (Key × T)} {ws : List (Key × V)}, RepK Z H kvs ws [] → RepK Z H (kvs.map fun kv => if kv.1 = k then (kv.1, t) else kv) (ws.map fun kv => if kv.1 = k then (kv.1, v) else kv) []
  | [], ws, r => by
    unfold RepK at r
    rw [r.1]
    unfold RepK
    exact ⟨rfl, rfl⟩
  | (k', u) :: ts, ws, r => by
    unfold RepK at r
    obtain ⟨w, vs', f1, f2, e1, e2, a, b⟩ := r
    obtain ⟨q1, q2⟩ := List.append_eq_nil_iff.mp e2.symm
    subst q1
    subst q2
    subst e1
    rw [List.map_cons, List.map_cons]
    by_cases e : k' = k
    · rw [if_pos e, if_pos e]
      unfold RepK
      exact ⟨v, _, [], [], rfl, rfl, ht, RepK.map ht b⟩
    · rw [if_neg e, if_neg e]
      unfold RepK
      exact ⟨w, _, [], [], rfl, rfl, a, RepK.map ht b⟩
theorem RepK.snoc {k : Key} {t : T} {v : V} (ht : Rep Z H t v []) : ∀ {kvs : List (Key × T)} {ws : List (Key × V)}, RepK Z H kvs ws [] → RepK Z H (kvs ++ [(k, t)]) (ws ++ [(k, v)]) []
  | [], ws, r => by
    unfold RepK at r
    rw [r.1]
    show RepK Z H [(k, t)] [(k, v)] []
    unfold RepK
    exact ⟨v, [], [], [], rfl, rfl, ht, by unfold RepK; exact ⟨rfl, rfl⟩⟩
  | (k', u) :: ts, ws, r => by
    unfold RepK at r
    obtain ⟨w, vs', f1, f2, e1, e2, a, b⟩ := r
    obtain ⟨q1, q2⟩ := List.append_eq_nil_iff.mp e2.symm
    subst q1
    subst q2
    subst e1
    show RepK Z H ((k', u) :: (ts ++ [(k, t)])) ((k', w) :: (vs' ++ [(k, v)])) []
    unfold RepK
    exact ⟨w, _, [], [], rfl, rfl, a, RepK.snoc ht b⟩
theorem any_keys {k : Key} : ∀ {kvs : List (Key × T)} {ws : List (Key × V)}, ws.map (·.1) = kvs.map (·.1) → (ws.any fun kv => decide (kv.1 = k)) = kvs.any fun kv => decide (kv.1 = k) := fun {kvs ws} h => by
  have e1 : (ws.any fun kv => decide (kv.1 = k)) = (ws.map (·.1)).any fun x => decide (x = k) := by rw [List.any_map]; rfl
  have e2 : (kvs.any fun kv => decide (kv.1 = k)) = (kvs.map (·.1)).any fun x => decide (x = k) := by rw [List.any_map]; rfl
  rw [e1, e2, h]
theorem RepK.put {k : Key} {t : T} {v : V} {kvs : List (Key × T)} {ws : List (Key × V)} (ht : Rep Z H t v []) (r : RepK Z H kvs ws []) : RepK Z H (putT kvs k t) (putK ws k v) [] := by
  unfold putT putK
  rw [any_keys r.keys]
  split
  · exact RepK.map ht r
  · exact RepK.snoc ht r
theorem RepK.drop {k : Key} : ∀ {kvs : List (Key × T)} {ws : List (Key × V)}, RepK Z H kvs ws [] → RepK Z H (dropT kvs k) (dropK ws k) []
  | [], ws, r => by
    unfold RepK at r
    rw [r.1]
    show RepK Z H [] [] []
    unfold RepK
    exact ⟨rfl, rfl⟩
  | (k', u) :: ts, ws, r => by
    unfold RepK at r
    obtain ⟨w, vs', f1, f2, e1, e2, a, b⟩ := r
    obtain ⟨q1, q2⟩ := List.append_eq_nil_iff.mp e2.symm
    subst q1
    subst q2
    subst e1
    unfold dropT dropK
    by_cases e : k' = k
    · rw [List.filter_cons_of_neg (by simpa using e), List.filter_cons_of_neg (by simpa using e)]
      exact RepK.drop b
    · rw [List.filter_cons_of_pos (by simpa using e), List.filter_cons_of_pos (by simpa using e)]
      unfold RepK
      exact ⟨w, _, [], [], rfl, rfl, a, RepK.drop b⟩
end
section
variable {fr : Fr} {pn : List Nat} {tmp : List T} {sl : Sl} {KE : T → Sl → Prop} {K : KS} {td ty tv te : TE} {i : Nat} {Kf : PySem.W.Frag} {g : TG} {tb : TS}
theorem we_dnew (k : KE (.dk true []) sl) : WE fr pn tmp sl tDNewK KE := fun pv tv σ H Q r q p hp => by
  obtain ⟨f1, f2, r⟩ := r
  refine q _ sl _ _ k ⟨p :: f1, f2, ?_⟩
  have np : p ∉ f1 ++ f2 := fun z => by
    rcases List.mem_append.mp z with z | z
    · obtain ⟨o, e, _⟩ := r.hands.there _ _ _ p z
      rw [hp] at e
      cases e
    · obtain ⟨o, e, _⟩ := r.slots.there p z
      rw [hp] at e
      cases e
  have g : ∀ f, Go (Zf fr (f1 ++ f2)) (Zf fr ((p :: f1) ++ f2)) H (upd H p (.dK [])) f := fun f => go_new hp fun a ha z => ⟨fun q => by
    rcases List.mem_cons.mp (show a ∈ p :: (f1 ++ f2) from q) with q | q
    · exact ha q
    · exact z.1 q, z.2⟩
  refine ⟨?_, r.slots.go (g _), List.nodup_cons.mpr ⟨np, r.nd⟩, fun x hx => ?_, r.fm.thenNew hp, r.pins⟩
  · unfold Reps
    refine ⟨.ref p, tv, [p], f1, rfl, rfl, ?_, r.hands.go _ _ _ (g _)⟩
    unfold Rep
    exact ⟨p, [], [], rfl, upd_same, by unfold RepK; exact ⟨rfl, rfl⟩, by simp⟩
  · rcases List.mem_cons.mp (show x ∈ p :: (f1 ++ f2) from hx) with q | q
    · rw [q]
      exact newOwn r.fm hp
    · exact r.own x q
theorem R.slotF {pv : Nat → V} {tv : List V} {σ : L2.St} {H : Hp} {t : T} (r : R fr pn pv tmp tv sl σ H) (hi : sl[i]? = some (some t)) : ∃ f1 f2 v f, Rf fr pn pv tmp tv sl σ H f1 f2 ∧ σ[i]? = some (some v) ∧ Rep (Zf fr (f1 ++ f2)) H t v f := by
  obtain ⟨f1, f2, r⟩ := r
  obtain ⟨v, A, f, B, e1, e2, a, _⟩ := r.slots.take hi
  exact ⟨f1, f2, v, f, r, e1, a⟩
theorem R.topF {pv : Nat → V} {tv : List V} {σ : L2.St} {H : Hp} {t : T} {v : V} (r : R fr pn pv (t :: tmp) (v :: tv) sl σ H) : ∃ f1 f2 f, Rf fr pn pv (t :: tmp) (v :: tv) sl σ H f1 f2 ∧ Rep (Zf fr (f1 ++ f2)) H t v f := by
  obtain ⟨f1, f2, r⟩ := r
  have h := r.hands
  unfold Reps at h
  obtain ⟨v', vs', g1, g2, e1, e2, a, b⟩ := h
  cases e1
  exact ⟨f1, f2, g1, r, a⟩
theorem we_dget (h0 : ∃ u, sl[i]? = some (some u)) (h : WE fr pn tmp sl ty fun t2 sl2 => ∃ d kvs k t, sl2[i]? = some (some d) ∧ d.dict = some kvs ∧ t2.key = some k ∧ valT kvs k = some t ∧ t.still = true ∧ KE t sl2) : WE fr pn tmp sl (tDGet (tVar i) ty) KE := fun pv tv σ H Q r q => by
  obtain ⟨u, h0⟩ := h0
  obtain ⟨v0, Z0, f0, ev, _⟩ := r.slot h0
  refine ⟨v0, ev, h pv tv σ H _ r fun t2 sl2 w H2 ⟨d, kvs, k, t, e1, e2, e3, e4, e5, kk⟩ r2 => ?_⟩
  obtain ⟨Z, f, z⟩ := r2.top
  obtain rfl := key_sound z e3
  obtain ⟨f1, f2, v, f, rf, ev', z⟩ := r2.pop.slotF e1
  cases Option.some.inj (Option.some.inj (ev.symm.trans ev'))
  obtain ⟨a, ws, g, q1, q2, q3⟩ := dict_sound z e2
  rcases q3.val k with ⟨t', v', f', p1, p2, p3⟩ | ⟨p1, _⟩
  · rw [e4] at p1
    cases p1
    have := Rep.still _ _ _ p3 e5
    subst this
    exact ⟨a, v', q1, .inl ⟨ws, k, q2, rfl, p2.symm⟩, q t sl2 v' H2 kk (rf.still p3)⟩
  · rw [e4] at p1
    cases p1
theorem we_dnotin (h : WE fr pn tmp sl ty fun t2 sl2 => ∃ d kvs k, sl2[i]? = some (some d) ∧ d.dict = some kvs ∧ t2.key = some k ∧ KE (.bl (!(valT kvs k).isSome)) sl2) : WE fr pn tmp sl (tDNotIn ty (tVar i)) KE := fun pv tv σ H Q r q =>
  h pv tv σ H _ r fun t2 sl2 w H2 ⟨d, kvs, k, e1, e2, e3, kk⟩ r2 => by
    obtain ⟨Z, f, z⟩ := r2.top
    obtain rfl := key_sound z e3
    obtain ⟨v, Z', f', ev, z⟩ := r2.slot e1
    obtain ⟨a, ws, g, q1, q2, q3⟩ := dict_sound z e2
    subst q1
    refine ⟨.ref a, ev, a, valV ws k, rfl, .inl ⟨ws, k, q2, rfl, rfl⟩, ?_⟩
    have : (valV ws k).isSome = (valT kvs k).isSome := by
      rcases q3.val k with ⟨t', v', f', p1, p2, _⟩ | ⟨p1, p2⟩
      · rw [p1, p2]; rfl
      · rw [p1, p2]; rfl
    rw [this]
    exact q _ sl2 _ H2 kk (r2.pop.lit lit_bl)
theorem R.rewrite {pv : Nat → V} {tv : List V} {σ : L2.St} {H : Hp} {t t' : T} {a : Addr} {u o : HO} (r : R fr pn pv (t :: tmp) (.ref a :: tv) sl σ H) (ha : H a = some u) (hu : tupOf u = none)
    (hf : ∀ Z f, Rep Z H t (.ref a) f → f = [a]) (hn : ∀ (Z Z' : Addr → Prop) (H' : Hp), Rep Z H t (.ref a) [a] → H' a = some o → (∀ b, Z b → b ≠ a ∧ Z' b) → H' = upd H a o → Rep Z' H' t' (.ref a) [a]) : R fr pn pv (t' :: tmp) (.ref a :: tv) sl σ (upd H a o) := by
  obtain ⟨f1, f2, r⟩ := r
  have h := r.hands
  unfold Reps at h
  obtain ⟨v', vs', g1, g2, e1, e2, z, b⟩ := h
  cases e1
  have := hf _ _ z
  subst this
  subst e2
  have hn1 : a ∉ g2 ++ f2 := (List.nodup_cons.mp (show (a :: (g2 ++ f2)).Nodup from r.nd)).1
  have hz : ∀ b, Zf fr (([a] ++ g2) ++ f2) b → b ≠ a ∧ Zf fr (([a] ++ g2) ++ f2) b := fun b z => ⟨fun e => z.1 (by rw [e]; exact List.mem_append_left _ (List.mem_append_left _ List.mem_cons_self)), z⟩
  have go : ∀ f, a ∉ f → Go (Zf fr (([a] ++ g2) ++ f2)) (Zf fr (([a] ++ g2) ++ f2)) H (upd H a o) f := fun f hf => go_put ha hu hz hf
  refine ⟨[a] ++ g2, f2, ?_, r.slots.go (go _ fun q => hn1 (List.mem_append_right _ q)), r.nd, r.own, fun x y e n => ?_, r.pins⟩
  · unfold Reps
    exact ⟨.ref a, tv, [a], g2, rfl, rfl, hn _ _ _ z upd_same hz rfl, b.go _ _ _ (go _ fun q => hn1 (List.mem_append_left _ q))⟩
  · have hx := r.fm x y e n
    rw [upd_ne (fun z => ?_)]
    · exact hx
    · have := r.own a (List.mem_append_left _ (List.mem_append_left _ List.mem_cons_self))
      rw [z] at e n
      rcases this with h | h
      · rw [e] at h
        cases h
      · exact n h
theorem R.dictPut {pv : Nat → V} {tv : List V} {σ : L2.St} {H : Hp} {t : T} {v u : V} {kvs : List (Key × T)} {k : Key} (r : R fr pn pv (.dk true kvs :: t :: tmp) (v :: u :: tv) sl σ H) (hs : stillK kvs = true) (ht : t.still = true) :
    ∃ a ws, v = .ref a ∧ H a = some (.dK ws) ∧ ws.length = kvs.length ∧ R fr pn pv (.dk true (putT kvs k t) :: tmp) (v :: tv) sl σ (upd H a (.dK (putK ws k u))) := by
  have r0 : R fr pn pv (t :: .dk true kvs :: tmp) (u :: v :: tv) sl σ H := R.rot (ts := [.dk true kvs]) (vs := [v]) r rfl
  obtain ⟨f1, f2, f, rf, zt⟩ := r0.topF
  have := Rep.still _ _ _ zt ht
  subst this
  have hh := rf.hands
  unfold Reps at hh
  obtain ⟨v1, vs1, g1, g2, e1, e2, z1, b1⟩ := hh
  cases e1
  have := Rep.still _ _ _ z1 ht
  subst this
  rw [List.nil_append] at e2
  subst e2
  have b2 := b1
  unfold Reps at b2
  obtain ⟨v2, vs2, h1, h2, e3, e4, z2, b3⟩ := b2
  cases e3
  unfold Rep at z2
  obtain ⟨a, ws, fp', q1, q2, q3, q4⟩ := z2
  have := q3.still hs
  subst this
  subst q1
  refine ⟨a, ws, rfl, q2, q3.len, ?_⟩
  have rr : R fr pn pv (.dk true kvs :: tmp) (.ref a :: tv) sl σ H := ⟨f1, f2, b1, rf.slots, rf.nd, rf.own, rf.fm, rf.pins⟩
  -- the frame's footprint is told once, so that what is put is held still by it
  have hn1 : a ∉ h2 ++ f2 := by
    have nd := rf.nd
    rw [if_pos rfl] at q4
    subst q4
    rw [e4] at nd
    exact (List.nodup_cons.mp (show (a :: (h2 ++ f2)).Nodup from nd)).1
  rw [if_pos rfl] at q4
  subst q4
  subst e4
  have hz : ∀ b, Zf fr (([a] ++ h2) ++ f2) b → b ≠ a ∧ Zf fr (([a] ++ h2) ++ f2) b := fun b z => ⟨fun e => z.1 (by rw [e]; exact List.mem_append_left _ (List.mem_append_left _ List.mem_cons_self)), z⟩
  have go : ∀ f, a ∉ f → Go (Zf fr (([a] ++ h2) ++ f2)) (Zf fr (([a] ++ h2) ++ f2)) H (upd H a (.dK (putK ws k u))) f := fun f hf => go_put q2 rfl hz hf
  refine ⟨[a] ++ h2, f2, ?_, rf.slots.go (go _ fun q => hn1 (List.mem_append_right _ q)), rf.nd, rf.own, fun x y e n => ?_, rf.pins⟩
  · unfold Reps
    refine ⟨.ref a, tv, [a], h2, rfl, rfl, ?_, b3.go _ _ _ (go _ fun q => hn1 (List.mem_append_left _ q))⟩
    unfold Rep
    refine ⟨a, putK ws k u, [], rfl, upd_same, ?_, by simp⟩
    have e0 := RepK.put (k := k) zt q3
    exact RepK.go _ _ _ e0 (go [] List.not_mem_nil)
  · have hx := rf.fm x y e n
    rw [upd_ne (fun z => ?_)]
    · exact hx
    · have := rf.own a (List.mem_append_left _ (List.mem_append_left _ List.mem_cons_self))
      rw [z] at e n
      rcases this with h | h
      · rw [e] at h
        cases h
      · exact n h
theorem ws_dput (h : WE fr pn tmp sl tv fun t sl1 => (∃ u, sl1[i]? = some (some u)) ∧ WE fr pn (t :: tmp) sl1 ty fun t2 sl2 => ∃ kvs k, sl2[i]? = some (some (.dk true kvs)) ∧ t2.key = some k ∧ t.still = true ∧ stillK kvs = true ∧ kvs.length < sizeLine ∧ K.nx (sl2.set i (some (.dk true (putT kvs k t))))) :
    WS fr pn tmp sl (sDPut (tVar i) ty tv) K := fun pv us σ H D r n _ _ _ => by
  refine h pv us σ H _ r fun t sl1 v H1 ⟨⟨u, h0⟩, k1⟩ r1 => ?_
  obtain ⟨v0, Z0, f0, ev, _⟩ := r1.slot h0
  refine ⟨v0, ev, k1 pv (v :: us) σ H1 _ r1 fun t2 sl2 w H2 ⟨kvs, k, e1, e2, e3, e4, e5, kk⟩ r2 => ?_⟩
  obtain ⟨Z, f, z⟩ := r2.top
  obtain rfl := key_sound z e2
  obtain ⟨v', ev', r3⟩ := r2.pop.take e1
  cases Option.some.inj (Option.some.inj (ev.symm.trans ev'))
  obtain ⟨a, ws, q1, q2, q3, r4⟩ := r3.dictPut (k := k) e4 e3
  subst q1
  have hlen : i < sl2.length := (List.getElem?_eq_some_iff.mp e1).1
  have r5 := r4.give (i := i) (by rw [List.getElem?_set_self hlen]) ev
  rw [List.set_set] at r5
  exact ⟨a, _, rfl, .inl ⟨ws, k, q2, rfl, by rw [q3]; exact e5, rfl⟩, n _ σ _ kk r5⟩
end
end Rs
set_option maxHeartbeats 4000000
namespace Rs
open PySem L2 PySem.Spec PyProof.Rows
section
variable {fr : Fr} {pn : List Nat} {tmp : List T} {sl : Sl} {KE : T → Sl → Prop} {KT : Bool → Sl → Prop} {K : KS} {td ty tv te ta tb : TE} {i : Nat} {Kf : PySem.W.Frag} {g : TG} {tbd : TS} {c : TT} {KG : Sl → Prop} {x : T}
theorem ws_while (Iv : Nat → Sl → Prop) (h0 : ∃ m, Iv m sl) (hs : ∀ m sl', Iv m sl' → WT fr pn tmp sl' c fun b sl2 => if b = true then WS fr pn tmp sl2 tbd { nx := fun s => ∃ m', m' < m ∧ Iv m' s, ct := fun s => ∃ m', m' < m ∧ Iv m' s, bk := K.nx, rt := K.rt } else K.nx sl2) :
    WS fr pn tmp sl (tWhile c tbd) K := fun pv tv σ H D r n rt _ _ => by
  obtain ⟨m0, i0⟩ := h0
  refine ⟨fun m σ' H' => ∃ sl', Iv m sl' ∧ R fr pn pv tmp tv sl' σ' H', ⟨m0, sl, i0, r⟩, ?_⟩
  rintro m σ' H' ⟨sl', iv, r'⟩
  refine hs m sl' iv pv tv σ' H' _ r' fun b sl2 H2 k r2 => ?_
  cases b with
  | true =>
    rw [if_pos rfl] at k ⊢
    exact ⟨fun σ' H' => ∃ m', m' < m ∧ ∃ sl', Iv m' sl' ∧ R fr pn pv tmp tv sl' σ' H', fun σ' H' ⟨m', h1, sl', h2, h3⟩ => ⟨m', h1, sl', h2, h3⟩,
      k pv tv σ' H2 _ r2 (fun s σ3 H3 ⟨m', h1, h2⟩ r3 => ⟨m', h1, s, h2, r3⟩) rt (fun s σ3 H3 h r3 => n s σ3 H3 h r3) (fun s σ3 H3 ⟨m', h1, h2⟩ r3 => ⟨m', h1, s, h2, r3⟩)⟩
  | false =>
    rw [if_neg Bool.false_ne_true] at k ⊢
    exact n sl2 σ' H2 k r2
theorem wt_truth {t : T} {xs : List T} (h : sl[i]? = some (some t)) (hx : t.items = some xs) (k : KT (!xs.isEmpty) sl) : WT fr pn tmp sl (fun σ H Q => tVar i σ H fun x H' => ∃ k, TruV Kf x H' k ∧ Q k H') KT := fun pv tv σ H Q r q => by
  obtain ⟨v, Z, f, ev, z⟩ := r.slot h
  obtain ⟨a, vs, g, e1, e2, e3⟩ := items_sound (Kf := Kf) z hx
  subst e1
  have e : (!vs.isEmpty) = !xs.isEmpty := by
    have := e3.len
    cases vs with
    | nil => cases xs with
      | nil => rfl
      | cons _ _ => cases this
    | cons _ _ => cases xs with
      | nil => cases this
      | cons _ _ => rfl
  refine ⟨.ref a, ev, !vs.isEmpty, ?_, ?_⟩
  · rcases e2 with e2 | e2
    · exact .inl ⟨vs, e2, rfl⟩
    · exact .inr (.inl ⟨vs, e2, rfl⟩)
  · rw [e]
    exact q _ sl H k r
theorem Reps.snoc {Z : Addr → Prop} {H : Hp} : ∀ {xs : List T} {t : T} {vs : List V} {f : List Addr}, Reps Z H (xs ++ [t]) vs f → ∃ ws v f1 f2, vs = ws ++ [v] ∧ f = f1 ++ f2 ∧ Reps Z H xs ws f1 ∧ Rep Z H t v f2 := fun {xs t vs f} r => by
  obtain ⟨v1, v2, f1, f2, e1, e2, e3, a, b⟩ := r.split
  unfold Reps at b
  obtain ⟨v, vs', g1, g2, q1, q2, q3, q4⟩ := b
  unfold Reps at q4
  obtain ⟨q5, q6⟩ := q4
  subst q5
  subst q6
  subst q1
  rw [List.append_nil] at q2
  subst q2
  exact ⟨v1, v, f1, f2, e1, e3, a, q3⟩
theorem R.popLast {pv : Nat → V} {tv : List V} {σ : L2.St} {H : Hp} {xs : List T} {t : T} {v : V} (r : R fr pn pv (.lst true (xs ++ [t]) :: tmp) (v :: tv) sl σ H) :
    ∃ a ws u, v = .ref a ∧ H a = some (.lst (ws ++ [u])) ∧ R fr pn pv (t :: .lst true xs :: tmp) (u :: v :: tv) sl σ (upd H a (.lst ws)) := by
  obtain ⟨f1, f2, r⟩ := r
  have h := r.hands
  unfold Reps at h
  obtain ⟨v', vs', g1, g2, e1, e2, z, b⟩ := h
  cases e1
  unfold Rep at z
  obtain ⟨ad, vs, fp', q1, q2, q3, q4⟩ := z
  rw [if_pos rfl] at q4
  subst q1
  subst q4
  obtain ⟨ws, u, k1, k2, y1, y2, y3, y4⟩ := q3.snoc
  subst y1
  subst y2
  have nd := r.nd
  rw [e2] at nd
  have hn : ad ∉ (k1 ++ k2) ++ g2 ++ f2 := (List.nodup_cons.mp (show (ad :: ((k1 ++ k2) ++ g2 ++ f2)).Nodup from nd)).1
  have mem : ∀ x, x ∈ (k2 ++ (ad :: k1 ++ g2)) ++ f2 ↔ x ∈ f1 ++ f2 := fun x => by
    rw [e2]
    simp only [List.mem_append, List.mem_cons]
    constructor
    · rintro ((h | (h | h) | h) | h)
      · exact .inl (.inl (.inr (.inr h)))
      · exact .inl (.inl (.inl h))
      · exact .inl (.inl (.inr (.inl h)))
      · exact .inl (.inr h)
      · exact .inr h
    · rintro (((h | h | h) | h) | h)
      · exact .inl (.inr (.inl (.inl h)))
      · exact .inl (.inr (.inl (.inr h)))
      · exact .inl (.inl h)
      · exact .inl (.inr (.inr h))
      · exact .inr h
  have hz : ∀ b, Zf fr (f1 ++ f2) b → b ≠ ad ∧ Zf fr ((k2 ++ (ad :: k1 ++ g2)) ++ f2) b := fun b z => ⟨fun e => z.1 ((mem b).mp (by rw [e]; simp)), Zf.mono (fun x hx => (mem x).mp hx) b z⟩
  have go : ∀ f, (∀ x ∈ f, x ∈ (k1 ++ k2) ++ g2 ++ f2) → Go (Zf fr (f1 ++ f2)) (Zf fr ((k2 ++ (ad :: k1 ++ g2)) ++ f2)) H (upd H ad (.lst ws)) f := fun f hf => go_put q2 rfl hz fun q => hn (hf _ q)
  refine ⟨ad, ws, u, rfl, q2, k2 ++ (ad :: k1 ++ g2), f2, ?_, r.slots.go (go _ fun x hx => by simp [hx]), ?_, fun x hx => r.own x ((mem x).mp hx), fun x y e n => ?_, r.pins⟩
  · unfold Reps
    refine ⟨u, .ref ad :: tv, k2, ad :: k1 ++ g2, rfl, rfl, y4.go _ _ _ (go _ fun x hx => by simp [hx]), ?_⟩
    unfold Reps
    refine ⟨.ref ad, tv, ad :: k1, g2, rfl, rfl, ?_, b.go _ _ _ (go _ fun x hx => by simp [hx])⟩
    unfold Rep
    exact ⟨ad, ws, k1, rfl, upd_same, y3.go _ _ _ (go _ fun x hx => by simp [hx]), by rw [if_pos rfl]⟩
  · refine (List.Perm.nodup_iff (List.Perm.append_right f2 ?_)).mpr nd
    have h1 : (k2 ++ (ad :: k1 ++ g2)).Perm ((ad :: k1) ++ (k2 ++ g2)) := by
      rw [← List.append_assoc, ← List.append_assoc]
      exact List.Perm.append_right g2 List.perm_append_comm
    refine h1.trans ?_
    show (ad :: (k1 ++ (k2 ++ g2))).Perm (ad :: ((k1 ++ k2) ++ g2))
    rw [List.append_assoc]
  · have hx := r.fm x y e n
    rw [upd_ne (fun z => ?_)]
    · exact hx
    · have := r.own ad ((mem ad).mp (by simp))
      rw [z] at e n
      rcases this with h | h
      · rw [e] at h
        cases h
      · exact n h
theorem we_pop {xs : List T} {t : T} (h : sl[i]? = some (some (.lst true (xs ++ [t])))) (k : KE t (sl.set i (some (.lst true xs)))) : WE fr pn tmp sl (tBM0 Kf "list" rPop (tVar i)) KE := fun pv tv σ H Q r q => by
  obtain ⟨v, ev, r1⟩ := r.take h
  obtain ⟨a, ws, u, e1, e2, r2⟩ := r1.popLast
  subst e1
  have hlen : i < sl.length := (List.getElem?_eq_some_iff.mp h).1
  have r3 : R fr pn pv (.lst true xs :: t :: tmp) (.ref a :: u :: tv) (sl.set i none) σ (upd H a (.lst ws)) := R.rot (ts := [t]) (vs := [u]) r2 rfl
  have r4 := r3.give (i := i) (by rw [List.getElem?_set_self hlen]) ev
  rw [List.set_set] at r4
  refine ⟨.ref a, ev, .inl ⟨rfl, _, SqL.of e2⟩, a, ws ++ [u], u, rfl, rfl, e2, by rw [List.length_append, List.length_singleton, Nat.add_sub_cancel, List.getElem?_concat_length], ?_⟩
  rw [List.dropLast_concat]
  exact q t _ u _ k r4
def rTupOf (Kf : PySem.W.Frag) : List V → Hp → VK → Prop := fun xs H Q => ∃ p ys, xs = [.ref p] ∧ ((SqL Kf H p ys ∧ ∀ l, H l = none → Q (.ref l) (upd H l (.tup ys))) ∨ (SqT Kf H p ys ∧ Q (.ref p) H))
theorem R.toTup {pv : Nat → V} {tv : List V} {σ : L2.St} {H : Hp} {o : Bool} {xs : List T} {v : V} (r : R fr pn pv (.lst o xs :: tmp) (v :: tv) sl σ H) : ∃ a vs, v = .ref a ∧ H a = some (.lst vs) ∧ ∀ p, H p = none → R fr pn pv (.tup xs :: tmp) (.ref p :: tv) sl σ (upd H p (.tup vs)) := by
  obtain ⟨f1, f2, r⟩ := r
  have h := r.hands
  unfold Reps at h
  obtain ⟨v', vs', g1, g2, e1, e2, z, b⟩ := h
  cases e1
  unfold Rep at z
  obtain ⟨ad, vs, fp', q1, q2, q3, q4⟩ := z
  refine ⟨ad, vs, q1, q2, fun p hp => ?_⟩
  have sub : ∀ x ∈ fp', x ∈ g1 := fun x hx => by
    cases o with
    | true =>
      rw [if_pos rfl] at q4
      rw [q4]
      exact List.mem_cons_of_mem _ hx
    | false =>
      rw [if_neg Bool.false_ne_true] at q4
      rw [q4.2.1] at hx
      exact (List.not_mem_nil hx).elim
  have sub2 : ∀ x ∈ (fp' ++ g2) ++ f2, x ∈ f1 ++ f2 := fun x hx => by
    rw [e2]
    simp only [List.mem_append] at hx ⊢
    rcases hx with (h | h) | h
    · exact .inl (.inl (sub x h))
    · exact .inl (.inr h)
    · exact .inr h
  have r1 : R fr pn pv (xs ++ tmp) (vs ++ tv) sl σ H := by
    refine ⟨fp' ++ g2, f2, (q3.go _ _ _ (Go.same (Zf.mono sub2))).join (b.go _ _ _ (Go.same (Zf.mono sub2))), r.slots.go (Go.same (Zf.mono sub2)), ?_, fun x hx => r.own x (sub2 x hx), r.fm, r.pins⟩
    have nd := r.nd
    rw [e2] at nd
    cases o with
    | true =>
      rw [if_pos rfl] at q4
      rw [q4] at nd
      exact (List.nodup_cons.mp (show (ad :: (fp' ++ g2 ++ f2)).Nodup from nd)).2
    | false =>
      rw [if_neg Bool.false_ne_true] at q4
      rw [q4.2.2] at nd
      rw [q4.2.1]
      exact nd
  exact r1.mkTup q3.len hp
theorem we_tupleOf (h : WE fr pn tmp sl te fun t sl1 => ∃ o xs, t = .lst o xs ∧ KE (.tup xs) sl1) : WE fr pn tmp sl (tCB (rTupOf Kf) (tCons te tNil)) KE := fun pv tv σ H Q r q => h pv tv σ H _ r fun t sl1 v H1 ⟨o, xs, e, k⟩ r1 => by
  subst e
  obtain ⟨a, vs, e1, e2, k2⟩ := r1.toTup
  subst e1
  exact ⟨a, vs, rfl, .inl ⟨SqL.of e2, fun p hp => q _ sl1 _ _ k (k2 p hp)⟩⟩
theorem ws_forKeys {kvs : List (Key × T)} (h : sl[i]? = some (some (.dk true kvs))) (hw : ∀ od ws, ∃ Iv : Nat → Sl → Prop, Iv 0 (sl.set i (some (.lk od ws kvs))) ∧ (∀ j sl', j < kvs.length → Iv j sl' → WG fr (i :: pn) tmp sl' g ((kvs.map fun p => keyT p.1).getD j .non) fun sl2 => WS fr (i :: pn) tmp sl2 tbd
      { nx := Iv (j + 1), ct := Iv (j + 1), bk := fun s => s[i]? = some (some (.lk od ws kvs)) ∧ K.nx (s.set i (some (.dk true kvs))), rt := fun t s => s[i]? = some (some (.lk od ws kvs)) ∧ K.rt t (s.set i (some (.dk true kvs))) }) ∧
      (∀ j sl', Iv j sl' → sl'[i]? = some (some (.lk od ws kvs))) ∧ ∀ sl', Iv kvs.length sl' → K.nx (sl'.set i (some (.dk true kvs)))) : WS fr pn tmp sl (tLock (tFor (iKeys (tVar i)) g tbd)) K := fun pv tv σ H D r n rt _ _ => by
  obtain ⟨v, ev, r1⟩ := r.take h
  obtain ⟨f1, f2, rf⟩ := r1
  have hh := rf.hands
  unfold Reps at hh
  obtain ⟨v', vs', g1, g2, e1, e2, z, b⟩ := hh
  cases e1
  unfold Rep at z
  obtain ⟨a, ws, fp', q1, q2, q3, q4⟩ := z
  rw [if_pos rfl] at q4
  subst q1
  subst q4
  have hlen : i < sl.length := (List.getElem?_eq_some_iff.mp h).1
  -- locking and unlocking, by the frame
  have lockR : ∀ {H1 H2 : Hp} {s : Sl} {σ1 : L2.St} {u1 u2 : HO} {hs : List T} {hv : List V} {t1 t2 : T}, H1 a = some u1 → tupOf u1 = none → H2 = upd H1 a u2 → (∀ Z f, Rep Z H1 t1 (.ref a) f → ∃ f', f = a :: f' ∧ ∀ Z' : Addr → Prop, (∀ x, Z x → x ≠ a ∧ Z' x) → a ∉ f' → Rep Z' H2 t2 (.ref a) (a :: f')) →
      ∀ {pn1 : List Nat} {pv1 : Nat → V}, R fr pn1 pv1 (t1 :: hs) (.ref a :: hv) s σ1 H1 → R fr pn1 pv1 (t2 :: hs) (.ref a :: hv) s σ1 H2 := fun {H1 H2 s σ1 u1 u2 hs hv t1 t2} ha hu e ht {pn1 pv1} ⟨g1, g2, rr⟩ => by
    have hh := rr.hands
    unfold Reps at hh
    obtain ⟨v', vs', k1, k2, y1, y2, zz, bb⟩ := hh
    cases y1
    obtain ⟨f', y3, ht⟩ := ht _ _ zz
    subst y3
    subst e
    subst y2
    have nd := rr.nd
    have hn : a ∉ f' ++ k2 ++ g2 := (List.nodup_cons.mp (show (a :: (f' ++ k2 ++ g2)).Nodup from nd)).1
    have hz : ∀ x, Zf fr ((a :: f' ++ k2) ++ g2) x → x ≠ a ∧ Zf fr ((a :: f' ++ k2) ++ g2) x := fun x z => ⟨fun e => z.1 (by rw [e]; simp), z⟩
    have go : ∀ f, (∀ x ∈ f, x ∈ f' ++ k2 ++ g2) → Go (Zf fr ((a :: f' ++ k2) ++ g2)) (Zf fr ((a :: f' ++ k2) ++ g2)) H1 (upd H1 a u2) f := fun f hf => go_put ha hu hz fun q => hn (hf _ q)
    refine ⟨a :: f' ++ k2, g2, ?_, rr.slots.go (go _ fun x hx => by simp [hx]), nd, rr.own, fun x y e n => ?_, rr.pins⟩
    · unfold Reps
      exact ⟨.ref a, hv, a :: f', k2, rfl, rfl, ht _ hz (fun q => hn (by simp [q])), bb.go _ _ _ (go _ fun x hx => by simp [hx])⟩
    · have hx := rr.fm x y e n
      rw [upd_ne (fun z => ?_)]
      · exact hx
      · have := rr.own a (by simp)
        rw [z] at e n
        rcases this with h | h
        · rw [e] at h
          cases h
        · exact n h
  refine ⟨a, .dK ws, q2, trivial, fun od => ?_⟩
  obtain ⟨Iv, i0, is, il, ie⟩ := hw od ws
  have rl : R fr pn pv (.lk od ws kvs :: tmp) (.ref a :: tv) (sl.set i none) σ (upd H a (.frz od (.dK ws))) := by
    refine lockR (t1 := .dk true kvs) q2 rfl rfl (fun Z f z => ?_) ⟨f1, f2, rf⟩
    unfold Rep at z
    obtain ⟨a', ws', f', y1, y2, y3, y4⟩ := z
    cases y1
    rw [q2] at y2
    cases y2
    rw [if_pos rfl] at y4
    refine ⟨f', y4, fun Z' hz hn => ?_⟩
    unfold Rep
    exact ⟨a, f', rfl, upd_same, y3.go _ _ _ (go_put q2 rfl hz hn), rfl⟩
  have rs : R fr pn pv tmp tv (sl.set i (some (.lk od ws kvs))) σ (upd H a (.frz od (.dK ws))) := by
    have := rl.give (i := i) (by rw [List.getElem?_set_self hlen]) ev
    rw [List.set_set] at this
    exact this
  have hg : ∀ k, (some i : Option Nat) = some k → ∃ v, [V.ref a] = [v] ∧ σ[k]? = some (some v) := fun k e => by
    cases e
    exact ⟨_, rfl, ev⟩
  have rp : R fr (i :: pn) (fun j => if (some i : Option Nat) = some j then (V.ref a) else pv j) tmp tv (sl.set i (some (.lk od ws kvs))) σ (upd H a (.frz od (.dK ws))) := R.pin (gv := some i) (hv := [.ref a]) rs hg
  have p0 : ∀ j ∈ pn, σ[j]? = some (some (pv j)) := rf.pins
  -- behind: unlocked again
  have un : ∀ {s : Sl} {σ' : L2.St} {H' : Hp} {hs : List T} {hv : List V}, s[i]? = some (some (.lk od ws kvs)) → R fr (i :: pn) (fun j => if (some i : Option Nat) = some j then (V.ref a) else pv j) hs hv s σ' H' → H' a = some (.frz od (.dK ws)) ∧ R fr pn pv hs hv (s.set i (some (.dk true kvs))) σ' (upd H' a (.dK ws)) := fun {s σ' H' hs hv} hi rr => by
    obtain ⟨v2, ev2, r2⟩ := rr.take hi
    have ev3 : σ'[i]? = some (some (V.ref a)) := by
      obtain ⟨y1, y2, yy⟩ := rr
      have := yy.pins i List.mem_cons_self
      rw [this]
      simp
    cases Option.some.inj (Option.some.inj (ev2.symm.trans ev3))
    obtain ⟨y1, y2, y3, yr, yz⟩ := r2.topF
    unfold Rep at yz
    obtain ⟨a2, f2', w1, w2, w3, w4⟩ := yz
    cases w1
    refine ⟨w2, ?_⟩
    have r3 : R fr (i :: pn) (fun j => if (some i : Option Nat) = some j then (V.ref a) else pv j) (.dk true kvs :: hs) (.ref a :: hv) (s.set i none) σ' (upd H' a (.dK ws)) := by
      refine lockR (t1 := .lk od ws kvs) w2 rfl rfl (fun Z f z => ?_) r2
      unfold Rep at z
      obtain ⟨a', f', z1, z2, z3, z4⟩ := z
      cases z1
      refine ⟨f', z4, fun Z' hz hn => ?_⟩
      unfold Rep
      exact ⟨a, ws, f', rfl, upd_same, z3.go _ _ _ (go_put w2 rfl hz hn), by rw [if_pos rfl]⟩
    have hl2 : i < s.length := (List.getElem?_eq_some_iff.mp hi).1
    have r4 := r3.give (i := i) (by rw [List.getElem?_set_self hl2]) ev3
    rw [List.set_set] at r4
    exact R.unpin (gv := some i) (hv := [.ref a]) (σ0 := σ) r4 hg p0
  have at0 : ∀ {j : Nat} {s : Sl} {σ' : L2.St} {H' : Hp}, Iv j s → R fr (i :: pn) (fun j => if (some i : Option Nat) = some j then (V.ref a) else pv j) tmp tv s σ' H' → H' a = some (.frz od (.dK ws)) := fun iv rr => (un (il _ _ iv) rr).1
  refine ⟨.ref a, ev, a, od, rfl, .inl ⟨ws, upd_same, ?_⟩⟩
  have wl : ws.length = kvs.length := q3.len
  refine for_it (walk_keys (kvs := ws)) (fun j σ' H' => ∃ s, Iv j s ∧ R fr (i :: pn) (fun j => if (some i : Option Nat) = some j then (V.ref a) else pv j) tmp tv s σ' H') ⟨_, i0, rp⟩ (fun j σ' H' _ ⟨s, iv, rr⟩ => at0 iv rr) ?_ (fun σ' H' ⟨s, iv, rr⟩ => ?_)
  · rintro j x σ' H1 H' hj ⟨s, iv, rr⟩ ⟨rfl, k, u, hk, rfl⟩
    have ek : (kvs.map fun p => keyT p.1).getD j .non = keyT k := by
      have h1 := q3.keys
      have h2 : (ws.map (·.1))[j]? = some k := by rw [List.getElem?_map, hk]; rfl
      rw [h1, List.getElem?_map] at h2
      obtain ⟨p, hp, e⟩ := Option.map_eq_some_iff.mp h2
      rw [List.getD_eq_getElem?_getD, List.getElem?_map, hp]
      show keyT p.1 = keyT k
      rw [e]
    refine is j s (by omega) iv _ (kV k) tv σ' H' _ (by rw [ek]; exact rr.lit (keyT_lit k)) fun sl2 σ2 H2 kb r2 => ?_
    refine kb _ tv σ2 H2 _ r2 (fun s σ3 H3 h r3 => ⟨s, h, r3⟩) (fun t s v σ3 H3 ⟨h1, h2⟩ r3 => ?_) (fun s σ3 H3 ⟨h1, h2⟩ r3 => ?_) (fun s σ3 H3 h r3 => ⟨s, h, r3⟩)
    · obtain ⟨y1, y2⟩ := un h1 r3
      exact ⟨y1, rt t _ v σ3 _ h2 y2⟩
    · obtain ⟨y1, y2⟩ := un h1 r3
      exact ⟨y1, n _ σ3 _ h2 y2⟩
  · obtain ⟨y1, y2⟩ := un (il _ _ iv) rr
    exact ⟨y1, n _ σ' _ (ie s (wl ▸ iv)) y2⟩
end
end Rs
set_option maxHeartbeats 4000000
namespace Rs
open PySem L2 PySem.Spec PyProof.Rows
def IsIns (C : Addr) (m : Str) (t : T) : Prop := ∃ rep, t = .abs rep ∧ ∀ H v fp, rep H v fp → ∃ a dx fs, v = .ref a ∧ H a = some (.ins C dx fs) ∧ fs.lookup m = none
section
variable {fr : Fr} {pn : List Nat} {tmp : List T} {sl : Sl} {KE : T → Sl → Prop} {args : TA} {g : List T → (T → List T → Prop) → Prop} {E : XK} {C : Addr} {m : Str} {i : Nat} {t : T}
theorem we_meth (mo : Mono g) (h0 : sl[i]? = some (some t)) (hi : IsIns C m t) (h : WO fr pn tmp sl args fun os sl1 => ∃ as sl2, gatherT (.sl i :: os) sl1 = some (as, sl2) ∧ g as fun t ts' => ∃ sl3, scatterT (.sl i :: os) ts' sl2 = some sl3 ∧ KE t sl3) :
    WE fr pn tmp sl (tMeth C m (spT g) [] E (tVar i) args) KE := fun pv tv σ H Q r q => by
  obtain ⟨v, Z, f, ev, z⟩ := r.slot h0
  obtain ⟨rep, e, hi⟩ := hi
  subst e
  unfold Rep at z
  obtain ⟨a, dx, fs, e1, e2, e3⟩ := hi _ _ _ z.2
  subst e1
  refine ⟨.ref a, ev, a, dx, fs, rfl, e2, e3, h pv tv σ H _ r fun os sl1 vs ts us H1 ⟨as, sl2, e4, k⟩ o r1 => ?_⟩
  obtain ⟨r2, hl⟩ := gather (Opds.sl ev o) r1 e4
  show spT g (.ref a :: (vs ++ [])) H1 Q E
  rw [List.append_nil]
  refine call_core r2 hl k (mo as) fun t ts' v H' kk r3 hl3 => ?_
  obtain ⟨sl3, e5, kk⟩ := kk
  exact q t sl3 v H' kk (scatter (Opds.sl ev o) (r3.unrot hl3.symm) e5)
end
theorem FnOk.weak {P : Program} {w : World} {K : PySem.W.Frag} {mg : Str → Option Value} {base : Heap} {CX : CXT} {k : Nat} {f : Addr} {fd : FuncData} {ps : List Str} {sp sp' : Sp} (F : FnOk P w K mg base CX k f fd ps sp) (h : ∀ vs H Q E, sp' vs H Q E → sp vs H Q E) : FnOk P w K mg base CX k f fd ps sp' :=
  ⟨fun vs H Q E z => F.len vs H Q E (h vs H Q E z), fun A around s H given us vs Q E a b c d z => F.run A around s H given us vs Q E a b c d (h vs H Q E z)⟩
mutual
def kT : NestedKey → T
  | .none => .non
  | .num i => .int i
  | .text s => .str s
  | .tup ks => .tup (kTs ks)
def kTs : List NestedKey → List T
  | [] => []
  | k :: ks => kT k :: kTs ks
end
mutual
theorem kT_still : ∀ k : NestedKey, (kT k).still = true
  | .none => by unfold kT T.still; rfl
  | .num i => by unfold kT T.still; rfl
  | .text s => by unfold kT T.still; rfl
  | .tup ks => by unfold kT T.still; exact kTs_still ks
theorem kTs_still : ∀ ks : List NestedKey, stillA (kTs ks) = true
  | [] => by unfold kTs stillA; rfl
  | k :: ks => by unfold kTs stillA; rw [kT_still k, kTs_still ks]; rfl
end
section
variable {Z : Addr → Prop} {H : Hp}
mutual
theorem Rep.nk : ∀ (k : NestedKey) (v : V) (f : List Addr), Rep Z H (kT k) v f → NK H k v
  | .none, v, f, h => by unfold kT Rep at h; rw [h.1]; exact .none
  | .num i, v, f, h => by unfold kT Rep at h; rw [h.1]; exact .num i
  | .text s, v, f, h => by unfold kT Rep at h; rw [h.1]; exact .text s
  | .tup ks, v, f, h => by
    unfold kT Rep at h
    obtain ⟨a, vs, e1, e2, r⟩ := h
    rw [e1]
    exact .tup e2 (Reps.nk ks vs f r)
theorem Reps.nk : ∀ (ks : List NestedKey) (vs : List V) (f : List Addr), Reps Z H (kTs ks) vs f → NKs H ks vs
  | [], vs, f, h => by unfold kTs Reps at h; rw [h.1]; exact .nil
  | k :: ks, vs, f, h => by
    unfold kTs Reps at h
    obtain ⟨v, vs', f1, f2, e1, e2, a, b⟩ := h
    rw [e1]
    exact .cons (Rep.nk k v f1 a) (Reps.nk ks vs' f2 b)
end
mutual
theorem NK.rep : ∀ (k : NestedKey) (v : V), NK H k v → Rep Z H (kT k) v []
  | .none, v, h => by cases h; unfold kT Rep; exact ⟨rfl, rfl⟩
  | .num i, v, h => by cases h; unfold kT Rep; exact ⟨rfl, rfl⟩
  | .text s, v, h => by cases h; unfold kT Rep; exact ⟨rfl, rfl⟩
  | .tup ks, v, h => by
    cases h with
    | tup e r =>
      unfold kT Rep
      exact ⟨_, _, rfl, e, NKs.rep ks _ r⟩
theorem NKs.rep : ∀ (ks : List NestedKey) (vs : List V), NKs H ks vs → Reps Z H (kTs ks) vs []
  | [], vs, h => by cases h; unfold kTs Reps; exact ⟨rfl, rfl⟩
  | k :: ks, vs, h => by
    cases h with
    | cons a r =>
      unfold kTs Reps
      exact ⟨_, _, [], [], rfl, rfl, NK.rep k _ a, NKs.rep ks _ r⟩
end
end
theorem kTs_nums : ∀ ns : List Int, kTs (ns.map .num) = ns.map T.int
  | [] => by unfold kTs; rfl
  | n :: r => by rw [List.map_cons, List.map_cons]; unfold kTs kT; rw [kTs_nums r]
theorem Reps.ints {Z : Addr → Prop} {H : Hp} : ∀ {ns : List Int} {vs : List V} {f : List Addr}, Reps Z H (ns.map T.int) vs f → vs = ns.map V.int ∧ f = []
  | [], vs, f, h => by
    rw [List.map_nil] at h
    unfold Reps at h
    exact h
  | n :: r, vs, f, h => by
    rw [List.map_cons] at h
    unfold Reps at h
    obtain ⟨v, vs', f1, f2, e1, e2, a, b⟩ := h
    unfold Rep at a
    obtain ⟨q1, q2⟩ := Reps.ints b
    rw [e1, e2, a.1, a.2, q1, q2]
    exact ⟨rfl, rfl⟩
end Rs
set_option maxHeartbeats 4000000
namespace Rs
open PySem L2 PySem.Spec PyProof.Rows
end Rs
set_option maxHeartbeats 4000000
namespace Rs
open PySem L2 PySem.Spec PyProof.Rows
theorem c_lenK {X : Cx} {K : PySem.W.Frag} (h : X.K = K) : CallR X (.builtin "len") (rLenX K) := by
  subst h
  exact c_len
theorem c_tupK {X : Cx} {K : PySem.W.Frag} (h : X.K = K) : CallR X (.type "tuple") (rTupOf K) := by
  subst h
  exact call_tuple_of
theorem ix_listK {X : Cx} {K : PySem.W.Frag} (h : X.K = K) : IxR X (rIxL K) := by
  subst h
  exact ix_list
theorem spT_len {g : List T → (T → List T → Prop) → Prop} {vs : List V} {H : Hp} {Q : VK} {E : XK} {n : Nat} (h : spT g vs H Q E) (hg : ∀ ts K, g ts K → ts.length = n) : vs.length = n := by
  obtain ⟨ts, Z, fp, r, _, _, k⟩ := h
  rw [r.len]
  exact hg ts _ k
end Rs
set_option maxHeartbeats 4000000
namespace PyProof.Rows
open PySem PySem.Spec
end PyProof.Rows
namespace L2
open PySem PySem.Spec PyProof.Rows
end L2
set_option maxHeartbeats 4000000
namespace Rs
open PySem L2 PySem.Spec PyProof.Rows
theorem perm_lift {α β : Type} (f : α → β) : ∀ (z : List α) (l : List β), l.Perm (z.map f) → ∃ z' : List α, z'.Perm z ∧ z'.map f = l
  | [], l, h => ⟨[], List.Perm.refl _, by rw [List.map_nil] at h ⊢; exact (List.perm_nil.mp h).symm⟩
  | a :: z, l, h => by
    rw [List.map_cons] at h
    have hm : f a ∈ l := h.mem_iff.mpr List.mem_cons_self
    obtain ⟨s, t, e⟩ := List.append_of_mem hm
    subst e
    have h2 : (s ++ t).Perm (z.map f) := (List.perm_cons (f a)).mp (List.perm_middle.symm.trans h)
    obtain ⟨z', p, e⟩ := perm_lift f z (s ++ t) h2
    refine ⟨z'.take s.length ++ a :: z'.drop s.length, ?_, ?_⟩
    · refine List.perm_middle.trans ?_
      rw [List.take_append_drop]
      exact p.cons a
    · rw [List.map_append, List.map_cons, List.map_take, List.map_drop, e]
      simp
theorem nd_type {X : Cx} {pins : List (Addr × Obj)} {σ : L2.St} {H : Hp} {s : Shared} {a : Addr} {kvs : List (NestedKey × V)} (I : Inv X pins σ H s) (d : ND X.prog X.w H a kvs) :
    s.TypeIs (.ref a) "dict" ∧ (∀ b, Value.ref a = .ref b → ∃ ob, s.heap.get? b = some ob ∧ ob.dict = none) ∧ (a == sysModules) = false := by
  obtain ⟨_, hs, es, xs, _, _, _, _, dd⟩ := d.at I.hok
  refine ⟨dd.typeIs, fun b q => ?_, hs⟩
  cases q
  obtain ⟨ob, _, _, h1, h2, _⟩ := dd
  exact ⟨ob, h1, h2.2.1⟩
def tNSetd (P : Program) (w : World) (td ty tx : TE) : TE := fun σ H Q => td σ H fun x H1 => ∃ a kvs0, x = .ref a ∧ ND P w H1 a kvs0 ∧ ty σ H1 fun y H2 => tx σ H2 fun z H3 => ∃ b kvs k, y = .ref b ∧ ND P w H3 a kvs ∧ NK H3 k (.ref b) ∧ k.depth ≤ 8 ∧ kvs.length < sizeLine ∧
  (∀ v, valV kvs k = some v → Q v H3) ∧ (valV kvs k = none → ∀ H4, ND P w H4 a (putK kvs k z) → (∀ c, c ≠ a → H4 c = H3 c) → Q z H4)
theorem NKs.of {H : Hp} {α : Type} {f : α → NestedKey} {g : α → V} : ∀ {l : List α}, (∀ x ∈ l, NK H (f x) (g x)) → NKs H (l.map f) (l.map g)
  | [], _ => .nil
  | x :: r, h => .cons (h x List.mem_cons_self) (NKs.of fun y hy => h y (List.mem_cons_of_mem _ hy))
theorem NKs.at {H : Hp} : ∀ {ks : List NestedKey} {vs : List V}, NKs H ks vs → ks.length = vs.length ∧ ∀ x ∈ ks.zip vs, NK H x.1 x.2
  | _, _, .nil => ⟨rfl, fun x h => (nomatch h)⟩
  | _, _, .cons a r => by
    obtain ⟨h1, h2⟩ := NKs.at r
    refine ⟨by rw [List.length_cons, List.length_cons, h1], fun x hx => ?_⟩
    rcases List.mem_cons.mp hx with rfl | hx
    · exact a
    · exact h2 x hx
theorem nd_put {X : Cx} {pins : List (Addr × Obj)} {σ : L2.St} {H : Hp} {s : Shared} {a b : Addr} {k : NestedKey} {v : V} {r : Value} {es : List (NestedKey × Addr × V)} {xs : List (NestedKey × Addr × Value)} {h' : Heap} {tk : Nat}
    (I : Inv X pins σ H s) (hs : (a == sysModules) = false) (he : H a = some (NdO X.prog X.w a es)) (h2 : ∀ e ∈ es, NK H e.1 (.ref e.2.1) ∧ e.1.depth ≤ 8) (rel : Paired (fun p q => p.1 = q.1 ∧ p.2.1 = q.2.1 ∧ RelV p.2.2 q.2.2) es xs)
    (hk : NK H k (.ref b)) (hd : k.depth ≤ 8) (hl : es.length < sizeLine) (rv : RelV v r) (dd' : h'.DictOfH (nestedKind X.prog X.w) a (storedH xs k b r)) (sb : Heap.SameBut a s.heap h') :
    ∃ H', ND X.prog X.w H' a (putK (es.map fun e => (e.1, e.2.2)) k v) ∧ (∀ c, c ≠ a → H' c = H c) ∧ Inv X pins σ H' { s with heap := h', toks := tk } := by
  have hl' : (ndPut es k b v).length ≤ sizeLine := by have := ndPut_len es k b v; omega
  obtain ⟨q, qes, ep, hq, p2, p3, p4, _, p5⟩ := dd'
  have ht : Tps H (upd H a (NdO X.prog X.w a (ndPut es k b v))) := fun c u ec hu => by
    rw [upd_ne (ne_of ec he fun z => by rw [z] at hu; cases hu)]
    exact ec
  refine ⟨upd H a (NdO X.prog X.w a (ndPut es k b v)), ⟨_, upd_same, fun e hm => ?_, (ndPut_map es k b v).symm⟩, fun c hc => upd_ne hc, d_write I (by rw [he]; exact True.intro) sb ⟨q, hq⟩ (nd_ok hl' hs (ndPut_pair rel k b rv) ⟨q, qes, ep, hq, p2, p3, p4, p5⟩)⟩
  obtain ⟨a1, a2⟩ := ndPut_keys h2 v hk hd e hm
  exact ⟨NK.mono ht _ _ a1, a2⟩
section
variable {X : Cx} {o e f : Expr} {te td ty tx : TE} {p apos cpos pos : Pos} {P : Program} {w : World}
theorem pe_nsetd (hP : X.prog = P) (hw : X.w = w) (hu : X.A.units + 64 < cLine) (ho : PE X o td) (he : PE X e ty) (hf : PE X f tx) (m : M2 X o "setdefault" apos e f cpos) : PE X (.Call (.Attribute o "setdefault" apos) [e, f] [] cpos) (tNSetd P w td ty tx) := by
  subst hP
  subst hw
  refine ⟨fun pins s σ H Q I h => ?_⟩
  refine wpAny_Call_method m.base m.few m.line PySem.F.plainAttrs_dict PySem.F.slot_dict_setdefault PySem.F.type_dict_setdefault (thn (ho.run pins s σ H _ I h) fun u s1 ⟨x, H1, I1, rx, a, kvs0, ex, d, q1⟩ => ?_)
  subst ex
  obtain rfl : u = Value.ref a := rx
  obtain ⟨t1, t2, _⟩ := nd_type I1 d
  refine ⟨t1, t2, ?_⟩
  rw [m.trees]
  refine Calls.callWith_builtin rfl (Calls.evalArgs_plain (Calls.spliced_cons (thn (he.run pins s1 σ H1 _ I1 q1) fun iv s2 ⟨y, H2, I2, ry, q2⟩ =>
    Calls.spliced_cons (thn (hf.run pins s2 σ H2 _ I2 q2) fun fv s3 ⟨z, H3, I3, rz, b, kvs, k, ey, d3, hk, hd, hl, q3, q4⟩ => Calls.spliced_nil ?_))))
  subst ey
  obtain rfl : iv = Value.ref b := ry
  obtain ⟨z', hs, es, xs, he', h2, rfl, rel, dd⟩ := d3.at I3.hok
  rw [List.length_map] at hl z'
  have hz : xs.length ≤ sizeLine := by rw [← Paired.length rel]; exact z'
  have rr := nd_val rel k
  refine call_setdefault_heap (hsz := hz) (nd_room hu) ⟨NK.isAt I3.hok _ _ _ hk rfl, hd⟩ hs dd (fun p hp => ?_) fun hn h' dd' sb => ?_
  · rw [hp] at rr
    cases hv : valV (es.map fun e => (e.1, e.2.2)) k with
    | none => rw [hv] at rr; exact absurd rr id
    | some v0 =>
      rw [hv] at rr
      exact ⟨v0, H3, I3.tok _, rr, q3 v0 hv⟩
  · rw [hn] at rr
    cases hv : valV (es.map fun e => (e.1, e.2.2)) k with
    | some v0 => rw [hv] at rr; exact absurd rr id
    | none =>
      obtain ⟨H4, d4, e4, I4⟩ := nd_put (tk := s3.toks + (nestedKind X.prog X.w).draws k) I3 hs he' h2 rel hk hd hl rz dd' sb
      exact ⟨z, H4, I4, rz, q4 hv H4 d4 e4⟩
end
end Rs
set_option maxHeartbeats 4000000
namespace Rs
open PySem L2 PySem.Spec PyProof.Rows
def rTupF (Kf : PySem.W.Frag) : List V → Hp → VK → Prop := fun xs H Q => ∃ p ys, xs = [.ref p] ∧ SqL Kf H p ys ∧ ∀ (l : Addr) (o : Obj), H l = none → o.dict = none → Q (.ref l) (upd H l (.frz o (.tup ys)))
theorem c_tupF {X : Cx} {K : PySem.W.Frag} (h : X.K = K) : CallR X (.type "tuple") (rTupF K) := by
  subst h
  intro pins s σ H xs us Q I r h
  obtain ⟨p, ys, rfl, hq, q⟩ := h
  obtain ⟨u, rfl, rx⟩ := vals1 r
  cases rx
  obtain ⟨its, r', pl, hz⟩ := I.list hq
  have hlen := r'.length
  refine call_tuple_list pl.isList (fun h' kp => ?_) (by simp only [List.size_toArray] <;> omega)
  have I1 : Inv X pins σ H { s with heap := h' } := I.kept (t' := s.toks) kp
  have I2 : Inv X pins σ (upd H h'.objs.size (.frz { cls := .type "tuple", data := .seq its.toArray } (.tup ys))) { s with heap := h'.push { cls := .type "tuple", data := .seq its.toArray } } :=
    I1.laid (t' := s.toks) (fun b o e => Heap.get?_push_of_some _ e) (Nat.le_refl _) (show ObjOk X.prog X.w _ _ _ (.frz _ (.tup ys)) from ⟨Heap.get?_push_size _ rfl, hz, its, r', IsTup.new _ _⟩)
  exact ⟨.ref h'.objs.size, _, I2, rfl, q _ _ (I1.hok.fresh (Nat.le_refl _)) rfl⟩
theorem pairsU {X : Cx} {pins : List (Addr × Obj)} {σ : L2.St} {H : Hp} {s : Shared} (I : Inv X pins σ H s) : ∀ {ps : List Addr} {kvs : List (Key × V)}, Paired (fun p kv => SqT X.K H p [kV kv.1, kv.2]) ps kvs →
    ∃ prs : List (Key × Value × Value), KV kvs (prs.map fun q => (q.1, q.2.2)) ∧ prs.length = ps.length ∧ ∀ (j : Nat) (q : Key × Value × Value), prs[j]? = some q → ∃ b : Addr, ps[j]? = some b ∧ IsTup s.heap b #[q.2.1, q.2.2] ∧ keyIs q.1 q.2.1 = true
  | _, _, .nil => ⟨[], .nil, rfl, fun j q e => by simp at e⟩
  | _, _, .cons (a := p) (b := kv) h t => by
    obtain ⟨prs, r, hl, hp⟩ := pairsU I t
    obtain ⟨its, rv, ht, _⟩ := I.tuple h
    obtain ⟨u, y, ei, ru, ry⟩ := vals2 rv
    subst ei
    refine ⟨(kv.1, u, y) :: prs, .cons ⟨rfl, ry⟩ r, by rw [List.length_cons, List.length_cons, hl], fun j q e => ?_⟩
    cases j with
    | zero =>
      have e' : (kv.1, u, y) = q := Option.some.inj e
      subst e'
      exact ⟨p, rfl, ht, kV_is (P := X.prog) (w := X.w) ru⟩
    | succ j =>
      obtain ⟨b, e1, e2, e3⟩ := hp j q (by simpa using e)
      exact ⟨b, by simpa using e1, e2, e3⟩
def rDictT (Kf : PySem.W.Frag) : List V → Hp → VK → Prop := fun xs H Q => ∃ (a : Addr) (o : Obj) (ps : List Addr) (kvs : List (Key × V)), xs = [.ref a] ∧ o.dict = none ∧ H a = some (.frz o (.tup (ps.map V.ref))) ∧ Paired (fun p kv => SqT Kf H p [kV kv.1, kv.2]) ps kvs ∧
    ∀ p, H p = none → Q (.ref p) (upd H p (.dK (mergeK [] kvs)))
theorem c_dictTK {X : Cx} {K : PySem.W.Frag} (h : X.K = K) (hcalm : X.calm = true := by rfl) : CallR X (.type "dict") (rDictT K) := by
  subst h
  intro pins s σ H xs us Q I r q
  obtain ⟨a, o, ps, kvs, rfl, hd0, hq, hp, q⟩ := q
  obtain ⟨u, eu, rx⟩ := vals1 r
  subst eu
  cases rx
  obtain ⟨ho, hz, its, rv, ⟨o', ho', hc, n, hdat⟩⟩ := (show ObjOk X.prog X.w H s.heap a (.frz o (.tup (ps.map V.ref))) from I.hok a _ hq)
  rw [ho] at ho'
  cases ho'
  have ei := refs_at rv
  subst ei
  rw [List.length_map] at hz
  obtain ⟨prs, rel, hl, hpr⟩ := pairsU I hp
  have hi : PairItems s.heap (ps.map Value.ref).toArray (fun j => ps.getD j 0) (prs.map fun q => (q.2.1, q.2.2)) := by
    refine ⟨by simp [hl], fun j k v e => ?_⟩
    rw [List.getElem?_map] at e
    obtain ⟨q', hq', e2⟩ := Option.map_eq_some_iff.mp e
    cases e2
    obtain ⟨b, hb, hT, _⟩ := hpr j q' hq'
    have e3 : ps.getD j 0 = b := by rw [List.getD_eq_getElem?_getD, hb]; rfl
    exact ⟨by simp [hb, e3], by show PairAt s.heap (ps.getD j 0) _ _; rw [e3]; exact .inl hT⟩
  refine PySem.call_dict_pairs (knd := mixKind X.prog X.w) (kvs := prs.map fun q => (q.1, q.2.2)) (PairArg.tuple a (ps.map Value.ref).toArray (fun j => ps.getD j 0) (prs.map fun q => (q.2.1, q.2.2))) (I.ok.hd hcalm) ⟨⟨o, n, ho, hc, hd0, hdat⟩, hi⟩ ⟨by simp, fun i key v e => ?_⟩ (by rw [List.length_map, hl]; exact hz) fun h' tk hd' k => ?_
  · have e' : (prs.map fun q => (q.2.1, q.2.2))[i]? = some (key, v) := e
    rw [List.getElem?_map] at e'
    obtain ⟨q', hq', e2⟩ := Option.map_eq_some_iff.mp e'
    cases e2
    obtain ⟨b, _, _, hk⟩ := hpr i q' hq'
    exact ⟨q'.1, by rw [List.getElem?_map, hq']; rfl, hk⟩
  · have hm : (s.heap.objs.size == sysModules) = false := beq_eq_false_iff_ne.mpr (Nat.ne_of_gt I.big)
    have hlen : (mergeK [] kvs).length ≤ sizeLine := by
      refine Nat.le_trans (length_mergeK kvs []) ?_
      rw [List.length_nil, Nat.zero_add, rel.length, List.length_map, hl]
      exact hz
    exact ⟨.ref s.heap.objs.size, upd H s.heap.objs.size (.dK (mergeK [] kvs)), I.laid (t' := tk) (fun b o e => k b o (fun z => nomatch z) e) (Nat.le_refl _) (show ObjOk X.prog X.w _ _ _ (.dK (mergeK [] kvs)) from ⟨hlen, hm, merged [] _, KV.merge rel .nil, hd'⟩), rfl, q _ (I.hok.fresh (Nat.le_refl _))⟩
end Rs
set_option maxHeartbeats 4000000
namespace Rs
open PySem L2 PySem.Spec PyProof.Rows PySem.W PySem.HandSPX PySem.Calls
def topX (i : Nat) : Stmt := PySem.Challenge.pw_runshown_k60_sums_of_graphs.main.body.getD i (.Pass ⟨0, 0, 0, 0⟩)
end Rs
set_option maxHeartbeats 4000000
namespace Rs
open PySem L2 PySem.Spec PyProof.Rows
local macro_rules | `(tactic| walk_at "rs ne") => `(tactic| first | assumption | (apply Ne.symm; assumption) | (apply ne_n1; assumption; walk_at "rs hp") | (apply ne_n2; assumption; walk_at "rs hp"))
local macro_rules | `(tactic| walk_at "rs hp") => `(tactic| first | assumption | exact upd_same | (apply hp_ne; (walk_at "rs ne"); (walk_at "rs hp")))
local macro_rules | `(tactic| walk_at "rs sq") => `(tactic| first | assumption | (apply SqL.of; walk_at "rs hp") | (apply SqT.of; walk_at "rs hp"))
local macro_rules | `(tactic| walk_at "rs sz") => `(tactic| first | decide | (rw [sizeLine_eq]; simp; done) | (rw [sizeLine_eq]; simp; omega) | (rw [sizeLine_eq]; omega))
local macro_rules | `(tactic| walk_at "rs ar") => `(tactic| first | assumption | (show (0 : Int) < _; first | assumption | decide | omega) | exact Or.inr ⟨by decide, by decide⟩ | exact Or.inl ⟨by decide, by decide⟩ | exact Or.inl ⟨by omega, by omega⟩ | exact Or.inr ⟨by omega, by omega⟩ | exact ⟨by decide, by decide, by decide⟩ | exact ⟨by decide, by decide⟩ | exact ⟨by omega, by omega⟩)
local macro_rules | `(tactic| walk_at "rs r1") => `(tactic| with_reducible (first | refine w_var rfl ?_ | refine w_c ?_ | refine w_op ?_ | refine w_un ?_ | refine w_test ?_ | refine w_B ?_ | refine w_bool ?_ | refine w_not ?_ | refine w_cb ?_ | refine w_nil ?_ | refine w_cons ?_ | refine w_asg ?_ | refine w_name ?_ | refine w_seq ?_ | refine w_ret ?_ | refine w_drop ?_ | refine w_next ?_ | refine w_ifS ?_ | refine w_I0 ?_ | refine w_eqI ?_ | refine w_neI ?_ | refine w_int ?_ | refine w_abs ?_ | refine w_sl ?_ | refine w_part ?_ | refine w_intO ?_ | refine w_nopart ?_ | refine w_gsub ?_ | refine w_augS ?_ | refine w_ip ?_ | refine w_lst ?_ | refine w_tup ?_ | refine w_if ?_ | refine w_and ?_ | refine w_or ?_ | refine w_tfld ?_ | refine w_forL ?_ | refine w_forT ?_ | refine w_forR1 ?_ | refine w_forR2 ?_ | refine w_forE ?_ | refine w_lcL ?_ | refine w_lcR1 ?_ | refine w_bm ?_ | refine w_call ?_ | refine w_meth ?_ | refine w_nget ?_ | refine w_nin ?_ | refine w_nput ?_ | refine w_eqS ?_ | refine w_neS ?_))
local macro_rules | `(tactic| walk_at "rs r2") => `(tactic| first | (walk_at "rs r1") | ((with_reducible refine' w_ixL ?h1 ?h2 ?h3); (case h1 => walk_at "rs sq"); (case h2 => first | rfl | exact atI_nat (j := 0) rfl | exact atI_nat (j := 1) rfl | exact atI_nat (j := 2) rfl)) | ((with_reducible refine' w_ixT ?h1 ?h2 ?h3); (case h1 => walk_at "rs sq"); (case h2 => first | rfl | exact atI_nat (j := 0) rfl | exact atI_nat (j := 1) rfl | exact atI_nat (j := 2) rfl)) | ((with_reducible refine' w_cutL ?h1 ?_); (case h1 => walk_at "rs sq"); intro q hq) | ((with_reducible refine' w_cat ?h1 ?h2 ?h3 ?_); (case h1 => walk_at "rs hp"); (case h2 => walk_at "rs hp"); (case h3 => walk_at "rs sz"); intro q hq) | ((with_reducible refine' w_small ?h1 ?_); (case h1 => exact Nat.le_of_ble_eq_true rfl); intro q hq) | ((with_reducible refine' w_setL ?h1 ?h2 ?_); (case h1 => walk_at "rs hp"); (case h2 => rfl)) | ((with_reducible refine' w_getL ?h0 ?h1 ?h2 ?_); (case h0 => rfl); (case h1 => walk_at "rs sq"); (case h2 => rfl)) | ((with_reducible refine' w_lenL ?h1 ?_); (case h1 => walk_at "rs sq")) | ((with_reducible refine' w_lenT ?h1 ?_); (case h1 => walk_at "rs sq")) | ((with_reducible refine' w_fld ?h1 ?h2 ?h3 ?h4 ?_); (case h1 => assumption); (case h2 => assumption); (case h3 => walk_at "rs hp"); (case h4 => assumption)) | ((with_reducible refine' w_methAt ?h1 ?h2 ?_); (case h1 => walk_at "rs hp"); (case h2 => assumption)) | ((with_reducible refine' w_tyL ?h1 ?_); (case h1 => walk_at "rs sq")) | ((with_reducible refine' w_append ?h1 ?h2 ?_); (case h1 => walk_at "rs hp"); (case h2 => assumption)) | ((with_reducible refine' w_I ?h1 ?_); (case h1 => walk_at "rs ar")))
local macro_rules | `(tactic| walk_at "rs rd") => `(tactic| repeat (walk_at "rs r2"))
def kvsOf : List NestedKey → Nat → List (NestedKey × V)
  | [], _ => []
  | k :: r, n => (k, .int (n : Int)) :: kvsOf r (n + 1)
theorem kvsOf_len : ∀ (L : List NestedKey) (n : Nat), (kvsOf L n).length = L.length
  | [], _ => rfl
  | _ :: r, n => by simp [kvsOf, kvsOf_len r (n + 1)]
theorem kvsOf_snoc (k : NestedKey) : ∀ (L : List NestedKey) (n : Nat), kvsOf (L ++ [k]) n = kvsOf L n ++ [(k, .int ((n + L.length : Nat) : Int))]
  | [], n => by simp [kvsOf]
  | a :: r, n => by
    rw [List.cons_append, kvsOf, kvsOf_snoc k r (n + 1), kvsOf, List.cons_append, List.length_cons]
    congr 5
    omega
theorem kvsOf_none {k : NestedKey} : ∀ {L : List NestedKey} {n : Nat}, k ∉ L → valV (kvsOf L n) k = none
  | [], _, _ => rfl
  | a :: r, n, h => by
    have h1 : ¬ a = k := fun e => h (by rw [e]; exact List.mem_cons_self)
    rw [kvsOf, valV_neg h1]
    exact kvsOf_none fun z => h (List.mem_cons_of_mem _ z)
theorem kvsOf_at {k : NestedKey} : ∀ {L : List NestedKey} {n i : Nat}, L.Nodup → L[i]? = some k → valV (kvsOf L n) k = some (.int ((n + i : Nat) : Int))
  | [], _, _, _, h => by simp at h
  | a :: r, n, 0, _, h => by
    have e : a = k := by simpa using h
    rw [kvsOf, valV_pos e]
    rfl
  | a :: r, n, i + 1, nd, h => by
    have nd' := List.nodup_cons.mp nd
    have hr : r[i]? = some k := by simpa using h
    have h1 : ¬ a = k := fun e => nd'.1 (by rw [e]; exact List.mem_of_getElem? hr)
    rw [kvsOf, valV_neg h1, kvsOf_at (n := n + 1) nd'.2 hr]
    congr 3
    omega
theorem kvsOf_put {k : NestedKey} {L : List NestedKey} (h : k ∉ L) : putK (kvsOf L 0) k (.int (L.length : Int)) = kvsOf (L ++ [k]) 0 := by
  rw [putK_new _ (kvsOf_none h), kvsOf_snoc]
  simp
def gf (l d : Addr) : List (Str × V) := putF "known_heads" (.ref d) (putF "heads" (.ref l) [])
theorem hk_ : ¬ (("heads" : Str) = "known_heads") := by decide +kernel
theorem gf_heads (l d : Addr) : (gf l d).lookup ("heads" : Str) = some (.ref l) := by
  unfold gf
  rw [lookup_putF, if_neg hk_, lookup_putF, if_pos rfl]
theorem gf_known (l d : Addr) : (gf l d).lookup ("known_heads" : Str) = some (.ref d) := by
  unfold gf
  rw [lookup_putF, if_pos rfl]
theorem gf_no (l d : Addr) {m : Str} (h1 : ¬ m = "known_heads") (h2 : ¬ m = "heads") : (gf l d).lookup m = none := by
  unfold gf
  rw [lookup_putF, if_neg h1, lookup_putF, if_neg h2]
  all_goals rfl
def GraphAt (P : Program) (w : World) (C : Addr) (H : Hp) (g l d : Addr) (L : List NestedKey) : Prop :=
  ∃ dx vs, H g = some (.ins C dx (gf l d)) ∧ H l = some (.lst vs) ∧ NKs H L vs ∧ ND P w H d (kvsOf L 0) ∧ L.Nodup ∧ (∀ k ∈ L, k.depth ≤ 8) ∧ L.length ≤ 3000
theorem NKs.len {H : Hp} : ∀ {L : List NestedKey} {vs : List V}, NKs H L vs → L.length = vs.length
  | [], _, h => by cases h; rfl
  | _ :: _, _, h => by
    cases h with
    | cons _ r => simp [r.len]
theorem NKs.get {H : Hp} : ∀ {L : List NestedKey} {vs : List V} {i : Nat} {k : NestedKey}, NKs H L vs → L[i]? = some k → ∃ v, vs[i]? = some v ∧ NK H k v
  | [], _, _, _, _, e => by simp at e
  | _ :: _, _, 0, _, h, e => by
    cases h with
    | cons a r => exact ⟨_, rfl, by simpa using (by simpa using e : _ = _) ▸ a⟩
  | _ :: _, _, i + 1, _, h, e => by
    cases h with
    | cons a r =>
      obtain ⟨v, h1, h2⟩ := NKs.get (i := i) r (by simpa using e)
      exact ⟨v, by simpa using h1, h2⟩
theorem NKs.snoc {H : Hp} {k : NestedKey} {v : V} (hk : NK H k v) : ∀ {L : List NestedKey} {vs : List V}, NKs H L vs → NKs H (L ++ [k]) (vs ++ [v])
  | [], _, h => by cases h; exact .cons hk .nil
  | _ :: _, _, h => by
    cases h with
    | cons a r => exact .cons a (NKs.snoc hk r)
theorem GraphAt.frame {P : Program} {w : World} {C : Addr} {S : List Addr} {H H' : Hp} {g l d : Addr} {L : List NestedKey} (x : GraphAt P w C H g l d L) (f : Fm S H H') (hg : g ∉ S) (hl : l ∉ S) (hd : d ∉ S) (ht : ∀ b u, H b = some u → (tupOf u).isSome = true → b ∉ S) : GraphAt P w C H' g l d L := by
  obtain ⟨dx, vs, h1, h2, h3, h4, h5, h6, h7⟩ := x
  have tp : Tps H H' := fun b u e hu => f _ _ e (ht b u e hu)
  exact ⟨dx, vs, f _ _ h1 hg, f _ _ h2 hl, NKs.mono tp _ _ h3, h4.frame (fun o e => f _ _ e hd) tp, h5, h6, h7⟩
section
variable {P : Program} {w : World} {K : PySem.W.Frag} {mg : Str → Option Value} {base : Heap} {C CT fT CN : Addr}
theorem GraphAt.parts {H : Hp} {g l d : Addr} {L : List NestedKey} (x : GraphAt P w C H g l d L) : g ≠ l ∧ g ≠ d ∧ l ≠ d := by
  obtain ⟨dx, vs, h1, h2, h3, ⟨es, h4, _⟩, _⟩ := x
  exact ⟨ne_of h1 h2 (by intro z; cases z), ne_of h1 h4 (fun z => ndo_ins z.symm), ne_of h2 h4 (fun z => ndo_lst z.symm)⟩
end
end Rs
set_option maxHeartbeats 4000000
namespace Rs
open PySem L2 PySem.Spec PyProof.Rows
def top (i : Nat) : Stmt := PySem.Challenge.pw_runshown_k60_sums_of_graphs.main.body.getD i (.Pass ⟨0, 0, 0, 0⟩)
abbrev sBag : Stmt := top 16
abbrev sTake : Stmt := top 17
abbrev sSome : Stmt := top 18
local macro_rules | `(tactic| walk_at "rs ne") => `(tactic| first | assumption | (apply Ne.symm; assumption) | (apply ne_n1; assumption; walk_at "rs hp") | (apply ne_n2; assumption; walk_at "rs hp"))
local macro_rules | `(tactic| walk_at "rs hp") => `(tactic| first | assumption | exact upd_same | (apply hp_ne; (walk_at "rs ne"); (walk_at "rs hp")))
local macro_rules | `(tactic| walk_at "rs sq") => `(tactic| first | assumption | (apply SqL.of; walk_at "rs hp") | (apply SqT.of; walk_at "rs hp"))
local macro_rules | `(tactic| walk_at "rs sz") => `(tactic| first | decide | (rw [sizeLine_eq]; simp; done) | (rw [sizeLine_eq]; simp; omega) | (rw [sizeLine_eq]; omega))
local macro_rules | `(tactic| walk_at "rs ar") => `(tactic| first | assumption | (show (0 : Int) < _; first | assumption | decide | omega) | exact Or.inr ⟨by decide, by decide⟩ | exact Or.inl ⟨by decide, by decide⟩ | exact Or.inl ⟨by omega, by omega⟩ | exact Or.inr ⟨by omega, by omega⟩ | exact ⟨by decide, by decide, by decide⟩ | exact ⟨by decide, by decide⟩ | exact ⟨by omega, by omega⟩)
local macro_rules | `(tactic| walk_at "rs r1") => `(tactic| with_reducible (first | refine w_var rfl ?_ | refine w_c ?_ | refine w_op ?_ | refine w_un ?_ | refine w_test ?_ | refine w_B ?_ | refine w_bool ?_ | refine w_not ?_ | refine w_cb ?_ | refine w_nil ?_ | refine w_cons ?_ | refine w_asg ?_ | refine w_name ?_ | refine w_seq ?_ | refine w_ret ?_ | refine w_drop ?_ | refine w_next ?_ | refine w_ifS ?_ | refine w_I0 ?_ | refine w_eqI ?_ | refine w_neI ?_ | refine w_int ?_ | refine w_abs ?_ | refine w_sl ?_ | refine w_part ?_ | refine w_intO ?_ | refine w_nopart ?_ | refine w_gsub ?_ | refine w_augS ?_ | refine w_ip ?_ | refine w_lst ?_ | refine w_tup ?_ | refine w_if ?_ | refine w_and ?_ | refine w_or ?_ | refine w_tfld ?_ | refine w_forL ?_ | refine w_forT ?_ | refine w_forR1 ?_ | refine w_forR2 ?_ | refine w_forE ?_ | refine w_lcL ?_ | refine w_lcR1 ?_ | refine w_bm ?_ | refine w_call ?_ | refine w_meth ?_ | refine w_nget ?_ | refine w_nin ?_ | refine w_nput ?_ | refine w_eqS ?_ | refine w_neS ?_))
local macro_rules | `(tactic| walk_at "rs r2") => `(tactic| first | (walk_at "rs r1") | ((with_reducible refine' w_ixL ?h1 ?h2 ?h3); (case h1 => walk_at "rs sq"); (case h2 => first | rfl | exact atI_nat (j := 0) rfl | exact atI_nat (j := 1) rfl | exact atI_nat (j := 2) rfl)) | ((with_reducible refine' w_ixT ?h1 ?h2 ?h3); (case h1 => walk_at "rs sq"); (case h2 => first | rfl | exact atI_nat (j := 0) rfl | exact atI_nat (j := 1) rfl | exact atI_nat (j := 2) rfl)) | ((with_reducible refine' w_cutL ?h1 ?_); (case h1 => walk_at "rs sq"); intro q hq) | ((with_reducible refine' w_cat ?h1 ?h2 ?h3 ?_); (case h1 => walk_at "rs hp"); (case h2 => walk_at "rs hp"); (case h3 => walk_at "rs sz"); intro q hq) | ((with_reducible refine' w_small ?h1 ?_); (case h1 => exact Nat.le_of_ble_eq_true rfl); intro q hq) | ((with_reducible refine' w_setL ?h1 ?h2 ?_); (case h1 => walk_at "rs hp"); (case h2 => rfl)) | ((with_reducible refine' w_getL ?h0 ?h1 ?h2 ?_); (case h0 => rfl); (case h1 => walk_at "rs sq"); (case h2 => rfl)) | ((with_reducible refine' w_lenL ?h1 ?_); (case h1 => walk_at "rs sq")) | ((with_reducible refine' w_lenT ?h1 ?_); (case h1 => walk_at "rs sq")) | ((with_reducible refine' w_fld ?h1 ?h2 ?h3 ?h4 ?_); (case h1 => assumption); (case h2 => assumption); (case h3 => walk_at "rs hp"); (case h4 => assumption)) | ((with_reducible refine' w_methAt ?h1 ?h2 ?_); (case h1 => walk_at "rs hp"); (case h2 => assumption)) | ((with_reducible refine' w_tyL ?h1 ?_); (case h1 => walk_at "rs sq")) | ((with_reducible refine' w_append ?h1 ?h2 ?_); (case h1 => walk_at "rs hp"); (case h2 => assumption)) | ((with_reducible refine' w_I ?h1 ?_); (case h1 => walk_at "rs ar")))
local macro_rules | `(tactic| walk_at "rs rd") => `(tactic| repeat (walk_at "rs r2"))
def Bag (H : Hp) (b c : Addr) : Prop := ∃ (cur seed ix : Int) (ns : List Int), H b = some (.lst [.int cur, .int seed, .int ix, .ref c]) ∧ 0 ≤ cur ∧ 0 ≤ seed ∧ H c = some (.lst (ns.map V.int)) ∧ (∀ n ∈ ns, 0 ≤ n) ∧ ns.length ≤ 100
theorem Bag.ne {H : Hp} {b c : Addr} (h : Bag H b c) : b ≠ c := by
  obtain ⟨cur, seed, ix, ns, h1, _, _, h2, _⟩ := h
  intro e
  rw [e, h2] at h1
  have h1' := HO.lst.inj (Option.some.inj h1)
  match ns, h1' with
  | [], z => cases z
  | [_], z => cases z
  | [_, _], z => cases z
  | [_, _, _], z => cases z
  | _ :: _ :: _ :: _ :: _, z =>
    injection z with _ z
    injection z with _ z
    injection z with _ z
    injection z with z _
    cases z
theorem Bag.frame {S : List Addr} {H H' : Hp} {b c : Addr} (h : Bag H b c) (f : Fm S H H') (hb : b ∉ S) (hc : c ∉ S) : Bag H' b c := by
  obtain ⟨cur, seed, ix, ns, h1, p1, p2, h2, p3, p4⟩ := h
  exact ⟨cur, seed, ix, ns, f _ _ h1 hb, p1, p2, f _ _ h2 hc, p3, p4⟩
def spTake : Sp := fun vs H Q _ => ∃ (b c : Addr) (many : Int), vs = [.ref b, .int many] ∧ 0 < many ∧ many < 1000000 ∧ Bag H b c ∧ ∀ (v : Int) (H' : Hp), 0 ≤ v → v < many → Bag H' b c → Fm [b] H H' → Q (.int v) H'
def spSome (K : PySem.W.Frag) : Sp := fun vs H Q _ => ∃ (b c p : Addr) (xs : List V), vs = [.ref b, .ref p] ∧ xs ≠ [] ∧ xs.length < 1000000 ∧ p ≠ b ∧ (SqL K H p xs ∨ SqT K H p xs) ∧ Bag H b c ∧
  ∀ (v : V) (H' : Hp), v ∈ xs → Bag H' b c → Fm [b] H H' → Q v H'
structure TxtB (K : PySem.W.Frag) (mg : Str → Option Value) : Prop where
  int : mg "int" = none
  len : mg "len" = none
theorem cutV_len (xs : List V) (lo hi : Option Int) : (cutV xs lo hi).length ≤ xs.length := by
  unfold cutV
  rw [List.length_take, List.length_drop]
  omega
theorem cutV_mem {xs : List V} {lo hi : Option Int} {x : V} (h : x ∈ cutV xs lo hi) : x ∈ xs := List.mem_of_mem_drop (List.mem_of_mem_take h)
theorem first_cell {ns : List Int} (p3 : ∀ n ∈ ns, 0 ≤ n) (ix : Int) : ∃ cell : Int, 0 ≤ cell ∧ atI (cutV (ns.map V.int) (some ix) none ++ [V.int 0]) 0 = some (.int cell) := by
  cases e : cutV (ns.map V.int) (some ix) none with
  | nil => exact ⟨0, by decide, rfl⟩
  | cons y ys =>
    have hm : y ∈ ns.map V.int := cutV_mem (lo := some ix) (hi := none) (by rw [e]; exact List.mem_cons_self)
    obtain ⟨n, hn, rfl⟩ := List.mem_map.mp hm
    refine ⟨n, p3 n hn, ?_⟩
    exact atI_nat (j := 0) rfl
section
variable {P : Program} {w : World} {K : PySem.W.Frag} {mg : Str → Option Value} {base : Heap}
theorem scTake : FnScope ["bag", "many", "cell", "stirred", "value", "begin", "second"] ["bag", "many"] (defScope sTake) := ⟨rfl, rfl, rfl, by decide +kernel, rfl, by decide +kernel, by decide +kernel⟩
theorem ok_take {f : Addr} {fd : FuncData} (F : Fun K "_law_take" "_law_take" sTake f fd) (T : TxtB K mg) : FnOk P w K mg base CX0 1 f fd ["bag", "many"] spTake := by
  refine F.ok scTake (fun vs H Q E h => ?_) (fun cdv A outer s H vs Q E hr h => ?_)
  · obtain ⟨b, c, many, rfl, _⟩ := h
    rfl
  · obtain ⟨b, c, many, rfl, hm, hm2, B, k⟩ := h
    have nd := scTake.nd
    refine ⟨_, Evl.pss_cut (ps_if (pt_cmpR op_eq (pe_ix ix_list (pv 0) pe_int (fun _ _ => rfl)) pe_int (nomark _))
        (pss_cons (ps_set (i := 2) nd rfl (Or.inl rfl) (pe_ix ix_list (pe_op op_cat (pe_slice sl_list (pe_ix ix_list (pv 0) pe_int (fun _ _ => rfl)) (po_some (pe_ix ix_list (pv 0) pe_int (fun _ _ => rfl))) po_none) (pe_lst (pa_cons pe_int pa_nil))) pe_int (fun _ _ => rfl)))
        (pss_cons (ps_augS (pv 0) pe_int get_list pe_int ip_add set_list)
        (pss_cons (ps_if (pt_cmpR op_ge (pv 2) (pe_op op_pow pe_int pe_int) (nomark _)) (pss_one (ps_asg (pv 2) (pg_sub (pv 0) pe_int set_list))) pss_nil)
        (pss_cons (ps_set (i := 3) nd rfl (Or.inl rfl) (pe_op op_add (pe_op op_add (pe_op op_mul (pe_ix ix_list (pv 0) pe_int (fun _ _ => rfl)) pe_int) (pe_op op_mod (pe_callTy c_int (by rfl) T.int (by decide +kernel) (pa_cons (pv 2) pa_nil)) pe_int)) (pe_op op_mul pe_int (pe_ix ix_list (pv 0) pe_int (fun _ _ => rfl)))))
        (pss_one (ps_asg (pe_op op_mod (pe_callTy c_int (by rfl) T.int (by decide +kernel) (pa_cons (pv 3) pa_nil)) pe_int) (pg_sub (pv 0) pe_int set_list))))))) pss_nil)
      (pss_cons (ps_if (pt_cmpR op_gt (pe_ix ix_list (pv 0) pe_int (fun _ _ => rfl)) pe_int (nomark _))
        (pss_cons (ps_set (i := 4) nd rfl (Or.inl rfl) (pe_op op_mod (pe_callTy c_int (by rfl) T.int (by decide +kernel) (pa_cons (pe_ix ix_list (pv 0) pe_int (fun _ _ => rfl)) pa_nil)) (pv 1)))
        (pss_cons (ps_asg (pe_op op_fdiv (pe_callTy c_int (by rfl) T.int (by decide +kernel) (pa_cons (pe_ix ix_list (pv 0) pe_int (fun _ _ => rfl)) pa_nil)) (pv 1)) (pg_sub (pv 0) pe_int set_list))
        (pss_one (ps_ret (pv 4))))) pss_nil)
      (pss_cons (ps_set (i := 5) nd rfl (Or.inl rfl) (pe_op op_mod (pe_callTy c_int (by rfl) T.int (by decide +kernel) (pa_cons (pe_op op_mul (pe_op op_add (pe_ix ix_list (pv 0) pe_int (fun _ _ => rfl)) pe_int) pe_int) pa_nil)) pe_int))
      (pss_cons (ps_set (i := 6) nd rfl (Or.inl rfl) (pe_op op_mod (pe_callTy c_int (by rfl) T.int (by decide +kernel) (pa_cons (pe_op op_mul (pe_op op_mod (pe_callTy c_int (by rfl) T.int (by decide +kernel) (pa_cons (pe_op op_mul (pv 5) (pv 5)) pa_nil)) pe_int) pe_int) pa_nil)) pe_int))
      (pss_one (ps_ret (pe_op op_mod (pe_callTy c_int (by rfl) T.int (by decide +kernel) (pa_cons (pe_op op_fdiv (pv 6) pe_int) pa_nil)) (pv 1))))))), ?_⟩
    obtain ⟨cur, seed, ix, ns, h1, p1, p2, h2, p3, p4⟩ := id B
    have hbc : b ≠ c := B.ne
    have hcb : c ≠ b := Ne.symm hbc
    obtain ⟨cell, c0, hcell⟩ := first_cell p3 ix
    have hz : (cutV (ns.map V.int) (some ix) none).length + [V.int 0].length ≤ sizeLine := by
      have q := cutV_len (ns.map V.int) (some ix) none
      rw [List.length_map] at q
      rw [sizeLine_eq]
      simp
      omega
    refine w_cut (M := fun σ' H' => ∃ x2 x3, σ' = [some (.ref b), some (.int many), x2, x3, none, none, none] ∧ Bag H' b c ∧ Fm [b] H H') ?_ ?_
    · walk_at "rs rd"
      refine w_ite (fun e0 => ?_) (fun e0 => ?_)
      · walk_at "rs rd"
        refine w_cat (by walk_at "rs hp") (by walk_at "rs hp") hz fun q hq => ?_
        walk_at "rs rd"
        refine w_ixL (by walk_at "rs sq") hcell ?_
        walk_at "rs rd"
        refine w_ite (fun e1 => ?_) (fun e1 => ?_)
        · walk_at "rs rd"
          refine ⟨_, _, rfl, ⟨cell, _, _, ns, by walk_at "rs hp", c0, ?_, by walk_at "rs hp", p3, p4⟩, ?_⟩
          · exact Int.emod_nonneg _ (by decide)
          · exact ((((((Fm.refl _ _).thenNew (by assumption)).thenNew (by assumption)).thenNew (by assumption)).thenPut List.mem_cons_self).thenPut List.mem_cons_self).thenPut List.mem_cons_self
        · walk_at "rs rd"
          refine ⟨_, _, rfl, ⟨cur, _, _, ns, by walk_at "rs hp", p1, ?_, by walk_at "rs hp", p3, p4⟩, ?_⟩
          · exact Int.emod_nonneg _ (by decide)
          · exact (((((Fm.refl _ _).thenNew (by assumption)).thenNew (by assumption)).thenNew (by assumption)).thenPut List.mem_cons_self).thenPut List.mem_cons_self
      · walk_at "rs rd"
        exact ⟨none, none, rfl, B, Fm.refl _ _⟩
    · rintro σ' H' ⟨x2, x3, rfl, B', f'⟩
      clear h1 h2
      obtain ⟨cur', seed', ix', ns', h1, p1', p2', h2, p3', p4'⟩ := id B'
      walk_at "rs rd"
      refine w_ite (fun e0 => ?_) (fun e0 => ?_)
      · walk_at "rs rd"
        refine k _ _ (Int.emod_nonneg _ (by omega)) (Int.emod_lt_of_pos _ hm) ⟨_, seed', ix', ns', by walk_at "rs hp", Int.ediv_nonneg p1' (by omega), p2', by walk_at "rs hp", p3', p4'⟩ (f'.thenPut List.mem_cons_self)
      · walk_at "rs rd"
        refine k _ _ (Int.emod_nonneg _ (by omega)) (Int.emod_lt_of_pos _ hm) B' f'
end
end Rs
set_option maxHeartbeats 4000000
namespace Rs
open PySem L2 PySem.Spec PyProof.Rows
local macro_rules | `(tactic| walk_at "rs ne") => `(tactic| first | assumption | (apply Ne.symm; assumption) | (apply ne_n1; assumption; walk_at "rs hp") | (apply ne_n2; assumption; walk_at "rs hp"))
local macro_rules | `(tactic| walk_at "rs hp") => `(tactic| first | assumption | exact upd_same | (apply hp_ne; (walk_at "rs ne"); (walk_at "rs hp")))
local macro_rules | `(tactic| walk_at "rs sq") => `(tactic| first | assumption | (apply SqL.of; walk_at "rs hp") | (apply SqT.of; walk_at "rs hp"))
local macro_rules | `(tactic| walk_at "rs sz") => `(tactic| first | decide | (rw [sizeLine_eq]; simp; done) | (rw [sizeLine_eq]; simp; omega) | (rw [sizeLine_eq]; omega))
local macro_rules | `(tactic| walk_at "rs ar") => `(tactic| first | assumption | (show (0 : Int) < _; first | assumption | decide | omega) | exact Or.inr ⟨by decide, by decide⟩ | exact Or.inl ⟨by decide, by decide⟩ | exact Or.inl ⟨by omega, by omega⟩ | exact Or.inr ⟨by omega, by omega⟩ | exact ⟨by decide, by decide, by decide⟩ | exact ⟨by decide, by decide⟩ | exact ⟨by omega, by omega⟩)
local macro_rules | `(tactic| walk_at "rs r1") => `(tactic| with_reducible (first | refine w_var rfl ?_ | refine w_c ?_ | refine w_op ?_ | refine w_un ?_ | refine w_test ?_ | refine w_B ?_ | refine w_bool ?_ | refine w_not ?_ | refine w_cb ?_ | refine w_nil ?_ | refine w_cons ?_ | refine w_asg ?_ | refine w_name ?_ | refine w_seq ?_ | refine w_ret ?_ | refine w_drop ?_ | refine w_next ?_ | refine w_ifS ?_ | refine w_I0 ?_ | refine w_eqI ?_ | refine w_neI ?_ | refine w_int ?_ | refine w_abs ?_ | refine w_sl ?_ | refine w_part ?_ | refine w_intO ?_ | refine w_nopart ?_ | refine w_gsub ?_ | refine w_augS ?_ | refine w_ip ?_ | refine w_lst ?_ | refine w_tup ?_ | refine w_if ?_ | refine w_and ?_ | refine w_or ?_ | refine w_tfld ?_ | refine w_forL ?_ | refine w_forT ?_ | refine w_forR1 ?_ | refine w_forR2 ?_ | refine w_forE ?_ | refine w_lcL ?_ | refine w_lcR1 ?_ | refine w_bm ?_ | refine w_call ?_ | refine w_meth ?_ | refine w_nget ?_ | refine w_nin ?_ | refine w_nput ?_ | refine w_eqS ?_ | refine w_neS ?_))
local macro_rules | `(tactic| walk_at "rs r2") => `(tactic| first | (walk_at "rs r1") | ((with_reducible refine' w_ixL ?h1 ?h2 ?h3); (case h1 => walk_at "rs sq"); (case h2 => first | rfl | exact atI_nat (j := 0) rfl | exact atI_nat (j := 1) rfl | exact atI_nat (j := 2) rfl)) | ((with_reducible refine' w_ixT ?h1 ?h2 ?h3); (case h1 => walk_at "rs sq"); (case h2 => first | rfl | exact atI_nat (j := 0) rfl | exact atI_nat (j := 1) rfl | exact atI_nat (j := 2) rfl)) | ((with_reducible refine' w_cutL ?h1 ?_); (case h1 => walk_at "rs sq"); intro q hq) | ((with_reducible refine' w_cat ?h1 ?h2 ?h3 ?_); (case h1 => walk_at "rs hp"); (case h2 => walk_at "rs hp"); (case h3 => walk_at "rs sz"); intro q hq) | ((with_reducible refine' w_small ?h1 ?_); (case h1 => exact Nat.le_of_ble_eq_true rfl); intro q hq) | ((with_reducible refine' w_setL ?h1 ?h2 ?_); (case h1 => walk_at "rs hp"); (case h2 => rfl)) | ((with_reducible refine' w_getL ?h0 ?h1 ?h2 ?_); (case h0 => rfl); (case h1 => walk_at "rs sq"); (case h2 => rfl)) | ((with_reducible refine' w_lenL ?h1 ?_); (case h1 => walk_at "rs sq")) | ((with_reducible refine' w_lenT ?h1 ?_); (case h1 => walk_at "rs sq")) | ((with_reducible refine' w_fld ?h1 ?h2 ?h3 ?h4 ?_); (case h1 => assumption); (case h2 => assumption); (case h3 => walk_at "rs hp"); (case h4 => assumption)) | ((with_reducible refine' w_methAt ?h1 ?h2 ?_); (case h1 => walk_at "rs hp"); (case h2 => assumption)) | ((with_reducible refine' w_tyL ?h1 ?_); (case h1 => walk_at "rs sq")) | ((with_reducible refine' w_append ?h1 ?h2 ?_); (case h1 => walk_at "rs hp"); (case h2 => assumption)) | ((with_reducible refine' w_I ?h1 ?_); (case h1 => walk_at "rs ar")))
local macro_rules | `(tactic| walk_at "rs rd") => `(tactic| repeat (walk_at "rs r2"))
abbrev sMixed : Stmt := top 19
abbrev sAlike : Stmt := top 20
section
variable {P : Program} {w : World} {K : PySem.W.Frag} {mg : Str → Option Value} {base : Heap}
theorem scSome : FnScope ["bag", "things"] ["bag", "things"] (defScope sSome) := ⟨rfl, rfl, rfl, by decide +kernel, rfl, by decide +kernel, by decide +kernel⟩
theorem ok_some {f fT : Addr} {fd fdT : FuncData} (F : Fun K "_law_some" "_law_some" sSome f fd) (T : TxtB K mg) (mT : mg "_law_take" = some (.ref fT)) (kT : PySem.W.keepIn K (.ref fT) = true) (bT : Binds K fdT ["bag", "many"] [])
    (GT : FnOk P w K mg base CX0 1 fT fdT ["bag", "many"] spTake) : FnOk P w K mg base CX0 2 f fd ["bag", "things"] (spSome K) := by
  refine F.ok scSome (fun vs H Q E h => ?_) (fun cdv A outer s H vs Q E hr h => ?_)
  · obtain ⟨b, c, p, xs, rfl, _⟩ := h
    rfl
  · obtain ⟨b, c, p, xs, rfl, hne, hlen, hpb, hs, B, k⟩ := h
    refine ⟨_, pss_one (ps_ret (pe_ix ix_seq (pv 1) (pe_call GT hr rfl mT kT bT .nil pass0 (pa_cons (pv 0) (pa_cons (pe_callB c_len (by rfl) T.len PySem.boot_len (pa_cons (pv 1) pa_nil)) pa_nil))) (fun _ _ => rfl))), ?_⟩
    walk_at "rs rd"
    have h0 : 0 < xs.length := List.length_pos_iff.mpr hne
    refine ⟨p, xs, rfl, hs, ?_⟩
    walk_at "rs rd"
    refine ⟨b, c, _, rfl, by omega, by omega, B, fun v H' v0 v1 B' f' => ?_⟩
    obtain ⟨j, rfl⟩ : ∃ j : Nat, v = (j : Int) := ⟨v.toNat, by omega⟩
    have hj : j < xs.length := by omega
    have e := List.getElem?_eq_getElem hj
    have hm : xs[j] ∈ xs := List.getElem_mem hj
    rcases hs with hs | hs
    · exact .inl (w_ixL (f'.seqL hs (not_in1 hpb)) (atI_nat e) (k _ _ hm B' f'))
    · exact .inr (.inl (w_ixT (f'.seqT hs (not_in1 hpb)) (atI_nat e) (k _ _ hm B' f')))
def spBag (K : PySem.W.Frag) : Sp := fun vs H Q _ => ∃ (a : Addr) (ns : List Int), vs = [.ref a] ∧ SqL K H a (ns.map V.int) ∧ ns.length ≤ 63 ∧ ∀ b c H', H b = none → H c = none → Bag H' b c → Fm [] H H' → Q (.ref b) H'
theorem scBag : FnScope ["script", "cell"] ["script"] (defScope sBag) := ⟨rfl, rfl, rfl, by decide +kernel, rfl, by decide +kernel, by decide +kernel⟩
theorem ok_bag {f : Addr} {fd : FuncData} (F : Fun K "_law_bag" "_law_bag" sBag f fd) (mA : mg "abs" = none) : FnOk P w K mg base CX0 1 f fd ["script"] (spBag K) := by
  refine F.ok scBag (fun vs H Q E h => ?_) (fun cdv A outer s H vs Q E hr h => ?_)
  · obtain ⟨a, ns, rfl, _⟩ := h
    rfl
  · obtain ⟨a, ns, rfl, hs, hlen, k⟩ := h
    refine ⟨_, pss_one (ps_ret (pe_lst (pa_cons pe_int (pa_cons pe_int (pa_cons pe_int (pa_cons (pe_lc (own := [("cell", 1)]) (g := gName 1) (tt := tYes) rfl scBag.nd (pi_list (pe_slice sl_list (pv 0) po_none (po_some pe_int))) (blkOk_by (N := ["script", "cell"]) (sc := defScope sBag) (by decide +kernel))
      (fun _ _ _ _ _ => pg_name (i := 1) scBag.nd rfl (Or.inl rfl)) (fun _ _ _ _ _ => pts_nil) (fun _ _ _ _ _ => pe_callB c_abs (by rfl) mA (by decide +kernel) (pa_cons (pv 1) pa_nil))) pa_nil)))))), ?_⟩
    walk_at "rs rd"
    rename_i q hq
    refine ⟨_, rfl, ⟨_, SqL.of upd_same⟩, fun c hc => ?_⟩
    have hcq : c ≠ q := fun z => by rw [z, upd_same] at hc; cases hc
    have hc0 : H c = none := by rw [upd_ne hcq] at hc; exact hc
    let xs : List V := cutV (ns.map V.int) none (some 63)
    have hxs : xs.length ≤ 63 := Nat.le_trans (cutV_len _ _ _) (by rw [List.length_map]; exact hlen)
    refine lc_it (walk_list (xs := xs)) (fun i H' => ∃ ms : List Int, ms.length = i ∧ (∀ n ∈ ms, 0 ≤ n) ∧ H' c = some (.lst (ms.map V.int)) ∧ H' q = some (.lst xs) ∧ Fm [] H H')
      ⟨[], rfl, by simp, upd_same, by rw [upd_ne hcq.symm]; exact upd_same, (Fm.new hq).thenOwn hc0⟩ (fun i H' _ ⟨ms, m1, m2, m3, m4, m5⟩ => SqL.of m4) ?_ ?_
    · rintro i x H1 H' hi ⟨ms, e1, e2, e3, e4, e5⟩ ⟨rfl, hx⟩
      obtain ⟨n, hn, rfl⟩ := List.mem_map.mp (cutV_mem (List.mem_of_getElem? hx))
      refine w_name ⟨rfl, w_yes ?_⟩
      walk_at "rs rd"
      refine ⟨_, e3, by rw [List.length_map, sizeLine_eq]; omega, ms ++ [if n < 0 then -n else n], by simp [e1], fun m hm => ?_, by simp [upd_same], by rw [upd_ne hcq.symm]; exact e4, e5.thenOwn hc0⟩
      rcases List.mem_append.mp hm with hm | hm
      · exact e2 m hm
      · rw [List.mem_singleton] at hm
        subst hm
        split <;> omega
    · rintro H' ⟨ms, e1, e2, e3, e4, e5⟩
      walk_at "rs rd"
      rename_i b hb
      have hb0 : H b = none := e5.none hb List.not_mem_nil
      refine k b c _ hb0 hc0 ⟨0, 1234567891, 0, ms, upd_same, by decide, by decide, ?_, e2, by omega⟩ (e5.thenNew hb)
      rw [upd_ne (fun z => by rw [← z, e3] at hb; cases hb)]
      exact e3
def spMixed (K : PySem.W.Frag) : Sp := fun vs H Q _ => ∃ (b c p : Addr) (xs : List V), vs = [.ref b, .ref p] ∧ xs.length ≤ 1000 ∧ p ≠ b ∧ SqL K H p xs ∧ Bag H b c ∧
  ∀ (q : Addr) (ys : List V) (H' : Hp), H q = none → H' q = some (.lst ys) → ys.Perm xs → Bag H' b c → Fm [b] H H' → Q (.ref q) H'
theorem scMixed : FnScope ["bag", "things", "found", "thing"] ["bag", "things"] (defScope sMixed) := ⟨rfl, rfl, rfl, by decide +kernel, rfl, by decide +kernel, by decide +kernel⟩
theorem ok_mixed {f fT : Addr} {fd fdT : FuncData} (F : Fun K "_law_mixed" "_law_mixed" sMixed f fd) (T : TxtB K mg) (mT : mg "_law_take" = some (.ref fT)) (kT : PySem.W.keepIn K (.ref fT) = true) (bT : Binds K fdT ["bag", "many"] [])
    (GT : FnOk P w K mg base CX0 1 fT fdT ["bag", "many"] spTake) : FnOk P w K mg base CX0 2 f fd ["bag", "things"] (spMixed K) := by
  refine F.ok scMixed (fun vs H Q E h => ?_) (fun cdv A outer s H vs Q E hr h => ?_)
  · obtain ⟨b, c, p, xs, rfl, _⟩ := h
    rfl
  · obtain ⟨b, c, p, xs, rfl, hlen, hpb, hs, B, k⟩ := h
    have nd := scMixed.nd
    refine ⟨_, pss_cons (ps_set (i := 2) nd rfl (Or.inl rfl) (pe_lst pa_nil)) (pss_cons (ps_for PassesOwn.never rfl (pi_list (pv 1)) (pg_name (i := 3) nd rfl (Or.inl rfl))
      (pss_one (ps_expr (pe_bm PySem.F.plainAttrs_list PySem.F.slot_list_insert PySem.F.type_list_insert mt_insert (pv 2) (pa_cons (pe_call GT hr rfl mT kT bT .nil pass0 (pa_cons (pv 0) (pa_cons (pe_op op_add (pe_callB c_len (by rfl) T.len PySem.boot_len (pa_cons (pv 2) pa_nil)) pe_int) pa_nil))) (pa_cons (pv 3) pa_nil))))))
      (pss_one (ps_ret (pv 2)))), ?_⟩
    walk_at "rs rd"
    rename_i q hq
    refine ⟨_, rfl, ⟨_, (Fm.new hq : Fm [] H _).seqL hs List.not_mem_nil⟩, for_it (walk_list (xs := xs)) (fun i σ H' => ∃ (ys : List V) (v : Option V), σ = [some (.ref b), some (.ref p), some (.ref q), v] ∧ H' q = some (.lst ys) ∧ ys.Perm (xs.take i) ∧ Bag H' b c ∧ Fm [b] H H')
      ⟨[], none, rfl, upd_same, by simp, B.frame (Fm.new hq : Fm [] H _) List.not_mem_nil List.not_mem_nil, Fm.new hq⟩ (fun i σ H' _ ⟨_, _, _, _, _, _, f⟩ => f.seqL hs (not_in1 hpb)) ?_ ?_⟩
    · rintro i x σ H1 H' hi ⟨ys, v, rfl, e1, e2, B', f'⟩ ⟨rfl, hx⟩
      have hyl : ys.length = i := by rw [e2.length_eq, List.length_take]; omega
      walk_at "rs rd"
      refine ⟨b, c, _, rfl, by omega, by omega, B', fun n H2 n0 n1 B2 f2 => ?_⟩
      have hqb : q ≠ b := fun z => by
        obtain ⟨_, _, _, _, hb, _⟩ := B
        rw [← z, hq] at hb
        cases hb
      have e1' : H2 q = some (.lst ys) := f2 _ _ e1 (not_in1 hqb)
      walk_at "rs rd"
      refine ⟨q, ys, n, x, rfl, rfl, e1', by rw [sizeLine_eq]; omega, n0, by omega, ?_⟩
      have hcq : c ≠ q := fun z => by
        obtain ⟨_, _, _, _, _, _, _, hc, _⟩ := B
        rw [z, hq] at hc
        cases hc
      refine ⟨_, _, rfl, upd_same, ?_, ?_, (f'.trans f2).thenOwn hq⟩
      · have e3 : (ys.take n.toNat ++ [x] ++ ys.drop n.toNat).Perm (x :: ys) := by
          rw [List.append_assoc]
          exact (List.perm_middle (a := x) (l₁ := ys.take n.toNat) (l₂ := ys.drop n.toNat)).trans (by rw [List.take_append_drop])
        rw [List.take_succ, hx]
        exact e3.trans ((List.Perm.cons x e2).trans (by simpa using (List.perm_append_singleton x (xs.take i)).symm))
      · obtain ⟨cur, seed, ix, ns, h1, p1, p2, h2, p3⟩ := B2
        exact ⟨cur, seed, ix, ns, by rw [upd_ne hqb.symm]; exact h1, p1, p2, by rw [upd_ne hcq]; exact h2, p3⟩
    · rintro σ H' ⟨ys, v, rfl, e1, e2, B', f'⟩
      walk_at "rs rd"
      rw [List.take_length] at e2
      exact k q ys H' hq e1 e2 B' f'
end
end Rs
set_option maxHeartbeats 4000000
namespace Rs
open PySem L2 PySem.Spec PyProof.Rows PySem.PyData
local macro_rules | `(tactic| walk_at "rs ne") => `(tactic| first | assumption | (apply Ne.symm; assumption) | (apply ne_n1; assumption; walk_at "rs hp") | (apply ne_n2; assumption; walk_at "rs hp"))
local macro_rules | `(tactic| walk_at "rs hp") => `(tactic| first | assumption | exact upd_same | (apply hp_ne; (walk_at "rs ne"); (walk_at "rs hp")))
local macro_rules | `(tactic| walk_at "rs sq") => `(tactic| first | assumption | (apply SqL.of; walk_at "rs hp") | (apply SqT.of; walk_at "rs hp"))
local macro_rules | `(tactic| walk_at "rs sz") => `(tactic| first | decide | (rw [sizeLine_eq]; simp; done) | (rw [sizeLine_eq]; simp; omega) | (rw [sizeLine_eq]; omega))
local macro_rules | `(tactic| walk_at "rs ar") => `(tactic| first | assumption | (show (0 : Int) < _; first | assumption | decide | omega) | exact Or.inr ⟨by decide, by decide⟩ | exact Or.inl ⟨by decide, by decide⟩ | exact Or.inl ⟨by omega, by omega⟩ | exact Or.inr ⟨by omega, by omega⟩ | exact ⟨by decide, by decide, by decide⟩ | exact ⟨by decide, by decide⟩ | exact ⟨by omega, by omega⟩)
local macro_rules | `(tactic| walk_at "rs r1") => `(tactic| with_reducible (first | refine w_var rfl ?_ | refine w_c ?_ | refine w_op ?_ | refine w_un ?_ | refine w_test ?_ | refine w_B ?_ | refine w_bool ?_ | refine w_not ?_ | refine w_cb ?_ | refine w_nil ?_ | refine w_cons ?_ | refine w_asg ?_ | refine w_name ?_ | refine w_seq ?_ | refine w_ret ?_ | refine w_drop ?_ | refine w_next ?_ | refine w_ifS ?_ | refine w_I0 ?_ | refine w_eqI ?_ | refine w_neI ?_ | refine w_int ?_ | refine w_abs ?_ | refine w_sl ?_ | refine w_part ?_ | refine w_intO ?_ | refine w_nopart ?_ | refine w_gsub ?_ | refine w_augS ?_ | refine w_ip ?_ | refine w_lst ?_ | refine w_tup ?_ | refine w_if ?_ | refine w_and ?_ | refine w_or ?_ | refine w_tfld ?_ | refine w_forL ?_ | refine w_forT ?_ | refine w_forR1 ?_ | refine w_forR2 ?_ | refine w_forE ?_ | refine w_lcL ?_ | refine w_lcR1 ?_ | refine w_bm ?_ | refine w_call ?_ | refine w_meth ?_ | refine w_nget ?_ | refine w_nin ?_ | refine w_nput ?_ | refine w_eqS ?_ | refine w_neS ?_))
local macro_rules | `(tactic| walk_at "rs r2") => `(tactic| first | (walk_at "rs r1") | ((with_reducible refine' w_ixL ?h1 ?h2 ?h3); (case h1 => walk_at "rs sq"); (case h2 => first | rfl | exact atI_nat (j := 0) rfl | exact atI_nat (j := 1) rfl | exact atI_nat (j := 2) rfl)) | ((with_reducible refine' w_ixT ?h1 ?h2 ?h3); (case h1 => walk_at "rs sq"); (case h2 => first | rfl | exact atI_nat (j := 0) rfl | exact atI_nat (j := 1) rfl | exact atI_nat (j := 2) rfl)) | ((with_reducible refine' w_cutL ?h1 ?_); (case h1 => walk_at "rs sq"); intro q hq) | ((with_reducible refine' w_cat ?h1 ?h2 ?h3 ?_); (case h1 => walk_at "rs hp"); (case h2 => walk_at "rs hp"); (case h3 => walk_at "rs sz"); intro q hq) | ((with_reducible refine' w_small ?h1 ?_); (case h1 => exact Nat.le_of_ble_eq_true rfl); intro q hq) | ((with_reducible refine' w_setL ?h1 ?h2 ?_); (case h1 => walk_at "rs hp"); (case h2 => rfl)) | ((with_reducible refine' w_getL ?h0 ?h1 ?h2 ?_); (case h0 => rfl); (case h1 => walk_at "rs sq"); (case h2 => rfl)) | ((with_reducible refine' w_lenL ?h1 ?_); (case h1 => walk_at "rs sq")) | ((with_reducible refine' w_lenT ?h1 ?_); (case h1 => walk_at "rs sq")) | ((with_reducible refine' w_fld ?h1 ?h2 ?h3 ?h4 ?_); (case h1 => assumption); (case h2 => assumption); (case h3 => walk_at "rs hp"); (case h4 => assumption)) | ((with_reducible refine' w_methAt ?h1 ?h2 ?_); (case h1 => walk_at "rs hp"); (case h2 => assumption)) | ((with_reducible refine' w_tyL ?h1 ?_); (case h1 => walk_at "rs sq")) | ((with_reducible refine' w_append ?h1 ?h2 ?_); (case h1 => walk_at "rs hp"); (case h2 => assumption)) | ((with_reducible refine' w_I ?h1 ?_); (case h1 => walk_at "rs ar")))
local macro_rules | `(tactic| walk_at "rs rd") => `(tactic| repeat (walk_at "rs r2"))
mutual
def okD : PyData → Bool
  | .none | .bool _ => true
  | .int i => decide (i.natAbs < 10 ^ 12)
  | .str x => strOk x && decide (x.cps.size ≤ 1000)
  | .list xs | .tuple xs => okDs xs
  | .dict _ => false
def okDs : List PyData → Bool
  | [] => true
  | x :: xs => okD x && okDs xs
end
mutual
def cnt : PyData → Nat
  | .none | .bool _ | .int _ | .str _ | .dict _ => 1
  | .list xs | .tuple xs => cnts xs + 1
def cnts : List PyData → Nat
  | [] => 0
  | x :: xs => cnt x + cnts xs
end
mutual
theorem okD_lay : ∀ d : PyData, okD d = true → d.canLay0 = true
  | .none, _ => rfl
  | .bool _, _ => rfl
  | .int _, _ => rfl
  | .str x, h => by
    have q : (strOk x && decide (x.cps.size ≤ 1000)) = true := h
    rw [Bool.and_eq_true] at q
    exact q.1
  | .list xs, h => okDs_lay xs h
  | .tuple xs, h => okDs_lay xs h
  | .dict _, h => by cases h
theorem okDs_lay : ∀ xs : List PyData, okDs xs = true → canLayAll0 xs = true
  | [], _ => rfl
  | x :: xs, h => by
    have q : (okD x && okDs xs) = true := h
    rw [Bool.and_eq_true] at q
    show (canLay0 x && canLayAll0 xs) = true
    rw [okD_lay x q.1, okDs_lay xs q.2]
    rfl
end
mutual
theorem okD_short : ∀ d : PyData, okD d = true → d.intsShort 13 = true
  | .none, _ => rfl
  | .bool _, _ => rfl
  | .int i, h => decide_eq_true (shown_int_le (of_decide_eq_true (show decide (i.natAbs < 10 ^ 12) = true from h)))
  | .str x, _ => rfl
  | .list xs, h => okDs_short xs h
  | .tuple xs, h => okDs_short xs h
  | .dict _, h => by cases h
theorem okDs_short : ∀ xs : List PyData, okDs xs = true → intsShortAll 13 xs = true
  | [], _ => rfl
  | x :: xs, h => by
    have q : (okD x && okDs xs) = true := h
    rw [Bool.and_eq_true] at q
    show (intsShort 13 x && intsShortAll 13 xs) = true
    rw [okD_short x q.1, okDs_short xs q.2]
    rfl
end
theorem small_log {i : Int} (h : i.natAbs < 10 ^ 12) : i.natAbs.log2 < 40 := by
  by_cases z : i.natAbs = 0
  · rw [z]; decide
  · exact (Nat.log2_lt z).mpr (Nat.lt_of_lt_of_le h (by decide))
mutual
theorem okD_show : ∀ d : PyData, okD d = true → d.showable = true
  | .none, _ => rfl
  | .bool _, _ => rfl
  | .int i, h => decide_eq_true (Nat.lt_trans (small_log (of_decide_eq_true (show decide (i.natAbs < 10 ^ 12) = true from h))) (by decide))
  | .str x, _ => rfl
  | .list xs, h => okDs_show xs h
  | .tuple xs, h => okDs_show xs h
  | .dict _, h => by cases h
theorem okDs_show : ∀ xs : List PyData, okDs xs = true → showableAll xs = true
  | [], _ => rfl
  | x :: xs, h => by
    have q : (okD x && okDs xs) = true := h
    rw [Bool.and_eq_true] at q
    show (showable x && showableAll xs) = true
    rw [okD_show x q.1, okDs_show xs q.2]
    rfl
end
mutual
theorem okD_weight : ∀ d : PyData, okD d = true → d.weight + 1 ≤ 1003 * cnt d
  | .none, _ => by decide
  | .bool _, _ => by show 0 + 1 ≤ 1003 * 1; decide
  | .int i, h => by
    have q := small_log (of_decide_eq_true (show decide (i.natAbs < 10 ^ 12) = true from h))
    show (if i == 0 then 0 else i.natAbs.log2 + 1) + 1 ≤ 1003 * 1
    split <;> omega
  | .str x, h => by
    have q : (strOk x && decide (x.cps.size ≤ 1000)) = true := h
    rw [Bool.and_eq_true, decide_eq_true_eq] at q
    show x.cps.size + 1 ≤ 1003 * 1
    omega
  | .list xs, h => by
    have q := okDs_weight xs h
    show weightAll xs + 1 ≤ 1003 * (cnts xs + 1)
    omega
  | .tuple xs, h => by
    have q := okDs_weight xs h
    show weightAll xs + 1 ≤ 1003 * (cnts xs + 1)
    omega
  | .dict _, h => by cases h
theorem okDs_weight : ∀ xs : List PyData, okDs xs = true → weightAll xs ≤ 1003 * cnts xs
  | [], _ => Nat.zero_le _
  | x :: xs, h => by
    have q : (okD x && okDs xs) = true := h
    rw [Bool.and_eq_true] at q
    have q1 := okD_weight x q.1
    have q2 := okDs_weight xs q.2
    show weight x + 1 + weightAll xs ≤ 1003 * (cnt x + cnts xs)
    omega
end
structure Good (d : PyData) : Prop where
  ok : okD d = true
  deep : d.depth ≤ 60
  light : d.weight ≤ 2 ^ 20
theorem Good.few {d : PyData} (h : okD d = true) (h2 : d.depth ≤ 60) (h3 : cnt d ≤ 1000) : Good d := ⟨h, h2, by have := okD_weight d h; omega⟩
theorem okDs_ints {fs : List Int} (h : ∀ p ∈ fs, p.natAbs < 10 ^ 12) : okDs (fs.map .int) = true ∧ PyData.depthAll (fs.map .int) ≤ 1 ∧ weightAll (fs.map .int) ≤ 42 * fs.length := by
  induction fs with
  | nil => exact ⟨rfl, Nat.zero_le _, Nat.zero_le _⟩
  | cons n r ih =>
    obtain ⟨i1, i2, i3⟩ := ih fun q hq => h q (List.mem_cons_of_mem _ hq)
    have h1 := h n List.mem_cons_self
    refine ⟨?_, ?_, ?_⟩
    · show (decide (n.natAbs < 10 ^ 12) && okDs (r.map .int)) = true
      rw [i1, decide_eq_true h1]
      rfl
    · show max (PyData.depth (.int n)) (PyData.depthAll (r.map .int)) ≤ 1
      have : PyData.depth (.int n) = 0 := rfl
      omega
    · have q := small_log h1
      show (if n == 0 then 0 else n.natAbs.log2 + 1) + 1 + weightAll (r.map .int) ≤ 42 * (r.length + 1)
      split <;> omega
theorem Good.ints {fs : List Int} (h : ∀ p ∈ fs, p.natAbs < 10 ^ 12) (hl : fs.length ≤ 20000) : Good (.tuple (fs.map .int)) ∧ Good (.list (fs.map .int)) := by
  obtain ⟨h1, h2, h3⟩ := okDs_ints h
  have hd : PyData.depthAll (fs.map .int) + 1 ≤ 60 := by omega
  have hw : weightAll (fs.map .int) ≤ 2 ^ 20 := by omega
  exact ⟨⟨h1, hd, hw⟩, ⟨h1, hd, hw⟩⟩
theorem Good.int {i : Int} (h : i.natAbs < 10 ^ 12) : Good (.int i) := by
  have q := small_log h
  refine ⟨decide_eq_true h, Nat.zero_le 60, ?_⟩
  show (if i == 0 then 0 else i.natAbs.log2 + 1) ≤ 2 ^ 20
  split <;> omega
theorem Good.lay {d : PyData} (h : Good d) : layable0 d = true := by
  have dp := h.deep
  unfold layable0
  rw [okD_lay d h.ok, decide_eq_true (show depth d ≤ 64 by omega), decide_eq_true h.light]
  rfl
theorem Good.text {d : PyData} (h : Good d) : d.shown.length ≤ sizeLine := shown_fits_of_layable0 (B := 13) (by decide) (by decide) h.lay (okD_short d h.ok)
theorem Good.shaped {d : PyData} (h : Good d) : SeqAt.shaped d = true := by
  have dp := h.deep
  unfold SeqAt.shaped
  rw [okD_lay d h.ok, decide_eq_true (show d.depth ≤ 64 by omega)]
  rfl
theorem Good.eqv {d : PyData} (h : Good d) : PyData.eqv d d = true := SeqAt.eqv_refl d (okD_lay d h.ok)
theorem Good.noD {d : PyData} (h : Good d) : d.hasDict = false := hasDict_of_layable h.lay
def reprOf : PyData → Str
  | .int i => toString i
  | .bool b => if b then "True" else "False"
  | d => d.shown
def rRepr (K : PySem.W.Frag) : List V → Hp → VK → Prop := fun xs H Q => ∃ x d, xs = [x] ∧ Dp K H x d ∧ Good d ∧ (d ≠ PyData.none) ∧ (∀ s, d ≠ .str s) ∧ Q (.str (reprOf d)) H
theorem c_repr {X : Cx} (hgd : X.A.guards = some []) (hu : X.A.units + 128 < cLine) : CallR X (.builtin "repr") (rRepr X.K) := by
  intro pins s σ H xs us Q I r h
  obtain ⟨x, d, rfl, hd, gd, n2, n3, q⟩ := h
  cases hd with
  | non => exact absurd rfl n2
  | bl b =>
    obtain ⟨u, rfl, ru⟩ := vals1 r
    obtain rfl : u = Value.bool b := ru
    exact PySem.P.repr_of_bool ⟨.str _, H, I.tok _, ⟨_, rfl⟩, q⟩
  | str y => exact absurd rfl (n3 y)
  | int i => exact SkE.call_repr_int pins s σ H _ us Q I r ⟨i, rfl, Nat.lt_trans (small_log (of_decide_eq_true (show decide (i.natAbs < 10 ^ 12) = true from gd.ok))) (by decide), q⟩
  | lst h1 h2 => exact call_reprD hgd hu pins s σ H _ us Q I r ⟨_, _, rfl, .lst h1 h2, okD_show _ gd.ok, gd.noD, gd.deep, gd.text, q⟩
  | tup h1 h2 => exact call_reprD hgd hu pins s σ H _ us Q I r ⟨_, _, rfl, .tup h1 h2, okD_show _ gd.ok, gd.noD, gd.deep, gd.text, q⟩
def spAlikeX (K : PySem.W.Frag) : Sp := fun vs H Q _ => ∃ (x y : V) (d : PyData), vs = [x, y] ∧ Dp K H x d ∧ Dp K H y d ∧ Good d ∧ d ≠ .none ∧ (∀ s, d ≠ .str s) ∧ Q (.bl true) H
section
variable {P : Program} {w : World} {K : PySem.W.Frag} {mg : Str → Option Value} {base : Heap}
theorem scAlike : FnScope ["found", "due"] ["found", "due"] (defScope sAlike) := ⟨rfl, rfl, rfl, by decide +kernel, rfl, by decide +kernel, by decide +kernel⟩
theorem ok_alikeX {f : Addr} {fd : FuncData} (F : Fun K "_law_alike" "_law_alike" sAlike f fd) (mR : mg "repr" = Option.none) : FnG P w K mg base CX0 1 f fd ["found", "due"] (spAlikeX K) := by
  refine okG F scAlike (fun vs H Q E h => ?_) (fun cdv A outer s H vs Q E hgd hr h => ?_)
  · obtain ⟨x, y, d, rfl, _⟩ := h
    rfl
  · obtain ⟨x, y, d, rfl, h1, h2, gd, n1, n2, k⟩ := h
    have hu : (A.deeper (envOfC "_law_alike" (defScope sAlike) s.heap.objs.size f cdv)).units + 128 < cLine := by
      have := hr.un
      omega
    refine ⟨_, pss_one (ps_ret (pe_and (pe_cmpR op_eq (pe_callB (c_repr hgd hu) (by rfl) mR (by decide +kernel) (pa_cons (pv 0) pa_nil)) (pe_callB (c_repr hgd hu) (by rfl) mR (by decide +kernel) (pa_cons (pv 1) pa_nil)) (nomark _)) (pe_one (pe_cmpR (op_eqD hr.units) (pv 0) (pv 1) (nomark _))))), ?_⟩
    refine w_ret (w_andV (w_op (w_cb (w_cons (w_var rfl (w_nil ⟨x, d, rfl, h1, gd, n1, n2, w_cb (w_cons (w_var rfl (w_nil ⟨y, d, rfl, h2, gd, n1, n2, w_eqS ?_⟩)))⟩))))))
    refine w_bool ?_
    rw [decide_eq_true rfl, if_pos rfl]
    refine w_op (w_var rfl (w_var rfl ⟨d, d, h1, h2, gd.shaped, gd.shaped, ?_⟩))
    rw [gd.eqv]
    exact k
end
mutual
def toPy : NestedKey → PyData
  | .none => .none
  | .num i => .int i
  | .text x => .str x
  | .tup ks => .tuple (toPys ks)
def toPys : List NestedKey → List PyData
  | [] => []
  | k :: ks => toPy k :: toPys ks
end
mutual
theorem NK.dp {K : PySem.W.Frag} {H : Hp} : ∀ (k : NestedKey) (v : V), NK H k v → Dp K H v (toPy k)
  | .none, _, h => by cases h; exact .non
  | .num i, _, h => by cases h; exact .int i
  | .text x, _, h => by cases h; exact .str x
  | .tup ks, _, h => by
    cases h with
    | tup e r => exact .tup e.sq (NKs.dp ks _ r)
theorem NKs.dp {K : PySem.W.Frag} {H : Hp} : ∀ (ks : List NestedKey) (vs : List V), NKs H ks vs → DpAll K H vs (toPys ks)
  | [], _, h => by cases h; exact .nil
  | k :: ks, _, h => by
    cases h with
    | cons a r => exact .cons (NK.dp k _ a) (NKs.dp ks _ r)
end
end Rs
set_option maxHeartbeats 4000000
namespace Rs
open PySem L2 PySem.Spec PyProof.Rows
local macro_rules | `(tactic| walk_at "rs ne") => `(tactic| first | assumption | (apply Ne.symm; assumption) | (apply ne_n1; assumption; walk_at "rs hp") | (apply ne_n2; assumption; walk_at "rs hp"))
local macro_rules | `(tactic| walk_at "rs hp") => `(tactic| first | assumption | exact upd_same | (apply hp_ne; (walk_at "rs ne"); (walk_at "rs hp")))
local macro_rules | `(tactic| walk_at "rs sq") => `(tactic| first | assumption | (apply SqL.of; walk_at "rs hp") | (apply SqT.of; walk_at "rs hp") | (apply TupAt.sq; assumption))
local macro_rules | `(tactic| walk_at "rs sz") => `(tactic| first | decide | (rw [sizeLine_eq]; simp; done) | (rw [sizeLine_eq]; simp; omega) | (rw [sizeLine_eq]; omega))
local macro_rules | `(tactic| walk_at "rs ar") => `(tactic| first | assumption | (show (0 : Int) < _; first | assumption | decide | omega) | exact Or.inr ⟨by decide, by decide⟩ | exact Or.inl ⟨by decide, by decide⟩ | exact Or.inl ⟨by omega, by omega⟩ | exact Or.inr ⟨by omega, by omega⟩ | exact ⟨by decide, by decide, by decide⟩ | exact ⟨by decide, by decide⟩ | exact ⟨by omega, by omega⟩)
local macro_rules | `(tactic| walk_at "rs r1") => `(tactic| with_reducible (first | refine w_var rfl ?_ | refine w_c ?_ | refine w_op ?_ | refine w_un ?_ | refine w_test ?_ | refine w_B ?_ | refine w_bool ?_ | refine w_not ?_ | refine w_cb ?_ | refine w_nil ?_ | refine w_cons ?_ | refine w_asg ?_ | refine w_name ?_ | refine w_seq ?_ | refine w_ret ?_ | refine w_drop ?_ | refine w_next ?_ | refine w_ifS ?_ | refine w_I0 ?_ | refine w_eqI ?_ | refine w_neI ?_ | refine w_int ?_ | refine w_abs ?_ | refine w_sl ?_ | refine w_part ?_ | refine w_intO ?_ | refine w_nopart ?_ | refine w_gsub ?_ | refine w_augS ?_ | refine w_ip ?_ | refine w_lst ?_ | refine w_tup ?_ | refine w_if ?_ | refine w_and ?_ | refine w_or ?_ | refine w_tfld ?_ | refine w_forL ?_ | refine w_forT ?_ | refine w_forR1 ?_ | refine w_forR2 ?_ | refine w_forE ?_ | refine w_lcL ?_ | refine w_lcR1 ?_ | refine w_bm ?_ | refine w_call ?_ | refine w_meth ?_ | refine w_nget ?_ | refine w_nin ?_ | refine w_nput ?_ | refine w_eqS ?_ | refine w_neS ?_))
local macro_rules | `(tactic| walk_at "rs r2") => `(tactic| first | (walk_at "rs r1") | ((with_reducible refine' w_ixL ?h1 ?h2 ?h3); (case h1 => walk_at "rs sq"); (case h2 => first | rfl | exact atI_nat (j := 0) rfl | exact atI_nat (j := 1) rfl | exact atI_nat (j := 2) rfl)) | ((with_reducible refine' w_ixT ?h1 ?h2 ?h3); (case h1 => walk_at "rs sq"); (case h2 => first | rfl | exact atI_nat (j := 0) rfl | exact atI_nat (j := 1) rfl | exact atI_nat (j := 2) rfl)) | ((with_reducible refine' w_cutL ?h1 ?_); (case h1 => walk_at "rs sq"); intro q hq) | ((with_reducible refine' w_cat ?h1 ?h2 ?h3 ?_); (case h1 => walk_at "rs hp"); (case h2 => walk_at "rs hp"); (case h3 => walk_at "rs sz"); intro q hq) | ((with_reducible refine' w_small ?h1 ?_); (case h1 => exact Nat.le_of_ble_eq_true rfl); intro q hq) | ((with_reducible refine' w_setL ?h1 ?h2 ?_); (case h1 => walk_at "rs hp"); (case h2 => rfl)) | ((with_reducible refine' w_getL ?h0 ?h1 ?h2 ?_); (case h0 => rfl); (case h1 => walk_at "rs sq"); (case h2 => rfl)) | ((with_reducible refine' w_lenL ?h1 ?_); (case h1 => walk_at "rs sq")) | ((with_reducible refine' w_lenT ?h1 ?_); (case h1 => walk_at "rs sq")) | ((with_reducible refine' w_fld ?h1 ?h2 ?h3 ?h4 ?_); (case h1 => assumption); (case h2 => assumption); (case h3 => walk_at "rs hp"); (case h4 => assumption)) | ((with_reducible refine' w_methAt ?h1 ?h2 ?_); (case h1 => walk_at "rs hp"); (case h2 => assumption)) | ((with_reducible refine' w_tyL ?h1 ?_); (case h1 => walk_at "rs sq")) | ((with_reducible refine' w_append ?h1 ?h2 ?_); (case h1 => walk_at "rs hp"); (case h2 => assumption)) | ((with_reducible refine' w_I ?h1 ?_); (case h1 => walk_at "rs ar")))
local macro_rules | `(tactic| walk_at "rs rd") => `(tactic| repeat (walk_at "rs r2"))
structure TxtM (K : PySem.W.Frag) (mg : Str → Option Value) (C : Addr) : Prop where
  cl : Cls K C
  nH : NoAttr K C "heads"
  nK : NoAttr K C "known_heads"
  len : mg "len" = none
  tuple : mg "tuple" = none
def spNum (P : Program) (w : World) (C : Addr) : Sp := fun vs H Q E => ∃ (g p l d : Addr) (L : List NestedKey) (k : NestedKey), vs = [.ref g, .ref p] ∧ GraphAt P w C H g l d L ∧ NK H k (.ref p) ∧ k.depth ≤ 8 ∧ L.length < 3000 ∧
  (∀ i : Nat, L[i]? = some k → Q (.int (i : Int)) H) ∧ (k ∉ L → ∀ H', GraphAt P w C H' g l d (L ++ [k]) → Fm [l, d] H H' → Q (.int (L.length : Int)) H')
section
variable {P : Program} {w : World} {K : PySem.W.Frag} {mg : Str → Option Value} {base : Heap} {C : Addr}
theorem nums_depth : ∀ ns : List Int, NestedKey.depthAll (ns.map .num) = 0
  | [] => rfl
  | n :: r => by
    show max 0 (NestedKey.depthAll (r.map .num)) = 0
    rw [nums_depth r]
    rfl
theorem op_depth (o : Str) (ns : List Int) : (NestedKey.tup [.text "op", .text o, .tup (ns.map .num)]).depth ≤ 8 := by
  show max 0 (max 0 (max (NestedKey.depthAll (ns.map .num) + 1) 0)) + 1 ≤ 8
  rw [nums_depth]
  decide
theorem nk_depth (k : NestedKey) (h : k.depth ≤ 7) : (NestedKey.tup [.text "letter", k]).depth ≤ 8 := by
  show max 0 (max k.depth 0) + 1 ≤ 8
  omega
theorem nums_nk (H : Hp) : ∀ ns : List Int, NKs H (ns.map .num) (ns.map V.int)
  | [] => .nil
  | n :: r => .cons (.num n) (nums_nk H r)
def spIsL (P : Program) (w : World) (C : Addr) : Sp := fun vs H Q _ => ∃ (g l d : Addr) (L : List NestedKey) (i : Nat) (s : Str) (r : List NestedKey), vs = [.ref g, .int (i : Int)] ∧ GraphAt P w C H g l d L ∧ L[i]? = some (.tup (.text s :: r)) ∧ Q (.bl (decide (s = "letter"))) H
def spOp (P : Program) (w : World) (C : Addr) : Sp := fun vs H Q _ => ∃ (g l d : Addr) (L : List NestedKey) (i : Nat) (o : Str) (r : List NestedKey), vs = [.ref g, .int (i : Int)] ∧ GraphAt P w C H g l d L ∧ L[i]? = some (.tup (.text "op" :: .text o :: r)) ∧ Q (.str o) H
def spParts (P : Program) (w : World) (C : Addr) : Sp := fun vs H Q _ => ∃ (g l d : Addr) (L : List NestedKey) (i : Nat), vs = [.ref g, .int (i : Int)] ∧ GraphAt P w C H g l d L ∧
  ((∃ b, L[i]? = some (.tup [.text "letter", b]) ∧ ∀ p, H p = none → Q (.ref p) (upd H p (.tup []))) ∨ ∃ (o : Str) (ns : List Int), L[i]? = some (.tup [.text "op", .text o, .tup (ns.map .num)]) ∧ ∀ p, TupAt H p (ns.map V.int) → Q (.ref p) H)
theorem nums_vals {H : Hp} : ∀ {ns : List Int} {vs : List V}, NKs H (ns.map .num) vs → vs = ns.map V.int
  | [], _, h => by cases h; rfl
  | n :: r, _, h => by
    cases h with
    | cons a b =>
      cases a
      rw [nums_vals b]
      rfl
def spLetter (P : Program) (w : World) (C : Addr) : Sp := fun vs H Q E => ∃ (g l d : Addr) (L : List NestedKey) (key : NestedKey) (kv : V), vs = [.ref g, kv] ∧ GraphAt P w C H g l d L ∧ NK H key kv ∧ key.depth ≤ 7 ∧ L.length < 3000 ∧
  (∀ (i : Nat) H', L[i]? = some (.tup [.text "letter", key]) → GraphAt P w C H' g l d L → Fm [] H H' → Q (.int (i : Int)) H') ∧
  (.tup [.text "letter", key] ∉ L → ∀ H', GraphAt P w C H' g l d (L ++ [.tup [.text "letter", key]]) → Fm [l, d] H H' → Q (.int (L.length : Int)) H')
def spInit (P : Program) (w : World) (C : Addr) : Sp := fun vs H Q _ => ∃ (g dx : Addr), vs = [.ref g] ∧ H g = some (.ins C dx []) ∧ ∀ l d H', H l = none → H d = none → GraphAt P w C H' g l d [] → Fm [g] H H' → Q .non H'
end
end Rs
set_option maxHeartbeats 4000000
namespace Rs
open PySem L2 PySem.Spec PyProof.Rows
def termsR (P : Program) (w : World) (C : Addr) (L : List NestedKey) : Hp → V → List Addr → Prop := fun H v fp => ∃ g l d, v = .ref g ∧ GraphAt P w C H g l d L ∧ fp = [g, l, d]
def termsT (P : Program) (w : World) (C : Addr) (L : List NestedKey) : T := .abs (termsR P w C L)
theorem GraphAt.goes {P : Program} {w : World} {C : Addr} {H H' : Hp} {g l d : Addr} {L : List NestedKey} (x : GraphAt P w C H g l d L) (ht : Tps H H') (ho : ∀ a ∈ [g, l, d], ∀ o, H a = some o → H' a = some o) : GraphAt P w C H' g l d L := by
  obtain ⟨dx, vs, h1, h2, h3, h4, h5, h6, h7⟩ := x
  exact ⟨dx, vs, ho g (by simp) _ h1, ho l (by simp) _ h2, NKs.mono ht _ _ h3, h4.frame (fun o e => ho d (by simp) o e) ht, h5, h6, h7⟩
theorem terms_framed {P : Program} {w : World} {C : Addr} {L : List NestedKey} : Framed (termsR P w C L) := by
  refine ⟨fun H H' v fp ⟨g, l, d, e1, G, e2⟩ ht ho => ?_, fun H v fp ⟨g, l, d, e1, G, e2⟩ a ha => ?_⟩
  · subst e2
    exact ⟨g, l, d, e1, G.goes ht ho, rfl⟩
  · subst e2
    obtain ⟨dx, vs, h1, h2, h3, ⟨es, h4, _⟩, _⟩ := G
    simp only [List.mem_cons, List.not_mem_nil, or_false] at ha
    rcases ha with rfl | rfl | rfl
    · exact ⟨_, h1, rfl⟩
    · exact ⟨_, h2, rfl⟩
    · exact ⟨_, h4, rfl⟩
section
variable {P : Program} {w : World} {C : Addr} {L : List NestedKey}
theorem Rep.terms {Z : Addr → Prop} {H : Hp} {v : V} {f : List Addr} (h : Rep Z H (termsT P w C L) v f) : ∃ g l d, v = .ref g ∧ GraphAt P w C H g l d L ∧ f = [g, l, d] := by
  unfold termsT Rep at h
  exact h.2
theorem rep_terms {Z : Addr → Prop} {H : Hp} {g l d : Addr} (G : GraphAt P w C H g l d L) : Rep Z H (termsT P w C L) (.ref g) [g, l, d] := by
  unfold termsT Rep
  exact ⟨terms_framed, g, l, d, rfl, G, rfl⟩
theorem terms_ins {m : Str} (h : ∀ l d : Addr, (gf l d).lookup m = none) : IsIns C m (termsT P w C L) := ⟨_, rfl, fun H v fp ⟨g, l, d, e1, G, e2⟩ => by
  obtain ⟨dx, vs, h1, _⟩ := G
  exact ⟨g, dx, _, e1, h1, h l d⟩⟩
def addK (L : List NestedKey) (k : NestedKey) : List NestedKey := if k ∈ L then L else L ++ [k]
def gLetter (P : Program) (w : World) (C : Addr) (ts : List T) (K : T → List T → Prop) : Prop := ∃ (L : List NestedKey) (key : NestedKey), ts = [termsT P w C L, kT key] ∧ key.depth ≤ 7 ∧ L.length < 3000 ∧ K (.int ((L.idxOf (.tup [.text "letter", key]) : Nat) : Int)) [termsT P w C (addK L (.tup [.text "letter", key])), kT key]
theorem mono_letter : Mono (gLetter P w C) := fun ts K K' h ⟨L, k, e, e1, e2, kk⟩ => ⟨L, k, e, e1, e2, h _ _ kk⟩
theorem reps1 {Z : Addr → Prop} {H : Hp} {t : T} {vs : List V} {f : List Addr} (h : Reps Z H [t] vs f) : ∃ v, vs = [v] ∧ Rep Z H t v f := by
  unfold Reps at h
  obtain ⟨v, vs', f1, f2, e1, e2, a, b⟩ := h
  unfold Reps at b
  rw [b.1] at e1
  rw [b.2, List.append_nil] at e2
  subst e2
  exact ⟨v, e1, a⟩
theorem reps2 {Z : Addr → Prop} {H : Hp} {t : T} {ts : List T} {vs : List V} {f : List Addr} (h : Reps Z H (t :: ts) vs f) : ∃ v vs' f1 f2, vs = v :: vs' ∧ f = f1 ++ f2 ∧ Rep Z H t v f1 ∧ Reps Z H ts vs' f2 := by
  unfold Reps at h
  exact h
theorem ask_same {ts : List T} {vs : List V} {Z : Addr → Prop} {fp : List Addr} {H H' : Hp} {t : T} {v : V} (r : Reps Z H ts vs fp) (nz : ∀ a ∈ fp, ¬ Z a) (nd : fp.Nodup) (f : Fm [] H H') (hv : Rep (fun a => a ∉ fp ∧ (Z a ∨ H a = none ∨ a ∈ fp)) H' t v []) :
    Reps (fun a => a ∉ fp ∧ (Z a ∨ H a = none ∨ a ∈ fp)) H' (t :: ts) (v :: vs) fp ∧ fp.Nodup ∧ (∀ a ∈ fp, H a = none ∨ a ∈ fp) ∧ Fm fp H H' := by
  refine ⟨?_, nd, fun a h => .inr h, f.nil⟩
  unfold Reps
  exact ⟨v, vs, [], fp, rfl, rfl, hv, r.go _ _ _ ⟨fun a _ e _ => f a _ e List.not_mem_nil, fun a o z e => ⟨⟨fun q => nz a q z, .inl z⟩, f a o e List.not_mem_nil⟩, fun a _ o e => f a o e List.not_mem_nil⟩⟩
theorem int_eq {Z : Addr → Prop} {H : Hp} {ts : List T} {n : Int} {vs : List V} {f : List Addr} (h : Reps Z H [.int n] vs f) : vs = [.int n] := by
  obtain ⟨v, e, z⟩ := reps1 h
  rw [e, v_int z]
theorem ints_rep {Z : Addr → Prop} {H : Hp} : ∀ ns : List Int, Reps Z H (ns.map T.int) (ns.map V.int) []
  | [] => by rw [List.map_nil, List.map_nil]; unfold Reps; exact ⟨rfl, rfl⟩
  | n :: r => by
    rw [List.map_cons, List.map_cons]
    unfold Reps
    exact ⟨_, _, [], [], rfl, rfl, lit_int _, ints_rep r⟩
theorem idx_at {L : List NestedKey} {k : NestedKey} {i : Nat} (hn : L.Nodup) (h : L[i]? = some k) : L.idxOf k = i := by
  obtain ⟨hi, e⟩ := List.getElem?_eq_some_iff.mp h
  rw [← e]
  exact hn.idxOf_getElem i hi
theorem ask_add {ts : List T} {vs : List V} {Z : Addr → Prop} {fp f2 : List Addr} {H H' : Hp} {L' : List NestedKey} {g l d : Addr} {n : Int} (r2 : Reps Z H ts vs []) (ef : fp = [g, l, d]) (nz : ∀ a ∈ fp, ¬ Z a) (nd : fp.Nodup) (f : Fm [l, d] H H') (G0 : ∃ L, GraphAt P w C H g l d L) (G : GraphAt P w C H' g l d L') :
    Reps (fun a => a ∉ fp ∧ (Z a ∨ H a = none ∨ a ∈ fp)) H' (.int n :: termsT P w C L' :: ts) (.int n :: .ref g :: vs) fp ∧ fp.Nodup ∧ (∀ a ∈ fp, H a = none ∨ a ∈ fp) ∧ Fm fp H H' := by
  subst ef
  obtain ⟨L0, G0⟩ := G0
  have sub : ∀ x ∈ [l, d], x ∈ [g, l, d] := fun x hx => List.mem_cons_of_mem _ hx
  refine ⟨?_, nd, fun a h => .inr h, f.wide sub⟩
  unfold Reps
  refine ⟨_, _, [], [g, l, d], rfl, rfl, lit_int _, ?_⟩
  unfold Reps
  refine ⟨_, _, [g, l, d], [], rfl, rfl, rep_terms G, r2.go _ _ _ ⟨fun a u e hu => f a _ e fun z => ?_, fun a o z e => ⟨⟨fun q => nz a q z, .inl z⟩, f a o e fun q => nz a (sub a q) z⟩, fun a h => (List.not_mem_nil h).elim⟩⟩
  obtain ⟨o, e1, e2⟩ := terms_framed.there H (.ref g) [g, l, d] ⟨g, l, d, rfl, G0, rfl⟩ a (sub a z)
  rw [e] at e1
  cases e1
  rw [e2] at hu
  cases hu
theorem conv_letter {vs : List V} {H : Hp} {Q : VK} {E : XK} (h : spT (gLetter P w C) vs H Q E) : spLetter P w C vs H Q E := by
  obtain ⟨ts, Z, fp, r, nd, nz, L, key, e, hd, hl, k⟩ := h
  subst e
  obtain ⟨v, vs', f1, f2, e1, e2, z, r2⟩ := reps2 r
  obtain ⟨u, e3, zu⟩ := reps1 r2
  obtain ⟨g, l, d, e4, G, e5⟩ := z.terms
  have ek := Rep.still _ _ _ zu (kT_still key)
  subst ek
  rw [List.append_nil, e5] at e2
  have hn : L.Nodup := by
    obtain ⟨_, _, _, _, _, _, h, _⟩ := G
    exact h
  subst e3
  subst e4
  refine ⟨g, l, d, L, key, u, e1, G, zu.nk _ _ _, hd, hl, fun i H' hi G' f' => ?_, fun hno H' G' f' => ?_⟩
  · obtain ⟨a, b, c, d'⟩ := ask_add (n := ((L.idxOf (.tup [.text "letter", key]) : Nat) : Int)) (f2 := []) r2 e2 nz nd f'.nil ⟨_, G⟩ G'
    rw [e1] at k
    have ea : addK L (.tup [.text "letter", key]) = L := if_pos (List.mem_of_getElem? hi)
    rw [ea, idx_at hn hi] at k
    rw [idx_at hn hi] at a
    exact k _ H' fp a b c d'
  · obtain ⟨a, b, c, d'⟩ := ask_add (n := ((L.idxOf (.tup [.text "letter", key]) : Nat) : Int)) (f2 := []) r2 e2 nz nd f' ⟨_, G⟩ G'
    rw [e1] at k
    have ea : addK L (.tup [.text "letter", key]) = L ++ [.tup [.text "letter", key]] := if_neg hno
    have ei : L.idxOf (.tup [.text "letter", key]) = L.length := List.idxOf_eq_length hno
    rw [ea, ei] at k
    rw [ei] at a
    exact k _ H' fp a b c d'
end
end Rs
set_option maxHeartbeats 4000000
namespace Rs
open PySem L2 PySem.Spec PyProof.Rows
local macro_rules | `(tactic| walk_at "dv nm") => `(tactic| dsimp only [List.set_cons_succ, List.set_cons_zero, hideT])
local macro_rules | `(tactic| walk_at "dv st") => `(tactic| first | rfl | exact kT_still _ | assumption)
local macro_rules | `(tactic| walk_at "dv 1") => `(tactic| first | (with_reducible (first | refine ws_seq ?_ | refine ws_asg ?_ | refine ws_ret ?_ | refine ws_drop ?_ | refine ws_if ?_ | refine ws_next ?_ | refine we_int ?_ | refine we_str ?_ | refine we_bl ?_ | refine we_non ?_ | refine we_tup ?_ | refine we_lst ?_ | refine wa_cons ?_ | refine wa_nil ?_ | refine wo_cons ?_ | refine wo_nil ?_ | refine wt_test ?_ | refine wt_B ?_ | refine wt_not ?_ | refine wt_and ?_ | refine wt_or ?_ | refine we_if ?_ | refine we_notV ?_ | refine we_andV ?_ | refine we_orV ?_ | refine we_dnew ?_ | refine wb_var ⟨_, rfl⟩ ?_)) | ((with_reducible refine' wg_name ?h1 ?h2 ?_); (case h1 => exact Nat.le_of_ble_eq_true rfl); (case h2 => decide); (walk_at "dv nm")) | ((with_reducible refine' we_var ?h ?s ?_); (case' h => rfl); (case s => walk_at "dv st")) | (with_reducible refine wb_of ?_))
local macro_rules | `(tactic| walk_at "dv") => `(tactic| repeat (walk_at "dv 1"))
def homesT (h : List (Str × Nat)) : List (Key × T) := h.map fun p => (.inr p.1, .int (p.2 : Int))
theorem stillK_map {k : Key} {t : T} (ht : t.still = true) : ∀ {kvs : List (Key × T)}, stillK kvs = true → stillK (kvs.map fun kv => if kv.1 = k then (kv.1, t) else kv) = true
  | [], _ => rfl
  | (k', u) :: r, s => by
    unfold stillK at s
    rw [Bool.and_eq_true] at s
    rw [List.map_cons]
    by_cases e : k' = k
    · rw [if_pos e]
      unfold stillK
      rw [ht, stillK_map ht s.2]
      rfl
    · rw [if_neg e]
      unfold stillK
      rw [s.1, stillK_map ht s.2]
      rfl
theorem stillK_app : ∀ {as bs : List (Key × T)}, stillK as = true → stillK bs = true → stillK (as ++ bs) = true
  | [], _, _, h => h
  | (k, u) :: r, bs, s, h => by
    unfold stillK at s
    rw [Bool.and_eq_true] at s
    rw [List.cons_append]
    unfold stillK
    rw [s.1, stillK_app s.2 h]
    rfl
theorem putT_still {kvs : List (Key × T)} {k : Key} {t : T} (h : stillK kvs = true) (ht : t.still = true) : stillK (putT kvs k t) = true := by
  unfold putT
  split
  · exact stillK_map ht h
  · exact stillK_app h (by unfold stillK; rw [ht]; rfl)
theorem valT_put {kvs : List (Key × T)} {k j : Key} {t : T} : valT (putT kvs k t) j = if j = k then some t else valT kvs j := by
  have nil : ∀ j : Key, valT ([] : List (Key × T)) j = none := fun _ => rfl
  have cons : ∀ (p : Key × T) (r : List (Key × T)) (j : Key), valT (p :: r) j = if p.1 = j then some p.2 else valT r j := fun p r j => by
    by_cases e : p.1 = j
    · rw [if_pos e]
      simp [valT, List.find?_cons, e]
    · rw [if_neg e]
      simp [valT, List.find?_cons, e]
  have hany : ∀ kvs : List (Key × T), (kvs.any fun kv => decide (kv.1 = k)) = (valT kvs k).isSome := fun kvs => by
    induction kvs with
    | nil => rfl
    | cons p r ih =>
      rw [List.any_cons, ih, cons]
      by_cases e : p.1 = k
      · rw [if_pos e, decide_eq_true e]; rfl
      · rw [if_neg e, decide_eq_false e]; rfl
  unfold putT
  split
  · rename_i h
    rw [hany] at h
    have go : ∀ kvs : List (Key × T), (valT kvs k).isSome = true → valT (kvs.map fun kv => if kv.1 = k then (kv.1, t) else kv) j = if j = k then some t else valT kvs j := fun kvs => by
      induction kvs with
      | nil => intro h; cases h
      | cons p r ih =>
        intro h
        rw [List.map_cons, cons, cons]
        by_cases e : p.1 = k
        · rw [if_pos e]
          show (if p.1 = j then some t else _) = _
          by_cases e2 : p.1 = j
          · rw [if_pos e2, if_pos (e2.symm.trans e)]
          · rw [if_neg e2, if_neg e2, if_neg (fun z => e2 (e.trans z.symm))]
            by_cases h2 : (valT r k).isSome = true
            · rw [ih h2, if_neg (fun z => e2 (e.trans z.symm))]
            · have noop : ∀ r : List (Key × T), (valT r k).isSome ≠ true → (r.map fun kv => if kv.1 = k then (kv.1, t) else kv) = r := fun r => by
                induction r with
                | nil => intro _; rfl
                | cons q r ih2 =>
                  intro hq
                  rw [cons] at hq
                  by_cases eq : q.1 = k
                  · rw [if_pos eq] at hq
                    exact absurd rfl hq
                  · rw [if_neg eq] at hq
                    rw [List.map_cons, if_neg eq, ih2 hq]
              rw [noop r h2]
        · rw [if_neg e]
          rw [cons, if_neg e] at h
          by_cases e2 : p.1 = j
          · rw [if_pos e2, if_pos e2, if_neg (fun z => e (e2.trans z))]
          · rw [if_neg e2, if_neg e2]
            exact ih h
    exact go kvs h
  · rename_i h
    rw [hany] at h
    have go : ∀ kvs : List (Key × T), (valT kvs k).isSome ≠ true → valT (kvs ++ [(k, t)]) j = if j = k then some t else valT kvs j := fun kvs => by
      induction kvs with
      | nil =>
        intro _
        rw [List.nil_append, cons, nil]
        by_cases e : k = j
        · rw [if_pos e, if_pos e.symm]
        · rw [if_neg e, if_neg (fun z => e z.symm)]
      | cons p r ih =>
        intro h
        rw [cons] at h
        by_cases e : p.1 = k
        · rw [if_pos e] at h
          exact absurd rfl h
        · rw [if_neg e] at h
          rw [List.cons_append, cons, cons, ih h]
          by_cases e2 : p.1 = j
          · rw [if_pos e2, if_pos e2, if_neg (fun z => e (e2.trans z))]
          · rw [if_neg e2, if_neg e2]
    exact go kvs h
def isLet : NestedKey → Bool
  | .tup (.text s :: _) => decide (s = "letter")
  | _ => false
def numOf : NestedKey → Int
  | .num n => n
  | _ => 0
def partsOf : NestedKey → List Int
  | .tup [_, _, .tup ps] => ps.map numOf
  | _ => []
def RowAt (i : Nat) (k : NestedKey) : Prop := (∃ b, k = .tup [.text "letter", b]) ∨ ∃ (o : Str) (ns : List Int), k = .tup [.text "op", .text o, .tup (ns.map .num)] ∧ ns.length ≤ 10 ∧ ∀ n ∈ ns, 0 ≤ n ∧ n < (i : Int)
def RowsAt (L : List NestedKey) : Prop := ∀ (i : Nat) (k : NestedKey), L[i]? = some k → RowAt i k
def stepB (lab : List Nat) (acc : List Bool) (k : NestedKey) : Bool := !isLet k && (partsOf k).all fun p => acc.getD p.toNat false || decide (p.toNat ∈ lab)
def marksB (L : List NestedKey) (lab : List Nat) : List Bool := L.foldl (fun acc k => acc ++ [stepB lab acc k]) []
theorem marksB_snoc {L : List NestedKey} {k : NestedKey} {lab : List Nat} : marksB (L ++ [k]) lab = marksB L lab ++ [stepB lab (marksB L lab) k] := by simp [marksB]
theorem marksB_len {lab : List Nat} : ∀ L : List NestedKey, (marksB L lab).length = L.length := fun L => by
  have go : ∀ (M : List NestedKey) (acc : List Bool), (M.foldl (fun acc k => acc ++ [stepB lab acc k]) acc).length = acc.length + M.length := fun M => by
    induction M with
    | nil => exact fun acc => rfl
    | cons k r ih =>
      intro acc
      rw [List.foldl_cons, ih, List.length_append, List.length_singleton, List.length_cons]
      omega
  have := go L []
  unfold marksB
  simpa using this
theorem ints_still : ∀ ns : List Int, stillA (ns.map T.int) = true
  | [] => by rw [List.map_nil]; unfold stillA; rfl
  | n :: r => by rw [List.map_cons]; unfold stillA; rw [ints_still r]; unfold T.still; rfl
end Rs
set_option maxHeartbeats 4000000
namespace Rs
open PySem L2 PySem.Spec PyProof.Rows
theorem size_and {xs : List T} {Q : Prop} (h : xs.length ≤ sizeLine) (q : Q) : xs.length ≤ sizeLine ∧ Q := ⟨h, q⟩
local macro_rules | `(tactic| walk_at "dv nm") => `(tactic| dsimp only [List.set_cons_succ, List.set_cons_zero, hideT])
local macro_rules | `(tactic| walk_at "dv st") => `(tactic| first | rfl | exact kT_still _ | assumption)
local macro_rules | `(tactic| walk_at "dv 1") => `(tactic| first | (with_reducible (first | refine ws_seq ?_ | refine ws_asg ?_ | refine ws_ret ?_ | refine ws_drop ?_ | refine ws_if ?_ | refine ws_next ?_ | refine we_int ?_ | refine we_str ?_ | refine we_bl ?_ | refine we_non ?_ | refine we_tup ?_ | refine we_lst ?_ | refine wa_cons ?_ | refine wa_nil ?_ | refine wo_cons ?_ | refine wo_nil ?_ | refine wt_test ?_ | refine wt_B ?_ | refine wt_not ?_ | refine wt_and ?_ | refine wt_or ?_ | refine we_if ?_ | refine we_notV ?_ | refine we_andV ?_ | refine we_orV ?_ | refine we_dnew ?_ | refine wb_var ⟨_, rfl⟩ ?_)) | ((with_reducible refine' wg_name ?h1 ?h2 ?_); (case h1 => exact Nat.le_of_ble_eq_true rfl); (case h2 => decide); (walk_at "dv nm")) | ((with_reducible refine' we_var ?h ?s ?_); (case' h => rfl); (case s => walk_at "dv st")) | ((with_reducible refine' size_and ?sz ?_); (case sz => rw [sizeLine_eq]; exact Nat.le_of_ble_eq_true rfl)) | (with_reducible refine wb_of ?_))
local macro_rules | `(tactic| walk_at "dv") => `(tactic| repeat (walk_at "dv 1"))
theorem FnOk.calm {P : Program} {w : World} {K : PySem.W.Frag} {mg : Str → Option Value} {base : Heap} {k : Nat} {f : Addr} {fd : FuncData} {ps : List Str} {g : List T → (T → List T → Prop) → Prop} (F : FnOk P w K mg base (L2.CX P w) k f fd ps (spT g)) : FnOk P w K mg base CX0 k f fd ps (spT g) :=
  ⟨F.len, fun A outer s H args us vs Q E hr he hb hv hs => codeAny_mono (F.run A outer s H args us vs Q E0 hr he hb hv hs) fun r s' h => by
    cases r with
    | ok x => cases x <;> first | exact h | exact h.elim
    | error e =>
      obtain ⟨_, _, _, _, _, _, _, _, _, _, _, _, z⟩ := (show L2.CX P w outer H s E0 e s' from h)
      exact z.elim⟩
theorem if_no {c : Bool} {a b : Prop} (h : c = false) (k : b) : if c = true then a else b := by rw [h]; exact k
theorem if_yes {c : Bool} {a b : Prop} (h : c = true) (k : a) : if c = true then a else b := by rw [h]; exact k
end Rs
set_option maxHeartbeats 4000000
namespace Rs
open PySem L2 PySem.Spec PyProof.Rows
def leS (a b : Str) : Prop := ¬ b.cps.toList < a.cps.toList
instance (a b : Str) : Decidable (leS a b) := inferInstanceAs (Decidable (¬ _))
theorem leS_total (a b : Str) : leS a b ∨ leS b a := List.le_total (α := Nat) a.cps.toList b.cps.toList
theorem leS_trans {a b c : Str} (h : leS a b) (h2 : leS b c) : leS a c := List.le_trans (α := Nat) (show a.cps.toList ≤ b.cps.toList from h) (show b.cps.toList ≤ c.cps.toList from h2)
theorem leS_anti {a b : Str} (h : leS a b) (h2 : leS b a) : a = b := by
  have e : a.cps.toList = b.cps.toList := List.le_antisymm (α := Nat) h h2
  cases a with
  | mk x =>
    cases b with
    | mk y =>
      congr 1
      exact Array.toList_inj.mp e
def insS (a : Str) : List Str → List Str
  | [] => [a]
  | b :: r => if leS a b then a :: b :: r else b :: insS a r
def srt : List Str → List Str
  | [] => []
  | a :: r => insS a (srt r)
theorem insS_perm (a : Str) : ∀ r, (insS a r).Perm (a :: r)
  | [] => List.Perm.refl _
  | b :: r => by
    unfold insS
    split
    · exact List.Perm.refl _
    · exact ((insS_perm a r).cons b).trans (List.Perm.swap a b r)
theorem srt_perm : ∀ r, (srt r).Perm r
  | [] => List.Perm.refl _
  | a :: r => (insS_perm a _).trans ((srt_perm r).cons a)
theorem insS_sorted (a : Str) : ∀ r : List Str, r.Pairwise leS → (insS a r).Pairwise leS
  | [], _ => by unfold insS; simp
  | b :: r, h => by
    obtain ⟨h1, h2⟩ := List.pairwise_cons.mp h
    unfold insS
    split
    · rename_i e
      exact List.pairwise_cons.mpr ⟨fun x hx => by
        rcases List.mem_cons.mp hx with hx | hx
        · rw [hx]; exact e
        · exact leS_trans e (h1 x hx), h⟩
    · rename_i e
      refine List.pairwise_cons.mpr ⟨fun x hx => ?_, insS_sorted a r h2⟩
      rcases List.mem_cons.mp ((insS_perm a r).mem_iff.mp hx) with hx | hx
      · rw [hx]; exact (leS_total a b).resolve_left e
      · exact h1 x hx
theorem srt_sorted : ∀ r, (srt r).Pairwise leS
  | [] => List.Pairwise.nil
  | a :: r => insS_sorted a _ (srt_sorted r)
theorem pw_uniq : ∀ {xs ys : List Str}, xs.Perm ys → xs.Pairwise leS → ys.Pairwise leS → xs = ys
  | [], ys, p, _, _ => by rw [List.nil_perm.mp p]
  | x :: xs, [], p, _, _ => nomatch List.perm_nil.mp p
  | x :: xs, y :: ys, p, h1, h2 => by
    have e : x = y := by
      rcases List.mem_cons.mp (p.mem_iff.mp List.mem_cons_self) with e | e
      · exact e
      · rcases List.mem_cons.mp (p.mem_iff.mpr List.mem_cons_self) with e2 | e2
        · exact e2.symm
        · exact leS_anti ((List.pairwise_cons.mp h1).1 y e2) ((List.pairwise_cons.mp h2).1 x e)
    subst e
    rw [pw_uniq ((List.perm_cons x).mp p) (List.pairwise_cons.mp h1).2 (List.pairwise_cons.mp h2).2]
theorem srt_congr {ks js : List Str} (p : ks.Perm js) : srt ks = srt js := pw_uniq ((srt_perm ks).trans (p.trans (srt_perm js).symm)) (srt_sorted ks) (srt_sorted js)
section
variable {fr : Fr} {pn : List Nat} {pv : Nat → V} {tmp ts : List T} {tv vs : List V} {sl : Sl} {σ : L2.St} {H : Hp} {p : Addr}
theorem R.lits (r : R fr pn pv tmp tv sl σ H) (h : ∀ Z, Reps Z H ts vs []) : R fr pn pv (ts ++ tmp) (vs ++ tv) sl σ H := by
  obtain ⟨f1, f2, r⟩ := r
  exact ⟨[] ++ f1, f2, by rw [List.nil_append]; exact (h _).join r.hands, r.slots, r.nd, r.own, r.fm, r.pins⟩
theorem R.newLits (r : R fr pn pv tmp tv sl σ H) (h : ∀ Z, Reps Z H ts vs []) (hl : vs.length = ts.length) (hp : H p = none) : R fr pn pv (.lst true ts :: tmp) (.ref p :: tv) sl σ (upd H p (.lst vs)) := (r.lits h).mkLst hl hp
end
end Rs
set_option maxHeartbeats 4000000
namespace Rs
open PySem L2 PySem.Spec PyProof.Rows
def letR (s : Str) : NestedKey := .tup [.text "letter", .text s]
def opR (o : Str) (ps : List Nat) : NestedKey := .tup [.text "op", .text o, .tup (ps.map fun p : Nat => NestedKey.num (p : Int))]
abbrev LS := List NestedKey × List (Nat × Nat)
abbrev Kind := Nat → Option (Str × List Nat)
def seen (st : LS) (n : Nat) : Bool := (st.2.lookup n).isSome
def atOf (st : LS) (n : Nat) : Nat := (st.2.lookup n).getD 0
def addR (st : LS) (n : Nat) (r : NestedKey) : LS := (st.1 ++ [r], st.2 ++ [(n, st.1.length)])
def lay (kind : Kind) (lab : Nat → Option Str) : Nat → Nat → LS → LS
  | 0, _, st => st
  | f + 1, n, st => if seen st n then st else match kind n with
    | none => addR st n (letR ((lab n).getD ⟨#[]⟩))
    | some (o, ps) => addR (ps.foldl (fun st p => lay kind lab f p st) st) n (opR o (ps.map (atOf (ps.foldl (fun st p => lay kind lab f p st) st))))
def Down (kind : Kind) : Prop := ∀ n o ps, kind n = some (o, ps) → ∀ p ∈ ps, p < n
structure LInv (N : Nat) (st : LS) : Prop where
  nd : (st.2.map (·.1)).Nodup
  lt : ∀ q ∈ st.2, q.1 < N
  len : st.2.length = st.1.length
theorem lookup_none {l : List (Nat × Nat)} {n : Nat} : (l.lookup n).isSome = false ↔ n ∉ l.map (·.1) := by
  induction l with
  | nil => simp
  | cons q r ih =>
    rw [List.lookup_cons, List.map_cons, List.mem_cons]
    by_cases e : n = q.1
    · simp [e]
    · rw [show (n == q.1) = false by simpa using e]
      simp [ih, e]
theorem seen_no {st : LS} {n : Nat} : seen st n = false ↔ n ∉ st.2.map (·.1) := lookup_none
theorem seen_yes {st : LS} {n : Nat} : seen st n = true ↔ n ∈ st.2.map (·.1) := by
  have := seen_no (st := st) (n := n)
  cases h : seen st n with
  | true => rw [h] at this; simpa using this
  | false => rw [h] at this; simpa using this
theorem nodup_lt_len : ∀ {N : Nat} {l : List Nat}, l.Nodup → (∀ x ∈ l, x < N) → l.length ≤ N
  | 0, [], _, _ => Nat.le_refl _
  | 0, a :: r, _, h => absurd (h a List.mem_cons_self) (Nat.not_lt_zero _)
  | N + 1, l, nd, h => by
    by_cases e : N ∈ l
    · have h1 := nodup_lt_len (N := N) (nd.erase N) fun x hx => by
        have := (nd.mem_erase_iff).mp hx
        have := h x this.2
        omega
      rw [List.length_erase_of_mem e] at h1
      omega
    · have h1 := nodup_lt_len (N := N) nd fun x hx => by
        have h2 := h x hx
        have h3 : x ≠ N := fun z => e (by rw [← z]; exact hx)
        omega
      omega
theorem LInv.room {N : Nat} {st : LS} {n : Nat} (h : LInv N st) (hn : n < N) (hs : seen st n = false) : st.2.length < N := by
  have : ((n :: st.2.map (·.1))).length ≤ N := nodup_lt_len (List.nodup_cons.mpr ⟨seen_no.mp hs, h.nd⟩) fun x hx => by
    rcases List.mem_cons.mp hx with hx | hx
    · rw [hx]; exact hn
    · obtain ⟨q, hq, e⟩ := List.mem_map.mp hx
      rw [← e]
      exact h.lt q hq
  rw [List.length_cons, List.length_map] at this
  omega
theorem LInv.add {N : Nat} {st : LS} {n : Nat} {r : NestedKey} (h : LInv N st) (hn : n < N) (hs : seen st n = false) : LInv N (addR st n r) := by
  refine ⟨?_, fun q hq => ?_, ?_⟩
  · show ((st.2 ++ [(n, st.1.length)]).map (·.1)).Nodup
    rw [List.map_append]
    refine List.nodup_append.mpr ⟨h.nd, by simp, fun a ha b hb e => ?_⟩
    simp at hb
    subst hb
    subst e
    exact seen_no.mp hs ha
  · rcases List.mem_append.mp hq with hq | hq
    · exact h.lt q hq
    · simp at hq
      rw [hq]
      exact hn
  · show (st.2 ++ _).length = (st.1 ++ _).length
    rw [List.length_append, List.length_append, h.len]
    rfl
theorem addR_keys {st : LS} {n : Nat} {r : NestedKey} : (addR st n r).2.map (·.1) = st.2.map (·.1) ++ [n] := by unfold addR; rw [List.map_append]; rfl
theorem seen_add {st : LS} {n m : Nat} {r : NestedKey} : seen (addR st n r) m = true ↔ seen st m = true ∨ m = n := by
  rw [seen_yes, addR_keys, List.mem_append, ← seen_yes]
  simp
theorem lookup_app {l m : List (Nat × Nat)} {n : Nat} (h : (l.lookup n).isSome = true) : (l ++ m).lookup n = l.lookup n := by
  induction l with
  | nil => cases h
  | cons q r ih =>
    rw [List.cons_append, List.lookup_cons, List.lookup_cons]
    rw [List.lookup_cons] at h
    by_cases e : (n == q.1) = true
    · simp [e]
    · have e : (n == q.1) = false := by simpa using e
      rw [e] at h
      simp only [e]
      exact ih h
theorem atOf_add {st : LS} {n m : Nat} {r : NestedKey} (h : seen st m = true) : atOf (addR st n r) m = atOf st m := by
  unfold atOf addR
  rw [lookup_app h]
structure Grew (N : Nat) (b : Nat) (st st' : LS) : Prop where
  inv : LInv N st'
  old : ∀ m, seen st m = true → seen st' m = true
  new : ∀ m, seen st' m = true → seen st m = true ∨ m < b
  at' : ∀ m, seen st m = true → atOf st' m = atOf st m
theorem Grew.refl {N b : Nat} {st : LS} (h : LInv N st) : Grew N b st st := ⟨h, fun _ h => h, fun _ h => .inl h, fun _ _ => rfl⟩
theorem Grew.trans {N b : Nat} {s1 s2 s3 : LS} (h : Grew N b s1 s2) (h2 : Grew N b s2 s3) : Grew N b s1 s3 :=
  ⟨h2.inv, fun m q => h2.old m (h.old m q), fun m q => by
    rcases h2.new m q with q | q
    · exact h.new m q
    · exact .inr q, fun m q => (h2.at' m (h.old m q)).trans (h.at' m q)⟩
theorem Grew.wide {N b c : Nat} {s1 s2 : LS} (h : Grew N b s1 s2) (hc : b ≤ c) : Grew N c s1 s2 := ⟨h.inv, h.old, fun m q => (h.new m q).imp id fun z => Nat.lt_of_lt_of_le z hc, h.at'⟩
theorem Grew.add {N b n : Nat} {st : LS} {r : NestedKey} (h : LInv N st) (hn : n < N) (hs : seen st n = false) (hb : n < b) : Grew N b st (addR st n r) :=
  ⟨h.add hn hs, fun m q => seen_add.mpr (.inl q), fun m q => (seen_add.mp q).imp id fun e => by rw [e]; exact hb, fun m q => atOf_add q⟩
variable {kind : Kind} {lab : Nat → Option Str}
end Rs
set_option maxHeartbeats 4000000
namespace Rs
open PySem L2 PySem.Spec PyProof.Rows
local macro_rules | `(tactic| walk_at "dv nm") => `(tactic| dsimp only [List.set_cons_succ, List.set_cons_zero, hideT])
local macro_rules | `(tactic| walk_at "dv st") => `(tactic| first | rfl | exact kT_still _ | assumption)
local macro_rules | `(tactic| walk_at "dv 1") => `(tactic| first | (with_reducible (first | refine ws_seq ?_ | refine ws_asg ?_ | refine ws_ret ?_ | refine ws_drop ?_ | refine ws_if ?_ | refine ws_next ?_ | refine we_int ?_ | refine we_str ?_ | refine we_bl ?_ | refine we_non ?_ | refine we_tup ?_ | refine we_lst ?_ | refine wa_cons ?_ | refine wa_nil ?_ | refine wo_cons ?_ | refine wo_nil ?_ | refine wt_test ?_ | refine wt_B ?_ | refine wt_not ?_ | refine wt_and ?_ | refine wt_or ?_ | refine we_if ?_ | refine we_notV ?_ | refine we_andV ?_ | refine we_orV ?_ | refine we_dnew ?_ | refine wb_var ⟨_, rfl⟩ ?_)) | ((with_reducible refine' wg_name ?h1 ?h2 ?_); (case h1 => exact Nat.le_of_ble_eq_true rfl); (case h2 => decide); (walk_at "dv nm")) | ((with_reducible refine' we_var ?h ?s ?_); (case' h => rfl); (case s => walk_at "dv st")) | ((with_reducible refine' size_and ?sz ?_); (case sz => rw [sizeLine_eq]; exact Nat.le_of_ble_eq_true rfl)) | (with_reducible refine wb_of ?_))
local macro_rules | `(tactic| walk_at "dv") => `(tactic| repeat (walk_at "dv 1"))
theorem ws_cont {fr : Fr} {pn : List Nat} {tmp : List T} {sl : Sl} {K : KS} (k : K.ct sl) : WS fr pn tmp sl tCont K := fun pv tv σ H D r n rt b ct => ct sl σ H k r
theorem wt_yes {fr : Fr} {pn : List Nat} {tmp : List T} {sl : Sl} {K : Bool → Sl → Prop} (k : K true sl) : WT fr pn tmp sl tYes K := fun pv tv σ H Q r q => q true sl H k r
def kindL (L : List NestedKey) (ms : List Bool) : Kind := fun n => if ms.getD n false = true then match L[n]? with
    | some (.tup [_, .text o, .tup ps]) => some (o, ps.map fun k => (numOf k).toNat)
    | _ => none
  else none
def MarkOk (L : List NestedKey) (ms : List Bool) : Prop := ms.length = L.length ∧ ∀ n, ms.getD n false = true → ∃ (o : Str) (ps : List Nat), L[n]? = some (opR o ps) ∧ ps.length ≤ 10 ∧ ∀ p ∈ ps, p < n
theorem opR_nums (o : Str) (ps : List Nat) : opR o ps = .tup [.text "op", .text o, .tup ((ps.map fun p : Nat => (p : Int)).map NestedKey.num)] := by unfold opR; rw [List.map_map]; rfl
theorem kind_op {L : List NestedKey} {ms : List Bool} {n : Nat} {o : Str} {ps : List Nat} (hm : ms.getD n false = true) (h : L[n]? = some (opR o ps)) : kindL L ms n = some (o, ps) := by
  unfold kindL
  rw [if_pos hm, h]
  show some (o, (ps.map _).map _) = _
  rw [List.map_map]
  have : ((fun k => (numOf k).toNat) ∘ fun p : Nat => NestedKey.num (p : Int)) = id := by funext p; rfl
  rw [this, List.map_id]
theorem kind_no {L : List NestedKey} {ms : List Bool} {n : Nat} (hm : ms.getD n false = false) : kindL L ms n = none := by unfold kindL; rw [if_neg (by rw [hm]; exact Bool.false_ne_true)]
section
variable {P : Program} {w : World} {K : PySem.W.Frag} {mg : Str → Option Value} {base : Heap} {C : Addr}
structure TxtC (K : PySem.W.Frag) (mg : Str → Option Value) (C : Addr) : Prop where
  cl : Cls K C
  len : mg "len" = none
  tuple : mg "tuple" = none
  sorted : mg "sorted" = none
  list : mg "list" = none
  range : mg "range" = none
end
end Rs
set_option maxHeartbeats 4000000
namespace Rs
open PySem L2 PySem.Spec PyProof.Rows
theorem getD_snoc {α : Type} {xs : List α} {a d : α} {n : Nat} (h : n < xs.length) : (xs ++ [a]).getD n d = xs.getD n d := by
  rw [List.getD_eq_getElem?_getD, List.getD_eq_getElem?_getD, List.getElem?_append_left h]
theorem marks_take {lab : List Nat} {L : List NestedKey} {m n : Nat} (h : n < m) (hm : m ≤ L.length) : (marksB (L.take m) lab).getD n false = (marksB L lab).getD n false := by
  have go : ∀ (r M : List NestedKey), n < M.length → (marksB (M ++ r) lab).getD n false = (marksB M lab).getD n false := fun r => by
    induction r with
    | nil => intro M _; rw [List.append_nil]
    | cons k r ih =>
      intro M hM
      have := ih (M ++ [k]) (by rw [List.length_append]; omega)
      rw [List.append_assoc] at this
      rw [show M ++ k :: r = M ++ ([k] ++ r) from rfl, this, marksB_snoc, getD_snoc (by rw [marksB_len]; exact hM)]
  have := go (L.drop m) (L.take m) (by rw [List.length_take]; omega)
  rw [List.take_append_drop] at this
  exact this.symm
theorem marks_at {lab : List Nat} {L : List NestedKey} {n : Nat} {k : NestedKey} (h : L[n]? = some k) : (marksB L lab).getD n false = stepB lab (marksB (L.take n) lab) k := by
  have hn := (List.getElem?_eq_some_iff.mp h).1
  rw [← marks_take (m := n + 1) (Nat.lt_succ_self n) (by omega), List.take_succ, h]
  show (marksB (L.take n ++ [k]) lab).getD n false = _
  rw [marksB_snoc]
  have e : (marksB (L.take n) lab).length = n := by rw [marksB_len, List.length_take]; omega
  rw [List.getD_eq_getElem?_getD, List.getElem?_append_right (by omega), e, Nat.sub_self]
  rfl
theorem marks_letter {lab : List Nat} {L : List NestedKey} {n : Nat} {b : NestedKey} (h : L[n]? = some (.tup [.text "letter", b])) : (marksB L lab).getD n false = false := by
  rw [marks_at h]
  rfl
theorem marks_op {lab : List Nat} {L : List NestedKey} {n : Nat} {o : Str} {ps : List Nat} (hp : ∀ p ∈ ps, p < n) (h : L[n]? = some (opR o ps)) : (marksB L lab).getD n false = ps.all fun p => (marksB L lab).getD p false || decide (p ∈ lab) := by
  have hn := (List.getElem?_eq_some_iff.mp h).1
  rw [marks_at h]
  have e : partsOf (opR o ps) = ps.map fun p : Nat => (p : Int) := by
    show (ps.map _).map numOf = _
    rw [List.map_map]
    rfl
  have hl : isLet (opR o ps) = false := by
    show decide ((Str.ofString "op") = "letter") = false
    decide +kernel
  unfold stepB
  rw [e, hl, Bool.not_false, Bool.true_and, List.all_map]
  have : ∀ qs : List Nat, (∀ p ∈ qs, p < n) → qs.all ((fun p : Int => (marksB (L.take n) lab).getD p.toNat false || decide (p.toNat ∈ lab)) ∘ fun p : Nat => (p : Int)) = qs.all fun p => (marksB L lab).getD p false || decide (p ∈ lab) := fun qs => by
    induction qs with
    | nil => exact fun _ => rfl
    | cons q r ih =>
      intro hq
      rw [List.all_cons, List.all_cons, ih fun p hp => hq p (List.mem_cons_of_mem _ hp)]
      show (((marksB (L.take n) lab).getD (q : Int).toNat false || decide ((q : Int).toNat ∈ lab)) && r.all _) = _
      rw [Int.toNat_natCast, marks_take (hq q List.mem_cons_self) (by omega)]
  exact this ps hp
theorem RowsAt.op {L : List NestedKey} {n : Nat} {o : Str} {ns : List Int} (hb : ∀ m ∈ ns, 0 ≤ m ∧ m < (n : Int)) : ∃ ps : List Nat, ns = ps.map (fun p : Nat => (p : Int)) ∧ (∀ p ∈ ps, p < n) ∧ ps.length = ns.length := by
  refine ⟨ns.map Int.toNat, ?_, fun p hp => ?_, List.length_map _⟩
  · rw [List.map_map]
    have : ∀ ms : List Int, (∀ m ∈ ms, 0 ≤ m ∧ m < (n : Int)) → ms = ms.map ((fun p : Nat => (p : Int)) ∘ Int.toNat) := fun ms => by
      induction ms with
      | nil => exact fun _ => rfl
      | cons m r ih =>
        intro h
        rw [List.map_cons, ← ih fun x hx => h x (List.mem_cons_of_mem _ hx)]
        have := h m List.mem_cons_self
        show m :: r = ((m.toNat : Int)) :: r
        rw [Int.toNat_of_nonneg this.1]
    exact this ns hb
  · obtain ⟨m, hm, e⟩ := List.mem_map.mp hp
    have := hb m hm
    omega
theorem RowsAt.cases {L : List NestedKey} (h : RowsAt L) {n : Nat} (hn : n < L.length) : (∃ b, L[n]? = some (.tup [.text "letter", b])) ∨ ∃ (o : Str) (ps : List Nat), L[n]? = some (opR o ps) ∧ ps.length ≤ 10 ∧ ∀ p ∈ ps, p < n := by
  have e : L[n]? = some L[n] := List.getElem?_eq_getElem hn
  rcases h n _ e with ⟨b, hb⟩ | ⟨o, ns, hb, h10, hp⟩
  · exact .inl ⟨b, by rw [e, hb]⟩
  · obtain ⟨ps, e1, e2, e3⟩ := RowsAt.op (L := L) (o := o) hp
    exact .inr ⟨o, ps, by rw [e, hb, opR_nums, e1], by omega, e2⟩
theorem markOk {L : List NestedKey} (h : RowsAt L) (lab : List Nat) : MarkOk L (marksB L lab) := by
  refine ⟨marksB_len L, fun n hm => ?_⟩
  have hn : n < L.length := by
    rw [← marksB_len (lab := lab) L]
    cases Nat.lt_or_ge n (marksB L lab).length with
    | inl h => exact h
    | inr h => rw [List.getD_eq_getElem?_getD, List.getElem?_eq_none h] at hm; cases hm
  rcases h.cases hn with ⟨b, e⟩ | ⟨o, ps, e, h10, hp⟩
  · rw [marks_letter e] at hm; cases hm
  · exact ⟨o, ps, e, h10, hp⟩
abbrev Homes := List (Str × Nat)
def homeOf (hm : Homes) (l : Str) : Nat := (hm.lookup l).getD 0
def labOf (hm : Homes) (n : Nat) : Option Str := (srt (hm.map (·.1))).find? fun l => homeOf hm l == n
def laidAll (kind : Kind) (lab : Nat → Option Str) (f : Nat) (home : Str → Nat) (ls : List Str) : LS := ls.foldl (fun st l => lay kind lab f (home l) st) ([], [])
def bookK (st : LS) (ls : List Str) (home : Str → Nat) : NestedKey := .tup [.tup st.1, .tup (ls.map fun l => .tup [.text l, .num (atOf st (home l) : Int)])]
def kindH (L : List NestedKey) (hm : Homes) : Kind := kindL L (marksB L (hm.map (·.2)))
def canonK (L : List NestedKey) (hm : Homes) : NestedKey := bookK (laidAll (kindH L hm) (labOf hm) L.length (homeOf hm) (srt (hm.map (·.1)))) (srt (hm.map (·.1))) (homeOf hm)
structure HomesOk (N : Nat) (hm : Homes) : Prop where
  nd : (hm.map (·.1)).Nodup
  lt : ∀ p ∈ hm, p.2 < N
theorem homeOf_mem {hm : Homes} (nd : (hm.map (·.1)).Nodup) {p : Str × Nat} (hp : p ∈ hm) : homeOf hm p.1 = p.2 := by
  unfold homeOf
  induction hm with
  | nil => cases hp
  | cons q r ih =>
    rw [List.map_cons, List.nodup_cons] at nd
    rw [List.lookup_cons]
    rcases List.mem_cons.mp hp with rfl | hp
    · rw [beq_self_eq_true]; rfl
    · have : (p.1 == q.1) = false := by
        rw [beq_eq_false_iff_ne]
        intro z
        exact nd.1 (by rw [← z]; exact List.mem_map.mpr ⟨p, hp, rfl⟩)
      rw [this]
      exact ih nd.2 hp
theorem mem_srt {xs : List Str} {x : Str} : x ∈ srt xs ↔ x ∈ xs := (srt_perm xs).mem_iff
theorem home_lt {N : Nat} {hm : Homes} (h : HomesOk N hm) {l : Str} (hl : l ∈ hm.map (·.1)) : homeOf hm l < N ∧ homeOf hm l ∈ hm.map (·.2) := by
  obtain ⟨p, hp, e⟩ := List.mem_map.mp hl
  subst e
  rw [homeOf_mem h.nd hp]
  exact ⟨h.lt p hp, List.mem_map.mpr ⟨p, hp, rfl⟩⟩
theorem kindH_some {L : List NestedKey} (hR : RowsAt L) {hm : Homes} {n : Nat} {o : Str} {ps : List Nat} (h : kindH L hm n = some (o, ps)) : (marksB L (hm.map (·.2))).getD n false = true ∧ L[n]? = some (opR o ps) ∧ ps.length ≤ 10 ∧ ∀ p ∈ ps, p < n := by
  unfold kindH at h
  cases hm2 : (marksB L (hm.map (·.2))).getD n false with
  | false => rw [kind_no hm2] at h; cases h
  | true =>
    obtain ⟨o', ps', e, h10, hp⟩ := (markOk hR (hm.map (·.2))).2 n hm2
    rw [kind_op hm2 e] at h
    cases h
    exact ⟨rfl, e, h10, hp⟩
theorem downH {L : List NestedKey} (hR : RowsAt L) (hm : Homes) : Down (kindH L hm) := fun n o ps h => (kindH_some hR h).2.2.2
end Rs
set_option maxHeartbeats 4000000
namespace Rs
open PySem L2 PySem.Spec PyProof.Rows
local macro_rules | `(tactic| walk_at "dv nm") => `(tactic| dsimp only [List.set_cons_succ, List.set_cons_zero, hideT])
local macro_rules | `(tactic| walk_at "dv st") => `(tactic| first | rfl | exact kT_still _ | assumption)
local macro_rules | `(tactic| walk_at "dv 1") => `(tactic| first | (with_reducible (first | refine ws_seq ?_ | refine ws_asg ?_ | refine ws_ret ?_ | refine ws_drop ?_ | refine ws_if ?_ | refine ws_next ?_ | refine we_int ?_ | refine we_str ?_ | refine we_bl ?_ | refine we_non ?_ | refine we_tup ?_ | refine we_lst ?_ | refine wa_cons ?_ | refine wa_nil ?_ | refine wo_cons ?_ | refine wo_nil ?_ | refine wt_test ?_ | refine wt_B ?_ | refine wt_not ?_ | refine wt_and ?_ | refine wt_or ?_ | refine we_if ?_ | refine we_notV ?_ | refine we_andV ?_ | refine we_orV ?_ | refine we_dnew ?_ | refine wb_var ⟨_, rfl⟩ ?_)) | ((with_reducible refine' wg_name ?h1 ?h2 ?_); (case h1 => exact Nat.le_of_ble_eq_true rfl); (case h2 => decide); (walk_at "dv nm")) | ((with_reducible refine' we_var ?h ?s ?_); (case' h => rfl); (case s => walk_at "dv st")) | ((with_reducible refine' size_and ?sz ?_); (case sz => rw [sizeLine_eq]; exact Nat.le_of_ble_eq_true rfl)) | (with_reducible refine wb_of ?_))
local macro_rules | `(tactic| walk_at "dv") => `(tactic| repeat (walk_at "dv 1"))
theorem kTs_map : ∀ ks : List NestedKey, kTs ks = ks.map kT
  | [] => rfl
  | k :: r => by
    rw [List.map_cons, ← kTs_map r]
    rfl
end Rs
set_option maxHeartbeats 4000000
namespace Rs
open PySem L2 PySem.Spec PyProof.Rows
local macro_rules | `(tactic| walk_at "dv nm") => `(tactic| dsimp only [List.set_cons_succ, List.set_cons_zero, hideT])
local macro_rules | `(tactic| walk_at "dv st") => `(tactic| first | rfl | exact kT_still _ | assumption)
local macro_rules | `(tactic| walk_at "dv 1") => `(tactic| first | (with_reducible (first | refine ws_seq ?_ | refine ws_asg ?_ | refine ws_ret ?_ | refine ws_drop ?_ | refine ws_if ?_ | refine ws_next ?_ | refine we_int ?_ | refine we_str ?_ | refine we_bl ?_ | refine we_non ?_ | refine we_tup ?_ | refine we_lst ?_ | refine wa_cons ?_ | refine wa_nil ?_ | refine wo_cons ?_ | refine wo_nil ?_ | refine wt_test ?_ | refine wt_B ?_ | refine wt_not ?_ | refine wt_and ?_ | refine wt_or ?_ | refine we_if ?_ | refine we_notV ?_ | refine we_andV ?_ | refine we_orV ?_ | refine we_dnew ?_ | refine wb_var ⟨_, rfl⟩ ?_)) | ((with_reducible refine' wg_name ?h1 ?h2 ?_); (case h1 => exact Nat.le_of_ble_eq_true rfl); (case h2 => decide); (walk_at "dv nm")) | ((with_reducible refine' we_var ?h ?s ?_); (case' h => rfl); (case s => walk_at "dv st")) | ((with_reducible refine' size_and ?sz ?_); (case sz => rw [sizeLine_eq]; exact Nat.le_of_ble_eq_true rfl)) | (with_reducible refine wb_of ?_))
local macro_rules | `(tactic| walk_at "dv") => `(tactic| repeat (walk_at "dv 1"))
section
variable {fr : Fr} {pn : List Nat} {tmp : List T} {sl : Sl} {KE : T → Sl → Prop} {P : Program} {w : World} {C : Addr} {E : XK}
theorem we_mkTerms (k : KE (termsT P w C []) sl) : WE fr pn tmp sl (tMake C (spInit P w C) [] E tNil) KE := fun pv tv σ H Q r q => by
  intro x dx hx hdx hne
  have keep0 : ∀ a o, H a = some o → (upd (upd H dx (.own x)) x (.ins C dx [])) a = some o := fun a o e => by
    rw [upd_ne (fun z => by rw [z, hx] at e; cases e), upd_ne (fun z => by rw [z, hdx] at e; cases e)]
    exact e
  refine ⟨x, dx, rfl, upd_same, fun l d H' hl hd G f => ⟨rfl, q _ sl _ H' k ?_⟩⟩
  have none0 : ∀ a, (upd (upd H dx (.own x)) x (.ins C dx [])) a = none → H a = none := fun a e => by
    cases h : H a with
    | none => rfl
    | some o => rw [keep0 a o h] at e; cases e
  have keep : ∀ a o, H a = some o → H' a = some o := fun a o e => f a o (keep0 a o e) fun z => by
    rw [List.mem_singleton] at z
    rw [z, hx] at e
    cases e
  have new : ∀ a ∈ [x, l, d], H a = none := fun a ha => by
    simp only [List.mem_cons, List.not_mem_nil, or_false] at ha
    rcases ha with rfl | rfl | rfl
    · exact hx
    · exact none0 _ hl
    · exact none0 _ hd
  obtain ⟨f1, f2, r⟩ := r
  have off : ∀ a ∈ f1 ++ f2, a ∉ [x, l, d] := fun a ha z => by
    have h := new a z
    rcases List.mem_append.mp ha with q | q
    · obtain ⟨o, e, _⟩ := r.hands.there _ _ _ a q
      rw [h] at e
      cases e
    · obtain ⟨o, e, _⟩ := r.slots.there a q
      rw [h] at e
      cases e
  have g : ∀ f, Go (Zf fr (f1 ++ f2)) (Zf fr (([x, l, d] ++ f1) ++ f2)) H H' f := fun f => ⟨fun a _ e _ => keep a _ e, fun a o z e => ⟨⟨fun q => by
    rw [List.append_assoc] at q
    rcases List.mem_append.mp q with q | q
    · rw [new a q] at e; cases e
    · exact z.1 q, z.2⟩, keep a o e⟩, fun a _ o e => keep a o e⟩
  obtain ⟨p1, p2, p3⟩ := G.parts
  refine ⟨[x, l, d] ++ f1, f2, ?_, r.slots.go (g _), ?_, fun a ha => ?_, fun a o e n => keep a o (r.fm a o e n), r.pins⟩
  · unfold Reps
    exact ⟨_, tv, [x, l, d], f1, rfl, rfl, rep_terms G, r.hands.go _ _ _ (g _)⟩
  · rw [List.append_assoc]
    exact List.nodup_append.mpr ⟨by simp [p1, p2, p3], r.nd, fun a ha b hb e => off b hb (by rw [← e]; exact ha)⟩
  · rw [List.append_assoc] at ha
    rcases List.mem_append.mp ha with q | q
    · exact newOwn r.fm (new a q)
    · exact r.own a q
end
end Rs
set_option maxHeartbeats 4000000
namespace Rs
open PySem L2 PySem.Spec PyProof.Rows
section
variable {fr : Fr} {pn : List Nat} {tmp ts : List T} {sl : Sl} {KE : T → Sl → Prop} {KB : Opd → Sl → Prop} {K : KS} {Kf Kg : PySem.W.Frag} {i : Nat} {rows : List NestedKey} {pl : List (Str × Nat)}
theorem R.newDict {pv : Nat → V} {tv : List V} {σ : L2.St} {H : Hp} {p : Addr} (hs : List (Str × Nat)) (rr : R fr pn pv tmp tv sl σ H) (hp : H p = none) : R fr pn pv (.dk true (homesT hs) :: tmp) (.ref p :: tv) sl σ (upd H p (.dK (hs.map fun p => ((.inr p.1 : Key), V.int (p.2 : Int))))) := by
  have lits : ∀ (Z : Addr → Prop) (H : Hp) (hs : List (Str × Nat)), RepK Z H (homesT hs) (hs.map fun p => ((.inr p.1 : Key), V.int (p.2 : Int))) [] := fun Z H hs => by
    induction hs with
    | nil => unfold homesT; rw [List.map_nil, List.map_nil]; unfold RepK; exact ⟨rfl, rfl⟩
    | cons p r ih =>
      unfold homesT at ih ⊢
      rw [List.map_cons, List.map_cons]
      unfold RepK
      exact ⟨_, _, [], [], rfl, rfl, lit_int _, ih⟩
  obtain ⟨h1, h2, rr⟩ := rr
  have np : p ∉ h1 ++ h2 := fun z => by
    rcases List.mem_append.mp z with z | z
    · obtain ⟨o, e, _⟩ := rr.hands.there _ _ _ p z
      rw [hp] at e
      cases e
    · obtain ⟨o, e, _⟩ := rr.slots.there p z
      rw [hp] at e
      cases e
  have g : ∀ f, Go (Zf fr (h1 ++ h2)) (Zf fr ((p :: h1) ++ h2)) H (upd H p (.dK (hs.map fun p => ((.inr p.1 : Key), V.int (p.2 : Int))))) f := fun f => go_new hp fun a ha z => ⟨fun q => by
    rcases List.mem_cons.mp (show a ∈ p :: (h1 ++ h2) from q) with q | q
    · exact ha q
    · exact z.1 q, z.2⟩
  refine ⟨p :: h1, h2, ?_, rr.slots.go (g _), List.nodup_cons.mpr ⟨np, rr.nd⟩, fun x hx => ?_, rr.fm.thenNew hp, rr.pins⟩
  · unfold Reps
    refine ⟨.ref p, tv, [p], h1, rfl, rfl, ?_, rr.hands.go _ _ _ (g _)⟩
    unfold Rep
    exact ⟨p, _, [], rfl, upd_same, lits _ _ _, by simp⟩
  · rcases List.mem_cons.mp (show x ∈ p :: (h1 ++ h2) from hx) with q | q
    · rw [q]
      exact newOwn rr.fm hp
    · exact rr.own x q
theorem merge_nodupP : ∀ {kvs acc : List (Key × V)}, ((acc ++ kvs).map (·.1)).Nodup → mergeK acc kvs = acc ++ kvs
  | [], acc, _ => by rw [List.append_nil]; rfl
  | kv :: r, acc, h => by
    have hno : ∀ p ∈ acc, p.1 ≠ kv.1 := fun p hp e => by
      rw [List.map_append] at h
      exact (List.nodup_append.mp h).2.2 p.1 (List.mem_map.mpr ⟨p, hp, rfl⟩) kv.1 (by simp) e
    have e1 : putK acc kv.1 kv.2 = acc ++ [kv] := by
      unfold putK
      rw [if_neg]
      intro z
      obtain ⟨p, hp, e⟩ := List.any_eq_true.mp z
      exact hno p hp (by simpa using e)
    show mergeK (putK acc kv.1 kv.2) r = _
    rw [e1, merge_nodupP (by rw [List.append_assoc]; exact h), List.append_assoc]
    rfl
end
end Rs
set_option maxHeartbeats 4000000
namespace Rs
open PySem L2 PySem.Spec PyProof.Rows
def litV : V → T
  | .int i => .int i
  | .bl b => .bl b
  | .str s => .str s
  | _ => .non
def isLitV : V → Bool
  | .int _ => true
  | .bl _ => true
  | .str _ => true
  | .non => true
  | _ => false
theorem lit_litV {H : Hp} {v : V} (h : isLitV v = true) : ∀ Z, Rep Z H (litV v) v [] := fun Z => by
  cases v with
  | int i => exact lit_int Z
  | bl b => exact lit_bl Z
  | str s => exact lit_str Z
  | non => unfold litV Rep; exact ⟨rfl, rfl⟩
  | _ => cases h
theorem litV_of {Z : Addr → Prop} {H : Hp} {v u : V} {f : List Addr} (h : isLitV v = true) (r : Rep Z H (litV v) u f) : u = v := by
  cases v with
  | int i => unfold litV Rep at r; exact r.1
  | bl b => unfold litV Rep at r; exact r.1
  | str s => unfold litV Rep at r; exact r.1
  | non => unfold litV Rep at r; exact r.1
  | _ => cases h
def ndR (P : Program) (w : World) (kvs : List (NestedKey × V)) : Hp → V → List Addr → Prop := fun H v fp => ∃ d, v = .ref d ∧ ND P w H d kvs ∧ fp = [d]
def ndT (P : Program) (w : World) (kvs : List (NestedKey × V)) : T := .abs (ndR P w kvs)
theorem nd_framed {P : Program} {w : World} {kvs : List (NestedKey × V)} : Framed (ndR P w kvs) := by
  refine ⟨fun H H' v fp ⟨d, e1, D, e2⟩ ht ho => ?_, fun H v fp ⟨d, e1, D, e2⟩ a ha => ?_⟩
  · subst e2
    exact ⟨d, e1, D.frame (fun o e => ho d List.mem_cons_self o e) ht, rfl⟩
  · subst e2
    rw [List.mem_singleton] at ha
    subst ha
    obtain ⟨es, h1, _⟩ := D
    exact ⟨_, h1, rfl⟩
section
variable {P : Program} {w : World} {Z : Addr → Prop} {H : Hp} {v : V} {f : List Addr} {kvs : List (NestedKey × V)} {d : Addr}
theorem Rep.ndict (h : Rep Z H (ndT P w kvs) v f) : ∃ d, v = .ref d ∧ ND P w H d kvs ∧ f = [d] := by
  unfold ndT Rep at h
  exact h.2
theorem rep_ndict (D : ND P w H d kvs) : Rep Z H (ndT P w kvs) (.ref d) [d] := by
  unfold ndT Rep
  exact ⟨nd_framed, d, rfl, D, rfl⟩
end
section
variable {fr : Fr} {pn : List Nat} {tmp : List T} {sl : Sl} {KE : T → Sl → Prop} {K : KS} {td ty tv te tx : TE} {i : Nat} {Kf : PySem.W.Frag} {P : Program} {w : World}
theorem R.newOwn {pv : Nat → V} {tv : List V} {σ : L2.St} {H : Hp} {p : Addr} {o : HO} {t : T} (r : R fr pn pv tmp tv sl σ H) (hp : H p = none) (ht : ∀ Z, Rep Z (upd H p o) t (.ref p) [p]) : R fr pn pv (t :: tmp) (.ref p :: tv) sl σ (upd H p o) := by
  obtain ⟨f1, f2, r⟩ := r
  refine ⟨p :: f1, f2, ?_⟩
  have np : p ∉ f1 ++ f2 := fun z => by
    rcases List.mem_append.mp z with z | z
    · obtain ⟨o, e, _⟩ := r.hands.there _ _ _ p z
      rw [hp] at e
      cases e
    · obtain ⟨o, e, _⟩ := r.slots.there p z
      rw [hp] at e
      cases e
  have g : ∀ f, Go (Zf fr (f1 ++ f2)) (Zf fr ((p :: f1) ++ f2)) H (upd H p o) f := fun f => go_new hp fun a ha z => ⟨fun q => by
    rcases List.mem_cons.mp (show a ∈ p :: (f1 ++ f2) from q) with q | q
    · exact ha q
    · exact z.1 q, z.2⟩
  refine ⟨?_, r.slots.go (g _), List.nodup_cons.mpr ⟨np, r.nd⟩, fun x hx => ?_, r.fm.thenNew hp, r.pins⟩
  · unfold Reps
    exact ⟨.ref p, tv, [p], f1, rfl, rfl, ht _, r.hands.go _ _ _ (g _)⟩
  · rcases List.mem_cons.mp (show x ∈ p :: (f1 ++ f2) from hx) with q | q
    · rw [q]
      exact Rs.newOwn r.fm hp
    · exact r.own x q
theorem we_nnew (k : KE (ndT P w []) sl) : WE fr pn tmp sl (tNNew P w) KE := fun pv tv σ H Q r q p hp D => q _ sl _ _ k (r.newOwn hp fun Z => rep_ndict D)
def keyAt (t : T) (k : NestedKey) : Prop := t = kT k ∧ (∃ ks, k = .tup ks) ∧ k.depth ≤ 8
theorem keyAt.nk {Z : Addr → Prop} {H : Hp} {t : T} {k : NestedKey} {v : V} {f : List Addr} (h : keyAt t k) (r : Rep Z H t v f) : NK H k v ∧ ∃ b, v = .ref b := by
  obtain ⟨rfl, ⟨ks, rfl⟩, _⟩ := h
  have n := Rep.nk _ _ _ r
  refine ⟨n, ?_⟩
  cases n with
  | tup e r => exact ⟨_, rfl⟩
theorem we_nget (h0 : ∃ u, sl[i]? = some (some u)) (h : WE fr pn tmp sl ty fun t2 sl2 => ∃ kvs k v, sl2[i]? = some (some (ndT P w kvs)) ∧ keyAt t2 k ∧ valV kvs k = some v ∧ isLitV v = true ∧ KE (litV v) sl2) : WE fr pn tmp sl (tNGet P w (tVar i) ty) KE := fun pv tv σ H Q r q => by
  obtain ⟨u, h0⟩ := h0
  obtain ⟨v0, Z0, f0, ev, _⟩ := r.slot h0
  refine ⟨v0, ev, h pv tv σ H _ r fun t2 sl2 x H2 ⟨kvs, k, v, e1, e2, e3, e4, kk⟩ r2 => ?_⟩
  obtain ⟨Z, f, z⟩ := r2.top
  obtain ⟨nk, b, rfl⟩ := e2.nk z
  obtain ⟨v', Z', f', ev', z⟩ := r2.slot e1
  cases Option.some.inj (Option.some.inj (ev.symm.trans ev'))
  obtain ⟨d, rfl, D, _⟩ := z.ndict
  exact ⟨d, b, kvs, k, v, rfl, rfl, D, nk, e2.2.2, e3, q _ sl2 _ H2 kk (r2.pop.lit (lit_litV e4))⟩
theorem R.ndPut {pv : Nat → V} {tv : List V} {σ : L2.St} {H H4 : Hp} {kvs kvs' : List (NestedKey × V)} {a : Addr} (hs : sl[i]? = some (some (ndT P w kvs))) (ev : σ[i]? = some (some (.ref a))) (r : R fr pn pv tmp tv sl σ H) (d4 : ND P w H4 a kvs') (e4 : ∀ c, c ≠ a → H4 c = H c) :
    R fr pn pv tmp tv (sl.set i (some (ndT P w kvs'))) σ H4 := by
  obtain ⟨v', ev', r1⟩ := r.take hs
  cases Option.some.inj (Option.some.inj (ev.symm.trans ev'))
  obtain ⟨Z, f, z⟩ := r1.top
  obtain ⟨d, ed, D, _⟩ := z.ndict
  cases ed
  obtain ⟨es0, h0, _⟩ := id D
  obtain ⟨es, h4, hk, hv⟩ := id d4
  have e : H4 = upd H a (NdO P w a es) := by
    funext c
    by_cases hc : c = a
    · subst hc
      rw [upd_same, h4]
    · rw [upd_ne hc, e4 c hc]
  subst e
  have r2 := r1.rewrite (t' := ndT P w kvs') (o := NdO P w a es) h0 rfl (fun Z f z => by
    obtain ⟨d, ed, _, ef⟩ := z.ndict
    cases ed
    exact ef) fun Z Z' H' z eo hz eH => by
      subst eH
      exact rep_ndict d4
  have hlen : i < sl.length := (List.getElem?_eq_some_iff.mp hs).1
  have r3 := r2.give (i := i) (by rw [List.getElem?_set_self hlen]) ev
  rw [List.set_set] at r3
  exact r3
theorem we_nsetd (h0 : ∃ kvs, sl[i]? = some (some (ndT P w kvs))) (h : WE fr pn tmp sl ty fun t2 sl1 => WE fr pn (t2 :: tmp) sl1 tx fun t sl2 => ∃ kvs k v, sl2[i]? = some (some (ndT P w kvs)) ∧ keyAt t2 k ∧ t = litV v ∧ isLitV v = true ∧ kvs.length < sizeLine ∧
    (∀ v0, valV kvs k = some v0 → isLitV v0 = true ∧ KE (litV v0) sl2) ∧ (valV kvs k = none → KE t (sl2.set i (some (ndT P w (putK kvs k v)))))) : WE fr pn tmp sl (tNSetd P w (tVar i) ty tx) KE := fun pv us σ H Q r q => by
  obtain ⟨kvs0, h0⟩ := h0
  obtain ⟨v0, Z0, f0, ev, z0⟩ := r.slot h0
  obtain ⟨a, rfl, D0, _⟩ := z0.ndict
  refine ⟨.ref a, ev, a, kvs0, rfl, D0, h pv us σ H _ r fun t2 sl1 x H1 k1 r1 => k1 pv (x :: us) σ H1 _ r1 fun t sl2 v H2 ⟨kvs, k, v2, e1, e2, e3, e4, e5, k3, k4⟩ r2 => ?_⟩
  obtain ⟨Z, f, z⟩ := r2.pop.top
  obtain ⟨nk, b, rfl⟩ := e2.nk z
  subst e3
  obtain ⟨Z1, f1, z1⟩ := r2.top
  obtain rfl := litV_of e4 z1
  obtain ⟨v', Z', f', ev', z'⟩ := r2.slot e1
  cases Option.some.inj (Option.some.inj (ev.symm.trans ev'))
  obtain ⟨d, ed, DD, _⟩ := z'.ndict
  cases ed
  refine ⟨b, kvs, k, rfl, DD, nk, e2.2.2, e5, fun v0 hv => ?_, fun hn H4 d4 e4' => ?_⟩
  · obtain ⟨l0, k0⟩ := k3 v0 hv
    exact q _ sl2 _ H2 k0 (r2.pop.pop.lit (lit_litV l0))
  · exact q _ _ _ H4 (k4 hn) ((r2.pop.pop.ndPut e1 ev d4 e4').lit (lit_litV e4))
theorem NKs.reps {H : Hp} : ∀ {ks : List NestedKey} {vs : List V}, NKs H ks vs → ∀ Z, Reps Z H (kTs ks) vs [] := fun {ks vs} h Z => NKs.rep ks vs h
theorem NKs.lens {H : Hp} : ∀ {ks : List NestedKey} {vs : List V}, NKs H ks vs → vs.length = (kTs ks).length
  | _, _, .nil => rfl
  | _, _, .cons a r => by unfold kTs; rw [List.length_cons, List.length_cons, r.lens]
end
end Rs
namespace Rs
open PySem L2 PySem.Spec PyProof.Rows
section
variable {X : Cx} {o i e value : Expr} {pos pos' tpos : Pos} {td ty tv : TE} {P : Program} {w : World}
theorem pe_ngetP (hP : X.prog = P) (hw : X.w = w) (hu : X.A.units + 64 < cLine) (ho : PE X o td) (hi : PE X i ty) (hs : NoSl i) : PE X (.Subscript o i pos) (tNGet P w td ty) := by
  subst hP
  subst hw
  exact pe_nget hu ho hi hs
end
end Rs
set_option maxHeartbeats 4000000
namespace Rs
open PySem L2 PySem.Spec PyProof.Rows
section
variable {fr : Fr} {pn : List Nat} {tmp : List T} {sl : Sl} {KE : T → Sl → Prop} {K : KS} {td ty tv te tx : TE} {i j : Nat} {Kf : PySem.W.Frag} {P : Program} {w : World}
theorem NKs.app {H : Hp} : ∀ {as bs : List NestedKey} {vs us : List V}, NKs H as vs → NKs H bs us → NKs H (as ++ bs) (vs ++ us)
  | _, _, _, _, .nil, h => h
  | _, _, _, _, .cons a r, h => .cons a (r.app h)
end
theorem putK_new {kvs : List (NestedKey × V)} {k : NestedKey} {v : V} (h : valV kvs k = none) : putK kvs k v = kvs ++ [(k, v)] := by
  have e : (kvs.any fun kv => decide (kv.1 = k)) = false := by
    rw [valV_any, h]
    rfl
  unfold putK
  rw [e, if_neg Bool.false_ne_true]
end Rs
set_option maxHeartbeats 4000000
namespace Rs
open PySem L2 PySem.Spec PyProof.Rows
end Rs
set_option maxHeartbeats 4000000
namespace Rs
open PySem L2 PySem.Spec PyProof.Rows
end Rs
set_option maxHeartbeats 4000000
namespace Rs
open PySem L2 PySem.Spec PyProof.Rows
section
variable {fr : Fr} {pn : List Nat} {tmp ts : List T} {sl : Sl} {KE : T → Sl → Prop} {K : KS} {args : TA} {te th ty : TE} {tt : TT} {g : TG} {js : List Nat} {i : Nat} {Kf : PySem.W.Frag}
theorem Reps.takeN {Z : Addr → Prop} {H : Hp} : ∀ {xs : List T} {vs : List V} (n : Nat), Reps Z H xs vs [] → Reps Z H (xs.take n) (vs.take n) []
  | [], vs, n, h => by
    unfold Reps at h
    rw [h.1, List.take_nil, List.take_nil]
    unfold Reps
    exact ⟨rfl, rfl⟩
  | x :: xs, vs, 0, h => by
    rw [List.take_zero, List.take_zero]
    unfold Reps
    exact ⟨rfl, rfl⟩
  | x :: xs, vs, n + 1, h => by
    unfold Reps at h
    obtain ⟨v, vs', f1, f2, e1, e2, a, b⟩ := h
    obtain ⟨h1, h2⟩ := List.append_eq_nil_iff.mp e2.symm
    subst h1
    subst h2
    subst e1
    rw [List.take_succ_cons, List.take_succ_cons]
    unfold Reps
    exact ⟨v, _, [], [], rfl, rfl, a, b.takeN n⟩
theorem RepK.fp0 {Z : Addr → Prop} {H : Hp} {kvs : List (Key × T)} {ws : List (Key × V)} {f : List Addr} (h : RepK Z H kvs ws f) (hs : stillK kvs = true) : f = [] := h.still hs
theorem we_lcKeys {kvs : List (Key × T)} (hg : GOwn g js) (h : sl[i]? = some (some (.dk true kvs))) (hst : stillK kvs = true) (hjs : ∀ j ∈ js, j ∉ i :: pn)
    (hw : ∀ od ws, ∃ Iv : Nat → List T → Sl → Prop, Iv 0 [] (hideT (sl.set i (some (.lk od ws kvs))) js) ∧ (∀ j acc sl', Iv j acc sl' → sl'[i]? = some (some (.lk od ws kvs))) ∧
      (∀ j acc sl', j < kvs.length → Iv j acc sl' → acc.length < sizeLine ∧ WG fr (i :: pn) (.lst true acc :: tmp) sl' g ((kvs.map fun p => keyT p.1).getD j .non) fun sl2 => WT fr (i :: pn) (.lst true acc :: tmp) sl2 tt fun b sl3 =>
        if b = true then WE fr (i :: pn) (.lst true acc :: tmp) sl3 te fun y sl4 => Iv (j + 1) (acc ++ [y]) (hideT sl4 js) else Iv (j + 1) acc (hideT sl3 js)) ∧
      ∀ acc sl', Iv kvs.length acc sl' → KE (.lst true acc) (sl'.set i (some (.dk true kvs)))) : WE fr pn tmp sl (tLockE (tLc (iKeys (tVar i)) g tt te js)) KE := fun pv tv σ H Q r q => by
  obtain ⟨v, ev, r1⟩ := r.take h
  obtain ⟨f1, f2, rf⟩ := id r1
  have hh := rf.hands
  unfold Reps at hh
  obtain ⟨v', vs', g1, g2, e1, e2, z, b⟩ := hh
  cases e1
  unfold Rep at z
  obtain ⟨a, ws, fp', q1, q2, q3, q4⟩ := z
  have := q3.fp0 hst
  subst this
  subst q1
  have hlen : i < sl.length := (List.getElem?_eq_some_iff.mp h).1
  refine ⟨a, .dK ws, q2, trivial, fun od => ?_⟩
  obtain ⟨Iv, i0, il, is, ie⟩ := hw od ws
  have rl : R fr pn pv (.lk od ws kvs :: tmp) (.ref a :: tv) (sl.set i none) σ (upd H a (.frz od (.dK ws))) := by
    refine R.rewrite r1 q2 rfl (fun Z f z => ?_) fun Z Z' H' z hH hz eH => ?_
    · unfold Rep at z
      obtain ⟨a', ws', f', y1, y2, y3, y4⟩ := z
      cases y1
      rw [y3.fp0 hst, if_pos rfl] at y4
      exact y4
    · unfold Rep at z ⊢
      obtain ⟨a', ws', f', y1, y2, y3, y4⟩ := z
      cases y1
      rw [q2] at y2
      cases y2
      have := y3.fp0 hst
      subst this
      refine ⟨a, [], rfl, hH, ?_, rfl⟩
      rw [eH]
      exact y3.go _ _ _ (go_put q2 rfl hz List.not_mem_nil)
  have rs : R fr pn pv tmp tv (sl.set i (some (.lk od ws kvs))) σ (upd H a (.frz od (.dK ws))) := by
    have := rl.give (i := i) (by rw [List.getElem?_set_self hlen]) ev
    rw [List.set_set] at this
    exact this
  have hg2 : ∀ k, (some i : Option Nat) = some k → ∃ v, [V.ref a] = [v] ∧ σ[k]? = some (some v) := fun k e => by
    cases e
    exact ⟨_, rfl, ev⟩
  have rp : R fr (i :: pn) (fun j => if (some i : Option Nat) = some j then (V.ref a) else pv j) tmp tv (sl.set i (some (.lk od ws kvs))) σ (upd H a (.frz od (.dK ws))) := R.pin (gv := some i) (hv := [.ref a]) rs hg2
  have p0 : ∀ j ∈ pn, σ[j]? = some (some (pv j)) := rf.pins
  refine ⟨.ref a, ev, a, od, rfl, .inl ⟨ws, upd_same, ?_⟩⟩
  intro D hD
  have r2 := rp.hide hjs
  have r3 : R fr (i :: pn) (fun j => if (some i : Option Nat) = some j then (V.ref a) else pv j) (.lst true [] :: tmp) (.ref D :: tv) (hideT (sl.set i (some (.lk od ws kvs))) js) (wipe σ js) (upd (upd H a (.frz od (.dK ws))) D (.lst [])) := R.mkLst (ts := []) (vs := []) r2 rfl hD
  have wl : ws.length = kvs.length := q3.len
  have here : ∀ {j : Nat} {acc : List T} {sl' : Sl} {H' : Hp} {hs : List T} {hv : List V}, Iv j acc sl' → R fr (i :: pn) (fun j => if (some i : Option Nat) = some j then (V.ref a) else pv j) hs hv sl' (wipe σ js) H' → H' a = some (.frz od (.dK ws)) := fun iv rr => by
    obtain ⟨v2, Z, f, ev2, zz⟩ := rr.slot (il _ _ _ iv)
    have ev3 : (wipe σ js)[i]? = some (some (V.ref a)) := by
      obtain ⟨y1, y2, yy⟩ := rr
      rw [yy.pins i List.mem_cons_self]
      simp
    cases Option.some.inj (Option.some.inj (ev2.symm.trans ev3))
    unfold Rep at zz
    obtain ⟨a2, f', w1, w2, _⟩ := zz
    cases w1
    exact w2
  refine ⟨fun j m H' => m = kvs.length - j ∧ j ≤ kvs.length ∧ ∃ acc sl', Iv j acc sl' ∧ R fr (i :: pn) (fun j => if (some i : Option Nat) = some j then (V.ref a) else pv j) (.lst true acc :: tmp) (.ref D :: tv) sl' (wipe σ js) H', ⟨kvs.length, by simp, Nat.zero_le _, [], _, i0, r3⟩, ?_⟩
  rintro j m H' ⟨rfl, him, acc, sl', iv, r'⟩
  have lk := here iv r'
  by_cases hlt : j < kvs.length
  · obtain ⟨hz, kg⟩ := is j acc sl' hlt iv
    refine .inr ⟨⟨lk, by omega⟩, fun H' => ∃ acc sl', Iv (j + 1) acc sl' ∧ R fr (i :: pn) (fun j => if (some i : Option Nat) = some j then (V.ref a) else pv j) (.lst true acc :: tmp) (.ref D :: tv) sl' (wipe σ js) H', fun H' z => ⟨kvs.length - (j + 1), by omega, rfl, hlt, z⟩, fun x H2 hy => ?_⟩
    obtain ⟨rfl, k, u, hk, rfl⟩ := (walk_keys (kvs := ws)).yields j _ x H2 (by omega) lk hy
    have ek : (kvs.map fun p => keyT p.1).getD j .non = keyT k := by
      have h1 := q3.keys
      have h2 : (ws.map (·.1))[j]? = some k := by rw [List.getElem?_map, hk]; rfl
      rw [h1, List.getElem?_map] at h2
      obtain ⟨p, hp, e⟩ := Option.map_eq_some_iff.mp h2
      rw [List.getD_eq_getElem?_getD, List.getElem?_map, hp]
      show keyT p.1 = keyT k
      rw [e]
    rw [ek] at kg
    refine hg _ σ _ _ (kg _ _ _ _ _ _ (r'.lit (keyT_lit k)) fun sl2 σ2 H3 k r5 hw => ?_)
    refine k _ _ σ2 H3 _ r5 fun b sl3 H4 kb r6 => ?_
    cases b with
    | true =>
      rw [if_pos rfl] at kb ⊢
      refine kb _ _ σ2 H4 _ r6 fun y sl4 u H5 ky r7 => ?_
      have r8 : R fr (i :: pn) _ (.lst true acc :: y :: tmp) (.ref D :: u :: tv) sl4 σ2 H5 := R.rot (ts := [y]) (vs := [u]) r7 rfl
      obtain ⟨a', vs, e1, e2, e3, r9⟩ := r8.item
      cases e1
      refine ⟨vs, e2, by rw [e3]; exact hz, acc ++ [y], hideT sl4 js, ky, ?_⟩
      rw [← hw]
      exact r9.hide hjs
    | false =>
      rw [if_neg Bool.false_ne_true] at kb ⊢
      refine ⟨acc, hideT sl3 js, kb, ?_⟩
      rw [← hw]
      exact r6.hide hjs
  · have e : j = kvs.length := by omega
    subst e
    have pw : ∀ j ∈ i :: pn, σ[j]? = some (some ((fun j => if (some i : Option Nat) = some j then (V.ref a) else pv j) j)) := by
      obtain ⟨f1, f2, rr⟩ := rp
      exact rr.pins
    have r5 := r'.unwipe pw
    refine .inl ⟨by rw [← wl]; exact (walk_keys (kvs := ws)).stops _ lk, lk, ?_⟩
    obtain ⟨v2, ev2, r6⟩ := r5.take (il _ _ _ iv)
    have ev3 := pw i List.mem_cons_self
    rw [ev2] at ev3
    have ev4 : v2 = .ref a := by
      have := Option.some.inj (Option.some.inj ev3)
      simpa using this
    subst ev4
    have r7 : R fr (i :: pn) (fun j => if (some i : Option Nat) = some j then (V.ref a) else pv j) (.dk true kvs :: .lst true acc :: tmp) (.ref a :: .ref D :: tv) (sl'.set i none) σ (upd H' a (.dK ws)) := by
      refine R.rewrite r6 lk rfl (fun Z f z => ?_) fun Z Z' H' z hH hz eH => ?_
      · unfold Rep at z
        obtain ⟨a', f', y1, y2, y3, y4⟩ := z
        cases y1
        rw [y3.fp0 hst] at y4
        exact y4
      · unfold Rep at z ⊢
        obtain ⟨a', f', y1, y2, y3, y4⟩ := z
        cases y1
        have := y3.fp0 hst
        subst this
        refine ⟨a, ws, [], rfl, hH, ?_, by rw [if_pos rfl]⟩
        rw [eH]
        exact y3.go _ _ _ (go_put lk rfl hz List.not_mem_nil)
    have hl2 : i < sl'.length := (List.getElem?_eq_some_iff.mp (il _ _ _ iv)).1
    have r8 := r7.give (i := i) (by rw [List.getElem?_set_self hl2]) ev2
    rw [List.set_set] at r8
    exact q _ _ _ _ (ie acc sl' iv) (R.unpin (gv := some i) (hv := [.ref a]) (σ0 := σ) r8 hg2 p0)
end
end Rs
set_option maxHeartbeats 4000000
namespace Rs
open PySem L2 PySem.Spec PyProof.Rows
local macro_rules | `(tactic| walk_at "dv nm") => `(tactic| dsimp only [List.set_cons_succ, List.set_cons_zero, hideT])
local macro_rules | `(tactic| walk_at "dv st") => `(tactic| first | rfl | exact kT_still _ | assumption)
local macro_rules | `(tactic| walk_at "dv 1") => `(tactic| first | (with_reducible (first | refine ws_seq ?_ | refine ws_asg ?_ | refine ws_ret ?_ | refine ws_drop ?_ | refine ws_if ?_ | refine ws_next ?_ | refine we_int ?_ | refine we_str ?_ | refine we_bl ?_ | refine we_non ?_ | refine we_tup ?_ | refine we_lst ?_ | refine wa_cons ?_ | refine wa_nil ?_ | refine wo_cons ?_ | refine wo_nil ?_ | refine wt_test ?_ | refine wt_B ?_ | refine wt_not ?_ | refine wt_and ?_ | refine wt_or ?_ | refine we_if ?_ | refine we_notV ?_ | refine we_andV ?_ | refine we_orV ?_ | refine we_dnew ?_ | refine wb_var ⟨_, rfl⟩ ?_)) | ((with_reducible refine' wg_name ?h1 ?h2 ?_); (case h1 => exact Nat.le_of_ble_eq_true rfl); (case h2 => decide); (walk_at "dv nm")) | ((with_reducible refine' we_var ?h ?s ?_); (case' h => rfl); (case s => walk_at "dv st")) | ((with_reducible refine' size_and ?sz ?_); (case sz => rw [sizeLine_eq]; exact Nat.le_of_ble_eq_true rfl)) | (with_reducible refine wb_of ?_))
local macro_rules | `(tactic| walk_at "dv") => `(tactic| repeat (walk_at "dv 1"))
def setH (h : Homes) (l : Str) (n : Nat) : Homes := if (h.any fun p => decide (p.1 = l)) = true then h.map fun p => if p.1 = l then (p.1, n) else p else h ++ [(l, n)]
theorem setH_names (h : Homes) (l : Str) (n : Nat) : (setH h l n).map (·.1) = if l ∈ h.map (·.1) then h.map (·.1) else h.map (·.1) ++ [l] := by
  have e1 : (h.any fun p => decide (p.1 = l)) = true ↔ l ∈ h.map (·.1) := by
    rw [List.any_eq_true, List.mem_map]
    exact ⟨fun ⟨p, hp, e⟩ => ⟨p, hp, by simpa using e⟩, fun ⟨p, hp, e⟩ => ⟨p, hp, by simpa using e⟩⟩
  unfold setH
  by_cases e : l ∈ h.map (·.1)
  · rw [if_pos (e1.mpr e), if_pos e, List.map_map]
    refine List.map_congr_left fun p _ => ?_
    show (if p.1 = l then (p.1, n) else p).1 = p.1
    split <;> rfl
  · rw [if_neg (fun z => e (e1.mp z)), if_neg e, List.map_append]
    rfl
theorem setH_ok {N M : Nat} {h : Homes} {l : Str} {n : Nat} (o : HomesOk N h) (hNM : N ≤ M) (hn : n < M) : HomesOk M (setH h l n) := by
  refine ⟨?_, fun p hp => ?_⟩
  · rw [setH_names]
    split
    · exact o.nd
    · rename_i e
      exact List.nodup_append.mpr ⟨o.nd, by simp, fun a ha b hb e2 => e (by rw [List.mem_singleton] at hb; rw [← hb, ← e2]; exact ha)⟩
  · unfold setH at hp
    split at hp
    · obtain ⟨q, hq, e⟩ := List.mem_map.mp hp
      split at e
      · rw [← e]; exact hn
      · rw [← e]; exact Nat.lt_of_lt_of_le (o.lt q hq) hNM
    · rcases List.mem_append.mp hp with hp | hp
      · exact Nat.lt_of_lt_of_le (o.lt p hp) hNM
      · rw [List.mem_singleton] at hp
        rw [hp]
        exact hn
section
variable {P : Program} {w : World} {K : PySem.W.Frag} {mg : Str → Option Value} {base : Heap} {C CN : Addr}
def opNew (rows : List NestedKey) (pl : Homes) (l o : Str) (ps : List Str) : NestedKey := canonK (addK rows (opR o (ps.map (homeOf pl)))) (setH pl l (rows.idxOf (opR o (ps.map (homeOf pl)))))
def sameNew (rows : List NestedKey) (pl : Homes) (l m : Str) : NestedKey := canonK rows (setH pl l (homeOf pl m))
theorem addK_len (L : List NestedKey) (k : NestedKey) : (addK L k).length ≤ L.length + 1 ∧ L.length ≤ (addK L k).length := by unfold addK; split <;> simp
theorem addK_idx (L : List NestedKey) (k : NestedKey) : L.idxOf k < (addK L k).length := by
  unfold addK
  split
  · rename_i h; exact List.idxOf_lt_length_of_mem h
  · rename_i h; rw [List.idxOf_eq_length h, List.length_append]; simp
theorem addK_rows {L : List NestedKey} {k : NestedKey} (h : RowsAt L) (hk : RowAt L.length k) : RowsAt (addK L k) := by
  unfold addK
  split
  · exact h
  · intro i x hx
    by_cases hi : i < L.length
    · rw [List.getElem?_append_left hi] at hx
      exact h i x hx
    · rw [List.getElem?_append_right (by omega)] at hx
      have hi' : i - L.length = 0 := by
        cases e : i - L.length with
        | zero => rfl
        | succ n => rw [e] at hx; cases hx
      rw [hi'] at hx
      cases hx
      rw [show i = L.length by omega]
      exact hk
theorem rowAt_op {N : Nat} {o : Str} {ps : List Nat} (h : ∀ p ∈ ps, p < N) (h10 : ps.length ≤ 10) : RowAt N (opR o ps) := .inr ⟨o, ps.map fun p : Nat => (p : Int), opR_nums o ps, by rw [List.length_map]; exact h10, fun n hn => by
  obtain ⟨p, hp, e⟩ := List.mem_map.mp hn
  have := h p hp
  rw [← e]
  exact ⟨Int.natCast_nonneg p, Int.ofNat_lt.mpr this⟩⟩
end
end Rs
set_option maxHeartbeats 4000000
namespace Rs
open PySem L2 PySem.Spec PyProof.Rows
end Rs
set_option maxHeartbeats 4000000
namespace Rs
open PySem L2 PySem.Spec PyProof.Rows
inductive F2 {α β : Type} (R : α → β → Prop) : List α → List β → Prop where
  | nil : F2 R [] []
  | cons {a : α} {b : β} {as : List α} {bs : List β} : R a b → F2 R as bs → F2 R (a :: as) (b :: bs)
theorem F2.imp {α β : Type} {R S : α → β → Prop} (h : ∀ a b, R a b → S a b) : ∀ {as : List α} {bs : List β}, F2 R as bs → F2 S as bs
  | _, _, .nil => .nil
  | _, _, .cons a r => .cons (h _ _ a) (r.imp h)
theorem F2.len {α β : Type} {R : α → β → Prop} : ∀ {as : List α} {bs : List β}, F2 R as bs → as.length = bs.length
  | _, _, .nil => rfl
  | _, _, .cons _ r => by rw [List.length_cons, List.length_cons, r.len]
theorem F2.app {α β : Type} {R : α → β → Prop} : ∀ {as : List α} {bs : List β} {cs : List α} {ds : List β}, F2 R as bs → F2 R cs ds → F2 R (as ++ cs) (bs ++ ds)
  | _, _, _, _, .nil, h => h
  | _, _, _, _, .cons a r, h => .cons a (r.app h)
theorem F2.at' {α β : Type} {R : α → β → Prop} : ∀ {as : List α} {bs : List β} {i : Nat} {a : α}, F2 R as bs → as[i]? = some a → ∃ b, bs[i]? = some b ∧ R a b
  | _, _, _, _, .nil, h => by simp at h
  | _, _, 0, _, .cons a r, h => by
    cases (Option.some.inj h)
    exact ⟨_, rfl, a⟩
  | _, _, i + 1, _, .cons _ r, h => r.at' (i := i) h
theorem F2.mem {α β : Type} {R : α → β → Prop} : ∀ {as : List α} {bs : List β} {a : α}, F2 R as bs → a ∈ as → ∃ b ∈ bs, R a b
  | _, _, _, .nil, h => (List.not_mem_nil h).elim
  | _, _, _, .cons a r, h => by
    rcases List.mem_cons.mp h with rfl | h
    · exact ⟨_, List.mem_cons_self, a⟩
    · obtain ⟨b, hb, x⟩ := r.mem h
      exact ⟨b, List.mem_cons_of_mem _ hb, x⟩
structure BiInj (R : Nat → Nat → Prop) : Prop where
  f : ∀ {a b b'}, R a b → R a b' → b = b'
  b : ∀ {a a' b}, R a b → R a' b → a = a'
theorem F2.uniq {R : Nat → Nat → Prop} (h : BiInj R) : ∀ {as bs cs : List Nat}, F2 R as bs → F2 R as cs → bs = cs
  | _, _, _, .nil, .nil => rfl
  | _, _, _, .cons a r, .cons b s => by rw [h.f a b, r.uniq h s]
theorem F2.uniq' {R : Nat → Nat → Prop} (h : BiInj R) : ∀ {as bs cs : List Nat}, F2 R as cs → F2 R bs cs → as = bs
  | _, _, _, .nil, .nil => rfl
  | _, _, _, .cons a r, .cons b s => by rw [h.b a b, r.uniq' h s]
abbrev PR (R : Nat → Nat → Prop) (p q : Nat × Nat) : Prop := R p.1 q.1 ∧ p.2 = q.2
def SR (R : Nat → Nat → Prop) (s1 s2 : LS) : Prop := s1.1 = s2.1 ∧ F2 (PR R) s1.2 s2.2
section
variable {R : Nat → Nat → Prop} {s1 s2 : LS} {a b : Nat}
theorem look_sim (h : BiInj R) (hr : R a b) : ∀ {l m : List (Nat × Nat)}, F2 (PR R) l m → l.lookup a = m.lookup b
  | _, _, .nil => rfl
  | _, _, .cons (a := p) (b := q) x r => by
    rw [List.lookup_cons, List.lookup_cons]
    by_cases e : a = p.1
    · have e2 : b = q.1 := h.f hr (by rw [e]; exact x.1)
      rw [show (a == p.1) = true by simpa using e, show (b == q.1) = true by simpa using e2, x.2]
    · have e2 : ¬ b = q.1 := fun z => e (h.b hr (by rw [z]; exact x.1))
      rw [show (a == p.1) = false by simpa using e, show (b == q.1) = false by simpa using e2]
      exact look_sim h hr r
theorem SR.seen (h : BiInj R) (s : SR R s1 s2) (hr : R a b) : seen s1 a = seen s2 b := by unfold Rs.seen; rw [look_sim h hr s.2]
theorem SR.at' (h : BiInj R) (s : SR R s1 s2) (hr : R a b) : atOf s1 a = atOf s2 b := by unfold atOf; rw [look_sim h hr s.2]
theorem SR.ats (h : BiInj R) (s : SR R s1 s2) : ∀ {as bs : List Nat}, F2 R as bs → as.map (atOf s1) = bs.map (atOf s2)
  | _, _, .nil => rfl
  | _, _, .cons a r => by rw [List.map_cons, List.map_cons, s.at' h a, s.ats h r]
theorem SR.add (s : SR R s1 s2) (hr : R a b) (r : NestedKey) : SR R (addR s1 a r) (addR s2 b r) := by
  refine ⟨?_, ?_⟩
  · show s1.1 ++ [r] = s2.1 ++ [r]
    rw [s.1]
  · show F2 (PR R) (s1.2 ++ [(a, s1.1.length)]) (s2.2 ++ [(b, s2.1.length)])
    exact s.2.app (.cons ⟨hr, by rw [s.1]⟩ .nil)
def KS2 (R : Nat → Nat → Prop) (k1 k2 : Kind) (a b : Nat) : Prop := (k1 a = none ∧ k2 b = none) ∨ ∃ o ps qs, k1 a = some (o, ps) ∧ k2 b = some (o, qs) ∧ F2 R ps qs
theorem lay_sim (h : BiInj R) {k1 k2 : Kind} {l1 l2 : Nat → Option Str} (d1 : Down k1) (d2 : Down k2) (hk : ∀ a b, R a b → KS2 R k1 k2 a b) (hl : ∀ a b, R a b → l1 a = l2 b) :
    ∀ (f g a b : Nat) (s1 s2 : LS), R a b → a < f → b < g → SR R s1 s2 → SR R (lay k1 l1 f a s1) (lay k2 l2 g b s2)
  | 0, _, _, _, _, _, _, h, _, _ => absurd h (Nat.not_lt_zero _)
  | _ + 1, 0, _, _, _, _, _, _, h, _ => absurd h (Nat.not_lt_zero _)
  | f + 1, g + 1, a, b, s1, s2, hr, ha, hb, s => by
    unfold lay
    rw [s.seen h hr]
    by_cases hs : seen s2 b = true
    · rw [if_pos hs, if_pos hs]
      exact s
    · rw [if_neg hs, if_neg hs]
      rcases hk a b hr with ⟨e1, e2⟩ | ⟨o, ps, qs, e1, e2, hp⟩
      · rw [e1, e2]
        show SR R (addR s1 a (letR ((l1 a).getD ⟨#[]⟩))) (addR s2 b (letR ((l2 b).getD ⟨#[]⟩)))
        rw [hl a b hr]
        exact s.add hr _
      · rw [e1, e2]
        have fold : ∀ (ps qs : List Nat) (s1 s2 : LS), F2 R ps qs → (∀ p ∈ ps, p < f) → (∀ q ∈ qs, q < g) → SR R s1 s2 → SR R (ps.foldl (fun st p => lay k1 l1 f p st) s1) (qs.foldl (fun st p => lay k2 l2 g p st) s2) := fun ps => by
          induction ps with
          | nil =>
            intro qs s1 s2 hpq _ _ s
            cases hpq
            exact s
          | cons p ps ih =>
            intro qs s1 s2 hpq h1 h2 s
            cases hpq with
            | @cons _ q _ qs x r =>
              rw [List.foldl_cons, List.foldl_cons]
              exact ih qs _ _ r (fun q hq => h1 q (List.mem_cons_of_mem _ hq)) (fun q hq => h2 q (List.mem_cons_of_mem _ hq)) (lay_sim h d1 d2 hk hl f g _ _ _ _ x (h1 _ List.mem_cons_self) (h2 _ List.mem_cons_self) s)
        have s' := fold ps qs s1 s2 hp (fun p hp => by have := d1 a o ps e1 p hp; omega) (fun q hq => by have := d2 b o qs e2 q hq; omega) s
        show SR R (addR _ a (opR o (ps.map (atOf _)))) (addR _ b (opR o (qs.map (atOf _))))
        rw [s'.ats h hp]
        exact s'.add hr _
end
structure Sim (L1 : List NestedKey) (h1 : Homes) (L2 : List NestedKey) (h2 : Homes) (R : Nat → Nat → Prop) : Prop where
  bi : BiInj R
  names : (h1.map (·.1)).Perm (h2.map (·.1))
  home : ∀ l ∈ h1.map (·.1), R (homeOf h1 l) (homeOf h2 l)
  kind : ∀ a b, R a b → KS2 R (kindH L1 h1) (kindH L2 h2) a b
section
variable {L1 L2 : List NestedKey} {h1 h2 : Homes} {R : Nat → Nat → Prop}
theorem find_congr {α : Type} {p q : α → Bool} : ∀ {l : List α}, (∀ a ∈ l, p a = q a) → l.find? p = l.find? q
  | [], _ => rfl
  | a :: r, h => by
    rw [List.find?_cons, List.find?_cons, h a List.mem_cons_self, find_congr fun x hx => h x (List.mem_cons_of_mem _ hx)]
theorem Sim.lab (s : Sim L1 h1 L2 h2 R) {a b : Nat} (hr : R a b) : labOf h1 a = labOf h2 b := by
  unfold labOf
  rw [← srt_congr s.names]
  refine find_congr fun l hl => ?_
  have := s.home l (mem_srt.mp hl)
  by_cases e : homeOf h1 l = a
  · have e2 : homeOf h2 l = b := s.bi.f this (by rw [e]; exact hr)
    rw [e, e2, beq_self_eq_true, beq_self_eq_true]
  · have e2 : ¬ homeOf h2 l = b := fun z => e (s.bi.b this (by rw [z]; exact hr))
    rw [show (homeOf h1 l == a) = false by simpa using e, show (homeOf h2 l == b) = false by simpa using e2]
theorem Sim.canon (s : Sim L1 h1 L2 h2 R) (r1 : RowsAt L1) (r2 : RowsAt L2) (o1 : HomesOk L1.length h1) (o2 : HomesOk L2.length h2) : canonK L1 h1 = canonK L2 h2 := by
  have main : ∀ (ls : List Str) (s1 s2 : LS), (∀ l ∈ ls, l ∈ h1.map (·.1)) → SR R s1 s2 → SR R (ls.foldl (fun st l => lay (kindH L1 h1) (labOf h1) L1.length (homeOf h1 l) st) s1) (ls.foldl (fun st l => lay (kindH L2 h2) (labOf h2) L2.length (homeOf h2 l) st) s2) := fun ls => by
    induction ls with
    | nil => exact fun _ _ _ s => s
    | cons l r ih =>
      intro s1 s2 hl q
      have hm := hl l List.mem_cons_self
      exact ih _ _ (fun x hx => hl x (List.mem_cons_of_mem _ hx)) (lay_sim s.bi (downH r1 h1) (downH r2 h2) s.kind (fun a b hr => s.lab hr) _ _ _ _ _ _ (s.home l hm) (home_lt o1 hm).1 (home_lt o2 (s.names.mem_iff.mp hm)).1 q)
  have q := main (srt (h1.map (·.1))) ([], []) ([], []) (fun l hl => mem_srt.mp hl) ⟨rfl, .nil⟩
  unfold canonK laidAll bookK
  rw [← srt_congr s.names, q.1]
  congr 4
  refine List.map_congr_left fun l hl => ?_
  rw [q.at' s.bi (s.home l (mem_srt.mp hl))]
def Gd1 (L : List NestedKey) (hm : Homes) (n : Nat) : Bool := (marksB L (hm.map (·.2))).getD n false || decide (n ∈ hm.map (·.2))
theorem mark_op {L : List NestedKey} {hm : Homes} {n : Nat} {o : Str} {ps : List Nat} (hp : ∀ p ∈ ps, p < n) (h : L[n]? = some (opR o ps)) : (marksB L (hm.map (·.2))).getD n false = ps.all (Gd1 L hm) := marks_op hp h
theorem lost {L L' : List NestedKey} {hm hm' : Homes} (rl : RowsAt L') (ext : ∀ i, i < L.length → L'[i]? = L[i]?) (keep : ∀ v ∈ hm'.map (·.2), v < L.length → Gd1 L hm v = true) : ∀ (N n : Nat), n < N → n < L.length → Gd1 L' hm' n = true → Gd1 L hm n = true
  | 0, _, h, _, _ => absurd h (Nat.not_lt_zero _)
  | N + 1, n, hN, hn, h => by
    unfold Gd1 at h
    rw [Bool.or_eq_true, decide_eq_true_iff] at h
    rcases h with h | h
    · have hm0 := (markOk rl (hm'.map (·.2))).2 n h
      obtain ⟨o, ps, e, _, hp⟩ := hm0
      rw [marks_op hp e, List.all_eq_true] at h
      have e' : L[n]? = some (opR o ps) := by rw [← ext n hn, e]
      unfold Gd1
      rw [Bool.or_eq_true]
      refine .inl ?_
      rw [marks_op hp e', List.all_eq_true]
      intro p hpm
      have hlt := hp p hpm
      exact lost rl ext keep N p (by omega) (by omega) (h p hpm)
    · exact keep n h hn
theorem F2.all_eq {p q : Nat → Bool} {S : Nat → Nat → Prop} (h : ∀ a b, S a b → p a = q b) : ∀ {as bs : List Nat}, F2 S as bs → as.all p = bs.all q
  | _, _, .nil => rfl
  | _, _, .cons a r => by rw [List.all_cons, List.all_cons, h _ _ a, r.all_eq h]
theorem F2.and {α β : Type} {R : α → β → Prop} : ∀ {as : List α} {bs : List β}, F2 R as bs → F2 (fun a b => R a b ∧ a ∈ as ∧ b ∈ bs) as bs
  | _, _, .nil => .nil
  | _, _, .cons a r => .cons ⟨a, List.mem_cons_self, List.mem_cons_self⟩ (r.and.imp fun _ _ h => ⟨h.1, List.mem_cons_of_mem _ h.2.1, List.mem_cons_of_mem _ h.2.2⟩)
theorem Sim.step {L1' L2' : List NestedKey} {h1' h2' : Homes} {R' : Nat → Nat → Prop} (s : Sim L1 h1 L2 h2 R) (r1 : RowsAt L1) (r2 : RowsAt L2) (rl1 : RowsAt L1') (rl2 : RowsAt L2') (x1 : ∀ i, i < L1.length → L1'[i]? = L1[i]?) (x2 : ∀ i, i < L2.length → L2'[i]? = L2[i]?)
    (lt : ∀ a b, R a b → a < L1.length ∧ b < L2.length) (bi : BiInj R') (sub : ∀ a b, R a b → R' a b) (names : (h1'.map (·.1)).Perm (h2'.map (·.1))) (o1 : HomesOk L1'.length h1') (o2 : HomesOk L2'.length h2') (home : ∀ l ∈ h1'.map (·.1), R' (homeOf h1' l) (homeOf h2' l))
    (new : ∀ a b, R' a b → R a b ∨ (∃ x y, L1'[a]? = some (.tup [.text "letter", x]) ∧ L2'[b]? = some (.tup [.text "letter", y])) ∨ ∃ o ps qs, L1'[a]? = some (opR o ps) ∧ L2'[b]? = some (opR o qs) ∧ (∀ p ∈ ps, p < a) ∧ (∀ q ∈ qs, q < b) ∧ F2 R' ps qs)
    (k1 : ∀ v ∈ h1'.map (·.2), v < L1.length → Gd1 L1 h1 v = true) (k2 : ∀ v ∈ h2'.map (·.2), v < L2.length → Gd1 L2 h2 v = true) : Sim L1' h1' L2' h2' R' := by
  have labd : ∀ a b, R' a b → decide (a ∈ h1'.map (·.2)) = decide (b ∈ h2'.map (·.2)) := fun a b hr => by
    have e : a ∈ h1'.map (·.2) ↔ b ∈ h2'.map (·.2) := by
      constructor
      · intro h
        obtain ⟨p, hp, e⟩ := List.mem_map.mp h
        have hl : p.1 ∈ h1'.map (·.1) := List.mem_map.mpr ⟨p, hp, rfl⟩
        have := home p.1 hl
        rw [homeOf_mem o1.nd hp, e] at this
        rw [bi.f hr this]
        exact (home_lt o2 (names.mem_iff.mp hl)).2
      · intro h
        obtain ⟨p, hp, e⟩ := List.mem_map.mp h
        have hl : p.1 ∈ h1'.map (·.1) := names.mem_iff.mpr (List.mem_map.mpr ⟨p, hp, rfl⟩)
        have := home p.1 hl
        rw [homeOf_mem o2.nd hp, e] at this
        rw [bi.b hr this]
        exact (home_lt o1 hl).2
    by_cases q : a ∈ h1'.map (·.2)
    · rw [decide_eq_true q, decide_eq_true (e.mp q)]
    · rw [decide_eq_false q, decide_eq_false fun z => q (e.mpr z)]
  -- the kinds, and whether they are made
  have main : ∀ (N a b : Nat), a < N → R' a b → KS2 R' (kindH L1' h1') (kindH L2' h2') a b ∧ Gd1 L1' h1' a = Gd1 L2' h2' b := fun N => by
    induction N with
    | zero => exact fun a b h => absurd h (Nat.not_lt_zero _)
    | succ N ih =>
      intro a b hN hr
      have ops : ∀ (o : Str) (ps qs : List Nat), L1'[a]? = some (opR o ps) → L2'[b]? = some (opR o qs) → (∀ p ∈ ps, p < a) → (∀ q ∈ qs, q < b) → F2 R' ps qs → KS2 R' (kindH L1' h1') (kindH L2' h2') a b ∧ Gd1 L1' h1' a = Gd1 L2' h2' b := fun o ps qs e1 e2 p1 p2 f => by
        have em : (marksB L1' (h1'.map (·.2))).getD a false = (marksB L2' (h2'.map (·.2))).getD b false := by
          rw [mark_op p1 e1, mark_op p2 e2]
          exact f.and.all_eq fun p q ⟨hpq, hp, _⟩ => (ih p q (by have := p1 p hp; omega) hpq).2
        refine ⟨?_, by unfold Gd1; rw [em, labd a b hr]⟩
        cases hm : (marksB L1' (h1'.map (·.2))).getD a false with
        | true => exact .inr ⟨o, ps, qs, kind_op hm e1, kind_op (em ▸ hm) e2, f⟩
        | false => exact .inl ⟨kind_no hm, kind_no (em ▸ hm)⟩
      have nos : (marksB L1' (h1'.map (·.2))).getD a false = false → (marksB L2' (h2'.map (·.2))).getD b false = false → KS2 R' (kindH L1' h1') (kindH L2' h2') a b ∧ Gd1 L1' h1' a = Gd1 L2' h2' b := fun m1 m2 =>
        ⟨.inl ⟨kind_no m1, kind_no m2⟩, by unfold Gd1; rw [m1, m2, labd a b hr]⟩
      rcases new a b hr with h | ⟨x, y, e1, e2⟩ | ⟨o, ps, qs, e1, e2, p1, p2, f⟩
      · obtain ⟨la, lb⟩ := lt a b h
        rcases s.kind a b h with ⟨n1, n2⟩ | ⟨o, ps, qs, e1, e2, f⟩
        · have no : ∀ {L L' : List NestedKey} {hm hm' : Homes} {n : Nat}, RowsAt L → RowsAt L' → (∀ i, i < L.length → L'[i]? = L[i]?) → (∀ v ∈ hm'.map (·.2), v < L.length → Gd1 L hm v = true) → n < L.length → kindH L hm n = none → (marksB L' (hm'.map (·.2))).getD n false = false := fun {L L' hm hm' n} rL rL' ext keep hn hk => by
            cases q : (marksB L' (hm'.map (·.2))).getD n false with
            | false => rfl
            | true =>
              obtain ⟨o, ps, e, _, hp⟩ := (markOk rL' (hm'.map (·.2))).2 n q
              rw [marks_op hp e, List.all_eq_true] at q
              have e' : L[n]? = some (opR o ps) := by rw [← ext n hn, e]
              have mm : (marksB L (hm.map (·.2))).getD n false = true := by
                rw [marks_op hp e', List.all_eq_true]
                intro p hpm
                have hlt := hp p hpm
                exact lost rL' ext keep (p + 1) p (Nat.lt_succ_self _) (by omega) (q p hpm)
              rw [show kindH L hm n = _ from kind_op mm e'] at hk
              cases hk
          exact nos (no r1 rl1 x1 k1 la n1) (no r2 rl2 x2 k2 lb n2)
        · obtain ⟨_, i1, _, p1⟩ := kindH_some r1 e1
          obtain ⟨_, i2, _, p2⟩ := kindH_some r2 e2
          exact ops o ps qs (by rw [x1 a la, i1]) (by rw [x2 b lb, i2]) p1 p2 (f.imp sub)
      · exact nos (marks_letter e1) (marks_letter e2)
      · exact ops o ps qs e1 e2 p1 p2 f
  exact ⟨bi, names, home, fun a b hr => (main (a + 1) a b (Nat.lt_succ_self a) hr).1⟩
end
end Rs
set_option maxHeartbeats 4000000
namespace Rs
open PySem L2 PySem.Spec PyProof.Rows
theorem opR_inj {o o' : Str} {ps qs : List Nat} (h : opR o ps = opR o' qs) : o = o' ∧ ps = qs := by
  unfold opR at h
  injection h with h
  injection h with _ h
  injection h with h1 h
  injection h with h2 _
  injection h1 with h1
  injection h2 with h2
  refine ⟨h1, ?_⟩
  have : ∀ as bs : List Nat, as.map (fun p : Nat => NestedKey.num (p : Int)) = bs.map (fun p : Nat => NestedKey.num (p : Int)) → as = bs := fun as => by
    induction as with
    | nil => intro bs h; cases bs with
      | nil => rfl
      | cons b r => cases h
    | cons a r ih => intro bs h; cases bs with
      | nil => cases h
      | cons b s =>
        rw [List.map_cons, List.map_cons] at h
        injection h with e1 e2
        injection e1 with e1
        rw [ih s e2]
        congr 1
        omega
  exact this _ _ h2
theorem nodup_of {α : Type} {l : List α} (h : ∀ (i j : Nat) (a : α), l[i]? = some a → l[j]? = some a → i = j) : l.Nodup := by
  refine List.pairwise_iff_getElem.mpr fun i j hi hj hij e => ?_
  have := h i j l[i] (List.getElem?_eq_getElem hi) (by rw [e]; exact List.getElem?_eq_getElem hj)
  omega
theorem nodup_at {α : Type} {l : List α} (h : l.Nodup) {i j : Nat} {a : α} (hi : l[i]? = some a) (hj : l[j]? = some a) : i = j := by
  have e1 := List.getElem?_eq_some_iff.mp hi
  have e2 := List.getElem?_eq_some_iff.mp hj
  obtain ⟨l1, e1⟩ := e1
  obtain ⟨l2, e2⟩ := e2
  rcases Nat.lt_trichotomy i j with q | q | q
  · exact absurd (e1.trans e2.symm) (List.pairwise_iff_getElem.mp h i j l1 l2 q)
  · exact q
  · exact absurd (e2.trans e1.symm) (List.pairwise_iff_getElem.mp h j i l2 l1 q)
structure Laid (N : Nat) (kind : Kind) (lab : Nat → Option Str) (st : LS) : Prop where
  inv : LInv N st
  pos : ∀ (i : Nat) (q : Nat × Nat), st.2[i]? = some q → q.2 = i
  row : ∀ (i : Nat) (q : Nat × Nat), st.2[i]? = some q → (kind q.1 = none ∧ ∃ x, lab q.1 = some x ∧ st.1[i]? = some (letR x)) ∨ ∃ o ps, kind q.1 = some (o, ps) ∧ st.1[i]? = some (opR o (ps.map (atOf st))) ∧ ∀ p ∈ ps, seen st p = true ∧ atOf st p < i
section
variable {N : Nat} {kind : Kind} {lab : Nat → Option Str} {st : LS}
theorem look_mem {l : List (Nat × Nat)} {n b : Nat} (h : l.lookup n = some b) : ∃ i : Nat, l[i]? = some (n, b) := by
  induction l with
  | nil => cases h
  | cons p r ih =>
    rw [List.lookup_cons] at h
    by_cases e : n = p.1
    · rw [show (n == p.1) = true by simpa using e] at h
      have h' : some p.2 = some b := h
      refine ⟨0, ?_⟩
      rw [List.getElem?_cons_zero, e, ← Option.some.inj h']
    · rw [show (n == p.1) = false by simpa using e] at h
      obtain ⟨i, q⟩ := ih h
      exact ⟨i + 1, q⟩
theorem Laid.of (h : Laid N kind lab st) {n b : Nat} (e : st.2.lookup n = some b) : st.2[b]? = some (n, b) := by
  obtain ⟨i, q⟩ := look_mem e
  have : b = i := h.pos i _ q
  rw [this] at q ⊢
  exact q
theorem Laid.bi (h : Laid N kind lab st) : BiInj fun a b => st.2.lookup a = some b :=
  ⟨fun {a b b'} e1 e2 => Option.some.inj (e1.symm.trans e2), fun {a a' b} e1 e2 => by
    have := (h.of e1).symm.trans (h.of e2)
    exact congrArg Prod.fst (Option.some.inj this)⟩
theorem seen_at {n : Nat} (h : seen st n = true) : st.2.lookup n = some (atOf st n) := by
  unfold seen at h
  unfold atOf
  cases e : st.2.lookup n with
  | none => rw [e] at h; cases h
  | some b => rfl
theorem Laid.add {n : Nat} {r : NestedKey} (h : Laid N kind lab st) (hn : n < N) (hs : seen st n = false) (hr : (kind n = none ∧ ∃ x, lab n = some x ∧ r = letR x) ∨ ∃ o ps, kind n = some (o, ps) ∧ r = opR o (ps.map (atOf st)) ∧ ∀ p ∈ ps, seen st p = true) : Laid N kind lab (addR st n r) := by
  have e2 : (addR st n r).2 = st.2 ++ [(n, st.1.length)] := rfl
  have e1 : (addR st n r).1 = st.1 ++ [r] := rfl
  have hl := h.inv.len
  have atl : ∀ p, seen st p = true → atOf st p < st.1.length := fun p hp => by
    have := h.of (seen_at hp)
    have := (List.getElem?_eq_some_iff.mp this).1
    omega
  have ats : ∀ ps : List Nat, (∀ p ∈ ps, seen st p = true) → ps.map (atOf (addR st n r)) = ps.map (atOf st) := fun ps hp => List.map_congr_left fun p hpm => atOf_add (hp p hpm)
  refine ⟨h.inv.add hn hs, fun i q hq => ?_, fun i q hq => ?_⟩
  · rw [e2, List.getElem?_append] at hq
    split at hq
    · exact h.pos i q hq
    · rename_i hi
      have := (List.getElem?_eq_some_iff.mp hq).1
      rw [List.length_singleton] at this
      have hi0 : i - st.2.length = 0 := by omega
      rw [hi0] at hq
      cases (Option.some.inj hq)
      show st.1.length = i
      omega
  · rw [e2, List.getElem?_append] at hq
    rw [e1, List.getElem?_append]
    split at hq
    · rename_i hi
      rw [if_pos (by omega)]
      rcases h.row i q hq with ⟨k, x, ex, er⟩ | ⟨o, ps, k, er, hp⟩
      · exact .inl ⟨k, x, ex, er⟩
      · refine .inr ⟨o, ps, k, by rw [ats ps fun p hpm => (hp p hpm).1]; exact er, fun p hpm => ⟨seen_add.mpr (.inl (hp p hpm).1), by rw [atOf_add (hp p hpm).1]; exact (hp p hpm).2⟩⟩
    · rename_i hi
      have := (List.getElem?_eq_some_iff.mp hq).1
      rw [List.length_singleton] at this
      have hi0 : i - st.2.length = 0 := by omega
      rw [hi0] at hq
      cases (Option.some.inj hq)
      rw [if_neg (by omega), show i - st.1.length = 0 by omega]
      rcases hr with ⟨k, x, ex, er⟩ | ⟨o, ps, k, er, hp⟩
      · exact .inl ⟨k, x, ex, by rw [er]; rfl⟩
      · refine .inr ⟨o, ps, k, by rw [ats ps hp, er]; rfl, fun p hpm => ⟨seen_add.mpr (.inl (hp p hpm)), by rw [atOf_add (hp p hpm)]; have := atl p (hp p hpm); omega⟩⟩
end
section
variable {L : List NestedKey} {hm : Homes}
structure Opn (L : List NestedKey) (hm : Homes) (rows : List NestedKey) (pl : Homes) (R : Nat → Nat → Prop) : Prop where
  ra : RowsAt rows
  nd : rows.Nodup
  few : rows.length ≤ L.length
  flat : ∀ b, NestedKey.tup [.text "letter", b] ∈ rows → ∃ s, b = .text s
  ho : HomesOk rows.length pl
  names : pl.map (·.1) = srt (hm.map (·.1))
  sim : Sim L hm rows pl R
  lt : ∀ a b, R a b → a < L.length ∧ b < rows.length
  orig : ∀ k ∈ rows, (∃ x ∈ hm.map (·.1), k = letR x) ∨ ∃ (o : Str) (ps ps' : List Nat) (n : Nat), k = opR o ps ∧ L[n]? = some (opR o ps') ∧ ps.length = ps'.length ∧ ∀ p ∈ ps, p < rows.length
  lets : ∀ (i : Nat) (x : Str), rows[i]? = some (letR x) → x ∈ pl.map (·.1) ∧ homeOf pl x = i
  onto : ∀ b, b < rows.length → ∃ a, R a b
end
end Rs
set_option maxHeartbeats 4000000
namespace Rs
open PySem L2 PySem.Spec PyProof.Rows
local macro_rules | `(tactic| walk_at "dv nm") => `(tactic| dsimp only [List.set_cons_succ, List.set_cons_zero, hideT])
local macro_rules | `(tactic| walk_at "dv st") => `(tactic| first | rfl | exact kT_still _ | assumption)
local macro_rules | `(tactic| walk_at "dv 1") => `(tactic| first | (with_reducible (first | refine ws_seq ?_ | refine ws_asg ?_ | refine ws_ret ?_ | refine ws_drop ?_ | refine ws_if ?_ | refine ws_next ?_ | refine we_int ?_ | refine we_str ?_ | refine we_bl ?_ | refine we_non ?_ | refine we_tup ?_ | refine we_lst ?_ | refine wa_cons ?_ | refine wa_nil ?_ | refine wo_cons ?_ | refine wo_nil ?_ | refine wt_test ?_ | refine wt_B ?_ | refine wt_not ?_ | refine wt_and ?_ | refine wt_or ?_ | refine we_if ?_ | refine we_notV ?_ | refine we_andV ?_ | refine we_orV ?_ | refine we_dnew ?_ | refine wb_var ⟨_, rfl⟩ ?_)) | ((with_reducible refine' wg_name ?h1 ?h2 ?_); (case h1 => exact Nat.le_of_ble_eq_true rfl); (case h2 => decide); (walk_at "dv nm")) | ((with_reducible refine' we_var ?h ?s ?_); (case' h => rfl); (case s => walk_at "dv st")) | ((with_reducible refine' size_and ?sz ?_); (case sz => rw [sizeLine_eq]; exact Nat.le_of_ble_eq_true rfl)) | (with_reducible refine wb_of ?_))
local macro_rules | `(tactic| walk_at "dv") => `(tactic| repeat (walk_at "dv 1"))
end Rs
set_option maxHeartbeats 4000000
namespace Rs
open PySem L2 PySem.Spec PyProof.Rows
local macro_rules | `(tactic| walk_at "dv nm") => `(tactic| dsimp only [List.set_cons_succ, List.set_cons_zero, hideT])
local macro_rules | `(tactic| walk_at "dv st") => `(tactic| first | rfl | exact kT_still _ | assumption)
local macro_rules | `(tactic| walk_at "dv 1") => `(tactic| first | (with_reducible (first | refine ws_seq ?_ | refine ws_asg ?_ | refine ws_ret ?_ | refine ws_drop ?_ | refine ws_if ?_ | refine ws_next ?_ | refine we_int ?_ | refine we_str ?_ | refine we_bl ?_ | refine we_non ?_ | refine we_tup ?_ | refine we_lst ?_ | refine wa_cons ?_ | refine wa_nil ?_ | refine wo_cons ?_ | refine wo_nil ?_ | refine wt_test ?_ | refine wt_B ?_ | refine wt_not ?_ | refine wt_and ?_ | refine wt_or ?_ | refine we_if ?_ | refine we_notV ?_ | refine we_andV ?_ | refine we_orV ?_ | refine we_dnew ?_ | refine wb_var ⟨_, rfl⟩ ?_)) | ((with_reducible refine' wg_name ?h1 ?h2 ?_); (case h1 => exact Nat.le_of_ble_eq_true rfl); (case h2 => decide); (walk_at "dv nm")) | ((with_reducible refine' we_var ?h ?s ?_); (case' h => rfl); (case s => walk_at "dv st")) | ((with_reducible refine' size_and ?sz ?_); (case sz => rw [sizeLine_eq]; exact Nat.le_of_ble_eq_true rfl)) | (with_reducible refine wb_of ?_))
local macro_rules | `(tactic| walk_at "dv") => `(tactic| repeat (walk_at "dv 1"))
end Rs
set_option maxHeartbeats 4000000
namespace Rs
open PySem L2 PySem.Spec PyProof.Rows
def bagR : Hp → V → List Addr → Prop := fun H v fp => ∃ b c, v = .ref b ∧ Bag H b c ∧ fp = [b, c]
def bagT : T := .abs bagR
theorem bag_framed : Framed bagR := by
  refine ⟨fun H H' v fp ⟨b, c, e1, G, e2⟩ ht ho => ?_, fun H v fp ⟨b, c, e1, G, e2⟩ a ha => ?_⟩
  · subst e2
    obtain ⟨cur, seed, ix, ns, h1, p1, p2, h2, p3, p4⟩ := G
    exact ⟨b, c, e1, ⟨cur, seed, ix, ns, ho b (by simp) _ h1, p1, p2, ho c (by simp) _ h2, p3, p4⟩, rfl⟩
  · subst e2
    obtain ⟨cur, seed, ix, ns, h1, p1, p2, h2, p3, p4⟩ := G
    simp only [List.mem_cons, List.not_mem_nil, or_false] at ha
    rcases ha with rfl | rfl
    · exact ⟨_, h1, rfl⟩
    · exact ⟨_, h2, rfl⟩
theorem Rep.bag {Z : Addr → Prop} {H : Hp} {v : V} {f : List Addr} (h : Rep Z H bagT v f) : ∃ b c, v = .ref b ∧ Bag H b c ∧ f = [b, c] := by
  unfold bagT Rep at h
  exact h.2
theorem rep_bag {Z : Addr → Prop} {H : Hp} {b c : Addr} (G : Bag H b c) : Rep Z H bagT (.ref b) [b, c] := by
  unfold bagT Rep
  exact ⟨bag_framed, b, c, rfl, G, rfl⟩
theorem bag_step {Z : Addr → Prop} {H H' : Hp} {ts xs : List T} {vs us : List V} {b c : Addr} {fp : List Addr} (r : Reps Z H (bagT :: ts) (.ref b :: vs) fp) (hb : Bag H b c) (nd : fp.Nodup) (nz : ∀ a ∈ fp, ¬ Z a) (f : Fm [b] H H') (hb' : Bag H' b c) (hx : Reps Z H xs us []) :
    Reps (fun a => a ∉ fp ∧ (Z a ∨ H a = none ∨ a ∈ fp)) H' (xs ++ bagT :: ts) (us ++ .ref b :: vs) fp ∧ fp.Nodup ∧ (∀ a ∈ fp, H a = none ∨ a ∈ fp) ∧ Fm fp H H' := by
  obtain ⟨v, vs', f1, f2, e1, e2, z, r2⟩ := reps2 r
  cases e1
  obtain ⟨b', c', e3, G, e4⟩ := z.bag
  cases e3
  have hcc : c' = c := by
    obtain ⟨_, _, _, _, h1, _⟩ := G
    obtain ⟨_, _, _, _, h2, _⟩ := hb
    rw [h1] at h2
    have := HO.lst.inj (Option.some.inj h2)
    injection this with _ this
    injection this with _ this
    injection this with _ this
    injection this with this _
    exact V.ref.inj this
  subst hcc
  subst e4
  have hbf : b ∈ fp := by rw [e2]; simp
  have hb2 : b ∉ f2 := fun q => by
    rw [e2] at nd
    exact (List.nodup_append.mp nd).2.2 b (by simp) b q rfl
  have tp : Tps H H' := fun a u e hu => f a _ e fun q => by
    rw [List.mem_singleton] at q
    obtain ⟨_, _, _, _, h1, _⟩ := hb
    rw [q, h1] at e
    cases e
    cases hu
  have sh : ∀ a o, Z a → H a = some o → (a ∉ fp ∧ (Z a ∨ H a = none ∨ a ∈ fp)) ∧ H' a = some o := fun a o z e => ⟨⟨fun q => nz a q z, .inl z⟩, f a o e fun q => by
    rw [List.mem_singleton] at q
    rw [q] at z
    exact nz b hbf z⟩
  refine ⟨?_, nd, fun a ha => .inr ha, f.wide fun x hx => by rw [List.mem_singleton] at hx; rw [hx]; exact hbf⟩
  have g : ∀ g, b ∉ g → Go Z (fun a => a ∉ fp ∧ (Z a ∨ H a = none ∨ a ∈ fp)) H H' g := fun g hg => ⟨tp, sh, fun a ha o e => f a o e fun q => by
    rw [List.mem_singleton] at q
    rw [q] at ha
    exact hg ha⟩
  have h1 := hx.go _ _ _ (g [] List.not_mem_nil)
  have h2 : Reps (fun a => a ∉ fp ∧ (Z a ∨ H a = none ∨ a ∈ fp)) H' (bagT :: ts) (.ref b :: vs) fp := by
    unfold Reps
    exact ⟨_, _, [b, c'], f2, rfl, e2, rep_bag hb', r2.go _ _ _ (g f2 hb2)⟩
  have := h1.join h2
  rwa [List.nil_append] at this
def gTake (ts : List T) (K : T → List T → Prop) : Prop := ∃ m : Nat, ts = [bagT, .int (m : Int)] ∧ 0 < m ∧ m < 1000000 ∧ ∀ r : Nat, r < m → K (.int (r : Int)) ts
theorem mono_take : Mono gTake := fun ts K K' hk ⟨m, e, e1, e2, k⟩ => ⟨m, e, e1, e2, fun r hr => hk _ _ (k r hr)⟩
theorem conv_take {vs : List V} {H : Hp} {Q : VK} {E : XK} (h : spT gTake vs H Q E) : spTake vs H Q E := by
  obtain ⟨ts, Z, fp, r, nd, nz, m, e, h0, h1, k⟩ := h
  subst e
  obtain ⟨v, vs', f1, f2, e1, e2, z, r2⟩ := reps2 r
  have e3 := int_eq (ts := []) r2
  obtain ⟨b, c, e4, G, e5⟩ := z.bag
  subst e4
  subst e1
  refine ⟨b, c, m, by rw [e3], by omega, by omega, G, fun n H' n0 n1 G' f => ?_⟩
  obtain ⟨n', rfl⟩ : ∃ n' : Nat, n = (n' : Int) := ⟨n.toNat, by omega⟩
  obtain ⟨a, b', c', d'⟩ := bag_step (xs := [.int (n' : Int)]) (us := [.int (n' : Int)]) r G nd nz f G' (by unfold Reps; exact ⟨_, _, [], [], rfl, rfl, lit_int _, by unfold Reps; exact ⟨rfl, rfl⟩⟩)
  exact k n' (by omega) _ H' fp a b' c' d'
def gSome (ts : List T) (K : T → List T → Prop) : Prop := ∃ (t : T) (xs : List T), ts = [bagT, t] ∧ t.items = some xs ∧ stillA xs = true ∧ xs ≠ [] ∧ xs.length < 1000000 ∧ ∀ x ∈ xs, K x ts
theorem mono_some : Mono gSome := fun ts K K' hk ⟨t, xs, e, e1, e2, e3, e4, k⟩ => ⟨t, xs, e, e1, e2, e3, e4, fun x hx => hk _ _ (k x hx)⟩
theorem items_off {Kf : PySem.W.Frag} {Z : Addr → Prop} {H : Hp} {t : T} {v : V} {f : List Addr} {xs : List T} {b : Addr} {o : HO} (r : Rep Z H t v f) (h : t.items = some xs) (hs : stillA xs = true) (hb : ¬ Z b) (hf : b ∉ f) (ho : H b = some o) (hn : tupOf o = none) :
    ∃ a vs, v = .ref a ∧ a ≠ b ∧ (SqL Kf H a vs ∨ SqT Kf H a vs) ∧ Reps Z H xs vs [] := by
  cases t with
  | lst q ys =>
    cases h
    unfold Rep at r
    obtain ⟨a, vs, fp', q1, q2, q3, q4⟩ := r
    have := Reps.still _ _ _ q3 hs
    subst this
    refine ⟨a, vs, q1, fun z => ?_, .inl (SqL.of q2), q3⟩
    cases q with
    | true =>
      rw [if_pos rfl] at q4
      rw [q4, z] at hf
      exact hf List.mem_cons_self
    | false =>
      rw [if_neg Bool.false_ne_true] at q4
      exact hb (by rw [← z]; exact q4.1)
  | tup ys =>
    cases h
    unfold Rep at r
    obtain ⟨a, vs, q1, q2, q3⟩ := r
    have := Reps.still _ _ _ q3 hs
    subst this
    refine ⟨a, vs, q1, fun z => ?_, .inr (q2.sq), q3⟩
    obtain ⟨u, eu, qu⟩ := q2
    rw [z, ho] at eu
    cases eu
    rw [hn] at qu
    cases qu
  | _ => cases h
theorem Reps.pick {Z : Addr → Prop} {H : Hp} {v : V} : ∀ {xs : List T} {vs : List V}, Reps Z H xs vs [] → v ∈ vs → ∃ x ∈ xs, Rep Z H x v []
  | [], vs, r, hv => by
    unfold Reps at r
    rw [r.1] at hv
    cases hv
  | x :: xs, vs, r, hv => by
    unfold Reps at r
    obtain ⟨u, us, f1, f2, e1, e2, a, b⟩ := r
    obtain ⟨h1, h2⟩ := List.append_eq_nil_iff.mp e2.symm
    subst h1
    subst h2
    rw [e1] at hv
    rcases List.mem_cons.mp hv with h | h
    · rw [h]; exact ⟨x, List.mem_cons_self, a⟩
    · obtain ⟨y, hy, ry⟩ := Reps.pick b h
      exact ⟨y, List.mem_cons_of_mem _ hy, ry⟩
theorem conv_some {Kf : PySem.W.Frag} {vs : List V} {H : Hp} {Q : VK} {E : XK} (h : spT gSome vs H Q E) : spSome Kf vs H Q E := by
  obtain ⟨ts, Z, fp, r, nd, nz, t, xs, e, hi, hs, hne, hl, k⟩ := h
  subst e
  obtain ⟨v, vs', f1, f2, e1, e2, z, r2⟩ := reps2 r
  obtain ⟨u, e3, zu⟩ := reps1 r2
  obtain ⟨b, c, e4, G, e5⟩ := z.bag
  subst e4
  subst e3
  subst e1
  have hbf : b ∈ fp := by rw [e2, e5]; simp
  have hb2 : b ∉ f2 := fun q => by
    rw [e2, e5] at nd
    exact (List.nodup_append.mp nd).2.2 b (by simp) b q rfl
  obtain ⟨cur, seed, ix, ns, h1, _⟩ := id G
  obtain ⟨a, ws, e6, hab, hsq, rx⟩ := items_off (Kf := Kf) zu hi hs (nz b hbf) hb2 h1 rfl
  subst e6
  have hlen := rx.len
  refine ⟨b, c, a, ws, rfl, fun q => hne ?_, by omega, hab, hsq, G, fun v H' hv G' f => ?_⟩
  · rw [q] at hlen
    exact List.length_eq_zero_iff.mp hlen.symm
  · obtain ⟨x, hx, rv⟩ := Reps.pick rx hv
    obtain ⟨a', b', c', d'⟩ := bag_step (xs := [x]) (us := [v]) r G nd nz f G' (by unfold Reps; exact ⟨_, _, [], [], rfl, rfl, rv, by unfold Reps; exact ⟨rfl, rfl⟩⟩)
    exact k x hx _ H' fp a' b' c' d'
theorem Reps.perm {Z : Addr → Prop} {H : Hp} {ws ys : List V} (p : ys.Perm ws) : ∀ {xs : List T}, Reps Z H xs ws [] → ∃ ts : List T, ts.Perm xs ∧ Reps Z H ts ys [] := by
  induction p with
  | nil => exact fun {xs} r => ⟨xs, List.Perm.refl _, r⟩
  | cons a p ih =>
    intro xs r
    match xs with
    | [] => unfold Reps at r; cases r.1
    | x :: xs =>
      unfold Reps at r
      obtain ⟨v, us, f1, f2, e1, e2, z, r2⟩ := r
      obtain ⟨h1, h2⟩ := List.append_eq_nil_iff.mp e2.symm
      subst h1
      subst h2
      cases e1
      obtain ⟨ts, q, r3⟩ := ih r2
      exact ⟨x :: ts, q.cons x, by unfold Reps; exact ⟨_, _, [], [], rfl, rfl, z, r3⟩⟩
  | swap a b l =>
    intro xs r
    match xs with
    | [] => unfold Reps at r; cases r.1
    | [x] =>
      unfold Reps at r
      obtain ⟨v, us, f1, f2, e1, e2, z, r2⟩ := r
      unfold Reps at r2
      rw [r2.1] at e1
      cases e1
    | x :: y :: xs =>
      unfold Reps at r
      obtain ⟨v, us, f1, f2, e1, e2, z, r2⟩ := r
      obtain ⟨h1, h2⟩ := List.append_eq_nil_iff.mp e2.symm
      subst h1
      subst h2
      cases e1
      unfold Reps at r2
      obtain ⟨v, us, f1, f2, e1, e2, z2, r3⟩ := r2
      obtain ⟨h1, h2⟩ := List.append_eq_nil_iff.mp e2.symm
      subst h1
      subst h2
      cases e1
      exact ⟨y :: x :: xs, List.Perm.swap x y xs, by unfold Reps; exact ⟨_, _, [], [], rfl, rfl, z2, by unfold Reps; exact ⟨_, _, [], [], rfl, rfl, z, r3⟩⟩⟩
  | trans p q ih1 ih2 =>
    intro xs r
    obtain ⟨t1, q1, r1⟩ := ih2 r
    obtain ⟨t2, q2, r2⟩ := ih1 r1
    exact ⟨t2, q2.trans q1, r2⟩
def gMixed (ts : List T) (K : T → List T → Prop) : Prop := ∃ (o : Bool) (xs : List T), ts = [bagT, .lst o xs] ∧ stillA xs = true ∧ xs.length ≤ 1000 ∧ ∀ ys : List T, ys.Perm xs → K (.lst true ys) ts
theorem mono_mixed : Mono gMixed := fun ts K K' hk ⟨o, xs, e, e1, e2, k⟩ => ⟨o, xs, e, e1, e2, fun y hy => hk _ _ (k y hy)⟩
end Rs
set_option maxHeartbeats 4000000
namespace Rs
open PySem L2 PySem.Spec PyProof.Rows
theorem addK_ext (L : List NestedKey) (k : NestedKey) {i : Nat} (h : i < L.length) : (addK L k)[i]? = L[i]? := by
  unfold addK
  split
  · rfl
  · exact List.getElem?_append_left h
theorem addK_at (L : List NestedKey) (k : NestedKey) : (addK L k)[L.idxOf k]? = some k := by
  unfold addK
  split
  · rename_i h
    rw [List.getElem?_eq_getElem (List.idxOf_lt_length_of_mem h), List.getElem_idxOf]
  · rename_i h
    rw [List.idxOf_eq_length h, List.getElem?_append_right (Nat.le_refl _), Nat.sub_self]
    rfl
theorem addK_nd {L : List NestedKey} {k : NestedKey} (h : L.Nodup) : (addK L k).Nodup := by
  unfold addK
  split
  · exact h
  · rename_i q
    exact List.nodup_append.mpr ⟨h, by simp, fun a ha b hb e => q (by rw [List.mem_singleton] at hb; rw [← hb, ← e]; exact ha)⟩
theorem idx_of {L : List NestedKey} (nd : L.Nodup) {k : NestedKey} {i : Nat} (h : L[i]? = some k) : L.idxOf k = i := by
  have hm : k ∈ L := List.mem_of_getElem? h
  exact nodup_at nd (by rw [List.getElem?_eq_getElem (List.idxOf_lt_length_of_mem hm), List.getElem_idxOf]) h
theorem setH_home (h : Homes) (l : Str) (n : Nat) (x : Str) : homeOf (setH h l n) x = if x = l then n else homeOf h x := by
  have e1 : (h.any fun p => decide (p.1 = l)) = true ↔ l ∈ h.map (·.1) := by
    rw [List.any_eq_true, List.mem_map]
    exact ⟨fun ⟨p, hp, e⟩ => ⟨p, hp, by simpa using e⟩, fun ⟨p, hp, e⟩ => ⟨p, hp, by simpa using e⟩⟩
  have g1 : ∀ h : Homes, l ∈ h.map (·.1) → ((h.map fun p => if p.1 = l then (p.1, n) else p).lookup x).getD 0 = if x = l then n else (h.lookup x).getD 0 := fun h => by
    induction h with
    | nil => intro q; cases q
    | cons q r ih =>
      intro hl
      rw [List.map_cons]
      by_cases e : q.1 = l
      · rw [if_pos e, List.lookup_cons, List.lookup_cons]
        by_cases e2 : x = l
        · subst e2
          rw [e, beq_self_eq_true, if_pos rfl]
          rfl
        · rw [show (x == q.1) = false by rw [beq_eq_false_iff_ne, e]; exact e2, if_neg e2]
          by_cases hr : l ∈ r.map (·.1)
          · have := ih hr
            rw [if_neg e2] at this
            exact this
          · have noop : (r.map fun p => if p.1 = l then (p.1, n) else p) = r := by
              have : ∀ r : Homes, l ∉ r.map (·.1) → (r.map fun p => if p.1 = l then (p.1, n) else p) = r := fun r => by
                induction r with
                | nil => intro _; rfl
                | cons s t ih2 =>
                  intro hs
                  rw [List.map_cons, List.mem_cons, not_or] at hs
                  rw [List.map_cons, if_neg (fun z => hs.1 z.symm), ih2 hs.2]
              exact this r hr
            rw [noop]
      · have hr : l ∈ r.map (·.1) := by
          rcases List.mem_cons.mp hl with z | z
          · exact absurd z.symm e
          · exact z
        rw [if_neg e, List.lookup_cons, List.lookup_cons]
        by_cases e2 : x = q.1
        · rw [show (x == q.1) = true by simpa using e2, if_neg (by rw [e2]; exact e)]
        · rw [show (x == q.1) = false by simpa using e2]
          exact ih hr
  have g2 : ∀ h : Homes, l ∉ h.map (·.1) → ((h ++ [(l, n)]).lookup x).getD 0 = if x = l then n else (h.lookup x).getD 0 := fun h => by
    induction h with
    | nil =>
      intro _
      rw [List.nil_append, List.lookup_cons]
      by_cases e2 : x = l
      · rw [show (x == l) = true by simpa using e2, if_pos e2]
        rfl
      · rw [show (x == l) = false by simpa using e2, if_neg e2]
    | cons q r ih =>
      intro hl
      rw [List.map_cons, List.mem_cons, not_or] at hl
      rw [List.cons_append, List.lookup_cons, List.lookup_cons]
      by_cases e2 : x = q.1
      · rw [show (x == q.1) = true by simpa using e2, if_neg (by rw [e2]; exact fun z => hl.1 z.symm)]
      · rw [show (x == q.1) = false by simpa using e2]
        exact ih hl.2
  unfold homeOf setH
  by_cases e : l ∈ h.map (·.1)
  · rw [if_pos (e1.mpr e)]
    exact g1 h e
  · rw [if_neg (fun z => e (e1.mp z))]
    exact g2 h e
theorem setH_vals {h : Homes} {l : Str} {n v : Nat} (hv : v ∈ (setH h l n).map (·.2)) : v = n ∨ v ∈ h.map (·.2) := by
  obtain ⟨p, hp, e⟩ := List.mem_map.mp hv
  subst e
  unfold setH at hp
  split at hp
  · obtain ⟨q, hq, e⟩ := List.mem_map.mp hp
    split at e
    · rw [← e]; exact .inl rfl
    · rw [← e]; exact .inr (List.mem_map.mpr ⟨q, hq, rfl⟩)
  · rcases List.mem_append.mp hp with hp | hp
    · exact .inr (List.mem_map.mpr ⟨p, hp, rfl⟩)
    · rw [List.mem_singleton] at hp
      rw [hp]
      exact .inl rfl
theorem setH_mem {h : Homes} {l : Str} {n : Nat} {x : Str} : x ∈ (setH h l n).map (·.1) ↔ x = l ∨ x ∈ h.map (·.1) := by
  rw [setH_names]
  split
  · rename_i q
    exact ⟨.inr, fun z => z.elim (fun e => e ▸ q) id⟩
  · rw [List.mem_append, List.mem_singleton, or_comm]
theorem setH_perm {h1 h2 : Homes} (p : (h1.map (·.1)).Perm (h2.map (·.1))) (l : Str) (n m : Nat) : ((setH h1 l n).map (·.1)).Perm ((setH h2 l m).map (·.1)) := by
  rw [setH_names, setH_names]
  by_cases q : l ∈ h1.map (·.1)
  · rw [if_pos q, if_pos (p.mem_iff.mp q)]
    exact p
  · rw [if_neg q, if_neg fun z => q (p.mem_iff.mpr z)]
    exact p.append_right _
section
variable {W rows : List NestedKey} {st pl : Homes} {R : Nat → Nat → Prop}
structure Wld (W : List NestedKey) (st : Homes) : Prop where
  ra : RowsAt W
  nd : W.Nodup
  ho : HomesOk W.length st
theorem gd_home {W : List NestedKey} {st : Homes} {v : Nat} (h : v ∈ st.map (·.2)) : Gd1 W st v = true := by
  unfold Gd1
  rw [decide_eq_true h, Bool.or_true]
theorem F2_map {S : Nat → Nat → Prop} {f g : Str → Nat} : ∀ {ps : List Str}, (∀ p ∈ ps, S (f p) (g p)) → F2 S (ps.map f) (ps.map g)
  | [], _ => .nil
  | p :: r, h => .cons (h p List.mem_cons_self) (F2_map fun q hq => h q (List.mem_cons_of_mem _ hq))
theorem parts_lt {L : List NestedKey} (h : RowsAt L) {n : Nat} {o : Str} {ps : List Nat} (e : L[n]? = some (opR o ps)) : ∀ p ∈ ps, p < n := by
  rcases h.cases (List.getElem?_eq_some_iff.mp e).1 with ⟨b, e2⟩ | ⟨o2, ps2, e2, _, hp⟩
  · rw [e] at e2
    have := Option.some.inj e2
    unfold opR at this
    injection this with this
    injection this with _ this
    injection this with _ this
    cases this
  · rw [e] at e2
    rw [(opR_inj (Option.some.inj e2)).2]
    exact hp
theorem mark_of {L : List NestedKey} {h : Homes} (r : RowsAt L) {n : Nat} {o : Str} {ps : List Nat} (e : L[n]? = some (opR o ps)) (hp : ∀ p ∈ ps, p ∈ h.map (·.2)) : (marksB L (h.map (·.2))).getD n false = true := by
  rw [mark_op (parts_lt r e) e, List.all_eq_true]
  exact fun p hpm => gd_home (hp p hpm)
theorem op_step (w : Wld W st) (s : Opn W st rows pl R) (l o : Str) {ps : List Str} (hps : ∀ p ∈ ps, p ∈ st.map (·.1)) (h10 : ps.length ≤ 10) :
    canonK (addK W (opR o (ps.map (homeOf st)))) (setH st l (W.idxOf (opR o (ps.map (homeOf st))))) = opNew rows pl l o ps := by
  unfold opNew
  have hps2 : ∀ p ∈ ps, p ∈ pl.map (·.1) := fun p hp => s.sim.names.mem_iff.mp (hps p hp)
  have f : F2 R (ps.map (homeOf st)) (ps.map (homeOf pl)) := F2_map fun p hp => s.sim.home p (hps p hp)
  have v1 : ∀ p ∈ ps.map (homeOf st), p ∈ st.map (·.2) ∧ p < W.length := fun p hp => by
    obtain ⟨q, hq, e⟩ := List.mem_map.mp hp
    rw [← e]
    have := home_lt w.ho (hps q hq)
    exact ⟨this.2, this.1⟩
  have v2 : ∀ p ∈ ps.map (homeOf pl), p ∈ pl.map (·.2) ∧ p < rows.length := fun p hp => by
    obtain ⟨q, hq, e⟩ := List.mem_map.mp hp
    rw [← e]
    have := home_lt s.ho (hps2 q hq)
    exact ⟨this.2, this.1⟩
  have l1 : (ps.map (homeOf st)).length ≤ 10 := by rw [List.length_map]; exact h10
  have l2 : (ps.map (homeOf pl)).length ≤ 10 := by rw [List.length_map]; exact h10
  generalize ps.map (homeOf st) = as at f v1 l1 ⊢
  generalize ps.map (homeOf pl) = bs at f v2 l2 ⊢
  have ra1 : RowsAt (addK W (opR o as)) := addK_rows w.ra (rowAt_op (fun p hp => (v1 p hp).2) l1)
  have ra2 : RowsAt (addK rows (opR o bs)) := addK_rows s.ra (rowAt_op (fun p hp => (v2 p hp).2) l2)
  have a1 := addK_at W (opR o as)
  have a2 := addK_at rows (opR o bs)
  have x1 := fun {i : Nat} (h : i < W.length) => addK_ext W (opR o as) h
  have x2 := fun {i : Nat} (h : i < rows.length) => addK_ext rows (opR o bs) h
  have i1 := addK_idx W (opR o as)
  have i2 := addK_idx rows (opR o bs)
  have q1 := addK_len W (opR o as)
  have q2 := addK_len rows (opR o bs)
  obtain ⟨n1, hn1⟩ : ∃ n, W.idxOf (opR o as) = n := ⟨_, rfl⟩
  obtain ⟨n2, hn2⟩ : ∃ n, rows.idxOf (opR o bs) = n := ⟨_, rfl⟩
  rw [hn1] at a1 i1 ⊢
  rw [hn2] at a2 i2 ⊢
  have c1 : ∀ b, R n1 b → b = n2 := fun b hb => by
    obtain ⟨z1, z2⟩ := s.lt _ _ hb
    have e1 : W[n1]? = some (opR o as) := by rw [← x1 z1]; exact a1
    have k1 := kind_op (mark_of (h := st) w.ra e1 fun p hp => (v1 p hp).1) e1
    rcases s.sim.kind _ _ hb with ⟨y, _⟩ | ⟨o', ps', qs', y1, y2, y3⟩
    · rw [show kindH W st n1 = _ from k1] at y; cases y
    · rw [show kindH W st n1 = _ from k1] at y1
      cases y1
      have := f.uniq s.sim.bi y3
      subst this
      rw [← hn2]
      exact (idx_of s.nd (kindH_some s.ra y2).2.1).symm
  have c2 : ∀ a, R a n2 → a = n1 := fun a hb => by
    obtain ⟨z1, z2⟩ := s.lt _ _ hb
    have e2 : rows[n2]? = some (opR o bs) := by rw [← x2 z2]; exact a2
    have k2 := kind_op (mark_of (h := pl) s.ra e2 fun p hp => (v2 p hp).1) e2
    rcases s.sim.kind _ _ hb with ⟨_, y⟩ | ⟨o', ps', qs', y1, y2, y3⟩
    · rw [show kindH rows pl n2 = _ from k2] at y; cases y
    · rw [show kindH rows pl n2 = _ from k2] at y2
      cases y2
      have := f.uniq' s.sim.bi y3
      subst this
      rw [← hn1]
      exact (idx_of w.nd (kindH_some w.ra y1).2.1).symm
  have o1 : HomesOk (addK W (opR o as)).length (setH st l n1) := setH_ok w.ho q1.2 i1
  have o2 : HomesOk (addK rows (opR o bs)).length (setH pl l n2) := setH_ok s.ho q2.2 i2
  refine (Sim.step (R' := fun a b => R a b ∨ a = n1 ∧ b = n2) s.sim w.ra s.ra ra1 ra2 (fun i h => x1 h) (fun i h => x2 h) s.lt ⟨?_, ?_⟩ (fun _ _ => .inl) (setH_perm s.sim.names _ _ _) o1 o2 (fun x hx => ?_) (fun a b hab => ?_) (fun v hv hl => ?_) (fun v hv hl => ?_)).canon ra1 ra2 o1 o2
  · rintro a b b' (h | ⟨h1, h2⟩) (h' | ⟨h1', h2'⟩)
    · exact s.sim.bi.f h h'
    · rw [h1'] at h; rw [h2', c1 b h]
    · rw [h1] at h'; rw [h2, c1 b' h']
    · rw [h2, h2']
  · rintro a a' b (h | ⟨h1, h2⟩) (h' | ⟨h1', h2'⟩)
    · exact s.sim.bi.b h h'
    · rw [h2'] at h; rw [h1', c2 a h]
    · rw [h2] at h'; rw [h1, c2 a' h']
    · rw [h1, h1']
  · rw [setH_home, setH_home]
    by_cases e : x = l
    · rw [if_pos e, if_pos e]
      exact .inr ⟨rfl, rfl⟩
    · rw [if_neg e, if_neg e]
      exact .inl (s.sim.home x ((setH_mem.mp hx).resolve_left e))
  · rcases hab with h | ⟨rfl, rfl⟩
    · exact .inl h
    · exact .inr (.inr ⟨o, as, bs, a1, a2, parts_lt ra1 a1, parts_lt ra2 a2, f.imp fun _ _ => .inl⟩)
  · rcases setH_vals hv with e | e
    · have e1 : W[v]? = some (opR o as) := by rw [← x1 hl, e]; exact a1
      unfold Gd1
      rw [mark_of (h := st) w.ra e1 fun p hp => (v1 p hp).1]
      rfl
    · exact gd_home e
  · rcases setH_vals hv with e | e
    · have e1 : rows[v]? = some (opR o bs) := by rw [← x2 hl, e]; exact a2
      unfold Gd1
      rw [mark_of (h := pl) s.ra e1 fun p hp => (v2 p hp).1]
      rfl
    · exact gd_home e
theorem same_step (w : Wld W st) (s : Opn W st rows pl R) (l : Str) {m : Str} (hm : m ∈ st.map (·.1)) : canonK W (setH st l (homeOf st m)) = sameNew rows pl l m := by
  unfold sameNew
  have hm2 := s.sim.names.mem_iff.mp hm
  have z1 := home_lt w.ho hm
  have z2 := home_lt s.ho hm2
  have o1 : HomesOk W.length (setH st l (homeOf st m)) := setH_ok w.ho (Nat.le_refl _) z1.1
  have o2 : HomesOk rows.length (setH pl l (homeOf pl m)) := setH_ok s.ho (Nat.le_refl _) z2.1
  refine (Sim.step (R' := R) s.sim w.ra s.ra w.ra s.ra (fun i h => rfl) (fun i h => rfl) s.lt s.sim.bi (fun _ _ h => h) (setH_perm s.sim.names _ _ _) o1 o2 (fun x hx => ?_) (fun a b hab => .inl hab) (fun v hv hl => ?_) (fun v hv hl => ?_)).canon w.ra s.ra o1 o2
  · rw [setH_home, setH_home]
    by_cases e : x = l
    · rw [if_pos e, if_pos e]
      exact s.sim.home m hm
    · rw [if_neg e, if_neg e]
      exact s.sim.home x ((setH_mem.mp hx).resolve_left e)
  · rcases setH_vals hv with e | e
    · rw [e]; exact gd_home z1.2
    · exact gd_home e
  · rcases setH_vals hv with e | e
    · rw [e]; exact gd_home z2.2
    · exact gd_home e
end
end Rs
set_option maxHeartbeats 4000000
namespace Rs
open PySem L2 PySem.Spec PyProof.Rows
local macro_rules | `(tactic| walk_at "rs ne") => `(tactic| first | assumption | (apply Ne.symm; assumption) | (apply ne_n1; assumption; walk_at "rs hp") | (apply ne_n2; assumption; walk_at "rs hp"))
local macro_rules | `(tactic| walk_at "rs hp") => `(tactic| first | assumption | exact upd_same | (apply hp_ne; (walk_at "rs ne"); (walk_at "rs hp")))
local macro_rules | `(tactic| walk_at "rs sq") => `(tactic| first | assumption | (apply SqL.of; walk_at "rs hp") | (apply SqT.of; walk_at "rs hp") | (apply TupAt.sq; assumption))
local macro_rules | `(tactic| walk_at "rs sz") => `(tactic| first | decide | (rw [sizeLine_eq]; simp; done) | (rw [sizeLine_eq]; simp; omega) | (rw [sizeLine_eq]; omega))
local macro_rules | `(tactic| walk_at "rs ar") => `(tactic| first | assumption | (show (0 : Int) < _; first | assumption | decide | omega) | exact Or.inr ⟨by decide, by decide⟩ | exact Or.inl ⟨by decide, by decide⟩ | exact Or.inl ⟨by omega, by omega⟩ | exact Or.inr ⟨by omega, by omega⟩ | exact ⟨by decide, by decide, by decide⟩ | exact ⟨by decide, by decide⟩ | exact ⟨by omega, by omega⟩)
local macro_rules | `(tactic| walk_at "rs r1") => `(tactic| with_reducible (first | refine w_var rfl ?_ | refine w_c ?_ | refine w_op ?_ | refine w_un ?_ | refine w_test ?_ | refine w_B ?_ | refine w_bool ?_ | refine w_not ?_ | refine w_cb ?_ | refine w_nil ?_ | refine w_cons ?_ | refine w_asg ?_ | refine w_name ?_ | refine w_seq ?_ | refine w_ret ?_ | refine w_drop ?_ | refine w_next ?_ | refine w_ifS ?_ | refine w_I0 ?_ | refine w_eqI ?_ | refine w_neI ?_ | refine w_int ?_ | refine w_abs ?_ | refine w_sl ?_ | refine w_part ?_ | refine w_intO ?_ | refine w_nopart ?_ | refine w_gsub ?_ | refine w_augS ?_ | refine w_ip ?_ | refine w_lst ?_ | refine w_tup ?_ | refine w_if ?_ | refine w_and ?_ | refine w_or ?_ | refine w_tfld ?_ | refine w_forL ?_ | refine w_forT ?_ | refine w_forR1 ?_ | refine w_forR2 ?_ | refine w_forE ?_ | refine w_lcL ?_ | refine w_lcR1 ?_ | refine w_bm ?_ | refine w_call ?_ | refine w_meth ?_ | refine w_nget ?_ | refine w_nin ?_ | refine w_nput ?_ | refine w_eqS ?_ | refine w_neS ?_))
local macro_rules | `(tactic| walk_at "rs r2") => `(tactic| first | (walk_at "rs r1") | ((with_reducible refine' w_ixL ?h1 ?h2 ?h3); (case h1 => walk_at "rs sq"); (case h2 => first | rfl | exact atI_nat (j := 0) rfl | exact atI_nat (j := 1) rfl | exact atI_nat (j := 2) rfl)) | ((with_reducible refine' w_ixT ?h1 ?h2 ?h3); (case h1 => walk_at "rs sq"); (case h2 => first | rfl | exact atI_nat (j := 0) rfl | exact atI_nat (j := 1) rfl | exact atI_nat (j := 2) rfl)) | ((with_reducible refine' w_cutL ?h1 ?_); (case h1 => walk_at "rs sq"); intro q hq) | ((with_reducible refine' w_cat ?h1 ?h2 ?h3 ?_); (case h1 => walk_at "rs hp"); (case h2 => walk_at "rs hp"); (case h3 => walk_at "rs sz"); intro q hq) | ((with_reducible refine' w_small ?h1 ?_); (case h1 => exact Nat.le_of_ble_eq_true rfl); intro q hq) | ((with_reducible refine' w_setL ?h1 ?h2 ?_); (case h1 => walk_at "rs hp"); (case h2 => rfl)) | ((with_reducible refine' w_getL ?h0 ?h1 ?h2 ?_); (case h0 => rfl); (case h1 => walk_at "rs sq"); (case h2 => rfl)) | ((with_reducible refine' w_lenL ?h1 ?_); (case h1 => walk_at "rs sq")) | ((with_reducible refine' w_lenT ?h1 ?_); (case h1 => walk_at "rs sq")) | ((with_reducible refine' w_fld ?h1 ?h2 ?h3 ?h4 ?_); (case h1 => assumption); (case h2 => assumption); (case h3 => walk_at "rs hp"); (case h4 => assumption)) | ((with_reducible refine' w_methAt ?h1 ?h2 ?_); (case h1 => walk_at "rs hp"); (case h2 => assumption)) | ((with_reducible refine' w_tyL ?h1 ?_); (case h1 => walk_at "rs sq")) | ((with_reducible refine' w_append ?h1 ?h2 ?_); (case h1 => walk_at "rs hp"); (case h2 => assumption)) | ((with_reducible refine' w_I ?h1 ?_); (case h1 => walk_at "rs ar")))
local macro_rules | `(tactic| walk_at "rs rd") => `(tactic| repeat (walk_at "rs r2"))
abbrev sLg : Stmt := top 21
abbrev sLn : Stmt := top 22
def LGAt (P : Program) (w : World) (H : Hp) (g l d : Addr) (L : List NestedKey) : Prop :=
  ∃ vs, H g = some (.tup [.ref d, .ref l]) ∧ H l = some (.lst vs) ∧ NKs H L vs ∧ ND P w H d (kvsOf L 0) ∧ L.Nodup ∧ (∀ k ∈ L, k.depth ≤ 8) ∧ L.length ≤ 3000
section
variable {P : Program} {w : World} {K : PySem.W.Frag} {mg : Str → Option Value} {base : Heap}
theorem LGAt.ne {H : Hp} {g l d : Addr} {L : List NestedKey} (x : LGAt P w H g l d L) : l ≠ d := by
  obtain ⟨vs, h1, h2, h3, ⟨es, h4, _⟩, _⟩ := x
  exact ne_of h2 h4 (fun z => ndo_lst z.symm)
theorem LGAt.frame {S : List Addr} {H H' : Hp} {g l d : Addr} {L : List NestedKey} (x : LGAt P w H g l d L) (f : Fm S H H') (hl : l ∉ S) (hd : d ∉ S) (ht : ∀ b u, H b = some u → (tupOf u).isSome = true → b ∉ S) : LGAt P w H' g l d L := by
  obtain ⟨vs, h1, h2, h3, h4, h5, h6, h7⟩ := x
  have tp : Tps H H' := fun b u e hu => f _ _ e (ht b u e hu)
  exact ⟨vs, tp _ _ h1 rfl, f _ _ h2 hl, NKs.mono tp _ _ h3, h4.frame (fun o e => f _ _ e hd) tp, h5, h6, h7⟩
theorem LGAt.goes {H H' : Hp} {g l d : Addr} {L : List NestedKey} (x : LGAt P w H g l d L) (ht : Tps H H') (ho : ∀ a ∈ [l, d], ∀ o, H a = some o → H' a = some o) : LGAt P w H' g l d L := by
  obtain ⟨vs, h1, h2, h3, h4, h5, h6, h7⟩ := x
  exact ⟨vs, ht _ _ h1 rfl, ho l (by simp) _ h2, NKs.mono ht _ _ h3, h4.frame (fun o e => ho d (by simp) o e) ht, h5, h6, h7⟩
def graphR (P : Program) (w : World) (L : List NestedKey) : Hp → V → List Addr → Prop := fun H v fp => ∃ g l d, v = .ref g ∧ LGAt P w H g l d L ∧ fp = [l, d]
def graphT (P : Program) (w : World) (L : List NestedKey) : T := .abs (graphR P w L)
theorem graph_framed {L : List NestedKey} : Framed (graphR P w L) := by
  refine ⟨fun H H' v fp ⟨g, l, d, e1, G, e2⟩ ht ho => ?_, fun H v fp ⟨g, l, d, e1, G, e2⟩ a ha => ?_⟩
  · subst e2
    exact ⟨g, l, d, e1, G.goes ht ho, rfl⟩
  · subst e2
    obtain ⟨vs, h1, h2, h3, ⟨es, h4, _⟩, _⟩ := G
    simp only [List.mem_cons, List.not_mem_nil, or_false] at ha
    rcases ha with rfl | rfl
    · exact ⟨_, h2, rfl⟩
    · exact ⟨_, h4, rfl⟩
theorem Rep.graph {Z : Addr → Prop} {H : Hp} {v : V} {f : List Addr} {L : List NestedKey} (h : Rep Z H (graphT P w L) v f) : ∃ g l d, v = .ref g ∧ LGAt P w H g l d L ∧ f = [l, d] := by
  unfold graphT Rep at h
  exact h.2
theorem rep_graph {Z : Addr → Prop} {H : Hp} {g l d : Addr} {L : List NestedKey} (G : LGAt P w H g l d L) : Rep Z H (graphT P w L) (.ref g) [l, d] := by
  unfold graphT Rep
  exact ⟨graph_framed, g, l, d, rfl, G, rfl⟩
theorem chg {Z : Addr → Prop} {H H' : Hp} {t' : T} {v : V} {rest xs : List T} {vs' us : List V} {f1 f2 fp : List Addr} (r2 : Reps Z H rest vs' f2) (e : fp = f1 ++ f2) (nd : fp.Nodup) (nz : ∀ a ∈ fp, ¬ Z a) (th : ∀ a ∈ f1, NoTup H a) (f : Fm f1 H H') (ht : ∀ Z', Rep Z' H' t' v f1) (hx : Reps Z H xs us []) :
    Reps (fun a => a ∉ fp ∧ (Z a ∨ H a = none ∨ a ∈ fp)) H' (xs ++ t' :: rest) (us ++ v :: vs') fp ∧ fp.Nodup ∧ (∀ a ∈ fp, H a = none ∨ a ∈ fp) ∧ Fm fp H H' := by
  have nd0 := nd
  rw [e] at nd
  have dj := (List.nodup_append.mp nd).2.2
  have tp : Tps H H' := fun a u ea hu => f a _ ea fun q => by
    obtain ⟨o, eo, no⟩ := th a q
    rw [ea] at eo
    cases eo
    rw [no] at hu
    cases hu
  have sh : ∀ a o, Z a → H a = some o → (a ∉ fp ∧ (Z a ∨ H a = none ∨ a ∈ fp)) ∧ H' a = some o := fun a o z ea => ⟨⟨fun q => nz a q z, .inl z⟩, f a o ea fun q => nz a (by rw [e]; exact List.mem_append_left _ q) z⟩
  have g : ∀ g, (∀ a ∈ g, a ∉ f1) → Go Z (fun a => a ∉ fp ∧ (Z a ∨ H a = none ∨ a ∈ fp)) H H' g := fun g hg => ⟨tp, sh, fun a ha o ea => f a o ea (hg a ha)⟩
  refine ⟨?_, nd0, fun a ha => .inr ha, f.wide fun x hx => by rw [e]; exact List.mem_append_left _ hx⟩
  have h1 := hx.go _ _ _ (g [] fun _ h => (List.not_mem_nil h).elim)
  have h2 : Reps (fun a => a ∉ fp ∧ (Z a ∨ H a = none ∨ a ∈ fp)) H' (t' :: rest) (v :: vs') fp := by
    unfold Reps
    exact ⟨_, _, f1, f2, rfl, e, ht _, r2.go _ _ _ (g f2 fun a ha q => dj a q a ha rfl)⟩
  have := h1.join h2
  rwa [List.nil_append] at this
theorem Reps.single {Z : Addr → Prop} {H : Hp} {t : T} {v : V} (h : Rep Z H t v []) : Reps Z H [t] [v] [] := by
  unfold Reps
  exact ⟨_, _, [], [], rfl, rfl, h, by unfold Reps; exact ⟨rfl, rfl⟩⟩
theorem pe_nnewP {X : Cx} {P : Program} {w : World} {pos : Pos} (hP : X.prog = P) (hw : X.w = w) : PE X (.Dict [] [] pos) (tNNew P w) := by
  subst hP
  subst hw
  exact pe_nnew
def spLg (P : Program) (w : World) : Sp := fun vs H Q _ => vs = [] ∧ ∀ g l d H', H l = none → H d = none → LGAt P w H' g l d [] → Fm [] H H' → Q (.ref g) H'
theorem scLg : FnScope [] [] (defScope sLg) := ⟨rfl, rfl, rfl, by decide +kernel, rfl, by decide +kernel, by decide +kernel⟩
theorem ok_lg {f : Addr} {fd : FuncData} (F : Fun K "_law_graph" "_law_graph" sLg f fd) : FnOk P w K mg base CX0 1 f fd [] (spLg P w) := by
  refine F.ok scLg (fun vs H Q E h => by rw [h.1]; rfl) (fun cdv A outer s H vs Q E hr h => ?_)
  obtain ⟨rfl, k⟩ := h
  refine ⟨_, pss_one (ps_ret (pe_tup (pa_cons (pe_nnewP (P := P) (w := w) rfl rfl) (pa_cons (pe_lst pa_nil) pa_nil)))), ?_⟩
  refine w_ret (w_tup (w_cons ?_))
  intro d hd dd
  refine w_cons ?_
  refine w_lst (w_nil ⟨Nat.zero_le _, fun l hl => ?_⟩)
  refine w_nil ⟨Nat.le_of_ble_eq_true rfl, fun g hg => ?_⟩
  obtain ⟨es, d1, d2⟩ := id dd
  have ldn : l ≠ d := fun z => by rw [z] at hl; rw [d1] at hl; cases hl
  have gdn : g ≠ d := fun z => by rw [z, upd_ne ldn.symm, d1] at hg; cases hg
  have gln : g ≠ l := fun z => by rw [z, upd_same] at hg; cases hg
  have hl0 : H l = none := by rwa [upd_ne ldn] at hl
  refine k g l d _ hl0 hd ⟨[], upd_same, by rw [upd_ne gln.symm]; exact upd_same, .nil, ?_, List.nodup_nil, fun _ h => (List.not_mem_nil h).elim, Nat.zero_le _⟩ (((Fm.new hd).thenNew hl).thenNew hg)
  have hg0 : upd H d (NdO P w d []) g = none := by rwa [upd_ne gln] at hg
  exact dd.frame (H' := upd (upd (upd H d (NdO P w d [])) l (.lst [])) g (.tup [.ref d, .ref l])) (fun o eo => by rw [upd_ne gdn.symm, upd_ne ldn.symm]; exact eo) fun b xs eb _ => by
    rw [upd_ne (fun z => by rw [z, hg0] at eb; cases eb), upd_ne (fun z => by rw [z, hl] at eb; cases eb)]
    exact eb
def spLn (P : Program) (w : World) : Sp := fun vs H Q E => ∃ (g p l d : Addr) (L : List NestedKey) (k : NestedKey), vs = [.ref g, .ref p] ∧ LGAt P w H g l d L ∧ NK H k (.ref p) ∧ k.depth ≤ 8 ∧ L.length < 3000 ∧
  (∀ i : Nat, L[i]? = some k → Q (.int (i : Int)) H) ∧ (k ∉ L → ∀ H', LGAt P w H' g l d (L ++ [k]) → Fm [l, d] H H' → Q (.int (L.length : Int)) H')
theorem scLn : FnScope ["graph", "key"] ["graph", "key"] (defScope sLn) := ⟨rfl, rfl, rfl, by decide +kernel, rfl, by decide +kernel, by decide +kernel⟩
theorem ok_ln {f : Addr} {fd : FuncData} (F : Fun K "_law_node" "_law_node" sLn f fd) (mlen : mg "len" = none) : FnOk P w K mg base CX0 1 f fd ["graph", "key"] (spLn P w) := by
  refine F.ok scLn (fun vs H Q E h => ?_) (fun cdv A outer s H vs Q E hr h => ?_)
  · obtain ⟨g, p, l, d, L, k, rfl, _⟩ := h
    rfl
  · obtain ⟨g, p, l, d, L, k, rfl, G, hk, hdp, hl3, q1, q2⟩ := h
    have nd := scLn.nd
    have hu := hr.units
    refine ⟨_, Evl.pss_cut (ps_if (pt_cmp (pc_nnotin hu (pv 1) (pe_ix ix_tup (pv 0) pe_int (fun _ _ => rfl))))
        (pss_cons (ps_nput hu (pe_ix ix_tup (pv 0) pe_int (fun _ _ => rfl)) (pv 1) (pe_callB c_len (by rfl) mlen PySem.boot_len (pa_cons (pe_ix ix_tup (pv 0) pe_int (fun _ _ => rfl)) pa_nil)) rfl)
        (pss_one (ps_expr (pe_bm PySem.F.plainAttrs_list PySem.F.slot_list_append PySem.F.type_list_append mt_append (pe_ix ix_tup (pv 0) pe_int (fun _ _ => rfl)) (pa_cons (pv 1) pa_nil))))) pss_nil)
      (pss_one (ps_ret (pe_nget hu (pe_ix ix_tup (pv 0) pe_int (fun _ _ => rfl)) (pv 1) (fun _ _ => rfl)))), ?_⟩
    obtain ⟨vs, h1, h2, h3, h4, h5, h6, h7⟩ := id G
    have ld := G.ne
    refine w_cut (M := fun σ' H' => σ' = [some (.ref g), some (.ref p)] ∧ ((k ∈ L ∧ H' = H) ∨ (k ∉ L ∧ L.length < 3000 ∧ LGAt P w H' g l d (L ++ [k]) ∧ Fm [l, d] H H'))) ?_ ?_
    · walk_at "rs rd"
      refine ⟨d, p, _, k, rfl, rfl, h4, hk, hdp, ?_⟩
      by_cases hkL : k ∈ L
      · obtain ⟨i, hi⟩ := List.getElem?_of_mem hkL
        have e : (valV (kvsOf L 0) k).isSome = true := by rw [kvsOf_at h5 hi]; rfl
        refine ⟨false, by rw [e]; rfl, ?_⟩
        rw [if_neg Bool.false_ne_true]
        walk_at "rs rd"
        exact ⟨rfl, .inl ⟨hkL, rfl⟩⟩
      · have e : (valV (kvsOf L 0) k).isSome = false := by rw [kvsOf_none hkL]; rfl
        refine ⟨true, by rw [e]; rfl, ?_⟩
        rw [if_pos rfl]
        have hlen := h3.len
        walk_at "rs rd"
        refine ⟨d, p, _, k, rfl, rfl, h4, hk, hdp, (by rw [kvsOf_len, sizeLine_eq]; omega), fun H4 d4 e4 => ?_⟩
        have hz : vs.length < sizeLine := by rw [sizeLine_eq]; omega
        have gd : g ≠ d := fun z => by
          obtain ⟨es, hd', _⟩ := id h4
          rw [← z, h1] at hd'
          exact ndo_tup (Option.some.inj hd').symm
        have h1' : H4 g = some (.tup [.ref d, .ref l]) := (e4 g gd).trans h1
        have h2' : H4 l = some (.lst vs) := (e4 l ld).trans h2
        walk_at "rs rd"
        have f1 : Fm [l, d] H H4 := fun a o ea na => (e4 a fun z => na (by simp [z])).trans ea
        have f2 : Fm [l, d] H (upd H4 l (.lst (vs ++ [.ref p]))) := f1.thenPut (by simp)
        have tp : Tps H (upd H4 l (.lst (vs ++ [.ref p]))) := fun b u eb hu => f2 b _ eb fun z => by
          obtain ⟨es, hd', _⟩ := id h4
          rcases List.mem_cons.mp z with z | z
          · subst z; rw [h2] at eb; cases eb; cases hu
          · rw [List.mem_singleton] at z
            subst z
            rw [hd'] at eb
            cases eb
            cases hu
        have tp4 : Tps H4 (upd H4 l (.lst (vs ++ [.ref p]))) := fun b u eb hu => by
          rw [upd_ne (fun z => by rw [z, h2'] at eb; cases eb; cases hu)]
          exact eb
        refine ⟨rfl, .inr ⟨hkL, by omega, ⟨_, tp _ _ h1 rfl, upd_same, NKs.snoc (NK.mono tp _ _ hk) (NKs.mono tp _ _ h3), ?_, ?_, ?_, ?_⟩, f2⟩⟩
        · have q := d4.frame (H' := upd H4 l (.lst (vs ++ [.ref p]))) (fun o eo => by rw [upd_ne (Ne.symm ld)]; exact eo) tp4
          have ev : (V.int (vs.length : Int)) = .int (L.length : Int) := by rw [hlen]
          rw [ev, kvsOf_put hkL] at q
          exact q
        · exact List.nodup_append.mpr ⟨h5, by simp, fun a ha b hb => by rw [List.mem_singleton] at hb; subst hb; exact fun z => hkL (z ▸ ha)⟩
        · intro a ha
          rcases List.mem_append.mp ha with ha | ha
          · exact h6 a ha
          · rw [List.mem_singleton] at ha; subst ha; exact hdp
        · rw [List.length_append, List.length_singleton]; omega
    · rintro σ' H' ⟨rfl, ⟨hkL, rfl⟩ | ⟨hkL, hl3, G', f'⟩⟩
      · walk_at "rs rd"
        obtain ⟨i, hi⟩ := List.getElem?_of_mem hkL
        have e := kvsOf_at (n := 0) h5 hi
        rw [Nat.zero_add] at e
        exact ⟨d, p, _, k, _, rfl, rfl, h4, hk, hdp, e, q1 i hi⟩
      · obtain ⟨vs', h1', h2', h3', h4', h5', h6', h7'⟩ := id G'
        walk_at "rs rd"
        have hi : (L ++ [k])[L.length]? = some k := by simp
        have e := kvsOf_at (n := 0) h5' hi
        rw [Nat.zero_add] at e
        have tp : Tps H (H') := fun b u eb hu => f' b _ eb fun z => by
          obtain ⟨es, hd', _⟩ := id h4
          rcases List.mem_cons.mp z with z | z
          · subst z; rw [h2] at eb; cases eb; cases hu
          · rw [List.mem_singleton] at z
            subst z
            rw [hd'] at eb
            cases eb
            cases hu
        exact ⟨d, p, _, k, _, rfl, rfl, h4', NK.mono tp _ _ hk, hdp, e, q2 hkL H' G' f'⟩
def gLg (P : Program) (w : World) (ts : List T) (K : T → List T → Prop) : Prop := ts = [] ∧ K (graphT P w []) []
theorem mono_lg : Mono (gLg P w) := fun ts K K' h ⟨e, k⟩ => ⟨e, h _ _ k⟩
theorem conv_lg {vs : List V} {H : Hp} {Q : VK} {E : XK} (h : spT (gLg P w) vs H Q E) : spLg P w vs H Q E := by
  obtain ⟨ts, Z, fp, r, nd, nz, e, k⟩ := h
  subst e
  unfold Reps at r
  obtain ⟨rfl, rfl⟩ := r
  refine ⟨rfl, fun g l d H' hl hd G f => k (.ref g) H' [l, d] ?_ (by simp [G.ne]) (fun a ha => ?_) f⟩
  · unfold Reps
    exact ⟨_, _, [l, d], [], rfl, rfl, rep_graph G, by unfold Reps; exact ⟨rfl, rfl⟩⟩
  · simp only [List.mem_cons, List.not_mem_nil, or_false] at ha
    rcases ha with rfl | rfl
    · exact .inl hl
    · exact .inl hd
def gLn (P : Program) (w : World) (ts : List T) (K : T → List T → Prop) : Prop := ∃ (L : List NestedKey) (ks : List NestedKey), ts = [graphT P w L, kT (.tup ks)] ∧ (NestedKey.tup ks).depth ≤ 8 ∧ L.length < 3000 ∧ K (.int ((L.idxOf (.tup ks) : Nat) : Int)) [graphT P w (addK L (.tup ks)), kT (.tup ks)]
theorem mono_ln : Mono (gLn P w) := fun ts K K' h ⟨L, ks, e, e1, e2, k⟩ => ⟨L, ks, e, e1, e2, h _ _ k⟩
theorem conv_ln {vs : List V} {H : Hp} {Q : VK} {E : XK} (h : spT (gLn P w) vs H Q E) : spLn P w vs H Q E := by
  obtain ⟨ts, Z, fp, r, nd, nz, L, ks, e, hd, hl, k⟩ := h
  subst e
  obtain ⟨v, vs', f1, f2, e1, e2, z, r2⟩ := reps2 r
  obtain ⟨u, e3, zu⟩ := reps1 r2
  obtain ⟨g, l, d, e4, G, e5⟩ := z.graph
  have th : ∀ a ∈ f1, NoTup H a := z.there
  have nk := zu.nk _ _ _
  obtain ⟨p, rfl⟩ : ∃ p, u = .ref p := by
    cases nk with
    | tup e _ => exact ⟨_, rfl⟩
  subst e3
  subst e4
  subst e5
  have ndL : L.Nodup := by
    obtain ⟨_, _, _, _, _, h, _⟩ := G
    exact h
  refine ⟨g, p, l, d, L, .tup ks, e1, G, nk, hd, hl, fun i hi => ?_, fun hno H' G' f' => ?_⟩
  · have ea : addK L (.tup ks) = L := if_pos (List.mem_of_getElem? hi)
    rw [ea, idx_of ndL hi, e1] at k
    obtain ⟨a, b, c, d'⟩ := chg (xs := [.int (i : Int)]) (us := [.int (i : Int)]) r2 e2 nd nz th (Fm.refl _ _) (fun Z' => rep_graph G) (Reps.single (lit_int _))
    exact k _ H fp a b c d'
  · have ea : addK L (.tup ks) = L ++ [.tup ks] := if_neg hno
    rw [ea, List.idxOf_eq_length hno, e1] at k
    obtain ⟨a, b, c, d'⟩ := chg (xs := [.int (L.length : Int)]) (us := [.int (L.length : Int)]) r2 e2 nd nz th f' (fun Z' => rep_graph G') (Reps.single (lit_int _))
    exact k _ H' fp a b c d'
end
end Rs
set_option maxHeartbeats 4000000
namespace Rs
open PySem L2 PySem.Spec PyProof.Rows
local macro_rules | `(tactic| walk_at "dv nm") => `(tactic| dsimp only [List.set_cons_succ, List.set_cons_zero, hideT])
local macro_rules | `(tactic| walk_at "dv st") => `(tactic| first | rfl | exact kT_still _ | assumption)
local macro_rules | `(tactic| walk_at "dv 1") => `(tactic| first | (with_reducible (first | refine ws_seq ?_ | refine ws_asg ?_ | refine ws_ret ?_ | refine ws_drop ?_ | refine ws_if ?_ | refine ws_next ?_ | refine we_int ?_ | refine we_str ?_ | refine we_bl ?_ | refine we_non ?_ | refine we_tup ?_ | refine we_lst ?_ | refine wa_cons ?_ | refine wa_nil ?_ | refine wo_cons ?_ | refine wo_nil ?_ | refine wt_test ?_ | refine wt_B ?_ | refine wt_not ?_ | refine wt_and ?_ | refine wt_or ?_ | refine we_if ?_ | refine we_notV ?_ | refine we_andV ?_ | refine we_orV ?_ | refine we_dnew ?_ | refine wb_var ⟨_, rfl⟩ ?_)) | ((with_reducible refine' wg_name ?h1 ?h2 ?_); (case h1 => exact Nat.le_of_ble_eq_true rfl); (case h2 => decide); (walk_at "dv nm")) | ((with_reducible refine' we_var ?h ?s ?_); (case' h => rfl); (case s => walk_at "dv st")) | ((with_reducible refine' size_and ?sz ?_); (case sz => rw [sizeLine_eq]; exact Nat.le_of_ble_eq_true rfl)) | (with_reducible refine wb_of ?_))
local macro_rules | `(tactic| walk_at "dv") => `(tactic| repeat (walk_at "dv 1"))
section
variable {fr : Fr} {pn : List Nat} {tmp : List T} {sl : Sl} {KE : T → Sl → Prop} {K : KS} {args : TA} {P : Program} {w : World} {Kf : PySem.W.Frag}
theorem ws_par {i j : Nat} (h : WA fr pn tmp sl args fun ts sl1 => ∃ x y, ts = [x, y] ∧ i < sl1.length ∧ j < sl1.length ∧ i ∉ pn ∧ j ∉ pn ∧ K.nx ((sl1.set i (some x)).set j (some y))) : WS fr pn tmp sl (tPar i j args) K := fun pv tv σ H D r n _ _ _ =>
  h pv tv σ H _ r fun ts sl1 vs H1 ⟨x, y, e, h1, h2, h3, h4, k⟩ hl r1 => by
    subst e
    match vs, hl with
    | [v, u], _ =>
      refine ⟨v, u, rfl, n _ _ H1 k ?_⟩
      exact R.put (R.put (show R fr pn pv (x :: y :: tmp) (v :: u :: tv) sl1 σ H1 from r1) h1 h3) (by rw [List.length_set]; exact h2) h4
end
theorem putT_keys (kvs : List (Key × T)) (k : Key) (t : T) : (k ∈ kvs.map (·.1) ∧ (putT kvs k t).map (·.1) = kvs.map (·.1)) ∨ (k ∉ kvs.map (·.1) ∧ (putT kvs k t).map (·.1) = kvs.map (·.1) ++ [k]) := by
  have e1 : (kvs.any fun p => decide (p.1 = k)) = true ↔ k ∈ kvs.map (·.1) := by
    rw [List.any_eq_true, List.mem_map]
    exact ⟨fun ⟨p, hp, e⟩ => ⟨p, hp, by simpa using e⟩, fun ⟨p, hp, e⟩ => ⟨p, hp, by simpa using e⟩⟩
  unfold putT
  by_cases e : k ∈ kvs.map (·.1)
  · refine .inl ⟨e, ?_⟩
    rw [if_pos (e1.mpr e), List.map_map]
    refine List.map_congr_left fun p _ => ?_
    show (if p.1 = k then (p.1, t) else p).1 = p.1
    split <;> rfl
  · refine .inr ⟨e, ?_⟩
    rw [if_neg (fun z => e (e1.mp z)), List.map_append]
    rfl
structure KI (N : Nat) (kvs : List (Key × T)) : Prop where
  nd : (kvs.map (·.1)).Nodup
  lt : ∀ k ∈ kvs.map (·.1), ∃ j : Nat, j < N ∧ k = .inl (j : Int)
  still : stillK kvs = true
theorem KI.nil {N : Nat} : KI N [] := ⟨List.nodup_nil, fun k h => (nomatch h), rfl⟩
theorem KI.len {N : Nat} {kvs : List (Key × T)} (h : KI N kvs) : kvs.length ≤ N := by
  have inj : ∀ ks : List Key, ks.Nodup → (∀ k ∈ ks, ∃ j : Nat, j < N ∧ k = .inl (j : Int)) → ∃ js : List Nat, js.Nodup ∧ (∀ j ∈ js, j < N) ∧ js.length = ks.length ∧ ∀ j ∈ js, (Sum.inl (j : Int) : Key) ∈ ks := fun ks => by
    induction ks with
    | nil => exact fun _ _ => ⟨[], List.nodup_nil, fun _ h => (nomatch h), rfl, fun _ h => (nomatch h)⟩
    | cons k r ih =>
      intro nd hk
      obtain ⟨n1, n2⟩ := List.nodup_cons.mp nd
      obtain ⟨js, a, b, c, d⟩ := ih n2 fun x hx => hk x (List.mem_cons_of_mem _ hx)
      obtain ⟨j, hj, e⟩ := hk k List.mem_cons_self
      refine ⟨j :: js, List.nodup_cons.mpr ⟨fun z => n1 (by rw [e]; exact d j z), a⟩, fun x hx => ?_, by rw [List.length_cons, List.length_cons, c], fun x hx => ?_⟩
      · rcases List.mem_cons.mp hx with rfl | hx
        · exact hj
        · exact b x hx
      · rcases List.mem_cons.mp hx with rfl | hx
        · rw [← e]; exact List.mem_cons_self
        · exact List.mem_cons_of_mem _ (d x hx)
  obtain ⟨js, a, b, c, _⟩ := inj _ h.nd h.lt
  rw [List.length_map] at c
  rw [← c]
  exact nodup_lt_len a b
theorem KI.put {N n : Nat} {kvs : List (Key × T)} {t : T} (h : KI N kvs) (hn : n < N) (ht : t.still = true) : KI N (putT kvs (.inl (n : Int)) t) := by
  refine ⟨?_, fun k hk => ?_, putT_still h.still ht⟩
  · rcases putT_keys kvs (.inl (n : Int)) t with ⟨q, e⟩ | ⟨q, e⟩ <;> rw [e]
    · exact h.nd
    · exact List.nodup_append.mpr ⟨h.nd, by simp, fun a ha b hb e => q (by rw [List.mem_singleton] at hb; rw [← hb, ← e]; exact ha)⟩
  · rcases putT_keys kvs (.inl (n : Int)) t with ⟨q, e⟩ | ⟨q, e⟩ <;> rw [e] at hk
    · exact h.lt k hk
    · rcases List.mem_append.mp hk with hk | hk
      · exact h.lt k hk
      · rw [List.mem_singleton] at hk
        exact ⟨n, hn, hk⟩
theorem val_put {kvs : List (Key × T)} {n j : Nat} {t : T} : valT (putT kvs (.inl (n : Int)) t) (.inl (j : Int)) = if j = n then some t else valT kvs (.inl (j : Int)) := by
  rw [valT_put]
  by_cases e : j = n
  · rw [if_pos (by rw [e]), if_pos e]
  · rw [if_neg (fun z => e (by injection z with z; omega)), if_neg e]
end Rs
set_option maxHeartbeats 4000000
namespace Rs
open PySem L2 PySem.Spec PyProof.Rows
local macro_rules | `(tactic| walk_at "dv nm") => `(tactic| dsimp only [List.set_cons_succ, List.set_cons_zero, hideT])
local macro_rules | `(tactic| walk_at "dv st") => `(tactic| first | rfl | exact kT_still _ | assumption)
local macro_rules | `(tactic| walk_at "dv 1") => `(tactic| first | (with_reducible (first | refine ws_seq ?_ | refine ws_asg ?_ | refine ws_ret ?_ | refine ws_drop ?_ | refine ws_if ?_ | refine ws_next ?_ | refine we_int ?_ | refine we_str ?_ | refine we_bl ?_ | refine we_non ?_ | refine we_tup ?_ | refine we_lst ?_ | refine wa_cons ?_ | refine wa_nil ?_ | refine wo_cons ?_ | refine wo_nil ?_ | refine wt_test ?_ | refine wt_B ?_ | refine wt_not ?_ | refine wt_and ?_ | refine wt_or ?_ | refine we_if ?_ | refine we_notV ?_ | refine we_andV ?_ | refine we_orV ?_ | refine we_dnew ?_ | refine wb_var ⟨_, rfl⟩ ?_)) | ((with_reducible refine' wg_name ?h1 ?h2 ?_); (case h1 => exact Nat.le_of_ble_eq_true rfl); (case h2 => decide); (walk_at "dv nm")) | ((with_reducible refine' we_var ?h ?s ?_); (case' h => rfl); (case s => walk_at "dv st")) | ((with_reducible refine' size_and ?sz ?_); (case sz => rw [sizeLine_eq]; exact Nat.le_of_ble_eq_true rfl)) | (with_reducible refine wb_of ?_))
local macro_rules | `(tactic| walk_at "dv") => `(tactic| repeat (walk_at "dv 1"))
mutual
theorem kT_data : ∀ k : NestedKey, (kT k).isData = true
  | .none => by unfold kT T.isData; rfl
  | .num i => by unfold kT T.isData; rfl
  | .text s => by unfold kT T.isData; rfl
  | .tup ks => by unfold kT T.isData; exact kTs_data ks
theorem kTs_data : ∀ ks : List NestedKey, isDataA (kTs ks) = true
  | [] => by unfold kTs isDataA; rfl
  | k :: ks => by unfold kTs isDataA; rw [kT_data k, kTs_data ks]; rfl
end
end Rs
set_option maxHeartbeats 4000000
namespace Rs
open PySem L2 PySem.Spec PyProof.Rows
local macro_rules | `(tactic| walk_at "dv nm") => `(tactic| dsimp only [List.set_cons_succ, List.set_cons_zero, hideT])
local macro_rules | `(tactic| walk_at "dv st") => `(tactic| first | rfl | exact kT_still _ | assumption)
local macro_rules | `(tactic| walk_at "dv 1") => `(tactic| first | (with_reducible (first | refine ws_seq ?_ | refine ws_asg ?_ | refine ws_ret ?_ | refine ws_drop ?_ | refine ws_if ?_ | refine ws_next ?_ | refine we_int ?_ | refine we_str ?_ | refine we_bl ?_ | refine we_non ?_ | refine we_tup ?_ | refine we_lst ?_ | refine wa_cons ?_ | refine wa_nil ?_ | refine wo_cons ?_ | refine wo_nil ?_ | refine wt_test ?_ | refine wt_B ?_ | refine wt_not ?_ | refine wt_and ?_ | refine wt_or ?_ | refine we_if ?_ | refine we_notV ?_ | refine we_andV ?_ | refine we_orV ?_ | refine we_dnew ?_ | refine wb_var ⟨_, rfl⟩ ?_)) | ((with_reducible refine' wg_name ?h1 ?h2 ?_); (case h1 => exact Nat.le_of_ble_eq_true rfl); (case h2 => decide); (walk_at "dv nm")) | ((with_reducible refine' we_var ?h ?s ?_); (case' h => rfl); (case s => walk_at "dv st")) | ((with_reducible refine' size_and ?sz ?_); (case sz => rw [sizeLine_eq]; exact Nat.le_of_ble_eq_true rfl)) | (with_reducible refine wb_of ?_))
local macro_rules | `(tactic| walk_at "dv") => `(tactic| repeat (walk_at "dv 1"))
def LRows (G : List NestedKey) : Prop := ∀ (i : Nat) (k : NestedKey), G[i]? = some k → (∃ r, k = .tup (.text "letter" :: r)) ∨ ∃ o ps, k = opR o ps ∧ ps.length ≤ 10 ∧ ∀ p ∈ ps, p < i
def nrm : NestedKey → NestedKey
  | .tup (.text s :: r) => if s = "letter" then .tup [.text "letter", .tup r] else .tup (.text s :: r)
  | k => k
theorem nrm_let (r : List NestedKey) : nrm (.tup (.text "letter" :: r)) = .tup [.text "letter", .tup r] := by unfold nrm; dsimp only; rw [if_pos rfl]
theorem nrm_op (o : Str) (ps : List Nat) : nrm (opR o ps) = opR o ps := by unfold opR nrm; dsimp only; rw [if_neg (show ¬ Str.ofString "op" = "letter" by decide +kernel)]
theorem let_op {r : List NestedKey} {o : Str} {ps : List Nat} : NestedKey.tup (.text "letter" :: r) ≠ opR o ps := by
  intro h
  unfold opR at h
  injection h with h
  injection h with h _
  injection h with h
  exact absurd h (by decide +kernel)
theorem nrm_inj {G : List NestedKey} (h : LRows G) {i j : Nat} {a b : NestedKey} (ha : G[i]? = some a) (hb : G[j]? = some b) (e : nrm a = nrm b) : a = b := by
  rcases h i a ha with ⟨r, rfl⟩ | ⟨o, ps, rfl, _⟩ <;> rcases h j b hb with ⟨s, rfl⟩ | ⟨o2, qs, rfl, _⟩
  · rw [nrm_let, nrm_let] at e
    injection e with e
    injection e with _ e
    injection e with e _
    injection e with e
    rw [e]
  · rw [nrm_let, nrm_op] at e
    exact absurd e let_op
  · rw [nrm_let, nrm_op] at e
    exact absurd e.symm let_op
  · rw [nrm_op, nrm_op] at e
    exact e
theorem wld_of {G : List NestedKey} {st : Homes} (h : LRows G) (nd : G.Nodup) (o : HomesOk G.length st) : Wld (G.map nrm) st := by
  refine ⟨fun i k hk => ?_, nodup_of fun i j a hi hj => ?_, by rw [List.length_map]; exact o⟩
  · rw [List.getElem?_map] at hk
    obtain ⟨a, ha, e⟩ := Option.map_eq_some_iff.mp hk
    subst e
    rcases h i a ha with ⟨r, rfl⟩ | ⟨op, ps, rfl, h10, hp⟩
    · exact .inl ⟨_, nrm_let r⟩
    · rw [nrm_op]
      refine .inr ⟨op, ps.map fun p : Nat => (p : Int), opR_nums op ps, by rw [List.length_map]; exact h10, fun m hm => ?_⟩
      obtain ⟨p, hpm, rfl⟩ := List.mem_map.mp hm
      have := hp p hpm
      omega
  · rw [List.getElem?_map] at hi hj
    obtain ⟨x, hx, e⟩ := Option.map_eq_some_iff.mp hi
    obtain ⟨y, hy, e2⟩ := Option.map_eq_some_iff.mp hj
    have := nrm_inj h hx hy (e.trans e2.symm)
    rw [this] at hx
    exact nodup_at nd hx hy
end Rs
set_option maxHeartbeats 4000000
namespace Rs
open PySem L2 PySem.Spec PyProof.Rows
structure Cl where
  c : Value
  i : Option Nat
  ts : Addr → Value → Option Addr → TS
end Rs
set_option maxHeartbeats 4000000
namespace Rs
open PySem L2 PySem.Spec PyProof.Rows LamX
end Rs
set_option maxHeartbeats 4000000
namespace Rs
open PySem L2 PySem.Spec PyProof.Rows LamX
section
variable {fr : Fr} {pn : List Nat} {pv : Nat → V} {tmp : List T} {tv : List V} {sl : Sl} {σ : L2.St} {H H' H1 : Hp} {Tb : List (Addr × Str)} {K : KS}
inductive KeepO : Sl → Sl → Prop where
  | nil : KeepO [] []
  | skip {x : Option T} {a b : Sl} : KeepO a b → KeepO (none :: a) (x :: b)
  | keep {t : T} {a b : Sl} : t.still = true → KeepO a b → KeepO (some t :: a) (some t :: b)
theorem KeepO.reO {Z : Addr → Prop} : ∀ {a b : Sl} {vs : List (Option V)} {fp : List Addr}, KeepO a b → ReO Z H b vs fp → ReO Z H a vs []
  | _, _, _, _, .nil, h => ⟨h.1, rfl⟩
  | _, _, _, _, .skip (x := none) k, ⟨v, vs', e, h⟩ => ⟨v, vs', e, k.reO h⟩
  | _, _, _, _, .skip (x := some t) k, ⟨v, vs', f1, f2, e1, e2, a, b⟩ => ⟨some v, vs', e1, k.reO b⟩
  | _, _, _, _, .keep hs k, ⟨v, vs', f1, f2, e1, e2, a, b⟩ => ⟨v, vs', [], [], e1, rfl, by have := Rep.still _ _ _ a hs; rwa [this] at a, k.reO b⟩
inductive DropO : Sl → Sl → Prop where
  | nil : DropO [] []
  | same {x : Option T} {a b : Sl} : DropO a b → DropO (x :: a) (x :: b)
  | drop {x : Option T} {a b : Sl} : DropO a b → DropO (none :: a) (x :: b)
theorem DropO.reO {Z : Addr → Prop} : ∀ {a b : Sl} {vs : List (Option V)} {fp : List Addr}, DropO a b → ReO Z H b vs fp → ∃ fp', ReO Z H a vs fp' ∧ fp'.Sublist fp
  | _, _, _, _, .nil, h => ⟨[], ⟨h.1, rfl⟩, by rw [h.2]; exact List.Sublist.slnil⟩
  | _, _, _, _, .same (x := none) k, ⟨v, vs', e, h⟩ => by
    obtain ⟨fp', h1, h2⟩ := k.reO h
    exact ⟨fp', ⟨v, vs', e, h1⟩, h2⟩
  | _, _, _, _, .same (x := some t) k, ⟨v, vs', f1, f2, e1, e2, a, b⟩ => by
    obtain ⟨fp', h1, h2⟩ := k.reO b
    exact ⟨f1 ++ fp', ⟨v, vs', f1, fp', e1, rfl, a, h1⟩, by rw [e2]; exact List.Sublist.append_left h2 _⟩
  | _, _, _, _, .drop (x := none) k, ⟨v, vs', e, h⟩ => by
    obtain ⟨fp', h1, h2⟩ := k.reO h
    exact ⟨fp', ⟨v, vs', e, h1⟩, h2⟩
  | _, _, _, _, .drop (x := some t) k, ⟨v, vs', f1, f2, e1, e2, a, b⟩ => by
    obtain ⟨fp', h1, h2⟩ := k.reO b
    exact ⟨fp', ⟨some v, vs', e1, h1⟩, by rw [e2]; exact h2.trans (List.sublist_append_right _ _)⟩
theorem R.drop {s0 : Sl} (r : R fr pn pv tmp tv sl σ H) (d : DropO s0 sl) : R fr pn pv tmp tv s0 σ H := by
  obtain ⟨f1, f2, r⟩ := r
  obtain ⟨g, h1, h2⟩ := d.reO r.slots
  have sub : ∀ x ∈ f1 ++ g, x ∈ f1 ++ f2 := fun x hx => (List.mem_append.mp hx).elim (List.mem_append_left _) fun z => List.mem_append_right _ (h2.subset z)
  exact ⟨f1, g, r.hands.go _ _ _ (Go.same (Zf.mono sub)), h1.go (Go.same (Zf.mono sub)), r.nd.sublist (List.Sublist.append_left h2 _), fun x hx => r.own x (sub x hx), r.fm, r.pins⟩
end
end Rs
set_option maxHeartbeats 4000000
namespace Rs
open PySem L2 PySem.Spec PyProof.Rows
local macro_rules | `(tactic| walk_at "dv nm") => `(tactic| dsimp only [List.set_cons_succ, List.set_cons_zero, hideT])
local macro_rules | `(tactic| walk_at "dv st") => `(tactic| first | rfl | exact kT_still _ | assumption)
local macro_rules | `(tactic| walk_at "dv 1") => `(tactic| first | (with_reducible (first | refine ws_seq ?_ | refine ws_asg ?_ | refine ws_ret ?_ | refine ws_drop ?_ | refine ws_if ?_ | refine ws_next ?_ | refine we_int ?_ | refine we_str ?_ | refine we_bl ?_ | refine we_non ?_ | refine we_tup ?_ | refine we_lst ?_ | refine wa_cons ?_ | refine wa_nil ?_ | refine wo_cons ?_ | refine wo_nil ?_ | refine wt_test ?_ | refine wt_B ?_ | refine wt_not ?_ | refine wt_and ?_ | refine wt_or ?_ | refine we_if ?_ | refine we_notV ?_ | refine we_andV ?_ | refine we_orV ?_ | refine we_dnew ?_ | refine wb_var ⟨_, rfl⟩ ?_)) | ((with_reducible refine' wg_name ?h1 ?h2 ?_); (case h1 => exact Nat.le_of_ble_eq_true rfl); (case h2 => decide); (walk_at "dv nm")) | ((with_reducible refine' we_var ?h ?s ?_); (case' h => rfl); (case s => walk_at "dv st")) | ((with_reducible refine' size_and ?sz ?_); (case sz => rw [sizeLine_eq]; exact Nat.le_of_ble_eq_true rfl)) | (with_reducible refine wb_of ?_))
local macro_rules | `(tactic| walk_at "dv") => `(tactic| repeat (walk_at "dv 1"))
theorem chgNew {Z : Addr → Prop} {H H' : Hp} {t' nt : T} {v nv : V} {rest : List T} {vs' : List V} {f1 f2 fp nw : List Addr} (r2 : Reps Z H rest vs' f2) (e : fp = f1 ++ f2) (nd : fp.Nodup) (nz : ∀ a ∈ fp, ¬ Z a) (th : ∀ a ∈ f1, NoTup H a) (f : Fm f1 H H') (ht : ∀ Z', Rep Z' H' t' v f1)
    (rt : ∀ a ∈ fp, ∃ o, H a = some o) (nn : nw.Nodup) (hn : ∀ a ∈ nw, H a = none) (rn : Rep (fun a => a ∉ nw ++ fp ∧ (Z a ∨ H a = none ∨ a ∈ fp)) H' nt nv nw) :
    Reps (fun a => a ∉ nw ++ fp ∧ (Z a ∨ H a = none ∨ a ∈ fp)) H' (nt :: t' :: rest) (nv :: v :: vs') (nw ++ fp) ∧ (nw ++ fp).Nodup ∧ (∀ a ∈ nw ++ fp, H a = none ∨ a ∈ fp) ∧ Fm fp H H' := by
  have nd0 := nd
  rw [e] at nd
  have dj := (List.nodup_append.mp nd).2.2
  have tp : Tps H H' := fun a u ea hu => f a _ ea fun q => by
    obtain ⟨o, eo, no⟩ := th a q
    rw [ea] at eo
    cases eo
    rw [no] at hu
    cases hu
  have sh : ∀ a o, Z a → H a = some o → (a ∉ nw ++ fp ∧ (Z a ∨ H a = none ∨ a ∈ fp)) ∧ H' a = some o := fun a o z ea => ⟨⟨fun q => by
    rcases List.mem_append.mp q with q | q
    · rw [hn a q] at ea; cases ea
    · exact nz a q z, .inl z⟩, f a o ea fun q => nz a (by rw [e]; exact List.mem_append_left _ q) z⟩
  refine ⟨?_, List.nodup_append.mpr ⟨nn, nd0, fun a ha b hb eab => ?_⟩, fun a ha => ?_, f.wide fun x hx => by rw [e]; exact List.mem_append_left _ hx⟩
  · unfold Reps
    refine ⟨_, _, nw, fp, rfl, rfl, rn, ?_⟩
    unfold Reps
    exact ⟨_, _, f1, f2, rfl, e, ht _, r2.go _ _ _ ⟨tp, sh, fun a ha o ea => f a o ea fun q => dj a q a ha rfl⟩⟩
  · obtain ⟨o, q⟩ := rt b hb
    rw [← eab, hn a ha] at q
    cases q
  · rcases List.mem_append.mp ha with q | q
    · exact .inl (hn a q)
    · exact .inr q
theorem conv_mixed {Kf : PySem.W.Frag} {vs : List V} {H : Hp} {Q : VK} {E : XK} (h : spT gMixed vs H Q E) : spMixed Kf vs H Q E := by
  obtain ⟨ts, Z, fp, r, nd, nz, o, xs, e, hs, hl, k⟩ := h
  subst e
  have rt : ∀ a ∈ fp, ∃ o, H a = some o := fun a ha => by
    obtain ⟨o, e, _⟩ := r.there _ _ _ a ha
    exact ⟨o, e⟩
  obtain ⟨v, vs', f1, f2, e1, e2, z, r2⟩ := reps2 r
  obtain ⟨u, e3, zu⟩ := reps1 r2
  obtain ⟨b, c, e4, G, e5⟩ := z.bag
  have th : ∀ a ∈ f1, NoTup H a := z.there
  subst e4
  subst e3
  subst e1
  have hbf : b ∈ fp := by rw [e2, e5]; simp
  have hb2 : b ∉ f2 := fun q => by
    rw [e2, e5] at nd
    exact (List.nodup_append.mp nd).2.2 b (by simp) b q rfl
  obtain ⟨cur, seed, ix, ns, h1, _⟩ := id G
  obtain ⟨a, ws, e6, hab, hsq, rx⟩ := items_off (Kf := Kf) zu rfl hs (nz b hbf) hb2 h1 rfl
  unfold Rep at zu
  obtain ⟨a', ws', g', e7, q2, q3, _⟩ := zu
  subst e6
  cases e7
  have hgz := Reps.still _ _ _ q3 hs
  subst hgz
  have hlen := q3.len
  refine ⟨b, c, a, ws', rfl, by omega, hab, SqL.of q2, G, fun q ys H' hq hq' hp B' f' => ?_⟩
  obtain ⟨ts', p', r3⟩ := Reps.perm hp q3
  have f1' : Fm f1 H H' := f'.wide fun x hx => by
    rw [List.mem_singleton] at hx
    rw [hx, e5]
    exact List.mem_cons_self
  have tp : Tps H H' := fun a u ea hu => f1' a _ ea fun q => by
    obtain ⟨o, eo, no⟩ := th a q
    rw [ea] at eo
    cases eo
    rw [no] at hu
    cases hu
  obtain ⟨w1, w2, w3, w4⟩ := chgNew (nt := .lst true ts') (nv := .ref q) (t' := bagT) (v := .ref b) (nw := [q]) r2 e2 nd nz th f1' (fun Z' => by rw [e5]; exact rep_bag B') rt (by simp) (fun x hx => by rw [List.mem_singleton] at hx; rw [hx]; exact hq) (by
    unfold Rep
    refine ⟨q, ys, [], rfl, hq', ?_, by simp⟩
    refine r3.go _ _ _ ⟨tp, fun x o z ex => ⟨⟨fun y => ?_, .inl z⟩, f1' x o ex fun y => nz x (by rw [e2]; exact List.mem_append_left _ y) z⟩, fun x hx => (List.not_mem_nil hx).elim⟩
    rcases List.mem_append.mp y with y | y
    · rw [List.mem_singleton] at y
      rw [y, hq] at ex
      cases ex
    · exact nz x y z)
  exact k ts' p' _ H' _ w1 w2 w3 w4
def lab10 : List Str := ["u0.x", "l.a", "uc.c", "lc.c", "u1.x", "l.r1", "u.r1", "a", "b:1", "z"]
structure NamesOk (ns : List Str) : Prop where
  nd : ns.Nodup
  one : 1 ≤ ns.length
  few : ns.length ≤ 10
  sub : ∀ n ∈ ns, n ∈ lab10
end Rs
set_option maxHeartbeats 4000000
namespace Rs
open PySem L2 PySem.Spec PyProof.Rows
local macro_rules | `(tactic| walk_at "dv nm") => `(tactic| dsimp only [List.set_cons_succ, List.set_cons_zero, hideT])
local macro_rules | `(tactic| walk_at "dv st") => `(tactic| first | rfl | exact kT_still _ | assumption)
local macro_rules | `(tactic| walk_at "dv 1") => `(tactic| first | (with_reducible (first | refine ws_seq ?_ | refine ws_asg ?_ | refine ws_ret ?_ | refine ws_drop ?_ | refine ws_if ?_ | refine ws_next ?_ | refine we_int ?_ | refine we_str ?_ | refine we_bl ?_ | refine we_non ?_ | refine we_tup ?_ | refine we_lst ?_ | refine wa_cons ?_ | refine wa_nil ?_ | refine wo_cons ?_ | refine wo_nil ?_ | refine wt_test ?_ | refine wt_B ?_ | refine wt_not ?_ | refine wt_and ?_ | refine wt_or ?_ | refine we_if ?_ | refine we_notV ?_ | refine we_andV ?_ | refine we_orV ?_ | refine we_dnew ?_ | refine wb_var ⟨_, rfl⟩ ?_)) | ((with_reducible refine' wg_name ?h1 ?h2 ?_); (case h1 => exact Nat.le_of_ble_eq_true rfl); (case h2 => decide); (walk_at "dv nm")) | ((with_reducible refine' we_var ?h ?s ?_); (case' h => rfl); (case s => walk_at "dv st")) | ((with_reducible refine' size_and ?sz ?_); (case sz => rw [sizeLine_eq]; exact Nat.le_of_ble_eq_true rfl)) | (with_reducible refine wb_of ?_))
local macro_rules | `(tactic| walk_at "dv") => `(tactic| repeat (walk_at "dv 1"))
def opsN : List Str := ["f", "g", "7", "add", "h"]
theorem ws_seqM {fr : Fr} {pn : List Nat} {tmp : List T} {sl : Sl} {s u : TS} {K : KS} (M : Sl → Prop) (h : WS fr pn tmp sl s { K with nx := M }) (k : ∀ sl', M sl' → WS fr pn tmp sl' u K) : WS fr pn tmp sl (tSeq s u) K := fun pv tv σ H D r n rt b ct =>
  h pv tv σ H _ r (fun sl' σ' H' m r' => k sl' m pv tv σ' H' D r' n rt b ct) rt b ct
end Rs
set_option maxHeartbeats 4000000
namespace Rs
open PySem L2 PySem.Spec PyProof.Rows
local macro_rules | `(tactic| walk_at "dv nm") => `(tactic| dsimp only [List.set_cons_succ, List.set_cons_zero, hideT])
local macro_rules | `(tactic| walk_at "dv st") => `(tactic| first | rfl | exact kT_still _ | assumption)
local macro_rules | `(tactic| walk_at "dv 1") => `(tactic| first | (with_reducible (first | refine ws_seq ?_ | refine ws_asg ?_ | refine ws_ret ?_ | refine ws_drop ?_ | refine ws_if ?_ | refine ws_next ?_ | refine we_int ?_ | refine we_str ?_ | refine we_bl ?_ | refine we_non ?_ | refine we_tup ?_ | refine we_lst ?_ | refine wa_cons ?_ | refine wa_nil ?_ | refine wo_cons ?_ | refine wo_nil ?_ | refine wt_test ?_ | refine wt_B ?_ | refine wt_not ?_ | refine wt_and ?_ | refine wt_or ?_ | refine we_if ?_ | refine we_notV ?_ | refine we_andV ?_ | refine we_orV ?_ | refine we_dnew ?_ | refine wb_var ⟨_, rfl⟩ ?_)) | ((with_reducible refine' wg_name ?h1 ?h2 ?_); (case h1 => exact Nat.le_of_ble_eq_true rfl); (case h2 => decide); (walk_at "dv nm")) | ((with_reducible refine' we_var ?h ?s ?_); (case' h => rfl); (case s => walk_at "dv st")) | ((with_reducible refine' size_and ?sz ?_); (case sz => rw [sizeLine_eq]; exact Nat.le_of_ble_eq_true rfl)) | (with_reducible refine wb_of ?_))
local macro_rules | `(tactic| walk_at "dv") => `(tactic| repeat (walk_at "dv 1"))
def rDictP (Kf : PySem.W.Frag) : List V → Hp → VK → Prop := fun xs H Q => ∃ (a : Addr) (ps : List Addr) (kvs : List (Key × V)), xs = [.ref a] ∧ SqL Kf H a (ps.map V.ref) ∧ Paired (fun p kv => SqT Kf H p [kV kv.1, kv.2]) ps kvs ∧
    ∀ p, H p = none → Q (.ref p) (upd H p (.dK (mergeK [] kvs)))
theorem c_dictPK {X : Cx} {K : PySem.W.Frag} (h : X.K = K) (hc : X.calm = true := by rfl) : CallR X (.type "dict") (rDictP K) := by
  subst h
  exact call_dictP hc
theorem merge_nodup : ∀ {kvs acc : List (Key × V)}, ((acc ++ kvs).map (·.1)).Nodup → mergeK acc kvs = acc ++ kvs
  | [], acc, _ => by rw [List.append_nil]; rfl
  | kv :: r, acc, h => by
    have hno : ∀ p ∈ acc, p.1 ≠ kv.1 := fun p hp e => by
      rw [List.map_append] at h
      exact (List.nodup_append.mp h).2.2 p.1 (List.mem_map.mpr ⟨p, hp, rfl⟩) kv.1 (by simp) e
    have e1 : putK acc kv.1 kv.2 = acc ++ [kv] := by
      unfold putK
      rw [if_neg]
      intro z
      obtain ⟨p, hp, e⟩ := List.any_eq_true.mp z
      exact hno p hp (by simpa using e)
    show mergeK (putK acc kv.1 kv.2) r = _
    rw [e1, merge_nodup (by rw [List.append_assoc]; exact h), List.append_assoc]
    rfl
theorem we_callG {fr : Fr} {pn : List Nat} {tmp : List T} {sl : Sl} {KE : T → Sl → Prop} {args : TA} {g : List T → (T → List T → Prop) → Prop} {E : XK} (m : Mono g) (h : WO fr pn tmp sl args fun os sl1 => ∃ as sl2, gatherT os sl1 = some (as, sl2) ∧ g as fun t ts' => ∃ sl3, scatterT os ts' sl2 = some sl3 ∧ KE t sl3) : WE fr pn tmp sl (fun σ H Q => args σ H fun vs H1 => spT g vs H1 Q E) KE := fun pv tv σ H Q r q =>
  h pv tv σ H _ r fun os sl1 vs ts us H1 k o r1 => by
    obtain ⟨as, sl2, e1, k⟩ := k
    obtain ⟨r2, hl⟩ := gather o r1 e1
    refine call_core r2 hl k (m as) fun t ts' v H' kk r3 hl3 => ?_
    obtain ⟨sl3, e3, kk⟩ := kk
    exact q t sl3 v H' kk (scatter o (r3.unrot hl3.symm) e3)
theorem FnG.weak {P : Program} {w : World} {K : PySem.W.Frag} {mg : Str → Option Value} {base : Heap} {CX : CXT} {k : Nat} {f : Addr} {fd : FuncData} {ps : List Str} {sp sp' : Sp} (F : FnG P w K mg base CX k f fd ps sp) (h : ∀ vs H Q E, sp' vs H Q E → sp vs H Q E) : FnG P w K mg base CX k f fd ps sp' :=
  ⟨fun vs H Q E z => F.many vs H Q E (h vs H Q E z), fun A around s H given us vs Q E hg a b c d z => F.goes A around s H given us vs Q E hg a b c d (h vs H Q E z)⟩
end Rs
set_option maxHeartbeats 4000000
namespace Rs
open PySem L2 PySem.Spec PyProof.Rows PySem.PyData
theorem nat_ok {n : Nat} (h : n < 10 ^ 6) : okD (.int (n : Int)) = true := by
  show decide ((n : Int).natAbs < 10 ^ 12) = true
  exact decide_eq_true (by omega)
theorem toPys_map (ks : List NestedKey) : toPys ks = ks.map toPy := by
  induction ks with
  | nil => rfl
  | cons k r ih => rw [List.map_cons, ← ih]; rfl
theorem okDs_map {α : Type} {f : α → PyData} : ∀ {xs : List α}, (∀ x ∈ xs, okD (f x) = true) → okDs (xs.map f) = true
  | [], _ => rfl
  | x :: r, h => by
    rw [List.map_cons]
    show (okD (f x) && okDs (r.map f)) = true
    rw [h x List.mem_cons_self, okDs_map fun y hy => h y (List.mem_cons_of_mem _ hy)]
    rfl
theorem depths_map {α : Type} {f : α → PyData} {d : Nat} : ∀ {xs : List α}, (∀ x ∈ xs, (f x).depth ≤ d) → PyData.depthAll (xs.map f) ≤ d
  | [], _ => Nat.zero_le _
  | x :: r, h => by
    rw [List.map_cons]
    show max (f x).depth (PyData.depthAll (r.map f)) ≤ d
    have h1 := h x List.mem_cons_self
    have h2 := depths_map (xs := r) (d := d) fun y hy => h y (List.mem_cons_of_mem _ hy)
    omega
theorem cnts_map {α : Type} {f : α → PyData} {c : Nat} : ∀ {xs : List α}, (∀ x ∈ xs, cnt (f x) ≤ c) → cnts (xs.map f) ≤ c * xs.length
  | [], _ => Nat.zero_le _
  | x :: r, h => by
    rw [List.map_cons, List.length_cons]
    show cnt (f x) + cnts (r.map f) ≤ c * (r.length + 1)
    have h1 := h x List.mem_cons_self
    have h2 := cnts_map (xs := r) (c := c) fun y hy => h y (List.mem_cons_of_mem _ hy)
    rw [Nat.mul_add, Nat.mul_one]
    omega
structure Small (d : PyData) (dp c : Nat) : Prop where
  ok : okD d = true
  deep : d.depth ≤ dp
  few : cnt d ≤ c
theorem Small.tup {α : Type} {f : α → PyData} {xs : List α} {dp c : Nat} (h : ∀ x ∈ xs, Small (f x) dp c) : Small (.tuple (xs.map f)) (dp + 1) (c * xs.length + 1) :=
  ⟨okDs_map fun x hx => (h x hx).ok, Nat.succ_le_succ (depths_map fun x hx => (h x hx).deep), Nat.succ_le_succ (cnts_map fun x hx => (h x hx).few)⟩
theorem Small.two {a b : PyData} {dp c : Nat} (h1 : Small a dp c) (h2 : Small b dp c) : Small (.tuple [a, b]) (dp + 1) (2 * c + 1) := by
  have := Small.tup (f := id) (xs := [a, b]) (dp := dp) (c := c) fun x hx => by
    rcases List.mem_cons.mp hx with rfl | hx
    · exact h1
    · rw [List.mem_singleton] at hx; subst hx; exact h2
  rw [List.map_id] at this
  have e : c * [a, b].length + 1 = 2 * c + 1 := by show c * 2 + 1 = _; omega
  rw [e] at this
  exact this
theorem Small.pair {a b : PyData} {dp c e : Nat} (h1 : Small a dp c) (h2 : Small b dp e) : Small (.tuple [a, b]) (dp + 1) (c + e + 1) := by
  refine ⟨?_, ?_, ?_⟩
  · show (okD a && (okD b && true)) = true
    rw [h1.ok, h2.ok]
    rfl
  · have p := h1.deep
    have q := h2.deep
    show max a.depth (max b.depth 0) + 1 ≤ dp + 1
    omega
  · have p := h1.few
    have q := h2.few
    show (cnt a + (cnt b + 0)) + 1 ≤ c + e + 1
    omega
theorem Small.wide {d : PyData} {dp c dp' c' : Nat} (h : Small d dp c) (h1 : dp ≤ dp') (h2 : c ≤ c') : Small d dp' c' := ⟨h.ok, Nat.le_trans h.deep h1, Nat.le_trans h.few h2⟩
theorem small_str {s : Str} (h : okD (.str s) = true) : Small (.str s) 0 1 := ⟨h, Nat.le_refl _, Nat.le_refl _⟩
theorem small_nat {n : Nat} (h : n < 10 ^ 6) : Small (.int (n : Int)) 0 1 := ⟨nat_ok h, Nat.le_refl _, Nat.le_refl _⟩
def LOps (G : List NestedKey) : Prop := ∀ (o : Str) (ps : List Nat), opR o ps ∈ G → o ∈ opsN ∧ ps.length ≤ 3
end Rs
set_option maxHeartbeats 4000000
namespace Rs
open PySem L2 PySem.Spec PyProof.Rows PySem.PyData
def newL (t : Int) : NestedKey := .tup [.text "letter", .text "new", .num t]
structure LawOk (j : Nat) (ns : List Str) (G : List NestedKey) (st : Homes) : Prop where
  lr : LRows G
  nd : G.Nodup
  lo : LOps G
  len : G.length ≤ 10 + j
  new : ∀ t : Int, newL t ∈ G → t < (j : Int)
  ho : HomesOk G.length st
  sub : ∀ l ∈ st.map (·.1), l ∈ ns
  no : NamesOk ns
section
variable {j : Nat} {ns : List Str} {G : List NestedKey} {st : Homes} {rows : List NestedKey} {pl : Homes} {R : Nat → Nat → Prop}
theorem LawOk.wld (h : LawOk j ns G st) : Wld (G.map nrm) st := wld_of h.lr h.nd h.ho
theorem LRows.add (h : LRows G) {k : NestedKey} (hk : (∃ r, k = .tup (.text "letter" :: r)) ∨ ∃ o ps, k = opR o ps ∧ ps.length ≤ 10 ∧ ∀ p ∈ ps, p < G.length) : LRows (addK G k) := fun i x hx => by
  unfold addK at hx
  split at hx
  · exact h i x hx
  · rw [List.getElem?_append] at hx
    split at hx
    · exact h i x hx
    · rename_i hi
      have := (List.getElem?_eq_some_iff.mp hx).1
      rw [List.length_singleton] at this
      have hi0 : i - G.length = 0 := by omega
      rw [hi0] at hx
      cases (Option.some.inj hx)
      rcases hk with ⟨r, e⟩ | ⟨o, ps, e, h10, hp⟩
      · exact .inl ⟨r, e⟩
      · exact .inr ⟨o, ps, e, h10, fun p hpm => by have := hp p hpm; omega⟩
theorem nrm_add (h : LRows G) (nd : G.Nodup) {k : NestedKey} (h' : LRows (addK G k)) : (addK G k).map nrm = addK (G.map nrm) (nrm k) ∧ (G.map nrm).idxOf (nrm k) = G.idxOf k := by
  have w := wld_of (st := []) h nd ⟨List.nodup_nil, fun p hp => (nomatch hp)⟩
  by_cases hk : k ∈ G
  · have e1 : addK G k = G := if_pos hk
    have e2 : addK (G.map nrm) (nrm k) = G.map nrm := if_pos (List.mem_map.mpr ⟨k, hk, rfl⟩)
    refine ⟨by rw [e1, e2], ?_⟩
    have hi := addK_at G k
    rw [e1] at hi
    exact idx_of w.nd (by rw [List.getElem?_map, hi]; rfl)
  · have e1 : addK G k = G ++ [k] := if_neg hk
    have hn : nrm k ∉ G.map nrm := fun z => by
      obtain ⟨x, hx, e⟩ := List.mem_map.mp z
      obtain ⟨i, hi⟩ := List.mem_iff_getElem?.mp hx
      have h1 : (addK G k)[i]? = some x := by rw [addK_ext G k (List.getElem?_eq_some_iff.mp hi).1]; exact hi
      have := nrm_inj h' h1 (addK_at G k) e
      exact hk (by rw [← this]; exact hx)
    have e2 : addK (G.map nrm) (nrm k) = G.map nrm ++ [nrm k] := if_neg hn
    refine ⟨by rw [e1, e2, List.map_append]; rfl, ?_⟩
    rw [List.idxOf_eq_length hn, List.idxOf_eq_length hk, List.length_map]
theorem LawOk.wide {j' : Nat} (h : LawOk j ns G st) (hj : j ≤ j') : LawOk j' ns G st := ⟨h.lr, h.nd, h.lo, by have := h.len; omega, fun t ht => by have := h.new t ht; omega, h.ho, h.sub, h.no⟩
theorem addK_mem {L : List NestedKey} {k x : NestedKey} (h : x ∈ addK L k) : x ∈ L ∨ x = k := by
  unfold addK at h
  split at h
  · exact .inl h
  · rcases List.mem_append.mp h with h | h
    · exact .inl h
    · exact .inr (List.mem_singleton.mp h)
theorem opR_newL {o : Str} {ps : List Nat} {t : Int} : newL t ≠ opR o ps := let_op
theorem LawOk.op (h : LawOk j ns G st) (o : Opn (G.map nrm) st rows pl R) {l op : Str} {ps : List Str} (hl : l ∈ ns) (ho : op ∈ opsN) (h3 : ps.length ≤ 3) (hps : ∀ p ∈ ps, p ∈ st.map (·.1)) :
    LawOk (j + 1) ns (addK G (opR op (ps.map (homeOf st)))) (setH st l (G.idxOf (opR op (ps.map (homeOf st))))) ∧ canonK ((addK G (opR op (ps.map (homeOf st)))).map nrm) (setH st l (G.idxOf (opR op (ps.map (homeOf st))))) = opNew rows pl l op ps := by
  have hlt : ∀ p ∈ ps.map (homeOf st), p < G.length := fun p hp => by
    obtain ⟨q, hq, e⟩ := List.mem_map.mp hp
    rw [← e]
    exact (home_lt h.ho (hps q hq)).1
  have lr' : LRows (addK G (opR op (ps.map (homeOf st)))) := h.lr.add (.inr ⟨op, _, rfl, by rw [List.length_map]; omega, hlt⟩)
  obtain ⟨e1, e2⟩ := nrm_add h.lr h.nd lr'
  rw [nrm_op] at e1 e2
  have hal := addK_len G (opR op (ps.map (homeOf st)))
  have hai := addK_idx G (opR op (ps.map (homeOf st)))
  refine ⟨⟨lr', addK_nd h.nd, fun o2 qs hm => ?_, by have := h.len; omega, fun t ht => ?_, setH_ok h.ho hal.2 hai, fun x hx => ?_, h.no⟩, ?_⟩
  · rcases addK_mem hm with hm | hm
    · exact h.lo o2 qs hm
    · obtain ⟨q1, q2⟩ := opR_inj hm
      rw [q1, q2, List.length_map]
      exact ⟨ho, h3⟩
  · rcases addK_mem ht with ht | ht
    · have := h.new t ht; omega
    · exact absurd ht opR_newL
  · rcases setH_mem.mp hx with e | e
    · rw [e]; exact hl
    · exact h.sub x e
  · rw [e1, ← e2]
    exact op_step h.wld o l op hps (by omega)
theorem LawOk.same (h : LawOk j ns G st) (o : Opn (G.map nrm) st rows pl R) {l m : Str} (hl : l ∈ ns) (hm : m ∈ st.map (·.1)) : LawOk (j + 1) ns G (setH st l (homeOf st m)) ∧ canonK (G.map nrm) (setH st l (homeOf st m)) = sameNew rows pl l m := by
  have h' := h.wide (Nat.le_succ j)
  refine ⟨⟨h'.lr, h'.nd, h'.lo, h'.len, h'.new, setH_ok h.ho (Nat.le_refl _) (home_lt h.ho hm).1, fun x hx => ?_, h.no⟩, same_step h.wld o l hm⟩
  rcases setH_mem.mp hx with e | e
  · rw [e]; exact hl
  · exact h.sub x e
end
end Rs
set_option maxHeartbeats 4000000
namespace Rs
open PySem L2 PySem.Spec PyProof.Rows
inductive Rw (α : Type) where
  | got (a : α)
  | op (o : Str) (ps : List Nat)
def Rw.key {α : Type} (f : α → NestedKey) : Rw α → NestedKey
  | .got a => f a
  | .op o ps => opR o ps
abbrev GS := List NestedKey × List Nat
def natT (ns : List Nat) : List T := ns.map fun n : Nat => T.int (n : Int)
theorem natT_len (ns : List Nat) : (natT ns).length = ns.length := List.length_map _
theorem natT_snoc (ns : List Nat) (n : Nat) : natT (ns ++ [n]) = natT ns ++ [.int (n : Int)] := by unfold natT; rw [List.map_append]; rfl
theorem natT_still : ∀ ns : List Nat, stillA (natT ns) = true
  | [] => rfl
  | n :: r => by unfold natT; rw [List.map_cons]; unfold stillA T.still; exact natT_still r
theorem natT_at {ns : List Nat} {i : Nat} (h : i < ns.length) : (natT ns)[i]? = some (.int ((ns.getD i 0 : Nat) : Int)) := by
  unfold natT
  rw [List.getElem?_map, List.getElem?_eq_getElem h, List.getD_eq_getElem?_getD, List.getElem?_eq_getElem h]
  rfl
theorem natT_of (ps : List Nat) : (ps.map fun p : Nat => (p : Int)).map T.int = natT ps := by unfold natT; rw [List.map_map]; rfl
end Rs
set_option maxHeartbeats 4000000
namespace Rs
open PySem L2 PySem.Spec PyProof.Rows
section
variable {fr : Fr} {pn : List Nat} {tmp : List T} {sl : Sl} {KE : T → Sl → Prop} {te : TE} {Kf Kf1 Kf2 Kf3 : PySem.W.Frag}
theorem set_none {sl : Sl} {p : Nat} (h : sl[p]? = some none) : sl.set p none = sl := by
  apply List.ext_getElem?
  intro i
  rw [List.getElem?_set]
  split
  · next e =>
    subst e
    split
    · exact h.symm
    · next z => rw [List.getElem?_eq_none (by omega)]
  · rfl
theorem set_ne {sl : Sl} {p i : Nat} {x : Option T} (h : p ≠ i) : (sl.set p x)[i]? = sl[i]? := List.getElem?_set_ne h
theorem set_eq {sl : Sl} {p : Nat} {x : Option T} (h : p < sl.length) : (sl.set p x)[p]? = some x := by rw [List.getElem?_set_self h]
theorem opd_val {sl : Sl} {i : Nat} {t : T} (h : sl[i]? = some (some t)) : Opd.val sl (.sl i) = some t := by unfold Opd.val; simp [h]
theorem we_opParts {ni ri p : Nat} {q : Bool} {ns ps : List Nat} {rowx : List T} (hn : sl[ni]? = some (some (.lst q (natT ns)))) (hr : sl[ri]? = some (some (.tup rowx))) (h2 : rowx[2]? = some (.tup (natT ps)))
    (hp : sl[p]? = some none) (hpp : p ∉ pn) (hne : p ≠ ni) (hlt : ∀ x ∈ ps, x < ns.length) (h10 : ps.length ≤ 10) (k : KE (.tup (natT (ps.map fun x => ns.getD x 0))) sl) :
    WE fr pn tmp sl (tCB (rTupOf Kf) (tCons (tLc (iTup Kf1 (tOp (rIxT Kf2) (tVar ri) (tC (.int 2)))) (gName p) tYes (tOp (rIxL Kf3) (tVar ni) (tVar p)) [p]) tNil)) KE := by
  have hpl : p < sl.length := (List.getElem?_eq_some_iff.mp hp).1
  refine we_tupleOf (we_lc (gown_name List.mem_cons_self) (wi_tup (we_ixT (wb_var ⟨_, hr⟩ (we_int ⟨rowx, (2 : Int), .tup (natT ps), opd_val hr, rfl, atI_nat h2, by unfold T.still; exact natT_still _, ?_⟩)))))
  refine ⟨natT ps, rfl, natT_still _, fun j hj => by rw [List.mem_singleton] at hj; rw [hj]; exact hpp, ?_⟩
  refine ⟨fun j acc sl' => acc = natT ((ps.take j).map fun x => ns.getD x 0) ∧ sl' = sl, ⟨rfl, set_none hp⟩, ?_, ?_⟩
  · rintro i acc sl' hi ⟨rfl, rfl⟩
    rw [natT_len] at hi
    have ep : ps[i]? = some ps[i] := List.getElem?_eq_getElem hi
    have ej2 : (natT ps).getD i .non = .int (ps[i] : Int) := by
      unfold natT
      rw [List.getD_eq_getElem?_getD, List.getElem?_map, ep]
      rfl
    dsimp only
    rw [ej2]
    refine ⟨by rw [natT_len, List.length_map, List.length_take, sizeLine_eq]; omega, ?_⟩
    refine wg_name hpl hpp ?_
    refine wt_yes (if_yes rfl ?_)
    have hn' : (sl'.set p (some (.int (ps[i] : Int))))[ni]? = some (some (.lst q (natT ns))) := (set_ne hne).trans hn
    refine we_ixL (wb_var ⟨_, hn'⟩ (we_var (set_eq hpl) rfl ⟨q, natT ns, (ps[i] : Int), .int ((ns.getD ps[i] 0 : Nat) : Int), opd_val hn', rfl, atI_nat (natT_at (hlt _ (List.getElem_mem hi))), rfl, ?_⟩))
    refine ⟨?_, ?_⟩
    · rw [List.take_succ, ep, List.map_append]
      exact (natT_snoc _ _).symm
    · show (sl'.set p _).set p none = sl'
      rw [List.set_set]
      exact set_none hp
  · rintro acc sl' ⟨rfl, rfl⟩
    rw [natT_len, List.take_length]
    exact ⟨true, _, rfl, k⟩
theorem we_neg (h : WE fr pn tmp sl te fun t sl1 => ∃ i : Int, t = .int i ∧ KE (.int (-i)) sl1) : WE fr pn tmp sl (tUn (rU fun i => V.int (-i)) te) KE := fun pv tv σ H Q r q => h pv tv σ H _ r fun t sl1 v H1 ⟨i, e, k⟩ r1 => by
  subst e
  obtain ⟨Z, f, z⟩ := r1.top
  exact ⟨i, v_int z, q _ sl1 _ H1 k (r1.pop.lit lit_int)⟩
end
end Rs
set_option maxHeartbeats 4000000
namespace Rs
open PySem L2 PySem.Spec PyProof.Rows
end Rs
set_option maxHeartbeats 4000000
namespace Rs
open PySem L2 PySem.Spec PyProof.Rows
end Rs
set_option maxHeartbeats 4000000
namespace Rs
open PySem L2 PySem.Spec PyProof.Rows
theorem inV_strs (x : Str) (ss : List Str) : inV (.str x) (ss.map V.str) = decide (x ∈ ss) := by
  unfold inV
  rw [List.any_map]
  induction ss with
  | nil => rfl
  | cons s r ih =>
    rw [List.any_cons, ih]
    show ((s == x) || decide (x ∈ r)) = decide (x ∈ s :: r)
    by_cases e : x = s
    · subst e
      simp
    · have : (s == x) = false := by rw [beq_eq_false_iff_ne]; exact fun z => e z.symm
      rw [this]
      simp [e]
section
variable {fr : Fr} {pn : List Nat} {tmp : List T} {sl : Sl} {KE : T → Sl → Prop} {te ta tb tc : TE} {Kf : PySem.W.Frag}
def gIxS (t1 t2 : T) (K : T → Prop) : Prop := ∃ (z : Str) (i : Int) (c : Nat), t1 = .str z ∧ t2 = .int i ∧ z.length ≤ sizeLine ∧ atI z.cps.toList i = some c ∧ K (.str ⟨#[c]⟩)
theorem op2_ixS : Op2 rIxS gIxS := fun Z1 Z2 H t1 v1 f1 t2 v2 f2 Q K r1 r2 ⟨z, i, c, e1, e2, h1, h2, k⟩ q => by
  subst e1
  subst e2
  obtain rfl := v_str r1
  obtain rfl := v_int r2
  exact ⟨z, i, c, rfl, rfl, h1, h2, q _ _ H k lit_str (Fm.refl _ _)⟩
def gInS (neg : Bool) (t1 t2 : T) (K : T → Prop) : Prop := ∃ (c : Nat) (z : Str), t1 = .str ⟨#[c]⟩ ∧ t2 = .str z ∧ K (.bl (if neg = true then !decide (c ∈ z.cps.toList) else decide (c ∈ z.cps.toList)))
theorem op2_inS : Op2 rInS (gInS false) := fun Z1 Z2 H t1 v1 f1 t2 v2 f2 Q K r1 r2 ⟨c, z, e1, e2, k⟩ q => by
  subst e1
  subst e2
  obtain rfl := v_str r1
  obtain rfl := v_str r2
  exact ⟨c, z, rfl, rfl, q _ _ H k lit_bl (Fm.refl _ _)⟩
theorem yl_str {x : Str} : Yl (Its x) [] x.cps.size [] fun j => .str ⟨#[(x.cps[j]?).getD 0]⟩ := fun fr pn pv tmp tv sl σ H r =>
  ⟨fun i hi => hi, Nat.le_refl _, fun i y H' hi h => by
    obtain ⟨rfl, c, hc, rfl⟩ := h
    show R fr pn pv (.str ⟨#[(x.cps[i]?).getD 0]⟩ :: tmp) (V.str ⟨#[c]⟩ :: tv) sl σ _
    rw [hc]
    exact R.lit (show R fr pn pv tmp tv sl σ _ from r) lit_str⟩
theorem wi_str {KI : Nat → List T → (Nat → T) → Option Nat → Sl → Prop} (h : WE fr pn tmp sl te fun t sl1 => ∃ x : Str, t = .str x ∧ KI x.cps.size [] (fun j => .str ⟨#[(x.cps[j]?).getD 0]⟩) none sl1) : WI fr pn tmp sl (iStr te) KI := fun pv tv σ H Rk r q =>
  h pv tv σ H _ r fun t sl1 v H1 ⟨x, e, k⟩ r1 => by
    subst e
    obtain ⟨Z, f, z⟩ := r1.top
    obtain rfl := v_str z
    exact ⟨x, rfl, q _ [] _ none sl1 [] _ H1 k rfl yl_str (fun i z => nomatch z) r1.pop⟩
end
end Rs
set_option maxHeartbeats 4000000
namespace Rs
open PySem L2 PySem.Spec PyProof.Rows
end Rs
set_option maxHeartbeats 4000000
namespace Rs
open PySem L2 PySem.Spec PyProof.Rows LamX
section
variable {fr : Fr} {pn : List Nat} {tmp ts : List T} {sl : Sl} {KE : T → Sl → Prop} {K : KS} {te th ta tb : TE} {Kf : PySem.W.Frag} {i : Nat}
theorem R.itemsL {pv : Nat → V} {tv : List V} {σ : L2.St} {H : Hp} {o : Bool} {xs : List T} {v : V} (r : R fr pn pv (.lst o xs :: tmp) (v :: tv) sl σ H) (hs : stillA xs = true) : ∃ a vs, v = .ref a ∧ H a = some (.lst vs) ∧ vs.length = xs.length ∧ ∀ k, R fr pn pv (xs.drop k ++ tmp) (vs.drop k ++ tv) sl σ H := by
  obtain ⟨f1, f2, rf⟩ := id r
  have hh := rf.hands
  unfold Reps at hh
  obtain ⟨v', vs', g1, g2, e1, e2, zl, b⟩ := hh
  cases e1
  unfold Rep at zl
  obtain ⟨a, vs, fp', q1, q2, q3, q4⟩ := zl
  have := Reps.still _ _ _ q3 hs
  subst this
  refine ⟨a, vs, q1, q2, q3.len, fun k => ?_⟩
  have sub : ∀ x ∈ g2 ++ f2, x ∈ f1 ++ f2 := fun x hx => by
    rw [e2, List.append_assoc]
    exact List.mem_append_right _ hx
  have nd := rf.nd
  rw [e2, List.append_assoc] at nd
  have go : ∀ f, Go (Zf fr (f1 ++ f2)) (Zf fr (g2 ++ f2)) H H f := fun f => Go.same (Zf.mono sub)
  have dropN : ∀ (xs : List T) (vs : List V) (k : Nat), Reps (Zf fr (f1 ++ f2)) H xs vs [] → Reps (Zf fr (f1 ++ f2)) H (xs.drop k) (vs.drop k) [] := fun xs => by
    induction xs with
    | nil =>
      intro vs k h
      unfold Reps at h
      rw [h.1, List.drop_nil, List.drop_nil]
      unfold Reps
      exact ⟨rfl, rfl⟩
    | cons x r ih =>
      intro vs k h
      cases k with
      | zero => exact h
      | succ k =>
        unfold Reps at h
        obtain ⟨w, ws, h1, h2, e1, e2, _, b⟩ := h
        obtain ⟨rfl, rfl⟩ := List.append_eq_nil_iff.mp e2.symm
        rw [e1]
        exact ih ws k b
  exact ⟨[] ++ g2, f2, by rw [List.nil_append]; exact ((dropN xs vs k q3).go _ _ _ (go _)).join (b.go _ _ _ (go _)), rf.slots.go (go _), (List.nodup_append.mp nd).2.1, fun x hx => rf.own x (sub x hx), rf.fm, rf.pins⟩
theorem cutV_drop (vs : List V) (k : Nat) : cutV vs (some (k : Int)) none = vs.drop k := by
  unfold cutV
  rw [HT.sIx_nat, HT.sIx_none]
  by_cases h : k ≤ vs.length
  · rw [Nat.min_eq_left h]
    exact List.take_of_length_le (by rw [List.length_drop]; omega)
  · rw [Nat.min_eq_right (by omega), List.drop_of_length_le (Nat.le_refl _), List.drop_of_length_le (by omega)]
    exact List.take_nil
end
end Rs
set_option maxHeartbeats 4000000
namespace Rs
open PySem L2 PySem.Spec PyProof.Rows
end Rs
set_option maxHeartbeats 4000000
namespace Rs
open PySem L2 PySem.Spec PyProof.Rows HT
def NewT (H : Hp) (xs : List V) (Q : VK) : Prop := ∀ p (o : Obj), H p = none → o.dict = none → Q (.ref p) (upd H p (.frz o (.tup xs)))
section
variable {X : Cx} {e : Expr} {es : List Expr} {te : TE} {t : TA} {pos : Pos}
theorem new_ok {pins : List (Addr × Obj)} {σ : L2.St} {H : Hp} {s : Shared} {xs : List V} {its : List Value} {Q : VK} (I : Inv X pins σ H s) (r : Vals xs its) (hz : xs.length ≤ sizeLine) (q : NewT H xs Q) : EP X pins σ Q (.ref s.heap.objs.size) { s with heap := s.heap.push { cls := .type "tuple", data := .seq its.toArray } } :=
  ⟨.ref s.heap.objs.size, _, I.laid (t' := s.toks) (o := .frz { cls := .type "tuple", data := .seq its.toArray } (.tup xs)) (fun b ob q => Heap.get?_push_of_some _ q) (Nat.le_refl _) (show ObjOk X.prog X.w _ _ _ (.frz _ (.tup xs)) from ⟨Heap.get?_push_size _ rfl, hz, its, r, IsTup.new _ _⟩), rfl, q _ _ (I.hok.fresh (Nat.le_refl _)) rfl⟩
def tTupF (t : TA) : TE := fun σ H Q => t σ H fun xs H1 => xs.length ≤ sizeLine ∧ NewT H1 xs Q
theorem pe_tupF {x1} (h : PA X es t) : PE X (.Tuple es x1 pos) (tTupF t) := by
  refine ⟨fun pins s σ H Q I hq => ?_⟩
  refine wpAny_Tuple_spliced (thn (h.run pos pins s σ H _ I hq) fun us s1 ⟨xs, H1, I1, r, z, q⟩ => ⟨by rw [← r.length]; exact z, ?_⟩)
  exact new_ok I1 r z q
end
end Rs
set_option maxHeartbeats 4000000
namespace Rs
open PySem L2 PySem.Spec PyProof.Rows
def Wk (t t' : T) : Prop := ∀ Z H v f, Rep Z H t v f → Rep Z H t' v f
theorem Wk.rfl {t : T} : Wk t t := fun _ _ _ _ h => h
theorem wk_ptp {ts : List T} : Wk (.ptp ts) (.tup ts) := fun Z H v f h => by
  unfold Rep at h ⊢
  obtain ⟨a, o, vs, e1, e2, e3, r⟩ := h
  exact ⟨a, vs, e1, ⟨_, e3, by rfl⟩, r⟩
section
variable {fr : Fr} {pn : List Nat} {pv : Nat → V} {tmp ts : List T} {tv vs : List V} {sl : Sl} {σ : L2.St} {H : Hp} {t t' : T} {v : V} {KE : T → Sl → Prop} {KB : Opd → Sl → Prop} {te ta tb tl : TE} {args : TA} {Kf : PySem.W.Frag} {i : Nat} {K : KS} {p : Addr}
theorem R.weak (r : R fr pn pv (t :: tmp) (v :: tv) sl σ H) (w : Wk t t') : R fr pn pv (t' :: tmp) (v :: tv) sl σ H := by
  obtain ⟨f1, f2, r⟩ := r
  refine ⟨f1, f2, ?_, r.slots, r.nd, r.own, r.fm, r.pins⟩
  have h := r.hands
  unfold Reps at h ⊢
  obtain ⟨v', vs', g1, g2, e1, e2, a, b⟩ := h
  exact ⟨v', vs', g1, g2, e1, e2, w _ _ _ _ a, b⟩
theorem we_weak (h : WE fr pn tmp sl te fun t sl1 => ∃ t', Wk t t' ∧ KE t' sl1) : WE fr pn tmp sl te KE := fun pv tv σ H Q r q =>
  h pv tv σ H _ r fun t sl1 v H1 ⟨t', w, k⟩ r1 => q _ sl1 v H1 k (r1.weak w)
theorem R.mkPtp {o : Obj} (r : R fr pn pv (ts ++ tmp) (vs ++ tv) sl σ H) (hl : vs.length = ts.length) (hp : H p = none) (ho : o.dict = none) : R fr pn pv (.ptp ts :: tmp) (.ref p :: tv) sl σ (upd H p (.frz o (.tup vs))) := by
  obtain ⟨f1, f2, r⟩ := r
  obtain ⟨v1, v2, g1, g2, e1, e2, e3, a, b⟩ := r.hands.split
  obtain ⟨q1, q2⟩ := List.append_inj e1 (by omega)
  subst q1
  subst q2
  have g : ∀ f, Go (Zf fr (f1 ++ f2)) (Zf fr (f1 ++ f2)) H (upd H p (.frz o (.tup vs))) f := fun f => go_new hp fun _ _ z => z
  refine ⟨f1, f2, ?_, r.slots.go (g _), r.nd, r.own, r.fm.thenNew hp, r.pins⟩
  unfold Reps
  refine ⟨.ref p, tv, g1, g2, rfl, e3, ?_, b.go _ _ _ (g _)⟩
  unfold Rep
  exact ⟨p, o, vs, rfl, ho, upd_same, a.go _ _ _ (g _)⟩
theorem we_tupF (h : WA fr pn tmp sl args fun ts sl' => ts.length ≤ sizeLine ∧ KE (.ptp ts) sl') : WE fr pn tmp sl (tTupF args) KE := fun pv tv σ H Q r q =>
  h pv tv σ H _ r fun ts sl' vs H' k hl r' => ⟨by rw [hl]; exact k.1, fun p o hp ho => q _ sl' _ _ k.2 (r'.mkPtp hl hp ho)⟩
theorem Reps.part {Z : Addr → Prop} {g : List Addr} : ∀ {xs : List T} {vs : List V}, Reps Z H xs vs g → stillA xs = true → ∀ k n, Reps Z H ((xs.drop k).take n) ((vs.drop k).take n) [] := fun {xs vs} h hs k n => by
  have e := Reps.still _ _ _ h hs
  subst e
  have l := h.len
  have h0 : Reps Z H (xs.take k ++ xs.drop k) (vs.take k ++ vs.drop k) [] := by rw [List.take_append_drop, List.take_append_drop]; exact h
  obtain ⟨v1, v2, f1, f2, e1, e2, e3, a, b⟩ := h0.split
  obtain ⟨q1, q2⟩ := List.append_inj e1 (by rw [List.length_take, e2, List.length_take]; omega)
  obtain ⟨rfl, rfl⟩ := List.append_eq_nil_iff.mp e3.symm
  rw [← q2] at b
  exact b.takeN n
theorem we_tupleP (h : WE fr pn tmp sl te fun t sl1 => ∃ o xs, t = .lst o xs ∧ stillA xs = true ∧ KE (.ptp xs) sl1) : WE fr pn tmp sl (tCB (rTupF Kf) (tCons te tNil)) KE := fun pv tv σ H Q r q => by
  refine h pv tv σ H _ r fun t sl1 v H1 ⟨o, xs, e, hs, k⟩ r1 => ?_
  subst e
  obtain ⟨a, vs, e1, h1, hl1, r5⟩ := r1.itemsL hs
  exact ⟨a, vs, by rw [e1], SqL.of h1, fun p ob hp ho => q _ sl1 _ _ k ((show R fr pn pv (xs ++ tmp) (vs ++ tv) sl1 σ H1 from r5 0).mkPtp hl1 hp ho)⟩
end
end Rs
set_option maxHeartbeats 4000000
namespace Rs
open PySem L2 PySem.Spec PyProof.Rows
end Rs
set_option maxHeartbeats 4000000
namespace Rs
open PySem L2 PySem.Spec PyProof.Rows
section
variable {fr : Fr} {pn : List Nat} {tmp : List T} {sl : Sl} {KE : T → Sl → Prop} {g : TG} {tt : TT} {tk te : TE} {js : List Nat} {i : Nat}
theorem we_dcKeys {kvs : List (Key × T)} (hg : GOwn g js) (h : sl[i]? = some (some (.dk true kvs))) (hst : stillK kvs = true) (hjs : ∀ j ∈ js, j ∉ i :: pn)
    (hw : ∀ od ws, ∃ Iv : Nat → List (Key × T) → Sl → Prop, Iv 0 [] (hideT (sl.set i (some (.lk od ws kvs))) js) ∧ (∀ j acc sl', Iv j acc sl' → sl'[i]? = some (some (.lk od ws kvs))) ∧
      (∀ j acc sl', j < kvs.length → Iv j acc sl' → acc.length < sizeLine ∧ stillK acc = true ∧ WG fr (i :: pn) (.dk true acc :: tmp) sl' g ((kvs.map fun p => keyT p.1).getD j .non) fun sl2 => WT fr (i :: pn) (.dk true acc :: tmp) sl2 tt fun b sl3 =>
        if b = true then WE fr (i :: pn) (.dk true acc :: tmp) sl3 tk fun t2 sl4 => WE fr (i :: pn) (t2 :: .dk true acc :: tmp) sl4 te fun y sl5 => ∃ k, t2.key = some k ∧ y.still = true ∧ Iv (j + 1) (putT acc k y) (hideT sl5 js) else Iv (j + 1) acc (hideT sl3 js)) ∧
      ∀ acc sl', Iv kvs.length acc sl' → KE (.dk true acc) (sl'.set i (some (.dk true kvs)))) : WE fr pn tmp sl (tLockE (tDc (iKeys (tVar i)) g tt tk te js)) KE := fun pv tv σ H Q r q => by
  obtain ⟨v, ev, r1⟩ := r.take h
  obtain ⟨f1, f2, rf⟩ := id r1
  have hh := rf.hands
  unfold Reps at hh
  obtain ⟨v', vs', g1, g2, e1, e2, z, b⟩ := hh
  cases e1
  unfold Rep at z
  obtain ⟨a, ws, fp', q1, q2, q3, q4⟩ := z
  have := q3.fp0 hst
  subst this
  subst q1
  have hlen : i < sl.length := (List.getElem?_eq_some_iff.mp h).1
  refine ⟨a, .dK ws, q2, trivial, fun od => ?_⟩
  obtain ⟨Iv, i0, il, is, ie⟩ := hw od ws
  have rl : R fr pn pv (.lk od ws kvs :: tmp) (.ref a :: tv) (sl.set i none) σ (upd H a (.frz od (.dK ws))) := by
    refine R.rewrite r1 q2 rfl (fun Z f z => ?_) fun Z Z' H' z hH hz eH => ?_
    · unfold Rep at z
      obtain ⟨a', ws', f', y1, y2, y3, y4⟩ := z
      cases y1
      rw [y3.fp0 hst, if_pos rfl] at y4
      exact y4
    · unfold Rep at z ⊢
      obtain ⟨a', ws', f', y1, y2, y3, y4⟩ := z
      cases y1
      rw [q2] at y2
      cases y2
      have := y3.fp0 hst
      subst this
      refine ⟨a, [], rfl, hH, ?_, rfl⟩
      rw [eH]
      exact y3.go _ _ _ (go_put q2 rfl hz List.not_mem_nil)
  have rs : R fr pn pv tmp tv (sl.set i (some (.lk od ws kvs))) σ (upd H a (.frz od (.dK ws))) := by
    have := rl.give (i := i) (by rw [List.getElem?_set_self hlen]) ev
    rw [List.set_set] at this
    exact this
  have hg2 : ∀ k, (some i : Option Nat) = some k → ∃ v, [V.ref a] = [v] ∧ σ[k]? = some (some v) := fun k e => by
    cases e
    exact ⟨_, rfl, ev⟩
  have rp : R fr (i :: pn) (fun j => if (some i : Option Nat) = some j then (V.ref a) else pv j) tmp tv (sl.set i (some (.lk od ws kvs))) σ (upd H a (.frz od (.dK ws))) := R.pin (gv := some i) (hv := [.ref a]) rs hg2
  have p0 : ∀ j ∈ pn, σ[j]? = some (some (pv j)) := rf.pins
  refine ⟨.ref a, ev, a, od, rfl, .inl ⟨ws, upd_same, ?_⟩⟩
  intro D hD
  have r2 := rp.hide hjs
  have r3 : R fr (i :: pn) (fun j => if (some i : Option Nat) = some j then (V.ref a) else pv j) (.dk true [] :: tmp) (.ref D :: tv) (hideT (sl.set i (some (.lk od ws kvs))) js) (wipe σ js) (upd (upd H a (.frz od (.dK ws))) D (.dK [])) := R.newDict [] r2 hD
  have wl : ws.length = kvs.length := q3.len
  have here : ∀ {j : Nat} {acc : List (Key × T)} {sl' : Sl} {H' : Hp} {hs : List T} {hv : List V}, Iv j acc sl' → R fr (i :: pn) (fun j => if (some i : Option Nat) = some j then (V.ref a) else pv j) hs hv sl' (wipe σ js) H' → H' a = some (.frz od (.dK ws)) := fun iv rr => by
    obtain ⟨v2, Z, f, ev2, zz⟩ := rr.slot (il _ _ _ iv)
    have ev3 : (wipe σ js)[i]? = some (some (V.ref a)) := by
      obtain ⟨y1, y2, yy⟩ := rr
      rw [yy.pins i List.mem_cons_self]
      simp
    cases Option.some.inj (Option.some.inj (ev2.symm.trans ev3))
    unfold Rep at zz
    obtain ⟨a2, f', w1, w2, _⟩ := zz
    cases w1
    exact w2
  refine ⟨fun j m H' => m = kvs.length - j ∧ j ≤ kvs.length ∧ ∃ acc sl', Iv j acc sl' ∧ R fr (i :: pn) (fun j => if (some i : Option Nat) = some j then (V.ref a) else pv j) (.dk true acc :: tmp) (.ref D :: tv) sl' (wipe σ js) H', ⟨kvs.length, by simp, Nat.zero_le _, [], _, i0, r3⟩, ?_⟩
  rintro j m H' ⟨rfl, him, acc, sl', iv, r'⟩
  have lk := here iv r'
  by_cases hlt : j < kvs.length
  · obtain ⟨hz, hsa, kg⟩ := is j acc sl' hlt iv
    refine .inr ⟨⟨lk, by omega⟩, fun H' => ∃ acc sl', Iv (j + 1) acc sl' ∧ R fr (i :: pn) (fun j => if (some i : Option Nat) = some j then (V.ref a) else pv j) (.dk true acc :: tmp) (.ref D :: tv) sl' (wipe σ js) H', fun H' z => ⟨kvs.length - (j + 1), by omega, rfl, hlt, z⟩, fun x H2 hy => ?_⟩
    obtain ⟨rfl, k, u, hk, rfl⟩ := (walk_keys (kvs := ws)).yields j _ x H2 (by omega) lk hy
    have ek : (kvs.map fun p => keyT p.1).getD j .non = keyT k := by
      have h1 := q3.keys
      have h2 : (ws.map (·.1))[j]? = some k := by rw [List.getElem?_map, hk]; rfl
      rw [h1, List.getElem?_map] at h2
      obtain ⟨p, hp, e⟩ := Option.map_eq_some_iff.mp h2
      rw [List.getD_eq_getElem?_getD, List.getElem?_map, hp]
      show keyT p.1 = keyT k
      rw [e]
    rw [ek] at kg
    refine hg _ σ _ _ (kg _ _ _ _ _ _ (r'.lit (keyT_lit k)) fun sl2 σ2 H3 k r5 hw => ?_)
    refine k _ _ σ2 H3 _ r5 fun b sl3 H4 kb r6 => ?_
    cases b with
    | true =>
      rw [if_pos rfl] at kb ⊢
      refine kb _ _ σ2 H4 _ r6 fun t2 sl4 u2 H5 k2 r7 => ?_
      refine k2 _ _ σ2 H5 _ r7 fun y sl5 u H6 ⟨kk, e2, hys, ky⟩ r8 => ?_
      obtain ⟨Z, f, z⟩ := (R.pop r8).top
      obtain rfl := key_sound z e2
      have r9 : R fr (i :: pn) _ (.dk true acc :: ([y, t2] ++ tmp)) (.ref D :: ([u, kV kk] ++ tv)) sl5 σ2 H6 := R.rot (ts := [y, t2]) (vs := [u, kV kk]) r8 rfl
      obtain ⟨a', ws', q1', q2', q3', r10⟩ := R.dictPut (k := kk) (t := y) (tmp := t2 :: tmp) (tv := kV kk :: tv) (u := u) r9 hsa hys
      cases q1'
      have r11 : R fr (i :: pn) _ (.dk true (putT acc kk y) :: tmp) (.ref D :: tv) sl5 σ2 _ := R.under (as := [t2]) (vs := [kV kk]) r10 rfl
      refine ⟨ws', kk, rfl, q2', by rw [q3']; exact hz, putT acc kk y, hideT sl5 js, ky, ?_⟩
      rw [← hw]
      exact r11.hide hjs
    | false =>
      rw [if_neg Bool.false_ne_true] at kb ⊢
      refine ⟨acc, hideT sl3 js, kb, ?_⟩
      rw [← hw]
      exact r6.hide hjs
  · have e : j = kvs.length := by omega
    subst e
    have pw : ∀ j ∈ i :: pn, σ[j]? = some (some ((fun j => if (some i : Option Nat) = some j then (V.ref a) else pv j) j)) := by
      obtain ⟨f1, f2, rr⟩ := rp
      exact rr.pins
    have r5 := r'.unwipe pw
    refine .inl ⟨by rw [← wl]; exact (walk_keys (kvs := ws)).stops _ lk, lk, ?_⟩
    obtain ⟨v2, ev2, r6⟩ := r5.take (il _ _ _ iv)
    have ev3 := pw i List.mem_cons_self
    rw [ev2] at ev3
    have ev4 : v2 = .ref a := by
      have := Option.some.inj (Option.some.inj ev3)
      simpa using this
    subst ev4
    have r7 : R fr (i :: pn) (fun j => if (some i : Option Nat) = some j then (V.ref a) else pv j) (.dk true kvs :: .dk true acc :: tmp) (.ref a :: .ref D :: tv) (sl'.set i none) σ (upd H' a (.dK ws)) := by
      refine R.rewrite r6 lk rfl (fun Z f z => ?_) fun Z Z' H' z hH hz eH => ?_
      · unfold Rep at z
        obtain ⟨a', f', y1, y2, y3, y4⟩ := z
        cases y1
        rw [y3.fp0 hst] at y4
        exact y4
      · unfold Rep at z ⊢
        obtain ⟨a', f', y1, y2, y3, y4⟩ := z
        cases y1
        have := y3.fp0 hst
        subst this
        refine ⟨a, ws, [], rfl, hH, ?_, by rw [if_pos rfl]⟩
        rw [eH]
        exact y3.go _ _ _ (go_put lk rfl hz List.not_mem_nil)
    have hl2 : i < sl'.length := (List.getElem?_eq_some_iff.mp (il _ _ _ iv)).1
    have r8 := r7.give (i := i) (by rw [List.getElem?_set_self hl2]) ev2
    rw [List.set_set] at r8
    exact q _ _ _ _ (ie acc sl' iv) (R.unpin (gv := some i) (hv := [.ref a]) (σ0 := σ) r8 hg2 p0)
end
end Rs
set_option maxHeartbeats 4000000
namespace Rs
open PySem L2 PySem.Spec PyProof.Rows
def tFrz (t : TE) : TE := fun σ H Q => t σ H fun v H' => ∃ d u, v = .ref d ∧ H' d = some u ∧ Mut (some u) ∧ ∀ od, Q v (upd H' d (.frz od u))
theorem pe_frz {X : Cx} {e : Expr} {t : TE} (h : PE X e t) : PE X e (tFrz t) := by
  refine ⟨fun pins s σ H Q I hq => thn (h.run pins s σ H _ I hq) fun v s1 ⟨x, H1, I1, r, d, u, ex, hd, mu, q⟩ => ?_⟩
  obtain ⟨od, I2⟩ := I1.lock hd mu
  exact ⟨x, _, I2, r, q od⟩
abbrev Ld := List (Leaf × Int)
def ldV (d : Ld) : List (Leaf × V) := d.map fun p => (p.1, V.int p.2)
def lkD (d : Ld) (k : Leaf) : Option Int := (d.find? fun p => decide (p.1 = k)).map (·.2)
def putD (d : Ld) (k : Leaf) (x : Int) : Ld := if (d.any fun p => decide (p.1 = k)) = true then d.map (fun p => if p.1 = k then (p.1, x) else p) else d ++ [(k, x)]
theorem ldV_val (d : Ld) (k : Leaf) : valV (ldV d) k = (lkD d k).map V.int := by
  unfold valV ldV lkD
  induction d with
  | nil => rfl
  | cons p r ih =>
    rw [List.map_cons, List.find?_cons, List.find?_cons]
    by_cases e : p.1 = k
    · rw [decide_eq_true e]
      rfl
    · rw [decide_eq_false e]
      exact ih
theorem ldV_any (d : Ld) (k : Leaf) : ((ldV d).any fun p => decide (p.1 = k)) = d.any fun p => decide (p.1 = k) := by
  unfold ldV
  rw [List.any_map]
  rfl
theorem ldV_put (d : Ld) (k : Leaf) (x : Int) : putK (ldV d) k (.int x) = ldV (putD d k x) := by
  unfold putK putD
  rw [ldV_any]
  split
  · unfold ldV
    rw [List.map_map, List.map_map]
    refine List.map_congr_left fun p _ => ?_
    show (if p.1 = k then (p.1, V.int x) else (p.1, V.int p.2)) = _
    by_cases e : p.1 = k
    · rw [if_pos e]
      show _ = ((fun p : Leaf × Int => (p.1, V.int p.2)) (if p.1 = k then (p.1, x) else p))
      rw [if_pos e]
    · rw [if_neg e]
      show _ = ((fun p : Leaf × Int => (p.1, V.int p.2)) (if p.1 = k then (p.1, x) else p))
      rw [if_neg e]
  · unfold ldV
    rw [List.map_append]
    rfl
theorem ldV_len (d : Ld) : (ldV d).length = d.length := List.length_map _
def lmT (P : Program) (w : World) (d : Ld) : T := .obj true fun a => LdO P w a (ldV d)
def ldT (P : Program) (w : World) (b : Bool) (o : Obj) (d : Ld) : T := .obj b fun a => .frz o (LdO P w a (ldV d))
theorem ldT_still {P : Program} {w : World} {o : Obj} {d : Ld} : (ldT P w false o d).still = true := rfl
def IsLd (P : Program) (w : World) (t : T) (d : Ld) : Prop := t = lmT P w d ∨ ∃ b o, t = ldT P w b o d
theorem isLd_m {P : Program} {w : World} {d : Ld} : IsLd P w (lmT P w d) d := .inl rfl
theorem isLd_f {P : Program} {w : World} {b : Bool} {o : Obj} {d : Ld} : IsLd P w (ldT P w b o d) d := .inr ⟨b, o, rfl⟩
def leafT : Leaf → T
  | .none => .non
  | .num i => .int i
  | .text s => .str s
def T.leaf : T → Option Leaf
  | .non => some .none
  | .int i => some (.num i)
  | .str s => some (.text s)
  | _ => none
theorem leafT_leaf (k : Leaf) : (leafT k).leaf = some k := by cases k <;> rfl
theorem leafT_still (k : Leaf) : (leafT k).still = true := by cases k <;> rfl
section
variable {Z : Addr → Prop} {H : Hp} {P : Program} {w : World}
theorem leaf_sound {t : T} {v : V} {f : List Addr} {k : Leaf} (r : Rep Z H t v f) (h : t.leaf = some k) : v = lV k := by
  cases t <;> first | (cases h; done) | (cases h; unfold Rep at r; exact r.1)
theorem leafT_lit (k : Leaf) : ∀ Z, Rep Z H (leafT k) (lV k) [] := fun Z => by
  cases k <;> (unfold leafT Rep; exact ⟨rfl, rfl⟩)
theorem IsLd.sound {t : T} {v : V} {f : List Addr} {d : Ld} (h : IsLd P w t d) (r : Rep Z H t v f) : ∃ a, v = .ref a ∧ LD P w H a (ldV d) := by
  rcases h with rfl | ⟨b, o, rfl⟩
  · unfold lmT Rep at r
    obtain ⟨a, fp', e1, e2, _⟩ := r
    exact ⟨a, e1, .inl e2⟩
  · unfold ldT Rep at r
    obtain ⟨a, fp', e1, e2, _⟩ := r
    exact ⟨a, e1, .inr ⟨o, e2⟩⟩
theorem rep_lm {v : V} {f : List Addr} {d : Ld} (r : Rep Z H (lmT P w d) v f) : ∃ a, v = .ref a ∧ H a = some (LdO P w a (ldV d)) ∧ f = [a] := by
  unfold lmT Rep at r
  obtain ⟨a, fp', e1, e2, _, e4, c⟩ := r
  subst e4
  rw [if_pos rfl] at c
  exact ⟨a, e1, e2, c⟩
theorem rep_ld {v : V} {f : List Addr} {b : Bool} {o : Obj} {d : Ld} (r : Rep Z H (ldT P w b o d) v f) : ∃ a, v = .ref a ∧ H a = some (.frz o (LdO P w a (ldV d))) := by
  unfold ldT Rep at r
  obtain ⟨a, fp', e1, e2, _⟩ := r
  exact ⟨a, e1, e2⟩
theorem lm_rep {a : Addr} {d : Ld} (h : H a = some (LdO P w a (ldV d))) : Rep Z H (lmT P w d) (.ref a) [a] := by
  unfold lmT Rep
  exact ⟨a, [], rfl, h, rfl, rfl, by rw [if_pos rfl]⟩
theorem ld_rep {a : Addr} {o : Obj} {d : Ld} (h : H a = some (.frz o (LdO P w a (ldV d)))) : Rep Z H (ldT P w true o d) (.ref a) [a] := by
  unfold ldT Rep
  exact ⟨a, [], rfl, h, rfl, rfl, by rw [if_pos rfl]⟩
end
section
variable {fr : Fr} {pn : List Nat} {pv : Nat → V} {tmp ts : List T} {tv vs : List V} {sl : Sl} {σ : L2.St} {H : Hp} {v : V} {P : Program} {w : World}
variable {KE : T → Sl → Prop} {K : KS} {KI : Nat → List T → (Nat → T) → Option Nat → Sl → Prop} {te td ty tx tv' : TE} {i : Nat} {d : Ld} {Kf : PySem.W.Frag}
theorem R.frzLm {a : Addr} (od : Obj) (r : R fr pn pv (lmT P w d :: tmp) (.ref a :: tv) sl σ H) : R fr pn pv (ldT P w true od d :: tmp) (.ref a :: tv) sl σ (upd H a (.frz od (LdO P w a (ldV d)))) := by
  obtain ⟨Z, f, z⟩ := r.top
  obtain ⟨a', e1, e2, _⟩ := rep_lm z
  cases e1
  exact R.rewrite r e2 rfl (fun Z f z => by obtain ⟨_, e, _, e3⟩ := rep_lm z; cases e; exact e3) fun Z Z' H' _ e _ _ => ld_rep e
theorem we_frz (h : WE fr pn tmp sl te fun t sl1 => ∃ d, t = lmT P w d ∧ ∀ o, KE (ldT P w true o d) sl1) : WE fr pn tmp sl (tFrz te) KE := fun pv tv σ H Q r q =>
  h pv tv σ H _ r fun t sl1 v H1 ⟨d, e, k⟩ r1 => by
    subst e
    obtain ⟨Z, f, z⟩ := r1.top
    obtain ⟨a, rfl, e2, _⟩ := rep_lm z
    exact ⟨a, _, rfl, e2, trivial, fun od => q _ sl1 _ _ (k od) (r1.frzLm od)⟩
theorem we_frzVar (h : sl[i]? = some (some (lmT P w d))) (k : ∀ o, KE (ldT P w false o d) (sl.set i (some (ldT P w false o d)))) : WE fr pn tmp sl (tFrz (tVar i)) KE := fun pv tv σ H Q r q => by
  obtain ⟨v, ev, r1⟩ := r.take h
  obtain ⟨Z, f, z⟩ := r1.top
  obtain ⟨a, rfl, e2, _⟩ := rep_lm z
  have hlen : i < sl.length := (List.getElem?_eq_some_iff.mp h).1
  refine ⟨_, ev, a, _, rfl, e2, trivial, fun od => ?_⟩
  have r2 := (r1.frzLm od).freeze (rfl : (ldT P w true od d).plain = true)
  have r3 : R fr pn pv tmp tv (sl.set i (some (ldT P w false od d))) σ (upd H a (.frz od (LdO P w a (ldV d)))) := by
    have := R.give (i := i) r2 (by rw [List.getElem?_set_self hlen]) ev
    rwa [List.set_set] at this
  obtain ⟨v', ev', r4⟩ := r3.copy (i := i) (by rw [List.getElem?_set_self hlen]) ldT_still
  cases Option.some.inj (Option.some.inj (ev.symm.trans ev'))
  exact q _ _ _ _ (k od) r4
theorem we_lnew (k : KE (lmT P w []) sl) : WE fr pn tmp sl (tLNew P w) KE := fun pv tv σ H Q r q p hp => q _ sl _ _ k (r.newOwn hp fun Z => lm_rep upd_same)
theorem we_lget (h0 : ∃ u, sl[i]? = some (some u)) (h : WE fr pn tmp sl ty fun t2 sl2 => ∃ t d k x, sl2[i]? = some (some t) ∧ IsLd P w t d ∧ t2.leaf = some k ∧ lkD d k = some x ∧ KE (.int x) sl2) : WE fr pn tmp sl (tLGet P w (tVar i) ty) KE := fun pv tv σ H Q r q => by
  obtain ⟨u, h0⟩ := h0
  obtain ⟨v0, Z0, f0, ev, _⟩ := r.slot h0
  refine ⟨v0, ev, h pv tv σ H _ r fun t2 sl2 y H2 ⟨t, d, k, x, e1, e2, e3, e4, kk⟩ r2 => ?_⟩
  obtain ⟨Z, f, z⟩ := r2.top
  obtain rfl := leaf_sound z e3
  obtain ⟨v', Z', f', ev', z⟩ := r2.slot e1
  cases Option.some.inj (Option.some.inj (ev.symm.trans ev'))
  obtain ⟨a, rfl, D⟩ := e2.sound z
  exact ⟨a, _, k, .int x, rfl, rfl, D, by rw [ldV_val, e4]; rfl, q _ sl2 _ H2 kk (r2.pop.lit (lit_int))⟩
theorem we_lget2 {t0 : T} {d0 : Ld} (h0 : sl[i]? = some (some t0)) (hl0 : IsLd P w t0 d0) (h : WE fr pn tmp sl ty fun t2 sl1 => WE fr pn (t2 :: tmp) sl1 tx fun t3 sl2 => ∃ t d k n, sl2[i]? = some (some t) ∧ IsLd P w t d ∧ t2.leaf = some k ∧ t3 = .int n ∧ KE (.int ((lkD d k).getD n)) sl2) : WE fr pn tmp sl (tLGet2 P w (tVar i) ty tx) KE := fun pv tv σ H Q r q => by
  obtain ⟨v0, Z0, f0, ev, z0⟩ := r.slot h0
  obtain ⟨a, rfl, D0⟩ := hl0.sound z0
  refine ⟨.ref a, ev, a, _, rfl, D0, h pv tv σ H _ r fun t2 sl1 y H1 k1 r1 => k1 pv (y :: tv) σ H1 _ r1 fun t3 sl2 z H2 ⟨t, d, k, n, e1, e2, e3, e4, kk⟩ r2 => ?_⟩
  subst e4
  obtain ⟨Z, f, zz⟩ := r2.pop.top
  obtain rfl := leaf_sound zz e3
  obtain ⟨Z1, f1, z1⟩ := r2.top
  obtain rfl := v_int z1
  obtain ⟨v', Z', f', ev', z⟩ := r2.slot e1
  cases Option.some.inj (Option.some.inj (ev.symm.trans ev'))
  obtain ⟨a', ea, D⟩ := e2.sound z
  cases ea
  refine ⟨_, k, rfl, D, ?_⟩
  have : (valV (ldV d) k).getD (.int n) = .int ((lkD d k).getD n) := by
    rw [ldV_val]
    cases lkD d k <;> rfl
  rw [this]
  exact q _ sl2 _ H2 kk (r2.pop.pop.lit lit_int)
theorem we_lin {neg : Bool} (h : WE fr pn tmp sl ty fun t2 sl2 => ∃ t d k, sl2[i]? = some (some t) ∧ IsLd P w t d ∧ t2.leaf = some k ∧ KE (.bl (if neg then !(lkD d k).isSome else (lkD d k).isSome)) sl2) : WE fr pn tmp sl (tLIn P w neg ty (tVar i)) KE := fun pv tv σ H Q r q =>
  h pv tv σ H _ r fun t2 sl2 y H2 ⟨t, d, k, e1, e2, e3, kk⟩ r2 => by
    obtain ⟨Z, f, z⟩ := r2.top
    obtain rfl := leaf_sound z e3
    obtain ⟨v', Z', f', ev', z⟩ := r2.slot e1
    obtain ⟨a, rfl, D⟩ := e2.sound z
    refine ⟨_, ev', a, _, k, rfl, rfl, D, ?_⟩
    have : (valV (ldV d) k).isSome = (lkD d k).isSome := by rw [ldV_val, Option.isSome_map]
    rw [this]
    exact q _ sl2 _ H2 kk (r2.pop.lit lit_bl)
theorem ws_lput (h : WE fr pn tmp sl tv' fun t sl1 => (∃ u, sl1[i]? = some (some u)) ∧ WE fr pn (t :: tmp) sl1 ty fun t2 sl2 => ∃ d k x, sl2[i]? = some (some (lmT P w d)) ∧ t2.leaf = some k ∧ t = .int x ∧ d.length < sizeLine ∧ K.nx (sl2.set i (some (lmT P w (putD d k x))))) :
    WS fr pn tmp sl (sLPut P w (tVar i) ty tv') K := fun pv us σ H D r n _ _ _ => by
  refine h pv us σ H _ r fun t sl1 v H1 ⟨⟨u, h0⟩, k1⟩ r1 => ?_
  obtain ⟨v0, Z0, f0, ev, _⟩ := r1.slot h0
  refine ⟨v0, ev, k1 pv (v :: us) σ H1 _ r1 fun t2 sl2 y H2 ⟨d, k, x, e1, e2, e3, e4, kk⟩ r2 => ?_⟩
  subst e3
  obtain ⟨Z, f, z⟩ := r2.top
  obtain rfl := leaf_sound z e2
  obtain ⟨Z1, f1, z1⟩ := r2.pop.top
  obtain rfl := v_int z1
  obtain ⟨v', ev', r3⟩ := r2.pop.pop.take e1
  cases Option.some.inj (Option.some.inj (ev.symm.trans ev'))
  obtain ⟨Z', f', z'⟩ := r3.top
  obtain ⟨a, rfl, ha, _⟩ := rep_lm z'
  refine ⟨a, ldV d, k, rfl, rfl, ha, by rw [ldV_len]; exact e4, ?_⟩
  have r4 : R fr pn pv (lmT P w (putD d k x) :: tmp) (.ref a :: us) (sl2.set i none) σ (upd H2 a (LdO P w a (putK (ldV d) k (.int x)))) := by
    refine R.rewrite r3 ha rfl (fun Z f z => by obtain ⟨_, e, _, e3⟩ := rep_lm z; cases e; exact e3) fun Z Z' H' _ e _ _ => ?_
    rw [ldV_put] at e
    exact lm_rep e
  have hlen : i < sl2.length := (List.getElem?_eq_some_iff.mp e1).1
  have r5 := R.give (i := i) r4 (by rw [List.getElem?_set_self hlen]) ev
  rw [List.set_set] at r5
  exact n _ σ _ kk r5
theorem yl_lf {a : Addr} {o : Obj} : Yl (Itlf P w a o (ldV d)) [.ref a] d.length [ldT P w false o d] fun j => leafT ((d.map (·.1)).getD j .none) := fun fr pn pv tmp tv sl σ H r => by
  obtain ⟨Z, f, z⟩ := (show R fr pn pv (ldT P w false o d :: tmp) (.ref a :: tv) sl σ H from r).top
  obtain ⟨a', ea, ha⟩ := rep_ld z
  cases ea
  refine ⟨fun i hi => ⟨ha, by rw [ldV_len]; exact hi⟩, ⟨ha, by rw [ldV_len]; exact Nat.le_refl _⟩, fun i x H' hi y => ?_⟩
  obtain ⟨rfl, k, v, hk, rfl⟩ := y
  have : ((d.map (·.1)).getD i .none) = k := by
    unfold ldV at hk
    rw [List.getElem?_map] at hk
    obtain ⟨p, hp, e⟩ := Option.map_eq_some_iff.mp hk
    cases e
    rw [List.getD_eq_getElem?_getD, List.getElem?_map, hp]
    rfl
  show R fr pn pv (leafT ((d.map (·.1)).getD i .none) :: _) (lV k :: _) sl σ _
  rw [this]
  exact r.lit (leafT_lit k)
theorem wi_lf (h : WE fr pn tmp sl te fun t sl1 => ∃ o d, t = ldT P w false o d ∧ KI d.length [ldT P w false o d] (fun j => leafT ((d.map (·.1)).getD j .none)) none sl1) : WI fr pn tmp sl (iLf P w te) KI := fun pv tv σ H Rk r q =>
  h pv tv σ H _ r fun t sl1 v H1 ⟨o, d, e, k⟩ r1 => by
    subst e
    obtain ⟨Z, f, z⟩ := r1.top
    obtain ⟨a, rfl, ha⟩ := rep_ld z
    exact ⟨a, o, ldV d, rfl, ha, q _ _ _ _ sl1 [.ref a] _ H1 k rfl yl_lf (fun i z => nomatch z) r1⟩
theorem we_ldict {t : T} (h : sl[i]? = some (some t)) (hl : IsLd P w t d) (k : KE (lmT P w d) sl) : WE fr pn tmp sl (tCB (fun xs H Q => ∃ (a : Addr) (kvs : List (Leaf × V)), xs = [.ref a] ∧ LD P w H a kvs ∧ ∀ p, H p = none → Q (.ref p) (upd H p (LdO P w p kvs))) (tCons (tVar i) tNil)) KE := fun pv tv σ H Q r q => by
  obtain ⟨v, Z, f, ev, z⟩ := r.slot h
  obtain ⟨a, rfl, D⟩ := hl.sound z
  exact ⟨_, ev, a, _, rfl, D, fun p hp => q _ sl _ _ k (r.newOwn hp fun Z => lm_rep upd_same)⟩
theorem we_llen {t : T} (h : sl[i]? = some (some t)) (hl : IsLd P w t d) (k : KE (.int (d.length : Int)) sl) : WE fr pn tmp sl (tCB (fun xs H Q => ∃ a kvs, xs = [V.ref a] ∧ LD P w H a kvs ∧ Q (.int (kvs.length : Int)) H) (tCons (tVar i) tNil)) KE := fun pv tv σ H Q r q => by
  obtain ⟨v, Z, f, ev, z⟩ := r.slot h
  obtain ⟨a, rfl, D⟩ := hl.sound z
  refine ⟨_, ev, a, _, rfl, D, ?_⟩
  rw [ldV_len]
  exact q _ sl _ _ k (r.lit lit_int)
theorem leafs_lit : ∀ (ks : List Leaf) (Z : Addr → Prop), Reps Z H (ks.map leafT) (ks.map lV) []
  | [], Z => by rw [List.map_nil, List.map_nil]; unfold Reps; exact ⟨rfl, rfl⟩
  | k :: r, Z => by
    rw [List.map_cons, List.map_cons]
    unfold Reps
    exact ⟨_, _, [], [], rfl, rfl, leafT_lit k Z, leafs_lit r Z⟩
theorem we_llist {t : T} (h : sl[i]? = some (some t)) (hl : IsLd P w t d) (k : KE (.lst true ((d.map (·.1)).map leafT)) sl) : WE fr pn tmp sl (tCB (fun xs H Q => ∃ (a : Addr) (kvs : List (Leaf × V)), xs = [.ref a] ∧ LD P w H a kvs ∧ ∀ p, H p = none → Q (.ref p) (upd H p (.lst (kvs.map fun kv => lV kv.1)))) (tCons (tVar i) tNil)) KE := fun pv tv σ H Q r q => by
  obtain ⟨v, Z, f, ev, z⟩ := r.slot h
  obtain ⟨a, rfl, D⟩ := hl.sound z
  refine ⟨_, ev, a, _, rfl, D, fun p hp => ?_⟩
  have e : ((ldV d).map fun kv => lV kv.1) = (d.map (·.1)).map lV := by
    unfold ldV
    rw [List.map_map, List.map_map]
    rfl
  rw [e]
  exact q _ sl _ _ k (r.newLits (fun Z => leafs_lit _ Z) (by rw [List.length_map, List.length_map (f := leafT)]) hp)
end
def prL (p : Leaf × Int) : T := .tup [leafT p.1, .int p.2]
section
variable {fr : Fr} {pn : List Nat} {tmp : List T} {sl : Sl} {P : Program} {w : World} {KE : T → Sl → Prop} {te : TE} {Kf : PySem.W.Frag}
theorem prLs_pairs {Z : Addr → Prop} {H : Hp} : ∀ {d : Ld} {vs : List V} {f : List Addr}, Reps Z H (d.map prL) vs f → ∃ ps : List Addr, vs = ps.map V.ref ∧ Paired (fun p (e : Leaf × V) => SqT Kf H p [lV e.1, e.2]) ps (ldV d)
  | [], vs, f, h => by
    rw [List.map_nil] at h
    unfold Reps at h
    exact ⟨[], h.1, .nil⟩
  | p :: r, vs, f, h => by
    rw [List.map_cons] at h
    unfold Reps at h
    obtain ⟨v, vs', f1, f2, e1, e2, a, b⟩ := h
    obtain ⟨ps, e3, pd⟩ := prLs_pairs b
    unfold prL Rep at a
    obtain ⟨x, ws, q1, q2, q3⟩ := a
    unfold Reps at q3
    obtain ⟨y, ws', g1, g2, e4, e5, b1, b2⟩ := q3
    unfold Reps at b2
    obtain ⟨y2, ws2, g3, g4, e6, e7, b3, b4⟩ := b2
    unfold Reps at b4
    obtain rfl := leaf_sound b1 (leafT_leaf p.1)
    obtain rfl := v_int b3
    refine ⟨x :: ps, by rw [e1, q1, e3]; rfl, .cons ?_ pd⟩
    rw [e4, e6, b4.1] at q2
    exact q2.sq
theorem we_ldictP (h : WE fr pn tmp sl te fun t sl1 => ∃ o d, t = .lst o (d.map prL) ∧ (d.map (·.1)).Nodup ∧ KE (lmT P w d) sl1) : WE fr pn tmp sl (tCB (fun xs H Q => ∃ (a : Addr) (ps : List Addr) (kvs : List (Leaf × V)), xs = [.ref a] ∧ SqL Kf H a (ps.map V.ref) ∧ Paired (fun p e => SqT Kf H p [lV e.1, e.2]) ps kvs ∧ (kvs.map (·.1)).Nodup ∧
    ∀ p, H p = none → Q (.ref p) (upd H p (LdO P w p kvs))) (tCons te tNil)) KE := fun pv tv σ H Q r q => h pv tv σ H _ r fun t sl1 v H1 ⟨o, d, e, nd, k⟩ r1 => by
  subst e
  obtain ⟨Z, f, z⟩ := r1.top
  unfold Rep at z
  obtain ⟨a, vs, fp', q1, q2, q3, q4⟩ := z
  obtain ⟨ps, ev, pd⟩ := prLs_pairs (Kf := Kf) q3
  subst ev
  refine ⟨a, ps, ldV d, by rw [q1], SqL.of q2, pd, ?_, fun p hp => q _ sl1 _ _ k (r1.pop.newOwn hp fun Z => lm_rep upd_same)⟩
  unfold ldV
  rw [List.map_map]
  exact nd
end
end Rs
set_option maxHeartbeats 4000000
namespace Rs
open PySem L2 PySem.Spec PyProof.Rows
def pairI (a : Nat × Int) : NestedKey := .tup [.num (a.1 : Int), .num a.2]
def prI (a : Nat × Int) : T := .tup [.int (a.1 : Int), .int a.2]
theorem prIs_kTs (ps : List (Nat × Int)) : kTs (ps.map pairI) = ps.map prI := by
  rw [kTs_map, List.map_map]
  rfl
def rSortI : List V → Hp → VK → Prop := fun xs H Q => ∃ (a : Addr) (vs : List V) (ps : List (Nat × Int)), xs = [.ref a] ∧ H a = some (.lst vs) ∧ NKs H (ps.map pairI) vs ∧
  ∀ (qs : List (Nat × Int)) (us : List V) (p : Addr), qs.Perm ps → qs.Pairwise (fun a b => a.1 ≤ b.1) → NKs H (qs.map pairI) us → H p = none → Q (.ref p) (upd H p (.lst us))
theorem cr_sortI {X : Cx} : CallR X (.builtin "sorted") rSortI := by
  intro pins s σ H vs0 us Q I r h
  obtain ⟨a, vs, ps, rfl, ha, hk, q⟩ := h
  have hz : vs.length ≤ sizeLine := (show ObjOk X.prog X.w H s.heap a (.lst vs) from I.hok a _ ha).1
  obtain ⟨its, rv, hl, _⟩ := I.list (SqL.of (K := X.K) ha)
  rw [Vals.ref1 r]
  obtain ⟨hlen, hall⟩ := hk.at
  rw [List.length_map] at hlen
  have vlen : vs.length = its.length := rv.length
  -- the three rows side by side
  have three : ∀ {vs : List V} {its : List Value} {ps : List (Nat × Int)}, NKs H (ps.map pairI) vs → Vals vs its → ∃ z : List (Value × V × Nat × Int), z.map (·.1) = its ∧ z.map (·.2.1) = vs ∧ z.map (·.2.2) = ps ∧ ∀ x ∈ z, RelV x.2.1 x.1 ∧ NK H (pairI x.2.2) x.2.1 := by
    intro vs its ps
    induction ps generalizing vs its with
    | nil =>
      intro h1 h2
      cases h1
      cases h2
      exact ⟨[], rfl, rfl, rfl, fun x hx => (nomatch hx)⟩
    | cons p r ih =>
      intro h1 h2
      rw [List.map_cons] at h1
      cases h1 with
      | cons a1 b1 =>
        cases h2 with
        | cons a2 b2 =>
          obtain ⟨z, e1, e2, e3, e4⟩ := ih b1 b2
          refine ⟨(_, _, p) :: z, by rw [List.map_cons, e1], by rw [List.map_cons, e2], by rw [List.map_cons, e3], fun x hx => ?_⟩
          rcases List.mem_cons.mp hx with rfl | hx
          · exact ⟨a2, a1⟩
          · exact e4 x hx
  obtain ⟨z, z1, z2, z3, z4⟩ := three hk rv
  have key : ∀ x ∈ z, ∃ b ob i j t u n, x.1 = .ref b ∧ s.heap.get? b = some ob ∧ ob.cls = .type "tuple" ∧ ob.data = .seq #[.int i t, .int j u] n ∧ i = (x.2.2.1 : Int) ∧ j = (x.2.2.2 : Int) := fun x hx => by
    obtain ⟨r1, k1⟩ := z4 x hx
    obtain ⟨v, y, p⟩ := x
    have k1 : NK H (pairI p) y := k1
    have r1 : RelV y v := r1
    unfold pairI at k1
    cases k1 with
    | @tup b0 xs0 _ e k2 =>
      cases k2 with
      | @cons _ _ _ _ g1 k3 =>
        cases k3 with
        | @cons _ _ _ _ g2 k4 =>
          cases k4
          cases g1
          cases g2
          cases r1
          obtain ⟨u0, e1, e2⟩ := e
          obtain ⟨_, its0, rv0, ob, ho, hc, n, hd⟩ := (show ObjOk X.prog X.w H s.heap _ (.tup _) from (tupOf_rd e1 e2).ok I.hok)
          cases rv0 with
          | cons x1 rv0 =>
            cases rv0 with
            | cons x2 rv0 =>
              cases rv0
              obtain ⟨t, rfl⟩ := x1
              obtain ⟨u, rfl⟩ := x2
              exact ⟨_, ob, _, _, t, u, n, rfl, ho, hc, hd, rfl, rfl⟩
  have keyC : ∀ x ∈ z, G.tupKeyC s.heap (fun _ => false) x.1 = some [Sum.inl (x.2.2.1 : Int), Sum.inl (x.2.2.2 : Int)] := fun x hx => by
    obtain ⟨b, ob, i, j, t, u, n, e1, e2, e3, e4, e5, e6⟩ := key x hx
    rw [e1, ← e5, ← e6]
    unfold G.tupKeyC
    rw [if_pos (by simp [G.isTupObj, e2, e3])]
    simp only [tupKey, e2, e4]
    rfl
  have tups : ∃ fs, TupsOf s.heap (fun _ => false) its fs := by
    rw [← z1]
    have go : ∀ l : List (Value × V × Nat × Int), (∀ x ∈ l, x ∈ z) → ∃ fs, TupsOf s.heap (fun _ => false) (l.map (·.1)) fs := fun l => by
      induction l with
      | nil => exact fun _ => ⟨[], .nil⟩
      | cons x r ih =>
        intro hl
        obtain ⟨fs, t⟩ := ih fun y hy => hl y (List.mem_cons_of_mem _ hy)
        obtain ⟨b, ob, i, j, t1, u, n, e1, e2, e3, e4, e5, e6⟩ := key x (hl x List.mem_cons_self)
        exact ⟨.int i t1 :: fs, .cons ⟨b, ob, _, n, e1, e2, e3, e4, rfl, fun _ => ⟨_, _, rfl⟩, fun e => absurd e Bool.false_ne_true⟩ t⟩
    exact go z fun _ h => h
  obtain ⟨fs, tups⟩ := tups
  refine G.sorted_tups (vs := its) hl.isList tups (fun v hv => ?_) (by rw [← vlen]; exact hz) fun st' hp hs _ => ?_
  · rw [← z1] at hv
    obtain ⟨x, hx, rfl⟩ := List.mem_map.mp hv
    exact ⟨_, keyC x hx⟩
  have pz : (z.map fun x => (x.1, x.1)) = its.zip its := by
    rw [← z1]
    have go : ∀ l : List (Value × V × Nat × Int), (l.map fun x => (x.1, x.1)) = (l.map (·.1)).zip (l.map (·.1)) := fun l => by
      induction l with
      | nil => rfl
      | cons x r ih => rw [List.map_cons, ih]; rfl
    exact go z
  have hp2 : (arrOf st').toList.Perm (z.map fun x => (x.1, x.1)) := by
    have := Array.perm_iff_toList_perm.mp hp
    rw [pairsOf_toList] at this
    rw [pz]
    exact this
  obtain ⟨z', pp, ez⟩ := perm_lift (fun x : Value × V × Nat × Int => ((x.1, x.1) : Value × Value)) z _ hp2
  have hm : ∀ x ∈ z', x ∈ z := fun x hx => pp.mem_iff.mp hx
  have hlz : z'.length = its.length := by rw [pp.length_eq, ← z1, List.length_map]
  have eout : ((arrOf st').map (·.2)).toList = z'.map (·.1) := by rw [Array.toList_map, ← ez, List.map_map]; rfl
  obtain ⟨ep, he'⟩ := PyProof.Rows.sortedAll_at s.heap its ((arrOf st').map (·.2))
  have vv : Vals (z'.map (·.2.1)) ((arrOf st').map (·.2)).toList := by
    rw [eout]
    have go : ∀ l : List (Value × V × Nat × Int), (∀ x ∈ l, x ∈ z) → Vals (l.map (·.2.1)) (l.map (·.1)) := fun l => by
      induction l with
      | nil => exact fun _ => .nil
      | cons x r ih => exact fun h => .cons (z4 x (h x List.mem_cons_self)).1 (ih fun y hy => h y (List.mem_cons_of_mem _ hy))
    exact go z' hm
  refine ⟨.ref _, upd H (s.heap.objs.size + 1) (.lst (z'.map (·.2.1))), I.laid (t' := s.toks) (fun _ _ => PyProof.Rows.sortedAll_old) (Nat.le_succ _) ⟨by rw [List.length_map, hlz, ← vlen]; exact hz, _, ep, vv, by rw [Array.toArray_toList]; exact he'⟩, rfl, q (z'.map (·.2.2)) _ _ ?_ ?_ ?_ (I.hok.fresh (Nat.le_succ _))⟩
  · rw [← z3]
    exact pp.map _
  · refine List.pairwise_iff_getElem.mpr fun i j hi hj hij => ?_
    rw [List.length_map] at hi hj
    have sz : (arrOf st').size = z'.length := by rw [← Array.length_toList, ← ez, List.length_map]
    have h1 := hs i j (Nat.le_of_lt hij) (by rw [pairsOf_size, ← hlz]; exact hj)
    have kk : ∀ (i : Nat) (hi : i < z'.length), KK (G.tupKindC s.heap fun _ => false) (arrOf st') i = [Sum.inl (z'[i].2.2.1 : Int), Sum.inl (z'[i].2.2.2 : Int)] := fun i hi => by
      have e : (arrOf st')[i]? = some (z'[i].1, z'[i].1) := by rw [← Array.getElem?_toList, ← ez, List.getElem?_map, List.getElem?_eq_getElem hi]; rfl
      unfold KK
      rw [e]
      show (G.tupKeyC s.heap (fun _ => false) z'[i].1).getD [] = _
      rw [keyC _ (hm _ (List.getElem_mem hi))]
      rfl
    rw [kk i hi, kk j hj] at h1
    have h2 := (lex_false.mp h1).1
    rw [List.getElem_map, List.getElem_map]
    have h3 : ¬ ((z'[j].2.2.1 : Int) < (z'[i].2.2.1 : Int)) := of_decide_eq_false h2
    omega
  · exact NKs.of (l := z') (f := fun x => pairI x.2.2) (g := fun x => x.2.1) (fun x hx => (z4 x (hm x hx)).2) |> fun h => by rw [List.map_map]; exact h
section
variable {fr : Fr} {pn : List Nat} {tmp : List T} {sl : Sl} {KE : T → Sl → Prop} {te : TE}
theorem we_sortI (h : WE fr pn tmp sl te fun t sl1 => ∃ o ps, t = .lst o (ps.map prI) ∧ ∀ qs : List (Nat × Int), qs.Perm ps → qs.Pairwise (fun a b => a.1 ≤ b.1) → KE (.lst true (qs.map prI)) sl1) : WE fr pn tmp sl (tCB rSortI (tCons te tNil)) KE := fun pv tv σ H Q r q => h pv tv σ H _ r fun t sl1 v H1 ⟨o, ps, e, k⟩ r1 => by
  subst e
  obtain ⟨Z, f, z⟩ := r1.top
  unfold Rep at z
  obtain ⟨a, vs, fp', q1, q2, q3, q4⟩ := z
  subst q1
  rw [← prIs_kTs] at q3
  refine ⟨a, vs, ps, rfl, q2, Reps.nk _ _ _ q3, fun qs us p pq sq nk hp => q _ sl1 _ _ (k qs pq sq) ?_⟩
  rw [← prIs_kTs]
  exact r1.pop.newLits (fun Z => nk.reps Z) nk.lens hp
end
end Rs
set_option maxHeartbeats 4000000
namespace Rs
open PySem L2 PySem.Spec PyProof.Rows
structure Ln where
  c : Int
  ts : List (Nat × Int)
deriving DecidableEq
inductive Nm where
  | lt (k : Nat)
  | op (o : Str) (ls : List Ln)
deriving DecidableEq
inductive Kr where
  | lt (k : Nat)
  | op (o : Str) (ps : List Nat)
deriving DecidableEq
def Ln.val (l : Ln) : Option Nat → Int
  | none => l.c
  | some a => (l.ts.lookup a).getD 0
structure Ln.Nf (l : Ln) : Prop where
  asc : l.ts.Pairwise fun p q => p.1 < q.1
  nz : ∀ p ∈ l.ts, p.2 ≠ 0
theorem lk_none {ts : List (Nat × Int)} {a : Nat} (h : ∀ p ∈ ts, p.1 ≠ a) : ts.lookup a = none := by
  induction ts with
  | nil => rfl
  | cons p r ih =>
    rw [List.lookup_cons, show (a == p.1) = false from by rw [beq_eq_false_iff_ne]; exact fun z => h p List.mem_cons_self z.symm]
    exact ih fun q hq => h q (List.mem_cons_of_mem _ hq)
theorem lk_mem {ts : List (Nat × Int)} (h : ts.Pairwise fun p q => p.1 < q.1) {p : Nat × Int} (hp : p ∈ ts) : ts.lookup p.1 = some p.2 := by
  induction ts with
  | nil => cases hp
  | cons q r ih =>
    rw [List.pairwise_cons] at h
    rw [List.lookup_cons]
    rcases List.mem_cons.mp hp with rfl | hp
    · rw [beq_self_eq_true]
    · have := h.1 p hp
      rw [show (p.1 == q.1) = false from by rw [beq_eq_false_iff_ne]; omega]
      exact ih h.2 hp
theorem asc_ext : ∀ {a b : List (Nat × Int)}, (a.Pairwise fun p q => p.1 < q.1) → (b.Pairwise fun p q => p.1 < q.1) → (∀ p, p ∈ a ↔ p ∈ b) → a = b
  | [], [], _, _, _ => rfl
  | [], q :: r, _, _, h => absurd ((h q).mpr List.mem_cons_self) List.not_mem_nil
  | p :: r, [], _, _, h => absurd ((h p).mp List.mem_cons_self) List.not_mem_nil
  | p :: r, q :: s, ha, hb, h => by
    rw [List.pairwise_cons] at ha hb
    have e : p = q := by
      rcases List.mem_cons.mp ((h p).mp List.mem_cons_self) with e | hp
      · exact e
      · rcases List.mem_cons.mp ((h q).mpr List.mem_cons_self) with e | hq
        · exact e.symm
        · have := ha.1 q hq
          have := hb.1 p hp
          omega
    subst e
    congr 1
    refine asc_ext ha.2 hb.2 fun x => ⟨fun hx => ?_, fun hx => ?_⟩
    · rcases List.mem_cons.mp ((h x).mp (List.mem_cons_of_mem _ hx)) with e | h'
      · subst e
        have := ha.1 x hx
        omega
      · exact h'
    · rcases List.mem_cons.mp ((h x).mpr (List.mem_cons_of_mem _ hx)) with e | h'
      · subst e
        have := hb.1 x hx
        omega
      · exact h'
theorem Ln.ext' {a b : Ln} (ha : a.Nf) (hb : b.Nf) (h : ∀ k, a.val k = b.val k) : a = b := by
  have hc : a.c = b.c := h none
  have ht : a.ts = b.ts := by
    refine asc_ext ha.asc hb.asc fun p => ⟨fun hp => ?_, fun hp => ?_⟩
    · have e : (a.ts.lookup p.1).getD 0 = (b.ts.lookup p.1).getD 0 := h (some p.1)
      rw [lk_mem ha.asc hp] at e
      have e : p.2 = (b.ts.lookup p.1).getD 0 := e
      cases q : b.ts.lookup p.1 with
      | none => rw [q] at e; exact absurd e (ha.nz p hp)
      | some v =>
        rw [q] at e
        have hm : (p.1, v) ∈ b.ts := by
          have hb' := hb.asc
          clear e h ha hb hp
          generalize b.ts = l at q hb'
          induction l with
          | nil => cases q
          | cons x r ih =>
            rw [List.lookup_cons] at q
            by_cases c : p.1 = x.1
            · rw [show (p.1 == x.1) = true from by rw [beq_iff_eq]; exact c] at q
              cases q
              rw [c]
              exact List.mem_cons_self
            · rw [show (p.1 == x.1) = false from by rw [beq_eq_false_iff_ne]; exact c] at q
              exact List.mem_cons_of_mem _ (ih q (List.pairwise_cons.mp hb').2)
        have e : p.2 = v := e
        rw [← e] at hm
        exact hm
    · have e : (a.ts.lookup p.1).getD 0 = (b.ts.lookup p.1).getD 0 := h (some p.1)
      rw [lk_mem hb.asc hp] at e
      have e : (a.ts.lookup p.1).getD 0 = p.2 := e
      cases q : a.ts.lookup p.1 with
      | none => rw [q] at e; exact absurd e.symm (hb.nz p hp)
      | some v =>
        rw [q] at e
        have hm : (p.1, v) ∈ a.ts := by
          have ha' := ha.asc
          clear e h ha hb hp
          generalize a.ts = l at q ha'
          induction l with
          | nil => cases q
          | cons x r ih =>
            rw [List.lookup_cons] at q
            by_cases c : p.1 = x.1
            · rw [show (p.1 == x.1) = true from by rw [beq_iff_eq]; exact c] at q
              cases q
              rw [c]
              exact List.mem_cons_self
            · rw [show (p.1 == x.1) = false from by rw [beq_eq_false_iff_ne]; exact c] at q
              exact List.mem_cons_of_mem _ (ih q (List.pairwise_cons.mp ha').2)
        have e : v = p.2 := e
        rw [e] at hm
        exact hm
  cases a
  cases b
  cases hc
  cases ht
  rfl
def idxN (B : List Nm) (n : Nm) : Option Nat := if n ∈ B then some (B.idxOf n) else none
def addN (B : List Nm) (n : Nm) : List Nm := if n ∈ B then B else B ++ [n]
def unit (i : Nat) : Ln := ⟨0, [(i, 1)]⟩
def Ext (B B' : List Nm) : Prop := ∃ t, B' = B ++ t
theorem Ext.rfl {B : List Nm} : Ext B B := ⟨[], (List.append_nil _).symm⟩
theorem Ext.trans {A B C : List Nm} (h : Ext A B) (k : Ext B C) : Ext A C := by
  obtain ⟨s, e⟩ := h
  obtain ⟨t, e2⟩ := k
  exact ⟨s ++ t, by rw [e2, e, List.append_assoc]⟩
theorem addN_ext (B : List Nm) (n : Nm) : Ext B (addN B n) := by
  unfold addN
  split
  · exact .rfl
  · exact ⟨[n], rfl⟩
theorem idxN_ext {B B' : List Nm} (h : Ext B B') {n : Nm} {i : Nat} (e : idxN B n = some i) : idxN B' n = some i := by
  obtain ⟨t, rfl⟩ := h
  unfold idxN at e ⊢
  split at e
  · rename_i hm
    rw [if_pos (List.mem_append_left _ hm), List.idxOf_append, if_pos hm]
    exact e
  · cases e
theorem idxN_add (B : List Nm) (n : Nm) : idxN (addN B n) n = some ((addN B n).idxOf n) := by
  have : n ∈ addN B n := by
    unfold addN
    split
    · assumption
    · simp
  unfold idxN
  rw [if_pos this]
theorem addN_of {B : List Nm} {n : Nm} {i : Nat} (e : idxN B n = some i) : addN B n = B := by
  unfold idxN at e
  unfold addN
  split at e
  · rename_i hm; rw [if_pos hm]
  · cases e
theorem addN_nd {B : List Nm} (h : B.Nodup) (n : Nm) : (addN B n).Nodup := by
  unfold addN
  split
  · exact h
  · rename_i hn
    exact List.nodup_append.mpr ⟨h, by simp, fun a ha b hb e => by rw [List.mem_singleton] at hb; rw [e, hb] at ha; exact hn ha⟩
theorem idxN_at {B : List Nm} (h : B.Nodup) {n : Nm} {i : Nat} : idxN B n = some i ↔ B[i]? = some n := by
  constructor
  · intro e
    unfold idxN at e
    split at e
    · rename_i hm
      cases e
      rw [List.getElem?_eq_getElem (List.idxOf_lt_length_iff.mpr hm), List.getElem_idxOf]
    · cases e
  · intro e
    have hm := List.mem_of_getElem? e
    unfold idxN
    rw [if_pos hm]
    obtain ⟨hi, e⟩ := List.getElem?_eq_some_iff.mp e
    rw [← e, h.idxOf_getElem]
variable {sum : Str → List Ln → Option Ln} {R : List Kr}
mutual
inductive Ev (sum : Str → List Ln → Option Ln) (R : List Kr) (B : List Nm) : Nat → Ln → Prop
  | lt {n k i : Nat} : R[n]? = some (.lt k) → idxN B (.lt k) = some i → Ev sum R B n (unit i)
  | sum {n : Nat} {o : Str} {ps : List Nat} {ls : List Ln} {l : Ln} : R[n]? = some (.op o ps) → Evs sum R B ps ls → sum o ls = some l → Ev sum R B n l
  | op {n i : Nat} {o : Str} {ps : List Nat} {ls : List Ln} : R[n]? = some (.op o ps) → Evs sum R B ps ls → sum o ls = none → idxN B (.op o ls) = some i → Ev sum R B n (unit i)
inductive Evs (sum : Str → List Ln → Option Ln) (R : List Kr) (B : List Nm) : List Nat → List Ln → Prop
  | nil : Evs sum R B [] []
  | cons {p : Nat} {ps : List Nat} {l : Ln} {ls : List Ln} : Ev sum R B p l → Evs sum R B ps ls → Evs sum R B (p :: ps) (l :: ls)
end
mutual
theorem Ev.ext {B B' : List Nm} (x : Ext B B') : ∀ {n : Nat} {l : Ln}, Ev sum R B n l → Ev sum R B' n l
  | _, _, .lt h e => .lt h (idxN_ext x e)
  | _, _, .sum h e k => .sum h (Evs.ext x e) k
  | _, _, .op h e k i => .op h (Evs.ext x e) k (idxN_ext x i)
theorem Evs.ext {B B' : List Nm} (x : Ext B B') : ∀ {ps : List Nat} {ls : List Ln}, Evs sum R B ps ls → Evs sum R B' ps ls
  | _, _, .nil => .nil
  | _, _, .cons h k => .cons (Ev.ext x h) (Evs.ext x k)
end
mutual
theorem Ev.det {B : List Nm} : ∀ {n : Nat} {l l' : Ln}, Ev sum R B n l → Ev sum R B n l' → l = l'
  | _, _, _, .lt h e, k => by
    cases k with
    | lt h' e' => rw [h] at h'; cases h'; rw [e] at e'; cases e'; rfl
    | sum h' => rw [h] at h'; cases h'
    | op h' => rw [h] at h'; cases h'
  | _, _, _, .sum h e s, k => by
    cases k with
    | lt h' => rw [h] at h'; cases h'
    | sum h' e' s' => rw [h] at h'; cases h'; have := Evs.det e e'; subst this; rw [s] at s'; cases s'; rfl
    | op h' e' s' => rw [h] at h'; cases h'; have := Evs.det e e'; subst this; rw [s] at s'; cases s'
  | _, _, _, .op h e s i, k => by
    cases k with
    | lt h' => rw [h] at h'; cases h'
    | sum h' e' s' => rw [h] at h'; cases h'; have := Evs.det e e'; subst this; rw [s] at s'; cases s'
    | op h' e' s' i' => rw [h] at h'; cases h'; have := Evs.det e e'; subst this; rw [i] at i'; cases i'; rfl
theorem Evs.det {B : List Nm} : ∀ {ps : List Nat} {ls ls' : List Ln}, Evs sum R B ps ls → Evs sum R B ps ls' → ls = ls'
  | _, _, _, .nil, k => by cases k; rfl
  | _, _, _, .cons h t, k => by
    cases k with
    | cons h' t' => rw [Ev.det h h', Evs.det t t']
end
theorem Evs.len {B : List Nm} : ∀ {ps : List Nat} {ls : List Ln}, Evs sum R B ps ls → ls.length = ps.length
  | _, _, .nil => rfl
  | _, _, .cons _ k => congrArg (· + 1) (Evs.len k)
theorem Evs.app {B : List Nm} : ∀ {ps qs : List Nat} {ls ms : List Ln}, Evs sum R B ps ls → Evs sum R B qs ms → Evs sum R B (ps ++ qs) (ls ++ ms)
  | _, _, _, _, .nil, k => k
  | _, _, _, _, .cons h t, k => .cons h (Evs.app t k)
theorem Evs.of {B : List Nm} : ∀ {ps : List Nat}, (∀ p ∈ ps, ∃ l, Ev sum R B p l) → ∃ ls, Evs sum R B ps ls
  | [], _ => ⟨[], .nil⟩
  | p :: r, h => by
    obtain ⟨l, a⟩ := h p List.mem_cons_self
    obtain ⟨ls, b⟩ := Evs.of fun q hq => h q (List.mem_cons_of_mem _ hq)
    exact ⟨l :: ls, .cons a b⟩
mutual
inductive Vis (sum : Str → List Ln → Option Ln) (R : List Kr) : List Nm → Nat → List Nm → Prop
  | lt {B : List Nm} {n k : Nat} : R[n]? = some (.lt k) → Vis sum R B n (addN B (.lt k))
  | sum {B B1 : List Nm} {n : Nat} {o : Str} {ps : List Nat} {ls : List Ln} {l : Ln} : R[n]? = some (.op o ps) → Viss sum R B ps B1 → Evs sum R B1 ps ls → sum o ls = some l → Vis sum R B n B1
  | op {B B1 : List Nm} {n : Nat} {o : Str} {ps : List Nat} {ls : List Ln} : R[n]? = some (.op o ps) → Viss sum R B ps B1 → Evs sum R B1 ps ls → sum o ls = none → Vis sum R B n (addN B1 (.op o ls))
inductive Viss (sum : Str → List Ln → Option Ln) (R : List Kr) : List Nm → List Nat → List Nm → Prop
  | nil {B : List Nm} : Viss sum R B [] B
  | cons {B B1 B2 : List Nm} {p : Nat} {ps : List Nat} : Vis sum R B p B1 → Viss sum R B1 ps B2 → Viss sum R B (p :: ps) B2
end
mutual
theorem Vis.ext : ∀ {B B' : List Nm} {n : Nat}, Vis sum R B n B' → Ext B B'
  | _, _, _, .lt _ => addN_ext _ _
  | _, _, _, .sum _ v _ _ => Viss.ext v
  | _, _, _, .op _ v _ _ => (Viss.ext v).trans (addN_ext _ _)
theorem Viss.ext : ∀ {B B' : List Nm} {ps : List Nat}, Viss sum R B ps B' → Ext B B'
  | _, _, _, .nil => .rfl
  | _, _, _, .cons h k => (Vis.ext h).trans (Viss.ext k)
end
theorem Vis.ev {B B' : List Nm} {n : Nat} (v : Vis sum R B n B') : ∃ l, Ev sum R B' n l := by
  cases v with
  | lt h => exact ⟨_, .lt h (idxN_add _ _)⟩
  | sum h v e s => exact ⟨_, .sum h e s⟩
  | op h v e s => exact ⟨_, .op h (e.ext (addN_ext _ _)) s (idxN_add _ _)⟩
mutual
theorem Vis.det : ∀ {B B' B'' : List Nm} {n : Nat}, Vis sum R B n B' → Vis sum R B n B'' → B' = B''
  | _, _, _, _, .lt h, k => by
    cases k with
    | lt h' => rw [h] at h'; cases h'; rfl
    | sum h' => rw [h] at h'; cases h'
    | op h' => rw [h] at h'; cases h'
  | _, _, _, _, .sum h v e s, k => by
    cases k with
    | lt h' => rw [h] at h'; cases h'
    | sum h' v' e' s' => rw [h] at h'; cases h'; exact Viss.det v v'
    | op h' v' e' s' => rw [h] at h'; cases h'; have := Viss.det v v'; subst this; have := e.det e'; subst this; rw [s] at s'; cases s'
  | _, _, _, _, .op h v e s, k => by
    cases k with
    | lt h' => rw [h] at h'; cases h'
    | sum h' v' e' s' => rw [h] at h'; cases h'; have := Viss.det v v'; subst this; have := e.det e'; subst this; rw [s] at s'; cases s'
    | op h' v' e' s' => rw [h] at h'; cases h'; have := Viss.det v v'; subst this; have := e.det e'; subst this; rfl
theorem Viss.det : ∀ {B B' B'' : List Nm} {ps : List Nat}, Viss sum R B ps B' → Viss sum R B ps B'' → B' = B''
  | _, _, _, _, .nil, k => by cases k; rfl
  | _, _, _, _, .cons h t, k => by
    cases k with
    | cons h' t' => have := Vis.det h h'; subst this; exact Viss.det t t'
end
mutual
theorem Ev.vis {B : List Nm} : ∀ {n : Nat} {l : Ln}, Ev sum R B n l → Vis sum R B n B
  | _, _, .lt h e => by
    have := Vis.lt (sum := sum) (B := B) h
    rwa [addN_of e] at this
  | _, _, .sum h e s => .sum h (Evs.vis e) e s
  | _, _, .op h e s i => by
    have := Vis.op h (Evs.vis e) e s
    rwa [addN_of i] at this
theorem Evs.vis {B : List Nm} : ∀ {ps : List Nat} {ls : List Ln}, Evs sum R B ps ls → Viss sum R B ps B
  | _, _, .nil => .nil
  | _, _, .cons h k => .cons (Ev.vis h) (Evs.vis k)
end
theorem Viss.split : ∀ {ps qs : List Nat} {B B' : List Nm}, Viss sum R B (ps ++ qs) B' → ∃ M, Viss sum R B ps M ∧ Viss sum R M qs B'
  | [], _, _, _, h => ⟨_, .nil, h⟩
  | p :: r, qs, _, _, h => by
    cases h with
    | cons a b =>
      obtain ⟨M, c, d⟩ := Viss.split b
      exact ⟨M, .cons a c, d⟩
theorem Viss.app : ∀ {ps qs : List Nat} {B M B' : List Nm}, Viss sum R B ps M → Viss sum R M qs B' → Viss sum R B (ps ++ qs) B'
  | _, _, _, _, _, .nil, k => k
  | _, _, _, _, _, .cons a b, k => .cons a (Viss.app b k)
inductive Way (sum : Str → List Ln → Option Ln) (R : List Kr) (A : List Nm) : Nat → Nat → Prop
  | here {n : Nat} : Way sum R A n n
  | down {n t p : Nat} {o : Str} {pre post : List Nat} {ls : List Ln} : R[n]? = some (.op o (pre ++ p :: post)) → Evs sum R A pre ls → Way sum R A p t → Way sum R A n t
theorem Way.ext {A A' : List Nm} (x : Ext A A') {n t : Nat} (h : Way sum R A n t) : Way sum R A' n t := by
  induction h with
  | here => exact .here
  | down h e _ ih => exact .down h (e.ext x) ih
theorem Way.snoc {A : List Nm} {n t p : Nat} {o : Str} {pre post : List Nat} {ls : List Ln} (h : Way sum R A n t) (hr : R[t]? = some (.op o (pre ++ p :: post))) (e : Evs sum R A pre ls) : Way sum R A n p := by
  induction h with
  | here => exact .down hr e .here
  | down h1 e1 _ ih => exact .down h1 e1 (ih hr)
theorem Way.first {A F : List Nm} {n t : Nat} (h : Way sum R A n t) (v : Vis sum R A n F) : ∃ A', Vis sum R A t A' ∧ Vis sum R A' n F := by
  induction h generalizing F with
  | here =>
    obtain ⟨l, e⟩ := v.ev
    exact ⟨F, v, e.vis⟩
  | @down n t p o pre post ls h1 e1 _ ih =>
    have mid : ∀ {B1 : List Nm}, Viss sum R A (pre ++ p :: post) B1 → ∃ A', Vis sum R A t A' ∧ Viss sum R A' (pre ++ p :: post) B1 := fun {B1} w => by
      obtain ⟨M, a, b⟩ := Viss.split w
      have := a.det e1.vis
      subst this
      cases b with
      | cons b c =>
        obtain ⟨A', d1, d2⟩ := ih b
        exact ⟨A', d1, ((e1.ext d1.ext).vis).app (.cons d2 c)⟩
    cases v with
    | lt h2 => rw [h1] at h2; cases h2
    | sum h2 w e s => rw [h1] at h2; cases h2; obtain ⟨A', d1, d2⟩ := mid w; exact ⟨A', d1, .sum h1 d2 e s⟩
    | op h2 w e s => rw [h1] at h2; cases h2; obtain ⟨A', d1, d2⟩ := mid w; exact ⟨A', d1, .op h1 d2 e s⟩
def Same (K R : List Kr) (f : Nat → Nat) : Prop := (∀ i k, K[i]? = some (.lt k) → R[f i]? = some (.lt k)) ∧ ∀ i o ps, K[i]? = some (.op o ps) → R[f i]? = some (.op o (ps.map f))
variable {K : List Kr} {f : Nat → Nat}
mutual
theorem Same.ev (s : Same K R f) {B : List Nm} : ∀ {n : Nat} {l : Ln}, Ev sum K B n l → Ev sum R B (f n) l
  | _, _, .lt h e => .lt (s.1 _ _ h) e
  | _, _, .sum h e k => .sum (s.2 _ _ _ h) (Same.evs s e) k
  | _, _, .op h e k i => .op (s.2 _ _ _ h) (Same.evs s e) k i
theorem Same.evs (s : Same K R f) {B : List Nm} : ∀ {ps : List Nat} {ls : List Ln}, Evs sum K B ps ls → Evs sum R B (ps.map f) ls
  | _, _, .nil => .nil
  | _, _, .cons h k => .cons (Same.ev s h) (Same.evs s k)
end
mutual
theorem Same.vis (s : Same K R f) : ∀ {B B' : List Nm} {n : Nat}, Vis sum K B n B' → Vis sum R B (f n) B'
  | _, _, _, .lt h => .lt (s.1 _ _ h)
  | _, _, _, .sum h v e k => .sum (s.2 _ _ _ h) (Same.viss s v) (s.evs e) k
  | _, _, _, .op h v e k => .op (s.2 _ _ _ h) (Same.viss s v) (s.evs e) k
theorem Same.viss (s : Same K R f) : ∀ {B B' : List Nm} {ps : List Nat}, Viss sum K B ps B' → Viss sum R B (ps.map f) B'
  | _, _, _, .nil => .nil
  | _, _, _, .cons h k => .cons (Same.vis s h) (Same.viss s k)
end
end Rs
set_option maxHeartbeats 4000000
namespace Rs
open PySem L2 PySem.Spec PyProof.Rows
abbrev Fs := List (Nat × Int)
def Asc (ts : Fs) : Prop := ts.Pairwise fun p q => p.1 < q.1
def vl (ts : Fs) (a : Nat) : Int := (ts.lookup a).getD 0
theorem vl_cons (p : Nat × Int) (r : Fs) (a : Nat) : vl (p :: r) a = if a = p.1 then p.2 else vl r a := by
  unfold vl
  rw [List.lookup_cons]
  by_cases h : a = p.1
  · rw [if_pos h, show (a == p.1) = true from beq_iff_eq.mpr h]; rfl
  · rw [if_neg h, show (a == p.1) = false from beq_eq_false_iff_ne.mpr h]
theorem vl_zero {ts : Fs} {a : Nat} (h : ∀ p ∈ ts, p.1 ≠ a) : vl ts a = 0 := by unfold vl; rw [lk_none h]; rfl
def cns (a : Nat) (x : Int) (r : Fs) : Fs := if x = 0 then r else (a, x) :: r
def mrgF (m : Int) : Nat → Fs → Fs → Fs
  | 0, _, _ => []
  | f + 1, [], [] => []
  | f + 1, p :: r, [] => cns p.1 p.2 (mrgF m f r [])
  | f + 1, [], q :: s => cns q.1 (m * q.2) (mrgF m f [] s)
  | f + 1, p :: r, q :: s => if p.1 < q.1 then cns p.1 p.2 (mrgF m f r (q :: s)) else if q.1 < p.1 then cns q.1 (m * q.2) (mrgF m f (p :: r) s) else cns p.1 (p.2 + m * q.2) (mrgF m f r s)
theorem cns_vl {a : Nat} {x : Int} {r : Fs} (h : vl r a = 0) (b : Nat) : vl (cns a x r) b = if b = a then x else vl r b := by
  unfold cns
  by_cases hx : x = 0
  · rw [if_pos hx]
    by_cases hb : b = a
    · rw [if_pos hb, hb, h, hx]
    · rw [if_neg hb]
  · rw [if_neg hx, vl_cons]
theorem mrgF_all (m : Int) : ∀ (f : Nat) (r s : Fs), r.length + s.length < f → Asc r → Asc s → (∀ p ∈ mrgF m f r s, p.2 ≠ 0 ∧ ((∃ q ∈ r, q.1 = p.1) ∨ ∃ q ∈ s, q.1 = p.1)) ∧ Asc (mrgF m f r s) ∧ ∀ a, vl (mrgF m f r s) a = vl r a + m * vl s a
  | 0, _, _, h, _, _ => absurd h (Nat.not_lt_zero _)
  | f + 1, [], [], _, _, _ => ⟨fun p h => (nomatch h), List.Pairwise.nil, fun a => by show (0 : Int) = 0 + m * 0; omega⟩
  | f + 1, p :: r, [], h, hr, hs => by
    unfold Asc at hr
    rw [List.pairwise_cons] at hr
    obtain ⟨a1, a2, a3⟩ := mrgF_all m f r [] (by simp at h ⊢; omega) hr.2 hs
    have z : vl (mrgF m f r []) p.1 = 0 := by
      rw [a3, vl_zero fun q hq => by have := hr.1 q hq; omega]
      show 0 + m * 0 = 0
      omega
    show (∀ q ∈ cns p.1 p.2 (mrgF m f r []), _) ∧ Asc (cns p.1 p.2 (mrgF m f r [])) ∧ ∀ a, vl (cns p.1 p.2 (mrgF m f r [])) a = _
    refine ⟨fun q hq => ?_, ?_, fun a => ?_⟩
    · unfold cns at hq
      split at hq
      · obtain ⟨b1, b2⟩ := a1 q hq
        exact ⟨b1, b2.imp (fun ⟨x, hx, e⟩ => ⟨x, List.mem_cons_of_mem _ hx, e⟩) id⟩
      · rename_i hne
        rcases List.mem_cons.mp hq with rfl | hq
        · exact ⟨hne, .inl ⟨p, List.mem_cons_self, rfl⟩⟩
        · obtain ⟨b1, b2⟩ := a1 q hq
          exact ⟨b1, b2.imp (fun ⟨x, hx, e⟩ => ⟨x, List.mem_cons_of_mem _ hx, e⟩) id⟩
    · unfold cns
      split
      · exact a2
      · refine List.pairwise_cons.mpr ⟨fun q hq => ?_, a2⟩
        rcases (a1 q hq).2 with ⟨x, hx, e⟩ | ⟨x, hx, _⟩
        · have := hr.1 x hx
          show p.1 < q.1
          omega
        · cases hx
    · rw [cns_vl z, a3, vl_cons]
      by_cases e : a = p.1
      · rw [if_pos e, if_pos e]
        show p.2 = p.2 + m * 0
        omega
      · rw [if_neg e, if_neg e]
  | f + 1, [], q :: s, h, hr, hs => by
    unfold Asc at hs
    rw [List.pairwise_cons] at hs
    obtain ⟨a1, a2, a3⟩ := mrgF_all m f [] s (by simp at h ⊢; omega) hr hs.2
    have z : vl (mrgF m f [] s) q.1 = 0 := by
      rw [a3, vl_zero (ts := s) fun x hx => by have := hs.1 x hx; omega]
      show 0 + m * 0 = 0
      omega
    show (∀ p ∈ cns q.1 (m * q.2) (mrgF m f [] s), _) ∧ Asc (cns q.1 (m * q.2) (mrgF m f [] s)) ∧ ∀ a, vl (cns q.1 (m * q.2) (mrgF m f [] s)) a = _
    refine ⟨fun p hp => ?_, ?_, fun a => ?_⟩
    · unfold cns at hp
      split at hp
      · obtain ⟨b1, b2⟩ := a1 p hp
        exact ⟨b1, b2.imp id fun ⟨x, hx, e⟩ => ⟨x, List.mem_cons_of_mem _ hx, e⟩⟩
      · rename_i hne
        rcases List.mem_cons.mp hp with rfl | hp
        · exact ⟨hne, .inr ⟨q, List.mem_cons_self, rfl⟩⟩
        · obtain ⟨b1, b2⟩ := a1 p hp
          exact ⟨b1, b2.imp id fun ⟨x, hx, e⟩ => ⟨x, List.mem_cons_of_mem _ hx, e⟩⟩
    · unfold cns
      split
      · exact a2
      · refine List.pairwise_cons.mpr ⟨fun p hp => ?_, a2⟩
        rcases (a1 p hp).2 with ⟨x, hx, _⟩ | ⟨x, hx, e⟩
        · cases hx
        · have := hs.1 x hx
          show q.1 < p.1
          omega
    · rw [cns_vl z, a3, vl_cons]
      by_cases e : a = q.1
      · rw [if_pos e, if_pos e]
        show m * q.2 = 0 + m * q.2
        omega
      · rw [if_neg e, if_neg e]
  | f + 1, p :: r, q :: s, h, hr, hs => by
    have hr0 := hr
    have hs0 := hs
    unfold Asc at hr hs
    rw [List.pairwise_cons] at hr hs
    by_cases c1 : p.1 < q.1
    · obtain ⟨a1, a2, a3⟩ := mrgF_all m f r (q :: s) (by simp at h ⊢; omega) hr.2 hs0
      have z : vl (mrgF m f r (q :: s)) p.1 = 0 := by
        rw [a3, vl_zero (ts := r) fun x hx => by have := hr.1 x hx; omega, vl_zero (ts := q :: s) fun x hx => by
          rcases List.mem_cons.mp hx with rfl | hx
          · omega
          · have := hs.1 x hx; omega]
        show 0 + m * 0 = 0
        omega
      have e0 : mrgF m (f + 1) (p :: r) (q :: s) = cns p.1 p.2 (mrgF m f r (q :: s)) := by
        show (if p.1 < q.1 then _ else _) = _
        rw [if_pos c1]
      rw [e0]
      refine ⟨fun x hx => ?_, ?_, fun a => ?_⟩
      · unfold cns at hx
        split at hx
        · obtain ⟨b1, b2⟩ := a1 x hx
          exact ⟨b1, b2.imp (fun ⟨y, hy, e⟩ => ⟨y, List.mem_cons_of_mem _ hy, e⟩) id⟩
        · rename_i hne
          rcases List.mem_cons.mp hx with rfl | hx
          · exact ⟨hne, .inl ⟨p, List.mem_cons_self, rfl⟩⟩
          · obtain ⟨b1, b2⟩ := a1 x hx
            exact ⟨b1, b2.imp (fun ⟨y, hy, e⟩ => ⟨y, List.mem_cons_of_mem _ hy, e⟩) id⟩
      · unfold cns
        split
        · exact a2
        · refine List.pairwise_cons.mpr ⟨fun x hx => ?_, a2⟩
          show p.1 < x.1
          rcases (a1 x hx).2 with ⟨y, hy, e⟩ | ⟨y, hy, e⟩
          · have := hr.1 y hy; omega
          · rcases List.mem_cons.mp hy with rfl | hy
            · omega
            · have := hs.1 y hy; omega
      · rw [cns_vl z, a3, vl_cons p]
        by_cases e : a = p.1
        · rw [if_pos e, if_pos e, vl_zero (ts := q :: s) fun x hx => by
            rcases List.mem_cons.mp hx with rfl | hx
            · omega
            · have := hs.1 x hx; omega]
          show p.2 = p.2 + m * 0
          omega
        · rw [if_neg e, if_neg e]
    · by_cases c2 : q.1 < p.1
      · obtain ⟨a1, a2, a3⟩ := mrgF_all m f (p :: r) s (by simp at h ⊢; omega) hr0 hs.2
        have z : vl (mrgF m f (p :: r) s) q.1 = 0 := by
          rw [a3, vl_zero (ts := s) fun x hx => by have := hs.1 x hx; omega, vl_zero (ts := p :: r) fun x hx => by
            rcases List.mem_cons.mp hx with rfl | hx
            · omega
            · have := hr.1 x hx; omega]
          show 0 + m * 0 = 0
          omega
        have e0 : mrgF m (f + 1) (p :: r) (q :: s) = cns q.1 (m * q.2) (mrgF m f (p :: r) s) := by
          show (if p.1 < q.1 then _ else if q.1 < p.1 then _ else _) = _
          rw [if_neg c1, if_pos c2]
        rw [e0]
        refine ⟨fun x hx => ?_, ?_, fun a => ?_⟩
        · unfold cns at hx
          split at hx
          · obtain ⟨b1, b2⟩ := a1 x hx
            exact ⟨b1, b2.imp id fun ⟨y, hy, e⟩ => ⟨y, List.mem_cons_of_mem _ hy, e⟩⟩
          · rename_i hne
            rcases List.mem_cons.mp hx with rfl | hx
            · exact ⟨hne, .inr ⟨q, List.mem_cons_self, rfl⟩⟩
            · obtain ⟨b1, b2⟩ := a1 x hx
              exact ⟨b1, b2.imp id fun ⟨y, hy, e⟩ => ⟨y, List.mem_cons_of_mem _ hy, e⟩⟩
        · unfold cns
          split
          · exact a2
          · refine List.pairwise_cons.mpr ⟨fun x hx => ?_, a2⟩
            show q.1 < x.1
            rcases (a1 x hx).2 with ⟨y, hy, e⟩ | ⟨y, hy, e⟩
            · rcases List.mem_cons.mp hy with rfl | hy
              · omega
              · have := hr.1 y hy; omega
            · have := hs.1 y hy; omega
        · rw [cns_vl z, a3, vl_cons q]
          by_cases e : a = q.1
          · rw [if_pos e, if_pos e, vl_zero (ts := p :: r) fun x hx => by
              rcases List.mem_cons.mp hx with rfl | hx
              · omega
              · have := hr.1 x hx; omega]
            omega
          · rw [if_neg e, if_neg e]
      · have c3 : p.1 = q.1 := by omega
        obtain ⟨a1, a2, a3⟩ := mrgF_all m f r s (by simp at h ⊢; omega) hr.2 hs.2
        have zr : vl r p.1 = 0 := vl_zero fun x hx => by have := hr.1 x hx; omega
        have zs : vl s p.1 = 0 := vl_zero fun x hx => by have := hs.1 x hx; omega
        have z : vl (mrgF m f r s) p.1 = 0 := by
          rw [a3, zr, zs]
          omega
        have e0 : mrgF m (f + 1) (p :: r) (q :: s) = cns p.1 (p.2 + m * q.2) (mrgF m f r s) := by
          show (if p.1 < q.1 then _ else if q.1 < p.1 then _ else _) = _
          rw [if_neg c1, if_neg c2]
        rw [e0]
        refine ⟨fun x hx => ?_, ?_, fun a => ?_⟩
        · unfold cns at hx
          split at hx
          · obtain ⟨b1, b2⟩ := a1 x hx
            exact ⟨b1, b2.imp (fun ⟨y, hy, e⟩ => ⟨y, List.mem_cons_of_mem _ hy, e⟩) fun ⟨y, hy, e⟩ => ⟨y, List.mem_cons_of_mem _ hy, e⟩⟩
          · rename_i hne
            rcases List.mem_cons.mp hx with rfl | hx
            · exact ⟨hne, .inl ⟨p, List.mem_cons_self, rfl⟩⟩
            · obtain ⟨b1, b2⟩ := a1 x hx
              exact ⟨b1, b2.imp (fun ⟨y, hy, e⟩ => ⟨y, List.mem_cons_of_mem _ hy, e⟩) fun ⟨y, hy, e⟩ => ⟨y, List.mem_cons_of_mem _ hy, e⟩⟩
        · unfold cns
          split
          · exact a2
          · refine List.pairwise_cons.mpr ⟨fun x hx => ?_, a2⟩
            show p.1 < x.1
            rcases (a1 x hx).2 with ⟨y, hy, e⟩ | ⟨y, hy, e⟩
            · have := hr.1 y hy; omega
            · have := hs.1 y hy; omega
        · rw [cns_vl z, a3, vl_cons p, vl_cons q]
          by_cases e : a = p.1
          · rw [if_pos e, if_pos e, if_pos (e.trans c3)]
          · rw [if_neg e, if_neg e, if_neg (fun x => e (x.trans c3.symm))]
def plusL (a b : Ln) (m : Int) : Ln := ⟨a.c + m * b.c, mrgF m (a.ts.length + b.ts.length + 1) a.ts b.ts⟩
theorem plusL_nf {a b : Ln} (ha : a.Nf) (hb : b.Nf) (m : Int) : (plusL a b m).Nf :=
  have h := mrgF_all m _ a.ts b.ts (Nat.lt_succ_self _) ha.asc hb.asc
  ⟨h.2.1, fun p hp => (h.1 p hp).1⟩
theorem plusL_val {a b : Ln} (ha : a.Nf) (hb : b.Nf) (m : Int) : ∀ k, (plusL a b m).val k = a.val k + m * b.val k
  | none => rfl
  | some x => (mrgF_all m _ a.ts b.ts (Nat.lt_succ_self _) ha.asc hb.asc).2.2 x
theorem unit_nf (i : Nat) : (unit i).Nf := ⟨List.pairwise_singleton _ _, fun p hp => by rw [List.mem_singleton.mp hp]; exact Int.one_ne_zero⟩
theorem const_nf (c : Int) : (Ln.mk c []).Nf := ⟨List.Pairwise.nil, fun p hp => (nomatch hp)⟩
theorem nf_of {c : Int} {d qs : Fs} (nd : (d.map (·.1)).Nodup) (nz : ∀ p ∈ d, p.2 ≠ 0) (pq : qs.Perm d) (sq : qs.Pairwise fun a b => a.1 ≤ b.1) : (Ln.mk c qs).Nf ∧ ∀ a, vl qs a = vl d a := by
  have ndq : (qs.map (·.1)).Nodup := ((pq.map (·.1)).nodup_iff).mpr nd
  have asc : Asc qs := by
    clear pq nz
    induction qs with
    | nil => exact List.Pairwise.nil
    | cons p r ih =>
      rw [List.pairwise_cons] at sq
      rw [List.map_cons, List.nodup_cons] at ndq
      refine List.pairwise_cons.mpr ⟨fun q hq => ?_, ih sq.2 ndq.2⟩
      have h1 := sq.1 q hq
      have h2 : p.1 ≠ q.1 := fun z => ndq.1 (by rw [z]; exact List.mem_map.mpr ⟨q, hq, rfl⟩)
      omega
  have lk : ∀ {l : Fs}, (l.map (·.1)).Nodup → ∀ {p : Nat × Int}, p ∈ l → vl l p.1 = p.2 := fun {l} hl => by
    induction l with
    | nil => intro p hp; cases hp
    | cons x r ih =>
      rw [List.map_cons, List.nodup_cons] at hl
      intro p hp
      rw [vl_cons]
      rcases List.mem_cons.mp hp with rfl | hp
      · rw [if_pos rfl]
      · rw [if_neg (fun z => hl.1 (by rw [← z]; exact List.mem_map.mpr ⟨p, hp, rfl⟩))]
        exact ih hl.2 hp
  refine ⟨⟨asc, fun p hp => nz p (pq.mem_iff.mp hp)⟩, fun a => ?_⟩
  by_cases h : ∃ p ∈ d, p.1 = a
  · obtain ⟨p, hp, rfl⟩ := h
    rw [lk nd hp, lk ndq (pq.mem_iff.mpr hp)]
  · rw [vl_zero fun p hp z => h ⟨p, hp, z⟩, vl_zero fun p hp z => h ⟨p, pq.mem_iff.mp hp, z⟩]
end Rs
set_option maxHeartbeats 4000000
namespace Rs
open PySem L2 PySem.Spec PyProof.Rows
def nkT (D : Fs) : List (Key × T) := D.map fun p => ((.inl (p.1 : Int) : Key), T.int p.2)
def nkV (D : Fs) : List (Key × V) := D.map fun p => ((.inl (p.1 : Int) : Key), V.int p.2)
def putZ (D : Fs) (n : Nat) (x : Int) : Fs := if (D.any fun p => decide (p.1 = n)) = true then D.map (fun p => if p.1 = n then (p.1, x) else p) else D ++ [(n, x)]
theorem nkT_len (D : Fs) : (nkT D).length = D.length := List.length_map _
theorem nk_still : ∀ D : Fs, stillK (nkT D) = true
  | [] => rfl
  | p :: r => by
    show stillK ((_, T.int p.2) :: nkT r) = true
    unfold stillK
    rw [nk_still r]
    rfl
theorem nk_vals {Z : Addr → Prop} {H : Hp} : ∀ {D : Fs} {ws : List (Key × V)} {f : List Addr}, RepK Z H (nkT D) ws f → ws = nkV D ∧ f = []
  | [], ws, f, h => by
    unfold nkT at h
    rw [List.map_nil] at h
    unfold RepK at h
    exact h
  | p :: r, ws, f, h => by
    unfold nkT at h
    rw [List.map_cons] at h
    unfold RepK at h
    obtain ⟨v, vs', f1, f2, e1, e2, a, b⟩ := h
    obtain ⟨rfl, rfl⟩ := nk_vals (D := r) b
    have e := Rep.still _ _ _ a (by unfold T.still; rfl)
    rw [v_int a] at e1
    rw [e] at e2
    exact ⟨e1, e2⟩
theorem nk_rep {Z : Addr → Prop} {H : Hp} : ∀ D : Fs, RepK Z H (nkT D) (nkV D) []
  | [] => by
    unfold nkT nkV
    rw [List.map_nil, List.map_nil]
    unfold RepK
    exact ⟨rfl, rfl⟩
  | p :: r => by
    unfold nkT nkV
    rw [List.map_cons, List.map_cons]
    unfold RepK
    exact ⟨_, _, [], [], rfl, rfl, lit_int _, nk_rep r⟩
theorem key_nat (a b : Nat) : ((.inl (a : Int) : Key) = .inl (b : Int)) ↔ a = b := ⟨fun h => by injection h with h; omega, fun h => by rw [h]⟩
theorem nk_val (D : Fs) (n : Nat) : valT (nkT D) (.inl (n : Int)) = (D.lookup n).map T.int := by
  unfold valT nkT
  induction D with
  | nil => rfl
  | cons p r ih =>
    rw [List.map_cons, List.find?_cons, List.lookup_cons]
    by_cases e : p.1 = n
    · rw [decide_eq_true (show ((.inl (p.1 : Int) : Key) = .inl (n : Int)) by rw [e]), show (n == p.1) = true from by rw [e, beq_self_eq_true]]
      rfl
    · rw [decide_eq_false (show ¬ ((.inl (p.1 : Int) : Key) = .inl (n : Int)) from fun z => e ((key_nat _ _).mp z)), show (n == p.1) = false from by rw [beq_eq_false_iff_ne]; exact fun z => e z.symm]
      exact ih
theorem nk_put (D : Fs) (n : Nat) (x : Int) : putT (nkT D) (.inl (n : Int)) (.int x) = nkT (putZ D n x) := by
  unfold putT putZ
  have ea : ((nkT D).any fun kv => decide (kv.1 = (.inl (n : Int) : Key))) = D.any fun p => decide (p.1 = n) := by
    unfold nkT
    rw [List.any_map]
    refine congrArg (fun f => List.any D f) (funext fun p => ?_)
    exact decide_eq_decide.mpr (key_nat _ _)
  rw [ea]
  split
  · unfold nkT
    rw [List.map_map, List.map_map]
    refine List.map_congr_left fun p _ => ?_
    by_cases e : p.1 = n
    · show (if _ then _ else _) = (fun p : Nat × Int => ((.inl (p.1 : Int) : Key), T.int p.2)) (if p.1 = n then (p.1, x) else p)
      rw [if_pos ((key_nat _ _).mpr e), if_pos e]
    · show (if _ then _ else _) = (fun p : Nat × Int => ((.inl (p.1 : Int) : Key), T.int p.2)) (if p.1 = n then (p.1, x) else p)
      rw [if_neg (fun z => e ((key_nat _ _).mp z)), if_neg e]
  · unfold nkT
    rw [List.map_append]
    rfl
theorem lkF_none {D : Fs} {n : Nat} : D.lookup n = none ↔ n ∉ D.map (·.1) := by
  induction D with
  | nil => exact ⟨fun _ h => (nomatch h), fun _ => rfl⟩
  | cons p r ih =>
    rw [List.lookup_cons, List.map_cons, List.mem_cons, not_or]
    by_cases e : n = p.1
    · rw [show (n == p.1) = true from beq_iff_eq.mpr e]
      exact ⟨fun h => (nomatch h), fun h => absurd e h.1⟩
    · rw [show (n == p.1) = false from beq_eq_false_iff_ne.mpr e]
      exact ⟨fun h => ⟨e, ih.mp h⟩, fun h => ih.mpr h.2⟩
theorem any_key {D : Fs} {n : Nat} : (D.any fun p => decide (p.1 = n)) = true ↔ n ∈ D.map (·.1) := by
  rw [List.any_eq_true, List.mem_map]
  exact ⟨fun ⟨p, hp, e⟩ => ⟨p, hp, of_decide_eq_true e⟩, fun ⟨p, hp, e⟩ => ⟨p, hp, decide_eq_true e⟩⟩
theorem putZ_keys (D : Fs) (n : Nat) (x : Int) : (putZ D n x).map (·.1) = if n ∈ D.map (·.1) then D.map (·.1) else D.map (·.1) ++ [n] := by
  unfold putZ
  by_cases h : n ∈ D.map (·.1)
  · rw [if_pos (any_key.mpr h), if_pos h, List.map_map]
    refine List.map_congr_left fun p _ => ?_
    show (if p.1 = n then (p.1, x) else p).1 = p.1
    split <;> rfl
  · rw [if_neg (fun z => h (any_key.mp z)), if_neg h, List.map_append]
    rfl
theorem putZ_nd {D : Fs} (h : (D.map (·.1)).Nodup) (n : Nat) (x : Int) : ((putZ D n x).map (·.1)).Nodup := by
  rw [putZ_keys]
  split
  · exact h
  · rename_i hn
    exact List.nodup_append.mpr ⟨h, by simp, fun a ha b hb e => by rw [List.mem_singleton] at hb; rw [e, hb] at ha; exact hn ha⟩
theorem putZ_len (D : Fs) (n : Nat) (x : Int) : (putZ D n x).length ≤ D.length + 1 := by
  have := congrArg List.length (putZ_keys D n x)
  rw [List.length_map] at this
  rw [this]
  split <;> simp
theorem putZ_lookup (D : Fs) (n : Nat) (x : Int) (m : Nat) : (putZ D n x).lookup m = if m = n then some x else D.lookup m := by
  unfold putZ
  by_cases h : n ∈ D.map (·.1)
  · rw [if_pos (any_key.mpr h)]
    induction D with
    | nil => cases h
    | cons p r ih =>
      rw [List.map_cons, List.lookup_cons, List.lookup_cons]
      by_cases e : p.1 = n
      · rw [if_pos e]
        by_cases em : m = n
        · rw [show (m == p.1) = true from beq_iff_eq.mpr (em.trans e.symm), if_pos em]
        · rw [show (m == p.1) = false from beq_eq_false_iff_ne.mpr fun z => em (z.trans e), if_neg em]
          by_cases hr : n ∈ r.map (·.1)
          · have := ih hr
            rw [if_neg em] at this
            exact this
          · have : r.map (fun p => if p.1 = n then (p.1, x) else p) = r := by
              have : r.map (fun p => if p.1 = n then (p.1, x) else p) = r.map id := List.map_congr_left fun q hq => by
                rw [if_neg (fun z => hr (List.mem_map.mpr ⟨q, hq, z⟩))]
                rfl
              rw [this, List.map_id]
            rw [this]
      · rw [if_neg e]
        have hr : n ∈ r.map (·.1) := by
          rw [List.map_cons] at h
          exact (List.mem_cons.mp h).resolve_left fun z => e z.symm
        have := ih hr
        by_cases em : m = p.1
        · rw [show (m == p.1) = true from beq_iff_eq.mpr em, if_neg (fun z => e (em.symm.trans z))]
        · rw [show (m == p.1) = false from beq_eq_false_iff_ne.mpr em]
          exact this
  · rw [if_neg (fun z => h (any_key.mp z))]
    have hl := lkF_none.mpr h
    clear h
    induction D with
    | nil =>
      rw [List.nil_append, List.lookup_cons]
      by_cases em : m = n
      · rw [show (m == n) = true from beq_iff_eq.mpr em, if_pos em]
      · rw [show (m == n) = false from beq_eq_false_iff_ne.mpr em, if_neg em]
    | cons p r ih =>
      rw [List.lookup_cons] at hl
      rw [List.cons_append, List.lookup_cons, List.lookup_cons]
      by_cases e : n = p.1
      · rw [show (n == p.1) = true from beq_iff_eq.mpr e] at hl
        cases hl
      · rw [show (n == p.1) = false from beq_eq_false_iff_ne.mpr e] at hl
        by_cases em : m = p.1
        · rw [show (m == p.1) = true from beq_iff_eq.mpr em, if_neg (fun z => e (z.symm.trans em))]
        · rw [show (m == p.1) = false from beq_eq_false_iff_ne.mpr em]
          exact ih hl
section
variable {fr : Fr} {pn : List Nat} {tmp : List T} {sl : Sl} {KE : T → Sl → Prop} {te ty tx : TE} {i : Nat} {Kf : PySem.W.Frag} {o : Bool} {D : Fs}
theorem dk_vals {Z : Addr → Prop} {H : Hp} {t : T} {v : V} {f : List Addr} (r : Rep Z H t v f) (h : t.dict = some (nkT D)) : ∃ a, v = .ref a ∧ Rd H a (.dK (nkV D)) := by
  obtain ⟨a, ws, g, q1, q2, q3⟩ := dict_sound r h
  obtain ⟨rfl, _⟩ := nk_vals q3
  exact ⟨a, q1, q2⟩
theorem dk_rep {Z : Addr → Prop} {H : Hp} {p : Addr} (h : H p = some (.dK (nkV D))) : Rep Z H (.dk true (nkT D)) (.ref p) [p] := by
  unfold Rep
  exact ⟨p, _, [], rfl, h, nk_rep D, by rw [if_pos rfl]⟩
theorem we_dictD {t : T} (h : sl[i]? = some (some t)) (hd : t.dict = some (nkT D)) (k : KE (.dk true (nkT D)) sl) : WE fr pn tmp sl (tCB (fun xs H Q => ∃ (a : Addr) (kvs : List (Key × V)), xs = [.ref a] ∧ Rd H a (.dK kvs) ∧ ∀ p, H p = none → Q (.ref p) (upd H p (.dK kvs))) (tCons (tVar i) tNil)) KE := fun pv tv σ H Q r q => by
  obtain ⟨v, Z, f, ev, z⟩ := r.slot h
  obtain ⟨a, rfl, R0⟩ := dk_vals z hd
  exact ⟨_, ev, a, _, rfl, R0, fun p hp => q _ sl _ _ k (r.newOwn hp fun Z => dk_rep upd_same)⟩
theorem we_dget2 {t0 : T} {D0 : Fs} (h0 : sl[i]? = some (some t0)) (hd0 : t0.dict = some (nkT D0)) (h : WE fr pn tmp sl ty fun t2 sl1 => WE fr pn (t2 :: tmp) sl1 tx fun t3 sl2 => ∃ (t : T) (D : Fs) (k : Nat) (n : Int), sl2[i]? = some (some t) ∧ t.dict = some (nkT D) ∧ t2 = .int (k : Int) ∧ t3 = .int n ∧ KE (.int ((D.lookup k).getD n)) sl2) : WE fr pn tmp sl (tDGet2 (tVar i) ty tx) KE := fun pv tv σ H Q r q => by
  obtain ⟨v0, Z0, f0, ev, z0⟩ := r.slot h0
  obtain ⟨a, rfl, R0⟩ := dk_vals z0 hd0
  refine ⟨.ref a, ev, a, rfl, .inl ⟨_, R0⟩, h pv tv σ H _ r fun t2 sl1 y H1 k1 r1 => k1 pv (y :: tv) σ H1 _ r1 fun t3 sl2 z H2 ⟨t, D, k, n, e1, e2, e3, e4, kk⟩ r2 => ?_⟩
  subst e3
  subst e4
  obtain ⟨Z, f, zz⟩ := r2.pop.top
  obtain rfl := v_int zz
  obtain ⟨Z1, f1, z1⟩ := r2.top
  obtain rfl := v_int z1
  obtain ⟨v', Z', f', ev', z⟩ := r2.slot e1
  cases Option.some.inj (Option.some.inj (ev.symm.trans ev'))
  obtain ⟨a', ea, R1⟩ := dk_vals z e2
  cases ea
  refine ⟨valV (nkV D) (.inl (k : Int)), .inl ⟨_, .inl (k : Int), R1, rfl, rfl⟩, ?_⟩
  have : (valV (nkV D) (.inl (k : Int))).getD (.int n) = .int ((D.lookup k).getD n) := by
    have hv : valV (nkV D) (.inl (k : Int)) = (D.lookup k).map V.int := by
      clear z e1 e2 R1 kk
      unfold valV nkV
      induction D with
      | nil => rfl
      | cons p r ih =>
        rw [List.map_cons, List.find?_cons, List.lookup_cons]
        by_cases e : p.1 = k
        · rw [decide_eq_true (show ((.inl (p.1 : Int) : Key) = .inl (k : Int)) by rw [e]), show (k == p.1) = true from by rw [e, beq_self_eq_true]]
          rfl
        · rw [decide_eq_false (show ¬ ((.inl (p.1 : Int) : Key) = .inl (k : Int)) from fun z => e ((key_nat _ _).mp z)), show (k == p.1) = false from by rw [beq_eq_false_iff_ne]; exact fun z => e z.symm]
          exact ih
    rw [hv]
    cases D.lookup k <;> rfl
  rw [this]
  exact q _ sl2 _ H2 kk (r2.pop.pop.lit lit_int)
theorem prIs_vals {Z : Addr → Prop} {H : Hp} : ∀ {D : Fs} {vs : List V} {f : List Addr}, Reps Z H (D.map prI) vs f → f = [] ∧ ∃ ps : List Addr, vs = ps.map V.ref ∧ Paired (fun p (kv : Key × V) => SqT Kf H p [kV kv.1, kv.2]) ps (nkV D)
  | [], vs, f, h => by
    rw [List.map_nil] at h
    unfold Reps at h
    exact ⟨h.2, [], h.1, .nil⟩
  | p :: r, vs, f, h => by
    rw [List.map_cons] at h
    unfold Reps at h
    obtain ⟨v, vs', f1, f2, e1, e2, a, b⟩ := h
    obtain ⟨rfl, ps, e3, pd⟩ := prIs_vals b
    have ef := Rep.still _ _ _ a rfl
    unfold prI Rep at a
    obtain ⟨x, ws, q1, q2, q3⟩ := a
    unfold Reps at q3
    obtain ⟨y, ws', g1, g2, e4, e5, b1, b2⟩ := q3
    unfold Reps at b2
    obtain ⟨y2, ws2, g3, g4, e6, e7, b3, b4⟩ := b2
    unfold Reps at b4
    obtain rfl := v_int b1
    obtain rfl := v_int b3
    refine ⟨by rw [e2, ef]; rfl, x :: ps, by rw [e1, q1, e3]; rfl, .cons ?_ pd⟩
    rw [e4, e6, b4.1] at q2
    exact q2.sq
theorem nkV_nd {D : Fs} (h : (D.map (·.1)).Nodup) : ((nkV D).map (·.1)).Nodup := by
  unfold nkV
  rw [List.map_map]
  have : ((fun p : Key × V => p.1) ∘ fun p : Nat × Int => ((.inl (p.1 : Int) : Key), V.int p.2)) = (fun n : Nat => (.inl (n : Int) : Key)) ∘ (·.1) := rfl
  rw [this, ← List.map_map]
  exact List.Pairwise.map _ (fun a b hab z => hab ((key_nat _ _).mp z)) h
theorem we_dictPtp (h : WE fr pn tmp sl te fun t sl1 => ∃ D : Fs, t = .ptp (D.map prI) ∧ (D.map (·.1)).Nodup ∧ KE (.dk true (nkT D)) sl1) : WE fr pn tmp sl (tCB (rDictT Kf) (tCons te tNil)) KE := fun pv tv σ H Q r q => h pv tv σ H _ r fun t sl1 v H1 ⟨D, e, nd, k⟩ r1 => by
  subst e
  obtain ⟨Z, f, z⟩ := r1.top
  unfold Rep at z
  obtain ⟨a, o, vs, q1, q2, q3, q4⟩ := z
  obtain ⟨_, ps, ev, pd⟩ := prIs_vals (Kf := Kf) q4
  subst ev
  refine ⟨a, o, ps, nkV D, by rw [q1], q2, q3, pd, fun p hp => ?_⟩
  rw [merge_nodupP (acc := []) (by rw [List.nil_append]; exact nkV_nd nd), List.nil_append]
  exact q _ sl1 _ _ k (r1.pop.newOwn hp fun Z => dk_rep upd_same)
theorem ints_vals' {Z : Addr → Prop} {H : Hp} {ns : List Int} {vs : List V} {f : List Addr} (h : Reps Z H (ns.map T.int) vs f) : vs = ns.map V.int := h.ints.1
theorem we_sum (h : WE fr pn tmp sl te fun t sl1 => ∃ (o : Bool) (ns : List Int), t = .lst o (ns.map T.int) ∧ KE (.int ns.sum) sl1) : WE fr pn tmp sl (tCB (rSum Kf) (tCons te tNil)) KE := fun pv tv σ H Q r q => h pv tv σ H _ r fun t sl1 v H1 ⟨o, ns, e, k⟩ r1 => by
  subst e
  obtain ⟨Z, f, z⟩ := r1.top
  unfold Rep at z
  obtain ⟨a, vs, fp', q1, q2, q3, q4⟩ := z
  have ev := ints_vals' q3
  subst ev
  exact ⟨a, ns, by rw [q1], SqL.of q2, q _ sl1 _ _ k (r1.pop.lit lit_int)⟩
theorem c_sumK {X : Cx} {K : PySem.W.Frag} (h : X.K = K) (hc : X.calm = true := by rfl) : CallR X (.builtin "sum") (rSum K) := by
  subst h
  exact cr_sum hc
theorem we_intS (h : WE fr pn tmp sl te fun t sl1 => ∃ (s : Str) (n : Int), t = .str s ∧ PySem.intText? s = some n ∧ s.length ≤ 640 ∧ KE (.int n) sl1) : WE fr pn tmp sl (tCB (fun xs H Q => ∃ a n, xs = [V.str a] ∧ PySem.intText? a = some n ∧ a.length ≤ 640 ∧ Q (.int n) H) (tCons te tNil)) KE := fun pv tv σ H Q r q => h pv tv σ H _ r fun t sl1 v H1 ⟨s, n, e, h1, h2, k⟩ r1 => by
  subst e
  obtain ⟨Z, f, z⟩ := r1.top
  obtain rfl := v_str z
  exact ⟨s, n, rfl, h1, h2, q _ sl1 _ _ k (r1.pop.lit lit_int)⟩
theorem we_digit (h : WE fr pn tmp sl te fun t sl1 => ∃ s : Str, t = .str s ∧ KE (.bl (Txt.isdigit s)) sl1) : WE fr pn tmp sl (tM0 (fun x xs H Q => ∃ a, x = .str a ∧ xs = [] ∧ True ∧ Q (.bl (Txt.isdigit a)) H) te) KE := fun pv tv σ H Q r q => h pv tv σ H _ r fun t sl1 v H1 ⟨s, e, k⟩ r1 => by
  subst e
  obtain ⟨Z, f, z⟩ := r1.top
  obtain rfl := v_str z
  exact ⟨⟨s, rfl⟩, s, rfl, rfl, trivial, q _ sl1 _ _ k (r1.pop.lit lit_bl)⟩
def rIndex0 : V → List V → Hp → VK → Prop := fun x xs H Q => ∃ (a b : Str) (k : Nat), x = .str a ∧ xs = [.str b] ∧ Txt.index0 a b = some k ∧ Q (.int (k : Nat)) H
theorem mt_index0 {X : Cx} : MtR X "str.index" rIndex0 := by
  intro pins s σ H x xs v us Q I rx rs h
  obtain ⟨a, b, k, rfl, rfl, hk, hy⟩ := h
  obtain ⟨t, rfl⟩ := rx
  cases rs with
  | cons r1 rs =>
    cases rs
    obtain ⟨u, rfl⟩ := r1
    cases q : Builtin.Str.occurrences a b 0 a.length 1 with
    | nil =>
      unfold Txt.index0 at hk
      rw [q] at hk
      cases hk
    | cons k' rest =>
      have : k' = k := by
        unfold Txt.index0 at hk
        rw [q] at hk
        exact Option.some.inj hk
      subst this
      exact PySem.SC.index q ⟨.int (k' : Nat), H, I.tok _, ⟨_, rfl⟩, hy⟩
theorem we_index0 {ta tb : TE} (h : WE fr pn tmp sl ta fun t1 sl1 => ∃ a : Str, t1 = .str a ∧ WE fr pn (t1 :: tmp) sl1 tb fun t2 sl2 => ∃ (b : Str) (k : Nat), t2 = .str b ∧ Txt.index0 a b = some k ∧ KE (.int (k : Int)) sl2) : WE fr pn tmp sl (tM1 rIndex0 ta tb) KE := fun pv tv σ H Q r q => h pv tv σ H _ r fun t1 sl1 v H1 ⟨a, e, k1⟩ r1 => by
  subst e
  obtain ⟨Z, f, z⟩ := r1.top
  obtain rfl := v_str z
  refine ⟨⟨a, rfl⟩, k1 pv (.str a :: tv) σ H1 _ r1 fun t2 sl2 u H2 ⟨b, k, e2, hk, kk⟩ r2 => ?_⟩
  subst e2
  obtain ⟨Z2, f2, z2⟩ := r2.top
  obtain rfl := v_str z2
  exact ⟨a, b, k, rfl, rfl, hk, q _ sl2 _ _ kk (r2.pop.pop.lit lit_int)⟩
end
end Rs
set_option maxHeartbeats 4000000
namespace Rs
open PySem L2 PySem.Spec PyProof.Rows
def linT (l : Ln) : T := .tup [.int l.c, .ptp (l.ts.map prI)]
def linK (l : Ln) : NestedKey := .tup [.num l.c, .tup (l.ts.map pairI)]
theorem prIs_still : ∀ D : Fs, stillA (D.map prI) = true
  | [] => rfl
  | p :: r => by
    rw [List.map_cons]
    unfold stillA
    rw [prIs_still r]
    rfl
theorem linT_still (l : Ln) : (linT l).still = true := by
  show (true && (stillA (l.ts.map prI) && true)) = true
  rw [prIs_still]
  rfl
theorem linTs_still : ∀ ls : List Ln, stillA (ls.map linT) = true
  | [] => rfl
  | l :: r => by
    rw [List.map_cons]
    unfold stillA
    rw [linT_still, linTs_still r]
    rfl
theorem wk_linT (l : Ln) : Wk (linT l) (kT (linK l)) := fun Z H v f h => by
  show Rep Z H (.tup [.int l.c, .tup (kTs (l.ts.map pairI))]) v f
  rw [prIs_kTs]
  unfold linT at h
  unfold Rep at h ⊢
  obtain ⟨a, vs, e1, e2, r⟩ := h
  refine ⟨a, vs, e1, e2, ?_⟩
  unfold Reps at r ⊢
  obtain ⟨v1, vs1, f1, f2, e3, e4, r1, r2⟩ := r
  refine ⟨v1, vs1, f1, f2, e3, e4, r1, ?_⟩
  unfold Reps at r2 ⊢
  obtain ⟨v2, vs2, f3, f4, e5, e6, r3, r4⟩ := r2
  exact ⟨v2, vs2, f3, f4, e5, e6, wk_ptp _ _ _ _ r3, r4⟩
theorem wk_linTs {Z : Addr → Prop} {H : Hp} : ∀ (ls : List Ln) (vs : List V) (f : List Addr), Reps Z H (ls.map linT) vs f → Reps Z H (kTs (ls.map linK)) vs f
  | [], vs, f, h => h
  | l :: r, vs, f, h => by
    rw [List.map_cons] at h ⊢
    unfold kTs
    unfold Reps at h ⊢
    obtain ⟨v1, vs1, f1, f2, e3, e4, r1, r2⟩ := h
    exact ⟨v1, vs1, f1, f2, e3, e4, wk_linT l _ _ _ _ r1, wk_linTs r vs1 f2 r2⟩
def addS : Str := "add"
def subS : Str := "sub"
def negS : Str := "neg"
def isReal (o : Str) (n : Nat) : Bool := if o ∈ [addS, subS] then n == 2 else if o = negS then n == 1 else Txt.isdigit o && (n == 0)
def sumL (o : Str) : List Ln → Option Ln
  | [] => if Txt.isdigit o = true then (PySem.intText? o).map fun n => ⟨n, []⟩ else none
  | [a] => if o = negS then some (plusL ⟨0, []⟩ a (-1)) else none
  | [a, b] => if o = addS then some (plusL a b 1) else if o = subS then some (plusL a b (-1)) else none
  | _ => none
theorem sumL_nil (o : Str) : sumL o [] = if Txt.isdigit o = true then (PySem.intText? o).map fun n => ⟨n, []⟩ else none := rfl
theorem sumL_one (o : Str) (a : Ln) : sumL o [a] = if o = negS then some (plusL ⟨0, []⟩ a (-1)) else none := rfl
theorem sumL_two (o : Str) (a b : Ln) : sumL o [a, b] = if o = addS then some (plusL a b 1) else if o = subS then some (plusL a b (-1)) else none := rfl
theorem sumL_more (o : Str) (a b c : Ln) (r : List Ln) : sumL o (a :: b :: c :: r) = none := rfl
def opsL : List (Str × Nat) := [("add", 2), ("sub", 2), ("neg", 1), ("7", 0), ("0", 0), ("f", 1), ("g", 2), ("h", 3), ("k", 0)]
theorem real_iff {o : Str} {ls : List Ln} (h : (o, ls.length) ∈ opsL) : (sumL o ls).isSome = isReal o ls.length := by
  unfold opsL at h
  simp only [List.mem_cons, List.not_mem_nil, or_false, Prod.mk.injEq] at h
  have l0 : ls.length = 0 → ls = [] := List.length_eq_zero_iff.mp
  have l1 : ls.length = 1 → ∃ a, ls = [a] := List.length_eq_one_iff.mp
  have l2 : ls.length = 2 → ∃ a b, ls = [a, b] := fun h => by
    match ls, h with
    | [a, b], _ => exact ⟨a, b, rfl⟩
  have l3 : ls.length = 3 → ∃ a b c, ls = [a, b, c] := fun h => by
    match ls, h with
    | [a, b, c], _ => exact ⟨a, b, c, rfl⟩
  rcases h with ⟨rfl, h⟩ | ⟨rfl, h⟩ | ⟨rfl, h⟩ | ⟨rfl, h⟩ | ⟨rfl, h⟩ | ⟨rfl, h⟩ | ⟨rfl, h⟩ | ⟨rfl, h⟩ | ⟨rfl, h⟩
  · obtain ⟨a, b, rfl⟩ := l2 h
    rw [sumL_two]
    rw [if_pos (by decide +kernel)]
    show true = isReal _ 2
    decide +kernel
  · obtain ⟨a, b, rfl⟩ := l2 h
    rw [sumL_two]
    rw [if_neg (by decide +kernel), if_pos (by decide +kernel)]
    show true = isReal _ 2
    decide +kernel
  · obtain ⟨a, rfl⟩ := l1 h
    rw [sumL_one]
    rw [if_pos (by decide +kernel)]
    show true = isReal _ 1
    decide +kernel
  · obtain rfl := l0 h
    rw [sumL_nil]
    rw [if_pos (by decide +kernel)]
    show Option.isSome (Option.map _ _) = isReal _ 0
    rw [Option.isSome_map]
    decide +kernel
  · obtain rfl := l0 h
    rw [sumL_nil]
    rw [if_pos (by decide +kernel)]
    show Option.isSome (Option.map _ _) = isReal _ 0
    rw [Option.isSome_map]
    decide +kernel
  · obtain ⟨a, rfl⟩ := l1 h
    rw [sumL_one]
    rw [if_neg (by decide +kernel)]
    show false = isReal _ 1
    decide +kernel
  · obtain ⟨a, b, rfl⟩ := l2 h
    rw [sumL_two]
    rw [if_neg (by decide +kernel), if_neg (by decide +kernel)]
    show false = isReal _ 2
    decide +kernel
  · obtain ⟨a, b, c, rfl⟩ := l3 h
    show false = isReal _ 3
    decide +kernel
  · obtain rfl := l0 h
    rw [sumL_nil]
    rw [if_neg (by decide +kernel)]
    show false = isReal _ 0
    decide +kernel
theorem zero_nf : (Ln.mk 0 []).Nf := const_nf 0
theorem sumL_nf {o : Str} {ls : List Ln} {l : Ln} (h : ∀ x ∈ ls, x.Nf) (e : sumL o ls = some l) : l.Nf := by
  match ls, h, e with
  | [], _, e =>
    rw [sumL_nil] at e
    split at e
    · obtain ⟨n, _, rfl⟩ := Option.map_eq_some_iff.mp e
      exact const_nf n
    · cases e
  | [a], h, e =>
    rw [sumL_one] at e
    split at e
    · cases e
      exact plusL_nf zero_nf (h a List.mem_cons_self) _
    · cases e
  | [a, b], h, e =>
    rw [sumL_two] at e
    have ha := h a List.mem_cons_self
    have hb := h b (by simp)
    split at e
    · cases e
      exact plusL_nf ha hb _
    · split at e
      · cases e
        exact plusL_nf ha hb _
      · cases e
  | _ :: _ :: _ :: _, _, e =>
    rw [sumL_more] at e
    cases e
def Ln.Lt (l : Ln) (N : Nat) : Prop := ∀ p ∈ l.ts, p.1 < N
def Ln.Bd (l : Ln) (b : Nat) : Prop := l.c.natAbs ≤ b ∧ ∀ p ∈ l.ts, p.2.natAbs ≤ b
theorem Ln.Lt.mono {l : Ln} {N M : Nat} (h : l.Lt N) (k : N ≤ M) : l.Lt M := fun p hp => Nat.lt_of_lt_of_le (h p hp) k
theorem Ln.Bd.mono {l : Ln} {N M : Nat} (h : l.Bd N) (k : N ≤ M) : l.Bd M := ⟨Nat.le_trans h.1 k, fun p hp => Nat.le_trans (h.2 p hp) k⟩
theorem asc_few : ∀ {ts : Fs} {a N : Nat}, Asc ts → (∀ p ∈ ts, a ≤ p.1 ∧ p.1 < N) → ts.length + a ≤ N ∨ ts = []
  | [], _, _, _, _ => .inr rfl
  | p :: r, a, N, h, hN => by
    refine .inl ?_
    unfold Asc at h
    rw [List.pairwise_cons] at h
    obtain ⟨h1, h2⟩ := hN p List.mem_cons_self
    rcases asc_few (a := p.1 + 1) (N := N) h.2 (fun q hq => ⟨h.1 q hq, (hN q (List.mem_cons_of_mem _ hq)).2⟩) with h3 | h3
    · rw [List.length_cons]; omega
    · rw [h3]; simp; omega
theorem Ln.Nf.few {l : Ln} (h : l.Nf) {N : Nat} (hl : l.Lt N) : l.ts.length ≤ N := by
  rcases asc_few (a := 0) (N := N) h.asc (fun p hp => ⟨Nat.zero_le _, hl p hp⟩) with h3 | h3
  · omega
  · rw [h3]; exact Nat.zero_le _
theorem vl_mem {ts : Fs} (h : Asc ts) {p : Nat × Int} (hp : p ∈ ts) : vl ts p.1 = p.2 := by
  unfold vl
  rw [lk_mem h hp]
  rfl
theorem vl_bd {ts : Fs} {b : Nat} (h : ∀ p ∈ ts, p.2.natAbs ≤ b) (a : Nat) : (vl ts a).natAbs ≤ b := by
  induction ts with
  | nil => exact Nat.zero_le _
  | cons p r ih =>
    rw [vl_cons]
    split
    · exact h p List.mem_cons_self
    · exact ih fun q hq => h q (List.mem_cons_of_mem _ hq)
theorem plusL_lt {a b : Ln} (ha : a.Nf) (hb : b.Nf) {N : Nat} (h1 : a.Lt N) (h2 : b.Lt N) (m : Int) : (plusL a b m).Lt N := fun p hp => by
  rcases ((mrgF_all m _ a.ts b.ts (Nat.lt_succ_self _) ha.asc hb.asc).1 p hp).2 with ⟨q, hq, e⟩ | ⟨q, hq, e⟩
  · rw [← e]; exact h1 q hq
  · rw [← e]; exact h2 q hq
theorem plusL_bd {a b : Ln} (ha : a.Nf) (hb : b.Nf) {N : Nat} (h1 : a.Bd N) (h2 : b.Bd N) {m : Int} (hm : m = 1 ∨ m = -1) : (plusL a b m).Bd (2 * N) := by
  have hc := h1.1
  have hc2 := h2.1
  refine ⟨?_, fun p hp => ?_⟩
  · show (a.c + m * b.c).natAbs ≤ _
    rcases hm with rfl | rfl <;> omega
  · have all := mrgF_all m _ a.ts b.ts (Nat.lt_succ_self _) ha.asc hb.asc
    have e := vl_mem all.2.1 hp
    rw [all.2.2] at e
    have b1 := vl_bd h1.2 p.1
    have b2 := vl_bd h2.2 p.1
    rcases hm with rfl | rfl <;> omega
theorem sumL_lt {o : Str} {ls : List Ln} {l : Ln} {N : Nat} (h : ∀ x ∈ ls, x.Nf) (hl : ∀ x ∈ ls, x.Lt N) (e : sumL o ls = some l) : l.Lt N := by
  match ls, h, hl, e with
  | [], _, _, e =>
    rw [sumL_nil] at e
    split at e
    · obtain ⟨n, _, rfl⟩ := Option.map_eq_some_iff.mp e
      exact fun p hp => (nomatch hp)
    · cases e
  | [a], h, hl, e =>
    rw [sumL_one] at e
    split at e
    · cases e
      exact plusL_lt zero_nf (h a List.mem_cons_self) (fun p hp => (nomatch hp)) (hl a List.mem_cons_self) _
    · cases e
  | [a, b], h, hl, e =>
    rw [sumL_two] at e
    have ha := h a List.mem_cons_self
    have hb := h b (by simp)
    have la := hl a List.mem_cons_self
    have lb := hl b (by simp)
    split at e
    · cases e
      exact plusL_lt ha hb la lb _
    · split at e
      · cases e
        exact plusL_lt ha hb la lb _
      · cases e
  | _ :: _ :: _ :: _, _, _, e =>
    rw [sumL_more] at e
    cases e
theorem sumL_bd {o : Str} {ls : List Ln} {l : Ln} {N : Nat} (ho : (o, ls.length) ∈ opsL) (h : ∀ x ∈ ls, x.Nf) (hl : ∀ x ∈ ls, x.Bd N) (hN : 7 ≤ 2 * N) (e : sumL o ls = some l) : l.Bd (2 * N) := by
  match ls, ho, h, hl, e with
  | [], ho, _, _, e =>
    have ho : (o, 0) ∈ opsL := ho
    rw [sumL_nil] at e
    split at e
    · obtain ⟨n, hn, rfl⟩ := Option.map_eq_some_iff.mp e
      refine ⟨?_, fun p hp => (nomatch hp)⟩
      show n.natAbs ≤ _
      have : n = 7 ∨ n = 0 := by
        unfold opsL at ho
        simp only [List.mem_cons, List.not_mem_nil, or_false, Prod.mk.injEq] at ho
        rcases ho with ⟨_, h⟩ | ⟨_, h⟩ | ⟨_, h⟩ | ⟨rfl, _⟩ | ⟨rfl, _⟩ | ⟨_, h⟩ | ⟨_, h⟩ | ⟨_, h⟩ | ⟨rfl, _⟩
        · cases h
        · cases h
        · cases h
        · rw [show PySem.intText? "7" = some 7 by decide +kernel] at hn
          cases hn
          exact .inl rfl
        · rw [show PySem.intText? "0" = some 0 by decide +kernel] at hn
          cases hn
          exact .inr rfl
        · cases h
        · cases h
        · cases h
        · rw [show PySem.intText? "k" = none by decide +kernel] at hn
          cases hn
      rcases this with rfl | rfl
      · exact hN
      · exact Nat.zero_le _
    · cases e
  | [a], _, h, hl, e =>
    rw [sumL_one] at e
    split at e
    · cases e
      exact plusL_bd zero_nf (h a List.mem_cons_self) ⟨Nat.zero_le _, fun p hp => (nomatch hp)⟩ (hl a List.mem_cons_self) (.inr rfl)
    · cases e
  | [a, b], _, h, hl, e =>
    rw [sumL_two] at e
    have ha := h a List.mem_cons_self
    have hb := h b (by simp)
    have la := hl a List.mem_cons_self
    have lb := hl b (by simp)
    split at e
    · cases e
      exact plusL_bd ha hb la lb (.inl rfl)
    · split at e
      · cases e
        exact plusL_bd ha hb la lb (.inr rfl)
      · cases e
  | _ :: _ :: _ :: _, _, _, _, e =>
    rw [sumL_more] at e
    cases e
end Rs
set_option maxHeartbeats 4000000
namespace Rs
open PySem L2 PySem.Spec PyProof.Rows
theorem ops_short {o : Str} {n : Nat} (h : (o, n) ∈ opsL) : o.length ≤ 640 ∧ n ≤ 3 := by
  have : ∀ p ∈ opsL, p.1.length ≤ 640 ∧ p.2 ≤ 3 := by decide +kernel
  exact this _ h
def headK : Kr → NestedKey
  | .lt k => .tup [.text "letter", .tup [.text "read", .num (k : Int)]]
  | .op o ps => .tup [.text "op", .text o, .tup ((ps.map fun p : Nat => (p : Int)).map .num)]
def snK : Nm → NestedKey
  | .lt k => .tup [.text "letter", .tup [.text "read", .num (k : Int)]]
  | .op o ls => .tup [.text "op", .text o, .tup (ls.map linK)]
def nmK : Nm → NestedKey
  | .lt k => .tup [.text "letter", .text "read", .num (k : Int)]
  | .op o ls => .tup [.text "op", .text o, .tup (ls.map linK)]
theorem map_inj {α β : Type} {f : α → β} (h : ∀ a b, f a = f b → a = b) : ∀ {as bs : List α}, as.map f = bs.map f → as = bs
  | [], [], _ => rfl
  | [], _ :: _, e => by cases e
  | _ :: _, [], e => by cases e
  | a :: as, b :: bs, e => by
    rw [List.map_cons, List.map_cons] at e
    injection e with e1 e2
    rw [h _ _ e1, map_inj h e2]
theorem pairI_inj (a b : Nat × Int) (h : pairI a = pairI b) : a = b := by
  unfold pairI at h
  injection h with h
  injection h with h1 h
  injection h with h2 _
  injection h1 with h1
  injection h2 with h2
  exact Prod.ext (by omega) h2
theorem linK_inj (a b : Ln) (h : linK a = linK b) : a = b := by
  unfold linK at h
  injection h with h
  injection h with h1 h
  injection h with h2 _
  injection h1 with h1
  injection h2 with h2
  have := map_inj pairI_inj h2
  cases a
  cases b
  cases h1
  cases this
  rfl
theorem let_ne_op : (Str.ofString "letter") ≠ Str.ofString "op" := by decide +kernel
theorem snK_inj : ∀ a b : Nm, snK a = snK b → a = b
  | .lt k, .lt j, h => by
    unfold snK at h
    injection h with h
    injection h with _ h
    injection h with h _
    injection h with h
    injection h with _ h
    injection h with h _
    injection h with h
    congr 1
    omega
  | .op o ls, .op o' ls', h => by
    unfold snK at h
    injection h with h
    injection h with _ h
    injection h with h1 h
    injection h with h2 _
    injection h1 with h1
    injection h2 with h2
    rw [h1, map_inj linK_inj h2]
  | .lt k, .op o ls, h => by
    unfold snK at h
    injection h with h
    injection h with h _
    injection h with h
    exact absurd h let_ne_op
  | .op o ls, .lt k, h => by
    unfold snK at h
    injection h with h
    injection h with h _
    injection h with h
    exact absurd h.symm let_ne_op
theorem nmK_inj : ∀ a b : Nm, nmK a = nmK b → a = b
  | .lt k, .lt j, h => by
    unfold nmK at h
    injection h with h
    injection h with _ h
    injection h with _ h
    injection h with h _
    injection h with h
    congr 1
    omega
  | .op o ls, .op o' ls', h => by
    unfold nmK at h
    injection h with h
    injection h with _ h
    injection h with h1 h
    injection h with h2 _
    injection h1 with h1
    injection h2 with h2
    rw [h1, map_inj linK_inj h2]
  | .lt k, .op o ls, h => by
    unfold nmK at h
    injection h with h
    injection h with h _
    injection h with h
    exact absurd h let_ne_op
  | .op o ls, .lt k, h => by
    unfold nmK at h
    injection h with h
    injection h with h _
    injection h with h
    exact absurd h.symm let_ne_op
theorem mem_map_inj {α β : Type} {f : α → β} (h : ∀ a b, f a = f b → a = b) {a : α} {as : List α} : f a ∈ as.map f ↔ a ∈ as :=
  ⟨fun z => by obtain ⟨b, hb, e⟩ := List.mem_map.mp z; rw [← h _ _ e]; exact hb, fun z => List.mem_map.mpr ⟨a, z, rfl⟩⟩
theorem idx_map {f : Nm → NestedKey} (h : ∀ a b, f a = f b → a = b) (n : Nm) : ∀ B : List Nm, (B.map f).idxOf (f n) = B.idxOf n
  | [] => rfl
  | b :: r => by
    rw [List.map_cons, List.idxOf_cons, List.idxOf_cons, idx_map h n r]
    by_cases e : b = n
    · rw [e, beq_self_eq_true, beq_self_eq_true]
    · rw [show (f b == f n) = false from beq_eq_false_iff_ne.mpr fun z => e (h _ _ z), show (b == n) = false from beq_eq_false_iff_ne.mpr e]
theorem add_map {f : Nm → NestedKey} (h : ∀ a b, f a = f b → a = b) (n : Nm) (B : List Nm) : addK (B.map f) (f n) = (addN B n).map f := by
  unfold addK addN
  by_cases e : n ∈ B
  · rw [if_pos ((mem_map_inj h).mpr e), if_pos e]
  · rw [if_neg fun z => e ((mem_map_inj h).mp z), if_neg e, List.map_append]
    rfl
theorem dp_all {ks : List NestedKey} {n : Nat} (h : ∀ k ∈ ks, k.depth ≤ n) : NestedKey.depthAll ks ≤ n := by
  induction ks with
  | nil => exact Nat.zero_le _
  | cons k r ih =>
    show max k.depth (NestedKey.depthAll r) ≤ n
    have h1 := h k List.mem_cons_self
    have h2 := ih fun x hx => h x (List.mem_cons_of_mem _ hx)
    omega
theorem dp_tup {ks : List NestedKey} {n : Nat} (h : ∀ k ∈ ks, k.depth ≤ n) : (NestedKey.tup ks).depth ≤ n + 1 := by
  have := dp_all h
  show NestedKey.depthAll ks + 1 ≤ n + 1
  omega
theorem linK_depth (l : Ln) : (linK l).depth ≤ 3 := dp_tup fun k hk => by
  simp only [List.mem_cons, List.not_mem_nil, or_false] at hk
  rcases hk with rfl | rfl
  · exact Nat.zero_le _
  · refine dp_tup fun k hk => ?_
    obtain ⟨p, _, rfl⟩ := List.mem_map.mp hk
    exact Nat.le_refl _
theorem snK_depth : ∀ n : Nm, (snK n).depth ≤ 8
  | .lt k => Nat.le_of_ble_eq_true rfl
  | .op o ls => Nat.le_trans (dp_tup (n := 4) fun k hk => by
      simp only [List.mem_cons, List.not_mem_nil, or_false] at hk
      rcases hk with rfl | rfl | rfl
      · exact Nat.zero_le _
      · exact Nat.zero_le _
      · refine dp_tup fun k hk => ?_
        obtain ⟨p, _, rfl⟩ := List.mem_map.mp hk
        exact linK_depth p) (by omega)
theorem nmK_depth : ∀ n : Nm, (nmK n).depth ≤ 8
  | .lt k => Nat.le_of_ble_eq_true rfl
  | .op o ls => snK_depth (.op o ls)
theorem snK_tup : ∀ n : Nm, ∃ ks, snK n = .tup ks
  | .lt _ => ⟨_, rfl⟩
  | .op _ _ => ⟨_, rfl⟩
theorem nmK_tup : ∀ n : Nm, ∃ ks, nmK n = .tup ks
  | .lt _ => ⟨_, rfl⟩
  | .op _ _ => ⟨_, rfl⟩
mutual
theorem Ev.nfL {R : List Kr} {B : List Nm} : ∀ {n : Nat} {l : Ln}, Ev sumL R B n l → l.Nf ∧ l.Lt B.length
  | _, _, .lt h e => ⟨unit_nf _, fun p hp => by
      rw [List.mem_singleton.mp hp]
      unfold idxN at e
      split at e
      · rename_i hm; cases e; exact List.idxOf_lt_length_iff.mpr hm
      · cases e⟩
  | _, _, .sum h e s => ⟨sumL_nf (fun x hx => (Evs.nfL e x hx).1) s, sumL_lt (fun x hx => (Evs.nfL e x hx).1) (fun x hx => (Evs.nfL e x hx).2) s⟩
  | _, _, .op h v s e => ⟨unit_nf _, fun p hp => by
      rw [List.mem_singleton.mp hp]
      unfold idxN at e
      split at e
      · rename_i hm; cases e; exact List.idxOf_lt_length_iff.mpr hm
      · cases e⟩
theorem Evs.nfL {R : List Kr} {B : List Nm} : ∀ {ps : List Nat} {ls : List Ln}, Evs sumL R B ps ls → ∀ x ∈ ls, x.Nf ∧ x.Lt B.length
  | _, _, .nil => fun x hx => (nomatch hx)
  | _, _, .cons h k => by
    have a := Ev.nfL h
    have b := Evs.nfL k
    intro x hx
    rcases List.mem_cons.mp hx with rfl | hx
    · exact a
    · exact b x hx
end
def RkK (R : List Kr) : Prop := ∀ (i : Nat) (o : Str) (ps : List Nat), R[i]? = some (.op o ps) → (o, ps.length) ∈ opsL ∧ ∀ p ∈ ps, p < i
mutual
theorem Ev.bdL {R : List Kr} (rk : RkK R) {B : List Nm} : ∀ {n : Nat} {l : Ln}, Ev sumL R B n l → l.Bd (16 * 2 ^ n)
  | n, _, .lt h e => ⟨Nat.zero_le _, fun p hp => by
      rw [List.mem_singleton.mp hp]
      have := Nat.one_le_two_pow (n := n)
      show (1 : Int).natAbs ≤ _
      omega⟩
  | n, _, .sum (ps := ps) h e s => by
    have bd := Evs.bdL rk e
    obtain ⟨ho, hp⟩ := rk _ _ _ h
    rw [← e.len] at ho
    cases n with
    | zero =>
      have b := bd 4 fun p hp' => absurd (hp p hp') (Nat.not_lt_zero _)
      exact (sumL_bd ho (fun x hx => (Evs.nfL e x hx).1) b (by omega) s).mono (by decide)
    | succ m =>
      have b := bd (16 * 2 ^ m) fun p hp' => by
        have h1 := hp p hp'
        have : 2 ^ p ≤ 2 ^ m := Nat.pow_le_pow_right (by omega) (by omega)
        omega
      have := Nat.one_le_two_pow (n := m)
      refine (sumL_bd ho (fun x hx => (Evs.nfL e x hx).1) b (by omega) s).mono ?_
      rw [Nat.pow_succ]
      omega
  | n, _, .op h v s e => ⟨Nat.zero_le _, fun p hp => by
      rw [List.mem_singleton.mp hp]
      have := Nat.one_le_two_pow (n := n)
      show (1 : Int).natAbs ≤ _
      omega⟩
theorem Evs.bdL {R : List Kr} (rk : RkK R) {B : List Nm} : ∀ {ps : List Nat} {ls : List Ln}, Evs sumL R B ps ls → ∀ b, (∀ p ∈ ps, 16 * 2 ^ p ≤ b) → ∀ x ∈ ls, x.Bd b
  | _, _, .nil, _, _ => fun x hx => (nomatch hx)
  | _, _, .cons h k, b, hb => by
    have a1 := Ev.bdL rk h
    have a2 := Evs.bdL rk k
    intro x hx
    rcases List.mem_cons.mp hx with rfl | hx
    · exact a1.mono (hb _ List.mem_cons_self)
    · exact a2 b (fun p hp => hb p (List.mem_cons_of_mem _ hp)) x hx
end
structure SgOk (R : List Kr) (B : List Nm) (M : List (Nat × Ln)) : Prop where
  rk : RkK R
  n3 : R.length ≤ 2999
  nd : B.Nodup
  kd : (M.map (·.1)).Nodup
  ev : ∀ n l, M.lookup n = some l → n < R.length ∧ Ev sumL R B n l
  few : B.length ≤ M.length
theorem keys_few {l : List Nat} {N : Nat} (h : l.Nodup) (k : ∀ x ∈ l, x < N) : l.length ≤ N := by
  have := List.Nodup.length_le_of_subset (l₁ := l) (l₂ := List.range N) h fun x hx => List.mem_range.mpr (k x hx)
  rwa [List.length_range] at this
theorem lk_of_mem {M : List (Nat × Ln)} {n : Nat} (h : n ∈ M.map (·.1)) : ∃ l, M.lookup n = some l := by
  cases e : M.lookup n with
  | some l => exact ⟨l, rfl⟩
  | none =>
    exfalso
    revert h
    induction M with
    | nil => exact fun h => (nomatch h)
    | cons p r ih =>
      rw [List.lookup_cons] at e
      by_cases c : n = p.1
      · rw [show (n == p.1) = true from beq_iff_eq.mpr c] at e
        cases e
      · rw [show (n == p.1) = false from beq_eq_false_iff_ne.mpr c] at e
        intro h
        rw [List.map_cons] at h
        exact ih e ((List.mem_cons.mp h).resolve_left c)
theorem SgOk.lt {R : List Kr} {B : List Nm} {M : List (Nat × Ln)} (h : SgOk R B M) : ∀ n ∈ M.map (·.1), n < R.length := fun n hn => by
  obtain ⟨l, e⟩ := lk_of_mem hn
  exact (h.ev n l e).1
theorem SgOk.size {R : List Kr} {B : List Nm} {M : List (Nat × Ln)} (h : SgOk R B M) : M.length ≤ R.length := by
  have := keys_few h.kd h.lt
  rwa [List.length_map] at this
theorem SgOk.room {R : List Kr} {B : List Nm} {M : List (Nat × Ln)} (h : SgOk R B M) {n : Nat} (hn : n < R.length) (hm : n ∉ M.map (·.1)) : M.length < R.length := by
  have := keys_few (l := n :: M.map (·.1)) (List.nodup_cons.mpr ⟨hm, h.kd⟩) (fun x hx => by
    rcases List.mem_cons.mp hx with rfl | hx
    · exact hn
    · exact h.lt x hx)
  rw [List.length_cons, List.length_map] at this
  exact this
theorem addN_len (B : List Nm) (n : Nm) : (addN B n).length ≤ B.length + 1 := by
  unfold addN
  split
  · omega
  · rw [List.length_append]; exact Nat.le_refl _
theorem SgOk.put {R : List Kr} {B B' : List Nm} {M : List (Nat × Ln)} (h : SgOk R B M) (x : Ext B B') (nd : B'.Nodup) (hl : B'.length ≤ B.length + 1) {n : Nat} {l : Ln} (hn : n < R.length) (hm : n ∉ M.map (·.1)) (e : Ev sumL R B' n l)
    (lk : ∀ m, (M ++ [(n, l)]).lookup m = if m = n then some l else M.lookup m) : SgOk R B' (M ++ [(n, l)]) := by
  refine ⟨h.rk, h.n3, nd, ?_, fun m l' e' => ?_, by have := h.few; rw [List.length_append]; simp; omega⟩
  · rw [List.map_append]
    exact List.nodup_append.mpr ⟨h.kd, by simp, fun a ha b hb e => by simp at hb; rw [e, hb] at ha; exact hm ha⟩
  · rw [lk] at e'
    split at e'
    · rename_i c
      cases e'
      subst c
      exact ⟨hn, e⟩
    · exact ⟨(h.ev m l' e').1, (h.ev m l' e').2.ext x⟩
theorem SgOk.parts {R : List Kr} {B : List Nm} {M : List (Nat × Ln)} (h : SgOk R B M) : ∀ {ps : List Nat}, (∀ p ∈ ps, (M.lookup p).isSome = true) → ∃ ls, Evs sumL R B ps ls ∧ ls.length = ps.length ∧ ∀ i, i < ps.length → M.lookup (ps.getD i 0) = some (ls.getD i ⟨0, []⟩)
  | [], _ => ⟨[], .nil, rfl, fun i hi => absurd hi (Nat.not_lt_zero _)⟩
  | p :: r, k => by
    obtain ⟨ls, a, b, c⟩ := SgOk.parts (ps := r) h fun q hq => k q (List.mem_cons_of_mem _ hq)
    obtain ⟨l, e⟩ := Option.isSome_iff_exists.mp (k p List.mem_cons_self)
    refine ⟨l :: ls, .cons (h.ev p l e).2 a, by rw [List.length_cons, List.length_cons, b], fun i hi => ?_⟩
    cases i with
    | zero => exact e
    | succ i => exact c i (Nat.lt_of_succ_lt_succ hi)
def lin_m (N len : Nat) (known : Option Bool) (kn : Nat) : Nat := (N - kn) * (2 * N + 4) + match known with
  | none => 0
  | some true => N + 2 + len
  | some false => N + 1 - len
theorem lin_pop {N len kn : Nat} (k : Option Bool) : lin_m N len k kn < lin_m N (len + 1) (some true) kn := by
  unfold lin_m
  cases k with
  | none => simp; omega
  | some b => cases b <;> simp <;> omega
theorem lin_push {N len kn : Nat} (h : len + 1 ≤ N) : lin_m N (len + 1) (some false) kn < lin_m N len (some false) kn := by
  unfold lin_m
  simp
  omega
theorem lin_known {N len kn : Nat} (h : len ≤ N) (h2 : kn < N) : lin_m N len (some true) (kn + 1) < lin_m N len (some false) kn := by
  unfold lin_m
  obtain ⟨d, hd⟩ : ∃ d, N - kn = d + 1 := ⟨N - kn - 1, by omega⟩
  have h3 : N - (kn + 1) = d := by omega
  rw [hd, h3]
  show d * (2 * N + 4) + (N + 2 + len) < (d + 1) * (2 * N + 4) + (N + 1 - len)
  rw [Nat.add_mul, Nat.one_mul]
  omega
theorem desc_few : ∀ {st : List Nat} {N : Nat}, st.Pairwise (fun a b => b < a) → (∀ x ∈ st, x < N) → st.length ≤ N
  | [], _, _, _ => Nat.zero_le _
  | x :: r, N, h, k => by
    rw [List.pairwise_cons] at h
    have h1 := k x List.mem_cons_self
    have := desc_few h.2 (N := x) fun y hy => h.1 y hy
    rw [List.length_cons]
    omega
end Rs
set_option maxHeartbeats 4000000
namespace Rs
open PySem L2 PySem.Spec PyProof.Rows
structure DrOk (R : List Kr) : Prop where
  rk : RkK R
  let' : ∀ (i k : Nat), R[i]? = some (.lt k) → k < 4
theorem DrOk.nil : DrOk [] := ⟨fun i o ps h => (by cases h), fun i k h => (by cases h)⟩
theorem DrOk.letter {R : List Kr} (h : DrOk R) {k : Nat} (hk : k < 4) : DrOk (R ++ [.lt k]) := by
  refine ⟨fun i o ps e => ?_, fun i j e => ?_⟩
  · rw [List.getElem?_append] at e
    split at e
    · exact h.rk i o ps e
    · cases hi : i - R.length with
      | zero => rw [hi] at e; cases e
      | succ x => rw [hi] at e; cases e
  · rw [List.getElem?_append] at e
    split at e
    · exact h.let' i j e
    · cases hi : i - R.length with
      | zero => rw [hi] at e; cases e; exact hk
      | succ x => rw [hi] at e; cases e
theorem DrOk.op {R : List Kr} (h : DrOk R) {o : Str} {ps : List Nat} (ho : (o, ps.length) ∈ opsL) (hp : ∀ p ∈ ps, p < R.length) : DrOk (R ++ [.op o ps]) := by
  refine ⟨fun i o' ps' e => ?_, fun i j e => ?_⟩
  · rw [List.getElem?_append] at e
    split at e
    · exact h.rk i o' ps' e
    · rename_i hlt
      cases hi : i - R.length with
      | zero =>
        rw [hi] at e
        cases e
        exact ⟨ho, fun p hp' => Nat.lt_of_lt_of_le (hp p hp') (Nat.le_of_not_lt hlt)⟩
      | succ x => rw [hi] at e; cases e
  · rw [List.getElem?_append] at e
    split at e
    · exact h.let' i j e
    · cases hi : i - R.length with
      | zero => rw [hi] at e; cases e
      | succ x => rw [hi] at e; cases e
theorem ops3 {o : Str} {n : Nat} (h : (o, n) ∈ opsL) : n ≤ 3 := (ops_short h).2
def mapKr (f : Nat → Nat) : Kr → Kr
  | .lt k => .lt k
  | .op o ps => .op o (ps.map f)
def addQ (G : List Kr) (r : Kr) : List Kr := if r ∈ G then G else G ++ [r]
def nsF (ns : List Nat) (i : Nat) : Nat := ns.getD i 0
theorem idx_mapG {α : Type} [DecidableEq α] {f : α → NestedKey} (h : ∀ a b, f a = f b → a = b) (n : α) : ∀ B : List α, (B.map f).idxOf (f n) = B.idxOf n
  | [] => rfl
  | b :: r => by
    rw [List.map_cons, List.idxOf_cons, List.idxOf_cons, idx_mapG h n r]
    by_cases e : b = n
    · rw [e, beq_self_eq_true, beq_self_eq_true]
    · rw [show (f b == f n) = false from beq_eq_false_iff_ne.mpr fun z => e (h _ _ z), show (b == n) = false from beq_eq_false_iff_ne.mpr e]
theorem add_mapG {f : Kr → NestedKey} (h : ∀ a b, f a = f b → a = b) (n : Kr) (B : List Kr) : addK (B.map f) (f n) = (addQ B n).map f := by
  unfold addK addQ
  by_cases e : n ∈ B
  · rw [if_pos ((mem_map_inj h).mpr e), if_pos e]
  · rw [if_neg fun z => e ((mem_map_inj h).mp z), if_neg e, List.map_append]
    rfl
theorem natInt_map {ps qs : List Nat} (h : (ps.map fun p : Nat => (p : Int)).map NestedKey.num = (qs.map fun p : Nat => (p : Int)).map NestedKey.num) : ps = qs := by
  rw [List.map_map, List.map_map] at h
  exact map_inj (fun a b e => by have e : (a : Int) = (b : Int) := NestedKey.num.inj e; omega) h
theorem headK_inj : ∀ a b : Kr, headK a = headK b → a = b
  | .lt k, .lt j, h => by
    unfold headK at h
    injection h with h
    injection h with _ h
    injection h with h _
    injection h with h
    injection h with _ h
    injection h with h _
    injection h with h
    congr 1
    omega
  | .op o ps, .op o' qs, h => by
    unfold headK at h
    injection h with h
    injection h with _ h
    injection h with h1 h
    injection h with h2 _
    injection h1 with h1
    injection h2 with h2
    rw [h1, natInt_map h2]
  | .lt k, .op o ps, h => by
    unfold headK at h
    injection h with h
    injection h with h _
    injection h with h
    exact absurd h let_ne_op
  | .op o ps, .lt k, h => by
    unfold headK at h
    injection h with h
    injection h with h _
    injection h with h
    exact absurd h.symm let_ne_op
def owK : Kr → NestedKey
  | .lt k => .tup [.text "letter", .text "read", .num (k : Int)]
  | .op o ps => headK (.op o ps)
theorem owK_inj : ∀ a b : Kr, owK a = owK b → a = b
  | .lt k, .lt j, h => by
    unfold owK at h
    injection h with h
    injection h with _ h
    injection h with _ h
    injection h with h _
    injection h with h
    congr 1
    omega
  | .op o ps, .op o' qs, h => headK_inj _ _ h
  | .lt k, .op o ps, h => by
    unfold owK headK at h
    injection h with h
    injection h with h _
    injection h with h
    exact absurd h let_ne_op
  | .op o ps, .lt k, h => by
    unfold owK headK at h
    injection h with h
    injection h with h _
    injection h with h
    exact absurd h.symm let_ne_op
structure DP (R G : List Kr) (ns : List Nat) : Prop where
  nd : G.Nodup
  rk : RkK G
  len : ns.length = R.length
  few : G.length ≤ R.length
  at' : ∀ i r, R[i]? = some r → G[nsF ns i]? = some (mapKr (nsF ns) r)
  let' : ∀ (i k : Nat), G[i]? = some (.lt k) → k < 4
theorem DP.nil : DP [] [] [] := ⟨List.nodup_nil, DrOk.nil.rk, rfl, Nat.le_refl _, fun i r h => (by cases h), DrOk.nil.let'⟩
theorem DP.lt {R G : List Kr} {ns : List Nat} (h : DP R G ns) {i : Nat} (hi : i < R.length) : nsF ns i < G.length := by
  obtain ⟨r, hr⟩ : ∃ r, R[i]? = some r := ⟨R[i], List.getElem?_eq_getElem hi⟩
  exact (List.getElem?_eq_some_iff.mp (h.at' i r hr)).1
theorem addQ_len (G : List Kr) (r : Kr) : (addQ G r).length ≤ G.length + 1 := by
  unfold addQ
  split
  · omega
  · rw [List.length_append]; exact Nat.le_refl _
theorem addQ_at (G : List Kr) (r : Kr) : (addQ G r)[G.idxOf r]? = some r := by
  unfold addQ
  by_cases e : r ∈ G
  · rw [if_pos e, List.getElem?_eq_getElem (List.idxOf_lt_length_iff.mpr e), List.getElem_idxOf]
  · rw [if_neg e, List.idxOf_eq_length e]
    simp
theorem addQ_old {G : List Kr} {r q : Kr} {i : Nat} (h : G[i]? = some q) : (addQ G r)[i]? = some q := by
  unfold addQ
  split
  · exact h
  · rw [List.getElem?_append_left (List.getElem?_eq_some_iff.mp h).1]
    exact h
theorem addQ_new {G : List Kr} {r q : Kr} {i : Nat} (h : (addQ G r)[i]? = some q) : G[i]? = some q ∨ (i = G.length ∧ q = r ∧ r ∉ G) := by
  unfold addQ at h
  split at h
  · exact .inl h
  · rename_i hn
    rw [List.getElem?_append] at h
    split at h
    · exact .inl h
    · rename_i hlt
      cases hi : i - G.length with
      | zero =>
        rw [hi] at h
        cases h
        exact .inr ⟨by omega, rfl, hn⟩
      | succ x => rw [hi] at h; cases h
theorem addQ_nd {G : List Kr} (h : G.Nodup) (r : Kr) : (addQ G r).Nodup := by
  unfold addQ
  split
  · exact h
  · rename_i hn
    exact List.nodup_append.mpr ⟨h, by simp, fun a ha b hb e => by rw [List.mem_singleton] at hb; rw [e, hb] at ha; exact hn ha⟩
theorem nsF_old {ns : List Nat} {x i : Nat} (h : i < ns.length) : nsF (ns ++ [x]) i = nsF ns i := by
  unfold nsF
  rw [List.getD_eq_getElem?_getD, List.getD_eq_getElem?_getD, List.getElem?_append_left h]
theorem nsF_new {ns : List Nat} {x : Nat} : nsF (ns ++ [x]) ns.length = x := by
  unfold nsF
  rw [List.getD_eq_getElem?_getD]
  simp
theorem mapKr_congr {f g : Nat → Nat} {r : Kr} (h : ∀ o ps, r = .op o ps → ∀ p ∈ ps, f p = g p) : mapKr f r = mapKr g r := by
  cases r with
  | lt k => rfl
  | op o ps =>
    show Kr.op o (ps.map f) = .op o (ps.map g)
    rw [List.map_congr_left (h o ps rfl)]
theorem DP.step {R G : List Kr} {ns : List Nat} (h : DP R G ns) {r : Kr} (ho : ∀ o ps, r = .op o ps → (o, ps.length) ∈ opsL ∧ ∀ p ∈ ps, p < R.length) (hl : ∀ k, r = .lt k → k < 4) (hR : RkK R) : DP (R ++ [r]) (addQ G (mapKr (nsF ns) r)) (ns ++ [G.idxOf (mapKr (nsF ns) r)]) := by
  have old : ∀ i, i < R.length → nsF (ns ++ [G.idxOf (mapKr (nsF ns) r)]) i = nsF ns i := fun i hi => nsF_old (by rw [h.len]; exact hi)
  refine ⟨addQ_nd h.nd _, fun i o ps e => ?_, by rw [List.length_append, List.length_append, h.len]; rfl, by have := addQ_len G (mapKr (nsF ns) r); have := h.few; rw [List.length_append, List.length_singleton]; omega, fun i q e => ?_, fun i k e => ?_⟩
  · rcases addQ_new e with e | ⟨hi, e, _⟩
    · exact h.rk i o ps e
    · cases r with
      | lt k => cases e
      | op o' qs =>
        obtain ⟨a, b⟩ := ho o' qs rfl
        cases e
        refine ⟨by rw [List.length_map]; exact a, fun p hp => ?_⟩
        obtain ⟨x, hx, rfl⟩ := List.mem_map.mp hp
        rw [hi]
        exact h.lt (b x hx)
  · rw [List.getElem?_append] at e
    split at e
    · rename_i hi
      rw [old i hi, mapKr_congr (g := nsF ns) fun o ps eq p hp => old p (by
        rw [eq] at e
        have := (hR i o ps e).2 p hp
        omega)]
      exact addQ_old (h.at' i q e)
    · rename_i hi
      cases hj : i - R.length with
      | zero =>
        rw [hj] at e
        cases e
        have ei : i = ns.length := by rw [h.len]; omega
        rw [ei, nsF_new, mapKr_congr (g := nsF ns) fun o ps eq p hp => old p ((ho o ps eq).2 p hp)]
        exact addQ_at _ _
      | succ x => rw [hj] at e; cases e
  · rcases addQ_new e with e | ⟨_, e, _⟩
    · exact h.let' i k e
    · cases r with
      | lt j => cases e; exact hl k rfl
      | op o' qs => cases e
theorem DP.same {R G : List Kr} {ns : List Nat} (h : DP R G ns) : Same R G (nsF ns) := ⟨fun i k e => h.at' i _ e, fun i o ps e => h.at' i _ e⟩
def sumF (vs : List Int) (ts : Fs) : Int := (ts.map fun p => p.2 * vs.getD p.1 0).sum
def evL (vs : List Int) (l : Ln) : Int := l.c + sumF vs l.ts
theorem sumF_cons (vs : List Int) (p : Nat × Int) (r : Fs) : sumF vs (p :: r) = p.2 * vs.getD p.1 0 + sumF vs r := rfl
theorem sumF_cns (vs : List Int) (a : Nat) (x : Int) (r : Fs) : sumF vs (cns a x r) = x * vs.getD a 0 + sumF vs r := by
  unfold cns
  split
  · rename_i h
    rw [h]
    omega
  · rfl
theorem sumF_mrg (vs : List Int) (m : Int) : ∀ (f : Nat) (r s : Fs), r.length + s.length < f → sumF vs (mrgF m f r s) = sumF vs r + m * sumF vs s
  | 0, _, _, h => absurd h (Nat.not_lt_zero _)
  | f + 1, [], [], _ => by show (0 : Int) = 0 + m * 0; omega
  | f + 1, p :: r, [], h => by
    show sumF vs (cns p.1 p.2 (mrgF m f r [])) = _
    rw [sumF_cns, sumF_mrg vs m f r [] (by simp at h ⊢; omega), sumF_cons]
    omega
  | f + 1, [], q :: s, h => by
    show sumF vs (cns q.1 (m * q.2) (mrgF m f [] s)) = _
    rw [sumF_cns, sumF_mrg vs m f [] s (by simp at h ⊢; omega), sumF_cons, Int.mul_add, Int.mul_assoc]
    omega
  | f + 1, p :: r, q :: s, h => by
    show sumF vs (if p.1 < q.1 then _ else if q.1 < p.1 then _ else _) = _
    by_cases c1 : p.1 < q.1
    · rw [if_pos c1, sumF_cns, sumF_mrg vs m f r (q :: s) (by simp at h ⊢; omega), sumF_cons vs p]
      omega
    · rw [if_neg c1]
      by_cases c2 : q.1 < p.1
      · have e1 := sumF_mrg vs m f (p :: r) s (by simp at h ⊢; omega)
        have e2 : m * sumF vs (q :: s) = m * q.2 * vs.getD q.1 0 + m * sumF vs s := by rw [sumF_cons vs q, Int.mul_add, Int.mul_assoc]
        rw [if_pos c2, sumF_cns, e1, e2]
        omega
      · have e : p.1 = q.1 := by omega
        rw [if_neg c2, sumF_cns, sumF_mrg vs m f r s (by simp at h ⊢; omega), sumF_cons, sumF_cons, Int.mul_add, ← Int.mul_assoc, Int.add_mul, e]
        omega
theorem evL_plus (vs : List Int) (a b : Ln) (m : Int) : evL vs (plusL a b m) = evL vs a + m * evL vs b := by
  show a.c + m * b.c + sumF vs (mrgF m _ a.ts b.ts) = _
  rw [sumF_mrg vs m _ _ _ (Nat.lt_succ_self _)]
  unfold evL
  rw [Int.mul_add]
  omega
theorem evL_unit (vs : List Int) (i : Nat) : evL vs (unit i) = vs.getD i 0 := by
  show (0 : Int) + ((1 : Int) * vs.getD i 0 + 0) = _
  omega
def appL (hsh : Str → List Int → Int) (o : Str) : List Int → Int
  | [] => if Txt.isdigit o = true then (PySem.intText? o).getD 0 else hsh o []
  | [a] => if o = negS then -a else hsh o [a]
  | [a, b] => if o = addS then a + b else if o = subS then a - b else hsh o [a, b]
  | ws => hsh o ws
theorem appL_sum {hsh : Str → List Int → Int} {o : Str} {ls : List Ln} {l : Ln} (vs : List Int) (h : sumL o ls = some l) : appL hsh o (ls.map (evL vs)) = evL vs l := by
  match ls, h with
  | [], h =>
    rw [sumL_nil] at h
    split at h
    · rename_i hd
      obtain ⟨n, hn, rfl⟩ := Option.map_eq_some_iff.mp h
      show (if Txt.isdigit o = true then _ else _) = n + 0
      rw [if_pos hd, hn]
      show n = n + 0
      omega
    · cases h
  | [a], h =>
    rw [sumL_one] at h
    split at h
    · rename_i hd
      cases h
      show (if o = negS then -(evL vs a) else _) = _
      rw [if_pos hd, evL_plus]
      show _ = 0 + 0 + -1 * evL vs a
      omega
    · cases h
  | [a, b], h =>
    rw [sumL_two] at h
    split at h
    · rename_i hd
      cases h
      show (if o = addS then evL vs a + evL vs b else _) = _
      rw [if_pos hd, evL_plus]
      omega
    · rename_i hd
      split at h
      · rename_i hd2
        cases h
        show (if o = addS then _ else if o = subS then evL vs a - evL vs b else _) = _
        rw [if_neg hd, if_pos hd2, evL_plus]
        omega
      · cases h
  | _ :: _ :: _ :: _, h =>
    rw [sumL_more] at h
    cases h
def nval (hsh : Str → List Int → Int) (reads : Nat → Int) (vs : List Int) : Nm → Int
  | .lt k => reads k
  | .op o ls => appL hsh o (ls.map (evL vs))
def vals (hsh : Str → List Int → Int) (reads : Nat → Int) (B : List Nm) : List Int := B.foldl (fun vs n => vs ++ [nval hsh reads vs n]) []
def NmOk (B : List Nm) : Prop := ∀ (i : Nat) (o : Str) (ls : List Ln), B[i]? = some (.op o ls) → ∀ l ∈ ls, l.Lt i
theorem NmOk.nil : NmOk [] := fun i o ls h => (by cases h)
section
variable {hsh : Str → List Int → Int} {reads : Nat → Int}
theorem valsF_len : ∀ (B : List Nm) (acc : List Int), (B.foldl (fun vs n => vs ++ [nval hsh reads vs n]) acc).length = acc.length + B.length
  | [], acc => rfl
  | n :: r, acc => by
    rw [List.foldl_cons, valsF_len r, List.length_append, List.length_cons]
    simp
    omega
theorem valsF_pre : ∀ (B : List Nm) (acc : List Int), ∃ t, B.foldl (fun vs n => vs ++ [nval hsh reads vs n]) acc = acc ++ t
  | [], acc => ⟨[], (List.append_nil _).symm⟩
  | n :: r, acc => by
    obtain ⟨t, e⟩ := valsF_pre r (acc ++ [nval hsh reads acc n])
    exact ⟨[nval hsh reads acc n] ++ t, by rw [List.foldl_cons, e, List.append_assoc]⟩
theorem vals_len (B : List Nm) : (vals hsh reads B).length = B.length := by
  unfold vals
  rw [valsF_len]
  simp
theorem sumF_pre {us t : List Int} {ts : Fs} (h : ∀ p ∈ ts, p.1 < us.length) : sumF (us ++ t) ts = sumF us ts := by
  unfold sumF
  refine congrArg List.sum (List.map_congr_left fun p hp => ?_)
  rw [List.getD_eq_getElem?_getD, List.getD_eq_getElem?_getD, List.getElem?_append_left (h p hp)]
theorem evL_pre {us t : List Int} {l : Ln} (h : l.Lt us.length) : evL (us ++ t) l = evL us l := by
  unfold evL
  rw [sumF_pre h]
theorem vals_at {B : List Nm} (ok : NmOk B) {i : Nat} {n : Nm} (hi : B[i]? = some n) : (vals hsh reads B).getD i 0 = nval hsh reads (vals hsh reads B) n := by
  obtain ⟨hlt, en⟩ := List.getElem?_eq_some_iff.mp hi
  have eB : B = B.take i ++ n :: B.drop (i + 1) := by
    conv => lhs; rw [← List.take_append_drop i B, List.drop_eq_getElem_cons hlt, en]
  have lt : (vals hsh reads (B.take i)).length = i := by rw [vals_len, List.length_take]; omega
  have e1 : vals hsh reads B = (B.drop (i + 1)).foldl (fun vs n => vs ++ [nval hsh reads vs n]) (vals hsh reads (B.take i) ++ [nval hsh reads (vals hsh reads (B.take i)) n]) := by
    conv => lhs; rw [eB]
    unfold vals
    rw [List.foldl_append, List.foldl_cons]
  obtain ⟨t, e2⟩ := valsF_pre (hsh := hsh) (reads := reads) (B.drop (i + 1)) (vals hsh reads (B.take i) ++ [nval hsh reads (vals hsh reads (B.take i)) n])
  have e3 : vals hsh reads B = vals hsh reads (B.take i) ++ (nval hsh reads (vals hsh reads (B.take i)) n :: t) := by
    rw [e1, e2, List.append_assoc]
    rfl
  have e4 : nval hsh reads (vals hsh reads B) n = nval hsh reads (vals hsh reads (B.take i)) n := by
    rw [e3]
    cases n with
    | lt k => rfl
    | op o ls =>
      show appL hsh o (ls.map _) = appL hsh o (ls.map _)
      rw [List.map_congr_left fun l hl => evL_pre (by rw [lt]; exact ok i o ls hi l hl)]
  rw [e4, e3, List.getD_eq_getElem?_getD, List.getElem?_append_right (by omega), lt, Nat.sub_self]
  rfl
end
section
variable {hsh : Str → List Int → Int} {reads : Nat → Int} {R : List Kr} {B : List Nm} {wv : Nat → Int}
mutual
theorem Ev.worth (ok : NmOk B) (nd : B.Nodup) (h1 : ∀ (n k : Nat), R[n]? = some (.lt k) → wv n = reads k) (h2 : ∀ (n : Nat) (o : Str) (ps : List Nat), R[n]? = some (.op o ps) → wv n = appL hsh o (ps.map wv)) : ∀ {n : Nat} {l : Ln}, Ev sumL R B n l → wv n = evL (vals hsh reads B) l
  | _, _, .lt h e => by
    rw [evL_unit, vals_at ok ((idxN_at nd).mp e)]
    exact h1 _ _ h
  | _, _, .sum h e s => by
    rw [h2 _ _ _ h, Evs.worth ok nd h1 h2 e]
    exact appL_sum _ s
  | _, _, .op h e _ i => by
    rw [h2 _ _ _ h, Evs.worth ok nd h1 h2 e, evL_unit, vals_at ok ((idxN_at nd).mp i)]
    rfl
theorem Evs.worth (ok : NmOk B) (nd : B.Nodup) (h1 : ∀ (n k : Nat), R[n]? = some (.lt k) → wv n = reads k) (h2 : ∀ (n : Nat) (o : Str) (ps : List Nat), R[n]? = some (.op o ps) → wv n = appL hsh o (ps.map wv)) : ∀ {ps : List Nat} {ls : List Ln}, Evs sumL R B ps ls → ps.map wv = ls.map (evL (vals hsh reads B))
  | _, _, .nil => rfl
  | _, _, .cons a b => by rw [List.map_cons, List.map_cons, Ev.worth ok nd h1 h2 a, Evs.worth ok nd h1 h2 b]
end
end
end Rs
set_option maxHeartbeats 4000000
namespace Rs
open PySem L2 PySem.Spec PyProof.Rows
local macro_rules | `(tactic| walk_at "dv nm") => `(tactic| dsimp only [List.set_cons_succ, List.set_cons_zero, hideT])
local macro_rules | `(tactic| walk_at "dv st") => `(tactic| first | rfl | exact kT_still _ | assumption)
local macro_rules | `(tactic| walk_at "dv 1") => `(tactic| first | (with_reducible (first | refine ws_seq ?_ | refine ws_asg ?_ | refine ws_ret ?_ | refine ws_drop ?_ | refine ws_if ?_ | refine ws_next ?_ | refine we_int ?_ | refine we_str ?_ | refine we_bl ?_ | refine we_non ?_ | refine we_tup ?_ | refine we_lst ?_ | refine wa_cons ?_ | refine wa_nil ?_ | refine wo_cons ?_ | refine wo_nil ?_ | refine wt_test ?_ | refine wt_B ?_ | refine wt_not ?_ | refine wt_and ?_ | refine wt_or ?_ | refine we_if ?_ | refine we_notV ?_ | refine we_andV ?_ | refine we_orV ?_ | refine we_dnew ?_ | refine wb_var ⟨_, rfl⟩ ?_)) | ((with_reducible refine' wg_name ?h1 ?h2 ?_); (case h1 => exact Nat.le_of_ble_eq_true rfl); (case h2 => decide); (walk_at "dv nm")) | ((with_reducible refine' we_var ?h ?s ?_); (case' h => rfl); (case s => walk_at "dv st")) | ((with_reducible refine' size_and ?sz ?_); (case sz => rw [sizeLine_eq]; exact Nat.le_of_ble_eq_true rfl)) | (with_reducible refine wb_of ?_))
local macro_rules | `(tactic| walk_at "dv") => `(tactic| repeat (walk_at "dv 1"))
local macro_rules | `(tactic| walk_at "wn") => `(tactic| ((refine wg_name (Nat.le_of_ble_eq_true rfl) (by decide) ?_); (walk_at "dv nm")))
abbrev sSca : Stmt := top 2
abbrev sAdd : Stmt := top 3
abbrev sLof : Stmt := top 4
abbrev sIss : Stmt := top 5
abbrev sSul : Stmt := top 6
structure TxtS (mg : Str → Option Value) : Prop where
  dict : mg "dict" = none
  tuple : mg "tuple" = none
  sorted : mg "sorted" = none
  len : mg "len" = none
  int : mg "int" = none
theorem putZ_new {D : Fs} {n : Nat} {x : Int} (h : n ∉ D.map (·.1)) : putZ D n x = D ++ [(n, x)] := by
  unfold putZ
  rw [if_neg fun z => h (any_key.mp z)]
theorem nk_key {D : Fs} {j : Nat} (hj : j < D.length) : ((nkT D).map fun p => keyT p.1).getD j .non = .int (D[j].1 : Int) := by
  rw [List.getD_eq_getElem?_getD, List.getElem?_map]
  unfold nkT
  rw [List.getElem?_map, List.getElem?_eq_getElem hj]
  rfl
theorem fs_next {D : Fs} (h : (D.map (·.1)).Nodup) {j : Nat} (hj : j < D.length) : D[j].1 ∉ (D.take j).map (·.1) ∧ D.take (j + 1) = D.take j ++ [D[j]] ∧ D.lookup D[j].1 = some D[j].2 := by
  have hkj : D[j]? = some D[j] := List.getElem?_eq_getElem hj
  refine ⟨fun z => ?_, by rw [List.take_succ, hkj]; rfl, ?_⟩
  · have h := h
    rw [← List.take_append_drop j D, List.drop_eq_getElem_cons hj, List.map_append, List.map_cons] at h
    exact (List.nodup_append.mp h).2.2 _ z _ List.mem_cons_self rfl
  · have go : ∀ {l : Fs}, (l.map (·.1)).Nodup → ∀ {p : Nat × Int}, p ∈ l → l.lookup p.1 = some p.2 := fun {l} hl => by
      induction l with
      | nil => intro p hp; cases hp
      | cons x r ih =>
        rw [List.map_cons, List.nodup_cons] at hl
        intro p hp
        rw [List.lookup_cons]
        rcases List.mem_cons.mp hp with rfl | hp
        · rw [beq_self_eq_true]
        · rw [show (p.1 == x.1) = false from by rw [beq_eq_false_iff_ne]; exact fun z => hl.1 (by rw [← z]; exact List.mem_map.mpr ⟨p, hp, rfl⟩)]
          exact ih hl.2 hp
    exact go h (List.getElem_mem hj)
def gSca (ts : List T) (K : T → List T → Prop) : Prop := ∃ (D : Fs) (m : Int), ts = [.dk true (nkT D), .int m] ∧ (D.map (·.1)).Nodup ∧ (m = 1 ∨ m = -1) ∧ D.length ≤ 10000 ∧ K (.dk true (nkT (D.map fun p => (p.1, p.2 * m)))) ts
theorem mono_sca : Mono gSca := fun ts K K' h ⟨D, m, e, e1, e2, e3, k⟩ => ⟨D, m, e, e1, e2, e3, h _ _ k⟩
def gAdd (ts : List T) (K : T → List T → Prop) : Prop := ∃ D E : Fs, ts = [.dk true (nkT D), .dk true (nkT E)] ∧ (D.map (·.1)).Nodup ∧ (E.map (·.1)).Nodup ∧ D.length ≤ 10000 ∧ E.length ≤ 10000 ∧
  ∀ D' : Fs, (D'.map (·.1)).Nodup → (∀ p ∈ D', p.2 ≠ 0) → (∀ a, vl D' a = vl D a + vl E a) → D'.length ≤ D.length + E.length → K (.dk true (nkT D')) ts
theorem mono_add : Mono gAdd := fun ts K K' h ⟨D, E, e, e1, e2, e3, e4, k⟩ => ⟨D, E, e, e1, e2, e3, e4, fun D' a1 a2 a3 a4 => h _ _ (k D' a1 a2 a3 a4)⟩
def gLof (ts : List T) (K : T → List T → Prop) : Prop := ∃ (c : Int) (D : Fs), ts = [.int c, .dk true (nkT D)] ∧ (D.map (·.1)).Nodup ∧ (∀ p ∈ D, p.2 ≠ 0) ∧ D.length ≤ 20000 ∧ ∀ l : Ln, l.Nf → l.c = c → (∀ a, vl l.ts a = vl D a) → K (linT l) ts
theorem mono_lof : Mono gLof := fun ts K K' h ⟨c, D, e, e1, e2, e3, k⟩ => ⟨c, D, e, e1, e2, e3, fun l a1 a2 a3 => h _ _ (k l a1 a2 a3)⟩
def gIss (ts : List T) (K : T → List T → Prop) : Prop := ∃ (o : Str) (n : Nat), ts = [.str o, .int (n : Int)] ∧ K (.bl (isReal o n)) ts
theorem mono_iss : Mono gIss := fun ts K K' h ⟨o, n, e, k⟩ => ⟨o, n, e, h _ _ k⟩
def gSul (ts : List T) (K : T → List T → Prop) : Prop := ∃ (o : Str) (ls : List Ln) (l : Ln), ts = [.str o, .tup (ls.map linT)] ∧ o.length ≤ 640 ∧ (∀ x ∈ ls, x.Nf ∧ x.ts.length ≤ 10000) ∧ sumL o ls = some l ∧ K (linT l) ts
theorem mono_sul : Mono gSul := fun ts K K' h ⟨o, ls, l, e, e0, e1, e2, k⟩ => ⟨o, ls, l, e, e0, e1, e2, h _ _ k⟩
theorem vl_lookup (D : Fs) (a : Nat) : vl D a = (D.lookup a).getD 0 := rfl
theorem vl_put (D : Fs) (n : Nat) (x : Int) (a : Nat) : vl (putZ D n x) a = if a = n then x else vl D a := by
  unfold vl
  rw [putZ_lookup]
  split <;> rfl
theorem vl_scale (D : Fs) (m : Int) (a : Nat) : vl (D.map fun p => (p.1, p.2 * m)) a = vl D a * m := by
  induction D with
  | nil => show (0 : Int) = 0 * m; omega
  | cons p r ih =>
    rw [List.map_cons, vl_cons, vl_cons, ih]
    split <;> rfl
theorem vl_filter {D : Fs} (h : (D.map (·.1)).Nodup) (a : Nat) : vl (D.filter fun p => decide (p.2 ≠ 0)) a = vl D a := by
  induction D with
  | nil => rfl
  | cons p r ih =>
    rw [List.map_cons, List.nodup_cons] at h
    rw [List.filter_cons, vl_cons]
    by_cases c : p.2 = 0
    · rw [if_neg (by simp [c]), ih h.2]
      split
      · rename_i e
        rw [c, e]
        exact vl_zero fun q hq z => h.1 (List.mem_map.mpr ⟨q, hq, z⟩)
      · rfl
    · rw [if_pos (by simp [c]), vl_cons, ih h.2]
theorem filter_nd {D : Fs} (h : (D.map (·.1)).Nodup) (f : Nat × Int → Bool) : ((D.filter f).map (·.1)).Nodup := h.sublist (List.Sublist.map _ List.filter_sublist)
theorem inV_two (x a b : Str) : inV (.str x) [.str a, .str b] = decide (x ∈ [a, b]) := inV_strs x [a, b]
section
variable {P : Program} {w : World} {K : PySem.W.Frag} {mg : Str → Option Value} {base : Heap}
theorem scSca : FnScope ["one", "factor", "key"] ["one", "factor"] (defScope sSca) := ⟨rfl, rfl, rfl, by decide +kernel, rfl, by decide +kernel, by decide +kernel⟩
theorem ok_sca {f : Addr} {fd : FuncData} (F : Fun K "scaled" "scaled" sSca f fd) (TX : TxtS mg) : FnOk P w K mg base CX0 1 f fd ["one", "factor"] (spT gSca) := by
  have hlen : ∀ ts K, gSca ts K → ts.length = 2 := fun ts K ⟨_, _, e, _⟩ => by rw [e]; rfl
  refine F.ok scSca (fun vs H Q E h => spT_len h hlen) (fun cdv A outer s H vs Q E hr h => ?_)
  have nd := scSca.nd
  have hu1 := hu_of hr
  refine ⟨_, (pss_one (ps_ret (pe_lock (pe_dc (own := [("key", 2)]) (g := (gName 2)) (tt := _) rfl nd (pi_keys (pv 0)) (blkOk_by (N := ["one", "factor", "key"]) (sc := defScope sSca) (by decide +kernel)) (fun _ _ _ _ _ => (pg_name (i := 2) nd rfl (Or.inl rfl))) (fun _ _ _ _ _ => pts_one (pt_cmpR op_ne (pv 1) pe_int (nomark _))) (fun _ _ _ _ _ => (pv 2)) (fun _ _ _ _ _ => (pe_op op_mul (pe_dget hu1 (pv 0) (pv 2) (fun _ _ => rfl)) (pv 1))))))), ?_⟩
  refine body_run (n := 2) 1 (by rw [spT_len h hlen]; rfl) h (spT_len h hlen).symm fun fr ts K ⟨D, m, e, hD, hm, hl, k⟩ => ?_
  subst e
  show WS fr [0, 1] [] [some (.dk true (nkT D)), some (.int m), none] _ _
  refine ws_ret (we_dcKeys (gown_name (by decide)) rfl (nk_still D) (fun j hj => (by revert hj; simp; omega)) fun od ws => ?_)
  walk_at "dv nm"
  rw [nkT_len]
  refine ⟨fun j acc sl => acc = nkT ((D.take j).map fun p => (p.1, p.2 * m)) ∧ sl = [some (.lk od ws (nkT D)), some (.int m), none], ⟨rfl, rfl⟩, ?_, ?_, ?_⟩
  · rintro j acc sl ⟨_, rfl⟩
    rfl
  · rintro j acc sl hj ⟨rfl, rfl⟩
    obtain ⟨n1, n2, n3⟩ := fs_next hD hj
    rw [nk_key hj]
    refine ⟨by rw [nkT_len, List.length_map, List.length_take, sizeLine_eq]; omega, nk_still _, ?_⟩
    walk_at "wn"
    walk_at "dv"
    refine we_op2 op2_ne (wb_var ⟨_, rfl⟩ (wb_of (we_int ⟨_, _, rfl, rfl, _, .int m 0, _, rfl, ?_⟩)))
    refine if_yes (by rcases hm with rfl | rfl <;> rfl) ?_
    walk_at "dv"
    refine we_op2 op2_I (wb_of (we_dget ⟨_, rfl⟩ (we_var rfl rfl ⟨_, _, .inl (D[j].1 : Int), .int D[j].2, rfl, rfl, rfl, by rw [nk_val, n3]; rfl, rfl, ?_⟩)))
    refine wb_var ⟨_, rfl⟩ ⟨_, _, rfl, rfl, D[j].2, m, rfl, rfl, .inr (by rcases hm with rfl | rfl <;> decide), .inl (D[j].1 : Int), rfl, rfl, ?_, rfl⟩
    rw [nk_put, putZ_new (by rw [List.map_map]; exact n1), n2, List.map_append]
    rfl
  · rintro acc sl ⟨rfl, rfl⟩
    rw [List.take_length]
    exact ⟨_, _, rfl, k⟩
theorem scAdd : FnScope ["one", "other", "found", "key"] ["one", "other"] (defScope sAdd) := ⟨rfl, rfl, rfl, by decide +kernel, rfl, by decide +kernel, by decide +kernel⟩
theorem ok_add {f : Addr} {fd : FuncData} (F : Fun K "added" "added" sAdd f fd) (TX : TxtS mg) : FnOk P w K mg base CX0 1 f fd ["one", "other"] (spT gAdd) := by
  have hlen : ∀ ts K, gAdd ts K → ts.length = 2 := fun ts K ⟨_, _, e, _⟩ => by rw [e]; rfl
  refine F.ok scAdd (fun vs H Q E h => spT_len h hlen) (fun cdv A outer s H vs Q E hr h => ?_)
  have nd := scAdd.nd
  have hu1 := hu_of hr
  refine ⟨_, (pss_cons (ps_set (i := 2) nd rfl (Or.inr rfl) (pe_callTy call_dictD (by rfl) TX.dict (by decide +kernel) (pa_cons (pv 0) pa_nil))) (Evl.pss_cut (ps_lock (ps_for PassesOwn.never rfl (pi_keys (pv 1)) (pg_name (i := 3) nd rfl (Or.inl rfl)) (pss_one (ps_dput hu1 (pv 2) (pv 3) (pe_op op_add (pe_dget2 hu1 (pv 2) (pv 3) pe_int ⟨rfl, rfl, rfl, rfl⟩) (pe_dget hu1 (pv 1) (pv 3) (fun _ _ => rfl))) (by rfl))))) (pss_one (ps_ret (pe_lock (pe_dc (own := [("key", 3)]) (g := (gName 3)) (tt := _) rfl nd (pi_keys (pv 2)) (blkOk_by (N := ["one", "other", "found", "key"]) (sc := defScope sAdd) (by decide +kernel)) (fun _ _ _ _ _ => (pg_name (i := 3) nd rfl (Or.inl rfl))) (fun _ _ _ _ _ => pts_one (pt_cmpR op_ne (pe_dget hu1 (pv 2) (pv 3) (fun _ _ => rfl)) pe_int (nomark _))) (fun _ _ _ _ _ => (pv 3)) (fun _ _ _ _ _ => (pe_dget hu1 (pv 2) (pv 3) (fun _ _ => rfl))))))))), ?_⟩
  refine body_run (n := 2) 2 (by rw [spT_len h hlen]; rfl) h (spT_len h hlen).symm fun fr ts K ⟨D, E, e, hD, hE, hl1, hl2, k⟩ => ?_
  subst e
  show WS fr [0, 1] [] [some (.dk true (nkT D)), some (.dk true (nkT E)), none, none] _ _
  refine ws_seq (ws_asg (we_dictD rfl rfl ?_))
  walk_at "wn"
  refine ws_cut (fun sl => ∃ (F : Fs) (x : Option T), (F.map (·.1)).Nodup ∧ F.length ≤ D.length + E.length ∧ (∀ a, vl F a = vl D a + vl E a) ∧ sl = [some (.dk true (nkT D)), some (.dk true (nkT E)), some (.dk true (nkT F)), x]) ?_ ?_
  · refine ws_forKeys rfl fun od ws => ?_
    walk_at "dv nm"
    rw [nkT_len]
    refine ⟨fun j sl => ∃ (F : Fs) (x : Option T), (F.map (·.1)).Nodup ∧ F.length ≤ D.length + j ∧ (∀ a, vl F a = vl D a + vl (E.take j) a) ∧ sl = [some (.dk true (nkT D)), some (.lk od ws (nkT E)), some (.dk true (nkT F)), x], ⟨D, none, hD, Nat.le_refl _, fun a => by show vl D a = vl D a + 0; omega, rfl⟩, ?_, ?_, ?_⟩
    · rintro j sl hj ⟨F, x, f1, f2, f3, rfl⟩
      obtain ⟨n1, n2, n3⟩ := fs_next hE hj
      rw [nk_key hj]
      walk_at "wn"
      refine ws_dput (we_op2 op2_I0 (wb_of (we_dget2 rfl rfl (we_var rfl rfl (we_int ⟨_, F, E[j].1, 0, rfl, rfl, rfl, rfl, ?_⟩)))))
      refine wb_of (we_dget ⟨_, rfl⟩ (we_var rfl rfl ⟨_, _, .inl (E[j].1 : Int), .int E[j].2, rfl, rfl, rfl, by rw [nk_val, n3]; rfl, rfl, ?_⟩))
      refine ⟨_, _, rfl, rfl, _, _, rfl, rfl, trivial, ⟨_, rfl⟩, we_var rfl rfl ⟨nkT F, .inl (E[j].1 : Int), rfl, rfl, rfl, nk_still F, by rw [nkT_len, sizeLine_eq]; omega, ?_⟩⟩
      rw [nk_put]
      have fl := putZ_len F E[j].1 ((F.lookup E[j].1).getD 0 + E[j].2)
      refine ⟨_, _, putZ_nd f1 _ _, by omega, fun a => ?_, rfl⟩
      have ea : vl (E.take (j + 1)) a = if a = E[j].1 then E[j].2 else vl (E.take j) a := by
        rw [n2, ← putZ_new n1, vl_put]
      rw [vl_put, ea]
      split
      · rename_i ee
        subst ee
        have := f3 E[j].1
        rw [vl_zero (ts := E.take j) fun p hp z => n1 (List.mem_map.mpr ⟨p, hp, z⟩)] at this
        rw [← vl_lookup]
        omega
      · exact f3 a
    · rintro j sl ⟨F, x, f1, f2, f3, rfl⟩
      rfl
    · rintro sl ⟨F, x, f1, f2, f3, rfl⟩
      rw [List.take_length] at f3
      exact ⟨F, x, f1, f2, f3, rfl⟩
  rintro sl ⟨F, x, f1, f2, f3, rfl⟩
  refine ws_ret (we_dcKeys (gown_name (by decide)) rfl (nk_still F) (fun j hj => (by revert hj; simp; omega)) fun od ws => ?_)
  walk_at "dv nm"
  rw [nkT_len]
  refine ⟨fun j acc sl => acc = nkT ((F.take j).filter fun p => decide (p.2 ≠ 0)) ∧ sl = [some (.dk true (nkT D)), some (.dk true (nkT E)), some (.lk od ws (nkT F)), none], ⟨rfl, rfl⟩, ?_, ?_, ?_⟩
  · rintro j acc sl ⟨_, rfl⟩
    rfl
  · rintro j acc sl hj ⟨rfl, rfl⟩
    obtain ⟨n1, n2, n3⟩ := fs_next f1 hj
    have fl := List.length_filter_le (fun p : Nat × Int => decide (p.2 ≠ 0)) (F.take j)
    rw [List.length_take] at fl
    rw [nk_key hj]
    refine ⟨by rw [nkT_len, sizeLine_eq]; omega, nk_still _, ?_⟩
    walk_at "wn"
    walk_at "dv"
    refine we_op2 op2_ne (wb_of (we_dget ⟨_, rfl⟩ (we_var rfl rfl ⟨_, _, .inl (F[j].1 : Int), .int F[j].2, rfl, rfl, rfl, by rw [nk_val, n3]; rfl, rfl, ?_⟩)))
    refine wb_of (we_int ⟨_, _, rfl, rfl, _, .int F[j].2 0, _, rfl, ?_⟩)
    rw [if_pos rfl]
    by_cases c : F[j].2 = 0
    · refine if_no (by rw [decide_eq_true c]; rfl) ?_
      refine ⟨?_, rfl⟩
      rw [n2, List.filter_append, List.filter_cons, if_neg (by simp [c]), List.filter_nil, List.append_nil]
    · refine if_yes (by rw [decide_eq_false c]; rfl) ?_
      walk_at "dv"
      refine we_dget ⟨_, rfl⟩ (we_var rfl rfl ⟨_, _, .inl (F[j].1 : Int), .int F[j].2, rfl, rfl, rfl, by rw [nk_val, n3]; rfl, rfl, ?_⟩)
      refine ⟨.inl (F[j].1 : Int), rfl, rfl, ?_, rfl⟩
      rw [nk_put, putZ_new (fun z => n1 (by
        obtain ⟨q, hq, e⟩ := List.mem_map.mp z
        exact List.mem_map.mpr ⟨q, (List.mem_filter.mp hq).1, e⟩)), n2, List.filter_append, List.filter_cons, if_pos (by simp [c]), List.filter_nil]
  · rintro acc sl ⟨rfl, rfl⟩
    rw [List.take_length]
    refine ⟨_, _, rfl, k _ (filter_nd f1 _) (fun p hp => of_decide_eq_true (List.mem_filter.mp hp).2) (fun a => by rw [vl_filter f1, f3]) ?_⟩
    exact Nat.le_trans (List.length_filter_le _ _) f2
theorem scLof : FnScope ["constant", "terms", "atom"] ["constant", "terms"] (defScope sLof) := ⟨rfl, rfl, rfl, by decide +kernel, rfl, by decide +kernel, by decide +kernel⟩
theorem ok_lof {f : Addr} {fd : FuncData} (F : Fun K "linear_of" "linear_of" sLof f fd) (TX : TxtS mg) : FnOk P w K mg base CX0 1 f fd ["constant", "terms"] (spT gLof) := by
  have hlen : ∀ ts K, gLof ts K → ts.length = 2 := fun ts K ⟨_, _, e, _⟩ => by rw [e]; rfl
  refine F.ok scLof (fun vs H Q E h => spT_len h hlen) (fun cdv A outer s H vs Q E hr h => ?_)
  have nd := scLof.nd
  have hu1 := hu_of hr
  refine ⟨_, (pss_one (ps_ret (pe_tup (pa_cons (pv 0) (pa_cons (pe_callTy (c_tupF (K := K) rfl) (by rfl) TX.tuple (by decide +kernel) (pa_cons (pe_callB cr_sortI (by rfl) TX.sorted (by decide +kernel) (pa_cons (pe_lock (pe_lc (own := [("atom", 2)]) (g := (gName 2)) (tt := _) rfl nd (pi_keys (pv 1)) (blkOk_by (N := ["constant", "terms", "atom"]) (sc := defScope sLof) (by decide +kernel)) (fun _ _ _ _ _ => (pg_name (i := 2) nd rfl (Or.inl rfl))) (fun _ _ _ _ _ => pts_one (pt_cmpR op_ne (pe_dget hu1 (pv 1) (pv 2) (fun _ _ => rfl)) pe_int (nomark _))) (fun _ _ _ _ _ => (pe_tup (pa_cons (pv 2) (pa_cons (pe_dget hu1 (pv 1) (pv 2) (fun _ _ => rfl)) pa_nil)))))) pa_nil)) pa_nil)) pa_nil))))), ?_⟩
  refine body_run (n := 2) 1 (by rw [spT_len h hlen]; rfl) h (spT_len h hlen).symm fun fr ts K ⟨c, D, e, hD, hz, hl, k⟩ => ?_
  subst e
  show WS fr [0, 1] [] [some (.int c), some (.dk true (nkT D)), none] _ _
  refine ws_ret (we_tup (wa_cons (we_var rfl rfl (wa_cons (we_tupleP (we_sortI (we_lcKeys (gown_name (by decide)) rfl (nk_still D) (fun j hj => (by revert hj; simp; omega)) fun od ws => ?_)))))))
  walk_at "dv nm"
  rw [nkT_len]
  refine ⟨fun j acc sl => acc = (D.take j).map prI ∧ sl = [some (.int c), some (.lk od ws (nkT D)), none], ⟨rfl, rfl⟩, ?_, ?_, ?_⟩
  · rintro j acc sl ⟨_, rfl⟩
    rfl
  · rintro j acc sl hj ⟨rfl, rfl⟩
    obtain ⟨n1, n2, n3⟩ := fs_next hD hj
    have hnz := hz D[j] (List.getElem_mem hj)
    rw [nk_key hj]
    refine ⟨by rw [List.length_map, List.length_take, sizeLine_eq]; omega, ?_⟩
    walk_at "wn"
    walk_at "dv"
    refine we_op2 op2_ne (wb_of (we_dget ⟨_, rfl⟩ (we_var rfl rfl ⟨_, _, .inl (D[j].1 : Int), .int D[j].2, rfl, rfl, rfl, by rw [nk_val, n3]; rfl, rfl, ?_⟩)))
    refine wb_of (we_int ⟨_, _, rfl, rfl, _, .int D[j].2 0, _, rfl, ?_⟩)
    refine if_yes (by rw [if_pos rfl, decide_eq_false hnz]; rfl) ?_
    walk_at "dv"
    refine we_dget ⟨_, rfl⟩ (we_var rfl rfl ⟨_, _, .inl (D[j].1 : Int), .int D[j].2, rfl, rfl, rfl, by rw [nk_val, n3]; rfl, rfl, ?_⟩)
    walk_at "dv"
    refine ⟨?_, rfl⟩
    rw [n2, List.map_append]
    rfl
  · rintro acc sl ⟨rfl, rfl⟩
    rw [List.take_length]
    refine ⟨_, D, rfl, fun qs pq sq => ⟨_, _, rfl, prIs_still qs, wa_nil ⟨Nat.le_of_ble_eq_true rfl, ?_⟩⟩⟩
    obtain ⟨nf, ev⟩ := nf_of (c := c) hD hz pq sq
    exact ⟨_, _, rfl, k ⟨c, qs⟩ nf rfl ev⟩
theorem scIss : FnScope ["op", "many"] ["op", "many"] (defScope sIss) := ⟨rfl, rfl, rfl, by decide +kernel, rfl, by decide +kernel, by decide +kernel⟩
theorem ok_iss {f : Addr} {fd : FuncData} (F : Fun K "is_sum" "is_sum" sIss f fd) (TX : TxtS mg) : FnOk P w K mg base CX0 1 f fd ["op", "many"] (spT gIss) := by
  have hlen : ∀ ts K, gIss ts K → ts.length = 2 := fun ts K ⟨_, _, e, _⟩ => by rw [e]; rfl
  refine F.ok scIss (fun vs H Q E h => spT_len h hlen) (fun cdv A outer s H vs Q E hr h => ?_)
  have nd := scIss.nd
  have hu1 := hu_of hr
  refine ⟨_, (Evl.pss_cut (ps_if (pt_cmpR op_in_seq (pv 0) (pe_tup (pa_cons pe_str (pa_cons pe_str pa_nil))) rfl) (pss_one (ps_ret (pe_cmpR op_eq (pv 1) pe_int (nomark _)))) pss_nil) (pss_one (ps_ret (pe_ifExp (pt_cmpR op_eq (pv 0) pe_str (nomark _)) (pe_cmpR op_eq (pv 1) pe_int (nomark _)) (pe_and (pe_m0 PySem.F.slot_str_isdigit PySem.F.type_str_isdigit mt_isdigit (pv 0)) (pe_one (pe_cmpR op_eq (pv 1) pe_int (nomark _)))))))), ?_⟩
  refine body_run (n := 2) 0 (by rw [spT_len h hlen]; rfl) h (spT_len h hlen).symm fun fr ts K ⟨o, n, e, k⟩ => ?_
  subst e
  show WS fr [0, 1] [] [some (.str o), some (.int (n : Int))] _ _
  have num : ∀ m : Nat, decide ((n : Int) = (m : Int)) = (n == m) := fun m => by
    by_cases c : n = m
    · rw [c, decide_eq_true rfl, beq_self_eq_true]
    · rw [decide_eq_false (by omega), beq_eq_false_iff_ne.mpr c]
  unfold isReal at k
  refine ws_cut (fun sl => o ∉ [addS, subS] ∧ sl = [some (.str o), some (.int (n : Int))]) ?_ ?_
  · walk_at "dv"
    refine we_op2 op2_in (wb_var ⟨_, rfl⟩ (wb_of (we_tup (wa_cons (we_str (wa_cons (we_str (wa_nil ⟨Nat.le_of_ble_eq_true rfl, ?_⟩))))))))
    refine ⟨_, _, rfl, rfl, .str o, _, [.str addS, .str subS], rfl, rfl, rfl, ?_⟩
    rw [if_neg Bool.false_ne_true, inV_two]
    refine ⟨_, rfl, ?_⟩
    by_cases c : o ∈ [addS, subS]
    · rw [if_pos c] at k
      refine if_yes (decide_eq_true c) ?_
      walk_at "dv"
      refine we_op2 op2_eq (wb_var ⟨_, rfl⟩ (wb_of (we_int ⟨_, _, rfl, rfl, _, .int (n : Int) ((2 : Nat) : Int), ?_⟩)))
      rw [if_neg Bool.false_ne_true, num 2]
      exact ⟨_, _, rfl, k⟩
    · refine if_no (decide_eq_false c) ?_
      walk_at "dv"
      exact ⟨c, rfl⟩
  rintro sl ⟨c, rfl⟩
  rw [if_neg c] at k
  walk_at "dv"
  refine we_op2 op2_eq (wb_var ⟨_, rfl⟩ (wb_of (we_str ⟨_, _, rfl, rfl, _, .str o negS, _, rfl, ?_⟩)))
  rw [if_neg Bool.false_ne_true]
  by_cases c2 : o = negS
  · rw [if_pos c2] at k
    refine if_yes (decide_eq_true c2) ?_
    refine we_op2 op2_eq (wb_var ⟨_, rfl⟩ (wb_of (we_int ⟨_, _, rfl, rfl, _, .int (n : Int) ((1 : Nat) : Int), ?_⟩)))
    rw [if_neg Bool.false_ne_true, num 1]
    exact ⟨_, _, rfl, k⟩
  · rw [if_neg c2] at k
    refine if_no (decide_eq_false c2) ?_
    refine we_andV (we_digit (we_var rfl rfl ⟨o, rfl, _, rfl, ?_⟩))
    cases hd : Txt.isdigit o with
    | true =>
      rw [hd] at k
      rw [if_pos rfl]
      refine we_op2 op2_eq (wb_var ⟨_, rfl⟩ (wb_of (we_int ⟨_, _, rfl, rfl, _, .int (n : Int) ((0 : Nat) : Int), ?_⟩)))
      rw [if_neg Bool.false_ne_true, num 0]
      exact ⟨_, _, rfl, k⟩
    | false =>
      rw [hd] at k
      rw [if_neg Bool.false_ne_true]
      exact ⟨_, _, rfl, k⟩
theorem linT_at {ls : List Ln} {j : Nat} (hj : j < ls.length) : atI (ls.map linT) (j : Int) = some (linT ls[j]) := atI_nat (by rw [List.getElem?_map, List.getElem?_eq_getElem hj]; rfl)
theorem nf_keys {l : Ln} (h : l.Nf) : (l.ts.map (·.1)).Nodup := by
  have := h.asc
  exact List.Pairwise.map _ (fun a b hab z => by rw [z] at hab; exact Nat.lt_irrefl _ hab) this
theorem scSul : FnScope ["op", "parts", "one", "sign", "other"] ["op", "parts"] (defScope sSul) := ⟨rfl, rfl, rfl, by decide +kernel, rfl, by decide +kernel, by decide +kernel⟩
theorem ok_sul {f fSc fAd fLo : Addr} {fd fdSc fdAd fdLo : FuncData} (F : Fun K "sum_linear" "sum_linear" sSul f fd) (TX : TxtS mg)
    (GSc : FnOk P w K mg base CX0 1 fSc fdSc ["one", "factor"] (spT gSca)) (mSc : mg "scaled" = some (.ref fSc)) (kSc : PySem.W.keepIn K (.ref fSc) = true) (bSc : Binds K fdSc ["one", "factor"] [])
    (GAd : FnOk P w K mg base CX0 1 fAd fdAd ["one", "other"] (spT gAdd)) (mAd : mg "added" = some (.ref fAd)) (kAd : PySem.W.keepIn K (.ref fAd) = true) (bAd : Binds K fdAd ["one", "other"] [])
    (GLo : FnOk P w K mg base CX0 1 fLo fdLo ["constant", "terms"] (spT gLof)) (mLo : mg "linear_of" = some (.ref fLo)) (kLo : PySem.W.keepIn K (.ref fLo) = true) (bLo : Binds K fdLo ["constant", "terms"] []) :
    FnOk P w K mg base CX0 2 f fd ["op", "parts"] (spT gSul) := by
  have hlen : ∀ ts K, gSul ts K → ts.length = 2 := fun ts K ⟨_, _, _, e, _⟩ => by rw [e]; rfl
  refine F.ok scSul (fun vs H Q E h => spT_len h hlen) (fun cdv A outer s H vs Q E hr h => ?_)
  have nd := scSul.nd
  have hu1 := hu_of hr
  refine ⟨_, (Evl.pss_cut (ps_if (pt_cmpR op_eq (pe_callB (c_lenK (K := K) rfl) (by rfl) TX.len PySem.boot_len (pa_cons (pv 1) pa_nil)) pe_int (nomark _)) (pss_one (ps_ret (pe_tup (pa_cons (pe_callTy call_int_str (by rfl) TX.int (by decide +kernel) (pa_cons (pv 0) pa_nil)) (pa_cons (pe_tupF pa_nil) pa_nil))))) pss_nil) (pss_cons (ps_set (i := 2) nd rfl (Or.inl rfl) (pe_ix ix_tup (pv 1) pe_int (fun _ _ => rfl))) (Evl.pss_cut (ps_if (pt_cmpR op_eq (pv 0) pe_str (nomark _)) (pss_one (ps_ret (pe_call (E := E0) GLo (hr.mono (by decide)) rfl mLo kLo bLo .nil pass0 (pa_cons (pe_un un_neg (pe_ix ix_tup (pv 2) pe_int (fun _ _ => rfl))) (pa_cons (pe_call (E := E0) GSc (hr.mono (by decide)) rfl mSc kSc bSc .nil pass0 (pa_cons (pe_callTy (c_dictTK (K := K) rfl) (by rfl) TX.dict (by decide +kernel) (pa_cons (pe_ix ix_tup (pv 2) pe_int (fun _ _ => rfl)) pa_nil)) (pa_cons (pe_un un_neg pe_int) pa_nil))) pa_nil))))) pss_nil) (pss_cons (ps_set (i := 3) nd rfl (Or.inl rfl) (pe_ifExp (pt_cmpR op_eq (pv 0) pe_str (nomark _)) pe_int (pe_un un_neg pe_int))) (pss_cons (ps_set (i := 4) nd rfl (Or.inl rfl) (pe_ix ix_tup (pv 1) pe_int (fun _ _ => rfl))) (pss_one (ps_ret (pe_call (E := E0) GLo (hr.mono (by decide)) rfl mLo kLo bLo .nil pass0 (pa_cons (pe_op op_add (pe_ix ix_tup (pv 2) pe_int (fun _ _ => rfl)) (pe_op op_mul (pv 3) (pe_ix ix_tup (pv 4) pe_int (fun _ _ => rfl)))) (pa_cons (pe_call (E := E0) GAd (hr.mono (by decide)) rfl mAd kAd bAd .nil pass0 (pa_cons (pe_callTy (c_dictTK (K := K) rfl) (by rfl) TX.dict (by decide +kernel) (pa_cons (pe_ix ix_tup (pv 2) pe_int (fun _ _ => rfl)) pa_nil)) (pa_cons (pe_call (E := E0) GSc (hr.mono (by decide)) rfl mSc kSc bSc .nil pass0 (pa_cons (pe_callTy (c_dictTK (K := K) rfl) (by rfl) TX.dict (by decide +kernel) (pa_cons (pe_ix ix_tup (pv 4) pe_int (fun _ _ => rfl)) pa_nil)) (pa_cons (pv 3) pa_nil))) pa_nil))) pa_nil)))))))))), ?_⟩
  refine body_run (n := 2) 3 (by rw [spT_len h hlen]; rfl) h (spT_len h hlen).symm fun fr ts K ⟨o, ls, l, e, ho, hls, hl, k⟩ => ?_
  subst e
  have snf : l.Nf := sumL_nf (fun x hx => (hls x hx).1) hl
  have sls := linTs_still ls
  have stl : (T.tup (ls.map linT)).still = true := by unfold T.still; exact sls
  show WS fr [0, 1] [] [some (.str o), some (.tup (ls.map linT)), none, none, none] _ _
  have part : ∀ {x : Ln}, x ∈ ls → (linT x).still = true ∧ (T.ptp (x.ts.map prI)).still = true ∧ (x.ts.map (·.1)).Nodup ∧ x.ts.length ≤ 10000 := fun {x} hx => ⟨linT_still x, by unfold T.still; exact prIs_still _, nf_keys (hls x hx).1, (hls x hx).2⟩
  refine ws_cut (fun sl => ls ≠ [] ∧ sl = [some (.str o), some (.tup (ls.map linT)), none, none, none]) ?_ ?_
  · walk_at "dv"
    refine we_op2 op2_eq (wb_of (we_len (wb_var ⟨_, rfl⟩ ⟨_, _, rfl, rfl, ?_⟩)))
    rw [List.length_map]
    refine wb_of (we_int ⟨_, _, rfl, rfl, _, .int (ls.length : Int) 0, _, rfl, ?_⟩)
    rw [if_neg Bool.false_ne_true]
    by_cases c : ls = []
    · subst c
      refine if_yes rfl ?_
      rw [sumL_nil] at hl
      split at hl
      · obtain ⟨n, hn, rfl⟩ := Option.map_eq_some_iff.mp hl
        walk_at "dv"
        refine we_intS (we_var rfl rfl ⟨o, n, rfl, hn, ho, ?_⟩)
        refine wa_cons (we_tupF (wa_nil ⟨Nat.zero_le _, ?_⟩))
        refine wa_nil ⟨Nat.le_of_ble_eq_true rfl, ?_⟩
        exact ⟨_, _, rfl, k⟩
      · cases hl
    · refine if_no (decide_eq_false fun z => c (List.length_eq_zero_iff.mp (by omega))) ?_
      walk_at "dv"
      exact ⟨c, rfl⟩
  rintro sl ⟨c, rfl⟩
  have pos : 0 < ls.length := List.length_pos_iff.mpr c
  obtain ⟨a, ea⟩ : ∃ a, ls[0] = a := ⟨_, rfl⟩
  have hal : a ∈ ls := by rw [← ea]; exact List.getElem_mem _
  obtain ⟨a1, a2, a3, a4⟩ := part hal
  refine ws_seq (ws_asg (we_ixT (wb_var ⟨_, rfl⟩ (we_int ⟨_, (0 : Int), linT ls[0], rfl, rfl, linT_at (j := 0) pos, linT_still _, ?_⟩))))
  rw [ea]
  walk_at "wn"
  have ea2 : ls[0]? = some a := by rw [List.getElem?_eq_getElem pos, ea]
  refine ws_cut (fun sl => o ≠ negS ∧ sl = [some (.str o), some (.tup (ls.map linT)), some (linT a), none, none]) ?_ ?_
  · walk_at "dv"
    refine we_op2 op2_eq (wb_var ⟨_, rfl⟩ (wb_of (we_str ⟨_, _, rfl, rfl, _, .str o negS, _, rfl, ?_⟩)))
    rw [if_neg Bool.false_ne_true]
    by_cases c2 : o = negS
    · refine if_yes (decide_eq_true c2) ?_
      have e1 : ls = [a] ∧ l = plusL ⟨0, []⟩ a (-1) := by
        match ls, ea2, hl, c with
        | [x], ea, hl, _ =>
          cases ea
          rw [sumL_one, if_pos c2] at hl
          cases hl
          exact ⟨rfl, rfl⟩
        | [x, y], _, hl, _ =>
          rw [sumL_two, c2, if_neg (by decide +kernel), if_neg (by decide +kernel)] at hl
          cases hl
        | _ :: _ :: _ :: _, _, hl, _ => cases hl
      obtain ⟨_, rfl⟩ := e1
      refine ws_ret (we_call mono_lof (wo_cons (wb_of (we_neg (we_ixT (wb_var ⟨_, rfl⟩ (we_int ⟨_, (0 : Int), .int a.c, rfl, rfl, rfl, rfl, a.c, rfl, ?_⟩)))))))
      refine wo_cons (wb_of (we_call mono_sca (wo_cons (wb_of (we_dictPtp (we_ixT (wb_var ⟨_, rfl⟩ (we_int ⟨_, (1 : Int), .ptp (a.ts.map prI), rfl, rfl, rfl, a2, a.ts, rfl, a3, ?_⟩))))))))
      refine wo_cons (wb_of (we_neg (we_int ⟨1, rfl, wo_nil ⟨_, _, rfl, a.ts, -1, rfl, a3, .inr rfl, a4, _, rfl, ?_⟩⟩)))
      refine wo_nil ⟨_, _, rfl, -a.c, _, rfl, by rw [List.map_map]; exact a3, fun p hp => ?_, by rw [List.length_map]; omega, fun l' nf' hc' hv' => ⟨_, rfl, ?_⟩⟩
      · obtain ⟨q, hq, rfl⟩ := List.mem_map.mp hp
        have := (hls a hal).1.nz q hq
        show q.2 * -1 ≠ 0
        omega
      · have : l' = plusL ⟨0, []⟩ a (-1) := Ln.ext' nf' snf fun x => by
          rw [plusL_val zero_nf (hls a hal).1]
          cases x with
          | none => show l'.c = 0 + -1 * a.c; rw [hc']; omega
          | some x =>
            show vl l'.ts x = 0 + -1 * vl a.ts x
            rw [hv', vl_scale]
            omega
        subst this
        exact ⟨_, _, rfl, k⟩
    · refine if_no (decide_eq_false c2) ?_
      walk_at "dv"
      exact ⟨c2, rfl⟩
  rintro sl ⟨c2, rfl⟩
  obtain ⟨b, m, hm, els, hlm, hmo⟩ : ∃ (b : Ln) (m : Int), (m = 1 ∨ m = -1) ∧ ls = [a, b] ∧ l = plusL a b m ∧ (m = if o = addS then 1 else -1) := by
    match ls, ea2, hl, c with
    | [x], _, hl, _ =>
      rw [sumL_one, if_neg c2] at hl
      cases hl
    | [x, y], ea, hl, _ =>
      cases ea
      rw [sumL_two] at hl
      split at hl
      · rename_i q
        cases hl
        exact ⟨y, 1, .inl rfl, rfl, rfl, by rw [if_pos q]⟩
      · rename_i q
        split at hl
        · cases hl
          exact ⟨y, -1, .inr rfl, rfl, rfl, by rw [if_neg q]⟩
        · cases hl
    | _ :: _ :: _ :: _, _, hl, _ => cases hl
  have hbl : b ∈ ls := by rw [els]; simp
  obtain ⟨b1, b2, b3, b4⟩ := part hbl
  have hb1 : atI (ls.map linT) (1 : Int) = some (linT b) := by rw [els]; rfl
  refine ws_seqM (fun sl => sl = [some (.str o), some (.tup (ls.map linT)), some (linT a), some (.int m), none]) ?_ ?_
  · walk_at "dv"
    refine we_op2 op2_eq (wb_var ⟨_, rfl⟩ (wb_of (we_str ⟨_, _, rfl, rfl, _, .str o addS, _, rfl, ?_⟩)))
    rw [if_neg Bool.false_ne_true]
    by_cases c3 : o = addS
    · rw [if_pos c3] at hmo
      refine if_yes (decide_eq_true c3) ?_
      walk_at "dv"
      rw [hmo]
    · rw [if_neg c3] at hmo
      refine if_no (decide_eq_false c3) ?_
      refine we_neg (we_int ⟨1, rfl, ?_⟩)
      walk_at "wn"
      rw [hmo]
  rintro sl rfl
  refine ws_seq (ws_asg (we_ixT (wb_var ⟨_, rfl⟩ (we_int ⟨_, (1 : Int), linT b, rfl, rfl, hb1, b1, ?_⟩))))
  walk_at "wn"
  refine ws_ret (we_call mono_lof (wo_cons (wb_of (we_op2 op2_I0 (wb_of (we_ixT (wb_var ⟨_, rfl⟩ (we_int ⟨_, (0 : Int), .int a.c, rfl, rfl, rfl, rfl, ?_⟩))))))))
  refine wb_of (we_op2 op2_I (wb_var ⟨_, rfl⟩ (wb_of (we_ixT (wb_var ⟨_, rfl⟩ (we_int ⟨_, (0 : Int), .int b.c, rfl, rfl, rfl, rfl, ?_⟩))))))
  refine ⟨_, _, rfl, rfl, m, b.c, rfl, rfl, .inl (by rcases hm with rfl | rfl <;> decide), _, _, rfl, rfl, a.c, m * b.c, rfl, rfl, trivial, ?_⟩
  refine wo_cons (wb_of (we_call mono_add (wo_cons (wb_of (we_dictPtp (we_ixT (wb_var ⟨_, rfl⟩ (we_int ⟨_, (1 : Int), .ptp (a.ts.map prI), rfl, rfl, rfl, a2, a.ts, rfl, a3, ?_⟩))))))))
  refine wo_cons (wb_of (we_call mono_sca (wo_cons (wb_of (we_dictPtp (we_ixT (wb_var ⟨_, rfl⟩ (we_int ⟨_, (1 : Int), .ptp (b.ts.map prI), rfl, rfl, rfl, b2, b.ts, rfl, b3, ?_⟩))))))))
  refine wo_cons (wb_var ⟨_, rfl⟩ (wo_nil ⟨_, _, rfl, b.ts, m, rfl, b3, hm, b4, _, rfl, ?_⟩))
  refine wo_nil ⟨_, _, rfl, a.ts, _, rfl, a3, by rw [List.map_map]; exact b3, a4, by rw [List.length_map]; exact b4, fun D' d1 d2 d3 d4 => ⟨_, rfl, ?_⟩⟩
  rw [List.length_map] at d4
  refine wo_nil ⟨_, _, rfl, a.c + m * b.c, D', rfl, d1, d2, by omega, fun l' nf' hc' hv' => ⟨_, rfl, ?_⟩⟩
  have : l' = l := Ln.ext' nf' snf fun x => by
    rw [hlm, plusL_val (hls a hal).1 (hls b hbl).1]
    cases x with
    | none => exact hc'
    | some x =>
      show vl l'.ts x = vl a.ts x + m * vl b.ts x
      rw [hv', d3, vl_scale, Int.mul_comm]
  subst this
  exact ⟨_, _, rfl, k⟩
end
end Rs
set_option maxHeartbeats 8000000
namespace Rs
open PySem L2 PySem.Spec PyProof.Rows
local macro_rules | `(tactic| walk_at "dv nm") => `(tactic| dsimp only [List.set_cons_succ, List.set_cons_zero, hideT])
local macro_rules | `(tactic| walk_at "dv st") => `(tactic| first | rfl | exact kT_still _ | assumption)
local macro_rules | `(tactic| walk_at "dv 1") => `(tactic| first | (with_reducible (first | refine ws_seq ?_ | refine ws_asg ?_ | refine ws_ret ?_ | refine ws_drop ?_ | refine ws_if ?_ | refine ws_next ?_ | refine we_int ?_ | refine we_str ?_ | refine we_bl ?_ | refine we_non ?_ | refine we_tup ?_ | refine we_lst ?_ | refine wa_cons ?_ | refine wa_nil ?_ | refine wo_cons ?_ | refine wo_nil ?_ | refine wt_test ?_ | refine wt_B ?_ | refine wt_not ?_ | refine wt_and ?_ | refine wt_or ?_ | refine we_if ?_ | refine we_notV ?_ | refine we_andV ?_ | refine we_orV ?_ | refine we_dnew ?_ | refine wb_var ⟨_, rfl⟩ ?_)) | ((with_reducible refine' wg_name ?h1 ?h2 ?_); (case h1 => exact Nat.le_of_ble_eq_true rfl); (case h2 => decide); (walk_at "dv nm")) | ((with_reducible refine' we_var ?h ?s ?_); (case' h => rfl); (case s => walk_at "dv st")) | ((with_reducible refine' size_and ?sz ?_); (case sz => rw [sizeLine_eq]; exact Nat.le_of_ble_eq_true rfl)) | (with_reducible refine wb_of ?_))
local macro_rules | `(tactic| walk_at "dv") => `(tactic| repeat (walk_at "dv 1"))
local macro_rules | `(tactic| walk_at "wn") => `(tactic| ((refine wg_name (Nat.le_of_ble_eq_true rfl) (by decide) ?_); (walk_at "dv nm")))
def ldv (d : Ld) (k : Leaf) : Int := (lkD d k).getD 0
theorem lkD_cons (p : Leaf × Int) (r : Ld) (k : Leaf) : lkD (p :: r) k = if p.1 = k then some p.2 else lkD r k := by
  unfold lkD
  rw [List.find?_cons]
  by_cases e : p.1 = k
  · rw [decide_eq_true e, if_pos e]
    rfl
  · rw [decide_eq_false e, if_neg e]
theorem ldv_cons (p : Leaf × Int) (r : Ld) (k : Leaf) : ldv (p :: r) k = if p.1 = k then p.2 else ldv r k := by
  unfold ldv
  rw [lkD_cons]
  split <;> rfl
theorem lkD_no {d : Ld} {k : Leaf} (h : k ∉ d.map (·.1)) : lkD d k = none := by
  induction d with
  | nil => rfl
  | cons p r ih =>
    rw [List.map_cons, List.mem_cons, not_or] at h
    rw [lkD_cons, if_neg (fun z => h.1 z.symm)]
    exact ih h.2
theorem ldv_no {d : Ld} {k : Leaf} (h : k ∉ d.map (·.1)) : ldv d k = 0 := by unfold ldv; rw [lkD_no h]; rfl
theorem lkD_mem {d : Ld} (h : (d.map (·.1)).Nodup) {p : Leaf × Int} (hp : p ∈ d) : lkD d p.1 = some p.2 := by
  induction d with
  | nil => cases hp
  | cons x r ih =>
    rw [List.map_cons, List.nodup_cons] at h
    rw [lkD_cons]
    rcases List.mem_cons.mp hp with rfl | hp
    · rw [if_pos rfl]
    · rw [if_neg (fun z => h.1 (by rw [z]; exact List.mem_map.mpr ⟨p, hp, rfl⟩))]
      exact ih h.2 hp
theorem anyD {d : Ld} {k : Leaf} : (d.any fun p => decide (p.1 = k)) = true ↔ k ∈ d.map (·.1) := by
  rw [List.any_eq_true, List.mem_map]
  exact ⟨fun ⟨p, hp, e⟩ => ⟨p, hp, of_decide_eq_true e⟩, fun ⟨p, hp, e⟩ => ⟨p, hp, decide_eq_true e⟩⟩
theorem putD_keys (d : Ld) (k : Leaf) (x : Int) : (putD d k x).map (·.1) = if k ∈ d.map (·.1) then d.map (·.1) else d.map (·.1) ++ [k] := by
  unfold putD
  by_cases h : k ∈ d.map (·.1)
  · rw [if_pos (anyD.mpr h), if_pos h, List.map_map]
    refine List.map_congr_left fun p _ => ?_
    show (if p.1 = k then (p.1, x) else p).1 = p.1
    split <;> rfl
  · rw [if_neg (fun z => h (anyD.mp z)), if_neg h, List.map_append]
    rfl
theorem putD_nd {d : Ld} (h : (d.map (·.1)).Nodup) (k : Leaf) (x : Int) : ((putD d k x).map (·.1)).Nodup := by
  rw [putD_keys]
  split
  · exact h
  · rename_i hn
    exact List.nodup_append.mpr ⟨h, by simp, fun a ha b hb e => by rw [List.mem_singleton] at hb; rw [e, hb] at ha; exact hn ha⟩
theorem putD_len (d : Ld) (k : Leaf) (x : Int) : (putD d k x).length ≤ d.length + 1 := by
  have := congrArg List.length (putD_keys d k x)
  rw [List.length_map] at this
  rw [this]
  split <;> simp
theorem putD_mem {d : Ld} {k : Leaf} {x : Int} {q : Leaf} (h : q ∈ (putD d k x).map (·.1)) : q = k ∨ q ∈ d.map (·.1) := by
  rw [putD_keys] at h
  split at h
  · exact .inr h
  · rcases List.mem_append.mp h with h | h
    · exact .inr h
    · exact .inl (List.mem_singleton.mp h)
theorem ldv_map (d : Ld) (k : Leaf) (x : Int) (h : k ∈ d.map (·.1)) (q : Leaf) : ldv (d.map fun p => if p.1 = k then (p.1, x) else p) q = if q = k then x else ldv d q := by
  induction d with
  | nil => cases h
  | cons p r ih =>
    rw [List.map_cons, ldv_cons, ldv_cons]
    by_cases e : p.1 = k
    · rw [if_pos e]
      show (if p.1 = q then x else _) = _
      by_cases eq : p.1 = q
      · rw [if_pos eq, if_pos (eq.symm.trans e)]
      · rw [if_neg eq, if_neg eq, if_neg (fun z => eq (e.trans z.symm))]
        by_cases hr : k ∈ r.map (·.1)
        · have := ih hr
          rw [if_neg (fun z => eq (e.trans z.symm))] at this
          exact this
        · have : r.map (fun p => if p.1 = k then (p.1, x) else p) = r.map id := List.map_congr_left fun y hy => by
            rw [if_neg (fun z => hr (List.mem_map.mpr ⟨y, hy, z⟩))]
            rfl
          rw [this, List.map_id]
    · rw [if_neg e]
      have hr : k ∈ r.map (·.1) := by
        rw [List.map_cons] at h
        exact (List.mem_cons.mp h).resolve_left fun z => e z.symm
      rw [ih hr]
      by_cases eq : p.1 = q
      · rw [if_pos eq, if_pos eq, if_neg (fun z => e (eq.trans z))]
      · rw [if_neg eq, if_neg eq]
theorem ldv_snoc {d : Ld} {k : Leaf} (h : k ∉ d.map (·.1)) (x : Int) (q : Leaf) : ldv (d ++ [(k, x)]) q = if q = k then x else ldv d q := by
  induction d with
  | nil =>
    rw [List.nil_append, ldv_cons]
    by_cases e : k = q
    · rw [if_pos e, if_pos e.symm]
    · rw [if_neg e, if_neg (fun z => e z.symm)]
  | cons p r ih =>
    rw [List.map_cons, List.mem_cons, not_or] at h
    rw [List.cons_append, ldv_cons, ldv_cons, ih h.2]
    by_cases e : p.1 = q
    · rw [if_pos e, if_pos e, if_neg (fun z => h.1 (z.symm.trans e.symm))]
    · rw [if_neg e, if_neg e]
theorem ldv_put (d : Ld) (k : Leaf) (x : Int) (q : Leaf) : ldv (putD d k x) q = if q = k then x else ldv d q := by
  unfold putD
  by_cases h : k ∈ d.map (·.1)
  · rw [if_pos (anyD.mpr h)]
    exact ldv_map d k x h q
  · rw [if_neg (fun z => h (anyD.mp z))]
    exact ldv_snoc h x q
theorem ldv_filter {d : Ld} (h : (d.map (·.1)).Nodup) (k : Leaf) : ldv (d.filter fun p => decide (p.2 ≠ 0)) k = ldv d k := by
  induction d with
  | nil => rfl
  | cons p r ih =>
    rw [List.map_cons, List.nodup_cons] at h
    rw [List.filter_cons, ldv_cons]
    by_cases c : p.2 = 0
    · rw [if_neg (by simp [c]), ih h.2]
      split
      · rename_i e
        rw [c, ← e]
        exact ldv_no h.1
      · rfl
    · rw [if_pos (by simp [c]), ldv_cons, ih h.2]
theorem ld_next {d : Ld} (h : (d.map (·.1)).Nodup) {j : Nat} (hj : j < d.length) : d[j].1 ∉ (d.take j).map (·.1) ∧ d.take (j + 1) = d.take j ++ [d[j]] ∧ lkD d d[j].1 = some d[j].2 ∧ (d.map (·.1)).getD j .none = d[j].1 := by
  have hkj : d[j]? = some d[j] := List.getElem?_eq_getElem hj
  refine ⟨fun z => ?_, by rw [List.take_succ, hkj]; rfl, lkD_mem h (List.getElem_mem hj), by rw [List.getD_eq_getElem?_getD, List.getElem?_map, hkj]; rfl⟩
  have h := h
  rw [← List.take_append_drop j d, List.drop_eq_getElem_cons hj, List.map_append, List.map_cons] at h
  exact (List.nodup_append.mp h).2.2 _ z _ List.mem_cons_self rfl
def lfO : Option Nat → Leaf
  | none => .none
  | some n => .num (n : Int)
structure LdOk (d : Ld) (l : Ln) : Prop where
  nd : (d.map (·.1)).Nodup
  nz : ∀ p ∈ d, p.2 ≠ 0
  leaf : ∀ k ∈ d.map (·.1), ∃ x, k = lfO x
  val : ∀ x, ldv d (lfO x) = l.val x
  nf : l.Nf
def numF (d : Ld) : Fs := d.filterMap fun p => match p.1 with
  | .num i => some (i.toNat, p.2)
  | _ => none
theorem numF_none (p : Int) (r : Ld) : numF ((.none, p) :: r) = numF r := rfl
theorem numF_num (n : Nat) (p : Int) (r : Ld) : numF ((.num (n : Int), p) :: r) = (n, p) :: numF r := by
  unfold numF
  rw [List.filterMap_cons]
  show (Int.toNat (n : Int), p) :: _ = _
  rw [Int.toNat_natCast]
theorem numF_app (a b : Ld) : numF (a ++ b) = numF a ++ numF b := by unfold numF; rw [List.filterMap_append]
theorem numF_ok : ∀ {d : Ld}, (d.map (·.1)).Nodup → (∀ k ∈ d.map (·.1), ∃ x, k = lfO x) → ((numF d).map (·.1)).Nodup ∧ (∀ n : Nat, n ∈ (numF d).map (·.1) → Leaf.num (n : Int) ∈ d.map (·.1)) ∧ (∀ p ∈ numF d, ∃ q ∈ d, q.2 = p.2) ∧ ∀ n, vl (numF d) n = ldv d (.num (n : Int))
  | [], _, _ => ⟨List.nodup_nil, fun n h => (nomatch h), fun p h => (nomatch h), fun n => rfl⟩
  | p :: r, hn, hl => by
    rw [List.map_cons, List.nodup_cons] at hn
    obtain ⟨a1, a2, a3, a4⟩ := numF_ok hn.2 fun k hk => hl k (List.mem_cons_of_mem _ hk)
    obtain ⟨x, ex⟩ := hl p.1 List.mem_cons_self
    obtain ⟨k, y⟩ := p
    have ex : k = lfO x := ex
    subst ex
    cases x with
    | none =>
      show ((numF ((.none, y) :: r)).map (·.1)).Nodup ∧ _
      rw [show lfO none = Leaf.none from rfl, numF_none]
      refine ⟨a1, fun n h => List.mem_cons_of_mem _ (a2 n h), fun p h => ?_, fun n => ?_⟩
      · obtain ⟨q, hq, e⟩ := a3 p h
        exact ⟨q, List.mem_cons_of_mem _ hq, e⟩
      · rw [a4, ldv_cons, if_neg (fun z => by cases z)]
    | some m =>
      rw [show lfO (some m) = Leaf.num (m : Int) from rfl, numF_num]
      have hm : Leaf.num (m : Int) ∉ r.map (·.1) := hn.1
      refine ⟨?_, fun n h => ?_, fun p h => ?_, fun n => ?_⟩
      · rw [List.map_cons, List.nodup_cons]
        exact ⟨fun z => hm (a2 m z), a1⟩
      · rw [List.map_cons] at h ⊢
        rcases List.mem_cons.mp h with rfl | h
        · exact List.mem_cons_self
        · exact List.mem_cons_of_mem _ (a2 n h)
      · rcases List.mem_cons.mp h with rfl | h
        · exact ⟨_, List.mem_cons_self, rfl⟩
        · obtain ⟨q, hq, e⟩ := a3 p h
          exact ⟨q, List.mem_cons_of_mem _ hq, e⟩
      · rw [vl_cons, ldv_cons, a4]
        by_cases e : n = m
        · rw [if_pos e, if_pos (by rw [e])]
        · rw [if_neg e, if_neg (fun z => e (by injection z with z; omega))]
theorem LdOk.plus {a b D : Ld} {l1 l2 : Ln} {m : Int} (h1 : LdOk a l1) (h2 : LdOk b l2) (nd : (D.map (·.1)).Nodup) (lf : ∀ k ∈ D.map (·.1), ∃ x, k = lfO x) (hv : ∀ k, ldv D k = ldv a k + m * ldv b k) : LdOk (D.filter fun p => decide (p.2 ≠ 0)) (plusL l1 l2 m) :=
  ⟨nd.sublist (List.Sublist.map _ List.filter_sublist), fun p hp => of_decide_eq_true (List.mem_filter.mp hp).2, fun k hk => lf k ((List.Sublist.map _ List.filter_sublist).subset hk),
    fun x => by rw [ldv_filter nd, hv, h1.val, h2.val, plusL_val h1.nf h2.nf], plusL_nf h1.nf h2.nf m⟩
abbrev sLpl : Stmt := top 26
abbrev sLtl : Stmt := top 28
structure TxtQ1 (mg : Str → Option Value) : Prop where
  dict : mg "dict" = none
  tuple : mg "tuple" = none
  sorted : mg "sorted" = none
def gPl (P : Program) (w : World) (ts : List T) (K : T → List T → Prop) : Prop := ∃ (o1 o2 : Obj) (a b : Ld) (l1 l2 : Ln) (m : Int), ts = [ldT P w false o1 a, ldT P w false o2 b, .int m] ∧ LdOk a l1 ∧ LdOk b l2 ∧ (m = 1 ∨ m = -1) ∧ a.length ≤ 10000 ∧ b.length ≤ 10000 ∧
  ∀ o d, LdOk d (plusL l1 l2 m) → K (ldT P w true o d) ts
theorem mono_pl {P : Program} {w : World} : Mono (gPl P w) := fun ts K K' h ⟨o1, o2, a, b, l1, l2, m, e, e0, e1, e2, e3, e4, k⟩ => ⟨o1, o2, a, b, l1, l2, m, e, e0, e1, e2, e3, e4, fun o d hd => h _ _ (k o d hd)⟩
def gTl (P : Program) (w : World) (ts : List T) (K : T → List T → Prop) : Prop := ∃ (o : Obj) (d : Ld) (l : Ln), ts = [ldT P w false o d] ∧ LdOk d l ∧ d.length ≤ 10000 ∧ K (kT (linK l)) ts
theorem mono_tl {P : Program} {w : World} : Mono (gTl P w) := fun ts K K' h ⟨o, d, l, e, e0, e1, k⟩ => ⟨o, d, l, e, e0, e1, h _ _ k⟩
theorem linK_T (l : Ln) : kT (linK l) = .tup [.int l.c, .tup (l.ts.map prI)] := by
  show T.tup [.int l.c, .tup (kTs (l.ts.map pairI))] = _
  rw [prIs_kTs]
section
variable {P : Program} {w : World} {K : PySem.W.Frag} {mg : Str → Option Value} {base : Heap}
theorem scLpl : FnScope ["one", "other", "many", "found", "atom"] ["one", "other", "many"] (defScope sLpl) := ⟨rfl, rfl, rfl, by decide +kernel, rfl, by decide +kernel, by decide +kernel⟩
theorem ok_lpl {f : Addr} {fd : FuncData} (F : Fun K "_law_plus" "_law_plus" sLpl f fd) (TX : TxtQ1 mg) : FnOk P w K mg base CX0 1 f fd ["one", "other", "many"] (spT (gPl P w)) := by
  have hlen : ∀ ts K, gPl P w ts K → ts.length = 3 := fun ts K ⟨_, _, _, _, _, _, _, e, _⟩ => by rw [e]; rfl
  refine F.ok scLpl (fun vs H Q E h => spT_len h hlen) (fun cdv A outer s H vs Q E hr h => ?_)
  have nd := scLpl.nd
  have hu1 := hu_of hr
  refine ⟨_, (pss_cons (ps_set (i := 3) nd rfl (Or.inr rfl) (pe_callTy (c_dictLf (P := P) (w := w) rfl rfl) (by rfl) TX.dict (by decide +kernel) (pa_cons (pv 0) pa_nil))) (Evl.pss_cut (ps_for PassesOwn.never rfl (pi_lf (P := P) (w := w) rfl rfl (pv 1)) (pg_name (i := 4) nd rfl (Or.inl rfl)) (pss_one (ps_lput (P := P) (w := w) rfl rfl (pv 3) (pv 4) (pe_op op_add (pe_lget2 (P := P) (w := w) rfl rfl (pv 3) (pv 4) pe_int ⟨rfl, rfl, rfl, rfl⟩) (pe_op op_mul (pv 2) (pe_lget (P := P) (w := w) rfl rfl (pv 1) (pv 4) (fun _ _ => rfl)))) (by rfl)))) (pss_one (ps_ret (pe_frz (pe_callTy (c_dictPLf (K := K) (P := P) (w := w) rfl rfl rfl) (by rfl) TX.dict (by decide +kernel) (pa_cons (pe_lc (own := [("atom", 4)]) (g := (gName 4)) (tt := _) rfl nd (pi_lf (P := P) (w := w) rfl rfl (pe_frz (pv 3))) (blkOk_by (N := ["one", "other", "many", "found", "atom"]) (sc := defScope sLpl) (by decide +kernel)) (fun _ _ _ _ _ => (pg_name (i := 4) nd rfl (Or.inl rfl))) (fun _ _ _ _ _ => pts_one (pt_cmpR op_ne (pe_lget (P := P) (w := w) rfl rfl (pv 3) (pv 4) (fun _ _ => rfl)) pe_int (nomark _))) (fun _ _ _ _ _ => (pe_tup (pa_cons (pv 4) (pa_cons (pe_lget (P := P) (w := w) rfl rfl (pv 3) (pv 4) (fun _ _ => rfl)) pa_nil))))) pa_nil))))))), ?_⟩
  refine body_run (n := 3) 2 (by rw [spT_len h hlen]; rfl) h (spT_len h hlen).symm fun fr ts K ⟨o1, o2, a, b, l1, l2, m, e, h1, h2, hm, s1, s2, k⟩ => ?_
  subst e
  show WS fr [0, 1, 2] [] [some (ldT P w false o1 a), some (ldT P w false o2 b), some (.int m), none, none] _ _
  refine ws_seq (ws_asg (we_ldict rfl isLd_f ?_))
  walk_at "wn"
  refine ws_cut (fun sl => ∃ (D : Ld) (x : Option T), (D.map (·.1)).Nodup ∧ (∀ k ∈ D.map (·.1), ∃ x, k = lfO x) ∧ D.length ≤ a.length + b.length ∧ (∀ k, ldv D k = ldv a k + m * ldv b k) ∧ sl = [some (ldT P w false o1 a), some (ldT P w false o2 b), some (.int m), some (lmT P w D), x]) ?_ ?_
  · refine ws_for (wi_lf (we_var rfl ldT_still ⟨o2, b, rfl, ?_⟩))
    refine ⟨fun j sl => ∃ (D : Ld) (x : Option T), (D.map (·.1)).Nodup ∧ (∀ k ∈ D.map (·.1), ∃ x, k = lfO x) ∧ D.length ≤ a.length + j ∧ (∀ k, ldv D k = ldv a k + m * ldv (b.take j) k) ∧ sl = [some (ldT P w false o1 a), some (ldT P w false o2 b), some (.int m), some (lmT P w D), x], ⟨a, none, h1.nd, h1.leaf, Nat.le_refl _, fun k => by show ldv a k = ldv a k + m * 0; omega, rfl⟩, ?_, ?_⟩
    · rintro j sl hj ⟨D, x, d1, d2, d3, d4, rfl⟩
      obtain ⟨n1, n2, n3, n4⟩ := ld_next h2.nd hj
      dsimp only
      rw [n4]
      walk_at "wn"
      refine ws_lput (we_op2 op2_I0 (wb_of (we_lget2 rfl isLd_m (we_var rfl (leafT_still _) (we_int ⟨_, D, b[j].1, 0, rfl, isLd_m, leafT_leaf _, rfl, ?_⟩)))))
      refine wb_of (we_op2 op2_I (wb_var ⟨_, rfl⟩ (wb_of (we_lget ⟨_, rfl⟩ (we_var rfl (leafT_still _) ⟨_, b, b[j].1, b[j].2, rfl, isLd_f, leafT_leaf _, n3, ?_⟩)))))
      refine ⟨_, _, rfl, rfl, m, b[j].2, rfl, rfl, .inl (by rcases hm with rfl | rfl <;> decide), _, _, rfl, rfl, _, _, rfl, rfl, trivial, ⟨_, rfl⟩, we_var rfl (leafT_still _) ⟨D, b[j].1, _, rfl, leafT_leaf _, rfl, by rw [sizeLine_eq]; omega, ?_⟩⟩
      walk_at "dv nm"
      have hb : b[j].1 ∈ b.map (·.1) := List.mem_map.mpr ⟨_, List.getElem_mem hj, rfl⟩
      have pl := putD_len D b[j].1 ((lkD D b[j].1).getD 0 + m * b[j].2)
      refine ⟨_, _, putD_nd d1 _ _, fun k hk => ?_, by omega, fun k => ?_, rfl⟩
      · rcases putD_mem hk with rfl | hk
        · exact h2.leaf _ hb
        · exact d2 k hk
      · have ev : ldv (b.take (j + 1)) k = if k = b[j].1 then b[j].2 else ldv (b.take j) k := by rw [n2]; exact ldv_snoc n1 _ k
        rw [ldv_put, ev]
        split
        · rename_i ee
          subst ee
          have := d4 b[j].1
          rw [ldv_no n1] at this
          show ldv D _ + _ = _
          rw [this]
          omega
        · exact d4 k
    · rintro sl ⟨D, x, d1, d2, d3, d4, rfl⟩
      rw [List.take_length] at d4
      exact ⟨D, x, d1, d2, d3, d4, rfl⟩
  rintro sl ⟨D, x, d1, d2, d3, d4, rfl⟩
  refine ws_ret (we_frz (P := P) (w := w) (we_ldictP (we_lc (gown_name (by decide)) (wi_lf (we_frzVar rfl fun o3 => ⟨o3, D, rfl, fun j hj => by revert hj; simp; omega, ?_⟩)))))
  walk_at "dv nm"
  refine ⟨fun j acc sl => acc = ((D.take j).filter fun p => decide (p.2 ≠ 0)).map prL ∧ sl = [some (ldT P w false o1 a), some (ldT P w false o2 b), some (.int m), some (ldT P w false o3 D), none], ⟨rfl, rfl⟩, ?_, ?_⟩
  · rintro j acc sl hj ⟨rfl, rfl⟩
    obtain ⟨n1, n2, n3, n4⟩ := ld_next d1 hj
    have fl := List.length_filter_le (fun p : Leaf × Int => decide (p.2 ≠ 0)) (D.take j)
    rw [List.length_take] at fl
    dsimp only
    rw [n4, n2]
    refine ⟨by rw [List.length_map, sizeLine_eq]; omega, ?_⟩
    walk_at "wn"
    walk_at "dv"
    refine we_op2 op2_ne (wb_of (we_lget ⟨_, rfl⟩ (we_var rfl (leafT_still _) ⟨_, D, D[j].1, D[j].2, rfl, isLd_f, leafT_leaf _, n3, ?_⟩)))
    refine wb_of (we_int ⟨_, _, rfl, rfl, _, .int D[j].2 0, _, rfl, ?_⟩)
    rw [if_pos rfl]
    by_cases c : D[j].2 = 0
    · refine if_no (by rw [decide_eq_true c]; rfl) ?_
      refine ⟨?_, rfl⟩
      rw [List.filter_append, List.filter_cons, if_neg (by simp [c]), List.filter_nil, List.append_nil]
    · refine if_yes (by rw [decide_eq_false c]; rfl) ?_
      refine we_tup (wa_cons (we_var rfl (leafT_still _) (wa_cons (we_lget ⟨_, rfl⟩ (we_var rfl (leafT_still _) ⟨_, D, D[j].1, D[j].2, rfl, isLd_f, leafT_leaf _, n3, ?_⟩)))))
      refine wa_nil ⟨Nat.le_of_ble_eq_true rfl, ?_, rfl⟩
      rw [List.filter_append, List.filter_cons, if_pos (by simp [c]), List.filter_nil, List.map_append]
      rfl
  · rintro acc sl ⟨rfl, rfl⟩
    rw [List.take_length]
    dsimp only [Back]
    have ok := h1.plus h2 d1 d2 d4
    exact ⟨_, _, rfl, ok.nd, _, rfl, fun o => ⟨_, _, rfl, k o _ ok⟩⟩
theorem scLtl : FnScope ["one", "atom"] ["one"] (defScope sLtl) := ⟨rfl, rfl, rfl, by decide +kernel, rfl, by decide +kernel, by decide +kernel⟩
theorem ok_ltl {f : Addr} {fd : FuncData} (F : Fun K "_law_told_linear" "_law_told_linear" sLtl f fd) (TX : TxtQ1 mg) : FnOk P w K mg base CX0 1 f fd ["one"] (spT (gTl P w)) := by
  have hlen : ∀ ts K, gTl P w ts K → ts.length = 1 := fun ts K ⟨_, _, _, e, _⟩ => by rw [e]; rfl
  refine F.ok scLtl (fun vs H Q E h => spT_len h hlen) (fun cdv A outer s H vs Q E hr h => ?_)
  have nd := scLtl.nd
  have hu1 := hu_of hr
  refine ⟨_, (pss_one (ps_ret (pe_tup (pa_cons (pe_lget2 (P := P) (w := w) rfl rfl (pv 0) pe_non pe_int ⟨rfl, rfl, rfl, rfl⟩) (pa_cons (pe_callTy (c_tupK (K := K) rfl) (by rfl) TX.tuple (by decide +kernel) (pa_cons (pe_callB cr_sortI (by rfl) TX.sorted (by decide +kernel) (pa_cons (pe_lc (own := [("atom", 1)]) (g := (gName 1)) (tt := _) rfl nd (pi_lf (P := P) (w := w) rfl rfl (pv 0)) (blkOk_by (N := ["one", "atom"]) (sc := defScope sLtl) (by decide +kernel)) (fun _ _ _ _ _ => (pg_name (i := 1) nd rfl (Or.inl rfl))) (fun _ _ _ _ _ => pts_one (pt_cmpR op_notN (pv 1) pe_non (nomark _))) (fun _ _ _ _ _ => (pe_tup (pa_cons (pv 1) (pa_cons (pe_lget (P := P) (w := w) rfl rfl (pv 0) (pv 1) (fun _ _ => rfl)) pa_nil))))) pa_nil)) pa_nil)) pa_nil))))), ?_⟩
  refine body_run (n := 1) 1 (by rw [spT_len h hlen]; rfl) h (spT_len h hlen).symm fun fr ts K ⟨o, d, l, e, ok, s1, k⟩ => ?_
  subst e
  rw [linK_T] at k
  show WS fr [0] [] [some (ldT P w false o d), none] _ _
  refine ws_ret (we_tup (wa_cons (we_lget2 rfl isLd_f (we_non (we_int ⟨_, d, .none, 0, rfl, isLd_f, rfl, rfl, ?_⟩)))))
  refine wa_cons (we_tupleOf (we_sortI (we_lc (gown_name (by decide)) (wi_lf (we_var rfl ldT_still ⟨o, d, rfl, fun j hj => by revert hj; simp; omega, ?_⟩)))))
  walk_at "dv nm"
  refine ⟨fun j acc sl => acc = (numF (d.take j)).map prI ∧ sl = [some (ldT P w false o d), none], ⟨rfl, rfl⟩, ?_, ?_⟩
  · rintro j acc sl hj ⟨rfl, rfl⟩
    obtain ⟨n1, n2, n3, n4⟩ := ld_next ok.nd hj
    have fl : (numF (d.take j)).length ≤ (d.take j).length := List.length_filterMap_le _ _
    rw [List.length_take] at fl
    obtain ⟨x, ex⟩ := ok.leaf d[j].1 (List.mem_map.mpr ⟨_, List.getElem_mem hj, rfl⟩)
    have edj : d[j] = (lfO x, d[j].2) := Prod.ext ex rfl
    rw [ex] at n3
    dsimp only
    rw [n4, n2, ex]
    refine ⟨by rw [List.length_map, sizeLine_eq]; omega, ?_⟩
    walk_at "wn"
    walk_at "dv"
    cases x with
    | none =>
      refine we_op2 op2_notN (wb_var ⟨_, rfl⟩ (wb_of (we_non ⟨_, _, rfl, rfl, .inl rfl, rfl, _, rfl, ?_⟩)))
      refine if_no rfl ?_
      refine ⟨?_, rfl⟩
      rw [numF_app, edj]
      show _ = ((numF _ ++ numF [(Leaf.none, d[j].2)]).map prI)
      rw [numF_none, show numF [] = [] from rfl, List.append_nil]
    | some n =>
      refine we_op2 op2_notN (wb_var ⟨_, rfl⟩ (wb_of (we_non ⟨_, _, rfl, rfl, .inr rfl, rfl, _, rfl, ?_⟩)))
      refine if_yes rfl ?_
      refine we_tup (wa_cons (we_var rfl rfl (wa_cons (we_lget ⟨_, rfl⟩ (we_var rfl rfl ⟨_, d, .num (n : Int), d[j].2, rfl, isLd_f, rfl, n3, ?_⟩)))))
      refine wa_nil ⟨Nat.le_of_ble_eq_true rfl, ?_, rfl⟩
      rw [numF_app, edj]
      show _ = ((numF _ ++ numF [(Leaf.num (n : Int), d[j].2)]).map prI)
      rw [numF_num, show numF [] = [] from rfl, List.map_append]
      rfl
  · rintro acc sl ⟨rfl, rfl⟩
    rw [List.take_length]
    dsimp only [Back]
    refine ⟨_, numF d, rfl, fun qs pq sq => ⟨_, _, rfl, wa_nil ⟨Nat.le_of_ble_eq_true rfl, ?_⟩⟩⟩
    obtain ⟨a1, _, a3, a4⟩ := numF_ok ok.nd ok.leaf
    obtain ⟨nf, ev⟩ := nf_of (c := l.c) a1 (fun p hp => by obtain ⟨q, hq, e⟩ := a3 p hp; rw [← e]; exact ok.nz q hq) pq sq
    have el : (Ln.mk l.c qs) = l := Ln.ext' nf ok.nf fun x => by
      cases x with
      | none => rfl
      | some n =>
        show vl qs n = _
        rw [ev, a4]
        exact ok.val (some n)
    have ec : (lkD d .none).getD 0 = l.c := ok.val none
    rw [ec]
    rw [← el] at k
    exact ⟨_, _, rfl, k⟩
end
end Rs
set_option maxHeartbeats 4000000
namespace Rs
open PySem L2 PySem.Spec PyProof.Rows
section
variable {X : Cx} {P : Program} {w : World}
theorem c_lenN (hP : X.prog = P) (hw : X.w = w) : CallR X (.builtin "len") (fun xs H Q => ∃ a kvs, xs = [V.ref a] ∧ ND P w H a kvs ∧ Q (.int kvs.length) H) := by
  subst hP hw
  rintro pins s σ H xs us Q I r ⟨a, kvs, ex, d, q⟩
  subst ex
  obtain ⟨u, eu, ru⟩ := vals1 r
  subst eu
  cases ru
  obtain ⟨z, hs, es, ys, he, hn, ek, rel, dd⟩ := d.at I.hok
  subst ek
  have el := Paired.length rel
  rw [List.length_map] at z q
  rw [sizeLine_eq] at z
  refine call_len_dictH hs dd (by omega) ?_
  rw [← el]
  exact ⟨.int es.length, H, I.tok _, ⟨_, rfl⟩, q⟩
end
def NdF (P : Program) (w : World) (H : Hp) (a : Addr) (o : Obj) (es : List (NestedKey × Addr × V)) : Prop := H a = some (.frz o (NdO P w a es)) ∧ ∀ e ∈ es, NK H e.1 (.ref e.2.1) ∧ e.1.depth ≤ 8
theorem NdF.at {P : Program} {w : World} {H : Hp} {h : Heap} {a : Addr} {o : Obj} {es : List (NestedKey × Addr × V)} (ok : HOk P w H h) (d : NdF P w H a o es) :
    (a == sysModules) = false ∧ h.get? a = some o ∧ o.ExactDict ∧ ∃ (des : Array DictEntry) (ep : Nat) (xs : List (NestedKey × Addr × Value)), o.data = .dict des ep ∧ des.size = es.length ∧ des.toList = xs.map (entryOfKey (nestedKind P w)) ∧ Paired (fun p q => p.1 = q.1 ∧ p.2.1 = q.2.1 ∧ RelV p.2.2 q.2.2) es xs ∧ h.DictOfH (nestedKind P w) a xs := by
  obtain ⟨hfr, hk⟩ := d
  obtain ⟨hd, ⟨z, hs, xs, r, o', des, ep, q1, q2, q3, q4, q5⟩, _⟩ := (show ObjOk P w H h a (.frz o (.ext (ndPhi P w a es))) from ok a _ hfr)
  rw [hd] at q1
  cases q1
  have l1 : des.size = xs.length := by rw [← Array.length_toList, q4, List.length_map]
  refine ⟨hs, hd, q2, des, ep, xs, q3, by rw [l1, Paired.length r], q4, r, o, des, ep, hd, q2, q3, q4, fun x hx => ?_, q5⟩
  have all : ∀ {l : List (NestedKey × Addr × V)} {m : List (NestedKey × Addr × Value)}, Paired (fun p q => p.1 = q.1 ∧ p.2.1 = q.2.1 ∧ RelV p.2.2 q.2.2) l m → (∀ e ∈ l, NK H e.1 (.ref e.2.1) ∧ e.1.depth ≤ 8) → ∀ x ∈ m, (nestedKind P w).is h x.1 x.2.1 := by
    intro l m q
    induction q with
    | nil => exact fun _ x hx => (nomatch hx)
    | @cons p q ps qs hq t ih =>
      intro hl x hx
      rcases List.mem_cons.mp hx with e | hx
      · subst e
        have a1 := hl p List.mem_cons_self
        rw [← hq.1, ← hq.2.1]
        exact ⟨NK.isAt ok _ _ _ a1.1 rfl, a1.2⟩
      · exact ih (fun e he => hl e (List.mem_cons_of_mem _ he)) x hx
  exact all r hk x hx
theorem paired_nth {α β : Type} {R : α → β → Prop} : ∀ {xs : List α} {ys : List β}, Paired R xs ys → ∀ {i : Nat} {x : α}, xs[i]? = some x → ∃ y, ys[i]? = some y ∧ R x y
  | _, _, .nil, i, x, h => by cases h
  | _, _, .cons r t, 0, x, h => by
    cases h
    exact ⟨_, rfl, r⟩
  | _, _, .cons r t, i + 1, x, h => paired_nth t h
def Itnd (P : Program) (w : World) (d : Addr) (o : Obj) (es : List (NestedKey × Addr × V)) : It :=
  ⟨fun i H => NdF P w H d o es ∧ i < es.length, fun i H x H' => H' = H ∧ ∃ e, es[i]? = some e ∧ x = .ref e.2.1, fun i H => NdF P w H d o es ∧ es.length ≤ i⟩
theorem turn_nd {P : Program} {w : World} {K : PySem.W.Frag} {tg : Expr} {d : Addr} {o : Obj} {des : Array DictEntry} {ep : Nat} {es : List (NestedKey × Addr × V)} (it : Addr) (hod : o.data = .dict des ep) : Turn P w K tg (Itnd P w d o es) [it] it (fun i h => h.IsKeyIter it d i es.length ep) where
  mem := by simp
  obj := by
    intro i h st b hb
    obtain rfl : b = it := List.mem_singleton.mp hb
    obtain ⟨oi, e, _, dd⟩ := st
    exact ⟨oi, e, fun v z => by rw [dd] at z; cases z⟩
  keep := by
    intro i h h' st k
    exact st.at fun oi e => k it (by simp) oi e
  item := by
    intro X hP hw hK hc i pins s σ H E I hf st hg
    subst hP hw hK
    obtain ⟨hd, hi⟩ := hg
    have hf1 := hf it (by simp)
    obtain ⟨hs, hgd, hx, des', ep', xs, hdt, hsz, hen, rel, _⟩ := hd.at I.hok
    obtain ⟨rfl, rfl⟩ := dict_ep hod hdt
    obtain ⟨e, he⟩ : ∃ e, es[i]? = some e := ⟨es[i], List.getElem?_eq_getElem hi⟩
    obtain ⟨y, hy, r1, r2, r3⟩ := paired_nth rel he
    have hdi : des'[i]? = some (entryOfKey (nestedKind X.prog X.w) y) := by rw [← Array.getElem?_toList, hen, List.getElem?_map, hy]; rfl
    refine next_key_item st hgd hdt hsz hdi fun h' st' sb => ?_
    obtain ⟨g0, g1, g2, g3, g4, g5⟩ := hf1
    have I1 : Inv X pins σ H { s with heap := h' } := I.turned (t' := s.toks) (fun b ob hb e => (sb.2 b hb).trans e) g0 g1 g3 g4 g5
    obtain ⟨oi, e1, c1, dd1⟩ := id st'
    exact ⟨_, rfl, go_of (s := { s with heap := h' }) e1 c1 dd1 (by decide) ⟨.ref e.2.1, H, I1, (by show Value.ref y.2.1 = .ref e.2.1; rw [r2]), ⟨rfl, e, he, rfl⟩, st', fun b hb => (hf b hb).1⟩⟩
  done := by
    intro X hP hw hK hc i pins s σ H E I hf st hg
    subst hP hw hK
    obtain ⟨hd, hi⟩ := hg
    obtain ⟨g0, g1, g2, g3, g4, g5⟩ := hf it (by simp)
    obtain ⟨hs, hgd, hx, des', ep', xs, hdt, hsz, _⟩ := hd.at I.hok
    obtain ⟨rfl, rfl⟩ := dict_ep hod hdt
    exact next_key_end (I.ok.hd hc) st hgd hdt hsz hi fun h' eb => ⟨rfl, I.turned (t' := s.toks) (fun b ob hb e => eb b ob hb e) g0 g1 g3 g4 g5⟩
  self := fun A i s Q E st h => wpAny_pyIter_keyiter st h
theorem walk_nd {P : Program} {w : World} {d : Addr} {o : Obj} {es : List (NestedKey × Addr × V)} : Walk (Itnd P w d o es) es.length (fun H => NdF P w H d o es) (fun i H x H' => H' = H ∧ ∃ e, es[i]? = some e ∧ x = .ref e.2.1) :=
  ⟨fun _ _ hi q => ⟨q, hi⟩, fun _ q => ⟨q, Nat.le_refl _⟩, fun _ _ _ _ _ _ y => y⟩
def iNd (P : Program) (w : World) (td : TE) : TI := fun σ H R => td σ H fun x H1 => ∃ d o es, x = .ref d ∧ NdF P w H1 d o es ∧ R (Itnd P w d o es) H1
theorem pi_nd {X : Cx} {P : Program} {w : World} {tg e : Expr} {td : TE} (hP : X.prog = P) (hw : X.w = w) (he : PE X e td) : PI X tg e (iNd P w td) := by
  subst hP hw
  refine ⟨fun pins s σ H R I h => thn (he.run pins s σ H _ I h) fun u s1 ⟨x, H1, I1, rx, d, o, es, ex, hd, q⟩ => ?_⟩
  subst ex
  obtain rfl : u = Value.ref d := rx
  obtain ⟨hs, hgd, hx, des, ep, xs, hdt, hsz, _⟩ := hd.at I1.hok
  refine iter_keys hs hgd hx hdt (pi_one (tk := s1.toks) I1 _ (turn_nd _ hdt) ⟨_, Heap.get?_push_size _ rfl, rfl, ?_⟩ q)
  rw [hsz]
  rfl
def tNGetR (P : Program) (w : World) (td ty : TE) : TE := fun σ H Q => td σ H fun x H1 => ty σ H1 fun y H2 => ∃ a b o es k v, x = .ref a ∧ y = .ref b ∧ NdF P w H2 a o es ∧ NK H2 k (.ref b) ∧ k.depth ≤ 8 ∧ valV (es.map fun e => (e.1, e.2.2)) k = some v ∧ Q v H2
theorem pe_ngetR {X : Cx} {P : Program} {w : World} {o i : Expr} {pos : Pos} {td ty : TE} (hP : X.prog = P) (hw : X.w = w) (hu : X.A.units + 64 < cLine) (ho : PE X o td) (hi : PE X i ty) (hs : NoSl i) : PE X (.Subscript o i pos) (tNGetR P w td ty) := by
  subst hP hw
  refine ⟨fun pins s σ H Q I h => ?_⟩
  refine subD_of PySem.F.slot_dict_getitem.lookup hs (thn (ho.run pins s σ H _ I h) fun u s1 ⟨x, H1, I1, rx, q1⟩ => thn (hi.run pins s1 σ H1 _ I1 q1) fun iv s2 ⟨y, H2, I2, ry, a, b, od, es, k, v, ex, ey, d, hk, hd, g, q2⟩ => ?_)
  subst ex
  subst ey
  obtain rfl : u = Value.ref a := rx
  obtain rfl : iv = Value.ref b := ry
  obtain ⟨_, hgd, hx, des, ep, xs, _, _, _, rel, dd⟩ := d.at I2.hok
  refine ⟨⟨_, hgd, hx.1⟩, ?_⟩
  obtain ⟨w', hw', rw'⟩ := RelO.some_of (v := v) (o := (atKey xs k).map (·.2)) (by rw [← g]; exact nd_val rel k)
  obtain ⟨p, hp, hp2⟩ := Option.map_eq_some_iff.mp hw'
  refine wpAny_getItem_heap (nd_room (X := X) hu) ⟨NK.isAt I2.hok _ _ _ hk rfl, hd⟩ dd hp ?_
  rw [hp2]
  exact ⟨v, H2, I2.tok _, rw', q2⟩
def tListItems1 (P : Program) (w : World) (te : TE) : TE := fun σ H Q => te σ H fun x H1 => ∃ (d : Addr) (k : Leaf) (v : V), x = .ref d ∧ LD P w H1 d [(k, v)] ∧
  ∀ (p t : Addr), H1 p = none → H1 t = none → p ≠ t → Q (.ref p) (upd (upd H1 t (.tup [lV k, v])) p (.lst [.ref t]))
section
variable {X : Cx} {P : Program} {w : World} {e : Expr} {te : TE} {p apos cpos pos : Pos}
theorem pe_listItemsLf (hP : X.prog = P) (hw : X.w = w) (hc : X.calm = true) (he : PE X e te) (hg : Gl X "list") (hm : X.mg "list" = none) (hv : bootBuiltins "list" = some (.type "list"))
    (hbase : attributeBase e "items" X.env (eval e X.env) = eval e X.env := by rfl) (hline : (apos.endLine == cpos.line) = true := by rfl)
    (hst : starEach [.Call (.Attribute e "items" apos) [] [] cpos] X.env = (false, eval (.Call (.Attribute e "items" apos) [] [] cpos) X.env) :: starEach [] X.env := by rfl) :
    PE X (.Call (.Name "list" p) [.Call (.Attribute e "items" apos) [] [] cpos] [] pos) (tListItems1 P w te) := by
  subst hP hw
  refine ⟨fun pins s σ H Q I hq => wpAny_Call_Name_kw (ld_blt I hg hm hv (PyProof.Rows.callWith_type1 ?_ hst rfl))⟩
  rw [hst]
  show wpAny _ _ (spliced ((false, eval (.Call (.Attribute e "items" apos) [] [] cpos) X.env) :: backTo pos (starEach [] X.env))) _ _ s
  refine Calls.spliced_cons (wpAny_Call_method (T := "dict") (id := "dict.items") hbase rfl hline PySem.F.plainAttrs_dict PySem.F.slot_dict_items PySem.F.type_dict_items (thn (he.run pins s σ H _ I hq) fun u s1 ⟨x, H1, I1, rx, q⟩ => ?_))
  obtain ⟨d, k, v, ex, hd, q⟩ := q
  subst ex
  obtain rfl : u = Value.ref d := rx
  obtain ⟨z0, lo, vs, rel, dd⟩ := hd.at I1.hok
  obtain ⟨ep, hat⟩ := dd.dictAt
  have lvs : vs.length = 1 := (Paired.length rel).symm
  have I2 : Inv X pins σ H1 { s1 with heap := s1.heap.push { cls := .type "dict_items", data := .fields #[.ref d] } } := I1.kept (t' := s1.toks) fun b ob q => Heap.get?_push_of_some _ q
  refine ⟨dd.typeIs, dd.mapOf.noDict, ?_⟩
  show wpAny _ _ (callWith cpos (.builtin "dict.items") [.ref d] [] []) _ X.xe s1
  refine method_meetsIn PySem.F.slot_dict_items PySem.F.entry_dict_items rfl (PySem.evalArgs_none ⟨rfl, dd.typeIs, PySem.F.args_dict_items_1 _, _, meets_dict_items (lfKind X.prog X.w) d lo, ⟨vs, dd⟩, Calls.spliced_nil ?_⟩)
  refine PySem.W.kdx_call (knd := lfKind X.prog X.w) (kvs := vs) (ep := ep) (I1.ok.hd hc) ⟨_, Heap.get?_push_size _ rfl, rfl, rfl⟩ (hat.push _) (by rw [lvs, sizeLine_eq]; omega) fun h' tk acc c as hk hS hl hG hacc => ?_
  generalize hsz : (s1.heap.push { cls := .type "dict_items", data := .fields #[.ref d] }).objs.size = S at hS hG
  generalize hh2 : s1.heap.push { cls := .type "dict_items", data := .fields #[.ref d] } = h2 at I2 hk hsz
  match as, hl with
  | [t], _ =>
    obtain ⟨key, k', y, f1, f2, f3⟩ := hG.pairs 0 t rfl
    cases rel with
    | @cons _ q0 _ _ rq rt =>
      have f1' : some q0 = some (k', y) := f1
      cases f1'
      have hSt : S < t := hG.above t List.mem_cons_self
      have nt : H1 t = none := I2.hok.fresh (show h2.objs.size ≤ t by omega)
      have nS : H1 S = none := I2.hok.fresh (show h2.objs.size ≤ S by omega)
      have ne : S ≠ t := Nat.ne_of_lt hSt
      have off : ∀ b, b ≠ S → b ≠ t → (upd (upd H1 t (.tup [lV k, v])) S (.lst [.ref t])) b = H1 b := fun b h1 h2 => by rw [upd_ne h1, upd_ne h2]
      have kp : ∀ b u, H1 b = some u → (upd (upd H1 t (.tup [lV k, v])) S (.lst [.ref t])) b = some u := fun b u e => by
        rw [off b (fun z => by rw [z, nS] at e; cases e) (fun z => by rw [z, nt] at e; cases e)]
        exact e
      have low : ∀ b o, h2.get? b = some o → b ≠ S ∧ b ≠ t := fun b o e => by
        have h1 : b < h2.objs.size := Heap.lt_size e
        rw [hsz] at h1
        exact ⟨fun z => Nat.lt_irrefl S (by rw [z] at h1; exact h1), fun z => Nat.lt_irrefl S (Nat.lt_trans hSt (by rw [z] at h1; exact h1))⟩
      refine ⟨.ref S, _, ?_, rfl, q S t nS nt ne⟩
      refine I2.call' (ch := []) rfl ⟨fun b o g _ _ _ => hk b o g, fun b o g _ _ _ => ⟨o.slots, hk b o g⟩, fun b o g n _ => (by rw [off b (low b o g).1 (low b o g).2]; exact n), fun b o g _ => ⟨o, hk b o g⟩, fun b xs g => kp b _ g, fun b o u g => kp b _ g, fun b ps g => ⟨#[], by rw [kp b _ g]; simp⟩⟩ (fun b u g => ?_) I2.bare fun b z => (nomatch z)
      by_cases hb : b = S
      · subst hb
        rw [upd_same] at g
        cases g
        refine ⟨by show 1 ≤ sizeLine; decide, acc.toList, c, by rw [hacc]; exact .cons rfl .nil, ?_⟩
        rw [Array.toArray_toList]
        exact hS
      · by_cases hb2 : b = t
        · subst hb2
          rw [upd_ne hb, upd_same] at g
          cases g
          have rk : RelV (lV k) key := by
            have e1 : k = k' := rq.1
            rw [e1]
            exact lV_of f2
          exact ⟨by show 2 ≤ sizeLine; decide, [key, y], .cons rk (.cons rq.2 .nil), ⟨_, f3, rfl, _, rfl⟩⟩
        · rw [off b hb hb2] at g
          exact (I2.hok b u g).stay (fun d v _ e => hk d v e) (fun d e => kp d _ e) fun d xs e => kp d _ e
  | [], hl => exact absurd (hl.trans lvs) (by decide)
  | _ :: _ :: _, hl => exact absurd (hl.trans lvs) (by simp)
end
end Rs
set_option maxHeartbeats 4000000
namespace Rs
open PySem L2 PySem.Spec PyProof.Rows
def nlR (P : Program) (w : World) (o : Obj) (es : List (NestedKey × Addr × V)) : Hp → V → List Addr → Prop := fun H v fp => ∃ a, v = .ref a ∧ NdF P w H a o es ∧ fp = [a]
def nlT (P : Program) (w : World) (o : Obj) (es : List (NestedKey × Addr × V)) : T := .abs (nlR P w o es)
theorem NdF.goes {P : Program} {w : World} {H H' : Hp} {a : Addr} {o : Obj} {es : List (NestedKey × Addr × V)} (h : NdF P w H a o es) (ht : Tps H H') (ha : ∀ u, H a = some u → H' a = some u) : NdF P w H' a o es := ⟨ha _ h.1, fun e he => ⟨NK.mono ht _ _ (h.2 e he).1, (h.2 e he).2⟩⟩
theorem nl_framed {P : Program} {w : World} {o : Obj} {es : List (NestedKey × Addr × V)} : Framed (nlR P w o es) := by
  refine ⟨fun H H' v fp ⟨a, e1, h, e2⟩ ht ho => ?_, fun H v fp ⟨a, e1, h, e2⟩ b hb => ?_⟩
  · subst e2
    exact ⟨a, e1, h.goes ht (ho a List.mem_cons_self), rfl⟩
  · subst e2
    rw [List.mem_singleton.mp hb]
    exact ⟨_, h.1, rfl⟩
section
variable {P : Program} {w : World} {Z : Addr → Prop} {H : Hp} {v : V} {f : List Addr} {o : Obj} {es : List (NestedKey × Addr × V)} {a : Addr}
theorem Rep.ndl (h : Rep Z H (nlT P w o es) v f) : ∃ a, v = .ref a ∧ NdF P w H a o es ∧ f = [a] := by
  unfold nlT Rep at h
  exact h.2
theorem rep_ndl (h : NdF P w H a o es) : Rep Z H (nlT P w o es) (.ref a) [a] := by
  unfold nlT Rep
  exact ⟨nl_framed, a, rfl, h, rfl⟩
end
section
variable {fr : Fr} {pn : List Nat} {pv : Nat → V} {tmp : List T} {tv : List V} {sl : Sl} {σ : L2.St} {H : Hp} {v : V} {P : Program} {w : World} {kvs : List (NestedKey × V)} {es : List (NestedKey × Addr × V)} {a : Addr} {od : Obj}
theorem R.ndLock (r : R fr pn pv (ndT P w kvs :: tmp) (v :: tv) sl σ H) : ∃ a es, v = .ref a ∧ kvs = es.map (fun e => (e.1, e.2.2)) ∧ H a = some (NdO P w a es) ∧ ∀ od, R fr pn pv (nlT P w od es :: tmp) (v :: tv) sl σ (upd H a (.frz od (NdO P w a es))) := by
  obtain ⟨Z, f, z⟩ := r.top
  obtain ⟨a, rfl, ⟨es, h1, h2, h3⟩, _⟩ := z.ndict
  refine ⟨a, es, rfl, h3, h1, fun od => r.rewrite (t' := nlT P w od es) (o := .frz od (NdO P w a es)) h1 rfl (fun Z f z => ?_) fun Z Z' H' z eo hz eH => ?_⟩
  · obtain ⟨d, ed, _, ef⟩ := z.ndict
    cases ed
    exact ef
  · refine rep_ndl ⟨eo, fun e he => ⟨NK.mono (fun b u eb hu => ?_) _ _ (h2 e he).1, (h2 e he).2⟩⟩
    rw [eH, upd_ne (fun z => by rw [z, h1] at eb; cases eb; cases hu)]
    exact eb
theorem R.ndUnlock (r : R fr pn pv (nlT P w od es :: tmp) (.ref a :: tv) sl σ H) : H a = some (.frz od (NdO P w a es)) ∧ R fr pn pv (ndT P w (es.map fun e => (e.1, e.2.2)) :: tmp) (.ref a :: tv) sl σ (upd H a (NdO P w a es)) := by
  obtain ⟨Z, f, z⟩ := r.top
  obtain ⟨a', ea, hn, _⟩ := z.ndl
  cases ea
  refine ⟨hn.1, r.rewrite (o := NdO P w a es) hn.1 rfl (fun Z f z => ?_) fun Z Z' H' z eo hz eH => ?_⟩
  · obtain ⟨d, ed, _, ef⟩ := z.ndl
    cases ed
    exact ef
  · refine rep_ndict ⟨es, eo, fun e he => ⟨NK.mono (fun b u eb hu => ?_) _ _ (hn.2 e he).1, (hn.2 e he).2⟩, rfl⟩
    rw [eH, upd_ne (fun z => by rw [z, hn.1] at eb; cases eb; cases hu)]
    exact eb
end
section
variable {fr : Fr} {pn : List Nat} {tmp : List T} {sl : Sl} {KE : T → Sl → Prop} {K : KS} {te tk ty : TE} {i : Nat} {Kf : PySem.W.Frag} {P : Program} {w : World} {g : TG} {tbd : TS} {tt : TT} {js : List Nat}
theorem nd_item {kvs : List (NestedKey × V)} {es : List (NestedKey × Addr × V)} (hk : kvs = es.map fun e => (e.1, e.2.2)) {j : Nat} {e : NestedKey × Addr × V} (he : es[j]? = some e) : (kvs.map (·.1)).getD j .none = e.1 := by
  rw [hk, List.map_map, List.getD_eq_getElem?_getD, List.getElem?_map, he]
  rfl
theorem ws_forNd {kvs : List (NestedKey × V)} (h : sl[i]? = some (some (ndT P w kvs))) (hw : ∀ od es, kvs = es.map (fun e => (e.1, e.2.2)) → ∃ Iv : Nat → Sl → Prop, Iv 0 (sl.set i (some (nlT P w od es))) ∧
      (∀ j sl', j < kvs.length → Iv j sl' → WG fr (i :: pn) tmp sl' g (kT ((kvs.map (·.1)).getD j .none)) fun sl2 => WS fr (i :: pn) tmp sl2 tbd
        { nx := Iv (j + 1), ct := Iv (j + 1), bk := fun s => s[i]? = some (some (nlT P w od es)) ∧ K.nx (s.set i (some (ndT P w kvs))), rt := fun t s => s[i]? = some (some (nlT P w od es)) ∧ K.rt t (s.set i (some (ndT P w kvs))) }) ∧
      (∀ j sl', Iv j sl' → sl'[i]? = some (some (nlT P w od es))) ∧ ∀ sl', Iv kvs.length sl' → K.nx (sl'.set i (some (ndT P w kvs)))) : WS fr pn tmp sl (tLock (tFor (iNd P w (tVar i)) g tbd)) K := fun pv tv σ H D r n rt _ _ => by
  obtain ⟨v, ev, r1⟩ := r.take h
  obtain ⟨a, es, rfl, hk, ha, lock⟩ := r1.ndLock
  have hlen : i < sl.length := (List.getElem?_eq_some_iff.mp h).1
  refine ⟨a, _, ha, trivial, fun od => ?_⟩
  obtain ⟨Iv, i0, is, il, ie⟩ := hw od es hk
  have rs : R fr pn pv tmp tv (sl.set i (some (nlT P w od es))) σ (upd H a (.frz od (NdO P w a es))) := by
    have := (lock od).give (i := i) (by rw [List.getElem?_set_self hlen]) ev
    rwa [List.set_set] at this
  have hg : ∀ k, (some i : Option Nat) = some k → ∃ v, [V.ref a] = [v] ∧ σ[k]? = some (some v) := fun k e => by
    cases e
    exact ⟨_, rfl, ev⟩
  have p0 : ∀ j ∈ pn, σ[j]? = some (some (pv j)) := by
    obtain ⟨f1, f2, rf⟩ := rs
    exact rf.pins
  have rp := R.pin (gv := some i) (hv := [.ref a]) rs hg
  have un : ∀ {s : Sl} {σ' : L2.St} {H' : Hp} {hs : List T} {hv : List V}, s[i]? = some (some (nlT P w od es)) → R fr ((some i : Option Nat).toList ++ pn) (fun j => if (some i : Option Nat) = some j then ([V.ref a] : List V).headD .non else pv j) hs hv s σ' H' → NdF P w H' a od es ∧ H' a = some (.frz od (NdO P w a es)) ∧ R fr pn pv hs hv (s.set i (some (ndT P w kvs))) σ' (upd H' a (NdO P w a es)) := fun {s σ' H' hs hv} hi rr => by
    obtain ⟨v2, ev2, r2⟩ := rr.take hi
    have ev3 : σ'[i]? = some (some (V.ref a)) := by
      obtain ⟨y1, y2, yy⟩ := rr
      have := yy.pins i (by simp)
      rw [this]
      simp
    cases Option.some.inj (Option.some.inj (ev2.symm.trans ev3))
    obtain ⟨Z, f, z⟩ := r2.top
    obtain ⟨a', ea, hn, _⟩ := z.ndl
    cases ea
    obtain ⟨u1, u2⟩ := r2.ndUnlock
    rw [← hk] at u2
    have hl2 : i < s.length := (List.getElem?_eq_some_iff.mp hi).1
    have r4 := R.give (i := i) u2 (by rw [List.getElem?_set_self hl2]) ev3
    rw [List.set_set] at r4
    exact ⟨hn, u1, R.unpin (gv := some i) (hv := [.ref a]) (σ0 := σ) r4 hg p0⟩
  have wl : es.length = kvs.length := by rw [hk, List.length_map]
  have nf0 : NdF P w (upd H a (.frz od (NdO P w a es))) a od es := (un (by rw [List.getElem?_set_self hlen]) rp).1
  refine ⟨.ref a, ev, a, od, es, rfl, nf0, ?_⟩
  refine for_it walk_nd (fun j σ' H' => ∃ s, Iv j s ∧ R fr ((some i : Option Nat).toList ++ pn) (fun j => if (some i : Option Nat) = some j then ([V.ref a] : List V).headD .non else pv j) tmp tv s σ' H') ⟨_, i0, rp⟩ (fun j σ' H' _ ⟨s, iv, rr⟩ => (un (il _ _ iv) rr).1) ?_ (fun σ' H' ⟨s, iv, rr⟩ => ?_)
  · rintro j x σ' H1 H' hj ⟨s, iv, rr⟩ ⟨rfl, e, he, rfl⟩
    have nf := (un (il _ _ iv) rr).1
    have ek := nd_item hk he
    refine is j s (by omega) iv _ (.ref e.2.1) tv σ' H' _ (by rw [ek]; exact rr.lit fun Z => NK.rep _ _ (nf.2 e (List.mem_of_getElem? he)).1) fun sl2 σ2 H2 kb r2 => ?_
    refine kb _ tv σ2 H2 _ r2 (fun s σ3 H3 h r3 => ⟨s, h, r3⟩) (fun t s v σ3 H3 ⟨h1, h2⟩ r3 => ?_) (fun s σ3 H3 ⟨h1, h2⟩ r3 => ?_) (fun s σ3 H3 h r3 => ⟨s, h, r3⟩)
    · obtain ⟨_, y1, y2⟩ := un h1 r3
      exact ⟨y1, rt t _ v σ3 _ h2 y2⟩
    · obtain ⟨_, y1, y2⟩ := un h1 r3
      exact ⟨y1, n _ σ3 _ h2 y2⟩
  · obtain ⟨_, y1, y2⟩ := un (il _ _ iv) rr
    exact ⟨y1, n _ σ' _ (ie s (wl ▸ iv)) y2⟩
theorem we_lcNd {kvs : List (NestedKey × V)} (hg : GOwn g js) (h : sl[i]? = some (some (ndT P w kvs))) (hjs : ∀ j ∈ js, j ∉ i :: pn)
    (hw : ∀ od es, kvs = es.map (fun e => (e.1, e.2.2)) → ∃ Iv : Nat → List T → Sl → Prop, Iv 0 [] (hideT (sl.set i (some (nlT P w od es))) js) ∧ (∀ j acc sl', Iv j acc sl' → sl'[i]? = some (some (nlT P w od es))) ∧
      (∀ j acc sl', j < kvs.length → Iv j acc sl' → acc.length < sizeLine ∧ WG fr (i :: pn) (.lst true acc :: tmp) sl' g (kT ((kvs.map (·.1)).getD j .none)) fun sl2 => WT fr (i :: pn) (.lst true acc :: tmp) sl2 tt fun b sl3 =>
        if b = true then WE fr (i :: pn) (.lst true acc :: tmp) sl3 te fun y sl4 => Iv (j + 1) (acc ++ [y]) (hideT sl4 js) else Iv (j + 1) acc (hideT sl3 js)) ∧
      ∀ acc sl', Iv kvs.length acc sl' → KE (.lst true acc) (sl'.set i (some (ndT P w kvs)))) : WE fr pn tmp sl (tLockE (tLc (iNd P w (tVar i)) g tt te js)) KE := fun pv tv σ H Q r q => by
  obtain ⟨v, ev, r1⟩ := r.take h
  obtain ⟨a, es, rfl, hk, ha, lock⟩ := r1.ndLock
  have hlen : i < sl.length := (List.getElem?_eq_some_iff.mp h).1
  refine ⟨a, _, ha, trivial, fun od => ?_⟩
  obtain ⟨Iv, i0, il, is, ie⟩ := hw od es hk
  have rs : R fr pn pv tmp tv (sl.set i (some (nlT P w od es))) σ (upd H a (.frz od (NdO P w a es))) := by
    have := (lock od).give (i := i) (by rw [List.getElem?_set_self hlen]) ev
    rwa [List.set_set] at this
  have hg2 : ∀ k, (some i : Option Nat) = some k → ∃ v, [V.ref a] = [v] ∧ σ[k]? = some (some v) := fun k e => by
    cases e
    exact ⟨_, rfl, ev⟩
  have p0 : ∀ j ∈ pn, σ[j]? = some (some (pv j)) := by
    obtain ⟨f1, f2, rf⟩ := rs
    exact rf.pins
  have rp : R fr (i :: pn) (fun j => if (some i : Option Nat) = some j then (V.ref a) else pv j) tmp tv (sl.set i (some (nlT P w od es))) σ (upd H a (.frz od (NdO P w a es))) := R.pin (gv := some i) (hv := [.ref a]) rs hg2
  have wl : es.length = kvs.length := by rw [hk, List.length_map]
  have nf0 : NdF P w (upd H a (.frz od (NdO P w a es))) a od es := by
    obtain ⟨Z, f, z⟩ := (lock od).top
    obtain ⟨a', ea, hn, _⟩ := z.ndl
    cases ea
    exact hn
  refine ⟨.ref a, ev, a, od, es, rfl, nf0, ?_⟩
  intro D hD
  have r2 := rp.hide hjs
  have r3 : R fr (i :: pn) (fun j => if (some i : Option Nat) = some j then (V.ref a) else pv j) (.lst true [] :: tmp) (.ref D :: tv) (hideT (sl.set i (some (nlT P w od es))) js) (wipe σ js) (upd (upd H a (.frz od (NdO P w a es))) D (.lst [])) := R.mkLst (ts := []) (vs := []) r2 rfl hD
  have here : ∀ {j : Nat} {acc : List T} {sl' : Sl} {H' : Hp} {hs : List T} {hv : List V}, Iv j acc sl' → R fr (i :: pn) (fun j => if (some i : Option Nat) = some j then (V.ref a) else pv j) hs hv sl' (wipe σ js) H' → NdF P w H' a od es := fun iv rr => by
    obtain ⟨v2, Z, f, ev2, zz⟩ := rr.slot (il _ _ _ iv)
    have ev3 : (wipe σ js)[i]? = some (some (V.ref a)) := by
      obtain ⟨y1, y2, yy⟩ := rr
      rw [yy.pins i List.mem_cons_self]
      simp
    cases Option.some.inj (Option.some.inj (ev2.symm.trans ev3))
    obtain ⟨a', ea, hn, _⟩ := zz.ndl
    cases ea
    exact hn
  refine ⟨fun j m H' => m = kvs.length - j ∧ j ≤ kvs.length ∧ ∃ acc sl', Iv j acc sl' ∧ R fr (i :: pn) (fun j => if (some i : Option Nat) = some j then (V.ref a) else pv j) (.lst true acc :: tmp) (.ref D :: tv) sl' (wipe σ js) H', ⟨kvs.length, by simp, Nat.zero_le _, [], _, i0, r3⟩, ?_⟩
  rintro j m H' ⟨rfl, him, acc, sl', iv, r'⟩
  have lk := here iv r'
  by_cases hlt : j < kvs.length
  · obtain ⟨hz, kg⟩ := is j acc sl' hlt iv
    refine .inr ⟨⟨lk, by omega⟩, fun H' => ∃ acc sl', Iv (j + 1) acc sl' ∧ R fr (i :: pn) (fun j => if (some i : Option Nat) = some j then (V.ref a) else pv j) (.lst true acc :: tmp) (.ref D :: tv) sl' (wipe σ js) H', fun H' z => ⟨kvs.length - (j + 1), by omega, rfl, hlt, z⟩, fun x H2 hy => ?_⟩
    obtain ⟨rfl, e, he, rfl⟩ := hy
    have ek := nd_item hk he
    rw [ek] at kg
    refine hg _ σ _ _ (kg _ _ _ _ _ _ (r'.lit fun Z => NK.rep _ _ (lk.2 e (List.mem_of_getElem? he)).1) fun sl2 σ2 H3 k r5 hw => ?_)
    refine k _ _ σ2 H3 _ r5 fun b sl3 H4 kb r6 => ?_
    cases b with
    | true =>
      rw [if_pos rfl] at kb ⊢
      refine kb _ _ σ2 H4 _ r6 fun y sl4 u H5 ky r7 => ?_
      have r8 : R fr (i :: pn) _ (.lst true acc :: y :: tmp) (.ref D :: u :: tv) sl4 σ2 H5 := R.rot (ts := [y]) (vs := [u]) r7 rfl
      obtain ⟨a', vs, e1, e2, e3, r9⟩ := r8.item
      cases e1
      refine ⟨vs, e2, by rw [e3]; exact hz, acc ++ [y], hideT sl4 js, ky, ?_⟩
      rw [← hw]
      exact r9.hide hjs
    | false =>
      rw [if_neg Bool.false_ne_true] at kb ⊢
      refine ⟨acc, hideT sl3 js, kb, ?_⟩
      rw [← hw]
      exact r6.hide hjs
  · obtain rfl : j = kvs.length := by omega
    have pw : ∀ j ∈ i :: pn, σ[j]? = some (some ((fun j => if (some i : Option Nat) = some j then (V.ref a) else pv j) j)) := by
      obtain ⟨f1, f2, rr⟩ := rp
      exact rr.pins
    have r5 := r'.unwipe pw
    refine .inl ⟨⟨lk, by omega⟩, lk.1, ?_⟩
    obtain ⟨v2, ev2, r6⟩ := r5.take (il _ _ _ iv)
    cases Option.some.inj (Option.some.inj (ev2.symm.trans ev))
    obtain ⟨_, r7⟩ := r6.ndUnlock
    rw [← hk] at r7
    have hl2 : i < sl'.length := (List.getElem?_eq_some_iff.mp (il _ _ _ iv)).1
    have r8 := R.give (i := i) r7 (by rw [List.getElem?_set_self hl2]) ev2
    rw [List.set_set] at r8
    exact q _ _ _ _ (ie acc sl' iv) (R.unpin (gv := some i) (hv := [.ref a]) (σ0 := σ) r8 hg2 p0)
theorem we_ngetR (h0 : ∃ u, sl[i]? = some (some u)) (h : WE fr pn tmp sl ty fun t2 sl2 => ∃ od es k v, sl2[i]? = some (some (nlT P w od es)) ∧ keyAt t2 k ∧ valV (es.map fun e => (e.1, e.2.2)) k = some v ∧ isLitV v = true ∧ KE (litV v) sl2) : WE fr pn tmp sl (tNGetR P w (tVar i) ty) KE := fun pv tv σ H Q r q => by
  obtain ⟨u, h0⟩ := h0
  obtain ⟨v0, Z0, f0, ev, _⟩ := r.slot h0
  refine ⟨v0, ev, h pv tv σ H _ r fun t2 sl2 x H2 ⟨od, es, k, v, e1, e2, e3, e4, kk⟩ r2 => ?_⟩
  obtain ⟨Z, f, z⟩ := r2.top
  obtain ⟨nk, b, rfl⟩ := e2.nk z
  obtain ⟨v', Z', f', ev', z⟩ := r2.slot e1
  cases Option.some.inj (Option.some.inj (ev.symm.trans ev'))
  obtain ⟨d, rfl, D, _⟩ := z.ndl
  exact ⟨d, b, od, es, k, v, rfl, rfl, D, nk, e2.2.2, e3, q _ sl2 _ H2 kk (r2.pop.lit (lit_litV e4))⟩
theorem we_lenN {kvs : List (NestedKey × V)} (h : sl[i]? = some (some (ndT P w kvs))) (k : KE (.int (kvs.length : Int)) sl) : WE fr pn tmp sl (tCB (fun xs H Q => ∃ a kvs, xs = [V.ref a] ∧ ND P w H a kvs ∧ Q (.int (kvs.length : Int)) H) (tCons (tVar i) tNil)) KE := fun pv tv σ H Q r q => by
  obtain ⟨v, Z, f, ev, z⟩ := r.slot h
  obtain ⟨a, rfl, D, _⟩ := z.ndict
  exact ⟨_, ev, a, kvs, rfl, D, q _ sl _ _ k (r.lit lit_int)⟩
theorem we_ldisp1 (h : WE fr pn (lmT P w [] :: tmp) sl tk fun t2 sl1 => WE fr pn (t2 :: lmT P w [] :: tmp) sl1 te fun t3 sl2 => ∃ k x, t2.leaf = some k ∧ t3 = .int x ∧ KE (lmT P w [(k, x)]) sl2) : WE fr pn tmp sl (tLDisp P w [(tk, te)]) KE := fun pv tv σ H Q r q p hp => by
  have r1 : R fr pn pv (lmT P w [] :: tmp) (.ref p :: tv) sl σ (upd H p (LdO P w p [])) := r.newOwn hp fun Z => lm_rep (d := []) upd_same
  refine h pv (.ref p :: tv) σ _ _ r1 fun t2 sl1 y H1 k1 r2 => k1 pv (y :: .ref p :: tv) σ H1 _ r2 fun t3 sl2 z H2 ⟨k, x, e1, e2, kk⟩ r3 => ?_
  subst e2
  obtain ⟨Z1, f1, z1⟩ := r3.top
  obtain rfl := v_int z1
  obtain ⟨Z2, f2, z2⟩ := r3.pop.top
  obtain rfl := leaf_sound z2 e1
  have r4 := r3.pop.pop
  obtain ⟨Z3, f3, z3⟩ := r4.top
  obtain ⟨a, ea, ha, _⟩ := rep_lm z3
  cases ea
  refine ⟨ha, [(k, .int x)], rfl, (by show 1 ≤ 15; decide), by simp, q _ sl2 _ _ kk ?_⟩
  exact R.rewrite r4 ha rfl (fun Z f z => by obtain ⟨_, e, _, e3⟩ := rep_lm z; cases e; exact e3) fun Z Z' H' _ e _ _ => lm_rep (d := [(k, x)]) e
theorem we_int1 (h : WE fr pn tmp sl te fun t sl1 => ∃ n : Int, t = .int n ∧ KE (.int n) sl1) : WE fr pn tmp sl (tCB (fun xs H Q => (∃ i, xs = [V.int i] ∧ Q (.int i) H) ∨ ∃ k, xs = [V.bl k] ∧ Q (.int (if k then 1 else 0)) H) (tCons te tNil)) KE := fun pv tv σ H Q r q => h pv tv σ H _ r fun t sl1 v H1 ⟨n, e, k⟩ r1 => by
  subst e
  obtain ⟨Z, f, z⟩ := r1.top
  obtain rfl := v_int z
  exact .inl ⟨n, rfl, q _ sl1 _ _ k (r1.pop.lit lit_int)⟩
theorem we_litems1 {t : T} {k : Leaf} {x : Int} (h : sl[i]? = some (some t)) (hl : IsLd P w t [(k, x)]) (kk : KE (.lst true [prL (k, x)]) sl) : WE fr pn tmp sl (tListItems1 P w (tVar i)) KE := fun pv tv σ H Q r q => by
  obtain ⟨v, Z, f, ev, z⟩ := r.slot h
  obtain ⟨a, rfl, D⟩ := hl.sound z
  refine ⟨_, ev, a, k, .int x, rfl, D, fun p u hp hu ne => q _ sl _ _ kk ?_⟩
  have r1 : R fr pn pv ([leafT k, .int x] ++ tmp) ([lV k, .int x] ++ tv) sl σ H := (r.lit (t := .int x) (v := .int x) lit_int).lit (leafT_lit k)
  have r2 := R.mkTup (p := u) r1 rfl hu
  exact R.mkLst (p := p) (ts := [prL (k, x)]) (vs := [.ref u]) r2 rfl (by rw [upd_ne ne]; exact hp)
end
end Rs
set_option maxHeartbeats 16000000
namespace Rs
open PySem L2 PySem.Spec PyProof.Rows
local macro_rules | `(tactic| walk_at "dv nm") => `(tactic| dsimp only [List.set_cons_succ, List.set_cons_zero, hideT])
local macro_rules | `(tactic| walk_at "dv st") => `(tactic| first | rfl | exact kT_still _ | assumption)
local macro_rules | `(tactic| walk_at "dv 1") => `(tactic| first | (with_reducible (first | refine ws_seq ?_ | refine ws_asg ?_ | refine ws_ret ?_ | refine ws_drop ?_ | refine ws_if ?_ | refine ws_next ?_ | refine we_int ?_ | refine we_str ?_ | refine we_bl ?_ | refine we_non ?_ | refine we_tup ?_ | refine we_lst ?_ | refine wa_cons ?_ | refine wa_nil ?_ | refine wo_cons ?_ | refine wo_nil ?_ | refine wt_test ?_ | refine wt_B ?_ | refine wt_not ?_ | refine wt_and ?_ | refine wt_or ?_ | refine we_if ?_ | refine we_notV ?_ | refine we_andV ?_ | refine we_orV ?_ | refine we_dnew ?_ | refine wb_var ⟨_, rfl⟩ ?_)) | ((with_reducible refine' wg_name ?h1 ?h2 ?_); (case h1 => exact Nat.le_of_ble_eq_true rfl); (case h2 => decide); (walk_at "dv nm")) | ((with_reducible refine' we_var ?h ?s ?_); (case' h => rfl); (case s => walk_at "dv st")) | ((with_reducible refine' size_and ?sz ?_); (case sz => rw [sizeLine_eq]; exact Nat.le_of_ble_eq_true rfl)) | (with_reducible refine wb_of ?_))
local macro_rules | `(tactic| walk_at "dv") => `(tactic| repeat (walk_at "dv 1"))
local macro_rules | `(tactic| walk_at "wn") => `(tactic| ((refine wg_name (Nat.le_of_ble_eq_true rfl) (by decide) ?_); (walk_at "dv nm")))
abbrev sLli : Stmt := top 27
def krT : Kr → T
  | .lt k => .tup [.str "letter", .str "read", .int (k : Int)]
  | .op o ps => .tup [.str "op", .str o, .tup (natT ps)]
theorem krT_still : ∀ r, (krT r).still = true
  | .lt k => rfl
  | .op o ps => by
    show (true && (true && (stillA (natT ps) && true))) = true
    rw [natT_still]
    rfl
theorem krs_still : ∀ R : List Kr, stillA (R.map krT) = true
  | [] => rfl
  | r :: q => by
    rw [List.map_cons]
    unfold stillA
    rw [krT_still, krs_still q]
    rfl
theorem krT_at {R : List Kr} {n : Nat} {r : Kr} (h : R[n]? = some r) : atI (R.map krT) (n : Int) = some (krT r) := atI_nat (by rw [List.getElem?_map, h]; rfl)
def gLf (i : Leaf) : Nat := match i with
  | .num i => i.toNat + 1
  | _ => 0
theorem LdOk.few {d : Ld} {l : Ln} (h : LdOk d l) {N : Nat} (hl : l.Lt N) : d.length ≤ N + 1 := by
  have nd : ((d.map (·.1)).map gLf).Nodup := by
    have key : ∀ ks : List Leaf, ks.Nodup → (∀ k ∈ ks, ∃ x, k = lfO x) → (ks.map gLf).Nodup := fun ks => by
      induction ks with
      | nil => exact fun _ _ => List.nodup_nil
      | cons k r ih =>
        intro hn hk
        rw [List.nodup_cons] at hn
        rw [List.map_cons, List.nodup_cons]
        refine ⟨fun z => ?_, ih hn.2 fun x hx => hk x (List.mem_cons_of_mem _ hx)⟩
        obtain ⟨q, hq, e⟩ := List.mem_map.mp z
        obtain ⟨x, rfl⟩ := hk k List.mem_cons_self
        obtain ⟨y, rfl⟩ := hk q (List.mem_cons_of_mem _ hq)
        have : y = x := by
          cases x <;> cases y
          · rfl
          · simp [gLf, lfO] at e
          · simp [gLf, lfO] at e
          · simp [gLf, lfO] at e
            rw [e]
        rw [this] at hq
        exact hn.1 hq
    exact key _ h.nd h.leaf
  have lt : ∀ x ∈ (d.map (·.1)).map gLf, x < N + 1 := fun x hx => by
    obtain ⟨k, hk, rfl⟩ := List.mem_map.mp hx
    obtain ⟨y, rfl⟩ := h.leaf k hk
    cases y with
    | none => exact Nat.succ_pos _
    | some n =>
      obtain ⟨p, hp, ep⟩ := List.mem_map.mp hk
      have v := h.val (some n)
      have : ldv d (lfO (some n)) = p.2 := by unfold ldv; rw [← ep, lkD_mem h.nd hp]; rfl
      rw [this] at v
      have nz := h.nz p hp
      have hm : ∃ q ∈ l.ts, q.1 = n := Classical.byContradiction fun z => nz (by
        rw [v]
        exact vl_zero fun q hq e => z ⟨q, hq, e⟩)
      obtain ⟨q, hq, e⟩ := hm
      have := hl q hq
      show Int.toNat (n : Int) + 1 < N + 1
      rw [Int.toNat_natCast]
      omega
  have := keys_few nd lt
  rwa [List.length_map, List.length_map] at this
theorem LdOk.nil : LdOk [] ⟨0, []⟩ := ⟨List.nodup_nil, fun p h => (nomatch h), fun k h => (nomatch h), fun x => by cases x <;> rfl, zero_nf⟩
theorem LdOk.cst {n : Int} (h : n ≠ 0) : LdOk [(.none, n)] ⟨n, []⟩ := ⟨by simp, fun p hp => by rw [List.mem_singleton.mp hp]; exact h, fun k hk => ⟨none, List.mem_singleton.mp hk⟩, fun x => by
  cases x with
  | none => rfl
  | some m => rfl, const_nf n⟩
theorem LdOk.one (i : Nat) : LdOk [(.num (i : Int), 1)] (unit i) := ⟨by simp, fun p hp => by rw [List.mem_singleton.mp hp]; exact Int.one_ne_zero, fun k hk => ⟨some i, List.mem_singleton.mp hk⟩, fun x => by
  rw [ldv_cons]
  cases x with
  | none => rfl
  | some m =>
    show (if Leaf.num (i : Int) = Leaf.num (m : Int) then (1 : Int) else ldv [] (lfO (some m))) = vl [(i, 1)] m
    rw [vl_cons]
    by_cases e : m = i
    · rw [if_pos (by rw [e]), if_pos e]
    · rw [if_neg (fun z => e (by injection z with z; omega)), if_neg e]
      rfl, unit_nf i⟩
inductive LdAll : List (Obj × Ld) → List Ln → Prop
  | nil : LdAll [] []
  | cons {p : Obj × Ld} {l : Ln} {ps : List (Obj × Ld)} {ls : List Ln} : LdOk p.2 l → LdAll ps ls → LdAll (p :: ps) (l :: ls)
theorem LdAll.snoc {p : Obj × Ld} {l : Ln} (h : LdOk p.2 l) : ∀ {ps : List (Obj × Ld)} {ls : List Ln}, LdAll ps ls → LdAll (ps ++ [p]) (ls ++ [l])
  | _, _, .nil => .cons h .nil
  | _, _, .cons a b => .cons a (b.snoc h)
theorem LdAll.len : ∀ {ps : List (Obj × Ld)} {ls : List Ln}, LdAll ps ls → ps.length = ls.length
  | _, _, .nil => rfl
  | _, _, .cons _ b => congrArg (· + 1) b.len
theorem LdAll.nth : ∀ {ps : List (Obj × Ld)} {ls : List Ln} {i : Nat}, LdAll ps ls → i < ps.length → ∃ p l, ps[i]? = some p ∧ ls[i]? = some l ∧ LdOk p.2 l
  | _, _, _, .nil, h => absurd h (Nat.not_lt_zero _)
  | _, _, 0, .cons a b, _ => ⟨_, _, rfl, rfl, a⟩
  | _, _, i + 1, .cons a b, h => b.nth (i := i) (Nat.lt_of_succ_lt_succ h)
theorem LdAll.two {ds : List (Obj × Ld)} {ls : List Ln} (h : LdAll ds ls) (hl : ls.length = 2) : ∃ p q a b, ds = [p, q] ∧ ls = [a, b] ∧ LdOk p.2 a ∧ LdOk q.2 b := by
  cases h with
  | nil => cases hl
  | cons ha t =>
    cases t with
    | nil => cases hl
    | cons hb t2 =>
      cases t2 with
      | nil => exact ⟨_, _, _, _, rfl, rfl, ha, hb⟩
      | cons _ _ => simp at hl
theorem LdAll.single {ds : List (Obj × Ld)} {ls : List Ln} (h : LdAll ds ls) (hl : ls.length = 1) : ∃ p a, ds = [p] ∧ ls = [a] ∧ LdOk p.2 a := by
  cases h with
  | nil => cases hl
  | cons ha t =>
    cases t with
    | nil => exact ⟨_, _, rfl, rfl, ha⟩
    | cons _ _ => simp at hl
def lpT (P : Program) (w : World) (p : Obj × Ld) : T := ldT P w false p.1 p.2
theorem lpTs_still {P : Program} {w : World} : ∀ ps : List (Obj × Ld), stillA (ps.map (lpT P w)) = true
  | [] => rfl
  | p :: r => by
    rw [List.map_cons]
    unfold stillA
    rw [lpTs_still r]
    rfl
structure FoOk (P : Program) (w : World) (R : List Kr) (B : List Nm) (kvs : List (Key × T)) : Prop where
  ki : KI R.length kvs
  val : ∀ (n : Nat) (t : T), valT kvs (.inl (n : Int)) = some t → ∃ o d l, t = ldT P w false o d ∧ LdOk d l ∧ Ev sumL R B n l
theorem FoOk.ext {P : Program} {w : World} {R : List Kr} {B B' : List Nm} {kvs : List (Key × T)} (h : FoOk P w R B kvs) (x : Ext B B') : FoOk P w R B' kvs := ⟨h.ki, fun n t e => by
  obtain ⟨o, d, l, a, b, c⟩ := h.val n t e
  exact ⟨o, d, l, a, b, c.ext x⟩⟩
theorem FoOk.put {P : Program} {w : World} {R : List Kr} {B : List Nm} {kvs : List (Key × T)} (h : FoOk P w R B kvs) {n : Nat} (hn : n < R.length) {o : Obj} {d : Ld} {l : Ln} (hd : LdOk d l) (e : Ev sumL R B n l) : FoOk P w R B (putT kvs (.inl (n : Int)) (ldT P w false o d)) :=
  ⟨h.ki.put hn rfl, fun m t hm => by
    rw [val_put] at hm
    split at hm
    · rename_i c
      cases hm
      subst c
      exact ⟨o, d, l, rfl, hd, e⟩
    · exact h.val m t hm⟩
theorem put_len {kvs : List (Key × T)} {n : Nat} {t : T} (h : valT kvs (.inl (n : Int)) = none) : (putT kvs (.inl (n : Int)) t).length = kvs.length + 1 := by
  unfold putT
  rw [if_neg, List.length_append]
  · rfl
  · intro z
    unfold valT at h
    rw [Option.map_eq_none_iff, List.find?_eq_none] at h
    rw [List.any_eq_true] at z
    obtain ⟨p, hp, e⟩ := z
    exact h p hp e
abbrev keysT (o : Bool) (R : List Kr) : T := .lst o (R.map krT)
abbrev atomsT (P : Program) (w : World) (B : List Nm) : T := ndT P w (kvsOf (B.map nmK) 0)
def Known (kvs : List (Key × T)) (n : Nat) : Prop := (valT kvs (.inl (n : Int))).isSome = true
def gLl (P : Program) (w : World) (m : Nat) (ts : List T) (K : T → List T → Prop) : Prop := ∃ (ob : Bool) (R : List Kr) (B : List Nm) (kvs : List (Key × T)) (n : Nat), ts = [keysT ob R, .int (n : Int), atomsT P w B, .dk true kvs] ∧ RkK R ∧ R.length ≤ 40 ∧ B.Nodup ∧ B.length ≤ kvs.length ∧ FoOk P w R B kvs ∧ n < R.length ∧ n < m ∧
  ∀ (B' : List Nm) (kvs' : List (Key × T)) (o : Obj) (d : Ld) (l : Ln), Vis sumL R B n B' → B'.Nodup → B'.length ≤ kvs'.length → FoOk P w R B' kvs' → LdOk d l → Ev sumL R B' n l → (∀ j, Known kvs j → Known kvs' j) → (∀ j, Known kvs' j → Known kvs j ∨ j ≤ n) → valT kvs' (.inl (n : Int)) = some (ldT P w false o d) →
    K (ldT P w false o d) [keysT ob R, .int (n : Int), atomsT P w B', .dk true kvs']
theorem mono_ll {P : Program} {w : World} {m : Nat} : Mono (gLl P w m) := fun ts K K' h ⟨ob, R, B, kvs, n, e, e0, e1, e2, e3, e4, e5, e6, k⟩ => ⟨ob, R, B, kvs, n, e, e0, e1, e2, e3, e4, e5, e6, fun B' kvs' o d l a1 a2 a3 a4 a5 a6 a7 a8 a9 => h _ _ (k B' kvs' o d l a1 a2 a3 a4 a5 a6 a7 a8 a9)⟩
theorem nmK_at (n : Nm) : keyAt (kT (nmK n)) (nmK n) := ⟨rfl, nmK_tup n, nmK_depth n⟩
theorem natoms (B : List Nm) : (kvsOf (B.map nmK) 0).length = B.length := by rw [kvsOf_len, List.length_map]
theorem nmK_nd {B : List Nm} (h : B.Nodup) : (B.map nmK).Nodup := List.Pairwise.map _ (fun a b hab z => hab (nmK_inj _ _ z)) h
theorem atoms_val {B : List Nm} (h : B.Nodup) {n : Nm} {i : Nat} (hi : B[i]? = some n) : valV (kvsOf (B.map nmK) 0) (nmK n) = some (.int (i : Int)) := by
  have := kvsOf_at (n := 0) (nmK_nd h) (show (B.map nmK)[i]? = some (nmK n) by rw [List.getElem?_map, hi]; rfl)
  rwa [Nat.zero_add] at this
theorem atoms_none {B : List Nm} {n : Nm} (h : n ∉ B) : valV (kvsOf (B.map nmK) 0) (nmK n) = none := kvsOf_none fun z => h ((mem_map_inj nmK_inj).mp z)
theorem atoms_put {B : List Nm} {n : Nm} (h : n ∉ B) : putK (kvsOf (B.map nmK) 0) (nmK n) (.int (B.length : Int)) = kvsOf ((B ++ [n]).map nmK) 0 := by
  have := kvsOf_put (L := B.map nmK) (k := nmK n) fun z => h ((mem_map_inj nmK_inj).mp z)
  rw [List.length_map] at this
  rw [this, List.map_append]
  rfl
theorem idx_add' (B : List Nm) (n : Nm) : idxN (addN B n) n = some (B.idxOf n) := by
  by_cases e : n ∈ B
  · unfold addN idxN
    rw [if_pos e, if_pos e]
  · unfold addN idxN
    rw [if_neg e, if_pos (by simp), List.idxOf_append, if_neg e, List.idxOf_eq_length e]
    simp
abbrev llSl (P : Program) (w : World) (ob : Bool) (R : List Kr) (n : Nat) (B : List Nm) (kvs : List (Key × T)) (x4 x6 x7 x8 : Option T) : Sl :=
  [some (keysT ob R), some (.int (n : Int)), some (atomsT P w B), some (.dk true kvs), x4, none, x6, x7, x8]
theorem inV_add (o : Str) : inV (.str o) [.str "add", .str "sub"] = decide (o ∈ [addS, subS]) := inV_two o addS subS
def digS : Str := "0123456789"
theorem ops_class {o : Str} {k : Nat} (h : (o, k) ∈ opsL) : (o ∈ [addS, subS] ∧ k = 2) ∨ (o = negS ∧ k = 1) ∨
    (o ∉ [addS, subS] ∧ o ≠ negS ∧ k = 0 ∧ o.length ≤ 640 ∧ ∃ (v : Int) (c : Nat), PySem.intText? o = some v ∧ Txt.isdigit o = true ∧ atI o.cps.toList 0 = some c ∧ c ∈ digS.cps.toList) ∨
    (o ∉ [addS, subS] ∧ o ≠ negS ∧ o.length ≤ 640 ∧ (∃ c : Nat, atI o.cps.toList 0 = some c ∧ c ∉ digS.cps.toList) ∧ ∀ ls : List Ln, ls.length = k → sumL o ls = none) := by
  have hn : isReal o k = false → ∀ ls : List Ln, ls.length = k → sumL o ls = none := fun z ls hl => by
    have := real_iff (o := o) (ls := ls) (by rw [hl]; exact h)
    rw [hl, z] at this
    cases hs : sumL o ls with
    | none => rfl
    | some l => rw [hs] at this; cases this
  have h' := h
  unfold opsL at h'
  simp only [List.mem_cons, List.not_mem_nil, or_false, Prod.mk.injEq] at h'
  rcases h' with ⟨rfl, rfl⟩ | ⟨rfl, rfl⟩ | ⟨rfl, rfl⟩ | ⟨rfl, rfl⟩ | ⟨rfl, rfl⟩ | ⟨rfl, rfl⟩ | ⟨rfl, rfl⟩ | ⟨rfl, rfl⟩ | ⟨rfl, rfl⟩
  · exact .inl ⟨by decide +kernel, rfl⟩
  · exact .inl ⟨by decide +kernel, rfl⟩
  · exact .inr (.inl ⟨by decide +kernel, rfl⟩)
  · exact .inr (.inr (.inl ⟨by decide +kernel, by decide +kernel, rfl, by decide +kernel, 7, 55, by decide +kernel, by decide +kernel, by decide +kernel, by decide +kernel⟩))
  · exact .inr (.inr (.inl ⟨by decide +kernel, by decide +kernel, rfl, by decide +kernel, 0, 48, by decide +kernel, by decide +kernel, by decide +kernel, by decide +kernel⟩))
  · exact .inr (.inr (.inr ⟨by decide +kernel, by decide +kernel, by decide +kernel, ⟨102, by decide +kernel, by decide +kernel⟩, hn (by decide +kernel)⟩))
  · exact .inr (.inr (.inr ⟨by decide +kernel, by decide +kernel, by decide +kernel, ⟨103, by decide +kernel, by decide +kernel⟩, hn (by decide +kernel)⟩))
  · exact .inr (.inr (.inr ⟨by decide +kernel, by decide +kernel, by decide +kernel, ⟨104, by decide +kernel, by decide +kernel⟩, hn (by decide +kernel)⟩))
  · exact .inr (.inr (.inr ⟨by decide +kernel, by decide +kernel, by decide +kernel, ⟨107, by decide +kernel, by decide +kernel⟩, hn (by decide +kernel)⟩))
section
variable {P : Program} {w : World} {K : PySem.W.Frag} {mg : Str → Option Value} {base : Heap}
structure TxtLl (mg : Str → Option Value) : Prop where
  len : mg "len" = none
  int : mg "int" = none
  tuple : mg "tuple" = none
theorem ll_tail {fr : Fr} {Kc : KS} {ob : Bool} {R : List Kr} {n : Nat} {B : List Nm} {kvs : List (Key × T)} {x4 x6 x7 : Option T} (nm : Nm) (ndB : B.Nodup) (hB : B.length ≤ 40) (hs : stillK kvs = true) (hl : kvs.length ≤ 40)
    (k : ∀ o, Kc.nx (llSl P w ob R n (addN B nm) (putT kvs (.inl (n : Int)) (ldT P w false o [(.num (B.idxOf nm : Int), 1)])) x4 x6 x7 (some (kT (nmK nm))))) :
    WS fr [0, 1, 2, 3] [] (llSl P w ob R n B kvs x4 x6 x7 (some (kT (nmK nm)))) (tSeq (tDrop (tNSetd P w (tVar 2) (tVar 8) (tCB (fun xs H Q => ∃ a kvs, xs = [V.ref a] ∧ ND P w H a kvs ∧ Q (.int (kvs.length : Int)) H) (tCons (tVar 2) tNil)))) (sDPut (tVar 3) (tVar 1) (tFrz (tLDisp P w [(tNGet P w (tVar 2) (tVar 8), tC (.int 1))])))) Kc := by
  refine ws_seqM (fun sl => sl = llSl P w ob R n (addN B nm) kvs x4 x6 x7 (some (kT (nmK nm)))) ?_ ?_
  · have hz : (kvsOf (B.map nmK) 0).length < sizeLine := by rw [natoms, sizeLine_eq]; omega
    refine ws_drop (we_nsetd ⟨_, rfl⟩ (we_var rfl (kT_still _) (we_lenN rfl ⟨_, nmK nm, .int (B.length : Int), rfl, nmK_at nm, by rw [natoms]; rfl, rfl, hz, fun v0 hv0 => ?_, fun hno => ?_⟩)))
    · by_cases hm : nm ∈ B
      · rw [atoms_val ndB (i := B.idxOf nm) (by rw [List.getElem?_eq_getElem (List.idxOf_lt_length_iff.mpr hm), List.getElem_idxOf])] at hv0
        cases hv0
        refine ⟨rfl, ?_⟩
        unfold addN
        rw [if_pos hm]
      · rw [atoms_none hm] at hv0
        cases hv0
    · by_cases hm : nm ∈ B
      · rw [atoms_val ndB (i := B.idxOf nm) (by rw [List.getElem?_eq_getElem (List.idxOf_lt_length_iff.mpr hm), List.getElem_idxOf])] at hno
        cases hno
      · rw [atoms_put hm]
        unfold addN
        rw [if_neg hm]
        rfl
  rintro sl rfl
  have hi : (addN B nm)[B.idxOf nm]? = some nm := (idxN_at (addN_nd ndB nm)).mp (idx_add' B nm)
  refine ws_dput (we_still (we_frz (P := P) (w := w) (we_ldisp1 (we_nget ⟨_, rfl⟩ (we_var rfl (kT_still _) ⟨_, nmK nm, .int (B.idxOf nm : Int), rfl, nmK_at _, atoms_val (addN_nd ndB nm) hi, rfl, ?_⟩)))))
  refine we_int ⟨.num (B.idxOf nm : Int), 1, rfl, rfl, _, rfl, fun o => ⟨rfl, ⟨_, rfl⟩, we_var rfl rfl ⟨kvs, .inl (n : Int), rfl, rfl, rfl, hs, by rw [sizeLine_eq]; omega, ?_⟩⟩⟩
  exact k o
theorem scLli : FnScope ["keys", "at", "atoms", "found", "key", "part", "parts", "size", "name"] ["keys", "at", "atoms", "found"] (defScope sLli) := ⟨rfl, rfl, rfl, by decide +kernel, rfl, by decide +kernel, by decide +kernel⟩
theorem ok_lli {f fPl fTl : Addr} {fd fdPl fdTl : FuncData} (F : Fun K "_law_linear" "_law_linear" sLli f fd) (TX : TxtLl mg) (mM : mg "_law_linear" = some (.ref f)) (kM : PySem.W.keepIn K (.ref f) = true) (bM : Binds K fd ["keys", "at", "atoms", "found"] [])
    (GPl : FnOk P w K mg base CX0 1 fPl fdPl ["one", "other", "many"] (spT (gPl P w))) (mPl : mg "_law_plus" = some (.ref fPl)) (kPl : PySem.W.keepIn K (.ref fPl) = true) (bPl : Binds K fdPl ["one", "other", "many"] [])
    (GTl : FnOk P w K mg base CX0 1 fTl fdTl ["one"] (spT (gTl P w))) (mTl : mg "_law_told_linear" = some (.ref fTl)) (kTl : PySem.W.keepIn K (.ref fTl) = true) (bTl : Binds K fdTl ["one"] []) :
    ∀ m, FnOk P w K mg base CX0 (m + 2) f fd ["keys", "at", "atoms", "found"] (spT (gLl P w m))
  | 0 => F.ok scLli (fun vs H Q E h => spT_len h fun ts K ⟨_, _, _, _, _, e, _⟩ => by rw [e]; rfl) (fun cdv A outer s H vs Q E hr h => by
      obtain ⟨_, _, _, _, _, _, _, _, _, _, _, _, _, _, _, _, _, _, e, _⟩ := h
      exact absurd e (Nat.not_lt_zero _))
  | m + 1 => by
    have GM := ok_lli F TX mM kM bM GPl mPl kPl bPl GTl mTl kTl bTl m
    have hlen : ∀ ts K, gLl P w (m + 1) ts K → ts.length = 4 := fun ts K ⟨_, _, _, _, _, e, _⟩ => by rw [e]; rfl
    refine F.ok scLli (fun vs H Q E h => spT_len h hlen) (fun cdv A outer s H vs Q E hr h => ?_)
    have nd := scLli.nd
    have hu1 := hu_of hr
    refine ⟨_, (Evl.pss_cut (ps_if (pt_cmp (pc_dnotin hu1 (pv 1) (pv 3))) (pss_cons (ps_set (i := 4) nd rfl (Or.inl rfl) (pe_ix ix_list (pv 0) (pv 1) (fun _ _ => rfl))) (pss_cons (ps_set (i := 6) nd rfl (Or.inl rfl) (pe_ifExp (pt_cmpR op_eq (pe_ix ix_tup (pv 4) pe_int (fun _ _ => rfl)) pe_str (nomark _)) (pe_lc (own := [("part", 5)]) (g := (gName 5)) (tt := tYes) rfl nd (pi_tup (pe_ix ix_tup (pv 4) pe_int (fun _ _ => rfl))) (blkOk_by (N := ["keys", "at", "atoms", "found", "key", "part", "parts", "size", "name"]) (sc := defScope sLli) (by decide +kernel)) (fun _ _ _ _ _ => (pg_name (i := 5) nd rfl (Or.inl rfl))) (fun _ _ _ _ _ => pts_nil) (fun _ _ _ _ _ => (pe_call (E := E0) GM (hr.mono (by omega)) rfl mM kM bM .nil pass0 (pa_cons (pv 0) (pa_cons (pv 5) (pa_cons (pv 2) (pa_cons (pv 3) pa_nil))))))) (pe_lst pa_nil))) (pss_cons (ps_set (i := 7) nd rfl (Or.inl rfl) (pe_callB (c_lenK (K := K) rfl) (by rfl) TX.len PySem.boot_len (pa_cons (pv 6) pa_nil))) (pss_one (ps_if (PW.pt (pw_and (pt_cmpR op_eq (pe_ix ix_tup (pv 4) pe_int (fun _ _ => rfl)) pe_str (nomark _)) (pw_and (pt_cmpR op_in_seq (pe_ix ix_tup (pv 4) pe_int (fun _ _ => rfl)) (pe_tup (pa_cons pe_str (pa_cons pe_str pa_nil))) rfl) (pw_and1 (pt_cmpR op_eq (pv 7) pe_int (nomark _)))))) (pss_one (ps_dput hu1 (pv 3) (pv 1) (pe_call (E := E0) GPl (hr.mono (by omega)) rfl mPl kPl bPl .nil pass0 (pa_cons (pe_ix ix_list (pv 6) pe_int (fun _ _ => rfl)) (pa_cons (pe_ix ix_list (pv 6) pe_int (fun _ _ => rfl)) (pa_cons (pe_ifExp (pt_cmpR op_eq (pe_ix ix_tup (pv 4) pe_int (fun _ _ => rfl)) pe_str (nomark _)) pe_int (pe_un un_neg pe_int)) pa_nil)))) (by rfl))) (pss_one (ps_if (PW.pt (pw_and (pt_cmpR op_eq (pe_ix ix_tup (pv 4) pe_int (fun _ _ => rfl)) pe_str (nomark _)) (pw_and (pt_cmpR op_eq (pe_ix ix_tup (pv 4) pe_int (fun _ _ => rfl)) pe_str (nomark _)) (pw_and1 (pt_cmpR op_eq (pv 7) pe_int (nomark _)))))) (pss_one (ps_dput hu1 (pv 3) (pv 1) (pe_call (E := E0) GPl (hr.mono (by omega)) rfl mPl kPl bPl .nil pass0 (pa_cons (pe_frz (pe_lnew (P := P) (w := w) rfl rfl)) (pa_cons (pe_ix ix_list (pv 6) pe_int (fun _ _ => rfl)) (pa_cons (pe_un un_neg pe_int) pa_nil)))) (by rfl))) (pss_one (ps_if (PW.pt (pw_and (pt_cmpR op_eq (pe_ix ix_tup (pv 4) pe_int (fun _ _ => rfl)) pe_str (nomark _)) (pw_and (pt_cmpR op_inS (pe_ix ix_str (pe_ix ix_tup (pv 4) pe_int (fun _ _ => rfl)) pe_int (fun _ _ => rfl)) pe_str rfl) (pw_and1 (pt_cmpR op_eq (pv 7) pe_int (nomark _)))))) (pss_one (ps_dput hu1 (pv 3) (pv 1) (pe_ifExp (pt_cmpR op_ne (pe_callTy call_int_str (by rfl) TX.int (by decide +kernel) (pa_cons (pe_ix ix_tup (pv 4) pe_int (fun _ _ => rfl)) pa_nil)) pe_int (nomark _)) (pe_frz (pe_ldisp (P := P) (w := w) rfl rfl (pps_cons pe_non (pe_callTy call_int_str (by rfl) TX.int (by decide +kernel) (pa_cons (pe_ix ix_tup (pv 4) pe_int (fun _ _ => rfl)) pa_nil)) pps_nil) (by rfl) (by rfl) (fun z => by cases z) (by decide))) (pe_frz (pe_lnew (P := P) (w := w) rfl rfl))) (by rfl))) (pss_cons (ps_set (i := 8) nd rfl (Or.inl rfl) (pe_ifExp (pt_cmpR op_eq (pe_ix ix_tup (pv 4) pe_int (fun _ _ => rfl)) pe_str (nomark _)) (pv 4) (pe_tup (pa_cons pe_str (pa_cons (pe_ix ix_tup (pv 4) pe_int (fun _ _ => rfl)) (pa_cons (pe_callTy (c_tupK (K := K) rfl) (by rfl) TX.tuple (by decide +kernel) (pa_cons (pe_lc (own := [("part", 5)]) (g := (gName 5)) (tt := tYes) rfl nd (pi_list (pv 6)) (blkOk_by (N := ["keys", "at", "atoms", "found", "key", "part", "parts", "size", "name"]) (sc := defScope sLli) (by decide +kernel)) (fun _ _ _ _ _ => (pg_name (i := 5) nd rfl (Or.inl rfl))) (fun _ _ _ _ _ => pts_nil) (fun _ _ _ _ _ => (pe_call (E := E0) GTl (hr.mono (by omega)) rfl mTl kTl bTl .nil pass0 (pa_cons (pv 5) pa_nil)))) pa_nil)) pa_nil)))))) (pss_cons (ps_expr (pe_nsetd (P := P) (w := w) rfl rfl hr.units (pv 2) (pv 8) (pe_callB (c_lenN (P := P) (w := w) rfl rfl) (by rfl) TX.len PySem.boot_len (pa_cons (pv 2) pa_nil)) ⟨rfl, rfl, rfl, rfl⟩)) (pss_one (ps_dput hu1 (pv 3) (pv 1) (pe_frz (pe_ldisp (P := P) (w := w) rfl rfl (pps_cons (pe_ngetP (P := P) (w := w) rfl rfl hr.units (pv 2) (pv 8) (fun _ _ => rfl)) pe_int pps_nil) (by rfl) (by rfl) (fun z => by cases z) (by decide))) (by rfl)))))))))))))) pss_nil) (pss_one (ps_ret (pe_dget hu1 (pv 3) (pv 1) (fun _ _ => rfl))))), ?_⟩
    refine body_run (n := 4) 5 (by rw [spT_len h hlen]; rfl) h (spT_len h hlen).symm fun fr ts K ⟨ob, R, B, kvs, n, e, rk, h40, ndB, hB, fo, hn, hm, k⟩ => ?_
    subst e
    show WS fr [0, 1, 2, 3] [] (llSl P w ob R n B kvs none none none none) _ _
    have skey := krs_still R
    refine ws_cut (fun sl => ∃ (B' : List Nm) (kvs' : List (Key × T)) (o : Obj) (d : Ld) (l : Ln) (x4 x6 x7 x8 : Option T), Vis sumL R B n B' ∧ B'.Nodup ∧ B'.length ≤ kvs'.length ∧ FoOk P w R B' kvs' ∧ LdOk d l ∧ Ev sumL R B' n l ∧ (∀ j, Known kvs j → Known kvs' j) ∧ (∀ j, Known kvs' j → Known kvs j ∨ j ≤ n) ∧ valT kvs' (.inl (n : Int)) = some (ldT P w false o d) ∧ sl = llSl P w ob R n B' kvs' x4 x6 x7 x8) ?_ ?_
    · walk_at "dv"
      refine we_dnotin (we_var rfl rfl ⟨_, _, .inl (n : Int), rfl, rfl, rfl, _, rfl, ?_⟩)
      cases hv : valT kvs (.inl (n : Int)) with
      | some t =>
        refine if_no rfl ?_
        walk_at "dv"
        obtain ⟨o, d, l, rfl, a, b⟩ := fo.val n t hv
        exact ⟨B, kvs, o, d, l, _, _, _, _, b.vis, ndB, hB, fo, a, b, fun _ h => h, fun _ h => .inl h, hv, rfl⟩
      | none =>
        refine if_yes rfl ?_
        obtain ⟨r, hr⟩ : ∃ r, R[n]? = some r := ⟨R[n], List.getElem?_eq_getElem hn⟩
        refine ws_seq (ws_asg (we_ixL (wb_var ⟨_, rfl⟩ (we_var rfl rfl ⟨_, _, _, krT r, rfl, rfl, krT_at hr, krT_still r, ?_⟩))))
        walk_at "wn"
        have kl := fo.ki.len
        cases r with
        | lt c =>
          have k0 : atI [T.str "letter", .str "read", .int (c : Int)] 0 = some (.str "letter") := rfl
          refine ws_seq (ws_asg (we_if (wt_test (we_op2 op2_eq (wb_of (we_ixT (wb_var ⟨_, rfl⟩ (we_int ⟨_, (0 : Int), .str "letter", rfl, rfl, rfl, rfl, ?_⟩))))))))
          refine wb_of (we_str ⟨_, _, rfl, rfl, _, .str _ _, _, rfl, ?_⟩)
          refine if_no (by decide +kernel) ?_
          refine we_lst (wa_nil ⟨Nat.zero_le _, ?_⟩)
          walk_at "wn"
          refine ws_seq (ws_asg (we_len (wb_var ⟨_, rfl⟩ ⟨_, _, rfl, rfl, ?_⟩)))
          walk_at "wn"
          refine ws_if (wt_and (wt_test (we_op2 op2_eq (wb_of (we_ixT (wb_var ⟨_, rfl⟩ (we_int ⟨_, (0 : Int), .str "letter", rfl, rfl, rfl, rfl, ?_⟩)))))))
          refine wb_of (we_str ⟨_, _, rfl, rfl, _, .str _ _, _, rfl, ?_⟩)
          refine if_no (by decide +kernel) (if_no rfl ?_)
          refine ws_if (wt_and (wt_test (we_op2 op2_eq (wb_of (we_ixT (wb_var ⟨_, rfl⟩ (we_int ⟨_, (0 : Int), .str "letter", rfl, rfl, rfl, rfl, ?_⟩)))))))
          refine wb_of (we_str ⟨_, _, rfl, rfl, _, .str _ _, _, rfl, ?_⟩)
          refine if_no (by decide +kernel) (if_no rfl ?_)
          refine ws_if (wt_and (wt_test (we_op2 op2_eq (wb_of (we_ixT (wb_var ⟨_, rfl⟩ (we_int ⟨_, (0 : Int), .str "letter", rfl, rfl, rfl, rfl, ?_⟩)))))))
          refine wb_of (we_str ⟨_, _, rfl, rfl, _, .str _ _, _, rfl, ?_⟩)
          refine if_no (by decide +kernel) (if_no rfl ?_)
          refine ws_seq (ws_asg (we_if (wt_test (we_op2 op2_eq (wb_of (we_ixT (wb_var ⟨_, rfl⟩ (we_int ⟨_, (0 : Int), .str "letter", rfl, rfl, rfl, rfl, ?_⟩))))))))
          refine wb_of (we_str ⟨_, _, rfl, rfl, _, .str _ _, _, rfl, ?_⟩)
          refine if_yes (by decide +kernel) ?_
          refine we_var (t := kT (nmK (.lt c))) rfl (kT_still _) ?_
          walk_at "wn"
          refine ll_tail (.lt c) ndB (by omega) fo.ki.still (by omega) fun o => ?_
          have fo2 := (fo.ext (addN_ext B (.lt c))).put hn (o := o) (LdOk.one (B.idxOf (.lt c))) (.lt hr (idx_add' _ _))
          have bl := addN_len B (.lt c)
          refine ⟨_, _, o, _, _, _, _, _, _, .lt hr, addN_nd ndB _, by rw [put_len hv]; omega, fo2, .one _, .lt hr (idx_add' _ _), fun j h => ?_, fun j h => ?_, by rw [val_put, if_pos rfl], rfl⟩
          · unfold Known at h ⊢
            rw [val_put]
            split
            · rfl
            · exact h
          · unfold Known at h ⊢
            rw [val_put] at h
            split at h
            · exact .inr (by omega)
            · exact .inl h
        | op o ps =>
          obtain ⟨hop, hps⟩ := rk n o ps hr
          have sp := natT_still ps
          have stp : (T.tup (natT ps)).still = true := by unfold T.still; exact sp
          obtain ⟨hol, h3⟩ := ops_short hop
          refine ws_seqM (fun sl => ∃ (B1 : List Nm) (kvs1 : List (Key × T)) (ds : List (Obj × Ld)) (ls : List Ln), Viss sumL R B ps B1 ∧ B1.Nodup ∧ B1.length ≤ kvs1.length ∧ FoOk P w R B1 kvs1 ∧ LdAll ds ls ∧ Evs sumL R B1 ps ls ∧ (∀ j, Known kvs j → Known kvs1 j) ∧ (∀ j, Known kvs1 j → Known kvs j ∨ j < n) ∧
            sl = llSl P w ob R n B1 kvs1 (some (krT (.op o ps))) (some (.lst true (ds.map (lpT P w)))) none none) ?_ ?_
          · refine ws_asg (we_if (wt_test (we_op2 op2_eq (wb_of (we_ixT (wb_var ⟨_, rfl⟩ (we_int ⟨_, (0 : Int), .str "op", rfl, rfl, rfl, rfl, ?_⟩)))))))
            refine wb_of (we_str ⟨_, _, rfl, rfl, _, .str _ _, _, rfl, ?_⟩)
            refine if_yes (by decide +kernel) ?_
            refine we_lc (gown_name (by decide)) (wi_tup (we_ixT (wb_var ⟨_, rfl⟩ (we_int ⟨_, (2 : Int), .tup (natT ps), rfl, rfl, rfl, stp, ?_⟩))))
            refine ⟨_, rfl, sp, fun j hj => by revert hj; simp; omega, ?_⟩
            walk_at "dv nm"
            rw [natT_len]
            refine ⟨fun i acc sl => ∃ (B1 : List Nm) (kvs1 : List (Key × T)) (ds : List (Obj × Ld)) (ls : List Ln), Viss sumL R B (ps.take i) B1 ∧ B1.Nodup ∧ B1.length ≤ kvs1.length ∧ FoOk P w R B1 kvs1 ∧ LdAll ds ls ∧ Evs sumL R B1 (ps.take i) ls ∧ (∀ j, Known kvs j → Known kvs1 j) ∧ (∀ j, Known kvs1 j → Known kvs j ∨ j < n) ∧
              acc = ds.map (lpT P w) ∧ sl = llSl P w ob R n B1 kvs1 (some (krT (.op o ps))) none none none, ⟨B, kvs, [], [], .nil, ndB, hB, fo, .nil, .nil, fun _ h => h, fun _ h => .inl h, rfl, rfl⟩, ?_, ?_⟩
            · rintro i acc sl hi ⟨B1, kvs1, ds, ls, a1, a2, a3, a4, a5, a6, a7, a8, rfl, rfl⟩
              have ei : ps[i]? = some ps[i] := List.getElem?_eq_getElem hi
              have ej : (natT ps).getD i .non = .int (ps[i] : Int) := by rw [List.getD_eq_getElem?_getD, natT_at hi, List.getD_eq_getElem?_getD, ei]; rfl
              have tk : ps.take (i + 1) = ps.take i ++ [ps[i]] := by rw [List.take_succ, ei]; rfl
              have hlt := hps ps[i] (List.getElem_mem hi)
              have dl := a5.len.trans a6.len
              rw [List.length_take] at dl
              dsimp only
              rw [ej, tk]
              refine ⟨by rw [List.length_map, sizeLine_eq]; omega, ?_⟩
              walk_at "wn"
              refine wt_yes (if_yes rfl ?_)
              refine we_call mono_ll (wo_cons (wb_var ⟨_, rfl⟩ (wo_cons (wb_var ⟨_, rfl⟩ (wo_cons (wb_var ⟨_, rfl⟩ (wo_cons (wb_var ⟨_, rfl⟩ (wo_nil ?_)))))))))
              refine ⟨_, _, rfl, ob, R, B1, kvs1, ps[i], rfl, rk, h40, a2, a3, a4, by omega, by omega, fun B2 kvs2 o2 d2 l2 b1 b2 b3 b4 b5 b6 b7 b8 b9 => ⟨_, rfl, ?_⟩⟩
              walk_at "dv nm"
              refine ⟨B2, kvs2, ds ++ [(o2, d2)], ls ++ [l2], a1.app (.cons b1 .nil), b2, b3, b4, .snoc b5 a5, (a6.ext b1.ext).app (.cons b6 .nil), fun j h => b7 j (a7 j h), fun j h => ?_, by rw [List.map_append]; rfl, rfl⟩
              rcases b8 j h with h | h
              · exact a8 j h
              · exact .inr (by omega)
            · rintro acc sl ⟨B1, kvs1, ds, ls, a1, a2, a3, a4, a5, a6, a7, a8, rfl, rfl⟩
              rw [List.take_length] at a1 a6
              dsimp only [Back]
              walk_at "wn"
              exact ⟨B1, kvs1, ds, ls, a1, a2, a3, a4, a5, a6, a7, a8, rfl⟩
          rintro sl ⟨B1, kvs1, ds, ls, a1, a2, a3, a4, a5, a6, a7, a8, rfl⟩
          have sd := lpTs_still (P := P) (w := w) ds
          have lsl := a6.len
          have dsl := a5.len.trans lsl
          have hv1 : valT kvs1 (.inl (n : Int)) = none := by
            cases hx : valT kvs1 (.inl (n : Int)) with
            | none => rfl
            | some t =>
              rcases a8 n (by unfold Known; rw [hx]; rfl) with h | h
              · unfold Known at h
                rw [hv] at h
                cases h
              · exact absurd h (Nat.lt_irrefl _)
          have kl1 := a4.ki.len
          have nf : ∀ x ∈ ls, x.Nf := fun x hx => (a6.nfL x hx).1
          have few : ∀ (p : Obj × Ld) (l : Ln), LdOk p.2 l → l ∈ ls → p.2.length ≤ 10000 := fun p l h hl => by
            have := h.few (a6.nfL l hl).2
            omega
          have fin : ∀ {B2 : List Nm} {o2 : Obj} {d : Ld} {l : Ln} (x7 x8 : Option T), Ext B1 B2 → B2.Nodup → B2.length ≤ B1.length + 1 → Vis sumL R B n B2 → LdOk d l → Ev sumL R B2 n l →
              ∃ (B' : List Nm) (kvs' : List (Key × T)) (o3 : Obj) (d3 : Ld) (l3 : Ln) (y4 y6 y7 y8 : Option T), Vis sumL R B n B' ∧ B'.Nodup ∧ B'.length ≤ kvs'.length ∧ FoOk P w R B' kvs' ∧ LdOk d3 l3 ∧ Ev sumL R B' n l3 ∧ (∀ j, Known kvs j → Known kvs' j) ∧ (∀ j, Known kvs' j → Known kvs j ∨ j ≤ n) ∧ valT kvs' (.inl (n : Int)) = some (ldT P w false o3 d3) ∧
                llSl P w ob R n B2 (putT kvs1 (.inl (n : Int)) (ldT P w false o2 d)) (some (krT (.op o ps))) (some (.lst true (ds.map (lpT P w)))) x7 x8 = llSl P w ob R n B' kvs' y4 y6 y7 y8 := fun {B2 o2 d l} x7 x8 x nd2 bl vis hd ev => by
            refine ⟨B2, _, o2, d, l, _, _, _, _, vis, nd2, by rw [put_len hv1]; omega, (a4.ext x).put hn hd ev, hd, ev, fun j h => ?_, fun j h => ?_, by rw [val_put, if_pos rfl], rfl⟩
            · have h := a7 j h
              unfold Known at h ⊢
              rw [val_put]
              split
              · rfl
              · exact h
            · unfold Known at h
              rw [val_put] at h
              split at h
              · exact .inr (by omega)
              · exact (a8 j h).imp id Nat.le_of_lt
          refine ws_seq (ws_asg (we_len (wb_var ⟨_, rfl⟩ ⟨_, _, rfl, rfl, ?_⟩)))
          rw [List.length_map, dsl]
          walk_at "wn"
          have num : ∀ j : Nat, decide ((ps.length : Int) = (j : Int)) = (ps.length == j) := fun j => by
            by_cases c : ps.length = j
            · rw [c, decide_eq_true rfl, beq_self_eq_true]
            · rw [decide_eq_false (by omega), beq_eq_false_iff_ne.mpr c]
          -- is it a sum or difference
          refine ws_if (wt_and (wt_test (we_op2 op2_eq (wb_of (we_ixT (wb_var ⟨_, rfl⟩ (we_int ⟨_, (0 : Int), .str "op", rfl, rfl, rfl, rfl, ?_⟩)))))))
          refine wb_of (we_str ⟨_, _, rfl, rfl, _, .str _ _, _, rfl, ?_⟩)
          refine if_yes (by decide +kernel) ?_
          refine wt_and (wt_test (we_op2 op2_in (wb_of (we_ixT (wb_var ⟨_, rfl⟩ (we_int ⟨_, (1 : Int), .str o, rfl, rfl, rfl, rfl, ?_⟩))))))
          refine wb_of (we_tup (wa_cons (we_str (wa_cons (we_str (wa_nil ⟨Nat.le_of_ble_eq_true rfl, ?_⟩))))))
          refine ⟨_, _, rfl, rfl, .str o, _, [.str "add", .str "sub"], rfl, rfl, rfl, ?_⟩
          rw [if_neg Bool.false_ne_true, inV_add]
          refine ⟨_, rfl, ?_⟩
          rcases ops_class hop with ⟨c1, hk⟩ | hcl
          · refine if_yes (decide_eq_true c1) ?_
            refine wt_test (we_op2 op2_eq (wb_var ⟨_, rfl⟩ (wb_of (we_int ⟨_, _, rfl, rfl, _, .int (ps.length : Int) ((2 : Nat) : Int), ?_⟩))))
            rw [if_neg Bool.false_ne_true, num 2, hk]
            refine ⟨_, rfl, if_yes rfl ?_⟩
            obtain ⟨p, q, a, b, eds, els, ha, hb⟩ := a5.two (lsl.trans hk)
            subst els
            subst eds
            have hsm : ∃ m : Int, (m = 1 ∨ m = -1) ∧ (m = if o = addS then 1 else -1) ∧ sumL o [a, b] = some (plusL a b m) := by
              rw [sumL_two]
              by_cases c : o = addS
              · exact ⟨1, .inl rfl, by rw [if_pos c], by rw [if_pos c]⟩
              · have c2 : o = subS := by
                  rcases List.mem_cons.mp c1 with h | h
                  · exact absurd h c
                  · exact List.mem_singleton.mp h
                exact ⟨-1, .inr rfl, by rw [if_neg c], by rw [if_neg c, if_pos c2]⟩
            obtain ⟨m', hm', em, hs⟩ := hsm
            refine ws_dput (we_still (we_call mono_pl (wo_cons (wb_of (we_ixL (wb_var ⟨_, rfl⟩ (we_int ⟨_, _, 0, lpT P w p, rfl, rfl, atI_nat (j := 0) rfl, rfl, ?_⟩)))))))
            refine wo_cons (wb_of (we_ixL (wb_var ⟨_, rfl⟩ (we_int ⟨_, _, 1, lpT P w q, rfl, rfl, atI_nat (j := 1) rfl, rfl, ?_⟩))))
            refine wo_cons (wb_of (we_if (wt_test (we_op2 op2_eq (wb_of (we_ixT (wb_var ⟨_, rfl⟩ (we_int ⟨_, (1 : Int), .str o, rfl, rfl, rfl, rfl, ?_⟩))))))))
            refine wb_of (we_str ⟨_, _, rfl, rfl, _, .str o addS, _, rfl, ?_⟩)
            rw [if_neg Bool.false_ne_true]
            by_cases c : o = addS
            · rw [if_pos c] at em
              subst em
              refine if_yes (decide_eq_true c) ?_
              refine we_int (wo_nil ⟨_, _, rfl, p.1, q.1, p.2, q.2, a, b, 1, rfl, ha, hb, hm', few _ _ ha (by simp), few _ _ hb (by simp), fun o2 d hd => ⟨_, rfl, rfl, ⟨_, rfl⟩, we_var rfl rfl ⟨kvs1, .inl (n : Int), rfl, rfl, rfl, a4.ki.still, by rw [sizeLine_eq]; omega, ?_⟩⟩⟩)
              exact fin _ _ .rfl a2 (by omega) (.sum hr a1 a6 hs) hd (.sum hr a6 hs)
            · rw [if_neg c] at em
              subst em
              refine if_no (decide_eq_false c) ?_
              refine we_neg (we_int ⟨1, rfl, wo_nil ⟨_, _, rfl, p.1, q.1, p.2, q.2, a, b, -1, rfl, ha, hb, hm', few _ _ ha (by simp), few _ _ hb (by simp), fun o2 d hd => ⟨_, rfl, rfl, ⟨_, rfl⟩, we_var rfl rfl ⟨kvs1, .inl (n : Int), rfl, rfl, rfl, a4.ki.still, by rw [sizeLine_eq]; omega, ?_⟩⟩⟩⟩)
              exact fin _ _ .rfl a2 (by omega) (.sum hr a1 a6 hs) hd (.sum hr a6 hs)
          have nadd : o ∉ [addS, subS] := by
            rcases hcl with h | h | h
            · rw [h.1]; decide +kernel
            · exact h.1
            · exact h.1
          refine if_no (decide_eq_false nadd) ?_
          try refine if_no rfl ?_
          -- a negative
          refine ws_if (wt_and (wt_test (we_op2 op2_eq (wb_of (we_ixT (wb_var ⟨_, rfl⟩ (we_int ⟨_, (0 : Int), .str "op", rfl, rfl, rfl, rfl, ?_⟩)))))))
          refine wb_of (we_str ⟨_, _, rfl, rfl, _, .str _ _, _, rfl, ?_⟩)
          refine if_yes (by decide +kernel) ?_
          refine wt_and (wt_test (we_op2 op2_eq (wb_of (we_ixT (wb_var ⟨_, rfl⟩ (we_int ⟨_, (1 : Int), .str o, rfl, rfl, rfl, rfl, ?_⟩))))))
          refine wb_of (we_str ⟨_, _, rfl, rfl, _, .str o negS, _, rfl, ?_⟩)
          rw [if_neg Bool.false_ne_true]
          rcases hcl with ⟨c2, hk⟩ | hcl
          · refine if_yes (decide_eq_true c2) ?_
            refine wt_test (we_op2 op2_eq (wb_var ⟨_, rfl⟩ (wb_of (we_int ⟨_, _, rfl, rfl, _, .int (ps.length : Int) ((1 : Nat) : Int), ?_⟩))))
            rw [if_neg Bool.false_ne_true, num 1, hk]
            refine ⟨_, rfl, if_yes rfl ?_⟩
            obtain ⟨p, a, eds, els, ha⟩ := a5.single (lsl.trans hk)
            subst els
            subst eds
            have hs : sumL o [a] = some (plusL ⟨0, []⟩ a (-1)) := by rw [sumL_one, if_pos c2]
            refine ws_dput (we_still (we_call mono_pl (wo_cons (wb_of (we_still (we_frz (P := P) (w := w) (we_lnew ⟨[], rfl, fun o1 => ⟨rfl, ?_⟩⟩)))))))
            refine wo_cons (wb_of (we_ixL (wb_var ⟨_, rfl⟩ (we_int ⟨_, _, 0, lpT P w p, rfl, rfl, atI_nat (j := 0) rfl, rfl, ?_⟩))))
            refine wo_cons (wb_of (we_neg (we_int ⟨1, rfl, wo_nil ⟨_, _, rfl, o1, p.1, [], p.2, ⟨0, []⟩, a, -1, rfl, .nil, ha, .inr rfl, Nat.zero_le _, few _ _ ha (by simp), fun o2 d hd => ⟨_, rfl, rfl, ⟨_, rfl⟩, we_var rfl rfl ⟨kvs1, .inl (n : Int), rfl, rfl, rfl, a4.ki.still, by rw [sizeLine_eq]; omega, ?_⟩⟩⟩⟩)))
            exact fin _ _ .rfl a2 (by omega) (.sum hr a1 a6 hs) hd (.sum hr a6 hs)
          have nneg : o ≠ negS := by
            rcases hcl with h | h
            · exact h.2.1
            · exact h.2.1
          refine if_no (decide_eq_false nneg) ?_
          try refine if_no rfl ?_
          -- a numeral
          have o640 : o.length ≤ 640 := hol
          obtain ⟨ch, hch, hcase⟩ : ∃ ch : Nat, atI o.cps.toList 0 = some ch ∧ ((ch ∈ digS.cps.toList ∧ ps.length = 0 ∧ ∃ v : Int, PySem.intText? o = some v ∧ Txt.isdigit o = true) ∨ (ch ∉ digS.cps.toList ∧ ∀ ls : List Ln, ls.length = ps.length → sumL o ls = none)) := by
            rcases hcl with ⟨_, _, h0, _, v, c, q1, q2, q3, q4⟩ | ⟨_, _, _, ⟨c, q1, q2⟩, q3⟩
            · exact ⟨c, q3, .inl ⟨q4, h0, v, q1, q2⟩⟩
            · exact ⟨c, q1, .inr ⟨q2, q3⟩⟩
          refine ws_if (wt_and (wt_test (we_op2 op2_eq (wb_of (we_ixT (wb_var ⟨_, rfl⟩ (we_int ⟨_, (0 : Int), .str "op", rfl, rfl, rfl, rfl, ?_⟩)))))))
          refine wb_of (we_str ⟨_, _, rfl, rfl, _, .str _ _, _, rfl, ?_⟩)
          refine if_yes (by decide +kernel) ?_
          refine wt_and (wt_test (we_op2 op2_inS (wb_of (we_op2 op2_ixS (wb_of (we_ixT (wb_var ⟨_, rfl⟩ (we_int ⟨_, (1 : Int), .str o, rfl, rfl, rfl, rfl, ?_⟩))))))))
          refine wb_of (we_int ⟨_, _, rfl, rfl, o, 0, ch, rfl, rfl, by rw [sizeLine_eq]; omega, hch, ?_⟩)
          refine wb_of (we_str ⟨_, _, rfl, rfl, ch, digS, rfl, rfl, _, rfl, ?_⟩)
          rw [if_neg Bool.false_ne_true]
          rcases hcase with ⟨c3, hk, v, hv3, hdg⟩ | ⟨c3, hno⟩
          · refine if_yes (decide_eq_true c3) ?_
            refine wt_test (we_op2 op2_eq (wb_var ⟨_, rfl⟩ (wb_of (we_int ⟨_, _, rfl, rfl, _, .int (ps.length : Int) ((0 : Nat) : Int), ?_⟩))))
            rw [if_neg Bool.false_ne_true, num 0, hk]
            refine ⟨_, rfl, if_yes rfl ?_⟩
            have el : ls = [] := List.length_eq_zero_iff.mp (lsl.trans hk)
            subst el
            have hs : sumL o [] = some ⟨v, []⟩ := by rw [sumL_nil, if_pos hdg, hv3]; rfl
            refine ws_dput (we_if (wt_test (we_op2 op2_ne (wb_of (we_intS (we_ixT (wb_var ⟨_, rfl⟩ (we_int ⟨_, (1 : Int), .str o, rfl, rfl, rfl, rfl, o, v, rfl, hv3, o640, ?_⟩))))))))
            refine wb_of (we_int ⟨_, _, rfl, rfl, _, .int v 0, _, rfl, ?_⟩)
            rw [if_pos rfl]
            by_cases c4 : v = 0
            · refine if_no (by rw [decide_eq_true c4]; rfl) ?_
              subst c4
              refine we_still (we_frz (P := P) (w := w) (we_lnew ⟨[], rfl, fun o1 => ⟨rfl, ⟨_, rfl⟩, we_var rfl rfl ⟨kvs1, .inl (n : Int), rfl, rfl, rfl, a4.ki.still, by rw [sizeLine_eq]; omega, ?_⟩⟩⟩))
              exact fin _ _ .rfl a2 (by omega) (.sum hr a1 a6 hs) LdOk.nil (.sum hr a6 hs)
            · refine if_yes (by rw [decide_eq_false c4]; rfl) ?_
              refine we_still (we_frz (P := P) (w := w) (we_ldisp1 (we_non (we_intS (we_ixT (wb_var ⟨_, rfl⟩ (we_int ⟨_, (1 : Int), .str o, rfl, rfl, rfl, rfl, o, v, rfl, hv3, o640, ?_⟩)))))))
              refine ⟨.none, v, rfl, rfl, _, rfl, fun o1 => ⟨rfl, ⟨_, rfl⟩, we_var rfl rfl ⟨kvs1, .inl (n : Int), rfl, rfl, rfl, a4.ki.still, by rw [sizeLine_eq]; omega, ?_⟩⟩⟩
              exact fin _ _ .rfl a2 (by omega) (.sum hr a1 a6 hs) (LdOk.cst c4) (.sum hr a6 hs)
          refine if_no (decide_eq_false c3) ?_
          try refine if_no rfl ?_
          -- another operation: an atom
          have hs := hno ls lsl
          refine ws_seqM (fun sl => sl = llSl P w ob R n B1 kvs1 (some (krT (.op o ps))) (some (.lst true (ds.map (lpT P w)))) (some (.int (ps.length : Int))) (some (kT (nmK (.op o ls))))) ?_ ?_
          · refine ws_asg (we_if (wt_test (we_op2 op2_eq (wb_of (we_ixT (wb_var ⟨_, rfl⟩ (we_int ⟨_, (0 : Int), .str "op", rfl, rfl, rfl, rfl, ?_⟩)))))))
            refine wb_of (we_str ⟨_, _, rfl, rfl, _, .str _ _, _, rfl, ?_⟩)
            refine if_no (by decide +kernel) ?_
            refine we_tup (wa_cons (we_str (wa_cons (we_ixT (wb_var ⟨_, rfl⟩ (we_int ⟨_, (1 : Int), .str o, rfl, rfl, rfl, rfl, ?_⟩))))))
            refine wa_cons (we_tupleOf (we_lc (gown_name (by decide)) (wi_listS rfl sd ⟨fun j hj => by revert hj; simp; omega, ?_⟩)))
            walk_at "dv nm"
            rw [List.length_map, dsl]
            refine ⟨fun i acc sl => acc = kTs ((ls.take i).map linK) ∧ sl = llSl P w ob R n B1 kvs1 (some (krT (.op o ps))) none (some (.int (ps.length : Int))) none, ⟨rfl, rfl⟩, ?_, ?_⟩
            · rintro i acc sl hi ⟨rfl, rfl⟩
              obtain ⟨p, l, e1, e2, okp⟩ := a5.nth (i := i) (by omega)
              have ej : (ds.map (lpT P w)).getD i .non = lpT P w p := by rw [List.getD_eq_getElem?_getD, List.getElem?_map, e1]; rfl
              have tk : ls.take (i + 1) = ls.take i ++ [l] := by rw [List.take_succ, e2]; rfl
              dsimp only
              rw [ej, tk]
              refine ⟨by rw [kTs_map, List.length_map, List.length_map, List.length_take, sizeLine_eq]; omega, ?_⟩
              walk_at "wn"
              refine wt_yes (if_yes rfl ?_)
              refine we_call mono_tl (wo_cons (wb_var ⟨_, rfl⟩ (wo_nil ⟨_, _, rfl, p.1, p.2, l, rfl, okp, few _ _ okp (List.mem_of_getElem? e2), _, rfl, ?_⟩)))
              refine ⟨?_, rfl⟩
              rw [kTs_map, kTs_map, List.map_append, List.map_append]
              rfl
            · rintro acc sl ⟨rfl, rfl⟩
              rw [← lsl, List.take_length]
              dsimp only [Back]
              refine ⟨rfl, _, _, rfl, wa_nil ⟨Nat.le_of_ble_eq_true rfl, ?_⟩⟩
              walk_at "wn"
              all_goals rfl
          rintro sl rfl
          refine ll_tail (.op o ls) a2 (by omega) a4.ki.still (by omega) fun o2 => ?_
          exact fin _ _ (addN_ext _ _) (addN_nd a2 _) (addN_len _ _) (.op hr a1 a6 hs) (.one _) (.op hr (a6.ext (addN_ext _ _)) hs (idx_add' _ _))
    rintro sl ⟨B', kvs', o, d, l, x4, x6, x7, x8, a1, a2, a3, a4, a5, a6, a7, a8, a9, rfl⟩
    refine ws_ret (we_dget ⟨_, rfl⟩ (we_var rfl rfl ⟨_, kvs', .inl (n : Int), ldT P w false o d, rfl, rfl, rfl, a9, rfl, ?_⟩))
    exact ⟨_, _, rfl, k B' kvs' o d l a1 a2 a3 a4 a5 a6 a7 a8 a9⟩
end
end Rs
set_option maxHeartbeats 8000000
namespace Rs
open PySem L2 PySem.Spec PyProof.Rows
local macro_rules | `(tactic| walk_at "dv nm") => `(tactic| dsimp only [List.set_cons_succ, List.set_cons_zero, hideT])
local macro_rules | `(tactic| walk_at "dv st") => `(tactic| first | rfl | exact kT_still _ | assumption)
local macro_rules | `(tactic| walk_at "dv 1") => `(tactic| first | (with_reducible (first | refine ws_seq ?_ | refine ws_asg ?_ | refine ws_ret ?_ | refine ws_drop ?_ | refine ws_if ?_ | refine ws_next ?_ | refine we_int ?_ | refine we_str ?_ | refine we_bl ?_ | refine we_non ?_ | refine we_tup ?_ | refine we_lst ?_ | refine wa_cons ?_ | refine wa_nil ?_ | refine wo_cons ?_ | refine wo_nil ?_ | refine wt_test ?_ | refine wt_B ?_ | refine wt_not ?_ | refine wt_and ?_ | refine wt_or ?_ | refine we_if ?_ | refine we_notV ?_ | refine we_andV ?_ | refine we_orV ?_ | refine we_dnew ?_ | refine wb_var ⟨_, rfl⟩ ?_)) | ((with_reducible refine' wg_name ?h1 ?h2 ?_); (case h1 => exact Nat.le_of_ble_eq_true rfl); (case h2 => decide); (walk_at "dv nm")) | ((with_reducible refine' we_var ?h ?s ?_); (case' h => rfl); (case s => walk_at "dv st")) | ((with_reducible refine' size_and ?sz ?_); (case sz => rw [sizeLine_eq]; exact Nat.le_of_ble_eq_true rfl)) | (with_reducible refine wb_of ?_))
local macro_rules | `(tactic| walk_at "dv") => `(tactic| repeat (walk_at "dv 1"))
local macro_rules | `(tactic| walk_at "wn") => `(tactic| ((refine wg_name (Nat.le_of_ble_eq_true rfl) (by decide) ?_); (walk_at "dv nm")))
abbrev sDt : Stmt := top 25
def gDt (ts : List T) (K : T → List T → Prop) : Prop := ∃ m : Nat, ts = [bagT, .int (m : Int)] ∧ m ≤ 25 ∧ ∀ R, DrOk R → 1 ≤ R.length → R.length ≤ 4 + m → K (.lst true (R.map krT)) ts
theorem mono_dt : Mono gDt := fun ts K K' h ⟨m, e, e1, k⟩ => ⟨m, e, e1, fun R a b c => h _ _ (k R a b c)⟩
theorem lets_at (n : Nat) : (List.range (n + 1)).map Kr.lt = (List.range n).map Kr.lt ++ [.lt n] := by rw [List.range_succ, List.map_append]; rfl
theorem lets_ok : ∀ n, n ≤ 4 → DrOk ((List.range n).map Kr.lt)
  | 0, _ => DrOk.nil
  | n + 1, h => by rw [lets_at]; exact (lets_ok n (by omega)).letter (by omega)
section
variable {P : Program} {w : World} {K : PySem.W.Frag} {mg : Str → Option Value} {base : Heap}
structure TxtDt (mg : Str → Option Value) : Prop where
  len : mg "len" = none
  range : mg "range" = none
  tuple : mg "tuple" = none
theorem scDt : FnScope ["bag", "many", "k", "keys", "turn", "o", "size"] ["bag", "many"] (defScope sDt) := ⟨rfl, rfl, rfl, by decide +kernel, rfl, by decide +kernel, by decide +kernel⟩
theorem ok_dt {f fSo fTa : Addr} {fd fdSo fdTa : FuncData} (F : Fun K "_law_drawn_terms" "_law_drawn_terms" sDt f fd) (TX : TxtDt mg)
    (GSo : FnOk P w K mg base CX0 2 fSo fdSo ["bag", "things"] (spT gSome)) (mSo : mg "_law_some" = some (.ref fSo)) (kSo : PySem.W.keepIn K (.ref fSo) = true) (bSo : Binds K fdSo ["bag", "things"] [])
    (GTa : FnOk P w K mg base CX0 1 fTa fdTa ["bag", "many"] (spT gTake)) (mTa : mg "_law_take" = some (.ref fTa)) (kTa : PySem.W.keepIn K (.ref fTa) = true) (bTa : Binds K fdTa ["bag", "many"] []) :
    FnOk P w K mg base CX0 3 f fd ["bag", "many"] (spT gDt) := by
  have hlen : ∀ ts K, gDt ts K → ts.length = 2 := fun ts K ⟨_, e, _⟩ => by rw [e]; rfl
  refine F.ok scDt (fun vs H Q E h => spT_len h hlen) (fun cdv A outer s H vs Q E hr h => ?_)
  have nd := scDt.nd
  have hu1 := hu_of hr
  refine ⟨_, (pss_cons (ps_set (i := 3) nd rfl (Or.inr rfl) (pe_lc (own := [("k", 2)]) (g := (gName 2)) (tt := tYes) rfl nd (pi_range1 rfl TX.range (pa_cons (pe_op op_add pe_int (pe_call (E := E0) GTa (hr.mono (by decide)) rfl mTa kTa bTa .nil pass0 (pa_cons (pv 0) (pa_cons pe_int pa_nil)))) pa_nil)) (blkOk_by (N := ["bag", "many", "k", "keys", "turn", "o", "size"]) (sc := defScope sDt) (by decide +kernel)) (fun _ _ _ _ _ => (pg_name (i := 2) nd rfl (Or.inl rfl))) (fun _ _ _ _ _ => pts_nil) (fun _ _ _ _ _ => (pe_tup (pa_cons pe_str (pa_cons pe_str (pa_cons (pv 2) pa_nil))))))) (Evl.pss_cut (ps_for PassesOwn.never rfl (pi_range1 rfl TX.range (pa_cons (pv 1) pa_nil)) (pg_name (i := 4) nd rfl (Or.inl rfl)) (pss_cons (ps_asg (pe_call (E := E0) GSo (hr.mono (by decide)) rfl mSo kSo bSo .nil pass0 (pa_cons (pv 0) (pa_cons (pe_lst (pa_cons (pe_tup (pa_cons pe_str (pa_cons pe_int pa_nil))) (pa_cons (pe_tup (pa_cons pe_str (pa_cons pe_int pa_nil))) (pa_cons (pe_tup (pa_cons pe_str (pa_cons pe_int pa_nil))) (pa_cons (pe_tup (pa_cons pe_str (pa_cons pe_int pa_nil))) (pa_cons (pe_tup (pa_cons pe_str (pa_cons pe_int pa_nil))) (pa_cons (pe_tup (pa_cons pe_str (pa_cons pe_int pa_nil))) (pa_cons (pe_tup (pa_cons pe_str (pa_cons pe_int pa_nil))) (pa_cons (pe_tup (pa_cons pe_str (pa_cons pe_int pa_nil))) (pa_cons (pe_tup (pa_cons pe_str (pa_cons pe_int pa_nil))) (pa_cons (pe_tup (pa_cons pe_str (pa_cons pe_int pa_nil))) (pa_cons (pe_tup (pa_cons pe_str (pa_cons pe_int pa_nil))) (pa_cons (pe_tup (pa_cons pe_str (pa_cons pe_int pa_nil))) pa_nil))))))))))))) pa_nil))) (pg_tup rfl (pgs_cons (pg_name (i := 5) nd rfl (Or.inl rfl)) (pgs_cons (pg_name (i := 6) nd rfl (Or.inl rfl)) pgs_nil)))) (pss_one (ps_expr (pe_bm PySem.F.plainAttrs_list PySem.F.slot_list_append PySem.F.type_list_append mt_append (pv 3) (pa_cons (pe_tup (pa_cons pe_str (pa_cons (pv 5) (pa_cons (pe_callTy (c_tupK (K := K) rfl) (by rfl) TX.tuple (by decide +kernel) (pa_cons (pe_lc (own := [("k", 2)]) (g := (gName 2)) (tt := tYes) rfl nd (pi_range1 rfl TX.range (pa_cons (pv 6) pa_nil)) (blkOk_by (N := ["bag", "many", "k", "keys", "turn", "o", "size"]) (sc := defScope sDt) (by decide +kernel)) (fun _ _ _ _ _ => (pg_name (i := 2) nd rfl (Or.inl rfl))) (fun _ _ _ _ _ => pts_nil) (fun _ _ _ _ _ => (pe_call (E := E0) GTa (hr.mono (by decide)) rfl mTa kTa bTa .nil pass0 (pa_cons (pv 0) (pa_cons (pe_callB (c_lenK (K := K) rfl) (by rfl) TX.len PySem.boot_len (pa_cons (pv 3) pa_nil)) pa_nil))))) pa_nil)) pa_nil)))) pa_nil)))))) (pss_one (ps_ret (pv 3))))), ?_⟩
  refine body_run (n := 2) 5 (by rw [spT_len h hlen]; rfl) h (spT_len h hlen).symm fun fr ts K ⟨m, e, hm, k⟩ => ?_
  subst e
  show WS fr [0, 1] [] [some bagT, some (.int (m : Int)), none, none, none, none, none] _ _
  refine ws_seqM (fun sl => ∃ R, DrOk R ∧ 1 ≤ R.length ∧ R.length ≤ 4 ∧ sl = [some bagT, some (.int (m : Int)), none, some (.lst true (R.map krT)), none, none, none]) ?_ ?_
  · refine ws_asg (we_lc (gown_name (by decide)) (wi_range1 (wa_cons (we_op2 op2_I0 (wb_of (we_int (wb_of (we_call mono_take (wo_cons (wb_var ⟨_, rfl⟩ (wo_cons (wb_of (we_int ?_)))))))))))))
    refine wo_nil ⟨_, _, rfl, 4, rfl, by decide, by decide, fun r hr => ⟨_, rfl, ?_⟩⟩
    refine ⟨_, _, rfl, rfl, (1 : Int), (r : Int), rfl, rfl, trivial, wa_nil ⟨(1 : Int) + (r : Int), rfl, by omega, ?_⟩⟩
    rw [(by omega : ((1 : Int) + (r : Int)).toNat = r + 1)]
    refine ⟨fun j hj => by revert hj; simp; omega, ?_⟩
    walk_at "dv nm"
    refine ⟨fun i acc sl => acc = ((List.range i).map Kr.lt).map krT ∧ sl = [some bagT, some (.int (m : Int)), none, none, none, none, none], ⟨rfl, rfl⟩, ?_, ?_⟩
    · rintro i acc sl hi ⟨rfl, rfl⟩
      refine ⟨by rw [List.length_map, List.length_map, List.length_range, sizeLine_eq]; omega, ?_⟩
      show WG fr _ _ _ _ (.int (0 + (i : Int))) _
      rw [Int.zero_add]
      walk_at "wn"
      refine wt_yes (if_yes rfl ?_)
      refine we_tup (wa_cons (we_str (wa_cons (we_str (wa_cons (we_var rfl rfl (wa_nil ⟨Nat.le_of_ble_eq_true rfl, ?_⟩)))))))
      refine ⟨?_, rfl⟩
      rw [lets_at, List.map_append]
      rfl
    · rintro acc sl ⟨rfl, rfl⟩
      dsimp only [Back]
      walk_at "wn"
      exact ⟨(List.range (r + 1)).map Kr.lt, lets_ok _ (by omega), by rw [List.length_map, List.length_range]; omega, by rw [List.length_map, List.length_range]; omega, rfl⟩
  rintro sl ⟨R0, d0, l1, l4, rfl⟩
  refine ws_cut (fun sl => ∃ R x4 x5 x6, DrOk R ∧ 1 ≤ R.length ∧ R.length ≤ 4 + m ∧ sl = [some bagT, some (.int (m : Int)), none, some (.lst true (R.map krT)), x4, x5, x6]) ?_ ?_
  · refine ws_for (wi_range1 (wa_cons (we_var rfl rfl (wa_nil ⟨(m : Int), rfl, by omega, ?_⟩))))
    rw [Int.toNat_natCast]
    refine ⟨fun j sl => ∃ R x4 x5 x6, DrOk R ∧ 1 ≤ R.length ∧ R.length ≤ 4 + j ∧ sl = [some bagT, some (.int (m : Int)), none, some (.lst true (R.map krT)), x4, x5, x6], ⟨R0, _, _, _, d0, l1, l4, rfl⟩, ?_, ?_⟩
    · rintro j sl hj ⟨R, x4, x5, x6, d, r1, r2, rfl⟩
      show WG fr _ _ _ _ (.int (0 + (j : Int))) _
      rw [Int.zero_add]
      walk_at "wn"
      refine ws_seqM (fun sl => ∃ (o : Str) (n : Nat), (o, n) ∈ opsL ∧ sl = [some bagT, some (.int (m : Int)), none, some (.lst true (R.map krT)), some (.int (j : Int)), some (.str o), some (.int (n : Int))]) ?_ ?_
      · refine ws_asg (we_call mono_some (wo_cons (wb_var ⟨_, rfl⟩ (wo_cons (wb_of ?_)))))
        walk_at "dv"
        refine ⟨_, _, rfl, _, _, rfl, rfl, rfl, List.cons_ne_nil _ _, (show 12 < 1000000 by decide), fun x hx => ⟨_, rfl, ?_⟩⟩
        have hx' : ∃ (o : Str) (n : Nat), x = .tup [.str o, .int (n : Int)] ∧ (o, n) ∈ opsL := by
          simp only [List.mem_cons, List.not_mem_nil, or_false] at hx
          rcases hx with rfl | rfl | rfl | rfl | rfl | rfl | rfl | rfl | rfl | rfl | rfl | rfl
          · exact ⟨"add", 2, rfl, by decide +kernel⟩
          · exact ⟨"sub", 2, rfl, by decide +kernel⟩
          · exact ⟨"neg", 1, rfl, by decide +kernel⟩
          · exact ⟨"7", 0, rfl, by decide +kernel⟩
          · exact ⟨"0", 0, rfl, by decide +kernel⟩
          · exact ⟨"f", 1, rfl, by decide +kernel⟩
          · exact ⟨"g", 2, rfl, by decide +kernel⟩
          · exact ⟨"h", 3, rfl, by decide +kernel⟩
          · exact ⟨"add", 2, rfl, by decide +kernel⟩
          · exact ⟨"sub", 2, rfl, by decide +kernel⟩
          · exact ⟨"k", 0, rfl, by decide +kernel⟩
          · exact ⟨"f", 1, rfl, by decide +kernel⟩
        obtain ⟨o, n, rfl, ho⟩ := hx'
        refine wg_tup rfl (wgs_cons ?_)
        walk_at "dv"
        refine wgs_cons ?_
        walk_at "dv"
        refine wgs_nil ?_
        exact ⟨o, n, ho, rfl⟩
      rintro sl ⟨o, n, ho, rfl⟩
      have hn3 := ops3 ho
      refine ws_drop (we_append ⟨_, rfl⟩ (we_tup (wa_cons (we_str (wa_cons (we_var rfl rfl (wa_cons ?_)))))))
      refine we_tupleOf (we_lc (gown_name (by decide)) (wi_range1 (wa_cons (we_var rfl rfl (wa_nil ⟨(n : Int), rfl, by omega, ?_⟩)))))
      rw [Int.toNat_natCast]
      refine ⟨fun j hj => by revert hj; simp; omega, ?_⟩
      walk_at "dv nm"
      refine ⟨fun i acc sl => ∃ ps : List Nat, acc = natT ps ∧ ps.length = i ∧ (∀ p ∈ ps, p < R.length) ∧ sl = [some bagT, some (.int (m : Int)), none, some (.lst true (R.map krT)), some (.int (j : Int)), some (.str o), some (.int (n : Int))], ⟨[], rfl, rfl, fun p hp => (nomatch hp), rfl⟩, ?_, ?_⟩
      · rintro i acc sl hi ⟨ps, rfl, hpl, hps, rfl⟩
        refine ⟨by rw [natT_len, sizeLine_eq]; omega, ?_⟩
        show WG fr _ _ _ _ (.int (0 + (i : Int))) _
        rw [Int.zero_add]
        walk_at "wn"
        refine wt_yes (if_yes rfl ?_)
        refine we_call mono_take (wo_cons (wb_var ⟨_, rfl⟩ (wo_cons (wb_of (we_len (wb_var ⟨_, rfl⟩ ⟨_, _, rfl, rfl, ?_⟩))))))
        rw [List.length_map]
        refine wo_nil ⟨_, _, rfl, R.length, rfl, by omega, by omega, fun r hr => ⟨_, rfl, ?_⟩⟩
        refine ⟨ps ++ [r], by rw [natT_snoc], by rw [List.length_append, hpl]; rfl, fun p hp => ?_, rfl⟩
        rcases List.mem_append.mp hp with hp | hp
        · exact hps p hp
        · rw [List.mem_singleton.mp hp]; exact hr
      · rintro acc sl ⟨ps, rfl, hpl, hps, rfl⟩
        dsimp only [Back]
        refine ⟨true, _, rfl, wa_nil ⟨Nat.le_of_ble_eq_true rfl, ?_⟩⟩
        refine ⟨_, rfl, by rw [List.length_map, sizeLine_eq]; omega, ?_⟩
        have ho' : (o, ps.length) ∈ opsL := by rw [hpl]; exact ho
        refine ⟨R ++ [.op o ps], some (.int (j : Int)), some (.str o), some (.int (n : Int)), d.op ho' hps, by rw [List.length_append]; omega, by rw [List.length_append]; show R.length + 1 ≤ _; omega, ?_⟩
        rw [List.map_append]
        rfl
    · rintro sl ⟨R, x4, x5, x6, d, r1, r2, rfl⟩
      exact ⟨R, _, _, _, d, r1, r2, rfl⟩
  rintro sl ⟨R, x4, x5, x6, d, r1, r2, rfl⟩
  refine ws_ret (we_move rfl ?_)
  exact ⟨_, _, rfl, k R d r1 r2⟩
end
end Rs
set_option maxHeartbeats 4000000
namespace Rs
open PySem L2 PySem.Spec PyProof.Rows
def rEq0 (K : PySem.W.Frag) (neg : Bool) : R2 := fun x y H Q => ∃ a b xs, x = .ref a ∧ y = .ref b ∧ ((SqL K H a xs ∧ SqL K H b []) ∨ (SqT K H a xs ∧ SqT K H b [])) ∧ Q (.bl (if neg = true then !xs.isEmpty else xs.isEmpty)) H
section
variable {X : Cx}
theorem op_eq0 {K : PySem.W.Frag} (hK : X.K = K) (hu : X.A.units + 64 < cLine) : OpR X (compareOp .Eq) (rEq0 K false) := by
  subst hK
  intro pins s σ H x y v u Q I rx ry h
  obtain ⟨a, b, xs, rfl, rfl, hq, q⟩ := h
  cases rx
  cases ry
  rcases hq with ⟨h1, h2⟩ | ⟨h1, h2⟩
  · obtain ⟨its, r1, p1, _⟩ := I.list h1
    obtain ⟨its2, r2, p2, _⟩ := I.list h2
    cases r2
    cases r1 with
    | nil => exact SeqAt.eq_listAt (e := fun _ => true) p1.isList p2.isList rfl (by omega) (fun j h1 _ => absurd h1 (Nat.not_lt_zero _)) ⟨.bl _, H, I, rfl, q⟩
    | cons _ _ => exact SeqAt.eq_list_lengthsAt p1.isList p2.isList (by simp) (by omega) ⟨.bl _, H, I, rfl, q⟩
  · obtain ⟨its, r1, p1, _⟩ := I.tuple h1
    obtain ⟨its2, r2, p2, _⟩ := I.tuple h2
    cases r2
    refine SeqAt.eq_tupleAt (e := fun _ => true) (show s.heap.IsTuple _ _ from p1) (show s.heap.IsTuple _ _ from p2) (by omega) (fun j _ h2 => absurd h2 (Nat.not_lt_zero _)) ?_
    cases r1 with
    | nil => exact ⟨.bl _, H, I, rfl, q⟩
    | cons _ _ => exact ⟨.bl _, H, I, by simp [L2.RelV], q⟩
end
section
variable {fr : Fr} {pn : List Nat} {tmp ts : List T} {sl : Sl} {KE : T → Sl → Prop} {te ta tb : TE} {Kf : PySem.W.Frag} {neg : Bool}
theorem we_eqT0 (h : WE fr pn tmp sl te fun t sl1 => ∃ xs, t = .tup xs ∧ KE (.bl (if neg = true then !xs.isEmpty else xs.isEmpty)) sl1) : WE fr pn tmp sl (tOp (rEq0 Kf neg) te (tTup tNil)) KE := fun pv tv σ H Q r q => by
  refine h pv tv σ H _ r fun t sl1 v H1 ⟨xs, e, k⟩ r1 => ?_
  subst e
  obtain ⟨Z, f, z⟩ := r1.top
  unfold Rep at z
  obtain ⟨a, vs, rfl, e2, rr⟩ := z
  refine ⟨Nat.zero_le _, fun p hp => ⟨a, p, vs, rfl, rfl, .inr ⟨(e2.mono (fun b u e _ => Fm.new hp b u e List.not_mem_nil)).sq, SqT.of upd_same⟩, ?_⟩⟩
  have e : vs.isEmpty = xs.isEmpty := by
    have := rr.len
    cases vs <;> cases xs <;> first | rfl | cases this
  rw [e]
  exact q _ sl1 _ _ k ((r1.grow (Fm.new hp)).pop.lit lit_bl)
end
end Rs
set_option maxHeartbeats 4000000
namespace Rs
open PySem L2 PySem.Spec PyProof.Rows
def graphAtT (P : Program) (w : World) (g l d : Addr) (L : List NestedKey) : T := .abs fun H v fp => v = .ref g ∧ LGAt P w H g l d L ∧ fp = [l, d]
section
variable {fr : Fr} {pn : List Nat} {pv : Nat → V} {tmp : List T} {tv : List V} {sl : Sl} {σ : L2.St} {H : Hp} {t t' : T} {KE : T → Sl → Prop} {KI : Nat → List T → (Nat → T) → Option Nat → Sl → Prop} {te th : TE} {ts : TS} {K : KS} {P : Program} {w : World} {g l d : Addr} {L : List NestedKey} {Kf Kg : PySem.W.Frag} {i : Nat}
theorem graphAt_framed : Framed (fun H v fp => v = V.ref g ∧ LGAt P w H g l d L ∧ fp = [l, d]) := by
  refine ⟨fun H H' v fp ⟨e1, G, e2⟩ ht ho => ?_, fun H v fp ⟨e1, G, e2⟩ a ha => ?_⟩
  · subst e2
    exact ⟨e1, G.goes ht ho, rfl⟩
  · subst e2
    obtain ⟨vs, h1, h2, h3, ⟨es, h4, _⟩, _⟩ := G
    simp only [List.mem_cons, List.not_mem_nil, or_false] at ha
    rcases ha with rfl | rfl
    · exact ⟨_, h2, rfl⟩
    · exact ⟨_, h4, rfl⟩
theorem wk_graphAt : Wk (graphAtT P w g l d L) (graphT P w L) := fun Z H v f h => by
  unfold graphAtT at h
  unfold Rep at h
  obtain ⟨_, e1, G, e2⟩ := h
  rw [e1, e2]
  exact rep_graph G
theorem ws_wk {x : TS} (i : Nat) (h : sl[i]? = some (some t)) (wk : Wk t t') (k : WS fr pn tmp (sl.set i (some t')) x K) : WS fr pn tmp sl x K := fun pv tv σ H D r n rt b ct => by
  refine k pv tv σ H D ?_ n rt b ct
  obtain ⟨v, ev, r1⟩ := r.take h
  have hlen : i < sl.length := (List.getElem?_eq_some_iff.mp h).1
  have r2 := R.give (i := i) (r1.weak wk) (by rw [List.getElem?_set_self hlen]) ev
  rwa [List.set_set] at r2
theorem yl_gkeys {Kf : PySem.W.Frag} : Yl (Itl Kf l) [.ref g] L.length [graphAtT P w g l d L] fun j => kT (L.getD j .none) := fun fr pn pv tmp tv sl σ H r => by
  obtain ⟨Z, f, z⟩ := (show R fr pn pv (graphAtT P w g l d L :: tmp) (.ref g :: tv) sl σ H from r).top
  unfold graphAtT at z
  unfold Rep at z
  obtain ⟨_, _, G, _⟩ := z
  obtain ⟨vs, h1, h2, h3, _⟩ := id G
  have hl := h3.len
  refine ⟨fun i hi => ⟨vs, vs[i]'(by omega), SqL.of h2, List.getElem?_eq_getElem _⟩, ⟨vs, SqL.of h2, by omega⟩, fun i x H' hi y => ?_⟩
  obtain ⟨rfl, y⟩ := y
  have hx := y vs (SqL.of h2)
  obtain ⟨u, hu, nk⟩ := h3.get (List.getElem?_eq_getElem hi)
  rw [hx] at hu
  cases hu
  show R fr pn pv (kT (L.getD i .none) :: ([graphAtT P w g l d L] ++ tmp)) (x :: ([V.ref g] ++ tv)) sl σ H'
  rw [List.getD_eq_getElem?_getD, List.getElem?_eq_getElem hi]
  exact r.lit fun Z => NK.rep _ _ nk
theorem wi_gkeys (h : sl[i]? = some (some (graphT P w L))) (k : ∀ g l d, KI L.length [graphAtT P w g l d L] (fun j => kT (L.getD j .none)) (some i) (sl.set i none)) : WI fr pn tmp sl (iList Kf (tOp (rIxT Kg) (tVar i) (tC (.int 1)))) KI := fun pv tv σ H Rk r q => by
  obtain ⟨v, ev, r1⟩ := r.take h
  obtain ⟨Z, f, z⟩ := r1.top
  obtain ⟨g, l, d, e1, G, e2⟩ := z.graph
  subst e1
  obtain ⟨vs, h1, h2, h3, _⟩ := id G
  have hlen : i < sl.length := (List.getElem?_eq_some_iff.mp h).1
  refine ⟨.ref g, ev, g, _, 1, .ref l, rfl, rfl, SqT.of h1, by exact atI_nat (j := 1) rfl, l, rfl, ⟨vs, SqL.of h2⟩, ?_⟩
  have r2 : R fr pn pv (graphAtT P w g l d L :: tmp) (.ref g :: tv) (sl.set i none) σ H := by
    obtain ⟨f1, f2, rr⟩ := r1
    refine ⟨f1, f2, ?_, rr.slots, rr.nd, rr.own, rr.fm, rr.pins⟩
    have hh := rr.hands
    unfold Reps at hh ⊢
    obtain ⟨v', vs', g1, g2, e1, e3, a, b⟩ := hh
    cases e1
    refine ⟨.ref g, tv, g1, g2, rfl, e3, ?_, b⟩
    obtain ⟨g', l', d', e4, G', e5⟩ := a.graph
    cases e4
    obtain ⟨vs', h1', _⟩ := id G'
    rw [h1] at h1'
    injection h1' with h1'
    injection h1' with h1'
    injection h1' with q1 q2
    injection q1 with q1
    injection q2 with q2 _
    injection q2 with q2
    subst q1
    subst q2
    unfold graphAtT Rep
    exact ⟨graphAt_framed, rfl, G', e5⟩
  exact q _ _ _ _ _ [.ref g] _ H (k g l d) rfl yl_gkeys (fun j z => by cases z; exact ⟨_, rfl, ev⟩) r2
theorem we_cutTd {k : Nat} (h : WE fr pn tmp sl te fun t sl1 => ∃ xs, t = .tup xs ∧ stillA xs = true ∧ k ≤ xs.length ∧ KE (.tup (xs.drop k)) sl1) :
    WE fr pn tmp sl (tSl (rSlA Kf) te (tPart (tC (.int (k : Int)))) tNoPart) KE := fun pv tv σ H Q r q => by
  refine h pv tv σ H _ r fun t sl1 v H1 ⟨xs, e, hs, hk, kk⟩ r1 => ?_
  subst e
  obtain ⟨f1, f2, rf⟩ := id r1
  have hh := rf.hands
  unfold Reps at hh
  obtain ⟨v', vs', g1, g2, e1, e2, zl, b⟩ := hh
  cases e1
  unfold Rep at zl
  obtain ⟨a, vs, q1, q2, q3⟩ := zl
  have := Reps.still _ _ _ q3 hs
  subst this
  subst q1
  rw [List.nil_append] at e2
  subst e2
  have hlen := q3.len
  have e0 : HT.sIx vs.length 0 (some (k : Int)) = k := by rw [HT.sIx_nat]; omega
  refine ⟨(k : Int), rfl, a, vs, rfl, q2.sq, fun z => ?_, fun _ p hp => ?_⟩
  · rw [e0] at z
    have hk0 := z.1
    subst hk0
    exact q _ sl1 _ _ kk r1
  · have ec : cutV vs (some (k : Int)) none = vs.drop k := cutV_drop vs k
    rw [ec]
    have r5 : R fr pn pv (xs.drop k ++ tmp) (vs.drop k ++ tv) sl1 σ H1 := ⟨_, f2, (by
      have p := q3.part hs k (xs.length - k)
      have e1 : (xs.drop k).take (xs.length - k) = xs.drop k := List.take_of_length_le (by rw [List.length_drop]; omega)
      have e2 : (vs.drop k).take (xs.length - k) = vs.drop k := List.take_of_length_le (by rw [List.length_drop]; omega)
      rw [e1, e2] at p
      have := p.join b
      rwa [List.nil_append] at this), rf.slots, rf.nd, rf.own, rf.fm, rf.pins⟩
    exact q _ sl1 _ _ kk (r5.mkTup (by rw [List.length_drop, List.length_drop, hlen]) hp)
end
end Rs
set_option maxHeartbeats 4000000
namespace Rs
open PySem L2 PySem.Spec PyProof.Rows
local macro_rules | `(tactic| walk_at "rs ne") => `(tactic| first | assumption | (apply Ne.symm; assumption) | (apply ne_n1; assumption; walk_at "rs hp") | (apply ne_n2; assumption; walk_at "rs hp"))
local macro_rules | `(tactic| walk_at "rs hp") => `(tactic| first | assumption | exact upd_same | (apply hp_ne; (walk_at "rs ne"); (walk_at "rs hp")))
local macro_rules | `(tactic| walk_at "rs sq") => `(tactic| first | assumption | (apply SqL.of; walk_at "rs hp") | (apply SqT.of; walk_at "rs hp") | (apply TupAt.sq; assumption))
local macro_rules | `(tactic| walk_at "rs sz") => `(tactic| first | decide | (rw [sizeLine_eq]; simp; done) | (rw [sizeLine_eq]; simp; omega) | (rw [sizeLine_eq]; omega))
local macro_rules | `(tactic| walk_at "rs ar") => `(tactic| first | assumption | (show (0 : Int) < _; first | assumption | decide | omega) | exact Or.inr ⟨by decide, by decide⟩ | exact Or.inl ⟨by decide, by decide⟩ | exact Or.inl ⟨by omega, by omega⟩ | exact Or.inr ⟨by omega, by omega⟩ | exact ⟨by decide, by decide, by decide⟩ | exact ⟨by decide, by decide⟩ | exact ⟨by omega, by omega⟩)
local macro_rules | `(tactic| walk_at "rs r1") => `(tactic| with_reducible (first | refine w_var rfl ?_ | refine w_c ?_ | refine w_op ?_ | refine w_un ?_ | refine w_test ?_ | refine w_B ?_ | refine w_bool ?_ | refine w_not ?_ | refine w_cb ?_ | refine w_nil ?_ | refine w_cons ?_ | refine w_asg ?_ | refine w_name ?_ | refine w_seq ?_ | refine w_ret ?_ | refine w_drop ?_ | refine w_next ?_ | refine w_ifS ?_ | refine w_I0 ?_ | refine w_eqI ?_ | refine w_neI ?_ | refine w_int ?_ | refine w_abs ?_ | refine w_sl ?_ | refine w_part ?_ | refine w_intO ?_ | refine w_nopart ?_ | refine w_gsub ?_ | refine w_augS ?_ | refine w_ip ?_ | refine w_lst ?_ | refine w_tup ?_ | refine w_if ?_ | refine w_and ?_ | refine w_or ?_ | refine w_tfld ?_ | refine w_forL ?_ | refine w_forT ?_ | refine w_forR1 ?_ | refine w_forR2 ?_ | refine w_forE ?_ | refine w_lcL ?_ | refine w_lcR1 ?_ | refine w_bm ?_ | refine w_call ?_ | refine w_meth ?_ | refine w_nget ?_ | refine w_nin ?_ | refine w_nput ?_ | refine w_eqS ?_ | refine w_neS ?_))
local macro_rules | `(tactic| walk_at "rs r2") => `(tactic| first | (walk_at "rs r1") | ((with_reducible refine' w_ixL ?h1 ?h2 ?h3); (case h1 => walk_at "rs sq"); (case h2 => first | rfl | exact atI_nat (j := 0) rfl | exact atI_nat (j := 1) rfl | exact atI_nat (j := 2) rfl)) | ((with_reducible refine' w_ixT ?h1 ?h2 ?h3); (case h1 => walk_at "rs sq"); (case h2 => first | rfl | exact atI_nat (j := 0) rfl | exact atI_nat (j := 1) rfl | exact atI_nat (j := 2) rfl)) | ((with_reducible refine' w_cutL ?h1 ?_); (case h1 => walk_at "rs sq"); intro q hq) | ((with_reducible refine' w_cat ?h1 ?h2 ?h3 ?_); (case h1 => walk_at "rs hp"); (case h2 => walk_at "rs hp"); (case h3 => walk_at "rs sz"); intro q hq) | ((with_reducible refine' w_small ?h1 ?_); (case h1 => exact Nat.le_of_ble_eq_true rfl); intro q hq) | ((with_reducible refine' w_setL ?h1 ?h2 ?_); (case h1 => walk_at "rs hp"); (case h2 => rfl)) | ((with_reducible refine' w_getL ?h0 ?h1 ?h2 ?_); (case h0 => rfl); (case h1 => walk_at "rs sq"); (case h2 => rfl)) | ((with_reducible refine' w_lenL ?h1 ?_); (case h1 => walk_at "rs sq")) | ((with_reducible refine' w_lenT ?h1 ?_); (case h1 => walk_at "rs sq")) | ((with_reducible refine' w_fld ?h1 ?h2 ?h3 ?h4 ?_); (case h1 => assumption); (case h2 => assumption); (case h3 => walk_at "rs hp"); (case h4 => assumption)) | ((with_reducible refine' w_methAt ?h1 ?h2 ?_); (case h1 => walk_at "rs hp"); (case h2 => assumption)) | ((with_reducible refine' w_tyL ?h1 ?_); (case h1 => walk_at "rs sq")) | ((with_reducible refine' w_append ?h1 ?h2 ?_); (case h1 => walk_at "rs hp"); (case h2 => assumption)) | ((with_reducible refine' w_I ?h1 ?_); (case h1 => walk_at "rs ar")))
local macro_rules | `(tactic| walk_at "rs rd") => `(tactic| repeat (walk_at "rs r2"))
abbrev sGG (i : Nat) : Stmt := inClass (topX 14) i
structure TxtGG (K : PySem.W.Frag) (mg : Str → Option Value) (C : Addr) : Prop where
  m : TxtM K mg C
  most : ∃ t, mg "MOST_NODES" = some (.int 3000 t)
theorem ps_never {X : Cx} {st : Stmt} : PS X st (fun _ _ _ => False) := ⟨fun _ _ _ _ _ _ h => h.elim⟩
def spHeadG (P : Program) (w : World) (C : Addr) : Sp := fun vs H Q _ => ∃ (g l d : Addr) (L : List NestedKey) (i : Nat) (k : NestedKey), vs = [.ref g, .int (i : Int)] ∧ GraphAt P w C H g l d L ∧ L[i]? = some k ∧ ∀ v, NK H k v → Q v H
section
variable {P : Program} {w : World} {K : PySem.W.Frag} {mg : Str → Option Value} {base : Heap} {C : Addr}
theorem scNumG : FnScope ["self", "head"] ["self", "head"] (defScope (sGG 2)) := ⟨rfl, rfl, rfl, by decide +kernel, rfl, by decide +kernel, by decide +kernel⟩
theorem scHeadG : FnScope ["self", "n"] ["self", "n"] (defScope (sGG 5)) := ⟨rfl, rfl, rfl, by decide +kernel, rfl, by decide +kernel, by decide +kernel⟩
theorem ok_headG {f : Addr} {fd : FuncData} (F : Fun K "head_of" "Graph.head_of" (sGG 5) f fd) (T : TxtM K mg C) : FnOk P w K mg base CX0 1 f fd ["self", "n"] (spHeadG P w C) := by
  refine F.ok scHeadG (fun vs H Q E h => ?_) (fun cdv A outer s H vs Q E hr h => ?_)
  · obtain ⟨g, l, d, L, n, k, rfl, _⟩ := h
    rfl
  · obtain ⟨g, l, d, L, n, k, rfl, G, hk, q⟩ := h
    refine ⟨_, pss_cons (ps_if (pw_or (pt_cmpR op_lt (pv 1) pe_int (nomark _)) (pw_or1 (pt_cmpR op_ge (pv 1) (pe_callB c_len (by rfl) T.len PySem.boot_len (pa_cons (pe_fld (pv 0) rfl) pa_nil)) (nomark _)))).pt
        (pss_one ps_never) pss_nil)
      (pss_one (ps_ret (pe_ix ix_list (pe_fld (pv 0) rfl) (pv 1) (fun _ _ => rfl)))), ?_⟩
    have cl := T.cl
    have nH := T.nH
    have gH := gf_heads l d
    obtain ⟨dx, vs, h1, h2, h3, h4, h5, h6, h7⟩ := id G
    have hlen := h3.len
    have hi := (List.getElem?_eq_some_iff.mp hk).1
    walk_at "rs rd"
    refine w_ite (fun e1 => absurd e1 (by omega)) (fun e1 => ?_)
    walk_at "rs rd"
    refine w_ite (fun e2 => absurd e2 (by omega)) (fun e2 => ?_)
    walk_at "rs rd"
    obtain ⟨v, hv, nk⟩ := h3.get hk
    refine w_ixL (by walk_at "rs sq") (atI_nat hv) ?_
    exact q v nk
theorem scIsLG : FnScope ["self", "n"] ["self", "n"] (defScope (sGG 6)) := ⟨rfl, rfl, rfl, by decide +kernel, rfl, by decide +kernel, by decide +kernel⟩
theorem ok_isLG {f fH : Addr} {fd fdH : FuncData} (F : Fun K "is_letter" "Graph.is_letter" (sGG 6) f fd) (T : TxtM K mg C) (GH : FnOk P w K mg base CX0 1 fH fdH ["self", "n"] (spHeadG P w C)) (bH : Binds K fdH ["self", "n"] []) (mH : Meth K C "head_of" fH) : FnOk P w K mg base CX0 2 f fd ["self", "n"] (spIsL P w C) := by
  refine F.ok scIsLG (fun vs H Q E h => ?_) (fun cdv A outer s H vs Q E hr h => ?_)
  · obtain ⟨g, l, d, L, i, s, r, rfl, _⟩ := h
    rfl
  · obtain ⟨g, l, d, L, i, s, r, rfl, G, hk, k⟩ := h
    refine ⟨_, pss_one (ps_ret (pe_cmpR op_eq (pe_ix ix_tup (pe_meth (E := E0) (pv 0) T.cl mH GH hr bH .nil pass0 (pa_cons (pv 1) pa_nil)) pe_int (fun _ _ => rfl)) pe_str (nomark _))), ?_⟩
    have nM : (gf l d).lookup ("head_of" : Str) = none := gf_no _ _ (by decide +kernel) (by decide +kernel)
    obtain ⟨dx, vs, h1, h2, h3, h4, h5, h6, h7⟩ := id G
    walk_at "rs rd"
    refine ⟨g, l, d, L, i, _, rfl, G, hk, fun v nk => ?_⟩
    cases nk with
    | tup ea ra =>
      cases ra with
      | cons r1 r2 =>
        cases r1
        walk_at "rs rd"
        exact k
theorem scOpG : FnScope ["self", "n", "head"] ["self", "n"] (defScope (sGG 8)) := ⟨rfl, rfl, rfl, by decide +kernel, rfl, by decide +kernel, by decide +kernel⟩
theorem ok_opG {f fH : Addr} {fd fdH : FuncData} (F : Fun K "op_of" "Graph.op_of" (sGG 8) f fd) (T : TxtM K mg C) (GH : FnOk P w K mg base CX0 1 fH fdH ["self", "n"] (spHeadG P w C)) (bH : Binds K fdH ["self", "n"] []) (mH : Meth K C "head_of" fH) : FnOk P w K mg base CX0 2 f fd ["self", "n"] (spOp P w C) := by
  refine F.ok scOpG (fun vs H Q E h => ?_) (fun cdv A outer s H vs Q E hr h => ?_)
  · obtain ⟨g, l, d, L, i, o, r, rfl, _⟩ := h
    rfl
  · obtain ⟨g, l, d, L, i, o, r, rfl, G, hk, k⟩ := h
    have nd := scOpG.nd
    refine ⟨_, pss_cons (ps_set (i := 2) nd rfl (Or.inl rfl) (pe_meth (E := E0) (pv 0) T.cl mH GH hr bH .nil pass0 (pa_cons (pv 1) pa_nil)))
      (pss_cons (ps_if (pt_cmpR op_ne (pe_ix ix_tup (pv 2) pe_int (fun _ _ => rfl)) pe_str (nomark _)) (pss_one ps_never) pss_nil)
      (pss_one (ps_ret (pe_ix ix_tup (pv 2) pe_int (fun _ _ => rfl))))), ?_⟩
    have nM : (gf l d).lookup ("head_of" : Str) = none := gf_no _ _ (by decide +kernel) (by decide +kernel)
    obtain ⟨dx, vs, h1, h2, h3, h4, h5, h6, h7⟩ := id G
    walk_at "rs rd"
    refine ⟨g, l, d, L, i, _, rfl, G, hk, fun v nk => ?_⟩
    cases nk with
    | tup ea ra =>
      cases ra with
      | cons r1 r2 =>
        cases r1
        cases r2 with
        | cons r2 r3 =>
          cases r2
          walk_at "rs rd"
          refine w_iteN (fun e => absurd rfl e) (fun e => ?_)
          walk_at "rs rd"
          exact k
theorem scPartsG : FnScope ["self", "n", "head"] ["self", "n"] (defScope (sGG 9)) := ⟨rfl, rfl, rfl, by decide +kernel, rfl, by decide +kernel, by decide +kernel⟩
theorem ok_partsG {f fH : Addr} {fd fdH : FuncData} (F : Fun K "parts_of" "Graph.parts_of" (sGG 9) f fd) (T : TxtM K mg C) (GH : FnOk P w K mg base CX0 1 fH fdH ["self", "n"] (spHeadG P w C)) (bH : Binds K fdH ["self", "n"] []) (mH : Meth K C "head_of" fH) : FnOk P w K mg base CX0 2 f fd ["self", "n"] (spParts P w C) := by
  refine F.ok scPartsG (fun vs H Q E h => ?_) (fun cdv A outer s H vs Q E hr h => ?_)
  · obtain ⟨g, l, d, L, i, rfl, _⟩ := h
    rfl
  · obtain ⟨g, l, d, L, i, rfl, G, k⟩ := h
    have nd := scPartsG.nd
    refine ⟨_, pss_cons (ps_set (i := 2) nd rfl (Or.inl rfl) (pe_meth (E := E0) (pv 0) T.cl mH GH hr bH .nil pass0 (pa_cons (pv 1) pa_nil)))
      (pss_cons (ps_if (pt_cmpR op_eq (pe_ix ix_tup (pv 2) pe_int (fun _ _ => rfl)) pe_str (nomark _)) (pss_one (ps_ret (pe_tup pa_nil))) pss_nil)
      (pss_one (ps_ret (pe_ix ix_tup (pv 2) pe_int (fun _ _ => rfl))))), ?_⟩
    have nM : (gf l d).lookup ("head_of" : Str) = none := gf_no _ _ (by decide +kernel) (by decide +kernel)
    obtain ⟨dx, vs, h1, h2, h3, h4, h5, h6, h7⟩ := id G
    walk_at "rs rd"
    rcases k with ⟨b, hk, k⟩ | ⟨o, ns, hk, k⟩
    · refine ⟨g, l, d, L, i, _, rfl, G, hk, fun v nk => ?_⟩
      cases nk with
      | tup ea ra =>
        cases ra with
        | cons r1 r2 =>
          cases r1
          walk_at "rs rd"
          refine w_ite (fun e => ?_) (fun e => absurd rfl e)
          refine w_ret (w_tup (w_nil (w_small (by decide) fun p hp => ?_)))
          exact k p hp
    · refine ⟨g, l, d, L, i, _, rfl, G, hk, fun v nk => ?_⟩
      cases nk with
      | tup ea ra =>
        cases ra with
        | cons r1 r2 =>
          cases r1
          cases r2 with
          | cons r2 r3 =>
            cases r2
            cases r3 with
            | cons r3 r4 =>
              cases r4
              cases r3 with
              | tup ep rp =>
                have ex := nums_vals rp
                subst ex
                walk_at "rs rd"
                refine w_ite (fun e => absurd e (by decide +kernel)) (fun e => ?_)
                walk_at "rs rd"
                exact k _ ep
theorem scLetG : FnScope ["self", "key"] ["self", "key"] (defScope (sGG 3)) := ⟨rfl, rfl, rfl, by decide +kernel, rfl, by decide +kernel, by decide +kernel⟩
theorem ok_letG {f fM : Addr} {fd fdM : FuncData} (F : Fun K "letter" "Graph.letter" (sGG 3) f fd) (T : TxtM K mg C) (GM : FnOk P w K mg base CX0 1 fM fdM ["self", "head"] (spNum P w C)) (bM : Binds K fdM ["self", "head"] []) (mM : Meth K C "numbered" fM) :
    FnOk P w K mg base CX0 2 f fd ["self", "key"] (spLetter P w C) := by
  refine F.ok scLetG (fun vs H Q E h => ?_) (fun cdv A outer s H vs Q E hr h => ?_)
  · obtain ⟨g, l, d, L, key, kv, rfl, _⟩ := h
    rfl
  · obtain ⟨g, l, d, L, key, kv, rfl, G, hk, hdp, hl, q1, q2⟩ := h
    refine ⟨_, pss_one (ps_ret (pe_meth (E := E0) (pv 0) T.cl mM GM hr bM .nil pass0 (pa_cons (pe_tup (pa_cons pe_str (pa_cons (pv 1) pa_nil))) pa_nil))), ?_⟩
    have nM : (gf l d).lookup ("numbered" : Str) = none := gf_no _ _ (by decide +kernel) (by decide +kernel)
    obtain ⟨dx, vs, h1, h2, h3, h4, h5, h6, h7⟩ := id G
    walk_at "rs rd"
    rename_i p hp
    have f1 : Fm [] H (upd H p (.tup [.str "letter", kv])) := Fm.new hp
    refine ⟨g, p, l, d, L, _, rfl, G.frame f1 List.not_mem_nil List.not_mem_nil List.not_mem_nil (fun _ _ _ _ => List.not_mem_nil), .tup (.of upd_same) (.cons (.text _) (.cons (NK.mono (fun a _ e _ => f1 _ _ e List.not_mem_nil) _ _ hk) .nil)), nk_depth key hdp, hl, fun i hi => q1 i _ hi (G.frame f1 List.not_mem_nil List.not_mem_nil List.not_mem_nil (fun _ _ _ _ => List.not_mem_nil)) f1, fun hn H' G' f' => q2 hn H' G' (f1.nil.trans f')⟩
theorem ok_numG {f : Addr} {fd : FuncData} (F : Fun K "numbered" "Graph.numbered" (sGG 2) f fd) (TG : TxtGG K mg C) : FnOk P w K mg base CX0 1 f fd ["self", "head"] (spNum P w C) := by
  refine F.ok scNumG (fun vs H Q E h => ?_) (fun cdv A outer s H vs Q E hr h => ?_)
  · obtain ⟨g, p, l, d, L, k, rfl, _⟩ := h
    rfl
  · obtain ⟨g, p, l, d, L, k, rfl, G, hk, hdp, hl3, q1, q2⟩ := h
    have nd := scNumG.nd
    obtain ⟨t, hm⟩ := TG.most
    have T := TG.m
    have hu := hr.units
    refine ⟨_, Evl.pss_cut (ps_if (pt_cmp (pc_nnotin hu (pv 1) (pe_fld (pv 0) rfl)))
        (pss_cons (ps_if (pt_cmpR op_ge (pe_callB c_len (by rfl) T.len PySem.boot_len (pa_cons (pe_fld (pv 0) rfl) pa_nil)) (pe_glob (v := .int 3000) rfl hm ⟨_, rfl⟩) (nomark _)) (pss_one ps_never) pss_nil) (pss_cons (ps_nput hu (pe_fld (pv 0) rfl) (pv 1) (pe_callB c_len (by rfl) T.len PySem.boot_len (pa_cons (pe_fld (pv 0) rfl) pa_nil)) rfl)
        (pss_one (ps_expr (pe_bm PySem.F.plainAttrs_list PySem.F.slot_list_append PySem.F.type_list_append mt_append (pe_fld (pv 0) rfl) (pa_cons (pv 1) pa_nil)))))) pss_nil)
      (pss_one (ps_ret (pe_nget hu (pe_fld (pv 0) rfl) (pv 1) (fun _ _ => rfl)))), ?_⟩
    have cl := T.cl
    have nH := T.nH
    have nK := T.nK
    have gH := gf_heads l d
    have gK := gf_known l d
    obtain ⟨dx, vs, h1, h2, h3, h4, h5, h6, h7⟩ := id G
    obtain ⟨gl, gd, ld⟩ := G.parts
    refine w_cut (M := fun σ' H' => σ' = [some (.ref g), some (.ref p)] ∧ ((k ∈ L ∧ H' = H) ∨ (k ∉ L ∧ L.length < 3000 ∧ GraphAt P w C H' g l d (L ++ [k]) ∧ Fm [l, d] H H'))) ?_ ?_
    · walk_at "rs rd"
      refine ⟨d, p, _, k, rfl, rfl, h4, hk, hdp, ?_⟩
      by_cases hkL : k ∈ L
      · obtain ⟨i, hi⟩ := List.getElem?_of_mem hkL
        have e : (valV (kvsOf L 0) k).isSome = true := by rw [kvsOf_at h5 hi]; rfl
        refine ⟨false, by rw [e]; rfl, ?_⟩
        rw [if_neg Bool.false_ne_true]
        walk_at "rs rd"
        exact ⟨rfl, .inl ⟨hkL, rfl⟩⟩
      · have e : (valV (kvsOf L 0) k).isSome = false := by rw [kvsOf_none hkL]; rfl
        refine ⟨true, by rw [e]; rfl, ?_⟩
        rw [if_pos rfl]
        have hlen := h3.len
        walk_at "rs rd"
        refine w_ite (fun e1 => absurd e1 (by omega)) (fun e1 => ?_)
        walk_at "rs rd"
        · refine ⟨d, p, _, k, rfl, rfl, h4, hk, hdp, (by rw [kvsOf_len, sizeLine_eq]; omega), fun H4 d4 e4 => ?_⟩
          have hz : vs.length < sizeLine := by rw [sizeLine_eq]; omega
          have h1' : H4 g = some (.ins C dx (gf l d)) := (e4 g gd).trans h1
          have h2' : H4 l = some (.lst vs) := (e4 l ld).trans h2
          walk_at "rs rd"
          have f1 : Fm [l, d] H H4 := fun a o ea na => (e4 a fun z => na (by simp [z])).trans ea
          have f2 : Fm [l, d] H (upd H4 l (.lst (vs ++ [.ref p]))) := f1.thenPut (by simp)
          have tp : Tps H (upd H4 l (.lst (vs ++ [.ref p]))) := fun b u eb hu => f2 b _ eb fun z => by
            obtain ⟨es, hd', _⟩ := id h4
            rcases List.mem_cons.mp z with z | z
            · subst z; rw [h2] at eb; cases eb; cases hu
            · rw [List.mem_singleton] at z
              subst z
              rw [hd'] at eb
              cases eb
              cases hu
          have tp4 : Tps H4 (upd H4 l (.lst (vs ++ [.ref p]))) := fun b u eb hu => by
            rw [upd_ne (fun z => by rw [z, h2'] at eb; cases eb; cases hu)]
            exact eb
          refine ⟨rfl, .inr ⟨hkL, by omega, ⟨dx, _, by walk_at "rs hp", upd_same, NKs.snoc (NK.mono tp _ _ hk) (NKs.mono tp _ _ h3), ?_, ?_, ?_, ?_⟩, f2⟩⟩
          · have q := d4.frame (H' := upd H4 l (.lst (vs ++ [.ref p]))) (fun o eo => by rw [upd_ne (Ne.symm ld)]; exact eo) tp4
            have ev : (V.int (vs.length : Int)) = .int (L.length : Int) := by rw [hlen]
            rw [ev, kvsOf_put hkL] at q
            exact q
          · exact List.nodup_append.mpr ⟨h5, by simp, fun a ha b hb => by rw [List.mem_singleton] at hb; subst hb; exact fun z => hkL (z ▸ ha)⟩
          · intro a ha
            rcases List.mem_append.mp ha with ha | ha
            · exact h6 a ha
            · rw [List.mem_singleton] at ha; subst ha; exact hdp
          · rw [List.length_append, List.length_singleton]; omega
    · rintro σ' H' ⟨rfl, ⟨hkL, rfl⟩ | ⟨hkL, hl3, G', f'⟩⟩
      · walk_at "rs rd"
        obtain ⟨i, hi⟩ := List.getElem?_of_mem hkL
        have e := kvsOf_at (n := 0) h5 hi
        rw [Nat.zero_add] at e
        exact ⟨d, p, _, k, _, rfl, rfl, h4, hk, hdp, e, q1 i hi⟩
      · obtain ⟨dx', vs', h1', h2', h3', h4', h5', h6', h7'⟩ := id G'
        walk_at "rs rd"
        have hi : (L ++ [k])[L.length]? = some k := by simp
        have e := kvsOf_at (n := 0) h5' hi
        rw [Nat.zero_add] at e
        have tp : Tps H (H') := fun b u eb hu => f' b _ eb fun z => by
          obtain ⟨es, hd', _⟩ := id h4
          rcases List.mem_cons.mp z with z | z
          · subst z; rw [h2] at eb; cases eb; cases hu
          · rw [List.mem_singleton] at z
            subst z
            rw [hd'] at eb
            cases eb
            cases hu
        exact ⟨d, p, _, k, _, rfl, rfl, h4', NK.mono tp _ _ hk, hdp, e, q2 hkL H' G' f'⟩
theorem scNodeG : FnScope ["self", "op", "parts", "part"] ["self", "op", "parts"] (defScope (sGG 4)) := ⟨rfl, rfl, rfl, by decide +kernel, rfl, by decide +kernel, by decide +kernel⟩
def spNodeG (P : Program) (w : World) (C : Addr) : Sp := fun vs H Q E => ∃ (g l d pp : Addr) (L : List NestedKey) (o : Str) (ns : List Int), vs = [.ref g, .str o, .ref pp] ∧ GraphAt P w C H g l d L ∧ TupAt H pp (ns.map V.int) ∧ (∀ n ∈ ns, 0 ≤ n ∧ n < (L.length : Int)) ∧ L.length < 3000 ∧
  (∀ (i : Nat) H', L[i]? = some (.tup [.text "op", .text o, .tup (ns.map .num)]) → GraphAt P w C H' g l d L → Fm [] H H' → Q (.int (i : Int)) H') ∧
  (.tup [.text "op", .text o, .tup (ns.map .num)] ∉ L → ∀ H', GraphAt P w C H' g l d (L ++ [.tup [.text "op", .text o, .tup (ns.map .num)]]) → Fm [l, d] H H' → Q (.int (L.length : Int)) H')
def gNodeG (P : Program) (w : World) (C : Addr) (ts : List T) (K : T → List T → Prop) : Prop := ∃ (L : List NestedKey) (o : Str) (ns : List Int), ts = [termsT P w C L, .str o, .tup (ns.map T.int)] ∧ (∀ n ∈ ns, 0 ≤ n ∧ n < (L.length : Int)) ∧ L.length < 3000 ∧
  K (.int ((L.idxOf (.tup [.text "op", .text o, .tup (ns.map .num)]) : Nat) : Int)) [termsT P w C (addK L (.tup [.text "op", .text o, .tup (ns.map .num)])), .str o, .tup (ns.map T.int)]
theorem mono_nodeG : Mono (gNodeG P w C) := fun ts K K' h ⟨L, o, ns, e, e0, e1, kk⟩ => ⟨L, o, ns, e, e0, e1, h _ _ kk⟩
theorem conv_nodeG {vs : List V} {H : Hp} {Q : VK} {E : XK} (h : spT (gNodeG P w C) vs H Q E) : spNodeG P w C vs H Q E := by
  obtain ⟨ts, Z, fp, r, nd, nz, L, o, ns, e, hb, hl, k⟩ := h
  subst e
  obtain ⟨v, vs', f1, f2, e1, e2, z, r2⟩ := reps2 r
  obtain ⟨v2, vs2, g1, g2, e3, e6, z2, r3⟩ := reps2 r2
  obtain ⟨u, e7, zu⟩ := reps1 r3
  obtain ⟨g, l, d, e4, G, e5⟩ := z.terms
  have q2 := v_str z2
  unfold Rep at zu
  obtain ⟨pp, ws, w1, w2, w3⟩ := zu
  obtain ⟨w4, w5⟩ := w3.ints
  have hg1 : g1 = [] := Rep.still _ _ _ z2 (by unfold T.still; rfl)
  subst hg1
  subst w5
  rw [e6, List.append_nil, List.append_nil, e5] at e2
  rw [e6, List.append_nil] at r2
  have hn : L.Nodup := by
    obtain ⟨_, _, _, _, _, _, h, _⟩ := G
    exact h
  subst e4
  subst q2
  subst e7
  subst w1
  subst w4
  subst e3
  refine ⟨g, l, d, pp, L, o, ns, e1, G, w2, hb, hl, fun i H' hi G' f' => ?_, fun hno H' G' f' => ?_⟩
  · obtain ⟨a, b, c, d'⟩ := ask_add (n := ((L.idxOf (.tup [.text "op", .text o, .tup (ns.map .num)]) : Nat) : Int)) (f2 := []) r2 e2 nz nd f'.nil ⟨_, G⟩ G'
    rw [e1] at k
    have ea : addK L (.tup [.text "op", .text o, .tup (ns.map .num)]) = L := if_pos (List.mem_of_getElem? hi)
    rw [ea, idx_at hn hi] at k
    rw [idx_at hn hi] at a
    exact k _ H' fp a b c d'
  · obtain ⟨a, b, c, d'⟩ := ask_add (n := ((L.idxOf (.tup [.text "op", .text o, .tup (ns.map .num)]) : Nat) : Int)) (f2 := []) r2 e2 nz nd f' ⟨_, G⟩ G'
    rw [e1] at k
    have ea : addK L (.tup [.text "op", .text o, .tup (ns.map .num)]) = L ++ [.tup [.text "op", .text o, .tup (ns.map .num)]] := if_neg hno
    have ei : L.idxOf (.tup [.text "op", .text o, .tup (ns.map .num)]) = L.length := List.idxOf_eq_length hno
    rw [ea, ei] at k
    rw [ei] at a
    exact k _ H' fp a b c d'
theorem ok_nodeG {f fM fH : Addr} {fd fdM fdH : FuncData} (F : Fun K "node" "Graph.node" (sGG 4) f fd) (T : TxtM K mg C) (GM : FnOk P w K mg base CX0 1 fM fdM ["self", "head"] (spNum P w C)) (bM : Binds K fdM ["self", "head"] []) (mM : Meth K C "numbered" fM)
    (GH : FnOk P w K mg base CX0 1 fH fdH ["self", "n"] (spHeadG P w C)) (bH : Binds K fdH ["self", "n"] []) (mH : Meth K C "head_of" fH) :
    FnOk P w K mg base CX0 2 f fd ["self", "op", "parts"] (spNodeG P w C) := by
  refine F.ok scNodeG (fun vs H Q E h => ?_) (fun cdv A outer s H vs Q E hr h => ?_)
  · obtain ⟨g, l, d, pp, L, o, ns, rfl, _⟩ := h
    rfl
  · obtain ⟨g, l, d, pp, L, o, ns, rfl, G, hpp, hb, hl, q1, q2⟩ := h
    have nd := scNodeG.nd
    refine ⟨_, pss_cons (ps_for PassesOwn.never rfl (pi_tup (pv 2)) (pg_name (i := 3) nd rfl (Or.inl rfl)) (pss_one (ps_expr (pe_meth (E := E0) (pv 0) T.cl mH GH hr bH .nil pass0 (pa_cons (pv 3) pa_nil)))))
      (pss_one (ps_ret (pe_meth (E := E0) (pv 0) T.cl mM GM hr bM .nil pass0 (pa_cons (pe_tup (pa_cons pe_str (pa_cons (pv 1) (pa_cons (pe_callTy call_tupleT (by rfl) T.tuple (by decide +kernel) (pa_cons (pv 2) pa_nil)) pa_nil)))) pa_nil)))), ?_⟩
    have nM : (gf l d).lookup ("numbered" : Str) = none := gf_no _ _ (by decide +kernel) (by decide +kernel)
    have nH : (gf l d).lookup ("head_of" : Str) = none := gf_no _ _ (by decide +kernel) (by decide +kernel)
    obtain ⟨dx, vs, h1, h2, h3, h4, h5, h6, h7⟩ := id G
    refine w_seq ?_
    refine ⟨_, rfl, pp, rfl, ⟨_, hpp.sq⟩, for_tup (K := K) (a := pp) (xs := ns.map V.int) (fun i σ H' => H' = H ∧ (∃ v, σ = [some (.ref g), some (.str o), some (.ref pp), v]))
      ⟨rfl, ⟨none, rfl⟩⟩ (fun i σ H' _ ⟨e, _⟩ => by rw [e]; exact hpp.sq) ?_ ?_⟩
    · rintro i x σ H' hx ⟨rfl, ⟨v, rfl⟩⟩
      rw [List.getElem?_map] at hx
      obtain ⟨n, hn, rfl⟩ := Option.map_eq_some_iff.mp hx
      obtain ⟨n1, n2⟩ := hb n (List.mem_of_getElem? hn)
      obtain ⟨j, rfl⟩ : ∃ j : Nat, n = (j : Int) := ⟨n.toNat, by omega⟩
      have hj : j < L.length := by omega
      walk_at "rs rd"
      exact ⟨g, l, d, L, j, _, rfl, G, List.getElem?_eq_getElem hj, fun v' hv => ⟨rfl, ⟨_, rfl⟩⟩⟩
    · rintro σ H' ⟨rfl, ⟨v, rfl⟩⟩
      walk_at "rs rd"
      refine ⟨pp, _, rfl, hpp.sq, ?_⟩
      walk_at "rs rd"
      rename_i p hp
      have f1 : Fm [] H' (upd H' p (.tup [.str "op", .str o, .ref pp])) := Fm.new hp
      refine ⟨g, p, l, d, L, .tup [.text "op", .text o, .tup (ns.map .num)], rfl, G.frame f1 List.not_mem_nil List.not_mem_nil List.not_mem_nil (fun _ _ _ _ => List.not_mem_nil), .tup (.of upd_same) (.cons (.text _) (.cons (.text _) (.cons (.tup (hpp.mono fun _ _ e _ => f1 _ _ e List.not_mem_nil) (nums_nk _ ns)) .nil))), op_depth o ns, hl, fun i hi => q1 i _ hi (G.frame f1 List.not_mem_nil List.not_mem_nil List.not_mem_nil (fun _ _ _ _ => List.not_mem_nil)) f1, fun hn H' G' f' => q2 hn H' G' (f1.nil.trans f')⟩
theorem scInitG : FnScope ["self"] ["self"] (defScope (sGG 0)) := ⟨rfl, rfl, rfl, by decide +kernel, rfl, by decide +kernel, by decide +kernel⟩
theorem ok_initG {f : Addr} {fd : FuncData} (F : Fun K "__init__" "Graph.__init__" (sGG 0) f fd) (T : TxtM K mg C) : FnOk P w K mg base CX0 1 f fd ["self"] (spInit P w C) := by
  refine F.ok scInitG (fun vs H Q E h => ?_) (fun cdv A outer s H vs Q E hr h => ?_)
  · obtain ⟨g, dx, rfl, _⟩ := h
    rfl
  · obtain ⟨g, dx, rfl, hg, k⟩ := h
    refine ⟨_, pss_cons (ps_fld (pv 0) (pe_lst pa_nil) rfl) (pss_one (ps_fld (pv 0) pe_nnew rfl)), ?_⟩
    refine ⟨Nat.zero_le _, fun l hl => ?_⟩
    have ngl : g ≠ l := ne_of_none hg hl
    refine ⟨_, rfl, g, C, dx, [], rfl, (by rw [upd_ne ngl]; exact hg), T.cl, T.nH, (by show 0 < 1000; decide), ?_⟩
    intro d hd dd
    have ndg : d ≠ g := fun z => by rw [z, upd_same] at hd; cases hd
    have ndl : d ≠ l := fun z => by rw [z, upd_ne ngl.symm, upd_same] at hd; cases hd
    have hd0 : H d = none := by rw [upd_ne ndg, upd_ne ndl] at hd; exact hd
    refine ⟨_, rfl, g, C, dx, _, rfl, (by rw [upd_ne ndg.symm]; exact upd_same), T.cl, T.nK, (by show 1 < 1000; decide), ?_⟩
    refine k l d _ hl hd0 ⟨dx, [], upd_same, ?_, .nil, ?_, List.nodup_nil, fun _ h => (List.not_mem_nil h).elim, Nat.zero_le _⟩ ?_
    · rw [upd_ne ngl.symm, upd_ne ndl.symm, upd_ne ngl.symm, upd_same]
    · exact dd.frame (fun o eo => by rw [upd_ne ndg]; exact eo) fun b u eb hu => by
        rw [upd_ne (fun z => ?_)]
        · exact eb
        · rw [z, upd_ne ndg.symm, upd_same] at eb
          cases eb
          cases hu
    · exact ((((Fm.refl _ _).thenNew hl).thenPut (by simp)).thenNew hd).thenPut (by simp)
end
end Rs
set_option maxHeartbeats 8000000
namespace Rs
open PySem L2 PySem.Spec PyProof.Rows
local macro_rules | `(tactic| walk_at "dv nm") => `(tactic| dsimp only [List.set_cons_succ, List.set_cons_zero, hideT])
local macro_rules | `(tactic| walk_at "dv st") => `(tactic| first | rfl | exact kT_still _ | assumption)
local macro_rules | `(tactic| walk_at "dv 1") => `(tactic| first | (with_reducible (first | refine ws_seq ?_ | refine ws_asg ?_ | refine ws_ret ?_ | refine ws_drop ?_ | refine ws_if ?_ | refine ws_next ?_ | refine we_int ?_ | refine we_str ?_ | refine we_bl ?_ | refine we_non ?_ | refine we_tup ?_ | refine we_lst ?_ | refine wa_cons ?_ | refine wa_nil ?_ | refine wo_cons ?_ | refine wo_nil ?_ | refine wt_test ?_ | refine wt_B ?_ | refine wt_not ?_ | refine wt_and ?_ | refine wt_or ?_ | refine we_if ?_ | refine we_notV ?_ | refine we_andV ?_ | refine we_orV ?_ | refine we_dnew ?_ | refine wb_var ⟨_, rfl⟩ ?_)) | ((with_reducible refine' wg_name ?h1 ?h2 ?_); (case h1 => exact Nat.le_of_ble_eq_true rfl); (case h2 => decide); (walk_at "dv nm")) | ((with_reducible refine' we_var ?h ?s ?_); (case' h => rfl); (case s => walk_at "dv st")) | ((with_reducible refine' size_and ?sz ?_); (case sz => rw [sizeLine_eq]; exact Nat.le_of_ble_eq_true rfl)) | (with_reducible refine wb_of ?_))
local macro_rules | `(tactic| walk_at "dv") => `(tactic| repeat (walk_at "dv 1"))
local macro_rules | `(tactic| walk_at "wn") => `(tactic| ((refine wg_name (Nat.le_of_ble_eq_true rfl) (by decide) ?_); (walk_at "dv nm")))
abbrev sMde : Stmt := top 29
def gMde (P : Program) (w : World) (C : Addr) (ts : List T) (K : T → List T → Prop) : Prop := ∃ (o : Bool) (R : List Kr), ts = [termsT P w C [], keysT o R] ∧ DrOk R ∧ R.length ≤ 40 ∧ ∀ G ns, DP R G ns → K (.lst true (natT ns)) [termsT P w C (G.map headK), keysT o R]
theorem mono_mde {P : Program} {w : World} {C : Addr} : Mono (gMde P w C) := fun ts K K' h ⟨o, R, e, e1, e2, k⟩ => ⟨o, R, e, e1, e2, fun G ns a => h _ _ (k G ns a)⟩
theorem krT_getD {R : List Kr} {n : Nat} {r : Kr} (h : R[n]? = some r) : (R.map krT).getD n .non = krT r := by rw [List.getD_eq_getElem?_getD, List.getElem?_map, h]; rfl
theorem DP.next {R G : List Kr} {ns : List Nat} {i : Nat} {r : Kr} (d : DrOk R) (hi : R[i]? = some r) (h : DP (R.take i) G ns) : DP (R.take (i + 1)) (addQ G (mapKr (nsF ns) r)) (ns ++ [G.idxOf (mapKr (nsF ns) r)]) := by
  have tk : R.take (i + 1) = R.take i ++ [r] := by rw [List.take_succ, hi]; rfl
  have tl : (R.take i).length = i := by rw [List.length_take]; have := (List.getElem?_eq_some_iff.mp hi).1; omega
  rw [tk]
  refine h.step (fun o ps e => ?_) (fun k e => ?_) (fun j o ps e => ?_)
  · subst e
    obtain ⟨a, b⟩ := d.rk i o ps hi
    exact ⟨a, fun p hp => by rw [tl]; exact b p hp⟩
  · subst e
    exact d.let' i k hi
  · rw [List.getElem?_take] at e
    split at e
    · exact d.rk j o ps e
    · cases e
section
variable {P : Program} {w : World} {K : PySem.W.Frag} {mg : Str → Option Value} {base : Heap} {C : Addr}
theorem scMde : FnScope ["graph", "keys", "nodes", "key", "part"] ["graph", "keys"] (defScope sMde) := ⟨rfl, rfl, rfl, by decide +kernel, rfl, by decide +kernel, by decide +kernel⟩
theorem ok_mde {f fLe fNo : Addr} {fd fdLe fdNo : FuncData} (F : Fun K "_law_made" "_law_made" sMde f fd) (TX : TxtC K mg C)
    (GLe : FnOk P w K mg base CX0 2 fLe fdLe ["self", "key"] (spT (gLetter P w C))) (bLe : Binds K fdLe ["self", "key"] []) (mLe : Meth K C "letter" fLe)
    (GNo : FnOk P w K mg base CX0 2 fNo fdNo ["self", "op", "parts"] (spT (gNodeG P w C))) (bNo : Binds K fdNo ["self", "op", "parts"] []) (mNo : Meth K C "node" fNo) :
    FnOk P w K mg base CX0 3 f fd ["graph", "keys"] (spT (gMde P w C)) := by
  have hlen : ∀ ts K, gMde P w C ts K → ts.length = 2 := fun ts K ⟨_, _, e, _⟩ => by rw [e]; rfl
  refine F.ok scMde (fun vs H Q E h => spT_len h hlen) (fun cdv A outer s H vs Q E hr h => ?_)
  have nd := scMde.nd
  have hu1 := hu_of hr
  have nLe : ∀ l d : Addr, (gf l d).lookup ("letter" : Str) = none := fun l d => gf_no _ _ (by decide +kernel) (by decide +kernel)
  have nNo : ∀ l d : Addr, (gf l d).lookup ("node" : Str) = none := fun l d => gf_no _ _ (by decide +kernel) (by decide +kernel)
  refine ⟨_, (pss_cons (ps_set (i := 2) nd rfl (Or.inr rfl) (pe_lst pa_nil)) (Evl.pss_cut (ps_for PassesOwn.never rfl (pi_list (pv 1)) (pg_name (i := 3) nd rfl (Or.inl rfl)) (pss_one (ps_expr (pe_bm PySem.F.plainAttrs_list PySem.F.slot_list_append PySem.F.type_list_append mt_append (pv 2) (pa_cons (pe_ifExp (pt_cmpR op_eq (pe_ix ix_tup (pv 3) pe_int (fun _ _ => rfl)) pe_str (nomark _)) (pe_meth (E := E0) (pv 0) TX.cl mLe GLe (hr.mono (by decide)) bLe .nil pass0 (pa_cons (pe_slice sl_tupA (pv 3) (po_some pe_int) po_none) pa_nil)) (pe_meth (E := E0) (pv 0) TX.cl mNo GNo (hr.mono (by decide)) bNo .nil pass0 (pa_cons (pe_ix ix_tup (pv 3) pe_int (fun _ _ => rfl)) (pa_cons (pe_callTy (c_tupK (K := K) rfl) (by rfl) TX.tuple (by decide +kernel) (pa_cons (pe_lc (own := [("part", 4)]) (g := (gName 4)) (tt := tYes) rfl nd (pi_tup (pe_ix ix_tup (pv 3) pe_int (fun _ _ => rfl))) (blkOk_by (N := ["graph", "keys", "nodes", "key", "part"]) (sc := defScope sMde) (by decide +kernel)) (fun _ _ _ _ _ => (pg_name (i := 4) nd rfl (Or.inl rfl))) (fun _ _ _ _ _ => pts_nil) (fun _ _ _ _ _ => (pe_ix (ix_listK (K := K) rfl) (pv 2) (pv 4) (fun _ _ => rfl)))) pa_nil)) pa_nil)))) pa_nil))))) (pss_one (ps_ret (pv 2))))), ?_⟩
  refine body_run (n := 2) 3 (by rw [spT_len h hlen]; rfl) h (spT_len h hlen).symm fun fr ts K ⟨o, R, e, d, h40, k⟩ => ?_
  subst e
  show WS fr [0, 1] [] [some (termsT P w C []), some (keysT o R), none, none, none] _ _
  walk_at "dv"
  refine ws_cut (fun sl => ∃ G ns x, DP R G ns ∧ sl = [some (termsT P w C (G.map headK)), some (keysT o R), some (.lst true (natT ns)), x, none]) ?_ ?_
  · refine ws_for (wi_listS rfl (krs_still R) ?_)
    rw [List.length_map]
    walk_at "dv nm"
    refine ⟨fun i sl => ∃ G ns x, DP (R.take i) G ns ∧ sl = [some (termsT P w C (G.map headK)), none, some (.lst true (natT ns)), x, none], ⟨[], [], none, DP.nil, rfl⟩, ?_, ?_⟩
    · rintro i sl hi ⟨G, ns, x, dp, rfl⟩
      have hr : R[i]? = some R[i] := List.getElem?_eq_getElem hi
      obtain ⟨r, er⟩ : ∃ r, R[i] = r := ⟨_, rfl⟩
      rw [er] at hr
      have dn := dp.next d hr
      have tl : (R.take i).length = i := by rw [List.length_take]; omega
      have gl : (G.map headK).length < 3000 := by rw [List.length_map]; have := dp.few; omega
      have nl : ns.length = i := by rw [dp.len, tl]
      have hadd : addK (G.map headK) (headK (mapKr (nsF ns) r)) = (addQ G (mapKr (nsF ns) r)).map headK := add_mapG headK_inj _ _
      have hidx : (G.map headK).idxOf (headK (mapKr (nsF ns) r)) = G.idxOf (mapKr (nsF ns) r) := idx_mapG headK_inj _ _
      dsimp only
      rw [krT_getD hr]
      walk_at "wn"
      have fin : ∀ (G' : List Kr) (v : Nat) (t : T), G' = addQ G (mapKr (nsF ns) r) → v = G.idxOf (mapKr (nsF ns) r) → ∃ xs, (([some (termsT P w C (G'.map headK)), none, some (.lst true (natT ns)), some t, none] : Sl))[2]? = some (some (.lst true xs)) ∧ xs.length < sizeLine ∧
          ∃ G ns x, DP (R.take (i + 1)) G ns ∧ ([some (termsT P w C (G'.map headK)), none, some (.lst true (xs ++ [.int (v : Int)])), some t, none] : Sl) = [some (termsT P w C (G.map headK)), none, some (.lst true (natT ns)), x, none] := fun G' v t e1 e2 => by
        subst e1
        subst e2
        exact ⟨_, rfl, by rw [natT_len, sizeLine_eq]; omega, _, _, _, dn, by rw [natT_snoc]⟩
      cases r with
      | lt c =>
        have k0 : atI [T.str "letter", .str "read", .int (c : Int)] 0 = some (.str "letter") := rfl
        refine ws_drop (we_append ⟨_, rfl⟩ (we_if (wt_test (we_op2 op2_eq (wb_of (we_ixT (wb_var ⟨_, rfl⟩ (we_int ⟨_, (0 : Int), .str "letter", rfl, rfl, k0, rfl, ?_⟩))))))))
        refine wb_of (we_str ⟨_, _, rfl, rfl, _, .str _ _, _, rfl, ?_⟩)
        refine if_yes (by decide +kernel) ?_
        refine we_meth mono_letter rfl (terms_ins nLe) (wo_cons (wb_of (we_cutTd (k := 1) (we_var rfl rfl ⟨_, rfl, rfl, Nat.le_of_ble_eq_true rfl, ?_⟩))))
        refine wo_nil ⟨_, _, rfl, G.map headK, .tup [.text "read", .num (c : Int)], rfl, Nat.le_of_ble_eq_true rfl, gl, _, rfl, ?_⟩
        have e1 : addK (G.map headK) (.tup [.text "letter", .tup [.text "read", .num (c : Int)]]) = (addQ G (mapKr (nsF ns) (.lt c))).map headK := hadd
        have e2 : (G.map headK).idxOf (.tup [.text "letter", .tup [.text "read", .num (c : Int)]]) = G.idxOf (mapKr (nsF ns) (.lt c)) := hidx
        rw [e1, e2]
        exact fin _ _ _ rfl rfl
      | op oo ps =>
        obtain ⟨ho, hps⟩ := d.rk i oo ps hr
        have hp3 := ops3 ho
        have k0 : atI [T.str "op", .str oo, .tup (natT ps)] 0 = some (.str "op") := rfl
        have sk := krT_still (.op oo ps)
        refine ws_drop (we_append ⟨_, rfl⟩ (we_if (wt_test (we_op2 op2_eq (wb_of (we_ixT (wb_var ⟨_, rfl⟩ (we_int ⟨_, (0 : Int), .str "op", rfl, rfl, k0, rfl, ?_⟩))))))))
        refine wb_of (we_str ⟨_, _, rfl, rfl, _, .str _ _, _, rfl, ?_⟩)
        refine if_no (by decide +kernel) ?_
        refine we_meth mono_nodeG rfl (terms_ins nNo) (wo_cons (wb_of (we_ixT (wb_var ⟨_, rfl⟩ (we_int ⟨_, (1 : Int), .str oo, rfl, rfl, rfl, rfl, ?_⟩)))))
        refine wo_cons (wb_of (we_opParts (ps := ps) (ns := ns) rfl rfl rfl rfl (by decide) (by decide) (fun x hx => by rw [nl]; exact hps x hx) (by omega) ?_))
        refine wo_nil ⟨_, _, rfl, G.map headK, oo, (ps.map (nsF ns)).map fun p : Nat => (p : Int), by rw [natT_of]; rfl, fun n hn => ?_, gl, _, by rw [natT_of]; rfl, ?_⟩
        · obtain ⟨p, hp, rfl⟩ := List.mem_map.mp hn
          obtain ⟨q, hq, rfl⟩ := List.mem_map.mp hp
          have := dp.lt (i := q) (by rw [tl]; exact hps q hq)
          rw [List.length_map]
          omega
        have e1 : addK (G.map headK) (.tup [.text "op", .text oo, .tup (((ps.map (nsF ns)).map fun p : Nat => (p : Int)).map .num)]) = (addQ G (mapKr (nsF ns) (.op oo ps))).map headK := hadd
        have e2 : (G.map headK).idxOf (.tup [.text "op", .text oo, .tup (((ps.map (nsF ns)).map fun p : Nat => (p : Int)).map .num)]) = G.idxOf (mapKr (nsF ns) (.op oo ps)) := hidx
        rw [e1, e2]
        exact fin _ _ _ rfl rfl
    · rintro sl ⟨G, ns, x, dp, rfl⟩
      rw [List.take_length] at dp
      dsimp only [Back]
      exact ⟨rfl, G, ns, x, dp, rfl⟩
  rintro sl ⟨G, ns, x, dp, rfl⟩
  refine ws_ret (we_move rfl ?_)
  exact ⟨_, _, rfl, k G ns dp⟩
end
end Rs
set_option maxHeartbeats 8000000
namespace Rs
open PySem L2 PySem.Spec PyProof.Rows
local macro_rules | `(tactic| walk_at "dv nm") => `(tactic| dsimp only [List.set_cons_succ, List.set_cons_zero, hideT])
local macro_rules | `(tactic| walk_at "dv st") => `(tactic| first | rfl | exact kT_still _ | assumption)
local macro_rules | `(tactic| walk_at "dv 1") => `(tactic| first | (with_reducible (first | refine ws_seq ?_ | refine ws_asg ?_ | refine ws_ret ?_ | refine ws_drop ?_ | refine ws_if ?_ | refine ws_next ?_ | refine we_int ?_ | refine we_str ?_ | refine we_bl ?_ | refine we_non ?_ | refine we_tup ?_ | refine we_lst ?_ | refine wa_cons ?_ | refine wa_nil ?_ | refine wo_cons ?_ | refine wo_nil ?_ | refine wt_test ?_ | refine wt_B ?_ | refine wt_not ?_ | refine wt_and ?_ | refine wt_or ?_ | refine we_if ?_ | refine we_notV ?_ | refine we_andV ?_ | refine we_orV ?_ | refine we_dnew ?_ | refine wb_var ⟨_, rfl⟩ ?_)) | ((with_reducible refine' wg_name ?h1 ?h2 ?_); (case h1 => exact Nat.le_of_ble_eq_true rfl); (case h2 => decide); (walk_at "dv nm")) | ((with_reducible refine' we_var ?h ?s ?_); (case' h => rfl); (case s => walk_at "dv st")) | ((with_reducible refine' size_and ?sz ?_); (case sz => rw [sizeLine_eq]; exact Nat.le_of_ble_eq_true rfl)) | (with_reducible refine wb_of ?_))
local macro_rules | `(tactic| walk_at "dv") => `(tactic| repeat (walk_at "dv 1"))
local macro_rules | `(tactic| walk_at "wn") => `(tactic| ((refine wg_name (Nat.le_of_ble_eq_true rfl) (by decide) ?_); (walk_at "dv nm")))
abbrev sApl : Stmt := top 23
def dig36 : Str := "0123456789abcdefghijklmnopqrstuvwxyz"
def sgnI (c : Nat) : Int := (((Txt.index0 dig36 ⟨#[c]⟩).getD 0 : Nat) : Int)
def hsh1 (h : Int) (cs : List Nat) : Int := cs.foldl (fun h c => (31 * h + sgnI c + 1) % 1000003) h
def hsh2 (h : Int) (ws : List Int) : Int := ws.foldl (fun h w => (37 * h + w + 1) % 1000003) h
def hshN (n : Int) (o : Str) (ws : List Int) : Int := hsh2 (hsh1 (n % 1000003) o.cps.toList) ws - 500000
theorem hsh1_snoc (h : Int) (cs : List Nat) (c : Nat) : hsh1 h (cs ++ [c]) = (31 * hsh1 h cs + sgnI c + 1) % 1000003 := by
  unfold hsh1
  rw [List.foldl_append]
  rfl
theorem hsh2_snoc (h : Int) (ws : List Int) (w : Int) : hsh2 h (ws ++ [w]) = (37 * hsh2 h ws + w + 1) % 1000003 := by
  unfold hsh2
  rw [List.foldl_append]
  rfl
theorem app_class {o : Str} {k : Nat} (h : (o, k) ∈ opsL) : (o ∈ [addS, subS] ∧ k = 2) ∨ (o ∉ [addS, subS] ∧ o = negS ∧ k = 1) ∨
    (o ∉ [addS, subS] ∧ k = 0 ∧ o.length ≤ 640 ∧ ∃ (v : Int) (c : Nat), PySem.intText? o = some v ∧ Txt.isdigit o = true ∧ atI o.cps.toList 0 = some c ∧ c ∈ digS.cps.toList) ∨
    (o ∉ [addS, subS] ∧ o ≠ negS ∧ o.length ≤ 640 ∧ Txt.isdigit o = false ∧ (∃ c : Nat, atI o.cps.toList 0 = some c ∧ c ∉ digS.cps.toList) ∧ ∀ c ∈ o.cps.toList, ∃ j, Txt.index0 dig36 ⟨#[c]⟩ = some j) := by
  have h' := h
  unfold opsL at h'
  simp only [List.mem_cons, List.not_mem_nil, or_false, Prod.mk.injEq] at h'
  have one : ∀ {c : Nat} {o : Str}, o.cps.toList = [c] → (∃ j, Txt.index0 dig36 ⟨#[c]⟩ = some j) → ∀ d ∈ o.cps.toList, ∃ j, Txt.index0 dig36 ⟨#[d]⟩ = some j := fun e h d hd => by
    rw [e, List.mem_singleton] at hd
    rw [hd]
    exact h
  rcases h' with ⟨rfl, rfl⟩ | ⟨rfl, rfl⟩ | ⟨rfl, rfl⟩ | ⟨rfl, rfl⟩ | ⟨rfl, rfl⟩ | ⟨rfl, rfl⟩ | ⟨rfl, rfl⟩ | ⟨rfl, rfl⟩ | ⟨rfl, rfl⟩
  · exact .inl ⟨by decide +kernel, rfl⟩
  · exact .inl ⟨by decide +kernel, rfl⟩
  · exact .inr (.inl ⟨by decide +kernel, by decide +kernel, rfl⟩)
  · exact .inr (.inr (.inl ⟨by decide +kernel, rfl, by decide +kernel, 7, 55, by decide +kernel, by decide +kernel, by decide +kernel, by decide +kernel⟩))
  · exact .inr (.inr (.inl ⟨by decide +kernel, rfl, by decide +kernel, 0, 48, by decide +kernel, by decide +kernel, by decide +kernel, by decide +kernel⟩))
  · exact .inr (.inr (.inr ⟨by decide +kernel, by decide +kernel, by decide +kernel, by decide +kernel, ⟨102, by decide +kernel, by decide +kernel⟩, one (c := 102) (by decide +kernel) ⟨15, by decide +kernel⟩⟩))
  · exact .inr (.inr (.inr ⟨by decide +kernel, by decide +kernel, by decide +kernel, by decide +kernel, ⟨103, by decide +kernel, by decide +kernel⟩, one (c := 103) (by decide +kernel) ⟨16, by decide +kernel⟩⟩))
  · exact .inr (.inr (.inr ⟨by decide +kernel, by decide +kernel, by decide +kernel, by decide +kernel, ⟨104, by decide +kernel, by decide +kernel⟩, one (c := 104) (by decide +kernel) ⟨17, by decide +kernel⟩⟩))
  · exact .inr (.inr (.inr ⟨by decide +kernel, by decide +kernel, by decide +kernel, by decide +kernel, ⟨107, by decide +kernel, by decide +kernel⟩, one (c := 107) (by decide +kernel) ⟨20, by decide +kernel⟩⟩))
theorem app_two (hsh : Str → List Int → Int) {o : Str} (h : o ∈ [addS, subS]) (a b : Int) : appL hsh o [a, b] = a + b * (if o = addS then 1 else -1) := by
  show (if o = addS then a + b else if o = subS then a - b else hsh o [a, b]) = _
  by_cases c : o = addS
  · rw [if_pos c, if_pos c]; omega
  · have c2 : o = subS := by
      rcases List.mem_cons.mp h with h | h
      · exact absurd h c
      · exact List.mem_singleton.mp h
    rw [if_neg c, if_neg c, if_pos c2]; omega
theorem app_neg (hsh : Str → List Int → Int) (a : Int) : appL hsh negS [a] = -a := by
  show (if negS = negS then -a else hsh negS [a]) = -a
  rw [if_pos rfl]
theorem app_num (hsh : Str → List Int → Int) {o : Str} {v : Int} (h : PySem.intText? o = some v) (d : Txt.isdigit o = true) : appL hsh o [] = v := by
  show (if Txt.isdigit o = true then (PySem.intText? o).getD 0 else hsh o []) = v
  rw [if_pos d, h]
  rfl
theorem app_oth (hsh : Str → List Int → Int) {o : Str} (h1 : o ∉ [addS, subS]) (h2 : o ≠ negS) (h3 : Txt.isdigit o = false) : ∀ ws : List Int, appL hsh o ws = hsh o ws
  | [] => if_neg (by rw [h3]; exact Bool.false_ne_true)
  | [a] => if_neg h2
  | [a, b] => by
    show (if o = addS then a + b else if o = subS then a - b else hsh o [a, b]) = _
    rw [if_neg fun z => h1 (by rw [z]; exact List.mem_cons_self), if_neg fun z => h1 (by rw [z]; exact List.mem_cons_of_mem _ List.mem_cons_self)]
  | _ :: _ :: _ :: _ => rfl
abbrev mnT (n : Int) : T := .tup [.str "numbers", .int n]
def gApl (ts : List T) (K : T → List T → Prop) : Prop := ∃ (n : Int) (o : Str) (ws : List Int), ts = [mnT n, .str o, .tup (ws.map T.int)] ∧ (o, ws.length) ∈ opsL ∧ K (.int (appL (hshN n) o ws)) ts
theorem mono_apl : Mono gApl := fun ts K K' h ⟨n, o, ws, e, e1, k⟩ => ⟨n, o, ws, e, e1, h _ _ k⟩
section
variable {P : Program} {w : World} {K : PySem.W.Frag} {mg : Str → Option Value} {base : Heap}
structure TxtApl (mg : Str → Option Value) : Prop where
  len : mg "len" = none
  int : mg "int" = none
theorem scApl : FnScope ["meaning", "o", "parts", "h", "sign", "w", "op", "its", "worth", "rows"] ["meaning", "o", "parts"] (defScope sApl) := ⟨rfl, rfl, rfl, by decide +kernel, rfl, by decide +kernel, by decide +kernel⟩
theorem ok_apl {f : Addr} {fd : FuncData} (F : Fun K "_law_applied" "_law_applied" sApl f fd) (TX : TxtApl mg) :
    FnOk P w K mg base CX0 1 f fd ["meaning", "o", "parts"] (spT gApl) := by
  have hlen : ∀ ts K, gApl ts K → ts.length = 3 := fun ts K ⟨_, _, _, e, _⟩ => by rw [e]; rfl
  refine F.ok scApl (fun vs H Q E h => spT_len h hlen) (fun cdv A outer s H vs Q E hr h => ?_)
  have nd := scApl.nd
  have hu1 := hu_of hr
  refine ⟨_, (Evl.pss_cut (ps_if (pt_cmpR op_ne (pe_ix ix_tup (pv 0) pe_int (fun _ _ => rfl)) pe_str (nomark _)) (Evl.pss_cut (ps_if (PW.pt (pw_and (pt_cmpR (op_eq0 (K := K) rfl hr.units) (pv 2) (pe_tup pa_nil) (nomark _)) (pw_and1 (pt_cmpR op_inS (pe_ix ix_str (pv 1) pe_int (fun _ _ => rfl)) pe_str rfl)))) (pss_one (ps_ret (pe_callTy call_int_str (by rfl) TX.int (by decide +kernel) (pa_cons (pv 1) pa_nil)))) pss_nil) (Evl.pss_cut (ps_if (PW.pt (pw_and (pt_cmpR op_in_seq (pv 1) (pe_tup (pa_cons pe_str (pa_cons pe_str pa_nil))) rfl) (pw_and1 (pt_cmpR op_eq (pe_callB (c_lenK (K := K) rfl) (by rfl) TX.len PySem.boot_len (pa_cons (pv 2) pa_nil)) pe_int (nomark _))))) (pss_one (ps_ret (pe_op op_add (pe_ix ix_tup (pv 2) pe_int (fun _ _ => rfl)) (pe_op op_mul (pe_ix ix_tup (pv 2) pe_int (fun _ _ => rfl)) (pe_ifExp (pt_cmpR op_eq (pv 1) pe_str (nomark _)) pe_int (pe_un un_neg pe_int)))))) pss_nil) (pss_one (ps_if (PW.pt (pw_and (pt_cmpR op_eq (pv 1) pe_str (nomark _)) (pw_and1 (pt_cmpR op_eq (pe_callB (c_lenK (K := K) rfl) (by rfl) TX.len PySem.boot_len (pa_cons (pv 2) pa_nil)) pe_int (nomark _))))) (pss_one (ps_ret (pe_un un_neg (pe_ix ix_tup (pv 2) pe_int (fun _ _ => rfl))))) pss_nil)))) pss_nil) (Evl.pss_cut (ps_if (pt_cmpR op_eq (pe_ix ix_tup (pv 0) pe_int (fun _ _ => rfl)) pe_str (nomark _)) (pss_cons (ps_set (i := 3) nd rfl (Or.inl rfl) (pe_op op_mod (pe_callTy call_int1 (by rfl) TX.int (by decide +kernel) (pa_cons (pe_ix ix_tup (pv 0) pe_int (fun _ _ => rfl)) pa_nil)) pe_int)) (Evl.pss_cut (ps_for PassesOwn.never rfl (pi_str (pv 1)) (pg_name (i := 4) nd rfl (Or.inl rfl)) (pss_one (ps_set (i := 3) nd rfl (Or.inl rfl) (pe_op op_mod (pe_callTy call_int1 (by rfl) TX.int (by decide +kernel) (pa_cons (pe_op op_add (pe_op op_add (pe_op op_mul pe_int (pv 3)) (pe_m1 PySem.F.slot_str_index PySem.F.type_str_index mt_index0 pe_str (pv 4))) pe_int) pa_nil)) pe_int)))) (Evl.pss_cut (ps_for PassesOwn.never rfl (pi_tup (pv 2)) (pg_name (i := 5) nd rfl (Or.inl rfl)) (pss_one (ps_set (i := 3) nd rfl (Or.inl rfl) (pe_op op_mod (pe_callTy call_int1 (by rfl) TX.int (by decide +kernel) (pa_cons (pe_op op_add (pe_op op_add (pe_op op_mul pe_int (pv 3)) (pv 5)) pe_int) pa_nil)) pe_int)))) (pss_one (ps_ret (pe_op op_sub (pv 3) pe_int)))))) pss_nil) (pss_cons ps_never (pss_one ps_never)))), ?_⟩
  refine body_run (n := 3) 7 (by rw [spT_len h hlen]; rfl) h (spT_len h hlen).symm fun fr ts K ⟨n, o, ws, e, ho, k⟩ => ?_
  subst e
  obtain ⟨S0, eS0⟩ : ∃ S, S = [some (mnT n), some (.str o), some (.tup (ws.map T.int)), none, none, none, none, none, none, none] := ⟨_, rfl⟩
  show WS fr [0, 1, 2] [] [some (mnT n), some (.str o), some (.tup (ws.map T.int)), none, none, none, none, none, none, none] _ _
  have hcl := app_class ho
  have num : ∀ j : Nat, decide ((ws.length : Int) = (j : Int)) = (ws.length == j) := fun j => by
    by_cases c : ws.length = j
    · rw [c, decide_eq_true rfl, beq_self_eq_true]
    · rw [decide_eq_false (by omega), beq_eq_false_iff_ne.mpr c]
  have sws := ints_still ws
  refine ws_cut (fun sl => (o ∉ [addS, subS] ∧ o ≠ negS ∧ o.length ≤ 640 ∧ Txt.isdigit o = false ∧ ∀ c ∈ o.cps.toList, ∃ j, Txt.index0 dig36 ⟨#[c]⟩ = some j) ∧ sl = [some (mnT n), some (.str o), some (.tup (ws.map T.int)), none, none, none, none, none, none, none]) ?_ ?_
  · refine ws_if (wt_test (we_op2 op2_ne (wb_of (we_ixT (wb_var ⟨_, rfl⟩ (we_int ⟨_, (0 : Int), .str "numbers", rfl, rfl, rfl, rfl, ?_⟩))))))
    refine wb_of (we_str ⟨_, _, rfl, rfl, _, .str _ _, _, rfl, ?_⟩)
    refine if_yes (by decide +kernel) ?_
    refine ws_cut (fun sl => ((o ∈ [addS, subS] ∧ ws.length = 2) ∨ (o ∉ [addS, subS] ∧ o = negS ∧ ws.length = 1) ∨ (o ∉ [addS, subS] ∧ o ≠ negS ∧ o.length ≤ 640 ∧ Txt.isdigit o = false ∧ ∀ c ∈ o.cps.toList, ∃ j, Txt.index0 dig36 ⟨#[c]⟩ = some j)) ∧ sl = [some (mnT n), some (.str o), some (.tup (ws.map T.int)), none, none, none, none, none, none, none]) ?_ ?_
    · refine ws_if (wt_and (wt_test (we_eqT0 (we_var rfl (by unfold T.still; exact sws) ⟨_, rfl, ?_⟩))))
      rw [if_neg Bool.false_ne_true]
      cases hw : ws with
      | cons x r =>
        refine ⟨_, rfl, if_no rfl ?_⟩
        try refine if_no rfl ?_
        walk_at "dv"
        refine ⟨?_, rfl⟩
        rcases hcl with h | h | ⟨_, h0, _⟩ | ⟨h1, h2, h3, h4, _, h5⟩
        · rw [hw] at h; exact .inl h
        · rw [hw] at h; exact .inr (.inl h)
        · rw [hw] at h0; cases h0
        · exact .inr (.inr ⟨h1, h2, h3, h4, h5⟩)
      | nil =>
        subst hw
        refine ⟨_, rfl, if_yes rfl ?_⟩
        rcases hcl with ⟨_, h0⟩ | ⟨_, _, h0⟩ | ⟨_, _, h640, v, c, q1, q2, q3, q4⟩ | ⟨h1, h2, h3, h4, ⟨c, q3, q4⟩, h5⟩
        · cases h0
        · cases h0
        · refine wt_test (we_op2 op2_inS (wb_of (we_op2 op2_ixS (wb_var ⟨_, rfl⟩ (wb_of (we_int ⟨_, _, rfl, rfl, o, 0, c, rfl, rfl, by rw [sizeLine_eq]; omega, q3, ?_⟩))))))
          refine wb_of (we_str ⟨_, _, rfl, rfl, c, digS, rfl, rfl, _, rfl, ?_⟩)
          rw [if_neg Bool.false_ne_true]
          refine if_yes (decide_eq_true q4) ?_
          refine ws_ret (we_intS (we_var rfl rfl ⟨o, v, rfl, q1, h640, ?_⟩))
          rw [app_num _ q1 q2] at k
          exact ⟨_, _, rfl, k⟩
        · refine wt_test (we_op2 op2_inS (wb_of (we_op2 op2_ixS (wb_var ⟨_, rfl⟩ (wb_of (we_int ⟨_, _, rfl, rfl, o, 0, c, rfl, rfl, by rw [sizeLine_eq]; omega, q3, ?_⟩))))))
          refine wb_of (we_str ⟨_, _, rfl, rfl, c, digS, rfl, rfl, _, rfl, ?_⟩)
          rw [if_neg Bool.false_ne_true]
          refine if_no (decide_eq_false q4) ?_
          try refine if_no rfl ?_
          walk_at "dv"
          exact ⟨.inr (.inr ⟨h1, h2, h3, h4, h5⟩), rfl⟩
    rintro sl ⟨hcl2, rfl⟩
    refine ws_cut (fun sl => ((o ∉ [addS, subS] ∧ o = negS ∧ ws.length = 1) ∨ (o ∉ [addS, subS] ∧ o ≠ negS ∧ o.length ≤ 640 ∧ Txt.isdigit o = false ∧ ∀ c ∈ o.cps.toList, ∃ j, Txt.index0 dig36 ⟨#[c]⟩ = some j)) ∧ sl = [some (mnT n), some (.str o), some (.tup (ws.map T.int)), none, none, none, none, none, none, none]) ?_ ?_
    · refine ws_if (wt_and (wt_test (we_op2 op2_in (wb_var ⟨_, rfl⟩ ?_))))
      refine wb_of (we_tup (wa_cons (we_str (wa_cons (we_str (wa_nil ⟨Nat.le_of_ble_eq_true rfl, ?_⟩))))))
      refine ⟨_, _, rfl, rfl, .str o, _, [.str "add", .str "sub"], rfl, rfl, rfl, ?_⟩
      rw [if_neg Bool.false_ne_true, inV_add]
      refine ⟨_, rfl, ?_⟩
      rcases hcl2 with ⟨c1, hk⟩ | hcl2
      · refine if_yes (decide_eq_true c1) ?_
        refine wt_test (we_op2 op2_eq (wb_of (we_len (wb_var ⟨_, rfl⟩ ⟨_, _, rfl, rfl, ?_⟩))))
        rw [List.length_map]
        refine wb_of (we_int ⟨_, _, rfl, rfl, _, .int (ws.length : Int) ((2 : Nat) : Int), ?_⟩)
        rw [if_neg Bool.false_ne_true, num 2, hk]
        refine ⟨_, rfl, if_yes rfl ?_⟩
        obtain ⟨a, b, rfl⟩ : ∃ a b, ws = [a, b] := by
          match ws, hk with
          | [a, b], _ => exact ⟨a, b, rfl⟩
        rw [app_two _ c1] at k
        refine ws_ret (we_op2 op2_I0 (wb_of (we_ixT (wb_var ⟨_, rfl⟩ (we_int ⟨_, (0 : Int), .int a, rfl, rfl, rfl, rfl, ?_⟩)))))
        refine wb_of (we_op2 op2_I (wb_of (we_ixT (wb_var ⟨_, rfl⟩ (we_int ⟨_, (1 : Int), .int b, rfl, rfl, rfl, rfl, ?_⟩)))))
        refine wb_of (we_if (wt_test (we_op2 op2_eq (wb_var ⟨_, rfl⟩ (wb_of (we_str ⟨_, _, rfl, rfl, _, .str o addS, _, rfl, ?_⟩))))))
        rw [if_neg Bool.false_ne_true]
        by_cases c : o = addS
        · rw [if_pos c] at k
          refine if_yes (decide_eq_true c) ?_
          refine we_int ⟨_, _, rfl, rfl, b, 1, rfl, rfl, .inr ⟨by decide, by decide⟩, _, _, rfl, rfl, a, b * 1, rfl, rfl, trivial, ?_⟩
          exact ⟨_, _, rfl, k⟩
        · rw [if_neg c] at k
          refine if_no (decide_eq_false c) ?_
          refine we_neg (we_int ⟨1, rfl, _, _, rfl, rfl, b, -1, rfl, rfl, .inr ⟨by decide, by decide⟩, _, _, rfl, rfl, a, b * -1, rfl, rfl, trivial, ?_⟩)
          exact ⟨_, _, rfl, k⟩
      · have c1 : o ∉ [addS, subS] := by
          rcases hcl2 with h | h
          · exact h.1
          · exact h.1
        refine if_no (decide_eq_false c1) ?_
        try refine if_no rfl ?_
        walk_at "dv"
        exact ⟨hcl2, rfl⟩
    rintro sl ⟨hcl3, rfl⟩
    refine ws_if (wt_and (wt_test (we_op2 op2_eq (wb_var ⟨_, rfl⟩ (wb_of (we_str ⟨_, _, rfl, rfl, _, .str o negS, _, rfl, ?_⟩))))))
    rw [if_neg Bool.false_ne_true]
    rcases hcl3 with ⟨c1, c2, hk⟩ | hcl3
    · refine if_yes (decide_eq_true c2) ?_
      refine wt_test (we_op2 op2_eq (wb_of (we_len (wb_var ⟨_, rfl⟩ ⟨_, _, rfl, rfl, ?_⟩))))
      rw [List.length_map]
      refine wb_of (we_int ⟨_, _, rfl, rfl, _, .int (ws.length : Int) ((1 : Nat) : Int), ?_⟩)
      rw [if_neg Bool.false_ne_true, num 1, hk]
      refine ⟨_, rfl, if_yes rfl ?_⟩
      obtain ⟨a, rfl⟩ : ∃ a, ws = [a] := by
        match ws, hk with
        | [a], _ => exact ⟨a, rfl⟩
      subst c2
      rw [app_neg] at k
      refine ws_ret (we_neg (we_ixT (wb_var ⟨_, rfl⟩ (we_int ⟨_, (0 : Int), .int a, rfl, rfl, rfl, rfl, _, rfl, ?_⟩))))
      exact ⟨_, _, rfl, k⟩
    · refine if_no (decide_eq_false hcl3.2.1) ?_
      try refine if_no rfl ?_
      walk_at "dv"
      exact ⟨hcl3, rfl⟩
  rintro sl ⟨⟨c1, c2, c3, c4, c5⟩, rfl⟩
  refine ws_cut (fun sl => False) ?_ fun sl h => h.elim
  refine ws_if (wt_test (we_op2 op2_eq (wb_of (we_ixT (wb_var ⟨_, rfl⟩ (we_int ⟨_, (0 : Int), .str "numbers", rfl, rfl, rfl, rfl, ?_⟩))))))
  refine wb_of (we_str ⟨_, _, rfl, rfl, _, .str _ _, _, rfl, ?_⟩)
  refine if_yes (by decide +kernel) ?_
  rw [app_oth _ c1 c2 c4] at k
  refine ws_seq (ws_asg (we_op2 op2_I (wb_of (we_int1 (we_ixT (wb_var ⟨_, rfl⟩ (we_int ⟨_, (1 : Int), .int n, rfl, rfl, rfl, rfl, n, rfl, ?_⟩)))))))
  refine wb_of (we_int ⟨_, _, rfl, rfl, n, 1000003, rfl, rfl, (show (0 : Int) < 1000003 by decide), ?_⟩)
  walk_at "wn"
  refine ws_cut (fun sl => ∃ x4, sl = [some (mnT n), some (.str o), some (.tup (ws.map T.int)), some (.int (hsh1 (n % 1000003) o.cps.toList)), x4, none, none, none, none, none]) ?_ ?_
  · refine ws_for (wi_str (we_var rfl rfl ⟨o, rfl, ?_⟩))
    walk_at "dv nm"
    refine ⟨fun i sl => ∃ x4, sl = [some (mnT n), some (.str o), some (.tup (ws.map T.int)), some (.int (hsh1 (n % 1000003) (o.cps.toList.take i))), x4, none, none, none, none, none], ⟨_, rfl⟩, ?_, ?_⟩
    · rintro i sl hi ⟨x4, rfl⟩
      have hi' : i < o.cps.toList.length := by rw [Array.length_toList]; exact hi
      obtain ⟨c, hc⟩ : ∃ c, o.cps.toList[i]? = some c := ⟨_, List.getElem?_eq_getElem hi'⟩
      have hc2 : (o.cps[i]?).getD 0 = c := by rw [← Array.getElem?_toList, hc]; rfl
      have tk : o.cps.toList.take (i + 1) = o.cps.toList.take i ++ [c] := by rw [List.take_succ, hc]; rfl
      obtain ⟨j, hj⟩ := c5 c (List.mem_of_getElem? hc)
      have sg : sgnI c = (j : Int) := by unfold sgnI; rw [hj]; rfl
      dsimp only
      rw [hc2, tk, hsh1_snoc, sg]
      walk_at "wn"
      refine ws_asg (we_op2 op2_I (wb_of (we_int1 (we_op2 op2_I0 (wb_of (we_op2 op2_I0 (wb_of (we_op2 op2_I (wb_of (we_int (wb_var ⟨_, rfl⟩ ?_)))))))))))
      refine ⟨_, _, rfl, rfl, 31, _, rfl, rfl, .inl ⟨by decide, by decide⟩, ?_⟩
      refine wb_of (we_index0 (we_str ⟨dig36, rfl, we_var rfl rfl ⟨_, j, rfl, hj, ?_⟩⟩))
      refine ⟨_, _, rfl, rfl, 31 * hsh1 (n % 1000003) (List.take i o.cps.toList), (j : Int), rfl, rfl, trivial, ?_⟩
      refine wb_of (we_int ⟨_, _, rfl, rfl, _, 1, rfl, rfl, trivial, _, rfl, ?_⟩)
      refine wb_of (we_int ⟨_, _, rfl, rfl, _, 1000003, rfl, rfl, (show (0 : Int) < 1000003 by decide), ?_⟩)
      walk_at "wn"
      exact ⟨_, rfl⟩
    · rintro sl ⟨x4, rfl⟩
      rw [show o.cps.size = o.cps.toList.length from Array.length_toList.symm, List.take_length]
      exact ⟨_, rfl⟩
  rintro sl ⟨x4, rfl⟩
  refine ws_cut (fun sl => ∃ x4 x5, sl = [some (mnT n), some (.str o), some (.tup (ws.map T.int)), some (.int (hsh2 (hsh1 (n % 1000003) o.cps.toList) ws)), x4, x5, none, none, none, none]) ?_ ?_
  · refine ws_for (wi_tup (we_var rfl (by unfold T.still; exact sws) ⟨_, rfl, sws, ?_⟩))
    rw [List.length_map]
    walk_at "dv nm"
    refine ⟨fun i sl => ∃ x4 x5, sl = [some (mnT n), some (.str o), some (.tup (ws.map T.int)), some (.int (hsh2 (hsh1 (n % 1000003) o.cps.toList) (ws.take i))), x4, x5, none, none, none, none], ⟨_, _, rfl⟩, ?_, ?_⟩
    · rintro i sl hi ⟨x4, x5, rfl⟩
      obtain ⟨c, hc⟩ : ∃ c, ws[i]? = some c := ⟨_, List.getElem?_eq_getElem hi⟩
      have hc2 : (ws.map T.int).getD i .non = .int c := by rw [List.getD_eq_getElem?_getD, List.getElem?_map, hc]; rfl
      have tk : ws.take (i + 1) = ws.take i ++ [c] := by rw [List.take_succ, hc]; rfl
      dsimp only
      rw [hc2, tk, hsh2_snoc]
      walk_at "wn"
      refine ws_asg (we_op2 op2_I (wb_of (we_int1 (we_op2 op2_I0 (wb_of (we_op2 op2_I0 (wb_of (we_op2 op2_I (wb_of (we_int (wb_var ⟨_, rfl⟩ ?_)))))))))))
      refine ⟨_, _, rfl, rfl, 37, _, rfl, rfl, .inl ⟨by decide, by decide⟩, ?_⟩
      refine wb_var ⟨_, rfl⟩ ⟨_, _, rfl, rfl, 37 * hsh2 (hsh1 (n % 1000003) o.cps.toList) (List.take i ws), c, rfl, rfl, trivial, ?_⟩
      refine wb_of (we_int ⟨_, _, rfl, rfl, _, 1, rfl, rfl, trivial, _, rfl, ?_⟩)
      refine wb_of (we_int ⟨_, _, rfl, rfl, _, 1000003, rfl, rfl, (show (0 : Int) < 1000003 by decide), ?_⟩)
      walk_at "wn"
      exact ⟨_, _, rfl⟩
    · rintro sl ⟨x4, x5, rfl⟩
      rw [List.take_length]
      exact ⟨_, _, rfl⟩
  rintro sl ⟨x4, x5, rfl⟩
  refine ws_ret (we_op2 op2_I0 (wb_var ⟨_, rfl⟩ (wb_of (we_int ⟨_, _, rfl, rfl, _, 500000, rfl, rfl, trivial, ?_⟩))))
  exact ⟨_, _, rfl, k⟩
end
end Rs
set_option maxHeartbeats 8000000
namespace Rs
open PySem L2 PySem.Spec PyProof.Rows
local macro_rules | `(tactic| walk_at "dv nm") => `(tactic| dsimp only [List.set_cons_succ, List.set_cons_zero, hideT])
local macro_rules | `(tactic| walk_at "dv st") => `(tactic| first | rfl | exact kT_still _ | assumption)
local macro_rules | `(tactic| walk_at "dv 1") => `(tactic| first | (with_reducible (first | refine ws_seq ?_ | refine ws_asg ?_ | refine ws_ret ?_ | refine ws_drop ?_ | refine ws_if ?_ | refine ws_next ?_ | refine we_int ?_ | refine we_str ?_ | refine we_bl ?_ | refine we_non ?_ | refine we_tup ?_ | refine we_lst ?_ | refine wa_cons ?_ | refine wa_nil ?_ | refine wo_cons ?_ | refine wo_nil ?_ | refine wt_test ?_ | refine wt_B ?_ | refine wt_not ?_ | refine wt_and ?_ | refine wt_or ?_ | refine we_if ?_ | refine we_notV ?_ | refine we_andV ?_ | refine we_orV ?_ | refine we_dnew ?_ | refine wb_var ⟨_, rfl⟩ ?_)) | ((with_reducible refine' wg_name ?h1 ?h2 ?_); (case h1 => exact Nat.le_of_ble_eq_true rfl); (case h2 => decide); (walk_at "dv nm")) | ((with_reducible refine' we_var ?h ?s ?_); (case' h => rfl); (case s => walk_at "dv st")) | ((with_reducible refine' size_and ?sz ?_); (case sz => rw [sizeLine_eq]; exact Nat.le_of_ble_eq_true rfl)) | (with_reducible refine wb_of ?_))
local macro_rules | `(tactic| walk_at "dv") => `(tactic| repeat (walk_at "dv 1"))
local macro_rules | `(tactic| walk_at "wn") => `(tactic| ((refine wg_name (Nat.le_of_ble_eq_true rfl) (by decide) ?_); (walk_at "dv nm")))
abbrev sWor : Stmt := top 24
def wtF (hsh : Str → List Int → Int) (reads : Nat → Int) (ws : List Int) : Kr → Int
  | .lt k => reads k
  | .op o ps => appL hsh o (ps.map fun p => ws.getD p 0)
def wtsG (hsh : Str → List Int → Int) (reads : Nat → Int) (acc : List Int) (G : List Kr) : List Int := G.foldl (fun ws r => ws ++ [wtF hsh reads ws r]) acc
def wts (hsh : Str → List Int → Int) (reads : Nat → Int) (G : List Kr) : List Int := wtsG hsh reads [] G
section
variable {hsh : Str → List Int → Int} {reads : Nat → Int}
theorem wts_snoc (G : List Kr) (r : Kr) : wts hsh reads (G ++ [r]) = wts hsh reads G ++ [wtF hsh reads (wts hsh reads G) r] := by
  unfold wts wtsG
  rw [List.foldl_append]
  rfl
theorem wtsG_pre : ∀ (G : List Kr) (acc : List Int), ∃ t, wtsG hsh reads acc G = acc ++ t ∧ t.length = G.length
  | [], acc => ⟨[], (List.append_nil _).symm, rfl⟩
  | r :: q, acc => by
    obtain ⟨t, e, l⟩ := wtsG_pre q (acc ++ [wtF hsh reads acc r])
    refine ⟨[wtF hsh reads acc r] ++ t, ?_, by rw [List.length_append, l, List.length_cons]; simp; omega⟩
    show wtsG hsh reads (acc ++ [_]) q = _
    rw [e, List.append_assoc]
theorem wts_len (G : List Kr) : (wts hsh reads G).length = G.length := by
  obtain ⟨t, e, l⟩ := wtsG_pre (hsh := hsh) (reads := reads) G []
  unfold wts
  rw [e]
  exact l
theorem wts_at {G : List Kr} (rk : RkK G) {i : Nat} {r : Kr} (hi : G[i]? = some r) : (wts hsh reads G).getD i 0 = wtF hsh reads (wts hsh reads G) r := by
  obtain ⟨hlt, en⟩ := List.getElem?_eq_some_iff.mp hi
  have eG : G = G.take i ++ [r] ++ G.drop (i + 1) := by
    conv => lhs; rw [← List.take_append_drop i G, List.drop_eq_getElem_cons hlt, en]
    rw [List.append_assoc]
    rfl
  have lt : (wts hsh reads (G.take i)).length = i := by rw [wts_len, List.length_take]; omega
  have e1 : wts hsh reads G = wtsG hsh reads (wts hsh reads (G.take i) ++ [wtF hsh reads (wts hsh reads (G.take i)) r]) (G.drop (i + 1)) := by
    rw [← wts_snoc]
    conv => lhs; rw [eG]
    unfold wts wtsG
    rw [List.foldl_append]
  obtain ⟨t, e2, _⟩ := wtsG_pre (hsh := hsh) (reads := reads) (G.drop (i + 1)) (wts hsh reads (G.take i) ++ [wtF hsh reads (wts hsh reads (G.take i)) r])
  have e3 : wts hsh reads G = wts hsh reads (G.take i) ++ (wtF hsh reads (wts hsh reads (G.take i)) r :: t) := by
    rw [e1, e2, List.append_assoc]
    rfl
  have e4 : wtF hsh reads (wts hsh reads G) r = wtF hsh reads (wts hsh reads (G.take i)) r := by
    rw [e3]
    cases r with
    | lt k => rfl
    | op o ps =>
      show appL hsh o (ps.map _) = appL hsh o (ps.map _)
      rw [List.map_congr_left fun p hp => by
        rw [List.getD_eq_getElem?_getD, List.getElem?_append_left (by rw [lt]; exact (rk i o ps hi).2 p hp), ← List.getD_eq_getElem?_getD]]
  rw [e4, e3, List.getD_eq_getElem?_getD, List.getElem?_append_right (by omega), lt, Nat.sub_self]
  rfl
end
def gWor (P : Program) (w : World) (ts : List T) (K : T → List T → Prop) : Prop := ∃ (G : List Kr) (n : Int) (b : Bool) (rs : List Int), ts = [graphT P w (G.map owK), mnT n, .lst b (rs.map T.int)] ∧ RkK G ∧ G.length ≤ 40 ∧ (∀ (i k : Nat), G[i]? = some (.lt k) → k < rs.length) ∧ K (.lst true ((wts (hshN n) (fun k => rs.getD k 0) G).map T.int)) ts
theorem mono_wor {P : Program} {w : World} : Mono (gWor P w) := fun ts K K' h ⟨G, n, b, rs, e, e1, e2, e3, k⟩ => ⟨G, n, b, rs, e, e1, e2, e3, h _ _ k⟩
theorem intT_at {xs : List Int} {p : Nat} (h : p < xs.length) : (xs.map T.int)[p]? = some (.int (xs.getD p 0)) := by
  rw [List.getElem?_map, List.getD_eq_getElem?_getD, List.getElem?_eq_getElem h]
  rfl
section
variable {P : Program} {w : World} {K : PySem.W.Frag} {mg : Str → Option Value} {base : Heap}
structure TupleN (mg : Str → Option Value) : Prop where
  tuple : mg "tuple" = none
theorem scWor : FnScope ["graph", "meaning", "reads", "found", "key", "part"] ["graph", "meaning", "reads"] (defScope sWor) := ⟨rfl, rfl, rfl, by decide +kernel, rfl, by decide +kernel, by decide +kernel⟩
theorem ok_wor {f fApl : Addr} {fd fdApl : FuncData} (F : Fun K "_law_worths" "_law_worths" sWor f fd) (nT : mg "tuple" = none)
    (GApl : FnOk P w K mg base CX0 1 fApl fdApl ["meaning", "o", "parts"] (spT gApl)) (mApl : mg "_law_applied" = some (.ref fApl)) (kApl : PySem.W.keepIn K (.ref fApl) = true) (bApl : Binds K fdApl ["meaning", "o", "parts"] []) :
    FnOk P w K mg base CX0 2 f fd ["graph", "meaning", "reads"] (spT (gWor P w)) := by
  have hlen : ∀ ts K, gWor P w ts K → ts.length = 3 := fun ts K ⟨_, _, _, _, e, _⟩ => by rw [e]; rfl
  refine F.ok scWor (fun vs H Q E h => spT_len h hlen) (fun cdv A outer s H vs Q E hr h => ?_)
  have nd := scWor.nd
  have hu1 := hu_of hr
  have TX : TupleN mg := ⟨nT⟩
  refine ⟨_, (pss_cons (ps_set (i := 3) nd rfl (Or.inr rfl) (pe_lst pa_nil)) (Evl.pss_cut (ps_for PassesOwn.never rfl (pi_list (pe_ix ix_tup (pv 0) pe_int (fun _ _ => rfl))) (pg_name (i := 4) nd rfl (Or.inl rfl)) (pss_one (ps_expr (pe_bm PySem.F.plainAttrs_list PySem.F.slot_list_append PySem.F.type_list_append mt_append (pv 3) (pa_cons (pe_ifExp (pt_cmpR op_eq (pe_ix ix_tup (pv 4) pe_int (fun _ _ => rfl)) pe_str (nomark _)) (pe_ix ix_list (pv 2) (pe_ix ix_tup (pv 4) pe_int (fun _ _ => rfl)) (fun _ _ => rfl)) (pe_call (E := E0) GApl (hr.mono (by decide)) rfl mApl kApl bApl .nil pass0 (pa_cons (pv 1) (pa_cons (pe_ix ix_tup (pv 4) pe_int (fun _ _ => rfl)) (pa_cons (pe_callTy (c_tupK (K := K) rfl) (by rfl) TX.tuple (by decide +kernel) (pa_cons (pe_lc (own := [("part", 5)]) (g := (gName 5)) (tt := tYes) rfl nd (pi_tup (pe_ix ix_tup (pv 4) pe_int (fun _ _ => rfl))) (blkOk_by (N := ["graph", "meaning", "reads", "found", "key", "part"]) (sc := defScope sWor) (by decide +kernel)) (fun _ _ _ _ _ => (pg_name (i := 5) nd rfl (Or.inl rfl))) (fun _ _ _ _ _ => pts_nil) (fun _ _ _ _ _ => (pe_ix (ix_listK (K := K) rfl) (pv 3) (pv 5) (fun _ _ => rfl)))) pa_nil)) pa_nil))))) pa_nil))))) (pss_one (ps_ret (pv 3))))), ?_⟩
  refine body_run (n := 3) 3 (by rw [spT_len h hlen]; rfl) h (spT_len h hlen).symm fun fr ts K ⟨G, n, b, rs, e, rk, h40, hl, k⟩ => ?_
  subst e
  show WS fr [0, 1, 2] [] [some (graphT P w (G.map owK)), some (mnT n), some (.lst b (rs.map T.int)), none, none, none] _ _
  walk_at "dv"
  have Wd : ∀ G, ∃ ws, ws = wts (hshN n) (fun k => rs.getD k 0) G := fun G => ⟨_, rfl⟩
  refine ws_cut (fun sl => ∃ g l d x, sl = [some (graphAtT P w g l d (G.map owK)), some (mnT n), some (.lst b (rs.map T.int)), some (.lst true ((wts (hshN n) (fun k => rs.getD k 0) G).map T.int)), x, none]) ?_ ?_
  · refine ws_for (wi_gkeys rfl fun g l d => ?_)
    rw [List.length_map]
    walk_at "dv nm"
    refine ⟨fun i sl => ∃ x, sl = [none, some (mnT n), some (.lst b (rs.map T.int)), some (.lst true ((wts (hshN n) (fun k => rs.getD k 0) (G.take i)).map T.int)), x, none], ⟨none, rfl⟩, ?_, ?_⟩
    · rintro i sl hi ⟨x, rfl⟩
      have hr : G[i]? = some G[i] := List.getElem?_eq_getElem hi
      obtain ⟨r, er⟩ : ∃ r, G[i] = r := ⟨_, rfl⟩
      rw [er] at hr
      have tk : G.take (i + 1) = G.take i ++ [r] := by rw [List.take_succ, hr]; rfl
      have eg : (G.map owK).getD i .none = owK r := by rw [List.getD_eq_getElem?_getD, List.getElem?_map, hr]; rfl
      dsimp only
      rw [eg, tk, wts_snoc, List.map_append]
      obtain ⟨ws, ews⟩ : ∃ ws, ws = wts (hshN n) (fun k => rs.getD k 0) (G.take i) := ⟨_, rfl⟩
      have lws : ws.length = i := by rw [ews, wts_len, List.length_take]; omega
      rw [← ews]
      walk_at "wn"
      cases r with
      | lt c =>
        have k0 : atI [T.str "letter", .str "read", .int (c : Int)] 0 = some (.str "letter") := rfl
        have hc := hl i c hr
        refine ws_drop (we_append ⟨_, rfl⟩ (we_if (wt_test (we_op2 op2_eq (wb_of (we_ixT (wb_var ⟨_, rfl⟩ (we_int ⟨_, (0 : Int), .str "letter", rfl, rfl, k0, rfl, ?_⟩))))))))
        refine wb_of (we_str ⟨_, _, rfl, rfl, _, .str _ _, _, rfl, ?_⟩)
        refine if_yes (by decide +kernel) ?_
        refine we_ixL (wb_var ⟨_, rfl⟩ (we_ixT (wb_var ⟨_, rfl⟩ (we_int ⟨_, (2 : Int), .int (c : Int), rfl, rfl, rfl, rfl, ?_⟩))))
        refine ⟨b, _, (c : Int), .int (rs.getD c 0), rfl, rfl, atI_nat (intT_at hc), rfl, _, rfl, by rw [List.length_map, lws, sizeLine_eq]; omega, ?_⟩
        exact ⟨_, rfl⟩
      | op oo ps =>
        obtain ⟨ho, hps⟩ := rk i oo ps hr
        have hp3 := ops3 ho
        have k0 : atI [T.str "op", .str oo, .tup (natT ps)] 0 = some (.str "op") := rfl
        have sk := krT_still (.op oo ps)
        have ek : kT (owK (.op oo ps)) = krT (.op oo ps) := by
          show T.tup [.str "op", .str oo, .tup (kTs ((ps.map fun p : Nat => (p : Int)).map .num))] = _
          rw [kTs_nums, natT_of]
          rfl
        rw [ek]
        refine ws_drop (we_append ⟨_, rfl⟩ (we_if (wt_test (we_op2 op2_eq (wb_of (we_ixT (wb_var ⟨_, rfl⟩ (we_int ⟨_, (0 : Int), .str "op", rfl, rfl, k0, rfl, ?_⟩))))))))
        refine wb_of (we_str ⟨_, _, rfl, rfl, _, .str _ _, _, rfl, ?_⟩)
        refine if_no (by decide +kernel) ?_
        refine we_call mono_apl (wo_cons (wb_var ⟨_, rfl⟩ (wo_cons (wb_of (we_ixT (wb_var ⟨_, rfl⟩ (we_int ⟨_, (1 : Int), .str oo, rfl, rfl, rfl, rfl, ?_⟩)))))))
        refine wo_cons (wb_of (we_tupleOf (we_lc (gown_name (by decide)) (wi_tup (we_ixT (wb_var ⟨_, rfl⟩ (we_int ⟨_, (2 : Int), .tup (natT ps), rfl, rfl, rfl, by unfold T.still; exact natT_still _, ?_⟩)))))))
        refine ⟨natT ps, rfl, natT_still _, fun j hj => by revert hj; simp; omega, ?_⟩
        walk_at "dv nm"
        rw [natT_len]
        refine ⟨fun j acc sl => acc = ((ps.take j).map fun p => ws.getD p 0).map T.int ∧ sl = [none, some (mnT n), some (.lst b (rs.map T.int)), some (.lst true (ws.map T.int)), some (krT (.op oo ps)), none], ⟨rfl, rfl⟩, ?_, ?_⟩
        · rintro j acc sl hj ⟨rfl, rfl⟩
          have ep : ps[j]? = some ps[j] := List.getElem?_eq_getElem hj
          obtain ⟨p, ep2⟩ : ∃ p, ps[j] = p := ⟨_, rfl⟩
          rw [ep2] at ep
          have ej2 : (natT ps).getD j .non = .int (p : Int) := by
            unfold natT
            rw [List.getD_eq_getElem?_getD, List.getElem?_map, ep]
            rfl
          have tk2 : ps.take (j + 1) = ps.take j ++ [p] := by rw [List.take_succ, ep]; rfl
          dsimp only
          rw [ej2, tk2]
          refine ⟨by rw [List.length_map, List.length_map, List.length_take, sizeLine_eq]; omega, ?_⟩
          walk_at "wn"
          refine wt_yes (if_yes rfl ?_)
          refine we_ixL (wb_var ⟨_, rfl⟩ (we_var rfl rfl ⟨_, _, (p : Int), .int (ws.getD p 0), rfl, rfl, atI_nat (intT_at (by rw [lws]; exact hps p (List.mem_of_getElem? ep))), rfl, ?_⟩))
          refine ⟨?_, rfl⟩
          rw [List.map_append, List.map_append]
          rfl
        · rintro acc sl ⟨rfl, rfl⟩
          rw [List.take_length]
          dsimp only [Back]
          refine ⟨true, _, rfl, wo_nil ⟨_, _, rfl, n, oo, ps.map fun p => ws.getD p 0, rfl, by rw [List.length_map]; exact ho, _, rfl, ?_⟩⟩
          refine ⟨_, rfl, by rw [List.length_map, lws, sizeLine_eq]; omega, ?_⟩
          exact ⟨_, rfl⟩
    · rintro sl ⟨x, rfl⟩
      rw [List.take_length]
      exact ⟨rfl, g, l, d, x, rfl⟩
  rintro sl ⟨g, l, d, x, rfl⟩
  refine ws_wk 0 rfl wk_graphAt ?_
  refine ws_ret (we_move rfl ?_)
  exact ⟨_, _, rfl, k⟩
end
end Rs
set_option maxHeartbeats 4000000
namespace Rs
open PySem L2 PySem.Spec PyProof.Rows
mutual
theorem kT_toD : ∀ k : NestedKey, (kT k).toD = toPy k
  | .none => rfl
  | .num _ => rfl
  | .text _ => rfl
  | .tup ks => by
    show PyData.tuple (toDs (kTs ks)) = .tuple (toPys ks)
    rw [toDs_kTs ks]
theorem toDs_kTs : ∀ ks : List NestedKey, toDs (kTs ks) = toPys ks
  | [] => rfl
  | k :: r => by
    show (kT k).toD :: toDs (kTs r) = toPy k :: toPys r
    rw [kT_toD k, toDs_kTs r]
end
def gAlikeD (ts : List T) (K : T → List T → Prop) : Prop := ∃ t u, ts = [t, u] ∧ t.isData = true ∧ u.isData = true ∧ t.toD = u.toD ∧ Good t.toD ∧ t.toD ≠ .none ∧ (∀ s, t.toD ≠ .str s) ∧ K (.bl true) ts
theorem mono_alikeD : Mono gAlikeD := fun ts K K' hk ⟨t, u, e, e1, e2, e3, e4, e5, e6, k⟩ => ⟨t, u, e, e1, e2, e3, e4, e5, e6, hk _ _ k⟩
theorem conv_alikeD {Kf : PySem.W.Frag} {vs : List V} {H : Hp} {Q : VK} {E : XK} (h : spT gAlikeD vs H Q E) : spAlikeX Kf vs H Q E := by
  obtain ⟨ts, Z, fp, r, nd, nz, t, u, e, e1, e2, e3, e4, e5, e6, k⟩ := h
  subst e
  obtain ⟨a, b, c, d⟩ := ask_same (t := .bl true) (v := .bl true) r nz nd (Fm.refl _ _) (lit_bl _)
  obtain ⟨v, vs', f1, f2, q1, q2, z, r2⟩ := reps2 r
  obtain ⟨x, q3, zx⟩ := reps1 r2
  subst q3
  exact ⟨v, x, _, q1, z.dp _ _ _ e1, by rw [e3]; exact zx.dp _ _ _ e2, e4, e5, e6, k _ H fp a b c d⟩
theorem ws_dropO {fr : Fr} {pn : List Nat} {tmp : List T} {sl s0 : Sl} {t : TS} {K : KS} (d : DropO s0 sl) (h : WS fr pn tmp s0 t K) : WS fr pn tmp sl t K := fun pv tv σ H D r n rt b ct => h pv tv σ H D (r.drop d) n rt b ct
theorem ws_weakO {fr : Fr} {pn : List Nat} {tmp : List T} {sl : Sl} {t : TS} {K : KS} (h : WS fr pn tmp sl t { K with nx := fun s => ∃ s0, DropO s0 s ∧ K.nx s0 }) : WS fr pn tmp sl t K := fun pv tv σ H D r n rt b ct =>
  h pv tv σ H D r (fun sl' σ' H' ⟨s0, d, k⟩ rr => n s0 σ' H' k (rr.drop d)) rt b ct
theorem alike_int {i : Int} (h : i.natAbs < 10 ^ 12) {K : T → List T → Prop} (k : K (.bl true) [.int i, .int i]) : gAlikeD [.int i, .int i] K :=
  ⟨_, _, rfl, rfl, rfl, rfl, Good.int h, fun z => (by cases z), fun s z => (by cases z), k⟩
theorem alike_tup {ks : List NestedKey} (g : Good (toPy (.tup ks))) {K : T → List T → Prop} (k : K (.bl true) [kT (.tup ks), kT (.tup ks)]) : gAlikeD [kT (.tup ks), kT (.tup ks)] K :=
  ⟨_, _, rfl, kT_data _, kT_data _, rfl, by rw [kT_toD]; exact g, fun z => (by cases z), fun s z => (by cases z), k⟩
def bigN : Nat := 16 * 2 ^ 28
theorem small_int {i : Int} (h : i.natAbs < 10 ^ 12) : Small (.int i) 0 1 := ⟨by show decide _ = true; exact decide_eq_true h, Nat.le_refl _, Nat.le_refl _⟩
structure LnS (l : Ln) : Prop where
  few : l.ts.length ≤ 29
  lt : l.Lt 29
  bd : l.Bd bigN
theorem linK_small {l : Ln} (h : LnS l) : Small (toPy (linK l)) 3 90 := by
  have big : bigN < 10 ^ 12 := by decide
  have e : toPy (linK l) = .tuple [.int l.c, .tuple (l.ts.map fun p => PyData.tuple [.int (p.1 : Int), .int p.2])] := by
    show PyData.tuple [PyData.int l.c, PyData.tuple (toPys (l.ts.map pairI))] = _
    rw [toPys_map, List.map_map]
    rfl
  rw [e]
  refine (Small.pair (dp := 2) (c := 1) (e := 88) ((small_int (by have := h.bd.1; omega)).wide (by omega) (by omega)) ?_).wide (Nat.le_refl _) (by omega)
  refine (Small.tup (f := fun p : Nat × Int => PyData.tuple [.int (p.1 : Int), .int p.2]) (dp := 1) (c := 3) fun p hp => ?_).wide (Nat.le_refl _) (by have := h.few; omega)
  exact (Small.two (small_nat (by have := h.lt p hp; omega)) (small_int (by have := h.bd.2 p hp; omega))).wide (by omega) (by omega)
theorem small_good {d : PyData} {n c : Nat} (h : Small d n c) (h1 : n ≤ 60) (h2 : c ≤ 1000) : Good d := Good.few h.ok (Nat.le_trans h.deep h1) (Nat.le_trans h.few h2)
theorem ops_ok {o : Str} {n : Nat} (h : (o, n) ∈ opsL) : okD (.str o) = true := by
  have : ∀ p ∈ opsL, okD (.str p.1) = true := by decide +kernel
  exact this _ h
structure NmGd (B : List Nm) : Prop where
  op : ∀ (i : Nat) (o : Str) (ls : List Ln), B[i]? = some (.op o ls) → (o, ls.length) ∈ opsL ∧ ∀ l ∈ ls, l.Nf ∧ l.Lt i ∧ l.Bd bigN
  lt : ∀ (i k : Nat), B[i]? = some (.lt k) → k < 4
theorem NmGd.nil : NmGd [] := ⟨fun i o ls h => (by cases h), fun i k h => (by cases h)⟩
theorem NmGd.ok {B : List Nm} (h : NmGd B) : NmOk B := fun i o ls e l hl => ((h.op i o ls e).2 l hl).2.1
theorem addN_new {B : List Nm} {n q : Nm} {i : Nat} (h : (addN B n)[i]? = some q) : B[i]? = some q ∨ (B.length ≤ i ∧ q = n) := by
  unfold addN at h
  split at h
  · exact .inl h
  · rw [List.getElem?_append] at h
    split at h
    · exact .inl h
    · rename_i hlt
      cases hj : i - B.length with
      | zero => rw [hj] at h; cases h; exact .inr ⟨Nat.le_of_not_lt hlt, rfl⟩
      | succ x => rw [hj] at h; cases h
mutual
theorem Vis.gd {R : List Kr} (d : DrOk R) (h29 : R.length ≤ 29) : ∀ {B B' : List Nm} {n : Nat}, Vis sumL R B n B' → NmGd B → NmGd B'
  | _, _, _, .lt hr, h => by
    refine ⟨fun i o ls e => ?_, fun i j e => ?_⟩
    · rcases addN_new e with e | ⟨_, e⟩
      · exact h.op i o ls e
      · cases e
    · rcases addN_new e with e | ⟨_, e⟩
      · exact h.lt i j e
      · cases e
        exact d.let' _ _ hr
  | _, _, _, .sum _ v _ _, h => Viss.gd d h29 v h
  | _, _, _, .op hr v evs _, h => by
    have h1 := Viss.gd d h29 v h
    refine ⟨fun i o ls e => ?_, fun i j e => ?_⟩
    · rcases addN_new e with e | ⟨hi, e⟩
      · exact h1.op i o ls e
      · cases e
        obtain ⟨ho, hp⟩ := d.rk _ _ _ hr
        refine ⟨by rw [evs.len]; exact ho, fun l hl => ?_⟩
        obtain ⟨a, b⟩ := evs.nfL l hl
        refine ⟨a, b.mono hi, Evs.bdL d.rk evs bigN (fun p hp' => ?_) l hl⟩
        have h1 := hp p hp'
        have h2 := (List.getElem?_eq_some_iff.mp hr).1
        have : 2 ^ p ≤ 2 ^ 28 := Nat.pow_le_pow_right (by omega) (by omega)
        unfold bigN
        omega
    · rcases addN_new e with e | ⟨_, e⟩
      · exact h1.lt i j e
      · cases e
theorem Viss.gd {R : List Kr} (d : DrOk R) (h29 : R.length ≤ 29) : ∀ {B B' : List Nm} {ps : List Nat}, Viss sumL R B ps B' → NmGd B → NmGd B'
  | _, _, _, .nil, h => h
  | _, _, _, .cons a b, h => Viss.gd d h29 b (Vis.gd d h29 a h)
end
theorem ev_small {R : List Kr} {B : List Nm} (d : DrOk R) (h29 : R.length ≤ 29) (hB : B.length ≤ 29) {n : Nat} {l : Ln} (hn : n < R.length) (e : Ev sumL R B n l) : LnS l := by
  obtain ⟨a, b⟩ := e.nfL
  refine ⟨Nat.le_trans (a.few b) hB, b.mono hB, (e.bdL d.rk).mono ?_⟩
  have : 2 ^ n ≤ 2 ^ 28 := Nat.pow_le_pow_right (by omega) (by omega)
  unfold bigN
  omega
theorem nm_small {B : List Nm} (g : NmGd B) (hB : B.length ≤ 29) {i : Nat} {n : Nm} (h : B[i]? = some n) : Small (toPy (snK n)) 5 814 := by
  have hi := (List.getElem?_eq_some_iff.mp h).1
  cases n with
  | lt k =>
    have := g.lt i k h
    have e : toPy (snK (.lt k)) = .tuple [.str "letter", .tuple [.str "read", .int (k : Int)]] := rfl
    rw [e]
    exact (Small.pair (dp := 1) (c := 1) (e := 3) ((small_str (by decide +kernel)).wide (by omega) (by omega)) ((Small.two (small_str (by decide +kernel)) (small_nat (by omega))).wide (by omega) (by omega))).wide (by omega) (by omega)
  | op o ls =>
    obtain ⟨ho, hls⟩ := g.op i o ls h
    have h3 := ops3 ho
    have h1 : Small (.tuple (ls.map fun l => toPy (linK l))) 4 271 := (Small.tup (dp := 3) (c := 90) fun l hl => by
      obtain ⟨a, b, c⟩ := hls l hl
      exact linK_small ⟨Nat.le_trans (a.few b) (by omega), b.mono (by omega), c⟩).wide (Nat.le_refl _) (by omega)
    have e : toPy (snK (.op o ls)) = .tuple ([.str "op", .str o, .tuple (ls.map fun l => toPy (linK l))].map id) := by
      show PyData.tuple [PyData.str "op", PyData.str o, PyData.tuple (toPys (ls.map linK))] = _
      rw [toPys_map, List.map_map, List.map_id]
      rfl
    rw [e]
    refine (Small.tup (f := id) (dp := 4) (c := 271) fun x hx => ?_).wide (Nat.le_refl _) (Nat.le_refl _)
    simp only [List.mem_cons, List.not_mem_nil, or_false] at hx
    rcases hx with rfl | rfl | rfl
    · exact (small_str (by decide +kernel)).wide (by omega) (by omega)
    · exact (small_str (ops_ok ho)).wide (by omega) (by omega)
    · exact h1
theorem alike_lin {l : Ln} (h : LnS l) {K : T → List T → Prop} (k : K (.bl true) [kT (linK l), kT (linK l)]) : gAlikeD [kT (linK l), kT (linK l)] K := alike_tup (small_good (linK_small h) (by omega) (by omega)) k
theorem alike_nm {B : List Nm} (g : NmGd B) (hB : B.length ≤ 29) {i : Nat} {n : Nm} (h : B[i]? = some n) {K : T → List T → Prop} (k : K (.bl true) [kT (snK n), kT (snK n)]) : gAlikeD [kT (snK n), kT (snK n)] K := by
  have s := small_good (nm_small g hB h) (by omega) (by omega)
  obtain ⟨ks, e⟩ := snK_tup n
  rw [e] at s k ⊢
  exact alike_tup s k
end Rs
set_option maxHeartbeats 4000000
namespace Rs
open PySem L2 PySem.Spec PyProof.Rows
def natV (ns : List Nat) : List V := ns.map fun n : Nat => V.int (n : Int)
theorem nats_lit {H : Hp} : ∀ (ss : List Nat) (Z : Addr → Prop), Reps Z H (natT ss) (natV ss) []
  | [], Z => by unfold natT natV; rw [List.map_nil, List.map_nil]; unfold Reps; exact ⟨rfl, rfl⟩
  | s :: r, Z => by
    have := nats_lit (H := H) r Z
    unfold natT natV at this ⊢
    rw [List.map_cons, List.map_cons]
    unfold Reps
    exact ⟨_, _, [], [], rfl, rfl, lit_int _, this⟩
section
variable {fr : Fr} {pn : List Nat} {pv : Nat → V} {tmp : List T} {tv : List V} {sl : Sl} {σ : L2.St} {H : Hp} {v : V} {KE : T → Sl → Prop} {KG : Sl → Prop} {ta tb ti te : TE} {args : TA} {i : Nat} {bs : List Nat} {b : Nat} {Kf : PySem.W.Frag}
theorem we_listRg (h : WE fr pn tmp sl ta fun t sl1 => ∃ n : Nat, t = .int (n : Int) ∧ n ≤ 10000 ∧ KE (.lst true (natT (List.range n))) sl1) : WE fr pn tmp sl (tLstRg (tRg1 ta)) KE := fun pv tv σ H Q r q =>
  h pv tv σ H _ r fun t sl1 v H1 ⟨n, e, hn, k⟩ r1 => by
    subst e
    obtain ⟨Z, f, z⟩ := r1.top
    obtain rfl := v_int z
    refine ⟨(n : Int), rfl, RgOk.of_le (by omega) (by omega) (by omega) (by omega), fun p hp => ?_⟩
    have e : rgV 0 (n : Int) = natV (List.range n) := by
      unfold rgV natV
      rw [Int.sub_zero, Int.toNat_natCast]
      refine List.map_congr_left fun i _ => ?_
      rw [Int.zero_add]
    rw [e]
    exact q _ sl1 _ _ k (r1.pop.newLits (nats_lit _) (by unfold natT natV; rw [List.length_map, List.length_map]) hp)
def nonK (n : Nat) : List (Key × T) := (List.range n).map fun i : Nat => ((.inl (i : Int) : Key), T.non)
def nonP (i : Nat) : T := .tup [.int (i : Int), .non]
def nonKV (is : List Nat) : List (Key × V) := is.map fun i : Nat => ((.inl (i : Int) : Key), V.non)
theorem non_vals {Z : Addr → Prop} {H : Hp} : ∀ {is : List Nat} {vs : List V} {f : List Addr}, Reps Z H (is.map nonP) vs f → ∃ ps : List Addr, vs = ps.map V.ref ∧ Paired (fun p (kv : Key × V) => SqT Kf H p [kV kv.1, kv.2]) ps (nonKV is)
  | [], vs, f, h => by
    rw [List.map_nil] at h
    unfold Reps at h
    exact ⟨[], h.1, .nil⟩
  | p :: r, vs, f, h => by
    rw [List.map_cons] at h
    unfold Reps at h
    obtain ⟨u, us, f1, f2, e1, e2, z, r2⟩ := h
    obtain ⟨ps, e3, pd⟩ := non_vals r2
    unfold nonP Rep at z
    obtain ⟨c, ws, z1, z2, z3⟩ := z
    unfold Reps at z3
    obtain ⟨w1, ws1, y1, y2, y3, y4, y5, z4⟩ := z3
    obtain ⟨w2, z5, z6⟩ := reps1 z4
    obtain rfl := v_int y5
    have e6 : w2 = V.non := by unfold Rep at z6; exact z6.1
    subst e6
    refine ⟨c :: ps, by rw [e1, z1, e3]; rfl, .cons ?_ pd⟩
    rw [y3, z5] at z2
    exact z2.sq
theorem non_rep {Z : Addr → Prop} {H : Hp} : ∀ is : List Nat, RepK Z H (is.map fun i : Nat => ((.inl (i : Int) : Key), T.non)) (nonKV is) []
  | [] => by unfold nonKV; rw [List.map_nil, List.map_nil]; unfold RepK; exact ⟨rfl, rfl⟩
  | p :: r => by
    unfold nonKV
    rw [List.map_cons, List.map_cons]
    unfold RepK
    exact ⟨_, _, [], [], rfl, rfl, by unfold Rep; exact ⟨rfl, rfl⟩, non_rep r⟩
theorem we_dictNon (h : WE fr pn tmp sl te fun t sl1 => ∃ (o : Bool) (n : Nat), t = .lst o ((List.range n).map nonP) ∧ KE (.dk true (nonK n)) sl1) : WE fr pn tmp sl (tCB (rDictP Kf) (tCons te tNil)) KE := fun pv tv σ H Q r q =>
  h pv tv σ H _ r fun t sl1 v H1 ⟨o, n, e, k⟩ r1 => by
  subst e
  obtain ⟨f1, f2, rf⟩ := id r1
  have hh := rf.hands
  unfold Reps at hh
  obtain ⟨v', vs', g1, g2, e1, e2, zl, b⟩ := hh
  cases e1
  unfold Rep at zl
  obtain ⟨a, vs, fp', q1, q2, q3, q4⟩ := zl
  subst q1
  obtain ⟨ps, e3, pd⟩ := non_vals (Kf := Kf) q3
  refine ⟨a, ps, _, rfl, by rw [← e3]; exact SqL.of q2, pd, fun p hp => ?_⟩
  have hm : mergeK [] (nonKV (List.range n)) = nonKV (List.range n) := by
    rw [merge_nodup, List.nil_append]
    rw [List.nil_append]
    unfold nonKV
    rw [List.map_map]
    exact List.Pairwise.map (R := (· ≠ ·)) _ (fun x y hab e => hab (by
      have e : ((.inl (x : Int) : Key)) = .inl (y : Int) := e
      exact (key_nat x y).mp e)) List.nodup_range
  rw [hm]
  exact q _ sl1 _ _ k (r1.pop.newOwn hp fun Z => by
    unfold Rep
    exact ⟨p, _, [], rfl, upd_same, non_rep _, by simp⟩)
end
end Rs
set_option maxHeartbeats 4000000
namespace Rs
open PySem L2 PySem.Spec PyProof.Rows
def sf (gg a d e : Addr) : List (Str × V) := L2.putF "linears" (.ref e) (L2.putF "numbers" (.ref d) (L2.putF "atoms" (.ref a) (L2.putF "graph" (.ref gg) [])))
theorem sf_graph (gg a d e : Addr) : (sf gg a d e).lookup ("graph" : Str) = some (.ref gg) := by
  unfold sf
  rw [lookup_putF, if_neg (by decide +kernel), lookup_putF, if_neg (by decide +kernel), lookup_putF, if_neg (by decide +kernel), lookup_putF, if_pos rfl]
theorem sf_atoms (gg a d e : Addr) : (sf gg a d e).lookup ("atoms" : Str) = some (.ref a) := by
  unfold sf
  rw [lookup_putF, if_neg (by decide +kernel), lookup_putF, if_neg (by decide +kernel), lookup_putF, if_pos rfl]
theorem sf_numbers (gg a d e : Addr) : (sf gg a d e).lookup ("numbers" : Str) = some (.ref d) := by
  unfold sf
  rw [lookup_putF, if_neg (by decide +kernel), lookup_putF, if_pos rfl]
theorem sf_linears (gg a d e : Addr) : (sf gg a d e).lookup ("linears" : Str) = some (.ref e) := by
  unfold sf
  rw [lookup_putF, if_pos rfl]
theorem sf_no (gg a d e : Addr) {m : Str} (h1 : ¬ m = "linears") (h2 : ¬ m = "numbers") (h3 : ¬ m = "atoms") (h4 : ¬ m = "graph") : (sf gg a d e).lookup m = none := by
  unfold sf
  rw [lookup_putF, if_neg h1, lookup_putF, if_neg h2, lookup_putF, if_neg h3, lookup_putF, if_neg h4]
  all_goals rfl
def lnT (M : List (Nat × Ln)) : List (Key × T) := M.map fun p => ((.inl (p.1 : Int) : Key), linT p.2)
theorem lnT_len (M : List (Nat × Ln)) : (lnT M).length = M.length := List.length_map _
theorem lnT_val (M : List (Nat × Ln)) (n : Nat) : valT (lnT M) (.inl (n : Int)) = (M.lookup n).map linT := by
  unfold valT lnT
  induction M with
  | nil => rfl
  | cons p r ih =>
    rw [List.map_cons, List.find?_cons, List.lookup_cons]
    by_cases e : p.1 = n
    · rw [decide_eq_true (show ((.inl (p.1 : Int) : Key) = .inl (n : Int)) by rw [e]), show (n == p.1) = true from by rw [e, beq_self_eq_true]]
      rfl
    · rw [decide_eq_false (show ¬ ((.inl (p.1 : Int) : Key) = .inl (n : Int)) from fun z => e ((key_nat _ _).mp z)), show (n == p.1) = false from by rw [beq_eq_false_iff_ne]; exact fun z => e z.symm]
      exact ih
theorem lkM_none {M : List (Nat × Ln)} {n : Nat} : M.lookup n = none ↔ n ∉ M.map (·.1) := by
  induction M with
  | nil => exact ⟨fun _ h => (nomatch h), fun _ => rfl⟩
  | cons p r ih =>
    rw [List.lookup_cons, List.map_cons, List.mem_cons, not_or]
    by_cases e : n = p.1
    · rw [show (n == p.1) = true from beq_iff_eq.mpr e]
      exact ⟨fun h => (nomatch h), fun h => absurd e h.1⟩
    · rw [show (n == p.1) = false from beq_eq_false_iff_ne.mpr e]
      exact ⟨fun h => ⟨e, ih.mp h⟩, fun h => ih.mpr h.2⟩
theorem lnT_put {M : List (Nat × Ln)} {n : Nat} (h : n ∉ M.map (·.1)) (l : Ln) : putT (lnT M) (.inl (n : Int)) (linT l) = lnT (M ++ [(n, l)]) := by
  unfold putT
  rw [if_neg]
  · unfold lnT
    rw [List.map_append]
    rfl
  · intro z
    unfold lnT at z
    rw [List.any_map, List.any_eq_true] at z
    obtain ⟨p, hp, e⟩ := z
    exact h (List.mem_map.mpr ⟨p, hp, (key_nat _ _).mp (of_decide_eq_true e)⟩)
theorem lkM_snoc {M : List (Nat × Ln)} {n : Nat} (h : n ∉ M.map (·.1)) (l : Ln) (m : Nat) : (M ++ [(n, l)]).lookup m = if m = n then some l else M.lookup m := by
  have hl := lkM_none.mpr h
  clear h
  induction M with
  | nil =>
    rw [List.nil_append, List.lookup_cons]
    by_cases em : m = n
    · rw [show (m == n) = true from beq_iff_eq.mpr em, if_pos em]
    · rw [show (m == n) = false from beq_eq_false_iff_ne.mpr em, if_neg em]
  | cons p r ih =>
    rw [List.lookup_cons] at hl
    rw [List.cons_append, List.lookup_cons, List.lookup_cons]
    by_cases e : n = p.1
    · rw [show (n == p.1) = true from beq_iff_eq.mpr e] at hl
      cases hl
    · rw [show (n == p.1) = false from beq_eq_false_iff_ne.mpr e] at hl
      by_cases em : m = p.1
      · rw [show (m == p.1) = true from beq_iff_eq.mpr em, if_neg (fun z => e (z.symm.trans em))]
      · rw [show (m == p.1) = false from beq_eq_false_iff_ne.mpr em]
        exact ih hl
def LnsAt (H : Hp) (e : Addr) (M : List (Nat × Ln)) : Prop := ∃ ws, H e = some (.dK ws) ∧ RepK (fun _ => False) H (lnT M) ws []
def SumAt (P : Program) (w : World) (C CG : Addr) (H : Hp) (g gg gl gd a d e : Addr) (L B : List NestedKey) (M : List (Nat × Ln)) : Prop :=
  ∃ dx vs, H g = some (.ins C dx (sf gg a d e)) ∧ GraphAt P w CG H gg gl gd L ∧ H a = some (.lst vs) ∧ NKs H B vs ∧ ND P w H d (kvsOf B 0) ∧ LnsAt H e M ∧ B.Nodup ∧ (∀ k ∈ B, k.depth ≤ 8) ∧ B.length ≤ 3000 ∧ [g, gg, gl, gd, a, d, e].Nodup
def sumR (P : Program) (w : World) (C CG : Addr) (L B : List NestedKey) (M : List (Nat × Ln)) : Hp → V → List Addr → Prop := fun H v fp => ∃ g gg gl gd a d e, v = .ref g ∧ SumAt P w C CG H g gg gl gd a d e L B M ∧ fp = [g, gg, gl, gd, a, d, e]
def sumT (P : Program) (w : World) (C CG : Addr) (L B : List NestedKey) (M : List (Nat × Ln)) : T := .abs (sumR P w C CG L B M)
section
variable {P : Program} {w : World} {C CG : Addr} {H H' : Hp} {g gg gl gd a d e : Addr} {L B : List NestedKey} {M : List (Nat × Ln)}
theorem LnsAt.goes (h : LnsAt H e M) (ht : Tps H H') (ho : ∀ o, H e = some o → H' e = some o) : LnsAt H' e M := by
  obtain ⟨ws, h1, h2⟩ := h
  exact ⟨ws, ho _ h1, h2.go _ _ _ ⟨ht, fun _ _ z => z.elim, fun x hx => (List.not_mem_nil hx).elim⟩⟩
theorem SumAt.goes (x : SumAt P w C CG H g gg gl gd a d e L B M) (ht : Tps H H') (ho : ∀ b ∈ [g, gg, gl, gd, a, d, e], ∀ o, H b = some o → H' b = some o) : SumAt P w C CG H' g gg gl gd a d e L B M := by
  obtain ⟨dx, vs, h1, h2, h3, h4, h5, h6, h7, h8, h9, h10⟩ := x
  exact ⟨dx, vs, ho g (by simp) _ h1, h2.goes ht (fun b hb => ho b (by simp at hb ⊢; rcases hb with h | h | h <;> simp [h])), ho a (by simp) _ h3, NKs.mono ht _ _ h4, h5.frame (fun o e => ho d (by simp) o e) ht, h6.goes ht (fun o => ho e (by simp) o), h7, h8, h9, h10⟩
theorem SumAt.there (x : SumAt P w C CG H g gg gl gd a d e L B M) : ∀ b ∈ [g, gg, gl, gd, a, d, e], NoTup H b := by
  obtain ⟨dx, vs, h1, h2, h3, h4, ⟨es, h5, _⟩, ⟨ws, h6, _⟩, _⟩ := x
  have hg := terms_framed.there H (.ref gg) [gg, gl, gd] ⟨gg, gl, gd, rfl, h2, rfl⟩
  intro b hb
  simp only [List.mem_cons, List.not_mem_nil, or_false] at hb
  rcases hb with rfl | rfl | rfl | rfl | rfl | rfl | rfl
  · exact ⟨_, h1, rfl⟩
  · exact hg _ (by simp)
  · exact hg _ (by simp)
  · exact hg _ (by simp)
  · exact ⟨_, h3, rfl⟩
  · exact ⟨_, h5, rfl⟩
  · exact ⟨_, h6, rfl⟩
theorem sum_framed : Framed (sumR P w C CG L B M) := by
  refine ⟨fun H H' v fp ⟨g, gg, gl, gd, a, d, e, e1, G, e2⟩ ht ho => ?_, fun H v fp ⟨g, gg, gl, gd, a, d, e, e1, G, e2⟩ b hb => ?_⟩
  · subst e2
    exact ⟨g, gg, gl, gd, a, d, e, e1, G.goes ht ho, rfl⟩
  · subst e2
    exact G.there b hb
theorem Rep.sum {Z : Addr → Prop} {v : V} {f : List Addr} (h : Rep Z H (sumT P w C CG L B M) v f) : ∃ g gg gl gd a d e, v = .ref g ∧ SumAt P w C CG H g gg gl gd a d e L B M ∧ f = [g, gg, gl, gd, a, d, e] := by
  unfold sumT Rep at h
  exact h.2
theorem rep_sum {Z : Addr → Prop} (G : SumAt P w C CG H g gg gl gd a d e L B M) : Rep Z H (sumT P w C CG L B M) (.ref g) [g, gg, gl, gd, a, d, e] := by
  unfold sumT Rep
  exact ⟨sum_framed, g, gg, gl, gd, a, d, e, rfl, G, rfl⟩
theorem sum_ins {m : Str} (h : ∀ gg a d e : Addr, (sf gg a d e).lookup m = none) : IsIns C m (sumT P w C CG L B M) := ⟨_, rfl, fun H v fp ⟨g, gg, gl, gd, a, d, e, e1, G, e2⟩ => by
  obtain ⟨dx, vs, h1, _⟩ := G
  exact ⟨g, dx, _, e1, h1, h _ _ _ _⟩⟩
end
section
variable {fr : Fr} {pn : List Nat} {pv : Nat → V} {tmp : List T} {tv : List V} {sl : Sl} {σ : L2.St} {H : Hp} {v : V}
theorem R.rewriteF {t t' : T} {x : Addr} {u o : HO} (r : R fr pn pv (t :: tmp) (v :: tv) sl σ H) (ha : H x = some u) (hu : tupOf u = none)
    (hf : ∀ Z f, Rep Z H t v f → x ∈ f) (hn : ∀ (Z Z' : Addr → Prop) (f : List Addr), Rep Z H t v f → Tps H (upd H x o) → (∀ b, Z b → b ≠ x ∧ Z' b) → Rep Z' (upd H x o) t' v f) : R fr pn pv (t' :: tmp) (v :: tv) sl σ (upd H x o) := by
  obtain ⟨f1, f2, r⟩ := r
  have h := r.hands
  unfold Reps at h
  obtain ⟨v', vs', g1, g2, e1, e2, z, b⟩ := h
  cases e1
  have hx := hf _ _ z
  have nd := r.nd
  rw [e2, List.append_assoc] at nd
  have hn1 : x ∉ g2 ++ f2 := fun q => (List.nodup_append.mp nd).2.2 x hx x q rfl
  have hz : ∀ b, Zf fr (f1 ++ f2) b → b ≠ x ∧ Zf fr (f1 ++ f2) b := fun b z => ⟨fun e => z.1 (by rw [e, e2, List.append_assoc]; exact List.mem_append_left _ hx), z⟩
  have go : ∀ f, x ∉ f → Go (Zf fr (f1 ++ f2)) (Zf fr (f1 ++ f2)) H (upd H x o) f := fun f hf => go_put ha hu hz hf
  have tp : Tps H (upd H x o) := (go [] List.not_mem_nil).tup
  refine ⟨f1, f2, ?_, r.slots.go (go _ fun q => hn1 (List.mem_append_right _ q)), r.nd, r.own, fun y oy e n => ?_, r.pins⟩
  · unfold Reps
    exact ⟨v, tv, g1, g2, rfl, e2, hn _ _ _ z tp hz, b.go _ _ _ (go _ fun q => hn1 (List.mem_append_left _ q))⟩
  · have hy := r.fm y oy e n
    rw [upd_ne (fun z => ?_)]
    · exact hy
    · have := r.own x (by rw [e2, List.append_assoc]; exact List.mem_append_left _ hx)
      rw [z] at e n
      rcases this with h | h
      · rw [e] at h
        cases h
      · exact n h
end
section
variable {fr : Fr} {pn : List Nat} {tmp : List T} {sl : Sl} {KE : T → Sl → Prop} {K : KS} {ty tv te : TE} {i : Nat} {Kf : PySem.W.Frag} {P : Program} {w : World} {C CG : Addr} {L B : List NestedKey} {M : List (Nat × Ln)} {args : TA} {E : XK}
theorem pe_fldK {X : Cx} {K : PySem.W.Frag} (hK : X.K = K) {e : Expr} {f : Str} {pos : Pos} {ta : TE} (he : PE X e ta) (hb : attributeBase e f X.env (eval e X.env) = eval e X.env) : PE X (.Attribute e f pos) (tFld K ta f) := by
  subst hK
  exact pe_fld he hb
theorem fld_at {pv : Nat → V} {tw : List V} {σ : L2.St} {H : Hp} (r : R fr pn pv tmp tw sl σ H) (h : sl[i]? = some (some (sumT P w C CG L B M))) : ∃ g gg gl gd a d e dx, σ[i]? = some (some (.ref g)) ∧ SumAt P w C CG H g gg gl gd a d e L B M ∧ H g = some (.ins C dx (sf gg a d e)) := by
  obtain ⟨v, Z, f, ev, z⟩ := r.slot h
  obtain ⟨g, gg, gl, gd, a, d, e, rfl, G, _⟩ := z.sum
  obtain ⟨dx, vs, h1, _⟩ := id G
  exact ⟨g, gg, gl, gd, a, d, e, dx, ev, G, h1⟩
theorem lin_any {Z Z' : Addr → Prop} {H H' : Hp} {l : Ln} {v : V} (h : Rep Z H (linT l) v []) (tp : Tps H H') : Rep Z' H' (linT l) v [] := by
  unfold linT at h ⊢
  unfold Rep at h ⊢
  obtain ⟨a, vs, e1, e2, r⟩ := h
  refine ⟨a, vs, e1, e2.mono tp, ?_⟩
  unfold Reps at r ⊢
  obtain ⟨v1, vs1, f1, f2, e3, e4, r1, r2⟩ := r
  obtain ⟨rfl, rfl⟩ := List.append_eq_nil_iff.mp e4.symm
  obtain rfl := v_int r1
  refine ⟨_, vs1, [], [], e3, rfl, lit_int _, ?_⟩
  unfold Reps at r2 ⊢
  obtain ⟨v2, vs2, f3, f4, e5, e6, r3, r4⟩ := r2
  obtain ⟨rfl, rfl⟩ := List.append_eq_nil_iff.mp e6.symm
  refine ⟨v2, vs2, [], [], e5, rfl, ?_, ?_⟩
  · unfold Rep at r3 ⊢
    obtain ⟨b, o, us, q1, q2, q3, q4⟩ := r3
    refine ⟨b, o, us, q1, q2, tp _ _ q3 rfl, ?_⟩
    rw [← prIs_kTs] at q4 ⊢
    exact NKs.rep _ _ (NKs.mono tp _ _ (Reps.nk _ _ _ q4))
  · unfold Reps at r4 ⊢
    exact r4
theorem we_sIn (cl : L2.Cls Kf C) (nL : NoAttr Kf C "linears") (h : WE fr pn tmp sl ty fun t2 sl2 => ∃ (L B : List NestedKey) (M : List (Nat × Ln)) (n : Nat), sl2[i]? = some (some (sumT P w C CG L B M)) ∧ t2 = .int (n : Int) ∧ KE (.bl (M.lookup n).isSome) sl2) : WE fr pn tmp sl (tDIn ty (tFld Kf (tVar i) "linears")) KE := fun pv tw σ H Q r q =>
  h pv tw σ H _ r fun t2 sl2 y H2 ⟨L, B, M, n, e1, e2, kk⟩ r2 => by
    subst e2
    obtain ⟨Z, f, z⟩ := r2.top
    obtain rfl := v_int z
    obtain ⟨g, gg, gl, gd, a, d, e, dx, ev, G, h1⟩ := fld_at r2 e1
    obtain ⟨_, _, _, _, _, _, _, ⟨ws, hw, rk⟩, _⟩ := id G
    refine ⟨_, ev, g, C, dx, _, _, rfl, h1, cl, nL, sf_linears _ _ _ _, e, _, rfl, .inl ⟨ws, .inl (n : Int), .inl hw, rfl, rfl⟩, ?_⟩
    have : (valV ws (.inl (n : Int))).isSome = (M.lookup n).isSome := by
      have hv := lnT_val M n
      rcases rk.val (.inl (n : Int)) with ⟨t, u, f, p1, p2, _⟩ | ⟨p1, p2⟩
      · rw [p2]
        rw [p1] at hv
        cases hm : M.lookup n with
        | none => rw [hm] at hv; cases hv
        | some l => rfl
      · rw [p2]
        rw [p1] at hv
        cases hm : M.lookup n with
        | none => rfl
        | some l => rw [hm] at hv; cases hv
    rw [this]
    exact q _ sl2 _ H2 kk (r2.pop.lit lit_bl)
theorem we_sNotIn (cl : L2.Cls Kf C) (nL : NoAttr Kf C "linears") (h : WE fr pn tmp sl ty fun t2 sl2 => ∃ (L B : List NestedKey) (M : List (Nat × Ln)) (n : Nat), sl2[i]? = some (some (sumT P w C CG L B M)) ∧ t2 = .int (n : Int) ∧ KE (.bl (!(M.lookup n).isSome)) sl2) : WE fr pn tmp sl (tDNotIn ty (tFld Kf (tVar i) "linears")) KE := fun pv tw σ H Q r q =>
  h pv tw σ H _ r fun t2 sl2 y H2 ⟨L, B, M, n, e1, e2, kk⟩ r2 => by
    subst e2
    obtain ⟨Z, f, z⟩ := r2.top
    obtain rfl := v_int z
    obtain ⟨g, gg, gl, gd, a, d, e, dx, ev, G, h1⟩ := fld_at r2 e1
    obtain ⟨_, _, _, _, _, _, _, ⟨ws, hw, rk⟩, _⟩ := id G
    refine ⟨_, ev, g, C, dx, _, _, rfl, h1, cl, nL, sf_linears _ _ _ _, e, _, rfl, .inl ⟨ws, .inl (n : Int), .inl hw, rfl, rfl⟩, ?_⟩
    have : (valV ws (.inl (n : Int))).isSome = (M.lookup n).isSome := by
      have hv := lnT_val M n
      rcases rk.val (.inl (n : Int)) with ⟨t, u, f, p1, p2, _⟩ | ⟨p1, p2⟩
      · rw [p2]
        rw [p1] at hv
        cases hm : M.lookup n with
        | none => rw [hm] at hv; cases hv
        | some l => rfl
      · rw [p2]
        rw [p1] at hv
        cases hm : M.lookup n with
        | none => rfl
        | some l => rw [hm] at hv; cases hv
    rw [this]
    exact q _ sl2 _ H2 kk (r2.pop.lit lit_bl)
theorem R.litR {pv : Nat → V} {tw : List V} {σ : L2.St} {H : Hp} {t : T} {v : V} {fr : Fr} {tmp : List T} (r : R fr pn pv tmp tw sl σ H) (h : ∀ Z, Rep Z H t v []) : R fr pn pv (t :: tmp) (v :: tw) sl σ H := r.lit h
theorem we_sGet {j n : Nat} {l : Ln} (cl : L2.Cls Kf C) (nL : NoAttr Kf C "linears") (h : sl[i]? = some (some (sumT P w C CG L B M))) (hj : sl[j]? = some (some (.int (n : Int)))) (hl : M.lookup n = some l) (k : KE (linT l) sl) :
    WE fr pn tmp sl (tDGet (tFld Kf (tVar i) "linears") (tVar j)) KE := fun pv tw σ H Q r q => by
  obtain ⟨g, gg, gl, gd, a, d, e, dx, ev, G, h1⟩ := fld_at r h
  obtain ⟨vj, Zj, fj, evj, zj⟩ := r.slot hj
  obtain rfl := v_int zj
  obtain ⟨_, _, _, _, _, _, _, ⟨ws, hw, rk⟩, _⟩ := id G
  refine ⟨_, ev, g, C, dx, _, _, rfl, h1, cl, nL, sf_linears _ _ _ _, _, evj, ?_⟩
  have hv := lnT_val M n
  rw [hl] at hv
  rcases rk.val (.inl (n : Int)) with ⟨t, u, f, p1, p2, p3⟩ | ⟨p1, p2⟩
  · rw [p1] at hv
    obtain rfl := Option.some.inj hv
    have ef := Rep.still _ _ _ p3 (linT_still l)
    subst ef
    refine ⟨e, u, rfl, .inl ⟨ws, .inl (n : Int), .inl hw, rfl, p2.symm⟩, q _ sl u H k (r.litR fun Z => ?_)⟩
    exact lin_any p3 fun _ _ e _ => e
  · rw [p1] at hv
    cases hv
theorem ws_sPut {j : Nat} (cl : L2.Cls Kf C) (nL : NoAttr Kf C "linears") (h : WE fr pn tmp sl tv fun t sl1 => ∃ (L B : List NestedKey) (M : List (Nat × Ln)) (n : Nat) (l : Ln), t = linT l ∧ sl1[i]? = some (some (sumT P w C CG L B M)) ∧ sl1[j]? = some (some (.int (n : Int))) ∧ n ∉ M.map (·.1) ∧ M.length < sizeLine ∧ K.nx (sl1.set i (some (sumT P w C CG L B (M ++ [(n, l)]))))) :
    WS fr pn tmp sl (sDPut (tFld Kf (tVar i) "linears") (tVar j) tv) K := fun pv tw σ H D r nx _ _ _ => by
  refine h pv tw σ H _ r fun t sl1 v H1 ⟨L, B, M, n, l, et, hs, hj, hn, hz, kk⟩ r1 => ?_
  subst et
  obtain ⟨g, gg, gl, gd, a, d, e, dx, ev, G, h1⟩ := fld_at r1 hs
  obtain ⟨vj, Zj, fj, evj, zj⟩ := r1.slot hj
  obtain rfl := v_int zj
  obtain ⟨dx0, vs, g1, g2, g3, g4, g5, ⟨ws, hw, rk⟩, g7, g8, g9, g10⟩ := id G
  have wl := rk.len
  rw [lnT_len] at wl
  refine ⟨_, ev, g, C, dx, _, _, rfl, h1, cl, nL, sf_linears _ _ _ _, _, evj, e, upd H1 e (.dK (putK ws (.inl (n : Int)) v)), rfl, .inl ⟨ws, .inl (n : Int), hw, rfl, by rw [wl]; exact hz, rfl⟩, ?_⟩
  obtain ⟨Zt, ft, zt⟩ := r1.top
  have zt0 := Rep.still _ _ _ zt (linT_still l)
  subst zt0
  obtain ⟨v', ev', r2⟩ := r1.pop.take hs
  cases Option.some.inj (Option.some.inj (ev.symm.trans ev'))
  have ne : ∀ x ∈ [g, gg, gl, gd, a, d], x ≠ e := fun x hx z => by
    subst z
    have h10 := g10
    rw [show [g, gg, gl, gd, a, d, x] = [g, gg, gl, gd, a, d] ++ [x] from rfl] at h10
    exact (List.nodup_append.mp h10).2.2 x hx x List.mem_cons_self rfl
  have r3 : R fr pn pv (sumT P w C CG L B (M ++ [(n, l)]) :: tmp) (.ref g :: tw) (sl1.set i none) σ (upd H1 e (.dK (putK ws (.inl (n : Int)) v))) := by
    refine R.rewriteF r2 hw rfl (fun Z f z => ?_) fun Z Z' f z tp hz' => ?_
    · obtain ⟨g', gg', gl', gd', a', d', e', e1, G', e2⟩ := z.sum
      cases e1
      obtain ⟨dx', vs', q1, _⟩ := id G'
      rw [g1] at q1
      have q := HO.ins.inj (Option.some.inj q1)
      have q3 : (sf gg a d e).lookup ("linears" : Str) = (sf gg' a' d' e').lookup ("linears" : Str) := by rw [q.2.2]
      rw [sf_linears, sf_linears] at q3
      cases q3
      rw [e2]
      simp
    · obtain ⟨g', gg', gl', gd', a', d', e', e1, G', e2⟩ := z.sum
      cases e1
      obtain ⟨dx', vs', q1, q2, q3, q4, q5, q6, q7, q8, q9, q10⟩ := id G'
      have q0 := q1
      rw [g1] at q0
      have q := (HO.ins.inj (Option.some.inj q0)).2.2
      have k1 : (sf gg a d e).lookup ("linears" : Str) = (sf gg' a' d' e').lookup ("linears" : Str) := by rw [q]
      have k2 : (sf gg a d e).lookup ("atoms" : Str) = (sf gg' a' d' e').lookup ("atoms" : Str) := by rw [q]
      have k3 : (sf gg a d e).lookup ("numbers" : Str) = (sf gg' a' d' e').lookup ("numbers" : Str) := by rw [q]
      have k4 : (sf gg a d e).lookup ("graph" : Str) = (sf gg' a' d' e').lookup ("graph" : Str) := by rw [q]
      rw [sf_linears, sf_linears] at k1
      rw [sf_atoms, sf_atoms] at k2
      rw [sf_numbers, sf_numbers] at k3
      rw [sf_graph, sf_graph] at k4
      cases k1
      cases k2
      cases k3
      cases k4
      subst e2
      have ne' : ∀ x ∈ [g, gg, gl', gd', a, d], x ≠ e := fun x hx z => by
        subst z
        have h10 := q10
        rw [show [g, gg, gl', gd', a, d, x] = [g, gg, gl', gd', a, d] ++ [x] from rfl] at h10
        exact (List.nodup_append.mp h10).2.2 x hx x List.mem_cons_self rfl
      refine rep_sum ⟨dx', vs', by rw [upd_ne (ne' g (by simp))]; exact q1, q2.goes tp fun b hb o ob => ?_, by rw [upd_ne (ne' a (by simp))]; exact q3, NKs.mono tp _ _ q4, q5.frame (fun o eo => by rw [upd_ne (ne' d (by simp))]; exact eo) tp, ?_, q7, q8, q9, q10⟩
      · rw [upd_ne (ne' b (by simp at hb ⊢; rcases hb with h | h | h <;> simp [h]))]
        exact ob
      · refine ⟨_, upd_same, ?_⟩
        have hp := RepK.put (k := .inl (n : Int)) (t := linT l) (v := v) (Z := fun _ => False) (H := upd H1 e (.dK (putK ws (.inl (n : Int)) v))) (kvs := lnT M) (ws := ws) ?_ ?_
        · rw [lnT_put hn] at hp
          exact hp
        · have z1 : Rep Zt H1 (linT l) v [] := zt
          exact lin_any z1 tp
        · exact rk.go _ _ _ ⟨tp, fun _ _ z => z.elim, fun x hx => (List.not_mem_nil hx).elim⟩
  have hlen : i < sl1.length := (List.getElem?_eq_some_iff.mp hs).1
  have r4 := R.give (i := i) r3 (by rw [List.getElem?_set_self hlen]) ev
  rw [List.set_set] at r4
  exact nx _ σ _ kk r4
def spKeyG (P : Program) (w : World) (C : Addr) : Sp := fun vs H Q _ => ∃ (g l d : Addr) (L : List NestedKey) (i : Nat) (b : NestedKey), vs = [.ref g, .int (i : Int)] ∧ GraphAt P w C H g l d L ∧ L[i]? = some (.tup [.text "letter", b]) ∧ ∀ v, NK H b v → Q v H
theorem gask {m : Str} {sp : Sp} {j n : Nat} (hm1 : ¬ m = "known_heads") (hm2 : ¬ m = "heads") (cl : L2.Cls Kf C) (nG : NoAttr Kf C "graph") (h : sl[i]? = some (some (sumT P w C CG L B M))) (hj : sl[j]? = some (some (.int (n : Int))))
    (k : ∀ pv tw σ H (Q : VK) gg gl gd, R fr pn pv tmp tw sl σ H → (∀ t' sl' v H', KE t' sl' → R fr pn pv (t' :: tmp) (v :: tw) sl' σ H' → Q v H') → GraphAt P w CG H gg gl gd L → sp [.ref gg, .int (n : Int)] H Q E) :
    WE fr pn tmp sl (tMeth CG m sp [] E (tFld Kf (tVar i) "graph") (tCons (tVar j) tNil)) KE := fun pv tw σ H Q r q => by
  obtain ⟨g, gg, gl, gd, a, d, e, dx, ev, G, h1⟩ := fld_at r h
  obtain ⟨vj, Zj, fj, evj, zj⟩ := r.slot hj
  obtain rfl := v_int zj
  obtain ⟨_, _, _, G2, _⟩ := id G
  obtain ⟨dx2, vs2, hg2, _⟩ := id G2
  exact ⟨_, ev, g, C, dx, _, _, rfl, h1, cl, nG, sf_graph _ _ _ _, gg, dx2, _, rfl, hg2, gf_no _ _ hm1 hm2, _, evj, k pv tw σ H Q gg gl gd r q G2⟩
theorem we_sIsL {j n : Nat} {s : Str} {rest : List NestedKey} (cl : L2.Cls Kf C) (nG : NoAttr Kf C "graph") (h : sl[i]? = some (some (sumT P w C CG L B M))) (hj : sl[j]? = some (some (.int (n : Int)))) (hL : L[n]? = some (.tup (.text s :: rest))) (k : KE (.bl (decide (s = "letter"))) sl) :
    WE fr pn tmp sl (tMeth CG "is_letter" (spIsL P w CG) [] E (tFld Kf (tVar i) "graph") (tCons (tVar j) tNil)) KE :=
  gask (by decide +kernel) (by decide +kernel) cl nG h hj fun pv tw σ H Q gg gl gd r q G => ⟨gg, gl, gd, L, n, s, rest, rfl, G, hL, q _ sl _ H k (r.litR lit_bl)⟩
theorem we_sKey {j n : Nat} {b : NestedKey} (cl : L2.Cls Kf C) (nG : NoAttr Kf C "graph") (h : sl[i]? = some (some (sumT P w C CG L B M))) (hj : sl[j]? = some (some (.int (n : Int)))) (hL : L[n]? = some (.tup [.text "letter", b])) (k : KE (kT b) sl) :
    WE fr pn tmp sl (tMeth CG "key_of" (spKeyG P w CG) [] E (tFld Kf (tVar i) "graph") (tCons (tVar j) tNil)) KE :=
  gask (by decide +kernel) (by decide +kernel) cl nG h hj fun pv tw σ H Q gg gl gd r q G => ⟨gg, gl, gd, L, n, b, rfl, G, hL, fun v nk => q _ sl _ H k (r.litR fun Z => NK.rep _ _ nk)⟩
theorem we_sOp {j n : Nat} {o : Str} {rest : List NestedKey} (cl : L2.Cls Kf C) (nG : NoAttr Kf C "graph") (h : sl[i]? = some (some (sumT P w C CG L B M))) (hj : sl[j]? = some (some (.int (n : Int)))) (hL : L[n]? = some (.tup (.text "op" :: .text o :: rest))) (k : KE (.str o) sl) :
    WE fr pn tmp sl (tMeth CG "op_of" (spOp P w CG) [] E (tFld Kf (tVar i) "graph") (tCons (tVar j) tNil)) KE :=
  gask (by decide +kernel) (by decide +kernel) cl nG h hj fun pv tw σ H Q gg gl gd r q G => ⟨gg, gl, gd, L, n, o, rest, rfl, G, hL, q _ sl _ H k (r.litR lit_str)⟩
theorem we_sParts {j n : Nat} {o : Str} {ns : List Int} (cl : L2.Cls Kf C) (nG : NoAttr Kf C "graph") (h : sl[i]? = some (some (sumT P w C CG L B M))) (hj : sl[j]? = some (some (.int (n : Int)))) (hL : L[n]? = some (.tup [.text "op", .text o, .tup (ns.map .num)])) (k : KE (.tup (ns.map T.int)) sl) :
    WE fr pn tmp sl (tMeth CG "parts_of" (spParts P w CG) [] E (tFld Kf (tVar i) "graph") (tCons (tVar j) tNil)) KE :=
  gask (by decide +kernel) (by decide +kernel) cl nG h hj fun pv tw σ H Q gg gl gd r q G => ⟨gg, gl, gd, L, n, rfl, G, .inr ⟨o, ns, hL, fun p hp => q _ sl _ H k (r.litR fun Z => by unfold Rep; exact ⟨p, _, rfl, hp, ints_rep ns⟩)⟩⟩
def spAn (P : Program) (w : World) (C CG : Addr) : Sp := fun vs H Q _ => ∃ (g p gg gl gd a d e : Addr) (L B : List NestedKey) (M : List (Nat × Ln)) (k : NestedKey), vs = [.ref g, .ref p] ∧ SumAt P w C CG H g gg gl gd a d e L B M ∧ NK H k (.ref p) ∧ k.depth ≤ 8 ∧ B.length < 3000 ∧
  (∀ i : Nat, B[i]? = some k → Q (.int (i : Int)) H) ∧ (k ∉ B → ∀ H', SumAt P w C CG H' g gg gl gd a d e L (B ++ [k]) M → Fm [a, d] H H' → Q (.int (B.length : Int)) H')
def gAn (P : Program) (w : World) (C CG : Addr) (ts : List T) (K : T → List T → Prop) : Prop := ∃ (L B : List NestedKey) (M : List (Nat × Ln)) (k : NestedKey), ts = [sumT P w C CG L B M, kT k] ∧ (∃ ks, k = .tup ks) ∧ k.depth ≤ 8 ∧ B.length < 3000 ∧ K (.int ((B.idxOf k : Nat) : Int)) [sumT P w C CG L (addK B k) M, kT k]
theorem mono_an : Mono (gAn P w C CG) := fun ts K K' h ⟨L, B, M, k, e, e0, e1, e2, kk⟩ => ⟨L, B, M, k, e, e0, e1, e2, h _ _ kk⟩
theorem ask_addS {ts : List T} {vs : List V} {Z : Addr → Prop} {fp S : List Addr} {H H' : Hp} {L' B' : List NestedKey} {M' : List (Nat × Ln)} {g gg gl gd a d e : Addr} {t : T} {v : V} (r2 : Reps Z H ts vs []) (ef : fp = [g, gg, gl, gd, a, d, e]) (nz : ∀ a ∈ fp, ¬ Z a) (nd : fp.Nodup) (hS : ∀ x ∈ S, x ∈ fp) (f : Fm S H H') (G0 : ∃ L B M, SumAt P w C CG H g gg gl gd a d e L B M) (G : SumAt P w C CG H' g gg gl gd a d e L' B' M') (ht : ∀ Z, Rep Z H' t v []) :
    Reps (fun a => a ∉ fp ∧ (Z a ∨ H a = none ∨ a ∈ fp)) H' (t :: sumT P w C CG L' B' M' :: ts) (v :: .ref g :: vs) fp ∧ fp.Nodup ∧ (∀ a ∈ fp, H a = none ∨ a ∈ fp) ∧ Fm fp H H' := by
  subst ef
  obtain ⟨L0, B0, M0, G0⟩ := G0
  refine ⟨?_, nd, fun a h => .inr h, f.wide hS⟩
  unfold Reps
  refine ⟨_, _, [], _, rfl, rfl, ht _, ?_⟩
  unfold Reps
  refine ⟨_, _, _, [], rfl, (List.append_nil _).symm, rep_sum G, r2.go _ _ _ ⟨fun x u e hu => f x _ e fun z => ?_, fun x o z e => ⟨⟨fun q => nz x q z, .inl z⟩, f x o e fun q => nz x (hS x q) z⟩, fun a h => (List.not_mem_nil h).elim⟩⟩
  obtain ⟨o, e1, e2⟩ := G0.there x (hS x z)
  rw [e] at e1
  cases e1
  rw [e2] at hu
  cases hu
theorem conv_an {vs : List V} {H : Hp} {Q : VK} {E : XK} (h : spT (gAn P w C CG) vs H Q E) : spAn P w C CG vs H Q E := by
  obtain ⟨ts, Z, fp, r, nd, nz, L, B, M, key, e, ht, hd, hl, k⟩ := h
  subst e
  obtain ⟨v, vs', f1, f2, e1, e2, z, r2⟩ := reps2 r
  obtain ⟨u, e3, zu⟩ := reps1 r2
  obtain ⟨g, gg, gl, gd, a, d, e, e4, G, e5⟩ := z.sum
  have ek := Rep.still _ _ _ zu (kT_still key)
  subst ek
  rw [List.append_nil, e5] at e2
  have hn : B.Nodup := by
    obtain ⟨_, _, _, _, _, _, _, _, h, _⟩ := G
    exact h
  subst e3
  subst e4
  obtain ⟨ks, rfl⟩ := ht
  have nk := zu.nk
  obtain ⟨p, rfl⟩ : ∃ p, u = .ref p := by
    cases nk with
    | tup e r => exact ⟨_, rfl⟩
  have hS : ∀ x ∈ [a, d], x ∈ fp := fun x hx => by rw [e2]; simp at hx ⊢; rcases hx with h | h <;> simp [h]
  refine ⟨g, p, gg, gl, gd, a, d, e, L, B, M, _, e1, G, nk, hd, hl, fun i hi => ?_, fun hno H' G' f' => ?_⟩
  · obtain ⟨x1, x2, x3, x4⟩ := ask_addS (t := .int ((B.idxOf (.tup ks) : Nat) : Int)) (v := .int ((B.idxOf (.tup ks) : Nat) : Int)) r2 e2 nz nd (S := []) (fun _ h => (List.not_mem_nil h).elim) (Fm.refl _ _) ⟨_, _, _, G⟩ G lit_int
    rw [e1] at k
    have ea : addK B (.tup ks) = B := if_pos (List.mem_of_getElem? hi)
    rw [ea, idx_at hn hi] at k
    rw [idx_at hn hi] at x1
    exact k _ H fp x1 x2 x3 x4
  · obtain ⟨x1, x2, x3, x4⟩ := ask_addS (t := .int ((B.idxOf (.tup ks) : Nat) : Int)) (v := .int ((B.idxOf (.tup ks) : Nat) : Int)) r2 e2 nz nd hS f' ⟨_, _, _, G⟩ G' lit_int
    rw [e1] at k
    have ea : addK B (.tup ks) = B ++ [.tup ks] := if_neg hno
    have ei : B.idxOf (.tup ks) = B.length := List.idxOf_eq_length hno
    rw [ea, ei] at k
    rw [ei] at x1
    exact k _ H' fp x1 x2 x3 x4
def spAt (P : Program) (w : World) (C CG : Addr) : Sp := fun vs H Q _ => ∃ (g gg gl gd a d e : Addr) (L B : List NestedKey) (M : List (Nat × Ln)) (i : Nat) (k : NestedKey), vs = [.ref g, .int (i : Int)] ∧ SumAt P w C CG H g gg gl gd a d e L B M ∧ B[i]? = some k ∧ ∀ v, NK H k v → Q v H
def gAt (P : Program) (w : World) (C CG : Addr) (ts : List T) (K : T → List T → Prop) : Prop := ∃ (L B : List NestedKey) (M : List (Nat × Ln)) (i : Nat) (k : NestedKey), ts = [sumT P w C CG L B M, .int (i : Int)] ∧ B[i]? = some k ∧ K (kT k) ts
theorem mono_at : Mono (gAt P w C CG) := fun ts K K' h ⟨L, B, M, i, k, e, e0, kk⟩ => ⟨L, B, M, i, k, e, e0, h _ _ kk⟩
def spManyS (P : Program) (w : World) (C CG : Addr) : Sp := fun vs H Q _ => ∃ (g gg gl gd a d e : Addr) (L B : List NestedKey) (M : List (Nat × Ln)), vs = [.ref g] ∧ SumAt P w C CG H g gg gl gd a d e L B M ∧ Q (.int (B.length : Int)) H
def gManyS (P : Program) (w : World) (C CG : Addr) (ts : List T) (K : T → List T → Prop) : Prop := ∃ (L B : List NestedKey) (M : List (Nat × Ln)), ts = [sumT P w C CG L B M] ∧ K (.int (B.length : Int)) ts
theorem mono_manyS : Mono (gManyS P w C CG) := fun ts K K' h ⟨L, B, M, e, kk⟩ => ⟨L, B, M, e, h _ _ kk⟩
theorem conv_at {vs : List V} {H : Hp} {Q : VK} {E : XK} (h : spT (gAt P w C CG) vs H Q E) : spAt P w C CG vs H Q E := by
  obtain ⟨ts, Z, fp, r, nd, nz, L, B, M, i, key, e, hi, k⟩ := h
  subst e
  obtain ⟨v, vs', f1, f2, e1, e2, z, r2⟩ := reps2 r
  have e6 := int_eq (ts := []) r2
  obtain ⟨g, gg, gl, gd, a, d, e, e4, G, e5⟩ := z.sum
  refine ⟨g, gg, gl, gd, a, d, e, L, B, M, i, key, by rw [e1, e6, e4], G, hi, fun u nk => ?_⟩
  obtain ⟨x1, x2, x3, x4⟩ := ask_same (t := kT key) (v := u) r nz nd (Fm.refl _ _) (NK.rep _ _ nk)
  exact k u H fp x1 x2 x3 x4
theorem conv_manyS {vs : List V} {H : Hp} {Q : VK} {E : XK} (h : spT (gManyS P w C CG) vs H Q E) : spManyS P w C CG vs H Q E := by
  obtain ⟨ts, Z, fp, r, nd, nz, L, B, M, e, k⟩ := h
  subst e
  obtain ⟨v, e1, z⟩ := reps1 r
  obtain ⟨g, gg, gl, gd, a, d, e, e4, G, e5⟩ := z.sum
  refine ⟨g, gg, gl, gd, a, d, e, L, B, M, by rw [e1, e4], G, ?_⟩
  obtain ⟨x1, x2, x3, x4⟩ := ask_same (t := .int (B.length : Int)) (v := .int (B.length : Int)) r nz nd (Fm.refl _ _) (lit_int _)
  exact k _ H fp x1 x2 x3 x4
def spInitS (P : Program) (w : World) (C : Addr) : Sp := fun vs H Q _ => ∃ (g dx gg : Addr), vs = [.ref g, .ref gg] ∧ H g = some (.ins C dx []) ∧
  ∀ a d e H', H a = none → H d = none → H e = none → a ≠ d → a ≠ e → d ≠ e → H' g = some (.ins C dx (sf gg a d e)) → H' a = some (.lst []) → ND P w H' d [] → H' e = some (.dK []) → Fm [g] H H' → Q .non H'
theorem we_mkSum (h : sl[i]? = some (some (termsT P w CG L))) (k : KE (sumT P w C CG L [] []) (sl.set i none)) : WE fr pn tmp sl (tMake C (spInitS P w C) [] E (tCons (tVar i) tNil)) KE := fun pv tw σ H Q r q => by
  obtain ⟨v0, ev, r1⟩ := r.take h
  obtain ⟨Z, f, z⟩ := r1.top
  obtain ⟨gg, gl, gd, rfl, G, _⟩ := z.terms
  refine ⟨_, ev, fun x dx hx hdx hne => ?_⟩
  have keep0 : ∀ a o, H a = some o → (upd (upd H dx (.own x)) x (.ins C dx [])) a = some o := fun a o e => by
    rw [upd_ne (fun z => by rw [z, hx] at e; cases e), upd_ne (fun z => by rw [z, hdx] at e; cases e)]
    exact e
  refine ⟨x, dx, gg, rfl, upd_same, fun a d e H' ha hd he ad ae de hg' ha' nd' he' f' => ⟨rfl, ?_⟩⟩
  have none0 : ∀ a, (upd (upd H dx (.own x)) x (.ins C dx [])) a = none → H a = none := fun a e => by
    cases h : H a with
    | none => rfl
    | some o => rw [keep0 a o h] at e; cases e
  have keep : ∀ a o, H a = some o → H' a = some o := fun a o e => f' a o (keep0 a o e) fun z => by
    rw [List.mem_singleton] at z
    rw [z, hx] at e
    cases e
  have tp : Tps H H' := fun a u e _ => keep a _ e
  obtain ⟨f1, f2, rf⟩ := r1
  have hh := rf.hands
  unfold Reps at hh
  obtain ⟨v', vs', g1, g2, e1, e2, zt, b⟩ := hh
  cases e1
  obtain ⟨gg', gl', gd', q1, G', q2⟩ := zt.terms
  cases q1
  subst q2
  have hn : ∀ y ∈ [x, a, d, e], H y = none := fun y hy => by
    simp only [List.mem_cons, List.not_mem_nil, or_false] at hy
    rcases hy with rfl | rfl | rfl | rfl
    · exact hx
    · exact none0 _ ha
    · exact none0 _ hd
    · exact none0 _ he
  have xne : x ≠ a ∧ x ≠ d ∧ x ≠ e := ⟨fun z => (by rw [← z, upd_same] at ha; cases ha), fun z => (by rw [← z, upd_same] at hd; cases hd), fun z => (by rw [← z, upd_same] at he; cases he)⟩
  have old : ∀ y ∈ f1 ++ f2, ∃ o, H y = some o := fun y hy => by
    rcases List.mem_append.mp hy with hy | hy
    · obtain ⟨o, ho, _⟩ := rf.hands.there _ _ _ y hy
      exact ⟨o, ho⟩
    · obtain ⟨o, ho, _⟩ := rf.slots.there y hy
      exact ⟨o, ho⟩
  have nn : ∀ y ∈ [x, a, d, e], y ∉ f1 ++ f2 := fun y hy z => by
    obtain ⟨o, ho⟩ := old y z
    rw [hn y hy] at ho
    cases ho
  have ndg : [gg, gl', gd'].Nodup := by
    have h1 := rf.nd
    rw [e2, List.append_assoc] at h1
    exact (List.nodup_append.mp h1).1
  have sub : ∀ y ∈ [gg, gl', gd'], y ∈ f1 ++ f2 := fun y hy => by rw [e2, List.append_assoc]; exact List.mem_append_left _ hy
  have n4 : [x, a, d, e].Nodup := by simp [xne, ad, ae, de]
  have n7 : [x, gg, gl', gd', a, d, e].Nodup := by
    have p : [x, gg, gl', gd', a, d, e].Perm ([x, a, d, e] ++ [gg, gl', gd']) := by
      refine List.Perm.cons x ?_
      exact (List.perm_append_comm (l₁ := [gg, gl', gd']) (l₂ := [a, d, e]))
    refine (List.Perm.nodup_iff p).mpr (List.nodup_append.mpr ⟨n4, ndg, fun y hy z hz e => ?_⟩)
    subst e
    exact nn y hy (sub y hz)
  have S : SumAt P w C CG H' x gg gl' gd' a d e L [] [] := ⟨dx, [], hg', G'.goes tp (fun b hb o ho => keep b o ho), ha', .nil, nd', ⟨[], he', by unfold lnT RepK; exact ⟨rfl, rfl⟩⟩, List.nodup_nil, fun _ h => (List.not_mem_nil h).elim, Nat.zero_le _, n7⟩
  refine q _ _ _ H' k ⟨[x, gg, gl', gd', a, d, e] ++ g2, f2, ?_, ?_, ?_, ?_, fun y o ho hy => keep y o (rf.fm y o ho hy), rf.pins⟩
  · have go : ∀ fp, (∀ y ∈ fp, y ∈ f1 ++ f2) → Go (Zf fr (f1 ++ f2)) (Zf fr (([x, gg, gl', gd', a, d, e] ++ g2) ++ f2)) H H' fp := fun fp hfp => ⟨tp, fun y o z ho => ⟨⟨fun hy => ?_, z.2⟩, keep y o ho⟩, fun y hy o ho => keep y o ho⟩
    · unfold Reps
      exact ⟨.ref x, tw, _, g2, rfl, rfl, rep_sum S, b.go _ _ _ (go g2 fun y hy => by rw [e2, List.append_assoc]; exact List.mem_append_right _ (List.mem_append_left _ hy))⟩
    · have hyy : y ∈ [x, a, d, e] ∨ y ∈ f1 ++ f2 := by
        rw [e2]
        simp only [List.mem_append, List.mem_cons, List.not_mem_nil, or_false] at hy ⊢
        rcases hy with ((h | h | h | h | h | h | h) | h) | h <;> simp [h]
      rcases hyy with h | h
      · rw [hn y h] at ho; cases ho
      · exact z.1 h
  · refine rf.slots.go ⟨tp, fun y o z ho => ⟨⟨fun hy => ?_, z.2⟩, keep y o ho⟩, fun y hy o ho => keep y o ho⟩
    have hyy : y ∈ [x, a, d, e] ∨ y ∈ f1 ++ f2 := by
      rw [e2]
      simp only [List.mem_append, List.mem_cons, List.not_mem_nil, or_false] at hy ⊢
      rcases hy with ((h | h | h | h | h | h | h) | h) | h <;> simp [h]
    rcases hyy with h | h
    · rw [hn y h] at ho; cases ho
    · exact z.1 h
  · have h1 := rf.nd
    rw [e2] at h1
    rw [List.append_assoc]
    refine List.nodup_append.mpr ⟨n7, ?_, fun y hy z hz e => ?_⟩
    · rw [List.append_assoc] at h1
      exact (List.nodup_append.mp h1).2.1
    · subst e
      have hz2 : y ∈ f1 ++ f2 := by rw [e2, List.append_assoc]; exact List.mem_append_right _ hz
      have hyy : y ∈ [x, a, d, e] ∨ y ∈ [gg, gl', gd'] := by
        simp only [List.mem_cons, List.not_mem_nil, or_false] at hy ⊢
        rcases hy with h | h | h | h | h | h | h <;> simp [h]
      rcases hyy with h | h
      · exact nn y h hz2
      · rw [List.append_assoc] at h1
        exact (List.nodup_append.mp h1).2.2 y h y hz rfl
  · intro y hy
    have hyy : y ∈ [x, a, d, e] ∨ y ∈ f1 ++ f2 := by
      rw [e2]
      simp only [List.mem_append, List.mem_cons, List.not_mem_nil, or_false] at hy ⊢
      rcases hy with ((h | h | h | h | h | h | h) | h) | h <;> simp [h]
    rcases hyy with h | h
    · exact newOwn rf.fm (hn y h)
    · exact rf.own y h
end
end Rs
set_option maxHeartbeats 4000000
namespace Rs
open PySem L2 PySem.Spec PyProof.Rows
structure LwOk (P : Program) (w : World) (R G : List Kr) (ns : List Nat) (B : List Nm) (kvs : List (Key × T)) (M : List (Nat × Ln)) : Prop where
  d : DrOk R
  h29 : R.length ≤ 29
  dp : DP R G ns
  fo : FoOk P w R B kvs
  gd : NmGd B
  nd : B.Nodup
  few : B.length ≤ kvs.length
  sg : SgOk G B M
section
variable {P : Program} {w : World} {R G : List Kr} {ns : List Nat} {B B' : List Nm} {kvs kvs' : List (Key × T)} {M M' : List (Nat × Ln)}
theorem LwOk.b29 (h : LwOk P w R G ns B kvs M) : B.length ≤ 29 := Nat.le_trans h.few (Nat.le_trans h.fo.ki.len h.h29)
theorem LwOk.start (d : DrOk R) (h29 : R.length ≤ 29) (dp : DP R G ns) : LwOk P w R G ns [] [] [] :=
  ⟨d, h29, dp, ⟨KI.nil, fun n t h => (by cases h)⟩, NmGd.nil, List.nodup_nil, Nat.le_refl _, ⟨dp.rk, by have := dp.few; omega, List.nodup_nil, List.nodup_nil, fun n l h => (by cases h), Nat.le_refl _⟩⟩
theorem LwOk.asked (h : LwOk P w R G ns B kvs M) {n : Nat} (v : Vis sumL R B n B') (fo : FoOk P w R B' kvs') (nd : B'.Nodup) (few : B'.length ≤ kvs'.length) (sg : SgOk G B' M') : LwOk P w R G ns B' kvs' M' :=
  ⟨h.d, h.h29, h.dp, fo, v.gd h.d h.h29 h.gd, nd, few, sg⟩
theorem LwOk.more (h : LwOk P w R G ns B kvs M) (sg : SgOk G B M') : LwOk P w R G ns B kvs M' := ⟨h.d, h.h29, h.dp, h.fo, h.gd, h.nd, h.few, sg⟩
theorem LwOk.gl (h : LwOk P w R G ns B kvs M) {n : Nat} {l l' : Ln} (e : Ev sumL R B n l) (e' : Ev sumL G B (nsF ns n) l') : l' = l := (h.dp.same.ev e).det e' ▸ rfl
end
theorem owK_T : ∀ r : Kr, kT (owK r) = krT r
  | .lt k => rfl
  | .op o ps => by
    show T.tup [.str "op", .str o, .tup (kTs ((ps.map fun p : Nat => (p : Int)).map .num))] = _
    rw [kTs_nums, natT_of]
    rfl
theorem owK_tup : ∀ r : Kr, ∃ ks, owK r = .tup ks ∧ (NestedKey.tup ks).depth ≤ 3
  | .lt k => ⟨_, rfl, Nat.le_of_ble_eq_true rfl⟩
  | .op o ps => ⟨_, rfl, dp_tup (n := 2) fun k hk => by
      simp only [List.mem_cons, List.not_mem_nil, or_false] at hk
      rcases hk with rfl | rfl | rfl
      · exact Nat.zero_le _
      · exact Nat.zero_le _
      · refine dp_tup fun k hk => ?_
        obtain ⟨p, _, rfl⟩ := List.mem_map.mp hk
        exact Nat.zero_le _⟩
theorem kvsOf_keys : ∀ (L : List NestedKey) (n : Nat), (kvsOf L n).map (·.1) = L
  | [], _ => rfl
  | k :: r, n => by
    show k :: (kvsOf r (n + 1)).map (·.1) = k :: r
    rw [kvsOf_keys r (n + 1)]
structure TdOk (n : Nat) (vs : List Int) (kvs : List (Key × T)) : Prop where
  ki : KI n kvs
  val : ∀ i, i < n → valT kvs (.inl (i : Int)) = some .non ∨ valT kvs (.inl (i : Int)) = some (.int (vs.getD i 0))
theorem non_val : ∀ (is : List Nat) (i : Nat), i ∈ is → valT (is.map fun i : Nat => ((.inl (i : Int) : Key), T.non)) (.inl (i : Int)) = some .non
  | [], i, h => (nomatch h)
  | p :: r, i, h => by
    rw [List.map_cons]
    unfold valT
    rw [List.find?_cons]
    by_cases c : p = i
    · subst c
      rw [decide_eq_true rfl]
      rfl
    · rw [decide_eq_false (fun z => c ((key_nat p i).mp z))]
      exact non_val r i ((List.mem_cons.mp h).resolve_left fun z => c z.symm)
theorem TdOk.start (n : Nat) (vs : List Int) : TdOk n vs (nonK n) := by
  refine ⟨⟨?_, fun k hk => ?_, ?_⟩, fun i hi => .inl (non_val _ i (List.mem_range.mpr hi))⟩
  · unfold nonK
    rw [List.map_map]
    exact List.Pairwise.map (R := (· ≠ ·)) _ (fun x y hab e => hab ((key_nat x y).mp e)) List.nodup_range
  · unfold nonK at hk
    rw [List.map_map] at hk
    obtain ⟨i, hi, rfl⟩ := List.mem_map.mp hk
    exact ⟨i, List.mem_range.mp hi, rfl⟩
  · unfold nonK
    have : ∀ is : List Nat, stillK (is.map fun i : Nat => ((.inl (i : Int) : Key), T.non)) = true := fun is => by
      induction is with
      | nil => rfl
      | cons p r ih =>
        rw [List.map_cons]
        unfold stillK
        rw [ih]
        rfl
    exact this _
theorem TdOk.put {n : Nat} {vs : List Int} {kvs : List (Key × T)} (h : TdOk n vs kvs) {i : Nat} (hi : i < n) {t : T} (ht : t = .int (vs.getD i 0)) : TdOk n vs (putT kvs (.inl (i : Int)) t) := by
  subst ht
  refine ⟨h.ki.put hi rfl, fun j hj => ?_⟩
  rw [val_put]
  split
  · rename_i c
    rw [c]
    exact .inr rfl
  · exact h.val j hj
theorem one_unit {d : Ld} {l : Ln} (h : LdOk d l) (h1 : d.length = 1) : ∃ k x, d = [(k, x)] ∧ (x = 1 → lkD d .none = none → ∃ i : Nat, k = .num (i : Int) ∧ l = unit i) := by
  match d, h1 with
  | [(k, x)], _ =>
    refine ⟨k, x, rfl, fun hx hn => ?_⟩
    subst hx
    obtain ⟨y, rfl⟩ := h.leaf k List.mem_cons_self
    cases y with
    | none =>
      have : lkD [(lfO none, (1 : Int))] .none = some 1 := rfl
      rw [this] at hn
      cases hn
    | some i =>
      refine ⟨i, rfl, Ln.ext' h.nf (unit_nf i) fun y => ?_⟩
      rw [← h.val y]
      exact (LdOk.one i).val y
section
variable {hsh : Str → List Int → Int} {reads : Nat → Int} {R G : List Kr} {ns : List Nat}
def wvO (hsh : Str → List Int → Int) (reads : Nat → Int) (G : List Kr) (ns : List Nat) (n : Nat) : Int := (wts hsh reads G).getD (nsF ns n) 0
theorem wv_lt (dp : DP R G ns) {n k : Nat} (h : R[n]? = some (.lt k)) : wvO hsh reads G ns n = reads k := wts_at dp.rk (dp.at' n _ h)
theorem wv_op (dp : DP R G ns) {n : Nat} {o : Str} {ps : List Nat} (h : R[n]? = some (.op o ps)) : wvO hsh reads G ns n = appL hsh o (ps.map (wvO hsh reads G ns)) := by
  refine (wts_at dp.rk (dp.at' n _ h)).trans ?_
  show appL hsh o ((ps.map (nsF ns)).map _) = _
  rw [List.map_map]
  rfl
theorem wv_ev {B : List Nm} (ok : NmOk B) (nd : B.Nodup) (dp : DP R G ns) {n : Nat} {l : Ln} (e : Ev sumL R B n l) : wvO hsh reads G ns n = evL (vals hsh reads B) l :=
  e.worth ok nd (fun n k h => wv_lt dp h) (fun n o ps h => wv_op dp h)
end
def tdT (kvs : List (Key × T)) (i : Nat) : T := (valT kvs (.inl (i : Int))).getD .non
theorem td_is {n : Nat} {vs : List Int} {kvs : List (Key × T)} (h : TdOk n vs kvs) {i : Nat} (hi : i < n) : valT kvs (.inl (i : Int)) = some (tdT kvs i) ∧ (tdT kvs i = .non ∨ tdT kvs i = .int (vs.getD i 0)) := by
  unfold tdT
  rcases h.val i hi with e | e
  · rw [e]; exact ⟨rfl, .inl rfl⟩
  · rw [e]; exact ⟨rfl, .inr rfl⟩
def tdV (t : T) : V := match t with
  | .int i => .int i
  | _ => .non
theorem td_flats {n : Nat} {vs : List Int} {kvs : List (Key × T)} (h : TdOk n vs kvs) : ∀ ts : Fs, (∀ p ∈ ts, p.1 < n) → flats (ts.map fun p => tdT kvs p.1) = some (ts.map fun p => tdV (tdT kvs p.1)) ∧
    (inV .non (ts.map fun p => tdV (tdT kvs p.1)) = false → ∀ p ∈ ts, tdT kvs p.1 = .int (vs.getD p.1 0))
  | [], _ => ⟨rfl, fun _ p hp => (nomatch hp)⟩
  | p :: r, hp => by
    obtain ⟨a, b⟩ := td_flats h r fun q hq => hp q (List.mem_cons_of_mem _ hq)
    obtain ⟨_, c⟩ := td_is h (hp p List.mem_cons_self)
    refine ⟨?_, fun z => ?_⟩
    · rw [List.map_cons, List.map_cons]
      rcases c with c | c
      · rw [c]
        unfold flats
        rw [a]
        rfl
      · rw [c]
        unfold flats
        rw [a]
        rfl
    · rw [List.map_cons] at z
      unfold inV at z
      rw [List.any_cons, Bool.or_eq_false_iff] at z
      intro q hq
      rcases List.mem_cons.mp hq with rfl | hq
      · rcases c with c | c
        · have := z.1
          rw [c] at this
          cases this
        · exact c
      · exact b z.2 q hq
end Rs
set_option maxHeartbeats 4000000
namespace Rs
open PySem L2 PySem.Spec PyProof.Rows
local macro_rules | `(tactic| walk_at "rs ne") => `(tactic| first | assumption | (apply Ne.symm; assumption) | (apply ne_n1; assumption; walk_at "rs hp") | (apply ne_n2; assumption; walk_at "rs hp"))
local macro_rules | `(tactic| walk_at "rs hp") => `(tactic| first | assumption | exact upd_same | (apply hp_ne; (walk_at "rs ne"); (walk_at "rs hp")))
local macro_rules | `(tactic| walk_at "rs sq") => `(tactic| first | assumption | (apply SqL.of; walk_at "rs hp") | (apply SqT.of; walk_at "rs hp") | (apply TupAt.sq; assumption))
local macro_rules | `(tactic| walk_at "rs sz") => `(tactic| first | decide | (rw [sizeLine_eq]; simp; done) | (rw [sizeLine_eq]; simp; omega) | (rw [sizeLine_eq]; omega))
local macro_rules | `(tactic| walk_at "rs ar") => `(tactic| first | assumption | (show (0 : Int) < _; first | assumption | decide | omega) | exact Or.inr ⟨by decide, by decide⟩ | exact Or.inl ⟨by decide, by decide⟩ | exact Or.inl ⟨by omega, by omega⟩ | exact Or.inr ⟨by omega, by omega⟩ | exact ⟨by decide, by decide, by decide⟩ | exact ⟨by decide, by decide⟩ | exact ⟨by omega, by omega⟩)
local macro_rules | `(tactic| walk_at "rs r1") => `(tactic| with_reducible (first | refine w_var rfl ?_ | refine w_c ?_ | refine w_op ?_ | refine w_un ?_ | refine w_test ?_ | refine w_B ?_ | refine w_bool ?_ | refine w_not ?_ | refine w_cb ?_ | refine w_nil ?_ | refine w_cons ?_ | refine w_asg ?_ | refine w_name ?_ | refine w_seq ?_ | refine w_ret ?_ | refine w_drop ?_ | refine w_next ?_ | refine w_ifS ?_ | refine w_I0 ?_ | refine w_eqI ?_ | refine w_neI ?_ | refine w_int ?_ | refine w_abs ?_ | refine w_sl ?_ | refine w_part ?_ | refine w_intO ?_ | refine w_nopart ?_ | refine w_gsub ?_ | refine w_augS ?_ | refine w_ip ?_ | refine w_lst ?_ | refine w_tup ?_ | refine w_if ?_ | refine w_and ?_ | refine w_or ?_ | refine w_tfld ?_ | refine w_forL ?_ | refine w_forT ?_ | refine w_forR1 ?_ | refine w_forR2 ?_ | refine w_forE ?_ | refine w_lcL ?_ | refine w_lcR1 ?_ | refine w_bm ?_ | refine w_call ?_ | refine w_meth ?_ | refine w_nget ?_ | refine w_nin ?_ | refine w_nput ?_ | refine w_eqS ?_ | refine w_neS ?_))
local macro_rules | `(tactic| walk_at "rs r2") => `(tactic| first | (walk_at "rs r1") | ((with_reducible refine' w_ixL ?h1 ?h2 ?h3); (case h1 => walk_at "rs sq"); (case h2 => first | rfl | exact atI_nat (j := 0) rfl | exact atI_nat (j := 1) rfl | exact atI_nat (j := 2) rfl)) | ((with_reducible refine' w_ixT ?h1 ?h2 ?h3); (case h1 => walk_at "rs sq"); (case h2 => first | rfl | exact atI_nat (j := 0) rfl | exact atI_nat (j := 1) rfl | exact atI_nat (j := 2) rfl)) | ((with_reducible refine' w_cutL ?h1 ?_); (case h1 => walk_at "rs sq"); intro q hq) | ((with_reducible refine' w_cat ?h1 ?h2 ?h3 ?_); (case h1 => walk_at "rs hp"); (case h2 => walk_at "rs hp"); (case h3 => walk_at "rs sz"); intro q hq) | ((with_reducible refine' w_small ?h1 ?_); (case h1 => exact Nat.le_of_ble_eq_true rfl); intro q hq) | ((with_reducible refine' w_setL ?h1 ?h2 ?_); (case h1 => walk_at "rs hp"); (case h2 => rfl)) | ((with_reducible refine' w_getL ?h0 ?h1 ?h2 ?_); (case h0 => rfl); (case h1 => walk_at "rs sq"); (case h2 => rfl)) | ((with_reducible refine' w_lenL ?h1 ?_); (case h1 => walk_at "rs sq")) | ((with_reducible refine' w_lenT ?h1 ?_); (case h1 => walk_at "rs sq")) | ((with_reducible refine' w_fld ?h1 ?h2 ?h3 ?h4 ?_); (case h1 => assumption); (case h2 => assumption); (case h3 => walk_at "rs hp"); (case h4 => assumption)) | ((with_reducible refine' w_methAt ?h1 ?h2 ?_); (case h1 => walk_at "rs hp"); (case h2 => assumption)) | ((with_reducible refine' w_tyL ?h1 ?_); (case h1 => walk_at "rs sq")) | ((with_reducible refine' w_append ?h1 ?h2 ?_); (case h1 => walk_at "rs hp"); (case h2 => assumption)) | ((with_reducible refine' w_I ?h1 ?_); (case h1 => walk_at "rs ar")))
local macro_rules | `(tactic| walk_at "rs rd") => `(tactic| repeat (walk_at "rs r2"))
abbrev sSG (i : Nat) : Stmt := inClass (topX 7) i
structure TxtSG (K : PySem.W.Frag) (mg : Str → Option Value) (C : Addr) : Prop where
  cl : L2.Cls K C
  nG : NoAttr K C "graph"
  nA : NoAttr K C "atoms"
  nN : NoAttr K C "numbers"
  nL : NoAttr K C "linears"
  len : mg "len" = none
theorem kvsOf_isSome {L : List NestedKey} {k : NestedKey} (h : L.Nodup) : (valV (kvsOf L 0) k).isSome = decide (k ∈ L) := by
  by_cases hk : k ∈ L
  · obtain ⟨i, hi⟩ := List.getElem?_of_mem hk
    rw [kvsOf_at h hi, decide_eq_true hk]
    rfl
  · rw [kvsOf_none hk, decide_eq_false hk]
    rfl
section
variable {P : Program} {w : World} {K : PySem.W.Frag} {mg : Str → Option Value} {base : Heap} {C CG : Addr}
theorem scKeyG : FnScope ["self", "n", "head"] ["self", "n"] (defScope (sGG 7)) := ⟨rfl, rfl, rfl, by decide +kernel, rfl, by decide +kernel, by decide +kernel⟩
theorem ok_keyG {f fH : Addr} {fd fdH : FuncData} (F : Fun K "key_of" "Graph.key_of" (sGG 7) f fd) (T : TxtM K mg C) (GH : FnOk P w K mg base CX0 1 fH fdH ["self", "n"] (spHeadG P w C)) (bH : Binds K fdH ["self", "n"] []) (mH : Meth K C "head_of" fH) : FnOk P w K mg base CX0 2 f fd ["self", "n"] (spKeyG P w C) := by
  refine F.ok scKeyG (fun vs H Q E h => ?_) (fun cdv A outer s H vs Q E hr h => ?_)
  · obtain ⟨g, l, d, L, i, b, rfl, _⟩ := h
    rfl
  · obtain ⟨g, l, d, L, i, b, rfl, G, hk, k⟩ := h
    have nd := scKeyG.nd
    refine ⟨_, pss_cons (ps_set (i := 2) nd rfl (Or.inl rfl) (pe_meth (E := E0) (pv 0) T.cl mH GH hr bH .nil pass0 (pa_cons (pv 1) pa_nil)))
      (pss_cons (ps_if (pt_cmpR op_ne (pe_ix ix_tup (pv 2) pe_int (fun _ _ => rfl)) pe_str (nomark _)) (pss_one ps_never) pss_nil)
      (pss_one (ps_ret (pe_ix ix_tup (pv 2) pe_int (fun _ _ => rfl))))), ?_⟩
    have nM : (gf l d).lookup ("head_of" : Str) = none := gf_no _ _ (by decide +kernel) (by decide +kernel)
    obtain ⟨dx, vs, h1, h2, h3, h4, h5, h6, h7⟩ := id G
    walk_at "rs rd"
    refine ⟨g, l, d, L, i, _, rfl, G, hk, fun v nk => ?_⟩
    cases nk with
    | tup ea ra =>
      cases ra with
      | cons r1 r2 =>
        cases r1
        cases r2 with
        | cons r2 r3 =>
          walk_at "rs rd"
          refine w_iteN (fun e => absurd rfl e) (fun e => ?_)
          walk_at "rs rd"
          exact k _ r2
theorem scManyS : FnScope ["self"] ["self"] (defScope (sSG 5)) := ⟨rfl, rfl, rfl, by decide +kernel, rfl, by decide +kernel, by decide +kernel⟩
theorem ok_manyS {f : Addr} {fd : FuncData} (F : Fun K "many" "SumGraph.many" (sSG 5) f fd) (T : TxtSG K mg C) : FnOk P w K mg base CX0 1 f fd ["self"] (spManyS P w C CG) := by
  refine F.ok scManyS (fun vs H Q E h => ?_) (fun cdv A outer s H vs Q E hr h => ?_)
  · obtain ⟨g, _, _, _, _, _, _, _, _, _, rfl, _⟩ := h
    rfl
  · obtain ⟨g, gg, gl, gd, a, d, e, L, B, M, rfl, G, k⟩ := h
    refine ⟨_, pss_one (ps_ret (pe_callB c_len (by rfl) T.len PySem.boot_len (pa_cons (pe_fld (pv 0) rfl) pa_nil))), ?_⟩
    have cl := T.cl
    have nA := T.nA
    have gA := sf_atoms gg a d e
    obtain ⟨dx, vs, h1, h2, h3, h4, h5, h6, h7⟩ := id G
    walk_at "rs rd"
    rw [← h4.len]
    exact k
theorem scAtS : FnScope ["self", "number"] ["self", "number"] (defScope (sSG 4)) := ⟨rfl, rfl, rfl, by decide +kernel, rfl, by decide +kernel, by decide +kernel⟩
theorem ok_atS {f : Addr} {fd : FuncData} (F : Fun K "atom" "SumGraph.atom" (sSG 4) f fd) (T : TxtSG K mg C) : FnOk P w K mg base CX0 1 f fd ["self", "number"] (spAt P w C CG) := by
  refine F.ok scAtS (fun vs H Q E h => ?_) (fun cdv A outer s H vs Q E hr h => ?_)
  · obtain ⟨g, _, _, _, _, _, _, _, _, _, _, _, rfl, _⟩ := h
    rfl
  · obtain ⟨g, gg, gl, gd, a, d, e, L, B, M, i, key, rfl, G, hi, k⟩ := h
    refine ⟨_, pss_one (ps_ret (pe_ix ix_list (pe_fld (pv 0) rfl) (pv 1) (fun _ _ => rfl))), ?_⟩
    have cl := T.cl
    have nA := T.nA
    have gA := sf_atoms gg a d e
    obtain ⟨dx, vs, h1, h2, h3, h4, h5, h6, h7⟩ := id G
    walk_at "rs rd"
    obtain ⟨v, hv, nk⟩ := h4.get hi
    refine w_ixL (by walk_at "rs sq") (atI_nat hv) ?_
    exact k v nk
theorem scInitS : FnScope ["self", "graph"] ["self", "graph"] (defScope (sSG 0)) := ⟨rfl, rfl, rfl, by decide +kernel, rfl, by decide +kernel, by decide +kernel⟩
theorem ok_initS {f : Addr} {fd : FuncData} (F : Fun K "__init__" "SumGraph.__init__" (sSG 0) f fd) (T : TxtSG K mg C) : FnOk P w K mg base CX0 1 f fd ["self", "graph"] (spInitS P w C) := by
  refine F.ok scInitS (fun vs H Q E h => ?_) (fun cdv A outer s H vs Q E hr h => ?_)
  · obtain ⟨g, dx, gg, rfl, _⟩ := h
    rfl
  · obtain ⟨g, dx, gg, rfl, hg, k⟩ := h
    refine ⟨_, pss_cons (ps_fld (pv 0) (pv 1) rfl) (pss_cons (ps_fld (pv 0) (pe_lst pa_nil) rfl) (pss_cons (ps_fld (pv 0) pe_nnew rfl) (pss_one (ps_fld (pv 0) pe_dnewK rfl)))), ?_⟩
    refine ⟨_, rfl, _, rfl, g, C, dx, [], rfl, hg, T.cl, T.nG, (by show 0 < 1000; decide), ?_⟩
    refine ⟨Nat.zero_le _, fun l hl => ?_⟩
    have ngl : g ≠ l := fun z => by rw [← z, upd_same] at hl; cases hl
    have hl0 : H l = none := by rw [upd_ne ngl.symm] at hl; exact hl
    refine ⟨_, rfl, g, C, dx, _, rfl, (by rw [upd_ne ngl]; exact upd_same), T.cl, T.nA, (by show 1 < 1000; decide), ?_⟩
    intro d hd dd
    have ndg : d ≠ g := fun z => by rw [z, upd_same] at hd; cases hd
    have ndl : d ≠ l := fun z => by rw [z, upd_ne ngl.symm, upd_same] at hd; cases hd
    have hd0 : H d = none := by rw [upd_ne ndg, upd_ne ndl, upd_ne ndg] at hd; exact hd
    refine ⟨_, rfl, g, C, dx, _, rfl, (by rw [upd_ne ndg.symm]; exact upd_same), T.cl, T.nN, (by show 2 < 1000; decide), ?_⟩
    intro e he
    have neg : e ≠ g := fun z => by rw [z, upd_same] at he; cases he
    have ned : e ≠ d := fun z => by rw [z, upd_ne ndg, upd_same] at he; cases he
    have nel : e ≠ l := fun z => by rw [z, upd_ne ngl.symm, upd_ne ndl.symm, upd_ne ngl.symm, upd_same] at he; cases he
    have he0 : H e = none := by rw [upd_ne neg, upd_ne ned, upd_ne neg, upd_ne nel, upd_ne neg] at he; exact he
    refine ⟨_, rfl, g, C, dx, _, rfl, (by rw [upd_ne neg.symm]; exact upd_same), T.cl, T.nL, (by show 3 < 1000; decide), ?_⟩
    refine k l d e _ hl0 hd0 he0 ndl.symm nel.symm ned.symm upd_same ?_ ?_ ?_ ?_
    · rw [upd_ne ngl.symm, upd_ne nel.symm, upd_ne ngl.symm, upd_ne ndl.symm, upd_ne ngl.symm, upd_same]
    · refine dd.frame (fun o eo => by rw [upd_ne ndg, upd_ne ned.symm, upd_ne ndg]; exact eo) fun b u eb hu => ?_
      have bg : b ≠ g := fun z => by
        rw [z, upd_ne ndg.symm, upd_same] at eb
        cases eb
        cases hu
      rw [upd_ne bg, upd_ne (fun z => ?_), upd_ne bg]
      · exact eb
      · rw [z, upd_ne ned, upd_ne neg, upd_ne nel, upd_ne neg, he0] at eb
        cases eb
    · rw [upd_ne neg, upd_same]
    · exact ((((((Fm.refl _ _).thenPut (by simp)).thenNew hl).thenPut (by simp)).thenNew hd).thenPut (by simp)).thenNew he |>.thenPut (by simp)
theorem scAnS : FnScope ["self", "told"] ["self", "told"] (defScope (sSG 1)) := ⟨rfl, rfl, rfl, by decide +kernel, rfl, by decide +kernel, by decide +kernel⟩
theorem ok_anS {f : Addr} {fd : FuncData} (F : Fun K "atom_number" "SumGraph.atom_number" (sSG 1) f fd) (T : TxtSG K mg C) : FnOk P w K mg base CX0 1 f fd ["self", "told"] (spAn P w C CG) := by
  refine F.ok scAnS (fun vs H Q E h => ?_) (fun cdv A outer s H vs Q E hr h => ?_)
  · obtain ⟨g, p, _, _, _, _, _, _, _, _, _, _, rfl, _⟩ := h
    rfl
  · obtain ⟨g, p, gg, gl, gd, a, d, e, L, B, M, k, rfl, G, hk, hdp, hl3, q1, q2⟩ := h
    have nd := scAnS.nd
    have hu := hr.units
    refine ⟨_, Evl.pss_cut (ps_if (pt_cmp (pc_nnotin hu (pv 1) (pe_fld (pv 0) rfl)))
        (pss_cons (ps_nput hu (pe_fld (pv 0) rfl) (pv 1) (pe_callB c_len (by rfl) T.len PySem.boot_len (pa_cons (pe_fld (pv 0) rfl) pa_nil)) rfl)
        (pss_one (ps_expr (pe_bm PySem.F.plainAttrs_list PySem.F.slot_list_append PySem.F.type_list_append mt_append (pe_fld (pv 0) rfl) (pa_cons (pv 1) pa_nil))))) pss_nil)
      (pss_one (ps_ret (pe_nget hu (pe_fld (pv 0) rfl) (pv 1) (fun _ _ => rfl)))), ?_⟩
    have cl := T.cl
    have nA := T.nA
    have nN := T.nN
    have gA := sf_atoms gg a d e
    have gN := sf_numbers gg a d e
    obtain ⟨dx, vs, h1, h2, h3, h4, h5, h6, h7, h8, h9, h10⟩ := id G
    have h10' := h10
    simp only [List.nodup_cons, List.mem_cons, List.not_mem_nil, or_false, not_or] at h10'
    obtain ⟨⟨_, _, _, ga, gdd, _⟩, ⟨_, _, gga, ggd, _⟩, ⟨_, gla, gld, _⟩, ⟨gda, gdd2, _⟩, ⟨ad, ae⟩, de, _⟩ := h10'
    refine w_cut (M := fun σ' H' => σ' = [some (.ref g), some (.ref p)] ∧ ((k ∈ B ∧ H' = H) ∨ (k ∉ B ∧ SumAt P w C CG H' g gg gl gd a d e L (B ++ [k]) M ∧ Fm [a, d] H H'))) ?_ ?_
    · walk_at "rs rd"
      refine ⟨d, p, _, k, rfl, rfl, h5, hk, hdp, ?_⟩
      rw [kvsOf_isSome h7]
      by_cases hkL : k ∈ B
      · refine ⟨false, by rw [decide_eq_true hkL]; rfl, ?_⟩
        rw [if_neg Bool.false_ne_true]
        walk_at "rs rd"
        exact ⟨rfl, .inl ⟨hkL, rfl⟩⟩
      · refine ⟨true, by rw [decide_eq_false hkL]; rfl, ?_⟩
        rw [if_pos rfl]
        have hlen := h4.len
        walk_at "rs rd"
        · refine ⟨d, p, _, k, rfl, rfl, h5, hk, hdp, (by rw [kvsOf_len, sizeLine_eq]; omega), fun H4 d4 e4 => ?_⟩
          have hz : vs.length < sizeLine := by rw [sizeLine_eq]; omega
          have h1' : H4 g = some (.ins C dx (sf gg a d e)) := (e4 g gdd).trans h1
          have h2' : H4 a = some (.lst vs) := (e4 a ad).trans h3
          walk_at "rs rd"
          have f2 : Fm [a, d] H (upd H4 a (.lst (vs ++ [.ref p]))) := by
            have f1 : Fm [a, d] H H4 := fun x o ea na => (e4 x fun z => na (by simp [z])).trans ea
            exact f1.thenPut (by simp)
          have tp : Tps H (upd H4 a (.lst (vs ++ [.ref p]))) := fun b u eb hu => f2 b _ eb fun z => by
            obtain ⟨es, hd', _⟩ := id h5
            rcases List.mem_cons.mp z with z | z
            · subst z; rw [h3] at eb; cases eb; cases hu
            · rw [List.mem_singleton] at z
              subst z
              rw [hd'] at eb
              cases eb
              cases hu
          have tp4 : Tps H4 (upd H4 a (.lst (vs ++ [.ref p]))) := fun b u eb hu => by
            rw [upd_ne (fun z => by rw [z, h2'] at eb; cases eb; cases hu)]
            exact eb
          have out : ∀ b, b ≠ a → b ≠ d → ∀ o, H b = some o → upd H4 a (.lst (vs ++ [.ref p])) b = some o := fun b ba bd o eo => f2 b o eo (by simp [ba, bd])
          refine ⟨rfl, .inr ⟨hkL, ⟨dx, _, out g ga gdd _ h1, h2.goes tp (fun b hb o eo => ?_), upd_same, NKs.snoc (NK.mono tp _ _ hk) (NKs.mono tp _ _ h4), ?_, h6.goes tp (out e (Ne.symm ae) (Ne.symm de)), ?_, ?_, ?_, h10⟩, f2⟩⟩
          · simp only [List.mem_cons, List.not_mem_nil, or_false] at hb
            rcases hb with rfl | rfl | rfl
            · exact out _ gga ggd _ eo
            · exact out _ gla gld _ eo
            · exact out _ gda gdd2 _ eo
          · have q := d4.frame (H' := upd H4 a (.lst (vs ++ [.ref p]))) (fun o eo => by rw [upd_ne (Ne.symm ad)]; exact eo) tp4
            have ev : (V.int (vs.length : Int)) = .int (B.length : Int) := by rw [hlen]
            rw [ev, kvsOf_put hkL] at q
            exact q
          · exact List.nodup_append.mpr ⟨h7, by simp, fun a ha b hb => by rw [List.mem_singleton] at hb; subst hb; exact fun z => hkL (z ▸ ha)⟩
          · intro a ha
            rcases List.mem_append.mp ha with ha | ha
            · exact h8 a ha
            · rw [List.mem_singleton] at ha; subst ha; exact hdp
          · rw [List.length_append, List.length_singleton]; omega
    · rintro σ' H' ⟨rfl, ⟨hkL, rfl⟩ | ⟨hkL, G', f'⟩⟩
      · walk_at "rs rd"
        obtain ⟨i, hi⟩ := List.getElem?_of_mem hkL
        have e := kvsOf_at (n := 0) h7 hi
        rw [Nat.zero_add] at e
        exact ⟨d, p, _, k, _, rfl, rfl, h5, hk, hdp, e, q1 i hi⟩
      · obtain ⟨dx', vs', h1', h2', h3', h4', h5', h6', h7', h8', h9', _⟩ := id G'
        walk_at "rs rd"
        have hi : (B ++ [k])[B.length]? = some k := by simp
        have e := kvsOf_at (n := 0) h7' hi
        rw [Nat.zero_add] at e
        have tp : Tps H (H') := fun b u eb hu => f' b _ eb fun z => by
          obtain ⟨es, hd', _⟩ := id h5
          rcases List.mem_cons.mp z with z | z
          · subst z; rw [h3] at eb; cases eb; cases hu
          · rw [List.mem_singleton] at z
            subst z
            rw [hd'] at eb
            cases eb
            cases hu
        exact ⟨d, p, _, k, _, rfl, rfl, h5', NK.mono tp _ _ hk, hdp, e, q2 hkL H' G' f'⟩
end
end Rs
set_option maxHeartbeats 8000000
namespace Rs
open PySem L2 PySem.Spec PyProof.Rows
local macro_rules | `(tactic| walk_at "dv nm") => `(tactic| dsimp only [List.set_cons_succ, List.set_cons_zero, hideT])
local macro_rules | `(tactic| walk_at "dv st") => `(tactic| first | rfl | exact kT_still _ | assumption)
local macro_rules | `(tactic| walk_at "dv 1") => `(tactic| first | (with_reducible (first | refine ws_seq ?_ | refine ws_asg ?_ | refine ws_ret ?_ | refine ws_drop ?_ | refine ws_if ?_ | refine ws_next ?_ | refine we_int ?_ | refine we_str ?_ | refine we_bl ?_ | refine we_non ?_ | refine we_tup ?_ | refine we_lst ?_ | refine wa_cons ?_ | refine wa_nil ?_ | refine wo_cons ?_ | refine wo_nil ?_ | refine wt_test ?_ | refine wt_B ?_ | refine wt_not ?_ | refine wt_and ?_ | refine wt_or ?_ | refine we_if ?_ | refine we_notV ?_ | refine we_andV ?_ | refine we_orV ?_ | refine we_dnew ?_ | refine wb_var ⟨_, rfl⟩ ?_)) | ((with_reducible refine' wg_name ?h1 ?h2 ?_); (case h1 => exact Nat.le_of_ble_eq_true rfl); (case h2 => decide); (walk_at "dv nm")) | ((with_reducible refine' we_var ?h ?s ?_); (case' h => rfl); (case s => walk_at "dv st")) | ((with_reducible refine' size_and ?sz ?_); (case sz => rw [sizeLine_eq]; exact Nat.le_of_ble_eq_true rfl)) | (with_reducible refine wb_of ?_))
local macro_rules | `(tactic| walk_at "dv") => `(tactic| repeat (walk_at "dv 1"))
local macro_rules | `(tactic| walk_at "wn") => `(tactic| ((refine wg_name (Nat.le_of_ble_eq_true rfl) (by decide) ?_); (walk_at "dv nm")))
structure TxtSH (K : PySem.W.Frag) (mg : Str → Option Value) (C CG : Addr) : Prop where
  cl : L2.Cls K C
  clG : L2.Cls K CG
  nG : NoAttr K C "graph"
  nL : NoAttr K C "linears"
  len : mg "len" = none
  tuple : mg "tuple" = none
theorem wk_told (o : Str) (ls : List Ln) : Wk (.tup [.str "op", .str o, .tup (ls.map linT)]) (kT (snK (.op o ls))) := fun Z H v f h => by
  show Rep Z H (.tup [.str "op", .str o, .tup (kTs (ls.map linK))]) v f
  unfold Rep at h ⊢
  obtain ⟨a, vs, e1, e2, r⟩ := h
  refine ⟨a, vs, e1, e2, ?_⟩
  unfold Reps at r ⊢
  obtain ⟨v1, vs1, f1, f2, e3, e4, r1, r2⟩ := r
  refine ⟨v1, vs1, f1, f2, e3, e4, r1, ?_⟩
  unfold Reps at r2 ⊢
  obtain ⟨v2, vs2, f3, f4, e5, e6, r3, r4⟩ := r2
  refine ⟨v2, vs2, f3, f4, e5, e6, r3, ?_⟩
  unfold Reps at r4 ⊢
  obtain ⟨v3, vs3, f5, f6, e7, e8, r5, r6⟩ := r4
  refine ⟨v3, vs3, f5, f6, e7, e8, ?_, r6⟩
  unfold Rep at r5 ⊢
  obtain ⟨b, us, q1, q2, q3⟩ := r5
  exact ⟨b, us, q1, q2, wk_linTs _ _ _ q3⟩
def gMd (P : Program) (w : World) (C CG : Addr) (ts : List T) (K : T → List T → Prop) : Prop := ∃ (L : List NestedKey) (B : List Nm) (M : List (Nat × Ln)) (o : Str) (ls : List Ln), ts = [sumT P w C CG L (B.map snK) M, .str o, .tup (ls.map linT)] ∧ (o, ls.length) ∈ opsL ∧ (∀ x ∈ ls, x.Nf ∧ x.ts.length ≤ 10000) ∧ B.length < 3000 ∧
  (∀ l, sumL o ls = some l → K (linT l) [sumT P w C CG L (B.map snK) M, .str o, .tup (ls.map linT)]) ∧ (sumL o ls = none → K (linT (unit (B.idxOf (.op o ls)))) [sumT P w C CG L ((addN B (.op o ls)).map snK) M, .str o, .tup (ls.map linT)])
theorem mono_md {P : Program} {w : World} {C CG : Addr} : Mono (gMd P w C CG) := fun ts K K' h ⟨L, B, M, o, ls, e, e0, e1, e2, k1, k2⟩ => ⟨L, B, M, o, ls, e, e0, e1, e2, fun l hl => h _ _ (k1 l hl), fun hn => h _ _ (k2 hn)⟩
def gLi (P : Program) (w : World) (C CG : Addr) (ts : List T) (K : T → List T → Prop) : Prop := ∃ (R : List Kr) (B F : List Nm) (M : List (Nat × Ln)) (n : Nat), ts = [sumT P w C CG (R.map headK) (B.map snK) M, .int (n : Int)] ∧ SgOk R B M ∧ n < R.length ∧ Vis sumL R B n F ∧
  ∀ l M', Ev sumL R F n l → SgOk R F M' → K (linT l) [sumT P w C CG (R.map headK) (F.map snK) M', .int (n : Int)]
theorem mono_li {P : Program} {w : World} {C CG : Addr} : Mono (gLi P w C CG) := fun ts K K' h ⟨R, B, F, M, n, e, e0, e1, e2, k⟩ => ⟨R, B, F, M, n, e, e0, e1, e2, fun l M' a1 a2 => h _ _ (k l M' a1 a2)⟩
theorem snR_no {m : Str} (h1 : ¬ m = "linears") (h2 : ¬ m = "numbers") (h3 : ¬ m = "atoms") (h4 : ¬ m = "graph") : ∀ gg a d e : Addr, (sf gg a d e).lookup m = none := fun gg a d e => sf_no gg a d e h1 h2 h3 h4
section
variable {P : Program} {w : World} {K : PySem.W.Frag} {mg : Str → Option Value} {base : Heap} {C CG : Addr}
abbrev sMad : Stmt := sSG 2
abbrev sLi : Stmt := sSG 3
theorem scMad : FnScope ["self", "op", "parts"] ["self", "op", "parts"] (defScope sMad) := ⟨rfl, rfl, rfl, by decide +kernel, rfl, by decide +kernel, by decide +kernel⟩
theorem ok_mad {f fAn fIss fSul : Addr} {fd fdAn fdIss fdSul : FuncData} (F : Fun K "made" "SumGraph.made" sMad f fd) (TX : TxtSH K mg C CG)
    (GAn : FnOk P w K mg base CX0 1 fAn fdAn ["self", "told"] (spT (gAn P w C CG))) (bAn : Binds K fdAn ["self", "told"] []) (mAn : Meth K C "atom_number" fAn)
    (GIss : FnOk P w K mg base CX0 1 fIss fdIss ["op", "many"] (spT gIss)) (mIss : mg "is_sum" = some (.ref fIss)) (kIss : PySem.W.keepIn K (.ref fIss) = true) (bIss : Binds K fdIss ["op", "many"] [])
    (GSul : FnOk P w K mg base CX0 2 fSul fdSul ["op", "parts"] (spT gSul)) (mSul : mg "sum_linear" = some (.ref fSul)) (kSul : PySem.W.keepIn K (.ref fSul) = true) (bSul : Binds K fdSul ["op", "parts"] []) :
    FnOk P w K mg base CX0 3 f fd ["self", "op", "parts"] (spT (gMd P w C CG)) := by
  have hlen : ∀ ts K, gMd P w C CG ts K → ts.length = 3 := fun ts K ⟨_, _, _, _, _, e, _⟩ => by rw [e]; rfl
  refine F.ok scMad (fun vs H Q E h => spT_len h hlen) (fun cdv A outer s H vs Q E hr h => ?_)
  have nd := scMad.nd
  have hu1 := hu_of hr
  refine ⟨_, (Evl.pss_cut (ps_if (pt_val (pe_call (E := E0) GIss (hr.mono (by decide)) rfl mIss kIss bIss .nil pass0 (pa_cons (pv 1) (pa_cons (pe_callB (c_lenK (K := K) rfl) (by rfl) TX.len PySem.boot_len (pa_cons (pv 2) pa_nil)) pa_nil)))) (pss_one (ps_ret (pe_call (E := E0) GSul (hr.mono (by decide)) rfl mSul kSul bSul .nil pass0 (pa_cons (pv 1) (pa_cons (pv 2) pa_nil))))) pss_nil) (pss_one (ps_ret (pe_tup (pa_cons pe_int (pa_cons (pe_tupF (pa_cons (pe_tup (pa_cons (pe_meth (E := E0) (pv 0) TX.cl mAn GAn (hr.mono (by decide)) bAn .nil pass0 (pa_cons (pe_tup (pa_cons pe_str (pa_cons (pv 1) (pa_cons (pv 2) pa_nil)))) pa_nil)) (pa_cons pe_int pa_nil))) pa_nil)) pa_nil)))))), ?_⟩
  refine body_run (n := 3) 0 (by rw [spT_len h hlen]; rfl) h (spT_len h hlen).symm fun fr ts K ⟨L, B, M, o, ls, e, ho, hls, hB, k1, k2⟩ => ?_
  subst e
  have sls := linTs_still ls
  have stl : (T.tup (ls.map linT)).still = true := by unfold T.still; exact sls
  obtain ⟨o1, o2⟩ := ops_short ho
  show WS fr [0, 1, 2] [] [some (sumT P w C CG L (B.map snK) M), some (.str o), some (.tup (ls.map linT))] _ _
  refine ws_cut (fun sl => sumL o ls = none ∧ sl = [some (sumT P w C CG L (B.map snK) M), some (.str o), some (.tup (ls.map linT))]) ?_ ?_
  · walk_at "dv"
    refine we_call mono_iss (wo_cons (wb_var ⟨_, rfl⟩ (wo_cons (wb_of (we_len (wb_var ⟨_, rfl⟩ ⟨_, _, rfl, rfl, ?_⟩))))))
    rw [List.length_map]
    refine wo_nil ⟨_, _, rfl, o, ls.length, rfl, _, rfl, _, rfl, ?_⟩
    rw [← real_iff ho]
    cases hs : sumL o ls with
    | some l =>
      refine if_yes rfl ?_
      refine ws_ret (we_call mono_sul (wo_cons (wb_var ⟨_, rfl⟩ (wo_cons (wb_var ⟨_, rfl⟩ (wo_nil ⟨_, _, rfl, o, ls, l, rfl, o1, hls, hs, _, rfl, ?_⟩))))))
      exact ⟨_, _, rfl, k1 l hs⟩
    | none =>
      refine if_no rfl ?_
      walk_at "dv"
      exact ⟨rfl, rfl⟩
  rintro sl ⟨hs, rfl⟩
  walk_at "dv"
  refine we_tupF (wa_cons (we_tup (wa_cons ?_)))
  refine we_meth mono_an rfl (sum_ins (snR_no (by decide +kernel) (by decide +kernel) (by decide +kernel) (by decide +kernel))) (wo_cons (wb_of (we_weak (we_tup (wa_cons (we_str (wa_cons (we_var rfl rfl (wa_cons (we_var rfl stl (wa_nil ⟨Nat.le_of_ble_eq_true rfl, _, wk_told o ls, ?_⟩)))))))))))
  refine wo_nil ⟨_, _, rfl, L, B.map snK, M, snK (.op o ls), rfl, snK_tup _, snK_depth _, by rw [List.length_map]; exact hB, _, rfl, ?_⟩
  rw [add_map snK_inj, idx_map snK_inj]
  walk_at "dv"
  exact ⟨_, _, rfl, k2 hs⟩
end
theorem getD_map_int {ps : List Nat} {j : Nat} (hj : j < ps.length) : (natT ps).getD j .non = .int ((ps.getD j 0 : Nat) : Int) := by
  rw [List.getD_eq_getElem?_getD, natT_at hj]
  rfl
abbrev liSl (P : Program) (w : World) (C CG : Addr) (R : List Kr) (B : List Nm) (M : List (Nat × Ln)) (n : Nat) (st : List Nat) (x3 x4 x5 x7 x8 : Option T) : Sl :=
  [some (sumT P w C CG (R.map headK) (B.map snK) M), some (.int (n : Int)), some (.lst true (natT st)), x3, x4, x5, none, x7, x8]
structure StOk (R : List Kr) (B : List Nm) (M : List (Nat × Ln)) (n : Nat) (st : List Nat) : Prop where
  way : ∀ t ∈ st, Way sumL R B n t
  desc : st.Pairwise fun a b => b < a
  lt : ∀ t ∈ st, t < R.length
  bot : st = [] → (M.lookup n).isSome = true
  hd : ∀ t r, st = t :: r → t = n
theorem StOk.first {R : List Kr} {B : List Nm} {M : List (Nat × Ln)} {n : Nat} (hn : n < R.length) : StOk R B M n [n] :=
  ⟨fun t ht => by rw [List.mem_singleton.mp ht]; exact .here, List.pairwise_singleton _ _, fun t ht => by rw [List.mem_singleton.mp ht]; exact hn, fun h => (nomatch h), fun t r h => by injection h with h _; exact h.symm⟩
theorem StOk.pop {R : List Kr} {B : List Nm} {M : List (Nat × Ln)} {n t : Nat} {st : List Nat} (h : StOk R B M n (st ++ [t])) (ht : (M.lookup t).isSome = true) : StOk R B M n st := by
  refine ⟨fun x hx => h.way x (List.mem_append_left _ hx), (List.pairwise_append.mp h.desc).1, fun x hx => h.lt x (List.mem_append_left _ hx), fun e => ?_, fun x r e => ?_⟩
  · subst e
    rw [← h.hd t [] rfl]
    exact ht
  · subst e
    exact h.hd x (r ++ [t]) rfl
theorem StOk.push {R : List Kr} {B : List Nm} {M : List (Nat × Ln)} {n t p : Nat} {st : List Nat} (h : StOk R B M n (st ++ [t])) (hp : p < t) (w : Way sumL R B n p) : StOk R B M n ((st ++ [t]) ++ [p]) := by
  have ht : t ∈ st ++ [t] := by simp
  have hlt := h.lt t ht
  refine ⟨fun x hx => ?_, List.pairwise_append.mpr ⟨h.desc, List.pairwise_singleton _ _, fun x hx y hy => ?_⟩, fun x hx => ?_, fun e => absurd e (by simp), fun x r e => ?_⟩
  · rcases List.mem_append.mp hx with hx | hx
    · exact h.way x hx
    · rw [List.mem_singleton.mp hx]; exact w
  · rw [List.mem_singleton.mp hy]
    rcases List.mem_append.mp hx with hx | hx
    · have := (List.pairwise_append.mp h.desc).2.2 x hx t List.mem_cons_self
      omega
    · rw [List.mem_singleton.mp hx]; exact hp
  · rcases List.mem_append.mp hx with hx | hx
    · exact h.lt x hx
    · rw [List.mem_singleton.mp hx]; omega
  · cases hs : st ++ [t] with
    | nil => simp at hs
    | cons y q =>
      rw [hs] at e
      injection e with e _
      rw [← e]
      exact h.hd y q hs
theorem StOk.ext {R : List Kr} {B B' : List Nm} {M M' : List (Nat × Ln)} {n : Nat} {st : List Nat} (h : StOk R B M n st) (x : Ext B B') (k : (M.lookup n).isSome = true → (M'.lookup n).isSome = true) : StOk R B' M' n st :=
  ⟨fun t ht => (h.way t ht).ext x, h.desc, h.lt, fun e => k (h.bot e), h.hd⟩
theorem idx_add (B : List Nm) (n : Nm) : idxN (addN B n) n = some (B.idxOf n) := by
  by_cases e : n ∈ B
  · unfold addN idxN
    rw [if_pos e, if_pos e]
  · unfold addN idxN
    rw [if_neg e, if_pos (by simp), List.idxOf_append, if_neg e, List.idxOf_eq_length e]
    simp
def topK (M : List (Nat × Ln)) (st : List Nat) : Option Bool := st.getLast?.map fun t => (M.lookup t).isSome
theorem topK_snoc (M : List (Nat × Ln)) (st : List Nat) (t : Nat) : topK M (st ++ [t]) = some (M.lookup t).isSome := by
  unfold topK
  rw [List.getLast?_append]
  rfl
theorem getD_headK {R : List Kr} {t : Nat} {r : Kr} (h : R[t]? = some r) : (R.map headK)[t]? = some (headK r) := by rw [List.getElem?_map, h]; rfl
section
variable {P : Program} {w : World} {K : PySem.W.Frag} {mg : Str → Option Value} {base : Heap} {C CG : Addr}
theorem scLi : FnScope ["self", "node", "todo", "here", "number", "parts", "part", "left", "told"] ["self", "node"] (defScope sLi) := ⟨rfl, rfl, rfl, by decide +kernel, rfl, by decide +kernel, by decide +kernel⟩
theorem ok_li {f fAn fMd fIs fKe fPa fOp : Addr} {fd fdAn fdMd fdIs fdKe fdPa fdOp : FuncData} (F : Fun K "linear" "SumGraph.linear" sLi f fd) (TX : TxtSH K mg C CG)
    (GAn : FnOk P w K mg base CX0 1 fAn fdAn ["self", "told"] (spT (gAn P w C CG))) (bAn : Binds K fdAn ["self", "told"] []) (mAn : Meth K C "atom_number" fAn)
    (GMd : FnOk P w K mg base CX0 3 fMd fdMd ["self", "op", "parts"] (spT (gMd P w C CG))) (bMd : Binds K fdMd ["self", "op", "parts"] []) (mMd : Meth K C "made" fMd)
    (GIs : FnOk P w K mg base CX0 2 fIs fdIs ["self", "n"] (spIsL P w CG)) (bIs : Binds K fdIs ["self", "n"] []) (mIs : Meth K CG "is_letter" fIs)
    (GKe : FnOk P w K mg base CX0 2 fKe fdKe ["self", "n"] (spKeyG P w CG)) (bKe : Binds K fdKe ["self", "n"] []) (mKe : Meth K CG "key_of" fKe)
    (GPa : FnOk P w K mg base CX0 2 fPa fdPa ["self", "n"] (spParts P w CG)) (bPa : Binds K fdPa ["self", "n"] []) (mPa : Meth K CG "parts_of" fPa)
    (GOp : FnOk P w K mg base CX0 2 fOp fdOp ["self", "n"] (spOp P w CG)) (bOp : Binds K fdOp ["self", "n"] []) (mOp : Meth K CG "op_of" fOp) :
    FnOk P w K mg base CX0 4 f fd ["self", "node"] (spT (gLi P w C CG)) := by
  have hlen : ∀ ts K, gLi P w C CG ts K → ts.length = 2 := fun ts K ⟨_, _, _, _, _, e, _⟩ => by rw [e]; rfl
  refine F.ok scLi (fun vs H Q E h => spT_len h hlen) (fun cdv A outer s H vs Q E hr h => ?_)
  have nd := scLi.nd
  have hu1 := hu_of hr
  refine ⟨_, (pss_cons (ps_set (i := 2) nd rfl (Or.inl rfl) (pe_lst (pa_cons (pv 1) pa_nil))) (Evl.pss_cut (ps_while PassesOwn.never (pt_truth (pv 2) (by intro _; rfl)) (pss_cons (ps_set (i := 3) nd rfl (Or.inl rfl) (pe_ix ix_list (pv 2) (pe_un un_neg pe_int) (fun _ _ => rfl))) (Evl.pss_cut (ps_if (pt_cmp (pc_din hu1 (pv 3) (pe_fld (pv 0) rfl))) (pss_cons (ps_expr (pe_bm0 PySem.F.plainAttrs_list PySem.F.slot_list_pop PySem.F.type_list_pop mt_pop (pv 2))) (pss_one ps_continue)) pss_nil) (Evl.pss_cut (ps_if (pt_val (pe_meth (E := E0) (pe_fld (pv 0) rfl) TX.clG mIs GIs (hr.mono (by decide)) bIs .nil pass0 (pa_cons (pv 3) pa_nil))) (pss_cons (ps_set (i := 4) nd rfl (Or.inl rfl) (pe_meth (E := E0) (pv 0) TX.cl mAn GAn (hr.mono (by decide)) bAn .nil pass0 (pa_cons (pe_tup (pa_cons pe_str (pa_cons (pe_meth (E := E0) (pe_fld (pv 0) rfl) TX.clG mKe GKe (hr.mono (by decide)) bKe .nil pass0 (pa_cons (pv 3) pa_nil)) pa_nil))) pa_nil))) (pss_cons (ps_dput hu1 (pe_fld (pv 0) rfl) (pv 3) (pe_tup (pa_cons pe_int (pa_cons (pe_tupF (pa_cons (pe_tup (pa_cons (pv 4) (pa_cons pe_int pa_nil))) pa_nil)) pa_nil))) (by rfl)) (pss_one ps_continue))) pss_nil) (pss_cons (ps_set (i := 5) nd rfl (Or.inl rfl) (pe_meth (E := E0) (pe_fld (pv 0) rfl) TX.clG mPa GPa (hr.mono (by decide)) bPa .nil pass0 (pa_cons (pv 3) pa_nil))) (pss_cons (ps_setLc (i := 7) (own := [("part", 6)]) (g := (gName 6)) (tt := _) rfl nd rfl rfl (sw_true rfl rfl rfl rfl) (pi_tup (pv 5)) (blkOk_by (N := ["self", "node", "todo", "here", "number", "parts", "part", "left", "told"]) (sc := defScope sLi) (by decide +kernel)) (fun _ _ _ _ _ => (pg_name (i := 6) nd rfl (Or.inl rfl))) (fun _ _ _ _ _ => pts_one (pt_cmp (pc_dnotin hu1 (pv 6) (pe_fldK (K := K) rfl (pv 0) rfl)))) (fun _ _ _ _ _ => (pv 6))) (pss_one (ps_if (pt_truth (pv 7) (by intro _; rfl)) (pss_one (ps_expr (pe_bm PySem.F.plainAttrs_list PySem.F.slot_list_append PySem.F.type_list_append mt_append (pv 2) (pa_cons (pe_ix ix_list (pv 7) pe_int (fun _ _ => rfl)) pa_nil)))) (pss_cons (ps_set (i := 8) nd rfl (Or.inl rfl) (pe_callTy (c_tupK (K := K) rfl) (by rfl) TX.tuple (by decide +kernel) (pa_cons (pe_lc (own := [("part", 6)]) (g := (gName 6)) (tt := tYes) rfl nd (pi_tup (pv 5)) (blkOk_by (N := ["self", "node", "todo", "here", "number", "parts", "part", "left", "told"]) (sc := defScope sLi) (by decide +kernel)) (fun _ _ _ _ _ => (pg_name (i := 6) nd rfl (Or.inl rfl))) (fun _ _ _ _ _ => pts_nil) (fun _ _ _ _ _ => (pe_dget hu1 (pe_fldK (K := K) rfl (pv 0) rfl) (pv 6) (fun _ _ => rfl)))) pa_nil))) (pss_one (ps_dput hu1 (pe_fld (pv 0) rfl) (pv 3) (pe_meth (E := E0) (pv 0) TX.cl mMd GMd (hr.mono (by decide)) bMd .nil pass0 (pa_cons (pe_meth (E := E0) (pe_fld (pv 0) rfl) TX.clG mOp GOp (hr.mono (by decide)) bOp .nil pass0 (pa_cons (pv 3) pa_nil)) (pa_cons (pv 8) pa_nil))) (by rfl)))))))))))) (pss_one (ps_ret (pe_dget hu1 (pe_fld (pv 0) rfl) (pv 1) (fun _ _ => rfl)))))), ?_⟩
  refine body_run (n := 2) 7 (by rw [spT_len h hlen]; rfl) h (spT_len h hlen).symm fun fr ts K ⟨R, B, F, M, n, e, ok, hn, vis, k⟩ => ?_
  subst e
  show WS fr [0, 1] [] [some (sumT P w C CG (R.map headK) (B.map snK) M), some (.int (n : Int)), none, none, none, none, none, none, none] _ _
  have n3 := ok.n3
  refine ws_seq (ws_asg (we_lst (wa_cons (we_var rfl rfl (wa_nil ⟨Nat.le_of_ble_eq_true rfl, ?_⟩)))))
  walk_at "wn"
  refine ws_cut (fun sl => ∃ (M' : List (Nat × Ln)) (x3 x4 x5 x7 x8 : Option T), SgOk R F M' ∧ (M'.lookup n).isSome = true ∧ sl = liSl P w C CG R F M' n [] x3 x4 x5 x7 x8) ?_ ?_
  · refine ws_while (fun m sl => ∃ (B' : List Nm) (M' : List (Nat × Ln)) (st : List Nat) (x3 x4 x5 x7 x8 : Option T), SgOk R B' M' ∧ Vis sumL R B' n F ∧ StOk R B' M' n st ∧ m = lin_m R.length st.length (topK M' st) M'.length ∧ sl = liSl P w C CG R B' M' n st x3 x4 x5 x7 x8)
      ⟨_, B, M, [n], none, none, none, none, none, ok, vis, .first hn, rfl, rfl⟩ ?_
    rintro m sl ⟨B1, M1, st, x3, x4, x5, x7, x8, ok1, vis1, sk, rfl, rfl⟩
    refine wt_truth rfl rfl ?_
    rcases List.eq_nil_or_concat st with rfl | ⟨st0, t, est⟩
    · refine if_no rfl ?_
      have kn := sk.bot rfl
      obtain ⟨l, hl⟩ := Option.isSome_iff_exists.mp kn
      have := vis1.det (ok1.ev n l hl).2.vis
      subst this
      exact ⟨M1, x3, x4, x5, x7, x8, ok1, kn, rfl⟩
    rw [List.concat_eq_append] at est
    subst est
    have e1 : natT (st0 ++ [t]) = natT st0 ++ [.int (t : Int)] := natT_snoc _ _
    refine if_yes (by rw [e1]; simp) ?_
    have htm : t ∈ st0 ++ [t] := by simp
    have ht := sk.lt t htm
    have stl := desc_few sk.desc sk.lt
    rw [List.length_append, List.length_singleton] at stl
    refine ws_seq (ws_asg (we_ixL (wb_var ⟨_, rfl⟩ (we_neg (we_int ⟨1, rfl, _, _, -1, .int (t : Int), rfl, rfl, by rw [e1]; exact atI_last _ _, rfl, ?_⟩)))))
    walk_at "wn"
    rw [topK_snoc, List.length_append, List.length_singleton]
    -- known
    refine ws_cut (fun sl => M1.lookup t = none ∧ sl = liSl P w C CG R B1 M1 n (st0 ++ [t]) (some (.int (t : Int))) x4 x5 x7 x8) ?_ ?_
    · refine ws_if (wt_test (we_sIn TX.cl TX.nL (we_var rfl rfl ⟨_, _, _, t, rfl, rfl, _, rfl, ?_⟩)))
      cases hm : M1.lookup t with
      | some l =>
        refine if_yes rfl ?_
        refine ws_seq (ws_drop (we_pop (xs := natT st0) (t := .int (t : Int)) (by rw [← e1]; rfl) ?_))
        walk_at "dv nm"
        refine ws_cont ?_
        refine ⟨_, lin_pop (topK M1 st0), B1, M1, st0, _, x4, x5, x7, x8, ok1, vis1, sk.pop (by rw [hm]; rfl), rfl, rfl⟩
      | none =>
        refine if_no rfl ?_
        walk_at "dv"
        exact ⟨rfl, rfl⟩
    rintro sl ⟨hm, rfl⟩
    rw [hm]
    have hkm : t ∉ M1.map (·.1) := lkM_none.mp hm
    have kn1 := ok1.room ht hkm
    have fewB := ok1.few
    obtain ⟨r, hr⟩ : ∃ r, R[t]? = some r := ⟨R[t], List.getElem?_eq_getElem ht⟩
    obtain ⟨A', v1, v2⟩ := (sk.way t htm).first vis1
    have lkS := fun (l : Ln) => lkM_snoc hkm l
    have up : ∀ (l : Ln), (M1.lookup n).isSome = true → ((M1 ++ [(t, l)]).lookup n).isSome = true := fun l h => by
      rw [lkS]
      split
      · rfl
      · exact h
    cases r with
    | lt c =>
      refine ws_cut (fun _ => False) ?_ (fun _ z => z.elim)
      have eA : A' = addN B1 (.lt c) := v1.det (.lt hr)
      subst eA
      refine ws_if (wt_test (we_sIsL TX.cl TX.nG rfl rfl (getD_headK hr) ⟨_, rfl, ?_⟩))
      refine if_yes (by decide +kernel) ?_
      refine ws_seq (ws_asg (we_meth mono_an rfl (sum_ins (snR_no (by decide +kernel) (by decide +kernel) (by decide +kernel) (by decide +kernel))) (wo_cons (wb_of (we_tup (wa_cons (we_str (wa_cons (we_sKey TX.cl TX.nG rfl rfl (getD_headK hr) (wa_nil ⟨Nat.le_of_ble_eq_true rfl, ?_⟩))))))))))
      refine wo_nil ⟨_, _, rfl, R.map headK, B1.map snK, M1, snK (.lt c), rfl, snK_tup _, snK_depth _, by rw [List.length_map]; omega, _, rfl, ?_⟩
      rw [add_map snK_inj, idx_map snK_inj]
      walk_at "wn"
      have hi : idxN (addN B1 (.lt c)) (.lt c) = some (B1.idxOf (.lt c)) := idx_add _ _
      have okn : SgOk R (addN B1 (.lt c)) (M1 ++ [(t, unit (B1.idxOf (.lt c)))]) := ok1.put (addN_ext _ _) (addN_nd ok1.nd _) (addN_len _ _) ht hkm (.lt hr hi) (lkS _)
      refine ws_seq (ws_sPut (j := 3) (P := P) (w := w) (CG := CG) TX.cl TX.nL (we_tup (wa_cons (we_int (wa_cons (we_tupF ?_))))))
      walk_at "dv"
      refine ⟨_, _, M1, t, unit (B1.idxOf (.lt c)), rfl, rfl, rfl, hkm, by rw [sizeLine_eq]; omega, ?_⟩
      walk_at "dv nm"
      refine ws_cont ?_
      refine ⟨lin_m R.length (st0.length + 1) (some true) (M1.length + 1), lin_known stl kn1, addN B1 (.lt c), M1 ++ [(t, unit (B1.idxOf (.lt c)))], st0 ++ [t], _, _, x5, x7, x8, okn, v2, sk.ext (addN_ext _ _) (up _), ?_, rfl⟩
      rw [topK_snoc, lkS, if_pos rfl, List.length_append, List.length_append]
      rfl
    | op o ps =>
      obtain ⟨hop, hps⟩ := ok1.rk t o ps hr
      obtain ⟨o1, o2⟩ := ops_short hop
      refine ws_cut (fun sl => sl = liSl P w C CG R B1 M1 n (st0 ++ [t]) (some (.int (t : Int))) x4 x5 x7 x8) ?_ ?_
      · refine ws_if (wt_test (we_sIsL TX.cl TX.nG rfl rfl (getD_headK hr) ⟨_, rfl, ?_⟩))
        refine if_no (by decide +kernel) ?_
        walk_at "dv"
        rfl
      rintro sl rfl
      refine ws_seq (ws_asg (we_sParts TX.cl TX.nG rfl rfl (getD_headK hr) ?_))
      rw [natT_of]
      walk_at "wn"
      have sps := natT_still ps
      have stp : (T.tup (natT ps)).still = true := by unfold T.still; exact sps
      -- left
      refine ws_seqM (fun sl => sl = liSl P w C CG R B1 M1 n (st0 ++ [t]) (some (.int (t : Int))) x4 (some (.tup (natT ps))) (some (.lst true (natT (ps.filter fun p => !(M1.lookup p).isSome)))) x8) ?_ ?_
      · walk_at "dv"
        refine we_lc (gown_name (by decide)) (wi_tup (we_var rfl stp ⟨_, rfl, sps, fun j hj => by revert hj; simp; omega, ?_⟩))
        walk_at "dv nm"
        rw [natT_len]
        refine ⟨fun i acc sl => acc = natT ((ps.take i).filter fun p => !(M1.lookup p).isSome) ∧ sl = liSl P w C CG R B1 M1 n (st0 ++ [t]) (some (.int (t : Int))) x4 (some (.tup (natT ps))) x7 x8, ⟨rfl, rfl⟩, ?_, ?_⟩
        · rintro i acc sl hi ⟨rfl, rfl⟩
          have fl := List.length_filter_le (fun p => !(M1.lookup p).isSome) (ps.take i)
          rw [List.length_take] at fl
          have ei : ps[i]? = some ps[i] := List.getElem?_eq_getElem hi
          have gi : ps.getD i 0 = ps[i] := by rw [List.getD_eq_getElem?_getD, ei]; rfl
          have tk : ps.take (i + 1) = ps.take i ++ [ps[i]] := by rw [List.take_succ, ei]; rfl
          dsimp only
          rw [getD_map_int hi, gi, tk]
          refine ⟨by rw [natT_len, sizeLine_eq]; omega, ?_⟩
          walk_at "wn"
          refine wt_B (we_sNotIn TX.cl TX.nL (we_var rfl rfl ⟨_, _, _, ps[i], rfl, rfl, _, rfl, ?_⟩))
          cases hk : (M1.lookup ps[i]).isSome with
          | true =>
            refine if_no rfl ?_
            refine ⟨?_, rfl⟩
            rw [List.filter_append, List.filter_cons, if_neg (by rw [hk]; decide), List.filter_nil, List.append_nil]
          | false =>
            refine if_yes rfl ?_
            walk_at "dv"
            refine ⟨?_, rfl⟩
            rw [List.filter_append, List.filter_cons, if_pos (by rw [hk]; rfl), List.filter_nil, natT_snoc]
        · rintro acc sl ⟨rfl, rfl⟩
          rw [List.take_length]
          dsimp only [Back]
          walk_at "dv"
          all_goals rfl
      rintro sl rfl
      refine ws_if (wt_truth rfl rfl ?_)
      cases hlf : ps.filter fun p => !(M1.lookup p).isSome with
      | cons p rest =>
        obtain ⟨pre, post, eps, hpre, hp, _⟩ := List.filter_eq_cons_iff.mp hlf
        refine if_yes rfl ?_
        refine ws_drop (we_append ⟨_, rfl⟩ (we_ixL (wb_var ⟨_, rfl⟩ (we_int ⟨_, _, 0, .int (p : Int), rfl, rfl, atI_nat (j := 0) rfl, rfl, natT (st0 ++ [t]), rfl, by rw [natT_len, List.length_append, sizeLine_eq]; simp; omega, ?_⟩))))
        walk_at "dv nm"
        obtain ⟨ls, evp, _⟩ := ok1.parts (ps := pre) fun q hq => by
          have := hpre q hq
          cases hx : (M1.lookup q).isSome with
          | true => rfl
          | false => rw [hx] at this; exact absurd rfl this
        have hpt : p < t := hps p (by rw [eps]; simp)
        have sk2 := sk.push hpt ((sk.way t htm).snoc (by rw [hr, eps]) evp)
        have few2 := desc_few sk2.desc sk2.lt
        rw [List.length_append, List.length_append, List.length_singleton, List.length_singleton] at few2
        refine ⟨lin_m R.length (st0.length + 1 + 1) (some false) M1.length, lin_push few2, B1, M1, (st0 ++ [t]) ++ [p], _, x4, _, _, x8, ok1, vis1, sk2, ?_, by rw [← natT_snoc]⟩
        have : (M1.lookup p).isSome = false := by
          cases hx : (M1.lookup p).isSome with
          | true => rw [hx] at hp; cases hp
          | false => rfl
        rw [topK_snoc, this, List.length_append, List.length_append]
        rfl
      | nil =>
        refine if_no rfl ?_
        have all : ∀ q ∈ ps, (M1.lookup q).isSome = true := fun q hq => by
          have := List.filter_eq_nil_iff.mp hlf q hq
          cases hx : (M1.lookup q).isSome with
          | true => rfl
          | false => rw [hx] at this; exact absurd rfl this
        obtain ⟨ls, evs, lsl, lsa⟩ := ok1.parts all
        have hol : (o, ls.length) ∈ opsL := by rw [lsl]; exact hop
        have nfs : ∀ x ∈ ls, x.Nf ∧ x.ts.length ≤ 10000 := fun x hx => by
          obtain ⟨a, b⟩ := evs.nfL x hx
          exact ⟨a, by have := a.few b; omega⟩
        refine ws_seqM (fun sl => sl = liSl P w C CG R B1 M1 n (st0 ++ [t]) (some (.int (t : Int))) x4 (some (.tup (natT ps))) (some (.lst true [])) (some (.tup (ls.map linT)))) ?_ ?_
        · refine ws_asg (we_tupleOf (we_lc (gown_name (by decide)) (wi_tup (we_var rfl stp ⟨_, rfl, sps, fun j hj => by revert hj; simp; omega, ?_⟩))))
          walk_at "dv nm"
          rw [natT_len]
          refine ⟨fun i acc sl => acc = (ls.take i).map linT ∧ sl = liSl P w C CG R B1 M1 n (st0 ++ [t]) (some (.int (t : Int))) x4 (some (.tup (natT ps))) (some (.lst true [])) x8, ⟨rfl, rfl⟩, ?_, ?_⟩
          · rintro i acc sl hi ⟨rfl, rfl⟩
            have hil : i < ls.length := by omega
            have tk : ls.take (i + 1) = ls.take i ++ [ls[i]] := by rw [List.take_succ, List.getElem?_eq_getElem hil]; rfl
            have la := lsa i hi
            rw [List.getD_eq_getElem?_getD (l := ls), List.getElem?_eq_getElem hil] at la
            dsimp only
            rw [getD_map_int hi, tk]
            refine ⟨by rw [List.length_map, List.length_take, sizeLine_eq]; omega, ?_⟩
            walk_at "wn"
            refine wt_yes (if_yes rfl ?_)
            refine we_sGet TX.cl TX.nL rfl rfl la ?_
            exact ⟨by rw [List.map_append]; rfl, rfl⟩
          · rintro acc sl ⟨rfl, rfl⟩
            rw [← lsl, List.take_length]
            dsimp only [Back]
            refine ⟨_, _, rfl, ?_⟩
            walk_at "wn"
            all_goals rfl
        rintro sl rfl
        have mdn := snR_no (m := "made") (by decide +kernel) (by decide +kernel) (by decide +kernel) (by decide +kernel)
        refine ws_sPut (j := 3) (P := P) (w := w) (CG := CG) TX.cl TX.nL (we_meth mono_md rfl (sum_ins mdn) (wo_cons (wb_of (we_sOp TX.cl TX.nG rfl rfl (getD_headK hr) ?_))))
        refine wo_cons (wb_var ⟨_, rfl⟩ (wo_nil ⟨_, _, rfl, R.map headK, B1, M1, o, ls, rfl, hol, nfs, by omega, fun l hl => ⟨_, rfl, ?_⟩, fun hno => ⟨_, rfl, ?_⟩⟩))
        · refine ⟨_, _, M1, t, l, rfl, rfl, rfl, hkm, by rw [sizeLine_eq]; omega, ?_⟩
          walk_at "dv nm"
          have eA : A' = B1 := v1.det (.sum hr evs.vis evs hl)
          subst eA
          refine ⟨lin_m R.length (st0.length + 1) (some true) (M1.length + 1), lin_known stl kn1, A', M1 ++ [(t, l)], st0 ++ [t], _, x4, _, _, _, ok1.put .rfl ok1.nd (by omega) ht hkm (.sum hr evs hl) (lkS _), v2, sk.ext .rfl (up _), ?_, rfl⟩
          rw [topK_snoc, lkS, if_pos rfl, List.length_append, List.length_append]
          rfl
        · refine ⟨_, _, M1, t, unit (B1.idxOf (.op o ls)), rfl, rfl, rfl, hkm, by rw [sizeLine_eq]; omega, ?_⟩
          walk_at "dv nm"
          have eA : A' = addN B1 (.op o ls) := v1.det (.op hr evs.vis evs hno)
          subst eA
          have hi : idxN (addN B1 (.op o ls)) (.op o ls) = some (B1.idxOf (.op o ls)) := idx_add _ _
          refine ⟨lin_m R.length (st0.length + 1) (some true) (M1.length + 1), lin_known stl kn1, addN B1 (.op o ls), M1 ++ [(t, unit (B1.idxOf (.op o ls)))], st0 ++ [t], _, x4, _, _, _, ok1.put (addN_ext _ _) (addN_nd ok1.nd _) (addN_len _ _) ht hkm (.op hr (evs.ext (addN_ext _ _)) hno hi) (lkS _), v2, sk.ext (addN_ext _ _) (up _), ?_, rfl⟩
          rw [topK_snoc, lkS, if_pos rfl, List.length_append, List.length_append]
          rfl
  rintro sl ⟨M', x3, x4, x5, x7, x8, ok', kn, rfl⟩
  obtain ⟨l, hl⟩ := Option.isSome_iff_exists.mp kn
  refine ws_ret (we_sGet TX.cl TX.nL rfl rfl hl ?_)
  exact ⟨_, _, rfl, k l M' (ok'.ev n l hl).2 ok'⟩
end
end Rs
set_option maxHeartbeats 16000000
namespace Rs
open PySem L2 PySem.Spec PyProof.Rows
local macro_rules | `(tactic| walk_at "dv nm") => `(tactic| dsimp only [List.set_cons_succ, List.set_cons_zero, hideT])
local macro_rules | `(tactic| walk_at "dv st") => `(tactic| first | rfl | exact kT_still _ | assumption)
local macro_rules | `(tactic| walk_at "dv 1") => `(tactic| first | (with_reducible (first | refine ws_seq ?_ | refine ws_asg ?_ | refine ws_ret ?_ | refine ws_drop ?_ | refine ws_if ?_ | refine ws_next ?_ | refine we_int ?_ | refine we_str ?_ | refine we_bl ?_ | refine we_non ?_ | refine we_tup ?_ | refine we_lst ?_ | refine wa_cons ?_ | refine wa_nil ?_ | refine wo_cons ?_ | refine wo_nil ?_ | refine wt_test ?_ | refine wt_B ?_ | refine wt_not ?_ | refine wt_and ?_ | refine wt_or ?_ | refine we_if ?_ | refine we_notV ?_ | refine we_andV ?_ | refine we_orV ?_ | refine we_dnew ?_ | refine wb_var ⟨_, rfl⟩ ?_)) | ((with_reducible refine' wg_name ?h1 ?h2 ?_); (case h1 => exact Nat.le_of_ble_eq_true rfl); (case h2 => decide); (walk_at "dv nm")) | ((with_reducible refine' we_var ?h ?s ?_); (case' h => rfl); (case s => walk_at "dv st")) | ((with_reducible refine' size_and ?sz ?_); (case sz => rw [sizeLine_eq]; exact Nat.le_of_ble_eq_true rfl)) | (with_reducible refine wb_of ?_))
local macro_rules | `(tactic| walk_at "dv") => `(tactic| repeat (walk_at "dv 1"))
abbrev sLaw : Stmt := top 30
def spLaw (K : PySem.W.Frag) : Sp := fun vs H Q _ => ∃ (a : Addr) (ns : List Int), vs = [.ref a] ∧ SqL K H a (ns.map V.int) ∧ ns.length ≤ 63 ∧ ∀ H', Q (.bl true) H'
structure TxtLaw (K : PySem.W.Frag) (mg : Str → Option Value) (C : Addr) : Prop where
  cl : L2.Cls K C
  tuple : mg "tuple" = none
  range : mg "range" = none
  list : mg "list" = none
  len : mg "len" = none
  dict : mg "dict" = none
  sum : mg "sum" = none
theorem perm_map_inv {α β : Type} {f : α → β} {ys zs : List β} (h : ys.Perm zs) : ∀ {xs : List α}, zs = xs.map f → ∃ ws : List α, ws.Perm xs ∧ ys = ws.map f := by
  induction h with
  | nil => intro xs e; exact ⟨[], by rw [List.map_eq_nil_iff.mp e.symm], rfl⟩
  | cons x p ih =>
    intro xs e
    cases xs with
    | nil => cases e
    | cons a r =>
      rw [List.map_cons] at e
      injection e with e1 e2
      obtain ⟨ws, p2, e3⟩ := ih e2
      exact ⟨a :: ws, p2.cons a, by rw [e3, e1]; rfl⟩
  | swap x y l =>
    intro xs e
    match xs, e with
    | a :: b :: r, e =>
      rw [List.map_cons, List.map_cons] at e
      injection e with e1 e
      injection e with e2 e3
      exact ⟨b :: a :: r, List.Perm.swap _ _ _, by rw [e1, e2, e3]; rfl⟩
  | trans p q ih1 ih2 =>
    intro xs e
    obtain ⟨w1, p1, e1⟩ := ih2 e
    obtain ⟨w2, p2, e2⟩ := ih1 e1
    exact ⟨w2, p2.trans p1, e2⟩
section
variable {P : Program} {w : World} {K : PySem.W.Frag} {mg : Str → Option Value} {base : Heap} {C CG : Addr}
local macro_rules | `(tactic| walk_at "wn") => `(tactic| ((refine wg_name (Nat.le_of_ble_eq_true rfl) (by decide) ?_); (walk_at "dv nm")))
local macro_rules | `(tactic| walk_at "dp") => `(tactic| repeat (first | exact DropO.nil | refine DropO.same ?_ | refine DropO.drop ?_))
theorem scLaw : FnScope ["script", "bag", "turn", "keys", "graph", "atoms", "found", "nodes", "sums", "order", "at", "due", "again", "name", "k", "own", "reads", "mine", "key", "part", "worths", "told", "one", "constant", "terms", "atom", "factor"] ["script"] (defScope sLaw) := ⟨rfl, rfl, rfl, by decide +kernel, rfl, by decide +kernel, by decide +kernel⟩
theorem ok_law {f fB fDt fSo fMde fMx fTl fLl fA fTa fLg fLn fWor fLi fMa fAt fI fS : Addr} {fd fdB fdDt fdSo fdMde fdMx fdTl fdLl fdA fdTa fdLg fdLn fdWor fdLi fdMa fdAt fdI fdS : FuncData} (F : Fun K "law" "law" sLaw f fd) (TX : TxtLaw K mg C)
    (GB : FnOk P w K mg base CX0 1 fB fdB ["script"] (spBag K)) (mB : mg "_law_bag" = some (.ref fB)) (kB : PySem.W.keepIn K (.ref fB) = true) (bB : Binds K fdB ["script"] [])
    (GDt : FnOk P w K mg base CX0 3 fDt fdDt ["bag", "many"] (spT gDt)) (mDt : mg "_law_drawn_terms" = some (.ref fDt)) (kDt : PySem.W.keepIn K (.ref fDt) = true) (bDt : Binds K fdDt ["bag", "many"] [])
    (GSo : FnOk P w K mg base CX0 2 fSo fdSo ["bag", "things"] (spT gSome)) (mSo : mg "_law_some" = some (.ref fSo)) (kSo : PySem.W.keepIn K (.ref fSo) = true) (bSo : Binds K fdSo ["bag", "things"] [])
    (GMde : FnOk P w K mg base CX0 3 fMde fdMde ["graph", "keys"] (spT (gMde P w CG))) (mMde : mg "_law_made" = some (.ref fMde)) (kMde : PySem.W.keepIn K (.ref fMde) = true) (bMde : Binds K fdMde ["graph", "keys"] [])
    (GMx : FnOk P w K mg base CX0 2 fMx fdMx ["bag", "things"] (spT gMixed)) (mMx : mg "_law_mixed" = some (.ref fMx)) (kMx : PySem.W.keepIn K (.ref fMx) = true) (bMx : Binds K fdMx ["bag", "things"] [])
    (GTl : FnOk P w K mg base CX0 1 fTl fdTl ["one"] (spT (gTl P w))) (mTl : mg "_law_told_linear" = some (.ref fTl)) (kTl : PySem.W.keepIn K (.ref fTl) = true) (bTl : Binds K fdTl ["one"] [])
    (GLl : FnOk P w K mg base CX0 42 fLl fdLl ["keys", "at", "atoms", "found"] (spT (gLl P w 40))) (mLl : mg "_law_linear" = some (.ref fLl)) (kLl : PySem.W.keepIn K (.ref fLl) = true) (bLl : Binds K fdLl ["keys", "at", "atoms", "found"] [])
    (GA : FnG P w K mg base CX0 1 fA fdA ["found", "due"] (spT gAlikeD)) (mA : mg "_law_alike" = some (.ref fA)) (kA : PySem.W.keepIn K (.ref fA) = true) (bA : Binds K fdA ["found", "due"] [])
    (GTa : FnOk P w K mg base CX0 1 fTa fdTa ["bag", "many"] (spT gTake)) (mTa : mg "_law_take" = some (.ref fTa)) (kTa : PySem.W.keepIn K (.ref fTa) = true) (bTa : Binds K fdTa ["bag", "many"] [])
    (GLg : FnOk P w K mg base CX0 1 fLg fdLg [] (spT (gLg P w))) (mLg : mg "_law_graph" = some (.ref fLg)) (kLg : PySem.W.keepIn K (.ref fLg) = true) (bLg : Binds K fdLg [] [])
    (GLn : FnOk P w K mg base CX0 1 fLn fdLn ["graph", "key"] (spT (gLn P w))) (mLn : mg "_law_node" = some (.ref fLn)) (kLn : PySem.W.keepIn K (.ref fLn) = true) (bLn : Binds K fdLn ["graph", "key"] [])
    (GWor : FnOk P w K mg base CX0 2 fWor fdWor ["graph", "meaning", "reads"] (spT (gWor P w))) (mWor : mg "_law_worths" = some (.ref fWor)) (kWor : PySem.W.keepIn K (.ref fWor) = true) (bWor : Binds K fdWor ["graph", "meaning", "reads"] [])
    (GLi : FnOk P w K mg base CX0 4 fLi fdLi ["self", "node"] (spT (gLi P w C CG))) (bLi : Binds K fdLi ["self", "node"] []) (mLi : Meth K C "linear" fLi)
    (GMa : FnOk P w K mg base CX0 1 fMa fdMa ["self"] (spT (gManyS P w C CG))) (bMa : Binds K fdMa ["self"] []) (mMa : Meth K C "many" fMa)
    (GAt : FnOk P w K mg base CX0 1 fAt fdAt ["self", "number"] (spT (gAt P w C CG))) (bAt : Binds K fdAt ["self", "number"] []) (mAt : Meth K C "atom" fAt)
    (MG : Mk K CG fI) (mG : mg "Graph" = some (.ref CG)) (GI : FnOk P w K mg base CX0 1 fI fdI ["self"] (spInit P w CG)) (bI : Binds K fdI ["self"] [])
    (MS : Mk K C fS) (mS : mg "SumGraph" = some (.ref C)) (GS : FnOk P w K mg base CX0 1 fS fdS ["self", "graph"] (spInitS P w C)) (bS : Binds K fdS ["self", "graph"] []) :
    FnG P w K mg base CX0 44 f fd ["script"] (spLaw K) := by
  refine okG F scLaw (fun vs H Q E h => ?_) (fun cdv A outer s H vs Q E hgd hr h => ?_)
  · obtain ⟨a, ns, rfl, _⟩ := h
    rfl
  obtain ⟨a, is0, rfl, hS, hl63, k⟩ := h
  have nd := scLaw.nd
  have hu1 := hu_of hr
  have nLi := snR_no (m := "linear") (by decide +kernel) (by decide +kernel) (by decide +kernel) (by decide +kernel)
  have nMa := snR_no (m := "many") (by decide +kernel) (by decide +kernel) (by decide +kernel) (by decide +kernel)
  have nAt := snR_no (m := "atom") (by decide +kernel) (by decide +kernel) (by decide +kernel) (by decide +kernel)
  refine ⟨_, (pss_cons (ps_set (i := 1) nd rfl (Or.inr rfl) (pe_call (E := E0) GB (hr.mono (by decide)) rfl mB kB bB .nil pass0 (pa_cons (pv 0) pa_nil))) (Evl.pss_cut (ps_for PassesOwn.never rfl (pi_range1 rfl TX.range (pa_cons pe_int pa_nil)) (pg_name (i := 2) nd rfl (Or.inl rfl)) (pss_cons (ps_set (i := 3) nd rfl (Or.inl rfl) (pe_call (E := E0) GDt (hr.mono (by decide)) rfl mDt kDt bDt .nil pass0 (pa_cons (pv 1) (pa_cons (pe_call (E := E0) GSo (hr.mono (by decide)) rfl mSo kSo bSo .nil pass0 (pa_cons (pv 1) (pa_cons (pe_lst (pa_cons pe_int (pa_cons pe_int (pa_cons pe_int (pa_cons pe_int pa_nil))))) pa_nil))) pa_nil)))) (pss_cons (ps_asg (pe_tup (pa_cons (pe_make0 MG GI (hr.mono (by decide)) rfl mG bI .nil pass0) (pa_cons (pe_nnewP (P := P) (w := w) rfl rfl) (pa_cons pe_dnewK pa_nil)))) (pg_tup rfl (pgs_cons (pg_name (i := 4) nd rfl (Or.inl rfl)) (pgs_cons (pg_name (i := 5) nd rfl (Or.inr rfl)) (pgs_cons (pg_name (i := 6) nd rfl (Or.inl rfl)) pgs_nil))))) (pss_cons (ps_set (i := 7) nd rfl (Or.inl rfl) (pe_call (E := E0) GMde (hr.mono (by decide)) rfl mMde kMde bMde .nil pass0 (pa_cons (pv 4) (pa_cons (pv 3) pa_nil)))) (pss_cons (ps_par (i := 8) (j := 9) rfl nd rfl rfl (by decide) rfl rfl (pa_cons (pe_make MS GS (hr.mono (by decide)) rfl mS bS .nil pass0 (pa_cons (pv 4) pa_nil)) (pa_cons (pe_call (E := E0) GMx (hr.mono (by decide)) rfl mMx kMx bMx .nil pass0 (pa_cons (pv 1) (pa_cons (pe_listRg rfl rfl TX.list (prg_1 rfl TX.range (pe_callB (c_lenK (K := K) rfl) (by rfl) TX.len PySem.boot_len (pa_cons (pv 3) pa_nil)))) pa_nil))) pa_nil)) rfl) (Evl.pss_cut (ps_for PassesOwn.never rfl (pi_list (pv 9)) (pg_name (i := 10) nd rfl (Or.inl rfl)) (pss_cons (ps_set (i := 11) nd rfl (Or.inl rfl) (pe_call (E := E0) GTl (hr.mono (by decide)) rfl mTl kTl bTl .nil pass0 (pa_cons (pe_call (E := E0) GLl (hr.mono (by decide)) rfl mLl kLl bLl .nil pass0 (pa_cons (pv 3) (pa_cons (pv 10) (pa_cons (pv 5) (pa_cons (pv 6) pa_nil))))) pa_nil))) (pss_one (ps_if (pt_not (pt_val (pe_callG (E := E0) GA hgd (hr.mono (by decide)) rfl mA kA bA pass0 (pa_cons (pe_meth (E := E0) (pv 8) TX.cl mLi GLi (hr.mono (by decide)) bLi .nil pass0 (pa_cons (pe_ix ix_list (pv 7) (pv 10) (fun _ _ => rfl)) pa_nil)) (pa_cons (pv 11) pa_nil))))) (pss_one (ps_ret pe_bl)) pss_nil)))) (Evl.pss_cut (ps_for PassesOwn.never rfl (pi_range1 rfl TX.range (pa_cons pe_int pa_nil)) (pg_name (i := 12) nd rfl (Or.inl rfl)) (Evl.pss_cut (ps_if (pt_not (pt_val (pe_callG (E := E0) GA hgd (hr.mono (by decide)) rfl mA kA bA pass0 (pa_cons (pe_meth0 (E := E0) (pv 8) TX.cl mMa GMa (hr.mono (by decide)) bMa .nil pass0) (pa_cons (pe_callB (c_lenN (P := P) (w := w) rfl rfl) (by rfl) TX.len PySem.boot_len (pa_cons (pv 5) pa_nil)) pa_nil))))) (pss_one (ps_ret pe_bl)) pss_nil) (Evl.pss_cut (ps_lock (ps_for PassesOwn.never rfl (pi_nd (P := P) (w := w) rfl rfl (pv 5)) (pg_name (i := 13) nd rfl (Or.inl rfl)) (pss_cons (ps_set (i := 11) nd rfl (Or.inl rfl) (pe_ifExp (pt_cmpR op_eq (pe_ix ix_tup (pv 13) pe_int (fun _ _ => rfl)) pe_str (nomark _)) (pe_tup (pa_cons pe_str (pa_cons (pe_slice sl_tupA (pv 13) (po_some pe_int) po_none) pa_nil))) (pv 13))) (pss_one (ps_if (pt_not (pt_val (pe_callG (E := E0) GA hgd (hr.mono (by decide)) rfl mA kA bA pass0 (pa_cons (pe_meth (E := E0) (pv 8) TX.cl mAt GAt (hr.mono (by decide)) bAt .nil pass0 (pa_cons (pe_ngetR (P := P) (w := w) rfl rfl hr.units (pv 5) (pv 13) (fun _ _ => rfl)) pa_nil)) (pa_cons (pv 11) pa_nil))))) (pss_one (ps_ret pe_bl)) pss_nil))))) (pss_cons (ps_set (i := 10) nd rfl (Or.inl rfl) (pe_call (E := E0) GTa (hr.mono (by decide)) rfl mTa kTa bTa .nil pass0 (pa_cons (pv 1) (pa_cons (pe_callB (c_lenK (K := K) rfl) (by rfl) TX.len PySem.boot_len (pa_cons (pv 3) pa_nil)) pa_nil)))) (pss_one (ps_if (pt_not (pt_val (pe_callG (E := E0) GA hgd (hr.mono (by decide)) rfl mA kA bA pass0 (pa_cons (pe_meth (E := E0) (pv 8) TX.cl mLi GLi (hr.mono (by decide)) bLi .nil pass0 (pa_cons (pe_ix ix_list (pv 7) (pv 10) (fun _ _ => rfl)) pa_nil)) (pa_cons (pe_call (E := E0) GTl (hr.mono (by decide)) rfl mTl kTl bTl .nil pass0 (pa_cons (pe_dget hu1 (pv 6) (pv 10) (fun _ _ => rfl)) pa_nil)) pa_nil))))) (pss_one (ps_ret pe_bl)) pss_nil)))))) (pss_cons (ps_par (i := 15) (j := 16) rfl nd rfl rfl (by decide) rfl rfl (pa_cons (pe_call0 (E := E0) GLg (hr.mono (by decide)) rfl mLg kLg bLg .nil pass0) (pa_cons (pe_lc (own := [("k", 14)]) (g := (gName 14)) (tt := tYes) rfl nd (pi_range1 rfl TX.range (pa_cons pe_int pa_nil)) (blkOk_by (N := ["script", "bag", "turn", "keys", "graph", "atoms", "found", "nodes", "sums", "order", "at", "due", "again", "name", "k", "own", "reads", "mine", "key", "part", "worths", "told", "one", "constant", "terms", "atom", "factor"]) (sc := defScope sLaw) (by decide +kernel)) (fun _ _ _ _ _ => (pg_name (i := 14) nd rfl (Or.inl rfl))) (fun _ _ _ _ _ => pts_nil) (fun _ _ _ _ _ => (pe_op op_sub (pe_call (E := E0) GTa (hr.mono (by decide)) rfl mTa kTa bTa .nil pass0 (pa_cons (pv 1) (pa_cons pe_int pa_nil))) pe_int))) pa_nil)) rfl) (pss_cons (ps_set (i := 17) nd rfl (Or.inr rfl) (pe_lst pa_nil)) (Evl.pss_cut (ps_for PassesOwn.never rfl (pi_list (pv 3)) (pg_name (i := 18) nd rfl (Or.inl rfl)) (pss_one (ps_expr (pe_bm PySem.F.plainAttrs_list PySem.F.slot_list_append PySem.F.type_list_append mt_append (pv 17) (pa_cons (pe_call (E := E0) GLn (hr.mono (by decide)) rfl mLn kLn bLn .nil pass0 (pa_cons (pv 15) (pa_cons (pe_ifExp (pt_cmpR op_eq (pe_ix ix_tup (pv 18) pe_int (fun _ _ => rfl)) pe_str (nomark _)) (pv 18) (pe_tup (pa_cons pe_str (pa_cons (pe_ix ix_tup (pv 18) pe_int (fun _ _ => rfl)) (pa_cons (pe_callTy (c_tupK (K := K) rfl) (by rfl) TX.tuple (by decide +kernel) (pa_cons (pe_lc (own := [("part", 19)]) (g := (gName 19)) (tt := tYes) rfl nd (pi_tup (pe_ix ix_tup (pv 18) pe_int (fun _ _ => rfl))) (blkOk_by (N := ["script", "bag", "turn", "keys", "graph", "atoms", "found", "nodes", "sums", "order", "at", "due", "again", "name", "k", "own", "reads", "mine", "key", "part", "worths", "told", "one", "constant", "terms", "atom", "factor"]) (sc := defScope sLaw) (by decide +kernel)) (fun _ _ _ _ _ => (pg_name (i := 19) nd rfl (Or.inl rfl))) (fun _ _ _ _ _ => pts_nil) (fun _ _ _ _ _ => (pe_ix (ix_listK (K := K) rfl) (pv 17) (pv 19) (fun _ _ => rfl)))) pa_nil)) pa_nil))))) pa_nil))) pa_nil))))) (pss_cons (ps_set (i := 20) nd rfl (Or.inl rfl) (pe_call (E := E0) GWor (hr.mono (by decide)) rfl mWor kWor bWor .nil pass0 (pa_cons (pv 15) (pa_cons (pe_tup (pa_cons pe_str (pa_cons (pe_call (E := E0) GTa (hr.mono (by decide)) rfl mTa kTa bTa .nil pass0 (pa_cons (pv 1) (pa_cons pe_int pa_nil))) pa_nil))) (pa_cons (pv 16) pa_nil))))) (pss_cons (ps_set (i := 21) nd rfl (Or.inr rfl) (pe_callTy (c_dictPK (K := K) rfl) (by rfl) TX.dict (by decide +kernel) (pa_cons (pe_lock (pe_lc (own := [("name", 13)]) (g := (gName 13)) (tt := tYes) rfl nd (pi_nd (P := P) (w := w) rfl rfl (pv 5)) (blkOk_by (N := ["script", "bag", "turn", "keys", "graph", "atoms", "found", "nodes", "sums", "order", "at", "due", "again", "name", "k", "own", "reads", "mine", "key", "part", "worths", "told", "one", "constant", "terms", "atom", "factor"]) (sc := defScope sLaw) (by decide +kernel)) (fun _ _ _ _ _ => (pg_name (i := 13) nd rfl (Or.inl rfl))) (fun _ _ _ _ _ => pts_nil) (fun _ _ _ _ _ => (pe_tup (pa_cons (pe_ngetR (P := P) (w := w) rfl rfl hr.units (pv 5) (pv 13) (fun _ _ => rfl)) (pa_cons pe_non pa_nil)))))) pa_nil))) (Evl.pss_cut (ps_for PassesOwn.never rfl (pi_range1 rfl TX.range (pa_cons (pe_callB (c_lenK (K := K) rfl) (by rfl) TX.len PySem.boot_len (pa_cons (pv 3) pa_nil)) pa_nil)) (pg_name (i := 10) nd rfl (Or.inl rfl)) (pss_cons (ps_set (i := 22) nd rfl (Or.inl rfl) (pe_dget hu1 (pv 6) (pv 10) (fun _ _ => rfl))) (pss_one (ps_if (PW.pt (pw_and (pt_cmpR op_eq (pe_callB (c_lenLf (P := P) (w := w) rfl rfl) (by rfl) TX.len PySem.boot_len (pa_cons (pv 22) pa_nil)) pe_int (nomark _)) (pw_and (pt_cmpR op_eq (pe_ix ix_tup (pe_ix ix_list (pe_listItemsLf (P := P) (w := w) rfl rfl rfl (pv 22) (by rfl) TX.list (by decide +kernel)) pe_int (fun _ _ => rfl)) pe_int (fun _ _ => rfl)) pe_int (nomark _)) (pw_and1 (pt_cmp (pc_lnotin (P := P) (w := w) rfl rfl pe_non (pv 22))))))) (pss_one (ps_dput hu1 (pv 21) (pe_ix ix_list (pe_callTy (c_listLf (P := P) (w := w) rfl rfl) (by rfl) TX.list (by decide +kernel) (pa_cons (pv 22) pa_nil)) pe_int (fun _ _ => rfl)) (pe_ifExp (pt_cmpR op_isN (pe_dget hu1 (pv 21) (pe_ix ix_list (pe_callTy (c_listLf (P := P) (w := w) rfl rfl) (by rfl) TX.list (by decide +kernel) (pa_cons (pv 22) pa_nil)) pe_int (fun _ _ => rfl)) (fun _ _ => rfl)) pe_non (nomark _)) (pe_ix ix_list (pv 20) (pe_ix ix_list (pv 17) (pv 10) (fun _ _ => rfl)) (fun _ _ => rfl)) (pe_dget hu1 (pv 21) (pe_ix ix_list (pe_callTy (c_listLf (P := P) (w := w) rfl rfl) (by rfl) TX.list (by decide +kernel) (pa_cons (pv 22) pa_nil)) pe_int (fun _ _ => rfl)) (fun _ _ => rfl))) (by rfl))) pss_nil)))) (pss_one (ps_for PassesOwn.never rfl (pi_range1 rfl TX.range (pa_cons (pe_callB (c_lenK (K := K) rfl) (by rfl) TX.len PySem.boot_len (pa_cons (pv 3) pa_nil)) pa_nil)) (pg_name (i := 10) nd rfl (Or.inl rfl)) (pss_cons (ps_asg (pe_meth (E := E0) (pv 8) TX.cl mLi GLi (hr.mono (by decide)) bLi .nil pass0 (pa_cons (pe_ix ix_list (pv 7) (pv 10) (fun _ _ => rfl)) pa_nil)) (pg_tup rfl (pgs_cons (pg_name (i := 23) nd rfl (Or.inl rfl)) (pgs_cons (pg_name (i := 24) nd rfl (Or.inl rfl)) pgs_nil)))) (pss_one (ps_if (pt_cmpR op_notIn_seq pe_non (pe_lc (own := [("atom", 25), ("factor", 26)]) (g := (gTup K 2 (gCons (gName 25) (gCons (gName 26) gNil)))) (tt := tYes) rfl nd (pi_tup (pv 24)) (blkOk_by (N := ["script", "bag", "turn", "keys", "graph", "atoms", "found", "nodes", "sums", "order", "at", "due", "again", "name", "k", "own", "reads", "mine", "key", "part", "worths", "told", "one", "constant", "terms", "atom", "factor"]) (sc := defScope sLaw) (by decide +kernel)) (fun _ _ _ _ _ => (pg_tup rfl (pgs_cons (pg_name (i := 25) nd rfl (Or.inl rfl)) (pgs_cons (pg_name (i := 26) nd rfl (Or.inl rfl)) pgs_nil)))) (fun _ _ _ _ _ => pts_nil) (fun _ _ _ _ _ => (pe_dget hu1 (pv 21) (pv 25) (fun _ _ => rfl)))) rfl) (pss_one (ps_if (pt_cmpR op_ne (pe_op op_add (pv 23) (pe_callB (c_sumK (K := K) rfl) (by rfl) TX.sum (by decide +kernel) (pa_cons (pe_lc (own := [("atom", 25), ("factor", 26)]) (g := (gTup K 2 (gCons (gName 25) (gCons (gName 26) gNil)))) (tt := tYes) rfl nd (pi_tup (pv 24)) (blkOk_by (N := ["script", "bag", "turn", "keys", "graph", "atoms", "found", "nodes", "sums", "order", "at", "due", "again", "name", "k", "own", "reads", "mine", "key", "part", "worths", "told", "one", "constant", "terms", "atom", "factor"]) (sc := defScope sLaw) (by decide +kernel)) (fun _ _ _ _ _ => (pg_tup rfl (pgs_cons (pg_name (i := 25) nd rfl (Or.inl rfl)) (pgs_cons (pg_name (i := 26) nd rfl (Or.inl rfl)) pgs_nil)))) (fun _ _ _ _ _ => pts_nil) (fun _ _ _ _ _ => (pe_op op_mul (pv 26) (pe_dget hu1 (pv 21) (pv 25) (fun _ _ => rfl))))) pa_nil))) (pe_ix ix_list (pv 20) (pe_ix ix_list (pv 17) (pv 10) (fun _ _ => rfl)) (fun _ _ => rfl)) (nomark _)) (pss_one (ps_ret pe_bl)) pss_nil)) pss_nil)))))))))))))))))) (pss_one (ps_ret pe_bl)))), ?_⟩
  refine ⟨.ref a, rfl, a, is0, rfl, hS, hl63, fun b cc H1 hb0 hc0 B1 f1 => ?_⟩
  have rx : R ⟨fun _ => False, H1, [b, cc]⟩ [] (fun _ => .non) [] [] [none, some bagT, none, none, none, none, none, none, none, none, none, none, none, none, none, none, none, none, none, none, none, none, none, none, none, none, none] ((L2.start ["script", "bag", "turn", "keys", "graph", "atoms", "found", "nodes", "sums", "order", "at", "due", "again", "name", "k", "own", "reads", "mine", "key", "part", "worths", "told", "one", "constant", "terms", "atom", "factor"] [.ref a]).set 1 (some (.ref b))) H1 := by
    refine ⟨[], [b, cc], by unfold Reps; exact ⟨rfl, rfl⟩, ?_, ?_, fun x hx => .inr hx, Fm.refl _ _, fun j hj => (List.not_mem_nil hj).elim⟩
    · exact ⟨_, _, rfl, _, _, [b, cc], [], rfl, rfl, rep_bag B1, _, _, rfl, _, _, rfl, _, _, rfl, _, _, rfl, _, _, rfl, _, _, rfl, _, _, rfl, _, _, rfl, _, _, rfl, _, _, rfl, _, _, rfl, _, _, rfl, _, _, rfl, _, _, rfl, _, _, rfl, _, _, rfl, _, _, rfl, _, _, rfl, _, _, rfl, _, _, rfl, _, _, rfl, _, _, rfl, _, _, rfl, _, _, rfl, _, _, rfl, rfl, rfl⟩
    · have : b ≠ cc := by
        obtain ⟨cur, seed, ix, nn, h1, p1, p2, h2, _⟩ := B1
        intro z
        rw [z, h2] at h1
        have e := HO.lst.inj (Option.some.inj h1)
        have hm : V.ref cc ∈ nn.map V.int := by rw [e]; simp
        obtain ⟨n, _, e2⟩ := List.mem_map.mp hm
        cases e2
      simp [this]
  dsimp only [gName]
  refine (show WS ⟨fun _ => False, H1, [b, cc]⟩ [] [] [none, some bagT, none, none, none, none, none, none, none, none, none, none, none, none, none, none, none, none, none, none, none, none, none, none, none, none, none] _ { nx := fun _ => False, rt := fun t _ => t = .bl true } from ?_) (fun _ => .non) [] _ H1 _ rx (fun _ _ _ z => z.elim) (fun t sl' v σ' H' e r => ?_) (fun _ _ _ z => z.elim) (fun _ _ _ z => z.elim)
  · clear rx f1 B1 hb0 hc0 hS hl63 k
    generalize (⟨fun _ => False, H1, [b, cc]⟩ : Fr) = fr
    refine ws_cut (fun sl => sl = [none, some bagT, none, none, none, none, none, none, none, none, none, none, none, none, none, none, none, none, none, none, none, none, none, none, none, none, none]) ?_ ?_
    · refine ws_for (wi_range1 (wa_cons (we_int (wa_nil ⟨3, rfl, by omega, ?_⟩))))
      refine ⟨fun _ sl => sl = [none, some bagT, none, none, none, none, none, none, none, none, none, none, none, none, none, none, none, none, none, none, none, none, none, none, none, none, none], rfl, ?_, fun sl e => e⟩
      rintro j sl hj rfl
      refine wg_name (Nat.le_of_ble_eq_true rfl) (by decide) ?_
      walk_at "dv nm"
      refine ws_weakO ?_
      refine ws_dropO (s0 := [none, some bagT, none, none, none, none, none, none, none, none, none, none, none, none, none, none, none, none, none, none, none, none, none, none, none, none, none]) (by walk_at "dp") ?_
      -- keys
      refine ws_seqM (fun sl => ∃ R, DrOk R ∧ 1 ≤ R.length ∧ R.length ≤ 29 ∧ sl = [none, some bagT, none, some (keysT true R), none, none, none, none, none, none, none, none, none, none, none, none, none, none, none, none, none, none, none, none, none, none, none]) ?_ ?_
      · refine ws_asg (we_call mono_dt (wo_cons (wb_var ⟨_, rfl⟩ (wo_cons (wb_of (we_call mono_some (wo_cons (wb_var ⟨_, rfl⟩ (wo_cons (wb_of ?_))))))))))
        walk_at "dv"
        refine ⟨_, _, rfl, _, _, rfl, rfl, rfl, List.cons_ne_nil _ _, (show 4 < 1000000 by decide), fun x hx => ⟨_, rfl, ?_⟩⟩
        have hx' : ∃ m : Nat, x = .int (m : Int) ∧ m ≤ 25 := by
          simp only [List.mem_cons, List.not_mem_nil, or_false] at hx
          rcases hx with rfl | rfl | rfl | rfl
          · exact ⟨12, rfl, by decide⟩
          · exact ⟨6, rfl, by decide⟩
          · exact ⟨25, rfl, by decide⟩
          · exact ⟨2, rfl, by decide⟩
        obtain ⟨m, rfl, hm⟩ := hx'
        refine wo_nil ⟨_, _, rfl, m, rfl, hm, fun R d r1 r2 => ⟨_, rfl, ?_⟩⟩
        walk_at "wn"
        exact ⟨R, d, r1, by omega, rfl⟩
      rintro sl ⟨R, d, r1, h29, rfl⟩
      have skey := krs_still R
      -- graph, atoms, found
      refine ws_seqM (fun sl => sl = [none, some bagT, none, some (keysT true R), some (termsT P w CG []), some (atomsT P w []), some (.dk true []), none, none, none, none, none, none, none, none, none, none, none, none, none, none, none, none, none, none, none, none]) ?_ ?_
      · refine ws_asg (we_tup (wa_cons (we_mkTerms (wa_cons (we_nnew (wa_cons (we_dnew (wa_nil ⟨Nat.le_of_ble_eq_true rfl, ?_⟩))))))))
        refine wg_tup rfl (wgs_cons ?_)
        walk_at "wn"
        refine wgs_cons ?_
        walk_at "wn"
        refine wgs_cons ?_
        walk_at "wn"
        exact wgs_nil rfl
      rintro sl rfl
      -- nodes
      refine ws_seqM (fun sl => ∃ G ns, DP R G ns ∧ sl = [none, some bagT, none, some (keysT true R), some (termsT P w CG (G.map headK)), some (atomsT P w []), some (.dk true []), some (.lst true (natT ns)), none, none, none, none, none, none, none, none, none, none, none, none, none, none, none, none, none, none, none]) ?_ ?_
      · refine ws_asg (we_call mono_mde (wo_cons (wb_var ⟨_, rfl⟩ (wo_cons (wb_var ⟨_, rfl⟩ (wo_nil ⟨_, _, rfl, true, R, rfl, d, by omega, fun G ns dp => ⟨_, rfl, ?_⟩⟩))))))
        walk_at "wn"
        exact ⟨G, ns, dp, rfl⟩
      rintro sl ⟨G, ns, dp, rfl⟩
      -- sums, order
      refine ws_seqM (fun sl => ∃ os : List Nat, os.Perm (List.range R.length) ∧ sl = [none, some bagT, none, some (keysT true R), none, some (atomsT P w []), some (.dk true []), some (.lst true (natT ns)), some (sumT P w C CG (G.map headK) [] []), some (.lst true (natT os)), none, none, none, none, none, none, none, none, none, none, none, none, none, none, none, none, none]) ?_ ?_
      · refine ws_par (wa_cons (we_mkSum rfl (wa_cons (we_call mono_mixed (wo_cons (wb_var ⟨_, rfl⟩ (wo_cons (wb_of (we_listRg (we_len (wb_var ⟨_, rfl⟩ ⟨_, _, rfl, rfl, ?_⟩)))))))))))
        rw [List.length_map]
        refine ⟨R.length, rfl, by omega, wo_nil ⟨_, _, rfl, true, _, rfl, natT_still _, by rw [natT_len, List.length_range]; omega, fun ys hp => ⟨_, rfl, ?_⟩⟩⟩
        obtain ⟨os, po, rfl⟩ := perm_map_inv hp rfl
        refine wa_nil ⟨_, _, rfl, Nat.le_of_ble_eq_true rfl, Nat.le_of_ble_eq_true rfl, by decide, by decide, ?_⟩
        exact ⟨os, po, rfl⟩
      rintro sl ⟨os, po, rfl⟩
      have hos : os.length = R.length := by rw [po.length_eq, List.length_range]
      -- all asked for
      refine ws_cut (fun sl => ∃ B kvs M x10 x11, LwOk P w R G ns B kvs M ∧ (∀ j, j < R.length → Known kvs j) ∧ sl = [none, some bagT, none, some (keysT true R), none, some (atomsT P w B), some (.dk true kvs), some (.lst true (natT ns)), some (sumT P w C CG (G.map headK) (B.map snK) M), some (.lst true (natT os)), x10, x11, none, none, none, none, none, none, none, none, none, none, none, none, none, none, none]) ?_ ?_
      · refine ws_for (wi_listS rfl (natT_still os) ?_)
        rw [natT_len]
        walk_at "dv nm"
        refine ⟨fun i sl => ∃ B kvs M x10 x11, LwOk P w R G ns B kvs M ∧ (∀ j ∈ os.take i, Known kvs j) ∧ sl = [none, some bagT, none, some (keysT true R), none, some (atomsT P w B), some (.dk true kvs), some (.lst true (natT ns)), some (sumT P w C CG (G.map headK) (B.map snK) M), none, x10, x11, none, none, none, none, none, none, none, none, none, none, none, none, none, none, none], ⟨[], [], [], none, none, LwOk.start d h29 dp, fun j h => (nomatch h), rfl⟩, ?_, ?_⟩
        · rintro i sl hi ⟨B, kvs, M, x10, x11, L, kn, rfl⟩
          have b29 := L.b29
          have hos2 : os[i]? = some os[i] := List.getElem?_eq_getElem hi
          obtain ⟨n, en⟩ : ∃ n, os[i] = n := ⟨_, rfl⟩
          rw [en] at hos2
          have hn : n < R.length := List.mem_range.mp (po.mem_iff.mp (List.mem_of_getElem? hos2))
          have ej : (natT os).getD i .non = .int (n : Int) := by
            unfold natT
            rw [List.getD_eq_getElem?_getD, List.getElem?_map, hos2]
            rfl
          have tk : os.take (i + 1) = os.take i ++ [n] := by rw [List.take_succ, hos2]; rfl
          dsimp only
          rw [ej, tk]
          walk_at "wn"
          refine ws_seq (ws_asg (we_call mono_tl (wo_cons (wb_of (we_call mono_ll (wo_cons (wb_var ⟨_, rfl⟩ (wo_cons (wb_var ⟨_, rfl⟩ (wo_cons (wb_var ⟨_, rfl⟩ (wo_cons (wb_var ⟨_, rfl⟩ (wo_nil ?_))))))))))))))
          refine ⟨_, _, rfl, true, R, B, kvs, n, rfl, L.d.rk, by omega, L.nd, L.few, L.fo, hn, by omega, fun B' kvs' o dd l v nd' few' fo' hd ev k1 k2 hv => ⟨_, rfl, ?_⟩⟩
          have b29' : B'.length ≤ 29 := Nat.le_trans few' (Nat.le_trans fo'.ki.len h29)
          have ls := ev_small d h29 b29' hn ev
          refine wo_nil ⟨_, _, rfl, o, dd, l, rfl, hd, by have := hd.few (ev.nfL).2; omega, _, rfl, ?_⟩
          walk_at "wn"
          walk_at "dv"
          refine we_callG mono_alikeD (wo_cons (wb_of (we_weak (we_meth mono_li rfl (sum_ins nLi) (wo_cons (wb_of (we_ixL (wb_var ⟨_, rfl⟩ (we_var rfl rfl ?_)))))))))
          refine ⟨true, _, (n : Int), .int ((nsF ns n : Nat) : Int), rfl, rfl, atI_nat (natT_at (by rw [dp.len]; exact hn)), rfl, ?_⟩
          refine wo_nil ⟨_, _, rfl, G, B, B', M, nsF ns n, rfl, L.sg, dp.lt hn, dp.same.vis v, fun l' M' e sg' => ⟨_, rfl, ?_⟩⟩
          refine ⟨_, wk_linT l', ?_⟩
          have L' := L.asked v fo' nd' few' sg'
          have el := L'.gl ev e
          subst el
          refine wo_cons (wb_var ⟨_, rfl⟩ (wo_nil ⟨_, _, rfl, alike_lin ls ?_⟩))
          refine ⟨_, rfl, ?_⟩
          refine ⟨_, rfl, ?_⟩
          refine if_no rfl ?_
          walk_at "dv"
          refine ⟨B', kvs', M', _, _, L', fun j hj => ?_, rfl⟩
          rcases List.mem_append.mp hj with hj | hj
          · exact k1 j (kn j hj)
          · rw [List.mem_singleton.mp hj]
            unfold Known
            rw [hv]
            rfl
        · rintro sl ⟨B, kvs, M, x10, x11, L, kn, rfl⟩
          rw [List.take_length] at kn
          dsimp only [Back]
          exact ⟨rfl, B, kvs, M, x10, x11, L, fun j hj => kn j (po.mem_iff.mpr (List.mem_range.mpr hj)), rfl⟩
      rintro sl ⟨B, kvs, M0, x10, x11, L0, kn, rfl⟩
      have b29 := L0.b29
      have gd := L0.gd
      have ndB := L0.nd
      have known : ∀ n, n < R.length → ∃ o dd l, valT kvs (.inl (n : Int)) = some (ldT P w false o dd) ∧ LdOk dd l ∧ Ev sumL R B n l ∧ LnS l ∧ dd.length ≤ 10000 := fun n hn => by
        obtain ⟨t, ht⟩ := Option.isSome_iff_exists.mp (kn n hn)
        obtain ⟨o, dd, l, rfl, hd, ev⟩ := L0.fo.val n t ht
        exact ⟨o, dd, l, ht, hd, ev, ev_small d h29 b29 hn ev, by have := hd.few (ev.nfL).2; omega⟩
      -- asked again
      refine ws_cut (fun sl => ∃ M, LwOk P w R G ns B kvs M ∧ sl = [none, some bagT, none, some (keysT true R), none, some (atomsT P w B), some (.dk true kvs), some (.lst true (natT ns)), some (sumT P w C CG (G.map headK) (B.map snK) M), none, none, none, none, none, none, none, none, none, none, none, none, none, none, none, none, none, none]) ?_ ?_
      · refine ws_dropO (s0 := [none, some bagT, none, some (keysT true R), none, some (atomsT P w B), some (.dk true kvs), some (.lst true (natT ns)), some (sumT P w C CG (G.map headK) (B.map snK) M0), none, none, none, none, none, none, none, none, none, none, none, none, none, none, none, none, none, none]) (by walk_at "dp") ?_
        refine ws_for (wi_range1 (wa_cons (we_int (wa_nil ⟨2, rfl, by omega, ?_⟩))))
        refine ⟨fun _ sl => ∃ M, LwOk P w R G ns B kvs M ∧ sl = [none, some bagT, none, some (keysT true R), none, some (atomsT P w B), some (.dk true kvs), some (.lst true (natT ns)), some (sumT P w C CG (G.map headK) (B.map snK) M), none, none, none, none, none, none, none, none, none, none, none, none, none, none, none, none, none, none], ⟨M0, L0, rfl⟩, ?_, fun sl e => e⟩
        rintro i sl hi ⟨M, L, rfl⟩
        walk_at "wn"
        refine ws_weakO ?_
        refine ws_dropO (s0 := [none, some bagT, none, some (keysT true R), none, some (atomsT P w B), some (.dk true kvs), some (.lst true (natT ns)), some (sumT P w C CG (G.map headK) (B.map snK) M), none, none, none, none, none, none, none, none, none, none, none, none, none, none, none, none, none, none]) (by walk_at "dp") ?_
        -- many
        refine ws_cut (fun sl => sl = [none, some bagT, none, some (keysT true R), none, some (atomsT P w B), some (.dk true kvs), some (.lst true (natT ns)), some (sumT P w C CG (G.map headK) (B.map snK) M), none, none, none, none, none, none, none, none, none, none, none, none, none, none, none, none, none, none]) ?_ ?_
        · walk_at "dv"
          refine we_callG mono_alikeD (wo_cons (wb_of (we_meth mono_manyS rfl (sum_ins nMa) (wo_nil ⟨_, _, rfl, _, _, _, rfl, _, rfl, ?_⟩))))
          rw [List.length_map]
          refine wo_cons (wb_of (we_lenN rfl ?_))
          rw [natoms]
          refine wo_nil ⟨_, _, rfl, alike_int (by rw [Int.natAbs_natCast]; omega) ?_⟩
          refine ⟨_, rfl, ?_⟩
          refine ⟨_, rfl, ?_⟩
          refine if_no rfl ?_
          walk_at "dv"
          rfl
        rintro sl rfl
        -- atoms
        refine ws_cut (fun sl => ∃ x11 x13, sl = [none, some bagT, none, some (keysT true R), none, some (atomsT P w B), some (.dk true kvs), some (.lst true (natT ns)), some (sumT P w C CG (G.map headK) (B.map snK) M), none, none, x11, none, x13, none, none, none, none, none, none, none, none, none, none, none, none, none]) ?_ ?_
        · refine ws_forNd rfl fun od es hk => ?_
          refine ⟨fun j sl => ∃ x11 x13, sl = [none, some bagT, none, some (keysT true R), none, some (nlT P w od es), some (.dk true kvs), some (.lst true (natT ns)), some (sumT P w C CG (G.map headK) (B.map snK) M), none, none, x11, none, x13, none, none, none, none, none, none, none, none, none, none, none, none, none], ⟨_, _, rfl⟩, ?_, ?_⟩
          · rintro j sl hj ⟨x11, x13, rfl⟩
            rw [natoms] at hj
            have hnm : B[j]? = some B[j] := List.getElem?_eq_getElem hj
            obtain ⟨nm, enm⟩ : ∃ nm, B[j] = nm := ⟨_, rfl⟩
            rw [enm] at hnm
            have ek : ((kvsOf (B.map nmK) 0).map (·.1)).getD j .none = nmK nm := by
              rw [kvsOf_keys, List.getD_eq_getElem?_getD, List.getElem?_map, hnm]
              rfl
            rw [ek]
            have st := kT_still (nmK nm)
            walk_at "wn"
            refine ws_seqM (fun sl => sl = [none, some bagT, none, some (keysT true R), none, some (nlT P w od es), some (.dk true kvs), some (.lst true (natT ns)), some (sumT P w C CG (G.map headK) (B.map snK) M), none, none, some (kT (snK nm)), none, some (kT (nmK nm)), none, none, none, none, none, none, none, none, none, none, none, none, none]) ?_ ?_
            · cases nm with
              | lt c =>
                have k0 : atI [T.str "letter", .str "read", .int (c : Int)] 0 = some (.str "letter") := rfl
                refine ws_asg (we_if (wt_test (we_op2 op2_eq (wb_of (we_ixT (wb_var ⟨_, rfl⟩ (we_int ⟨_, (0 : Int), .str "letter", rfl, rfl, k0, rfl, ?_⟩)))))))
                refine wb_of (we_str ⟨_, _, rfl, rfl, _, .str _ _, _, rfl, ?_⟩)
                refine if_yes (by decide +kernel) ?_
                refine we_tup (wa_cons (we_str (wa_cons (we_cutTd (k := 1) (we_var rfl rfl ⟨_, rfl, rfl, Nat.le_of_ble_eq_true rfl, ?_⟩)))))
                refine wa_nil ⟨Nat.le_of_ble_eq_true rfl, ?_⟩
                walk_at "wn"
                rfl
              | op oo lls =>
                have k0 : atI (kTs [.text "op", .text oo, .tup (lls.map linK)]) 0 = some (.str "op") := rfl
                refine ws_asg (we_if (wt_test (we_op2 op2_eq (wb_of (we_ixT (wb_var ⟨_, rfl⟩ (we_int ⟨_, (0 : Int), .str "op", rfl, rfl, k0, rfl, ?_⟩)))))))
                refine wb_of (we_str ⟨_, _, rfl, rfl, _, .str _ _, _, rfl, ?_⟩)
                refine if_no (by decide +kernel) ?_
                refine we_var rfl st ?_
                walk_at "wn"
                rfl
            rintro sl rfl
            walk_at "dv"
            refine we_callG mono_alikeD (wo_cons (wb_of (we_meth mono_at rfl (sum_ins nAt) (wo_cons (wb_of (we_ngetR ⟨_, rfl⟩ (we_var rfl st ⟨od, es, nmK nm, .int (j : Int), rfl, nmK_at nm, by rw [← hk]; exact atoms_val ndB hnm, rfl, ?_⟩)))))))
            refine wo_nil ⟨_, _, rfl, _, B.map snK, M, j, snK nm, rfl, by rw [List.getElem?_map, hnm]; rfl, _, rfl, ?_⟩
            refine wo_cons (wb_var ⟨_, rfl⟩ (wo_nil ⟨_, _, rfl, alike_nm gd b29 hnm ?_⟩))
            refine ⟨_, rfl, ?_⟩
            refine ⟨_, rfl, ?_⟩
            refine if_no rfl ?_
            walk_at "dv"
            exact ⟨_, _, rfl⟩
          · refine ⟨?_, ?_⟩
            · rintro j sl ⟨x11, x13, rfl⟩
              rfl
            · rintro sl ⟨x11, x13, rfl⟩
              exact ⟨x11, x13, rfl⟩
        rintro sl ⟨x11, x13, rfl⟩
        -- at
        refine ws_seqM (fun sl => ∃ n : Nat, n < R.length ∧ sl = [none, some bagT, none, some (keysT true R), none, some (atomsT P w B), some (.dk true kvs), some (.lst true (natT ns)), some (sumT P w C CG (G.map headK) (B.map snK) M), none, some (.int (n : Int)), x11, none, x13, none, none, none, none, none, none, none, none, none, none, none, none, none]) ?_ ?_
        · refine ws_asg (we_call mono_take (wo_cons (wb_var ⟨_, rfl⟩ (wo_cons (wb_of (we_len (wb_var ⟨_, rfl⟩ ⟨_, _, rfl, rfl, ?_⟩)))))))
          rw [List.length_map]
          refine wo_nil ⟨_, _, rfl, R.length, rfl, by omega, by omega, fun n hn => ⟨_, rfl, ?_⟩⟩
          walk_at "wn"
          exact ⟨n, hn, rfl⟩
        rintro sl ⟨n, hn, rfl⟩
        obtain ⟨o, dd, l, hv, hd, ev, ls, h1k⟩ := known n hn
        walk_at "dv"
        refine we_callG mono_alikeD (wo_cons (wb_of (we_weak (we_meth mono_li rfl (sum_ins nLi) (wo_cons (wb_of (we_ixL (wb_var ⟨_, rfl⟩ (we_var rfl rfl ?_)))))))))
        refine ⟨true, _, (n : Int), .int ((nsF ns n : Nat) : Int), rfl, rfl, atI_nat (natT_at (by rw [dp.len]; exact hn)), rfl, ?_⟩
        refine wo_nil ⟨_, _, rfl, G, B, B, M, nsF ns n, rfl, L.sg, dp.lt hn, dp.same.vis ev.vis, fun l' M' e sg' => ⟨_, rfl, ?_⟩⟩
        refine ⟨_, wk_linT l', ?_⟩
        have el := L.gl ev e
        subst el
        refine wo_cons (wb_of (we_call mono_tl (wo_cons (wb_of (we_dget ⟨_, rfl⟩ (we_var rfl rfl ⟨_, kvs, .inl (n : Int), ldT P w false o dd, rfl, rfl, rfl, hv, rfl, ?_⟩))))))
        refine wo_nil ⟨_, _, rfl, o, dd, l', rfl, hd, h1k, _, rfl, ?_⟩
        refine wo_nil ⟨_, _, rfl, alike_lin ls ?_⟩
        refine ⟨_, rfl, ?_⟩
        refine ⟨_, rfl, ?_⟩
        refine if_no rfl ?_
        walk_at "dv"
        exact ⟨[none, some bagT, none, some (keysT true R), none, some (atomsT P w B), some (.dk true kvs), some (.lst true (natT ns)), some (sumT P w C CG (G.map headK) (B.map snK) M'), none, none, none, none, none, none, none, none, none, none, none, none, none, none, none, none, none, none], by walk_at "dp", M', L.more sg', rfl⟩
      rintro sl ⟨M, L, rfl⟩
      -- own, reads
      refine ws_seqM (fun sl => ∃ rs : List Int, rs.length = 5 ∧ sl = [none, some bagT, none, some (keysT true R), none, some (atomsT P w B), some (.dk true kvs), some (.lst true (natT ns)), some (sumT P w C CG (G.map headK) (B.map snK) M), none, none, none, none, none, none, some (graphT P w []), some (.lst true (rs.map T.int)), none, none, none, none, none, none, none, none, none, none]) ?_ ?_
      · refine ws_par (wa_cons (we_call mono_lg (wo_nil ⟨_, _, rfl, rfl, _, rfl, wa_cons (we_lc (gown_name (by decide)) (wi_range1 (wa_cons (we_int (wa_nil ⟨(5 : Int), rfl, by decide, ?_⟩)))))⟩)))
        refine ⟨fun j hj => by revert hj; simp, ?_⟩
        walk_at "dv nm"
        refine ⟨fun i acc sl => ∃ rs : List Int, acc = rs.map T.int ∧ rs.length = i ∧ sl = [none, some bagT, none, some (keysT true R), none, some (atomsT P w B), some (.dk true kvs), some (.lst true (natT ns)), some (sumT P w C CG (G.map headK) (B.map snK) M), none, none, none, none, none, none, none, none, none, none, none, none, none, none, none, none, none, none], ⟨[], rfl, rfl, rfl⟩, ?_, ?_⟩
        · rintro i acc sl hi ⟨rs, rfl, hrs, rfl⟩
          refine ⟨by rw [List.length_map, hrs, sizeLine_eq]; have : i < 5 := hi; omega, ?_⟩
          walk_at "wn"
          refine wt_yes (if_yes rfl ?_)
          refine we_op2 op2_I0 (wb_of (we_call mono_take (wo_cons (wb_var ⟨_, rfl⟩ (wo_cons (wb_of (we_int (wo_nil ⟨_, _, rfl, 200, rfl, by decide, by decide, fun r hr => ⟨_, rfl, ?_⟩⟩))))))))
          refine wb_of (we_int ⟨_, _, rfl, rfl, (r : Int), 100, rfl, rfl, trivial, ?_⟩)
          exact ⟨rs ++ [(r : Int) - 100], by rw [List.map_append]; rfl, by rw [List.length_append, hrs]; rfl, rfl⟩
        · rintro acc sl ⟨rs, rfl, hrs, rfl⟩
          dsimp only [Back]
          refine wa_nil ⟨_, _, rfl, Nat.le_of_ble_eq_true rfl, Nat.le_of_ble_eq_true rfl, by decide, by decide, ?_⟩
          exact ⟨rs, hrs, rfl⟩
      rintro sl ⟨rs, hrs, rfl⟩
      -- mine
      walk_at "dv"
      refine ws_cut (fun sl => ∃ G2 ms x18, DP R G2 ms ∧ sl = [none, some bagT, none, some (keysT true R), none, some (atomsT P w B), some (.dk true kvs), some (.lst true (natT ns)), some (sumT P w C CG (G.map headK) (B.map snK) M), none, none, none, none, none, none, some (graphT P w (G2.map owK)), some (.lst true (rs.map T.int)), some (.lst true (natT ms)), x18, none, none, none, none, none, none, none, none]) ?_ ?_
      · refine ws_for (wi_listS rfl skey ?_)
        rw [List.length_map]
        walk_at "dv nm"
        refine ⟨fun i sl => ∃ G2 ms x18, DP (R.take i) G2 ms ∧ sl = [none, some bagT, none, none, none, some (atomsT P w B), some (.dk true kvs), some (.lst true (natT ns)), some (sumT P w C CG (G.map headK) (B.map snK) M), none, none, none, none, none, none, some (graphT P w (G2.map owK)), some (.lst true (rs.map T.int)), some (.lst true (natT ms)), x18, none, none, none, none, none, none, none, none], ⟨[], [], none, DP.nil, rfl⟩, ?_, ?_⟩
        · rintro i sl hi ⟨G2, ms, x18, dq, rfl⟩
          have hr : R[i]? = some R[i] := List.getElem?_eq_getElem hi
          obtain ⟨r, er⟩ : ∃ r, R[i] = r := ⟨_, rfl⟩
          rw [er] at hr
          have dn := dq.next d hr
          have tl : (R.take i).length = i := by rw [List.length_take]; omega
          have gl : (G2.map owK).length < 3000 := by rw [List.length_map]; have := dq.few; omega
          have nl : ms.length = i := by rw [dq.len, tl]
          have hadd : addK (G2.map owK) (owK (mapKr (nsF ms) r)) = (addQ G2 (mapKr (nsF ms) r)).map owK := add_mapG owK_inj _ _
          have hidx : (G2.map owK).idxOf (owK (mapKr (nsF ms) r)) = G2.idxOf (mapKr (nsF ms) r) := idx_mapG owK_inj _ _
          dsimp only
          rw [krT_getD hr]
          have sk := krT_still r
          walk_at "wn"
          obtain ⟨ks, eks, hd8⟩ := owK_tup (mapKr (nsF ms) r)
          have ek : kT (.tup ks) = krT (mapKr (nsF ms) r) := by rw [← eks, owK_T]
          rw [eks] at hadd hidx
          cases r with
          | lt c =>
            have k0 : atI [T.str "letter", .str "read", .int (c : Int)] 0 = some (.str "letter") := rfl
            refine ws_drop (we_append ⟨_, rfl⟩ (we_call mono_ln (wo_cons (wb_var ⟨_, rfl⟩ (wo_cons (wb_of (we_if (wt_test (we_op2 op2_eq (wb_of (we_ixT (wb_var ⟨_, rfl⟩ (we_int ⟨_, (0 : Int), .str "letter", rfl, rfl, k0, rfl, ?_⟩)))))))))))))
            refine wb_of (we_str ⟨_, _, rfl, rfl, _, .str _ _, _, rfl, ?_⟩)
            refine if_yes (by decide +kernel) ?_
            refine we_var rfl sk (wo_nil ⟨_, _, rfl, G2.map owK, ks, by rw [ek]; rfl, by omega, gl, _, by rw [ek]; rfl, ?_⟩)
            rw [hadd, hidx]
            refine ⟨_, rfl, by rw [natT_len, sizeLine_eq]; omega, _, _, some (krT (.lt c)), dn, ?_⟩
            rw [natT_snoc]
            rfl
          | op oo ps =>
            obtain ⟨ho, hps⟩ := d.rk i oo ps hr
            have hp3 := ops3 ho
            have k0 : atI [T.str "op", .str oo, .tup (natT ps)] 0 = some (.str "op") := rfl
            refine ws_drop (we_append ⟨_, rfl⟩ (we_call mono_ln (wo_cons (wb_var ⟨_, rfl⟩ (wo_cons (wb_of (we_if (wt_test (we_op2 op2_eq (wb_of (we_ixT (wb_var ⟨_, rfl⟩ (we_int ⟨_, (0 : Int), .str "op", rfl, rfl, k0, rfl, ?_⟩)))))))))))))
            refine wb_of (we_str ⟨_, _, rfl, rfl, _, .str _ _, _, rfl, ?_⟩)
            refine if_no (by decide +kernel) ?_
            refine we_tup (wa_cons (we_str (wa_cons (we_ixT (wb_var ⟨_, rfl⟩ (we_int ⟨_, (1 : Int), .str oo, rfl, rfl, rfl, rfl, ?_⟩))))))
            refine wa_cons (we_opParts (ps := ps) (ns := ms) rfl rfl rfl rfl (by decide) (by decide) (fun x hx => by rw [nl]; exact hps x hx) (by omega) (wa_nil ⟨Nat.le_of_ble_eq_true rfl, ?_⟩))
            refine wo_nil ⟨_, _, rfl, G2.map owK, ks, by rw [ek]; rfl, by omega, gl, _, by rw [ek]; rfl, ?_⟩
            rw [hadd, hidx]
            refine ⟨_, rfl, by rw [natT_len, sizeLine_eq]; omega, _, _, some (krT (.op oo ps)), dn, ?_⟩
            rw [natT_snoc]
            rfl
        · rintro sl ⟨G2, ms, x18, dq, rfl⟩
          rw [List.take_length] at dq
          dsimp only [Back]
          exact ⟨rfl, G2, ms, x18, dq, rfl⟩
      rintro sl ⟨G2, ms, x18, dq, rfl⟩
      have hg2 : G2.length ≤ 29 := Nat.le_trans dq.few h29
      -- worths
      refine ws_seqM (fun sl => ∃ m : Int, sl = [none, some bagT, none, some (keysT true R), none, some (atomsT P w B), some (.dk true kvs), some (.lst true (natT ns)), some (sumT P w C CG (G.map headK) (B.map snK) M), none, none, none, none, none, none, some (graphT P w (G2.map owK)), some (.lst true (rs.map T.int)), some (.lst true (natT ms)), x18, none, some (.lst true ((wts (hshN m) (fun k => rs.getD k 0) G2).map T.int)), none, none, none, none, none, none]) ?_ ?_
      · refine ws_asg (we_call mono_wor (wo_cons (wb_var ⟨_, rfl⟩ (wo_cons (wb_of (we_tup (wa_cons (we_str (wa_cons (we_call mono_take (wo_cons (wb_var ⟨_, rfl⟩ (wo_cons (wb_of (we_int ?_)))))))))))))))
        refine wo_nil ⟨_, _, rfl, 50, rfl, by decide, by decide, fun m hm => ⟨_, rfl, ?_⟩⟩
        refine wa_nil ⟨Nat.le_of_ble_eq_true rfl, ?_⟩
        refine wo_cons (wb_var ⟨_, rfl⟩ ?_)
        refine wo_nil ⟨_, _, rfl, G2, (m : Int), true, rs, rfl, dq.rk, by omega, fun i k h => by rw [hrs]; have := dq.let' i k h; omega, _, rfl, ?_⟩
        walk_at "wn"
        exact ⟨(m : Int), rfl⟩
      rintro sl ⟨m, rfl⟩
      have wev : ∀ {n : Nat} {l : Ln}, Ev sumL R B n l → (wts (hshN m) (fun k => rs.getD k 0) G2).getD (nsF ms n) 0 = evL (vals (hshN m) (fun k => rs.getD k 0) B) l := fun e => wv_ev gd.ok ndB dq e
      obtain ⟨vs, evs⟩ : ∃ vs, vals (hshN m) (fun k => rs.getD k 0) B = vs := ⟨_, rfl⟩
      have wl : (wts (hshN m) (fun k => rs.getD k 0) G2).length = G2.length := wts_len _
      obtain ⟨ws, ews⟩ : ∃ ws, wts (hshN m) (fun k => rs.getD k 0) G2 = ws := ⟨_, rfl⟩
      rw [evs, ews] at wev
      rw [ews] at wl ⊢
      -- told
      refine ws_seqM (fun sl => sl = [none, some bagT, none, some (keysT true R), none, some (atomsT P w B), some (.dk true kvs), some (.lst true (natT ns)), some (sumT P w C CG (G.map headK) (B.map snK) M), none, none, none, none, none, none, some (graphT P w (G2.map owK)), some (.lst true (rs.map T.int)), some (.lst true (natT ms)), x18, none, some (.lst true (ws.map T.int)), some (.dk true (nonK B.length)), none, none, none, none, none]) ?_ ?_
      · refine ws_asg (we_dictNon (we_lcNd (gown_name (by decide)) rfl (by decide) fun od es hk => ?_))
        refine ⟨fun j acc sl => acc = (List.range j).map nonP ∧ sl = [none, some bagT, none, some (keysT true R), none, some (nlT P w od es), some (.dk true kvs), some (.lst true (natT ns)), some (sumT P w C CG (G.map headK) (B.map snK) M), none, none, none, none, none, none, some (graphT P w (G2.map owK)), some (.lst true (rs.map T.int)), some (.lst true (natT ms)), x18, none, some (.lst true (ws.map T.int)), none, none, none, none, none, none], ⟨rfl, rfl⟩, ?_, ?_, ?_⟩
        · rintro j acc sl ⟨rfl, rfl⟩
          rfl
        · rintro j acc sl hj ⟨rfl, rfl⟩
          rw [natoms] at hj
          have hnm : B[j]? = some B[j] := List.getElem?_eq_getElem hj
          obtain ⟨nm, enm⟩ : ∃ nm, B[j] = nm := ⟨_, rfl⟩
          rw [enm] at hnm
          have ek : ((kvsOf (B.map nmK) 0).map (·.1)).getD j .none = nmK nm := by
            rw [kvsOf_keys, List.getD_eq_getElem?_getD, List.getElem?_map, hnm]
            rfl
          rw [ek]
          have st := kT_still (nmK nm)
          refine ⟨by rw [List.length_map, List.length_range, sizeLine_eq]; omega, ?_⟩
          walk_at "wn"
          refine wt_yes (if_yes rfl ?_)
          refine we_tup (wa_cons (we_ngetR ⟨_, rfl⟩ (we_var rfl st ⟨od, es, nmK nm, .int (j : Int), rfl, nmK_at nm, by rw [← hk]; exact atoms_val ndB hnm, rfl, ?_⟩)))
          refine wa_cons (we_non (wa_nil ⟨Nat.le_of_ble_eq_true rfl, ?_⟩))
          exact ⟨by rw [List.range_succ, List.map_append]; rfl, rfl⟩
        · rintro acc sl ⟨rfl, rfl⟩
          rw [natoms]
          refine ⟨true, B.length, rfl, ?_⟩
          walk_at "wn"
      rintro sl rfl
      have nth : ∀ {n : Nat}, n < R.length → nsF ms n < ws.length := fun hn => by rw [wl]; exact dq.lt hn
      refine ws_cut (fun sl => ∃ tk x10 x22, TdOk B.length vs tk ∧ sl = [none, some bagT, none, some (keysT true R), none, some (atomsT P w B), some (.dk true kvs), some (.lst true (natT ns)), some (sumT P w C CG (G.map headK) (B.map snK) M), none, x10, none, none, none, none, some (graphT P w (G2.map owK)), some (.lst true (rs.map T.int)), some (.lst true (natT ms)), x18, none, some (.lst true (ws.map T.int)), some (.dk true tk), x22, none, none, none, none]) ?_ ?_
      · refine ws_for (wi_range1 (wa_cons (we_len (wb_var ⟨_, rfl⟩ ⟨_, _, rfl, rfl, wa_nil ⟨_, rfl, ?_⟩⟩))))
        rw [List.length_map, Int.toNat_natCast]
        refine ⟨by omega, ?_⟩
        refine ⟨fun _ sl => ∃ tk x10 x22, TdOk B.length vs tk ∧ sl = [none, some bagT, none, some (keysT true R), none, some (atomsT P w B), some (.dk true kvs), some (.lst true (natT ns)), some (sumT P w C CG (G.map headK) (B.map snK) M), none, x10, none, none, none, none, some (graphT P w (G2.map owK)), some (.lst true (rs.map T.int)), some (.lst true (natT ms)), x18, none, some (.lst true (ws.map T.int)), some (.dk true tk), x22, none, none, none, none], ⟨_, none, none, TdOk.start _ _, rfl⟩, ?_, fun sl e => e⟩
        rintro n sl hn ⟨tk, x10, x22, td, rfl⟩
        show WG fr _ _ _ _ (.int (0 + (n : Int))) _
        rw [Int.zero_add]
        obtain ⟨o, dd, l, hv, hd, ev, ls, h1k⟩ := known n hn
        walk_at "wn"
        refine ws_seq (ws_asg (we_dget ⟨_, rfl⟩ (we_var rfl rfl ⟨_, kvs, .inl (n : Int), ldT P w false o dd, rfl, rfl, rfl, hv, rfl, ?_⟩)))
        walk_at "wn"
        have hl : IsLd P w (ldT P w false o dd) dd := isLd_f
        refine ws_if (wt_and (wt_test (we_op2 op2_eq (wb_of (we_llen rfl hl ?_)))))
        refine wb_of (we_int ⟨_, _, rfl, rfl, _, .int (dd.length : Int) 1, ?_⟩)
        rw [if_neg Bool.false_ne_true]
        refine ⟨_, rfl, ?_⟩
        by_cases h1 : dd.length = 1
        · obtain ⟨kk, x, rfl, hu⟩ := one_unit hd h1
          refine if_yes rfl ?_
          have h0 : atI [prL (kk, x)] 0 = some (prL (kk, x)) := rfl
          have h01 : atI [leafT kk, T.int x] 1 = some (T.int x) := rfl
          have slf : ∀ k : Leaf, (leafT k).still = true := fun k => by cases k <;> rfl
          have spr : (prL (kk, x)).still = true := by
            show ((leafT kk).still && (true && true)) = true
            rw [slf kk]
            rfl
          refine wt_and (wt_test (we_op2 op2_eq (wb_of (we_ixT (wb_of (we_ixL (wb_of (we_litems1 rfl hl (we_int ⟨true, _, (0 : Int), _, rfl, rfl, h0, spr, ?_⟩)))))))))
          refine we_int ⟨_, (1 : Int), _, rfl, rfl, h01, rfl, ?_⟩
          refine wb_of (we_int ⟨_, _, rfl, rfl, _, .int x 1, ?_⟩)
          rw [if_neg Bool.false_ne_true]
          refine ⟨_, rfl, ?_⟩
          by_cases hx : x = 1
          · refine if_yes (decide_eq_true hx) ?_
            refine wt_test (we_lin (neg := true) (we_non ⟨_, _, .none, rfl, hl, rfl, ?_⟩))
            rw [if_pos rfl]
            refine ⟨_, rfl, ?_⟩
            cases hn0 : lkD [(kk, x)] .none with
            | some y =>
              refine if_no rfl ?_
              try refine if_no rfl ?_
              walk_at "dv"
              exact ⟨tk, _, _, td, rfl⟩
            | none =>
              refine if_yes rfl ?_
              obtain ⟨i, rfl, el⟩ := hu hx hn0
              have hi : i < B.length := by
                have := (ev.nfL).2
                rw [el] at this
                exact this _ List.mem_cons_self
              have wn := wev ev
              rw [el, evL_unit] at wn
              obtain ⟨t1, t2⟩ := td_is td hi
              have st1 : (tdT tk i).still = true := by rcases t2 with e | e <;> rw [e] <;> rfl
              have h0i : atI [T.int (i : Int)] 0 = some (T.int (i : Int)) := rfl
              refine ws_dput (we_if (wt_test (we_op2 op2_isN (wb_of (we_dget ⟨_, rfl⟩ (we_ixL (wb_of (we_llist rfl hl (we_int ⟨true, _, (0 : Int), _, rfl, rfl, h0i, rfl, ?_⟩)))))))))
              refine ⟨_, tk, .inl (i : Int), _, rfl, rfl, rfl, t1, st1, ?_⟩
              refine wb_of (we_non ⟨_, _, rfl, rfl, ?_, rfl, ?_⟩)
              · rcases t2 with e | e <;> rw [e]
                · exact .inl rfl
                · exact .inr rfl
              rw [if_neg Bool.false_ne_true]
              refine ⟨_, rfl, ?_⟩
              have fin : ∀ t : T, t = .int (vs.getD i 0) → TdOk B.length vs (putT tk (.inl (i : Int)) t) := fun t e => td.put hi e
              rcases t2 with e | e
              · refine if_yes (by rw [e]; rfl) ?_
                refine we_ixL (wb_var ⟨_, rfl⟩ (we_ixL (wb_var ⟨_, rfl⟩ (we_var rfl rfl ?_))))
                refine ⟨true, _, (n : Int), .int ((nsF ms n : Nat) : Int), rfl, rfl, atI_nat (natT_at (by rw [dq.len]; exact hn)), rfl, ?_⟩
                refine ⟨true, _, ((nsF ms n : Nat) : Int), .int (ws.getD (nsF ms n) 0), rfl, rfl, atI_nat (intT_at (nth hn)), rfl, ⟨_, rfl⟩, ?_⟩
                refine we_ixL (wb_of (we_llist rfl hl (we_int ⟨true, _, (0 : Int), _, rfl, rfl, h0i, rfl, ?_⟩)))
                refine ⟨tk, .inl (i : Int), rfl, rfl, rfl, td.ki.still, by have := td.ki.len; rw [sizeLine_eq]; omega, ?_⟩
                exact ⟨_, _, _, fin _ (by rw [wn]), rfl⟩
              · refine if_no (by rw [e]; rfl) ?_
                refine we_dget ⟨_, rfl⟩ (we_ixL (wb_of (we_llist rfl hl (we_int ⟨true, _, (0 : Int), _, rfl, rfl, h0i, rfl, ?_⟩))))
                refine ⟨_, tk, .inl (i : Int), _, rfl, rfl, rfl, t1, st1, ⟨_, rfl⟩, ?_⟩
                refine we_ixL (wb_of (we_llist rfl hl (we_int ⟨true, _, (0 : Int), _, rfl, rfl, h0i, rfl, ?_⟩)))
                refine ⟨tk, .inl (i : Int), rfl, rfl, st1, td.ki.still, by have := td.ki.len; rw [sizeLine_eq]; omega, ?_⟩
                exact ⟨_, _, _, fin _ e, rfl⟩
          · refine if_no (decide_eq_false hx) ?_
            try refine if_no rfl ?_
            walk_at "dv"
            exact ⟨tk, _, _, td, rfl⟩
        · refine if_no (decide_eq_false (by omega)) ?_
          try refine if_no rfl ?_
          walk_at "dv"
          exact ⟨tk, _, _, td, rfl⟩
      rintro sl ⟨tk, x10, x22, td, rfl⟩
      -- what is summed is the worth
      refine ws_dropO (s0 := [none, some bagT, none, some (keysT true R), none, none, none, some (.lst true (natT ns)), some (sumT P w C CG (G.map headK) (B.map snK) M), none, none, none, none, none, none, none, none, some (.lst true (natT ms)), none, none, some (.lst true (ws.map T.int)), some (.dk true tk), none, none, none, none, none]) (by walk_at "dp") ?_
      refine ws_for (wi_range1 (wa_cons (we_len (wb_var ⟨_, rfl⟩ ⟨_, _, rfl, rfl, wa_nil ⟨_, rfl, ?_⟩⟩))))
      rw [List.length_map, Int.toNat_natCast]
      refine ⟨by omega, ?_⟩
      refine ⟨fun _ sl => ∃ M, LwOk P w R G ns B kvs M ∧ sl = [none, some bagT, none, some (keysT true R), none, none, none, some (.lst true (natT ns)), some (sumT P w C CG (G.map headK) (B.map snK) M), none, none, none, none, none, none, none, none, some (.lst true (natT ms)), none, none, some (.lst true (ws.map T.int)), some (.dk true tk), none, none, none, none, none], ⟨M, L, rfl⟩, ?_, ?_⟩
      · rintro n sl hn ⟨M, L, rfl⟩
        show WG fr _ _ _ _ (.int (0 + (n : Int))) _
        rw [Int.zero_add]
        obtain ⟨o, dd, l, hv, hd, ev, ls, h1k⟩ := known n hn
        walk_at "wn"
        refine ws_weakO ?_
        refine ws_seqM (fun sl => ∃ M', LwOk P w R G ns B kvs M' ∧ sl = [none, some bagT, none, some (keysT true R), none, none, none, some (.lst true (natT ns)), some (sumT P w C CG (G.map headK) (B.map snK) M'), none, some (.int (n : Int)), none, none, none, none, none, none, some (.lst true (natT ms)), none, none, some (.lst true (ws.map T.int)), some (.dk true tk), none, some (.int l.c), some (.ptp (l.ts.map prI)), none, none]) ?_ ?_
        · refine ws_asg (we_meth mono_li rfl (sum_ins nLi) (wo_cons (wb_of (we_ixL (wb_var ⟨_, rfl⟩ (we_var rfl rfl ?_))))))
          refine ⟨true, _, (n : Int), .int ((nsF ns n : Nat) : Int), rfl, rfl, atI_nat (natT_at (by rw [dp.len]; exact hn)), rfl, ?_⟩
          refine wo_nil ⟨_, _, rfl, G, B, B, M, nsF ns n, rfl, L.sg, dp.lt hn, dp.same.vis ev.vis, fun l' M' e sg' => ⟨_, rfl, ?_⟩⟩
          have el := L.gl ev e
          subst el
          refine wg_tup rfl (wgs_cons ?_)
          walk_at "wn"
          refine wgs_cons ?_
          walk_at "wn"
          exact wgs_nil ⟨M', L.more sg', rfl⟩
        rintro sl ⟨M', L', rfl⟩
        refine ws_wk 24 rfl wk_ptp ?_
        refine ws_dropO (s0 := [none, some bagT, none, some (keysT true R), none, none, none, some (.lst true (natT ns)), some (sumT P w C CG (G.map headK) (B.map snK) M'), none, some (.int (n : Int)), none, none, none, none, none, none, some (.lst true (natT ms)), none, none, some (.lst true (ws.map T.int)), some (.dk true tk), none, some (.int l.c), some (.tup (l.ts.map prI)), none, none]) (by walk_at "dp") ?_
        have lB := (ev.nfL).2
        have l29 := ls.few
        obtain ⟨f1, f2⟩ := td_flats td l.ts lB
        have spi : stillA (l.ts.map prI) = true := prIs_still _
        have stu : (T.tup (l.ts.map prI)).still = true := by unfold T.still; exact spi
        have item : ∀ i, (hi : i < l.ts.length) → ∃ p, l.ts[i]? = some p ∧ (l.ts.map prI).getD i .non = prI p ∧ l.ts.take (i + 1) = l.ts.take i ++ [p] := fun i hi => by
          have h := List.getElem?_eq_getElem hi
          refine ⟨l.ts[i], h, by rw [List.getD_eq_getElem?_getD, List.getElem?_map, h]; rfl, by rw [List.take_succ, h]; rfl⟩
        have tdst : ∀ {i : Nat}, i < B.length → (tdT tk i).still = true := fun hi => by
          rcases (td_is td hi).2 with e | e <;> rw [e] <;> rfl
        refine ws_if (wt_test (we_op2 op2_in (wb_of (we_non (wb_of (we_lc (gown_name2 (by decide) (by decide)) (wi_tup (we_var rfl stu ⟨_, rfl, spi, ?_⟩))))))))
        refine ⟨fun j hj => by revert hj; simp, ?_⟩
        rw [List.length_map]
        try walk_at "dv nm"
        refine ⟨fun i acc sl => acc = (l.ts.take i).map (fun p => tdT tk p.1) ∧ sl = [none, some bagT, none, some (keysT true R), none, none, none, some (.lst true (natT ns)), some (sumT P w C CG (G.map headK) (B.map snK) M'), none, some (.int (n : Int)), none, none, none, none, none, none, some (.lst true (natT ms)), none, none, some (.lst true (ws.map T.int)), some (.dk true tk), none, some (.int l.c), some (.tup (l.ts.map prI)), none, none], ⟨rfl, rfl⟩, ?_, ?_⟩
        · rintro i acc sl hi ⟨rfl, rfl⟩
          obtain ⟨p, e1, e2, e3⟩ := item i hi
          have hp := lB p (List.mem_of_getElem? e1)
          dsimp only
          rw [e2, e3]
          refine ⟨by rw [List.length_map, List.length_take, sizeLine_eq]; omega, ?_⟩
          refine wg_tup rfl (wgs_cons ?_)
          walk_at "wn"
          refine wgs_cons ?_
          walk_at "wn"
          refine wgs_nil ?_
          refine wt_yes (if_yes rfl ?_)
          refine we_dget ⟨_, rfl⟩ (we_var rfl rfl ⟨_, tk, .inl (p.1 : Int), tdT tk p.1, rfl, rfl, rfl, (td_is td hp).1, tdst hp, ?_⟩)
          exact ⟨by rw [List.map_append]; rfl, rfl⟩
        · rintro acc sl ⟨rfl, rfl⟩
          rw [List.take_length]
          dsimp only [Back]
          refine ⟨_, _, rfl, rfl, .non, _, _, rfl, rfl, f1, ?_⟩
          rw [if_pos rfl]
          refine ⟨_, rfl, ?_⟩
          cases hin : inV .non (l.ts.map fun p => tdV (tdT tk p.1)) with
          | true =>
            refine if_no rfl ?_
            walk_at "dv"
            exact ⟨[none, some bagT, none, some (keysT true R), none, none, none, some (.lst true (natT ns)), some (sumT P w C CG (G.map headK) (B.map snK) M'), none, none, none, none, none, none, none, none, some (.lst true (natT ms)), none, none, some (.lst true (ws.map T.int)), some (.dk true tk), none, none, none, none, none], by walk_at "dp", M', L', rfl⟩
          | false =>
            refine if_yes rfl ?_
            have told := f2 hin
            refine ws_if (wt_test (we_op2 op2_ne (wb_of (we_op2 op2_I0 (wb_var ⟨_, rfl⟩ (wb_of (we_sum (we_lc (gown_name2 (by decide) (by decide)) (wi_tup (we_var rfl stu ⟨_, rfl, spi, ?_⟩))))))))))
            refine ⟨fun j hj => by revert hj; simp, ?_⟩
            rw [List.length_map]
            try walk_at "dv nm"
            refine ⟨fun i acc sl => acc = ((l.ts.take i).map fun p => p.2 * vs.getD p.1 0).map T.int ∧ sl = [none, some bagT, none, some (keysT true R), none, none, none, some (.lst true (natT ns)), some (sumT P w C CG (G.map headK) (B.map snK) M'), none, some (.int (n : Int)), none, none, none, none, none, none, some (.lst true (natT ms)), none, none, some (.lst true (ws.map T.int)), some (.dk true tk), none, some (.int l.c), some (.tup (l.ts.map prI)), none, none], ⟨rfl, rfl⟩, ?_, ?_⟩
            · rintro i acc sl hi ⟨rfl, rfl⟩
              obtain ⟨p, e1, e2, e3⟩ := item i hi
              have hpm := List.mem_of_getElem? e1
              have hp := lB p hpm
              have hb := ls.bd.2 p hpm
              have big : bigN < 2 ^ 60 := by decide
              dsimp only
              rw [e2, e3]
              refine ⟨by rw [List.length_map, List.length_map, List.length_take, sizeLine_eq]; omega, ?_⟩
              refine wg_tup rfl (wgs_cons ?_)
              walk_at "wn"
              refine wgs_cons ?_
              walk_at "wn"
              refine wgs_nil ?_
              refine wt_yes (if_yes rfl ?_)
              refine we_op2 op2_I (wb_var ⟨_, rfl⟩ (wb_of (we_dget ⟨_, rfl⟩ (we_var rfl rfl ⟨_, tk, .inl (p.1 : Int), tdT tk p.1, rfl, rfl, rfl, (td_is td hp).1, tdst hp, ?_⟩))))
              rw [told p hpm]
              refine ⟨_, _, rfl, rfl, p.2, vs.getD p.1 0, rfl, rfl, .inl ⟨by omega, by omega⟩, ?_⟩
              exact ⟨by rw [List.map_append, List.map_append]; rfl, rfl⟩
            · rintro acc sl ⟨rfl, rfl⟩
              rw [List.take_length]
              dsimp only [Back]
              refine ⟨true, _, rfl, _, _, rfl, rfl, l.c, _, rfl, rfl, trivial, ?_⟩
              refine wb_of (we_ixL (wb_var ⟨_, rfl⟩ (we_ixL (wb_var ⟨_, rfl⟩ (we_var rfl rfl ?_)))))
              refine ⟨true, _, (n : Int), .int ((nsF ms n : Nat) : Int), rfl, rfl, atI_nat (natT_at (by rw [dq.len]; exact hn)), rfl, ?_⟩
              refine ⟨true, _, ((nsF ms n : Nat) : Int), .int (ws.getD (nsF ms n) 0), rfl, rfl, atI_nat (intT_at (nth hn)), rfl, ?_⟩
              refine ⟨_, _, rfl, rfl, _, .int (evL vs l) (ws.getD (nsF ms n) 0), _, rfl, ?_⟩
              rw [wev ev, decide_eq_true rfl]
              refine if_no rfl ?_
              walk_at "dv"
              exact ⟨[none, some bagT, none, some (keysT true R), none, none, none, some (.lst true (natT ns)), some (sumT P w C CG (G.map headK) (B.map snK) M'), none, none, none, none, none, none, none, none, some (.lst true (natT ms)), none, none, some (.lst true (ws.map T.int)), some (.dk true tk), none, none, none, none, none], by walk_at "dp", M', L', rfl⟩
      · rintro sl ⟨M, L, rfl⟩
        exact ⟨[none, some bagT, none, none, none, none, none, none, none, none, none, none, none, none, none, none, none, none, none, none, none, none, none, none, none, none, none], by walk_at "dp", rfl⟩
    · rintro sl rfl
      exact ws_ret (we_bl rfl)
  · subst e
    obtain ⟨Z, f, z⟩ := r.top
    obtain rfl := v_bl z
    exact k _
end
end Rs
set_option maxHeartbeats 4000000
namespace Rs
open PySem L2 PySem.Spec PyProof.Rows PySem.W PySem.HandSPX LamX
theorem all_mk {w : World} {K : PySem.W.Frag} {h : Heap} {mg : Str → Option Value} {fa fSc fAd fLo fIss fSul fB fTa fSo fMi fA fLg fLn fApl fWor fDt fPl fLl fTl fMde fLa C fI fAn fMd fLi fAt fMa CG fGI fGNu fGLe fGNo fGHe fGIs fGKe fGOp fGPa : Addr} (X : K.In h) (G : h.Ns mainGlobals mg) (hfa : mg "law" = some (.ref fa))
    {odSc anSc odAd anAd odLo anLo odIss anIss odSul anSul odB anB odTa anTa odSo anSo odMi anMi odA anA odLg anLg odLn anLn odApl anApl odWor anWor odDt anDt odPl anPl odLl anLl odTl anTl odMde anMde odLa anLa odI anI odAn anAn odMd anMd odLi anLi odAt anAt odMa anMa odGI anGI odGNu anGNu odGLe anGLe odGNo anGNo odGHe anGHe odGIs anGIs odGKe anGKe odGOp anGOp odGPa anGPa : Option Addr} {slSc slAd slLo slIss slSul slB slTa slSo slMi slA slLg slLn slApl slWor slDt slPl slLl slTl slMde slLa slI slAn slMd slLi slAt slMa slGI slGNu slGLe slGNo slGHe slGIs slGKe slGOp slGPa : Array (Option Value)} {ocSc kVSc dcSc pmSc ctSc cdSc ocAd kVAd dcAd pmAd ctAd cdAd ocLo kVLo dcLo pmLo ctLo cdLo ocIss kVIss dcIss pmIss ctIss cdIss ocSul kVSul dcSul pmSul ctSul cdSul ocB kVB dcB pmB ctB cdB ocTa kVTa dcTa pmTa ctTa cdTa ocSo kVSo dcSo pmSo ctSo cdSo ocMi kVMi dcMi pmMi ctMi cdMi ocA kVA dcA pmA ctA cdA ocLg kVLg dcLg pmLg ctLg cdLg ocLn kVLn dcLn pmLn ctLn cdLn ocApl kVApl dcApl pmApl ctApl cdApl ocWor kVWor dcWor pmWor ctWor cdWor ocDt kVDt dcDt pmDt ctDt cdDt ocPl kVPl dcPl pmPl ctPl cdPl ocLl kVLl dcLl pmLl ctLl cdLl ocTl kVTl dcTl pmTl ctTl cdTl ocMde kVMde dcMde pmMde ctMde cdMde ocLa kVLa dcLa pmLa ctLa cdLa ocI kVI dcI pmI ctI cdI ocAn kVAn dcAn pmAn ctAn cdAn ocMd kVMd dcMd pmMd ctMd cdMd ocLi kVLi dcLi pmLi ctLi cdLi ocAt kVAt dcAt pmAt ctAt cdAt ocMa kVMa dcMa pmMa ctMa cdMa ocGI kVGI dcGI pmGI ctGI cdGI ocGNu kVGNu dcGNu pmGNu ctGNu cdGNu ocGLe kVGLe dcGLe pmGLe ctGLe cdGLe ocGNo kVGNo dcGNo pmGNo ctGNo cdGNo ocGHe kVGHe dcGHe pmGHe ctGHe cdGHe ocGIs kVGIs dcGIs pmGIs ctGIs cdGIs ocGKe kVGKe dcGKe pmGKe ctGKe cdGKe ocGOp kVGOp dcGOp pmGOp ctGOp cdGOp ocGPa kVGPa dcGPa pmGPa ctGPa cdGPa : Value} {t_MOST_NODES : Tok}
    (aSc : PySem.W.nsIn K mainGlobals "scaled" = some (some (.ref fSc)))
    (lSc : K.lookup fSc = some ⟨ocSc, odSc, .func (PySem.W.fnOf "scaled" "scaled" (defArgs sSca) (defBody sSca) (defScope sSca) .none kVSc dcSc pmSc anSc cdSc ctSc), slSc⟩)
    (c_Sc : PySem.W.codeIn K cdSc "scaled" = true)
    (kSc : PySem.W.keepIn K (.ref fSc) = true)
    (aAd : PySem.W.nsIn K mainGlobals "added" = some (some (.ref fAd)))
    (lAd : K.lookup fAd = some ⟨ocAd, odAd, .func (PySem.W.fnOf "added" "added" (defArgs sAdd) (defBody sAdd) (defScope sAdd) .none kVAd dcAd pmAd anAd cdAd ctAd), slAd⟩)
    (c_Ad : PySem.W.codeIn K cdAd "added" = true)
    (kAd : PySem.W.keepIn K (.ref fAd) = true)
    (aLo : PySem.W.nsIn K mainGlobals "linear_of" = some (some (.ref fLo)))
    (lLo : K.lookup fLo = some ⟨ocLo, odLo, .func (PySem.W.fnOf "linear_of" "linear_of" (defArgs sLof) (defBody sLof) (defScope sLof) .none kVLo dcLo pmLo anLo cdLo ctLo), slLo⟩)
    (c_Lo : PySem.W.codeIn K cdLo "linear_of" = true)
    (kLo : PySem.W.keepIn K (.ref fLo) = true)
    (aIss : PySem.W.nsIn K mainGlobals "is_sum" = some (some (.ref fIss)))
    (lIss : K.lookup fIss = some ⟨ocIss, odIss, .func (PySem.W.fnOf "is_sum" "is_sum" (defArgs sIss) (defBody sIss) (defScope sIss) .none kVIss dcIss pmIss anIss cdIss ctIss), slIss⟩)
    (c_Iss : PySem.W.codeIn K cdIss "is_sum" = true)
    (kIss : PySem.W.keepIn K (.ref fIss) = true)
    (aSul : PySem.W.nsIn K mainGlobals "sum_linear" = some (some (.ref fSul)))
    (lSul : K.lookup fSul = some ⟨ocSul, odSul, .func (PySem.W.fnOf "sum_linear" "sum_linear" (defArgs sSul) (defBody sSul) (defScope sSul) .none kVSul dcSul pmSul anSul cdSul ctSul), slSul⟩)
    (c_Sul : PySem.W.codeIn K cdSul "sum_linear" = true)
    (kSul : PySem.W.keepIn K (.ref fSul) = true)
    (aB : PySem.W.nsIn K mainGlobals "_law_bag" = some (some (.ref fB)))
    (lB : K.lookup fB = some ⟨ocB, odB, .func (PySem.W.fnOf "_law_bag" "_law_bag" (defArgs sBag) (defBody sBag) (defScope sBag) .none kVB dcB pmB anB cdB ctB), slB⟩)
    (c_B : PySem.W.codeIn K cdB "_law_bag" = true)
    (kB : PySem.W.keepIn K (.ref fB) = true)
    (aTa : PySem.W.nsIn K mainGlobals "_law_take" = some (some (.ref fTa)))
    (lTa : K.lookup fTa = some ⟨ocTa, odTa, .func (PySem.W.fnOf "_law_take" "_law_take" (defArgs sTake) (defBody sTake) (defScope sTake) .none kVTa dcTa pmTa anTa cdTa ctTa), slTa⟩)
    (c_Ta : PySem.W.codeIn K cdTa "_law_take" = true)
    (kTa : PySem.W.keepIn K (.ref fTa) = true)
    (aSo : PySem.W.nsIn K mainGlobals "_law_some" = some (some (.ref fSo)))
    (lSo : K.lookup fSo = some ⟨ocSo, odSo, .func (PySem.W.fnOf "_law_some" "_law_some" (defArgs sSome) (defBody sSome) (defScope sSome) .none kVSo dcSo pmSo anSo cdSo ctSo), slSo⟩)
    (c_So : PySem.W.codeIn K cdSo "_law_some" = true)
    (kSo : PySem.W.keepIn K (.ref fSo) = true)
    (aMi : PySem.W.nsIn K mainGlobals "_law_mixed" = some (some (.ref fMi)))
    (lMi : K.lookup fMi = some ⟨ocMi, odMi, .func (PySem.W.fnOf "_law_mixed" "_law_mixed" (defArgs sMixed) (defBody sMixed) (defScope sMixed) .none kVMi dcMi pmMi anMi cdMi ctMi), slMi⟩)
    (c_Mi : PySem.W.codeIn K cdMi "_law_mixed" = true)
    (kMi : PySem.W.keepIn K (.ref fMi) = true)
    (aA : PySem.W.nsIn K mainGlobals "_law_alike" = some (some (.ref fA)))
    (lA : K.lookup fA = some ⟨ocA, odA, .func (PySem.W.fnOf "_law_alike" "_law_alike" (defArgs sAlike) (defBody sAlike) (defScope sAlike) .none kVA dcA pmA anA cdA ctA), slA⟩)
    (c_A : PySem.W.codeIn K cdA "_law_alike" = true)
    (kA : PySem.W.keepIn K (.ref fA) = true)
    (aLg : PySem.W.nsIn K mainGlobals "_law_graph" = some (some (.ref fLg)))
    (lLg : K.lookup fLg = some ⟨ocLg, odLg, .func (PySem.W.fnOf "_law_graph" "_law_graph" (defArgs sLg) (defBody sLg) (defScope sLg) .none kVLg dcLg pmLg anLg cdLg ctLg), slLg⟩)
    (c_Lg : PySem.W.codeIn K cdLg "_law_graph" = true)
    (kLg : PySem.W.keepIn K (.ref fLg) = true)
    (aLn : PySem.W.nsIn K mainGlobals "_law_node" = some (some (.ref fLn)))
    (lLn : K.lookup fLn = some ⟨ocLn, odLn, .func (PySem.W.fnOf "_law_node" "_law_node" (defArgs sLn) (defBody sLn) (defScope sLn) .none kVLn dcLn pmLn anLn cdLn ctLn), slLn⟩)
    (c_Ln : PySem.W.codeIn K cdLn "_law_node" = true)
    (kLn : PySem.W.keepIn K (.ref fLn) = true)
    (aApl : PySem.W.nsIn K mainGlobals "_law_applied" = some (some (.ref fApl)))
    (lApl : K.lookup fApl = some ⟨ocApl, odApl, .func (PySem.W.fnOf "_law_applied" "_law_applied" (defArgs sApl) (defBody sApl) (defScope sApl) .none kVApl dcApl pmApl anApl cdApl ctApl), slApl⟩)
    (c_Apl : PySem.W.codeIn K cdApl "_law_applied" = true)
    (kApl : PySem.W.keepIn K (.ref fApl) = true)
    (aWor : PySem.W.nsIn K mainGlobals "_law_worths" = some (some (.ref fWor)))
    (lWor : K.lookup fWor = some ⟨ocWor, odWor, .func (PySem.W.fnOf "_law_worths" "_law_worths" (defArgs sWor) (defBody sWor) (defScope sWor) .none kVWor dcWor pmWor anWor cdWor ctWor), slWor⟩)
    (c_Wor : PySem.W.codeIn K cdWor "_law_worths" = true)
    (kWor : PySem.W.keepIn K (.ref fWor) = true)
    (aDt : PySem.W.nsIn K mainGlobals "_law_drawn_terms" = some (some (.ref fDt)))
    (lDt : K.lookup fDt = some ⟨ocDt, odDt, .func (PySem.W.fnOf "_law_drawn_terms" "_law_drawn_terms" (defArgs sDt) (defBody sDt) (defScope sDt) .none kVDt dcDt pmDt anDt cdDt ctDt), slDt⟩)
    (c_Dt : PySem.W.codeIn K cdDt "_law_drawn_terms" = true)
    (kDt : PySem.W.keepIn K (.ref fDt) = true)
    (aPl : PySem.W.nsIn K mainGlobals "_law_plus" = some (some (.ref fPl)))
    (lPl : K.lookup fPl = some ⟨ocPl, odPl, .func (PySem.W.fnOf "_law_plus" "_law_plus" (defArgs sLpl) (defBody sLpl) (defScope sLpl) .none kVPl dcPl pmPl anPl cdPl ctPl), slPl⟩)
    (c_Pl : PySem.W.codeIn K cdPl "_law_plus" = true)
    (kPl : PySem.W.keepIn K (.ref fPl) = true)
    (aLl : PySem.W.nsIn K mainGlobals "_law_linear" = some (some (.ref fLl)))
    (lLl : K.lookup fLl = some ⟨ocLl, odLl, .func (PySem.W.fnOf "_law_linear" "_law_linear" (defArgs sLli) (defBody sLli) (defScope sLli) .none kVLl dcLl pmLl anLl cdLl ctLl), slLl⟩)
    (c_Ll : PySem.W.codeIn K cdLl "_law_linear" = true)
    (kLl : PySem.W.keepIn K (.ref fLl) = true)
    (aTl : PySem.W.nsIn K mainGlobals "_law_told_linear" = some (some (.ref fTl)))
    (lTl : K.lookup fTl = some ⟨ocTl, odTl, .func (PySem.W.fnOf "_law_told_linear" "_law_told_linear" (defArgs sLtl) (defBody sLtl) (defScope sLtl) .none kVTl dcTl pmTl anTl cdTl ctTl), slTl⟩)
    (c_Tl : PySem.W.codeIn K cdTl "_law_told_linear" = true)
    (kTl : PySem.W.keepIn K (.ref fTl) = true)
    (aMde : PySem.W.nsIn K mainGlobals "_law_made" = some (some (.ref fMde)))
    (lMde : K.lookup fMde = some ⟨ocMde, odMde, .func (PySem.W.fnOf "_law_made" "_law_made" (defArgs sMde) (defBody sMde) (defScope sMde) .none kVMde dcMde pmMde anMde cdMde ctMde), slMde⟩)
    (c_Mde : PySem.W.codeIn K cdMde "_law_made" = true)
    (kMde : PySem.W.keepIn K (.ref fMde) = true)
    (aLa : PySem.W.nsIn K mainGlobals "law" = some (some (.ref fLa)))
    (lLa : K.lookup fLa = some ⟨ocLa, odLa, .func (PySem.W.fnOf "law" "law" (defArgs sLaw) (defBody sLaw) (defScope sLaw) .none kVLa dcLa pmLa anLa cdLa ctLa), slLa⟩)
    (c_La : PySem.W.codeIn K cdLa "law" = true)
    (kLa : PySem.W.keepIn K (.ref fLa) = true)
    (aC : PySem.W.nsIn K mainGlobals "SumGraph" = some (some (.ref C)))
    (pgC : PySem.W.plainGet K C Str.empty = true)
    (hdC : PySem.W.hasDictIn K C = true)
    (poC : PySem.W.plainOver K C = true)
    (saC : PySem.W.findIn K (.ref C) "__setattr__" = some (some (.builtin "object.__setattr__")))
    (mkC : PySem.W.makesIn K C = true)
    (kcC : PySem.W.keepIn K (.ref C) = true)
    (aI : PySem.W.findIn K (.ref C) "__init__" = some (some (.ref fI)))
    (iI : PySem.W.isFn K (.ref fI) = true)
    (lI : K.lookup fI = some ⟨ocI, odI, .func (PySem.W.fnOf "__init__" "SumGraph.__init__" (defArgs (sSG 0)) (defBody (sSG 0)) (defScope (sSG 0)) .none kVI dcI pmI anI cdI ctI), slI⟩)
    (c_I : PySem.W.codeIn K cdI "SumGraph.__init__" = true)
    (kI : PySem.W.keepIn K (.ref fI) = true)
    (aAn : PySem.W.findIn K (.ref C) "atom_number" = some (some (.ref fAn)))
    (iAn : PySem.W.isFn K (.ref fAn) = true)
    (lAn : K.lookup fAn = some ⟨ocAn, odAn, .func (PySem.W.fnOf "atom_number" "SumGraph.atom_number" (defArgs (sSG 1)) (defBody (sSG 1)) (defScope (sSG 1)) .none kVAn dcAn pmAn anAn cdAn ctAn), slAn⟩)
    (c_An : PySem.W.codeIn K cdAn "SumGraph.atom_number" = true)
    (kAn : PySem.W.keepIn K (.ref fAn) = true)
    (aMd : PySem.W.findIn K (.ref C) "made" = some (some (.ref fMd)))
    (iMd : PySem.W.isFn K (.ref fMd) = true)
    (lMd : K.lookup fMd = some ⟨ocMd, odMd, .func (PySem.W.fnOf "made" "SumGraph.made" (defArgs (sSG 2)) (defBody (sSG 2)) (defScope (sSG 2)) .none kVMd dcMd pmMd anMd cdMd ctMd), slMd⟩)
    (c_Md : PySem.W.codeIn K cdMd "SumGraph.made" = true)
    (kMd : PySem.W.keepIn K (.ref fMd) = true)
    (aLi : PySem.W.findIn K (.ref C) "linear" = some (some (.ref fLi)))
    (iLi : PySem.W.isFn K (.ref fLi) = true)
    (lLi : K.lookup fLi = some ⟨ocLi, odLi, .func (PySem.W.fnOf "linear" "SumGraph.linear" (defArgs (sSG 3)) (defBody (sSG 3)) (defScope (sSG 3)) .none kVLi dcLi pmLi anLi cdLi ctLi), slLi⟩)
    (c_Li : PySem.W.codeIn K cdLi "SumGraph.linear" = true)
    (kLi : PySem.W.keepIn K (.ref fLi) = true)
    (aAt : PySem.W.findIn K (.ref C) "atom" = some (some (.ref fAt)))
    (iAt : PySem.W.isFn K (.ref fAt) = true)
    (lAt : K.lookup fAt = some ⟨ocAt, odAt, .func (PySem.W.fnOf "atom" "SumGraph.atom" (defArgs (sSG 4)) (defBody (sSG 4)) (defScope (sSG 4)) .none kVAt dcAt pmAt anAt cdAt ctAt), slAt⟩)
    (c_At : PySem.W.codeIn K cdAt "SumGraph.atom" = true)
    (kAt : PySem.W.keepIn K (.ref fAt) = true)
    (aMa : PySem.W.findIn K (.ref C) "many" = some (some (.ref fMa)))
    (iMa : PySem.W.isFn K (.ref fMa) = true)
    (lMa : K.lookup fMa = some ⟨ocMa, odMa, .func (PySem.W.fnOf "many" "SumGraph.many" (defArgs (sSG 5)) (defBody (sSG 5)) (defScope (sSG 5)) .none kVMa dcMa pmMa anMa cdMa ctMa), slMa⟩)
    (c_Ma : PySem.W.codeIn K cdMa "SumGraph.many" = true)
    (kMa : PySem.W.keepIn K (.ref fMa) = true)
    (nC_graph : PySem.W.findIn K (.ref C) "graph" = some none)
    (nC_atoms : PySem.W.findIn K (.ref C) "atoms" = some none)
    (nC_numbers : PySem.W.findIn K (.ref C) "numbers" = some none)
    (nC_linears : PySem.W.findIn K (.ref C) "linears" = some none)
    (aCG : PySem.W.nsIn K mainGlobals "Graph" = some (some (.ref CG)))
    (pgCG : PySem.W.plainGet K CG Str.empty = true)
    (hdCG : PySem.W.hasDictIn K CG = true)
    (poCG : PySem.W.plainOver K CG = true)
    (saCG : PySem.W.findIn K (.ref CG) "__setattr__" = some (some (.builtin "object.__setattr__")))
    (mkCG : PySem.W.makesIn K CG = true)
    (kcCG : PySem.W.keepIn K (.ref CG) = true)
    (aGI : PySem.W.findIn K (.ref CG) "__init__" = some (some (.ref fGI)))
    (iGI : PySem.W.isFn K (.ref fGI) = true)
    (lGI : K.lookup fGI = some ⟨ocGI, odGI, .func (PySem.W.fnOf "__init__" "Graph.__init__" (defArgs (sGG 0)) (defBody (sGG 0)) (defScope (sGG 0)) .none kVGI dcGI pmGI anGI cdGI ctGI), slGI⟩)
    (c_GI : PySem.W.codeIn K cdGI "Graph.__init__" = true)
    (kGI : PySem.W.keepIn K (.ref fGI) = true)
    (aGNu : PySem.W.findIn K (.ref CG) "numbered" = some (some (.ref fGNu)))
    (iGNu : PySem.W.isFn K (.ref fGNu) = true)
    (lGNu : K.lookup fGNu = some ⟨ocGNu, odGNu, .func (PySem.W.fnOf "numbered" "Graph.numbered" (defArgs (sGG 2)) (defBody (sGG 2)) (defScope (sGG 2)) .none kVGNu dcGNu pmGNu anGNu cdGNu ctGNu), slGNu⟩)
    (c_GNu : PySem.W.codeIn K cdGNu "Graph.numbered" = true)
    (kGNu : PySem.W.keepIn K (.ref fGNu) = true)
    (aGLe : PySem.W.findIn K (.ref CG) "letter" = some (some (.ref fGLe)))
    (iGLe : PySem.W.isFn K (.ref fGLe) = true)
    (lGLe : K.lookup fGLe = some ⟨ocGLe, odGLe, .func (PySem.W.fnOf "letter" "Graph.letter" (defArgs (sGG 3)) (defBody (sGG 3)) (defScope (sGG 3)) .none kVGLe dcGLe pmGLe anGLe cdGLe ctGLe), slGLe⟩)
    (c_GLe : PySem.W.codeIn K cdGLe "Graph.letter" = true)
    (kGLe : PySem.W.keepIn K (.ref fGLe) = true)
    (aGNo : PySem.W.findIn K (.ref CG) "node" = some (some (.ref fGNo)))
    (iGNo : PySem.W.isFn K (.ref fGNo) = true)
    (lGNo : K.lookup fGNo = some ⟨ocGNo, odGNo, .func (PySem.W.fnOf "node" "Graph.node" (defArgs (sGG 4)) (defBody (sGG 4)) (defScope (sGG 4)) .none kVGNo dcGNo pmGNo anGNo cdGNo ctGNo), slGNo⟩)
    (c_GNo : PySem.W.codeIn K cdGNo "Graph.node" = true)
    (kGNo : PySem.W.keepIn K (.ref fGNo) = true)
    (aGHe : PySem.W.findIn K (.ref CG) "head_of" = some (some (.ref fGHe)))
    (iGHe : PySem.W.isFn K (.ref fGHe) = true)
    (lGHe : K.lookup fGHe = some ⟨ocGHe, odGHe, .func (PySem.W.fnOf "head_of" "Graph.head_of" (defArgs (sGG 5)) (defBody (sGG 5)) (defScope (sGG 5)) .none kVGHe dcGHe pmGHe anGHe cdGHe ctGHe), slGHe⟩)
    (c_GHe : PySem.W.codeIn K cdGHe "Graph.head_of" = true)
    (kGHe : PySem.W.keepIn K (.ref fGHe) = true)
    (aGIs : PySem.W.findIn K (.ref CG) "is_letter" = some (some (.ref fGIs)))
    (iGIs : PySem.W.isFn K (.ref fGIs) = true)
    (lGIs : K.lookup fGIs = some ⟨ocGIs, odGIs, .func (PySem.W.fnOf "is_letter" "Graph.is_letter" (defArgs (sGG 6)) (defBody (sGG 6)) (defScope (sGG 6)) .none kVGIs dcGIs pmGIs anGIs cdGIs ctGIs), slGIs⟩)
    (c_GIs : PySem.W.codeIn K cdGIs "Graph.is_letter" = true)
    (kGIs : PySem.W.keepIn K (.ref fGIs) = true)
    (aGKe : PySem.W.findIn K (.ref CG) "key_of" = some (some (.ref fGKe)))
    (iGKe : PySem.W.isFn K (.ref fGKe) = true)
    (lGKe : K.lookup fGKe = some ⟨ocGKe, odGKe, .func (PySem.W.fnOf "key_of" "Graph.key_of" (defArgs (sGG 7)) (defBody (sGG 7)) (defScope (sGG 7)) .none kVGKe dcGKe pmGKe anGKe cdGKe ctGKe), slGKe⟩)
    (c_GKe : PySem.W.codeIn K cdGKe "Graph.key_of" = true)
    (kGKe : PySem.W.keepIn K (.ref fGKe) = true)
    (aGOp : PySem.W.findIn K (.ref CG) "op_of" = some (some (.ref fGOp)))
    (iGOp : PySem.W.isFn K (.ref fGOp) = true)
    (lGOp : K.lookup fGOp = some ⟨ocGOp, odGOp, .func (PySem.W.fnOf "op_of" "Graph.op_of" (defArgs (sGG 8)) (defBody (sGG 8)) (defScope (sGG 8)) .none kVGOp dcGOp pmGOp anGOp cdGOp ctGOp), slGOp⟩)
    (c_GOp : PySem.W.codeIn K cdGOp "Graph.op_of" = true)
    (kGOp : PySem.W.keepIn K (.ref fGOp) = true)
    (aGPa : PySem.W.findIn K (.ref CG) "parts_of" = some (some (.ref fGPa)))
    (iGPa : PySem.W.isFn K (.ref fGPa) = true)
    (lGPa : K.lookup fGPa = some ⟨ocGPa, odGPa, .func (PySem.W.fnOf "parts_of" "Graph.parts_of" (defArgs (sGG 9)) (defBody (sGG 9)) (defScope (sGG 9)) .none kVGPa dcGPa pmGPa anGPa cdGPa ctGPa), slGPa⟩)
    (c_GPa : PySem.W.codeIn K cdGPa "Graph.parts_of" = true)
    (kGPa : PySem.W.keepIn K (.ref fGPa) = true)
    (nCG_heads : PySem.W.findIn K (.ref CG) "heads" = some none)
    (nCG_known_heads : PySem.W.findIn K (.ref CG) "known_heads" = some none)
    (z_len : PySem.W.nsIn K mainGlobals "len" = some none)
    (z_tuple : PySem.W.nsIn K mainGlobals "tuple" = some none)
    (z_range : PySem.W.nsIn K mainGlobals "range" = some none)
    (z_repr : PySem.W.nsIn K mainGlobals "repr" = some none)
    (z_int : PySem.W.nsIn K mainGlobals "int" = some none)
    (z_abs : PySem.W.nsIn K mainGlobals "abs" = some none)
    (z_list : PySem.W.nsIn K mainGlobals "list" = some none)
    (z_dict : PySem.W.nsIn K mainGlobals "dict" = some none)
    (z_sorted : PySem.W.nsIn K mainGlobals "sorted" = some none)
    (z_sum : PySem.W.nsIn K mainGlobals "sum" = some none)
    (g_MOST_NODES : PySem.W.nsIn K mainGlobals "MOST_NODES" = some (some (.int 3000 t_MOST_NODES)))
    : ∃ fd : FuncData, (∀ (s : Shared) (u : Value), BindsTo s fd ⟨[u], []⟩ [("script", u)]) ∧ ∀ base : Heap, K.In base → base.Ns mainGlobals mg → FnG (PySem.Challenge.rw_runshown_k60_sums_of_graphs).prog w K mg base CX0 44 fa fd ["script"] (spLaw K) := by
  have e := hfa.symm.trans (PySem.W.mg_of X G aLa)
  cases e
  have FSc := fun_mk (st := sSca) lSc c_Sc kSc
  have bSc := FSc.binds (ps := ["one", "factor"]) fun _ _ _ _ _ _ us hl => match us, hl with | [_, _], _ => rfl
  have FAd := fun_mk (st := sAdd) lAd c_Ad kAd
  have bAd := FAd.binds (ps := ["one", "other"]) fun _ _ _ _ _ _ us hl => match us, hl with | [_, _], _ => rfl
  have FLo := fun_mk (st := sLof) lLo c_Lo kLo
  have bLo := FLo.binds (ps := ["constant", "terms"]) fun _ _ _ _ _ _ us hl => match us, hl with | [_, _], _ => rfl
  have FIss := fun_mk (st := sIss) lIss c_Iss kIss
  have bIss := FIss.binds (ps := ["op", "many"]) fun _ _ _ _ _ _ us hl => match us, hl with | [_, _], _ => rfl
  have FSul := fun_mk (st := sSul) lSul c_Sul kSul
  have bSul := FSul.binds (ps := ["op", "parts"]) fun _ _ _ _ _ _ us hl => match us, hl with | [_, _], _ => rfl
  have FB := fun_mk (st := sBag) lB c_B kB
  have bB := FB.binds (ps := ["script"]) fun _ _ _ _ _ _ us hl => match us, hl with | [_], _ => rfl
  have FTa := fun_mk (st := sTake) lTa c_Ta kTa
  have bTa := FTa.binds (ps := ["bag", "many"]) fun _ _ _ _ _ _ us hl => match us, hl with | [_, _], _ => rfl
  have FSo := fun_mk (st := sSome) lSo c_So kSo
  have bSo := FSo.binds (ps := ["bag", "things"]) fun _ _ _ _ _ _ us hl => match us, hl with | [_, _], _ => rfl
  have FMi := fun_mk (st := sMixed) lMi c_Mi kMi
  have bMi := FMi.binds (ps := ["bag", "things"]) fun _ _ _ _ _ _ us hl => match us, hl with | [_, _], _ => rfl
  have FA := fun_mk (st := sAlike) lA c_A kA
  have bA := FA.binds (ps := ["found", "due"]) fun _ _ _ _ _ _ us hl => match us, hl with | [_, _], _ => rfl
  have FLg := fun_mk (st := sLg) lLg c_Lg kLg
  have bLg := FLg.binds (ps := []) fun _ _ _ _ _ _ us hl => match us, hl with | [], _ => rfl
  have FLn := fun_mk (st := sLn) lLn c_Ln kLn
  have bLn := FLn.binds (ps := ["graph", "key"]) fun _ _ _ _ _ _ us hl => match us, hl with | [_, _], _ => rfl
  have FApl := fun_mk (st := sApl) lApl c_Apl kApl
  have bApl := FApl.binds (ps := ["meaning", "o", "parts"]) fun _ _ _ _ _ _ us hl => match us, hl with | [_, _, _], _ => rfl
  have FWor := fun_mk (st := sWor) lWor c_Wor kWor
  have bWor := FWor.binds (ps := ["graph", "meaning", "reads"]) fun _ _ _ _ _ _ us hl => match us, hl with | [_, _, _], _ => rfl
  have FDt := fun_mk (st := sDt) lDt c_Dt kDt
  have bDt := FDt.binds (ps := ["bag", "many"]) fun _ _ _ _ _ _ us hl => match us, hl with | [_, _], _ => rfl
  have FPl := fun_mk (st := sLpl) lPl c_Pl kPl
  have bPl := FPl.binds (ps := ["one", "other", "many"]) fun _ _ _ _ _ _ us hl => match us, hl with | [_, _, _], _ => rfl
  have FLl := fun_mk (st := sLli) lLl c_Ll kLl
  have bLl := FLl.binds (ps := ["keys", "at", "atoms", "found"]) fun _ _ _ _ _ _ us hl => match us, hl with | [_, _, _, _], _ => rfl
  have FTl := fun_mk (st := sLtl) lTl c_Tl kTl
  have bTl := FTl.binds (ps := ["one"]) fun _ _ _ _ _ _ us hl => match us, hl with | [_], _ => rfl
  have FMde := fun_mk (st := sMde) lMde c_Mde kMde
  have bMde := FMde.binds (ps := ["graph", "keys"]) fun _ _ _ _ _ _ us hl => match us, hl with | [_, _], _ => rfl
  have FLa := fun_mk (st := sLaw) lLa c_La kLa
  have bLa := FLa.binds (ps := ["script"]) fun _ _ _ _ _ _ us hl => match us, hl with | [_], _ => rfl
  have FI := fun_mk (st := sSG 0) lI c_I kI
  have bI := FI.binds (ps := ["self", "graph"]) fun _ _ _ _ _ _ us hl => match us, hl with | [_, _], _ => rfl
  have mI : Meth K C "__init__" fI := ⟨aI, iI, kI⟩
  have FAn := fun_mk (st := sSG 1) lAn c_An kAn
  have bAn := FAn.binds (ps := ["self", "told"]) fun _ _ _ _ _ _ us hl => match us, hl with | [_, _], _ => rfl
  have mAn : Meth K C "atom_number" fAn := ⟨aAn, iAn, kAn⟩
  have FMd := fun_mk (st := sSG 2) lMd c_Md kMd
  have bMd := FMd.binds (ps := ["self", "op", "parts"]) fun _ _ _ _ _ _ us hl => match us, hl with | [_, _, _], _ => rfl
  have mMd : Meth K C "made" fMd := ⟨aMd, iMd, kMd⟩
  have FLi := fun_mk (st := sSG 3) lLi c_Li kLi
  have bLi := FLi.binds (ps := ["self", "node"]) fun _ _ _ _ _ _ us hl => match us, hl with | [_, _], _ => rfl
  have mLi : Meth K C "linear" fLi := ⟨aLi, iLi, kLi⟩
  have FAt := fun_mk (st := sSG 4) lAt c_At kAt
  have bAt := FAt.binds (ps := ["self", "number"]) fun _ _ _ _ _ _ us hl => match us, hl with | [_, _], _ => rfl
  have mAt : Meth K C "atom" fAt := ⟨aAt, iAt, kAt⟩
  have FMa := fun_mk (st := sSG 5) lMa c_Ma kMa
  have bMa := FMa.binds (ps := ["self"]) fun _ _ _ _ _ _ us hl => match us, hl with | [_], _ => rfl
  have mMa : Meth K C "many" fMa := ⟨aMa, iMa, kMa⟩
  have FGI := fun_mk (st := sGG 0) lGI c_GI kGI
  have bGI := FGI.binds (ps := ["self"]) fun _ _ _ _ _ _ us hl => match us, hl with | [_], _ => rfl
  have mGI : Meth K CG "__init__" fGI := ⟨aGI, iGI, kGI⟩
  have FGNu := fun_mk (st := sGG 2) lGNu c_GNu kGNu
  have bGNu := FGNu.binds (ps := ["self", "head"]) fun _ _ _ _ _ _ us hl => match us, hl with | [_, _], _ => rfl
  have mGNu : Meth K CG "numbered" fGNu := ⟨aGNu, iGNu, kGNu⟩
  have FGLe := fun_mk (st := sGG 3) lGLe c_GLe kGLe
  have bGLe := FGLe.binds (ps := ["self", "key"]) fun _ _ _ _ _ _ us hl => match us, hl with | [_, _], _ => rfl
  have mGLe : Meth K CG "letter" fGLe := ⟨aGLe, iGLe, kGLe⟩
  have FGNo := fun_mk (st := sGG 4) lGNo c_GNo kGNo
  have bGNo := FGNo.binds (ps := ["self", "op", "parts"]) fun _ _ _ _ _ _ us hl => match us, hl with | [_, _, _], _ => rfl
  have mGNo : Meth K CG "node" fGNo := ⟨aGNo, iGNo, kGNo⟩
  have FGHe := fun_mk (st := sGG 5) lGHe c_GHe kGHe
  have bGHe := FGHe.binds (ps := ["self", "n"]) fun _ _ _ _ _ _ us hl => match us, hl with | [_, _], _ => rfl
  have mGHe : Meth K CG "head_of" fGHe := ⟨aGHe, iGHe, kGHe⟩
  have FGIs := fun_mk (st := sGG 6) lGIs c_GIs kGIs
  have bGIs := FGIs.binds (ps := ["self", "n"]) fun _ _ _ _ _ _ us hl => match us, hl with | [_, _], _ => rfl
  have mGIs : Meth K CG "is_letter" fGIs := ⟨aGIs, iGIs, kGIs⟩
  have FGKe := fun_mk (st := sGG 7) lGKe c_GKe kGKe
  have bGKe := FGKe.binds (ps := ["self", "n"]) fun _ _ _ _ _ _ us hl => match us, hl with | [_, _], _ => rfl
  have mGKe : Meth K CG "key_of" fGKe := ⟨aGKe, iGKe, kGKe⟩
  have FGOp := fun_mk (st := sGG 8) lGOp c_GOp kGOp
  have bGOp := FGOp.binds (ps := ["self", "n"]) fun _ _ _ _ _ _ us hl => match us, hl with | [_, _], _ => rfl
  have mGOp : Meth K CG "op_of" fGOp := ⟨aGOp, iGOp, kGOp⟩
  have FGPa := fun_mk (st := sGG 9) lGPa c_GPa kGPa
  have bGPa := FGPa.binds (ps := ["self", "n"]) fun _ _ _ _ _ _ us hl => match us, hl with | [_, _], _ => rfl
  have mGPa : Meth K CG "parts_of" fGPa := ⟨aGPa, iGPa, kGPa⟩
  refine ⟨PySem.W.fnOf "law" "law" (defArgs sLaw) (defBody sLaw) (defScope sLaw) .none kVLa dcLa pmLa anLa cdLa ctLa, fun s v => .of_eq rfl, fun base _ _ => ?_⟩
  have TB : TxtB K mg := ⟨(PySem.W.mg_none_of X G z_int), (PySem.W.mg_none_of X G z_len)⟩
  have TMG : TxtM K mg CG := ⟨⟨pgCG, hdCG, poCG, saCG⟩, nCG_heads, nCG_known_heads, (PySem.W.mg_none_of X G z_len), (PySem.W.mg_none_of X G z_tuple)⟩
  have TCG : TxtC K mg CG := ⟨⟨pgCG, hdCG, poCG, saCG⟩, (PySem.W.mg_none_of X G z_len), (PySem.W.mg_none_of X G z_tuple), (PySem.W.mg_none_of X G z_sorted), (PySem.W.mg_none_of X G z_list), (PySem.W.mg_none_of X G z_range)⟩
  have TGG : TxtGG K mg CG := ⟨TMG, ⟨t_MOST_NODES, PySem.W.mg_of X G g_MOST_NODES⟩⟩
  have TS : TxtS mg := ⟨(PySem.W.mg_none_of X G z_dict), (PySem.W.mg_none_of X G z_tuple), (PySem.W.mg_none_of X G z_sorted), (PySem.W.mg_none_of X G z_len), (PySem.W.mg_none_of X G z_int)⟩
  have TSG : TxtSG K mg C := ⟨⟨pgC, hdC, poC, saC⟩, nC_graph, nC_atoms, nC_numbers, nC_linears, (PySem.W.mg_none_of X G z_len)⟩
  have TSH : TxtSH K mg C CG := ⟨⟨pgC, hdC, poC, saC⟩, ⟨pgCG, hdCG, poCG, saCG⟩, nC_graph, nC_linears, (PySem.W.mg_none_of X G z_len), (PySem.W.mg_none_of X G z_tuple)⟩
  have TQ : TxtQ1 mg := ⟨(PySem.W.mg_none_of X G z_dict), (PySem.W.mg_none_of X G z_tuple), (PySem.W.mg_none_of X G z_sorted)⟩
  have TLl : TxtLl mg := ⟨(PySem.W.mg_none_of X G z_len), (PySem.W.mg_none_of X G z_int), (PySem.W.mg_none_of X G z_tuple)⟩
  have TDt : TxtDt mg := ⟨(PySem.W.mg_none_of X G z_len), (PySem.W.mg_none_of X G z_range), (PySem.W.mg_none_of X G z_tuple)⟩
  have TAp : TxtApl mg := ⟨(PySem.W.mg_none_of X G z_len), (PySem.W.mg_none_of X G z_int)⟩
  have TW : TxtLaw K mg C := ⟨⟨pgC, hdC, poC, saC⟩, (PySem.W.mg_none_of X G z_tuple), (PySem.W.mg_none_of X G z_range), (PySem.W.mg_none_of X G z_list), (PySem.W.mg_none_of X G z_len), (PySem.W.mg_none_of X G z_dict), (PySem.W.mg_none_of X G z_sum)⟩
  have OTa_0 := ok_take (P := (PySem.Challenge.rw_runshown_k60_sums_of_graphs).prog) (w := w) (base := base) FTa TB
  have OTa_1 := FnOk.weak (sp' := spT gTake) OTa_0 fun _ _ _ _ => conv_take
  have OSo_0 := ok_some (P := (PySem.Challenge.rw_runshown_k60_sums_of_graphs).prog) (w := w) (base := base) FSo TB (PySem.W.mg_of X G aTa) kTa bTa OTa_0
  have OSo_1 := FnOk.weak (sp' := spT gSome) OSo_0 fun _ _ _ _ => conv_some
  have OB_0 := ok_bag (P := (PySem.Challenge.rw_runshown_k60_sums_of_graphs).prog) (w := w) (base := base) FB (PySem.W.mg_none_of X G z_abs)
  have OMi_0 := ok_mixed (P := (PySem.Challenge.rw_runshown_k60_sums_of_graphs).prog) (w := w) (base := base) FMi TB (PySem.W.mg_of X G aTa) kTa bTa OTa_0
  have OMi_1 := FnOk.weak (sp' := spT gMixed) OMi_0 fun _ _ _ _ => conv_mixed
  have OA_0 := ok_alikeX (P := (PySem.Challenge.rw_runshown_k60_sums_of_graphs).prog) (w := w) (base := base) FA (PySem.W.mg_none_of X G z_repr)
  have OA_1 := FnG.weak (sp' := spT gAlikeD) OA_0 fun _ _ _ _ => conv_alikeD
  have OGHe_0 := ok_headG (P := (PySem.Challenge.rw_runshown_k60_sums_of_graphs).prog) (w := w) (base := base) FGHe TMG
  have OGNu_0 := ok_numG (P := (PySem.Challenge.rw_runshown_k60_sums_of_graphs).prog) (w := w) (base := base) FGNu TGG
  have OGIs_0 := ok_isLG (P := (PySem.Challenge.rw_runshown_k60_sums_of_graphs).prog) (w := w) (base := base) FGIs TMG OGHe_0 bGHe mGHe
  have OGKe_0 := ok_keyG (P := (PySem.Challenge.rw_runshown_k60_sums_of_graphs).prog) (w := w) (base := base) FGKe TMG OGHe_0 bGHe mGHe
  have OGOp_0 := ok_opG (P := (PySem.Challenge.rw_runshown_k60_sums_of_graphs).prog) (w := w) (base := base) FGOp TMG OGHe_0 bGHe mGHe
  have OGPa_0 := ok_partsG (P := (PySem.Challenge.rw_runshown_k60_sums_of_graphs).prog) (w := w) (base := base) FGPa TMG OGHe_0 bGHe mGHe
  have OGLe_0 := ok_letG (P := (PySem.Challenge.rw_runshown_k60_sums_of_graphs).prog) (w := w) (base := base) FGLe TMG OGNu_0 bGNu mGNu
  have OGLe_1 := FnOk.weak (sp' := spT (gLetter (PySem.Challenge.rw_runshown_k60_sums_of_graphs).prog w CG)) OGLe_0 fun _ _ _ _ => conv_letter
  have OGNo_0 := ok_nodeG (P := (PySem.Challenge.rw_runshown_k60_sums_of_graphs).prog) (w := w) (base := base) FGNo TMG OGNu_0 bGNu mGNu OGHe_0 bGHe mGHe
  have OGNo_1 := FnOk.weak (sp' := spT (gNodeG (PySem.Challenge.rw_runshown_k60_sums_of_graphs).prog w CG)) OGNo_0 fun _ _ _ _ => conv_nodeG
  have OGI_0 := ok_initG (P := (PySem.Challenge.rw_runshown_k60_sums_of_graphs).prog) (w := w) (base := base) FGI TMG
  have OSc_0 := ok_sca (P := (PySem.Challenge.rw_runshown_k60_sums_of_graphs).prog) (w := w) (base := base) FSc TS
  have OAd_0 := ok_add (P := (PySem.Challenge.rw_runshown_k60_sums_of_graphs).prog) (w := w) (base := base) FAd TS
  have OLo_0 := ok_lof (P := (PySem.Challenge.rw_runshown_k60_sums_of_graphs).prog) (w := w) (base := base) FLo TS
  have OIss_0 := ok_iss (P := (PySem.Challenge.rw_runshown_k60_sums_of_graphs).prog) (w := w) (base := base) FIss TS
  have OSul_0 := ok_sul (P := (PySem.Challenge.rw_runshown_k60_sums_of_graphs).prog) (w := w) (base := base) FSul TS OSc_0 (PySem.W.mg_of X G aSc) kSc bSc OAd_0 (PySem.W.mg_of X G aAd) kAd bAd OLo_0 (PySem.W.mg_of X G aLo) kLo bLo
  have OMa_0 := ok_manyS (CG := CG) (P := (PySem.Challenge.rw_runshown_k60_sums_of_graphs).prog) (w := w) (base := base) FMa TSG
  have OMa_1 := FnOk.weak (sp' := spT (gManyS (PySem.Challenge.rw_runshown_k60_sums_of_graphs).prog w C CG)) OMa_0 fun _ _ _ _ => conv_manyS
  have OAt_0 := ok_atS (CG := CG) (P := (PySem.Challenge.rw_runshown_k60_sums_of_graphs).prog) (w := w) (base := base) FAt TSG
  have OAt_1 := FnOk.weak (sp' := spT (gAt (PySem.Challenge.rw_runshown_k60_sums_of_graphs).prog w C CG)) OAt_0 fun _ _ _ _ => conv_at
  have OAn_0 := ok_anS (CG := CG) (P := (PySem.Challenge.rw_runshown_k60_sums_of_graphs).prog) (w := w) (base := base) FAn TSG
  have OAn_1 := FnOk.weak (sp' := spT (gAn (PySem.Challenge.rw_runshown_k60_sums_of_graphs).prog w C CG)) OAn_0 fun _ _ _ _ => conv_an
  have OI_0 := ok_initS (P := (PySem.Challenge.rw_runshown_k60_sums_of_graphs).prog) (w := w) (base := base) FI TSG
  have OMd_0 := ok_mad (P := (PySem.Challenge.rw_runshown_k60_sums_of_graphs).prog) (w := w) (base := base) FMd TSH OAn_1 bAn mAn OIss_0 (PySem.W.mg_of X G aIss) kIss bIss OSul_0 (PySem.W.mg_of X G aSul) kSul bSul
  have OLi_0 := ok_li (P := (PySem.Challenge.rw_runshown_k60_sums_of_graphs).prog) (w := w) (base := base) FLi TSH OAn_1 bAn mAn OMd_0 bMd mMd OGIs_0 bGIs mGIs OGKe_0 bGKe mGKe OGPa_0 bGPa mGPa OGOp_0 bGOp mGOp
  have OLg_0 := ok_lg (mg := mg) (P := (PySem.Challenge.rw_runshown_k60_sums_of_graphs).prog) (w := w) (base := base) FLg
  have OLg_1 := FnOk.weak (sp' := spT (gLg (PySem.Challenge.rw_runshown_k60_sums_of_graphs).prog w)) OLg_0 fun _ _ _ _ => conv_lg
  have OLn_0 := ok_ln (P := (PySem.Challenge.rw_runshown_k60_sums_of_graphs).prog) (w := w) (base := base) FLn (PySem.W.mg_none_of X G z_len)
  have OLn_1 := FnOk.weak (sp' := spT (gLn (PySem.Challenge.rw_runshown_k60_sums_of_graphs).prog w)) OLn_0 fun _ _ _ _ => conv_ln
  have OPl_0 := ok_lpl (P := (PySem.Challenge.rw_runshown_k60_sums_of_graphs).prog) (w := w) (base := base) FPl TQ
  have OTl_0 := ok_ltl (P := (PySem.Challenge.rw_runshown_k60_sums_of_graphs).prog) (w := w) (base := base) FTl TQ
  have OLl_0 := ok_lli (P := (PySem.Challenge.rw_runshown_k60_sums_of_graphs).prog) (w := w) (base := base) FLl TLl (PySem.W.mg_of X G aLl) kLl bLl OPl_0 (PySem.W.mg_of X G aPl) kPl bPl OTl_0 (PySem.W.mg_of X G aTl) kTl bTl
  have OLl_1 := OLl_0 40
  have ODt_0 := ok_dt (P := (PySem.Challenge.rw_runshown_k60_sums_of_graphs).prog) (w := w) (base := base) FDt TDt OSo_1 (PySem.W.mg_of X G aSo) kSo bSo OTa_1 (PySem.W.mg_of X G aTa) kTa bTa
  have OMde_0 := ok_mde (P := (PySem.Challenge.rw_runshown_k60_sums_of_graphs).prog) (w := w) (base := base) FMde TCG OGLe_1 bGLe mGLe OGNo_1 bGNo mGNo
  have OApl_0 := ok_apl (P := (PySem.Challenge.rw_runshown_k60_sums_of_graphs).prog) (w := w) (base := base) FApl TAp
  have OWor_0 := ok_wor (P := (PySem.Challenge.rw_runshown_k60_sums_of_graphs).prog) (w := w) (base := base) FWor (PySem.W.mg_none_of X G z_tuple) OApl_0 (PySem.W.mg_of X G aApl) kApl bApl
  have OLa_0 := ok_law (P := (PySem.Challenge.rw_runshown_k60_sums_of_graphs).prog) (w := w) (base := base) FLa TW OB_0 (PySem.W.mg_of X G aB) kB bB ODt_0 (PySem.W.mg_of X G aDt) kDt bDt OSo_1 (PySem.W.mg_of X G aSo) kSo bSo OMde_0 (PySem.W.mg_of X G aMde) kMde bMde OMi_1 (PySem.W.mg_of X G aMi) kMi bMi OTl_0 (PySem.W.mg_of X G aTl) kTl bTl OLl_1 (PySem.W.mg_of X G aLl) kLl bLl OA_1 (PySem.W.mg_of X G aA) kA bA OTa_1 (PySem.W.mg_of X G aTa) kTa bTa OLg_1 (PySem.W.mg_of X G aLg) kLg bLg OLn_1 (PySem.W.mg_of X G aLn) kLn bLn OWor_0 (PySem.W.mg_of X G aWor) kWor bWor OLi_0 bLi mLi OMa_1 bMa mMa OAt_1 bAt mAt ⟨mkCG, aGI, iGI, kcCG⟩ (PySem.W.mg_of X G aCG) OGI_0 bGI ⟨mkC, aI, iI, kcC⟩ (PySem.W.mg_of X G aC) OI_0 bI
  exact OLa_0
end Rs
open PySem PySem.W PyProof.Rows in
set_option maxRecDepth 100000 in
set_option maxHeartbeats 0 in
theorem PySem.Challenge.cw_runshown_k60_sums_of_graphs_holds : PySem.Challenge.rw_runshown_k60_sums_of_graphs.Holds := by
  w_on; o_law; k_head; (case hw => w_witness2)
  k_fill
  refine Rs.walkG (l := PySem.Challenge.rw_runshown_k60_sums_of_graphs) (n := 63) (k := 44) (x := "script") (sp := fun w => Rs.spLaw _) rfl (by decide) rfl ⟨rfl, by decide, by decide⟩ (fun w h Y => PySem.W.kIn_of Y) ?F (fun w H a ns hl _ hS => ⟨a, ns, rfl, hS, hl, fun _ => rfl⟩)
  case F =>
    intro w mg fa h KX G hmg
    refine' Rs.all_mk KX G hmg ?aSc ?lSc ?c_Sc ?kSc ?aAd ?lAd ?c_Ad ?kAd ?aLo ?lLo ?c_Lo ?kLo ?aIss ?lIss ?c_Iss ?kIss ?aSul ?lSul ?c_Sul ?kSul ?aB ?lB ?c_B ?kB ?aTa ?lTa ?c_Ta ?kTa ?aSo ?lSo ?c_So ?kSo ?aMi ?lMi ?c_Mi ?kMi ?aA ?lA ?c_A ?kA ?aLg ?lLg ?c_Lg ?kLg ?aLn ?lLn ?c_Ln ?kLn ?aApl ?lApl ?c_Apl ?kApl ?aWor ?lWor ?c_Wor ?kWor ?aDt ?lDt ?c_Dt ?kDt ?aPl ?lPl ?c_Pl ?kPl ?aLl ?lLl ?c_Ll ?kLl ?aTl ?lTl ?c_Tl ?kTl ?aMde ?lMde ?c_Mde ?kMde ?aLa ?lLa ?c_La ?kLa ?aC ?pgC ?hdC ?poC ?saC ?mkC ?kcC ?aI ?iI ?lI ?c_I ?kI ?aAn ?iAn ?lAn ?c_An ?kAn ?aMd ?iMd ?lMd ?c_Md ?kMd ?aLi ?iLi ?lLi ?c_Li ?kLi ?aAt ?iAt ?lAt ?c_At ?kAt ?aMa ?iMa ?lMa ?c_Ma ?kMa ?nC_graph ?nC_atoms ?nC_numbers ?nC_linears ?aCG ?pgCG ?hdCG ?poCG ?saCG ?mkCG ?kcCG ?aGI ?iGI ?lGI ?c_GI ?kGI ?aGNu ?iGNu ?lGNu ?c_GNu ?kGNu ?aGLe ?iGLe ?lGLe ?c_GLe ?kGLe ?aGNo ?iGNo ?lGNo ?c_GNo ?kGNo ?aGHe ?iGHe ?lGHe ?c_GHe ?kGHe ?aGIs ?iGIs ?lGIs ?c_GIs ?kGIs ?aGKe ?iGKe ?lGKe ?c_GKe ?kGKe ?aGOp ?iGOp ?lGOp ?c_GOp ?kGOp ?aGPa ?iGPa ?lGPa ?c_GPa ?kGPa ?nCG_heads ?nCG_known_heads ?z_len ?z_tuple ?z_range ?z_repr ?z_int ?z_abs ?z_list ?z_dict ?z_sorted ?z_sum ?g_MOST_NODES
    (case aSc => k_is)
    (case lSc => k_is)
    (case c_Sc => k_is)
    (case kSc => k_is)
    (case aAd => k_is)
    (case lAd => k_is)
    (case c_Ad => k_is)
    (case kAd => k_is)
    (case aLo => k_is)
    (case lLo => k_is)
    (case c_Lo => k_is)
    (case kLo => k_is)
    (case aIss => k_is)
    (case lIss => k_is)
    (case c_Iss => k_is)
    (case kIss => k_is)
    (case aSul => k_is)
    (case lSul => k_is)
    (case c_Sul => k_is)
    (case kSul => k_is)
    (case aB => k_is)
    (case lB => k_is)
    (case c_B => k_is)
    (case kB => k_is)
    (case aTa => k_is)
    (case lTa => k_is)
    (case c_Ta => k_is)
    (case kTa => k_is)
    (case aSo => k_is)
    (case lSo => k_is)
    (case c_So => k_is)
    (case kSo => k_is)
    (case aMi => k_is)
    (case lMi => k_is)
    (case c_Mi => k_is)
    (case kMi => k_is)
    (case aA => k_is)
    (case lA => k_is)
    (case c_A => k_is)
    (case kA => k_is)
    (case aLg => k_is)
    (case lLg => k_is)
    (case c_Lg => k_is)
    (case kLg => k_is)
    (case aLn => k_is)
    (case lLn => k_is)
    (case c_Ln => k_is)
    (case kLn => k_is)
    (case aApl => k_is)
    (case lApl => k_is)
    (case c_Apl => k_is)
    (case kApl => k_is)
    (case aWor => k_is)
    (case lWor => k_is)
    (case c_Wor => k_is)
    (case kWor => k_is)
    (case aDt => k_is)
    (case lDt => k_is)
    (case c_Dt => k_is)
    (case kDt => k_is)
    (case aPl => k_is)
    (case lPl => k_is)
    (case c_Pl => k_is)
    (case kPl => k_is)
    (case aLl => k_is)
    (case lLl => k_is)
    (case c_Ll => k_is)
    (case kLl => k_is)
    (case aTl => k_is)
    (case lTl => k_is)
    (case c_Tl => k_is)
    (case kTl => k_is)
    (case aMde => k_is)
    (case lMde => k_is)
    (case c_Mde => k_is)
    (case kMde => k_is)
    (case aLa => k_is)
    (case lLa => k_is)
    (case c_La => k_is)
    (case kLa => k_is)
    (case aC => k_is)
    (case pgC => k_is)
    (case hdC => k_is)
    (case poC => k_is)
    (case saC => k_is)
    (case mkC => k_is)
    (case kcC => k_is)
    (case aI => k_is)
    (case iI => k_is)
    (case lI => k_is)
    (case c_I => k_is)
    (case kI => k_is)
    (case aAn => k_is)
    (case iAn => k_is)
    (case lAn => k_is)
    (case c_An => k_is)
    (case kAn => k_is)
    (case aMd => k_is)
    (case iMd => k_is)
    (case lMd => k_is)
    (case c_Md => k_is)
    (case kMd => k_is)
    (case aLi => k_is)
    (case iLi => k_is)
    (case lLi => k_is)
    (case c_Li => k_is)
    (case kLi => k_is)
    (case aAt => k_is)
    (case iAt => k_is)
    (case lAt => k_is)
    (case c_At => k_is)
    (case kAt => k_is)
    (case aMa => k_is)
    (case iMa => k_is)
    (case lMa => k_is)
    (case c_Ma => k_is)
    (case kMa => k_is)
    (case nC_graph => k_is)
    (case nC_atoms => k_is)
    (case nC_numbers => k_is)
    (case nC_linears => k_is)
    (case aCG => k_is)
    (case pgCG => k_is)
    (case hdCG => k_is)
    (case poCG => k_is)
    (case saCG => k_is)
    (case mkCG => k_is)
    (case kcCG => k_is)
    (case aGI => k_is)
    (case iGI => k_is)
    (case lGI => k_is)
    (case c_GI => k_is)
    (case kGI => k_is)
    (case aGNu => k_is)
    (case iGNu => k_is)
    (case lGNu => k_is)
    (case c_GNu => k_is)
    (case kGNu => k_is)
    (case aGLe => k_is)
    (case iGLe => k_is)
    (case lGLe => k_is)
    (case c_GLe => k_is)
    (case kGLe => k_is)
    (case aGNo => k_is)
    (case iGNo => k_is)
    (case lGNo => k_is)
    (case c_GNo => k_is)
    (case kGNo => k_is)
    (case aGHe => k_is)
    (case iGHe => k_is)
    (case lGHe => k_is)
    (case c_GHe => k_is)
    (case kGHe => k_is)
    (case aGIs => k_is)
    (case iGIs => k_is)
    (case lGIs => k_is)
    (case c_GIs => k_is)
    (case kGIs => k_is)
    (case aGKe => k_is)
    (case iGKe => k_is)
    (case lGKe => k_is)
    (case c_GKe => k_is)
    (case kGKe => k_is)
    (case aGOp => k_is)
    (case iGOp => k_is)
    (case lGOp => k_is)
    (case c_GOp => k_is)
    (case kGOp => k_is)
    (case aGPa => k_is)
    (case iGPa => k_is)
    (case lGPa => k_is)
    (case c_GPa => k_is)
    (case kGPa => k_is)
    (case nCG_heads => k_is)
    (case nCG_known_heads => k_is)
    (case z_len => k_is)
    (case z_tuple => k_is)
    (case z_range => k_is)
    (case z_repr => k_is)
    (case z_int => k_is)
    (case z_abs => k_is)
    (case z_list => k_is)
    (case z_dict => k_is)
    (case z_sorted => k_is)
    (case z_sum => k_is)
    (case g_MOST_NODES => k_is)
