import PyProof.Rows.All
import Wide.All
import OpenK.AllK
import Wide.FinOn
import HandS.ForMost
import HandS.Walk
import HandS.Evl
import KE.KTupTabMore
import KE.KDictDisplayH
import HandS.TupAny
import HandS.IsInst
import HandS.Flow
import HandS.Star
import HandS.ClsMeth
import HandS.MakeKwOnly
import HandS.Head2
import HandS.HeadHook2
import HandS.HeadEnd
import HandS.MakeKw
import PySem.Challenge.RW_latewords_k12_whole_no_order_beyond_leas
set_option Elab.async false
set_option linter.all false
set_option maxRecDepth 100000
set_option maxHeartbeats 2000000
/-! dicts whose keys are tuples of ints, bools, texts: over HO.ext -/
namespace LW
open PySem PySem.Spec PyProof.Rows L2

def lk : V → Leaf
  | .int i => .num i
  | .bl b => .num (if b then 1 else 0)
  | .str x => .text x
  | _ => .none
def leafy : V → Bool
  | .int _ => true
  | .bl _ => true
  | .str _ => true
  | .non => true
  | _ => false
theorem lk_is {P : Program} {w : World} {v : V} {u : Value} (r : RelV v u) (h : leafy v = true) : (leafKind P w).is (lk v) u = true := by
  cases v with
  | non => cases r; exact leaf_none
  | bl b =>
    cases r
    cases b
    · exact leaf_false
    · exact leaf_true
  | int i => obtain ⟨t, rfl⟩ := r; exact leaf_int i t
  | str x => obtain ⟨t, rfl⟩ := r; exact leaf_str x t
  | byt _ => cases h
  | flt _ => cases h
  | ref _ => cases h
  | ty _ => cases h
theorem lks_are {P : Program} {w : World} : ∀ {ks : List V} {us : List Value}, Vals ks us → ks.all leafy = true → ItemsAre (leafKind P w) (ks.map lk) us
  | [], _, r, _ => by cases r; exact .nil
  | k :: ks, _, r, h => by
    cases r with
    | cons a t =>
      rw [List.all_cons, Bool.and_eq_true] at h
      exact .cons (lk_is a h.1) (lks_are t h.2)

/-- an entry: its key's tuple, what that holds, the value -/
structure DE where
  b : Addr
  ks : List V
  v : V
def DE.k (e : DE) : List Leaf := e.ks.map lk
def dLook (es : List DE) (k : List Leaf) : Option V := (es.find? fun e => decide (e.k = k)).map (·.v)
def dPut (es : List DE) (b : Addr) (ks : List V) (v : V) : List DE :=
  if (dLook es (ks.map lk)).isSome = true then es.map (fun e => if e.k = ks.map lk then { e with v := v } else e) else es ++ [⟨b, ks, v⟩]
theorem dPut_length (es : List DE) (b : Addr) (ks : List V) (v : V) : (dPut es b ks v).length ≤ es.length + 1 := by
  unfold dPut
  split
  · rw [List.length_map]; omega
  · rw [List.length_append]; simp
def KIn (K : PySem.W.Frag) (H : Hp) (es : List DE) : Prop := ∀ e ∈ es, SqT K H e.b e.ks ∧ e.ks.all leafy = true
theorem KIn.ex {K : PySem.W.Frag} {H H' : Hp} {es : List DE} (e : Evl.Ex H H') (h : KIn K H es) : KIn K H' es := fun x hx => ⟨Evl.ex_t e (h x hx).1, (h x hx).2⟩
theorem KIn.nil {K : PySem.W.Frag} {H : Hp} : KIn K H [] := fun _ h => nomatch h
theorem KIn.put {K : PySem.W.Frag} {H : Hp} {es : List DE} {b : Addr} {ks : List V} {v : V} (h : KIn K H es) (hb : SqT K H b ks) (hl : ks.all leafy = true) : KIn K H (dPut es b ks v) := by
  unfold dPut
  split
  · intro e he
    obtain ⟨e', h1, h2⟩ := List.mem_map.mp he
    by_cases q : e'.k = ks.map lk
    · rw [if_pos q] at h2; subst h2; exact h e' h1
    · rw [if_neg q] at h2; subst h2; exact h e' h1
  · intro e he
    rcases List.mem_append.mp he with q | q
    · exact h e q
    · cases List.mem_singleton.mp q; exact ⟨hb, hl⟩

abbrev DX : List DE → List (List Leaf × Addr × Value) → Prop := Paired fun e q => e.k = q.1 ∧ e.b = q.2.1 ∧ RelV e.v q.2.2
theorem DX.look {es : List DE} {xs : List (List Leaf × Addr × Value)} (r : DX es xs) (k : List Leaf) : RelO (dLook es k) ((atKey xs k).map (·.2)) := by
  induction r with
  | nil => exact True.intro
  | @cons p q ps qs h t ih =>
    obtain ⟨h1, _, h2⟩ := h
    by_cases e : p.k = k
    · have e' : q.1 = k := h1.symm.trans e
      have a : dLook (p :: ps) k = some p.v := by simp [dLook, List.find?_cons, e]
      have b : atKey (q :: qs) k = some q.2 := by simp [atKey, List.find?_cons, e']
      rw [a, b]; exact h2
    · have e' : ¬ q.1 = k := fun z => e (h1.trans z)
      have a : dLook (p :: ps) k = dLook ps k := by simp [dLook, List.find?_cons, e]
      have b : atKey (q :: qs) k = atKey qs k := by simp [atKey, List.find?_cons, e']
      rw [a, b]; exact ih
theorem DX.repl {es : List DE} {xs : List (List Leaf × Addr × Value)} (r : DX es xs) (k : List Leaf) {y : V} {u : Value} (ry : RelV y u) :
    DX (es.map fun e => if e.k = k then { e with v := y } else e) (xs.map (putAt k u)) := by
  induction r with
  | nil => exact .nil
  | @cons p q ps qs h t ih =>
    rw [List.map_cons, List.map_cons]
    refine .cons ?_ ih
    obtain ⟨h1, h2, h3⟩ := h
    unfold putAt
    by_cases e : p.k = k
    · rw [if_pos e, if_pos (h1.symm.trans e)]; exact ⟨h1, h2, ry⟩
    · rw [if_neg e, if_neg (fun z => e (h1.trans z))]; exact ⟨h1, h2, h3⟩
theorem DX.put {es : List DE} {xs : List (List Leaf × Addr × Value)} (r : DX es xs) (b : Addr) (ks : List V) {y : V} {u : Value} (ry : RelV y u) :
    DX (dPut es b ks y) (storedH xs (ks.map lk) b u) := by
  have e : (dLook es (ks.map lk)).isSome = (atKey xs (ks.map lk)).isSome := by
    rw [(r.look (ks.map lk)).isSome_eq, Option.isSome_map]
  unfold dPut storedH
  rw [e]
  by_cases q : (atKey xs (ks.map lk)).isSome = true
  · rw [if_pos q, if_pos q]; exact r.repl (ks.map lk) ry
  · rw [if_neg q, if_neg q]; exact Paired.snoc r ⟨rfl, rfl, ry⟩

section
variable (P : Program) (w : World)
def DPhi (d : Addr) (es : List DE) (h : Heap) : Prop := es.length ≤ sizeLine ∧ (d == sysModules) = false ∧ ∃ xs : List (List Leaf × Addr × Value), DX es xs ∧
  ∃ o ds ep, h.get? d = some o ∧ o.ExactDict ∧ o.data = .dict ds ep ∧ ds.toList = xs.map (entryOfKey (tupleKind (leafKind P w))) ∧ (xs.map (·.1)).Nodup
/-- a dict with such keys, as a thing of the layer -/
def DHO (d : Addr) (es : List DE) : HO := .ext (DPhi P w d es)
end
section
variable {P : Program} {w : World} {K : PySem.W.Frag} {H : Hp} {h : Heap} {a : Addr} {es : List DE}
theorem dho_ok {d : Addr} (p : DPhi P w d es h) : ObjOk P w H h d (DHO P w d es) := by
  obtain ⟨_, _, xs, _, o, _, _, e, _⟩ := id p
  refine ⟨p, ⟨o, e⟩, fun h1 h2 q k => ?_⟩
  obtain ⟨z, y, xs, r, o, ds, ep, e, c⟩ := q
  exact ⟨z, y, xs, r, o, ds, ep, k _ e, c⟩
theorem dphi_of (ok : HOk P w H h) (e : Rd H a (DHO P w a es)) : DPhi P w a es h := (show ObjOk P w H h a (DHO P w a es) from e.ok ok).1
end
section
variable {X : Cx} {pins : List (Addr × Obj)} {σ : L2.St} {H : Hp} {s : Shared} {a b : Addr} {ks : List V} {es : List DE} {v : V} {u r : Value} {A : Around} {E : Value → Shared → Prop}
theorem kkey_of (I : Inv X pins σ H s) (h : SqT X.K H b ks) (hl : ks.all leafy = true) : (tupleKind (leafKind X.prog X.w)).is s.heap (ks.map lk) b := by
  obtain ⟨its, rv, ⟨o, h1, h2, n, h3⟩, _⟩ := I.tuple h
  exact ⟨o, its.toArray, n, h1, h2, h3, by simpa using lks_are rv hl⟩
theorem dof_of (I : Inv X pins σ H s) (e : Rd H a (DHO X.prog X.w a es)) (k : KIn X.K H es) :
    es.length ≤ sizeLine ∧ (a == sysModules) = false ∧ ∃ xs, DX es xs ∧ s.heap.DictOfH (tupleKind (leafKind X.prog X.w)) a xs := by
  obtain ⟨z, y, xs, r, o, ds, ep, h1, h2, h3, h4, h5⟩ := dphi_of I.hok e
  refine ⟨z, y, xs, r, o, ds, ep, h1, h2, h3, h4, fun x hx => ?_, h5⟩
  have all : ∀ {l : List DE} {m : List (List Leaf × Addr × Value)}, DX l m → KIn X.K H l → ∀ x ∈ m, (tupleKind (leafKind X.prog X.w)).is s.heap x.1 x.2.1 := by
    intro l m q
    induction q with
    | nil => intro _ x hx; exact nomatch hx
    | @cons p q ps qs hq t ih =>
      intro kk x hx
      rcases List.mem_cons.mp hx with e | hx
      · subst e
        obtain ⟨z1, z2⟩ := kk p List.mem_cons_self
        rw [← hq.1, ← hq.2.1]
        exact kkey_of I z1 z2
      · exact ih (fun y hy => kk y (List.mem_cons_of_mem _ hy)) x hx
  exact all r k x hx
theorem t_getItem {Q : Value → Shared → Prop} (hu : A.units + 1 < cLine) (I : Inv X pins σ H s) (e : Rd H a (DHO X.prog X.w a es)) (k : KIn X.K H es) (hb : SqT X.K H b ks) (hl : ks.all leafy = true) (g : dLook es (ks.map lk) = some v)
    (h : ∀ w' s', Inv X pins σ H s' → RelV v w' → Q w' s') : wpAny (model X.prog X.w) A (getItem (.ref a) (.ref b)) Q E s := by
  obtain ⟨z, hd, xs, rel, dd⟩ := dof_of I e k
  obtain ⟨w', hw, rw'⟩ := RelO.some_of (v := v) (o := (atKey xs (ks.map lk)).map (·.2)) (by rw [← g]; exact rel.look _)
  obtain ⟨p, hp, hp2⟩ := Option.map_eq_some_iff.mp hw
  refine wpAny_getItem_heap (tupleKind_room_in1 hu) (kkey_of I hb hl) dd hp ?_
  rw [hp2]
  exact h w' _ (I.tok _) rw'
theorem t_notIn {Q : Value → Shared → Prop} (hu : A.units + 1 < cLine) (I : Inv X pins σ H s) (e : Rd H a (DHO X.prog X.w a es)) (k : KIn X.K H es) (hb : SqT X.K H b ks) (hl : ks.all leafy = true)
    (h : ∀ s', Inv X pins σ H s' → Q (.bool (!(dLook es (ks.map lk)).isSome)) s') : wpAny (model X.prog X.w) A (compareOp .NotIn (.ref b) (.ref a)) Q E s := by
  obtain ⟨z, hd, xs, rel, dd⟩ := dof_of I e k
  refine wpAny_notIn_heap (tupleKind_room_in1 hu) (kkey_of I hb hl) hd dd ?_
  have q := (rel.look (ks.map lk)).isSome_eq
  rw [Option.isSome_map] at q
  rw [← q]
  exact h _ (I.tok _)
theorem t_setItem {Q : Unit → Shared → Prop} (hu : A.units + 1 < cLine) (I : Inv X pins σ H s) (e : H a = some (DHO X.prog X.w a es)) (k : KIn X.K H es) (hb : SqT X.K H b ks) (hl : ks.all leafy = true) (hz : es.length < sizeLine) (rv : RelV v r)
    (h : ∀ s', Inv X pins σ (upd H a (DHO X.prog X.w a (dPut es b ks v))) s' → Q () s') : wpAny (model X.prog X.w) A (setItem (.ref a) (.ref b) r) Q E s := by
  obtain ⟨z, hd, xs, rel, dd⟩ := dof_of I (.inl e) k
  have hz' : xs.length ≤ sizeLine := by rw [← Paired.length rel]; exact z
  have hl' : (dPut es b ks v).length ≤ sizeLine := by have := dPut_length es b ks v; omega
  refine wpAny_setItem_heap (hsz := hz') (tupleKind_room_in1 hu) (kkey_of I hb hl) dd fun h' dd' hs => h _ ?_
  obtain ⟨q, ds, ep, hq, h2, h3, h4, _, h5⟩ := dd'
  exact d_write I (by rw [e]; exact True.intro) hs ⟨q, hq⟩ (dho_ok ⟨hl', hd, _, rel.put b ks rv, q, ds, ep, hq, h2, h3, h4, h5⟩)
end

/-! ### readings and rules -/
def tTGet (P : Program) (w : World) (K : PySem.W.Frag) (td ty : TE) : TE := fun σ H Q => td σ H fun x H1 => ty σ H1 fun y H2 => ∃ a b es ks v, x = .ref a ∧ y = .ref b ∧ Rd H2 a (DHO P w a es) ∧ KIn K H2 es ∧ SqT K H2 b ks ∧ ks.all leafy = true ∧ dLook es (ks.map lk) = some v ∧ Q v H2
def rTNotIn (P : Program) (w : World) (K : PySem.W.Frag) : R2 := fun y x H2 Q => ∃ a b es ks, x = .ref a ∧ y = .ref b ∧ Rd H2 a (DHO P w a es) ∧ KIn K H2 es ∧ SqT K H2 b ks ∧ ks.all leafy = true ∧ Q (.bl (!(dLook es (ks.map lk)).isSome)) H2
def sTPut (P : Program) (w : World) (K : PySem.W.Frag) (td ty tv : TE) : TS := fun D σ H => tv σ H fun v H1 => td σ H1 fun x H2 => ty σ H2 fun y H3 => ∃ a b es ks, x = .ref a ∧ y = .ref b ∧ H3 a = some (DHO P w a es) ∧ KIn K H3 es ∧ SqT K H3 b ks ∧ ks.all leafy = true ∧ es.length < sizeLine ∧
  D.nx σ (upd H3 a (DHO P w a (dPut es b ks v)))
def tTNew (P : Program) (w : World) : TE := fun _ H Q => ∀ p, H p = none → Q (.ref p) (upd H p (DHO P w p []))
def tTOne (P : Program) (w : World) (K : PySem.W.Frag) (tk tv : TE) : TE := fun σ H Q => ∀ p, H p = none → tk σ (upd H p (DHO P w p [])) fun x H1 => tv σ H1 fun y H2 => ∃ b ks, x = .ref b ∧ SqT K H2 b ks ∧ ks.all leafy = true ∧ H2 p = some (DHO P w p []) ∧ Q (.ref p) (upd H2 p (DHO P w p [⟨b, ks, y⟩]))
section
variable {X : Cx} {o i e value : Expr} {pos pos' tpos : Pos} {td ty tv : TE}
theorem tdict_typeIs {pins : List (Addr × Obj)} {σ : L2.St} {H : Hp} {s : Shared} {a : Addr} {es : List DE} (I : Inv X pins σ H s) (g : Rd H a (DHO X.prog X.w a es)) : s.TypeIs (.ref a) "dict" := by
  obtain ⟨_, _, _, _, o, _, _, h1, h2, _⟩ := dphi_of I.hok g
  exact ⟨o, h1, h2.1⟩
theorem pe_tget (hu : X.A.units + 1 < cLine) (ho : PE X o td) (hi : PE X i ty) (hs : NoSl i) : PE X (.Subscript o i pos) (tTGet X.prog X.w X.K td ty) := by
  refine ⟨fun pins s σ H Q I h => ?_⟩
  refine subD_of PySem.F.slot_dict_getitem.lookup hs (thn (ho.run pins s σ H _ I h) fun u s1 ⟨x, H1, I1, rx, q1⟩ => thn (hi.run pins s1 σ H1 _ I1 q1) fun iv s2 ⟨y, H2, I2, ry, a, b, es, ks, v, ex, ey, rd, kk, hb, hl, hv, q2⟩ => ?_)
  subst ex ey
  obtain rfl : u = Value.ref a := rx
  obtain rfl : iv = Value.ref b := ry
  exact ⟨tdict_typeIs I2 rd, t_getItem hu I2 rd kk hb hl hv fun w' s3 I3 rw' => ⟨v, H2, I3, rw', q2⟩⟩
theorem op_tnotin (hu : X.A.units + 1 < cLine) : OpR X (compareOp .NotIn) (rTNotIn X.prog X.w X.K) := by
  intro pins s σ H x y v u Q I rx ry h
  obtain ⟨a, b, es, ks, ex, ey, rd, kk, hb, hl, q⟩ := h
  subst ex ey
  obtain rfl : u = Value.ref a := ry
  obtain rfl : v = Value.ref b := rx
  exact t_notIn hu I rd kk hb hl fun s3 I3 => ⟨.bl _, H, I3, rfl, q⟩
theorem ps_tput (hu : X.A.units + 1 < cLine) (ho : PE X o td) (hi : PE X i ty) (hv : PE X value tv) (hs : swapsWith value (some (.Subscript o i pos')) pos.line X.env = pure false) :
    PS X (.Assign [.Subscript o i pos'] value pos) (sTPut X.prog X.w X.K td ty tv) := by
  refine ⟨fun pins s σ H D I h => ?_⟩
  refine wpAny_Assign_Subscript (thn (hv.run pins s σ H _ I h) fun r s1 ⟨v, H1, I1, rv, q1⟩ => thn (ho.run pins s1 σ H1 _ I1 q1) fun u s2 ⟨x, H2, I2, rx, q2⟩ => thn (hi.run pins s2 σ H2 _ I2 q2) fun iv s3 ⟨y, H3, I3, ry, a, b, es, ks, ex, ey, hd, kk, hb, hl, hz, q3⟩ => ?_) hs
  subst ex ey
  obtain rfl : u = Value.ref a := rx
  obtain rfl : iv = Value.ref b := ry
  exact t_setItem hu I3 hd kk hb hl hz rv fun s4 I4 => ⟨σ, _, I4, q3⟩
theorem tdict_empty {P : Program} {w : World} {H : Hp} (h : Heap) (hb : sysModules < h.objs.size) : ObjOk P w H (h.push { cls := .type "dict", data := .dict #[] }) h.objs.size (DHO P w h.objs.size []) :=
  dho_ok ⟨Nat.zero_le _, beq_eq_false_iff_ne.mpr (Ne.symm (Nat.ne_of_lt hb)), [], .nil, _, #[], 0, Heap.get?_push_size _ rfl, ⟨rfl, rfl, rfl⟩, rfl, rfl, List.nodup_nil⟩
theorem pe_tnew : PE X (.Dict [] [] pos) (tTNew X.prog X.w) := ⟨fun pins s σ H Q I h =>
  wpAny_Dict_empty ⟨.ref s.heap.objs.size, _, I.laid (a := s.heap.objs.size) (o := DHO X.prog X.w s.heap.objs.size []) (t' := s.toks) (fun _ _ q => Heap.get?_push_of_some _ q) (Nat.le_refl _) (tdict_empty s.heap I.big), rfl, h _ (I.hok.fresh (Nat.le_refl _))⟩⟩
theorem pe_tone {tk : TE} {k v : Expr} (hu : X.A.units + 1 < cLine) (hk : PE X k tk) (hv : PE X v tv) : PE X (.Dict [some k] [v] pos) (tTOne X.prog X.w X.K tk tv) := by
  refine ⟨fun pins s σ H Q I q => ?_⟩
  have hn := I.hok.fresh (Nat.le_refl s.heap.objs.size)
  have I1 := I.laid (a := s.heap.objs.size) (o := DHO X.prog X.w s.heap.objs.size []) (h' := s.heap.push { cls := .type "dict", data := .dict #[] }) (t' := s.toks) (fun _ _ q => Heap.get?_push_of_some _ q) (Nat.le_refl _) (tdict_empty s.heap I.big)
  rw [arm_eval_Dict, zip_pairTrees (pos := pos) [some k] [v] X.env rfl rfl, dictDisplay_pairs (pairTrees [some k] [v] X.env pos) (by intro z; cases z) (by show 1 < 17; decide)]
  refine wpAny_bind (wpAny_standAt (wpAny_bind (wpAny_subDictH (knd := tupleKind (leafKind X.prog X.w)) (Nat.lt_of_succ_lt hu) (by show 1 ≤ 15; decide) ?_)))
  refine pairTrees_cons_walk (thn (hk.run pins _ σ _ _ I1 (q _ hn)) fun u s1 ⟨x, H1, I2, rx, q1⟩ => thn (hv.run pins s1 σ H1 _ I2 q1) fun w2 s2 ⟨y, H2, I3, ry, b, ks, ex, hb, hl, hd, q2⟩ => ?_)
  subst ex
  obtain rfl : u = Value.ref b := rx
  refine pairTrees_nil_walk ?_
  obtain ⟨z, hm, xs, rel, dd⟩ := dof_of (es := []) I3 (.inl hd) KIn.nil
  cases rel
  refine ⟨[(ks.map lk, b, w2)], ⟨rfl, rfl, kkey_of I3 hb hl, trivial⟩, dd, fun h' tk' dd' hs => ?_⟩
  refine wpAny_pure ⟨.ref s.heap.objs.size, _, ?_, rfl, q2⟩
  obtain ⟨o', ds, ep, hq, h2, h3, h4, _, h5⟩ := dd'
  refine d_write I3 (by rw [hd]; exact True.intro) hs ⟨o', hq⟩ (dho_ok ⟨by show 1 ≤ sizeLine; decide, hm, [(ks.map lk, b, w2)], .cons ⟨rfl, rfl, ry⟩ .nil, o', ds, ep, hq, h2, h3, ?_, ?_⟩)
  · exact h4
  · exact h5
end

/-! ### the keys walked -/
def ItT (P : Program) (w : World) (d : Addr) (o : Obj) (es : List DE) : It :=
  ⟨fun i H => H d = some (.frz o (DHO P w d es)) ∧ i < es.length, fun i H x H' => H' = H ∧ ∃ e, es[i]? = some e ∧ x = .ref e.b, fun i H => H d = some (.frz o (DHO P w d es)) ∧ es.length ≤ i⟩
section
variable {X : Cx} {pins : List (Addr × Obj)} {σ : L2.St} {H : Hp} {s : Shared} {d : Addr} {o : Obj} {es : List DE}
theorem frzE (I : Inv X pins σ H s) (h : H d = some (.frz o (DHO X.prog X.w d es))) :
    (d == sysModules) = false ∧ s.heap.get? d = some o ∧ o.ExactDict ∧ ∃ (ds : Array DictEntry) (ep : Nat), o.data = .dict ds ep ∧ ds.size = es.length ∧
      ∀ (i : Nat) (e : DE), es[i]? = some e → ∃ en : DictEntry, ds[i]? = some en ∧ en.key = .ref e.b := by
  obtain ⟨hd, p, _⟩ := I.hok d _ h
  obtain ⟨z, hs, xs, pr, o', ds, ep, ho, hx, hdt, he, _⟩ := p
  rw [hd] at ho
  cases ho
  refine ⟨hs, hd, hx, ds, ep, hdt, ?_, fun i k e => ?_⟩
  · have l1 : ds.size = xs.length := size_of_entries he
    have l2 : es.length = xs.length := Paired.length pr
    omega
  · obtain ⟨b, hb, e1, e2, _⟩ := paired_get pr e
    have q := entry_at he i
    rw [hb] at q
    exact ⟨_, q, by rw [e2]; rfl⟩
end
theorem turn_tkeys {P : Program} {w : World} {K : PySem.W.Frag} {tg : Expr} {d : Addr} {o : Obj} {ds : Array DictEntry} {ep : Nat} {es : List DE} (it : Addr) (hod : o.data = .dict ds ep) : Turn P w K tg (ItT P w d o es) [it] it (fun i h => h.IsKeyIter it d i es.length ep) where
  mem := by simp
  obj := fun i h st b hb => by
    have e : b = it := by simpa using hb
    subst e
    obtain ⟨oi, e, c, dd⟩ := st
    exact ⟨oi, e, fun v z => by rw [dd] at z; cases z⟩
  keep := fun i h h' st k => st.at fun oi e => k it (by simp) oi e
  item := by
    intro X hP hw hK hc i pins s σ H E I hf st hg
    subst hP hw hK
    obtain ⟨hd, hi⟩ := hg
    obtain ⟨f0, f1, f2, f3, f4, f5⟩ := hf it (by simp)
    obtain ⟨hs, hgd, hx, es', ep', hdt, hsz, ent⟩ := frzE I hd
    obtain ⟨rfl, rfl⟩ := dict_ep hod hdt
    obtain ⟨k, hkv⟩ : ∃ p, es[i]? = some p := ⟨es[i], List.getElem?_eq_getElem hi⟩
    obtain ⟨en, hen, hkey⟩ := ent i k hkv
    refine next_key_item st hgd hdt hsz hen fun h' st' sb => ?_
    have I1 : Inv X pins σ H { s with heap := h' } := I.turned (t' := s.toks) (fun b ob hb e => (sb.2 b hb).trans e) f0 f1 f3 f4 f5
    obtain ⟨oi, e, c, dd⟩ := id st'
    exact ⟨en.key, rfl, go_of (s := { s with heap := h' }) e c dd (by decide) ⟨.ref k.b, H, I1, hkey, ⟨rfl, k, hkv, rfl⟩, st', fun b hb => (hf b hb).1⟩⟩
  done := by
    intro X hP hw hK hc i pins s σ H E I hf st hg
    subst hP hw hK
    obtain ⟨hd, hi⟩ := hg
    obtain ⟨f0, f1, f2, f3, f4, f5⟩ := hf it (by simp)
    obtain ⟨hs, hgd, hx, es', ep', hdt, hsz, ent⟩ := frzE I hd
    obtain ⟨rfl, rfl⟩ := dict_ep hod hdt
    exact next_key_end (I.ok.hd hc) st hgd hdt hsz hi fun h' eb => ⟨rfl, I.turned (t' := s.toks) (fun b ob hb e => eb b ob hb e) f0 f1 f3 f4 f5⟩
  self := fun A i s Q E st h => by
    refine wpAny_pyIter_slot st.typeIs F.slot_dict_keyiterator_iter (wpAny_call_entry F.slot_dict_keyiterator_iter st.typeIs F.entry_dict_keyiterator_iter ?_ (F.args_dict_keyiterator_iter_1 _))
    show wpAny _ _ (ret (.ref it)) _ _ s
    exact wpAny_pure ⟨_, rfl, "dict_keyiterator", _, st.typeIs, F.slot_dict_keyiterator_next.lookup, h⟩
def iT (P : Program) (w : World) (td : TE) : TI := fun σ H R => td σ H fun x H1 => ∃ d o es, x = .ref d ∧ H1 d = some (.frz o (DHO P w d es)) ∧ R (ItT P w d o es) H1
theorem pi_tkeys {X : Cx} {tg e : Expr} {td : TE} (he : PE X e td) : PI X tg e (iT X.prog X.w td) := by
  refine ⟨fun pins s σ H R I h => ?_⟩
  refine thn (he.run pins s σ H _ I h) fun u s1 ⟨x, H1, I1, rx, d, o, es, ex, hd, q⟩ => ?_
  subst ex
  obtain rfl : u = Value.ref d := rx
  obtain ⟨hs, hgd, hx, ds, ep, hdt, hsz, ent⟩ := frzE I1 hd
  refine iter_keys hs hgd hx hdt (pi_one (tk := s1.toks) I1 _ (turn_tkeys _ hdt) ⟨_, Heap.get?_push_size _ rfl, rfl, ?_⟩ q)
  rw [hsz] <;> rfl
theorem walk_tkeys {P : Program} {w : World} {d : Addr} {o : Obj} {es : List DE} : Walk (ItT P w d o es) es.length (fun H => H d = some (.frz o (DHO P w d es))) (fun i H x H' => H' = H ∧ ∃ e, es[i]? = some e ∧ x = .ref e.b) :=
  ⟨fun _ _ hi hg => ⟨hg, hi⟩, fun _ hg => ⟨hg, Nat.le_refl _⟩, fun _ _ _ _ _ _ y => y⟩
end LW

/-! plain mathematics: what the program's defs compute (no program in sight) -/
namespace LW
inductive Hold where
  | all | part | off
  deriving DecidableEq
structure Parts where
  rest : Int
  kept : Bool
  blocked : Bool
  stuck : Bool
  pending : Int
  quick : Int
  deriving DecidableEq
structure Rules where
  size : Int
  hold : Hold
  every : Int
def withFull (r : Rules) (p : Parts) (many : Int) : Parts × Int :=
  if many = 0 then (p, 0) else
  let soon := if many < p.quick then many else p.quick
  let late := many - soon
  let pend := if 0 < soon then 0 else p.pending
  let told := if 0 < r.every then soon + (pend + late) / r.every else soon
  let pend2 := if 0 < r.every then (pend + late) % r.every else pend
  let blocked := if r.hold = .all then true else p.blocked
  let stuck1 := if r.hold = .all then (decide (0 < late) && (decide (r.every = 0) || decide (0 < pend2))) else p.stuck
  let stuck := if r.hold = .part then (stuck1 && decide (told = 0)) else stuck1
  (⟨p.rest, p.kept, blocked, stuck, pend2, p.quick - soon⟩, told)
def withPartial (r : Rules) (p : Parts) : Parts × Int :=
  let blocked := !decide (r.hold = .off)
  if 0 < p.quick then (⟨0, false, blocked, false, 0, p.quick - 1⟩, 1) else (⟨0, false, blocked, blocked, p.pending, 0⟩, 0)
inductive Mode where
  | plain | push | more
  deriving DecidableEq
def afterWrite (r : Rules) (p : Parts) (length : Int) (mode : Mode) : Parts × Int × Int :=
  let many := (p.rest + length) / r.size
  let rest := (p.rest + length) % r.size
  let q := withFull r ⟨rest, false, p.blocked, p.stuck, p.pending, p.quick⟩ many
  if 0 < rest ∧ mode = .more then (⟨rest, true, q.1.blocked, q.1.stuck, q.1.pending, q.1.quick⟩, many, q.2)
  else if 0 < rest ∧ (mode = .push ∨ q.1.blocked = false) then
    let z := withPartial r q.1
    (z.1, many + 1, q.2 + z.2)
  else (q.1, many, q.2)
def afterClearing (r : Rules) (p : Parts) : Parts × Int × Int :=
  if p.blocked = false ∨ p.stuck = true then (p, 0, 0)
  else if p.rest = 0 ∨ p.kept = true then (⟨p.rest, p.kept, false, false, p.pending, p.quick⟩, 0, 0)
  else
    let z := withPartial r ⟨p.rest, p.kept, false, false, p.pending, p.quick⟩
    (z.1, 1, z.2)
/-- stalls, quick, segments, acknowledgments -/
def afterTurn (r : Rules) (p : Parts) : Int × Int × Int × Int :=
  let a := afterClearing r p
  let b := afterClearing r a.1
  if b.1.rest = 0 then (0, b.1.quick, 0 + a.2.1 + b.2.1, 0 + a.2.2 + b.2.2)
  else
    let z := withPartial r b.1
    (1, z.1.quick, 0 + a.2.1 + b.2.1 + 1, 0 + a.2.2 + b.2.2 + z.2 + (if b.1.kept = true then 0 else 1))
def firstParts (quick : Int) : Parts := ⟨0, false, false, false, 0, quick⟩
def withQuick (q : Int × Int) (e : Int) (many : Int) : Int × Int := if e = 0 then (many, q.2) else (q.1, many)
structure PolD where
  hold : Hold
  every : Int
  quick : Int
/-! conversations -/
structure Wr where
  who : Int
  len : Int
  mode : Mode
def Wr.ok (x : Wr) : Prop := (x.who = 0 ∨ x.who = 1) ∧ 1 ≤ x.len ∧ x.len ≤ 1000000000000000000
def Wr.ok2 (x : Wr) : Prop := (x.who = 0 ∨ x.who = 1) ∧ 1 ≤ x.len ∧ x.len ≤ 100
theorem Wr.ok2_ok {x : Wr} (h : x.ok2) : x.ok := ⟨h.1, h.2.1, Int.le_trans h.2.2 (by decide)⟩
structure Tn where
  who : Int
  a : Int
  b : Int
def splitStep (found : List Tn) (i : Int) (who : Int) : List Tn :=
  match found.getLast? with
  | none => found ++ [⟨who, i, i + 1⟩]
  | some t => if t.who = who then found.dropLast ++ [⟨t.who, t.a, i + 1⟩] else found ++ [⟨who, i, i + 1⟩]
def splitN (c : List Wr) : Nat → List Tn
  | 0 => []
  | n + 1 => match c[n]? with
    | some x => splitStep (splitN c n) n x.who
    | none => splitN c n
def splitTurns (c : List Wr) : List Tn := splitN c c.length
/-- where a 2 may stand -/
def limitsOf (c : List Wr) : List Int := (List.range c.length).map fun (i : Nat) => if (i : Int) ∈ (splitTurns c).map Tn.a then 0 else 2
def OrderOk (c : List Wr) (o : List Int) : Prop := o.length = c.length ∧ ∀ (i : Nat) x m, o[i]? = some x → (limitsOf c)[i]? = some m → 0 ≤ x ∧ x ≤ m
def clearingsOf (r : Rules) (p : Parts) : List (Int × Parts) :=
  let c1 := (afterClearing r p).1
  if c1 = p then [(0, p)] else
  let c2 := (afterClearing r c1).1
  if c2 = c1 then [(0, p), (1, c1)] else [(0, p), (1, c1), (2, c2)]
end LW

/-! turns: what split_turns finds -/
namespace LW
structure SpI (c : List Wr) (n : Nat) (ts : List Tn) : Prop where
  at_ : ∀ (i : Nat) t, ts[i]? = some t → 0 ≤ t.a ∧ t.a < t.b ∧ t.b ≤ n ∧ (∀ j : Nat, t.a ≤ (j : Int) → (j : Int) < t.b → ∃ x, c[j]? = some x ∧ x.who = t.who)
  first : ∀ t, ts[0]? = some t → t.a = 0
  next : ∀ (i : Nat) t t', ts[i]? = some t → ts[i + 1]? = some t' → t'.a = t.b ∧ t'.who ≠ t.who
  emp : ts = [] → n = 0
  last : ∀ t, ts.getLast? = some t → t.b = n
theorem last_get {α : Type} {l : List α} {t : α} (h : l.getLast? = some t) : l[l.length - 1]? = some t := by
  rw [← List.getLast?_eq_getElem?]; exact h
theorem snoc_get {α : Type} {l : List α} {a t : α} {i : Nat} (h : (l ++ [a])[i]? = some t) : (l[i]? = some t) ∨ (i = l.length ∧ t = a) := by
  by_cases e : i < l.length
  · rw [List.getElem?_append_left e] at h; exact .inl h
  · rw [List.getElem?_append_right (by omega)] at h
    have : i - l.length = 0 := by
      cases hk : i - l.length with
      | zero => rfl
      | succ k => rw [hk] at h; simp at h
    rw [this] at h
    simp at h
    exact .inr ⟨by omega, h.symm⟩
theorem spI_step {c : List Wr} {n : Nat} {ts : List Tn} (S : SpI c n ts) {x : Wr} (hx : c[n]? = some x) : SpI c (n + 1) (splitStep ts n x.who) := by
  unfold splitStep
  cases hL : ts.getLast? with
  | none =>
    have e : ts = [] := List.getLast?_eq_none_iff.mp hL
    have hn := S.emp e
    subst e hn
    refine ⟨fun i t h => ?_, fun t h => ?_, fun i t t' h h' => ?_, fun h => by simp at h, fun t h => ?_⟩
    · rcases snoc_get h with q | ⟨_, rfl⟩
      · simp at q
      · refine ⟨by simp, by show ((0 : Nat) : Int) < ((0 : Nat) : Int) + 1; omega, by show ((0 : Nat) : Int) + 1 ≤ _; omega, fun j h1 h2 => ?_⟩
        have h2 : (j : Int) < ((0 : Nat) : Int) + 1 := h2
        have : j = 0 := by omega
        subst this
        exact ⟨x, hx, rfl⟩
    · rcases snoc_get h with q | ⟨_, rfl⟩
      · simp at q
      · rfl
    · rcases snoc_get h' with q | ⟨q, _⟩
      · simp at q
      · simp at q
    · simp at h
      subst h
      rfl
  | some t0 =>
    have hl := last_get hL
    have hb := S.last t0 hL
    obtain ⟨a1, a2, a3, a4⟩ := S.at_ _ _ hl
    have hne : ts ≠ [] := fun z => by rw [z] at hL; cases hL
    have hpos := List.length_pos_iff.mpr hne
    by_cases hw : t0.who = x.who
    · simp only [if_pos hw]
      have e0 : ts = ts.dropLast ++ [t0] := by
        have := (List.dropLast_concat_getLast hne).symm
        rw [List.getLast?_eq_some_getLast hne] at hL
        cases hL
        exact this
      have hdl : ts.dropLast.length = ts.length - 1 := by simp
      have hg : ∀ (i : Nat) t, ts.dropLast[i]? = some t → ts[i]? = some t := fun i t h => by
        rw [e0, List.getElem?_append_left (List.getElem?_eq_some_iff.mp h).1]; exact h
      have hold : ∀ (j : Nat), t0.a ≤ (j : Int) → (j : Int) < (n : Int) + 1 → ∃ y, c[j]? = some y ∧ y.who = t0.who := fun j h1 h2 => by
        by_cases hj : (j : Int) < t0.b
        · exact a4 j h1 hj
        · have : j = n := by omega
          subst this
          exact ⟨x, hx, hw.symm⟩
      refine ⟨fun i t h => ?_, fun t h => ?_, fun i t t' h h' => ?_, fun h => by simp at h, fun t h => ?_⟩
      · rcases snoc_get h with q | ⟨_, rfl⟩
        · obtain ⟨b1, b2, b3, b4⟩ := S.at_ i t (hg i t q)
          exact ⟨b1, b2, by omega, b4⟩
        · exact ⟨a1, by show t0.a < (n : Int) + 1; omega, by show (n : Int) + 1 ≤ _; omega, hold⟩
      · rcases snoc_get h with q | ⟨q, rfl⟩
        · exact S.first t (hg 0 t q)
        · refine S.first t0 ?_
          have : ts.length - 1 = 0 := by omega
          rw [this] at hl; exact hl
      · rcases snoc_get h with q | ⟨q, rfl⟩
        · rcases snoc_get h' with q' | ⟨q', rfl⟩
          · exact S.next i t t' (hg _ _ q) (hg _ _ q')
          · refine S.next i t t0 (hg _ _ q) ?_
            have : i + 1 = ts.length - 1 := by omega
            rw [this]; exact hl
        · have := (List.getElem?_eq_some_iff.mp h').1
          simp at this
          omega
      · simp at h
        subst h
        show (n : Int) + 1 = _
        omega
    · simp only [if_neg hw]
      refine ⟨fun i t h => ?_, fun t h => ?_, fun i t t' h h' => ?_, fun h => by simp at h, fun t h => ?_⟩
      · rcases snoc_get h with q | ⟨_, rfl⟩
        · obtain ⟨b1, b2, b3, b4⟩ := S.at_ i t q
          exact ⟨b1, b2, by omega, b4⟩
        · refine ⟨by show (0 : Int) ≤ (n : Int); omega, by show (n : Int) < (n : Int) + 1; omega, by show (n : Int) + 1 ≤ _; omega, fun j h1 h2 => ?_⟩
          have h1 : (n : Int) ≤ j := h1
          have h2 : (j : Int) < (n : Int) + 1 := h2
          have : j = n := by omega
          subst this
          exact ⟨x, hx, rfl⟩
      · rcases snoc_get h with q | ⟨q, rfl⟩
        · exact S.first t q
        · omega
      · rcases snoc_get h with q | ⟨q, rfl⟩
        · rcases snoc_get h' with q' | ⟨q', rfl⟩
          · exact S.next i t t' q q'
          · have hi : i = ts.length - 1 := by omega
            rw [hi, hl] at q
            cases q
            exact ⟨hb.symm, fun z => hw z.symm⟩
        · have := (List.getElem?_eq_some_iff.mp h').1
          simp at this
          omega
      · simp at h
        subst h
        show (n : Int) + 1 = _
        omega
theorem spI_n (c : List Wr) : ∀ n, n ≤ c.length → SpI c n (splitN c n)
  | 0, _ => ⟨fun i t h => by simp [splitN] at h, fun t h => by simp [splitN] at h, fun i t t' h => by simp [splitN] at h, fun _ => rfl, fun t h => by simp [splitN] at h⟩
  | n + 1, h => by
    have hx : c[n]? = some c[n] := List.getElem?_eq_getElem (by omega)
    unfold splitN
    rw [hx]
    exact spI_step (spI_n c n (by omega)) hx
theorem spI (c : List Wr) : SpI c c.length (splitTurns c) := spI_n c _ (Nat.le_refl _)
/-- so many clearings -/
def clearK (r : Rules) (p : Parts) : Nat → Parts
  | 0 => p
  | n + 1 => (afterClearing r (clearK r p n)).1
/-- a turn's writes -/
def turnParts (r : Rules) (c : List Wr) (o : List Int) (q : Int) (a : Nat) : Nat → Parts
  | 0 => firstParts q
  | i + 1 => match c[a + i]?, o[a + i]? with
    | some x, some k => (afterWrite r (clearK r (turnParts r c o q a i) k.toNat) x.len x.mode).1
    | _, _ => turnParts r c o q a i
def pickQ (q : Int × Int) (e : Int) : Int := if e = 0 then q.1 else q.2
/-- the rules of a speaker, for each -/
abbrev RS := Int → Rules
def outN (rs : RS) (q0 : Int × Int) (c : List Wr) (o : List Int) (ts : List Tn) : Nat → (Int × Int) × List Int
  | 0 => (q0, [])
  | i + 1 => match ts[i]? with
    | some t =>
      let q := (outN rs q0 c o ts i).1
      let z := afterTurn (rs t.who) (turnParts (rs t.who) c o (pickQ q (1 - t.who)) t.a.toNat (t.b - t.a).toNat)
      (withQuick q (1 - t.who) z.2.1, if 0 < z.1 then (outN rs q0 c o ts i).2 ++ [(i : Int)] else (outN rs q0 c o ts i).2)
    | none => outN rs q0 c o ts i
def outStalls (rs : RS) (q0 : Int × Int) (c : List Wr) (o : List Int) : Int := ((outN rs q0 c o (splitTurns c) (splitTurns c).length).2.length : Nat)
theorem outN_len (rs : RS) (q0 : Int × Int) (c : List Wr) (o : List Int) (ts : List Tn) : ∀ i, (outN rs q0 c o ts i).2.length ≤ i
  | 0 => Nat.le_refl _
  | i + 1 => by
    have := outN_len rs q0 c o ts i
    unfold outN
    split
    · dsimp only
      split
      · simp; omega
      · show (outN rs q0 c o ts i).2.length ≤ i + 1
        omega
    · omega
end LW

/-! what turn_ends and best_orders find -/
namespace LW
section
variable {κ α : Type} [DecidableEq κ]
def lkL (L : List (κ × α)) (k : κ) : Option α := (L.find? fun q => decide (q.1 = k)).map (·.2)
def putL (L : List (κ × α)) (k : κ) (v : α) : List (κ × α) := if (lkL L k).isSome = true then L.map (fun q => if q.1 = k then (q.1, v) else q) else L ++ [(k, v)]
theorem lkL_nil (k : κ) : lkL ([] : List (κ × α)) k = none := rfl
theorem lkL_cons (a : κ × α) (L : List (κ × α)) (k : κ) : lkL (a :: L) k = if a.1 = k then some a.2 else lkL L k := by
  unfold lkL
  rw [List.find?_cons]
  by_cases h : a.1 = k
  · simp [h]
  · simp [h]
theorem lkL_none {L : List (κ × α)} {k : κ} : lkL L k = none ↔ k ∉ L.map (·.1) := by
  induction L with
  | nil => simp [lkL_nil]
  | cons a r ih =>
    rw [lkL_cons]
    by_cases h : a.1 = k
    · simp [h]
    · rw [if_neg h, ih]
      simp [Ne.symm h]
theorem lkL_mem {L : List (κ × α)} {k : κ} {v : α} (h : lkL L k = some v) : (k, v) ∈ L := by
  induction L with
  | nil => cases h
  | cons a r ih =>
    rw [lkL_cons] at h
    by_cases e : a.1 = k
    · rw [if_pos e] at h
      cases h
      rw [← e]
      exact List.mem_cons_self
    · rw [if_neg e] at h
      exact List.mem_cons_of_mem _ (ih h)
theorem lkL_some {L : List (κ × α)} {k : κ} (h : k ∈ L.map (·.1)) : ∃ v, lkL L k = some v := by
  cases e : lkL L k with
  | some v => exact ⟨v, rfl⟩
  | none => exact absurd h (lkL_none.mp e)
theorem lkL_snoc {L : List (κ × α)} {k k' : κ} {v : α} : lkL (L ++ [(k, v)]) k' = match lkL L k' with | some x => some x | none => if k = k' then some v else none := by
  induction L with
  | nil =>
    show lkL ((k, v) :: []) k' = _
    rw [lkL_cons]; rfl
  | cons a r ih =>
    rw [List.cons_append, lkL_cons, lkL_cons]
    by_cases e : a.1 = k'
    · rw [if_pos e, if_pos e]
    · rw [if_neg e, if_neg e, ih]
theorem lkL_map {L : List (κ × α)} {k k' : κ} {v : α} : lkL (L.map fun q => if q.1 = k then (q.1, v) else q) k' = if k' = k ∧ (lkL L k').isSome = true then some v else lkL L k' := by
  induction L with
  | nil => simp [lkL_nil]
  | cons a r ih =>
    rw [List.map_cons, lkL_cons, lkL_cons, ih]
    by_cases e : a.1 = k
    · rw [if_pos e]
      by_cases e2 : a.1 = k'
      · have : k' = k := e2.symm.trans e
        simp [e2, this]
      · simp [e2]
    · rw [if_neg e]
      by_cases e2 : a.1 = k'
      · have : ¬ k' = k := fun z => e (e2.trans z)
        simp [e2, this]
      · simp [e2]
theorem lkL_put {L : List (κ × α)} {k k' : κ} {v : α} : lkL (putL L k v) k' = if k = k' then some v else lkL L k' := by
  unfold putL
  cases h : lkL L k with
  | some x =>
    simp only [Option.isSome_some, if_true]
    rw [lkL_map]
    by_cases e : k = k'
    · subst e; simp [h]
    · rw [if_neg e, if_neg fun z => e z.1.symm]
  | none =>
    simp only [Option.isSome_none, Bool.false_eq_true, if_false]
    rw [lkL_snoc]
    by_cases e : k = k'
    · subst e; rw [h]
    · rw [if_neg e]
      cases lkL L k' <;> simp [e]
theorem putL_keys {L : List (κ × α)} {k : κ} {v : α} : (putL L k v).map (·.1) = if (lkL L k).isSome = true then L.map (·.1) else L.map (·.1) ++ [k] := by
  unfold putL
  split
  · rw [List.map_map]
    apply List.map_congr_left
    intro q _
    show (if q.1 = k then (q.1, v) else q).1 = q.1
    split <;> rfl
  · simp
theorem putL_nodup {L : List (κ × α)} {k : κ} {v : α} (h : (L.map (·.1)).Nodup) : ((putL L k v).map (·.1)).Nodup := by
  rw [putL_keys]
  cases e : lkL L k with
  | some x => simpa using h
  | none =>
    simp only [Option.isSome_none, Bool.false_eq_true, if_false]
    rw [List.nodup_append]
    exact ⟨h, by simp, fun a ha b hb => by
      have := lkL_none.mp e
      rw [List.mem_singleton] at hb
      subst hb
      exact fun z => this (z ▸ ha)⟩
theorem putL_all {L : List (κ × α)} {k : κ} {v : α} {U : κ → Prop} (h : ∀ q ∈ L.map (·.1), U q) (hk : U k) : ∀ q ∈ (putL L k v).map (·.1), U q := by
  rw [putL_keys]
  intro q hq
  split at hq
  · exact h q hq
  · rcases List.mem_append.mp hq with z | z
    · exact h q z
    · rw [List.mem_singleton.mp z]; exact hk
theorem nodup_lt : ∀ (N : Nat) (l : List Nat), l.Nodup → (∀ x ∈ l, x < N) → l.length ≤ N
  | 0, l, _, h => by
    cases l with
    | nil => exact Nat.le_refl _
    | cons a r => exact absurd (h a List.mem_cons_self) (by omega)
  | N + 1, l, hn, h => by
    by_cases e : N ∈ l
    · have h1 := List.length_erase_of_mem e
      have := nodup_lt N (l.erase N) (hn.erase N) fun x hx => by
        have := (hn.mem_erase_iff).mp hx
        have := h x this.2
        omega
      have := List.length_pos_of_mem e
      omega
    · have := nodup_lt N l hn fun x hx => by
        have := h x hx
        have : x ≠ N := fun z => e (z ▸ hx)
        omega
      omega
theorem nodup_bound {l : List κ} (f : κ → Nat) (N : Nat) (hn : l.Nodup) (hi : ∀ a ∈ l, ∀ b ∈ l, f a = f b → a = b) (h : ∀ x ∈ l, f x < N) : l.length ≤ N := by
  have : (l.map f).Nodup := by
    rw [List.Nodup, List.pairwise_map]
    exact List.Pairwise.imp_of_mem (fun ha hb hne z => hne (hi _ ha _ hb z)) hn
  have := nodup_lt N _ this fun x hx => by
    obtain ⟨a, ha, rfl⟩ := List.mem_map.mp hx
    exact h a ha
  rwa [List.length_map] at this
end
def foldN {α β : Type} (f : β → α → β) (L : List α) (b : β) (n : Nat) : β := (L.take n).foldl f b
theorem foldN_zero {α β : Type} (f : β → α → β) (L : List α) (b : β) : foldN f L b 0 = b := rfl
theorem foldN_succ {α β : Type} {f : β → α → β} {L : List α} {b : β} {n : Nat} {x : α} (h : L[n]? = some x) : foldN f L b (n + 1) = f (foldN f L b n) x := by
  unfold foldN
  rw [List.take_add_one, h]
  simp
theorem foldN_all {α β : Type} (f : β → α → β) (L : List α) (b : β) : foldN f L b L.length = L.foldl f b := by
  unfold foldN
  rw [List.take_length]
/-! bounds -/
def RulesOk (r : Rules) : Prop := 0 < r.size ∧ r.size ≤ 10 ∧ 0 ≤ r.every ∧ r.every ≤ 9
structure PB (r : Rules) (p : Parts) : Prop where
  r0 : 0 ≤ p.rest
  r1 : p.rest < r.size
  e0 : 0 ≤ p.pending
  e1 : p.pending < r.every ∨ p.pending = 0
  q0 : 0 ≤ p.quick
  q1 : p.quick ≤ 4
def bcode (p : Parts) : Nat := p.kept.toNat + 2 * p.blocked.toNat + 4 * p.stuck.toNat
def pcode (p : Parts) : Nat := p.rest.toNat + 10 * (p.pending.toNat + 10 * (p.quick.toNat + 5 * bcode p))
theorem bcode_lt (p : Parts) : bcode p < 8 := by
  unfold bcode
  cases p.kept <;> cases p.blocked <;> cases p.stuck <;> decide
theorem pcode_lt {r : Rules} (hr : RulesOk r) {p : Parts} (h : PB r p) : pcode p < 4000 := by
  obtain ⟨a1, a2, a3, a4⟩ := hr
  obtain ⟨b1, b2, b3, b4, b5, b6⟩ := h
  have := bcode_lt p
  unfold pcode
  omega
theorem pcode_inj {r : Rules} (hr : RulesOk r) {p q : Parts} (h : PB r p) (h' : PB r q) (e : pcode p = pcode q) : p = q := by
  obtain ⟨a1, a2, a3, a4⟩ := hr
  obtain ⟨b1, b2, b3, b4, b5, b6⟩ := h
  obtain ⟨d1, d2, d3, d4, d5, d6⟩ := h'
  have c1 := bcode_lt p
  have c2 := bcode_lt q
  unfold pcode at e
  have e1 : p.rest = q.rest := by omega
  have e2 : p.pending = q.pending := by omega
  have e3 : p.quick = q.quick := by omega
  have e4 : bcode p = bcode q := by omega
  clear e c1 c2
  obtain ⟨x1, x2, x3, x4, x5, x6⟩ := p
  obtain ⟨y1, y2, y3, y4, y5, y6⟩ := q
  simp only at e1 e2 e3
  subst e1 e2 e3
  unfold bcode at e4
  simp only at e4
  revert e4
  cases x2 <;> cases x3 <;> cases x4 <;> cases y2 <;> cases y3 <;> cases y4 <;> simp
theorem pb_first {r : Rules} (hr : RulesOk r) {q : Int} (h0 : 0 ≤ q) (h4 : q ≤ 4) : PB r (firstParts q) := ⟨Int.le_refl _, hr.1, Int.le_refl _, .inr rfl, h0, h4⟩
theorem pb_full {r : Rules} (hr : RulesOk r) {p : Parts} (h : PB r p) {n : Int} (hn : 0 ≤ n) : PB r (withFull r p n).1 := by
  obtain ⟨a1, a2, a3, a4⟩ := hr
  obtain ⟨b1, b2, b3, b4, b5, b6⟩ := h
  unfold withFull
  split
  · exact ⟨b1, b2, b3, b4, b5, b6⟩
  · dsimp only
    refine ⟨b1, b2, ?_, ?_, ?_, ?_⟩ <;> dsimp only
    · split
      · exact Int.emod_nonneg _ (by omega)
      · split <;> omega
    · split
      · exact .inl (Int.emod_lt_of_pos _ (by omega))
      · right; split <;> omega
    · split <;> omega
    · split <;> omega
theorem pb_partial {r : Rules} (hr : RulesOk r) {p : Parts} (h : PB r p) : PB r (withPartial r p).1 := by
  obtain ⟨a1, a2, a3, a4⟩ := hr
  obtain ⟨b1, b2, b3, b4, b5, b6⟩ := h
  unfold withPartial
  dsimp only
  split
  · exact ⟨Int.le_refl _, a1, Int.le_refl _, .inr rfl, by show 0 ≤ p.quick - 1; omega, by show p.quick - 1 ≤ 4; omega⟩
  · exact ⟨Int.le_refl _, a1, b3, b4, Int.le_refl _, (by show (0 : Int) ≤ 4; decide)⟩
theorem pb_write {r : Rules} (hr : RulesOk r) {p : Parts} (h : PB r p) {l : Int} (hl : 1 ≤ l) (m : Mode) : PB r (afterWrite r p l m).1 := by
  have h0 := hr.1
  have hb := h.r0
  have hd : 0 ≤ (p.rest + l) / r.size := Int.ediv_nonneg (by omega) (by omega)
  have hm0 : 0 ≤ (p.rest + l) % r.size := Int.emod_nonneg _ (by omega)
  have hm1 : (p.rest + l) % r.size < r.size := Int.emod_lt_of_pos _ h0
  have hq : PB r (withFull r ⟨(p.rest + l) % r.size, false, p.blocked, p.stuck, p.pending, p.quick⟩ ((p.rest + l) / r.size)).1 :=
    pb_full (p := ⟨(p.rest + l) % r.size, false, p.blocked, p.stuck, p.pending, p.quick⟩) hr ⟨hm0, hm1, h.e0, h.e1, h.q0, h.q1⟩ hd
  unfold afterWrite
  dsimp only
  split
  · exact ⟨hm0, hm1, hq.e0, hq.e1, hq.q0, hq.q1⟩
  · split
    · exact pb_partial hr hq
    · exact hq
theorem pb_clear {r : Rules} (hr : RulesOk r) {p : Parts} (h : PB r p) : PB r (afterClearing r p).1 := by
  have h2 : PB r ⟨p.rest, p.kept, false, false, p.pending, p.quick⟩ := ⟨h.r0, h.r1, h.e0, h.e1, h.q0, h.q1⟩
  unfold afterClearing
  split
  · exact h
  · split
    · exact h2
    · exact pb_partial hr h2
theorem pb_clearK {r : Rules} (hr : RulesOk r) {p : Parts} (h : PB r p) : ∀ n, PB r (clearK r p n)
  | 0 => h
  | n + 1 => pb_clear hr (pb_clearK hr h n)
theorem turn_bound {r : Rules} (hr : RulesOk r) {p : Parts} (h : PB r p) : ((afterTurn r p).1 = 0 ∨ (afterTurn r p).1 = 1) ∧ 0 ≤ (afterTurn r p).2.1 ∧ (afterTurn r p).2.1 ≤ 4 := by
  have h1 := pb_clear hr (pb_clear hr h)
  unfold afterTurn
  dsimp only
  split
  · exact ⟨.inl rfl, h1.q0, h1.q1⟩
  · have h2 := pb_partial hr h1
    exact ⟨.inr rfl, h2.q0, h2.q1⟩
/-! the program's searching -/
abbrev PD := List (Parts × List Int)
def wayStep (r : Rules) (x : Wr) (o : List Int) (B : PD) (y : Int × Parts) : PD :=
  if (lkL B (afterWrite r y.2 x.len x.mode).1).isSome = true then B else putL B (afterWrite r y.2 x.len x.mode).1 (o ++ [y.1])
def waysOf (r : Rules) (i : Nat) (p : Parts) : List (Int × Parts) := if 0 < i then clearingsOf r p else [(0, p)]
def keyStep (r : Rules) (x : Wr) (i : Nat) (L : PD) (B : PD) (p : Parts) : PD := (waysOf r i p).foldl (wayStep r x ((lkL L p).getD [])) B
def writeStep (r : Rules) (x : Wr) (i : Nat) (L : PD) : PD := (L.map (·.1)).foldl (keyStep r x i L) []
def reachedN (r : Rules) (W : List Wr) (q : Int) : Nat → PD
  | 0 => [(firstParts q, [])]
  | i + 1 => match W[i]? with
    | some x => writeStep r x i (reachedN r W q i)
    | none => reachedN r W q i
abbrev ED := List ((Int × Int) × List Int)
def endStep (r : Rules) (L : PD) (E : ED) (p : Parts) : ED :=
  if (lkL E ((afterTurn r p).1, (afterTurn r p).2.1)).isSome = true then E else putL E ((afterTurn r p).1, (afterTurn r p).2.1) ((lkL L p).getD [])
def turnEnds (r : Rules) (W : List Wr) (q : Int) : ED := ((reachedN r W q W.length).map (·.1)).foldl (endStep r (reachedN r W q W.length)) []
/-- each list: no key twice, all keys bounded -/
structure GP (r : Rules) (i : Nat) (B : PD) : Prop where
  nd : (B.map (·.1)).Nodup
  pb : ∀ p ∈ B.map (·.1), PB r p
  ol : ∀ q ∈ B, q.2.length = i
theorem GP.len {r : Rules} (hr : RulesOk r) {i : Nat} {B : PD} (h : GP r i B) : B.length ≤ 4000 := by
  have := nodup_bound pcode 4000 h.nd (fun a ha b hb e => pcode_inj hr (h.pb a ha) (h.pb b hb) e) fun x hx => pcode_lt hr (h.pb x hx)
  rwa [List.length_map] at this
theorem GP.nil {r : Rules} {i : Nat} : GP r i [] := ⟨by simp, fun p h => (by cases h), fun p h => (by cases h)⟩
theorem ways_pb {r : Rules} (hr : RulesOk r) {p : Parts} (h : PB r p) {i : Nat} : ∀ y ∈ waysOf r i p, PB r y.2 := by
  intro y hy
  unfold waysOf at hy
  split at hy
  · unfold clearingsOf at hy
    dsimp only at hy
    split at hy
    · simp at hy; rw [hy]; exact h
    · split at hy
      · simp at hy
        rcases hy with rfl | rfl
        · exact h
        · exact pb_clear hr h
      · simp at hy
        rcases hy with rfl | rfl | rfl
        · exact h
        · exact pb_clear hr h
        · exact pb_clear hr (pb_clear hr h)
  · simp at hy; rw [hy]; exact h
theorem GP.put {r : Rules} {i : Nat} {B : PD} (h : GP r i B) {p : Parts} (hp : PB r p) {o : List Int} (ho : o.length = i) : GP r i (putL B p o) :=
  ⟨putL_nodup h.nd, putL_all h.pb hp, fun q hq => by
    unfold putL at hq
    split at hq
    · obtain ⟨z, hz, rfl⟩ := List.mem_map.mp hq
      split
      · exact ho
      · exact h.ol z hz
    · rcases List.mem_append.mp hq with z | z
      · exact h.ol q z
      · rw [List.mem_singleton.mp z]; exact ho⟩
theorem gp_way {r : Rules} (hr : RulesOk r) {x : Wr} (hx : 1 ≤ x.len) {i : Nat} {o : List Int} (ho : o.length = i) {B : PD} (h : GP r (i + 1) B) {y : Int × Parts} (hy : PB r y.2) : GP r (i + 1) (wayStep r x o B y) := by
  unfold wayStep
  split
  · exact h
  · exact h.put (pb_write hr hy hx _) (by rw [List.length_append, ho]; rfl)
theorem gp_fold {α : Type} {Q : PD → Prop} {f : PD → α → PD} {L : List α} (h : ∀ B x, x ∈ L → Q B → Q (f B x)) {B : PD} (hB : Q B) (n : Nat) : Q (foldN f L B n) := by
  induction n with
  | zero => exact hB
  | succ n ih =>
    cases e : L[n]? with
    | some x => rw [foldN_succ e]; exact h _ x (List.mem_of_getElem? e) ih
    | none =>
      have : foldN f L B (n + 1) = foldN f L B n := by unfold foldN; rw [List.take_add_one, e]; simp
      rw [this]; exact ih
theorem gp_get {r : Rules} {i : Nat} {L : PD} (h : GP r i L) {p : Parts} (hp : p ∈ L.map (·.1)) : ∃ o, lkL L p = some o ∧ o.length = i := by
  obtain ⟨o, ho⟩ := lkL_some hp
  exact ⟨o, ho, h.ol _ (lkL_mem ho)⟩
theorem gp_key {r : Rules} (hr : RulesOk r) {x : Wr} (hx : 1 ≤ x.len) {i : Nat} {L : PD} (hL : GP r i L) {p : Parts} (hp : p ∈ L.map (·.1)) {B : PD} (h : GP r (i + 1) B) : GP r (i + 1) (keyStep r x i L B p) := by
  obtain ⟨o, ho, hol⟩ := gp_get hL hp
  unfold keyStep
  rw [← foldN_all, ho]
  exact gp_fold (Q := GP r (i + 1)) (fun B y hy hB => gp_way hr hx hol hB (ways_pb hr (hL.pb p hp) y hy)) h _
theorem gp_write {r : Rules} (hr : RulesOk r) {x : Wr} (hx : 1 ≤ x.len) {i : Nat} {L : PD} (hL : GP r i L) : GP r (i + 1) (writeStep r x i L) := by
  unfold writeStep
  rw [← foldN_all]
  exact gp_fold (Q := GP r (i + 1)) (fun B p hp hB => gp_key hr hx hL hp hB) GP.nil _
theorem gp_reached {r : Rules} (hr : RulesOk r) {W : List Wr} (hW : ∀ x ∈ W, 1 ≤ x.len) {q : Int} (h0 : 0 ≤ q) (h4 : q ≤ 4) : ∀ i, i ≤ W.length → GP r i (reachedN r W q i)
  | 0, _ => ⟨by simp [reachedN], fun p hp => by simp [reachedN] at hp; rw [hp]; exact pb_first hr h0 h4, fun p hp => by simp [reachedN] at hp; rw [hp]; rfl⟩
  | i + 1, hi => by
    have e : W[i]? = some W[i] := List.getElem?_eq_getElem (by omega)
    unfold reachedN
    rw [e]
    exact gp_write hr (hW _ (List.getElem_mem _)) (gp_reached hr hW h0 h4 i (by omega))
structure GE (i : Nat) (E : ED) : Prop where
  nd : (E.map (·.1)).Nodup
  pb : ∀ e ∈ E.map (·.1), (e.1 = 0 ∨ e.1 = 1) ∧ 0 ≤ e.2 ∧ e.2 ≤ 4
  ol : ∀ q ∈ E, q.2.length = i
theorem GE.len {i : Nat} {E : ED} (h : GE i E) : E.length ≤ 10 := by
  have := nodup_bound (fun (e : Int × Int) => e.1.toNat + 2 * e.2.toNat) 10 h.nd (fun a ha b hb e => by
    have h1 := h.pb a ha
    have h2 := h.pb b hb
    obtain ⟨a1, a2⟩ := a
    obtain ⟨b1, b2⟩ := b
    simp only at e h1 h2
    have : a1 = b1 ∧ a2 = b2 := by omega
    rw [this.1, this.2]) fun x hx => by
    have := h.pb x hx
    omega
  rwa [List.length_map] at this
theorem ge_end {r : Rules} (hr : RulesOk r) {i : Nat} {L : PD} (hL : GP r i L) {p : Parts} (hp : p ∈ L.map (·.1)) {E : ED} (h : GE i E) : GE i (endStep r L E p) := by
  obtain ⟨o, ho, hol⟩ := gp_get hL hp
  unfold endStep
  rw [ho]
  split
  · exact h
  · refine ⟨putL_nodup h.nd, putL_all h.pb (turn_bound hr (hL.pb p hp)), fun q hq => ?_⟩
    unfold putL at hq
    split at hq
    · obtain ⟨z, hz, rfl⟩ := List.mem_map.mp hq
      split
      · exact hol
      · exact h.ol z hz
    · rcases List.mem_append.mp hq with z | z
      · exact h.ol q z
      · rw [List.mem_singleton.mp z]; exact hol
theorem ge_fold {α : Type} {Q : ED → Prop} {f : ED → α → ED} {L : List α} (h : ∀ B x, x ∈ L → Q B → Q (f B x)) {B : ED} (hB : Q B) (n : Nat) : Q (foldN f L B n) := by
  induction n with
  | zero => exact hB
  | succ n ih =>
    cases e : L[n]? with
    | some x => rw [foldN_succ e]; exact h _ x (List.mem_of_getElem? e) ih
    | none =>
      have : foldN f L B (n + 1) = foldN f L B n := by unfold foldN; rw [List.take_add_one, e]; simp
      rw [this]; exact ih
theorem GE.nil {i : Nat} : GE i [] := ⟨by simp, fun p h => (by cases h), fun p h => (by cases h)⟩
theorem ge_ends {r : Rules} (hr : RulesOk r) {W : List Wr} (hW : ∀ x ∈ W, 1 ≤ x.len) {q : Int} (h0 : 0 ≤ q) (h4 : q ≤ 4) : GE W.length (turnEnds r W q) := by
  unfold turnEnds
  rw [← foldN_all]
  exact ge_fold (Q := GE W.length) (fun E p hp hE => ge_end hr (gp_reached hr hW h0 h4 _ (Nat.le_refl _)) hp hE) GE.nil _
end LW

/-! best_orders -/
namespace LW
abbrev BD := List ((Int × Int) × (Int × List Int))
def sliceW (c : List Wr) (t : Tn) : List Wr := (c.drop t.a.toNat).take (t.b.toNat - t.a.toNat)
def betterB (sign : Int) (f : Option (Int × List Int)) (s : Int) : Bool := match f with
  | none => true
  | some z => decide (sign * s < sign * z.1)
def endPut (sign who : Int) (quick : Int × Int) (so : Int × List Int) (ends : ED) (B : BD) (e : Int × Int) : BD :=
  if betterB sign (lkL B (withQuick quick (1 - who) e.2)) (so.1 + e.1) = true then putL B (withQuick quick (1 - who) e.2) (so.1 + e.1, so.2 ++ (lkL ends e).getD []) else B
def quickStep (rs : RS) (c : List Wr) (sign : Int) (t : Tn) (best : BD) (B : BD) (quick : Int × Int) : BD :=
  ((turnEnds (rs t.who) (sliceW c t) (pickQ quick (1 - t.who))).map (·.1)).foldl (endPut sign t.who quick ((lkL best quick).getD (0, [])) (turnEnds (rs t.who) (sliceW c t) (pickQ quick (1 - t.who)))) B
def turnStep (rs : RS) (c : List Wr) (sign : Int) (best : BD) (t : Tn) : BD := (best.map (·.1)).foldl (quickStep rs c sign t best) []
def bestN (rs : RS) (q0 : Int × Int) (c : List Wr) (sign : Int) (ts : List Tn) : Nat → BD
  | 0 => [(q0, (0, []))]
  | i + 1 => match ts[i]? with
    | some t => turnStep rs c sign (bestN rs q0 c sign ts i) t
    | none => bestN rs q0 c sign ts i
def foundStep (sign : Int) (best : BD) (f : Option (Int × List Int)) (quick : Int × Int) : Option (Int × List Int) :=
  if betterB sign f ((lkL best quick).getD (0, [])).1 = true then some ((lkL best quick).getD (0, [])) else f
def bestOf (sign : Int) (best : BD) : Option (Int × List Int) := (best.map (·.1)).foldl (foundStep sign best) none
def bestOrders (rs : RS) (q0 : Int × Int) (c : List Wr) (sign : Int) : Option (Int × List Int) := bestOf sign (bestN rs q0 c sign (splitTurns c) (splitTurns c).length)
def QOk (q : Int × Int) : Prop := 0 ≤ q.1 ∧ q.1 ≤ 4 ∧ 0 ≤ q.2 ∧ q.2 ≤ 4
structure GB (n : Nat) (B : BD) : Prop where
  nd : (B.map (·.1)).Nodup
  pb : ∀ e ∈ B.map (·.1), QOk e
  ol : ∀ q ∈ B, q.2.2.length = n
theorem GB.len {n : Nat} {B : BD} (h : GB n B) : B.length ≤ 25 := by
  have := nodup_bound (fun (e : Int × Int) => e.1.toNat + 5 * e.2.toNat) 25 h.nd (fun a ha b hb e => by
    have h1 := h.pb a ha
    have h2 := h.pb b hb
    obtain ⟨a1, a2⟩ := a
    obtain ⟨b1, b2⟩ := b
    unfold QOk at h1 h2
    simp only at e h1 h2
    have : a1 = b1 ∧ a2 = b2 := by omega
    rw [this.1, this.2]) fun x hx => by
    have := h.pb x hx
    unfold QOk at this
    omega
  rwa [List.length_map] at this
theorem GB.nil {n : Nat} : GB n [] := ⟨by simp, fun p h => (by cases h), fun p h => (by cases h)⟩
theorem GB.put {n : Nat} {B : BD} (h : GB n B) {q : Int × Int} (hq : QOk q) {z : Int × List Int} (hz : z.2.length = n) : GB n (putL B q z) :=
  ⟨putL_nodup h.nd, putL_all h.pb hq, fun q' hq' => by
    unfold putL at hq'
    split at hq'
    · obtain ⟨y, hy, rfl⟩ := List.mem_map.mp hq'
      split
      · exact hz
      · exact h.ol y hy
    · rcases List.mem_append.mp hq' with y | y
      · exact h.ol q' y
      · rw [List.mem_singleton.mp y]; exact hz⟩
theorem qok_with {q : Int × Int} (h : QOk q) (e : Int) {m : Int} (h0 : 0 ≤ m) (h4 : m ≤ 4) : QOk (withQuick q e m) := by
  unfold withQuick
  split
  · exact ⟨h0, h4, h.2.2.1, h.2.2.2⟩
  · exact ⟨h.1, h.2.1, h0, h4⟩
theorem qok_pick {q : Int × Int} (h : QOk q) (e : Int) : 0 ≤ pickQ q e ∧ pickQ q e ≤ 4 := by
  unfold pickQ
  split
  · exact ⟨h.1, h.2.1⟩
  · exact ⟨h.2.2.1, h.2.2.2⟩
theorem fold_inv {α β : Type} {Q : β → Prop} {f : β → α → β} {L : List α} (h : ∀ B x, x ∈ L → Q B → Q (f B x)) {B : β} (hB : Q B) (n : Nat) : Q (foldN f L B n) := by
  induction n with
  | zero => exact hB
  | succ n ih =>
    cases e : L[n]? with
    | some x => rw [foldN_succ e]; exact h _ x (List.mem_of_getElem? e) ih
    | none =>
      have : foldN f L B (n + 1) = foldN f L B n := by unfold foldN; rw [List.take_add_one, e]; simp
      rw [this]; exact ih
theorem gb_end {n k : Nat} {sign who : Int} {quick : Int × Int} {so : Int × List Int} {ends : ED} {B : BD} {e : Int × Int} (hq : QOk quick) (hso : so.2.length = n) (hE : GE k ends) (he : e ∈ ends.map (·.1)) (h : GB (n + k) B) : GB (n + k) (endPut sign who quick so ends B e) := by
  unfold endPut
  split
  · obtain ⟨o, ho⟩ := lkL_some he
    have := hE.pb e he
    refine h.put (qok_with hq _ this.2.1 this.2.2) ?_
    rw [ho]
    show (so.2 ++ o).length = n + k
    rw [List.length_append, hso, hE.ol _ (lkL_mem ho)]
  · exact h
theorem sliceW_len {c : List Wr} {t : Tn} (h0 : 0 ≤ t.a) (h1 : t.a < t.b) (h2 : t.b ≤ c.length) : (sliceW c t).length = t.b.toNat - t.a.toNat := by
  unfold sliceW
  rw [List.length_take, List.length_drop]
  omega
theorem sliceW_ok {c : List Wr} (hc : ∀ x ∈ c, x.ok) {t : Tn} : ∀ x ∈ sliceW c t, x.ok := fun x hx => hc x (List.drop_subset _ _ (List.take_subset _ _ hx))
def RsOk (rs : RS) : Prop := ∀ e, e = 0 ∨ e = 1 → RulesOk (rs e)
theorem gb_get {n : Nat} {B : BD} (h : GB n B) {q : Int × Int} (hq : q ∈ B.map (·.1)) : ∃ z, lkL B q = some z ∧ z.2.length = n := by
  obtain ⟨z, hz⟩ := lkL_some hq
  exact ⟨z, hz, h.ol _ (lkL_mem hz)⟩
theorem gb_quick {rs : RS} {c : List Wr} {sign : Int} {t : Tn} {best B : BD} (hr : RulesOk (rs t.who)) (hc : ∀ x ∈ c, x.ok) (h0 : 0 ≤ t.a) (h1 : t.a < t.b) (h2 : t.b ≤ c.length) (hbest : GB t.a.toNat best) (h : GB t.b.toNat B) {q : Int × Int} (hq : q ∈ best.map (·.1)) :
    GB t.b.toNat (quickStep rs c sign t best B q) := by
  obtain ⟨z, hz, hzl⟩ := gb_get hbest hq
  have hE := ge_ends hr (fun x hx => (sliceW_ok hc (t := t) x hx).2.1) (qok_pick (hbest.pb q hq) (1 - t.who)).1 (qok_pick (hbest.pb q hq) (1 - t.who)).2
  rw [sliceW_len h0 h1 h2] at hE
  have e : t.b.toNat = t.a.toNat + (t.b.toNat - t.a.toNat) := by omega
  unfold quickStep
  rw [← foldN_all]
  rw [e] at h ⊢
  exact fold_inv (Q := GB _) (fun B x hx hB => gb_end (hbest.pb q hq) (by rw [hz]; exact hzl) hE hx hB) h _
theorem gb_turn {rs : RS} {c : List Wr} {sign : Int} {t : Tn} {best : BD} (hr : RulesOk (rs t.who)) (hc : ∀ x ∈ c, x.ok) (h0 : 0 ≤ t.a) (h1 : t.a < t.b) (h2 : t.b ≤ c.length) (hbest : GB t.a.toNat best) : GB t.b.toNat (turnStep rs c sign best t) := by
  unfold turnStep
  rw [← foldN_all]
  exact fold_inv (Q := GB _) (fun B x hx hB => gb_quick hr hc h0 h1 h2 hbest hB hx) GB.nil _
/-- where turn i begins -/
def startOf (ts : List Tn) (n : Nat) (i : Nat) : Nat := match ts[i]? with
  | some t => t.a.toNat
  | none => n
theorem startOf_next {c : List Wr} {ts : List Tn} {n : Nat} (S : SpI c n ts) {i : Nat} {t : Tn} (h : ts[i]? = some t) : startOf ts n (i + 1) = t.b.toNat := by
  unfold startOf
  cases e : ts[i + 1]? with
  | some t' => show t'.a.toNat = _; rw [(S.next i t t' h e).1]
  | none =>
    have hi := (List.getElem?_eq_some_iff.mp h).1
    have hi2 := List.getElem?_eq_none_iff.mp e
    have : ts.getLast? = some t := by
      rw [List.getLast?_eq_getElem?]
      have : ts.length - 1 = i := by omega
      rw [this]; exact h
    have := S.last t this
    show n = _
    omega
theorem startOf_zero {c : List Wr} {ts : List Tn} {n : Nat} (S : SpI c n ts) : startOf ts n 0 = 0 := by
  unfold startOf
  cases e : ts[0]? with
  | some t => show t.a.toNat = 0; rw [S.first t e]; rfl
  | none => exact S.emp (by cases ts with | nil => rfl | cons a r => simp at e)
theorem tn_who {c : List Wr} (hc : ∀ x ∈ c, x.ok) {n : Nat} {ts : List Tn} (S : SpI c n ts) {i : Nat} {t : Tn} (h : ts[i]? = some t) : t.who = 0 ∨ t.who = 1 := by
  obtain ⟨a1, a2, a3, a4⟩ := S.at_ i t h
  obtain ⟨x, hx, hw⟩ := a4 t.a.toNat (by omega) (by omega)
  rw [← hw]
  exact (hc x (List.mem_of_getElem? hx)).1
theorem gb_best {rs : RS} (hrs : RsOk rs) {q0 : Int × Int} (hq : QOk q0) {c : List Wr} (hc : ∀ x ∈ c, x.ok) {sign : Int} {ts : List Tn} (S : SpI c c.length ts) : ∀ i, i ≤ ts.length → GB (startOf ts c.length i) (bestN rs q0 c sign ts i)
  | 0, _ => by
    rw [startOf_zero S]
    exact ⟨by simp [bestN], fun p hp => by simp [bestN] at hp; rw [hp]; exact hq, fun p hp => by simp [bestN] at hp; rw [hp]; rfl⟩
  | i + 1, hi => by
    have e : ts[i]? = some ts[i] := List.getElem?_eq_getElem (by omega)
    obtain ⟨a1, a2, a3, a4⟩ := S.at_ i _ e
    have hb := gb_best hrs hq hc S (sign := sign) i (by omega)
    rw [startOf_next S e]
    unfold bestN
    rw [e]
    refine gb_turn (hrs _ (tn_who hc S e)) hc a1 a2 a3 ?_
    have : startOf ts c.length i = ts[i].a.toNat := by unfold startOf; rw [e]
    rw [← this]
    exact hb
end LW

/-! the law's own player: one side -/
namespace LW
def whoAt (c : List Wr) (i : Nat) : Int := (c[i]?.map (·.who)).getD 0
def firstB (c : List Wr) (i : Nat) : Bool := decide ((i : Int) = 0) || !decide (whoAt c (i - 1) = whoAt c i)
def limF (c : List Wr) (i : Nat) : Int := if firstB c i = true then 0 else 2
def OrderF (c : List Wr) (o : List Int) : Prop := o.length = c.length ∧ ∀ (i : Nat) k, o[i]? = some k → 0 ≤ k ∧ k ≤ limF c i
structure Side where
  rest : Int
  kept : Bool
  sent : Int
  covered : Int
  mark : Int
  way : List Int
  heard : Int
  fulls : Int
  arrived : Int
  count : Int
  bare : Int
def sNew (a : Int) : Side := ⟨0, false, 0, 0, 0, [], 0, 0, a, 0, 0⟩
def sSend (s : Side) (wd x : Int) : Side :=
  if x < wd then { s with rest := s.rest - x, sent := s.sent + x, count := s.count + 1, way := s.way ++ [x], mark := s.sent + x, kept := false }
  else { s with rest := s.rest - x, sent := s.sent + x, count := s.count + 1, way := s.way ++ [x] }
def sMay (s : Side) (h : Hold) : Bool := if h = .part then decide (s.mark ≤ s.covered) else (decide (h = .off) || decide (s.covered = s.sent))
def sLoop (wd : Int) : Nat → Side → Side
  | 0, s => s
  | n + 1, s => sLoop wd n (sSend s wd wd)
def sPush (s : Side) (wd : Int) (h : Hold) (m : Mode) : Side :=
  if 0 < s.rest ∧ m = .more then { s with kept := true }
  else if 0 < s.rest ∧ (m = .push ∨ sMay s h = true) then sSend s wd s.rest else s
def sWrite (s : Side) (wd : Int) (h : Hold) (l : Int) (m : Mode) : Side :=
  sPush (sLoop wd ((s.rest + l) / wd).toNat { s with rest := s.rest + l, kept := false }) wd h m
def hearStep (wd : Int) (o : PolD) (z : Side × Int) (x : Int) : Side × Int :=
  let s1 : Side := { z.1 with heard := z.1.heard + x, arrived := z.1.arrived + 1, fulls := z.1.fulls + (if decide (x = wd) = true then 1 else 0) }
  if s1.arrived ≤ o.quick ∨ (x = wd ∧ s1.fulls = o.every) then ({ s1 with fulls := 0, bare := s1.bare + 1 }, s1.heard) else (s1, z.2)
def sHearG (s : Side) (wd : Int) (o : PolD) : Side × Int := s.way.foldl (hearStep wd o) (s, s.covered)
def sHear (s : Side) (wd : Int) (o : PolD) : Side × Int := ({ (sHearG s wd o).1 with way := [] }, (sHearG s wd o).2)
def sCov (s : Side) (wd : Int) (o : PolD) : Side := { (sHear s wd o).1 with covered := (sHear s wd o).2 }
def sClear (s : Side) (wd : Int) (h : Hold) (o : PolD) : Side :=
  let s1 := sCov s wd o
  if 0 < s1.rest ∧ s1.kept = false ∧ sMay s1 h = true then sSend s1 wd s1.rest else s1
def sDone (s : Side) (wd : Int) (h : Hold) (o : PolD) : Side :=
  if s.way = [] then s else if (sClear s wd h o).way = [] then sClear s wd h o else sClear (sClear s wd h o) wd h o
/-- the end of a turn: a stall, and the side -/
def sFinish (s : Side) (wd : Int) (h : Hold) (o : PolD) : Bool × Side :=
  let s1 := sDone s wd h o
  if s1.rest = 0 then (false, s1) else
  let s2 := if s1.kept = true then s1 else { s1 with bare := s1.bare + 1, fulls := 0 }
  (true, sCov (sSend s2 wd s2.rest) wd o)
theorem hear_rest (wd : Int) (o : PolD) : ∀ (l : List Int) (z : Side × Int), (l.foldl (hearStep wd o) z).1.rest = z.1.rest ∧ (l.foldl (hearStep wd o) z).1.kept = z.1.kept
  | [], z => ⟨rfl, rfl⟩
  | x :: l, z => by
    have h := hear_rest wd o l (hearStep wd o z x)
    rw [List.foldl_cons, h.1, h.2]
    unfold hearStep
    dsimp only
    generalize (if decide (x = wd) = true then (1 : Int) else 0) = b1
    split <;> exact ⟨rfl, rfl⟩
theorem sCov_rest (s : Side) (wd : Int) (o : PolD) : (sCov s wd o).rest = s.rest ∧ (sCov s wd o).kept = s.kept ∧ (sCov s wd o).way = [] := by
  have h := hear_rest wd o s.way (s, s.covered)
  exact ⟨h.1, h.2, rfl⟩
theorem sSend_rest0 (s : Side) (wd : Int) : (sSend s wd s.rest).rest = 0 := by
  unfold sSend
  split <;> exact Int.sub_self _
/-- a clearing that left something on its way has sent all -/
theorem clear_way {s : Side} {wd : Int} {h : Hold} {o : PolD} (hw : (sClear s wd h o).way ≠ []) : (sClear s wd h o).rest = 0 := by
  unfold sClear at hw ⊢
  dsimp only at hw ⊢
  split
  · exact sSend_rest0 _ _
  · rename_i hc
    rw [if_neg hc] at hw
    exact absurd (sCov_rest s wd o).2.2 hw
theorem clear_rest0 {s : Side} {wd : Int} {h : Hold} {o : PolD} (hr : s.rest = 0) : (sClear s wd h o).way = [] ∧ (sClear s wd h o).rest = 0 := by
  have hc := sCov_rest s wd o
  unfold sClear
  dsimp only
  rw [if_neg (by rw [hc.1, hr]; exact fun z => absurd z.1 (by decide))]
  exact ⟨hc.2.2, hc.1.trans hr⟩
theorem done_way (s : Side) (wd : Int) (h : Hold) (o : PolD) : (sDone s wd h o).way = [] := by
  unfold sDone
  split
  · assumption
  · split
    · assumption
    · rename_i h2
      exact (clear_rest0 (clear_way h2)).1
/-! the whole play, write by write -/
def polOf (p : PolD × PolD) (e : Int) : PolD := if e = 0 then p.1 else p.2
def sClearK (s : Side) (wd : Int) (h : Hold) (o : PolD) : Nat → Side
  | 0 => s
  | n + 1 => sClear (sClearK s wd h o n) wd h o
def lastB (c : List Wr) (i : Nat) : Bool := decide ((i : Int) + 1 = c.length) || !decide (whoAt c (i + 1) = whoAt c i)
structure PSt where
  arr : Int × Int
  st : List Int
  run : Int
  side : Side
def psBegin (c : List Wr) (i : Nat) (x : Wr) (z : PSt) : PSt := if firstB c i = true then { z with run := z.run + 1, side := sNew (pickQ z.arr (1 - x.who)) } else z
def psMid (wd : Int) (p : PolD × PolD) (x : Wr) (k : Int) (s : Side) : Side :=
  sWrite (sClearK s wd (polOf p x.who).hold (polOf p (1 - x.who)) k.toNat) wd (polOf p x.who).hold x.len x.mode
def psEnd (wd : Int) (p : PolD × PolD) (c : List Wr) (i : Nat) (x : Wr) (z : PSt) (s : Side) : PSt :=
  if lastB c i = true then
    ⟨withQuick z.arr (1 - x.who) (sFinish s wd (polOf p x.who).hold (polOf p (1 - x.who))).2.arrived, if (sFinish s wd (polOf p x.who).hold (polOf p (1 - x.who))).1 = true then z.st ++ [z.run] else z.st, z.run, (sFinish s wd (polOf p x.who).hold (polOf p (1 - x.who))).2⟩
  else { z with side := s }
def playStep (wd : Int) (p : PolD × PolD) (c : List Wr) (i : Nat) (x : Wr) (k : Int) (z : PSt) : PSt :=
  psEnd wd p c i x (psBegin c i x z) (psMid wd p x k (psBegin c i x z).side)
def playN (wd : Int) (p : PolD × PolD) (c : List Wr) (o : List Int) : Nat → PSt
  | 0 => ⟨(0, 0), [], -1, sNew 0⟩
  | i + 1 => match c[i]?, o[i]? with
    | some x, some k => playStep wd p c i x k (playN wd p c o i)
    | _, _ => playN wd p c o i
def playStalls (wd : Int) (p : PolD × PolD) (c : List Wr) (o : List Int) : List Int := (playN wd p c o c.length).st
/-- what a side keeps -/
structure SI (wd : Int) (n : Nat) (s : Side) : Prop where
  r0 : 0 ≤ s.rest
  r1 : s.rest < wd
  wl : s.way.length ≤ n
theorem si_new {wd : Int} (h : 0 < wd) (a : Int) : SI wd 0 (sNew a) := ⟨Int.le_refl _, h, Nat.le_refl _⟩
theorem si_clear {wd : Int} {n : Nat} {s : Side} (hw : 0 < wd) (h : SI wd n s) (hd : Hold) (o : PolD) : SI wd (n + 1) (sClear s wd hd o) := by
  have hc := sCov_rest s wd o
  unfold sClear
  dsimp only
  split
  · refine ⟨by rw [sSend_rest0]; omega, by rw [sSend_rest0]; exact hw, ?_⟩
    have : (sSend (sCov s wd o) wd (sCov s wd o).rest).way = (sCov s wd o).way ++ [(sCov s wd o).rest] := by unfold sSend; split <;> rfl
    rw [this, hc.2.2]
    simp
  · exact ⟨by rw [hc.1]; exact h.r0, by rw [hc.1]; exact h.r1, by rw [hc.2.2]; simp⟩
theorem si_clearK {wd : Int} {n : Nat} {s : Side} (hw : 0 < wd) (h : SI wd n s) (hd : Hold) (o : PolD) : ∀ k, SI wd (n + k) (sClearK s wd hd o k)
  | 0 => h
  | k + 1 => si_clear hw (si_clearK hw h hd o k) hd o
theorem sSend_way (s : Side) (wd x : Int) : (sSend s wd x).way = s.way ++ [x] := by unfold sSend; split <;> rfl
theorem sLoop_succ (wd : Int) : ∀ (n : Nat) (s : Side), sLoop wd (n + 1) s = sSend (sLoop wd n s) wd wd
  | 0, _ => rfl
  | n + 1, s => by
    show sLoop wd (n + 1) (sSend s wd wd) = _
    rw [sLoop_succ wd n]; rfl
theorem sSend_rest (s : Side) (wd x : Int) : (sSend s wd x).rest = s.rest - x := by unfold sSend; split <;> rfl
theorem sLoop_rest (wd : Int) : ∀ (n : Nat) (s : Side), (sLoop wd n s).rest = s.rest - wd * n
  | 0, s => by show s.rest = s.rest - wd * ((0 : Nat) : Int); simp
  | n + 1, s => by
    rw [sLoop_succ, sSend_rest, sLoop_rest wd n s]
    have : wd * ((n + 1 : Nat) : Int) = wd * n + wd := by rw [Int.natCast_add, Int.mul_add]; simp
    rw [this]; omega
theorem sLoop_way (wd : Int) : ∀ (n : Nat) (s : Side), (sLoop wd n s).way.length = s.way.length + n
  | 0, s => rfl
  | n + 1, s => by
    rw [sLoop_succ, sSend_way, List.length_append, sLoop_way wd n s]; rfl
theorem sendall {wd : Int} {s : Side} (hw : 0 < wd) (n : Nat) (h : s.way = []) : SI wd (n + 1) (sSend s wd s.rest) := by
  refine ⟨by rw [sSend_rest0]; omega, by rw [sSend_rest0]; exact hw, ?_⟩
  rw [sSend_way, h]; simp
theorem si_finish {wd : Int} {n : Nat} {s : Side} (hw : 0 < wd) (h : SI wd n s) (hd : Hold) (o : PolD) : SI wd (n + 2) (sFinish s wd hd o).2 := by
  have hdn : SI wd (n + 2) (sDone s wd hd o) := by
    unfold sDone
    split
    · exact ⟨h.r0, h.r1, by have := h.wl; omega⟩
    · split
      · have := si_clear hw h hd o
        exact ⟨this.r0, this.r1, by have := this.wl; omega⟩
      · exact si_clear hw (si_clear hw h hd o) hd o
  have hway := done_way s wd hd o
  unfold sFinish
  dsimp only
  generalize sDone s wd hd o = S at hdn hway
  split
  · exact hdn
  · have hw2 : (if S.kept = true then S else { S with bare := S.bare + 1, fulls := 0 } : Side).way = [] := by split <;> exact hway
    generalize (if S.kept = true then S else { S with bare := S.bare + 1, fulls := 0 } : Side) = S2 at hw2
    have h2 := sendall hw n hw2
    have hc := sCov_rest (sSend S2 wd S2.rest) wd o
    exact ⟨by show 0 ≤ (sCov _ wd o).rest; rw [hc.1]; exact h2.r0, by show (sCov _ wd o).rest < wd; rw [hc.1]; exact h2.r1, by show (sCov _ wd o).way.length ≤ _; rw [hc.2.2]; simp⟩
theorem si_write {wd : Int} {n : Nat} {s : Side} (hw : 0 < wd) (hw1 : wd ≤ 10) (h : SI wd n s) (hd : Hold) {l : Int} (hl0 : 0 ≤ l) (hl : l ≤ 100) (m : Mode) : SI wd (n + 111) (sWrite s wd hd l m) := by
  have h0 := h.r0
  have h1 := h.r1
  have hdm := Int.mul_ediv_add_emod (s.rest + l) wd
  have hm0 := Int.emod_nonneg (s.rest + l) (b := wd) (by omega)
  have hm1 := Int.emod_lt_of_pos (s.rest + l) (b := wd) hw
  have hd0 : 0 ≤ (s.rest + l) / wd := Int.ediv_nonneg (by omega) (by omega)
  have hdl : (s.rest + l) / wd ≤ 110 := by
    have := Int.ediv_le_self (b := wd) (a := s.rest + l) (by omega)
    omega
  unfold sWrite
  have hr := sLoop_rest wd ((s.rest + l) / wd).toNat { s with rest := s.rest + l, kept := false }
  have hwl := sLoop_way wd ((s.rest + l) / wd).toNat { s with rest := s.rest + l, kept := false }
  have hcast : ((((s.rest + l) / wd).toNat : Nat) : Int) = (s.rest + l) / wd := by omega
  rw [hcast] at hr
  simp only at hr hwl
  have hN : ((s.rest + l) / wd).toNat ≤ 110 := by omega
  generalize sLoop wd ((s.rest + l) / wd).toNat { s with rest := s.rest + l, kept := false } = S at hr hwl
  have hwl2 : S.way.length ≤ n + 110 := by have := h.wl; omega
  have hr2 : S.rest = (s.rest + l) % wd := by omega
  unfold sPush
  split
  · exact ⟨by show 0 ≤ S.rest; omega, by show S.rest < wd; omega, by show S.way.length ≤ _; omega⟩
  · split
    · refine ⟨by rw [sSend_rest0]; omega, by rw [sSend_rest0]; exact hw, ?_⟩
      rw [sSend_way, List.length_append]
      simp; omega
    · exact ⟨by omega, by omega, by omega⟩
end LW

/-! limits; runs -/
namespace LW
theorem whoAt_some {c : List Wr} {i : Nat} {x : Wr} (h : c[i]? = some x) : whoAt c i = x.who := by unfold whoAt; rw [h]; rfl
/-- a turn begins where firstB says -/
theorem start_iff {c : List Wr} {n : Nat} {ts : List Tn} (S : SpI c n ts) (hn : n ≤ c.length) {i : Nat} (hi : i < n) : (∃ t ∈ ts, t.a = (i : Int)) ↔ firstB c i = true := by
  -- every place lies in a turn
  have cover : ∀ i, i < n → ∃ (k : Nat) (t : Tn), ts[k]? = some t ∧ t.a ≤ (i : Int) ∧ (i : Int) < t.b := by
    intro i
    induction i with
    | zero =>
      intro hi
      cases ht : ts[0]? with
      | none =>
        have : ts = [] := by cases ts with | nil => rfl | cons a r => simp at ht
        exact absurd (S.emp this) (by omega)
      | some t =>
        have h1 := S.first t ht
        have h2 := (S.at_ 0 t ht).2.1
        exact ⟨0, t, ht, by omega, by omega⟩
    | succ i ih =>
      intro hi
      obtain ⟨k, t, ht, h1, h2⟩ := ih (by omega)
      by_cases hb : ((i + 1 : Nat) : Int) < t.b
      · exact ⟨k, t, ht, by omega, hb⟩
      · cases ht2 : ts[k + 1]? with
        | some t' =>
          have h3 := S.next k t t' ht ht2
          have h4 := (S.at_ _ t' ht2).2.1
          exact ⟨k + 1, t', ht2, by omega, by omega⟩
        | none =>
          have hk := (List.getElem?_eq_some_iff.mp ht).1
          have hk2 := List.getElem?_eq_none_iff.mp ht2
          have : ts.getLast? = some t := by
            rw [List.getLast?_eq_getElem?]
            have : ts.length - 1 = k := by omega
            rw [this]; exact ht
          have := S.last t this
          omega
  have same : ∀ (k : Nat) (t : Tn), ts[k]? = some t → ∀ j : Nat, t.a ≤ (j : Int) → (j : Int) < t.b → whoAt c j = t.who := fun k t ht j h1 h2 => by
    obtain ⟨x, hx, hw⟩ := (S.at_ k t ht).2.2.2 j h1 h2
    rw [whoAt_some hx, hw]
  obtain ⟨k, t, ht, h1, h2⟩ := cover i hi
  constructor
  · rintro ⟨t2, hm, ha⟩
    obtain ⟨k2, hk2⟩ := List.mem_iff_getElem?.mp hm
    unfold firstB
    cases k2 with
    | zero =>
      have := S.first t2 hk2
      have : (i : Int) = 0 := by omega
      simp [this]
    | succ k3 =>
      have hk3 := (List.getElem?_eq_some_iff.mp hk2).1
      have ht3 : ts[k3]? = some ts[k3] := List.getElem?_eq_getElem (by omega)
      have hnx := S.next k3 _ t2 ht3 hk2
      have h3 := S.at_ k3 _ ht3
      have h4 := S.at_ _ t2 hk2
      have w1 := same k3 _ ht3 (i - 1) (by omega) (by omega)
      have w2 := same _ t2 hk2 i (by omega) (by omega)
      rw [w1, w2]
      have : ¬ (ts[k3]).who = t2.who := fun z => hnx.2 z.symm
      simp [this]
  · intro hf
    by_cases ha : t.a = (i : Int)
    · exact ⟨t, List.mem_of_getElem? ht, ha⟩
    · exfalso
      have h3 := (S.at_ k t ht).1
      have w1 := same k t ht (i - 1) (by omega) (by omega)
      have w2 := same k t ht i h1 h2
      unfold firstB at hf
      rw [w1, w2] at hf
      have h0 : ¬ (i : Int) = 0 := by omega
      simp at hf
      omega
theorem lims_eq {c : List Wr} {i : Nat} (hi : i < c.length) : (limitsOf c)[i]? = some (limF c i) := by
  unfold limitsOf
  rw [List.getElem?_map, List.getElem?_range hi]
  show some (if (i : Int) ∈ (splitTurns c).map Tn.a then (0 : Int) else 2) = some (limF c i)
  unfold limF
  have h := start_iff (spI c) (Nat.le_refl _) hi
  by_cases hf : firstB c i = true
  · obtain ⟨t, ht, ha⟩ := h.mpr hf
    rw [if_pos (List.mem_map.mpr ⟨t, ht, ha⟩), if_pos hf]
  · rw [if_neg hf, if_neg]
    intro hm
    obtain ⟨t, ht, ha⟩ := List.mem_map.mp hm
    exact hf (h.mp ⟨t, ht, ha⟩)
theorem order_ok {c : List Wr} {o : List Int} (h : OrderF c o) : OrderOk c o := ⟨h.1, fun i x m hx hm => by
  have hi : i < c.length := by rw [← h.1]; exact (List.getElem?_eq_some_iff.mp hx).1
  rw [lims_eq hi] at hm
  cases hm
  exact h.2 i x hx⟩
end LW

/-! the search finds what any order does -/
namespace LW
/-- orders of one turn's writes -/
def ValT (n : Nat) (o : List Int) : Prop := o.length = n ∧ ∀ (i : Nat) k, o[i]? = some k → 0 ≤ k ∧ k ≤ 2 ∧ (i = 0 → k = 0)
theorem tp_ext {r : Rules} {c W : List Wr} {o o' : List Int} {q : Int} {a : Nat} : ∀ {i : Nat}, (∀ j, j < i → c[a + j]? = W[j]? ∧ o[a + j]? = o'[j]?) → turnParts r c o q a i = turnParts r W o' q 0 i
  | 0, _ => rfl
  | i + 1, h => by
    have ih := tp_ext (r := r) (c := c) (W := W) (o := o) (o' := o') (q := q) (a := a) (i := i) fun j hj => h j (by omega)
    obtain ⟨h1, h2⟩ := h i (by omega)
    unfold turnParts
    rw [h1, h2, ih, Nat.zero_add]
theorem clearK_fix {r : Rules} {p : Parts} (h : (afterClearing r p).1 = p) : ∀ n, clearK r p n = p
  | 0 => rfl
  | n + 1 => by
    show (afterClearing r (clearK r p n)).1 = p
    rw [clearK_fix h n, h]
theorem ways_sound {r : Rules} {i : Nat} {p : Parts} {y : Int × Parts} (h : y ∈ waysOf r i p) : 0 ≤ y.1 ∧ y.1 ≤ 2 ∧ (i = 0 → y.1 = 0) ∧ y.2 = clearK r p y.1.toNat := by
  unfold waysOf at h
  split at h
  · unfold clearingsOf at h
    dsimp only at h
    split at h
    · simp at h; subst h; exact ⟨by simp, by simp, fun _ => rfl, rfl⟩
    · split at h
      · simp at h
        rcases h with rfl | rfl
        · exact ⟨by simp, by simp, fun _ => rfl, rfl⟩
        · exact ⟨by simp, by simp, fun z => by omega, rfl⟩
      · simp at h
        rcases h with rfl | rfl | rfl
        · exact ⟨by simp, by simp, fun _ => rfl, rfl⟩
        · exact ⟨by simp, by simp, fun z => by omega, rfl⟩
        · exact ⟨by simp, by simp, fun z => by omega, rfl⟩
  · simp at h; subst h; exact ⟨by simp, by simp, fun _ => rfl, rfl⟩
theorem ways_all {r : Rules} {i : Nat} {p : Parts} {k : Int} (h0 : 0 ≤ k) (h2 : k ≤ 2) (hi : i = 0 → k = 0) : ∃ y ∈ waysOf r i p, y.2 = clearK r p k.toNat := by
  unfold waysOf
  split
  · unfold clearingsOf
    dsimp only
    split
    · rename_i hf
      exact ⟨(0, p), by simp, (clearK_fix hf _).symm⟩
    · split
      · rename_i hf
        by_cases hk : k = 0
        · subst hk; exact ⟨(0, p), by simp, rfl⟩
        · refine ⟨(1, (afterClearing r p).1), by simp, ?_⟩
          have : k = 1 ∨ k = 2 := by omega
          rcases this with rfl | rfl
          · rfl
          · exact hf.symm
      · have : k = 0 ∨ k = 1 ∨ k = 2 := by omega
        rcases this with rfl | rfl | rfl
        · exact ⟨(0, p), by simp, rfl⟩
        · exact ⟨(1, (afterClearing r p).1), by simp, rfl⟩
        · exact ⟨(2, (afterClearing r (afterClearing r p).1).1), by simp, rfl⟩
  · rename_i hz
    have : k = 0 := hi (by omega)
    subst this
    exact ⟨(0, p), by simp, rfl⟩
/-- putting what is not there -/
theorem mem_put {κ α : Type} [DecidableEq κ] {L : List (κ × α)} {k : κ} {v : α} (h : lkL L k = none) : putL L k v = L ++ [(k, v)] := by
  unfold putL; rw [h]; rfl
theorem way_mem {r : Rules} {x : Wr} {o : List Int} {B : PD} {y : Int × Parts} {q : Parts × List Int} (h : q ∈ wayStep r x o B y) : q ∈ B ∨ q = ((afterWrite r y.2 x.len x.mode).1, o ++ [y.1]) := by
  unfold wayStep at h
  split at h
  · exact .inl h
  · rename_i hn
    have hn : lkL B (afterWrite r y.2 x.len x.mode).1 = none := by
      cases e : lkL B (afterWrite r y.2 x.len x.mode).1 with
      | none => rfl
      | some v => rw [e] at hn; simp at hn
    rw [mem_put hn] at h
    rcases List.mem_append.mp h with z | z
    · exact .inl z
    · exact .inr (List.mem_singleton.mp z)
theorem way_keys {r : Rules} {x : Wr} {o : List Int} {B : PD} {y : Int × Parts} : (∀ k ∈ B.map (·.1), k ∈ (wayStep r x o B y).map (·.1)) ∧ (afterWrite r y.2 x.len x.mode).1 ∈ (wayStep r x o B y).map (·.1) := by
  unfold wayStep
  split
  · rename_i hs
    refine ⟨fun k h => h, ?_⟩
    cases e : lkL B (afterWrite r y.2 x.len x.mode).1 with
    | none => rw [e] at hs; cases hs
    | some v => exact List.mem_map.mpr ⟨_, lkL_mem e, rfl⟩
  · rw [putL_keys]
    split
    · rename_i h1 h2; exact absurd h2 h1
    · exact ⟨fun k h => List.mem_append.mpr (.inl h), List.mem_append.mpr (.inr (by simp))⟩
theorem ways_fold {r : Rules} {x : Wr} {o : List Int} : ∀ (ys : List (Int × Parts)) (B : PD), (∀ q ∈ ys.foldl (wayStep r x o) B, q ∈ B ∨ ∃ y ∈ ys, q = ((afterWrite r y.2 x.len x.mode).1, o ++ [y.1])) ∧
    (∀ k ∈ B.map (·.1), k ∈ (ys.foldl (wayStep r x o) B).map (·.1)) ∧ ∀ y ∈ ys, (afterWrite r y.2 x.len x.mode).1 ∈ (ys.foldl (wayStep r x o) B).map (·.1)
  | [], B => ⟨fun q h => .inl h, fun k h => h, fun y h => by cases h⟩
  | y :: ys, B => by
    obtain ⟨h1, h2, h3⟩ := ways_fold (r := r) (x := x) (o := o) ys (wayStep r x o B y)
    rw [List.foldl_cons]
    refine ⟨fun q h => ?_, fun k h => h2 k (way_keys.1 k h), fun z hz => ?_⟩
    · rcases h1 q h with a | ⟨z, hz, e⟩
      · rcases way_mem a with b | b
        · exact .inl b
        · exact .inr ⟨y, List.mem_cons_self, b⟩
      · exact .inr ⟨z, List.mem_cons_of_mem _ hz, e⟩
    · rcases List.mem_cons.mp hz with e | e
      · subst e; exact h2 _ way_keys.2
      · exact h3 z e
theorem keys_fold {r : Rules} {x : Wr} {i : Nat} {L : PD} : ∀ (ps : List Parts) (B : PD), (∀ q ∈ ps.foldl (keyStep r x i L) B, q ∈ B ∨ ∃ p ∈ ps, ∃ y ∈ waysOf r i p, q = ((afterWrite r y.2 x.len x.mode).1, (lkL L p).getD [] ++ [y.1])) ∧
    (∀ k ∈ B.map (·.1), k ∈ (ps.foldl (keyStep r x i L) B).map (·.1)) ∧ ∀ p ∈ ps, ∀ y ∈ waysOf r i p, (afterWrite r y.2 x.len x.mode).1 ∈ (ps.foldl (keyStep r x i L) B).map (·.1)
  | [], B => ⟨fun q h => .inl h, fun k h => h, fun y h => by cases h⟩
  | p :: ps, B => by
    obtain ⟨h1, h2, h3⟩ := keys_fold (r := r) (x := x) (i := i) (L := L) ps (keyStep r x i L B p)
    obtain ⟨g1, g2, g3⟩ := ways_fold (r := r) (x := x) (o := (lkL L p).getD []) (waysOf r i p) B
    rw [List.foldl_cons]
    refine ⟨fun q h => ?_, fun k h => h2 k (g2 k h), fun z hz y hy => ?_⟩
    · rcases h1 q h with a | ⟨z, hz, e⟩
      · rcases g1 q a with b | ⟨y, hy, b⟩
        · exact .inl b
        · exact .inr ⟨p, List.mem_cons_self, y, hy, b⟩
      · exact .inr ⟨z, List.mem_cons_of_mem _ hz, e⟩
    · rcases List.mem_cons.mp hz with e | e
      · subst e; exact h2 _ (g3 y hy)
      · exact h3 z e y hy
theorem valT_snoc {i : Nat} {o : List Int} (h : ValT i o) {k : Int} (h0 : 0 ≤ k) (h2 : k ≤ 2) (hi : i = 0 → k = 0) : ValT (i + 1) (o ++ [k]) := by
  refine ⟨by rw [List.length_append, h.1]; rfl, fun j z hz => ?_⟩
  rcases snoc_get hz with e | ⟨e1, e2⟩
  · exact h.2 j z e
  · subst e2; exact ⟨h0, h2, fun hj => hi (by rw [← h.1]; omega)⟩
theorem valT_take {n i : Nat} {o : List Int} (h : ValT n o) (hi : i ≤ n) : ValT i (o.take i) := by
  refine ⟨by rw [List.length_take, h.1]; omega, fun j z hz => ?_⟩
  refine h.2 j z ?_
  rw [List.getElem?_take] at hz
  split at hz
  · exact hz
  · cases hz
/-- what is reached: just what some order reaches -/
theorem reached_spec {r : Rules} {W : List Wr} {q : Int} : ∀ i, i ≤ W.length → (∀ z ∈ reachedN r W q i, ValT i z.2 ∧ z.1 = turnParts r W z.2 q 0 i) ∧ ∀ o, ValT i o → turnParts r W o q 0 i ∈ (reachedN r W q i).map (·.1)
  | 0, _ => by
    refine ⟨fun z hz => ?_, fun o _ => by simp [reachedN, turnParts]⟩
    simp [reachedN] at hz
    subst hz
    exact ⟨⟨rfl, fun i k h => by simp at h⟩, rfl⟩
  | i + 1, hi => by
    obtain ⟨ih1, ih2⟩ := reached_spec (r := r) (W := W) (q := q) i (by omega)
    have hx : W[i]? = some W[i] := List.getElem?_eq_getElem (by omega)
    have hstep : ∀ (o : List Int) (k : Int), o.length = i → turnParts r W (o ++ [k]) q 0 (i + 1) = (afterWrite r (clearK r (turnParts r W o q 0 i) k.toNat) W[i].len W[i].mode).1 := fun o k ho => by
      have e : turnParts r W (o ++ [k]) q 0 i = turnParts r W o q 0 i := tp_ext fun j hj => ⟨by rw [Nat.zero_add], by rw [Nat.zero_add, List.getElem?_append_left (by omega)]⟩
      have hk : (o ++ [k])[i]? = some k := by rw [List.getElem?_append_right (by omega)]; simp [ho]
      rw [turnParts, Nat.zero_add, hx, hk, e]
    unfold reachedN
    rw [hx]
    obtain ⟨g1, _, g3⟩ := keys_fold (r := r) (x := W[i]) (i := i) (L := reachedN r W q i) ((reachedN r W q i).map (·.1)) []
    refine ⟨fun z hz => ?_, fun o ho => ?_⟩
    · rcases g1 z hz with a | ⟨p, hp, y, hy, e⟩
      · cases a
      · obtain ⟨o, ho⟩ := lkL_some hp
        obtain ⟨v1, v2⟩ := ih1 _ (lkL_mem ho)
        simp only at v1 v2
        obtain ⟨w1, w2, w3, w4⟩ := ways_sound hy
        rw [ho] at e
        subst e
        refine ⟨valT_snoc v1 w1 w2 w3, ?_⟩
        show (afterWrite r y.2 W[i].len W[i].mode).1 = turnParts r W (o ++ [y.1]) q 0 (i + 1)
        rw [hstep o y.1 v1.1, ← v2, w4]
    · obtain ⟨k, hk⟩ : ∃ k, o[i]? = some k := ⟨_, List.getElem?_eq_getElem (by have := ho.1; omega)⟩
      obtain ⟨k0, k2, ki⟩ := ho.2 i k hk
      have hm := ih2 (o.take i) (valT_take ho (by omega))
      obtain ⟨y, hy, hye⟩ := ways_all (r := r) (i := i) (p := turnParts r W (o.take i) q 0 i) k0 k2 ki
      have := g3 _ hm y hy
      have e : turnParts r W o q 0 (i + 1) = (afterWrite r y.2 W[i].len W[i].mode).1 := by
        rw [hye, ← hstep (o.take i) k (by rw [List.length_take, ho.1]; omega)]
        congr 1
        have : o.take (i + 1) = o.take i ++ [k] := by rw [List.take_add_one, hk]; rfl
        rw [← this, ← ho.1, List.take_length]
      rw [e]
      exact this
end LW

/-! the search over turns -/
namespace LW
def endOf (r : Rules) (W : List Wr) (o : List Int) (q : Int) : Int × Int := ((afterTurn r (turnParts r W o q 0 W.length)).1, (afterTurn r (turnParts r W o q 0 W.length)).2.1)
theorem ends_fold {r : Rules} {L : PD} : ∀ (ps : List Parts) (E : ED), (∀ z ∈ ps.foldl (endStep r L) E, z ∈ E ∨ ∃ p ∈ ps, z = (((afterTurn r p).1, (afterTurn r p).2.1), (lkL L p).getD [])) ∧
    (∀ k ∈ E.map (·.1), k ∈ (ps.foldl (endStep r L) E).map (·.1)) ∧ ∀ p ∈ ps, ((afterTurn r p).1, (afterTurn r p).2.1) ∈ (ps.foldl (endStep r L) E).map (·.1)
  | [], E => ⟨fun z h => .inl h, fun k h => h, fun p h => by cases h⟩
  | p :: ps, E => by
    obtain ⟨h1, h2, h3⟩ := ends_fold (r := r) (L := L) ps (endStep r L E p)
    rw [List.foldl_cons]
    have g : (∀ z ∈ endStep r L E p, z ∈ E ∨ z = (((afterTurn r p).1, (afterTurn r p).2.1), (lkL L p).getD [])) ∧ (∀ k ∈ E.map (·.1), k ∈ (endStep r L E p).map (·.1)) ∧ ((afterTurn r p).1, (afterTurn r p).2.1) ∈ (endStep r L E p).map (·.1) := by
      unfold endStep
      cases e : lkL E ((afterTurn r p).1, (afterTurn r p).2.1) with
      | some v =>
        simp only [Option.isSome_some, if_true]
        exact ⟨fun z h => .inl h, fun k h => h, List.mem_map.mpr ⟨_, lkL_mem e, rfl⟩⟩
      | none =>
        simp only [Option.isSome_none, Bool.false_eq_true, if_false]
        rw [mem_put e]
        refine ⟨fun z h => ?_, fun k h => by rw [List.map_append]; exact List.mem_append.mpr (.inl h), by rw [List.map_append]; exact List.mem_append.mpr (.inr (by simp))⟩
        rcases List.mem_append.mp h with a | a
        · exact .inl a
        · exact .inr (List.mem_singleton.mp a)
    refine ⟨fun z h => ?_, fun k h => h2 k (g.2.1 k h), fun z hz => ?_⟩
    · rcases h1 z h with a | ⟨y, hy, e⟩
      · rcases g.1 z a with b | b
        · exact .inl b
        · exact .inr ⟨p, List.mem_cons_self, b⟩
      · exact .inr ⟨y, List.mem_cons_of_mem _ hy, e⟩
    · rcases List.mem_cons.mp hz with e | e
      · subst e; exact h2 _ g.2.2
      · exact h3 z e
theorem ends_spec (r : Rules) (W : List Wr) (q : Int) : (∀ z ∈ turnEnds r W q, ValT W.length z.2 ∧ z.1 = endOf r W z.2 q) ∧ ∀ o, ValT W.length o → endOf r W o q ∈ (turnEnds r W q).map (·.1) := by
  obtain ⟨h1, h2⟩ := reached_spec (r := r) (W := W) (q := q) W.length (Nat.le_refl _)
  obtain ⟨g1, _, g3⟩ := ends_fold (r := r) (L := reachedN r W q W.length) ((reachedN r W q W.length).map (·.1)) []
  refine ⟨fun z hz => ?_, fun o ho => g3 _ (h2 o ho)⟩
  rcases g1 z hz with a | ⟨p, hp, e⟩
  · cases a
  · obtain ⟨o, ho⟩ := lkL_some hp
    obtain ⟨v1, v2⟩ := h1 _ (lkL_mem ho)
    simp only at v1 v2
    rw [ho] at e
    subst e
    refine ⟨v1, ?_⟩
    show _ = endOf r W o q
    unfold endOf
    rw [← v2]
/-- the first n of an order -/
def VOrd (c : List Wr) (n : Nat) (o : List Int) : Prop := o.length = n ∧ ∀ (j : Nat) k, o[j]? = some k → 0 ≤ k ∧ k ≤ limF c j
theorem lim_turn {c : List Wr} {ts : List Tn} (S : SpI c c.length ts) {i : Nat} {t : Tn} (ht : ts[i]? = some t) {j : Nat} (h1 : t.a ≤ (j : Int)) (h2 : (j : Int) < t.b) : limF c j = if (j : Int) = t.a then 0 else 2 := by
  obtain ⟨a1, a2, a3, a4⟩ := S.at_ i t ht
  unfold limF
  by_cases h : (j : Int) = t.a
  · have := (start_iff S (Nat.le_refl _) (show j < c.length by omega)).mp ⟨t, List.mem_of_getElem? ht, h.symm⟩
    rw [if_pos this, if_pos h]
  · rw [if_neg h, if_neg]
    obtain ⟨x, hx, hw⟩ := a4 (j - 1) (by omega) (by omega)
    obtain ⟨y, hy, hw2⟩ := a4 j h1 h2
    unfold firstB
    rw [whoAt_some hx, whoAt_some hy, hw, hw2]
    have : ¬ (j : Int) = 0 := by omega
    simp
    omega
theorem vo_app {c : List Wr} {ts : List Tn} (S : SpI c c.length ts) {i : Nat} {t : Tn} (ht : ts[i]? = some t) {o o' : List Int} (h : VOrd c t.a.toNat o) (h' : ValT (sliceW c t).length o') : VOrd c t.b.toNat (o ++ o') := by
  obtain ⟨a1, a2, a3, a4⟩ := S.at_ i t ht
  have hl := sliceW_len a1 a2 a3
  refine ⟨by rw [List.length_append, h.1, h'.1, hl]; omega, fun j k hk => ?_⟩
  by_cases e : j < o.length
  · rw [List.getElem?_append_left e] at hk
    exact h.2 j k hk
  · rw [List.getElem?_append_right (by omega)] at hk
    obtain ⟨k0, k2, ki⟩ := h'.2 _ k hk
    have hj := (List.getElem?_eq_some_iff.mp hk).1
    rw [h'.1, hl] at hj
    have hol := h.1
    rw [lim_turn S ht (by omega) (by omega)]
    refine ⟨k0, ?_⟩
    split
    · have := ki (by omega); omega
    · exact k2
theorem vo_cut {c : List Wr} {ts : List Tn} (S : SpI c c.length ts) {i : Nat} {t : Tn} (ht : ts[i]? = some t) {o : List Int} (h : OrderF c o) : ValT (sliceW c t).length ((o.drop t.a.toNat).take (sliceW c t).length) := by
  obtain ⟨a1, a2, a3, a4⟩ := S.at_ i t ht
  have hl := sliceW_len a1 a2 a3
  have hol := h.1
  refine ⟨by rw [List.length_take, List.length_drop, hl]; omega, fun j k hk => ?_⟩
  rw [List.getElem?_take] at hk
  split at hk
  · rename_i hj
    rw [List.getElem?_drop] at hk
    obtain ⟨k0, k1⟩ := h.2 _ k hk
    rw [lim_turn S ht (by omega) (by omega)] at k1
    refine ⟨k0, ?_, fun hj0 => ?_⟩
    · split at k1 <;> omega
    · rw [if_pos (by omega)] at k1; omega
  · cases hk
/-- a turn's outcome from its own part of the order -/
theorem turn_slice {c : List Wr} {ts : List Tn} (S : SpI c c.length ts) {i : Nat} {t : Tn} (ht : ts[i]? = some t) (r : Rules) (q : Int) {o o' : List Int} (ho : ∀ j, j < (sliceW c t).length → o[t.a.toNat + j]? = o'[j]?) :
    turnParts r c o q t.a.toNat (t.b - t.a).toNat = turnParts r (sliceW c t) o' q 0 (sliceW c t).length := by
  obtain ⟨a1, a2, a3, a4⟩ := S.at_ i t ht
  have hl := sliceW_len a1 a2 a3
  have e : (t.b - t.a).toNat = (sliceW c t).length := by omega
  rw [e]
  refine tp_ext fun j hj => ⟨?_, ho j hj⟩
  unfold sliceW
  rw [List.getElem?_take, if_pos (by omega), List.getElem?_drop]
theorem outN_ext {rs : RS} {q0 : Int × Int} {c : List Wr} {ts : List Tn} (S : SpI c c.length ts) {o o' : List Int} : ∀ i, i ≤ ts.length → (∀ j, j < startOf ts c.length i → o[j]? = o'[j]?) → outN rs q0 c o ts i = outN rs q0 c o' ts i
  | 0, _, _ => rfl
  | i + 1, hi, h => by
    have ht : ts[i]? = some ts[i] := List.getElem?_eq_getElem (by omega)
    obtain ⟨a1, a2, a3, a4⟩ := S.at_ i _ ht
    have hl := sliceW_len a1 a2 a3
    rw [startOf_next S ht] at h
    have hs : startOf ts c.length i = ts[i].a.toNat := by unfold startOf; rw [ht]
    have ih := outN_ext (rs := rs) (q0 := q0) S (o := o) (o' := o') i (by omega) fun j hj => h j (by rw [hs] at hj; omega)
    have e : ∀ r q, turnParts r c o q ts[i].a.toNat (ts[i].b - ts[i].a).toNat = turnParts r c o' q ts[i].a.toNat (ts[i].b - ts[i].a).toNat := fun r q => by
      rw [turn_slice S ht r q (o := o) (o' := (o'.drop ts[i].a.toNat)) fun j hj => by rw [List.getElem?_drop]; exact h _ (by omega), turn_slice S ht r q (o := o') (o' := (o'.drop ts[i].a.toNat)) fun j hj => by rw [List.getElem?_drop]]
    unfold outN
    rw [ht]
    simp only [ih, e]
end LW

/-! best_orders finds an optimum -/
namespace LW
def Le (sign : Int) (B : BD) (k : Int × Int) (s : Int) : Prop := ∃ z, lkL B k = some z ∧ sign * z.1 ≤ sign * s
theorem put_mem {κ α : Type} [DecidableEq κ] {L : List (κ × α)} {k : κ} {v : α} {q : κ × α} (h : q ∈ putL L k v) : q ∈ L ∨ q = (k, v) := by
  unfold putL at h
  split at h
  · obtain ⟨z, hz, e⟩ := List.mem_map.mp h
    split at e
    · rename_i hk
      right; rw [← e, ← hk]
    · left; rw [← e]; exact hz
  · rcases List.mem_append.mp h with z | z
    · exact .inl z
    · exact .inr (List.mem_singleton.mp z)
theorem endPut_le {sign who : Int} {quick : Int × Int} {so : Int × List Int} {ends : ED} {B : BD} {e : Int × Int} : (∀ k s, Le sign B k s → Le sign (endPut sign who quick so ends B e) k s) ∧ Le sign (endPut sign who quick so ends B e) (withQuick quick (1 - who) e.2) (so.1 + e.1) := by
  unfold endPut
  by_cases hb : betterB sign (lkL B (withQuick quick (1 - who) e.2)) (so.1 + e.1) = true
  · rw [if_pos hb]
    refine ⟨fun k s ⟨z, hz, hs⟩ => ?_, ⟨_, by rw [lkL_put, if_pos rfl], Int.le_refl _⟩⟩
    unfold Le
    rw [lkL_put]
    by_cases hk : withQuick quick (1 - who) e.2 = k
    · rw [if_pos hk]
      rw [hk, hz] at hb
      have hb : sign * (so.1 + e.1) < sign * z.1 := of_decide_eq_true hb
      exact ⟨_, rfl, by dsimp only; omega⟩
    · rw [if_neg hk]; exact ⟨z, hz, hs⟩
  · rw [if_neg hb]
    refine ⟨fun k s h => h, ?_⟩
    cases hz : lkL B (withQuick quick (1 - who) e.2) with
    | none => rw [hz] at hb; exact absurd rfl hb
    | some z =>
      rw [hz] at hb
      have : ¬ sign * (so.1 + e.1) < sign * z.1 := fun h => hb (decide_eq_true h)
      exact ⟨z, hz, by omega⟩
theorem endPut_fold {sign who : Int} {quick : Int × Int} {so : Int × List Int} {ends : ED} : ∀ (es : List (Int × Int)) (B : BD),
    (∀ z ∈ es.foldl (endPut sign who quick so ends) B, z ∈ B ∨ ∃ e ∈ es, z = (withQuick quick (1 - who) e.2, (so.1 + e.1, so.2 ++ (lkL ends e).getD []))) ∧
    (∀ k s, Le sign B k s → Le sign (es.foldl (endPut sign who quick so ends) B) k s) ∧ ∀ e ∈ es, Le sign (es.foldl (endPut sign who quick so ends) B) (withQuick quick (1 - who) e.2) (so.1 + e.1)
  | [], B => ⟨fun z h => .inl h, fun k s h => h, fun e h => by cases h⟩
  | e :: es, B => by
    obtain ⟨h1, h2, h3⟩ := endPut_fold (sign := sign) (who := who) (quick := quick) (so := so) (ends := ends) es (endPut sign who quick so ends B e)
    obtain ⟨g1, g2⟩ := endPut_le (sign := sign) (who := who) (quick := quick) (so := so) (ends := ends) (B := B) (e := e)
    rw [List.foldl_cons]
    refine ⟨fun z hz => ?_, fun k s h => h2 k s (g1 k s h), fun x hx => ?_⟩
    · rcases h1 z hz with a | ⟨y, hy, a⟩
      · have : z ∈ B ∨ z = (withQuick quick (1 - who) e.2, (so.1 + e.1, so.2 ++ (lkL ends e).getD [])) := by
          unfold endPut at a
          split at a
          · exact put_mem a
          · exact .inl a
        rcases this with b | b
        · exact .inl b
        · exact .inr ⟨e, List.mem_cons_self, b⟩
      · exact .inr ⟨y, List.mem_cons_of_mem _ hy, a⟩
    · rcases List.mem_cons.mp hx with a | a
      · subst a; exact h2 _ _ g2
      · exact h3 x a
theorem quick_fold {rs : RS} {c : List Wr} {sign : Int} {t : Tn} {best : BD} : ∀ (qs : List (Int × Int)) (B : BD),
    (∀ z ∈ qs.foldl (quickStep rs c sign t best) B, z ∈ B ∨ ∃ q ∈ qs, ∃ e ∈ (turnEnds (rs t.who) (sliceW c t) (pickQ q (1 - t.who))).map (·.1), z = (withQuick q (1 - t.who) e.2, (((lkL best q).getD (0, [])).1 + e.1, ((lkL best q).getD (0, [])).2 ++ (lkL (turnEnds (rs t.who) (sliceW c t) (pickQ q (1 - t.who))) e).getD []))) ∧
    (∀ k s, Le sign B k s → Le sign (qs.foldl (quickStep rs c sign t best) B) k s) ∧ ∀ q ∈ qs, ∀ e ∈ (turnEnds (rs t.who) (sliceW c t) (pickQ q (1 - t.who))).map (·.1), Le sign (qs.foldl (quickStep rs c sign t best) B) (withQuick q (1 - t.who) e.2) (((lkL best q).getD (0, [])).1 + e.1)
  | [], B => ⟨fun z h => .inl h, fun k s h => h, fun e h => by cases h⟩
  | q :: qs, B => by
    obtain ⟨h1, h2, h3⟩ := quick_fold (rs := rs) (c := c) (sign := sign) (t := t) (best := best) qs (quickStep rs c sign t best B q)
    obtain ⟨g1, g2, g3⟩ := endPut_fold (sign := sign) (who := t.who) (quick := q) (so := (lkL best q).getD (0, [])) (ends := turnEnds (rs t.who) (sliceW c t) (pickQ q (1 - t.who))) ((turnEnds (rs t.who) (sliceW c t) (pickQ q (1 - t.who))).map (·.1)) B
    rw [List.foldl_cons]
    refine ⟨fun z hz => ?_, fun k s h => h2 k s (g2 k s h), fun x hx e he => ?_⟩
    · rcases h1 z hz with a | ⟨y, hy, a⟩
      · rcases g1 z a with b | ⟨e, he, b⟩
        · exact .inl b
        · exact .inr ⟨q, List.mem_cons_self, e, he, b⟩
      · exact .inr ⟨y, List.mem_cons_of_mem _ hy, a⟩
    · rcases List.mem_cons.mp hx with a | a
      · subst a; exact h2 _ _ (g3 e he)
      · exact h3 x a e he
theorem turn01 (r : Rules) (p : Parts) : (afterTurn r p).1 = 0 ∨ (afterTurn r p).1 = 1 := by
  unfold afterTurn
  dsimp only
  split
  · exact .inl rfl
  · exact .inr rfl
/-- one turn more -/
theorem out_step {rs : RS} {q0 : Int × Int} {c : List Wr} {ts : List Tn} (S : SpI c c.length ts) {i : Nat} {t : Tn} (ht : ts[i]? = some t) {o o' : List Int} (ho : ∀ j, j < (sliceW c t).length → o[t.a.toNat + j]? = o'[j]?) :
    (outN rs q0 c o ts (i + 1)).1 = withQuick (outN rs q0 c o ts i).1 (1 - t.who) (endOf (rs t.who) (sliceW c t) o' (pickQ (outN rs q0 c o ts i).1 (1 - t.who))).2 ∧
    ((outN rs q0 c o ts (i + 1)).2.length : Int) = (outN rs q0 c o ts i).2.length + (endOf (rs t.who) (sliceW c t) o' (pickQ (outN rs q0 c o ts i).1 (1 - t.who))).1 := by
  have e := turn_slice S ht (rs t.who) (pickQ (outN rs q0 c o ts i).1 (1 - t.who)) ho
  have h01 := turn01 (rs t.who) (turnParts (rs t.who) (sliceW c t) o' (pickQ (outN rs q0 c o ts i).1 (1 - t.who)) 0 (sliceW c t).length)
  unfold endOf
  rw [outN, ht]
  simp only [e]
  refine ⟨trivial, ?_⟩
  rcases h01 with z | z
  · rw [z]; simp
  · rw [z]; simp
theorem best_spec {rs : RS} {q0 : Int × Int} {c : List Wr} {sign : Int} {ts : List Tn} (S : SpI c c.length ts) : ∀ i, i ≤ ts.length →
    (∀ z ∈ bestN rs q0 c sign ts i, VOrd c (startOf ts c.length i) z.2.2 ∧ (outN rs q0 c z.2.2 ts i).1 = z.1 ∧ ((outN rs q0 c z.2.2 ts i).2.length : Int) = z.2.1) ∧
    ∀ o, OrderF c o → Le sign (bestN rs q0 c sign ts i) (outN rs q0 c o ts i).1 (outN rs q0 c o ts i).2.length
  | 0, _ => by
    refine ⟨fun z hz => ?_, fun o _ => ⟨(0, []), by simp [bestN, outN, lkL], by simp [outN]⟩⟩
    simp [bestN] at hz
    subst hz
    refine ⟨?_, rfl, rfl⟩
    rw [startOf_zero S]
    exact ⟨rfl, fun j k h => by simp at h⟩
  | i + 1, hi => by
    have ht : ts[i]? = some ts[i] := List.getElem?_eq_getElem (by omega)
    obtain ⟨ih1, ih2⟩ := best_spec (rs := rs) (q0 := q0) (sign := sign) S i (by omega)
    generalize ts[i] = t at ht
    obtain ⟨a1, a2, a3, a4⟩ := S.at_ i _ ht
    have hs : startOf ts c.length i = t.a.toNat := by unfold startOf; rw [ht]
    rw [hs] at ih1
    rw [startOf_next S ht]
    have hb : bestN rs q0 c sign ts (i + 1) = turnStep rs c sign (bestN rs q0 c sign ts i) t := by rw [bestN, ht]
    rw [hb]
    unfold turnStep
    generalize bestN rs q0 c sign ts i = L at ih1 ih2
    obtain ⟨g1, _, g3⟩ := quick_fold (rs := rs) (c := c) (sign := sign) (t := t) (best := L) (L.map (·.1)) []
    refine ⟨fun z hz => ?_, fun o ho => ?_⟩
    · rcases g1 z hz with a | ⟨q, hq, e, he, rfl⟩
      · cases a
      · obtain ⟨so, hso⟩ := lkL_some hq
        obtain ⟨v1, v2, v3⟩ := ih1 _ (lkL_mem hso)
        simp only at v1 v2 v3
        obtain ⟨eo, heo⟩ := lkL_some he
        obtain ⟨w1, w2⟩ := (ends_spec _ _ _).1 _ (lkL_mem heo)
        simp only at w1 w2
        rw [hso, heo]
        simp only [Option.getD_some]
        have hvo := vo_app S ht v1 w1
        have hext : outN rs q0 c (so.2 ++ eo) ts i = outN rs q0 c so.2 ts i := outN_ext S i (by omega) fun j hj => by rw [List.getElem?_append_left (by rw [v1.1]; omega)]
        obtain ⟨s1, s2⟩ := out_step (rs := rs) (q0 := q0) S ht (o := so.2 ++ eo) (o' := eo) fun j hj => by rw [List.getElem?_append_right (by rw [v1.1]; omega), v1.1]; congr 1; omega
        rw [hext, v2] at s1 s2
        rw [← w2] at s1 s2
        exact ⟨hvo, s1, by rw [s2, v3]⟩
    · obtain ⟨s1, s2⟩ := out_step (rs := rs) (q0 := q0) S ht (o := o) (o' := (o.drop t.a.toNat).take (sliceW c t).length) fun j hj => by rw [List.getElem?_take, if_pos hj, List.getElem?_drop]
      obtain ⟨z, hz, hle⟩ := ih2 o ho
      have hq : (outN rs q0 c o ts i).1 ∈ L.map (·.1) := List.mem_map.mpr ⟨_, lkL_mem hz, rfl⟩
      have he := (ends_spec (rs t.who) (sliceW c t) (pickQ (outN rs q0 c o ts i).1 (1 - t.who))).2 _ (vo_cut S ht ho)
      obtain ⟨y, hy, hyle⟩ := g3 _ hq _ he
      rw [s1, s2]
      refine ⟨y, hy, ?_⟩
      rw [hz] at hyle
      simp only [Option.getD_some] at hyle
      rw [Int.mul_add] at hyle ⊢
      omega
/-- the last loop -/
theorem found_fold {sign : Int} {best : BD} : ∀ (qs : List (Int × Int)) (f : Option (Int × List Int)), (∀ q ∈ qs, ∃ z, lkL best q = some z) →
    (∀ z, qs.foldl (foundStep sign best) f = some z → f = some z ∨ ∃ q ∈ qs, lkL best q = some z) ∧ (∀ y, f = some y → ∃ z, qs.foldl (foundStep sign best) f = some z ∧ sign * z.1 ≤ sign * y.1) ∧
    ∀ q ∈ qs, ∀ y, lkL best q = some y → ∃ z, qs.foldl (foundStep sign best) f = some z ∧ sign * z.1 ≤ sign * y.1
  | [], f, _ => ⟨fun z h => .inl h, fun y h => ⟨y, h, Int.le_refl _⟩, fun q h => by cases h⟩
  | q :: qs, f, hq => by
    obtain ⟨x, hx⟩ := hq q List.mem_cons_self
    obtain ⟨h1, h2, h3⟩ := found_fold (sign := sign) (best := best) qs (foundStep sign best f q) fun z hz => hq z (List.mem_cons_of_mem _ hz)
    rw [List.foldl_cons]
    have g : (foundStep sign best f q = f ∨ foundStep sign best f q = some x) ∧ ∃ z, foundStep sign best f q = some z ∧ sign * z.1 ≤ sign * x.1 ∧ ∀ y, f = some y → sign * z.1 ≤ sign * y.1 := by
      unfold foundStep
      rw [hx]
      simp only [Option.getD_some]
      cases f with
      | none => exact ⟨.inr rfl, x, rfl, Int.le_refl _, fun y h => by cases h⟩
      | some y =>
        by_cases hb : betterB sign (some y) x.1 = true
        · rw [if_pos hb]
          have : sign * x.1 < sign * y.1 := of_decide_eq_true hb
          exact ⟨.inr rfl, x, rfl, Int.le_refl _, fun y' h => by cases h; omega⟩
        · rw [if_neg hb]
          have : ¬ sign * x.1 < sign * y.1 := fun h => hb (decide_eq_true h)
          exact ⟨.inl rfl, y, rfl, by omega, fun y' h => by cases h; exact Int.le_refl _⟩
    obtain ⟨g1, z, gz, gx, gy⟩ := g
    refine ⟨fun w hw => ?_, fun y hy => ?_, fun q' hq' y hy => ?_⟩
    · rcases h1 w hw with a | ⟨q', hq', a⟩
      · rcases g1 with b | b
        · rw [b] at a; exact .inl a
        · rw [b] at a; cases a; exact .inr ⟨q, List.mem_cons_self, hx⟩
      · exact .inr ⟨q', List.mem_cons_of_mem _ hq', a⟩
    · obtain ⟨w, hw, hle⟩ := h2 z gz
      exact ⟨w, hw, Int.le_trans hle (gy y hy)⟩
    · rcases List.mem_cons.mp hq' with a | a
      · subst a
        rw [hx] at hy; cases hy
        obtain ⟨w, hw, hle⟩ := h2 z gz
        exact ⟨w, hw, Int.le_trans hle gx⟩
      · exact h3 q' a y hy
theorem best_opt {rs : RS} {q0 : Int × Int} {c : List Wr} (sign : Int) (hne : ∃ o, OrderF c o) : ∃ z, bestOrders rs q0 c sign = some z ∧ OrderF c z.2 ∧ z.1 = outStalls rs q0 c z.2 ∧ ∀ o, OrderF c o → sign * z.1 ≤ sign * outStalls rs q0 c o := by
  have S := spI c
  obtain ⟨h1, h2⟩ := best_spec (rs := rs) (q0 := q0) (sign := sign) S (splitTurns c).length (Nat.le_refl _)
  have hst : startOf (splitTurns c) c.length (splitTurns c).length = c.length := by
    unfold startOf
    rw [List.getElem?_eq_none (Nat.le_refl _)]
  rw [hst] at h1
  unfold bestOrders bestOf
  generalize bestN rs q0 c sign (splitTurns c) (splitTurns c).length = B at h1 h2
  obtain ⟨f1, _, f3⟩ := found_fold (sign := sign) (best := B) (B.map (·.1)) none fun q hq => lkL_some hq
  have main : ∀ o, OrderF c o → ∃ z, (B.map (·.1)).foldl (foundStep sign B) none = some z ∧ sign * z.1 ≤ sign * outStalls rs q0 c o := fun o ho => by
    obtain ⟨y, hy, hle⟩ := h2 o ho
    obtain ⟨z, hz, hle2⟩ := f3 _ (List.mem_map.mpr ⟨_, lkL_mem hy, rfl⟩) y hy
    exact ⟨z, hz, Int.le_trans hle2 hle⟩
  obtain ⟨o0, ho0⟩ := hne
  obtain ⟨z, hz, _⟩ := main o0 ho0
  refine ⟨z, hz, ?_⟩
  rcases f1 z hz with a | ⟨q, hq, a⟩
  · cases a
  · obtain ⟨v1, v2, v3⟩ := h1 _ (lkL_mem a)
    exact ⟨v1, v3.symm, fun o ho => by
      obtain ⟨z', hz', hle⟩ := main o ho
      rw [hz] at hz'; cases hz'; exact hle⟩
end LW

/-! how many turns -/
namespace LW
def cntF (c : List Wr) (n : Nat) : Nat := ((List.range n).filter fun i => decide (limF c i = 0)).length
theorem limF_zero {c : List Wr} {i : Nat} : limF c i = 0 ↔ firstB c i = true := by
  unfold limF
  by_cases h : firstB c i = true
  · simp [h]
  · simp [h]
theorem split_cnt (c : List Wr) : ∀ n, n ≤ c.length → (splitN c n).length = cntF c n
  | 0, _ => rfl
  | n + 1, h => by
    have ih := split_cnt c n (by omega)
    have S := spI_n c n (by omega)
    have hx : c[n]? = some c[n] := List.getElem?_eq_getElem (by omega)
    have hc : cntF c (n + 1) = cntF c n + if firstB c n = true then 1 else 0 := by
      unfold cntF
      rw [List.range_succ, List.filter_append, List.length_append]
      congr 1
      by_cases hf : firstB c n = true
      · rw [if_pos hf, List.filter_cons, if_pos (decide_eq_true (limF_zero.mpr hf))]; rfl
      · rw [if_neg hf, List.filter_cons, if_neg (fun z => hf (limF_zero.mp (of_decide_eq_true z)))]; rfl
    rw [hc]
    unfold splitN
    rw [hx]
    show (splitStep (splitN c n) n c[n].who).length = _
    unfold splitStep
    cases hL : (splitN c n).getLast? with
    | none =>
      have e : splitN c n = [] := List.getLast?_eq_none_iff.mp hL
      have hn := S.emp e
      simp only [e, List.nil_append, List.length_cons, List.length_nil]
      rw [e] at ih
      have : firstB c n = true := by subst hn; rfl
      rw [if_pos this, ← ih]; rfl
    | some t =>
      have hl := last_get hL
      have hb := S.last t hL
      obtain ⟨a1, a2, a3, a4⟩ := S.at_ _ _ hl
      have hne : splitN c n ≠ [] := fun z => by rw [z] at hL; cases hL
      have hpos := List.length_pos_iff.mpr hne
      obtain ⟨y, hy, hyw⟩ := a4 (n - 1) (by omega) (by omega)
      have hf : firstB c n = true ↔ ¬ t.who = c[n].who := by
        unfold firstB
        rw [whoAt_some hy, whoAt_some hx, hyw]
        have : ¬ (n : Int) = 0 := by omega
        simp
        omega
      by_cases hw : t.who = c[n].who
      · simp only [if_pos hw]
        rw [if_neg (fun z => hf.mp z hw), List.length_append, List.length_dropLast]
        simp
        omega
      · simp only [if_neg hw]
        rw [if_pos (hf.mpr hw), List.length_append, ih]; rfl
theorem stalls_runs (rs : RS) (q0 : Int × Int) (c : List Wr) (o : List Int) : outStalls rs q0 c o ≤ cntF c c.length := by
  unfold outStalls
  have h1 := outN_len rs q0 c o (splitTurns c) (splitTurns c).length
  have h2 : (splitTurns c).length = cntF c c.length := split_cnt c _ (Nat.le_refl _)
  omega
end LW

/-! the law's player and the program's parts -/
namespace LW
structure Hs where
  heard : Int
  fulls : Int
  arrived : Int
  reach : Int
def hsStep (wd : Int) (o : PolD) (z : Hs) (x : Int) : Hs :=
  if z.arrived + 1 ≤ o.quick ∨ (x = wd ∧ z.fulls + (if decide (x = wd) = true then 1 else 0) = o.every) then ⟨z.heard + x, 0, z.arrived + 1, z.heard + x⟩
  else ⟨z.heard + x, z.fulls + (if decide (x = wd) = true then 1 else 0), z.arrived + 1, z.reach⟩
def prj (z : Side × Int) : Hs := ⟨z.1.heard, z.1.fulls, z.1.arrived, z.2⟩
theorem prj_step (wd : Int) (o : PolD) (z : Side × Int) (x : Int) : prj (hearStep wd o z x) = hsStep wd o (prj z) x := by
  unfold hearStep hsStep prj
  dsimp only
  generalize (if decide (x = wd) = true then (1 : Int) else 0) = b
  by_cases h : z.1.arrived + 1 ≤ o.quick ∨ (x = wd ∧ z.1.fulls + b = o.every)
  · rw [if_pos h, if_pos h]
  · rw [if_neg h, if_neg h]
theorem prj_fold (wd : Int) (o : PolD) : ∀ (l : List Int) (z : Side × Int), prj (l.foldl (hearStep wd o) z) = l.foldl (hsStep wd o) (prj z)
  | [], z => rfl
  | x :: l, z => by rw [List.foldl_cons, List.foldl_cons, prj_fold wd o l, prj_step]
def hsOf (s : Side) (wd : Int) (o : PolD) : Hs := s.way.foldl (hsStep wd o) ⟨s.heard, s.fulls, s.arrived, s.covered⟩
theorem hs_send (s : Side) (wd : Int) (o : PolD) (x : Int) : hsOf (sSend s wd x) wd o = hsStep wd o (hsOf s wd o) x := by
  unfold hsOf
  rw [sSend_way, List.foldl_append]
  have : (⟨(sSend s wd x).heard, (sSend s wd x).fulls, (sSend s wd x).arrived, (sSend s wd x).covered⟩ : Hs) = ⟨s.heard, s.fulls, s.arrived, s.covered⟩ := by unfold sSend; split <;> rfl
  rw [this]; rfl
def mayAt (h : Hold) (mark sent c : Int) : Bool := if h = .part then decide (mark ≤ c) else (decide (h = .off) || decide (c = sent))
theorem may_at (s : Side) (h : Hold) : sMay s h = mayAt h s.mark s.sent s.covered := rfl
structure Sim (r : Rules) (o : PolD) (s : Side) (p : Parts) : Prop where
  bl : p.blocked = !mayAt r.hold s.mark s.sent s.covered
  stk : p.stuck = !mayAt r.hold s.mark s.sent (hsOf s r.size o).reach
  pd : 0 < r.every → p.pending = (hsOf s r.size o).fulls ∧ 0 ≤ p.pending ∧ p.pending < r.every
  qk : p.quick = if (hsOf s r.size o).arrived ≤ o.quick then o.quick - (hsOf s r.size o).arrived else 0
  c1 : s.covered ≤ (hsOf s r.size o).reach
  c2 : (hsOf s r.size o).reach ≤ (hsOf s r.size o).heard
  c3 : (hsOf s r.size o).heard = s.sent
  mrk : s.mark ≤ s.sent
  fl : 0 ≤ (hsOf s r.size o).fulls
theorem full_q {r : Rules} {p : Parts} (h : 0 < p.quick) : (withFull r p 1).1 = ⟨p.rest, p.kept, if r.hold = .all then true else p.blocked, if r.hold = .all then false else if r.hold = .part then false else p.stuck, if 0 < r.every then 0 else (withFull r p 1).1.pending, p.quick - 1⟩ := by
  unfold withFull
  rw [if_neg (by decide)]
  dsimp only
  have e1 : (if (1 : Int) < p.quick then 1 else p.quick) = 1 := by split <;> omega
  simp only [e1]
  by_cases he : 0 < r.every
  · cases hh : r.hold <;> simp [he]
  · cases hh : r.hold <;> simp [he]
theorem full_0 {r : Rules} {p : Parts} (h : p.quick = 0) (hev : 0 ≤ r.every) (hp : 0 < r.every → 0 ≤ p.pending ∧ p.pending < r.every) : (withFull r p 1).1 =
    ⟨p.rest, p.kept, if r.hold = .all then true else p.blocked, if r.hold = .all then !decide (0 < r.every ∧ p.pending + 1 = r.every) else if r.hold = .part then (p.stuck && !decide (0 < r.every ∧ p.pending + 1 = r.every)) else p.stuck, if 0 < r.every then (if p.pending + 1 = r.every then 0 else p.pending + 1) else (withFull r p 1).1.pending, 0⟩ := by
  unfold withFull
  rw [if_neg (by decide)]
  dsimp only
  have e1 : (if (1 : Int) < p.quick then 1 else p.quick) = 0 := by rw [h]; decide
  simp only [e1]
  by_cases he : 0 < r.every
  · obtain ⟨h0, h1⟩ := hp he
    by_cases hx : p.pending + 1 = r.every
    · have hd : (p.pending + (1 - 0)) / r.every = 1 := by rw [show p.pending + (1 - 0) = r.every by omega]; exact Int.ediv_self (by omega)
      have hm : (p.pending + (1 - 0)) % r.every = 0 := by rw [show p.pending + (1 - 0) = r.every by omega]; exact Int.emod_self
      have hne : ¬ r.every = 0 := by omega
      cases hh : r.hold <;> simp [he, hx, h, hd, hm, hne]
    · have hd : (p.pending + 1) / r.every = 0 := Int.ediv_eq_zero_of_lt (by omega) (by omega)
      have hm : (p.pending + 1) % r.every = p.pending + 1 := Int.emod_eq_of_lt (by omega) (by omega)
      have hpos : 0 < p.pending + 1 := by omega
      cases hh : r.hold <;> simp [he, hx, h, hd, hm, hpos]
  · have he0 : r.every = 0 := by omega
    cases hh : r.hold <;> simp [he, he0, h]
theorem sim_full {r : Rules} {o : PolD} {s : Side} {p : Parts} (S : Sim r o s p) (hw : 0 < r.size) (hev : r.every = o.every) (hev0 : 0 ≤ r.every) : Sim r o (sSend s r.size r.size) (withFull r p 1).1 := by
  have hz := hs_send s r.size o r.size
  obtain ⟨bl, stk, pd, qk, c1, c2, c3, mrk, fl⟩ := S
  generalize hsOf s r.size o = z at hz stk pd qk c1 c2 c3 fl
  have hs : (sSend s r.size r.size).mark = s.mark ∧ (sSend s r.size r.size).sent = s.sent + r.size ∧ (sSend s r.size r.size).covered = s.covered := by
    unfold sSend; rw [if_neg (by omega)]; exact ⟨rfl, rfl, rfl⟩
  obtain ⟨h1, h2, h3⟩ := hs
  by_cases hq : z.arrived + 1 ≤ o.quick
  · have hq0 : 0 < p.quick := by rw [qk, if_pos (by omega)]; omega
    have hz' : hsStep r.size o z r.size = ⟨z.heard + r.size, 0, z.arrived + 1, z.heard + r.size⟩ := by unfold hsStep; rw [if_pos (.inl hq)]
    rw [hz'] at hz
    rw [full_q hq0]
    refine ⟨?_, ?_, ?_, ?_, ?_, ?_, ?_, ?_, ?_⟩ <;> simp only [hz, h1, h2, h3]
    · unfold mayAt at bl ⊢
      cases hh : r.hold <;> simp [hh] at bl ⊢
      · omega
      · exact bl
      · exact bl
    · unfold mayAt at stk ⊢
      have : z.heard + r.size = s.sent + r.size := by omega
      cases hh : r.hold <;> simp [hh, this] at stk ⊢
      · omega
      · exact stk
    · intro he; rw [if_pos he]; exact ⟨rfl, Int.le_refl _, he⟩
    · rw [qk, if_pos (by omega)]; split <;> omega
    · omega
    · exact Int.le_refl _
    · omega
    · omega
    · exact Int.le_refl _
  · have hq0 : p.quick = 0 := by rw [qk]; split <;> omega
    have hp : 0 < r.every → 0 ≤ p.pending ∧ p.pending < r.every := fun he => ⟨(pd he).2.1, (pd he).2.2⟩
    have hz' : hsStep r.size o z r.size = if z.fulls + 1 = o.every then ⟨z.heard + r.size, 0, z.arrived + 1, z.heard + r.size⟩ else ⟨z.heard + r.size, z.fulls + 1, z.arrived + 1, z.reach⟩ := by
      unfold hsStep
      simp [hq]
    rw [hz'] at hz
    rw [full_0 hq0 hev0 hp]
    by_cases ha : z.fulls + 1 = o.every
    · have he : 0 < r.every := by omega
      have hpx : p.pending + 1 = r.every := by have := (pd he).1; omega
      rw [if_pos ha] at hz
      refine ⟨?_, ?_, ?_, ?_, ?_, ?_, ?_, ?_, ?_⟩ <;> simp only [hz, h1, h2, h3, hpx, he, if_true, and_self, decide_true, Bool.not_true, Bool.and_false]
      · unfold mayAt at bl ⊢
        cases hh : r.hold <;> simp [hh] at bl ⊢
        · omega
        · exact bl
        · exact bl
      · unfold mayAt at stk ⊢
        have : z.heard + r.size = s.sent + r.size := by omega
        cases hh : r.hold <;> simp [hh, this] at stk ⊢
        · omega
        · exact stk
      · intro _; exact ⟨trivial, Int.le_refl _, trivial⟩
      · split <;> omega
      · omega
      · exact Int.le_refl _
      · omega
      · omega
      · exact Int.le_refl _
    · rw [if_neg ha] at hz
      have hpx : ¬ (0 < r.every ∧ p.pending + 1 = r.every) := fun ⟨he, h⟩ => ha (by have := (pd he).1; omega)
      refine ⟨?_, ?_, ?_, ?_, ?_, ?_, ?_, ?_, ?_⟩ <;> simp only [hz, h1, h2, h3, hpx, decide_false, Bool.not_false, Bool.and_true]
      · unfold mayAt at bl ⊢
        cases hh : r.hold <;> simp [hh] at bl ⊢
        · omega
        · exact bl
        · exact bl
      · unfold mayAt at stk ⊢
        cases hh : r.hold <;> simp [hh] at stk ⊢
        · omega
        · exact stk
        · exact stk
      · intro he
        have hne : ¬ p.pending + 1 = r.every := fun h => hpx ⟨he, h⟩
        have := pd he
        simp only [he, if_true, if_neg hne]
        omega
      · split <;> omega
      · omega
      · omega
      · omega
      · omega
      · omega
end LW

/-! the simulation, further -/
namespace LW
theorem sim_part {r : Rules} {o : PolD} {s : Side} {p : Parts} (S : Sim r o s p) {x : Int} (hx0 : 0 < x) (hx : x < r.size) : Sim r o (sSend s r.size x) (withPartial r p).1 := by
  have hz := hs_send s r.size o x
  obtain ⟨bl, stk, pd, qk, c1, c2, c3, mrk, fl⟩ := S
  generalize hsOf s r.size o = z at hz stk pd qk c1 c2 c3 fl
  have hs : (sSend s r.size x).mark = s.sent + x ∧ (sSend s r.size x).sent = s.sent + x ∧ (sSend s r.size x).covered = s.covered := by
    unfold sSend; rw [if_pos hx]; exact ⟨rfl, rfl, rfl⟩
  obtain ⟨h1, h2, h3⟩ := hs
  have hne : ¬ x = r.size := by omega
  by_cases hq : z.arrived + 1 ≤ o.quick
  · have hq0 : 0 < p.quick := by rw [qk, if_pos (by omega)]; omega
    have hz' : hsStep r.size o z x = ⟨z.heard + x, 0, z.arrived + 1, z.heard + x⟩ := by unfold hsStep; rw [if_pos (.inl hq)]
    rw [hz'] at hz
    unfold withPartial
    simp only [if_pos hq0]
    refine ⟨?_, ?_, ?_, ?_, ?_, ?_, ?_, ?_, ?_⟩ <;> simp only [hz, h1, h2, h3]
    · unfold mayAt
      cases hh : r.hold <;> simp <;> omega
    · unfold mayAt
      cases hh : r.hold <;> simp <;> omega
    · intro he; exact ⟨trivial, Int.le_refl _, he⟩
    · rw [qk, if_pos (by omega)]; split <;> omega
    · omega
    · exact Int.le_refl _
    · omega
    · exact Int.le_refl _
    · exact Int.le_refl _
  · have hq0 : p.quick = 0 := by rw [qk]; split <;> omega
    have hz' : hsStep r.size o z x = ⟨z.heard + x, z.fulls, z.arrived + 1, z.reach⟩ := by unfold hsStep; simp [hq, hne]
    rw [hz'] at hz
    have hn : ¬ 0 < p.quick := by omega
    unfold withPartial
    simp only [if_neg hn]
    refine ⟨?_, ?_, ?_, ?_, ?_, ?_, ?_, ?_, ?_⟩ <;> simp only [hz, h1, h2, h3]
    · unfold mayAt
      cases hh : r.hold <;> simp <;> omega
    · unfold mayAt
      cases hh : r.hold <;> simp <;> omega
    · exact pd
    · split <;> omega
    · omega
    · omega
    · omega
    · exact Int.le_refl _
    · exact fl
/-- with what is not sent yet -/
structure SimR (r : Rules) (o : PolD) (s : Side) (p : Parts) : Prop where
  sim : Sim r o s p
  rest : p.rest = s.rest
  kept : p.kept = s.kept
  wait : 0 < s.rest → s.kept = false → p.blocked = true
theorem hs_cov (s : Side) (wd : Int) (o : PolD) : hsOf (sCov s wd o) wd o = hsOf s wd o ∧ (sCov s wd o).covered = (hsOf s wd o).reach ∧ (sCov s wd o).mark = s.mark ∧ (sCov s wd o).sent = s.sent := by
  have h := prj_fold wd o s.way (s, s.covered)
  have hk : ∀ (l : List Int) (z : Side × Int), (l.foldl (hearStep wd o) z).1.mark = z.1.mark ∧ (l.foldl (hearStep wd o) z).1.sent = z.1.sent := by
    intro l
    induction l with
    | nil => exact fun z => ⟨rfl, rfl⟩
    | cons x l ih =>
      intro z
      rw [List.foldl_cons, (ih _).1, (ih _).2]
      unfold hearStep
      dsimp only
      generalize (if decide (x = wd) = true then (1 : Int) else 0) = b1
      split <;> exact ⟨rfl, rfl⟩
  refine ⟨?_, ?_, (hk s.way (s, s.covered)).1, (hk s.way (s, s.covered)).2⟩
  · show (⟨(sHearG s wd o).1.heard, (sHearG s wd o).1.fulls, (sHearG s wd o).1.arrived, (sHearG s wd o).2⟩ : Hs) = _
    exact h
  · exact congrArg Hs.reach h
theorem may_mono {h : Hold} {mark sent c c' : Int} (hm : mayAt h mark sent c = true) (h1 : c ≤ c') (h2 : c' ≤ sent) (hmk : mark ≤ sent) : mayAt h mark sent c' = true := by
  unfold mayAt at hm ⊢
  cases h <;> simp at hm ⊢ <;> omega
theorem part_shape (r : Rules) (p : Parts) : (withPartial r p).1.rest = 0 ∧ (withPartial r p).1.kept = false := by
  unfold withPartial
  dsimp only
  split <;> exact ⟨rfl, rfl⟩
theorem sSend_kept {s : Side} {wd x : Int} (h : x < wd) : (sSend s wd x).kept = false := by unfold sSend; rw [if_pos h]
theorem sim_cov {r : Rules} {o : PolD} {s : Side} {p : Parts} (S : Sim r o s p) : Sim r o (sCov s r.size o) ⟨p.rest, p.kept, p.stuck, p.stuck, p.pending, p.quick⟩ := by
  obtain ⟨h1, h2, h3, h4⟩ := hs_cov s r.size o
  obtain ⟨bl, stk, pd, qk, c1, c2, c3, mrk, fl⟩ := S
  refine ⟨?_, ?_, ?_, ?_, ?_, ?_, ?_, ?_, ?_⟩ <;> simp only [h1, h2, h3, h4]
  · exact stk
  · exact stk
  · exact pd
  · exact qk
  · exact Int.le_refl _
  · exact c2
  · exact c3
  · exact mrk
  · exact fl
theorem parts_eta (p : Parts) (b s : Bool) (hb : p.blocked = b) (hs : p.stuck = s) : (⟨p.rest, p.kept, b, s, p.pending, p.quick⟩ : Parts) = p := by
  subst hb hs; rfl
theorem sim_clear {r : Rules} {o : PolD} {s : Side} {p : Parts} (S : SimR r o s p) (hr0 : 0 ≤ s.rest) (hr1 : s.rest < r.size) : SimR r o (sClear s r.size r.hold o) (afterClearing r p).1 := by
  obtain ⟨sim, hrest, hkept, wait⟩ := S
  have hc := sim_cov sim
  obtain ⟨g1, g2, g3, g4⟩ := hs_cov s r.size o
  obtain ⟨k1, k2, k3⟩ := sCov_rest s r.size o
  have hmay : sMay (sCov s r.size o) r.hold = !p.stuck := by rw [may_at, g2, g3, g4, sim.stk, Bool.not_not]
  have hdef : sClear s r.size r.hold o = if 0 < (sCov s r.size o).rest ∧ (sCov s r.size o).kept = false ∧ sMay (sCov s r.size o) r.hold = true then sSend (sCov s r.size o) r.size (sCov s r.size o).rest else sCov s r.size o := rfl
  rw [hdef, hmay, k1, k2]
  by_cases hb : p.blocked = false
  · have hst : p.stuck = false := by
      rw [sim.stk]
      have : mayAt r.hold s.mark s.sent s.covered = true := by have := sim.bl; rw [hb] at this; simpa using this
      rw [may_mono this sim.c1 (by rw [← sim.c3]; exact sim.c2) sim.mrk]; rfl
    have hp : (afterClearing r p).1 = p := by unfold afterClearing; rw [if_pos (.inl hb)]
    have hn : ¬ (0 < s.rest ∧ s.kept = false ∧ (!p.stuck) = true) := fun ⟨a, b, _⟩ => by rw [wait a b] at hb; cases hb
    rw [if_neg hn, hp]
    rw [hst, parts_eta p _ _ hb hst] at hc
    exact ⟨hc, by rw [k1]; exact hrest, by rw [k2]; exact hkept, fun a b => by rw [k1] at a; rw [k2] at b; exact wait a b⟩
  · have hb : p.blocked = true := by cases h : p.blocked with | true => rfl | false => exact absurd h hb
    by_cases hst : p.stuck = true
    · have hp : (afterClearing r p).1 = p := by unfold afterClearing; rw [if_pos (.inr hst)]
      have hn : ¬ (0 < s.rest ∧ s.kept = false ∧ (!p.stuck) = true) := fun ⟨_, _, c⟩ => by rw [hst] at c; cases c
      rw [if_neg hn, hp]
      rw [hst, parts_eta p _ _ hb hst] at hc
      exact ⟨hc, by rw [k1]; exact hrest, by rw [k2]; exact hkept, fun _ _ => hb⟩
    · have hst : p.stuck = false := by cases h : p.stuck with | false => rfl | true => exact absurd h hst
      have hnb : ¬ (p.blocked = false ∨ p.stuck = true) := by rw [hb, hst]; simp
      rw [hst] at hc ⊢
      unfold afterClearing
      rw [if_neg hnb]
      by_cases hk : p.rest = 0 ∨ p.kept = true
      · rw [if_pos hk]
        have hn : ¬ (0 < s.rest ∧ s.kept = false ∧ (!false) = true) := fun ⟨a, b, _⟩ => by
          rcases hk with z | z
          · rw [hrest] at z; omega
          · rw [hkept, b] at z; cases z
        rw [if_neg hn]
        exact ⟨hc, by rw [k1]; exact hrest, by rw [k2]; exact hkept, fun a b => by
          rw [k1] at a; rw [k2] at b
          exact absurd ⟨a, b, rfl⟩ hn⟩
      · rw [if_neg hk]
        have hy : 0 < s.rest ∧ s.kept = false ∧ (!false) = true := by
          refine ⟨?_, ?_, rfl⟩
          · have : ¬ p.rest = 0 := fun z => hk (.inl z)
            rw [hrest] at this; omega
          · rw [← hkept]
            cases h : p.kept with
            | false => rfl
            | true => exact absurd (.inr h) hk
        rw [if_pos hy]
        have hsp := sim_part hc hy.1 hr1
        have hps := part_shape r ⟨p.rest, p.kept, false, false, p.pending, p.quick⟩
        have hr : (sSend (sCov s r.size o) r.size s.rest).rest = 0 := by rw [sSend_rest, k1]; omega
        exact ⟨hsp, by rw [hps.1, hr], by rw [hps.2, sSend_kept hr1], fun a _ => by rw [hr] at a; omega⟩
end LW

/-! a write simulated -/
namespace LW
theorem full_succ {r : Rules} {p : Parts} {n : Int} (hn : 1 ≤ n) (hq : 0 ≤ p.quick) (hev : 0 ≤ r.every) (hp : 0 < r.every → 0 ≤ p.pending ∧ p.pending < r.every) : (withFull r p (n + 1)).1 = (withFull r (withFull r p n).1 1).1 := by
  by_cases hc : n < p.quick
  · have hq1 : 0 < (withFull r p n).1.quick := by
      unfold withFull; rw [if_neg (by omega)]; dsimp only; rw [if_pos hc]; omega
    rw [full_q hq1]
    have e1 : (if n < p.quick then n else p.quick) = n := if_pos hc
    have e2 : (if n + 1 < p.quick then n + 1 else p.quick) = n + 1 := by split <;> omega
    by_cases he : 0 < r.every
    · unfold withFull
      rw [if_neg (show ¬ n + 1 = 0 by omega), if_neg (show ¬ n = 0 by omega)]
      dsimp only
      simp only [e1, e2]
      have h1 : 0 < n + 1 := by omega
      have h2 : 0 < n := by omega
      have h3 : ¬ n + 1 = 0 := by omega
      cases hh : r.hold <;> simp [he, h1, h2, h3] <;> omega
    · have he0 : r.every = 0 := by omega
      have e3 : (if (1 : Int) < p.quick - n then 1 else p.quick - n) = 1 := by split <;> omega
      unfold withFull
      rw [if_neg (show ¬ n + 1 = 0 by omega), if_neg (show ¬ n = 0 by omega), if_neg (show ¬ (1 : Int) = 0 by decide)]
      dsimp only
      simp only [e1, e2, e3]
      have h1 : 0 < n + 1 := by omega
      have h2 : 0 < n := by omega
      have h3 : ¬ n + 1 = 0 := by omega
      cases hh : r.hold <;> simp [he, he0, h1, h2, h3] <;> omega
  · have e1 : (if n < p.quick then n else p.quick) = p.quick := if_neg hc
    have e2 : (if n + 1 < p.quick then n + 1 else p.quick) = p.quick := if_neg (by omega)
    generalize hX : (withFull r p n).1 = X
    have hXq : X.quick = 0 := by
      rw [← hX]; unfold withFull; rw [if_neg (by omega)]; dsimp only; rw [e1]; omega
    have hXp : 0 < r.every → X.pending = ((if 0 < p.quick then 0 else p.pending) + (n - p.quick)) % r.every := fun he => by
      rw [← hX]; unfold withFull; rw [if_neg (by omega)]; dsimp only; rw [e1, if_pos he]
    have hXr : 0 < r.every → 0 ≤ X.pending ∧ X.pending < r.every := fun he => by
      rw [hXp he]; exact ⟨Int.emod_nonneg _ (by omega), Int.emod_lt_of_pos _ he⟩
    rw [full_0 hXq hev hXr]
    by_cases he : 0 < r.every
    · generalize hm : (if 0 < p.quick then 0 else p.pending) + (n - p.quick) = M at hXp
      have hM : 0 ≤ M := by rw [← hm]; split <;> have := hp he <;> omega
      have hdm := Int.mul_ediv_add_emod M r.every
      have hXM := hXp he
      have hstep : (M + 1) % r.every = (if X.pending + 1 = r.every then 0 else X.pending + 1) ∧ (M + 1) / r.every = (if X.pending + 1 = r.every then M / r.every + 1 else M / r.every) := by
        have hb := hXr he
        by_cases hx : X.pending + 1 = r.every
        · rw [if_pos hx, if_pos hx]
          have e : M + 1 = r.every * (M / r.every + 1) := by rw [Int.mul_add]; omega
          rw [e]
          exact ⟨Int.mul_emod_right _ _, Int.mul_ediv_cancel_left _ (by omega)⟩
        · rw [if_neg hx, if_neg hx]
          have e : M + 1 = (X.pending + 1) + r.every * (M / r.every) := by omega
          rw [e]
          exact ⟨by rw [Int.add_mul_emod_self_left]; exact Int.emod_eq_of_lt (by omega) (by omega), by rw [Int.add_mul_ediv_left _ _ (by omega), Int.ediv_eq_zero_of_lt (by omega) (by omega)]; omega⟩
      have hM1 : (if 0 < p.quick then 0 else p.pending) + (n + 1 - p.quick) = M + 1 := by omega
      have hdnn : 0 ≤ M / r.every := Int.ediv_nonneg hM hev
      have hb := hXr he
      have hXd : X = ⟨p.rest, p.kept, if r.hold = .all then true else p.blocked, if r.hold = .part then ((if r.hold = .all then (decide (0 < n - p.quick) && (decide (r.every = 0) || decide (0 < M % r.every))) else p.stuck) && decide (p.quick + M / r.every = 0)) else (if r.hold = .all then (decide (0 < n - p.quick) && (decide (r.every = 0) || decide (0 < M % r.every))) else p.stuck), M % r.every, 0⟩ := by
        rw [← hX]; unfold withFull; rw [if_neg (by omega)]; dsimp only
        simp only [e1, if_pos he, hm, Int.sub_self]
      have hL : (withFull r p (n + 1)).1 = ⟨p.rest, p.kept, if r.hold = .all then true else p.blocked, if r.hold = .part then ((if r.hold = .all then (decide (0 < n + 1 - p.quick) && (decide (r.every = 0) || decide (0 < (M + 1) % r.every))) else p.stuck) && decide (p.quick + (M + 1) / r.every = 0)) else (if r.hold = .all then (decide (0 < n + 1 - p.quick) && (decide (r.every = 0) || decide (0 < (M + 1) % r.every))) else p.stuck), (M + 1) % r.every, 0⟩ := by
        unfold withFull; rw [if_neg (by omega)]; dsimp only
        simp only [e2, if_pos he, hM1, Int.sub_self]
      rw [hL, hstep.1, hstep.2, if_pos he]
      have hpend : X.pending = M % r.every := hXM
      have hXb : X.blocked = if r.hold = .all then true else p.blocked := by rw [hXd]
      have hXst : X.stuck = if r.hold = .part then ((if r.hold = .all then (decide (0 < n - p.quick) && (decide (r.every = 0) || decide (0 < M % r.every))) else p.stuck) && decide (p.quick + M / r.every = 0)) else (if r.hold = .all then (decide (0 < n - p.quick) && (decide (r.every = 0) || decide (0 < M % r.every))) else p.stuck) := by rw [hXd]
      have hXk : X.rest = p.rest ∧ X.kept = p.kept := by rw [hXd]; exact ⟨rfl, rfl⟩
      rw [hXb, hXst, hXk.1, hXk.2]
      have hne : ¬ r.every = 0 := by omega
      have hl : 0 < n + 1 - p.quick := by omega
      by_cases hx : X.pending + 1 = r.every
      · cases hh : r.hold <;> simp [hx, he, hne, hl] <;> omega
      · have hpos : 0 < X.pending + 1 := by omega
        cases hh : r.hold <;> simp [hx, he, hne, hl, hpos] <;> omega
    · have he0 : r.every = 0 := by omega
      have hl : 0 < n + 1 - p.quick := by omega
      have hpx : (withFull r X 1).1.pending = X.pending := by
        unfold withFull
        rw [if_neg (show ¬ (1 : Int) = 0 by decide)]
        dsimp only
        rw [hXq]
        simp [he]
      rw [if_neg he, hpx, ← hX]
      unfold withFull
      rw [if_neg (show ¬ n + 1 = 0 by omega), if_neg (show ¬ n = 0 by omega)]
      dsimp only
      simp only [e1, e2]
      have hqd : p.quick - p.quick = 0 := by omega
      cases hh : r.hold <;> simp [he, he0, hl, hqd] <;> omega
theorem sim_loop {r : Rules} {o : PolD} {s : Side} {p : Parts} (S : Sim r o s p) (hw : 0 < r.size) (hev : r.every = o.every) (hev0 : 0 ≤ r.every) : ∀ n : Nat, Sim r o (sLoop r.size n s) (withFull r p n).1
  | 0 => by
    have : (withFull r p ((0 : Nat) : Int)).1 = p := by unfold withFull; rw [if_pos (by rfl)]
    rw [this]; exact S
  | n + 1 => by
    have ih := sim_loop S hw hev hev0 n
    rw [sLoop_succ]
    by_cases hn : n = 0
    · subst hn
      exact sim_full S hw hev hev0
    · have hq : 0 ≤ p.quick := by rw [S.qk]; split <;> omega
      have := full_succ (r := r) (p := p) (n := (n : Int)) (by omega) hq hev0 fun he => ⟨(S.pd he).2.1, (S.pd he).2.2⟩
      rw [show ((n + 1 : Nat) : Int) = (n : Int) + 1 by omega, this]
      exact sim_full ih hw hev hev0
theorem full_rest (r : Rules) (p : Parts) (n : Int) : (withFull r p n).1.rest = p.rest ∧ (withFull r p n).1.kept = p.kept := by
  unfold withFull
  split
  · exact ⟨rfl, rfl⟩
  · exact ⟨rfl, rfl⟩
theorem sim_eq {r : Rules} {o : PolD} {s : Side} {p p' : Parts} (S : Sim r o s p) (h1 : p'.blocked = p.blocked) (h2 : p'.stuck = p.stuck) (h3 : p'.pending = p.pending) (h4 : p'.quick = p.quick) : Sim r o s p' :=
  ⟨by rw [h1]; exact S.bl, by rw [h2]; exact S.stk, by rw [h3]; exact S.pd, by rw [h4]; exact S.qk, S.c1, S.c2, S.c3, S.mrk, S.fl⟩
theorem sim_side {r : Rules} {o : PolD} {s : Side} {p : Parts} (S : Sim r o s p) (x : Int) (b : Bool) : Sim r o { s with rest := x, kept := b } p := ⟨S.bl, S.stk, S.pd, S.qk, S.c1, S.c2, S.c3, S.mrk, S.fl⟩
theorem sLoop_kept (wd : Int) : ∀ (n : Nat) (s : Side), s.kept = false → (sLoop wd n s).kept = false
  | 0, _, h => h
  | n + 1, s, h => by
    rw [sLoop_succ]
    unfold sSend
    split
    · rfl
    · exact sLoop_kept wd n s h
theorem sim_write {r : Rules} {o : PolD} {s : Side} {p : Parts} (S : SimR r o s p) (hw : 0 < r.size) (hev : r.every = o.every) (hev0 : 0 ≤ r.every) (hr0 : 0 ≤ s.rest) {l : Int} (hl : 0 ≤ l) (m : Mode) : SimR r o (sWrite s r.size r.hold l m) (afterWrite r p l m).1 := by
  obtain ⟨sim, hrest, hkept, wait⟩ := S
  have hd0 : 0 ≤ (s.rest + l) / r.size := Int.ediv_nonneg (by omega) (by omega)
  have hdm := Int.mul_ediv_add_emod (s.rest + l) r.size
  have hm0 := Int.emod_nonneg (s.rest + l) (b := r.size) (by omega)
  have hm1 := Int.emod_lt_of_pos (s.rest + l) (b := r.size) hw
  have hcast : ((((s.rest + l) / r.size).toNat : Nat) : Int) = (s.rest + l) / r.size := by omega
  have h1 : Sim r o { s with rest := s.rest + l, kept := false } ⟨(s.rest + l) % r.size, false, p.blocked, p.stuck, p.pending, p.quick⟩ := sim_eq (sim_side sim _ _) rfl rfl rfl rfl
  have hloop := sim_loop h1 hw hev hev0 ((s.rest + l) / r.size).toNat
  have hlr := sLoop_rest r.size ((s.rest + l) / r.size).toNat { s with rest := s.rest + l, kept := false }
  have hlk := sLoop_kept r.size ((s.rest + l) / r.size).toNat { s with rest := s.rest + l, kept := false } rfl
  rw [hcast] at hloop hlr
  simp only at hlr
  unfold sWrite afterWrite
  rw [hrest]
  have hfr := full_rest r ⟨(s.rest + l) % r.size, false, p.blocked, p.stuck, p.pending, p.quick⟩ ((s.rest + l) / r.size)
  generalize sLoop r.size ((s.rest + l) / r.size).toNat { s with rest := s.rest + l, kept := false } = S2 at hloop hlr hlk
  have hS2 : S2.rest = (s.rest + l) % r.size := by omega
  dsimp only
  generalize (withFull r ⟨(s.rest + l) % r.size, false, p.blocked, p.stuck, p.pending, p.quick⟩ ((s.rest + l) / r.size)).1 = q at hloop hfr
  simp only at hfr
  unfold sPush
  rw [hS2]
  have hmay : sMay S2 r.hold = !q.blocked := by rw [may_at, hloop.bl, Bool.not_not]
  by_cases c1 : 0 < (s.rest + l) % r.size ∧ m = .more
  · rw [if_pos c1, if_pos c1]
    exact ⟨sim_eq (sim_side hloop _ true) rfl rfl rfl rfl, rfl, rfl, fun _ b => by cases b⟩
  · rw [if_neg c1, if_neg c1]
    by_cases c2 : 0 < (s.rest + l) % r.size ∧ (m = .push ∨ q.blocked = false)
    · have c3 : 0 < (s.rest + l) % r.size ∧ (m = .push ∨ sMay S2 r.hold = true) := by rw [hmay]; simpa using c2
      rw [if_pos c2, if_pos c3]
      have hps := part_shape r q
      have hz : (sSend S2 r.size ((s.rest + l) % r.size)).rest = 0 := by rw [sSend_rest]; omega
      exact ⟨sim_part hloop c2.1 hm1, by rw [hps.1, hz], by rw [hps.2, sSend_kept hm1], fun a _ => by rw [hz] at a; omega⟩
    · have c3 : ¬ (0 < (s.rest + l) % r.size ∧ (m = .push ∨ sMay S2 r.hold = true)) := by rw [hmay]; simpa using c2
      rw [if_neg c2, if_neg c3]
      refine ⟨hloop, by rw [hfr.1, hS2], by rw [hfr.2, hlk], fun a _ => ?_⟩
      rw [hS2] at a
      cases hb : q.blocked with
      | true => rfl
      | false => exact absurd ⟨a, .inr hb⟩ c2
end LW

/-! the end of a turn simulated -/
namespace LW
theorem hs_nil {s : Side} {wd : Int} {o : PolD} (h : s.way = []) : hsOf s wd o = ⟨s.heard, s.fulls, s.arrived, s.covered⟩ := by unfold hsOf; rw [h]; rfl
theorem clear_id {r : Rules} {o : PolD} {s : Side} {p : Parts} (S : Sim r o s p) (h : s.way = []) : (afterClearing r p).1 = p := by
  have h1 := S.bl
  have h2 := S.stk
  rw [hs_nil h] at h2
  have : p.stuck = p.blocked := by rw [h1, h2]
  unfold afterClearing
  rw [if_pos (by rw [this]; cases p.blocked <;> simp)]
theorem clear_rest_ok {s : Side} {wd : Int} {h : Hold} {o : PolD} (hw : 0 < wd) (h0 : 0 ≤ s.rest) (h1 : s.rest < wd) : 0 ≤ (sClear s wd h o).rest ∧ (sClear s wd h o).rest < wd := by
  have := si_clear (n := s.way.length) hw ⟨h0, h1, Nat.le_refl _⟩ h o
  exact ⟨this.r0, this.r1⟩
theorem sim_done {r : Rules} {o : PolD} {s : Side} {p : Parts} (S : SimR r o s p) (hw : 0 < r.size) (h0 : 0 ≤ s.rest) (h1 : s.rest < r.size) : SimR r o (sDone s r.size r.hold o) (afterClearing r (afterClearing r p).1).1 := by
  unfold sDone
  by_cases hwy : s.way = []
  · rw [if_pos hwy, clear_id S.sim hwy, clear_id S.sim hwy]; exact S
  · rw [if_neg hwy]
    have S1 := sim_clear S h0 h1
    by_cases hw2 : (sClear s r.size r.hold o).way = []
    · rw [if_pos hw2, clear_id S1.sim hw2]; exact S1
    · rw [if_neg hw2]
      have hr := clear_rest_ok (h := r.hold) (o := o) hw h0 h1
      exact sim_clear S1 hr.1 hr.2
theorem step_arr (wd : Int) (o : PolD) (z : Hs) (x : Int) : (hsStep wd o z x).arrived = z.arrived + 1 := by
  unfold hsStep
  generalize (if decide (x = wd) = true then (1 : Int) else 0) = b
  split <;> rfl
theorem cov_arr (s : Side) (wd : Int) (o : PolD) : (sCov s wd o).arrived = (hsOf s wd o).arrived := congrArg Hs.arrived (prj_fold wd o s.way (s, s.covered))
theorem sim_finish {r : Rules} {o : PolD} {s : Side} {p : Parts} (S : SimR r o s p) (hw : 0 < r.size) (h0 : 0 ≤ s.rest) (h1 : s.rest < r.size) :
    ((sFinish s r.size r.hold o).1 = true ↔ 0 < (afterTurn r p).1) ∧ (afterTurn r p).2.1 = if (sFinish s r.size r.hold o).2.arrived ≤ o.quick then o.quick - (sFinish s r.size r.hold o).2.arrived else 0 := by
  have S2 := sim_done S hw h0 h1
  have hway := done_way s r.size r.hold o
  unfold sFinish afterTurn
  dsimp only
  generalize sDone s r.size r.hold o = D at S2 hway
  generalize (afterClearing r (afterClearing r p).1).1 = b at S2
  obtain ⟨sim, hrest, hkept, wait⟩ := S2
  have hq := sim.qk
  rw [hs_nil hway] at hq
  simp only at hq
  by_cases hz : D.rest = 0
  · rw [if_pos hz, if_pos (by rw [hrest]; exact hz)]
    exact ⟨by simp, hq⟩
  · have hbz : ¬ b.rest = 0 := by rw [hrest]; exact hz
    simp only [if_neg hz, if_neg hbz]
    have hD2 : (if D.kept = true then D else { D with bare := D.bare + 1, fulls := 0 } : Side).way = [] ∧ (if D.kept = true then D else { D with bare := D.bare + 1, fulls := 0 } : Side).arrived = D.arrived := by split <;> exact ⟨hway, rfl⟩
    generalize (if D.kept = true then D else { D with bare := D.bare + 1, fulls := 0 } : Side) = D2 at hD2
    have ha : (sCov (sSend D2 r.size D2.rest) r.size o).arrived = D.arrived + 1 := by rw [cov_arr, hs_send, step_arr, hs_nil hD2.1, hD2.2]
    refine ⟨by simp, ?_⟩
    rw [ha]
    unfold withPartial
    dsimp only
    split
    · show b.quick - 1 = _
      rename_i hqq
      rw [hq] at hqq ⊢
      split at hqq
      · split <;> split <;> omega
      · omega
    · show (0 : Int) = _
      rename_i hqq
      rw [hq] at hqq
      split at hqq
      · split <;> omega
      · split <;> omega
end LW

/-! the whole play -/
namespace LW
def rsW (wd : Int) (p : PolD × PolD) : RS := fun e => ⟨wd, (polOf p e).hold, (polOf p (1 - e)).every⟩
def PolK (p : PolD) : Prop := 0 ≤ p.every ∧ p.every ≤ 9 ∧ 0 ≤ p.quick ∧ p.quick ≤ 4
def m0 (q a : Int) : Int := if a ≤ q then q - a else 0
theorem sim_new {r : Rules} {o : PolD} (hw : 0 < r.size) (he : 0 ≤ r.every) (a : Int) : SimR r o (sNew a) (firstParts (m0 o.quick a)) := by
  have hh : hsOf (sNew a) r.size o = ⟨0, 0, a, 0⟩ := rfl
  refine ⟨⟨?_, ?_, ?_, ?_, ?_, ?_, ?_, ?_, ?_⟩, rfl, rfl, fun z => absurd z (by show ¬ (0 : Int) < 0; decide)⟩
  · show false = !mayAt r.hold 0 0 0
    unfold mayAt; cases r.hold <;> simp
  · rw [hh]
    show false = !mayAt r.hold 0 0 0
    unfold mayAt; cases r.hold <;> simp
  · intro h; rw [hh]; exact ⟨rfl, Int.le_refl _, h⟩
  · rw [hh]; rfl
  · rw [hh]; exact Int.le_refl _
  · rw [hh]; exact Int.le_refl _
  · rw [hh]; rfl
  · exact Int.le_refl _
  · rw [hh]; exact Int.le_refl _
theorem sim_clearK {r : Rules} {o : PolD} {s : Side} {p : Parts} (S : SimR r o s p) (hw : 0 < r.size) (h0 : 0 ≤ s.rest) (h1 : s.rest < r.size) : ∀ n, SimR r o (sClearK s r.size r.hold o n) (clearK r p n) ∧ 0 ≤ (sClearK s r.size r.hold o n).rest ∧ (sClearK s r.size r.hold o n).rest < r.size
  | 0 => ⟨S, h0, h1⟩
  | n + 1 => by
    obtain ⟨a, b, c⟩ := sim_clearK S hw h0 h1 n
    have := clear_rest_ok (h := r.hold) (o := o) hw b c
    exact ⟨sim_clear a b c, this.1, this.2⟩
theorem write_rest {s : Side} {wd : Int} {h : Hold} {l : Int} {m : Mode} (hw : 0 < wd) (hw1 : wd ≤ 10) (h0 : 0 ≤ s.rest) (h1 : s.rest < wd) (hl : 0 ≤ l) (hl1 : l ≤ 100) : 0 ≤ (sWrite s wd h l m).rest ∧ (sWrite s wd h l m).rest < wd := by
  have := si_write (n := s.way.length) hw hw1 ⟨h0, h1, Nat.le_refl _⟩ h hl hl1 m
  exact ⟨this.r0, this.r1⟩
theorem first_turn {c : List Wr} {ts : List Tn} (S : SpI c c.length ts) {i : Nat} {t : Tn} (ht : ts[i]? = some t) {j : Nat} (h1 : t.a ≤ (j : Int)) (h2 : (j : Int) < t.b) : firstB c j = decide ((j : Int) = t.a) := by
  have := lim_turn S ht h1 h2
  unfold limF at this
  by_cases e : (j : Int) = t.a
  · rw [if_pos e] at this
    rw [decide_eq_true e]
    by_cases hf : firstB c j = true
    · exact hf
    · rw [if_neg hf] at this; cases this
  · rw [if_neg e] at this
    rw [decide_eq_false e]
    by_cases hf : firstB c j = true
    · rw [if_pos hf] at this; cases this
    · cases h : firstB c j with
      | false => rfl
      | true => exact absurd h hf
theorem last_turn {c : List Wr} {ts : List Tn} (S : SpI c c.length ts) {i : Nat} {t : Tn} (ht : ts[i]? = some t) {j : Nat} (h1 : t.a ≤ (j : Int)) (h2 : (j : Int) < t.b) : lastB c j = decide ((j : Int) + 1 = t.b) := by
  obtain ⟨a1, a2, a3, a4⟩ := S.at_ i t ht
  obtain ⟨x, hx, hxw⟩ := a4 j h1 h2
  unfold lastB
  rw [whoAt_some hx]
  by_cases e : (j : Int) + 1 = t.b
  · rw [decide_eq_true e]
    cases ht2 : ts[i + 1]? with
    | none =>
      have hk := (List.getElem?_eq_some_iff.mp ht).1
      have hk2 := List.getElem?_eq_none_iff.mp ht2
      have : ts.getLast? = some t := by
        rw [List.getLast?_eq_getElem?]
        have : ts.length - 1 = i := by omega
        rw [this]; exact ht
      have := S.last t this
      have : (j : Int) + 1 = c.length := by omega
      simp [this]
    | some t' =>
      have hn := S.next i t t' ht ht2
      have h4 := S.at_ _ t' ht2
      obtain ⟨y, hy, hyw⟩ := h4.2.2.2 (j + 1) (by omega) (by omega)
      rw [whoAt_some hy, hyw, hxw]
      simp [hn.2]
  · rw [decide_eq_false e]
    obtain ⟨y, hy, hyw⟩ := a4 (j + 1) (by omega) (by omega)
    rw [whoAt_some hy, hyw, hxw]
    have : ¬ (j : Int) + 1 = c.length := by omega
    simp [this]
/-- within a turn, ahead of place j's write -/
theorem play_in {wd : Int} {p : PolD × PolD} {c : List Wr} {o : List Int} {ts : List Tn} (hw : 0 < wd) (hw1 : wd ≤ 10) (hp1 : PolK p.1) (hp2 : PolK p.2) (hc : ∀ x ∈ c, x.ok2) (ho : OrderF c o) (S : SpI c c.length ts) {i : Nat} {t : Tn} (ht : ts[i]? = some t) {q : Int}
    (hq : q = m0 (polOf p (1 - t.who)).quick (pickQ (playN wd p c o t.a.toNat).arr (1 - t.who))) : ∀ j : Nat, (j : Int) < t.b - t.a → ∀ x, c[t.a.toNat + j]? = some x →
    (psBegin c (t.a.toNat + j) x (playN wd p c o (t.a.toNat + j))).st = (playN wd p c o t.a.toNat).st ∧ (psBegin c (t.a.toNat + j) x (playN wd p c o (t.a.toNat + j))).arr = (playN wd p c o t.a.toNat).arr ∧
    SimR (rsW wd p t.who) (polOf p (1 - t.who)) (psBegin c (t.a.toNat + j) x (playN wd p c o (t.a.toNat + j))).side (turnParts (rsW wd p t.who) c o q t.a.toNat j) ∧
    0 ≤ (psBegin c (t.a.toNat + j) x (playN wd p c o (t.a.toNat + j))).side.rest ∧ (psBegin c (t.a.toNat + j) x (playN wd p c o (t.a.toNat + j))).side.rest < wd := by
  obtain ⟨a1, a2, a3, a4⟩ := S.at_ i t ht
  have hev0 : 0 ≤ (rsW wd p t.who).every := by show 0 ≤ (polOf p (1 - t.who)).every; unfold polOf; split <;> first | exact hp1.1 | exact hp2.1
  intro j
  induction j with
  | zero =>
    intro hj x hx
    have hf := first_turn S ht (j := t.a.toNat + 0) (by omega) (by omega)
    rw [decide_eq_true (by omega)] at hf
    obtain ⟨y, hy, hyw⟩ := a4 (t.a.toNat + 0) (by omega) (by omega)
    rw [hx] at hy; cases hy
    unfold psBegin
    rw [if_pos hf, hyw]
    have hsn := sim_new (r := rsW wd p t.who) (o := polOf p (1 - t.who)) hw hev0 (pickQ (playN wd p c o t.a.toNat).arr (1 - t.who))
    refine ⟨rfl, rfl, ?_, Int.le_refl _, hw⟩
    show SimR _ _ _ (firstParts q)
    rw [hq]
    exact hsn
  | succ j ih =>
    intro hj x hx
    obtain ⟨y, hy, hyw⟩ := a4 (t.a.toNat + j) (by omega) (by omega)
    have hlo : t.a.toNat + j < o.length := by rw [ho.1]; omega
    have hk : o[t.a.toNat + j]? = some o[t.a.toNat + j] := List.getElem?_eq_getElem hlo
    generalize o[t.a.toNat + j] = kk at hk
    obtain ⟨b1, b2, b3, b4, b5⟩ := ih (by omega) y hy
    have hl := last_turn S ht (j := t.a.toNat + j) (by omega) (by omega)
    rw [decide_eq_false (by omega)] at hl
    have hf := first_turn S ht (j := t.a.toNat + (j + 1)) (by omega) (by omega)
    rw [decide_eq_false (by omega)] at hf
    have hn : playN wd p c o (t.a.toNat + (j + 1)) = { psBegin c (t.a.toNat + j) y (playN wd p c o (t.a.toNat + j)) with side := psMid wd p y kk (psBegin c (t.a.toNat + j) y (playN wd p c o (t.a.toNat + j))).side } := by
      show playN wd p c o (t.a.toNat + j + 1) = _
      rw [playN, hy, hk]
      show psEnd _ _ _ _ _ _ _ = _
      unfold psEnd
      rw [if_neg (by rw [hl]; decide)]
    have hpb : psBegin c (t.a.toNat + (j + 1)) x (playN wd p c o (t.a.toNat + (j + 1))) = playN wd p c o (t.a.toNat + (j + 1)) := by
      unfold psBegin; rw [if_neg (by rw [hf]; decide)]
    rw [hpb, hn]
    have hyo := hc y (List.mem_of_getElem? hy)
    obtain ⟨k1, k2, k3⟩ := sim_clearK b3 hw b4 b5 kk.toNat
    have hwr := write_rest (h := (rsW wd p t.who).hold) (m := y.mode) (l := y.len) hw hw1 k2 k3 (by have := hyo.2.1; omega) hyo.2.2
    have hsw := sim_write k1 hw rfl hev0 k2 (l := y.len) (by have := hyo.2.1; omega) y.mode
    have htp : turnParts (rsW wd p t.who) c o q t.a.toNat (j + 1) = (afterWrite (rsW wd p t.who) (clearK (rsW wd p t.who) (turnParts (rsW wd p t.who) c o q t.a.toNat j) kk.toNat) y.len y.mode).1 := by
      rw [turnParts, hy, hk]
    have hmid : psMid wd p y kk (psBegin c (t.a.toNat + j) y (playN wd p c o (t.a.toNat + j))).side = sWrite (sClearK (psBegin c (t.a.toNat + j) y (playN wd p c o (t.a.toNat + j))).side (rsW wd p t.who).size (rsW wd p t.who).hold (polOf p (1 - t.who)) kk.toNat) (rsW wd p t.who).size (rsW wd p t.who).hold y.len y.mode := by
      unfold psMid; rw [hyw]; rfl
    refine ⟨b1, b2, ?_, ?_, ?_⟩
    · show SimR _ _ (psMid wd p y kk _) _
      rw [htp, hmid]; exact hsw
    · show 0 ≤ (psMid wd p y kk _).rest
      rw [hmid]; exact hwr.1
    · show (psMid wd p y kk _).rest < wd
      rw [hmid]; exact hwr.2
end LW

/-! the whole play against the program's outcome -/
namespace LW
theorem m0_pick_same (q a e v : Int) (x : Int × Int) : pickQ (withQuick x e v) e = v := by
  unfold pickQ withQuick
  by_cases h : e = 0
  · simp [h]
  · simp [h]
theorem m0_pick_other {e e' v : Int} {x : Int × Int} (h : e ≠ e') (h1 : e = 0 ∨ e = 1) (h2 : e' = 0 ∨ e' = 1) : pickQ (withQuick x e v) e' = pickQ x e' := by
  unfold pickQ withQuick
  rcases h1 with rfl | rfl <;> rcases h2 with rfl | rfl <;> simp at h ⊢
theorem play_spec {wd : Int} {p : PolD × PolD} {c : List Wr} {o : List Int} {ts : List Tn} (hw : 0 < wd) (hw1 : wd ≤ 10) (hp1 : PolK p.1) (hp2 : PolK p.2) (hc : ∀ x ∈ c, x.ok2) (ho : OrderF c o) (S : SpI c c.length ts) : ∀ i, i ≤ ts.length →
    ((playN wd p c o (startOf ts c.length i)).st.length = (outN (rsW wd p) (p.1.quick, p.2.quick) c o ts i).2.length) ∧ ∀ e, e = 0 ∨ e = 1 → pickQ (outN (rsW wd p) (p.1.quick, p.2.quick) c o ts i).1 e = m0 (polOf p e).quick (pickQ (playN wd p c o (startOf ts c.length i)).arr e)
  | 0, _ => by
    rw [startOf_zero S]
    refine ⟨rfl, fun e he => ?_⟩
    rcases he with rfl | rfl
    · show p.1.quick = m0 p.1.quick 0
      unfold m0; rw [if_pos hp1.2.2.1]; omega
    · show p.2.quick = m0 p.2.quick 0
      unfold m0; rw [if_pos hp2.2.2.1]; omega
  | i + 1, hi => by
    have ht : ts[i]? = some ts[i] := List.getElem?_eq_getElem (by omega)
    obtain ⟨ih1, ih2⟩ := play_spec hw hw1 hp1 hp2 hc ho S i (by omega)
    generalize ts[i] = t at ht
    obtain ⟨a1, a2, a3, a4⟩ := S.at_ i t ht
    have hs : startOf ts c.length i = t.a.toNat := by unfold startOf; rw [ht]
    rw [hs] at ih1 ih2
    rw [startOf_next S ht]
    have hwho : t.who = 0 ∨ t.who = 1 := tn_who (fun x hx => Wr.ok2_ok (hc x hx)) S ht
    have hoth : 1 - t.who = 0 ∨ 1 - t.who = 1 := by omega
    generalize hJ : (t.b - t.a).toNat - 1 = J
    have hJ1 : (J : Int) = t.b - t.a - 1 := by omega
    obtain ⟨y, hy, hyw⟩ := a4 (t.a.toNat + J) (by omega) (by omega)
    have hlo : t.a.toNat + J < o.length := by rw [ho.1]; omega
    have hk : o[t.a.toNat + J]? = some o[t.a.toNat + J] := List.getElem?_eq_getElem hlo
    generalize o[t.a.toNat + J] = kk at hk
    have hq := ih2 (1 - t.who) hoth
    obtain ⟨b1, b2, b3, b4, b5⟩ := play_in hw hw1 hp1 hp2 hc ho S ht hq J (by omega) y hy
    have hl := last_turn S ht (j := t.a.toNat + J) (by omega) (by omega)
    rw [decide_eq_true (by omega)] at hl
    have hev0 : 0 ≤ (rsW wd p t.who).every := by show 0 ≤ (polOf p (1 - t.who)).every; unfold polOf; split <;> first | exact hp1.1 | exact hp2.1
    have hyo := hc y (List.mem_of_getElem? hy)
    obtain ⟨k1, k2, k3⟩ := sim_clearK b3 hw b4 b5 kk.toNat
    have hwr := write_rest (h := (rsW wd p t.who).hold) (m := y.mode) (l := y.len) hw hw1 k2 k3 (by have := hyo.2.1; omega) hyo.2.2
    have hsw := sim_write k1 hw rfl hev0 k2 (l := y.len) (by have := hyo.2.1; omega) y.mode
    have htp : turnParts (rsW wd p t.who) c o (pickQ (outN (rsW wd p) (p.1.quick, p.2.quick) c o ts i).1 (1 - t.who)) t.a.toNat (J + 1) = (afterWrite (rsW wd p t.who) (clearK (rsW wd p t.who) (turnParts (rsW wd p t.who) c o (pickQ (outN (rsW wd p) (p.1.quick, p.2.quick) c o ts i).1 (1 - t.who)) t.a.toNat J) kk.toNat) y.len y.mode).1 := by
      rw [turnParts, hy, hk]
    rw [← htp] at hsw
    obtain ⟨f1, f2⟩ := sim_finish hsw hw hwr.1 hwr.2
    have hbn : t.b.toNat = t.a.toNat + J + 1 := by omega
    have hJn : (t.b - t.a).toNat = J + 1 := by omega
    have hmid : psMid wd p y kk (psBegin c (t.a.toNat + J) y (playN wd p c o (t.a.toNat + J))).side = sWrite (sClearK (psBegin c (t.a.toNat + J) y (playN wd p c o (t.a.toNat + J))).side (rsW wd p t.who).size (rsW wd p t.who).hold (polOf p (1 - t.who)) kk.toNat) (rsW wd p t.who).size (rsW wd p t.who).hold y.len y.mode := by
      unfold psMid; rw [hyw]; rfl
    rw [← hmid] at f1 f2
    have hn : playN wd p c o t.b.toNat = psEnd wd p c (t.a.toNat + J) y (psBegin c (t.a.toNat + J) y (playN wd p c o (t.a.toNat + J))) (psMid wd p y kk (psBegin c (t.a.toNat + J) y (playN wd p c o (t.a.toNat + J))).side) := by
      rw [hbn, playN, hy, hk]; rfl
    rw [hn]
    generalize psMid wd p y kk (psBegin c (t.a.toNat + J) y (playN wd p c o (t.a.toNat + J))).side = M at f1 f2
    generalize psBegin c (t.a.toNat + J) y (playN wd p c o (t.a.toNat + J)) = Z at b1 b2
    unfold psEnd
    rw [if_pos hl, hyw, outN, ht]
    dsimp only
    rw [hJn]
    generalize afterTurn (rsW wd p t.who) (turnParts (rsW wd p t.who) c o (pickQ (outN (rsW wd p) (p.1.quick, p.2.quick) c o ts i).1 (1 - t.who)) t.a.toNat (J + 1)) = AT at f1 f2
    have f1 : (sFinish M wd (polOf p t.who).hold (polOf p (1 - t.who))).1 = true ↔ 0 < AT.1 := f1
    have f2 : AT.2.1 = if (sFinish M wd (polOf p t.who).hold (polOf p (1 - t.who))).2.arrived ≤ (polOf p (1 - t.who)).quick then (polOf p (1 - t.who)).quick - (sFinish M wd (polOf p t.who).hold (polOf p (1 - t.who))).2.arrived else 0 := f2
    refine ⟨?_, fun e he => ?_⟩
    · by_cases hst : 0 < AT.1
      · rw [if_pos (f1.mpr hst), if_pos hst, List.length_append, List.length_append, b1, ih1]; rfl
      · rw [if_neg (fun z => hst (f1.mp z)), if_neg hst, b1, ih1]
    · by_cases hee : 1 - t.who = e
      · subst hee
        rw [m0_pick_same 0 0, m0_pick_same 0 0, f2]; rfl
      · rw [m0_pick_other hee hoth he, m0_pick_other hee hoth he, b2, ih2 e he]
end LW

set_option Elab.async false
set_option linter.all false
set_option maxRecDepth 100000
set_option maxHeartbeats 2000000
/-! a data layer: slots as plain values, a heap of data within the heap -/
namespace LW
open PySem L2 Evl

/-- a policy, a setting: what their instances hold -/
def Hold.str : Hold → Str
  | .all => "all"
  | .part => "partial"
  | .off => "off"
def Mode.str : Mode → Str
  | .plain => "plain"
  | .push => "push"
  | .more => "more"
structure SetD where
  size : Int
  p0 : PolD
  p1 : PolD
/-- the classes' addresses -/
structure Cl (P : Program) (w : World) where
  pol : Addr
  set : Addr
  out : Addr
  modes : Addr
  holds : Addr
inductive AV where
  | d (x : PyData)
  | raw (v : V)
  | pol (p : PolD)
  | set (s : SetD)
  /-- an Outcome with so many stalls -/
  | out (n : Int)
  /-- policies: a tuple or a list of them -/
  | pv (b : Bool) (ps : List PolD)
  /-- a list that only this slot knows, to be changed -/
  | ml (m : Addr) (ds : List PyData)
  /-- a dict with text keys, to be changed -/
  | dk (m : Addr) (kvs : List (Str × PyData))
  /-- a dict whose keys are tuples, to be changed; locked where o is there -/
  | dt (m : Addr) (o : Option Obj) (des : List DE) (es : List (PyData × PyData))
  | unk
/-- the address that it owns -/
def AV.cell : AV → Option Addr
  | .ml m _ => some m
  | .dk m _ => some m
  | .dt m _ _ _ => some m
  | _ => none

section
variable {P : Program} {w : World}
def PolAt (C : Cl P w) (H : Hp) (v : V) (p : PolD) : Prop := ∃ a dx fs, v = .ref a ∧ H a = some (.ins C.pol dx fs) ∧ fs.lookup ("hold" : Str) = some (.str p.hold.str) ∧ fs.lookup ("every" : Str) = some (.int p.every) ∧ fs.lookup ("quick" : Str) = some (.int p.quick)
def SetAt (K : PySem.W.Frag) (C : Cl P w) (H : Hp) (v : V) (s : SetD) : Prop := ∃ a dx fs t v0 v1, v = .ref a ∧ H a = some (.ins C.set dx fs) ∧ fs.lookup ("size" : Str) = some (.int s.size) ∧ fs.lookup ("policies" : Str) = some (.ref t) ∧ SqT K H t [v0, v1] ∧ PolAt C H v0 s.p0 ∧ PolAt C H v1 s.p1
def OutAt (C : Cl P w) (H : Hp) (v : V) (n : Int) : Prop := ∃ a dx fs, v = .ref a ∧ H a = some (.ins C.out dx fs) ∧ fs.lookup ("stalls" : Str) = some (.int n)
def PvAt (K : PySem.W.Frag) (C : Cl P w) (H : Hp) (v : V) (b : Bool) (ps : List PolD) : Prop := ∃ t vs, v = .ref t ∧ (bif b then SqT K H t vs else SqL K H t vs) ∧ Paired (PolAt C H) vs ps
/-- a dict's pairs told by data -/
abbrev DpK (K : PySem.W.Frag) (H : Hp) : List (Key × V) → List (Str × PyData) → Prop := Paired fun e q => e.1 = .inr q.1 ∧ Dp K H e.2 q.2
abbrev DpT (K : PySem.W.Frag) (H : Hp) : List DE → List (PyData × PyData) → Prop := Paired fun e q => SqT K H e.b e.ks ∧ e.ks.all leafy = true ∧ (∃ ks, q.1 = .tuple ks ∧ DpAll K H e.ks ks) ∧ Dp K H e.v q.2
def lockO : Option Obj → HO → HO
  | none, u => u
  | some o, u => .frz o u
/-- the value v is told by a -/
def VR (K : PySem.W.Frag) (C : Cl P w) (Hd H : Hp) (v : V) : AV → Prop
  | .d x => Dp K Hd v x
  | .raw u => v = u
  | .pol p => PolAt C Hd v p
  | .set s => SetAt K C Hd v s
  | .out n => OutAt C Hd v n
  | .pv b ps => PvAt K C Hd v b ps
  | .ml m ds => v = .ref m ∧ Hd m = none ∧ ∃ vs, H m = some (.lst vs) ∧ DpAll K Hd vs ds
  | .dk m kvs => v = .ref m ∧ Hd m = none ∧ ∃ kv, H m = some (.dK kv) ∧ DpK K Hd kv kvs
  | .dt m o des es => v = .ref m ∧ Hd m = none ∧ H m = some (lockO o (DHO P w m des)) ∧ DpT K Hd des es
  | .unk => True
/-- .. of a slot -/
def VO (K : PySem.W.Frag) (C : Cl P w) (Hd H : Hp) : Option V → AV → Prop
  | some v, a => VR K C Hd H v a
  | none, .unk => True
  | none, _ => False
end

section
variable {P : Program} {w : World} {K : PySem.W.Frag} {C : Cl P w} {Hd Hd' Hd1 Hd2 Hd3 Hd0 H0 H H' H1 H2 H3 : Hp}
mutual
theorem dp_ex (e : Ex H H') : ∀ (d : PyData) (v : V), Dp K H v d → Dp K H' v d
  | .none, _, h => by cases h; exact .non
  | .bool b, _, h => by cases h; exact .bl b
  | .int i, _, h => by cases h; exact .int i
  | .str x, _, h => by cases h; exact .str x
  | .list ds, _, h => by
    cases h with
    | lst hs ha => exact .lst (ex_l e hs) (dps_ex e ds _ ha)
  | .tuple ds, _, h => by
    cases h with
    | tup hs ha => exact .tup (ex_t e hs) (dps_ex e ds _ ha)
  | .dict _, _, h => by cases h
theorem dps_ex (e : Ex H H') : ∀ (ds : List PyData) (vs : List V), DpAll K H vs ds → DpAll K H' vs ds
  | [], _, h => by cases h; exact .nil
  | d :: ds, _, h => by
    cases h with
    | cons h1 h2 => exact .cons (dp_ex e d _ h1) (dps_ex e ds _ h2)
end
theorem PolAt.ex (e : Ex H H') {v : V} {p : PolD} (h : PolAt C H v p) : PolAt C H' v p := by
  obtain ⟨a, dx, fs, h1, h2, h3⟩ := h
  exact ⟨a, dx, fs, h1, e _ _ h2, h3⟩
theorem SetAt.ex (e : Ex H H') {v : V} {s : SetD} (h : SetAt K C H v s) : SetAt K C H' v s := by
  obtain ⟨a, dx, fs, t, v0, v1, h1, h2, h3, h4, h5, h6, h7⟩ := h
  exact ⟨a, dx, fs, t, v0, v1, h1, e _ _ h2, h3, h4, ex_t e h5, h6.ex e, h7.ex e⟩
theorem DpK.ex (e : Ex H H') {l : List (Key × V)} {m : List (Str × PyData)} (h : DpK K H l m) : DpK K H' l m := Paired.mapP h fun _ _ r => ⟨r.1, dp_ex e _ _ r.2⟩
theorem DpT.ex (e : Ex H H') {l : List DE} {m : List (PyData × PyData)} (h : DpT K H l m) : DpT K H' l m := Paired.mapP h fun _ _ r => ⟨ex_t e r.1, r.2.1, let ⟨ks, h1, h2⟩ := r.2.2.1; ⟨ks, h1, dps_ex e _ _ h2⟩, dp_ex e _ _ r.2.2.2⟩
theorem OutAt.ex (e : Ex H H') {v : V} {n : Int} (h : OutAt C H v n) : OutAt C H' v n := by
  obtain ⟨a, dx, fs, h1, h2, h3⟩ := h
  exact ⟨a, dx, fs, h1, e _ _ h2, h3⟩
theorem PvAt.ex (e : Ex H H') {v : V} {b : Bool} {ps : List PolD} (h : PvAt K C H v b ps) : PvAt K C H' v b ps := by
  obtain ⟨t, vs, h1, h2, h3⟩ := h
  refine ⟨t, vs, h1, ?_, Paired.mapP h3 fun _ _ r => PolAt.ex e r⟩
  cases b with
  | true => exact ex_t e h2
  | false => exact ex_l e h2
/-- data made on: Hd within H grows to Hd' within H', what H had beyond Hd stays beyond it -/
structure Xt (Hd H Hd' H' : Hp) : Prop where
  d : Ex Hd Hd'
  h : Ex H H'
  dh : Ex Hd' H'
  nw : ∀ a o, H a = some o → Hd' a = Hd a
/-- .. what stands at m (beyond Hd) may have changed -/
structure Xm (m : Addr) (Hd H Hd' H' : Hp) : Prop where
  d : Ex Hd Hd'
  h : ∀ b o, b ≠ m → H b = some o → H' b = some o
  dh : Ex Hd' H'
  nw : ∀ a o, H a = some o → Hd' a = Hd a
theorem Xt.m (x : Xt Hd H Hd' H') (m : Addr) : Xm m Hd H Hd' H' := ⟨x.d, fun b o _ e => x.h b o e, x.dh, x.nw⟩
theorem VR.xm {m : Addr} (x : Xm m Hd H Hd' H') {v : V} : ∀ {a : AV}, a.cell ≠ some m → VR K C Hd H v a → VR K C Hd' H' v a
  | .d y, _, h => dp_ex x.d y v h
  | .raw _, _, h => h
  | .pol _, _, h => PolAt.ex x.d h
  | .set _, _, h => SetAt.ex x.d h
  | .out _, _, h => OutAt.ex x.d h
  | .pv _ _, _, h => PvAt.ex x.d h
  | .ml m' ds, hn, ⟨h1, h2, vs, h3, h4⟩ => ⟨h1, (x.nw _ _ h3).trans h2, vs, x.h _ _ (fun z => hn (by rw [z]; rfl)) h3, dps_ex x.d _ _ h4⟩
  | .dk m' kvs, hn, ⟨h1, h2, vs, h3, h4⟩ => ⟨h1, (x.nw _ _ h3).trans h2, vs, x.h _ _ (fun z => hn (by rw [z]; rfl)) h3, h4.ex x.d⟩
  | .dt m' o des es, hn, ⟨h1, h2, h3, h4⟩ => ⟨h1, (x.nw _ _ h3).trans h2, x.h _ _ (fun z => hn (by rw [z]; rfl)) h3, h4.ex x.d⟩
  | .unk, _, _ => trivial
theorem VR.xt (x : Xt Hd H Hd' H') {v : V} : ∀ {a : AV}, VR K C Hd H v a → VR K C Hd' H' v a
  | .d y, h => dp_ex x.d y v h
  | .raw _, h => h
  | .pol _, h => PolAt.ex x.d h
  | .set _, h => SetAt.ex x.d h
  | .out _, h => OutAt.ex x.d h
  | .pv _ _, h => PvAt.ex x.d h
  | .ml m' ds, ⟨h1, h2, vs, h3, h4⟩ => ⟨h1, (x.nw _ _ h3).trans h2, vs, x.h _ _ h3, dps_ex x.d _ _ h4⟩
  | .dk m' kvs, ⟨h1, h2, vs, h3, h4⟩ => ⟨h1, (x.nw _ _ h3).trans h2, vs, x.h _ _ h3, h4.ex x.d⟩
  | .dt m' o des es, ⟨h1, h2, h3, h4⟩ => ⟨h1, (x.nw _ _ h3).trans h2, x.h _ _ h3, h4.ex x.d⟩
  | .unk, _ => trivial
theorem VO.xt (x : Xt Hd H Hd' H') : ∀ {o : Option V} {a : AV}, VO K C Hd H o a → VO K C Hd' H' o a
  | some _, _, h => VR.xt x h
  | none, .unk, _ => trivial
  | none, .d _, h => h.elim
  | none, .raw _, h => h.elim
  | none, .pol _, h => h.elim
  | none, .set _, h => h.elim
  | none, .out _, h => h.elim
  | none, .pv _ _, h => h.elim
  | none, .ml _ _, h => h.elim
  | none, .dk _ _, h => h.elim
  | none, .dt _ _ _ _, h => h.elim
theorem VO.xm {m : Addr} (x : Xm m Hd H Hd' H') : ∀ {o : Option V} {a : AV}, a.cell ≠ some m → VO K C Hd H o a → VO K C Hd' H' o a
  | some _, _, hn, h => VR.xm x hn h
  | none, .unk, _, _ => trivial
  | none, .d _, _, h => h.elim
  | none, .raw _, _, h => h.elim
  | none, .pol _, _, h => h.elim
  | none, .set _, _, h => h.elim
  | none, .out _, _, h => h.elim
  | none, .pv _ _, _, h => h.elim
  | none, .ml _ _, _, h => h.elim
  | none, .dk _ _, _, h => h.elim
  | none, .dt _ _ _ _, _, h => h.elim

/-- the slots: how many, and what is told of each -/
structure En where
  n : Nat
  f : Nat → Option AV
def En.g (ρ : En) (i : Nat) : AV := (ρ.f i).getD .unk
def En.set (ρ : En) (i : Nat) (a : AV) : En := ⟨ρ.n, fun k => bif Nat.beq k i then some a else ρ.f k⟩
theorem En.set_self {ρ : En} {i : Nat} {a : AV} (h : ρ.f i = some a) : ρ.set i a = ρ := by
  unfold En.set
  have e : (fun k => bif Nat.beq k i then some a else ρ.f k) = ρ.f := by
    funext k
    by_cases q : k = i
    · subst q; rw [Nat.beq_refl]; exact h.symm
    · have z : Nat.beq k i = false := by
        cases hb : Nat.beq k i with
        | false => rfl
        | true => exact absurd (Nat.eq_of_beq_eq_true hb) q
      rw [z]; rfl
  rw [e]
structure EnvR (K : PySem.W.Frag) (C : Cl P w) (Hd H : Hp) (σ : L2.St) (ρ : En) : Prop where
  len : σ.length = ρ.n
  at_ : ∀ i o, σ[i]? = some o → VO K C Hd H o (ρ.g i)
theorem EnvR.xt (x : Xt Hd H Hd' H') {σ : L2.St} {ρ : En} (h : EnvR K C Hd H σ ρ) : EnvR K C Hd' H' σ ρ := ⟨h.len, fun i o q => (h.at_ i o q).xt x⟩
theorem beq_ne {k i : Nat} (q : k ≠ i) : Nat.beq k i = false := by
  cases hb : Nat.beq k i with
  | false => rfl
  | true => exact absurd (Nat.eq_of_beq_eq_true hb) q
theorem EnvR.put {σ : L2.St} {ρ : En} {o : Option V} {a : AV} (r : VO K C Hd H o a) (i : Nat) (h : EnvR K C Hd H σ ρ) : EnvR K C Hd H (σ.set i o) (ρ.set i a) := by
  refine ⟨by rw [List.length_set]; exact h.len, fun j o' q => ?_⟩
  by_cases e : j = i
  · subst e
    have hl : j < σ.length := by
      have := (List.getElem?_eq_some_iff.mp q).1
      rwa [List.length_set] at this
    rw [List.getElem?_set_self hl] at q
    cases q
    show VO K C Hd H o ((bif Nat.beq j j then some a else ρ.f j).getD .unk)
    rw [Nat.beq_refl]
    exact r
  · rw [List.getElem?_set_ne (Ne.symm e)] at q
    show VO K C Hd H o' ((bif Nat.beq j i then some a else ρ.f j).getD .unk)
    rw [beq_ne e]
    exact h.at_ j o' q
theorem EnvR.set {σ : L2.St} {ρ : En} {v : V} {a : AV} (r : VR K C Hd H v a) (i : Nat) (h : EnvR K C Hd H σ ρ) : EnvR K C Hd H (σ.set i (some v)) (ρ.set i a) := h.put (o := some v) r i
theorem VO.unk {o : Option V} : VO K C Hd H o .unk := by cases o <;> trivial
theorem EnvR.forget {σ : L2.St} {ρ : En} (i : Nat) (h : EnvR K C Hd H σ ρ) : EnvR K C Hd H σ (ρ.set i .unk) := by
  refine ⟨h.len, fun j o' q => ?_⟩
  show VO K C Hd H o' ((bif Nat.beq j i then some .unk else ρ.f j).getD .unk)
  by_cases e : j = i
  · subst e; rw [Nat.beq_refl]; exact VO.unk
  · rw [beq_ne e]; exact h.at_ j o' q
def AV.known : AV → Bool
  | .unk => false
  | _ => true
theorem VO.val {a : AV} (hk : a.known = true) : ∀ {o : Option V}, VO K C Hd H o a → ∃ v, o = some v ∧ VR K C Hd H v a
  | some v, h => ⟨v, rfl, h⟩
  | none, h => by cases a <;> first | exact h.elim | cases hk
theorem EnvR.val {σ : L2.St} {ρ : En} {i : Nat} {a : AV} (h : EnvR K C Hd H σ ρ) (hi : Nat.blt i ρ.n = true) (e : ρ.f i = some a) (hk : a.known = true) : ∃ v, σ[i]? = some (some v) ∧ VR K C Hd H v a := by
  have hl : i < σ.length := by rw [h.len]; exact Nat.le_of_ble_eq_true hi
  have h2 := h.at_ i σ[i] (List.getElem?_eq_getElem hl)
  have eg : ρ.g i = a := by unfold En.g; rw [e]; rfl
  rw [eg] at h2
  obtain ⟨v, h1, h3⟩ := h2.val hk
  exact ⟨v, by rw [List.getElem?_eq_getElem hl, h1], h3⟩
def wipeA (ρ : En) : List Nat → En
  | [] => ρ
  | v :: vs => (wipeA ρ vs).set v .unk
theorem EnvR.wipe {σ : L2.St} {ρ : En} (h : EnvR K C Hd H σ ρ) : ∀ (vs : List Nat), EnvR K C Hd H (L2.wipe σ vs) (wipeA ρ vs)
  | [] => h
  | v :: vs => (EnvR.wipe h vs).put (o := none) (a := .unk) trivial v

theorem Xt.refl (e : Ex Hd H) : Xt Hd H Hd H := ⟨Ex.refl _, Ex.refl _, e, fun _ _ _ => rfl⟩
theorem Xt.trans (x : Xt Hd H Hd1 H1) (y : Xt Hd1 H1 Hd2 H2) : Xt Hd H Hd2 H2 :=
  ⟨x.d.trans y.d, x.h.trans y.h, y.dh, fun a o e => (y.nw a o (x.h a o e)).trans (x.nw a o e)⟩
theorem free_of (e : Ex Hd H) {p : Addr} (h : H p = none) : Hd p = none := fresh_back e h
theorem Xt.new (e : Ex Hd H) {p : Addr} {o : HO} (h : H p = none) : Xt Hd H (upd Hd p o) (upd H p o) := by
  refine ⟨Ex.new (free_of e h), Ex.new h, fun a u ha => ?_, fun a u ha => upd_ne (ne_of_none ha h)⟩
  by_cases q : a = p
  · subst q; rw [upd_same] at ha ⊢; exact ha
  · rw [upd_ne q] at ha ⊢; exact e a u ha
/-- a thing that H has beyond Hd becomes data -/
theorem ex_freeze (e : Ex Hd H) {p : Addr} {o : HO} (h : H p = some o) (hd : Hd p = none) : Ex (upd Hd p o) H ∧ Ex Hd (upd Hd p o) := by
  refine ⟨fun a u ha => ?_, Ex.new hd⟩
  by_cases q : a = p
  · subst q; rw [upd_same] at ha; cases ha; exact h
  · rw [upd_ne q] at ha; exact e a u ha
/-- what is beyond Hd may change -/
theorem ex_mut (e : Ex Hd H) {p : Addr} {o : HO} (h : Hd p = none) : Ex Hd (upd H p o) := Ex.mut e h

/-! ### evaluation -/
def Ev (K : PySem.W.Frag) (C : Cl P w) (t : TE) (ρ : En) (a : AV) : Prop := ∀ (Hd H : Hp) (σ : L2.St), Ex Hd H → EnvR K C Hd H σ ρ → ∀ Q : VK, (∀ v Hd' H', Xt Hd H Hd' H' → VR K C Hd' H' v a → Q v H') → t σ H Q
abbrev VRs (K : PySem.W.Frag) (C : Cl P w) (Hd H : Hp) : List V → List AV → Prop := Paired (VR K C Hd H)
theorem VRs.xt (x : Xt Hd H Hd' H') {vs : List V} {as : List AV} (h : VRs K C Hd H vs as) : VRs K C Hd' H' vs as := Paired.mapP h fun _ _ r => r.xt x
def EvL (K : PySem.W.Frag) (C : Cl P w) (t : TA) (ρ : En) (as : List AV) : Prop := ∀ (Hd H : Hp) (σ : L2.St), Ex Hd H → EnvR K C Hd H σ ρ → ∀ Q : List V → Hp → Prop, (∀ vs Hd' H', Xt Hd H Hd' H' → VRs K C Hd' H' vs as → Q vs H') → t σ H Q
def EvT (K : PySem.W.Frag) (C : Cl P w) (t : TT) (ρ : En) (b : Bool) : Prop := ∀ (Hd H : Hp) (σ : L2.St), Ex Hd H → EnvR K C Hd H σ ρ → ∀ Q : Bool → Hp → Prop, (∀ Hd' H', Xt Hd H Hd' H' → Q b H') → t σ H Q
/-- a list of data -/
def EvD (K : PySem.W.Frag) (C : Cl P w) (t : TA) (ρ : En) (ds : List PyData) : Prop := ∀ (Hd H : Hp) (σ : L2.St), Ex Hd H → EnvR K C Hd H σ ρ → ∀ Q : List V → Hp → Prop, (∀ vs Hd' H', Xt Hd H Hd' H' → DpAll K Hd' vs ds → Q vs H') → t σ H Q

theorem dpall_len : ∀ {vs : List V} {ds : List PyData}, DpAll K H vs ds → vs.length = ds.length
  | _, _, .nil => rfl
  | _, _, .cons _ t => by rw [List.length_cons, List.length_cons, dpall_len t]
theorem dpall_get : ∀ {vs : List V} {ds : List PyData} {i : Nat} {d : PyData}, DpAll K H vs ds → ds[i]? = some d → ∃ v, vs[i]? = some v ∧ Dp K H v d
  | _, _, _, _, .nil, e => by simp at e
  | _, _, 0, _, .cons h _, e => by simp at e; subst e; exact ⟨_, rfl, h⟩
  | _, _, i + 1, _, .cons _ t, e => by
    obtain ⟨v, h1, h2⟩ := dpall_get (i := i) t (by simpa using e)
    exact ⟨v, by simpa using h1, h2⟩
theorem dpall_app : ∀ {vs ws : List V} {ds es : List PyData}, DpAll K H vs ds → DpAll K H ws es → DpAll K H (vs ++ ws) (ds ++ es)
  | _, _, _, _, .nil, h => h
  | _, _, _, _, .cons a t, h => .cons a (dpall_app t h)
theorem dpall_take : ∀ {vs : List V} {ds : List PyData} (n : Nat), DpAll K H vs ds → DpAll K H (vs.take n) (ds.take n)
  | _, _, 0, _ => .nil
  | _, _, _ + 1, .nil => .nil
  | _, _, n + 1, .cons a t => .cons a (dpall_take n t)
theorem dpall_drop : ∀ {vs : List V} {ds : List PyData} (n : Nat), DpAll K H vs ds → DpAll K H (vs.drop n) (ds.drop n)
  | _, _, 0, h => h
  | _, _, _ + 1, .nil => .nil
  | _, _, n + 1, .cons _ t => dpall_drop n t
theorem dpall_set : ∀ {vs : List V} {ds : List PyData} {v : V} {d : PyData} (n : Nat), DpAll K H vs ds → Dp K H v d → DpAll K H (vs.set n v) (ds.set n d)
  | _, _, _, _, _, .nil, _ => .nil
  | _, _, _, _, 0, .cons _ t, h => .cons h t
  | _, _, _, _, n + 1, .cons a t, h => .cons a (dpall_set n t h)
theorem dp_tup_inv {v : V} {ds : List PyData} (h : Dp K H v (.tuple ds)) : ∃ a vs, v = .ref a ∧ SqT K H a vs ∧ DpAll K H vs ds := by
  cases h with
  | tup h1 h2 => exact ⟨_, _, rfl, h1, h2⟩
theorem dp_lst_inv {v : V} {ds : List PyData} (h : Dp K H v (.list ds)) : ∃ a vs, v = .ref a ∧ SqL K H a vs ∧ DpAll K H vs ds := by
  cases h with
  | lst h1 h2 => exact ⟨_, _, rfl, h1, h2⟩
theorem dp_int_inv {v : V} {i : Int} (h : Dp K H v (.int i)) : v = .int i := by cases h; rfl
theorem dp_bl_inv {v : V} {b : Bool} (h : Dp K H v (.bool b)) : v = .bl b := by cases h; rfl
theorem dp_str_inv {v : V} {b : Str} (h : Dp K H v (.str b)) : v = .str b := by cases h; rfl
theorem dp_non_inv {v : V} (h : Dp K H v .none) : v = .non := by cases h; rfl

variable {ρ : En} {ta tb tc te : TE} {a b : AV} {ds es : List PyData}
theorem ev_var {i : Nat} (hi : Nat.blt i ρ.n = true) (e : ρ.f i = some a) (hk : a.known = true) : Ev K C (tVar i) ρ a := fun Hd H σ x r Q q => by
  obtain ⟨v, h1, h2⟩ := r.val hi e hk
  exact ⟨v, h1, q v Hd H (Xt.refl x) h2⟩
theorem ev_int {i : Int} : Ev K C (tC (.int i)) ρ (.d (.int i)) := fun Hd H σ x r Q q => q _ Hd H (Xt.refl x) (Dp.int i)
theorem ev_bl {i : Bool} : Ev K C (tC (.bl i)) ρ (.d (.bool i)) := fun Hd H σ x r Q q => q _ Hd H (Xt.refl x) (Dp.bl i)
theorem ev_str {i : Str} : Ev K C (tC (.str i)) ρ (.d (.str i)) := fun Hd H σ x r Q q => q _ Hd H (Xt.refl x) (Dp.str i)
theorem ev_non : Ev K C (tC .non) ρ (.d .none) := fun Hd H σ x r Q q => q _ Hd H (Xt.refl x) Dp.non
theorem ev_raw {v : V} : Ev K C (tC v) ρ (.raw v) := fun Hd H σ x r Q q => q _ Hd H (Xt.refl x) rfl
theorem ev_is (h : Ev K C te ρ a) (e : a = b) : Ev K C te ρ b := e ▸ h
/-- two values -/
theorem ev2 {r : R2} {z : AV} (ha : Ev K C ta ρ a) (hb : Ev K C tb ρ b) (hr : ∀ Hd H x y, Ex Hd H → VR K C Hd H x a → VR K C Hd H y b → ∀ Q : VK, (∀ v Hd' H', Xt Hd H Hd' H' → VR K C Hd' H' v z → Q v H') → r x y H Q) : Ev K C (tOp r ta tb) ρ z :=
  fun Hd H σ x r Q q => ha Hd H σ x r _ fun v Hd1 H1 x1 h1 => hb Hd1 H1 σ x1.dh (r.xt x1) _ fun u Hd2 H2 x2 h2 => hr Hd2 H2 v u x2.dh (h1.xt x2) h2 Q fun w Hd3 H3 x3 h3 => q w Hd3 H3 ((x1.trans x2).trans x3) h3
theorem ev_I0 {g : Int → Int → Int} {i j : Int} (ha : Ev K C ta ρ (.d (.int i))) (hb : Ev K C tb ρ (.d (.int j))) : Ev K C (tOp (rI0 fun i j => .int (g i j)) ta tb) ρ (.d (.int (g i j))) :=
  ev2 ha hb fun Hd H x y e hx hy Q q => ⟨i, j, dp_int_inv hx, dp_int_inv hy, q _ Hd H (Xt.refl e) (Dp.int _)⟩
theorem ev_I {c : Int → Int → Prop} {g : Int → Int → Int} {i j : Int} (ha : Ev K C ta ρ (.d (.int i))) (hb : Ev K C tb ρ (.d (.int j))) (hc : c i j) : Ev K C (tOp (rI c fun i j => .int (g i j)) ta tb) ρ (.d (.int (g i j))) :=
  ev2 ha hb fun Hd H x y e hx hy Q q => ⟨i, j, dp_int_inv hx, dp_int_inv hy, hc, q _ Hd H (Xt.refl e) (Dp.int _)⟩
theorem ev_B0 {g : Int → Int → Bool} {i j : Int} (ha : Ev K C ta ρ (.d (.int i))) (hb : Ev K C tb ρ (.d (.int j))) : Ev K C (tOp (rI0 fun i j => .bl (g i j)) ta tb) ρ (.d (.bool (g i j))) :=
  ev2 ha hb fun Hd H x y e hx hy Q q => ⟨i, j, dp_int_inv hx, dp_int_inv hy, q _ Hd H (Xt.refl e) (Dp.bl _)⟩
theorem ev_U {g : Int → Int} {i : Int} (ha : Ev K C ta ρ (.d (.int i))) : Ev K C (tUn (rU fun i => .int (g i)) ta) ρ (.d (.int (g i))) :=
  fun Hd H σ x r Q q => ha Hd H σ x r _ fun v Hd1 H1 x1 h1 => ⟨i, dp_int_inv h1, q _ Hd1 H1 x1 (Dp.int _)⟩
theorem ev_eqI {i j : Int} (ha : Ev K C ta ρ (.d (.int i))) (hb : Ev K C tb ρ (.d (.int j))) : Ev K C (tOp rEq ta tb) ρ (.d (.bool (decide (i = j)))) :=
  ev2 ha hb fun Hd H x y e hx hy Q q => by
    cases dp_int_inv hx; cases dp_int_inv hy
    exact ⟨rfl, q _ Hd H (Xt.refl e) (by
      have e : decide (V.int i = V.int j) = decide (i = j) := by rw [dec_int]; by_cases h : i = j <;> simp [h]
      rw [e]; exact Dp.bl _)⟩
theorem ev_neI {i j : Int} (ha : Ev K C ta ρ (.d (.int i))) (hb : Ev K C tb ρ (.d (.int j))) : Ev K C (tOp rNe ta tb) ρ (.d (.bool (!decide (i = j)))) :=
  ev2 ha hb fun Hd H x y e hx hy Q q => by
    cases dp_int_inv hx; cases dp_int_inv hy
    exact ⟨rfl, q _ Hd H (Xt.refl e) (by
      have e : decide (V.int i = V.int j) = decide (i = j) := by rw [dec_int]; by_cases h : i = j <;> simp [h]
      rw [e]; exact Dp.bl _)⟩
theorem ev_eqS {i j : Str} (ha : Ev K C ta ρ (.d (.str i))) (hb : Ev K C tb ρ (.d (.str j))) : Ev K C (tOp rEq ta tb) ρ (.d (.bool (decide (i = j)))) :=
  ev2 ha hb fun Hd H x y e hx hy Q q => by
    cases dp_str_inv hx; cases dp_str_inv hy
    exact ⟨rfl, q _ Hd H (Xt.refl e) (by
      have e : decide (V.str i = V.str j) = decide (i = j) := by by_cases h : i = j <;> simp [h]
      rw [e]; exact Dp.bl _)⟩
theorem ev_neS {i j : Str} (ha : Ev K C ta ρ (.d (.str i))) (hb : Ev K C tb ρ (.d (.str j))) : Ev K C (tOp rNe ta tb) ρ (.d (.bool (!decide (i = j)))) :=
  ev2 ha hb fun Hd H x y e hx hy Q q => by
    cases dp_str_inv hx; cases dp_str_inv hy
    exact ⟨rfl, q _ Hd H (Xt.refl e) (by
      have e : decide (V.str i = V.str j) = decide (i = j) := by by_cases h : i = j <;> simp [h]
      rw [e]; exact Dp.bl _)⟩
theorem ev_eqD {d e : PyData} (ha : Ev K C ta ρ (.d d)) (hb : Ev K C tb ρ (.d e)) (h1 : SeqAt.shaped d = true) (h2 : SeqAt.shaped e = true) : Ev K C (tOp (rEqD K) ta tb) ρ (.d (.bool (PyData.eqv d e))) :=
  ev2 ha hb fun Hd H x y ex hx hy Q q => ⟨d, e, dp_ex ex _ _ hx, dp_ex ex _ _ hy, h1, h2, q _ Hd H (Xt.refl ex) (Dp.bl _)⟩
theorem ev_neD {d e : PyData} (ha : Ev K C ta ρ (.d d)) (hb : Ev K C tb ρ (.d e)) (h1 : SeqAt.shaped d = true) (h2 : SeqAt.shaped e = true) : Ev K C (tOp (rNeD K) ta tb) ρ (.d (.bool (!PyData.eqv d e))) :=
  ev2 ha hb fun Hd H x y ex hx hy Q q => ⟨d, e, dp_ex ex _ _ hx, dp_ex ex _ _ hy, h1, h2, q _ Hd H (Xt.refl ex) (Dp.bl _)⟩
theorem ev_ixT {i : Int} {d : PyData} (ha : Ev K C ta ρ (.d (.tuple ds))) (hb : Ev K C tb ρ (.d (.int i))) (h : atI ds i = some d) : Ev K C (tOp (rIxT K) ta tb) ρ (.d d) :=
  ev2 ha hb fun Hd H x y ex hx hy Q q => by
    obtain ⟨p, vs, rfl, h1, h2⟩ := dp_tup_inv hx
    obtain ⟨j, hj, hd⟩ : ∃ j, ixN ds.length i = some j ∧ ds[j]? = some d := by
      unfold atI at h
      cases q' : ixN ds.length i with
      | none => rw [q'] at h; cases h
      | some j => rw [q'] at h; exact ⟨j, rfl, h⟩
    obtain ⟨v, hv, hr⟩ := dpall_get h2 hd
    exact ⟨p, vs, i, v, rfl, dp_int_inv hy, ex_t ex h1, by unfold atI; rw [dpall_len h2, hj]; exact hv, q v Hd H (Xt.refl ex) hr⟩
theorem ev_ixL {i : Int} {d : PyData} (ha : Ev K C ta ρ (.d (.list ds))) (hb : Ev K C tb ρ (.d (.int i))) (h : atI ds i = some d) : Ev K C (tOp (rIxL K) ta tb) ρ (.d d) :=
  ev2 ha hb fun Hd H x y ex hx hy Q q => by
    obtain ⟨p, vs, rfl, h1, h2⟩ := dp_lst_inv hx
    obtain ⟨j, hj, hd⟩ : ∃ j, ixN ds.length i = some j ∧ ds[j]? = some d := by
      unfold atI at h
      cases q' : ixN ds.length i with
      | none => rw [q'] at h; cases h
      | some j => rw [q'] at h; exact ⟨j, rfl, h⟩
    obtain ⟨v, hv, hr⟩ := dpall_get h2 hd
    exact ⟨p, vs, i, v, rfl, dp_int_inv hy, ex_l ex h1, by unfold atI; rw [dpall_len h2, hj]; exact hv, q v Hd H (Xt.refl ex) hr⟩
theorem evd_nil : EvD K C tNil ρ [] := fun Hd H σ x r Q q => q _ Hd H (Xt.refl x) .nil
theorem evd_cons {d : PyData} {tr : TA} (ha : Ev K C ta ρ (.d d)) (hr : EvD K C tr ρ ds) : EvD K C (tCons ta tr) ρ (d :: ds) := fun Hd H σ x r Q q =>
  ha Hd H σ x r _ fun v Hd1 H1 x1 h1 => hr Hd1 H1 σ x1.dh (r.xt x1) _ fun vs Hd2 H2 x2 h2 => q _ Hd2 H2 (x1.trans x2) (.cons (dp_ex x2.d _ _ h1) h2)
theorem evl_nil : EvL K C tNil ρ [] := fun Hd H σ x r Q q => q _ Hd H (Xt.refl x) .nil
theorem evl_cons {as : List AV} {tr : TA} (ha : Ev K C ta ρ a) (hr : EvL K C tr ρ as) : EvL K C (tCons ta tr) ρ (a :: as) := fun Hd H σ x r Q q =>
  ha Hd H σ x r _ fun v Hd1 H1 x1 h1 => hr Hd1 H1 σ x1.dh (r.xt x1) _ fun vs Hd2 H2 x2 h2 => q _ Hd2 H2 (x1.trans x2) (.cons (h1.xt x2) h2)
theorem ev_tup {t : TA} (h : EvD K C t ρ ds) (hl : ds.length ≤ 100000) : Ev K C (tTup t) ρ (.d (.tuple ds)) := fun Hd H σ x r Q q =>
  h Hd H σ x r _ fun vs Hd1 H1 x1 h1 => ⟨by rw [dpall_len h1]; exact sz_of hl, fun p hp => q _ _ _ (x1.trans (Xt.new x1.dh hp)) (Dp.tup (SqT.of upd_same) (dps_ex (Ex.new (free_of x1.dh hp)) _ _ h1))⟩
theorem ev_lst {t : TA} (h : EvD K C t ρ ds) (hl : ds.length ≤ 100000) : Ev K C (tLst t) ρ (.d (.list ds)) := fun Hd H σ x r Q q =>
  h Hd H σ x r _ fun vs Hd1 H1 x1 h1 => ⟨by rw [dpall_len h1]; exact sz_of hl, fun p hp => q _ _ _ (x1.trans (Xt.new x1.dh hp)) (Dp.lst (SqL.of upd_same) (dps_ex (Ex.new (free_of x1.dh hp)) _ _ h1))⟩

/-! tests -/
theorem evt_test {b : Bool} (h : Ev K C te ρ (.d (.bool b))) : EvT K C (tTest te) ρ b := fun Hd H σ x r Q q => h Hd H σ x r _ fun v Hd1 H1 x1 h1 => ⟨b, dp_bl_inv h1, q Hd1 H1 x1⟩
theorem evt_B {b : Bool} (h : Ev K C te ρ (.d (.bool b))) : EvT K C (tB te) ρ b := fun Hd H σ x r Q q => h Hd H σ x r _ fun v Hd1 H1 x1 h1 => ⟨b, dp_bl_inv h1, q Hd1 H1 x1⟩
variable {t u : TT}
theorem evt_and {a b : Bool} (h1 : EvT K C t ρ a) (h2 : a = true → EvT K C u ρ b) : EvT K C (tAnd t u) ρ (a && b) := fun Hd H σ x r Q q => h1 Hd H σ x r _ fun Hd1 H1 x1 => by
  cases a with
  | true => exact h2 rfl Hd1 H1 σ x1.dh (r.xt x1) Q fun Hd2 H2 x2 => q Hd2 H2 (x1.trans x2)
  | false => exact q Hd1 H1 x1
theorem evt_or {a b : Bool} (h1 : EvT K C t ρ a) (h2 : a = false → EvT K C u ρ b) : EvT K C (tOr t u) ρ (a || b) := fun Hd H σ x r Q q => h1 Hd H σ x r _ fun Hd1 H1 x1 => by
  cases a with
  | true => exact q Hd1 H1 x1
  | false => exact h2 rfl Hd1 H1 σ x1.dh (r.xt x1) Q fun Hd2 H2 x2 => q Hd2 H2 (x1.trans x2)
theorem evt_not {a : Bool} (h1 : EvT K C t ρ a) : EvT K C (tNot t) ρ (!a) := fun Hd H σ x r Q q => h1 Hd H σ x r _ fun Hd1 H1 x1 => q Hd1 H1 x1
theorem evt_is {a b : Bool} (h : EvT K C t ρ a) (e : a = b) : EvT K C t ρ b := e ▸ h
theorem ev_andV {a b : Bool} (h1 : Ev K C ta ρ (.d (.bool a))) (h2 : a = true → Ev K C tb ρ (.d (.bool b))) : Ev K C (tAndV ta tb) ρ (.d (.bool (a && b))) := fun Hd H σ x r Q q => h1 Hd H σ x r _ fun v Hd1 H1 x1 hv => ⟨a, dp_bl_inv hv, by
  cases a with
  | true => exact h2 rfl Hd1 H1 σ x1.dh (r.xt x1) Q fun v Hd2 H2 x2 => q v Hd2 H2 (x1.trans x2)
  | false => exact q _ Hd1 H1 x1 (Dp.bl false)⟩
theorem ev_orV {a b : Bool} (h1 : Ev K C ta ρ (.d (.bool a))) (h2 : a = false → Ev K C tb ρ (.d (.bool b))) : Ev K C (tOrV ta tb) ρ (.d (.bool (a || b))) := fun Hd H σ x r Q q => h1 Hd H σ x r _ fun v Hd1 H1 x1 hv => ⟨a, dp_bl_inv hv, by
  cases a with
  | true => exact q _ Hd1 H1 x1 (Dp.bl true)
  | false => exact h2 rfl Hd1 H1 σ x1.dh (r.xt x1) Q fun v Hd2 H2 x2 => q v Hd2 H2 (x1.trans x2)⟩
theorem ev_notV {a : Bool} (h1 : Ev K C ta ρ (.d (.bool a))) : Ev K C (tNotV ta) ρ (.d (.bool (!a))) := fun Hd H σ x r Q q => h1 Hd H σ x r _ fun v Hd1 H1 x1 hv => ⟨a, dp_bl_inv hv, q _ Hd1 H1 x1 (Dp.bl _)⟩
theorem ev_if {c : Bool} (h : EvT K C t ρ c) (h1 : c = true → Ev K C ta ρ a) (h2 : c = false → Ev K C tb ρ a) : Ev K C (tIf t ta tb) ρ a := fun Hd H σ x r Q q => h Hd H σ x r _ fun Hd1 H1 x1 => by
  cases c with
  | true => exact h1 rfl Hd1 H1 σ x1.dh (r.xt x1) Q fun v Hd2 H2 x2 => q v Hd2 H2 (x1.trans x2)
  | false => exact h2 rfl Hd1 H1 σ x1.dh (r.xt x1) Q fun v Hd2 H2 x2 => q v Hd2 H2 (x1.trans x2)
/-- a choice whose two values are told by a function of the answer -/
theorem ev_ifF {c : Bool} {f : Bool → AV} (h : EvT K C t ρ c) (h1 : c = true → Ev K C ta ρ (f true)) (h2 : c = false → Ev K C tb ρ (f false)) : Ev K C (tIf t ta tb) ρ (f c) :=
  ev_if h (fun e => by subst e; exact h1 rfl) (fun e => by subst e; exact h2 rfl)

/-! built-ins -/
theorem ev_cb {r : List V → Hp → VK → Prop} {t : TA} {as : List AV} {z : AV} (h : EvL K C t ρ as) (hr : ∀ Hd H vs, Ex Hd H → VRs K C Hd H vs as → ∀ Q : VK, (∀ v Hd' H', Xt Hd H Hd' H' → VR K C Hd' H' v z → Q v H') → r vs H Q) : Ev K C (tCB r t) ρ z := fun Hd H σ x rr Q q =>
  h Hd H σ x rr _ fun vs Hd1 H1 x1 h1 => hr Hd1 H1 vs x1.dh h1 Q fun v Hd2 H2 x2 h2 => q v Hd2 H2 (x1.trans x2) h2
theorem vrs1 {vs : List V} (h : VRs K C Hd H vs [a]) : ∃ v, vs = [v] ∧ VR K C Hd H v a := by
  cases h with
  | cons r t => cases t; exact ⟨_, rfl, r⟩
theorem vrs2 {vs : List V} (h : VRs K C Hd H vs [a, b]) : ∃ v u, vs = [v, u] ∧ VR K C Hd H v a ∧ VR K C Hd H u b := by
  cases h with
  | cons r t =>
    obtain ⟨u, rfl, h⟩ := vrs1 t
    exact ⟨_, u, rfl, r, h⟩
theorem vrs3 {c : AV} {vs : List V} (h : VRs K C Hd H vs [a, b, c]) : ∃ v u w, vs = [v, u, w] ∧ VR K C Hd H v a ∧ VR K C Hd H u b ∧ VR K C Hd H w c := by
  cases h with
  | cons r t =>
    obtain ⟨u, w, rfl, h⟩ := vrs2 t
    exact ⟨_, u, w, rfl, r, h⟩
theorem vrs4 {c d : AV} {vs : List V} (h : VRs K C Hd H vs [a, b, c, d]) : ∃ v u w x, vs = [v, u, w, x] ∧ VR K C Hd H v a ∧ VR K C Hd H u b ∧ VR K C Hd H w c ∧ VR K C Hd H x d := by
  cases h with
  | cons r t =>
    obtain ⟨u, w, x, rfl, h⟩ := vrs3 t
    exact ⟨_, u, w, x, rfl, r, h⟩
theorem ev_min {i j : Int} {t : TA} (h : EvL K C t ρ [.d (.int i), .d (.int j)]) : Ev K C (tCB (fun xs H Q => ∃ i j, xs = [.int i, .int j] ∧ Q (.int (if j < i then j else i)) H) t) ρ (.d (.int (if j < i then j else i))) :=
  ev_cb h fun Hd H vs e r Q q => by
    obtain ⟨v, u, rfl, h1, h2⟩ := vrs2 r
    exact ⟨i, j, by rw [dp_int_inv h1, dp_int_inv h2], q _ Hd H (Xt.refl e) (Dp.int _)⟩
theorem ev_max {i j : Int} {t : TA} (h : EvL K C t ρ [.d (.int i), .d (.int j)]) : Ev K C (tCB (fun xs H Q => ∃ i j, xs = [.int i, .int j] ∧ Q (.int (if j > i then j else i)) H) t) ρ (.d (.int (if j > i then j else i))) :=
  ev_cb h fun Hd H vs e r Q q => by
    obtain ⟨v, u, rfl, h1, h2⟩ := vrs2 r
    exact ⟨i, j, by rw [dp_int_inv h1, dp_int_inv h2], q _ Hd H (Xt.refl e) (Dp.int _)⟩
theorem ev_divmod {i j : Int} {t : TA} (h : EvL K C t ρ [.d (.int i), .d (.int j)]) (hc : CDiv i j) : Ev K C (tCB (fun xs H Q => ∃ i j, xs = [.int i, .int j] ∧ CDiv i j ∧ ∀ p, H p = none → Q (.ref p) (upd H p (.tup [.int (i / j), .int (i % j)]))) t) ρ (.d (.tuple [.int (i / j), .int (i % j)])) :=
  ev_cb h fun Hd H vs e r Q q => by
    obtain ⟨v, u, rfl, h1, h2⟩ := vrs2 r
    exact ⟨i, j, by rw [dp_int_inv h1, dp_int_inv h2], hc, fun p hp => q _ _ _ (Xt.new e hp) (Dp.tup (SqT.of upd_same) (.cons (Dp.int _) (.cons (Dp.int _) .nil)))⟩
theorem ev_abs {i : Int} {t : TA} (h : EvL K C t ρ [.d (.int i)]) : Ev K C (tCB (fun xs H Q => ∃ i, xs = [.int i] ∧ Q (.int (if i < 0 then -i else i)) H) t) ρ (.d (.int (if i < 0 then -i else i))) :=
  ev_cb h fun Hd H vs e r Q q => by
    obtain ⟨v, rfl, h1⟩ := vrs1 r
    exact ⟨i, by rw [dp_int_inv h1], q _ Hd H (Xt.refl e) (Dp.int _)⟩
theorem ev_intI {i : Int} {t : TA} (h : EvL K C t ρ [.d (.int i)]) : Ev K C (tCB (fun xs H Q => (∃ i, xs = [.int i] ∧ Q (.int i) H) ∨ ∃ k, xs = [.bl k] ∧ Q (.int (if k then 1 else 0)) H) t) ρ (.d (.int i)) :=
  ev_cb h fun Hd H vs e r Q q => by
    obtain ⟨v, rfl, h1⟩ := vrs1 r
    exact .inl ⟨i, by rw [dp_int_inv h1], q _ Hd H (Xt.refl e) (Dp.int _)⟩
theorem ev_intB {k : Bool} {t : TA} (h : EvL K C t ρ [.d (.bool k)]) : Ev K C (tCB (fun xs H Q => (∃ i, xs = [.int i] ∧ Q (.int i) H) ∨ ∃ k, xs = [.bl k] ∧ Q (.int (if k then 1 else 0)) H) t) ρ (.d (.int (if k then 1 else 0))) :=
  ev_cb h fun Hd H vs e r Q q => by
    obtain ⟨v, rfl, h1⟩ := vrs1 r
    exact .inr ⟨k, by rw [dp_bl_inv h1], q _ Hd H (Xt.refl e) (Dp.int _)⟩
theorem ev_lenL {t : TA} (h : EvL K C t ρ [.d (.list ds)]) : Ev K C (tCB (fun xs H Q => ∃ p ys, xs = [.ref p] ∧ (SqL K H p ys ∨ SqT K H p ys) ∧ Q (.int ys.length) H) t) ρ (.d (.int ds.length)) :=
  ev_cb h fun Hd H vs e r Q q => by
    obtain ⟨v, rfl, h1⟩ := vrs1 r
    obtain ⟨p, ys, rfl, h2, h3⟩ := dp_lst_inv h1
    exact ⟨p, ys, rfl, .inl (ex_l e h2), q _ Hd H (Xt.refl e) (by rw [dpall_len h3]; exact Dp.int _)⟩
theorem ev_lenT {t : TA} (h : EvL K C t ρ [.d (.tuple ds)]) : Ev K C (tCB (fun xs H Q => ∃ p ys, xs = [.ref p] ∧ (SqL K H p ys ∨ SqT K H p ys) ∧ Q (.int ys.length) H) t) ρ (.d (.int ds.length)) :=
  ev_cb h fun Hd H vs e r Q q => by
    obtain ⟨v, rfl, h1⟩ := vrs1 r
    obtain ⟨p, ys, rfl, h2, h3⟩ := dp_tup_inv h1
    exact ⟨p, ys, rfl, .inr (ex_t e h2), q _ Hd H (Xt.refl e) (by rw [dpall_len h3]; exact Dp.int _)⟩
theorem ev_listL {t : TA} (h : EvL K C t ρ [.d (.list ds)]) : Ev K C (tCB (fun xs H Q => ∃ p ys, xs = [.ref p] ∧ (SqL K H p ys ∨ SqT K H p ys) ∧ ∀ l, H l = none → Q (.ref l) (upd H l (.lst ys))) t) ρ (.d (.list ds)) :=
  ev_cb h fun Hd H vs e r Q q => by
    obtain ⟨v, rfl, h1⟩ := vrs1 r
    obtain ⟨p, ys, rfl, h2, h3⟩ := dp_lst_inv h1
    exact ⟨p, ys, rfl, .inl (ex_l e h2), fun l hl => q _ _ _ (Xt.new e hl) (Dp.lst (SqL.of upd_same) (dps_ex (Ex.new (free_of e hl)) _ _ h3))⟩

/-! calls of defs whose promise speaks of data -/
/-- F as Pr: called with as, the answer is told by some a with Pr a -/
def SpD (K : PySem.W.Frag) (C : Cl P w) (F : List AV → (AV → Prop) → Prop) : Sp := fun vs H Q _ => ∃ (Hd : Hp) (as : List AV) (Pr : AV → Prop), F as Pr ∧ Ex Hd H ∧ VRs K C Hd H vs as ∧ ∀ v a Hd' H', Pr a → Xt Hd H Hd' H' → VR K C Hd' H' v a → Q v H'
theorem ev_call {F : List AV → (AV → Prop) → Prop} {E : XK} {ta : TA} {as : List AV} (h : EvL K C ta ρ as) (hF : F as (fun b => b = a)) : Ev K C (tCall (SpD K C F) [] E ta) ρ a := fun Hd H σ x r Q q =>
  h Hd H σ x r _ fun vs Hd1 H1 x1 h1 => ⟨Hd1, as, _, hF, x1.dh, by rw [List.append_nil]; exact h1, fun v b Hd2 H2 e x2 h2 => by subst e; exact q v Hd2 H2 (x1.trans x2) h2⟩
/-- the same where the answer is left open -/
def EvP (K : PySem.W.Frag) (C : Cl P w) (t : TE) (ρ : En) (Pr : AV → Prop) : Prop := ∀ (Hd H : Hp) (σ : L2.St), Ex Hd H → EnvR K C Hd H σ ρ → ∀ Q : VK, (∀ v a Hd' H', Pr a → Xt Hd H Hd' H' → VR K C Hd' H' v a → Q v H') → t σ H Q
theorem evp_call {F : List AV → (AV → Prop) → Prop} {Pr : AV → Prop} {E : XK} {ta : TA} {as : List AV} (h : EvL K C ta ρ as) (hF : F as Pr) : EvP K C (tCall (SpD K C F) [] E ta) ρ Pr := fun Hd H σ x r Q q =>
  h Hd H σ x r _ fun vs Hd1 H1 x1 h1 => ⟨Hd1, as, _, hF, x1.dh, by rw [List.append_nil]; exact h1, fun v b Hd2 H2 e x2 h2 => q v b Hd2 H2 e (x1.trans x2) h2⟩
theorem Ev.p (h : Ev K C te ρ a) : EvP K C te ρ (fun b => b = a) := fun Hd H σ x r Q q => h Hd H σ x r Q fun v Hd' H' x h => q v a Hd' H' rfl x h

/-! ### statements -/
structure Wx (K : PySem.W.Frag) (C : Cl P w) (Hd0 H0 Hd H : Hp) (σ : L2.St) (ρ : En) : Prop where
  x : Xt Hd0 H0 Hd H
  env : EnvR K C Hd H σ ρ
variable {D : Ends} {tz t1 t2 : TS} {σ : L2.St} {g : TG}
theorem Wx.start (e : Ex Hd H) (h : EnvR K C Hd H σ ρ) : Wx K C Hd H Hd H σ ρ := ⟨Xt.refl e, h⟩
theorem Wx.asg {i : Nat} (w : Wx K C Hd0 H0 Hd H σ ρ) (h : Ev K C te ρ a) (k : ∀ σ' Hd' H', Xt Hd H Hd' H' → Wx K C Hd0 H0 Hd' H' σ' (ρ.set i a) → D.nx σ' H') : tAsg te (gName i) D σ H :=
  h Hd H σ w.x.dh w.env _ fun v Hd1 H1 x1 h1 => k _ Hd1 H1 x1 ⟨w.x.trans x1, (w.env.xt x1).set h1 i⟩
theorem Wx.qasg {i : Nat} (w : Wx K C Hd0 H0 Hd H σ ρ) (h : Ev K C te ρ a) (k : ∀ σ' Hd' H', Xt Hd H Hd' H' → Wx K C Hd0 H0 Hd' H' σ' (ρ.set i a) → tz D σ' H') : tSeq (tAsg te (gName i)) tz D σ H := w.asg (D := { D with nx := tz D }) h k
theorem Wx.pasg {i : Nat} {Pr : AV → Prop} (w : Wx K C Hd0 H0 Hd H σ ρ) (h : EvP K C te ρ Pr) (k : ∀ a σ' Hd' H', Pr a → Xt Hd H Hd' H' → Wx K C Hd0 H0 Hd' H' σ' (ρ.set i a) → D.nx σ' H') : tAsg te (gName i) D σ H :=
  h Hd H σ w.x.dh w.env _ fun v a Hd1 H1 p x1 h1 => k a _ Hd1 H1 p x1 ⟨w.x.trans x1, (w.env.xt x1).set h1 i⟩
theorem Wx.qpasg {i : Nat} {Pr : AV → Prop} (w : Wx K C Hd0 H0 Hd H σ ρ) (h : EvP K C te ρ Pr) (k : ∀ a σ' Hd' H', Pr a → Xt Hd H Hd' H' → Wx K C Hd0 H0 Hd' H' σ' (ρ.set i a) → tz D σ' H') : tSeq (tAsg te (gName i)) tz D σ H := w.pasg (D := { D with nx := tz D }) h k
theorem Wx.ret (w : Wx K C Hd0 H0 Hd H σ ρ) (h : Ev K C te ρ a) (k : ∀ v Hd' H', Xt Hd0 H0 Hd' H' → VR K C Hd' H' v a → D.rt v H') : tRet te D σ H :=
  h Hd H σ w.x.dh w.env _ fun v Hd1 H1 x1 h1 => k v Hd1 H1 (w.x.trans x1) h1
theorem Wx.pret {Pr : AV → Prop} (w : Wx K C Hd0 H0 Hd H σ ρ) (h : EvP K C te ρ Pr) (k : ∀ v a Hd' H', Pr a → Xt Hd0 H0 Hd' H' → VR K C Hd' H' v a → D.rt v H') : tRet te D σ H :=
  h Hd H σ w.x.dh w.env _ fun v a Hd1 H1 p x1 h1 => k v a Hd1 H1 p (w.x.trans x1) h1
theorem Wx.drop (w : Wx K C Hd0 H0 Hd H σ ρ) (h : Ev K C te ρ a) (k : ∀ Hd' H', Xt Hd H Hd' H' → Wx K C Hd0 H0 Hd' H' σ ρ → D.nx σ H') : tDrop te D σ H :=
  h Hd H σ w.x.dh w.env _ fun v Hd1 H1 x1 h1 => k Hd1 H1 x1 ⟨w.x.trans x1, w.env.xt x1⟩
theorem Wx.qdrop (w : Wx K C Hd0 H0 Hd H σ ρ) (h : Ev K C te ρ a) (k : ∀ Hd' H', Xt Hd H Hd' H' → Wx K C Hd0 H0 Hd' H' σ ρ → tz D σ H') : tSeq (tDrop te) tz D σ H := w.drop (D := { D with nx := tz D }) h k
theorem Wx.if_ {b : Bool} (w : Wx K C Hd0 H0 Hd H σ ρ) (h : EvT K C t ρ b) (h1 : b = true → ∀ Hd' H', Xt Hd H Hd' H' → Wx K C Hd0 H0 Hd' H' σ ρ → t1 D σ H') (h2 : b = false → ∀ Hd' H', Xt Hd H Hd' H' → Wx K C Hd0 H0 Hd' H' σ ρ → t2 D σ H') : tIfS t t1 t2 D σ H :=
  h Hd H σ w.x.dh w.env _ fun Hd1 H1 x1 => by
    cases b with
    | true => exact h1 rfl Hd1 H1 x1 ⟨w.x.trans x1, w.env.xt x1⟩
    | false => exact h2 rfl Hd1 H1 x1 ⟨w.x.trans x1, w.env.xt x1⟩
theorem Wx.qif {b : Bool} (w : Wx K C Hd0 H0 Hd H σ ρ) (h : EvT K C t ρ b) (h1 : b = true → ∀ Hd' H', Xt Hd H Hd' H' → Wx K C Hd0 H0 Hd' H' σ ρ → t1 { D with nx := tz D } σ H') (h2 : b = false → ∀ Hd' H', Xt Hd H Hd' H' → Wx K C Hd0 H0 Hd' H' σ ρ → t2 { D with nx := tz D } σ H') : tSeq (tIfS t t1 t2) tz D σ H :=
  w.if_ (D := { D with nx := tz D }) h h1 h2
/-- a, b, .. = e, e giving a tuple -/
def gNames : List Nat → TGs
  | [] => gNil
  | i :: is => gCons (gName i) (gNames is)
def setsA : En → List Nat → List PyData → En
  | ρ, i :: is, d :: ds => setsA (ρ.set i (.d d)) is ds
  | ρ, _, _ => ρ
theorem names_go {Q : L2.St → Hp → Prop} : ∀ (is : List Nat) {vs : List V} {ds : List PyData} {σ : L2.St} {ρ : En}, is.length = ds.length → DpAll K Hd vs ds → EnvR K C Hd H1 σ ρ → (∀ σ', EnvR K C Hd H1 σ' (setsA ρ is ds) → Q σ' H) → gNames is vs σ H Q
  | [], _, [], σ, ρ, _, .nil, r, q => ⟨rfl, q σ r⟩
  | i :: is, _, d :: ds, σ, ρ, hl, .cons h t, r, q => ⟨_, _, rfl, names_go is (by simpa using hl) t (r.set (a := .d d) h i) q⟩
theorem Wx.un {is : List Nat} {n : Nat} (w : Wx K C Hd0 H0 Hd H σ ρ) (h : Ev K C te ρ (.d (.tuple ds))) (hn : n = ds.length) (hl : is.length = ds.length) (k : ∀ σ' Hd' H', Xt Hd H Hd' H' → Wx K C Hd0 H0 Hd' H' σ' (setsA ρ is ds) → D.nx σ' H') : tAsg te (gTup K n (gNames is)) D σ H :=
  h Hd H σ w.x.dh w.env _ fun v Hd1 H1 x1 h1 => by
    obtain ⟨p, vs, rfl, h2, h3⟩ := dp_tup_inv h1
    exact ⟨p, vs, rfl, ex_t x1.dh h2, by rw [hn, dpall_len h3], names_go is hl h3 (w.env.xt x1) fun σ' r => k σ' Hd1 H1 x1 ⟨w.x.trans x1, r⟩⟩
theorem Wx.qun {is : List Nat} {n : Nat} (w : Wx K C Hd0 H0 Hd H σ ρ) (h : Ev K C te ρ (.d (.tuple ds))) (hn : n = ds.length) (hl : is.length = ds.length) (k : ∀ σ' Hd' H', Xt Hd H Hd' H' → Wx K C Hd0 H0 Hd' H' σ' (setsA ρ is ds) → tz D σ' H') : tSeq (tAsg te (gTup K n (gNames is))) tz D σ H :=
  w.un (D := { D with nx := tz D }) h hn hl k
theorem Wx.aug {i : Nat} {f : Int → Int → Int} {x y : Int} (w : Wx K C Hd0 H0 Hd H σ ρ) (hi : Nat.blt i ρ.n = true) (hx : ρ.f i = some (.d (.int x))) (h : Ev K C te ρ (.d (.int y))) (k : ∀ σ' Hd' H', Xt Hd H Hd' H' → Wx K C Hd0 H0 Hd' H' σ' (ρ.set i (.d (.int (f x y)))) → D.nx σ' H') : tAug i te (ipI f) D σ H := by
  obtain ⟨v, e1, e2⟩ := w.env.val hi hx rfl
  exact ⟨v, e1, h Hd H σ w.x.dh w.env _ fun v2 Hd1 H1 x1 h1 => ⟨x, y, dp_int_inv e2, dp_int_inv h1, k _ Hd1 H1 x1 ⟨w.x.trans x1, (w.env.xt x1).set (a := .d (.int (f x y))) (Dp.int _) i⟩⟩⟩
theorem Wx.qaug {i : Nat} {f : Int → Int → Int} {x y : Int} (w : Wx K C Hd0 H0 Hd H σ ρ) (hi : Nat.blt i ρ.n = true) (hx : ρ.f i = some (.d (.int x))) (h : Ev K C te ρ (.d (.int y))) (k : ∀ σ' Hd' H', Xt Hd H Hd' H' → Wx K C Hd0 H0 Hd' H' σ' (ρ.set i (.d (.int (f x y)))) → tz D σ' H') : tSeq (tAug i te (ipI f)) tz D σ H :=
  w.aug (D := { D with nx := tz D }) hi hx h k
/-- a, b = e, f -/
theorem Wx.qpar {i j : Nat} {ta : TA} {b : AV} (w : Wx K C Hd0 H0 Hd H σ ρ) (h : EvL K C ta ρ [a, b]) (k : ∀ σ' Hd' H', Xt Hd H Hd' H' → Wx K C Hd0 H0 Hd' H' σ' ((ρ.set i a).set j b) → tz D σ' H') : tSeq (tPar i j ta) tz D σ H :=
  h Hd H σ w.x.dh w.env _ fun vs Hd1 H1 x1 h1 => by
    obtain ⟨v, u, rfl, r1, r2⟩ := vrs2 h1
    exact ⟨v, u, rfl, k _ Hd1 H1 x1 ⟨w.x.trans x1, ((w.env.xt x1).set r1 i).set r2 j⟩⟩

/-! ### what only one slot knows -/
/-- no slot but i owns m -/
def ApN (ρ : En) (i : Nat) (m : Addr) : Nat → Prop
  | 0 => True
  | n + 1 => ApN ρ i m n ∧ (n = i ∨ (ρ.g n).cell ≠ some m)
theorem ApN.at_ {i j : Nat} {m : Addr} : ∀ {n : Nat}, ApN ρ i m n → j < n → j ≠ i → (ρ.g j).cell ≠ some m
  | n + 1, h, hj, hn => by
    by_cases e : j = n
    · subst e; exact h.2.resolve_left hn
    · exact ApN.at_ h.1 (by omega) hn
/-- the thing at m (slot i's) has changed to what a tells -/
theorem EnvR.mod {i : Nat} {m : Addr} (h : EnvR K C Hd H σ ρ) (ap : ApN ρ i m ρ.n) (x : Xm m Hd H Hd' H') (hv : ∃ v, σ[i]? = some (some v) ∧ VR K C Hd' H' v a) : EnvR K C Hd' H' σ (ρ.set i a) := by
  refine ⟨h.len, fun j o q => ?_⟩
  show VO K C Hd' H' o ((bif Nat.beq j i then some a else ρ.f j).getD .unk)
  by_cases e : j = i
  · subst e
    obtain ⟨v, hv1, hv2⟩ := hv
    rw [hv1] at q
    cases q
    rw [Nat.beq_refl]
    exact hv2
  · rw [beq_ne e]
    have hj : j < ρ.n := by rw [← h.len]; exact (List.getElem?_eq_some_iff.mp q).1
    exact (h.at_ j o q).xm x (ap.at_ hj e)
/-- .. for the whole: H0 does not know m -/
theorem Xt.mod {m : Addr} (x : Xt Hd0 H0 Hd H) (y : Xm m Hd H Hd' H') (h0 : H0 m = none) : Xt Hd0 H0 Hd' H' :=
  ⟨x.d.trans y.d, fun a o e => y.h a o (ne_of_none e h0) (x.h a o e), y.dh, fun a o e => (y.nw a o (x.h a o e)).trans (x.nw a o e)⟩
theorem Wx.mod {i : Nat} {m : Addr} (w : Wx K C Hd0 H0 Hd H σ ρ) (h0 : H0 m = none) (ap : ApN ρ i m ρ.n) (y : Xm m Hd H Hd' H') (hv : ∃ v, σ[i]? = some (some v) ∧ VR K C Hd' H' v a) : Wx K C Hd0 H0 Hd' H' σ (ρ.set i a) := ⟨w.x.mod y h0, w.env.mod ap y hv⟩
/-- what slot i alone owns becomes data -/
theorem Wx.freeze {i : Nat} {m : Addr} {ds : List PyData} (w : Wx K C Hd0 H0 Hd H σ ρ) (hi : Nat.blt i ρ.n = true) (e : ρ.f i = some (.ml m ds)) (h0 : H0 m = none) (ap : ApN ρ i m ρ.n) :
    ∃ Hd', Xt Hd0 H0 Hd' H ∧ Wx K C Hd0 H0 Hd' H σ (ρ.set i (.d (.list ds))) ∧ Ex Hd Hd' ∧ (∀ b, b ≠ m → Hd' b = Hd b) := by
  obtain ⟨v, hv, rfl, hd, vs, hm, ha⟩ := w.env.val hi e rfl
  obtain ⟨f1, f2⟩ := ex_freeze w.x.dh hm hd
  have x0 : Xt Hd0 H0 (upd Hd m (.lst vs)) H := ⟨w.x.d.trans f2, w.x.h, f1, fun a o q => by rw [upd_ne (ne_of_none q h0)]; exact w.x.nw a o q⟩
  refine ⟨upd Hd m (.lst vs), x0, ⟨x0, ⟨w.env.len, fun j o q => ?_⟩⟩, f2, fun b hb => upd_ne hb⟩
  show VO K C _ H o ((bif Nat.beq j i then some (.d (.list ds)) else ρ.f j).getD .unk)
  by_cases ej : j = i
  · subst ej
    rw [hv] at q
    cases q
    rw [Nat.beq_refl]
    exact Dp.lst (SqL.of upd_same) (dps_ex f2 _ _ ha)
  · rw [beq_ne ej]
    have hj : j < ρ.n := by rw [← w.env.len]; exact (List.getElem?_eq_some_iff.mp q).1
    have g := w.env.at_ j o q
    have hn := ap.at_ hj ej
    show VO K C _ H o (ρ.g j)
    revert g hn
    generalize ρ.g j = a
    intro g hn
    cases o with
    | none => cases a <;> first | exact g.elim | trivial
    | some v =>
      cases a with
      | d y => exact dp_ex f2 y v g
      | raw u => exact g
      | pol p => exact PolAt.ex f2 g
      | set p => exact SetAt.ex f2 g
      | out n => exact OutAt.ex f2 g
      | pv b ps => exact PvAt.ex f2 g
      | ml m' ds' =>
        obtain ⟨h1, h2, vs', h3, h4⟩ := g
        exact ⟨h1, by rw [upd_ne (fun z => hn (by rw [z]; rfl))]; exact h2, vs', h3, dps_ex f2 _ _ h4⟩
      | dk m' ds' =>
        obtain ⟨h1, h2, vs', h3, h4⟩ := g
        exact ⟨h1, by rw [upd_ne (fun z => hn (by rw [z]; rfl))]; exact h2, vs', h3, h4.ex f2⟩
      | dt m' o des' ds' =>
        obtain ⟨h1, h2, h3, h4⟩ := g
        exact ⟨h1, by rw [upd_ne (fun z => hn (by rw [z]; rfl))]; exact h2, h3, h4.ex f2⟩
      | unk => trivial
/-! lists -/
theorem ev_ixM {i : Int} {d : PyData} {m : Addr} (ha : Ev K C ta ρ (.ml m ds)) (hb : Ev K C tb ρ (.d (.int i))) (h : atI ds i = some d) : Ev K C (tOp (rIxL K) ta tb) ρ (.d d) :=
  ev2 ha hb fun Hd H x y ex hx hy Q q => by
    obtain ⟨rfl, hd, vs, h1, h2⟩ := hx
    obtain ⟨j, hj, hd⟩ : ∃ j, ixN ds.length i = some j ∧ ds[j]? = some d := by
      unfold atI at h
      cases q' : ixN ds.length i with
      | none => rw [q'] at h; cases h
      | some j => rw [q'] at h; exact ⟨j, rfl, h⟩
    obtain ⟨v, hv, hr⟩ := dpall_get h2 hd
    exact ⟨m, vs, i, v, rfl, dp_int_inv hy, SqL.of h1, by unfold atI; rw [dpall_len h2, hj]; exact hv, q v Hd H (Xt.refl ex) hr⟩
theorem ev_eqM {e : PyData} {m : Addr} (ha : Ev K C ta ρ (.ml m ds)) (hb : Ev K C tb ρ (.d e)) (h1 : SeqAt.shaped (.list ds) = true) (h2 : SeqAt.shaped e = true) : Ev K C (tOp (rEqD K) ta tb) ρ (.d (.bool (PyData.eqv (.list ds) e))) :=
  ev2 ha hb fun Hd H x y ex hx hy Q q => by
    obtain ⟨rfl, hd, vs, h3, h4⟩ := hx
    exact ⟨_, e, Dp.lst (SqL.of h3) (dps_ex ex _ _ h4), dp_ex ex _ _ hy, h1, h2, q _ Hd H (Xt.refl ex) (Dp.bl _)⟩
theorem ev_lenM {t : TA} {m : Addr} (h : EvL K C t ρ [.ml m ds]) : Ev K C (tCB (fun xs H Q => ∃ p ys, xs = [.ref p] ∧ (SqL K H p ys ∨ SqT K H p ys) ∧ Q (.int ys.length) H) t) ρ (.d (.int ds.length)) :=
  ev_cb h fun Hd H vs e r Q q => by
    obtain ⟨v, rfl, rfl, hd, us, h2, h3⟩ := vrs1 r
    exact ⟨m, us, rfl, .inl (SqL.of h2), q _ Hd H (Xt.refl e) (by rw [dpall_len h3]; exact Dp.int _)⟩
/-- x = [] -/
theorem ev_newL {Q : VK} (e : Ex Hd H) (q : ∀ m, H m = none → Xt Hd H Hd (upd H m (.lst [])) → VR K C Hd (upd H m (.lst [])) (.ref m) (.ml m []) → Q (.ref m) (upd H m (.lst []))) : tLst tNil σ H Q :=
  ⟨Nat.zero_le _, fun m hm => q m hm ⟨Ex.refl _, Ex.new hm, ex_mut e (free_of e hm), fun _ _ _ => rfl⟩ ⟨rfl, free_of e hm, [], upd_same, .nil⟩⟩
theorem Wx.qnewL {i : Nat} (w : Wx K C Hd0 H0 Hd H σ ρ) (k : ∀ m σ' H', H m = none → H0 m = none → Xt Hd H Hd H' → Wx K C Hd0 H0 Hd H' σ' (ρ.set i (.ml m [])) → tz D σ' H') : tSeq (tAsg (tLst tNil) (gName i)) tz D σ H :=
  ev_newL (K := K) (C := C) (σ := σ) (Q := fun x H1 => tz D (σ.set i (some x)) H1) w.x.dh fun m hm x1 r => k m _ _ hm (fresh_back w.x.h hm) x1 ⟨w.x.trans x1, (w.env.xt x1).set r i⟩
/-- a list display that is to be changed -/
theorem ev_newLM {Q : VK} {t : TA} (h : EvD K C t ρ ds) (hl : ds.length ≤ 100000) (e : Ex Hd H) (r : EnvR K C Hd H σ ρ) (q : ∀ m Hd' H', H m = none → Xt Hd H Hd' H' → VR K C Hd' H' (.ref m) (.ml m ds) → Q (.ref m) H') : tLst t σ H Q :=
  h Hd H σ e r _ fun vs Hd1 H1 x1 h1 => ⟨by rw [dpall_len h1]; exact sz_of hl, fun m hm => q m Hd1 _ (fresh_back x1.h hm) (x1.trans ⟨Ex.refl _, Ex.new hm, ex_mut x1.dh (free_of x1.dh hm), fun _ _ _ => rfl⟩) ⟨rfl, free_of x1.dh hm, vs, upd_same, h1⟩⟩
/-- x.append(e) -/
theorem Wx.app {i : Nat} {m : Addr} {d : PyData} (w : Wx K C Hd0 H0 Hd H σ ρ) (hi : Nat.blt i ρ.n = true) (hx : ρ.f i = some (.ml m ds)) (h0 : H0 m = none) (ap : ApN ρ i m ρ.n) (h : Ev K C te ρ (.d d)) (hz : ds.length < 100000)
    (k : ∀ Hd' H', Xm m Hd H Hd' H' → Wx K C Hd0 H0 Hd' H' σ (ρ.set i (.ml m (ds ++ [d]))) → D.nx σ H') : tDrop (tBM K "list" rAppend (tVar i) (tCons te tNil)) D σ H := by
  obtain ⟨v, hv, rfl, hd, vs, hm, ha⟩ := w.env.val hi hx rfl
  refine ⟨.ref m, hv, Or.inl ⟨rfl, vs, SqL.of hm⟩, h Hd H σ w.x.dh w.env _ fun u Hd1 H1 x1 h1 => ⟨m, vs, u, rfl, rfl, x1.h _ _ hm, by rw [dpall_len ha]; exact sz_lt hz, ?_⟩⟩
  have hd1 : Hd1 m = none := (x1.nw _ _ hm).trans hd
  have y : Xm m Hd H Hd1 (upd H1 m (.lst (vs ++ [u]))) := ⟨x1.d, fun b o hb e => by rw [upd_ne hb]; exact x1.h b o e, ex_mut x1.dh hd1, x1.nw⟩
  exact k Hd1 _ y (w.mod h0 ap y ⟨_, hv, rfl, hd1, _, upd_same, dpall_app (dps_ex x1.d _ _ ha) (.cons h1 .nil)⟩)
theorem Wx.qapp {i : Nat} {m : Addr} {d : PyData} (w : Wx K C Hd0 H0 Hd H σ ρ) (hi : Nat.blt i ρ.n = true) (hx : ρ.f i = some (.ml m ds)) (h0 : H0 m = none) (ap : ApN ρ i m ρ.n) (h : Ev K C te ρ (.d d)) (hz : ds.length < 100000)
    (k : ∀ Hd' H', Xm m Hd H Hd' H' → Wx K C Hd0 H0 Hd' H' σ (ρ.set i (.ml m (ds ++ [d]))) → tz D σ H') : tSeq (tDrop (tBM K "list" rAppend (tVar i) (tCons te tNil))) tz D σ H := w.app (D := { D with nx := tz D }) hi hx h0 ap h hz k
/-- x[j] = e -/
theorem Wx.setL {i j : Nat} {z : Int} {m : Addr} {d : PyData} (w : Wx K C Hd0 H0 Hd H σ ρ) (hi : Nat.blt i ρ.n = true) (hx : ρ.f i = some (.ml m ds)) (h0 : H0 m = none) (ap : ApN ρ i m ρ.n) (h : Ev K C te ρ (.d d)) (hj : Ev K C tb ρ (.d (.int z))) (hz : ixN ds.length z = some j)
    (k : ∀ Hd' H', Xm m Hd H Hd' H' → Wx K C Hd0 H0 Hd' H' σ (ρ.set i (.ml m (ds.set j d))) → D.nx σ H') : tAsg te (gSub (tVar i) tb rSetL) D σ H := by
  obtain ⟨v, hv, rfl, hd, vs, hm, ha⟩ := w.env.val hi hx rfl
  refine h Hd H σ w.x.dh w.env _ fun u Hd1 H1 x1 h1 => ⟨.ref m, hv, hj Hd1 H1 σ x1.dh (w.env.xt x1) _ fun u2 Hd2 H2 x2 h2 => ⟨m, vs, z, j, rfl, dp_int_inv h2, (x2.h _ _ (x1.h _ _ hm)), by rw [dpall_len ha]; exact hz, ?_⟩⟩
  have x3 := x1.trans x2
  have hd2 : Hd2 m = none := (x3.nw _ _ hm).trans hd
  have y : Xm m Hd H Hd2 (upd H2 m (.lst (vs.set j u))) := ⟨x3.d, fun b o hb e => by rw [upd_ne hb]; exact x3.h b o e, ex_mut x3.dh hd2, x3.nw⟩
  exact k Hd2 _ y (w.mod h0 ap y ⟨_, hv, rfl, hd2, _, upd_same, dpall_set j (dps_ex x3.d _ _ ha) (dp_ex x2.d _ _ h1)⟩)
theorem Wx.qsetL {i j : Nat} {z : Int} {m : Addr} {d : PyData} (w : Wx K C Hd0 H0 Hd H σ ρ) (hi : Nat.blt i ρ.n = true) (hx : ρ.f i = some (.ml m ds)) (h0 : H0 m = none) (ap : ApN ρ i m ρ.n) (h : Ev K C te ρ (.d d)) (hj : Ev K C tb ρ (.d (.int z))) (hz : ixN ds.length z = some j)
    (k : ∀ Hd' H', Xm m Hd H Hd' H' → Wx K C Hd0 H0 Hd' H' σ (ρ.set i (.ml m (ds.set j d))) → tz D σ H') : tSeq (tAsg te (gSub (tVar i) tb rSetL)) tz D σ H := w.setL (D := { D with nx := tz D }) hi hx h0 ap h hj hz k
end
end LW

set_option Elab.async false
set_option linter.all false
set_option maxRecDepth 100000
set_option maxHeartbeats 2000000
/-! rules with the written part told by its letter; a def as a caller sees it -/
namespace LW
open PySem L2 Evl
section
variable {X : Cx} (K : PySem.W.Frag) (hK : X.K = K := by rfl)
include hK
theorem ixT : IxR X (rIxT K) := hK ▸ ix_tup
theorem ixL : IxR X (rIxL K) := hK ▸ ix_list
theorem slT : SlR X (rSlT K) := hK ▸ sl_tup
theorem slL : SlR X (rSlL K) := hK ▸ sl_list
theorem opCatT : OpR X (binaryOp .Add) (rCatT K) := hK ▸ op_catT
theorem opIn : OpR X (compareOp .In) (rIn K false) := hK ▸ op_in_seq
theorem opNotIn : OpR X (compareOp .NotIn) (rIn K true) := hK ▸ op_notIn_seq
theorem callLen : CallR X (.builtin "len") (fun xs H Q => ∃ p ys, xs = [.ref p] ∧ (SqL K H p ys ∨ SqT K H p ys) ∧ Q (.int ys.length) H) := hK ▸ call_len_seq
theorem callList : CallR X (.type "list") (fun xs H Q => ∃ p ys, xs = [.ref p] ∧ (SqL K H p ys ∨ SqT K H p ys) ∧ ∀ l, H l = none → Q (.ref l) (upd H l (.lst ys))) := hK ▸ call_list_of
theorem callTuple : CallR X (.type "tuple") (fun xs H Q => ∃ p ys, xs = [.ref p] ∧ ((SqL K H p ys ∧ ∀ l, H l = none → Q (.ref l) (upd H l (.tup ys))) ∨ (SqT K H p ys ∧ Q (.ref p) H))) := hK ▸ call_tuple_of
theorem callIsi : CallR X (.builtin "isinstance") (rIsi K) := hK ▸ call_isi
end
section
variable {X : Cx}
theorem callAll (K : PySem.W.Frag) (hK : X.K = K := by rfl) (hc : X.calm = true := by rfl) : CallR X (.builtin "all") (rAll K) := hK ▸ cr_all hc
theorem opEqD (K : PySem.W.Frag) (hu : X.A.units + 64 < cLine) (hK : X.K = K := by rfl) : OpR X (compareOp .Eq) (rEqD K) := hK ▸ op_eqD hu
theorem opNeD (K : PySem.W.Frag) (hu : X.A.units + 64 < cLine) (hK : X.K = K := by rfl) : OpR X (compareOp .NotEq) (rNeD K) := hK ▸ op_neD hu
theorem opTNotIn (hu : X.A.units + 1 < cLine) (K : PySem.W.Frag) (hK : X.K = K := by rfl) : OpR X (compareOp .NotIn) (rTNotIn X.prog X.w K) := hK ▸ op_tnotin hu
end
section
variable {X : Cx} {e e2 o i value : Expr} {te ta tv td ty : TE} {t : TA} {f : Str} {pos pos' tpos p apos cpos : Pos}
theorem peFld (K : PySem.W.Frag) (he : PE X e ta) (hb : attributeBase e f X.env (eval e X.env) = eval e X.env) (hK : X.K = K := by rfl) : PE X (.Attribute e f pos) (tFld K ta f) := hK ▸ pe_fld he hb
theorem psFld (K : PySem.W.Frag) (ha : PE X o ta) (hv : PE X value tv) (hs : swapsWith value (some (.Attribute o f pos')) pos.line X.env = pure false) (hK : X.K = K := by rfl) : PS X (.Assign [.Attribute o f pos'] value pos) (sFld K ta tv f) := hK ▸ ps_fld ha hv hs
theorem pgTup (K : PySem.W.Frag) {es : List Expr} {k : Nat} {t : TGs} {n : Nat} (hc : X.calm = true) (h : PGs X es t)
    (hn : (assignEach es X.env).length = n := by rfl) (hst : (assignEach es X.env).findIdx? (·.1) = none := by rfl) (hK : X.K = K := by rfl) : PG X (.Tuple es k pos) (gTup K n t) := hK ▸ pg_tup hc h hn hst
theorem piList (K : PySem.W.Frag) {tg l : Expr} {tl : TE} (hl : PE X l tl) (hK : X.K = K := by rfl) : PI X tg l (iList K tl) := hK ▸ pi_list hl
theorem piTup (K : PySem.W.Frag) {tg l : Expr} {tl : TE} (hl : PE X l tl) (hK : X.K = K := by rfl) : PI X tg l (iTup K tl) := hK ▸ pi_tup hl
theorem piEnum (K : PySem.W.Frag) {elts : List Expr} {kk : Nat} (hg : Gl X "enumerate") (hm : X.mg "enumerate" = none) (ha : PA X [e] t) (hs : starEach [e] X.env = [(false, eval e X.env)] := by rfl) (hK : X.K = K := by rfl) :
    PI X (.Tuple elts kk tpos) (.Call (.Name "enumerate" p) [e] [] pos) (iEnum K t) := hK ▸ pi_enum hg hm ha hs
theorem piZip (K : PySem.W.Frag) {elts : List Expr} {kk : Nat} (hg : Gl X "zip") (hm : X.mg "zip" = none) (ha : PA X [e, e2] t)
    (hs : starEach [e, e2] X.env = (false, eval e X.env) :: starEach [e2] X.env := by rfl) (hpl : (backTo pos (starEach [e2] X.env)).any (·.1) = false := by rfl) (hK : X.K = K := by rfl) :
    PI X (.Tuple elts kk tpos) (.Call (.Name "zip" p) [e, e2] [] pos) (iZip K t) := hK ▸ pi_zip hg hm ha hs hpl
theorem piT {tg : Expr} (he : PE X e td) : PI X tg e (iT X.prog X.w td) := pi_tkeys he
theorem petGet (hu : X.A.units + 1 < cLine) (K : PySem.W.Frag) (ho : PE X o td) (hi : PE X i ty) (hs : NoSl i) (hK : X.K = K := by rfl) : PE X (.Subscript o i pos) (tTGet X.prog X.w K td ty) := hK ▸ pe_tget hu ho hi hs
theorem psTPut (hu : X.A.units + 1 < cLine) (K : PySem.W.Frag) (ho : PE X o td) (hi : PE X i ty) (hv : PE X value tv) (hs : swapsWith value (some (.Subscript o i pos')) pos.line X.env = pure false) (hK : X.K = K := by rfl) :
    PS X (.Assign [.Subscript o i pos'] value pos) (sTPut X.prog X.w K td ty tv) := hK ▸ ps_tput hu ho hi hv hs
theorem peTNew : PE X (.Dict [] [] pos) (tTNew X.prog X.w) := pe_tnew
theorem peBm (K : PySem.W.Frag) {T id : String} {name : Str} {r : V → List V → Hp → VK → Prop} {es : List Expr} {to : TE} (pa : PlainAttrs T) (slot : Slot T name id) (hty : typeOf (.builtin id) = pure (.type "method_descriptor")) (hm : MtR X id r) (ho : PE X o to) (ha : PA X (e :: es) t)
    (hbase : attributeBase o name X.env (eval o X.env) = eval o X.env := by rfl)
    (hfew : ((backTo cpos (starEach (e :: es) X.env)).all (fun x => !x.1) && (backToKw cpos (keywordEach [] X.env)).all (fun x => x.1.isSome)
      && decide ((e :: es).length + ([] : List Keyword).length + (if ([] : List Keyword).isEmpty then 0 else 1) < 30)) = true := by rfl)
    (hline : (apos.endLine == cpos.line) = true := by rfl) (hs : starEach (e :: es) X.env = (false, eval e X.env) :: starEach es X.env := by rfl) (hplain : (backTo cpos (starEach es X.env)).any (·.1) = false := by rfl) (hK : X.K = K := by rfl) :
    PE X (.Call (.Attribute o name apos) (e :: es) [] cpos) (tBM K T r to t) := hK ▸ pe_bm pa slot hty hm ho ha hbase hfew hline hs hplain
end

theorem peTy {X : Cx} {x : Str} {pos : Pos} (n : String) (hg : Gl X x) (hm : X.mg x = none) (hv : bootBuiltins x = some (.type n)) (hn : x ≠ "__name__" := by decide) (hd : (x == ("__debug__" : Str)) = false := by decide) : PE X (.Name x pos) (tC (.ty n)) := pe_bltn hg hm hv rfl hn hd
/-- a def of the text, as callers see it -/
structure Df (P : Program) (w : World) (K : PySem.W.Frag) (mg : Str → Option Value) (base : Heap) (x : Str) (k : Nat) (ps : List Str) (sp : Sp) : Prop where
  ex : ∃ f fd, FnOk P w K mg base CX0 k f fd ps sp ∧ mg x = some (.ref f) ∧ PySem.W.keepIn K (.ref f) = true ∧ Binds K fd ps []
theorem pe_df {X : Cx} {k : Nat} {ps : List Str} {sp : Sp} {x : Str} {p pos : Pos} {e : Expr} {es : List Expr} {t : TA} (d : Df X.prog X.w X.K X.mg X.base x k ps sp) (hr : Room k X.A) (hg : Gl X x) (ha : PA X (e :: es) t)
    (hdb : (x == ("__debug__" : Str)) = false := by decide) (he : starEach (e :: es) X.env = (false, eval e X.env) :: starEach es X.env := by rfl) (hpl : (backTo pos (starEach es X.env)).any (·.1) = false := by rfl) : PE X (.Call (.Name x p) (e :: es) [] pos) (tCall sp [] E0 t) := by
  obtain ⟨f, fd, F, hm, hk, hb⟩ := d.ex
  exact pe_call F hr hg hm hk hb .nil pass0 ha hdb he hpl

variable {P : Program} {w : World}
/-- SpD's length -/
theorem spd_len {K : PySem.W.Frag} {C : Cl P w} {F : List AV → (AV → Prop) → Prop} {n : Nat} (h : ∀ as Pr, F as Pr → as.length = n) : ∀ vs H Q E, SpD K C F vs H Q E → vs.length = n := by
  rintro vs H Q E ⟨Hd, as, Pr, hF, _, hv, _⟩
  rw [Paired.length hv]
  exact h as Pr hF

variable {K : PySem.W.Frag} {C : Cl P w} {ρ : En} {ta tb te : TE} {ds es : List PyData}
/-- slices and sums of data tuples -/
theorem cutV_data {vs : List V} {ds : List PyData} {H : Hp} (h : DpAll K H vs ds) (lo hi : Option Int) : DpAll K H (cutV vs lo hi) ((ds.drop (HT.sIx ds.length 0 lo)).take (HT.sIx ds.length ds.length hi - HT.sIx ds.length 0 lo)) := by
  unfold cutV
  rw [dpall_len h]
  exact dpall_take _ (dpall_drop _ h)
def cutD (ds : List PyData) (lo hi : Option Int) : List PyData := (ds.drop (HT.sIx ds.length 0 lo)).take (HT.sIx ds.length ds.length hi - HT.sIx ds.length 0 lo)
def EvO (K : PySem.W.Frag) (C : Cl P w) (t : TO) (ρ : En) (o : Option Int) : Prop := ∀ (Hd H : Hp) (σ : L2.St), Ex Hd H → EnvR K C Hd H σ ρ → ∀ Q : Option Int → Hp → Prop, (∀ Hd' H', Xt Hd H Hd' H' → Q o H') → t σ H Q
theorem evo_none : EvO K C tNoPart ρ none := fun Hd H σ x r Q q => q Hd H (Xt.refl x)
theorem evo_some {i : Int} (h : Ev K C te ρ (.d (.int i))) : EvO K C (tPart te) ρ (some i) := fun Hd H σ x r Q q => h Hd H σ x r _ fun v Hd1 H1 x1 h1 => ⟨i, dp_int_inv h1, q Hd1 H1 x1⟩
theorem ev_slT {tl th : TO} {lo hi : Option Int} (h : Ev K C te ρ (.d (.tuple ds))) (h1 : EvO K C tl ρ lo) (h2 : EvO K C th ρ hi) (hw : ¬ (HT.sIx ds.length 0 lo = 0 ∧ HT.sIx ds.length ds.length hi = ds.length)) : Ev K C (tSl (rSlT K) te tl th) ρ (.d (.tuple (cutD ds lo hi))) := fun Hd H σ x r Q q =>
  h Hd H σ x r _ fun v Hd1 H1 x1 hv => h1 Hd1 H1 σ x1.dh (r.xt x1) _ fun Hd2 H2 x2 => h2 Hd2 H2 σ x2.dh (r.xt (x1.trans x2)) _ fun Hd3 H3 x3 => by
    obtain ⟨p, vs, rfl, hs, ha⟩ := dp_tup_inv hv
    have hl := dpall_len ha
    refine ⟨p, vs, rfl, ex_t ((x1.dh.trans x2.h).trans x3.h) hs, by rw [hl]; exact hw, fun l hl' => q _ _ _ (((x1.trans x2).trans x3).trans (Xt.new x3.dh hl')) (Dp.tup (SqT.of upd_same) ?_)⟩
    exact dps_ex (((x2.d).trans x3.d).trans (Ex.new (free_of x3.dh hl'))) _ _ (cutV_data ha lo hi)
theorem ev_slL {tl th : TO} {lo hi : Option Int} (h : Ev K C te ρ (.d (.list ds))) (h1 : EvO K C tl ρ lo) (h2 : EvO K C th ρ hi) : Ev K C (tSl (rSlL K) te tl th) ρ (.d (.list (cutD ds lo hi))) := fun Hd H σ x r Q q =>
  h Hd H σ x r _ fun v Hd1 H1 x1 hv => h1 Hd1 H1 σ x1.dh (r.xt x1) _ fun Hd2 H2 x2 => h2 Hd2 H2 σ x2.dh (r.xt (x1.trans x2)) _ fun Hd3 H3 x3 => by
    obtain ⟨p, vs, rfl, hs, ha⟩ := dp_lst_inv hv
    refine ⟨p, vs, rfl, ex_l ((x1.dh.trans x2.h).trans x3.h) hs, fun l hl' => q _ _ _ (((x1.trans x2).trans x3).trans (Xt.new x3.dh hl')) (Dp.lst (SqL.of upd_same) ?_)⟩
    exact dps_ex (((x2.d).trans x3.d).trans (Ex.new (free_of x3.dh hl'))) _ _ (cutV_data ha lo hi)
theorem ev_catT (ha : Ev K C ta ρ (.d (.tuple ds))) (hb : Ev K C tb ρ (.d (.tuple es))) (h0 : ds ≠ []) (h1 : es ≠ []) (hz : ds.length + es.length ≤ 100000) : Ev K C (tOp (rCatT K) ta tb) ρ (.d (.tuple (ds ++ es))) :=
  ev2 ha hb fun Hd H x y ex hx hy Q q => by
    obtain ⟨p, vs, rfl, hs, hp⟩ := dp_tup_inv hx
    obtain ⟨p2, us, rfl, hs2, hp2⟩ := dp_tup_inv hy
    have l1 := dpall_len hp
    have l2 := dpall_len hp2
    refine ⟨p, p2, vs, us, rfl, rfl, ex_t ex hs, ex_t ex hs2, fun z => ?_, by rw [l1, l2]; exact sz_of hz, ?_⟩
    · subst z; cases ds with
      | nil => exact h0 rfl
      | cons _ _ => cases l1
    · have z : us ≠ [] := fun z => by
        subst z; cases es with
        | nil => exact h1 rfl
        | cons _ _ => cases l2
      exact ⟨fun z' => absurd z' z, fun _ l hl => q _ _ _ (Xt.new ex hl) (Dp.tup (SqT.of upd_same) (dps_ex (Ex.new (free_of ex hl)) _ _ (dpall_app hp hp2)))⟩
end LW

set_option Elab.async false
set_option linter.all false
set_option maxRecDepth 100000
set_option maxHeartbeats 2000000
/-! the text by places -/
namespace LW
open PySem L2 Evl
def topS (i : Nat) : Stmt := PySem.Challenge.pw_latewords_k12_whole_no_order_beyond_leas.main.body.getD i (.Pass ⟨0, 0, 0, 0⟩)
abbrev s_is_integer : Stmt := (topS 10)
abbrev nm_is_integer : List Str := ["value"]
abbrev ps_is_integer : List Str := ["value"]
theorem sc_is_integer : FnScope nm_is_integer ps_is_integer (defScope s_is_integer) := ⟨rfl, rfl, rfl, by decide +kernel, rfl, by decide +kernel, by decide +kernel⟩
abbrev s_in_range : Stmt := (topS 11)
abbrev nm_in_range : List Str := ["value", "least", "most"]
abbrev ps_in_range : List Str := ["value", "least", "most"]
theorem sc_in_range : FnScope nm_in_range ps_in_range (defScope s_in_range) := ⟨rfl, rfl, rfl, by decide +kernel, rfl, by decide +kernel, by decide +kernel⟩
abbrev s_Policy__init : Stmt := (inClass (topS 12) 1)
abbrev nm_Policy__init : List Str := ["self", "hold", "every", "quick"]
abbrev ps_Policy__init : List Str := ["self", "hold", "every", "quick"]
theorem sc_Policy__init : FnScope nm_Policy__init ps_Policy__init (defScope s_Policy__init) := ⟨rfl, rfl, rfl, by decide +kernel, rfl, by decide +kernel, by decide +kernel⟩
abbrev s_Setting__init : Stmt := (inClass (topS 13) 0)
abbrev nm_Setting__init : List Str := ["self", "size", "policies", "both", "policy"]
abbrev ps_Setting__init : List Str := ["self", "size", "policies"]
theorem sc_Setting__init : FnScope nm_Setting__init ps_Setting__init (defScope s_Setting__init) := ⟨rfl, rfl, rfl, by decide +kernel, rfl, by decide +kernel, by decide +kernel⟩
abbrev s_is_write : Stmt := (topS 18)
abbrev nm_is_write : List Str := ["value", "endpoint", "length", "mode"]
abbrev ps_is_write : List Str := ["value"]
theorem sc_is_write : FnScope nm_is_write ps_is_write (defScope s_is_write) := ⟨rfl, rfl, rfl, by decide +kernel, rfl, by decide +kernel, by decide +kernel⟩
abbrev s_check : Stmt := (topS 19)
abbrev nm_check : List Str := ["conversation", "index", "write"]
abbrev ps_check : List Str := ["conversation"]
theorem sc_check : FnScope nm_check ps_check (defScope s_check) := ⟨rfl, rfl, rfl, by decide +kernel, rfl, by decide +kernel, by decide +kernel⟩
abbrev s_split_turns : Stmt := (topS 20)
abbrev nm_split_turns : List Str := ["writes", "found", "index", "write"]
abbrev ps_split_turns : List Str := ["writes"]
theorem sc_split_turns : FnScope nm_split_turns ps_split_turns (defScope s_split_turns) := ⟨rfl, rfl, rfl, by decide +kernel, rfl, by decide +kernel, by decide +kernel⟩
abbrev s_normal_order : Stmt := (topS 21)
abbrev nm_normal_order : List Str := ["conversation", "order", "starts", "most", "index", "many", "endpoint", "start", "stop", "write"]
abbrev ps_normal_order : List Str := ["conversation", "order"]
theorem sc_normal_order : FnScope nm_normal_order ps_normal_order (defScope s_normal_order) := ⟨rfl, rfl, rfl, by decide +kernel, rfl, by decide +kernel, by decide +kernel⟩
abbrev s_rules_of : Stmt := (topS 23)
abbrev nm_rules_of : List Str := ["setting", "speaker"]
abbrev ps_rules_of : List Str := ["setting", "speaker"]
theorem sc_rules_of : FnScope nm_rules_of ps_rules_of (defScope s_rules_of) := ⟨rfl, rfl, rfl, by decide +kernel, rfl, by decide +kernel, by decide +kernel⟩
abbrev s_with_full : Stmt := (topS 24)
abbrev nm_with_full : List Str := ["rules", "parts", "many", "size", "hold", "every", "rest", "kept", "blocked", "stuck", "pending", "quick", "soon", "late", "told"]
abbrev ps_with_full : List Str := ["rules", "parts", "many"]
theorem sc_with_full : FnScope nm_with_full ps_with_full (defScope s_with_full) := ⟨rfl, rfl, rfl, by decide +kernel, rfl, by decide +kernel, by decide +kernel⟩
abbrev s_with_partial : Stmt := (topS 25)
abbrev nm_with_partial : List Str := ["rules", "parts", "blocked"]
abbrev ps_with_partial : List Str := ["rules", "parts"]
theorem sc_with_partial : FnScope nm_with_partial ps_with_partial (defScope s_with_partial) := ⟨rfl, rfl, rfl, by decide +kernel, rfl, by decide +kernel, by decide +kernel⟩
abbrev s_after_write : Stmt := (topS 26)
abbrev nm_after_write : List Str := ["rules", "parts", "length", "mode", "many", "rest", "told", "more"]
abbrev ps_after_write : List Str := ["rules", "parts", "length", "mode"]
theorem sc_after_write : FnScope nm_after_write ps_after_write (defScope s_after_write) := ⟨rfl, rfl, rfl, by decide +kernel, rfl, by decide +kernel, by decide +kernel⟩
abbrev s_after_clearing : Stmt := (topS 27)
abbrev nm_after_clearing : List Str := ["rules", "parts", "told"]
abbrev ps_after_clearing : List Str := ["rules", "parts"]
theorem sc_after_clearing : FnScope nm_after_clearing ps_after_clearing (defScope s_after_clearing) := ⟨rfl, rfl, rfl, by decide +kernel, rfl, by decide +kernel, by decide +kernel⟩
abbrev s_after_turn : Stmt := (topS 28)
abbrev nm_after_turn : List Str := ["rules", "parts", "segments", "acknowledgments", "turn", "sent", "told", "timer"]
abbrev ps_after_turn : List Str := ["rules", "parts"]
theorem sc_after_turn : FnScope nm_after_turn ps_after_turn (defScope s_after_turn) := ⟨rfl, rfl, rfl, by decide +kernel, rfl, by decide +kernel, by decide +kernel⟩
abbrev s_Outcome__init : Stmt := (inClass (topS 30) 0)
abbrev nm_Outcome__init : List Str := ["self", "stalls", "segments", "acknowledgments", "stalled"]
abbrev ps_Outcome__init : List Str := ["self", "stalls", "segments", "acknowledgments", "stalled"]
theorem sc_Outcome__init : FnScope nm_Outcome__init ps_Outcome__init (defScope s_Outcome__init) := ⟨rfl, rfl, rfl, by decide +kernel, rfl, by decide +kernel, by decide +kernel⟩
abbrev s_first_parts : Stmt := (topS 31)
abbrev nm_first_parts : List Str := ["quick"]
abbrev ps_first_parts : List Str := ["quick"]
theorem sc_first_parts : FnScope nm_first_parts ps_first_parts (defScope s_first_parts) := ⟨rfl, rfl, rfl, by decide +kernel, rfl, by decide +kernel, by decide +kernel⟩
abbrev s_first_quick : Stmt := (topS 32)
abbrev nm_first_quick : List Str := ["setting", "policy"]
abbrev ps_first_quick : List Str := ["setting"]
theorem sc_first_quick : FnScope nm_first_quick ps_first_quick (defScope s_first_quick) := ⟨rfl, rfl, rfl, by decide +kernel, rfl, by decide +kernel, by decide +kernel⟩
abbrev s_with_quick : Stmt := (topS 33)
abbrev nm_with_quick : List Str := ["quick", "endpoint", "many"]
abbrev ps_with_quick : List Str := ["quick", "endpoint", "many"]
theorem sc_with_quick : FnScope nm_with_quick ps_with_quick (defScope s_with_quick) := ⟨rfl, rfl, rfl, by decide +kernel, rfl, by decide +kernel, by decide +kernel⟩
abbrev s_outcome : Stmt := (topS 34)
abbrev nm_outcome : List Str := ["setting", "conversation", "order", "steps", "quick", "segments", "acknowledgments", "stalled", "turn", "speaker", "start", "stop", "rules", "parts", "index", "step", "sent", "told", "stall", "left"]
abbrev ps_outcome : List Str := ["setting", "conversation", "order"]
theorem sc_outcome : FnScope nm_outcome ps_outcome (defScope s_outcome) := ⟨rfl, rfl, rfl, by decide +kernel, rfl, by decide +kernel, by decide +kernel⟩
abbrev s_clearings_of : Stmt := (topS 35)
abbrev nm_clearings_of : List Str := ["rules", "parts", "found", "many", "after"]
abbrev ps_clearings_of : List Str := ["rules", "parts"]
theorem sc_clearings_of : FnScope nm_clearings_of ps_clearings_of (defScope s_clearings_of) := ⟨rfl, rfl, rfl, by decide +kernel, rfl, by decide +kernel, by decide +kernel⟩
abbrev s_turn_ends : Stmt := (topS 36)
abbrev nm_turn_ends : List Str := ["rules", "writes", "quick", "reached", "index", "write", "behind", "parts", "ways", "many", "ready", "after", "ends", "end"]
abbrev ps_turn_ends : List Str := ["rules", "writes", "quick"]
theorem sc_turn_ends : FnScope nm_turn_ends ps_turn_ends (defScope s_turn_ends) := ⟨rfl, rfl, rfl, by decide +kernel, rfl, by decide +kernel, by decide +kernel⟩
abbrev s_best_orders : Stmt := (topS 37)
abbrev nm_best_orders : List Str := ["setting", "conversation", "sign", "best", "speaker", "start", "stop", "rules", "behind", "quick", "stalls", "order", "ends", "stall", "left", "there", "found"]
abbrev ps_best_orders : List Str := ["setting", "conversation", "sign"]
theorem sc_best_orders : FnScope nm_best_orders ps_best_orders (defScope s_best_orders) := ⟨rfl, rfl, rfl, by decide +kernel, rfl, by decide +kernel, by decide +kernel⟩
abbrev s_least : Stmt := (topS 38)
abbrev nm_least : List Str := ["setting", "conversation"]
abbrev ps_least : List Str := ["setting", "conversation"]
theorem sc_least : FnScope nm_least ps_least (defScope s_least) := ⟨rfl, rfl, rfl, by decide +kernel, rfl, by decide +kernel, by decide +kernel⟩
abbrev s_most : Stmt := (topS 39)
abbrev nm_most : List Str := ["setting", "conversation"]
abbrev ps_most : List Str := ["setting", "conversation"]
theorem sc_most : FnScope nm_most ps_most (defScope s_most) := ⟨rfl, rfl, rfl, by decide +kernel, rfl, by decide +kernel, by decide +kernel⟩
abbrev s_law_bag : Stmt := (topS 41)
abbrev nm_law_bag : List Str := ["_law_script", "_law_at", "_law_cell", "_law_digits"]
abbrev ps_law_bag : List Str := ["_law_script", "_law_at"]
theorem sc_law_bag : FnScope nm_law_bag ps_law_bag (defScope s_law_bag) := ⟨rfl, rfl, rfl, by decide +kernel, rfl, by decide +kernel, by decide +kernel⟩
abbrev s_law_take : Stmt := (topS 42)
abbrev nm_law_take : List Str := ["_law_bag_here", "_law_many", "_law_digit", "_law_found", "_law_reach", "_law_more"]
abbrev ps_law_take : List Str := ["_law_bag_here", "_law_many"]
theorem sc_law_take : FnScope nm_law_take ps_law_take (defScope s_law_take) := ⟨rfl, rfl, rfl, by decide +kernel, rfl, by decide +kernel, by decide +kernel⟩
abbrev s_law_rules : Stmt := (topS 43)
abbrev nm_law_rules : List Str := ["_law_bag_here", "_law_found", "_law_place", "_law_lets", "_law_per"]
abbrev ps_law_rules : List Str := ["_law_bag_here"]
theorem sc_law_rules : FnScope nm_law_rules ps_law_rules (defScope s_law_rules) := ⟨rfl, rfl, rfl, by decide +kernel, rfl, by decide +kernel, by decide +kernel⟩
abbrev s_law_setting : Stmt := (topS 44)
abbrev nm_law_setting : List Str := ["_law_width", "_law_rules_here", "_law_made", "_law_lets", "_law_some", "_law_soon"]
abbrev ps_law_setting : List Str := ["_law_width", "_law_rules_here"]
theorem sc_law_setting : FnScope nm_law_setting ps_law_setting (defScope s_law_setting) := ⟨rfl, rfl, rfl, by decide +kernel, rfl, by decide +kernel, by decide +kernel⟩
abbrev s_law_amount : Stmt := (topS 45)
abbrev nm_law_amount : List Str := ["_law_bag_here", "_law_width", "_law_more"]
abbrev ps_law_amount : List Str := ["_law_bag_here", "_law_width"]
theorem sc_law_amount : FnScope nm_law_amount ps_law_amount (defScope s_law_amount) := ⟨rfl, rfl, rfl, by decide +kernel, rfl, by decide +kernel, by decide +kernel⟩
abbrev s_law_writes : Stmt := (topS 46)
abbrev nm_law_writes : List Str := ["_law_bag_here", "_law_width", "_law_many", "_law_found", "_law_who", "_law_at", "_law_word"]
abbrev ps_law_writes : List Str := ["_law_bag_here", "_law_width", "_law_many"]
theorem sc_law_writes : FnScope nm_law_writes ps_law_writes (defScope s_law_writes) := ⟨rfl, rfl, rfl, by decide +kernel, rfl, by decide +kernel, by decide +kernel⟩
abbrev s_law_steps : Stmt := (topS 47)
abbrev nm_law_steps : List Str := ["_law_bag_here", "_law_writes_here", "_law_found", "_law_at", "_law_is_first"]
abbrev ps_law_steps : List Str := ["_law_bag_here", "_law_writes_here"]
theorem sc_law_steps : FnScope nm_law_steps ps_law_steps (defScope s_law_steps) := ⟨rfl, rfl, rfl, by decide +kernel, rfl, by decide +kernel, by decide +kernel⟩
abbrev s_law_side : Stmt := (topS 48)
abbrev nm_law_side : List Str := ["_law_arrived", "_law_side_here"]
abbrev ps_law_side : List Str := ["_law_arrived"]
theorem sc_law_side : FnScope nm_law_side ps_law_side (defScope s_law_side) := ⟨rfl, rfl, rfl, by decide +kernel, rfl, by decide +kernel, by decide +kernel⟩
abbrev s_law_send : Stmt := (topS 49)
abbrev nm_law_send : List Str := ["_law_side_here", "_law_width", "_law_some"]
abbrev ps_law_send : List Str := ["_law_side_here", "_law_width", "_law_some"]
theorem sc_law_send : FnScope nm_law_send ps_law_send (defScope s_law_send) := ⟨rfl, rfl, rfl, by decide +kernel, rfl, by decide +kernel, by decide +kernel⟩
abbrev s_law_may : Stmt := (topS 50)
abbrev nm_law_may : List Str := ["_law_side_here", "_law_lets"]
abbrev ps_law_may : List Str := ["_law_side_here", "_law_lets"]
theorem sc_law_may : FnScope nm_law_may ps_law_may (defScope s_law_may) := ⟨rfl, rfl, rfl, by decide +kernel, rfl, by decide +kernel, by decide +kernel⟩
abbrev s_law_write : Stmt := (topS 51)
abbrev nm_law_write : List Str := ["_law_side_here", "_law_width", "_law_lets", "_law_some", "_law_word"]
abbrev ps_law_write : List Str := ["_law_side_here", "_law_width", "_law_lets", "_law_some", "_law_word"]
theorem sc_law_write : FnScope nm_law_write ps_law_write (defScope s_law_write) := ⟨rfl, rfl, rfl, by decide +kernel, rfl, by decide +kernel, by decide +kernel⟩
abbrev s_law_hear : Stmt := (topS 52)
abbrev nm_law_hear : List Str := ["_law_side_here", "_law_width", "_law_other", "_law_reach", "_law_some"]
abbrev ps_law_hear : List Str := ["_law_side_here", "_law_width", "_law_other"]
theorem sc_law_hear : FnScope nm_law_hear ps_law_hear (defScope s_law_hear) := ⟨rfl, rfl, rfl, by decide +kernel, rfl, by decide +kernel, by decide +kernel⟩
abbrev s_law_clear : Stmt := (topS 53)
abbrev nm_law_clear : List Str := ["_law_side_here", "_law_width", "_law_mine", "_law_other"]
abbrev ps_law_clear : List Str := ["_law_side_here", "_law_width", "_law_mine", "_law_other"]
theorem sc_law_clear : FnScope nm_law_clear ps_law_clear (defScope s_law_clear) := ⟨rfl, rfl, rfl, by decide +kernel, rfl, by decide +kernel, by decide +kernel⟩
abbrev s_law_finish : Stmt := (topS 54)
abbrev nm_law_finish : List Str := ["_law_side_here", "_law_width", "_law_mine", "_law_other"]
abbrev ps_law_finish : List Str := ["_law_side_here", "_law_width", "_law_mine", "_law_other"]
theorem sc_law_finish : FnScope nm_law_finish ps_law_finish (defScope s_law_finish) := ⟨rfl, rfl, rfl, by decide +kernel, rfl, by decide +kernel, by decide +kernel⟩
abbrev s_law_play : Stmt := (topS 55)
abbrev nm_law_play : List Str := ["_law_width", "_law_rules_here", "_law_writes_here", "_law_steps_here", "_law_arrived", "_law_stalled", "_law_segments", "_law_bare", "_law_side_here", "_law_run", "_law_at", "_law_who", "_law_some", "_law_word", "_law_k"]
abbrev ps_law_play : List Str := ["_law_width", "_law_rules_here", "_law_writes_here", "_law_steps_here"]
theorem sc_law_play : FnScope nm_law_play ps_law_play (defScope s_law_play) := ⟨rfl, rfl, rfl, by decide +kernel, rfl, by decide +kernel, by decide +kernel⟩
abbrev s_law_whole : Stmt := (topS 56)
abbrev nm_law_whole : List Str := ["_law_value"]
abbrev ps_law_whole : List Str := ["_law_value"]
theorem sc_law_whole : FnScope nm_law_whole ps_law_whole (defScope s_law_whole) := ⟨rfl, rfl, rfl, by decide +kernel, rfl, by decide +kernel, by decide +kernel⟩
abbrev s_law_limits : Stmt := (topS 57)
abbrev nm_law_limits : List Str := ["_law_some", "_law_at"]
abbrev ps_law_limits : List Str := ["_law_some"]
theorem sc_law_limits : FnScope nm_law_limits ps_law_limits (defScope s_law_limits) := ⟨rfl, rfl, rfl, by decide +kernel, rfl, by decide +kernel, by decide +kernel⟩
abbrev s_law_is_order : Stmt := (topS 58)
abbrev nm_law_is_order : List Str := ["_law_some", "_law_steps_here", "_law_step", "_law_top"]
abbrev ps_law_is_order : List Str := ["_law_some", "_law_steps_here"]
theorem sc_law_is_order : FnScope nm_law_is_order ps_law_is_order (defScope s_law_is_order) := ⟨rfl, rfl, rfl, by decide +kernel, rfl, by decide +kernel, by decide +kernel⟩
abbrev s_law : Stmt := (topS 59)
abbrev nm_law : List Str := ["_law_script", "_law_at", "_law_bag_here", "_law_width", "_law_rules_here", "_law_made", "_law_some", "_law_few", "_law_many", "_law_runs", "_law_told", "_law_steps_here", "_law_due", "_law_step", "_law_k"]
abbrev ps_law : List Str := ["_law_script"]
theorem sc_law : FnScope nm_law ps_law (defScope s_law) := ⟨rfl, rfl, rfl, by decide +kernel, rfl, by decide +kernel, by decide +kernel⟩
end LW

set_option Elab.async false
set_option linter.all false
set_option maxRecDepth 100000
set_option maxHeartbeats 2000000
/-! a def whose promise speaks of data; the words for evaluation -/
namespace LW
open PySem PySem.Spec PyProof.Rows L2 Evl
theorem hold_all (h : Hold) : decide (h.str = ("all" : Str)) = decide (h = .all) := by cases h <;> decide +kernel
theorem hold_part (h : Hold) : decide (h.str = ("partial" : Str)) = decide (h = .part) := by cases h <;> decide +kernel
theorem hold_off (h : Hold) : decide (h.str = ("off" : Str)) = decide (h = .off) := by cases h <;> decide +kernel
theorem mode_more (h : Mode) : decide (h.str = ("more" : Str)) = decide (h = .more) := by cases h <;> decide +kernel
theorem mode_push (h : Mode) : decide (h.str = ("push" : Str)) = decide (h = .push) := by cases h <;> decide +kernel
def encP (p : Parts) : PyData := .tuple [.int p.rest, .bool p.kept, .bool p.blocked, .bool p.stuck, .int p.pending, .int p.quick]
def encR (r : Rules) : PyData := .tuple [.int r.size, .str r.hold.str, .int r.every]

def atA : List AV → Nat → Option AV
  | [], _ => none
  | a :: _, 0 => some a
  | _ :: r, i + 1 => atA r i
def startA (N : List Str) (as : List AV) : En := ⟨N.length, atA as⟩
theorem env_start {P : Program} {w : World} {K : PySem.W.Frag} {C : Cl P w} {Hd H : Hp} {vs : List V} {as : List AV} (N : List Str) (hl : vs.length ≤ N.length) (h : VRs K C Hd H vs as) : EnvR K C Hd H (L2.start N vs) (startA N as) := by
  refine ⟨by unfold L2.start startA; rw [List.length_append, List.length_map, List.length_replicate]; show _ = N.length; omega, fun i o q => ?_⟩
  show VO K C Hd H o ((atA as i).getD .unk)
  unfold L2.start at q
  revert q
  generalize N.length - vs.length = n
  induction h generalizing i with
  | nil =>
    intro q
    have : o = none := by
      rw [List.map_nil, List.nil_append] at q
      exact (List.eq_of_mem_replicate (List.mem_of_getElem? q))
    subst this
    trivial
  | @cons a b l1 l2 r t ih =>
    intro q
    cases i with
    | zero => cases q; exact r
    | succ j => exact ih (by simp at hl ⊢; omega) j (by simpa using q)
section
variable {P : Program} {w : World} {K : PySem.W.Frag} {mg : Str → Option Value} {base : Heap} {C : Cl P w}
theorem okD {x qual : Str} {st : Stmt} {f : Addr} {fd : FuncData} {N ps : List Str} {k : Nat} {F : List AV → (AV → Prop) → Prop} (Fn : Fun K x qual st f fd) (S : FnScope N ps (defScope st)) (hl : ∀ as Pr, F as Pr → as.length = ps.length)
    (hbody : ∀ (cdv : Value) (A : Around) (outer : List Env) (s : Shared) (H : Hp) (vs : List V) (E : XK), Room k (A.deeper (envOfC qual (defScope st) s.heap.objs.size f cdv)) →
      ∃ t, PSs (cxOf CX0 P w K mg base N qual (defScope st) f cdv A outer s H E).nox (defBody st) t ∧
        ∀ (Hd : Hp) (as : List AV) (Pr : AV → Prop) (Q : VK) (σ : L2.St), F as Pr → Wx K C Hd H Hd H σ (startA N as) → (∀ v a Hd' H', Pr a → Xt Hd H Hd' H' → VR K C Hd' H' v a → Q v H') → t { nx := fun _ H' => Q .non H', rt := Q } σ H) :
    FnOk P w K mg base CX0 (k + 1) f fd ps (SpD K C F) := by
  refine Fn.ok S (spd_len hl) fun cdv A outer s H vs Q E hr h => ?_
  obtain ⟨Hd, as, Pr, hF, hd, hv, q⟩ := h
  obtain ⟨t, h1, h2⟩ := hbody cdv A outer s H vs E hr
  have hlen : vs.length ≤ N.length := by
    rw [Paired.length hv, hl as Pr hF]
    have := congrArg List.length S.pre
    rw [List.length_take] at this
    omega
  exact ⟨t, h1, h2 Hd as Pr Q _ hF ⟨Xt.refl hd, env_start N hlen hv⟩ q⟩
end
section
variable {P : Program} {w : World} {K : PySem.W.Frag} {C : Cl P w} {Hd0 H0 Hd H : Hp} {σ : L2.St} {ρ ρ' : En} {t : TT} {t1 t2 tz : TS} {ta tb : TE} {D : Ends}
theorem ev_ifI {p : Prop} [Decidable p] {x y : Int} (h : EvT K C t ρ (decide p)) (h1 : p → Ev K C ta ρ (.d (.int x))) (h2 : ¬ p → Ev K C tb ρ (.d (.int y))) : Ev K C (tIf t ta tb) ρ (.d (.int (if p then x else y))) :=
  ev_if h (fun e => by rw [if_pos (of_decide_eq_true e)]; exact h1 (of_decide_eq_true e)) (fun e => by rw [if_neg (of_decide_eq_false e)]; exact h2 (of_decide_eq_false e))
theorem Wx.cast (w : Wx K C Hd0 H0 Hd H σ ρ) (e : ρ = ρ') : Wx K C Hd0 H0 Hd H σ ρ' := e ▸ w
theorem Wx.qwhen {b : Bool} (w : Wx K C Hd0 H0 Hd H σ ρ) (h : EvT K C t ρ b) (h1 : b = true → ∀ Hd' H', Xt Hd H Hd' H' → Wx K C Hd0 H0 Hd' H' σ ρ → t1 { D with nx := tz D } σ H') (h2 : b = false → ∀ Hd' H', Xt Hd H Hd' H' → Wx K C Hd0 H0 Hd' H' σ ρ → tz D σ H') : tSeq (tIfS t t1 tNext) tz D σ H :=
  w.qif h h1 h2
/-- behind an if the ways meet again -/
def Mid {P : Program} {w : World} (K : PySem.W.Frag) (C : Cl P w) (Hd0 H0 Hd H : Hp) (ρ' : En) : L2.St → Hp → Prop := fun σ' H' => ∃ Hd', Xt Hd H Hd' H' ∧ Wx K C Hd0 H0 Hd' H' σ' ρ'
theorem Wx.mid {Hd1 H1 : Hp} {σ1 : L2.St} {ρ1 : En} (w : Wx K C Hd0 H0 Hd1 H1 σ1 ρ1) (x : Xt Hd H Hd1 H1) (e : ρ1 = ρ') : Mid K C Hd0 H0 Hd H ρ' σ1 H1 := ⟨Hd1, x, w.cast e⟩
theorem Wx.qcut {b : Bool} (ρ' : En) (w : Wx K C Hd0 H0 Hd H σ ρ) (h : EvT K C t ρ b) (h1 : b = true → ∀ Hd' H', Xt Hd H Hd' H' → Wx K C Hd0 H0 Hd' H' σ ρ → t1 { D with nx := Mid K C Hd0 H0 Hd H ρ' } σ H')
    (h2 : b = false → ∀ Hd' H', Xt Hd H Hd' H' → Wx K C Hd0 H0 Hd' H' σ ρ → t2 { D with nx := Mid K C Hd0 H0 Hd H ρ' } σ H') (k : ∀ σ' Hd' H', Xt Hd H Hd' H' → Wx K C Hd0 H0 Hd' H' σ' ρ' → tz D σ' H') : Evl.tCut (tIfS t t1 t2) tz D σ H :=
  ⟨Mid K C Hd0 H0 Hd H ρ', w.if_ (D := { D with nx := Mid K C Hd0 H0 Hd H ρ' }) h h1 h2, fun σ' H' ⟨Hd', x, w'⟩ => k σ' Hd' H' x w'⟩
/-- .. where the ways are told to meet at a state that depends on the answer -/
theorem Wx.qcutF {b : Bool} (f : Bool → En) (w : Wx K C Hd0 H0 Hd H σ ρ) (h : EvT K C t ρ b) (h1 : b = true → ∀ Hd' H', Xt Hd H Hd' H' → Wx K C Hd0 H0 Hd' H' σ ρ → t1 { D with nx := Mid K C Hd0 H0 Hd H (f true) } σ H')
    (h2 : b = false → ∀ Hd' H', Xt Hd H Hd' H' → Wx K C Hd0 H0 Hd' H' σ ρ → t2 { D with nx := Mid K C Hd0 H0 Hd H (f false) } σ H') (k : ∀ σ' Hd' H', Xt Hd H Hd' H' → Wx K C Hd0 H0 Hd' H' σ' (f b) → tz D σ' H') : Evl.tCut (tIfS t t1 t2) tz D σ H := by
  cases b with
  | true => exact w.qcut (f true) h h1 (fun z => nomatch z) k
  | false => exact w.qcut (f false) h (fun z => nomatch z) h2 k
def updA (ρ : En) : List (Nat × AV) → En
  | [] => ρ
  | (i, a) :: r => updA (ρ.set i a) r
theorem Wx.qcutU {b : Bool} (us : List (Nat × AV)) (w : Wx K C Hd0 H0 Hd H σ ρ) (h : EvT K C t ρ b) (h1 : b = true → ∀ Hd' H', Xt Hd H Hd' H' → Wx K C Hd0 H0 Hd' H' σ ρ → t1 { D with nx := Mid K C Hd0 H0 Hd H (updA ρ us) } σ H')
    (h2 : b = false → ρ = updA ρ us) (k : ∀ σ' Hd' H', Xt Hd H Hd' H' → Wx K C Hd0 H0 Hd' H' σ' (updA ρ us) → tz D σ' H') : Evl.tCut (tIfS t t1 tNext) tz D σ H :=
  w.qcut (updA ρ us) h h1 (fun e Hd' H' x w' => w'.mid x (h2 e)) k
theorem self1 {i : Nat} {a : AV} (h : ρ.f i = some a) : ρ = ρ.set i a := (En.set_self h).symm
theorem self2 {i j : Nat} {a b : AV} (h : ρ.f i = some a) (h2 : ρ.f j = some b) : ρ = (ρ.set i a).set j b := by
  rw [En.set_self h, En.set_self h2]
theorem self3 {i j k : Nat} {a b c : AV} (h : ρ.f i = some a) (h2 : ρ.f j = some b) (h3 : ρ.f k = some c) : ρ = ((ρ.set i a).set j b).set k c := by
  rw [En.set_self h, En.set_self h2, En.set_self h3]
end
/-- a name of the module that holds a value -/
def GV (mg : Str → Option Value) (x : Str) (v : V) : Prop := ∃ u, mg x = some u ∧ RelV v u
theorem peG {X : Cx} {x : Str} {v : V} {pos : Pos} (hg : Gl X x) (h : GV X.mg x v) (hd : (x == ("__debug__" : Str)) = false := by decide) : PE X (.Name x pos) (tC v) := by
  obtain ⟨u, hm, r⟩ := h
  exact pe_glob hg hm r hd
/-- what the module's top has left -/
structure Txt {P : Program} {w : World} (K : PySem.W.Frag) (mg : Str → Option Value) (C : Cl P w) : Prop where
  n_min : mg "min" = none
  n_max : mg "max" = none
  n_divmod : mg "divmod" = none
  n_range : mg "range" = none
  n_len : mg "len" = none
  n_abs : mg "abs" = none
  n_int : mg "int" = none
  n_bool : mg "bool" = none
  n_str : mg "str" = none
  n_tuple : mg "tuple" = none
  n_list : mg "list" = none
  n_isinstance : mg "isinstance" = none
  n_enumerate : mg "enumerate" = none
  n_zip : mg "zip" = none
  n_all : mg "all" = none
  g_MOST_EVERY : GV mg "MOST_EVERY" (.int 9)
  g_MOST_QUICK : GV mg "MOST_QUICK" (.int 4)
  g_MOST_SIZE : GV mg "MOST_SIZE" (.int 1000000000000000000)
  g_MOST_WRITES : GV mg "MOST_WRITES" (.int 200)
  g_MOST_LENGTH : GV mg "MOST_LENGTH" (.int 1000000000000000000)
  g_MODES : GV mg "MODES" (.ref C.modes)
  modes : SqT K (fun _ => none) C.modes [.str "plain", .str "push", .str "more"]
  g_Policy : mg "Policy" = some (.ref C.pol)
  g_Setting : mg "Setting" = some (.ref C.set)
  g_Outcome : mg "Outcome" = some (.ref C.out)
  clP : Cls K C.pol
  clS : Cls K C.set
  clO : Cls K C.out
  nP_hold : NoAttr K C.pol "hold"
  nP_every : NoAttr K C.pol "every"
  nP_quick : NoAttr K C.pol "quick"
  nS_size : NoAttr K C.set "size"
  nS_policies : NoAttr K C.set "policies"
  nO_stalls : NoAttr K C.out "stalls"
  nO_segments : NoAttr K C.out "segments"
  nO_acks : NoAttr K C.out "acknowledgments"
  nO_stalled : NoAttr K C.out "stalled"
def SetD.pol (s : SetD) (e : Int) : PolD := if e = 0 then s.p0 else s.p1
section
variable {P : Program} {w : World} {K : PySem.W.Frag} {mg : Str → Option Value} {C : Cl P w} {ρ : En} {ta tb : TE}
theorem ev_size (T : Txt K mg C) {s : SetD} (h : Ev K C ta ρ (.set s)) : Ev K C (tFld K ta "size") ρ (.d (.int s.size)) := fun Hd H σ x r Q q => h Hd H σ x r _ fun v Hd1 H1 x1 ⟨a, dx, fs, t, v0, v1, h1, h2, h3, _⟩ =>
  ⟨a, _, dx, fs, _, h1, x1.dh _ _ h2, T.clS, T.nS_size, h3, q _ Hd1 H1 x1 (Dp.int _)⟩
theorem ev_polix (T : Txt K mg C) {s : SetD} {i : Int} (h : Ev K C ta ρ (.set s)) (hb : Ev K C tb ρ (.d (.int i))) (hi : i = 0 ∨ i = 1) : Ev K C (tOp (rIxT K) (tFld K ta "policies") tb) ρ (.pol (s.pol i)) := fun Hd H σ x r Q q => h Hd H σ x r _ fun v Hd1 H1 x1 ⟨a, dx, fs, t, v0, v1, h1, h2, h3, h4, h5, h6, h7⟩ =>
  ⟨a, _, dx, fs, _, h1, x1.dh _ _ h2, T.clS, T.nS_policies, h4, hb Hd1 H1 σ x1.dh (r.xt x1) _ fun u Hd2 H2 x2 hu => by
    cases dp_int_inv hu
    rcases hi with rfl | rfl
    · exact ⟨t, _, 0, v0, rfl, rfl, ex_t (x1.dh.trans x2.h) h5, rfl, q _ Hd2 H2 (x1.trans x2) (h6.ex x2.d)⟩
    · exact ⟨t, _, 1, v1, rfl, rfl, ex_t (x1.dh.trans x2.h) h5, rfl, q _ Hd2 H2 (x1.trans x2) (h7.ex x2.d)⟩⟩
theorem ev_hold (T : Txt K mg C) {p : PolD} (h : Ev K C ta ρ (.pol p)) : Ev K C (tFld K ta "hold") ρ (.d (.str p.hold.str)) := fun Hd H σ x r Q q => h Hd H σ x r _ fun v Hd1 H1 x1 ⟨a, dx, fs, h1, h2, h3, h4, h5⟩ =>
  ⟨a, _, dx, fs, _, h1, x1.dh _ _ h2, T.clP, T.nP_hold, h3, q _ Hd1 H1 x1 (Dp.str _)⟩
theorem ev_every (T : Txt K mg C) {p : PolD} (h : Ev K C ta ρ (.pol p)) : Ev K C (tFld K ta "every") ρ (.d (.int p.every)) := fun Hd H σ x r Q q => h Hd H σ x r _ fun v Hd1 H1 x1 ⟨a, dx, fs, h1, h2, h3, h4, h5⟩ =>
  ⟨a, _, dx, fs, _, h1, x1.dh _ _ h2, T.clP, T.nP_every, h4, q _ Hd1 H1 x1 (Dp.int _)⟩
theorem ev_quick (T : Txt K mg C) {p : PolD} (h : Ev K C ta ρ (.pol p)) : Ev K C (tFld K ta "quick") ρ (.d (.int p.quick)) := fun Hd H σ x r Q q => h Hd H σ x r _ fun v Hd1 H1 x1 ⟨a, dx, fs, h1, h2, h3, h4, h5⟩ =>
  ⟨a, _, dx, fs, _, h1, x1.dh _ _ h2, T.clP, T.nP_quick, h5, q _ Hd1 H1 x1 (Dp.int _)⟩
end
section
variable {P : Program} {w : World} {K : PySem.W.Frag} {C : Cl P w} {Hd0 H0 Hd H : Hp} {σ : L2.St} {ρ ρ' : En} {t : TT} {t1 t2 tz tu : TS} {ta tb te : TE} {D : Ends}
/-- ρ' tells no more than ρ of the first n slots -/
def LeN (ρ' ρ : En) : Nat → Prop
  | 0 => True
  | n + 1 => LeN ρ' ρ n ∧ (ρ'.f n = none ∨ ρ'.f n = some .unk ∨ ρ'.f n = ρ.f n)
theorem LeN.at_ : ∀ {n i : Nat}, LeN ρ' ρ n → i < n → ρ'.f i = none ∨ ρ'.f i = some .unk ∨ ρ'.f i = ρ.f i
  | n + 1, i, h, hi => by
    by_cases e : i = n
    · subst e; exact h.2
    · exact LeN.at_ h.1 (by omega)
def En.le (ρ' ρ : En) : Prop := ρ'.n = ρ.n ∧ LeN ρ' ρ ρ'.n
theorem EnvR.le (h : EnvR K C Hd H σ ρ) (e : En.le ρ' ρ) : EnvR K C Hd H σ ρ' := by
  refine ⟨h.len.trans e.1.symm, fun i o q => ?_⟩
  have hi : i < ρ'.n := by rw [e.1, ← h.len]; exact (List.getElem?_eq_some_iff.mp q).1
  have g := h.at_ i o q
  unfold En.g at g ⊢
  rcases e.2.at_ hi with z | z | z
  · rw [z]; exact VO.unk
  · rw [z]; exact VO.unk
  · rw [z]; exact g
theorem Wx.le (w : Wx K C Hd0 H0 Hd H σ ρ) (e : En.le ρ' ρ) : Wx K C Hd0 H0 Hd H σ ρ' := ⟨w.x, w.env.le e⟩
theorem Wx.midl {Hd1 H1 : Hp} {σ1 : L2.St} {ρ1 : En} (w : Wx K C Hd0 H0 Hd1 H1 σ1 ρ1) (x : Xt Hd H Hd1 H1) (e : En.le ρ' ρ1) : Mid K C Hd0 H0 Hd H ρ' σ1 H1 := ⟨Hd1, x, w.le e⟩
/-- the slots by a list -/
def ls (as : List AV) : En := ⟨as.length, atA as⟩
theorem Wx.qforR {n : Int} {j : Nat} {tl : TA} (w : Wx K C Hd0 H0 Hd H σ ρ) (h : EvL K C tl ρ [.d (.int n)]) (hn : 0 ≤ n ∧ n ≤ 100000) (I : Nat → En) (h0 : En.le (I 0) ρ)
    (hs : ∀ (i : Nat) σ' Hd' H', (i : Int) < n → Xt Hd H Hd' H' → Wx K C Hd0 H0 Hd' H' σ' ((I i).set j (.d (.int i))) → tu { D with nx := Mid K C Hd0 H0 Hd H (I (i + 1)), ct := Mid K C Hd0 H0 Hd H (I (i + 1)), bk := tz D } σ' H')
    (hd : ∀ σ' Hd' H', Xt Hd H Hd' H' → Wx K C Hd0 H0 Hd' H' σ' (I n.toNat) → tz D σ' H') : tSeq (tFor (iRng1 tl) (gName j) tu) tz D σ H :=
  h Hd H σ w.x.dh w.env _ fun vs Hd1 H1 x1 hv => by
    obtain ⟨v, rfl, hv1⟩ := vrs1 hv
    refine ⟨n, by rw [dp_int_inv hv1], by omega, by omega, for_range (lo := 0) (n := n.toNat) (fun i σ' H' => Mid K C Hd0 H0 Hd H (I i) σ' H') ⟨Hd1, x1, ⟨w.x.trans x1, (w.env.xt x1).le h0⟩⟩ (fun i σ' H' hi p => ?_) fun σ' H' ⟨Hd', x', w'⟩ => hd σ' Hd' H' x' w'⟩
    obtain ⟨Hd', x', w'⟩ := p
    have e0 : (0 : Int) + (i : Int) = (i : Int) := Int.zero_add _
    show tu _ (σ'.set j (some (.int ((0 : Int) + (i : Int))))) H'
    rw [e0]
    exact hs i _ Hd' H' (by omega) x' ⟨w'.x, w'.env.set (a := .d (.int i)) (Dp.int _) j⟩
theorem Wx.qasg2 {i j : Nat} {a : AV} (w : Wx K C Hd0 H0 Hd H σ ρ) (h : Ev K C te ρ a) (k : ∀ σ' Hd' H', Xt Hd H Hd' H' → Wx K C Hd0 H0 Hd' H' σ' ((ρ.set i a).set j a) → tz D σ' H') : tSeq (tAsg2 te (gName i) (gName j)) tz D σ H :=
  h Hd H σ w.x.dh w.env _ fun v Hd1 H1 x1 h1 => k _ Hd1 H1 x1 ⟨w.x.trans x1, ((w.env.xt x1).set h1 i).set h1 j⟩
theorem ev_callE {a : AV} {as as' : List AV} {F : List AV → (AV → Prop) → Prop} {E : XK} {tl : TA} (h : EvL K C tl ρ as) (e : as = as') (hF : F as' (fun b => b = a)) : Ev K C (tCall (SpD K C F) [] E tl) ρ a := ev_call h (e ▸ hF)
theorem evp_callE {Pr : AV → Prop} {as as' : List AV} {F : List AV → (AV → Prop) → Prop} {E : XK} {tl : TA} (h : EvL K C tl ρ as) (e : as = as') (hF : F as' Pr) : EvP K C (tCall (SpD K C F) [] E tl) ρ Pr := evp_call h (e ▸ hF)
end
end LW

set_option Elab.async false
set_option linter.all false
set_option maxRecDepth 100000
set_option maxHeartbeats 4000000
/-! loops, comprehensions, isinstance, chains over the data layer -/
namespace LW
open PySem PySem.Spec PyProof.Rows L2 Evl
section
variable {P : Program} {w : World} {K : PySem.W.Frag} {C : Cl P w} {Hd0 H0 Hd H Hd1 H1 Hd' H' Hb : Hp} {σ : L2.St} {ρ ρ' : En} {t : TT} {t1 t2 tz tu : TS} {ta tb tc te : TE} {tl : TA} {D : Ends} {ds es : List PyData}
/-! isinstance -/
def tyName : PyData → String
  | .none => "NoneType"
  | .bool _ => "bool"
  | .int _ => "int"
  | .str _ => "str"
  | .list _ => "list"
  | .tuple _ => "tuple"
  | .dict _ => "dict"
theorem ty_of (e : Ex Hd H) {v : V} {d : PyData} (h : Dp K Hd v d) : TyX K H v (.type (tyName d)) := by
  cases h with
  | non => exact .base .non
  | bl b => exact .base (.bl b)
  | int i => exact .base (.int i)
  | str x => exact .base (.str x)
  | lst hs _ =>
    rcases hs with (h | ⟨o, h⟩) | ⟨o, its, n, h1, h2, _⟩
    · exact .base (.lst (e _ _ h))
    · exact .base (.frz (e _ _ h))
    · exact .kList h1 h2
  | tup hs _ =>
    rcases hs with (h | ⟨o, h⟩) | ⟨o, its, n, h1, h2, _⟩
    · exact .base (.tup (e _ _ h))
    · exact .fTuple (e _ _ h)
    · exact .kTuple h1 h2
theorem ev_isi {d : PyData} {T : String} {b : Bool} (h : Ev K C ta ρ (.d d)) (hk : kitB (tyName d) T = some b) : Ev K C (tCB (rIsi K) (tCons ta (tCons (tC (.ty T)) tNil))) ρ (.d (.bool b)) := fun Hd H σ x r Q q =>
  h Hd H σ x r _ fun v Hd1 H1 x1 h1 => ⟨v, .ty T, _, .type T, b, rfl, .ty T, ty_of x1.dh h1, kit_ty hk, q _ Hd1 H1 x1 (Dp.bl b)⟩
theorem kt_int_int : kitB "int" "int" = some true := by decide +kernel
theorem kt_int_bool : kitB "int" "bool" = some false := by decide +kernel
theorem kt_tuple : kitB "tuple" "tuple" = some true := by decide +kernel
theorem kt_list : kitB "list" "list" = some true := by decide +kernel
theorem kt_str : kitB "str" "str" = some true := by decide +kernel
theorem kt_list_str : kitB "list" "str" = some false := by decide +kernel
/-! a < b < c -/
theorem ev_chain {g g' : Int → Int → Bool} {i j k : Int} (ha : Ev K C ta ρ (.d (.int i))) (hb : Ev K C tb ρ (.d (.int j))) (hc : Ev K C tc ρ (.d (.int k))) :
    Ev K C (tChain (rI0 fun i j => .bl (g i j)) (rI0 fun i j => .bl (g' i j)) ta tb tc) ρ (.d (.bool (g i j && g' j k))) := fun Hd H σ x r Q q =>
  ha Hd H σ x r _ fun v Hd1 H1 x1 h1 => hb Hd1 H1 σ x1.dh (r.xt x1) _ fun u Hd2 H2 x2 h2 => ⟨i, j, dp_int_inv h1, dp_int_inv h2, g i j, rfl, by
    cases hg : g i j with
    | false => exact q _ Hd2 H2 (x1.trans x2) (by rw [hg]; exact Dp.bl false)
    | true => exact hc Hd2 H2 σ x2.dh (r.xt (x1.trans x2)) _ fun z Hd3 H3 x3 h3 => ⟨j, k, dp_int_inv h2, dp_int_inv h3, q _ Hd3 H3 ((x1.trans x2).trans x3) (by rw [hg]; exact Dp.bl _)⟩⟩

/-! ### loops -/
def LS (K : PySem.W.Frag) (C : Cl P w) (Hd0 H0 Hb : Hp) (R : En → Prop) : L2.St → Hp → Prop := fun σ' H' => ∃ Hd' ρ', Ex Hb Hd' ∧ Wx K C Hd0 H0 Hd' H' σ' ρ' ∧ R ρ'
theorem Wx.ls {R : En → Prop} (w : Wx K C Hd0 H0 Hd H σ ρ) (e : Ex Hb Hd) (hle : En.le ρ' ρ) (r : R ρ') : LS K C Hd0 H0 Hb R σ H := ⟨Hd, ρ', e, w.le hle, r⟩
theorem LS.base {R : En → Prop} (e : Ex Hb Hd') (h : LS K C Hd0 H0 Hd' R σ H) : LS K C Hd0 H0 Hb R σ H := let ⟨Hd2, ρ2, e2, w2, r2⟩ := h; ⟨Hd2, ρ2, e.trans e2, w2, r2⟩
/-- for j1, j2 in enumerate(list) -/
theorem Wx.forE {j1 j2 : Nat} (w : Wx K C Hd0 H0 Hd H σ ρ) (h : EvL K C tl ρ [.d (.list ds)]) (R : Nat → En → Prop) (ρ0 : En) (hle : En.le ρ0 ρ) (h0 : R 0 ρ0)
    (hs : ∀ (i : Nat) d Hb' Hd' H' σ' ρ', ds[i]? = some d → R i ρ' → Ex Hb' Hd' → Wx K C Hd0 H0 Hd' H' σ' ((ρ'.set j1 (.d (.int i))).set j2 (.d d)) → tu { D with nx := LS K C Hd0 H0 Hb' (R (i + 1)), ct := LS K C Hd0 H0 Hb' (R (i + 1)), bk := D.nx } σ' H')
    (hd : ∀ σ' Hd' H' ρ', Ex Hd Hd' → Wx K C Hd0 H0 Hd' H' σ' ρ' → R ds.length ρ' → D.nx σ' H') : tFor (iEnum K tl) (gTup K 2 (gCons (gName j1) (gCons (gName j2) gNil))) tu D σ H :=
  h Hd H σ w.x.dh w.env _ fun vs Hd1 H1 x1 hv => by
    obtain ⟨v, rfl, hv1⟩ := vrs1 hv
    obtain ⟨a, xs, rfl, hs1, hs2⟩ := dp_lst_inv hv1
    have hl := dpall_len hs2
    refine ⟨a, xs, rfl, ex_l x1.dh hs1, for_it walk_enum (fun i σ' H' => LS K C Hd0 H0 Hd1 (R i) σ' H') ⟨Hd1, ρ0, Ex.refl _, Wx.le ⟨w.x.trans x1, w.env.xt x1⟩ hle, h0⟩ (fun i σ' H' hi ⟨Hd', ρ', e, w', _⟩ => ex_l (e.trans w'.x.dh) hs1) ?_ fun σ' H' ⟨Hd', ρ', e, w', r⟩ => hd σ' Hd' H' ρ' (x1.d.trans e) w' (hl ▸ r)⟩
    rintro i x σ' H' H'' hi ⟨Hd', ρ', e, w', r⟩ ⟨T, y1, y2, rfl, hT, rfl, e1, e2⟩
    cases e1
    have e2 : xs[i]? = some y2 := e2
    obtain ⟨d, hd1, hd2⟩ : ∃ d, ds[i]? = some d ∧ Dp K Hd' y2 d := by
      have hi' : i < ds.length := by rw [← hl]; exact hi
      obtain ⟨v, q1, q2⟩ := dpall_get hs2 (List.getElem?_eq_getElem hi')
      rw [e2] at q1
      cases q1
      exact ⟨_, List.getElem?_eq_getElem hi', dp_ex e _ _ q2⟩
    have x2 : Xt Hd' H' Hd' (upd H' T (.tup [.int (i : Nat), y2])) := ⟨Ex.refl _, Ex.new hT, ex_mut w'.x.dh (free_of w'.x.dh hT), fun _ _ _ => rfl⟩
    refine ⟨T, _, rfl, SqT.of upd_same, rfl, _, _, rfl, _, _, rfl, rfl, ?_⟩
    have w2 : Wx K C Hd0 H0 Hd' (upd H' T (.tup [.int (i : Nat), y2])) ((σ'.set j1 (some (.int i))).set j2 (some y2)) ((ρ'.set j1 (.d (.int i))).set j2 (.d d)) := ⟨w'.x.trans x2, ((w'.env.xt x2).set (a := .d (.int i)) (Dp.int _) j1).set (a := .d d) hd2 j2⟩
    exact hs i d Hd1 Hd' _ _ ρ' hd1 r e w2
theorem Wx.qforE {j1 j2 : Nat} (w : Wx K C Hd0 H0 Hd H σ ρ) (h : EvL K C tl ρ [.d (.list ds)]) (R : Nat → En → Prop) (ρ0 : En) (hle : En.le ρ0 ρ) (h0 : R 0 ρ0)
    (hs : ∀ (i : Nat) d Hb' Hd' H' σ' ρ', ds[i]? = some d → R i ρ' → Ex Hb' Hd' → Wx K C Hd0 H0 Hd' H' σ' ((ρ'.set j1 (.d (.int i))).set j2 (.d d)) → tu { D with nx := LS K C Hd0 H0 Hb' (R (i + 1)), ct := LS K C Hd0 H0 Hb' (R (i + 1)), bk := tz D } σ' H')
    (hd : ∀ σ' Hd' H' ρ', Ex Hd Hd' → Wx K C Hd0 H0 Hd' H' σ' ρ' → R ds.length ρ' → tz D σ' H') : tSeq (tFor (iEnum K tl) (gTup K 2 (gCons (gName j1) (gCons (gName j2) gNil))) tu) tz D σ H := w.forE (D := { D with nx := tz D }) h R ρ0 hle h0 hs hd
/-- for j1, (is) in enumerate(list of tuples) -/
theorem Wx.forEN {j1 : Nat} {is : List Nat} {n : Nat} (w : Wx K C Hd0 H0 Hd H σ ρ) (h : EvL K C tl ρ [.d (.list ds)]) (hn : n = is.length) (f : PyData → List PyData) (hf : ∀ d ∈ ds, d = .tuple (f d) ∧ (f d).length = is.length) (R : Nat → En → Prop) (ρ0 : En) (hle : En.le ρ0 ρ) (h0 : R 0 ρ0)
    (hs : ∀ (i : Nat) d Hb' Hd' H' σ' ρ', ds[i]? = some d → R i ρ' → Ex Hb' Hd' → Wx K C Hd0 H0 Hd' H' σ' (setsA (ρ'.set j1 (.d (.int i))) is (f d)) → tu { D with nx := LS K C Hd0 H0 Hb' (R (i + 1)), ct := LS K C Hd0 H0 Hb' (R (i + 1)), bk := D.nx } σ' H')
    (hd : ∀ σ' Hd' H' ρ', Ex Hd Hd' → Wx K C Hd0 H0 Hd' H' σ' ρ' → R ds.length ρ' → D.nx σ' H') : tFor (iEnum K tl) (gTup K 2 (gCons (gName j1) (gCons (gTup K n (gNames is)) gNil))) tu D σ H :=
  h Hd H σ w.x.dh w.env _ fun vs Hd1 H1 x1 hv => by
    obtain ⟨v, rfl, hv1⟩ := vrs1 hv
    obtain ⟨a, xs, rfl, hs1, hs2⟩ := dp_lst_inv hv1
    have hl := dpall_len hs2
    refine ⟨a, xs, rfl, ex_l x1.dh hs1, for_it walk_enum (fun i σ' H' => LS K C Hd0 H0 Hd1 (R i) σ' H') ⟨Hd1, ρ0, Ex.refl _, Wx.le ⟨w.x.trans x1, w.env.xt x1⟩ hle, h0⟩ (fun i σ' H' hi ⟨Hd', ρ', e, w', _⟩ => ex_l (e.trans w'.x.dh) hs1) ?_ fun σ' H' ⟨Hd', ρ', e, w', r⟩ => hd σ' Hd' H' ρ' (x1.d.trans e) w' (hl ▸ r)⟩
    rintro i x σ' H' H'' hi ⟨Hd', ρ', e, w', r⟩ ⟨T, y1, y2, rfl, hT, rfl, e1, e2⟩
    cases e1
    have e2 : xs[i]? = some y2 := e2
    obtain ⟨d, hd1, hd2⟩ : ∃ d, ds[i]? = some d ∧ Dp K Hd' y2 d := by
      have hi' : i < ds.length := by rw [← hl]; exact hi
      obtain ⟨v, q1, q2⟩ := dpall_get hs2 (List.getElem?_eq_getElem hi')
      rw [e2] at q1
      cases q1
      exact ⟨_, List.getElem?_eq_getElem hi', dp_ex e _ _ q2⟩
    obtain ⟨f1, f2⟩ := hf d (List.mem_of_getElem? hd1)
    rw [f1] at hd2
    obtain ⟨p, us, rfl, p1, p2⟩ := dp_tup_inv hd2
    have x2 : Xt Hd' H' Hd' (upd H' T (.tup [.int (i : Nat), .ref p])) := ⟨Ex.refl _, Ex.new hT, ex_mut w'.x.dh (free_of w'.x.dh hT), fun _ _ _ => rfl⟩
    refine ⟨T, _, rfl, SqT.of upd_same, rfl, _, _, rfl, _, _, rfl, ⟨p, us, rfl, ex_t (w'.x.trans x2).dh p1, by rw [hn, dpall_len p2, f2], ?_⟩⟩
    refine names_go is f2.symm p2 ((w'.env.xt x2).set (a := .d (.int i)) (Dp.int _) j1) fun σ2 r2 => ⟨rfl, ?_⟩
    exact hs i d Hd1 Hd' _ _ ρ' hd1 r e ⟨w'.x.trans x2, r2⟩
theorem Wx.qforEN {j1 : Nat} {is : List Nat} {n : Nat} (w : Wx K C Hd0 H0 Hd H σ ρ) (h : EvL K C tl ρ [.d (.list ds)]) (hn : n = is.length) (f : PyData → List PyData) (hf : ∀ d ∈ ds, d = .tuple (f d) ∧ (f d).length = is.length) (R : Nat → En → Prop) (ρ0 : En) (hle : En.le ρ0 ρ) (h0 : R 0 ρ0)
    (hs : ∀ (i : Nat) d Hb' Hd' H' σ' ρ', ds[i]? = some d → R i ρ' → Ex Hb' Hd' → Wx K C Hd0 H0 Hd' H' σ' (setsA (ρ'.set j1 (.d (.int i))) is (f d)) → tu { D with nx := LS K C Hd0 H0 Hb' (R (i + 1)), ct := LS K C Hd0 H0 Hb' (R (i + 1)), bk := tz D } σ' H')
    (hd : ∀ σ' Hd' H' ρ', Ex Hd Hd' → Wx K C Hd0 H0 Hd' H' σ' ρ' → R ds.length ρ' → tz D σ' H') : tSeq (tFor (iEnum K tl) (gTup K 2 (gCons (gName j1) (gCons (gTup K n (gNames is)) gNil))) tu) tz D σ H := w.forEN (D := { D with nx := tz D }) h hn f hf R ρ0 hle h0 hs hd
/-- for j in list -/
theorem Wx.forL {j : Nat} (w : Wx K C Hd0 H0 Hd H σ ρ) (h : Ev K C te ρ (.d (.list ds))) (R : Nat → En → Prop) (ρ0 : En) (hle : En.le ρ0 ρ) (h0 : R 0 ρ0)
    (hs : ∀ (i : Nat) d Hb' Hd' H' σ' ρ', ds[i]? = some d → R i ρ' → Ex Hb' Hd' → Wx K C Hd0 H0 Hd' H' σ' (ρ'.set j (.d d)) → tu { D with nx := LS K C Hd0 H0 Hb' (R (i + 1)), ct := LS K C Hd0 H0 Hb' (R (i + 1)), bk := D.nx } σ' H')
    (hd : ∀ σ' Hd' H' ρ', Ex Hd Hd' → Wx K C Hd0 H0 Hd' H' σ' ρ' → R ds.length ρ' → D.nx σ' H') : tFor (iList K te) (gName j) tu D σ H :=
  h Hd H σ w.x.dh w.env _ fun v Hd1 H1 x1 hv1 => by
    obtain ⟨a, xs, rfl, hs1, hs2⟩ := dp_lst_inv hv1
    have hl := dpall_len hs2
    refine ⟨a, rfl, ⟨xs, ex_l x1.dh hs1⟩, for_it walk_list (fun i σ' H' => LS K C Hd0 H0 Hd1 (R i) σ' H') ⟨Hd1, ρ0, Ex.refl _, Wx.le ⟨w.x.trans x1, w.env.xt x1⟩ hle, h0⟩ (fun i σ' H' hi ⟨Hd', ρ', e, w', _⟩ => ex_l (e.trans w'.x.dh) hs1) ?_ fun σ' H' ⟨Hd', ρ', e, w', r⟩ => hd σ' Hd' H' ρ' (x1.d.trans e) w' (hl ▸ r)⟩
    rintro i x σ' H' H'' hi ⟨Hd', ρ', e, w', r⟩ ⟨rfl, e2⟩
    obtain ⟨d, hd1, hd2⟩ : ∃ d, ds[i]? = some d ∧ Dp K Hd' x d := by
      have hi' : i < ds.length := by rw [← hl]; exact hi
      obtain ⟨v, q1, q2⟩ := dpall_get hs2 (List.getElem?_eq_getElem hi')
      rw [e2] at q1
      cases q1
      exact ⟨_, List.getElem?_eq_getElem hi', dp_ex e _ _ q2⟩
    exact hs i d Hd1 Hd' _ _ ρ' hd1 r e ⟨w'.x, w'.env.set (a := .d d) hd2 j⟩
theorem Wx.qforL {j : Nat} (w : Wx K C Hd0 H0 Hd H σ ρ) (h : Ev K C te ρ (.d (.list ds))) (R : Nat → En → Prop) (ρ0 : En) (hle : En.le ρ0 ρ) (h0 : R 0 ρ0)
    (hs : ∀ (i : Nat) d Hb' Hd' H' σ' ρ', ds[i]? = some d → R i ρ' → Ex Hb' Hd' → Wx K C Hd0 H0 Hd' H' σ' (ρ'.set j (.d d)) → tu { D with nx := LS K C Hd0 H0 Hb' (R (i + 1)), ct := LS K C Hd0 H0 Hb' (R (i + 1)), bk := tz D } σ' H')
    (hd : ∀ σ' Hd' H' ρ', Ex Hd Hd' → Wx K C Hd0 H0 Hd' H' σ' ρ' → R ds.length ρ' → tz D σ' H') : tSeq (tFor (iList K te) (gName j) tu) tz D σ H := w.forL (D := { D with nx := tz D }) h R ρ0 hle h0 hs hd
/-- for is in list of tuples -/
theorem Wx.forLT {is : List Nat} {n : Nat} (w : Wx K C Hd0 H0 Hd H σ ρ) (h : Ev K C te ρ (.d (.list ds))) (hn : n = is.length) (f : PyData → List PyData) (hf : ∀ d ∈ ds, d = .tuple (f d) ∧ (f d).length = is.length) (R : Nat → En → Prop) (ρ0 : En) (hle : En.le ρ0 ρ) (h0 : R 0 ρ0)
    (hs : ∀ (i : Nat) d Hb' Hd' H' σ' ρ', ds[i]? = some d → R i ρ' → Ex Hb' Hd' → Wx K C Hd0 H0 Hd' H' σ' (setsA ρ' is (f d)) → tu { D with nx := LS K C Hd0 H0 Hb' (R (i + 1)), ct := LS K C Hd0 H0 Hb' (R (i + 1)), bk := D.nx } σ' H')
    (hd : ∀ σ' Hd' H' ρ', Ex Hd Hd' → Wx K C Hd0 H0 Hd' H' σ' ρ' → R ds.length ρ' → D.nx σ' H') : tFor (iList K te) (gTup K n (gNames is)) tu D σ H :=
  h Hd H σ w.x.dh w.env _ fun v Hd1 H1 x1 hv1 => by
    obtain ⟨a, xs, rfl, hs1, hs2⟩ := dp_lst_inv hv1
    have hl := dpall_len hs2
    refine ⟨a, rfl, ⟨xs, ex_l x1.dh hs1⟩, for_it walk_list (fun i σ' H' => LS K C Hd0 H0 Hd1 (R i) σ' H') ⟨Hd1, ρ0, Ex.refl _, Wx.le ⟨w.x.trans x1, w.env.xt x1⟩ hle, h0⟩ (fun i σ' H' hi ⟨Hd', ρ', e, w', _⟩ => ex_l (e.trans w'.x.dh) hs1) ?_ fun σ' H' ⟨Hd', ρ', e, w', r⟩ => hd σ' Hd' H' ρ' (x1.d.trans e) w' (hl ▸ r)⟩
    rintro i x σ' H' H'' hi ⟨Hd', ρ', e, w', r⟩ ⟨rfl, e2⟩
    obtain ⟨d, hd1, hd2⟩ : ∃ d, ds[i]? = some d ∧ Dp K Hd' x d := by
      have hi' : i < ds.length := by rw [← hl]; exact hi
      obtain ⟨v, q1, q2⟩ := dpall_get hs2 (List.getElem?_eq_getElem hi')
      rw [e2] at q1
      cases q1
      exact ⟨_, List.getElem?_eq_getElem hi', dp_ex e _ _ q2⟩
    obtain ⟨f1, f2⟩ := hf d (List.mem_of_getElem? hd1)
    rw [f1] at hd2
    obtain ⟨p, us, rfl, p1, p2⟩ := dp_tup_inv hd2
    refine ⟨p, us, rfl, ex_t w'.x.dh p1, by rw [hn, dpall_len p2, f2], names_go is f2.symm p2 w'.env fun σ2 r2 => ?_⟩
    exact hs i d Hd1 Hd' _ _ ρ' hd1 r e ⟨w'.x, r2⟩
theorem Wx.qforLT {is : List Nat} {n : Nat} (w : Wx K C Hd0 H0 Hd H σ ρ) (h : Ev K C te ρ (.d (.list ds))) (hn : n = is.length) (f : PyData → List PyData) (hf : ∀ d ∈ ds, d = .tuple (f d) ∧ (f d).length = is.length) (R : Nat → En → Prop) (ρ0 : En) (hle : En.le ρ0 ρ) (h0 : R 0 ρ0)
    (hs : ∀ (i : Nat) d Hb' Hd' H' σ' ρ', ds[i]? = some d → R i ρ' → Ex Hb' Hd' → Wx K C Hd0 H0 Hd' H' σ' (setsA ρ' is (f d)) → tu { D with nx := LS K C Hd0 H0 Hb' (R (i + 1)), ct := LS K C Hd0 H0 Hb' (R (i + 1)), bk := tz D } σ' H')
    (hd : ∀ σ' Hd' H' ρ', Ex Hd Hd' → Wx K C Hd0 H0 Hd' H' σ' ρ' → R ds.length ρ' → tz D σ' H') : tSeq (tFor (iList K te) (gTup K n (gNames is)) tu) tz D σ H := w.forLT (D := { D with nx := tz D }) h hn f hf R ρ0 hle h0 hs hd
/-- for j in range(n) -/
theorem Wx.forR {n : Int} {j : Nat} (w : Wx K C Hd0 H0 Hd H σ ρ) (h : EvL K C tl ρ [.d (.int n)]) (hn : n ≤ 100000 ∧ -100000 ≤ n) (R : Nat → En → Prop) (ρ0 : En) (hle : En.le ρ0 ρ) (h0 : R 0 ρ0)
    (hs : ∀ (i : Nat) Hb' Hd' H' σ' ρ', (i : Int) < n → R i ρ' → Ex Hb' Hd' → Wx K C Hd0 H0 Hd' H' σ' (ρ'.set j (.d (.int i))) → tu { D with nx := LS K C Hd0 H0 Hb' (R (i + 1)), ct := LS K C Hd0 H0 Hb' (R (i + 1)), bk := D.nx } σ' H')
    (hd : ∀ σ' Hd' H' ρ', Ex Hd Hd' → Wx K C Hd0 H0 Hd' H' σ' ρ' → R n.toNat ρ' → D.nx σ' H') : tFor (iRng1 tl) (gName j) tu D σ H :=
  h Hd H σ w.x.dh w.env _ fun vs Hd1 H1 x1 hv => by
    obtain ⟨v, rfl, hv1⟩ := vrs1 hv
    refine ⟨n, by rw [dp_int_inv hv1], by omega, by omega, for_range (lo := 0) (n := n.toNat) (fun i σ' H' => LS K C Hd0 H0 Hd1 (R i) σ' H') ⟨Hd1, ρ0, Ex.refl _, Wx.le ⟨w.x.trans x1, w.env.xt x1⟩ hle, h0⟩ (fun i σ' H' hi ⟨Hd', ρ', e, w', r⟩ => ?_) fun σ' H' ⟨Hd', ρ', e, w', r⟩ => hd σ' Hd' H' ρ' (x1.d.trans e) w' r⟩
    have e0 : (0 : Int) + (i : Int) = (i : Int) := Int.zero_add _
    show tu _ (σ'.set j (some (.int ((0 : Int) + (i : Int))))) H'
    rw [e0]
    exact hs i Hd1 Hd' _ _ ρ' (by omega) r e ⟨w'.x, w'.env.set (a := .d (.int i)) (Dp.int _) j⟩
theorem Wx.qforRR {n : Int} {j : Nat} (w : Wx K C Hd0 H0 Hd H σ ρ) (h : EvL K C tl ρ [.d (.int n)]) (hn : n ≤ 100000 ∧ -100000 ≤ n) (R : Nat → En → Prop) (ρ0 : En) (hle : En.le ρ0 ρ) (h0 : R 0 ρ0)
    (hs : ∀ (i : Nat) Hb' Hd' H' σ' ρ', (i : Int) < n → R i ρ' → Ex Hb' Hd' → Wx K C Hd0 H0 Hd' H' σ' (ρ'.set j (.d (.int i))) → tu { D with nx := LS K C Hd0 H0 Hb' (R (i + 1)), ct := LS K C Hd0 H0 Hb' (R (i + 1)), bk := tz D } σ' H')
    (hd : ∀ σ' Hd' H' ρ', Ex Hd Hd' → Wx K C Hd0 H0 Hd' H' σ' ρ' → R n.toNat ρ' → tz D σ' H') : tSeq (tFor (iRng1 tl) (gName j) tu) tz D σ H := w.forR (D := { D with nx := tz D }) h hn R ρ0 hle h0 hs hd
/-- for j in range(lo, n) -/
theorem Wx.forR2 {lo n : Int} {j : Nat} (w : Wx K C Hd0 H0 Hd H σ ρ) (h : EvL K C tl ρ [.d (.int lo), .d (.int n)]) (hn : n ≤ 100000 ∧ -100000 ≤ n ∧ lo ≤ 100000 ∧ -100000 ≤ lo) (R : Nat → En → Prop) (ρ0 : En) (hle : En.le ρ0 ρ) (h0 : R 0 ρ0)
    (hs : ∀ (i : Nat) Hb' Hd' H' σ' ρ', lo + (i : Int) < n → R i ρ' → Ex Hb' Hd' → Wx K C Hd0 H0 Hd' H' σ' (ρ'.set j (.d (.int (lo + i)))) → tu { D with nx := LS K C Hd0 H0 Hb' (R (i + 1)), ct := LS K C Hd0 H0 Hb' (R (i + 1)), bk := D.nx } σ' H')
    (hd : ∀ σ' Hd' H' ρ', Ex Hd Hd' → Wx K C Hd0 H0 Hd' H' σ' ρ' → R (n - lo).toNat ρ' → D.nx σ' H') : tFor (iRng2 tl) (gName j) tu D σ H :=
  h Hd H σ w.x.dh w.env _ fun vs Hd1 H1 x1 hv => by
    obtain ⟨v, u, rfl, hv1, hv2⟩ := vrs2 hv
    refine ⟨lo, n, by rw [dp_int_inv hv1, dp_int_inv hv2], by omega, for_range (lo := lo) (n := (n - lo).toNat) (fun i σ' H' => LS K C Hd0 H0 Hd1 (R i) σ' H') ⟨Hd1, ρ0, Ex.refl _, Wx.le ⟨w.x.trans x1, w.env.xt x1⟩ hle, h0⟩ (fun i σ' H' hi ⟨Hd', ρ', e, w', r⟩ => ?_) fun σ' H' ⟨Hd', ρ', e, w', r⟩ => hd σ' Hd' H' ρ' (x1.d.trans e) w' r⟩
    exact hs i Hd1 Hd' _ _ ρ' (by omega) r e ⟨w'.x, w'.env.set (a := .d (.int (lo + i))) (Dp.int _) j⟩
theorem Wx.qforR2 {lo n : Int} {j : Nat} (w : Wx K C Hd0 H0 Hd H σ ρ) (h : EvL K C tl ρ [.d (.int lo), .d (.int n)]) (hn : n ≤ 100000 ∧ -100000 ≤ n ∧ lo ≤ 100000 ∧ -100000 ≤ lo) (R : Nat → En → Prop) (ρ0 : En) (hle : En.le ρ0 ρ) (h0 : R 0 ρ0)
    (hs : ∀ (i : Nat) Hb' Hd' H' σ' ρ', lo + (i : Int) < n → R i ρ' → Ex Hb' Hd' → Wx K C Hd0 H0 Hd' H' σ' (ρ'.set j (.d (.int (lo + i)))) → tu { D with nx := LS K C Hd0 H0 Hb' (R (i + 1)), ct := LS K C Hd0 H0 Hb' (R (i + 1)), bk := tz D } σ' H')
    (hd : ∀ σ' Hd' H' ρ', Ex Hd Hd' → Wx K C Hd0 H0 Hd' H' σ' ρ' → R (n - lo).toNat ρ' → tz D σ' H') : tSeq (tFor (iRng2 tl) (gName j) tu) tz D σ H := w.forR2 (D := { D with nx := tz D }) h hn R ρ0 hle h0 hs hd

/-! ### comprehensions -/
theorem wipe_get {σ : L2.St} : ∀ {vs : List Nat} {i : Nat}, i ∉ vs → (L2.wipe σ vs)[i]? = σ[i]?
  | [], i, _ => rfl
  | v :: vs, i, h => by
    show ((L2.wipe σ vs).set v none)[i]? = σ[i]?
    rw [List.getElem?_set_ne (fun z => h (by rw [z]; exact List.mem_cons_self)), wipe_get fun z => h (List.mem_cons_of_mem _ z)]
theorem wipe_in {σ : L2.St} : ∀ {vs : List Nat} {i : Nat}, i ∈ vs → i < σ.length → (L2.wipe σ vs)[i]? = some none
  | v :: vs, i, h, hl => by
    show ((L2.wipe σ vs).set v none)[i]? = some none
    by_cases e : v = i
    · subst e; rw [List.getElem?_set_self (by rw [wipe_length]; exact hl)]
    · rw [List.getElem?_set_ne e]
      rcases List.mem_cons.mp h with q | q
      · exact absurd q.symm e
      · exact wipe_in q hl
theorem wipe_ext {σ τ : L2.St} {vs : List Nat} (hl : σ.length = τ.length) (h : ∀ i, i ∉ vs → σ[i]? = τ[i]?) : L2.wipe σ vs = L2.wipe τ vs := by
  apply List.ext_getElem?
  intro i
  by_cases hi : i ∈ vs
  · by_cases hb : i < σ.length
    · rw [wipe_in hi hb, wipe_in hi (hl ▸ hb)]
    · rw [List.getElem?_eq_none (by rw [wipe_length]; omega), List.getElem?_eq_none (by rw [wipe_length]; omega)]
  · rw [wipe_get hi, wipe_get hi]; exact h i hi
def givenD (n : Nat) (f : Nat → Bool) (v : Nat → PyData) : List PyData := ((List.range n).filter f).map v
theorem givenD_len (n : Nat) (f : Nat → Bool) (v : Nat → PyData) : (givenD n f v).length ≤ n := by
  unfold givenD
  rw [List.length_map]
  have h := List.length_filter_le f (List.range n)
  rw [List.length_range] at h
  exact h
theorem givenD_yes {n : Nat} {f : Nat → Bool} {v : Nat → PyData} (h : f n = true) : givenD (n + 1) f v = givenD n f v ++ [v n] := by
  unfold givenD
  rw [List.range_succ, List.filter_append, List.map_append, List.filter_cons, if_pos h] <;> rfl
theorem givenD_no {n : Nat} {f : Nat → Bool} {v : Nat → PyData} (h : f n = false) : givenD (n + 1) f v = givenD n f v := by
  unfold givenD
  rw [List.range_succ, List.filter_append, List.map_append, List.filter_cons, if_neg (by rw [h]; decide)]
  show _ ++ [] = _
  rw [List.append_nil]
/-- the new list at D while the comprehension runs -/
def Cv (K : PySem.W.Frag) (Hd1 H1 : Hp) (D : Addr) (out : List PyData) (H' : Hp) : Prop := ∃ Hd' acc, Xt Hd1 H1 Hd' H' ∧ Hd' D = none ∧ H' D = some (.lst acc) ∧ DpAll K Hd' acc out
theorem lc_core_ev {J : It} {n : Nat} {G : Hp → Prop} {Y : Nat → Hp → V → Hp → Prop} (wk : Walk J n G Y) {g : TG} {tt : TT} {vs : List Nat} (E : Nat → En) (f : Nat → Bool) (v : Nat → PyData) (hn : n ≤ 90000) (ex : Ex Hd1 H1) (hG : ∀ Hd' H', Xt Hd1 H1 Hd' H' → G H')
    (hg : ∀ (i : Nat) Hd' H' x H'' (Q : L2.St → Hp → Prop), i < n → Xt Hd1 H1 Hd' H' → Y i H' x H'' → (∀ σ2 H2, L2.wipe σ2 vs = L2.wipe σ vs → Xt Hd' H' Hd' H2 → EnvR K C Hd' H2 σ2 (E i) → Q σ2 H2) → g x (L2.wipe σ vs) H'' Q)
    (ht : ∀ i, i < n → EvT K C tt (E i) (f i)) (he : ∀ i, i < n → f i = true → Ev K C te (E i) (.d (v i))) (Q : VK) (q : ∀ D Hd' H', Xt Hd1 H1 Hd' H' → Dp K Hd' (.ref D) (.list (givenD n f v)) → Q (.ref D) H') :
    ∀ D, H1 D = none → ∃ W : Nat → Nat → Hp → Prop, (∃ m, W 0 m (upd H1 D (.lst []))) ∧ ∀ i m H, W i m H → (J.stop i H ∧ Q (.ref D) H) ∨ (J.go i H ∧ ∃ Nx : Hp → Prop, (∀ H', Nx H' → ∃ m', m' < m ∧ W (i + 1) m' H') ∧ ∀ x H', J.yld i H x H' → g x (L2.wipe σ vs) H' fun σ2 H2 => L2.wipe σ2 vs = L2.wipe σ vs ∧ tt σ2 H2 fun b H3 =>
      if b = true then te σ2 H3 fun y H4 => ∃ acc, H4 D = some (.lst acc) ∧ acc.length < sizeLine ∧ Nx (upd H4 D (.lst (acc ++ [y]))) else Nx H3) := by
  intro D hD
  refine lc_it wk (fun i H' => Cv K Hd1 H1 D (givenD i f v) H') ⟨Hd1, [], ⟨Ex.refl _, Ex.new hD, ex_mut ex (free_of ex hD), fun _ _ _ => rfl⟩, free_of ex hD, upd_same, .nil⟩ (fun i H' _ ⟨Hd', _, x, _⟩ => hG Hd' H' x) (fun i x H' H'' hi ⟨Hd', acc, xx, z1, z2, z3⟩ y => ?_) fun H' ⟨Hd', acc, xx, z1, z2, z3⟩ => ?_
  · refine hg i Hd' H' x H'' _ hi xx y fun σ2 H2 hw x2 r => ⟨hw, ht i hi Hd' H2 σ2 x2.dh r _ fun Hd3 H3 x3 => ?_⟩
    have zD : ∀ Hd'' H'', Xt Hd' H' Hd'' H'' → Hd'' D = none := fun Hd'' H'' xz => (xz.nw D _ z2).trans z1
    cases hf : f i with
    | false =>
      show Cv K Hd1 H1 D (givenD (i + 1) f v) H3
      rw [givenD_no hf]
      exact ⟨Hd3, acc, (xx.trans x2).trans x3, zD _ _ (x2.trans x3), x3.h _ _ (x2.h _ _ z2), dps_ex x3.d _ _ z3⟩
    | true =>
      show te σ2 H3 _
      refine he i hi hf Hd3 H3 σ2 x3.dh (r.xt x3) _ fun u Hd4 H4 x4 h4 => ⟨acc, x4.h _ _ (x3.h _ _ (x2.h _ _ z2)), ?_, ?_⟩
      · rw [dpall_len z3]
        exact Nat.lt_of_le_of_lt (givenD_len i f v) (sz_lt (by omega))
      · show Cv K Hd1 H1 D (givenD (i + 1) f v) _
        rw [givenD_yes hf]
        have xt := (x2.trans x3).trans x4
        have hd4 := zD _ _ xt
        have xq := xx.trans xt
        exact ⟨Hd4, acc ++ [u], ⟨xq.d, fun b o e => by rw [upd_ne (ne_of_none e hD)]; exact xq.h b o e, ex_mut xq.dh hd4, xq.nw⟩, hd4, upd_same, dpall_app (dps_ex (x3.d.trans x4.d) _ _ z3) (.cons h4 .nil)⟩
  · obtain ⟨f1, f2⟩ := ex_freeze xx.dh z2 z1
    exact q D (upd Hd' D (.lst acc)) H' ⟨xx.d.trans f2, xx.h, f1, fun b o e => by rw [upd_ne (ne_of_none e hD)]; exact xx.nw b o e⟩ (Dp.lst (SqL.of upd_same) (dps_ex f2 _ _ z3))
theorem set_wipe {σ : L2.St} {vs : List Nat} {j : Nat} {o : Option V} (hj : j ∈ vs) : L2.wipe ((L2.wipe σ vs).set j o) vs = L2.wipe σ vs :=
  wipe_ext (by rw [List.length_set, wipe_length]) fun i hi => by rw [List.getElem?_set_ne (fun z => hi (by rw [← z]; exact hj)), wipe_get hi]
/-- [e for j in list if t] -/
theorem ev_lcL {tt : TT} {vs : List Nat} {j : Nat} (f : Nat → Bool) (v : Nat → PyData) (h : Ev K C ta ρ (.d (.list ds))) (hn : ds.length ≤ 90000) (hj : j ∈ vs) (ht : ∀ (i : Nat) d, ds[i]? = some d → EvT K C tt ((wipeA ρ vs).set j (.d d)) (f i))
    (he : ∀ (i : Nat) d, ds[i]? = some d → f i = true → Ev K C te ((wipeA ρ vs).set j (.d d)) (.d (v i))) : Ev K C (tLc (iList K ta) (gName j) tt te vs) ρ (.d (.list (givenD ds.length f v))) := fun Hd H σ x r Q q =>
  h Hd H σ x r _ fun u Hd1 H1 x1 hu => by
    obtain ⟨a, xs, rfl, hs1, hs2⟩ := dp_lst_inv hu
    have hl := dpall_len hs2
    have hget : ∀ i (hi : i < ds.length), ds[i]? = some ds[i] := fun i hi => List.getElem?_eq_getElem hi
    refine ⟨a, rfl, ⟨xs, ex_l x1.dh hs1⟩, ?_⟩
    have core := lc_core_ev (K := K) (C := C) (walk_list (K := K) (a := a) (xs := xs)) (g := gName j) (tt := tt) (te := te) (vs := vs) (σ := σ) (Hd1 := Hd1) (H1 := H1) (fun i => (wipeA ρ vs).set j (.d (ds.getD i .none))) f v (by omega) x1.dh (fun Hd' H' xx => ex_l (x1.dh.trans xx.h) hs1) ?_ ?_ ?_ Q ?_
    · exact core
    · rintro i Hd' H' y H'' Q hi xx ⟨rfl, hy⟩ k
      refine k _ _ (set_wipe hj) (Xt.refl xx.dh) ?_
      have hi' : i < ds.length := by omega
      obtain ⟨u, q1, q2⟩ := dpall_get hs2 (hget i hi')
      rw [hy] at q1
      cases q1
      have e : ds.getD i .none = ds[i] := by rw [List.getD_eq_getElem?_getD, hget i hi']; rfl
      refine ((r.xt (x1.trans xx)).wipe vs).set (a := .d _) ?_ j
      rw [e]
      exact dp_ex xx.d _ _ q2
    · intro i hi
      have hi' : i < ds.length := by omega
      have e : ds.getD i .none = ds[i] := by rw [List.getD_eq_getElem?_getD, hget i hi']; rfl
      rw [e]
      exact ht i _ (hget i hi')
    · intro i hi hf
      have hi' : i < ds.length := by omega
      have e : ds.getD i .none = ds[i] := by rw [List.getD_eq_getElem?_getD, hget i hi']; rfl
      rw [e]
      exact he i _ (hget i hi') hf
    · intro D Hd' H' xx hdp
      exact q _ Hd' H' (x1.trans xx) (by rw [← hl]; exact hdp)
/-- [e for j in range(n) if t] -/
theorem ev_lcR {tt : TT} {vs : List Nat} {j : Nat} {n : Int} (f : Nat → Bool) (v : Nat → PyData) (h : EvL K C tl ρ [.d (.int n)]) (hn : 0 ≤ n ∧ n ≤ 90000) (hj : j ∈ vs) (ht : ∀ (i : Nat), (i : Int) < n → EvT K C tt ((wipeA ρ vs).set j (.d (.int i))) (f i))
    (he : ∀ (i : Nat), (i : Int) < n → f i = true → Ev K C te ((wipeA ρ vs).set j (.d (.int i))) (.d (v i))) : Ev K C (tLc (iRng1 tl) (gName j) tt te vs) ρ (.d (.list (givenD n.toNat f v))) := fun Hd H σ x r Q q =>
  h Hd H σ x r _ fun us Hd1 H1 x1 hu => by
    obtain ⟨u, rfl, hu1⟩ := vrs1 hu
    refine ⟨n, by rw [dp_int_inv hu1], by omega, by omega, ?_⟩
    refine lc_core_ev (K := K) (C := C) (walk_range (lo := 0) (n := n.toNat)) (g := gName j) (tt := tt) (te := te) (vs := vs) (σ := σ) (Hd1 := Hd1) (H1 := H1) (fun i => (wipeA ρ vs).set j (.d (.int i))) f v (by omega) x1.dh (fun _ _ _ => trivial) ?_ ?_ ?_ Q ?_
    · rintro i Hd' H' y H'' Q hi xx ⟨rfl, rfl⟩ k
      refine k _ _ (set_wipe hj) (Xt.refl xx.dh) ?_
      refine ((r.xt (x1.trans xx)).wipe vs).set (a := .d (.int i)) ?_ j
      show Dp K Hd' (.int (0 + (i : Int))) (.int i)
      rw [Int.zero_add]
      exact Dp.int _
    · exact fun i hi => ht i (by omega)
    · exact fun i hi => he i (by omega)
    · exact fun D Hd' H' xx hdp => q _ Hd' H' (x1.trans xx) hdp
theorem names_wipe {Q : L2.St → Hp → Prop} {vs : List Nat} {τ : L2.St} : ∀ (is : List Nat) {us : List V} {ds : List PyData} {σ : L2.St} {ρ : En}, (∀ i ∈ is, i ∈ vs) → is.length = ds.length → DpAll K Hd us ds → EnvR K C Hd H1 σ ρ → L2.wipe σ vs = L2.wipe τ vs → (∀ σ', L2.wipe σ' vs = L2.wipe τ vs → EnvR K C Hd H1 σ' (setsA ρ is ds) → Q σ' H) → gNames is us σ H Q
  | [], _, [], σ, ρ, _, _, .nil, r, hw, q => ⟨rfl, q σ hw r⟩
  | i :: is, _, d :: ds, σ, ρ, hi, hl, .cons h t, r, hw, q => ⟨_, _, rfl, names_wipe is (fun k hk => hi k (List.mem_cons_of_mem _ hk)) (by simpa using hl) t (r.set (a := .d d) h i) (by
      rw [← hw]
      exact wipe_ext (by rw [List.length_set]) fun k hk => by rw [List.getElem?_set_ne (fun z => hk (by rw [← z]; exact hi i List.mem_cons_self))]) q⟩
/-- [e for is in list of tuples if t] -/
theorem ev_lcLT {tt : TT} {vs is : List Nat} {m : Nat} (f : Nat → Bool) (v : Nat → PyData) (F : PyData → List PyData) (h : Ev K C ta ρ (.d (.list ds))) (hn : ds.length ≤ 90000) (hj : ∀ i ∈ is, i ∈ vs) (hm : m = is.length) (hf : ∀ d ∈ ds, d = .tuple (F d) ∧ (F d).length = is.length)
    (ht : ∀ (i : Nat) d, ds[i]? = some d → EvT K C tt (setsA (wipeA ρ vs) is (F d)) (f i)) (he : ∀ (i : Nat) d, ds[i]? = some d → f i = true → Ev K C te (setsA (wipeA ρ vs) is (F d)) (.d (v i))) :
    Ev K C (tLc (iList K ta) (gTup K m (gNames is)) tt te vs) ρ (.d (.list (givenD ds.length f v))) := fun Hd H σ x r Q q =>
  h Hd H σ x r _ fun u Hd1 H1 x1 hu => by
    obtain ⟨a, xs, rfl, hs1, hs2⟩ := dp_lst_inv hu
    have hl := dpall_len hs2
    have hget : ∀ i (hi : i < ds.length), ds[i]? = some ds[i] := fun i hi => List.getElem?_eq_getElem hi
    refine ⟨a, rfl, ⟨xs, ex_l x1.dh hs1⟩, ?_⟩
    have core := lc_core_ev (K := K) (C := C) (walk_list (K := K) (a := a) (xs := xs)) (g := gTup K m (gNames is)) (tt := tt) (te := te) (vs := vs) (σ := σ) (Hd1 := Hd1) (H1 := H1) (fun i => setsA (wipeA ρ vs) is (F (ds.getD i .none))) f v (by omega) x1.dh (fun Hd' H' xx => ex_l (x1.dh.trans xx.h) hs1) ?_ ?_ ?_ Q ?_
    · exact core
    · rintro i Hd' H' y H'' Q hi xx ⟨rfl, hy⟩ k
      have hi' : i < ds.length := by omega
      obtain ⟨u, q1, q2⟩ := dpall_get hs2 (hget i hi')
      rw [hy] at q1
      cases q1
      have e : ds.getD i .none = ds[i] := by rw [List.getD_eq_getElem?_getD, hget i hi']; rfl
      obtain ⟨f1, f2⟩ := hf _ (List.mem_of_getElem? (hget i hi'))
      have q3 := dp_ex xx.d _ _ q2
      rw [f1] at q3
      obtain ⟨p, us, rfl, p1, p2⟩ := dp_tup_inv q3
      refine ⟨p, us, rfl, ex_t xx.dh p1, by rw [hm, dpall_len p2, f2], ?_⟩
      refine names_wipe (τ := σ) is hj f2.symm p2 ((r.xt (x1.trans xx)).wipe vs) (wipe_ext (by rw [wipe_length]) fun k hk => wipe_get hk) fun σ2 hw r2 => k _ _ hw (Xt.refl xx.dh) ?_
      rw [e]
      exact r2
    · intro i hi
      have hi' : i < ds.length := by omega
      have e : ds.getD i .none = ds[i] := by rw [List.getD_eq_getElem?_getD, hget i hi']; rfl
      rw [e]
      exact ht i _ (hget i hi')
    · intro i hi hf
      have hi' : i < ds.length := by omega
      have e : ds.getD i .none = ds[i] := by rw [List.getD_eq_getElem?_getD, hget i hi']; rfl
      rw [e]
      exact he i _ (hget i hi') hf
    · intro D Hd' H' xx hdp
      exact q _ Hd' H' (x1.trans xx) (by rw [← hl]; exact hdp)
/-- [e for i, j in zip(list, list)] -/
theorem ev_lcZ {tt : TT} {vs : List Nat} {j1 j2 : Nat} (f : Nat → Bool) (v : Nat → PyData) (h : EvL K C tl ρ [.d (.list ds), .d (.list es)]) (hz : ds.length = es.length) (hn : ds.length ≤ 90000) (hj1 : j1 ∈ vs) (hj2 : j2 ∈ vs)
    (ht : ∀ (i : Nat) d e, ds[i]? = some d → es[i]? = some e → EvT K C tt (((wipeA ρ vs).set j1 (.d d)).set j2 (.d e)) (f i)) (he : ∀ (i : Nat) d e, ds[i]? = some d → es[i]? = some e → f i = true → Ev K C te (((wipeA ρ vs).set j1 (.d d)).set j2 (.d e)) (.d (v i))) :
    Ev K C (tLc (iZip K tl) (gTup K 2 (gCons (gName j1) (gCons (gName j2) gNil))) tt te vs) ρ (.d (.list (givenD ds.length f v))) := fun Hd H σ x r Q q =>
  h Hd H σ x r _ fun us Hd1 H1 x1 hu => by
    obtain ⟨u1, u2, rfl, hu1, hu2⟩ := vrs2 hu
    obtain ⟨a, xs, rfl, hs1, hs2⟩ := dp_lst_inv hu1
    obtain ⟨b, ys, rfl, hs3, hs4⟩ := dp_lst_inv hu2
    have hl := dpall_len hs2
    have hl2 := dpall_len hs4
    have hget : ∀ i (hi : i < ds.length), ds[i]? = some ds[i] := fun i hi => List.getElem?_eq_getElem hi
    have hget2 : ∀ i (hi : i < es.length), es[i]? = some es[i] := fun i hi => List.getElem?_eq_getElem hi
    refine ⟨a, b, xs, ys, rfl, ex_l x1.dh hs1, ex_l x1.dh hs3, ?_⟩
    refine lc_core_ev (K := K) (C := C) (walk_zip (K := K) (a := a) (b := b) (xs := xs) (ys := ys) (n := ds.length) (by omega)) (tt := tt) (te := te) (vs := vs) (σ := σ) (Hd1 := Hd1) (H1 := H1) (fun i => ((wipeA ρ vs).set j1 (.d (ds.getD i .none))).set j2 (.d (es.getD i .none))) f v (by omega) x1.dh (fun Hd' H' xx => ⟨ex_l (x1.dh.trans xx.h) hs1, ex_l (x1.dh.trans xx.h) hs3⟩) ?_ ?_ ?_ Q ?_
    · rintro i Hd' H' y H'' Q hi xx ⟨T, y1, y2, rfl, hT, rfl, hy1, hy2⟩ k
      have hy1 : xs[i]? = some y1 := hy1
      have hy2 : ys[i]? = some y2 := hy2
      have hi2 : i < es.length := by omega
      obtain ⟨u, q1, q2⟩ := dpall_get hs2 (hget i hi)
      rw [hy1] at q1
      cases q1
      obtain ⟨u, q1, q3⟩ := dpall_get hs4 (hget2 i hi2)
      rw [hy2] at q1
      cases q1
      have e : ds.getD i .none = ds[i] := by rw [List.getD_eq_getElem?_getD, hget i hi]; rfl
      have e2 : es.getD i .none = es[i] := by rw [List.getD_eq_getElem?_getD, hget2 i hi2]; rfl
      have x2 : Xt Hd' H' Hd' (upd H' T (.tup [y1, y2])) := ⟨Ex.refl _, Ex.new hT, ex_mut xx.dh (free_of xx.dh hT), fun _ _ _ => rfl⟩
      refine ⟨T, _, rfl, SqT.of upd_same, rfl, _, _, rfl, _, _, rfl, rfl, ?_⟩
      refine k _ _ ?_ x2 ?_
      · exact wipe_ext (by rw [List.length_set, List.length_set, wipe_length]) fun i hi => by rw [List.getElem?_set_ne (fun z => hi (by rw [← z]; exact hj2)), List.getElem?_set_ne (fun z => hi (by rw [← z]; exact hj1)), wipe_get hi]
      · rw [e, e2]
        exact (((r.xt ((x1.trans xx).trans x2)).wipe vs).set (a := .d ds[i]) (dp_ex xx.d _ _ q2) j1).set (a := .d es[i]) (dp_ex xx.d _ _ q3) j2
    · intro i hi
      have hi2 : i < es.length := by omega
      have e : ds.getD i .none = ds[i] := by rw [List.getD_eq_getElem?_getD, hget i hi]; rfl
      have e2 : es.getD i .none = es[i] := by rw [List.getD_eq_getElem?_getD, hget2 i hi2]; rfl
      rw [e, e2]
      exact ht i _ _ (hget i hi) (hget2 i hi2)
    · intro i hi hf
      have hi2 : i < es.length := by omega
      have e : ds.getD i .none = ds[i] := by rw [List.getD_eq_getElem?_getD, hget i hi]; rfl
      have e2 : es.getD i .none = es[i] := by rw [List.getD_eq_getElem?_getD, hget2 i hi2]; rfl
      rw [e, e2]
      exact he i _ _ (hget i hi) (hget2 i hi2) hf
    · exact fun D Hd' H' xx hdp => q _ Hd' H' (x1.trans xx) hdp
theorem ne_cell {o : Option Addr} {m : Addr} (h : o = none) : o ≠ some m := by rw [h]; intro z; cases z
theorem ne_cell2 {o : Option Addr} {m m' : Addr} (h : o = some m') (hn : m' ≠ m) : o ≠ some m := by rw [h]; intro z; exact hn (Option.some.inj z)
theorem Wx.qnewLM {i : Nat} (w : Wx K C Hd0 H0 Hd H σ ρ) (h : EvD K C tl ρ ds) (hl : ds.length ≤ 100000) (k : ∀ m σ' Hd' H', H m = none → H0 m = none → Xt Hd H Hd' H' → Wx K C Hd0 H0 Hd' H' σ' (ρ.set i (.ml m ds)) → tz D σ' H') : tSeq (tAsg (tLst tl) (gName i)) tz D σ H :=
  ev_newLM (K := K) (C := C) (σ := σ) (Q := fun x H1 => tz D (σ.set i (some x)) H1) h hl w.x.dh w.env fun m Hd' H' hm x1 r => k m _ Hd' H' hm (fresh_back w.x.h hm) x1 ⟨w.x.trans x1, (w.env.xt x1).set r i⟩
theorem Wx.retM {i : Nat} {m : Addr} (w : Wx K C Hd0 H0 Hd H σ ρ) (hi : Nat.blt i ρ.n = true) (e : ρ.f i = some (.ml m ds)) (h0 : H0 m = none) (k : ∀ Hd', Xt Hd0 H0 Hd' H → Dp K Hd' (.ref m) (.list ds) → D.rt (.ref m) H) : tRet (tVar i) D σ H := by
  obtain ⟨v, hv, rfl, hd, vs, hm, ha⟩ := w.env.val hi e rfl
  obtain ⟨f1, f2⟩ := ex_freeze w.x.dh hm hd
  exact ⟨_, hv, k (upd Hd m (.lst vs)) ⟨w.x.d.trans f2, w.x.h, f1, fun a o q => by rw [upd_ne (ne_of_none q h0)]; exact w.x.nw a o q⟩ (Dp.lst (SqL.of upd_same) (dps_ex f2 _ _ ha))⟩
theorem eqv_list_nil (ds : List PyData) : PyData.eqv (.list ds) (.list []) = ds.isEmpty := by
  cases ds with
  | nil => simp [PyData.eqv, PyData.eqvAll]
  | cons d r => simp [PyData.eqv, PyData.eqvAll]
theorem shaped_nil : SeqAt.shaped (.list []) = true := by decide +kernel
theorem lay_all : ∀ {ds : List PyData}, (∀ d ∈ ds, d.canLay0 = true ∧ d.depth ≤ 60) → PyData.canLayAll0 ds = true ∧ PyData.depthAll ds ≤ 60
  | [], _ => by simp [PyData.canLayAll0, PyData.depthAll]
  | d :: r, h => by
    obtain ⟨h1, h2⟩ := h d List.mem_cons_self
    obtain ⟨h3, h4⟩ := lay_all fun x hx => h x (List.mem_cons_of_mem _ hx)
    constructor
    · simp only [PyData.canLayAll0, h1, h3, Bool.and_self]
    · simp only [PyData.depthAll]; omega
theorem shaped_list {ds : List PyData} (h : ∀ d ∈ ds, d.canLay0 = true ∧ d.depth ≤ 60) : SeqAt.shaped (.list ds) = true := by
  obtain ⟨h1, h2⟩ := lay_all h
  unfold SeqAt.shaped
  rw [Bool.and_eq_true]
  refine ⟨by simp only [PyData.canLay0]; exact h1, decide_eq_true ?_⟩
  simp only [PyData.depth]
  omega
theorem shaped_tup {ds : List PyData} (h : ∀ d ∈ ds, d.canLay0 = true ∧ d.depth ≤ 60) : SeqAt.shaped (.tuple ds) = true := by
  obtain ⟨h1, h2⟩ := lay_all h
  unfold SeqAt.shaped
  rw [Bool.and_eq_true]
  refine ⟨by simp only [PyData.canLay0]; exact h1, decide_eq_true ?_⟩
  simp only [PyData.depth]
  omega
/-- i in a list of ints -/
theorem inV_ints (i : Int) (l : List Int) : inV (.int i) (l.map V.int) = decide (i ∈ l) := by
  induction l with
  | nil => rfl
  | cons a r ih =>
    show (eqV (.int a) (.int i) || inV (.int i) (r.map V.int)) = decide (i ∈ a :: r)
    rw [ih]
    by_cases e : i = a
    · subst e; simp [eqV]
    · have e' : ¬ a = i := fun z => e z.symm
      simp [eqV, e, e']
theorem dp_ints {l : List Int} : ∀ {vs : List V}, DpAll K H vs (l.map PyData.int) → vs = l.map V.int := by
  induction l with
  | nil => intro vs h; cases h; rfl
  | cons a r ih =>
    intro vs h
    cases h with
    | cons h1 h2 => rw [dp_int_inv h1, ih h2]; rfl
theorem flat_ints (l : List Int) : (l.map V.int).all flatV = true := by
  rw [List.all_map]
  exact List.all_eq_true.mpr fun _ _ => rfl
theorem ev_inI {i : Int} {l : List Int} (ha : Ev K C ta ρ (.d (.int i))) (hb : Ev K C tb ρ (.d (.list (l.map PyData.int)))) : Ev K C (tOp (rIn K false) ta tb) ρ (.d (.bool (decide (i ∈ l)))) :=
  ev2 ha hb fun Hd H x y ex hx hy Q q => by
    cases dp_int_inv hx
    obtain ⟨p, vs, rfl, h1, h2⟩ := dp_lst_inv hy
    cases dp_ints h2
    refine ⟨p, _, rfl, .inl (ex_l ex h1), rfl, flat_ints l, ?_⟩
    have e : (if false = true then !inV (.int i) (l.map V.int) else inV (.int i) (l.map V.int)) = decide (i ∈ l) := inV_ints i l
    rw [e]
    exact q _ Hd H (Xt.refl ex) (Dp.bl _)
theorem givenD_map {α : Type} (l : List α) (g : α → PyData) (d : α) : givenD l.length (fun _ => true) (fun i => g (l.getD i d)) = l.map g := by
  unfold givenD
  rw [List.filter_eq_self.mpr (fun _ _ => rfl)]
  apply List.ext_getElem
  · simp
  · intro i h1 h2
    simp at h1 h2 ⊢
    rw [List.getElem?_eq_getElem h2]; rfl
/-- the items of a tuple's datum -/
def tupOf : PyData → List PyData
  | .tuple ds => ds
  | _ => []
end
end LW

set_option Elab.async false
set_option linter.all false
set_option maxRecDepth 100000
set_option maxHeartbeats 4000000
/-! dicts whose keys are tuples, over the data layer -/
namespace LW
open PySem PySem.Spec PyProof.Rows L2 Evl
def lkD : PyData → Leaf
  | .int i => .num i
  | .bool b => .num (if b then 1 else 0)
  | .str x => .text x
  | _ => .none
def leafD : PyData → Bool
  | .int _ => true
  | .bool _ => true
  | .str _ => true
  | .none => true
  | _ => false
def codeD (d : PyData) : List Leaf := (tupOf d).map lkD
def lookD (es : List (PyData × PyData)) (k : PyData) : Option PyData := (es.find? fun q => decide (codeD q.1 = codeD k)).map (·.2)
def putD (es : List (PyData × PyData)) (k v : PyData) : List (PyData × PyData) :=
  if (lookD es k).isSome = true then es.map (fun q => if codeD q.1 = codeD k then (q.1, v) else q) else es ++ [(k, v)]
section
variable {P : Program} {w : World} {K : PySem.W.Frag} {C : Cl P w} {Hd0 H0 Hd H Hd1 H1 Hd' H' Hb : Hp} {σ : L2.St} {ρ ρ' : En} {t1 t2 tz tu : TS} {ta tb tc te : TE} {tl : TA} {D : Ends} {ds : List PyData} {es : List (PyData × PyData)} {des : List DE}
theorem lk_dp {v : V} {d : PyData} (h : Dp K H v d) (hl : leafD d = true) : lk v = lkD d ∧ leafy v = true := by
  cases h with
  | non => exact ⟨rfl, rfl⟩
  | bl b => exact ⟨rfl, rfl⟩
  | int i => exact ⟨rfl, rfl⟩
  | str x => exact ⟨rfl, rfl⟩
  | lst _ _ => cases hl
  | tup _ _ => cases hl
theorem lks_dp : ∀ {vs : List V} {ds : List PyData}, DpAll K H vs ds → ds.all leafD = true → vs.map lk = ds.map lkD ∧ vs.all leafy = true
  | _, _, .nil, _ => ⟨rfl, rfl⟩
  | _, _, .cons a t, h => by
    rw [List.all_cons, Bool.and_eq_true] at h
    obtain ⟨h1, h2⟩ := lk_dp a h.1
    obtain ⟨h3, h4⟩ := lks_dp t h.2
    exact ⟨by rw [List.map_cons, List.map_cons, h1, h3], by rw [List.all_cons, h2, h4]; rfl⟩
/-- the keys of such a dict hold leaves -/
def KeysL (es : List (PyData × PyData)) : Prop := ∀ q ∈ es, (tupOf q.1).all leafD = true
theorem dpT_code : ∀ {des : List DE} {es : List (PyData × PyData)}, DpT K H des es → KeysL es → ∀ (e : DE) (q : PyData × PyData) (i : Nat), des[i]? = some e → es[i]? = some q → e.k = codeD q.1 := by
  intro des es h
  unfold DpT at h
  induction h with
  | nil => intro _ e q i h1; simp at h1
  | @cons a b l1 l2 r t ih =>
    intro hk e q i h1 h2
    cases i with
    | zero =>
      simp at h1 h2
      subst h1 h2
      obtain ⟨_, _, ⟨ks, e1, e2⟩, _⟩ := r
      have := hk _ List.mem_cons_self
      unfold codeD DE.k
      rw [e1] at this ⊢
      exact (lks_dp e2 this).1
    | succ j =>
      simp at h1 h2
      exact ih (fun q hq => hk q (List.mem_cons_of_mem _ hq)) e q j h1 h2
theorem dpT_look {des : List DE} {es : List (PyData × PyData)} (h : DpT K H des es) (hk : KeysL es) (k : PyData) :
    match lookD es k with
    | some d => ∃ v, dLook des (codeD k) = some v ∧ Dp K H v d
    | none => dLook des (codeD k) = none := by
  unfold DpT at h
  induction h with
  | nil => rfl
  | @cons a b l1 l2 r t ih =>
    have e : a.k = codeD b.1 := dpT_code (K := K) (H := H) (des := a :: l1) (es := b :: l2) (.cons r t) hk a b 0 rfl rfl
    have ih := ih (fun q hq => hk q (List.mem_cons_of_mem _ hq))
    by_cases c : codeD b.1 = codeD k
    · have h1 : lookD (b :: l2) k = some b.2 := by simp [lookD, List.find?_cons, c]
      have h2 : dLook (a :: l1) (codeD k) = some a.v := by simp [dLook, List.find?_cons, e, c]
      rw [h1]
      exact ⟨a.v, h2, r.2.2.2⟩
    · have h1 : lookD (b :: l2) k = lookD l2 k := by simp [lookD, List.find?_cons, c]
      have h2 : dLook (a :: l1) (codeD k) = dLook l1 (codeD k) := by simp [dLook, List.find?_cons, e, c]
      rw [h1, h2]
      exact ih
theorem dpT_kin {des : List DE} {es : List (PyData × PyData)} (h : DpT K Hd des es) (e : Ex Hd H) : KIn K H des := by
  unfold DpT at h
  induction h with
  | nil => exact KIn.nil
  | @cons a b l1 l2 r t ih =>
    intro x hx
    rcases List.mem_cons.mp hx with q | q
    · subst q; exact ⟨ex_t e r.1, r.2.1⟩
    · exact ih x q
theorem dpT_len {des : List DE} {es : List (PyData × PyData)} (h : DpT K H des es) : des.length = es.length := Paired.length h
theorem dpT_map {des : List DE} {es : List (PyData × PyData)} (h : DpT K H des es) (hk : KeysL es) (k : PyData) {v : V} {d : PyData} (hv : Dp K H v d) :
    DpT K H (des.map fun e => if e.k = codeD k then { e with v := v } else e) (es.map fun q => if codeD q.1 = codeD k then (q.1, d) else q) := by
  unfold DpT at h ⊢
  induction h with
  | nil => exact .nil
  | @cons a b l1 l2 r t ih =>
    have e : a.k = codeD b.1 := dpT_code (K := K) (H := H) (des := a :: l1) (es := b :: l2) (.cons r t) hk a b 0 rfl rfl
    rw [List.map_cons, List.map_cons]
    refine .cons ?_ (ih fun q hq => hk q (List.mem_cons_of_mem _ hq))
    by_cases c : codeD b.1 = codeD k
    · rw [if_pos (e.trans c), if_pos c]; exact ⟨r.1, r.2.1, r.2.2.1, hv⟩
    · rw [if_neg (fun z => c (e.symm.trans z)), if_neg c]; exact r
theorem dpT_put {des : List DE} {es : List (PyData × PyData)} (h : DpT K H des es) (hk : KeysL es) {b : Addr} {ks : List V} {kd : List PyData} {v : V} {d : PyData} (hb : SqT K H b ks) (hkd : DpAll K H ks kd) (hl : kd.all leafD = true) (hv : Dp K H v d) :
    DpT K H (dPut des b ks v) (putD es (.tuple kd) d) ∧ KeysL (putD es (.tuple kd) d) := by
  obtain ⟨c1, c2⟩ := lks_dp hkd hl
  have hc : ks.map lk = codeD (.tuple kd) := c1
  have hlk := dpT_look h hk (.tuple kd)
  unfold dPut putD
  rw [hc]
  cases hq : lookD es (.tuple kd) with
  | some d0 =>
    rw [hq] at hlk
    obtain ⟨v0, h1, _⟩ := hlk
    rw [h1]
    simp only [Option.isSome_some, if_true]
    refine ⟨dpT_map h hk _ hv, fun q hq' => ?_⟩
    obtain ⟨q0, m0, rfl⟩ := List.mem_map.mp hq'
    by_cases c : codeD q0.1 = codeD (.tuple kd)
    · rw [if_pos c]; exact hk q0 m0
    · rw [if_neg c]; exact hk q0 m0
  | none =>
    rw [hq] at hlk
    have hlk : dLook des (codeD (.tuple kd)) = none := hlk
    rw [hlk]
    simp only [Option.isSome_none, Bool.false_eq_true, if_false]
    refine ⟨Paired.snoc h ⟨hb, c2, ⟨kd, rfl, hkd⟩, hv⟩, fun q hq' => ?_⟩
    rcases List.mem_append.mp hq' with z | z
    · exact hk q z
    · cases List.mem_singleton.mp z; exact hl
theorem putD_len (es : List (PyData × PyData)) (k v : PyData) : (putD es k v).length ≤ es.length + 1 := by
  unfold putD
  split
  · rw [List.length_map]; omega
  · rw [List.length_append]; simp
theorem rd_lock {o : Option Obj} {m : Addr} {u : HO} (h : H m = some (lockO o u)) : Rd H m u := by
  cases o with
  | none => exact .inl h
  | some o => exact .inr ⟨o, h⟩
/-- d[k] -/
theorem ev_tget {m : Addr} {o : Option Obj} {kd : List PyData} {d : PyData} (ha : Ev K C ta ρ (.dt m o des es)) (hb : Ev K C tb ρ (.d (.tuple kd))) (hk : KeysL es) (hl : kd.all leafD = true) (h : lookD es (.tuple kd) = some d) : Ev K C (tTGet P w K ta tb) ρ (.d d) :=
  fun Hd H σ x r Q q => ha Hd H σ x r _ fun v Hd1 H1 x1 h1 => hb Hd1 H1 σ x1.dh (r.xt x1) _ fun u Hd2 H2 x2 h2 => by
    obtain ⟨rfl, h3, h4, h5⟩ := h1.xt x2
    obtain ⟨p, ks, rfl, hs, hks⟩ := dp_tup_inv h2
    have hz := dpT_look h5 hk (.tuple kd)
    rw [h] at hz
    obtain ⟨v0, hv1, hv2⟩ := hz
    obtain ⟨c1, c2⟩ := lks_dp hks hl
    exact ⟨m, p, des, ks, v0, rfl, rfl, rd_lock h4, dpT_kin h5 x2.dh, ex_t x2.dh hs, c2, by rw [c1]; exact hv1, q _ Hd2 H2 (x1.trans x2) hv2⟩
/-- k not in d -/
theorem ev_tnotin {m : Addr} {o : Option Obj} {kd : List PyData} (ha : Ev K C ta ρ (.d (.tuple kd))) (hb : Ev K C tb ρ (.dt m o des es)) (hk : KeysL es) (hl : kd.all leafD = true) : Ev K C (tOp (rTNotIn P w K) ta tb) ρ (.d (.bool (!(lookD es (.tuple kd)).isSome))) :=
  ev2 ha hb fun Hd H x y ex hx hy Q q => by
    obtain ⟨p, ks, rfl, hs, hks⟩ := dp_tup_inv hx
    obtain ⟨rfl, h3, h4, h5⟩ := hy
    have hz := dpT_look h5 hk (.tuple kd)
    obtain ⟨c1, c2⟩ := lks_dp hks hl
    have e : (dLook des (ks.map lk)).isSome = (lookD es (.tuple kd)).isSome := by
      rw [c1]
      show (dLook des (codeD (.tuple kd))).isSome = _
      cases hq : lookD es (.tuple kd) with
      | some d => rw [hq] at hz; obtain ⟨v0, hv1, _⟩ := hz; rw [hv1]; rfl
      | none => rw [hq] at hz; have hz : dLook des (codeD (.tuple kd)) = none := hz; rw [hz]; rfl
    refine ⟨m, p, des, ks, rfl, rfl, rd_lock h4, dpT_kin h5 ex, ex_t ex hs, c2, ?_⟩
    rw [e]
    exact q _ Hd H (Xt.refl ex) (Dp.bl _)
/-- d = {} -/
theorem Wx.qnewT {i : Nat} (w_ : Wx K C Hd0 H0 Hd H σ ρ) (k : ∀ m σ' H', H m = none → H0 m = none → Xt Hd H Hd H' → Wx K C Hd0 H0 Hd H' σ' (ρ.set i (.dt m none [] [])) → tz D σ' H') : tSeq (tAsg (tTNew P w) (gName i)) tz D σ H :=
  fun m hm => by
    have x1 : Xt Hd H Hd (upd H m (DHO P w m [])) := ⟨Ex.refl _, Ex.new hm, ex_mut w_.x.dh (free_of w_.x.dh hm), fun _ _ _ => rfl⟩
    exact k m _ _ hm (fresh_back w_.x.h hm) x1 ⟨w_.x.trans x1, (w_.env.xt x1).set (v := .ref m) (a := .dt m none [] []) ⟨rfl, free_of w_.x.dh hm, upd_same, .nil⟩ i⟩
/-- d = {k: v} -/
theorem Wx.qoneT {i : Nat} {kd : List PyData} {d : PyData} (w_ : Wx K C Hd0 H0 Hd H σ ρ) (hk : Ev K C ta ρ (.d (.tuple kd))) (hv : Ev K C tb ρ (.d d)) (hl : kd.all leafD = true)
    (k : ∀ m des σ' Hd' H', H m = none → H0 m = none → Xt Hd H Hd' H' → Wx K C Hd0 H0 Hd' H' σ' (ρ.set i (.dt m none des [(.tuple kd, d)])) → tz D σ' H') : tSeq (tAsg (tTOne P w K ta tb) (gName i)) tz D σ H :=
  fun m hm => by
    have x1 : Xt Hd H Hd (upd H m (DHO P w m [])) := ⟨Ex.refl _, Ex.new hm, ex_mut w_.x.dh (free_of w_.x.dh hm), fun _ _ _ => rfl⟩
    refine hk Hd _ σ x1.dh (w_.env.xt x1) _ fun u Hd1 H1 x2 h1 => hv Hd1 H1 σ x2.dh (w_.env.xt (x1.trans x2)) _ fun yv Hd2 H2 x3 h2 => ?_
    obtain ⟨b, ks, rfl, hs, hks⟩ := dp_tup_inv h1
    obtain ⟨c1, c2⟩ := lks_dp hks hl
    have hm2 : H2 m = some (DHO P w m []) := x3.h _ _ (x2.h _ _ upd_same)
    have hd2 : Hd2 m = none := ((x2.trans x3).nw _ _ upd_same).trans (free_of w_.x.dh hm)
    refine ⟨b, ks, rfl, ex_t (x2.dh.trans x3.h) hs, c2, hm2, ?_⟩
    have x123 := (x1.trans x2).trans x3
    have y : Xt Hd H Hd2 (upd H2 m (DHO P w m [⟨b, ks, yv⟩])) := ⟨x123.d, fun a o e => by rw [upd_ne (ne_of_none e hm)]; exact x123.h a o e, ex_mut x123.dh hd2, x123.nw⟩
    exact k m [⟨b, ks, yv⟩] _ Hd2 _ hm (fresh_back w_.x.h hm) y ⟨w_.x.trans y, (w_.env.xt y).set (v := .ref m) (a := .dt m none [⟨b, ks, yv⟩] [(.tuple kd, d)]) ⟨rfl, hd2, upd_same, .cons ⟨ex_t x3.d hs, c2, ⟨kd, rfl, dps_ex x3.d _ _ hks⟩, (show Dp K Hd2 yv d from h2)⟩ .nil⟩ i⟩
/-- d[k] = v -/
theorem Wx.tput {i : Nat} {m : Addr} {kd : List PyData} {d : PyData} (w_ : Wx K C Hd0 H0 Hd H σ ρ) (hi : Nat.blt i ρ.n = true) (hx : ρ.f i = some (.dt m none des es)) (h0 : H0 m = none) (ap : ApN ρ i m ρ.n) (hkey : Ev K C ta ρ (.d (.tuple kd))) (hv : Ev K C tb ρ (.d d)) (hk : KeysL es) (hl : kd.all leafD = true) (hz : es.length < 100000)
    (k : ∀ des' Hd' H', Xm m Hd H Hd' H' → KeysL (putD es (.tuple kd) d) → Wx K C Hd0 H0 Hd' H' σ (ρ.set i (.dt m none des' (putD es (.tuple kd) d))) → D.nx σ H') : sTPut P w K (tVar i) ta tb D σ H := by
  obtain ⟨v, hv0, rfl, hd, hm, ha⟩ := w_.env.val hi hx rfl
  have hm : H m = some (DHO P w m des) := hm
  refine hv Hd H σ w_.x.dh w_.env _ fun u Hd1 H1 x1 h1 => ⟨.ref m, hv0, hkey Hd1 H1 σ x1.dh (w_.env.xt x1) _ fun u2 Hd2 H2 x2 h2 => ?_⟩
  obtain ⟨b, ks, rfl, hs, hks⟩ := dp_tup_inv h2
  obtain ⟨c1, c2⟩ := lks_dp hks hl
  have x3 := x1.trans x2
  have hm2 : H2 m = some (DHO P w m des) := x3.h _ _ hm
  have hd2 : Hd2 m = none := (x3.nw _ _ hm).trans hd
  have ha2 := ha.ex x3.d
  refine ⟨m, b, des, ks, rfl, rfl, hm2, dpT_kin ha2 x3.dh, ex_t x2.dh hs, c2, by rw [dpT_len ha]; exact sz_lt hz, ?_⟩
  obtain ⟨p1, p2⟩ := dpT_put ha2 hk hs hks hl (dp_ex x2.d _ _ h1)
  have y : Xm m Hd H Hd2 (upd H2 m (DHO P w m (dPut des b ks u))) := ⟨x3.d, fun b o hb e => by rw [upd_ne hb]; exact x3.h b o e, ex_mut x3.dh hd2, x3.nw⟩
  exact k _ Hd2 _ y p2 (w_.mod h0 ap y ⟨_, hv0, rfl, hd2, upd_same, p1⟩)
theorem Wx.qtput {i : Nat} {m : Addr} {kd : List PyData} {d : PyData} (w_ : Wx K C Hd0 H0 Hd H σ ρ) (hi : Nat.blt i ρ.n = true) (hx : ρ.f i = some (.dt m none des es)) (h0 : H0 m = none) (ap : ApN ρ i m ρ.n) (hkey : Ev K C ta ρ (.d (.tuple kd))) (hv : Ev K C tb ρ (.d d)) (hk : KeysL es) (hl : kd.all leafD = true) (hz : es.length < 100000)
    (k : ∀ des' Hd' H', Xm m Hd H Hd' H' → KeysL (putD es (.tuple kd) d) → Wx K C Hd0 H0 Hd' H' σ (ρ.set i (.dt m none des' (putD es (.tuple kd) d))) → tz D σ H') : tSeq (sTPut P w K (tVar i) ta tb) tz D σ H := w_.tput (D := { D with nx := tz D }) hi hx h0 ap hkey hv hk hl hz k
/-- for is in d: the whole under a lock; R: what holds between the turns, slot i the locked dict -/
theorem Wx.qforD {i : Nat} {m : Addr} {g : TG} (w_ : Wx K C Hd0 H0 Hd H σ ρ) (hi : Nat.blt i ρ.n = true) (hx : ρ.f i = some (.dt m none des es)) (h0 : H0 m = none) (ap : ApN ρ i m ρ.n) (G : En → PyData → En)
    (hg : ∀ (Hd' H' : Hp) σ' ρ' x d (Q : L2.St → Hp → Prop), Ex Hd' H' → Dp K Hd' x d → d ∈ es.map (·.1) → EnvR K C Hd' H' σ' ρ' → (∀ σ2, EnvR K C Hd' H' σ2 (G ρ' d) → Q σ2 H') → g x σ' H' Q)
    (R : Obj → Nat → En → Prop) (ρ0 : Obj → En) (hle : ∀ od, En.le (ρ0 od) (ρ.set i (.dt m (some od) des es))) (hR0 : ∀ od, R od 0 (ρ0 od))
    (hR : ∀ od j ρ', R od j ρ' → Nat.blt i ρ'.n = true ∧ ρ'.f i = some (.dt m (some od) des es) ∧ ApN ρ' i m ρ'.n)
    (hs : ∀ od (j : Nat) k v Hb' Hd' H' σ' ρ', es[j]? = some (k, v) → R od j ρ' → Ex Hb' Hd' → Wx K C Hd0 H0 Hd' H' σ' (G ρ' k) → ∀ DD : Ends, tu { DD with nx := LS K C Hd0 H0 Hb' (R od (j + 1)), ct := LS K C Hd0 H0 Hb' (R od (j + 1)) } σ' H')
    (hd : ∀ od σ' Hd' H' ρ', Ex Hd Hd' → R od es.length ρ' → Wx K C Hd0 H0 Hd' H' σ' (ρ'.set i (.dt m none des es)) → tz D σ' H') : tSeq (tLock (tFor (iT P w (tVar i)) g tu)) tz D σ H := by
  obtain ⟨v, hv0, rfl, hdm, hm, ha⟩ := w_.env.val hi hx rfl
  have hm : H m = some (DHO P w m des) := hm
  refine ⟨m, DHO P w m des, hm, trivial, fun od => ?_⟩
  have y : Xm m Hd H Hd (upd H m (.frz od (DHO P w m des))) := ⟨Ex.refl _, fun b o hb e => by rw [upd_ne hb]; exact e, ex_mut w_.x.dh hdm, fun _ _ _ => rfl⟩
  have w1 : Wx K C Hd0 H0 Hd _ σ (ρ.set i (.dt m (some od) des es)) := w_.mod h0 ap y ⟨_, hv0, rfl, hdm, upd_same, ha⟩
  refine ⟨.ref m, hv0, m, od, des, rfl, upd_same, for_it walk_tkeys (fun j σ' H' => LS K C Hd0 H0 Hd (R od j) σ' H') ⟨Hd, ρ0 od, Ex.refl _, w1.le (hle od), hR0 od⟩ (fun j σ' H' hj ⟨Hd', ρ', e, w', r⟩ => ?_) ?_ fun σ' H' ⟨Hd', ρ', e, w', r⟩ => ?_⟩
  · obtain ⟨q1, q2, q3⟩ := hR od j ρ' r
    obtain ⟨v, z1, rfl, z2, z3, z4⟩ := w'.env.val q1 q2 rfl
    exact z3
  · rintro j x σ' H' H'' hj ⟨Hd', ρ', e, w', r⟩ ⟨rfl, en, hen, rfl⟩
    obtain ⟨q1, q2, q3⟩ := hR od j ρ' r
    obtain ⟨v, z1, rfl, z2, z3, z4⟩ := w'.env.val q1 q2 rfl
    obtain ⟨kv, hkv, hp⟩ : ∃ kv, es[j]? = some kv ∧ SqT K Hd' en.b en.ks ∧ (∃ ks, kv.1 = .tuple ks ∧ DpAll K Hd' en.ks ks) := by
      obtain ⟨b, hb, e1, _, e3, _⟩ := paired_get z4 hen
      exact ⟨b, hb, e1, e3⟩
    obtain ⟨hp1, ks, hp2, hp3⟩ := hp
    have hdp : Dp K Hd' (.ref en.b) kv.1 := by rw [hp2]; exact Dp.tup hp1 hp3
    refine hg Hd' _ σ' ρ' _ kv.1 _ w'.x.dh hdp (List.mem_map.mpr ⟨kv, List.mem_of_getElem? hkv, rfl⟩) w'.env fun σ2 r2 => ?_
    refine hs od j kv.1 kv.2 Hd Hd' _ σ2 ρ' hkv r e ⟨w'.x, r2⟩ ⟨fun _ _ => True, ?_, ?_, fun _ _ => True⟩
  · rw [dpT_len ha] at r
    obtain ⟨q1, q2, q3⟩ := hR od _ ρ' r
    obtain ⟨v, z1, rfl, z2, z3, z4⟩ := w'.env.val q1 q2 rfl
    have y2 : Xm m Hd' H' Hd' (upd H' m (DHO P w m des)) := ⟨Ex.refl _, fun b o hb e => by rw [upd_ne hb]; exact e, ex_mut w'.x.dh z2, fun _ _ _ => rfl⟩
    exact ⟨z3, hd od σ' Hd' _ ρ' e r (w'.mod h0 q3 y2 ⟨_, z1, rfl, z2, upd_same, z4⟩)⟩
end
end LW

set_option Elab.async false
set_option linter.all false
set_option maxRecDepth 100000
set_option maxHeartbeats 4000000
/-! classes: how their instances are made, over the data layer -/
namespace LW
open PySem PySem.Spec PyProof.Rows L2 Evl
section
variable {P : Program} {w : World} {K : PySem.W.Frag} {mg : Str → Option Value} {base : Heap} {C : Cl P w} {Hd0 H0 Hd H : Hp} {σ : L2.St} {ρ : En} {tv te ta : TE} {tl : TA} {D : Ends} {tz : TS} {a : AV} {ds : List PyData}
/-- an __init__'s promise: the instance at x is beyond the data -/
def SpM (K : PySem.W.Frag) (C : Cl P w) (cls : Addr) (F : List AV → AV → Prop) : Sp := fun vs H Q _ => ∃ (Hd0 H0 Hd : Hp) (as : List AV) (z : AV) (x : Addr) (dx : Addr) (us : List V), F as z ∧ vs = .ref x :: us ∧ Xt Hd0 H0 Hd H ∧ H0 x = none ∧ Hd x = none ∧ H x = some (.ins cls dx []) ∧ VRs K C Hd H us as ∧
  ∀ Hd' H', Xt Hd0 H0 Hd' H' → VR K C Hd' H' (.ref x) z → Q .non H'
theorem spm_len {cls : Addr} {F : List AV → AV → Prop} {n : Nat} (h : ∀ as z, F as z → as.length + 1 = n) : ∀ vs H Q E, SpM K C cls F vs H Q E → vs.length = n := by
  rintro vs H Q E ⟨_, _, _, as, z, x, dx, us, hF, rfl, _, _, _, _, hv, _⟩
  rw [List.length_cons, Paired.length hv]
  exact h as z hF
/-- the state as an __init__ begins -/
theorem okM {x qual : Str} {pa : Arguments} {bd : List Stmt} {sc : Scope} {dvs : List V} {kws : List (Str × V)} {f : Addr} {fd : FuncData} {N ps : List Str} {k : Nat} {cls : Addr} {F : List AV → AV → Prop} (Fn : FunD K x qual pa bd sc dvs kws f fd) (S : FnScope N ps sc) (hl : ∀ as z, F as z → as.length + 1 = ps.length)
    (hbody : ∀ (cdv : Value) (A : Around) (outer : List Env) (s : Shared) (H : Hp) (vs : List V) (E : XK), Room k (A.deeper (envOfC qual sc s.heap.objs.size f cdv)) →
      ∃ t, PSs (cxOf CX0 P w K mg base N qual sc f cdv A outer s H E).nox bd t ∧
        ∀ (Hd0 H0 Hd : Hp) (as : List AV) (z : AV) (Q : VK) (σ : L2.St) (m : Addr) (dx : Addr), F as z → H0 m = none → Hd m = none → H m = some (.ins cls dx []) → Wx K C Hd0 H0 Hd H σ (startA N (.raw (.ref m) :: as)) → (∀ Hd' H', Xt Hd0 H0 Hd' H' → VR K C Hd' H' (.ref m) z → Q .non H') → t { nx := fun _ H' => Q .non H', rt := Q } σ H) :
    FnOk P w K mg base CX0 (k + 1) f fd ps (SpM K C cls F) := by
  refine Fn.ok S (spm_len hl) fun cdv A outer s H vs Q E hr h => ?_
  obtain ⟨Hd0, H0, Hd, as, z, m, dx, us, hF, rfl, xx, h0, hd, hm, hv, q⟩ := h
  obtain ⟨t, h1, h2⟩ := hbody cdv A outer s H (.ref m :: us) E hr
  have hlen : (V.ref m :: us).length ≤ N.length := by
    rw [List.length_cons, Paired.length hv, hl as z hF]
    have := congrArg List.length S.pre
    rw [List.length_take] at this
    omega
  exact ⟨t, h1.nox, h2 Hd0 H0 Hd as z Q _ m dx hF h0 hd hm ⟨xx, env_start N hlen (.cons (a := V.ref m) (b := AV.raw (.ref m)) rfl hv)⟩ q⟩
/-- a def with defaults -/
theorem okDD {x qual : Str} {pa : Arguments} {bd : List Stmt} {sc : Scope} {dvs : List V} {kws : List (Str × V)} {f : Addr} {fd : FuncData} {N ps : List Str} {k : Nat} {F : List AV → (AV → Prop) → Prop} (Fn : FunD K x qual pa bd sc dvs kws f fd) (S : FnScope N ps sc) (hl : ∀ as Pr, F as Pr → as.length = ps.length)
    (hbody : ∀ (cdv : Value) (A : Around) (outer : List Env) (s : Shared) (H : Hp) (vs : List V) (E : XK), Room k (A.deeper (envOfC qual sc s.heap.objs.size f cdv)) →
      ∃ t, PSs (cxOf CX0 P w K mg base N qual sc f cdv A outer s H E).nox bd t ∧
        ∀ (Hd : Hp) (as : List AV) (Pr : AV → Prop) (Q : VK) (σ : L2.St), F as Pr → Wx K C Hd H Hd H σ (startA N as) → (∀ v a Hd' H', Pr a → Xt Hd H Hd' H' → VR K C Hd' H' v a → Q v H') → t { nx := fun _ H' => Q .non H', rt := Q } σ H) :
    FnOk P w K mg base CX0 (k + 1) f fd ps (SpD K C F) := by
  refine Fn.ok S (spd_len hl) fun cdv A outer s H vs Q E hr h => ?_
  obtain ⟨Hd, as, Pr, hF, hd, hv, q⟩ := h
  obtain ⟨t, h1, h2⟩ := hbody cdv A outer s H vs E hr
  have hlen : vs.length ≤ N.length := by
    rw [Paired.length hv, hl as Pr hF]
    have := congrArg List.length S.pre
    rw [List.length_take] at this
    omega
  exact ⟨t, h1.nox, h2 Hd as Pr Q _ hF ⟨Xt.refl hd, env_start N hlen hv⟩ q⟩
/-- self.f = e -/
theorem Wx.fld {i : Nat} {x cls : Addr} {dx : Addr} {fs : List (Str × V)} {f : Str} (w : Wx K C Hd0 H0 Hd H σ ρ) (hi : Nat.blt i ρ.n = true) (hx : ρ.f i = some (.raw (.ref x))) (h0 : H0 x = none) (hd : Hd x = none) (hm : H x = some (.ins cls dx fs)) (hc : Cls K cls) (hn : NoAttr K cls f) (hl : fs.length < 1000) (ap : ApN ρ i x ρ.n) (hz : a.cell = none) (h : Ev K C tv ρ a)
    (k : ∀ v Hd' H', VR K C Hd' H' v a → Xm x Hd H Hd' H' → Hd' x = none → H' x = some (.ins cls dx (putF f v fs)) → Wx K C Hd0 H0 Hd' H' σ ρ → D.nx σ H') : sFld K (tVar i) tv f D σ H :=
  h Hd H σ w.x.dh w.env _ fun y Hd1 H1 x1 hy => by
    obtain ⟨v, hv0, rfl⟩ := w.env.val hi hx rfl
    refine ⟨.ref x, hv0, x, cls, dx, fs, rfl, x1.h _ _ hm, hc, hn, hl, ?_⟩
    have hd1 : Hd1 x = none := (x1.nw _ _ hm).trans hd
    have y2 : Xm x Hd H Hd1 (upd H1 x (.ins cls dx (putF f y fs))) := ⟨x1.d, fun b o hb e => by rw [upd_ne hb]; exact x1.h b o e, ex_mut x1.dh hd1, x1.nw⟩
    have y3 : Xm x Hd1 H1 Hd1 (upd H1 x (.ins cls dx (putF f y fs))) := ⟨Ex.refl _, fun b o hb e => by rw [upd_ne hb]; exact e, ex_mut x1.dh hd1, fun _ _ _ => rfl⟩
    refine k y Hd1 _ (hy.xm y3 (ne_cell hz)) y2 hd1 upd_same ?_
    have w2 := w.mod (i := i) (a := .raw (.ref x)) h0 ap y2 ⟨_, hv0, rfl⟩
    rw [En.set_self hx] at w2
    exact w2
theorem Wx.qfld {i : Nat} {x cls : Addr} {dx : Addr} {fs : List (Str × V)} {f : Str} (w : Wx K C Hd0 H0 Hd H σ ρ) (hi : Nat.blt i ρ.n = true) (hx : ρ.f i = some (.raw (.ref x))) (h0 : H0 x = none) (hd : Hd x = none) (hm : H x = some (.ins cls dx fs)) (hc : Cls K cls) (hn : NoAttr K cls f) (hl : fs.length < 1000) (ap : ApN ρ i x ρ.n) (hz : a.cell = none) (h : Ev K C tv ρ a)
    (k : ∀ v Hd' H', VR K C Hd' H' v a → Xm x Hd H Hd' H' → Hd' x = none → H' x = some (.ins cls dx (putF f v fs)) → Wx K C Hd0 H0 Hd' H' σ ρ → tz D σ H') : tSeq (sFld K (tVar i) tv f) tz D σ H := w.fld (D := { D with nx := tz D }) hi hx h0 hd hm hc hn hl ap hz h k
/-- the instance becomes data -/
theorem Wx.done {x cls : Addr} {dx : Addr} {fs : List (Str × V)} (w : Wx K C Hd0 H0 Hd H σ ρ) (h0 : H0 x = none) (hd : Hd x = none) (hm : H x = some (.ins cls dx fs)) :
    Xt Hd0 H0 (upd Hd x (.ins cls dx fs)) H ∧ Ex Hd (upd Hd x (.ins cls dx fs)) := by
  obtain ⟨f1, f2⟩ := ex_freeze w.x.dh hm hd
  exact ⟨⟨w.x.d.trans f2, w.x.h, f1, fun a o q => by rw [upd_ne (ne_of_none q h0)]; exact w.x.nw a o q⟩, f2⟩
/-- C(e, ..) -/
theorem make_core {cls : Addr} {F : List AV → AV → Prop} {E : XK} {us : List V} {as : List AV} {Q : VK} (e : Ex Hd H) (hv : VRs K C Hd H us as) (hF : F as a) (q : ∀ v Hd' H', Xt Hd H Hd' H' → VR K C Hd' H' v a → Q v H') :
    ∀ x dx, H x = none → H dx = none → dx ≠ x → SpM K C cls F (.ref x :: us) (upd (upd H dx (.own x)) x (.ins cls dx [])) (fun v H2 => v = .non ∧ Q (.ref x) H2) E := by
  intro x dx hx hdx hne
  have hx2 : upd H dx (.own x) x = none := by rw [upd_ne (Ne.symm hne)]; exact hx
  have xx : Xt Hd H Hd (upd (upd H dx (.own x)) x (.ins cls dx [])) := ⟨Ex.refl _, (Ex.new hdx).trans (Ex.new hx2), ex_mut (ex_mut e (free_of e hdx)) (free_of e hx), fun _ _ _ => rfl⟩
  exact ⟨Hd, H, Hd, as, a, x, dx, us, hF, rfl, xx, hx, free_of e hx, upd_same, hv.xt xx, fun Hd' H' x2 hr => ⟨rfl, q _ Hd' H' x2 hr⟩⟩
end
/-- a class of the text, as its makers see it: k its __init__'s level, dvs what fills up -/
structure Mkr (P : Program) (w : World) (K : PySem.W.Frag) (mg : Str → Option Value) (base : Heap) (x : Str) (k : Nat) (ps : List Str) (cls : Addr) (sp : Sp) (dvs : List V) : Prop where
  ex : ∃ f fd ds, Mk K cls f ∧ FnOk P w K mg base CX0 k f fd ps sp ∧ mg x = some (.ref cls) ∧ Binds K fd ps ds ∧ Vals dvs ds
section
variable {X : Cx} {k : Nat} {ps : List Str} {sp : Sp} {cls : Addr} {dvs : List V} {x : Str} {p pos : Pos} {e : Expr} {es : List Expr} {t : TA}
theorem pe_mk (d : Mkr X.prog X.w X.K X.mg X.base x k ps cls sp dvs) (hr : Room (k + 1) X.A) (hg : Gl X x) (ha : PA X (e :: es) t) (hdb : (x == ("__debug__" : Str)) = false := by decide)
    (he : starEach (e :: es) X.env = (false, eval e X.env) :: starEach es X.env := by rfl) (hpl : (backTo pos (starEach es X.env)).any (·.1) = false := by rfl) : PE X (.Call (.Name x p) (e :: es) [] pos) (tMake cls sp dvs E0 t) := by
  obtain ⟨f, fd, ds, M, F, hm, hb, hv⟩ := d.ex
  exact pe_make M F hr hg hm hb hv pass0 ha hdb he hpl
theorem pe_mk0 (d : Mkr X.prog X.w X.K X.mg X.base x k ps cls sp dvs) (hr : Room (k + 1) X.A) (hg : Gl X x) (hdb : (x == ("__debug__" : Str)) = false := by decide) : PE X (.Call (.Name x p) [] [] pos) (tMake cls sp dvs E0 tNil) := by
  obtain ⟨f, fd, ds, M, F, hm, hb, hv⟩ := d.ex
  exact pe_make0 M F hr hg hm hb hv pass0 hdb
end
section
variable {P : Program} {w : World} {K : PySem.W.Frag} {C : Cl P w} {ρ : En} {a : AV}
theorem ev_make {cls : Addr} {F : List AV → AV → Prop} {E : XK} {tl : TA} {as : List AV} (h : EvL K C tl ρ as) (hF : F as a) : Ev K C (tMake cls (SpM K C cls F) [] E tl) ρ a := fun Hd H σ x r Q q =>
  h Hd H σ x r _ fun vs Hd1 H1 x1 h1 => by
    intro y dx hy hdx hne
    rw [List.append_nil]
    exact make_core x1.dh h1 hF (fun v Hd' H' x2 h2 => q v Hd' H' (x1.trans x2) h2) y dx hy hdx hne
theorem ev_make' {cls : Addr} {F : List AV → AV → Prop} {E : XK} {tl : TA} {as as' : List AV} (h : EvL K C tl ρ as) (e : as = as') (hF : F as' a) : Ev K C (tMake cls (SpM K C cls F) [] E tl) ρ a := ev_make h (e ▸ hF)
end
end LW

set_option Elab.async false
set_option linter.all false
set_option maxRecDepth 100000
set_option maxHeartbeats 4000000
/-! lists put together; promises of new cells and of changed cells -/
namespace LW
open PySem PySem.Spec PyProof.Rows L2 Evl
def rCatL (K : PySem.W.Frag) : R2 := fun x y H Q => ∃ l b xs zs, x = .ref l ∧ y = .ref b ∧ SqL K H l xs ∧ SqL K H b zs ∧ xs.length + zs.length ≤ sizeLine ∧ ∀ p, H p = none → Q (.ref p) (upd H p (.lst (xs ++ zs)))
theorem op_catL0 {X : Cx} : OpR X (binaryOp .Add) (rCatL X.K) := by
  intro pins s σ H x y v u Q I rx ry h
  obtain ⟨l, b, xs, zs, rfl, rfl, hH, hB, hz, q⟩ := h
  cases rx
  cases ry
  obtain ⟨its, r, ⟨⟨cls, dd, data, sl⟩, n, ho, hc, hdn, hd⟩, _⟩ := I.list hH
  obtain ⟨its2, r2, ⟨⟨cls2, dd2, data2, sl2⟩, n2, ho2, hc2, hdn2, hd2⟩, _⟩ := I.list hB
  simp only at hc hd hc2 hd2
  subst hc hd hc2 hd2
  have e : its.toArray ++ its2.toArray = (its ++ its2).toArray := by simp
  have hsz : its.toArray.size + its2.toArray.size ≤ sizeLine := by
    rw [List.size_toArray, List.size_toArray, ← r.length, ← r2.length]; exact hz
  refine concat_meets ⟨_, ho, rfl⟩ ⟨_, ho2, rfl⟩ noFill_list_add seq_list_add PySem.F.slot_list_add PySem.F.entry_list_add (PySem.F.args_list_add_2 _ _) (list_addW l b its.toArray its2.toArray n n2 dd dd2 sl sl2 hsz) ⟨ho, ho2, ?_⟩
  rw [e]
  exact ⟨.ref _, _, I.lnew (t' := s.toks) (r.append r2) (by rw [List.length_append]; exact hz), rfl, q _ I.fresh⟩
theorem opCatL {X : Cx} (K : PySem.W.Frag) (hK : X.K = K := by rfl) : OpR X (binaryOp .Add) (rCatL K) := hK ▸ op_catL0
section
variable {X : Cx} {value o i k v tg e : Expr} {td ty tv tk : TE} {pos pos' : Pos} (P : Program) (w : World) (K : PySem.W.Frag) (hP : X.prog = P := by rfl) (hw : X.w = w := by rfl) (hK : X.K = K := by rfl)
include hP hw hK
theorem peTOneP (hu : X.A.units + 1 < cLine) (hk : PE X k tk) (hv : PE X v tv) : PE X (.Dict [some k] [v] pos) (tTOne P w K tk tv) := by subst hP hw hK; exact pe_tone hu hk hv
theorem petGetP (hu : X.A.units + 1 < cLine) (ho : PE X o td) (hi : PE X i ty) (hs : NoSl i) : PE X (.Subscript o i pos) (tTGet P w K td ty) := by subst hP hw hK; exact pe_tget hu ho hi hs
theorem psTPutP (hu : X.A.units + 1 < cLine) (ho : PE X o td) (hi : PE X i ty) (hv : PE X value tv) (hs : swapsWith value (some (.Subscript o i pos')) pos.line X.env = pure false) : PS X (.Assign [.Subscript o i pos'] value pos) (sTPut P w K td ty tv) := by subst hP hw hK; exact ps_tput hu ho hi hv hs
theorem opTNotInP (hu : X.A.units + 1 < cLine) : OpR X (compareOp .NotIn) (rTNotIn P w K) := by subst hP hw hK; exact op_tnotin hu
end
theorem peTNewP {X : Cx} {pos : Pos} (P : Program) (w : World) (hP : X.prog = P := by rfl) (hw : X.w = w := by rfl) : PE X (.Dict [] [] pos) (tTNew P w) := by subst hP hw; exact pe_tnew
theorem piTP {X : Cx} {tg e : Expr} {td : TE} (P : Program) (w : World) (he : PE X e td) (hP : X.prog = P := by rfl) (hw : X.w = w := by rfl) : PI X tg e (iT P w td) := by subst hP hw; exact pi_tkeys he
section
variable {P : Program} {w : World} {K : PySem.W.Frag} {mg : Str → Option Value} {base : Heap} {C : Cl P w} {Hd0 H0 Hd H : Hp} {σ : L2.St} {ρ : En} {tv te ta tb : TE} {tl : TA} {D : Ends} {tz : TS} {a : AV} {ds es : List PyData}
theorem ev_catL (ha : Ev K C ta ρ (.d (.list ds))) (hb : Ev K C tb ρ (.d (.list es))) (hz : ds.length + es.length ≤ 100000) : Ev K C (tOp (rCatL K) ta tb) ρ (.d (.list (ds ++ es))) :=
  ev2 ha hb fun Hd H x y ex hx hy Q q => by
    obtain ⟨p, vs, rfl, hs, hp⟩ := dp_lst_inv hx
    obtain ⟨p2, us, rfl, hs2, hp2⟩ := dp_lst_inv hy
    exact ⟨p, p2, vs, us, rfl, rfl, ex_l ex hs, ex_l ex hs2, by rw [dpall_len hp, dpall_len hp2]; exact sz_of hz, fun l hl => q _ _ _ (Xt.new ex hl) (Dp.lst (SqL.of upd_same) (dps_ex (Ex.new (free_of ex hl)) _ _ (dpall_app hp hp2)))⟩
theorem replD : ∀ (k : Nat) {vs : List V} {ds : List PyData}, DpAll K H vs ds → DpAll K H (List.replicate k vs).flatten (List.replicate k ds).flatten
  | 0, _, _, _ => .nil
  | k + 1, _, _, h => by
    rw [List.replicate_succ, List.replicate_succ, List.flatten_cons, List.flatten_cons]
    exact dpall_app h (replD k h)
/-- [e, ..] * k -/
theorem ev_repL {k : Int} (ha : EvD K C tl ρ ds) (hb : Ev K C tb ρ (.d (.int k))) (h0 : ds.length ≤ 1000) (hk : k ≤ 1000) (hk0 : -1000 ≤ k) (hz : ds.length * k.toNat ≤ 100000) : Ev K C (tOp rRep (tLst tl) tb) ρ (.d (.list (List.replicate k.toNat ds).flatten)) := fun Hd H σ x r Q q =>
  ha Hd H σ x r _ fun vs Hd1 H1 x1 h1 => ⟨by rw [dpall_len h1]; exact sz_of (by omega), fun p hp => by
    have x2 : Xt Hd1 H1 (upd Hd1 p (.lst vs)) (upd H1 p (.lst vs)) := Xt.new x1.dh hp
    refine hb _ _ σ x2.dh (r.xt (x1.trans x2)) _ fun u Hd3 H3 x3 hu => ?_
    refine ⟨p, k, vs, rfl, dp_int_inv hu, x3.h _ _ upd_same, by omega, by omega, by rw [dpall_len h1]; exact sz_of hz, fun l hl => ?_⟩
    have xa := (x1.trans x2).trans x3
    exact q _ _ _ (xa.trans (Xt.new xa.dh hl)) (Dp.lst (SqL.of upd_same) (replD _ (dps_ex ((x2.d.trans x3.d).trans (Ex.new (free_of xa.dh hl))) _ _ h1)))⟩

/-! ### promises of new cells -/
def SpN (K : PySem.W.Frag) (C : Cl P w) (F : List AV → (AV → Prop) → Prop) : Sp := fun vs H Q _ => ∃ (Hd : Hp) (as : List AV) (Pr : AV → Prop), F as Pr ∧ Ex Hd H ∧ VRs K C Hd H vs as ∧ ∀ v a Hd' H', Pr a → (∀ m, a.cell = some m → H m = none) → Xt Hd H Hd' H' → VR K C Hd' H' v a → Q v H'
def EvN (K : PySem.W.Frag) (C : Cl P w) (t : TE) (ρ : En) (Pr : AV → Prop) : Prop := ∀ (Hd H : Hp) (σ : L2.St), Ex Hd H → EnvR K C Hd H σ ρ → ∀ Q : VK, (∀ v a Hd' H', Pr a → (∀ m, a.cell = some m → H m = none) → Xt Hd H Hd' H' → VR K C Hd' H' v a → Q v H') → t σ H Q
theorem spn_len {F : List AV → (AV → Prop) → Prop} {n : Nat} (h : ∀ as Pr, F as Pr → as.length = n) : ∀ vs H Q E, SpN K C F vs H Q E → vs.length = n := by
  rintro vs H Q E ⟨Hd, as, Pr, hF, _, hv, _⟩
  rw [Paired.length hv]
  exact h as Pr hF
theorem okN {x qual : Str} {st : Stmt} {f : Addr} {fd : FuncData} {N ps : List Str} {k : Nat} {F : List AV → (AV → Prop) → Prop} (Fn : Fun K x qual st f fd) (S : FnScope N ps (defScope st)) (hl : ∀ as Pr, F as Pr → as.length = ps.length)
    (hbody : ∀ (cdv : Value) (A : Around) (outer : List Env) (s : Shared) (H : Hp) (vs : List V) (E : XK), Room k (A.deeper (envOfC qual (defScope st) s.heap.objs.size f cdv)) →
      ∃ t, PSs (cxOf CX0 P w K mg base N qual (defScope st) f cdv A outer s H E).nox (defBody st) t ∧
        ∀ (Hd : Hp) (as : List AV) (Pr : AV → Prop) (Q : VK) (σ : L2.St), F as Pr → Wx K C Hd H Hd H σ (startA N as) → (∀ v a Hd' H', Pr a → (∀ m, a.cell = some m → H m = none) → Xt Hd H Hd' H' → VR K C Hd' H' v a → Q v H') → t { nx := fun _ H' => Q .non H', rt := Q } σ H) :
    FnOk P w K mg base CX0 (k + 1) f fd ps (SpN K C F) := by
  refine Fn.ok S (spn_len hl) fun cdv A outer s H vs Q E hr h => ?_
  obtain ⟨Hd, as, Pr, hF, hd, hv, q⟩ := h
  obtain ⟨t, h1, h2⟩ := hbody cdv A outer s H vs E hr
  have hlen : vs.length ≤ N.length := by
    rw [Paired.length hv, hl as Pr hF]
    have := congrArg List.length S.pre
    rw [List.length_take] at this
    omega
  exact ⟨t, h1, h2 Hd as Pr Q _ hF ⟨Xt.refl hd, env_start N hlen hv⟩ q⟩
theorem evn_call {F : List AV → (AV → Prop) → Prop} {Pr : AV → Prop} {E : XK} {as as' : List AV} (h : EvL K C tl ρ as) (e : as = as') (hF : F as' Pr) : EvN K C (tCall (SpN K C F) [] E tl) ρ Pr := fun Hd H σ x r Q q =>
  h Hd H σ x r _ fun vs Hd1 H1 x1 h1 => ⟨Hd1, as', Pr, hF, x1.dh, by rw [List.append_nil, ← e]; exact h1, fun v b Hd2 H2 p f x2 h2 => q v b Hd2 H2 p (fun m hm => fresh_back x1.h (f m hm)) (x1.trans x2) h2⟩
theorem Wx.nasg {i : Nat} {Pr : AV → Prop} (w : Wx K C Hd0 H0 Hd H σ ρ) (h : EvN K C te ρ Pr) (k : ∀ a σ' Hd' H', Pr a → (∀ m, a.cell = some m → H m = none ∧ H0 m = none) → Xt Hd H Hd' H' → Wx K C Hd0 H0 Hd' H' σ' (ρ.set i a) → D.nx σ' H') : tAsg te (gName i) D σ H :=
  h Hd H σ w.x.dh w.env _ fun v a Hd1 H1 p f x1 h1 => k a _ Hd1 H1 p (fun m hm => ⟨f m hm, fresh_back w.x.h (f m hm)⟩) x1 ⟨w.x.trans x1, (w.env.xt x1).set h1 i⟩
theorem Wx.qnasg {i : Nat} {Pr : AV → Prop} (w : Wx K C Hd0 H0 Hd H σ ρ) (h : EvN K C te ρ Pr) (k : ∀ a σ' Hd' H', Pr a → (∀ m, a.cell = some m → H m = none ∧ H0 m = none) → Xt Hd H Hd' H' → Wx K C Hd0 H0 Hd' H' σ' (ρ.set i a) → tz D σ' H') : tSeq (tAsg te (gName i)) tz D σ H := w.nasg (D := { D with nx := tz D }) h k
/-- a cell that a slot owns is not new -/
theorem Wx.cell_old {i : Nat} {m : Addr} (w : Wx K C Hd0 H0 Hd H σ ρ) (hi : Nat.blt i ρ.n = true) (e : ρ.f i = some a) (hc : a.cell = some m) : H m ≠ none := by
  obtain ⟨v, h1, h2⟩ := w.env.val hi e (by cases a <;> first | rfl | cases hc)
  cases a with
  | ml m' ds => obtain ⟨_, _, vs, h, _⟩ := h2; cases hc; rw [h]; exact fun z => nomatch z
  | dk m' ds => obtain ⟨_, _, vs, h, _⟩ := h2; cases hc; rw [h]; exact fun z => nomatch z
  | dt m' o ds es => obtain ⟨_, _, h, _⟩ := h2; cases hc; rw [h]; exact fun z => nomatch z
  | d _ => cases hc
  | raw _ => cases hc
  | pol _ => cases hc
  | set _ => cases hc
  | out _ => cases hc
  | pv _ _ => cases hc
  | unk => cases hc
end
end LW

set_option Elab.async false
set_option linter.all false
set_option maxRecDepth 100000
set_option maxHeartbeats 4000000
/-! calls that change what one slot owns -/
namespace LW
open PySem PySem.Spec PyProof.Rows L2 Evl
section
variable {P : Program} {w : World} {K : PySem.W.Frag} {mg : Str → Option Value} {base : Heap} {C : Cl P w} {Hd0 H0 Hd H Hd' H' : Hp} {σ : L2.St} {ρ : En} {tv te ta tb : TE} {tl tr : TA} {D : Ends} {tz : TS} {a a' : AV} {ds es : List PyData} {m : Addr} {v : V}
theorem vr_cell : ∀ {a : AV}, a.cell = some m → VR K C Hd H v a → v = .ref m ∧ Hd m = none ∧ H m ≠ none
  | .ml _ _, e, ⟨h1, h2, vs, h3, _⟩ => by cases e; exact ⟨h1, h2, by rw [h3]; exact fun z => nomatch z⟩
  | .dk _ _, e, ⟨h1, h2, vs, h3, _⟩ => by cases e; exact ⟨h1, h2, by rw [h3]; exact fun z => nomatch z⟩
  | .dt _ _ _ _, e, ⟨h1, h2, h3, _⟩ => by cases e; exact ⟨h1, h2, by rw [h3]; exact fun z => nomatch z⟩
  | .d _, e, _ => by cases e
  | .raw _, e, _ => by cases e
  | .pol _, e, _ => by cases e
  | .set _, e, _ => by cases e
  | .out _, e, _ => by cases e
  | .pv _ _, e, _ => by cases e
  | .unk, e, _ => by cases e
theorem cell_known : ∀ {a : AV}, a.cell = some m → a.known = true
  | .ml _ _, _ => rfl
  | .dk _ _, _ => rfl
  | .dt _ _ _ _, _ => rfl
  | .d _, _ => rfl
  | .raw _, _ => rfl
  | .pol _, _ => rfl
  | .set _, _ => rfl
  | .out _, _ => rfl
  | .pv _ _, _ => rfl
  | .unk, e => by cases e
theorem En.set_set (ρ : En) (i : Nat) (a b : AV) : (ρ.set i a).set i b = ρ.set i b := by
  have e : (fun k => bif Nat.beq k i then some b else (ρ.set i a).f k) = fun k => bif Nat.beq k i then some b else ρ.f k := by
    funext k
    show (bif Nat.beq k i then some b else (bif Nat.beq k i then some a else ρ.f k)) = _
    cases Nat.beq k i <;> rfl
  show (⟨ρ.n, fun k => bif Nat.beq k i then some b else (ρ.set i a).f k⟩ : En) = ⟨ρ.n, fun k => bif Nat.beq k i then some b else ρ.f k⟩
  rw [e]
theorem En.set_get (ρ : En) (i : Nat) (a : AV) : (ρ.set i a).f i = some a := by
  show (bif Nat.beq i i then some a else ρ.f i) = some a
  rw [Nat.beq_refl]; rfl
theorem Wx.cellVR {i : Nat} (w : Wx K C Hd0 H0 Hd H σ ρ) (hi : Nat.blt i ρ.n = true) (e : ρ.f i = some a) (hc : a.cell = some m) : σ[i]? = some (some (.ref m)) ∧ VR K C Hd H (.ref m) a := by
  obtain ⟨v, h1, h2⟩ := w.env.val hi e (cell_known hc)
  obtain ⟨rfl, _, _⟩ := vr_cell hc h2
  exact ⟨h1, h2⟩
def SpC (K : PySem.W.Frag) (C : Cl P w) (F : List AV → (PyData → AV → Prop) → Prop) : Sp := fun vs H Q _ => ∃ (Hd : Hp) (A0 : AV) (as : List AV) (m : Addr) (Pr : PyData → AV → Prop), F (A0 :: as) Pr ∧ A0.cell = some m ∧ Ex Hd H ∧ VRs K C Hd H vs (A0 :: as) ∧
  ∀ v d a' Hd' H', Pr d a' → a'.cell = some m → Xm m Hd H Hd' H' → VR K C Hd' H' (.ref m) a' → Dp K Hd' v d → Q v H'
theorem spc_len {F : List AV → (PyData → AV → Prop) → Prop} {n : Nat} (h : ∀ as Pr, F as Pr → as.length = n) : ∀ vs H Q E, SpC K C F vs H Q E → vs.length = n := by
  rintro vs H Q E ⟨Hd, A0, as, m, Pr, hF, _, _, hv, _⟩
  rw [Paired.length hv]
  exact h _ Pr hF
def cutH (H : Hp) (m : Addr) : Hp := fun b => if b = m then none else H b
theorem okC {x qual : Str} {st : Stmt} {f : Addr} {fd : FuncData} {N ps : List Str} {k : Nat} {F : List AV → (PyData → AV → Prop) → Prop} (Fn : Fun K x qual st f fd) (S : FnScope N ps (defScope st)) (hl : ∀ as Pr, F as Pr → as.length = ps.length)
    (hbody : ∀ (cdv : Value) (A : Around) (outer : List Env) (s : Shared) (H : Hp) (vs : List V) (E : XK), Room k (A.deeper (envOfC qual (defScope st) s.heap.objs.size f cdv)) →
      ∃ t, PSs (cxOf CX0 P w K mg base N qual (defScope st) f cdv A outer s H E).nox (defBody st) t ∧
        ∀ (Hd H0 : Hp) (A0 : AV) (as : List AV) (m : Addr) (Pr : PyData → AV → Prop) (Q : VK) (σ : L2.St), F (A0 :: as) Pr → A0.cell = some m → H0 m = none → Wx K C Hd H0 Hd H σ (startA N (A0 :: as)) →
          (∀ v d a' Hd' H', Pr d a' → a'.cell = some m → Xt Hd H0 Hd' H' → VR K C Hd' H' (.ref m) a' → Dp K Hd' v d → Q v H') → t { nx := fun _ H' => Q .non H', rt := Q } σ H) :
    FnOk P w K mg base CX0 (k + 1) f fd ps (SpC K C F) := by
  refine Fn.ok S (spc_len hl) fun cdv A outer s H vs Q E hr h => ?_
  obtain ⟨Hd, A0, as, m, Pr, hF, hc, hd, hv, q⟩ := h
  obtain ⟨t, h1, h2⟩ := hbody cdv A outer s H vs E hr
  have hlen : vs.length ≤ N.length := by
    rw [Paired.length hv, hl _ Pr hF]
    have := congrArg List.length S.pre
    rw [List.length_take] at this
    omega
  have hm0 : cutH H m m = none := if_pos rfl
  have hdm : Hd m = none := by
    cases hv with
    | cons r t => exact (vr_cell hc r).2.1
  have x0 : Xt Hd (cutH H m) Hd H := ⟨Ex.refl _, fun b o e => by
    unfold cutH at e
    split at e
    · cases e
    · exact e, hd, fun _ _ _ => rfl⟩
  refine ⟨t, h1, h2 Hd (cutH H m) A0 as m Pr Q _ hF hc hm0 ⟨x0, env_start N hlen hv⟩ fun v d a' Hd' H' hp hc' x hr' hd' => q v d a' Hd' H' hp hc' ⟨x.d, fun b o hb e => x.h b o (by unfold cutH; rw [if_neg hb]; exact e), x.dh, fun b o e => ?_⟩ hr' hd'⟩
  by_cases hb : b = m
  · subst hb; rw [(vr_cell hc' hr').2.1, hdm]
  · exact x.nw b o (by unfold cutH; rw [if_neg hb]; exact e)
theorem Wx.retC {i : Nat} {d : PyData} (w : Wx K C Hd0 H0 Hd H σ ρ) (hi : Nat.blt i ρ.n = true) (e : ρ.f i = some a) (hc : a.cell = some m) (h : Ev K C te ρ (.d d)) (k : ∀ v Hd' H', Xt Hd0 H0 Hd' H' → VR K C Hd' H' (.ref m) a → Dp K Hd' v d → D.rt v H') : tRet te D σ H :=
  h Hd H σ w.x.dh w.env _ fun v Hd1 H1 x1 h1 => k v Hd1 H1 (w.x.trans x1) ((w.cellVR hi e hc).2.xt x1) h1

/-! evaluation that may change slot i's m -/
def EvC (K : PySem.W.Frag) (C : Cl P w) (i : Nat) (m : Addr) (t : TE) (ρ : En) (A : AV → Prop) (R : PyData → AV → Prop) : Prop := ∀ (Hd0 H0 Hd H : Hp) (σ : L2.St) (a : AV), A a → H0 m = none → Wx K C Hd0 H0 Hd H σ (ρ.set i a) → ∀ Q : VK,
  (∀ v d a' Hd' H', R d a' → Ex Hd Hd' → Wx K C Hd0 H0 Hd' H' σ (ρ.set i a') → Dp K Hd' v d → Q v H') → t σ H Q
def EvCs (K : PySem.W.Frag) (C : Cl P w) (i : Nat) (m : Addr) (t : TA) (ρ : En) (A : AV → Prop) (R : List PyData → AV → Prop) : Prop := ∀ (Hd0 H0 Hd H : Hp) (σ : L2.St) (a : AV), A a → H0 m = none → Wx K C Hd0 H0 Hd H σ (ρ.set i a) → ∀ Q : List V → Hp → Prop,
  (∀ vs ds a' Hd' H', R ds a' → Ex Hd Hd' → Wx K C Hd0 H0 Hd' H' σ (ρ.set i a') → DpAll K Hd' vs ds → Q vs H') → t σ H Q
variable {i : Nat} {A A' : AV → Prop} {R R' : PyData → AV → Prop}
theorem evc_mono (h : EvC K C i m te ρ A R) (hr : ∀ d a, R d a → R' d a) : EvC K C i m te ρ A R' := fun Hd0 H0 Hd H σ a ha h0 w Q q => h Hd0 H0 Hd H σ a ha h0 w Q fun v d a' Hd' H' r => q v d a' Hd' H' (hr d a' r)
theorem evc_pre (h : EvC K C i m te ρ A R) (hr : ∀ a, A' a → A a) : EvC K C i m te ρ A' R := fun Hd0 H0 Hd H σ a ha => h Hd0 H0 Hd H σ a (hr a ha)
theorem evc_ev {d : PyData} (h : ∀ a, A a → Ev K C te (ρ.set i a) (.d d)) : EvC K C i m te ρ A (fun d' a' => d' = d ∧ A a') := fun Hd0 H0 Hd H σ a ha h0 w Q q =>
  h a ha Hd H σ w.x.dh w.env Q fun v Hd1 H1 x1 h1 => q v d a Hd1 H1 ⟨rfl, ha⟩ x1.d ⟨w.x.trans x1, w.env.xt x1⟩ h1
theorem evc_nil : EvCs K C i m tNil ρ A (fun ds a' => ds = [] ∧ A a') := fun Hd0 H0 Hd H σ a ha h0 w Q q => q [] [] a Hd H ⟨rfl, ha⟩ (Ex.refl _) w .nil
theorem evc_cons {R2 : PyData → List PyData → AV → Prop} (h1 : EvC K C i m ta ρ A R) (h2 : ∀ d, EvCs K C i m tr ρ (R d) (R2 d)) : EvCs K C i m (tCons ta tr) ρ A (fun ds a' => ∃ d r, ds = d :: r ∧ R2 d r a') := fun Hd0 H0 Hd H σ a ha h0 w Q q =>
  h1 Hd0 H0 Hd H σ a ha h0 w _ fun v d a1 Hd1 H1 r1 e1 w1 p1 => h2 d Hd0 H0 Hd1 H1 σ a1 r1 h0 w1 _ fun vs ds a2 Hd2 H2 r2 e2 w2 p2 => q (v :: vs) (d :: ds) a2 Hd2 H2 ⟨d, ds, rfl, r2⟩ (e1.trans e2) w2 (.cons (dp_ex e2 _ _ p1) p2)
theorem evc_op {r : R2} {R2 : PyData → PyData → AV → Prop} (h1 : EvC K C i m ta ρ A R) (h2 : ∀ d, EvC K C i m tb ρ (R d) (R2 d)) (hr : ∀ d1 d2 a, R2 d1 d2 a → ∃ d, R' d a ∧ ∀ Hd H x y, Ex Hd H → Dp K Hd x d1 → Dp K Hd y d2 → ∀ Q : VK, (∀ v Hd' H', Xt Hd H Hd' H' → Dp K Hd' v d → Q v H') → r x y H Q) :
    EvC K C i m (tOp r ta tb) ρ A R' := fun Hd0 H0 Hd H σ a ha h0 w Q q =>
  h1 Hd0 H0 Hd H σ a ha h0 w _ fun v d a1 Hd1 H1 r1 e1 w1 p1 => h2 d Hd0 H0 Hd1 H1 σ a1 r1 h0 w1 _ fun u d2 a2 Hd2 H2 r2 e2 w2 p2 => by
    obtain ⟨z, hz, hq⟩ := hr d d2 a2 r2
    exact hq Hd2 H2 v u w2.x.dh (dp_ex e2 _ _ p1) p2 Q fun y Hd3 H3 x3 h3 => q y z a2 Hd3 H3 hz ((e1.trans e2).trans x3.d) ⟨w2.x.trans x3, w2.env.xt x3⟩ h3
theorem evc_lst {R1 : List PyData → AV → Prop} (h : EvCs K C i m tl ρ A R1) (hl : ∀ ds a, R1 ds a → ds.length ≤ 100000) : EvC K C i m (tLst tl) ρ A (fun d a => ∃ ds, d = .list ds ∧ R1 ds a) := fun Hd0 H0 Hd H σ a ha h0 w Q q =>
  h Hd0 H0 Hd H σ a ha h0 w _ fun vs ds a1 Hd1 H1 r1 e1 w1 p1 => ⟨by rw [dpall_len p1]; exact sz_of (hl ds a1 r1), fun p hp => by
    have x2 := Xt.new (o := .lst vs) w1.x.dh hp
    exact q _ _ a1 _ _ ⟨ds, rfl, r1⟩ (e1.trans x2.d) ⟨w1.x.trans x2, w1.env.xt x2⟩ (Dp.lst (SqL.of upd_same) (dps_ex x2.d _ _ p1))⟩
theorem evc_tup {R1 : List PyData → AV → Prop} (h : EvCs K C i m tl ρ A R1) (hl : ∀ ds a, R1 ds a → ds.length ≤ 100000) : EvC K C i m (tTup tl) ρ A (fun d a => ∃ ds, d = .tuple ds ∧ R1 ds a) := fun Hd0 H0 Hd H σ a ha h0 w Q q =>
  h Hd0 H0 Hd H σ a ha h0 w _ fun vs ds a1 Hd1 H1 r1 e1 w1 p1 => ⟨by rw [dpall_len p1]; exact sz_of (hl ds a1 r1), fun p hp => by
    have x2 := Xt.new (o := .tup vs) w1.x.dh hp
    exact q _ _ a1 _ _ ⟨ds, rfl, r1⟩ (e1.trans x2.d) ⟨w1.x.trans x2, w1.env.xt x2⟩ (Dp.tup (SqT.of upd_same) (dps_ex x2.d _ _ p1))⟩
theorem evc_call {F : List AV → (PyData → AV → Prop) → Prop} {E : XK} {as : List AV} (hi : Nat.blt i ρ.n = true) (h : ∀ a, A a → a.cell = some m ∧ EvL K C tl (ρ.set i a) (a :: as) ∧ F (a :: as) (fun d a' => R d a') ∧ ApN (ρ.set i a) i m ρ.n) : EvC K C i m (tCall (SpC K C F) [] E tl) ρ A R := fun Hd0 H0 Hd H σ a ha h0 w Q q => by
  obtain ⟨hc, hl, hF, ap⟩ := h a ha
  refine hl Hd H σ w.x.dh w.env _ fun vs Hd1 H1 x1 h1 => ⟨Hd1, a, as, m, _, hF, hc, x1.dh, by rw [List.append_nil]; exact h1, fun v d a' Hd2 H2 hp hc' x2 hr hd => ?_⟩
  have w1 : Wx K C Hd0 H0 Hd1 H1 σ (ρ.set i a) := ⟨w.x.trans x1, w.env.xt x1⟩
  have w2 := w1.mod (i := i) (a := a') h0 ap x2 ⟨_, (w1.cellVR hi (En.set_get ρ i a) hc).1, hr⟩
  rw [En.set_set] at w2
  exact q v d a' Hd2 H2 hp (x1.d.trans x2.d) w2 hd
/-! .. in statements -/
theorem Wx.casg {j : Nat} (w : Wx K C Hd0 H0 Hd H σ (ρ.set i a)) (h0 : H0 m = none) (ha : A a) (h : EvC K C i m te ρ A R) (k : ∀ d a' σ' Hd' H', R d a' → Ex Hd Hd' → Wx K C Hd0 H0 Hd' H' σ' ((ρ.set i a').set j (.d d)) → D.nx σ' H') : tAsg te (gName j) D σ H :=
  h Hd0 H0 Hd H σ a ha h0 w _ fun v d a1 Hd1 H1 r1 e1 w1 p1 => k d a1 _ Hd1 H1 r1 e1 ⟨w1.x, w1.env.set (a := .d d) p1 j⟩
theorem Wx.qcasg {j : Nat} (w : Wx K C Hd0 H0 Hd H σ (ρ.set i a)) (h0 : H0 m = none) (ha : A a) (h : EvC K C i m te ρ A R) (k : ∀ d a' σ' Hd' H', R d a' → Ex Hd Hd' → Wx K C Hd0 H0 Hd' H' σ' ((ρ.set i a').set j (.d d)) → tz D σ' H') : tSeq (tAsg te (gName j)) tz D σ H := w.casg (D := { D with nx := tz D }) h0 ha h k
theorem Wx.cdrop (w : Wx K C Hd0 H0 Hd H σ (ρ.set i a)) (h0 : H0 m = none) (ha : A a) (h : EvC K C i m te ρ A R) (k : ∀ d a' Hd' H', R d a' → Ex Hd Hd' → Wx K C Hd0 H0 Hd' H' σ (ρ.set i a') → D.nx σ H') : tDrop te D σ H :=
  h Hd0 H0 Hd H σ a ha h0 w _ fun v d a1 Hd1 H1 r1 e1 w1 p1 => k d a1 Hd1 H1 r1 e1 w1
theorem Wx.qcdrop (w : Wx K C Hd0 H0 Hd H σ (ρ.set i a)) (h0 : H0 m = none) (ha : A a) (h : EvC K C i m te ρ A R) (k : ∀ d a' Hd' H', R d a' → Ex Hd Hd' → Wx K C Hd0 H0 Hd' H' σ (ρ.set i a') → tz D σ H') : tSeq (tDrop te) tz D σ H := w.cdrop (D := { D with nx := tz D }) h0 ha h k
theorem Wx.cret (w : Wx K C Hd0 H0 Hd H σ (ρ.set i a)) (h0 : H0 m = none) (ha : A a) (hi : Nat.blt i ρ.n = true) (hc : ∀ d a', R d a' → a'.cell = some m) (h : EvC K C i m te ρ A R) (k : ∀ v d a' Hd' H', R d a' → Xt Hd0 H0 Hd' H' → VR K C Hd' H' (.ref m) a' → Dp K Hd' v d → D.rt v H') : tRet te D σ H :=
  h Hd0 H0 Hd H σ a ha h0 w _ fun v d a1 Hd1 H1 r1 e1 w1 p1 => k v d a1 Hd1 H1 r1 w1.x (w1.cellVR hi (En.set_get ρ i a1) (hc d a1 r1)).2 p1
/-- a test -/
theorem Wx.cif_ {t1 t2 : TS} (w : Wx K C Hd0 H0 Hd H σ (ρ.set i a)) (h0 : H0 m = none) (ha : A a) (h : EvC K C i m te ρ A R) (hb : ∀ d a', R d a' → ∃ b, d = .bool b) (h1 : ∀ a' Hd' H', R (.bool true) a' → Ex Hd Hd' → Wx K C Hd0 H0 Hd' H' σ (ρ.set i a') → t1 D σ H') (h2 : ∀ a' Hd' H', R (.bool false) a' → Ex Hd Hd' → Wx K C Hd0 H0 Hd' H' σ (ρ.set i a') → t2 D σ H') : tIfS (tTest te) t1 t2 D σ H :=
  h Hd0 H0 Hd H σ a ha h0 w _ fun v d a1 Hd1 H1 r1 e1 w1 p1 => by
    obtain ⟨b, rfl⟩ := hb d a1 r1
    refine ⟨b, dp_bl_inv p1, ?_⟩
    cases b with
    | true => exact h1 a1 Hd1 H1 r1 e1 w1
    | false => exact h2 a1 Hd1 H1 r1 e1 w1
theorem Wx.cifB_ {t1 t2 : TS} (w : Wx K C Hd0 H0 Hd H σ (ρ.set i a)) (h0 : H0 m = none) (ha : A a) (h : EvC K C i m te ρ A R) (hb : ∀ d a', R d a' → ∃ b, d = .bool b) (h1 : ∀ a' Hd' H', R (.bool true) a' → Ex Hd Hd' → Wx K C Hd0 H0 Hd' H' σ (ρ.set i a') → t1 D σ H') (h2 : ∀ a' Hd' H', R (.bool false) a' → Ex Hd Hd' → Wx K C Hd0 H0 Hd' H' σ (ρ.set i a') → t2 D σ H') : tIfS (tB te) t1 t2 D σ H :=
  h Hd0 H0 Hd H σ a ha h0 w _ fun v d a1 Hd1 H1 r1 e1 w1 p1 => by
    obtain ⟨b, rfl⟩ := hb d a1 r1
    refine ⟨b, dp_bl_inv p1, ?_⟩
    cases b with
    | true => exact h1 a1 Hd1 H1 r1 e1 w1
    | false => exact h2 a1 Hd1 H1 r1 e1 w1
/-- x.append(e), e may change m, x at slot j -/
theorem Wx.capp {j : Nat} {mx : Addr} (w : Wx K C Hd0 H0 Hd H σ (ρ.set i a)) (h0 : H0 m = none) (ha : A a) (h : EvC K C i m te ρ A R) (hi : Nat.blt j ρ.n = true) (hx : ∀ a, (ρ.set i a).f j = some (.ml mx ds)) (hx0 : H0 mx = none) (ap : ∀ d a', R d a' → ApN (ρ.set i a') j mx ρ.n) (hz : ds.length < 100000)
    (k : ∀ d a' Hd' H', R d a' → Ex Hd Hd' → Wx K C Hd0 H0 Hd' H' σ ((ρ.set i a').set j (.ml mx (ds ++ [d]))) → D.nx σ H') : tDrop (tBM K "list" rAppend (tVar j) (tCons te tNil)) D σ H := by
  obtain ⟨hv, hd, hdm, vs, hm, hp⟩ := w.cellVR (i := j) (m := mx) hi (hx a) rfl
  refine ⟨.ref mx, hv, Or.inl ⟨rfl, vs, SqL.of hm⟩, h Hd0 H0 Hd H σ a ha h0 w _ fun u d a1 Hd1 H1 r1 e1 w1 h1 => ?_⟩
  obtain ⟨hv', hd', hdm', vs', hm', hp'⟩ := w1.cellVR (i := j) (m := mx) hi (hx a1) rfl
  refine ⟨mx, vs', u, rfl, rfl, hm', by rw [dpall_len hp']; exact sz_lt hz, ?_⟩
  have y : Xm mx Hd1 H1 Hd1 (upd H1 mx (.lst (vs' ++ [u]))) := ⟨Ex.refl _, fun b o hb e => by rw [upd_ne hb]; exact e, ex_mut w1.x.dh hdm', fun _ _ _ => rfl⟩
  exact k d a1 Hd1 _ r1 e1 (w1.mod hx0 (ap d a1 r1) y ⟨_, hv', rfl, hdm', _, upd_same, dpall_app hp' (.cons h1 .nil)⟩)
/-- while -/
def WS (K : PySem.W.Frag) (C : Cl P w) (Hd0 H0 Hb : Hp) (R : Nat → En → Prop) (n : Nat) : L2.St → Hp → Prop := fun σ' H' => ∃ n' Hd' ρ', n' < n ∧ Ex Hb Hd' ∧ Wx K C Hd0 H0 Hd' H' σ' ρ' ∧ R n' ρ'
theorem Wx.ws {R : Nat → En → Prop} {n n' : Nat} {Hb : Hp} {ρ' : En} (w : Wx K C Hd0 H0 Hd H σ ρ) (e : Ex Hb Hd) (hle : En.le ρ' ρ) (hn : n' < n) (r : R n' ρ') : WS K C Hd0 H0 Hb R n σ H := ⟨n', Hd, ρ', hn, e, w.le hle, r⟩
theorem Wx.while_ {t : TT} {tu : TS} (w : Wx K C Hd0 H0 Hd H σ ρ) (R : Nat → En → Prop) (n0 : Nat) (ρ0 : En) (hle : En.le ρ0 ρ) (hR0 : R n0 ρ0)
    (hs : ∀ n Hb Hd' H' σ' ρ', R n ρ' → Ex Hb Hd' → Wx K C Hd0 H0 Hd' H' σ' ρ' → ∃ b, EvT K C t ρ' b ∧ (b = true → ∀ Hd1 H1, Xt Hd' H' Hd1 H1 → Wx K C Hd0 H0 Hd1 H1 σ' ρ' → tu { D with nx := WS K C Hd0 H0 Hb R n, ct := WS K C Hd0 H0 Hb R n, bk := D.nx } σ' H1) ∧
      (b = false → ∀ Hd1 H1, Xt Hd' H' Hd1 H1 → Wx K C Hd0 H0 Hd1 H1 σ' ρ' → (Hb = Hd → D.nx σ' H1))) : tWhile t tu D σ H := by
  refine ⟨fun n σ' H' => ∃ Hd' ρ', Ex Hd Hd' ∧ Wx K C Hd0 H0 Hd' H' σ' ρ' ∧ R n ρ', ⟨n0, Hd, ρ0, Ex.refl _, w.le hle, hR0⟩, fun n σ' H' ⟨Hd', ρ', e, w', r⟩ => ?_⟩
  obtain ⟨b, ht, h1, h2⟩ := hs n Hd Hd' H' σ' ρ' r e w'
  refine ht Hd' H' σ' w'.x.dh w'.env _ fun Hd1 H1 x1 => ?_
  have w1 : Wx K C Hd0 H0 Hd1 H1 σ' ρ' := ⟨w'.x.trans x1, w'.env.xt x1⟩
  cases b with
  | true =>
    rw [if_pos rfl]
    exact ⟨WS K C Hd0 H0 Hd R n, fun σ2 H2 ⟨n', Hd2, ρ2, hn, e2, w2, r2⟩ => ⟨n', hn, Hd2, ρ2, e2, w2, r2⟩, h1 rfl Hd1 H1 x1 w1⟩
  | false =>
    rw [if_neg (by decide)]
    exact h2 rfl Hd1 H1 x1 w1 rfl
theorem Wx.qwhile {t : TT} {tu : TS} (w : Wx K C Hd0 H0 Hd H σ ρ) (R : Nat → En → Prop) (n0 : Nat) (ρ0 : En) (hle : En.le ρ0 ρ) (hR0 : R n0 ρ0)
    (hs : ∀ n Hb Hd' H' σ' ρ', R n ρ' → Ex Hb Hd' → Wx K C Hd0 H0 Hd' H' σ' ρ' → ∃ b, EvT K C t ρ' b ∧ (b = true → ∀ Hd1 H1, Xt Hd' H' Hd1 H1 → Wx K C Hd0 H0 Hd1 H1 σ' ρ' → tu { D with nx := WS K C Hd0 H0 Hb R n, ct := WS K C Hd0 H0 Hb R n, bk := tz D } σ' H1) ∧
      (b = false → ∀ Hd1 H1, Xt Hd' H' Hd1 H1 → Wx K C Hd0 H0 Hd1 H1 σ' ρ' → (Hb = Hd → tz D σ' H1))) : tSeq (tWhile t tu) tz D σ H := w.while_ (D := { D with nx := tz D }) R n0 ρ0 hle hR0 hs
end
end LW

set_option Elab.async false
set_option linter.all false
set_option maxRecDepth 100000
set_option maxHeartbeats 4000000
/-! dicts with text keys -/
namespace LW
open PySem PySem.Spec PyProof.Rows L2 Evl
def lookS (kvs : List (Str × PyData)) (k : Str) : Option PyData := (kvs.find? fun q => decide (q.1 = k)).map (·.2)
def putS (kvs : List (Str × PyData)) (k : Str) (d : PyData) : List (Str × PyData) := if (kvs.any fun q => decide (q.1 = k)) = true then kvs.map (fun q => if q.1 = k then (q.1, d) else q) else kvs ++ [(k, d)]
theorem look_zip (k : Str) : ∀ (ks : List Str) (ds : List PyData) (i : Nat) (d : PyData), ks.idxOf k = i → ks.length = ds.length → ds[i]? = some d → lookS (ks.zip ds) k = some d
  | [], ds, i, d, _, hl, h => by
    have : ds = [] := List.length_eq_zero_iff.mp hl.symm
    subst this
    simp at h
  | a :: ks, [], i, d, _, hl, _ => by simp at hl
  | a :: ks, b :: ds, i, d, hi, hl, h => by
    unfold lookS
    rw [List.zip_cons_cons, List.find?_cons]
    by_cases e : a = k
    · subst e
      rw [List.idxOf_cons_self] at hi
      subst hi
      simp at h
      simp [h]
    · have : (a == k) = false := beq_eq_false_iff_ne.mpr e
      rw [List.idxOf_cons, this] at hi
      simp only [cond_false] at hi
      subst hi
      simp only [e, decide_false]
      exact look_zip k ks ds _ d rfl (by simpa using hl) (by simpa using h)
theorem any_zip (k : Str) : ∀ (ks : List Str) (ds : List PyData), ks.length = ds.length → k ∈ ks → ((ks.zip ds).any fun q => decide (q.1 = k)) = true
  | [], _, _, h => by cases h
  | a :: ks, [], hl, _ => by simp at hl
  | a :: ks, b :: ds, hl, h => by
    rw [List.zip_cons_cons, List.any_cons]
    by_cases e : a = k
    · simp [e]
    · rw [any_zip k ks ds (by simpa using hl) (by rcases List.mem_cons.mp h with z | z; exact absurd z.symm e; exact z)]
      simp
theorem map_zip (k : Str) (d : PyData) : ∀ (ks : List Str) (ds : List PyData), k ∉ ks → (ks.zip ds).map (fun q => if q.1 = k then (q.1, d) else q) = ks.zip ds
  | [], _, _ => rfl
  | a :: ks, [], _ => rfl
  | a :: ks, b :: ds, h => by
    rw [List.zip_cons_cons, List.map_cons, map_zip k d ks ds fun z => h (List.mem_cons_of_mem _ z)]
    have hne : ¬ (a, b).1 = k := fun z => h (by rw [← (show a = k from z)]; exact List.mem_cons_self)
    rw [if_neg hne]
theorem put_zip_go (k : Str) (d : PyData) : ∀ (ks : List Str) (ds : List PyData) (i : Nat), ks.Nodup → ks.idxOf k = i → ks.length = ds.length → k ∈ ks → (ks.zip ds).map (fun q => if q.1 = k then (q.1, d) else q) = ks.zip (ds.set i d)
  | [], _, _, _, _, _, h => by cases h
  | a :: ks, [], _, _, _, hl, _ => by simp at hl
  | a :: ks, b :: ds, i, hn, hi, hl, h => by
    rw [List.nodup_cons] at hn
    by_cases e : a = k
    · subst e
      rw [List.idxOf_cons_self] at hi
      subst hi
      rw [List.zip_cons_cons, List.map_cons, if_pos rfl, map_zip a d ks ds hn.1]
      rfl
    · have : (a == k) = false := beq_eq_false_iff_ne.mpr e
      rw [List.idxOf_cons, this] at hi
      simp only [cond_false] at hi
      subst hi
      rw [List.zip_cons_cons, List.map_cons, if_neg e, put_zip_go k d ks ds _ hn.2 rfl (by simpa using hl) (by rcases List.mem_cons.mp h with z | z; exact absurd z.symm e; exact z)]
      rfl
theorem put_zip (k : Str) (d : PyData) (ks : List Str) (ds : List PyData) (i : Nat) (hn : ks.Nodup) (hi : ks.idxOf k = i) (hl : ks.length = ds.length) (hm : k ∈ ks) : putS (ks.zip ds) k d = ks.zip (ds.set i d) := by
  unfold putS
  rw [if_pos (any_zip k ks ds hl hm)]
  exact put_zip_go k d ks ds i hn hi hl hm
section
variable {P : Program} {w : World} {K : PySem.W.Frag} {C : Cl P w} {Hd0 H0 Hd H : Hp} {σ : L2.St} {ρ : En} {tv te ta : TE} {D : Ends} {tz : TS} {a : AV} {m : Addr} {kvs : List (Str × PyData)} {kv : List (Key × V)} {k : Str} {d : PyData} {v : V}
theorem dpk_get (h : DpK K H kv kvs) (k : Str) : match lookS kvs k with
    | some d => ∃ v, valV kv (.inr k) = some v ∧ Dp K H v d
    | none => valV kv (.inr k) = none := by
  unfold DpK at h
  induction h with
  | nil => rfl
  | @cons e q l1 l2 r t ih =>
    by_cases c : q.1 = k
    · have h1 : lookS (q :: l2) k = some q.2 := by simp [lookS, List.find?_cons, c]
      rw [h1]
      exact ⟨e.2, valV_pos (by rw [r.1, c]), r.2⟩
    · have h1 : lookS (q :: l2) k = lookS l2 k := by simp [lookS, List.find?_cons, c]
      have h2 : ¬ e.1 = Sum.inr k := by rw [r.1]; intro z; exact c (Sum.inr.inj z)
      rw [h1, valV_neg h2]
      exact ih
theorem dpk_any (h : DpK K H kv kvs) (k : Str) : (kv.any fun q => decide (q.1 = Sum.inr k)) = (kvs.any fun q => decide (q.1 = k)) := by
  unfold DpK at h
  induction h with
  | nil => rfl
  | @cons e q l1 l2 r t ih =>
    rw [List.any_cons, List.any_cons, ih]
    congr 1
    rw [r.1]
    by_cases c : q.1 = k
    · simp [c]
    · have : ¬ (Sum.inr q.1 : Key) = Sum.inr k := fun z => c (Sum.inr.inj z)
      simp [c, this]
theorem dpk_map (h : DpK K H kv kvs) (k : Str) (hv : Dp K H v d) : DpK K H (kv.map fun q => if q.1 = Sum.inr k then (q.1, v) else q) (kvs.map fun q => if q.1 = k then (q.1, d) else q) := by
  unfold DpK at h ⊢
  induction h with
  | nil => exact .nil
  | @cons e q l1 l2 r t ih =>
    rw [List.map_cons, List.map_cons]
    refine .cons ?_ ih
    by_cases c : q.1 = k
    · have : e.1 = Sum.inr k := by rw [r.1, c]
      rw [if_pos this, if_pos c]; exact ⟨r.1, hv⟩
    · have : ¬ e.1 = Sum.inr k := by rw [r.1]; intro z; exact c (Sum.inr.inj z)
      rw [if_neg this, if_neg c]; exact r
theorem dpk_put (h : DpK K H kv kvs) (k : Str) (hv : Dp K H v d) : DpK K H (putK kv (.inr k) v) (putS kvs k d) := by
  unfold putK putS
  rw [dpk_any h k]
  split
  · exact dpk_map h k hv
  · exact Paired.snoc h ⟨rfl, hv⟩
theorem dpk_len (h : DpK K H kv kvs) : kv.length = kvs.length := Paired.length h
/-- d[k] -/
theorem ev_dget (ha : Ev K C ta ρ (.dk m kvs)) (h : lookS kvs k = some d) : Ev K C (tDGet ta (tC (.str k))) ρ (.d d) := fun Hd H σ x r Q q =>
  ha Hd H σ x r _ fun u Hd1 H1 x1 h1 => by
    obtain ⟨rfl, h2, kv, h3, h4⟩ := h1
    have hz := dpk_get h4 k
    rw [h] at hz
    obtain ⟨v, hv1, hv2⟩ := hz
    exact ⟨m, v, rfl, .inl ⟨kv, .inr k, .inl h3, rfl, hv1.symm⟩, q v Hd1 H1 x1 hv2⟩
/-- d[k] = v -/
theorem Wx.dput {i : Nat} (w : Wx K C Hd0 H0 Hd H σ ρ) (hi : Nat.blt i ρ.n = true) (hx : ρ.f i = some (.dk m kvs)) (h0 : H0 m = none) (ap : ApN ρ i m ρ.n) (h : Ev K C tv ρ (.d d)) (hz : kvs.length < 1000)
    (k_ : ∀ Hd' H', Xm m Hd H Hd' H' → Wx K C Hd0 H0 Hd' H' σ (ρ.set i (.dk m (putS kvs k d))) → D.nx σ H') : sDPut (tVar i) (tC (.str k)) tv D σ H := by
  obtain ⟨u, hv, rfl, hd, kv, hm, ha⟩ := w.env.val hi hx rfl
  refine h Hd H σ w.x.dh w.env _ fun y Hd1 H1 x1 h1 => ⟨.ref m, hv, m, _, rfl, .inl ⟨kv, .inr k, x1.h _ _ hm, rfl, by rw [dpk_len ha]; exact sz_lt (by omega), rfl⟩, ?_⟩
  have hd1 : Hd1 m = none := (x1.nw _ _ hm).trans hd
  have yx : Xm m Hd H Hd1 (upd H1 m (.dK (putK kv (.inr k) y))) := ⟨x1.d, fun b o hb e => by rw [upd_ne hb]; exact x1.h b o e, ex_mut x1.dh hd1, x1.nw⟩
  exact k_ Hd1 _ yx (w.mod h0 ap yx ⟨_, hv, rfl, hd1, _, upd_same, dpk_put (ha.ex x1.d) k h1⟩)
theorem Wx.qdput {i : Nat} (w : Wx K C Hd0 H0 Hd H σ ρ) (hi : Nat.blt i ρ.n = true) (hx : ρ.f i = some (.dk m kvs)) (h0 : H0 m = none) (ap : ApN ρ i m ρ.n) (h : Ev K C tv ρ (.d d)) (hz : kvs.length < 1000)
    (k_ : ∀ Hd' H', Xm m Hd H Hd' H' → Wx K C Hd0 H0 Hd' H' σ (ρ.set i (.dk m (putS kvs k d))) → tz D σ H') : tSeq (sDPut (tVar i) (tC (.str k)) tv) tz D σ H := w.dput (D := { D with nx := tz D }) hi hx h0 ap h hz k_
/-- d[k] = e, where e changes d -/
theorem Wx.cdput {i : Nat} {A : AV → Prop} {R : PyData → AV → Prop} (w : Wx K C Hd0 H0 Hd H σ (ρ.set i a)) (hi : Nat.blt i ρ.n = true) (h0 : H0 m = none) (ha : A a) (h : EvC K C i m tv ρ A R) (hR : ∀ d a', R d a' → ∃ kvs, a' = .dk m kvs ∧ kvs.length < 1000) (ap : ∀ a', ApN (ρ.set i a') i m ρ.n)
    (k_ : ∀ d kvs Hd' H', R d (.dk m kvs) → Ex Hd Hd' → Wx K C Hd0 H0 Hd' H' σ (ρ.set i (.dk m (putS kvs k d))) → D.nx σ H') : sDPut (tVar i) (tC (.str k)) tv D σ H :=
  h Hd0 H0 Hd H σ a ha h0 w _ fun y d a1 Hd1 H1 r1 e1 w1 h1 => by
    obtain ⟨kvs, rfl, hz⟩ := hR d a1 r1
    obtain ⟨hv, _, hd, kv, hm, hk⟩ := w1.cellVR (i := i) (m := m) hi (En.set_get ρ i _) rfl
    refine ⟨.ref m, hv, m, _, rfl, .inl ⟨kv, .inr k, hm, rfl, by rw [dpk_len hk]; exact sz_lt (by omega), rfl⟩, ?_⟩
    have yx : Xm m Hd1 H1 Hd1 (upd H1 m (.dK (putK kv (.inr k) y))) := ⟨Ex.refl _, fun b o hb e => by rw [upd_ne hb]; exact e, ex_mut w1.x.dh hd, fun _ _ _ => rfl⟩
    have w2 := w1.mod (i := i) (a := .dk m (putS kvs k d)) h0 (ap _) yx ⟨_, hv, rfl, hd, _, upd_same, dpk_put hk k h1⟩
    rw [En.set_set] at w2
    exact k_ d kvs Hd1 _ r1 e1 w2
theorem Wx.qcdput {i : Nat} {A : AV → Prop} {R : PyData → AV → Prop} (w : Wx K C Hd0 H0 Hd H σ (ρ.set i a)) (hi : Nat.blt i ρ.n = true) (h0 : H0 m = none) (ha : A a) (h : EvC K C i m tv ρ A R) (hR : ∀ d a', R d a' → ∃ kvs, a' = .dk m kvs ∧ kvs.length < 1000) (ap : ∀ a', ApN (ρ.set i a') i m ρ.n)
    (k_ : ∀ d kvs Hd' H', R d (.dk m kvs) → Ex Hd Hd' → Wx K C Hd0 H0 Hd' H' σ (ρ.set i (.dk m (putS kvs k d))) → tz D σ H') : tSeq (sDPut (tVar i) (tC (.str k)) tv) tz D σ H := w.cdput (D := { D with nx := tz D }) hi h0 ha h hR ap k_
/-- d = {k: v, ..} -/
def EvPs (K : PySem.W.Frag) (C : Cl P w) (trs : List (TE × TE)) (ρ : En) (kvs : List (Str × PyData)) : Prop := ∀ (Hd H : Hp) (σ : L2.St), Ex Hd H → EnvR K C Hd H σ ρ → ∀ Q : List (V × V) → Hp → Prop, (∀ kv Hd' H', Xt Hd H Hd' H' → DpK K Hd' kv kvs → Q (kv.map fun e => (kV e.1, e.2)) H') → tPairs trs σ H Q
theorem evps_nil : EvPs K C [] ρ [] := fun Hd H σ x r Q q => q [] Hd H (Xt.refl x) .nil
theorem evps_cons {trs : List (TE × TE)} (h1 : Ev K C te ρ (.d d)) (h2 : EvPs K C trs ρ kvs) : EvPs K C ((tC (.str k), te) :: trs) ρ ((k, d) :: kvs) := fun Hd H σ x r Q q =>
  h1 Hd H σ x r _ fun v Hd1 H1 x1 p1 => h2 Hd1 H1 σ x1.dh (r.xt x1) _ fun kv Hd2 H2 x2 p2 => q ((.inr k, v) :: kv) Hd2 H2 (x1.trans x2) (.cons ⟨rfl, dp_ex x2.d _ _ p1⟩ p2)
theorem dpk_keys (h : DpK K H kv kvs) : kv.map (·.1) = kvs.map fun q => Sum.inr q.1 := by
  unfold DpK at h
  induction h with
  | nil => rfl
  | @cons e q l1 l2 r t ih => rw [List.map_cons, List.map_cons, ih, r.1]
theorem putK_new {kv : List (Key × V)} {k : Key} {v : V} (h : k ∉ kv.map (·.1)) : putK kv k v = kv ++ [(k, v)] := by
  unfold putK
  rw [if_neg]
  intro z
  obtain ⟨q, hq, e⟩ := List.any_eq_true.mp z
  exact h (of_decide_eq_true e ▸ List.mem_map.mpr ⟨q, hq, rfl⟩)
theorem merge_new : ∀ (kv acc : List (Key × V)), ((acc ++ kv).map (·.1)).Nodup → mergeK acc kv = acc ++ kv
  | [], acc, _ => by rw [List.append_nil]; rfl
  | q :: r, acc, h => by
    show mergeK (putK acc q.1 q.2) r = _
    rw [putK_new, merge_new r (acc ++ [(q.1, q.2)])]
    · simp
    · simpa using h
    · intro z
      rw [List.map_append, List.nodup_append] at h
      exact h.2.2 _ z _ (by simp) rfl
theorem Wx.qdisp {i : Nat} {trs : List (TE × TE)} (w : Wx K C Hd0 H0 Hd H σ ρ) (h : EvPs K C trs ρ kvs) (hn : (kvs.map (·.1)).Nodup) (hl : kvs.length ≤ 15) (k_ : ∀ m σ' Hd' H', H m = none → H0 m = none → Xt Hd H Hd' H' → Wx K C Hd0 H0 Hd' H' σ' (ρ.set i (.dk m kvs)) → tz D σ' H') : tSeq (tAsg (tDisp trs) (gName i)) tz D σ H := by
  intro m hm
  have x1 : Xt Hd H Hd (upd H m (.dK [])) := ⟨Ex.refl _, Ex.new hm, ex_mut w.x.dh (free_of w.x.dh hm), fun _ _ _ => rfl⟩
  refine h Hd _ σ x1.dh (w.env.xt x1) _ fun kv Hd1 H1 x2 h2 => ?_
  have hm2 : H1 m = some (.dK []) := x2.h _ _ upd_same
  have hd2 : Hd1 m = none := (x2.nw _ _ upd_same).trans (free_of w.x.dh hm)
  have hmg : mergeK [] kv = kv := by
    have := merge_new kv [] (by
      rw [List.nil_append, dpk_keys h2]
      have : (kvs.map fun q => (Sum.inr q.1 : Key)) = (kvs.map (·.1)).map Sum.inr := by rw [List.map_map]; rfl
      rw [this, List.Nodup, List.pairwise_map]
      exact hn.imp fun h z => h (Sum.inr.inj z))
    simpa using this
  refine ⟨hm2, kv, rfl, by rw [dpk_len h2]; exact hl, ?_⟩
  rw [hmg]
  have xx := x1.trans x2
  have y : Xt Hd H Hd1 (upd H1 m (.dK kv)) := ⟨xx.d, fun a o e => by rw [upd_ne (ne_of_none e hm)]; exact xx.h a o e, ex_mut xx.dh hd2, xx.nw⟩
  exact k_ m _ Hd1 _ hm (fresh_back w.x.h hm) y ⟨w.x.trans y, (w.env.xt y).set (v := .ref m) (a := .dk m kvs) ⟨rfl, hd2, kv, upd_same, h2⟩ i⟩
end
end LW

set_option Elab.async false
set_option linter.all false
set_option maxRecDepth 100000
set_option maxHeartbeats 4000000
/-! a < b < c < d; a comprehension that changes what a slot owns -/
namespace LW
open PySem PySem.Spec PyProof.Rows L2 Evl
def tChain3 (r r' r'' : R2) (ta tb tc td : TE) : TE := fun σ H Q => ta σ H fun x H1 => tb σ H1 fun y H2 => r x y H2 fun z H3 => ∃ k, z = .bl k ∧
  (if k = true then tc σ H3 fun w' H4 => r' y w' H4 fun z2 H5 => ∃ k2, z2 = .bl k2 ∧ (if k2 = true then td σ H5 fun u' H6 => r'' w' u' H6 Q else Q (.bl false) H5) else Q (.bl false) H3)
section
variable {X : Cx} {a b c d : Expr} {ta tb tc td : TE} {pos : Pos}
theorem pt_chain3 {op op' op'' : CmpOp} {r r' r'' : R2} (ho : OpR X (compareOp op) r) (ho' : OpR X (compareOp op') r') (ho'' : OpR X (compareOp op'') r'') (ha : PE X a ta) (hb : PE X b tb) (hc : PE X c tc) (hd : PE X d td)
    (hm : lastMarks [op, op', op''] [b, c, d] = false := by with_unfolding_all rfl) : PT X (.Compare a [op, op', op''] [b, c, d] pos) (tTest (tChain3 r r' r'' ta tb tc td)) := by
  refine ⟨fun pins s σ H Q I h => ?_⟩
  refine isTrue_chain (thn (ha.run pins s σ H _ I h) fun v s1 ⟨x, H1, I1, r1, q1⟩ => test_link (thn (hb.run pins s1 σ H1 _ I1 q1) fun u s2 ⟨y, H2, I2, r2, q2⟩ =>
    thn (ho pins s2 σ H2 x y v u _ I2 r1 r2 q2) fun d s3 ⟨z, H3, I3, r3, k, e, q3⟩ => ?_)) hm
  subst e
  cases r3
  refine wpAny_truthy_bool ?_
  cases k with
  | false =>
    obtain ⟨k', e', q'⟩ := q3
    cases e'
    exact ite_ff ⟨H3, I3, q'⟩
  | true =>
    refine ite_tt (test_link (thn (hc.run pins s3 σ H3 _ I3 q3) fun w' s4 ⟨z', H4, I4, r4, q4⟩ => thn (ho' pins s4 σ H4 y z' u w' _ I4 r2 r4 q4) fun d' s5 ⟨z2, H5, I5, r5, k2, e2, q5⟩ => ?_))
    subst e2
    cases r5
    refine wpAny_truthy_bool ?_
    cases k2 with
    | false =>
      obtain ⟨k', e', q'⟩ := q5
      cases e'
      exact ite_ff ⟨H5, I5, q'⟩
    | true =>
      refine ite_tt (test_last (thn (hd.run pins s5 σ H5 _ I5 q5) fun w2 s6 ⟨z3, H6, I6, r6, q6⟩ => thn (ho'' pins s6 σ H6 z' z3 w' w2 _ I6 r4 r6 q6) fun d2 s7 ⟨z4, H7, I7, r7, k3, e3, q7⟩ => ?_))
      subst e3
      cases r7
      exact wpAny_truthy_bool ⟨H7, I7, q7⟩
end
section
variable {P : Program} {w : World} {K : PySem.W.Frag} {C : Cl P w} {ρ : En} {ta tb tc td te : TE}
theorem ev_chain3 {g g' g'' : Int → Int → Bool} {i j k l : Int} (ha : Ev K C ta ρ (.d (.int i))) (hb : Ev K C tb ρ (.d (.int j))) (hc : Ev K C tc ρ (.d (.int k))) (hd : Ev K C td ρ (.d (.int l))) :
    Ev K C (tChain3 (rI0 fun i j => .bl (g i j)) (rI0 fun i j => .bl (g' i j)) (rI0 fun i j => .bl (g'' i j)) ta tb tc td) ρ (.d (.bool (g i j && (g' j k && g'' k l)))) := fun Hd H σ x r Q q =>
  ha Hd H σ x r _ fun v Hd1 H1 x1 h1 => hb Hd1 H1 σ x1.dh (r.xt x1) _ fun u Hd2 H2 x2 h2 => ⟨i, j, dp_int_inv h1, dp_int_inv h2, g i j, rfl, by
    cases hg : g i j with
    | false => exact q _ Hd2 H2 (x1.trans x2) (by rw [hg]; exact Dp.bl false)
    | true => exact hc Hd2 H2 σ x2.dh (r.xt (x1.trans x2)) _ fun z Hd3 H3 x3 h3 => ⟨j, k, dp_int_inv h2, dp_int_inv h3, g' j k, rfl, by
        cases hg2 : g' j k with
        | false => exact q _ Hd3 H3 ((x1.trans x2).trans x3) (by rw [hg, hg2]; exact Dp.bl false)
        | true => exact hd Hd3 H3 σ x3.dh (r.xt ((x1.trans x2).trans x3)) _ fun y Hd4 H4 x4 h4 => ⟨k, l, dp_int_inv h3, dp_int_inv h4, q _ Hd4 H4 (((x1.trans x2).trans x3).trans x4) (by rw [hg, hg2]; exact Dp.bl _)⟩⟩⟩
end
section
variable {P : Program} {w : World} {K : PySem.W.Frag} {C : Cl P w} {Hd0 H0 Hd H Hd' H' : Hp} {σ : L2.St} {ρ : En} {te : TE} {i : Nat} {m : Addr} {A : AV → Prop} {R : PyData → AV → Prop}
/-- the data grow by what stands at D -/
theorem VR.frz {D : Addr} (f2 : Ex Hd Hd') (hb : ∀ c, c ≠ D → Hd' c = Hd c) {v : V} : ∀ {a : AV}, VR K C Hd H v a → a.cell ≠ some D → VR K C Hd' H v a
  | .d y, g, _ => dp_ex f2 y v g
  | .raw u, g, _ => g
  | .pol p, g, _ => PolAt.ex f2 g
  | .set p, g, _ => SetAt.ex f2 g
  | .out n, g, _ => OutAt.ex f2 g
  | .pv b ps, g, _ => PvAt.ex f2 g
  | .ml m' ds', ⟨h1, h2, vs', h3, h4⟩, hn => ⟨h1, by rw [hb _ (fun z => hn (by rw [z]; rfl))]; exact h2, vs', h3, dps_ex f2 _ _ h4⟩
  | .dk m' ds', ⟨h1, h2, vs', h3, h4⟩, hn => ⟨h1, by rw [hb _ (fun z => hn (by rw [z]; rfl))]; exact h2, vs', h3, h4.ex f2⟩
  | .dt m' o des' ds', ⟨h1, h2, h3, h4⟩, hn => ⟨h1, by rw [hb _ (fun z => hn (by rw [z]; rfl))]; exact h2, h3, h4.ex f2⟩
  | .unk, _, _ => trivial
theorem VO.frz {D : Addr} (f2 : Ex Hd Hd') (hb : ∀ c, c ≠ D → Hd' c = Hd c) : ∀ {o : Option V} {a : AV}, VO K C Hd H o a → a.cell ≠ some D → VO K C Hd' H o a
  | some _, _, g, hn => VR.frz f2 hb g hn
  | none, a, g, _ => by cases a <;> first | exact g.elim | trivial
/-- what else stands stays -/
theorem evc_frame (h : EvC K C i m te ρ A R) (hi : Nat.blt i ρ.n = true) (hcA : ∀ a, A a → a.cell = some m) (hcR : ∀ d a, R d a → a.cell = some m) {a : AV} (ha : A a) (h0 : H0 m = none) (w : Wx K C Hd0 H0 Hd H σ (ρ.set i a)) {Q : VK}
    (q : ∀ v d a' Hd' H', R d a' → Xm m Hd H Hd' H' → Wx K C Hd0 H0 Hd' H' σ (ρ.set i a') → Dp K Hd' v d → Q v H') : te σ H Q := by
  have hold := (w.cellVR hi (En.set_get ρ i a) (hcA a ha)).2
  have hmc : cutH H m m = none := if_pos rfl
  have xc : Xt Hd (cutH H m) Hd H := ⟨Ex.refl _, fun b o e => by
    unfold cutH at e
    split at e
    · cases e
    · exact e, w.x.dh, fun _ _ _ => rfl⟩
  refine h Hd _ Hd _ σ a ha hmc ⟨xc, w.env⟩ _ fun v d a' Hd' H' hr e w' hd => ?_
  have hvr := (w'.cellVR hi (En.set_get ρ i a') (hcR d a' hr)).2
  have hdm : Hd m = none := (vr_cell (hcA a ha) hold).2.1
  have xf : Xm m Hd H Hd' H' := ⟨w'.x.d, fun b o hb eb => w'.x.h b o (by unfold cutH; rw [if_neg hb]; exact eb), w'.x.dh, fun b o eb => by
    by_cases hb : b = m
    · subst hb; rw [(vr_cell (hcR d a' hr) hvr).2.1, hdm]
    · exact w'.x.nw b o (by unfold cutH; rw [if_neg hb]; exact eb)⟩
  exact q v d a' Hd' H' hr xf ⟨w.x.mod xf h0, w'.env⟩ hd
theorem EnvR.cells (h : EnvR K C Hd H σ ρ) {D : Addr} (hD : H D = none) : ∀ l, l < ρ.n → (ρ.g l).cell ≠ some D := by
  intro l hl hc
  have hl' : l < σ.length := by rw [h.len]; exact hl
  have hv := h.at_ l σ[l] (List.getElem?_eq_getElem hl')
  obtain ⟨v, _, hr⟩ := hv.val (cell_known hc)
  exact (vr_cell hc hr).2.2 hD
theorem EnvR.xmo (h : EnvR K C Hd H σ ρ) {D : Addr} (hc : ∀ l, l < ρ.n → (ρ.g l).cell ≠ some D) (x : Xm D Hd H Hd' H') : EnvR K C Hd' H' σ ρ :=
  ⟨h.len, fun l o q => (h.at_ l o q).xm x (hc l (by rw [← h.len]; exact (List.getElem?_eq_some_iff.mp q).1))⟩
theorem En.g_set (ρ : En) (i : Nat) (a : AV) (l : Nat) : (ρ.set i a).g l = if l = i then a else ρ.g l := by
  show ((bif Nat.beq l i then some a else ρ.f l).getD .unk) = _
  by_cases e : l = i
  · subst e; rw [Nat.beq_refl, if_pos rfl]; rfl
  · rw [beq_ne e, if_neg e]; rfl
theorem evc_lcR {n : Nat} {vs : List Nat} {j : Nat} (I : Nat → AV → Prop) (Pd : PyData → Prop) (hi : Nat.blt i ρ.n = true) (hn : n ≤ 1000) (hj : j ∈ vs) (hiv : i ∉ vs) (hunk : ∀ v ∈ vs, ρ.g v = .unk) (hIc : ∀ k a, I k a → a.cell = some m)
    (hte : ∀ k, k < n → EvC K C i m te (ρ.set j (.d (.int (k : Nat)))) (I k) (fun d a' => Pd d ∧ I (k + 1) a')) : EvC K C i m (tLc (iRng1 (tCons (tC (.int n)) tNil)) (gName j) tYes te vs) ρ (I 0) (fun d a' => ∃ ds, d = .list ds ∧ ds.length = n ∧ (∀ d ∈ ds, Pd d) ∧ I n a') := by
  intro Hd0 H0 Hd H σ a ha h0 w Q q
  refine ⟨n, rfl, by omega, by omega, fun D hD => ?_⟩
  have hij : ¬ j = i := fun z => hiv (z ▸ hj)
  have hcells := w.env.cells hD
  have hmH : H m ≠ none := (vr_cell (hIc 0 a ha) (w.cellVR hi (En.set_get ρ i a) (hIc 0 a ha)).2).2.2
  have hDm : D ≠ m := fun z => hmH (z ▸ hD)
  have hD0 : H0 D = none := fresh_back w.x.h hD
  have hc2 : ∀ a', a'.cell = some m → ∀ l, l < ρ.n → ((ρ.set i a').g l).cell ≠ some D := fun a' hc l hl => by
    have := hcells l hl
    rw [En.g_set] at this ⊢
    by_cases e : l = i
    · rw [if_pos e, hc]; exact fun z => hDm (Option.some.inj z).symm
    · rw [if_neg e] at this ⊢; exact this
  have xD : Xm D Hd H Hd (upd H D (.lst [])) := ⟨Ex.refl _, fun b o hb e => by rw [upd_ne hb]; exact e, ex_mut w.x.dh (free_of w.x.dh hD), fun _ _ _ => rfl⟩
  refine lc_it (walk_range (lo := 0) (n := n)) (fun k H' => ∃ Hd' a' acc out, I k a' ∧ Wx K C Hd0 H0 Hd' H' σ (ρ.set i a') ∧ Ex Hd Hd' ∧ Hd' D = none ∧ H' D = some (.lst acc) ∧ DpAll K Hd' acc out ∧ out.length = k ∧ ∀ d ∈ out, Pd d)
    ⟨Hd, a, [], [], ha, ⟨w.x.mod xD hD0, w.env.xmo hcells xD⟩, Ex.refl _, free_of w.x.dh hD, upd_same, .nil, rfl, fun _ h => (by cases h)⟩ (fun _ _ _ _ => trivial) (fun k y H' H'' hk ⟨Hd', a', acc, out, hI, w', e, z1, z2, z3, z4, z5⟩ hy => ?_) fun H' ⟨Hd', a', acc, out, hI, w', e, z1, z2, z3, z4, z5⟩ => ?_
  · obtain ⟨rfl, rfl⟩ := hy
    refine ⟨wipe_ext (by rw [List.length_set, wipe_length]) fun l hl => by rw [List.getElem?_set_ne (fun z => hl (by rw [← z]; exact hj)), wipe_get hl], ?_⟩
    have hslot : ∀ {σ2 : L2.St}, σ2 = (L2.wipe σ vs).set j (some (.int ((0 : Int) + (k : Int)))) → ∀ l, l ∉ vs → σ2[l]? = σ[l]? := fun e l hl => by
      rw [e, List.getElem?_set_ne (fun z => hl (by rw [← z]; exact hj)), wipe_get hl]
    generalize hσ2 : (L2.wipe σ vs).set j (some (.int ((0 : Int) + (k : Int)))) = σ2
    have hs2 := hslot hσ2.symm
    have hlen2 : σ2.length = σ.length := by rw [← hσ2, List.length_set, wipe_length]
    have env2 : EnvR K C Hd' H'' σ2 ((ρ.set j (.d (.int (k : Nat)))).set i a') := by
      refine ⟨by rw [hlen2]; exact w'.env.len, fun l o ho => ?_⟩
      rw [En.g_set, En.g_set]
      by_cases el : l = i
      · rw [if_pos el]
        subst el
        have := w'.env.at_ l o (by rw [← hs2 l hiv]; exact ho)
        rw [En.g_set, if_pos rfl] at this
        exact this
      · rw [if_neg el]
        by_cases ej : l = j
        · rw [if_pos ej]
          subst ej
          rw [← hσ2] at ho
          have hll : l < (L2.wipe σ vs).length := by
            have := (List.getElem?_eq_some_iff.mp ho).1
            rwa [List.length_set] at this
          rw [List.getElem?_set_self hll] at ho
          cases ho
          show Dp K Hd' (.int ((0 : Int) + (k : Int))) (.int k)
          rw [Int.zero_add]
          exact Dp.int _
        · rw [if_neg ej]
          by_cases ev : l ∈ vs
          · rw [hunk l ev]; exact VO.unk
          · have := w'.env.at_ l o (by rw [← hs2 l ev]; exact ho)
            rw [En.g_set, if_neg el] at this
            exact this
    show te σ2 H'' _
    refine evc_frame (hte k hk) hi (fun a h => hIc k a h) (fun d a h => hIc (k + 1) a h.2) hI h0 ⟨w'.x, env2⟩ fun v d a2 Hd2 H2 hr xm w2 hd => ?_
    have z2' : H2 D = some (.lst acc) := xm.h D _ hDm z2
    have z1' : Hd2 D = none := (xm.nw D _ z2).trans z1
    refine ⟨acc, z2', by rw [dpall_len z3, z4]; exact sz_lt (by omega), ?_⟩
    have yD : Xm D Hd2 H2 Hd2 (upd H2 D (.lst (acc ++ [v]))) := ⟨Ex.refl _, fun b o hb e => by rw [upd_ne hb]; exact e, ex_mut w2.x.dh z1', fun _ _ _ => rfl⟩
    have env3 : EnvR K C Hd2 H2 σ (ρ.set i a2) := by
      refine ⟨w'.env.len, fun l o ho => ?_⟩
      rw [En.g_set]
      by_cases el : l = i
      · rw [if_pos el]
        subst el
        have := w2.env.at_ l o (by rw [hs2 l hiv]; exact ho)
        rw [En.g_set, if_pos rfl] at this
        exact this
      · rw [if_neg el]
        by_cases ev : l ∈ vs
        · rw [hunk l ev]; exact VO.unk
        · have := w2.env.at_ l o (by rw [hs2 l ev]; exact ho)
          rw [En.g_set, En.g_set, if_neg el, if_neg (fun z : l = j => ev (by rw [z]; exact hj))] at this
          exact this
    exact ⟨Hd2, a2, acc ++ [v], out ++ [d], hr.2, ⟨w2.x.mod yD hD0, env3.xmo (hc2 a2 (hIc _ _ hr.2)) yD⟩, e.trans xm.d, z1', upd_same, dpall_app (dps_ex xm.d _ _ z3) (.cons hd .nil), by rw [List.length_append, z4]; rfl, fun d' hd' => by
      rcases List.mem_append.mp hd' with z | z
      · exact z5 d' z
      · rw [List.mem_singleton.mp z]; exact hr.1⟩
  · obtain ⟨f1, f2⟩ := ex_freeze w'.x.dh z2 z1
    refine q _ (.list out) a' (upd Hd' D (.lst acc)) H' ⟨out, rfl, z4, z5, hI⟩ (e.trans f2) ?_ (Dp.lst (SqL.of upd_same) (dps_ex f2 _ _ z3))
    refine ⟨⟨w'.x.d.trans f2, w'.x.h, f1, fun b o eb => by rw [upd_ne (ne_of_none eb hD0)]; exact w'.x.nw b o eb⟩, ?_⟩
    refine ⟨w'.env.len, fun l o ho => ?_⟩
    have hg := w'.env.at_ l o ho
    have hn := hc2 a' (hIc _ _ hI) l (by have := (List.getElem?_eq_some_iff.mp ho).1; rw [w'.env.len] at this; exact this)
    revert hg hn
    generalize (ρ.set i a').g l = b
    intro hg hn
    exact hg.frz f2 (fun c hc => upd_ne hc) hn
end
end LW

set_option Elab.async false
set_option linter.all false
set_option maxRecDepth 100000
set_option maxHeartbeats 4000000
namespace LW
open PySem PySem.Spec PyProof.Rows L2 Evl
local macro_rules | `(tactic| walk_at "ev") => `(tactic| first
  | with_reducible exact ev_int | with_reducible exact ev_bl | with_reducible exact ev_str | with_reducible exact ev_non
  | ((with_reducible apply ev_var) <;> rfl)
  | ((with_reducible apply ev_ixT) <;> first | walk_at "ev" | rfl)
  | ((with_reducible apply ev_ixL) <;> first | walk_at "ev" | rfl)
  | ((with_reducible apply ev_ixM) <;> first | walk_at "ev" | rfl)
  | ((with_reducible apply ev_I0) <;> walk_at "ev")
  | ((with_reducible apply ev_B0) <;> walk_at "ev")
  | ((with_reducible apply ev_U) <;> walk_at "ev")
  | ((with_reducible apply ev_tup) <;> first | walk_at "evd" | exact Nat.le_of_ble_eq_true rfl)
  | ((with_reducible apply ev_lst) <;> first | walk_at "evd" | exact Nat.le_of_ble_eq_true rfl)
  | ((with_reducible apply ev_eqI) <;> walk_at "ev")
  | ((with_reducible apply ev_eqS) <;> walk_at "ev")
  | ((with_reducible apply ev_neI) <;> walk_at "ev")
  | ((with_reducible apply ev_neS) <;> walk_at "ev")
  | ((with_reducible apply ev_notV) <;> walk_at "ev")
  | ((with_reducible apply ev_andV) <;> first | walk_at "ev" | (intro _; walk_at "ev"))
  | ((with_reducible apply ev_orV) <;> first | walk_at "ev" | (intro _; walk_at "ev"))
  | ((with_reducible apply ev_min) <;> walk_at "evl")
  | ((with_reducible apply ev_max) <;> walk_at "evl")
  | ((with_reducible apply ev_slT) <;> first | walk_at "ev" | walk_at "evo" | walk_at "cut")
  | ((with_reducible apply ev_slL) <;> first | walk_at "ev" | walk_at "evo")
  | ((with_reducible apply ev_catT) <;> first | walk_at "ev" | exact Nat.le_of_ble_eq_true rfl | (intro z; cases z))
  | ((with_reducible apply ev_abs) <;> walk_at "evl")
  | ((with_reducible apply ev_intI) <;> walk_at "evl")
  | ((with_reducible apply ev_intB) <;> walk_at "evl")
  | ((with_reducible apply ev_lenL) <;> walk_at "evl"))
local macro_rules | `(tactic| walk_at "evd") => `(tactic| first | with_reducible exact evd_nil | ((with_reducible apply evd_cons) <;> first | walk_at "ev" | walk_at "evd"))
local macro_rules | `(tactic| walk_at "evl") => `(tactic| first | with_reducible exact evl_nil | ((with_reducible apply evl_cons) <;> first | walk_at "ev" | walk_at "evl"))
local macro_rules | `(tactic| walk_at "evo") => `(tactic| first | with_reducible exact evo_none | ((with_reducible apply evo_some) <;> walk_at "ev"))
local macro_rules | `(tactic| walk_at "evt") => `(tactic| first
  | ((with_reducible apply evt_test) <;> walk_at "ev")
  | ((with_reducible apply evt_B) <;> walk_at "ev")
  | ((with_reducible apply evt_not) <;> walk_at "evt")
  | ((with_reducible apply evt_and) <;> first | walk_at "evt" | (intro _; walk_at "evt"))
  | ((with_reducible apply evt_or) <;> first | walk_at "evt" | (intro _; walk_at "evt")))
local macro_rules | `(tactic| walk_at "cut") => `(tactic| (intro z; simp [HT.sIx] at z))
local macro_rules | `(tactic| walk_at "le") => `(tactic| (refine ⟨rfl, ?_⟩; repeat (first | exact trivial | refine ⟨?_, ?_⟩ | exact Or.inr (Or.inl rfl) | exact Or.inl rfl | exact Or.inr (Or.inr rfl))))
local macro_rules | `(tactic| walk_at "ap") => `(tactic| repeat (first | exact trivial | refine ⟨?_, ?_⟩ | exact Or.inl rfl | exact Or.inr (ne_cell rfl) | exact Or.inr (ne_cell2 rfl (by assumption)) | exact Or.inr (ne_cell2 (by assumption) (by assumption)) | exact Or.inr (by assumption)))
section
variable {P : Program} {w : World} {K : PySem.W.Frag} {mg : Str → Option Value} {base : Heap} {C : Cl P w}
def FWithFull : List AV → (AV → Prop) → Prop := fun as Pr => ∃ (r : Rules) (p : Parts) (n : Int), as = [.d (encR r), .d (encP p), .d (.int n)] ∧ r.every < 1000 ∧ Pr = fun a => a = .d (.tuple [encP (withFull r p n).1, .int (withFull r p n).2])
theorem ok_with_full {f : Addr} {fd : FuncData} (F : Fun K "with_full" "with_full" s_with_full f fd) (T : Txt K mg C) : FnOk P w K mg base CX0 1 f fd ps_with_full (SpD K C FWithFull) := by
  refine okD F sc_with_full (fun as Pr ⟨_, _, _, e, _⟩ => by subst e; rfl) fun cdv A outer s H vs E hr => ⟨_,
(pss_cons (ps_asg (pv 0) (pgTup K rfl (pgs_cons (pg_name (i := 3) sc_with_full.nd rfl (Or.inl rfl)) (pgs_cons (pg_name (i := 4) sc_with_full.nd rfl (Or.inl rfl)) (pgs_cons (pg_name (i := 5) sc_with_full.nd rfl (Or.inl rfl)) pgs_nil)))))
    (pss_cons (ps_asg (pv 1) (pgTup K rfl (pgs_cons (pg_name (i := 6) sc_with_full.nd rfl (Or.inl rfl)) (pgs_cons (pg_name (i := 7) sc_with_full.nd rfl (Or.inl rfl)) (pgs_cons (pg_name (i := 8) sc_with_full.nd rfl (Or.inl rfl)) (pgs_cons (pg_name (i := 9) sc_with_full.nd rfl (Or.inl rfl)) (pgs_cons (pg_name (i := 10) sc_with_full.nd rfl (Or.inl rfl)) (pgs_cons (pg_name (i := 11) sc_with_full.nd rfl (Or.inl rfl)) pgs_nil))))))))
    (pss_cons (ps_if (pt_cmpR op_eq (pv 2) pe_int (nomark _)) (pss_one (ps_ret (pe_tup (pa_cons (pv 1) (pa_cons pe_int pa_nil))))) pss_nil)
    (pss_cons (ps_set (i := 12) sc_with_full.nd rfl (Or.inl rfl) (pe_callB (call_min2 rfl) rfl T.n_min (by decide +kernel) (pa_cons (pv 11) (pa_cons (pv 2) pa_nil))))
    (pss_cons (ps_set (i := 13) sc_with_full.nd rfl (Or.inl rfl) (pe_op op_sub (pv 2) (pv 12)))
    (pss_cons (ps_set (i := 10) sc_with_full.nd rfl (Or.inl rfl) (pe_ifExp (pt_cmpR op_gt (pv 12) pe_int (nomark _)) pe_int (pv 10)))
    (pss_cons (ps_set (i := 14) sc_with_full.nd rfl (Or.inl rfl) (pv 12))
    (Evl.pss_cut (ps_if (pt_cmpR op_gt (pv 5) pe_int (nomark _)) (pss_cons (ps_aug (i := 14) sc_with_full.nd rfl (Or.inl rfl) (pe_op op_fdiv (pe_op op_add (pv 10) (pv 13)) (pv 5)) ip_add)
    (pss_one (ps_set (i := 10) sc_with_full.nd rfl (Or.inl rfl) (pe_op op_mod (pe_op op_add (pv 10) (pv 13)) (pv 5))))) pss_nil)
    (Evl.pss_cut (ps_if (pt_cmpR op_eq (pv 4) pe_str (nomark _)) (pss_cons (ps_set (i := 8) sc_with_full.nd rfl (Or.inl rfl) pe_bl)
    (pss_one (ps_set (i := 9) sc_with_full.nd rfl (Or.inl rfl) (pe_and (pe_cmpR op_gt (pv 13) pe_int (nomark _)) (pe_one (pe_or (pe_cmpR op_eq (pv 5) pe_int (nomark _)) (pe_one (pe_cmpR op_gt (pv 10) pe_int (nomark _))))))))) pss_nil)
    (Evl.pss_cut (ps_if (pt_cmpR op_eq (pv 4) pe_str (nomark _)) (pss_one (ps_set (i := 9) sc_with_full.nd rfl (Or.inl rfl) (pe_and (pv 9) (pe_one (pe_cmpR op_eq (pv 14) pe_int (nomark _)))))) pss_nil)
    (pss_one (ps_ret (pe_tup (pa_cons (pe_tup (pa_cons (pv 6) (pa_cons (pv 7) (pa_cons (pv 8) (pa_cons (pv 9) (pa_cons (pv 10) (pa_cons (pe_op op_sub (pv 11) (pv 12)) pa_nil))))))) (pa_cons (pv 14) pa_nil))))))))))))))), ?_⟩
  rintro Hd as Pr Q σ ⟨r, p, n, rfl, h9, rfl⟩ w q
  refine w.qun (is := [3, 4, 5]) (ds := [_, _, _]) (by walk_at "ev") rfl rfl fun σ Hd H x w => ?_
  refine w.qun (is := [6, 7, 8, 9, 10, 11]) (ds := [_, _, _, _, _, _]) (by walk_at "ev") rfl rfl fun σ Hd H x w => ?_
  refine w.qwhen (by walk_at "evt") (fun hb Hd H x w => ?_) (fun hb Hd H x w => ?_)
  · have e : n = 0 := of_decide_eq_true hb
    exact w.ret (by walk_at "ev") fun v Hd' H' x h => q v _ Hd' H' (by rw [withFull, if_pos e]) x h
  have e : ¬ n = 0 := of_decide_eq_false hb
  refine w.qasg (by walk_at "ev") fun σ Hd H x w => ?_
  refine w.qasg (by walk_at "ev") fun σ Hd H x w => ?_
  refine w.qasg (ev_ifI (by walk_at "evt") (fun hb => by walk_at "ev") (fun hb => by walk_at "ev")) fun σ Hd H x w => ?_
  refine w.qasg (by walk_at "ev") fun σ Hd H x w => ?_
  refine w.qcutU [(14, .d (.int (if 0 < r.every then (if n < p.quick then n else p.quick) + ((if 0 < (if n < p.quick then n else p.quick) then 0 else p.pending) + (n - (if n < p.quick then n else p.quick))) / r.every else (if n < p.quick then n else p.quick)))),
    (10, .d (.int (if 0 < r.every then ((if 0 < (if n < p.quick then n else p.quick) then 0 else p.pending) + (n - (if n < p.quick then n else p.quick))) % r.every else (if 0 < (if n < p.quick then n else p.quick) then 0 else p.pending))))] (by walk_at "evt") (fun hb Hd H x w => ?_) (fun hb => ?_) fun σ Hd H x w => ?_
  · have h0 : 0 < r.every := of_decide_eq_true hb
    refine w.qaug rfl rfl (ev_I (by walk_at "ev") (by walk_at "ev") ⟨h0, by omega⟩) fun σ Hd H x2 w => ?_
    refine w.asg (ev_I (by walk_at "ev") (by walk_at "ev") h0) fun σ Hd H x3 w => w.mid ((x.trans x2).trans x3) ?_
    simp only [updA, if_pos h0]
  · have h0 : ¬ 0 < r.every := of_decide_eq_false hb
    simp only [updA, if_neg h0]
    exact self2 rfl rfl
  refine w.qcutU [(8, .d (.bool (if r.hold = .all then true else p.blocked))), (9, .d (.bool (if r.hold = .all then (decide (0 < n - (if n < p.quick then n else p.quick)) && (decide (r.every = 0) || decide (0 < (if 0 < r.every then ((if 0 < (if n < p.quick then n else p.quick) then 0 else p.pending) + (n - (if n < p.quick then n else p.quick))) % r.every else (if 0 < (if n < p.quick then n else p.quick) then 0 else p.pending))))) else p.stuck)))]
    (evt_is (by walk_at "evt") (hold_all r.hold)) (fun hb Hd H x w => ?_) (fun hb => ?_) fun σ Hd H x w => ?_
  · have h0 : r.hold = .all := of_decide_eq_true hb
    refine w.qasg (by walk_at "ev") fun σ Hd H x2 w => ?_
    refine w.asg (by walk_at "ev") fun σ Hd H x3 w => w.mid ((x.trans x2).trans x3) ?_
    simp only [updA, if_pos h0]
  · have h0 : ¬ r.hold = .all := of_decide_eq_false hb
    simp only [updA, if_neg h0]
    exact self2 rfl rfl
  refine w.qcutU [(9, .d (.bool (withFull r p n).1.stuck))]
    (evt_is (by walk_at "evt") (hold_part r.hold)) (fun hb Hd H x w => ?_) (fun hb => ?_) fun σ Hd H x w => ?_
  · have h0 : r.hold = .part := of_decide_eq_true hb
    refine w.asg (by walk_at "ev") fun σ Hd H x3 w => w.mid (x.trans x3) ?_
    simp only [updA, withFull, if_neg e, if_pos h0]
  · have h0 : ¬ r.hold = .part := of_decide_eq_false hb
    simp only [updA, withFull, if_neg e, if_neg h0]
    exact self1 rfl
  exact w.ret (by walk_at "ev") fun v Hd' H' x h => q v _ Hd' H' (by simp only [withFull, if_neg e, encP]) x h

def FWithPartial : List AV → (AV → Prop) → Prop := fun as Pr => ∃ (r : Rules) (p : Parts), as = [.d (encR r), .d (encP p)] ∧ Pr = fun a => a = .d (.tuple [encP (withPartial r p).1, .int (withPartial r p).2])
theorem ok_with_partial {f : Addr} {fd : FuncData} (F : Fun K "with_partial" "with_partial" s_with_partial f fd) (T : Txt K mg C) : FnOk P w K mg base CX0 1 f fd ps_with_partial (SpD K C FWithPartial) := by
  refine okD F sc_with_partial (fun as Pr ⟨_, _, e, _⟩ => by subst e; rfl) fun cdv A outer s H vs E hr => ⟨_,
(pss_cons (ps_set (i := 2) sc_with_partial.nd rfl (Or.inl rfl) (pe_cmpR op_ne (pe_ix (ixT K) (pv 0) pe_int (fun _ _ => rfl)) pe_str (nomark _)))
    (pss_cons (ps_if (pt_cmpR op_gt (pe_ix (ixT K) (pv 1) pe_int (fun _ _ => rfl)) pe_int (nomark _)) (pss_one (ps_ret (pe_tup (pa_cons (pe_tup (pa_cons pe_int (pa_cons pe_bl (pa_cons (pv 2) (pa_cons pe_bl (pa_cons pe_int (pa_cons (pe_op op_sub (pe_ix (ixT K) (pv 1) pe_int (fun _ _ => rfl)) pe_int) pa_nil))))))) (pa_cons pe_int pa_nil))))) pss_nil)
    (pss_one (ps_ret (pe_tup (pa_cons (pe_tup (pa_cons pe_int (pa_cons pe_bl (pa_cons (pv 2) (pa_cons (pv 2) (pa_cons (pe_ix (ixT K) (pv 1) pe_int (fun _ _ => rfl)) (pa_cons pe_int pa_nil))))))) (pa_cons pe_int pa_nil))))))), ?_⟩
  rintro Hd as Pr Q σ ⟨r, p, rfl, rfl⟩ w q
  refine w.qasg (a := .d (.bool (!decide (r.hold = .off)))) (ev_is (by walk_at "ev") (by rw [hold_off])) fun σ Hd H x w => ?_
  refine w.qwhen (by walk_at "evt") (fun hb Hd H x w => ?_) (fun hb Hd H x w => ?_)
  · have e : 0 < p.quick := of_decide_eq_true hb
    exact w.ret (by walk_at "ev") fun v Hd' H' x h => q v _ Hd' H' (by simp only [withPartial, if_pos e, encP]) x h
  · have e : ¬ 0 < p.quick := of_decide_eq_false hb
    exact w.ret (by walk_at "ev") fun v Hd' H' x h => q v _ Hd' H' (by simp only [withPartial, if_neg e, encP]) x h

def FAfterWrite : List AV → (AV → Prop) → Prop := fun as Pr => ∃ (r : Rules) (p : Parts) (l : Int) (m : Mode), as = [.d (encR r), .d (encP p), .d (.int l), .d (.str m.str)] ∧ r.every < 1000 ∧ 0 < r.size ∧ r.size < 1000 ∧
  Pr = fun a => a = .d (.tuple [encP (afterWrite r p l m).1, .int (afterWrite r p l m).2.1, .int (afterWrite r p l m).2.2])
theorem ok_after_write {f : Addr} {fd : FuncData} (F : Fun K "after_write" "after_write" s_after_write f fd) (T : Txt K mg C) (d_with_full : Df P w K mg base "with_full" 1 ps_with_full (SpD K C FWithFull)) (d_with_partial : Df P w K mg base "with_partial" 1 ps_with_partial (SpD K C FWithPartial)) :
    FnOk P w K mg base CX0 2 f fd ps_after_write (SpD K C FAfterWrite) := by
  refine okD F sc_after_write (fun as Pr ⟨_, _, _, _, e, _⟩ => by subst e; rfl) fun cdv A outer s H vs E hr => ⟨_,
(pss_cons (ps_asg (pe_callB call_divmod rfl T.n_divmod (by decide +kernel) (pa_cons (pe_op op_add (pe_ix (ixT K) (pv 1) pe_int (fun _ _ => rfl)) (pv 2)) (pa_cons (pe_ix (ixT K) (pv 0) pe_int (fun _ _ => rfl)) pa_nil))) (pgTup K rfl (pgs_cons (pg_name (i := 4) sc_after_write.nd rfl (Or.inl rfl)) (pgs_cons (pg_name (i := 5) sc_after_write.nd rfl (Or.inl rfl)) pgs_nil))))
    (pss_cons (ps_asg (pe_df d_with_full (hr.mono (by decide)) rfl (pa_cons (pv 0) (pa_cons (pe_op (opCatT K) (pe_tup (pa_cons (pv 5) (pa_cons pe_bl pa_nil))) (pe_slice (slT K) (pv 1) (po_some pe_int) po_none)) (pa_cons (pv 4) pa_nil)))) (pgTup K rfl (pgs_cons (pg_name (i := 1) sc_after_write.nd rfl (Or.inl rfl)) (pgs_cons (pg_name (i := 6) sc_after_write.nd rfl (Or.inl rfl)) pgs_nil))))
    (pss_cons (ps_if (PW.pt (pw_and (pt_cmpR op_gt (pv 5) pe_int (nomark _)) (pw_and1 (pt_cmpR op_eq (pv 3) pe_str (nomark _))))) (pss_one (ps_ret (pe_tup (pa_cons (pe_op (opCatT K) (pe_tup (pa_cons (pv 5) (pa_cons pe_bl pa_nil))) (pe_slice (slT K) (pv 1) (po_some pe_int) po_none)) (pa_cons (pv 4) (pa_cons (pv 6) pa_nil)))))) pss_nil)
    (pss_cons (ps_if (PW.pt (pw_and (pt_cmpR op_gt (pv 5) pe_int (nomark _)) (pw_and1 (PW.pt (pw_or (pt_cmpR op_eq (pv 3) pe_str (nomark _)) (pw_or1 (pt_not (pt_val (pe_ix (ixT K) (pv 1) pe_int (fun _ _ => rfl)))))))))) (pss_cons (ps_asg (pe_df d_with_partial (hr.mono (by decide)) rfl (pa_cons (pv 0) (pa_cons (pv 1) pa_nil))) (pgTup K rfl (pgs_cons (pg_name (i := 1) sc_after_write.nd rfl (Or.inl rfl)) (pgs_cons (pg_name (i := 7) sc_after_write.nd rfl (Or.inl rfl)) pgs_nil))))
    (pss_one (ps_ret (pe_tup (pa_cons (pv 1) (pa_cons (pe_op op_add (pv 4) pe_int) (pa_cons (pe_op op_add (pv 6) (pv 7)) pa_nil))))))) pss_nil)
    (pss_one (ps_ret (pe_tup (pa_cons (pv 1) (pa_cons (pv 4) (pa_cons (pv 6) pa_nil)))))))))), ?_⟩
  rintro Hd as Pr Q σ ⟨r, p, l, m, rfl, h1, h2, h3, rfl⟩ w q
  refine w.qun (is := [4, 5]) (ds := [_, _]) (ev_divmod (by walk_at "evl") ⟨h2, by omega⟩) rfl rfl fun σ Hd H x w => ?_
  refine w.qun (is := [1, 6]) (ds := [_, _]) (ev_callE (by walk_at "evl") (by rfl) ⟨r, ⟨(p.rest + l) % r.size, false, p.blocked, p.stuck, p.pending, p.quick⟩, (p.rest + l) / r.size, rfl, h1, rfl⟩) rfl rfl fun σ Hd H x w => ?_
  refine w.qwhen (evt_and (by walk_at "evt") fun _ => evt_is (by walk_at "evt") (mode_more m)) (fun hb Hd H x w => ?_) (fun hb Hd H x w => ?_)
  · rw [Bool.and_eq_true, decide_eq_true_eq, decide_eq_true_eq] at hb
    exact w.ret (by walk_at "ev") fun v Hd' H' x h => q v _ Hd' H' (by simp only [afterWrite, if_pos hb]; rfl) x h
  have hb : ¬ (0 < (p.rest + l) % r.size ∧ m = .more) := fun z => by
    rw [decide_eq_true z.1, decide_eq_true z.2] at hb; cases hb
  refine w.qwhen (evt_and (by walk_at "evt") fun _ => evt_or (evt_is (by walk_at "evt") (mode_push m)) fun _ => by walk_at "evt") (fun hc Hd H x w => ?_) (fun hc Hd H x w => ?_)
  · have hc : 0 < (p.rest + l) % r.size ∧ (m = .push ∨ (withFull r ⟨(p.rest + l) % r.size, false, p.blocked, p.stuck, p.pending, p.quick⟩ ((p.rest + l) / r.size)).1.blocked = false) := by
      simpa using hc
    refine w.qun (is := [1, 7]) (ds := [_, _]) (ev_callE (by walk_at "evl") (by rfl) ⟨r, _, rfl, rfl⟩) rfl rfl fun σ Hd H x w => ?_
    exact w.ret (by walk_at "ev") fun v Hd' H' x h => q v _ Hd' H' (by simp only [afterWrite, if_neg hb, if_pos hc]) x h
  · have hc : ¬ (0 < (p.rest + l) % r.size ∧ (m = .push ∨ (withFull r ⟨(p.rest + l) % r.size, false, p.blocked, p.stuck, p.pending, p.quick⟩ ((p.rest + l) / r.size)).1.blocked = false)) := fun z => by
      have : (decide (0 < (p.rest + l) % r.size) && (decide (m = .push) || !(withFull r ⟨(p.rest + l) % r.size, false, p.blocked, p.stuck, p.pending, p.quick⟩ ((p.rest + l) / r.size)).1.blocked)) = true := by simpa using z
      rw [hc] at this; cases this
    exact w.ret (by walk_at "ev") fun v Hd' H' x h => q v _ Hd' H' (by simp only [afterWrite, if_neg hb, if_neg hc]) x h

def FAfterClearing : List AV → (AV → Prop) → Prop := fun as Pr => ∃ (r : Rules) (p : Parts), as = [.d (encR r), .d (encP p)] ∧
  Pr = fun a => a = .d (.tuple [encP (afterClearing r p).1, .int (afterClearing r p).2.1, .int (afterClearing r p).2.2])
theorem ok_after_clearing {f : Addr} {fd : FuncData} (F : Fun K "after_clearing" "after_clearing" s_after_clearing f fd) (T : Txt K mg C) (d_with_partial : Df P w K mg base "with_partial" 1 ps_with_partial (SpD K C FWithPartial)) :
    FnOk P w K mg base CX0 2 f fd ps_after_clearing (SpD K C FAfterClearing) := by
  refine okD F sc_after_clearing (fun as Pr ⟨_, _, e, _⟩ => by subst e; rfl) fun cdv A outer s H vs E hr => ⟨_,
(pss_cons (ps_if (PW.pt (pw_or (pt_not (pt_val (pe_ix (ixT K) (pv 1) pe_int (fun _ _ => rfl)))) (pw_or1 (pt_val (pe_ix (ixT K) (pv 1) pe_int (fun _ _ => rfl)))))) (pss_one (ps_ret (pe_tup (pa_cons (pv 1) (pa_cons pe_int (pa_cons pe_int pa_nil)))))) pss_nil)
    (pss_cons (ps_set (i := 1) sc_after_clearing.nd rfl (Or.inl rfl) (pe_op (opCatT K) (pe_op (opCatT K) (pe_slice (slT K) (pv 1) po_none (po_some pe_int)) (pe_tup (pa_cons pe_bl (pa_cons pe_bl pa_nil)))) (pe_slice (slT K) (pv 1) (po_some pe_int) po_none)))
    (pss_cons (ps_if (PW.pt (pw_or (pt_cmpR op_eq (pe_ix (ixT K) (pv 1) pe_int (fun _ _ => rfl)) pe_int (nomark _)) (pw_or1 (pt_val (pe_ix (ixT K) (pv 1) pe_int (fun _ _ => rfl)))))) (pss_one (ps_ret (pe_tup (pa_cons (pv 1) (pa_cons pe_int (pa_cons pe_int pa_nil)))))) pss_nil)
    (pss_cons (ps_asg (pe_df d_with_partial (hr.mono (by decide)) rfl (pa_cons (pv 0) (pa_cons (pv 1) pa_nil))) (pgTup K rfl (pgs_cons (pg_name (i := 1) sc_after_clearing.nd rfl (Or.inl rfl)) (pgs_cons (pg_name (i := 2) sc_after_clearing.nd rfl (Or.inl rfl)) pgs_nil))))
    (pss_one (ps_ret (pe_tup (pa_cons (pv 1) (pa_cons pe_int (pa_cons (pv 2) pa_nil)))))))))), ?_⟩
  rintro Hd as Pr Q σ ⟨r, p, rfl, rfl⟩ w q
  refine w.qwhen (by walk_at "evt") (fun hb Hd H x w => ?_) (fun hb Hd H x w => ?_)
  · have hb : p.blocked = false ∨ p.stuck = true := by simpa using hb
    exact w.ret (by walk_at "ev") fun v Hd' H' x h => q v _ Hd' H' (by simp only [afterClearing, if_pos hb]) x h
  have hb : ¬ (p.blocked = false ∨ p.stuck = true) := fun z => by
    have : (!p.blocked || p.stuck) = true := by simpa using z
    rw [hb] at this; cases this
  refine w.qasg (a := .d (encP ⟨p.rest, p.kept, false, false, p.pending, p.quick⟩)) (ev_is (by walk_at "ev") (by rfl)) fun σ Hd H x w => ?_
  refine w.qwhen (by walk_at "evt") (fun hc Hd H x w => ?_) (fun hc Hd H x w => ?_)
  · have hc : p.rest = 0 ∨ p.kept = true := by simpa using hc
    exact w.ret (by walk_at "ev") fun v Hd' H' x h => q v _ Hd' H' (by simp only [afterClearing, if_neg hb, if_pos hc]) x h
  · have hc : ¬ (p.rest = 0 ∨ p.kept = true) := fun z => by
      have : (decide (p.rest = 0) || p.kept) = true := by simpa using z
      rw [hc] at this; cases this
    refine w.qun (is := [1, 2]) (ds := [_, _]) (ev_callE (by walk_at "evl") (by rfl) ⟨r, _, rfl, rfl⟩) rfl rfl fun σ Hd H x w => ?_
    exact w.ret (by walk_at "ev") fun v Hd' H' x h => q v _ Hd' H' (by simp only [afterClearing, if_neg hb, if_neg hc]) x h

def FAfterTurn : List AV → (AV → Prop) → Prop := fun as Pr => ∃ (r : Rules) (p : Parts), as = [.d (encR r), .d (encP p)] ∧
  Pr = fun a => a = .d (.tuple [.int (afterTurn r p).1, .int (afterTurn r p).2.1, .int (afterTurn r p).2.2.1, .int (afterTurn r p).2.2.2])
def turnAt (r : Rules) (p : Parts) : Nat → Parts × Int × Int
  | 0 => (p, 0, 0)
  | n + 1 => ((afterClearing r (turnAt r p n).1).1, (turnAt r p n).2.1 + (afterClearing r (turnAt r p n).1).2.1, (turnAt r p n).2.2 + (afterClearing r (turnAt r p n).1).2.2)
theorem ok_after_turn {f : Addr} {fd : FuncData} (F : Fun K "after_turn" "after_turn" s_after_turn f fd) (T : Txt K mg C) (d_with_partial : Df P w K mg base "with_partial" 1 ps_with_partial (SpD K C FWithPartial))
    (d_after_clearing : Df P w K mg base "after_clearing" 2 ps_after_clearing (SpD K C FAfterClearing)) :
    FnOk P w K mg base CX0 3 f fd ps_after_turn (SpD K C FAfterTurn) := by
  refine okD F sc_after_turn (fun as Pr ⟨_, _, e, _⟩ => by subst e; rfl) fun cdv A outer s H vs E hr => ⟨_,
(pss_cons (ps_asg2 pe_int (pg_name (i := 2) sc_after_turn.nd rfl (Or.inl rfl)) (pg_name (i := 3) sc_after_turn.nd rfl (Or.inl rfl)))
    (pss_cons (ps_for PassesOwn.never rfl (pi_range1 rfl T.n_range (pa_cons pe_int pa_nil)) (pg_name (i := 4) sc_after_turn.nd rfl (Or.inl rfl)) (pss_cons (ps_asg (pe_df d_after_clearing (hr.mono (by decide)) rfl (pa_cons (pv 0) (pa_cons (pv 1) pa_nil))) (pgTup K rfl (pgs_cons (pg_name (i := 1) sc_after_turn.nd rfl (Or.inl rfl)) (pgs_cons (pg_name (i := 5) sc_after_turn.nd rfl (Or.inl rfl)) (pgs_cons (pg_name (i := 6) sc_after_turn.nd rfl (Or.inl rfl)) pgs_nil)))))
    (pss_cons (ps_aug (i := 2) sc_after_turn.nd rfl (Or.inl rfl) (pv 5) ip_add)
    (pss_one (ps_aug (i := 3) sc_after_turn.nd rfl (Or.inl rfl) (pv 6) ip_add)))))
    (pss_cons (ps_if (pt_cmpR op_eq (pe_ix (ixT K) (pv 1) pe_int (fun _ _ => rfl)) pe_int (nomark _)) (pss_one (ps_ret (pe_tup (pa_cons pe_int (pa_cons (pe_ix (ixT K) (pv 1) pe_int (fun _ _ => rfl)) (pa_cons (pv 2) (pa_cons (pv 3) pa_nil))))))) pss_nil)
    (pss_cons (ps_set (i := 7) sc_after_turn.nd rfl (Or.inl rfl) (pe_ifExp (pt_val (pe_ix (ixT K) (pv 1) pe_int (fun _ _ => rfl))) pe_int pe_int))
    (pss_cons (ps_asg (pe_df d_with_partial (hr.mono (by decide)) rfl (pa_cons (pv 0) (pa_cons (pv 1) pa_nil))) (pgTup K rfl (pgs_cons (pg_name (i := 1) sc_after_turn.nd rfl (Or.inl rfl)) (pgs_cons (pg_name (i := 6) sc_after_turn.nd rfl (Or.inl rfl)) pgs_nil))))
    (pss_one (ps_ret (pe_tup (pa_cons pe_int (pa_cons (pe_ix (ixT K) (pv 1) pe_int (fun _ _ => rfl)) (pa_cons (pe_op op_add (pv 2) pe_int) (pa_cons (pe_op op_add (pe_op op_add (pv 3) (pv 6)) (pv 7)) pa_nil)))))))))))), ?_⟩
  rintro Hd as Pr Q σ ⟨r, p, rfl, rfl⟩ w q
  refine w.qasg2 (by walk_at "ev") fun σ Hd H x w => ?_
  refine w.qforR (by walk_at "evl") (by decide) (fun i => ls [.d (encR r), .d (encP (turnAt r p i).1), .d (.int (turnAt r p i).2.1), .d (.int (turnAt r p i).2.2), .unk, .unk, .unk, .unk]) (by walk_at "le") (fun i σ Hd H hi x w => ?_) fun σ Hd H x w => ?_
  · refine w.qun (is := [1, 5, 6]) (ds := [_, _, _]) (ev_callE (by walk_at "evl") (by rfl) ⟨r, _, rfl, rfl⟩) rfl rfl fun σ Hd H x2 w => ?_
    refine w.qaug rfl rfl (by walk_at "ev") fun σ Hd H x3 w => ?_
    refine w.aug rfl rfl (by walk_at "ev") fun σ Hd H x4 w => w.midl (((x.trans x2).trans x3).trans x4) (by walk_at "le")
  refine w.qwhen (by walk_at "evt") (fun hb Hd H x w => ?_) (fun hb Hd H x w => ?_)
  · have e : (afterClearing r (afterClearing r p).1).1.rest = 0 := of_decide_eq_true hb
    exact w.ret (by walk_at "ev") fun v Hd' H' x h => q v _ Hd' H' (by simp only [afterTurn, if_pos e]; rfl) x h
  · have e : ¬ (afterClearing r (afterClearing r p).1).1.rest = 0 := of_decide_eq_false hb
    refine w.qasg (a := .d (.int (if (afterClearing r (afterClearing r p).1).1.kept = true then 0 else 1))) (ev_ifI (evt_is (by walk_at "evt") (by show (afterClearing r (afterClearing r p).1).1.kept = _; rw [Bool.decide_eq_true])) (fun hb => by walk_at "ev") (fun hb => by walk_at "ev")) fun σ Hd H x w => ?_
    refine w.qun (is := [1, 6]) (ds := [_, _]) (ev_callE (by walk_at "evl") (by rfl) ⟨r, _, rfl, rfl⟩) rfl rfl fun σ Hd H x w => ?_
    exact w.ret (by walk_at "ev") fun v Hd' H' x h => q v _ Hd' H' (by simp only [afterTurn, if_neg e]; rfl) x h

def rulesOf (s : SetD) (e : Int) : Rules := ⟨s.size, (s.pol e).hold, (s.pol (1 - e)).every⟩
def FRulesOf : List AV → (AV → Prop) → Prop := fun as Pr => ∃ (s : SetD) (e : Int), as = [.set s, .d (.int e)] ∧ (e = 0 ∨ e = 1) ∧ Pr = fun a => a = .d (encR (rulesOf s e))
theorem ok_rules_of {f : Addr} {fd : FuncData} (F : Fun K "rules_of" "rules_of" s_rules_of f fd) (T : Txt K mg C) : FnOk P w K mg base CX0 1 f fd ps_rules_of (SpD K C FRulesOf) := by
  refine okD F sc_rules_of (fun as Pr ⟨_, _, e, _⟩ => by subst e; rfl) fun cdv A outer s H vs E hr => ⟨_,
(pss_one (ps_ret (pe_tup (pa_cons (peFld K (pv 0) rfl) (pa_cons (peFld K (pe_ix (ixT K) (peFld K (pv 0) rfl) (pv 1) (fun _ _ => rfl)) rfl) (pa_cons (peFld K (pe_ix (ixT K) (peFld K (pv 0) rfl) (pe_op op_sub pe_int (pv 1)) (fun _ _ => rfl)) rfl) pa_nil)))))), ?_⟩
  rintro Hd as Pr Q σ ⟨r, p, rfl, hp, rfl⟩ w q
  exact w.ret (ev_tup (evd_cons (ev_size T (by walk_at "ev")) (evd_cons (ev_hold T (ev_polix T (by walk_at "ev") (by walk_at "ev") hp)) (evd_cons (ev_every T (ev_polix T (by walk_at "ev") (by walk_at "ev") (by omega))) evd_nil))) (Nat.le_of_ble_eq_true rfl)) fun v Hd' H' x h => q v _ Hd' H' (by rfl) x h

def FFirstParts : List AV → (AV → Prop) → Prop := fun as Pr => ∃ (e : Int), as = [.d (.int e)] ∧ Pr = fun a => a = .d (encP (firstParts e))
theorem ok_first_parts {f : Addr} {fd : FuncData} (F : Fun K "first_parts" "first_parts" s_first_parts f fd) (T : Txt K mg C) : FnOk P w K mg base CX0 1 f fd ps_first_parts (SpD K C FFirstParts) := by
  refine okD F sc_first_parts (fun as Pr ⟨_, e, _⟩ => by subst e; rfl) fun cdv A outer s H vs E hr => ⟨_,
(pss_one (ps_ret (pe_tup (pa_cons pe_int (pa_cons pe_bl (pa_cons pe_bl (pa_cons pe_bl (pa_cons pe_int (pa_cons (pv 0) pa_nil))))))))), ?_⟩
  rintro Hd as Pr Q σ ⟨r, rfl, rfl⟩ w q
  exact w.ret (by walk_at "ev") fun v Hd' H' x h => q v _ Hd' H' (by rfl) x h

def encQ (q : Int × Int) : PyData := .tuple [.int q.1, .int q.2]
def FWithQuick : List AV → (AV → Prop) → Prop := fun as Pr => ∃ (q : Int × Int) (e m : Int), as = [.d (encQ q), .d (.int e), .d (.int m)] ∧ Pr = fun a => a = .d (encQ (withQuick q e m))
theorem ok_with_quick {f : Addr} {fd : FuncData} (F : Fun K "with_quick" "with_quick" s_with_quick f fd) (T : Txt K mg C) : FnOk P w K mg base CX0 1 f fd ps_with_quick (SpD K C FWithQuick) := by
  refine okD F sc_with_quick (fun as Pr ⟨_, _, _, e, _⟩ => by subst e; rfl) fun cdv A outer s H vs E hr => ⟨_,
(pss_one (ps_ret (pe_ifExp (pt_cmpR op_eq (pv 1) pe_int (nomark _)) (pe_tup (pa_cons (pv 2) (pa_cons (pe_ix (ixT K) (pv 0) pe_int (fun _ _ => rfl)) pa_nil))) (pe_tup (pa_cons (pe_ix (ixT K) (pv 0) pe_int (fun _ _ => rfl)) (pa_cons (pv 2) pa_nil)))))), ?_⟩
  rintro Hd as Pr Q σ ⟨r, e, m, rfl, rfl⟩ w q
  refine w.ret (ev_if (a := .d (encQ (withQuick r e m))) (by walk_at "evt") (fun hb => ?_) (fun hb => ?_)) fun v Hd' H' x h => q v _ Hd' H' (by rfl) x h
  · exact ev_is (by walk_at "ev") (by rw [withQuick, if_pos (of_decide_eq_true hb)]; rfl)
  · exact ev_is (by walk_at "ev") (by rw [withQuick, if_neg (of_decide_eq_false hb)]; rfl)
end
end LW

set_option Elab.async false
set_option linter.all false
set_option maxRecDepth 100000
set_option maxHeartbeats 4000000
namespace LW
open PySem PySem.Spec PyProof.Rows L2 Evl
local macro_rules | `(tactic| walk_at "ev") => `(tactic| first
  | with_reducible exact ev_int | with_reducible exact ev_bl | with_reducible exact ev_str | with_reducible exact ev_non
  | ((with_reducible apply ev_var) <;> rfl)
  | ((with_reducible apply ev_ixT) <;> first | walk_at "ev" | rfl)
  | ((with_reducible apply ev_ixL) <;> first | walk_at "ev" | rfl)
  | ((with_reducible apply ev_ixM) <;> first | walk_at "ev" | rfl)
  | ((with_reducible apply ev_I0) <;> walk_at "ev")
  | ((with_reducible apply ev_B0) <;> walk_at "ev")
  | ((with_reducible apply ev_U) <;> walk_at "ev")
  | ((with_reducible apply ev_tup) <;> first | walk_at "evd" | exact Nat.le_of_ble_eq_true rfl)
  | ((with_reducible apply ev_lst) <;> first | walk_at "evd" | exact Nat.le_of_ble_eq_true rfl)
  | ((with_reducible apply ev_eqI) <;> walk_at "ev")
  | ((with_reducible apply ev_eqS) <;> walk_at "ev")
  | ((with_reducible apply ev_neI) <;> walk_at "ev")
  | ((with_reducible apply ev_neS) <;> walk_at "ev")
  | ((with_reducible apply ev_notV) <;> walk_at "ev")
  | ((with_reducible apply ev_andV) <;> first | walk_at "ev" | (intro _; walk_at "ev"))
  | ((with_reducible apply ev_orV) <;> first | walk_at "ev" | (intro _; walk_at "ev"))
  | ((with_reducible apply ev_min) <;> walk_at "evl")
  | ((with_reducible apply ev_max) <;> walk_at "evl")
  | ((with_reducible apply ev_slT) <;> first | walk_at "ev" | walk_at "evo" | walk_at "cut")
  | ((with_reducible apply ev_slL) <;> first | walk_at "ev" | walk_at "evo")
  | ((with_reducible apply ev_catT) <;> first | walk_at "ev" | exact Nat.le_of_ble_eq_true rfl | (intro z; cases z))
  | ((with_reducible apply ev_abs) <;> walk_at "evl")
  | ((with_reducible apply ev_intI) <;> walk_at "evl")
  | ((with_reducible apply ev_intB) <;> walk_at "evl")
  | ((with_reducible apply ev_lenL) <;> walk_at "evl"))
local macro_rules | `(tactic| walk_at "evd") => `(tactic| first | with_reducible exact evd_nil | ((with_reducible apply evd_cons) <;> first | walk_at "ev" | walk_at "evd"))
local macro_rules | `(tactic| walk_at "evl") => `(tactic| first | with_reducible exact evl_nil | ((with_reducible apply evl_cons) <;> first | walk_at "ev" | walk_at "evl"))
local macro_rules | `(tactic| walk_at "evo") => `(tactic| first | with_reducible exact evo_none | ((with_reducible apply evo_some) <;> walk_at "ev"))
local macro_rules | `(tactic| walk_at "evt") => `(tactic| first
  | ((with_reducible apply evt_test) <;> walk_at "ev")
  | ((with_reducible apply evt_B) <;> walk_at "ev")
  | ((with_reducible apply evt_not) <;> walk_at "evt")
  | ((with_reducible apply evt_and) <;> first | walk_at "evt" | (intro _; walk_at "evt"))
  | ((with_reducible apply evt_or) <;> first | walk_at "evt" | (intro _; walk_at "evt")))
local macro_rules | `(tactic| walk_at "cut") => `(tactic| (intro z; simp [HT.sIx] at z))
local macro_rules | `(tactic| walk_at "le") => `(tactic| (refine ⟨rfl, ?_⟩; repeat (first | exact trivial | refine ⟨?_, ?_⟩ | exact Or.inr (Or.inl rfl) | exact Or.inl rfl | exact Or.inr (Or.inr rfl))))
local macro_rules | `(tactic| walk_at "ap") => `(tactic| repeat (first | exact trivial | refine ⟨?_, ?_⟩ | exact Or.inl rfl | exact Or.inr (ne_cell rfl) | exact Or.inr (ne_cell2 rfl (by assumption)) | exact Or.inr (ne_cell2 (by assumption) (by assumption)) | exact Or.inr (by assumption)))
section
variable {P : Program} {w : World} {K : PySem.W.Frag} {mg : Str → Option Value} {base : Heap} {C : Cl P w}
def encW (x : Wr) : PyData := .tuple [.int x.who, .int x.len, .str x.mode.str]
def encC (c : List Wr) : PyData := .list (c.map encW)
def encT (t : Tn) : PyData := .tuple [.int t.who, .int t.a, .int t.b]
def encI (o : List Int) : PyData := .list (o.map PyData.int)
def FIsInteger : List AV → (AV → Prop) → Prop := fun as Pr => ∃ i : Int, as = [.d (.int i)] ∧ Pr = fun a => a = .d (.bool true)
theorem ok_is_integer {f : Addr} {fd : FuncData} (F : Fun K "is_integer" "is_integer" s_is_integer f fd) (T : Txt K mg C) : FnOk P w K mg base CX0 1 f fd ps_is_integer (SpD K C FIsInteger) := by
  refine okD F sc_is_integer (fun as Pr ⟨_, e, _⟩ => by subst e; rfl) fun cdv A outer s H vs E hr => ⟨_,
(pss_one (ps_ret (pe_and (pe_callB (callIsi K) rfl T.n_isinstance (by decide +kernel) (pa_cons (pv 0) (pa_cons (peTy "int" rfl T.n_int (by decide +kernel)) pa_nil))) (pe_one (pe_not (pe_callB (callIsi K) rfl T.n_isinstance (by decide +kernel) (pa_cons (pv 0) (pa_cons (peTy "bool" rfl T.n_bool (by decide +kernel)) pa_nil)))))))), ?_⟩
  rintro Hd as Pr Q σ ⟨i, rfl, rfl⟩ w q
  exact w.ret (ev_andV (ev_isi (b := true) (by walk_at "ev") (by exact kt_int_int)) fun _ => ev_notV (ev_isi (b := false) (by walk_at "ev") (by exact kt_int_bool))) fun v Hd' H' x h => q v _ Hd' H' (by rfl) x h
def FInRange : List AV → (AV → Prop) → Prop := fun as Pr => ∃ i l m : Int, as = [.d (.int i), .d (.int l), .d (.int m)] ∧ Pr = fun a => a = .d (.bool (decide (l ≤ i) && decide (i ≤ m)))
theorem ok_in_range {f : Addr} {fd : FuncData} (F : Fun K "in_range" "in_range" s_in_range f fd) (T : Txt K mg C) (d_is_integer : Df P w K mg base "is_integer" 1 ps_is_integer (SpD K C FIsInteger)) : FnOk P w K mg base CX0 2 f fd ps_in_range (SpD K C FInRange) := by
  refine okD F sc_in_range (fun as Pr ⟨_, _, _, e, _⟩ => by subst e; rfl) fun cdv A outer s H vs E hr => ⟨_,
(pss_one (ps_ret (pe_and (pe_df d_is_integer (hr.mono (by decide)) rfl (pa_cons (pv 0) pa_nil)) (pe_one (pe_chain op_le op_le (pv 1) (pv 0) (pv 2)))))), ?_⟩
  rintro Hd as Pr Q σ ⟨i, l, m, rfl, rfl⟩ w q
  exact w.ret (ev_andV (a := true) (ev_callE (by walk_at "evl") (by rfl) ⟨i, rfl, rfl⟩) fun _ => ev_chain (by walk_at "ev") (by walk_at "ev") (by walk_at "ev")) fun v Hd' H' x h => q v _ Hd' H' (by rfl) x h
theorem modes_in (T : Txt K mg C) {ρ : En} {ta : TE} {m : Mode} (h : Ev K C ta ρ (.d (.str m.str))) : Ev K C (tOp (rIn K false) ta (tC (.ref C.modes))) ρ (.d (.bool true)) := fun Hd H σ x r Q q =>
  h Hd H σ x r _ fun v Hd1 H1 x1 h1 => by
    cases dp_str_inv h1
    refine ⟨C.modes, _, rfl, .inr (ex_t (fun _ _ e => by cases e) T.modes), rfl, by decide +kernel, ?_⟩
    have e : (if false = true then !inV (V.str m.str) [.str "plain", .str "push", .str "more"] else inV (V.str m.str) [.str "plain", .str "push", .str "more"]) = true := by cases m <;> decide +kernel
    rw [e]
    exact q _ Hd1 H1 x1 (Dp.bl true)
def FIsWrite : List AV → (AV → Prop) → Prop := fun as Pr => ∃ x : Wr, as = [.d (encW x)] ∧ x.ok ∧ Pr = fun a => a = .d (.bool true)
theorem ok_is_write {f : Addr} {fd : FuncData} (F : Fun K "is_write" "is_write" s_is_write f fd) (T : Txt K mg C) (d_in_range : Df P w K mg base "in_range" 2 ps_in_range (SpD K C FInRange)) : FnOk P w K mg base CX0 3 f fd ps_is_write (SpD K C FIsWrite) := by
  refine okD F sc_is_write (fun as Pr ⟨_, e, _⟩ => by subst e; rfl) fun cdv A outer s H vs E hr => ⟨_,
(pss_cons (ps_if (PW.pt (pw_or (pt_not (pt_val (pe_callB (callIsi K) rfl T.n_isinstance (by decide +kernel) (pa_cons (pv 0) (pa_cons (peTy "tuple" rfl T.n_tuple (by decide +kernel)) pa_nil))))) (pw_or1 (pt_cmpR op_ne (pe_callB (callLen K) rfl T.n_len (by decide +kernel) (pa_cons (pv 0) pa_nil)) pe_int (nomark _))))) (pss_one (ps_ret pe_bl)) pss_nil)
    (pss_cons (ps_asg (pv 0) (pgTup K rfl (pgs_cons (pg_name (i := 1) sc_is_write.nd rfl (Or.inl rfl)) (pgs_cons (pg_name (i := 2) sc_is_write.nd rfl (Or.inl rfl)) (pgs_cons (pg_name (i := 3) sc_is_write.nd rfl (Or.inl rfl)) pgs_nil)))))
    (pss_cons (ps_if (PW.pt (pw_or (pt_not (pt_val (pe_df d_in_range (hr.mono (by decide)) rfl (pa_cons (pv 1) (pa_cons pe_int (pa_cons pe_int pa_nil)))))) (pw_or1 (pt_not (pt_val (pe_df d_in_range (hr.mono (by decide)) rfl (pa_cons (pv 2) (pa_cons pe_int (pa_cons (peG rfl T.g_MOST_LENGTH) pa_nil))))))))) (pss_one (ps_ret pe_bl)) pss_nil)
    (pss_one (ps_ret (pe_and (pe_callB (callIsi K) rfl T.n_isinstance (by decide +kernel) (pa_cons (pv 3) (pa_cons (peTy "str" rfl T.n_str (by decide +kernel)) pa_nil))) (pe_one (pe_cmpR (opIn K) (pv 3) (peG rfl T.g_MODES) rfl)))))))), ?_⟩
  rintro Hd as Pr Q σ ⟨y, rfl, ok, rfl⟩ w q
  refine w.qwhen (b := false) (evt_or (a := false) (b := false) (evt_not (a := true) (evt_B (ev_isi (b := true) (by walk_at "ev") (by exact kt_tuple)))) fun _ => evt_is (evt_test (ev_neI (ev_lenT (evl_cons (by walk_at "ev") evl_nil)) (by walk_at "ev"))) (by rfl)) (fun z => nomatch z) fun _ Hd H x w => ?_
  refine w.qun (is := [1, 2, 3]) (ds := [_, _, _]) (by walk_at "ev") rfl rfl fun σ Hd H x w => ?_
  obtain ⟨o1, o2, o3⟩ := ok
  have hw : (decide ((0 : Int) ≤ y.who) && decide (y.who ≤ 1)) = true := by
    rw [decide_eq_true (by omega), decide_eq_true (by omega)]; rfl
  have hl : (decide ((1 : Int) ≤ y.len) && decide (y.len ≤ 1000000000000000000)) = true := by
    rw [decide_eq_true (by omega), decide_eq_true (by omega)]; rfl
  refine w.qwhen (b := false) (evt_or (a := false) (b := false) (evt_is (evt_not (evt_B (ev_callE (by walk_at "evl") (by rfl) ⟨_, _, _, rfl, rfl⟩))) (by rw [hw]; rfl)) fun _ => evt_is (evt_not (evt_B (ev_callE (by walk_at "evl") (by rfl) ⟨_, _, _, rfl, rfl⟩))) (by rw [hl]; rfl)) (fun z => nomatch z) fun _ Hd H x w => ?_
  exact w.ret (ev_andV (ev_isi (b := true) (by walk_at "ev") (by exact kt_str)) fun _ => modes_in T (by walk_at "ev")) fun v Hd' H' x h => q v _ Hd' H' (by rfl) x h
theorem encC_get {c : List Wr} {i : Nat} {d : PyData} (h : (c.map encW)[i]? = some d) : ∃ x, c[i]? = some x ∧ d = encW x := by
  rw [List.getElem?_map] at h
  cases e : c[i]? with
  | none => rw [e] at h; cases h
  | some x => rw [e] at h; cases h; exact ⟨x, rfl, rfl⟩
def ConvOk (c : List Wr) : Prop := (∀ x ∈ c, x.ok) ∧ c.length ≤ 200
def FCheck : List AV → (AV → Prop) → Prop := fun as Pr => ∃ c : List Wr, as = [.d (encC c)] ∧ ConvOk c ∧ Pr = fun a => a = .d .none
theorem ok_check {f : Addr} {fd : FuncData} (F : Fun K "check" "check" s_check f fd) (T : Txt K mg C) (d_is_write : Df P w K mg base "is_write" 3 ps_is_write (SpD K C FIsWrite)) : FnOk P w K mg base CX0 4 f fd ps_check (SpD K C FCheck) := by
  refine okD F sc_check (fun as Pr ⟨_, e, _⟩ => by subst e; rfl) fun cdv A outer s H vs E hr => ⟨_,
(pss_cons (ps_if (PW.pt (pw_or (pt_not (pt_val (pe_callB (callIsi K) rfl T.n_isinstance (by decide +kernel) (pa_cons (pv 0) (pa_cons (peTy "list" rfl T.n_list (by decide +kernel)) pa_nil))))) (pw_or1 (pt_cmpR op_gt (pe_callB (callLen K) rfl T.n_len (by decide +kernel) (pa_cons (pv 0) pa_nil)) (peG rfl T.g_MOST_WRITES) (nomark _))))) pss_never pss_nil)
    (pss_one (ps_for PassesOwn.never rfl (piEnum K rfl T.n_enumerate (pa_cons (pv 0) pa_nil)) (pgTup K rfl (pgs_cons (pg_name (i := 1) sc_check.nd rfl (Or.inl rfl)) (pgs_cons (pg_name (i := 2) sc_check.nd rfl (Or.inl rfl)) pgs_nil))) (pss_one (ps_if (pt_not (pt_val (pe_df d_is_write (hr.mono (by decide)) rfl (pa_cons (pv 2) pa_nil)))) pss_never pss_nil))))), ?_⟩
  rintro Hd as Pr Q σ ⟨c, rfl, ok, rfl⟩ w q
  have hl : decide ((200 : Int) < ((c.map encW).length : Nat)) = false := decide_eq_false (by rw [List.length_map]; have := ok.2; omega)
  refine w.qwhen (b := false) (evt_or (a := false) (b := false) (evt_not (a := true) (evt_B (ev_isi (b := true) (by walk_at "ev") (by exact kt_list)))) fun _ => evt_is (evt_test (ev_B0 (ev_lenL (evl_cons (by walk_at "ev") evl_nil)) (by walk_at "ev"))) hl) (fun z => nomatch z) fun _ Hd H x w => ?_
  refine w.forE (by walk_at "evl") (fun _ ρ' => ρ' = ls [.d (encC c), .unk, .unk]) _ (by walk_at "le") rfl (fun i d Hb Hd H σ ρ' hi hR e w => ?_) fun σ Hd H ρ' e w hR => ?_
  · subst hR
    obtain ⟨y, hy, rfl⟩ := encC_get hi
    refine w.if_ (b := false) (evt_not (a := true) (evt_B (ev_callE (by walk_at "evl") (by rfl) ⟨y, rfl, ok.1 y (List.mem_of_getElem? hy), rfl⟩))) (fun z => nomatch z) fun _ Hd H x w => ?_
    exact w.ls (e.trans x.d) (by walk_at "le") rfl
  · exact q _ _ Hd H rfl w.x Dp.non
end
end LW

set_option Elab.async false
set_option linter.all false
set_option maxRecDepth 100000
set_option maxHeartbeats 4000000
namespace LW
open PySem PySem.Spec PyProof.Rows L2 Evl
local macro_rules | `(tactic| walk_at "ev") => `(tactic| first
  | with_reducible exact ev_int | with_reducible exact ev_bl | with_reducible exact ev_str | with_reducible exact ev_non
  | ((with_reducible apply ev_var) <;> rfl)
  | ((with_reducible apply ev_ixT) <;> first | walk_at "ev" | rfl)
  | ((with_reducible apply ev_ixL) <;> first | walk_at "ev" | rfl)
  | ((with_reducible apply ev_ixM) <;> first | walk_at "ev" | rfl)
  | ((with_reducible apply ev_I0) <;> walk_at "ev")
  | ((with_reducible apply ev_B0) <;> walk_at "ev")
  | ((with_reducible apply ev_U) <;> walk_at "ev")
  | ((with_reducible apply ev_tup) <;> first | walk_at "evd" | exact Nat.le_of_ble_eq_true rfl)
  | ((with_reducible apply ev_lst) <;> first | walk_at "evd" | exact Nat.le_of_ble_eq_true rfl)
  | ((with_reducible apply ev_eqI) <;> walk_at "ev")
  | ((with_reducible apply ev_eqS) <;> walk_at "ev")
  | ((with_reducible apply ev_neI) <;> walk_at "ev")
  | ((with_reducible apply ev_neS) <;> walk_at "ev")
  | ((with_reducible apply ev_notV) <;> walk_at "ev")
  | ((with_reducible apply ev_andV) <;> first | walk_at "ev" | (intro _; walk_at "ev"))
  | ((with_reducible apply ev_orV) <;> first | walk_at "ev" | (intro _; walk_at "ev"))
  | ((with_reducible apply ev_min) <;> walk_at "evl")
  | ((with_reducible apply ev_max) <;> walk_at "evl")
  | ((with_reducible apply ev_slT) <;> first | walk_at "ev" | walk_at "evo" | walk_at "cut")
  | ((with_reducible apply ev_slL) <;> first | walk_at "ev" | walk_at "evo")
  | ((with_reducible apply ev_catT) <;> first | walk_at "ev" | exact Nat.le_of_ble_eq_true rfl | (intro z; cases z))
  | ((with_reducible apply ev_abs) <;> walk_at "evl")
  | ((with_reducible apply ev_intI) <;> walk_at "evl")
  | ((with_reducible apply ev_intB) <;> walk_at "evl")
  | ((with_reducible apply ev_lenL) <;> walk_at "evl"))
local macro_rules | `(tactic| walk_at "evd") => `(tactic| first | with_reducible exact evd_nil | ((with_reducible apply evd_cons) <;> first | walk_at "ev" | walk_at "evd"))
local macro_rules | `(tactic| walk_at "evl") => `(tactic| first | with_reducible exact evl_nil | ((with_reducible apply evl_cons) <;> first | walk_at "ev" | walk_at "evl"))
local macro_rules | `(tactic| walk_at "evo") => `(tactic| first | with_reducible exact evo_none | ((with_reducible apply evo_some) <;> walk_at "ev"))
local macro_rules | `(tactic| walk_at "evt") => `(tactic| first
  | ((with_reducible apply evt_test) <;> walk_at "ev")
  | ((with_reducible apply evt_B) <;> walk_at "ev")
  | ((with_reducible apply evt_not) <;> walk_at "evt")
  | ((with_reducible apply evt_and) <;> first | walk_at "evt" | (intro _; walk_at "evt"))
  | ((with_reducible apply evt_or) <;> first | walk_at "evt" | (intro _; walk_at "evt")))
local macro_rules | `(tactic| walk_at "cut") => `(tactic| (intro z; simp [HT.sIx] at z))
local macro_rules | `(tactic| walk_at "le") => `(tactic| (refine ⟨rfl, ?_⟩; repeat (first | exact trivial | refine ⟨?_, ?_⟩ | exact Or.inr (Or.inl rfl) | exact Or.inl rfl | exact Or.inr (Or.inr rfl))))
local macro_rules | `(tactic| walk_at "ap") => `(tactic| repeat (first | exact trivial | refine ⟨?_, ?_⟩ | exact Or.inl rfl | exact Or.inr (ne_cell rfl) | exact Or.inr (ne_cell2 rfl (by assumption)) | exact Or.inr (ne_cell2 (by assumption) (by assumption)) | exact Or.inr (by assumption)))
section
variable {P : Program} {w : World} {K : PySem.W.Frag} {mg : Str → Option Value} {base : Heap} {C : Cl P w}
theorem encT_lay (t : Tn) : (encT t).canLay0 = true ∧ (encT t).depth ≤ 60 := by
  unfold encT
  constructor
  · simp [PyData.canLay0, PyData.canLayAll0]
  · simp [PyData.depth, PyData.depthAll]
theorem encTs_lay (l : List Tn) : SeqAt.shaped (.list (l.map encT)) = true := shaped_list fun d hd => by
  obtain ⟨t, _, rfl⟩ := List.mem_map.mp hd
  exact encT_lay t
theorem splitN_len (c : List Wr) : ∀ n, (splitN c n).length ≤ n
  | 0 => Nat.le_refl _
  | n + 1 => by
    have ih := splitN_len c n
    unfold splitN
    split
    · unfold splitStep
      split
      · simp; omega
      · rename_i t ht
        split
        · have : (splitN c n) ≠ [] := fun z => by rw [z] at ht; cases ht
          have := List.length_pos_iff.mpr this
          simp; omega
        · simp; omega
    · omega
def FSplit : List AV → (AV → Prop) → Prop := fun as Pr => ∃ c : List Wr, as = [.d (encC c)] ∧ c.length ≤ 1000 ∧ Pr = fun a => a = .d (.list ((splitTurns c).map encT))
theorem ok_split_turns {f : Addr} {fd : FuncData} (F : Fun K "split_turns" "split_turns" s_split_turns f fd) (T : Txt K mg C) : FnOk P w K mg base CX0 1 f fd ps_split_turns (SpD K C FSplit) := by
  refine okD F sc_split_turns (fun as Pr ⟨_, e, _⟩ => by subst e; rfl) fun cdv A outer s H vs E hr => ⟨_,
(pss_cons (ps_set (i := 1) sc_split_turns.nd rfl (Or.inl rfl) (pe_lst pa_nil))
    (pss_cons (ps_for PassesOwn.never rfl (piEnum K rfl T.n_enumerate (pa_cons (pv 0) pa_nil)) (pgTup K rfl (pgs_cons (pg_name (i := 2) sc_split_turns.nd rfl (Or.inl rfl)) (pgs_cons (pg_name (i := 3) sc_split_turns.nd rfl (Or.inl rfl)) pgs_nil))) (pss_one (ps_if (PW.pt (pw_or (pt_cmpR (opEqD K hr.units) (pv 1) (pe_lst pa_nil) (nomark _)) (pw_or1 (pt_cmpR op_ne (pe_ix (ixT K) (pe_ix (ixL K) (pv 1) (pe_un un_neg pe_int) (fun _ _ => rfl)) pe_int (fun _ _ => rfl)) (pe_ix (ixT K) (pv 3) pe_int (fun _ _ => rfl)) (nomark _))))) (pss_one (ps_expr (peBm K PySem.F.plainAttrs_list PySem.F.slot_list_append PySem.F.type_list_append mt_append (pv 1) (pa_cons (pe_tup (pa_cons (pe_ix (ixT K) (pv 3) pe_int (fun _ _ => rfl)) (pa_cons (pv 2) (pa_cons (pe_op op_add (pv 2) pe_int) pa_nil)))) pa_nil)))) (pss_one (ps_asg (pe_tup (pa_cons (pe_ix (ixT K) (pv 3) pe_int (fun _ _ => rfl)) (pa_cons (pe_ix (ixT K) (pe_ix (ixL K) (pv 1) (pe_un un_neg pe_int) (fun _ _ => rfl)) pe_int (fun _ _ => rfl)) (pa_cons (pe_op op_add (pv 2) pe_int) pa_nil)))) (pg_sub (pv 1) (pe_un un_neg pe_int) set_list))))))
    (pss_one (ps_ret (pv 1))))), ?_⟩
  rintro Hd as Pr Q σ ⟨c, rfl, hc, rfl⟩ w q
  refine w.qnewL fun m σ H1 hm h0 x w => ?_
  refine w.qforE (by walk_at "evl") (fun i ρ' => ρ' = ls [.d (encC c), .ml m ((splitN c i).map encT), .unk, .unk]) _ (by walk_at "le") rfl (fun i d Hb Hd H σ ρ' hi hR e w => ?_) fun σ Hd H ρ' e w hR => ?_
  · subst hR
    obtain ⟨y, hy, rfl⟩ := encC_get hi
    have hs : splitN c (i + 1) = splitStep (splitN c i) i y.who := by
      show (match c[i]? with | some x => splitStep (splitN c i) i x.who | none => splitN c i) = _
      rw [hy]
    have hlen := splitN_len c i
    have hi' := (List.getElem?_eq_some_iff.mp hy).1
    cases hL : (splitN c i).getLast? with
    | none =>
      have e0 : splitN c i = [] := List.getLast?_eq_none_iff.mp hL
      refine w.if_ (b := true) (evt_is (evt_or (b := true) (evt_test (ev_eqM (by walk_at "ev") (by walk_at "ev") (encTs_lay _) shaped_nil)) fun z => ?_) (by rw [e0]; rfl)) (fun _ Hd H x w => ?_) (fun z => nomatch z)
      · rw [e0, eqv_list_nil] at z; cases z
      · refine w.app rfl rfl h0 (by walk_at "ap") (by walk_at "ev") (by rw [List.length_map]; omega) fun Hd H x2 w => w.ls ((e.trans x.d).trans x2.d) (ρ' := ls [.d (encC c), .ml m ((splitN c (i + 1)).map encT), .unk, .unk]) ?_ rfl
        rw [hs, splitStep, hL, List.map_append]
        walk_at "le"
    | some t =>
      have e0 : splitN c i = (splitN c i).dropLast ++ [t] := by
        have hne : splitN c i ≠ [] := fun z => by rw [z] at hL; cases hL
        have := (List.dropLast_concat_getLast hne).symm
        rw [List.getLast?_eq_some_getLast hne] at hL
        cases hL
        exact this
      generalize hL' : (splitN c i).dropLast = L' at e0
      have w : Wx K C _ _ Hd H σ (((ls [.d (encC c), .ml m (L'.map encT ++ [encT t]), .unk, .unk]).set 2 (.d (.int i))).set 3 (.d (encW y))) := w.cast (by rw [e0, List.map_append]; rfl)
      have hlen2 : L'.length < 1000 := by
        have := congrArg List.length e0
        rw [List.length_append] at this
        simp at this; omega
      have hsh : SeqAt.shaped (.list (L'.map encT ++ [encT t])) = true := by
        have := encTs_lay (L' ++ [t])
        rwa [List.map_append] at this
      refine w.if_ (b := !decide (t.who = y.who)) (evt_is (evt_or (a := false) (evt_is (evt_test (ev_eqM (by walk_at "ev") (by walk_at "ev") hsh shaped_nil)) (by rw [eqv_list_nil]; cases L' <;> rfl)) fun _ => evt_test (ev_neI (ev_ixT (ev_ixM (by walk_at "ev") (by walk_at "ev") (atI_last _ _)) (by walk_at "ev") (by rfl)) (by walk_at "ev"))) (by rfl)) (fun z Hd H x w => ?_) (fun z Hd H x w => ?_)
      · have hn : ¬ t.who = y.who := by simpa using z
        refine w.app rfl rfl h0 (by walk_at "ap") (by walk_at "ev") (by rw [List.length_append, List.length_map]; simp; omega) fun Hd H x2 w => w.ls ((e.trans x.d).trans x2.d) (ρ' := ls [.d (encC c), .ml m ((splitN c (i + 1)).map encT), .unk, .unk]) ?_ rfl
        rw [hs, splitStep, hL]
        simp only [if_neg hn, e0, List.map_append]
        walk_at "le"
      · have hn : t.who = y.who := by simpa using z
        refine w.setL rfl rfl h0 (by walk_at "ap") (j := L'.length) (ev_tup (evd_cons (by walk_at "ev") (evd_cons (ev_ixT (ev_ixM (by walk_at "ev") (by walk_at "ev") (atI_last _ _)) (by walk_at "ev") (by rfl)) (evd_cons (by walk_at "ev") evd_nil))) (Nat.le_of_ble_eq_true rfl)) (by walk_at "ev") ?_ fun Hd H x2 w => w.ls ((e.trans x.d).trans x2.d) (ρ' := ls [.d (encC c), .ml m ((splitN c (i + 1)).map encT), .unk, .unk]) ?_ rfl
        · unfold ixN
          rw [List.length_append, List.length_map]
          simp
          omega
        · rw [hs, splitStep, hL]
          simp only [if_pos hn, hL', List.map_append]
          have e3 : ∀ d, (L'.map encT ++ [encT t]).set L'.length d = L'.map encT ++ [d] := fun d => by
            rw [List.set_append_right _ _ (by simp)]
            simp
          rw [e3, ← hn]
          walk_at "le"
  · subst hR
    refine w.retM rfl rfl h0 fun Hd' x h => q _ (.d (.list ((splitN c (c.map encW).length).map encT))) Hd' H ?_ x h
    rw [List.length_map]; rfl

def encCP (x : Int × Parts) : PyData := .tuple [.int x.1, encP x.2]
theorem encP_shaped (p : Parts) : SeqAt.shaped (encP p) = true := shaped_tup fun d hd => by
  simp at hd
  rcases hd with rfl | rfl | rfl | rfl | rfl | rfl <;> exact ⟨by simp [PyData.canLay0], by simp [PyData.depth]⟩
theorem encP_eqv (p q : Parts) : PyData.eqv (encP p) (encP q) = decide (p = q) := by
  obtain ⟨a, b, c, d, e, f⟩ := p
  obtain ⟨a', b', c', d', e', f'⟩ := q
  simp only [encP, PyData.eqv, PyData.eqvAll, Bool.and_true]
  by_cases h : (Parts.mk a b c d e f) = Parts.mk a' b' c' d' e' f'
  · rw [decide_eq_true h]
    cases h
    simp
  · rw [decide_eq_false h]
    cases hh : (a == a' && (b == b' && (c == c' && (d == d' && (e == e' && f == f'))))) with
    | false => rfl
    | true =>
      simp at hh
      obtain ⟨rfl, rfl, rfl, rfl, rfl, rfl⟩ := hh
      exact absurd rfl h
def FClearings : List AV → (AV → Prop) → Prop := fun as Pr => ∃ (r : Rules) (p : Parts), as = [.d (encR r), .d (encP p)] ∧ Pr = fun a => a = .d (.list ((clearingsOf r p).map encCP))
/-- what is found after i rounds -/
def clN (r : Rules) (p : Parts) : Nat → List (Int × Parts) × (Int × Parts)
  | 0 => ([], (0, p))
  | i + 1 => ((clN r p i).1 ++ [(clN r p i).2], ((i : Int) + 1, (afterClearing r (clN r p i).2.2).1))
def clGo (r : Rules) (p : Parts) : Nat → Prop
  | 0 => True
  | i + 1 => clGo r p i ∧ (afterClearing r (clN r p i).2.2).1 ≠ (clN r p i).2.2
theorem clN_len (r : Rules) (p : Parts) : ∀ i, (clN r p i).1.length = i
  | 0 => rfl
  | i + 1 => by show ((clN r p i).1 ++ [_]).length = _; rw [List.length_append, clN_len r p i]; rfl
theorem cl_stop (r : Rules) (p : Parts) : ∀ i, i < 2 → clGo r p i → (afterClearing r (clN r p i).2.2).1 = (clN r p i).2.2 → (clN r p i).1 ++ [(clN r p i).2] = clearingsOf r p
  | 0, _, _, hz => by
    have hz : (afterClearing r p).1 = p := hz
    show [(0, p)] = clearingsOf r p
    simp only [clearingsOf, if_pos hz]
  | 1, _, hg, hz => by
    have hg : (afterClearing r p).1 ≠ p := hg.2
    have hz : (afterClearing r (afterClearing r p).1).1 = (afterClearing r p).1 := hz
    show [(0, p), (1, (afterClearing r p).1)] = clearingsOf r p
    simp only [clearingsOf, if_neg hg, if_pos hz]
theorem cl_end (r : Rules) (p : Parts) (hg : clGo r p 2) : (clN r p 2).1 ++ [(clN r p 2).2] = clearingsOf r p := by
  have h1 : (afterClearing r p).1 ≠ p := hg.1.2
  have h2 : (afterClearing r (afterClearing r p).1).1 ≠ (afterClearing r p).1 := hg.2
  show [(0, p), (1, (afterClearing r p).1), (2, (afterClearing r (afterClearing r p).1).1)] = clearingsOf r p
  simp only [clearingsOf, if_neg h1, if_neg h2]
theorem ok_clearings_of {f : Addr} {fd : FuncData} (F : Fun K "clearings_of" "clearings_of" s_clearings_of f fd) (T : Txt K mg C) (d_after_clearing : Df P w K mg base "after_clearing" 2 ps_after_clearing (SpD K C FAfterClearing)) :
    FnOk P w K mg base CX0 3 f fd ps_clearings_of (SpD K C FClearings) := by
  refine okD F sc_clearings_of (fun as Pr ⟨_, _, e, _⟩ => by subst e; rfl) fun cdv A outer s Hz vs E hr => ⟨_,
(pss_cons (ps_set (i := 2) sc_clearings_of.nd rfl (Or.inl rfl) (pe_lst (pa_cons (pe_tup (pa_cons pe_int (pa_cons (pv 1) pa_nil))) pa_nil)))
    (pss_cons (ps_for PassesOwn.never rfl (pi_range2 rfl T.n_range (pa_cons pe_int (pa_cons pe_int pa_nil))) (pg_name (i := 3) sc_clearings_of.nd rfl (Or.inl rfl)) (pss_cons (ps_set (i := 4) sc_clearings_of.nd rfl (Or.inl rfl) (pe_ix (ixT K) (pe_df d_after_clearing (hr.mono (by decide)) rfl (pa_cons (pv 0) (pa_cons (pe_ix (ixT K) (pe_ix (ixL K) (pv 2) (pe_un un_neg pe_int) (fun _ _ => rfl)) pe_int (fun _ _ => rfl)) pa_nil))) pe_int (fun _ _ => rfl)))
    (pss_cons (ps_if (pt_cmpR (opEqD K hr.units) (pv 4) (pe_ix (ixT K) (pe_ix (ixL K) (pv 2) (pe_un un_neg pe_int) (fun _ _ => rfl)) pe_int (fun _ _ => rfl)) (nomark _)) (pss_one ps_break) pss_nil)
    (pss_one (ps_expr (peBm K PySem.F.plainAttrs_list PySem.F.slot_list_append PySem.F.type_list_append mt_append (pv 2) (pa_cons (pe_tup (pa_cons (pv 3) (pa_cons (pv 4) pa_nil))) pa_nil)))))))
    (pss_one (ps_ret (pv 2))))), ?_⟩
  rintro Hdz as Pr Q σ ⟨r, p, rfl, rfl⟩ w q
  refine w.qnewLM (by walk_at "evd") (Nat.le_of_ble_eq_true rfl) fun m σ Hd1 H1 hm h0 x w => ?_
  have fin : ∀ (L : List (Int × Parts)) σ Hd H (ρ : En), L = clearingsOf r p → Nat.blt 2 ρ.n = true → ρ.f 2 = some (.ml m (L.map encCP)) → Wx K C Hdz Hz Hd H σ ρ → tRet (tVar 2) { nx := fun _ H' => Q .non H', rt := Q } σ H := by
    intro L σ Hd H ρ hL hb he w
    exact w.retM hb he h0 fun Hd' x h => q _ (.d (.list (L.map encCP))) Hd' H (by rw [hL]) x h
  refine w.qforR2 (by walk_at "evl") (by decide) (fun i ρ' => clGo r p i ∧ ρ' = ls [.d (encR r), .d (encP p), .ml m ((clN r p i).1.map encCP ++ [encCP (clN r p i).2]), .unk, .unk]) _ (by walk_at "le") ⟨trivial, rfl⟩ (fun i Hb Hd H σ ρ' hi hR e w => ?_) fun σ Hd H ρ' e w hR => ?_
  · obtain ⟨hg, rfl⟩ := hR
    have hi2 : i < 2 := by omega
    refine w.qasg (a := .d (encP (afterClearing r (clN r p i).2.2).1)) (ev_ixT (ev_callE (evl_cons (by walk_at "ev") (evl_cons (ev_ixT (ev_ixM (by walk_at "ev") (by walk_at "ev") (atI_last _ _)) (by walk_at "ev") (by rfl)) evl_nil)) (by rfl) ⟨r, (clN r p i).2.2, rfl, rfl⟩) (by walk_at "ev") (by rfl)) fun σ Hd H x w => ?_
    refine w.qwhen (b := decide ((afterClearing r (clN r p i).2.2).1 = (clN r p i).2.2)) (evt_is (evt_test (ev_eqD (d := encP (afterClearing r (clN r p i).2.2).1) (e := encP (clN r p i).2.2) (by walk_at "ev") (ev_ixT (ev_ixM (by walk_at "ev") (by walk_at "ev") (atI_last _ _)) (by walk_at "ev") (by rfl)) (encP_shaped _) (encP_shaped _))) (encP_eqv _ _)) (fun z Hd H x2 w => ?_) (fun z Hd H x2 w => ?_)
    · have hz := of_decide_eq_true z
      exact fin ((clN r p i).1 ++ [(clN r p i).2]) σ Hd H _ (cl_stop r p i hi2 hg hz) rfl (by rw [List.map_append]; rfl) w
    · have hz := of_decide_eq_false z
      refine w.app rfl rfl h0 (by walk_at "ap") (by walk_at "ev") (by rw [List.length_append, List.length_map, clN_len]; simp; omega) fun Hd H x3 w => w.ls (((e.trans x.d).trans x2.d).trans x3.d) (ρ' := ls [.d (encR r), .d (encP p), .ml m ((clN r p (i + 1)).1.map encCP ++ [encCP (clN r p (i + 1)).2]), .unk, .unk]) ?_ ⟨⟨hg, hz⟩, rfl⟩
      have e1 : (1 : Int) + (i : Int) = (i : Int) + 1 := by omega
      rw [e1]
      show En.le (ls [_, _, .ml m (((clN r p i).1 ++ [(clN r p i).2]).map encCP ++ [encCP ((i : Int) + 1, (afterClearing r (clN r p i).2.2).1)]), _, _]) _
      rw [List.map_append]
      walk_at "le"
  · obtain ⟨hg, rfl⟩ := hR
    exact fin ((clN r p 2).1 ++ [(clN r p 2).2]) σ Hd H _ (cl_end r p hg) rfl (by rw [List.map_append]; rfl) w

def FNormalOrder : List AV → (AV → Prop) → Prop := fun as Pr => ∃ (c : List Wr) (o : List Int), as = [.d (encC c), .d (encI o)] ∧ ConvOk c ∧ OrderOk c o ∧ Pr = fun a => a = .d (encI o)
theorem splitTurns_len (c : List Wr) : (splitTurns c).length ≤ c.length := splitN_len c c.length
theorem ok_normal_order {f : Addr} {fd : FuncData} (F : Fun K "normal_order" "normal_order" s_normal_order f fd) (T : Txt K mg C) (d_check : Df P w K mg base "check" 4 ps_check (SpD K C FCheck))
    (d_split_turns : Df P w K mg base "split_turns" 1 ps_split_turns (SpD K C FSplit)) (d_in_range : Df P w K mg base "in_range" 2 ps_in_range (SpD K C FInRange)) :
    FnOk P w K mg base CX0 5 f fd ps_normal_order (SpD K C FNormalOrder) := by
  refine okD F sc_normal_order (fun as Pr ⟨_, _, e, _⟩ => by subst e; rfl) fun cdv A outer s H vs E hr => ⟨_,
(pss_cons (ps_expr (pe_df d_check (hr.mono (by decide)) rfl (pa_cons (pv 0) pa_nil)))
    (pss_cons (ps_set (i := 2) sc_normal_order.nd rfl (Or.inr rfl) (pe_lc (own := [("endpoint", 6), ("start", 7), ("stop", 8)]) (g := (gTup K 3 (gCons (gName 6) (gCons (gName 7) (gCons (gName 8) gNil))))) rfl sc_normal_order.nd (piList K (pe_df d_split_turns (hr.mono (by decide)) rfl (pa_cons (pv 0) pa_nil))) (blkOk_by (own := [("endpoint", 6), ("start", 7), ("stop", 8)]) (N := nm_normal_order) (sc := defScope s_normal_order) (by decide +kernel)) (fun _ _ _ _ _ => (pgTup K rfl (pgs_cons (pg_name (i := 6) sc_normal_order.nd rfl (Or.inl rfl)) (pgs_cons (pg_name (i := 7) sc_normal_order.nd rfl (Or.inl rfl)) (pgs_cons (pg_name (i := 8) sc_normal_order.nd rfl (Or.inl rfl)) pgs_nil))))) (fun _ _ _ _ _ => pts_nil) (fun _ _ _ _ _ => (pv 7))))
    (pss_cons (ps_setLc (i := 3) (own := [("index", 4)]) (g := (gName 4)) rfl sc_normal_order.nd rfl rfl (sw_true rfl rfl rfl (by decide +kernel)) (pi_range1 rfl T.n_range (pa_cons (pe_callB (callLen K) rfl T.n_len (by decide +kernel) (pa_cons (pv 0) pa_nil)) pa_nil)) (blkOk_by (own := [("index", 4)]) (N := nm_normal_order) (sc := defScope s_normal_order) (by decide +kernel)) (fun _ _ _ _ _ => (pg_name (i := 4) sc_normal_order.nd rfl (Or.inl rfl))) (fun _ _ _ _ _ => pts_nil) (fun _ _ _ _ _ => (pe_ifExp (pt_cmpR (opIn K) (pv 4) (pv 2) rfl) pe_int pe_int)))
    (pss_cons (ps_if (PW.pt (pw_and (pt_val (pe_callB (callIsi K) rfl T.n_isinstance (by decide +kernel) (pa_cons (pv 1) (pa_cons (peTy "str" rfl T.n_str (by decide +kernel)) pa_nil)))) (pw_and1 (pt_cmpR (opIn K) (pv 1) (pe_tup (pa_cons pe_str (pa_cons pe_str pa_nil))) rfl)))) pss_never pss_nil)
    (pss_cons (ps_if (PW.pt (pw_or (pt_not (pt_val (pe_callB (callIsi K) rfl T.n_isinstance (by decide +kernel) (pa_cons (pv 1) (pa_cons (peTy "list" rfl T.n_list (by decide +kernel)) pa_nil))))) (pw_or1 (pt_cmpR op_ne (pe_callB (callLen K) rfl T.n_len (by decide +kernel) (pa_cons (pv 1) pa_nil)) (pe_callB (callLen K) rfl T.n_len (by decide +kernel) (pa_cons (pv 0) pa_nil)) (nomark _))))) pss_never pss_nil)
    (pss_cons (ps_for PassesOwn.never rfl (piEnum K rfl T.n_enumerate (pa_cons (pv 1) pa_nil)) (pgTup K rfl (pgs_cons (pg_name (i := 4) sc_normal_order.nd rfl (Or.inl rfl)) (pgs_cons (pg_name (i := 5) sc_normal_order.nd rfl (Or.inl rfl)) pgs_nil))) (pss_one (ps_if (pt_not (pt_val (pe_df d_in_range (hr.mono (by decide)) rfl (pa_cons (pv 5) (pa_cons pe_int (pa_cons (pe_ix (ixL K) (pv 3) (pv 4) (fun _ _ => rfl)) pa_nil)))))) pss_never pss_nil)))
    (pss_one (ps_ret (pe_callTy (callList K) rfl T.n_list (by decide +kernel) (pa_cons (pv 1) pa_nil)))))))))), ?_⟩
  rintro Hd as Pr Q σ ⟨c, o, rfl, hc, ho, rfl⟩ w q
  have hlen := hc.2
  have hst := splitTurns_len c
  refine w.qdrop (ev_callE (by walk_at "evl") (by rfl) ⟨c, rfl, hc, rfl⟩) fun Hd H x w => ?_
  refine w.qasg (a := .d (encI ((splitTurns c).map Tn.a))) (ev_is (ev_lcLT (is := [6, 7, 8]) (fun _ => true) (fun i => PyData.int (((splitTurns c).map Tn.a).getD i 0)) tupOf (ev_callE (by walk_at "evl") (by rfl) ⟨c, rfl, by omega, rfl⟩) (by rw [List.length_map]; omega) (by decide) rfl (fun d hd => ?_) (fun i d hi => ?_) (fun i d hi _ => ?_)) ?_) fun σ Hd H x w => ?_
  · obtain ⟨t, _, rfl⟩ := List.mem_map.mp hd
    exact ⟨rfl, rfl⟩
  · exact fun Hd H σ x r Q q => q Hd H (Xt.refl x)
  · rw [List.getElem?_map] at hi
    cases ht : (splitTurns c)[i]? with
    | none => rw [ht] at hi; cases hi
    | some t =>
      rw [ht] at hi; cases hi
      have e : ((splitTurns c).map Tn.a).getD i 0 = t.a := by
        rw [List.getD_eq_getElem?_getD, List.getElem?_map, ht]; rfl
      rw [e]
      walk_at "ev"
  · unfold encI
    have := givenD_map ((splitTurns c).map Tn.a) PyData.int 0
    rw [List.length_map] at this
    rw [List.length_map]
    exact congrArg (fun z => AV.d (.list z)) this
  refine w.qasg (a := .d (encI (limitsOf c))) (ev_is (ev_lcR (n := (c.map encW).length) (fun _ => true) (fun i => PyData.int (if (i : Int) ∈ (splitTurns c).map Tn.a then 0 else 2)) (evl_cons (ev_lenL (by walk_at "evl")) evl_nil) (by rw [List.length_map]; omega) (by decide) (fun i hi => fun Hd H σ x r Q q => q Hd H (Xt.refl x)) (fun i hi _ => ev_ifI (evt_test (ev_inI (by walk_at "ev") (by walk_at "ev"))) (fun _ => by walk_at "ev") (fun _ => by walk_at "ev"))) ?_) fun σ Hd H x w => ?_
  · unfold encI limitsOf givenD
    rw [List.filter_eq_self.mpr (fun _ _ => rfl), List.length_map, List.map_map]
    rfl
  refine w.qwhen (b := false) (evt_and (a := false) (b := false) (evt_B (ev_isi (b := false) (by walk_at "ev") (by exact kt_list_str))) fun z => nomatch z) (fun z => nomatch z) fun _ Hd H x w => ?_
  refine w.qwhen (b := false) (evt_or (a := false) (b := false) (evt_not (a := true) (evt_B (ev_isi (b := true) (by walk_at "ev") (by exact kt_list)))) fun _ => evt_is (evt_test (ev_neI (ev_lenL (by walk_at "evl")) (ev_lenL (by walk_at "evl")))) (by rw [List.length_map, List.length_map, ho.1]; simp)) (fun z => nomatch z) fun _ Hd H x w => ?_
  refine w.qforE (by walk_at "evl") (fun _ ρ' => ρ' = ls [.d (encC c), .d (encI o), .unk, .d (encI (limitsOf c)), .unk, .unk, .unk, .unk, .unk, .unk]) _ (by walk_at "le") rfl (fun i d Hb Hd H σ ρ' hi hR e w => ?_) fun σ Hd H ρ' e w hR => ?_
  · subst hR
    have hll : (limitsOf c).length = c.length := by unfold limitsOf; rw [List.length_map, List.length_range]
    rw [List.getElem?_map] at hi
    cases hx : o[i]? with
    | none => rw [hx] at hi; cases hi
    | some z =>
      rw [hx] at hi; cases hi
      have hio := (List.getElem?_eq_some_iff.mp hx).1
      obtain ⟨mx, hm⟩ : ∃ mx, (limitsOf c)[i]? = some mx := ⟨(limitsOf c)[i]'(by have := ho.1; omega), List.getElem?_eq_getElem (by have := ho.1; omega)⟩
      have hz := ho.2 i z mx hx hm
      refine w.if_ (b := false) (evt_is (evt_not (evt_B (ev_callE (evl_cons (by walk_at "ev") (evl_cons (by walk_at "ev") (evl_cons (ev_ixL (d := .int mx) (by walk_at "ev") (by walk_at "ev") (atI_nat (by rw [List.getElem?_map, hm]; rfl))) evl_nil))) (by rfl) ⟨_, _, _, rfl, rfl⟩))) (by rw [decide_eq_true hz.1, decide_eq_true hz.2]; rfl)) (fun z => nomatch z) fun _ Hd H x w => ?_
      exact w.ls (e.trans x.d) (by walk_at "le") rfl
  · subst hR
    exact w.ret (ev_listL (by walk_at "evl")) fun v Hd' H' x h => q v _ Hd' H' (by rfl) x h
end
end LW

set_option Elab.async false
set_option linter.all false
set_option maxRecDepth 100000
set_option maxHeartbeats 4000000
namespace LW
open PySem PySem.Spec PyProof.Rows L2 Evl
local macro_rules | `(tactic| walk_at "ev") => `(tactic| first
  | with_reducible exact ev_int | with_reducible exact ev_bl | with_reducible exact ev_str | with_reducible exact ev_non
  | ((with_reducible apply ev_var) <;> rfl)
  | ((with_reducible apply ev_ixT) <;> first | walk_at "ev" | rfl)
  | ((with_reducible apply ev_ixL) <;> first | walk_at "ev" | rfl)
  | ((with_reducible apply ev_ixM) <;> first | walk_at "ev" | rfl)
  | ((with_reducible apply ev_I0) <;> walk_at "ev")
  | ((with_reducible apply ev_B0) <;> walk_at "ev")
  | ((with_reducible apply ev_U) <;> walk_at "ev")
  | ((with_reducible apply ev_tup) <;> first | walk_at "evd" | exact Nat.le_of_ble_eq_true rfl)
  | ((with_reducible apply ev_lst) <;> first | walk_at "evd" | exact Nat.le_of_ble_eq_true rfl)
  | ((with_reducible apply ev_eqI) <;> walk_at "ev")
  | ((with_reducible apply ev_eqS) <;> walk_at "ev")
  | ((with_reducible apply ev_neI) <;> walk_at "ev")
  | ((with_reducible apply ev_neS) <;> walk_at "ev")
  | ((with_reducible apply ev_notV) <;> walk_at "ev")
  | ((with_reducible apply ev_andV) <;> first | walk_at "ev" | (intro _; walk_at "ev"))
  | ((with_reducible apply ev_orV) <;> first | walk_at "ev" | (intro _; walk_at "ev"))
  | ((with_reducible apply ev_min) <;> walk_at "evl")
  | ((with_reducible apply ev_max) <;> walk_at "evl")
  | ((with_reducible apply ev_slT) <;> first | walk_at "ev" | walk_at "evo" | walk_at "cut")
  | ((with_reducible apply ev_slL) <;> first | walk_at "ev" | walk_at "evo")
  | ((with_reducible apply ev_catT) <;> first | walk_at "ev" | exact Nat.le_of_ble_eq_true rfl | (intro z; cases z))
  | ((with_reducible apply ev_abs) <;> walk_at "evl")
  | ((with_reducible apply ev_intI) <;> walk_at "evl")
  | ((with_reducible apply ev_intB) <;> walk_at "evl")
  | ((with_reducible apply ev_lenL) <;> walk_at "evl"))
local macro_rules | `(tactic| walk_at "evd") => `(tactic| first | with_reducible exact evd_nil | ((with_reducible apply evd_cons) <;> first | walk_at "ev" | walk_at "evd"))
local macro_rules | `(tactic| walk_at "evl") => `(tactic| first | with_reducible exact evl_nil | ((with_reducible apply evl_cons) <;> first | walk_at "ev" | walk_at "evl"))
local macro_rules | `(tactic| walk_at "evo") => `(tactic| first | with_reducible exact evo_none | ((with_reducible apply evo_some) <;> walk_at "ev"))
local macro_rules | `(tactic| walk_at "evt") => `(tactic| first
  | ((with_reducible apply evt_test) <;> walk_at "ev")
  | ((with_reducible apply evt_B) <;> walk_at "ev")
  | ((with_reducible apply evt_not) <;> walk_at "evt")
  | ((with_reducible apply evt_and) <;> first | walk_at "evt" | (intro _; walk_at "evt"))
  | ((with_reducible apply evt_or) <;> first | walk_at "evt" | (intro _; walk_at "evt")))
local macro_rules | `(tactic| walk_at "cut") => `(tactic| (intro z; simp [HT.sIx] at z))
local macro_rules | `(tactic| walk_at "le") => `(tactic| (refine ⟨rfl, ?_⟩; repeat (first | exact trivial | refine ⟨?_, ?_⟩ | exact Or.inr (Or.inl rfl) | exact Or.inl rfl | exact Or.inr (Or.inr rfl))))
local macro_rules | `(tactic| walk_at "ap") => `(tactic| repeat (first | exact trivial | refine ⟨?_, ?_⟩ | exact Or.inl rfl | exact Or.inr (ne_cell rfl) | exact Or.inr (ne_cell2 rfl (by assumption)) | exact Or.inr (ne_cell2 (by assumption) (by assumption)) | exact Or.inr (by assumption)))
section
variable {P : Program} {w : World} {K : PySem.W.Frag} {mg : Str → Option Value} {base : Heap} {C : Cl P w}
def SetD.polN (s : SetD) (i : Nat) : PolD := if i = 0 then s.p0 else s.p1
/-- [.. for p in s.policies] -/
theorem ev_lcPol (T : Txt K mg C) {ρ : En} {ta te : TE} {vs : List Nat} {j : Nat} {s : SetD} (h : Ev K C ta ρ (.set s)) (hj : j ∈ vs) (v : Nat → PyData) (he : ∀ i, i < 2 → Ev K C te ((wipeA ρ vs).set j (.pol (s.polN i))) (.d (v i))) :
    Ev K C (tLc (iTup K (tFld K ta "policies")) (gName j) tYes te vs) ρ (.d (.list [v 0, v 1])) := by
  refine fun Hd H σ x r Q q => h Hd H σ x r _ fun u Hd1 H1 x1 ⟨a, dx, fs, t, v0, v1, h1, h2, h3, h4, h5, h6, h7⟩ => ⟨a, _, dx, fs, _, h1, x1.dh _ _ h2, T.clS, T.nS_policies, h4, t, rfl, ⟨_, ex_t x1.dh h5⟩, ?_⟩
  refine lc_core_ev (K := K) (C := C) (walk_tup (K := K) (a := t) (xs := [v0, v1])) (g := gName j) (tt := tYes) (te := te) (vs := vs) (σ := σ) (Hd1 := Hd1) (H1 := H1) (fun i => (wipeA ρ vs).set j (.pol (s.polN i))) (fun _ => true) v (Nat.le_of_ble_eq_true rfl) x1.dh (fun Hd' H' xx => ex_t (x1.dh.trans xx.h) h5) ?_ ?_ ?_ Q ?_
  · rintro i Hd' H' y H'' Q hi xx ⟨rfl, hy⟩ k
    refine k _ _ (set_wipe hj) (Xt.refl xx.dh) ?_
    refine ((r.xt (x1.trans xx)).wipe vs).set (a := .pol _) ?_ j
    match i, hy with
    | 0, hy => cases hy; exact h6.ex xx.d
    | 1, hy => cases hy; exact h7.ex xx.d
    | (n + 2), hy => cases hy
  · exact fun i hi Hd H σ x r Q q => q Hd H (Xt.refl x)
  · exact fun i hi _ => he i hi
  · exact fun D Hd' H' xx hdp => q _ Hd' H' (x1.trans xx) hdp
theorem ev_tupleL {ρ : En} {t : TA} {ds : List PyData} (h : EvL K C t ρ [.d (.list ds)]) : Ev K C (tCB (fun xs H Q => ∃ p ys, xs = [.ref p] ∧ ((SqL K H p ys ∧ ∀ l, H l = none → Q (.ref l) (upd H l (.tup ys))) ∨ (SqT K H p ys ∧ Q (.ref p) H))) t) ρ (.d (.tuple ds)) :=
  ev_cb h fun Hd H vs e r Q q => by
    obtain ⟨v, rfl, h1⟩ := vrs1 r
    obtain ⟨p, ys, rfl, h2, h3⟩ := dp_lst_inv h1
    exact ⟨p, ys, rfl, .inl ⟨ex_l e h2, fun l hl => q _ _ _ (Xt.new e hl) (Dp.tup (SqT.of upd_same) (dps_ex (Ex.new (free_of e hl)) _ _ h3))⟩⟩
def firstQuick (s : SetD) : Int × Int := (s.p0.quick, s.p1.quick)
def FFirstQuick : List AV → (AV → Prop) → Prop := fun as Pr => ∃ s : SetD, as = [.set s] ∧ Pr = fun a => a = .d (encQ (firstQuick s))
theorem ok_first_quick {f : Addr} {fd : FuncData} (F : Fun K "first_quick" "first_quick" s_first_quick f fd) (T : Txt K mg C) : FnOk P w K mg base CX0 1 f fd ps_first_quick (SpD K C FFirstQuick) := by
  refine okD F sc_first_quick (fun as Pr ⟨_, e, _⟩ => by subst e; rfl) fun cdv A outer s H vs E hr => ⟨_,
(pss_one (ps_ret (pe_callTy (callTuple K) rfl T.n_tuple (by decide +kernel) (pa_cons (pe_lc (own := [("policy", 1)]) (g := (gName 1)) rfl sc_first_quick.nd (piTup K (peFld K (pv 0) rfl)) (blkOk_by (own := [("policy", 1)]) (N := nm_first_quick) (sc := defScope s_first_quick) (by decide +kernel)) (fun _ _ _ _ _ => (pg_name (i := 1) sc_first_quick.nd rfl (Or.inl rfl))) (fun _ _ _ _ _ => pts_nil) (fun _ _ _ _ _ => (peFld K (pv 1) rfl))) pa_nil)))), ?_⟩
  rintro Hd as Pr Q σ ⟨r, rfl, rfl⟩ w q
  exact w.ret (ev_tupleL (evl_cons (ev_lcPol T (by walk_at "ev") (by decide) (fun i => .int (r.polN i).quick) fun i hi => ev_quick T (by walk_at "ev")) evl_nil)) fun v Hd' H' x h => q v _ Hd' H' (by rfl) x h

def FOutcomeInit : List AV → AV → Prop := fun as z => ∃ (n a b : Int) (ds : List PyData), as = [.d (.int n), .d (.int a), .d (.int b), .d (.list ds)] ∧ z = .out n
theorem ok_Outcome_init {pa : Arguments} {bd : List Stmt} {sc : Scope} {dvs : List V} {kws : List (Str × V)} {f : Addr} {fd : FuncData} (F : FunD K "__init__" "Outcome.__init__" (defArgs s_Outcome__init) (defBody s_Outcome__init) (defScope s_Outcome__init) dvs kws f fd) (T : Txt K mg C) :
    FnOk P w K mg base CX0 1 f fd ps_Outcome__init (SpM K C C.out FOutcomeInit) := by
  refine okM F sc_Outcome__init (fun as z ⟨_, _, _, _, e, _⟩ => by subst e; rfl) fun cdv A outer s H vs E hr => ⟨_,
(pss_cons (psFld K (pv 0) (pv 1) rfl)
    (pss_cons (psFld K (pv 0) (pv 2) rfl)
    (pss_cons (psFld K (pv 0) (pv 3) rfl)
    (pss_one (psFld K (pv 0) (pe_callTy (callList K) rfl T.n_list (by decide +kernel) (pa_cons (pv 4) pa_nil)) rfl))))), ?_⟩
  rintro Hd0 H0 Hd as z Q σ m dx ⟨n, a, b, ds, rfl, rfl⟩ h0 hd hm w q
  refine w.qfld rfl rfl h0 hd hm T.clO T.nO_stalls (Nat.le_of_ble_eq_true rfl) (by walk_at "ap") rfl (by walk_at "ev") fun v1 Hd H r1 x1 hd hm w => ?_
  refine w.qfld rfl rfl h0 hd hm T.clO T.nO_segments (Nat.le_of_ble_eq_true rfl) (by walk_at "ap") rfl (by walk_at "ev") fun v2 Hd H r2 x2 hd hm w => ?_
  refine w.qfld rfl rfl h0 hd hm T.clO T.nO_acks (Nat.le_of_ble_eq_true rfl) (by walk_at "ap") rfl (by walk_at "ev") fun v3 Hd H r3 x3 hd hm w => ?_
  refine w.fld rfl rfl h0 hd hm T.clO T.nO_stalled (Nat.le_of_ble_eq_true rfl) (by walk_at "ap") rfl (ev_listL (by walk_at "evl")) fun v4 Hd H r4 x4 hd hm w => ?_
  obtain ⟨xx, xe⟩ := w.done h0 hd hm
  refine q _ _ xx ⟨m, dx, _, rfl, upd_same, ?_⟩
  have : v1 = .int n := dp_int_inv r1
  rw [lookup_putF, lookup_putF, lookup_putF, lookup_putF]
  rw [if_neg (by decide), if_neg (by decide), if_neg (by decide), if_pos rfl, this]

def SetOk (s : SetD) : Prop := 0 < s.size ∧ s.size < 1000 ∧ s.p0.every < 1000 ∧ s.p1.every < 1000
theorem SetD.pol_every (s : SetD) (h : SetOk s) (e : Int) : (s.pol e).every < 1000 := by
  unfold SetD.pol
  split
  · exact h.2.2.1
  · exact h.2.2.2
theorem atI_Q {q : Int × Int} {e : Int} (h : e = 0 ∨ e = 1) : atI [PyData.int q.1, .int q.2] e = some (.int (pickQ q e)) := by
  rcases h with rfl | rfl <;> rfl
theorem atI_int {l : List PyData} {i : Int} {k : Nat} {d : PyData} (e : i = k) (h : l[k]? = some d) : atI l i = some d := by
  subst e
  exact atI_nat h
def FOutcome : List AV → (AV → Prop) → Prop := fun as Pr => ∃ (s : SetD) (c : List Wr) (o : List Int), as = [.set s, .d (encC c), .d (encI o)] ∧ SetOk s ∧ ConvOk c ∧ OrderOk c o ∧ Pr = fun a => a = .out (outStalls (rulesOf s) (firstQuick s) c o)
theorem order_get {c : List Wr} {o : List Int} (h : OrderOk c o) {i : Nat} {x : Wr} (hx : c[i]? = some x) : ∃ k, o[i]? = some k ∧ 0 ≤ k ∧ k ≤ 2 := by
  have hi := (List.getElem?_eq_some_iff.mp hx).1
  have hio : i < o.length := by rw [h.1]; exact hi
  refine ⟨_, List.getElem?_eq_getElem hio, ?_⟩
  have hl : (limitsOf c)[i]? = some (if (i : Int) ∈ (splitTurns c).map Tn.a then 0 else 2) := by
    unfold limitsOf
    rw [List.getElem?_map, List.getElem?_range hi]; rfl
  have := h.2 i _ _ (List.getElem?_eq_getElem hio) hl
  refine ⟨this.1, Int.le_trans this.2 ?_⟩
  split <;> omega
theorem ok_outcome {pa : Arguments} {bd : List Stmt} {sc : Scope} {dvs : List V} {kws : List (Str × V)} {f : Addr} {fd : FuncData} (F : FunD K "outcome" "outcome" (defArgs s_outcome) (defBody s_outcome) (defScope s_outcome) dvs kws f fd) (T : Txt K mg C)
    (c_Outcome : Mkr P w K mg base "Outcome" 1 ps_Outcome__init C.out (SpM K C C.out FOutcomeInit) []) (d_normal_order : Df P w K mg base "normal_order" 5 ps_normal_order (SpD K C FNormalOrder)) (d_first_quick : Df P w K mg base "first_quick" 1 ps_first_quick (SpD K C FFirstQuick))
    (d_split_turns : Df P w K mg base "split_turns" 1 ps_split_turns (SpD K C FSplit)) (d_rules_of : Df P w K mg base "rules_of" 1 ps_rules_of (SpD K C FRulesOf)) (d_first_parts : Df P w K mg base "first_parts" 1 ps_first_parts (SpD K C FFirstParts))
    (d_after_clearing : Df P w K mg base "after_clearing" 2 ps_after_clearing (SpD K C FAfterClearing)) (d_after_write : Df P w K mg base "after_write" 2 ps_after_write (SpD K C FAfterWrite)) (d_after_turn : Df P w K mg base "after_turn" 3 ps_after_turn (SpD K C FAfterTurn))
    (d_with_quick : Df P w K mg base "with_quick" 1 ps_with_quick (SpD K C FWithQuick)) :
    FnOk P w K mg base CX0 6 f fd ps_outcome (SpD K C FOutcome) := by
  refine okDD F sc_outcome (fun as Pr ⟨_, _, _, e, _⟩ => by subst e; rfl) fun cdv A outer s H vs E hr => ⟨_,
(pss_cons (ps_set (i := 3) sc_outcome.nd rfl (Or.inl rfl) (pe_df d_normal_order (hr.mono (by decide)) rfl (pa_cons (pv 1) (pa_cons (pv 2) pa_nil))))
    (pss_cons (ps_set (i := 4) sc_outcome.nd rfl (Or.inl rfl) (pe_df d_first_quick (hr.mono (by decide)) rfl (pa_cons (pv 0) pa_nil)))
    (pss_cons (ps_asg2 pe_int (pg_name (i := 5) sc_outcome.nd rfl (Or.inl rfl)) (pg_name (i := 6) sc_outcome.nd rfl (Or.inl rfl)))
    (pss_cons (ps_set (i := 7) sc_outcome.nd rfl (Or.inl rfl) (pe_lst pa_nil))
    (pss_cons (ps_for PassesOwn.never rfl (piEnum K rfl T.n_enumerate (pa_cons (pe_df d_split_turns (hr.mono (by decide)) rfl (pa_cons (pv 1) pa_nil)) pa_nil)) (pgTup K rfl (pgs_cons (pg_name (i := 8) sc_outcome.nd rfl (Or.inl rfl)) (pgs_cons (pgTup K rfl (pgs_cons (pg_name (i := 9) sc_outcome.nd rfl (Or.inl rfl)) (pgs_cons (pg_name (i := 10) sc_outcome.nd rfl (Or.inl rfl)) (pgs_cons (pg_name (i := 11) sc_outcome.nd rfl (Or.inl rfl)) pgs_nil)))) pgs_nil))) (pss_cons (ps_set (i := 12) sc_outcome.nd rfl (Or.inl rfl) (pe_df d_rules_of (hr.mono (by decide)) rfl (pa_cons (pv 0) (pa_cons (pv 9) pa_nil))))
    (pss_cons (ps_set (i := 13) sc_outcome.nd rfl (Or.inl rfl) (pe_df d_first_parts (hr.mono (by decide)) rfl (pa_cons (pe_ix (ixT K) (pv 4) (pe_op op_sub pe_int (pv 9)) (fun _ _ => rfl)) pa_nil)))
    (pss_cons (ps_for PassesOwn.never rfl (pi_range2 rfl T.n_range (pa_cons (pv 10) (pa_cons (pv 11) pa_nil))) (pg_name (i := 14) sc_outcome.nd rfl (Or.inl rfl)) (pss_cons (ps_for PassesOwn.never rfl (pi_range1 rfl T.n_range (pa_cons (pe_ix (ixL K) (pv 3) (pv 14) (fun _ _ => rfl)) pa_nil)) (pg_name (i := 15) sc_outcome.nd rfl (Or.inl rfl)) (pss_cons (ps_asg (pe_df d_after_clearing (hr.mono (by decide)) rfl (pa_cons (pv 12) (pa_cons (pv 13) pa_nil))) (pgTup K rfl (pgs_cons (pg_name (i := 13) sc_outcome.nd rfl (Or.inl rfl)) (pgs_cons (pg_name (i := 16) sc_outcome.nd rfl (Or.inl rfl)) (pgs_cons (pg_name (i := 17) sc_outcome.nd rfl (Or.inl rfl)) pgs_nil)))))
    (pss_cons (ps_aug (i := 5) sc_outcome.nd rfl (Or.inl rfl) (pv 16) ip_add)
    (pss_one (ps_aug (i := 6) sc_outcome.nd rfl (Or.inl rfl) (pv 17) ip_add)))))
    (pss_cons (ps_asg (pe_df d_after_write (hr.mono (by decide)) rfl (pa_cons (pv 12) (pa_cons (pv 13) (pa_cons (pe_ix (ixT K) (pe_ix (ixL K) (pv 1) (pv 14) (fun _ _ => rfl)) pe_int (fun _ _ => rfl)) (pa_cons (pe_ix (ixT K) (pe_ix (ixL K) (pv 1) (pv 14) (fun _ _ => rfl)) pe_int (fun _ _ => rfl)) pa_nil))))) (pgTup K rfl (pgs_cons (pg_name (i := 13) sc_outcome.nd rfl (Or.inl rfl)) (pgs_cons (pg_name (i := 16) sc_outcome.nd rfl (Or.inl rfl)) (pgs_cons (pg_name (i := 17) sc_outcome.nd rfl (Or.inl rfl)) pgs_nil)))))
    (pss_cons (ps_aug (i := 5) sc_outcome.nd rfl (Or.inl rfl) (pv 16) ip_add)
    (pss_one (ps_aug (i := 6) sc_outcome.nd rfl (Or.inl rfl) (pv 17) ip_add))))))
    (pss_cons (ps_asg (pe_df d_after_turn (hr.mono (by decide)) rfl (pa_cons (pv 12) (pa_cons (pv 13) pa_nil))) (pgTup K rfl (pgs_cons (pg_name (i := 18) sc_outcome.nd rfl (Or.inl rfl)) (pgs_cons (pg_name (i := 19) sc_outcome.nd rfl (Or.inl rfl)) (pgs_cons (pg_name (i := 16) sc_outcome.nd rfl (Or.inl rfl)) (pgs_cons (pg_name (i := 17) sc_outcome.nd rfl (Or.inl rfl)) pgs_nil))))))
    (pss_cons (ps_aug (i := 5) sc_outcome.nd rfl (Or.inl rfl) (pv 16) ip_add)
    (pss_cons (ps_aug (i := 6) sc_outcome.nd rfl (Or.inl rfl) (pv 17) ip_add)
    (pss_cons (ps_set (i := 4) sc_outcome.nd rfl (Or.inl rfl) (pe_df d_with_quick (hr.mono (by decide)) rfl (pa_cons (pv 4) (pa_cons (pe_op op_sub pe_int (pv 9)) (pa_cons (pv 19) pa_nil)))))
    (pss_one (ps_if (pt_cmpR op_gt (pv 18) pe_int (nomark _)) (pss_one (ps_expr (peBm K PySem.F.plainAttrs_list PySem.F.slot_list_append PySem.F.type_list_append mt_append (pv 7) (pa_cons (pv 8) pa_nil)))) pss_nil))))))))))
    (pss_one (ps_ret (pe_mk c_Outcome (hr.mono (by decide)) rfl (pa_cons (pe_callB (callLen K) rfl T.n_len (by decide +kernel) (pa_cons (pv 7) pa_nil)) (pa_cons (pv 5) (pa_cons (pv 6) (pa_cons (pv 7) pa_nil)))))))))))), ?_⟩
  rintro Hd as Pr Q σ ⟨s, c, o, rfl, hs, hc, ho, rfl⟩ w q
  have hlen := hc.2
  have hst := splitTurns_len c
  have hS := spI c
  refine w.qasg (ev_callE (by walk_at "evl") (by rfl) ⟨c, o, rfl, hc, ho, rfl⟩) fun σ Hd H x w => ?_
  refine w.qasg (ev_callE (by walk_at "evl") (by rfl) ⟨s, rfl, rfl⟩) fun σ Hd H x w => ?_
  refine w.qasg2 (by walk_at "ev") fun σ Hd H x w => ?_
  refine w.qnewL fun m σ H1 hm h0 x w => ?_
  refine w.qforEN (is := [9, 10, 11]) (evl_cons (ev_callE (by walk_at "evl") (by rfl) ⟨c, rfl, by omega, rfl⟩) evl_nil) rfl tupOf (fun d hd => ?_)
    (fun i ρ' => ∃ sg ak, ρ' = ls [.set s, .d (encC c), .unk, .d (encI o), .d (encQ (outN (rulesOf s) (firstQuick s) c o (splitTurns c) i).1), .d (.int sg), .d (.int ak), .ml m ((outN (rulesOf s) (firstQuick s) c o (splitTurns c) i).2.map PyData.int), .unk, .unk, .unk, .unk, .unk, .unk, .unk, .unk, .unk, .unk, .unk, .unk])
    (ls [.set s, .d (encC c), .unk, .d (encI o), .d (encQ (firstQuick s)), .d (.int 0), .d (.int 0), .ml m [], .unk, .unk, .unk, .unk, .unk, .unk, .unk, .unk, .unk, .unk, .unk, .unk]) (by walk_at "le") ⟨0, 0, rfl⟩ (fun i d Hb Hd H σ ρ' hi hR e w => ?_) fun σ Hd H ρ' e w hR => ?_
  · obtain ⟨t, _, rfl⟩ := List.mem_map.mp hd
    exact ⟨rfl, rfl⟩
  · obtain ⟨sg, ak, rfl⟩ := hR
    rw [List.getElem?_map] at hi
    cases ht : (splitTurns c)[i]? with
    | none => rw [ht] at hi; cases hi
    | some t =>
    rw [ht] at hi; cases hi
    obtain ⟨a1, a2, a3, a4⟩ := hS.at_ i t ht
    have hwho : t.who = 0 ∨ t.who = 1 := by
      obtain ⟨x, hx, hw⟩ := a4 t.a.toNat (by omega) (by omega)
      rw [← hw]
      exact (hc.1 x (List.mem_of_getElem? hx)).1
    have hoth : 1 - t.who = 0 ∨ 1 - t.who = 1 := by omega
    generalize hq : (outN (rulesOf s) (firstQuick s) c o (splitTurns c) i).1 = qq at w
    generalize hl : (outN (rulesOf s) (firstQuick s) c o (splitTurns c) i).2 = ll at w
    have hll : ll.length ≤ i := by rw [← hl]; exact outN_len _ _ _ _ _ _
    have hil := (List.getElem?_eq_some_iff.mp ht).1
    refine w.qasg (ev_callE (by walk_at "evl") (by rfl) ⟨s, t.who, rfl, hwho, rfl⟩) fun σ Hd H x1 w => ?_
    refine w.qasg (ev_callE (evl_cons (ev_ixT (by walk_at "ev") (by walk_at "ev") (atI_Q hoth)) evl_nil) (by rfl) ⟨_, rfl, rfl⟩) fun σ Hd H x2 w => ?_
    refine w.qforR2 (lo := t.a) (n := t.b) (by walk_at "evl") ⟨by omega, by omega, by omega, by omega⟩
      (fun j ρ' => ∃ sg ak, ρ' = ls [.set s, .d (encC c), .unk, .d (encI o), .d (encQ qq), .d (.int sg), .d (.int ak), .ml m (ll.map PyData.int), .d (.int i), .d (.int t.who), .unk, .unk, .d (encR (rulesOf s t.who)), .d (encP (turnParts (rulesOf s t.who) c o (pickQ qq (1 - t.who)) t.a.toNat j)), .unk, .unk, .unk, .unk, .unk, .unk])
      _ (by walk_at "le") ⟨sg, ak, rfl⟩ (fun j Hb Hd H σ ρ' hj hR e2 w => ?_) fun σ Hd H ρ' e2 w hR => ?_
    · obtain ⟨sg, ak, rfl⟩ := hR
      obtain ⟨x, hx, hw⟩ := a4 (t.a.toNat + j) (by omega) (by omega)
      obtain ⟨k, hk, hk0, hk2⟩ := order_get ho hx
      have hxe : atI (c.map encW) (t.a + (j : Int)) = some (encW x) := atI_int (k := t.a.toNat + j) (by omega) (by rw [List.getElem?_map, hx]; rfl)
      have hke : atI (o.map PyData.int) (t.a + (j : Int)) = some (.int k) := atI_int (k := t.a.toNat + j) (by omega) (by rw [List.getElem?_map, hk]; rfl)
      generalize hpp : turnParts (rulesOf s t.who) c o (pickQ qq (1 - t.who)) t.a.toNat j = pp at w
      have hnext : turnParts (rulesOf s t.who) c o (pickQ qq (1 - t.who)) t.a.toNat (j + 1) = (afterWrite (rulesOf s t.who) (clearK (rulesOf s t.who) pp k.toNat) x.len x.mode).1 := by
        rw [turnParts, hx, hk, hpp]
      refine w.qforRR (n := k) (evl_cons (ev_ixL (by walk_at "ev") (by walk_at "ev") hke) evl_nil) ⟨by omega, by omega⟩
        (fun n ρ' => ∃ sg ak, ρ' = ls [.set s, .d (encC c), .unk, .d (encI o), .d (encQ qq), .d (.int sg), .d (.int ak), .ml m (ll.map PyData.int), .d (.int i), .d (.int t.who), .unk, .unk, .d (encR (rulesOf s t.who)), .d (encP (clearK (rulesOf s t.who) pp n)), .d (.int (t.a + (j : Int))), .unk, .unk, .unk, .unk, .unk])
        _ (by walk_at "le") ⟨sg, ak, rfl⟩ (fun n Hb2 Hd H σ ρ' hn hR e3 w => ?_) fun σ Hd H ρ' e3 w hR => ?_
      · obtain ⟨sg, ak, rfl⟩ := hR
        refine w.qun (is := [13, 16, 17]) (ds := [_, _, _]) (ev_callE (by walk_at "evl") (by rfl) ⟨rulesOf s t.who, clearK (rulesOf s t.who) pp n, rfl, rfl⟩) rfl rfl fun σ Hd H y1 w => ?_
        refine w.qaug rfl rfl (by walk_at "ev") fun σ Hd H y2 w => ?_
        refine w.aug rfl rfl (by walk_at "ev") fun σ Hd H y3 w => ?_
        exact w.ls (((e3.trans y1.d).trans y2.d).trans y3.d) (ρ' := ls [.set s, .d (encC c), .unk, .d (encI o), .d (encQ qq), .d (.int _), .d (.int _), .ml m (ll.map PyData.int), .d (.int i), .d (.int t.who), .unk, .unk, .d (encR (rulesOf s t.who)), .d (encP (clearK (rulesOf s t.who) pp (n + 1))), .d (.int (t.a + (j : Int))), .unk, .unk, .unk, .unk, .unk]) (by walk_at "le") ⟨_, _, rfl⟩
      · obtain ⟨sg, ak, rfl⟩ := hR
        refine w.qun (is := [13, 16, 17]) (ds := [_, _, _]) (ev_callE (evl_cons (by walk_at "ev") (evl_cons (by walk_at "ev") (evl_cons (ev_ixT (ev_ixL (by walk_at "ev") (by walk_at "ev") hxe) (by walk_at "ev") (by rfl)) (evl_cons (ev_ixT (ev_ixL (by walk_at "ev") (by walk_at "ev") hxe) (by walk_at "ev") (by rfl)) evl_nil)))) (by rfl) ⟨rulesOf s t.who, _, x.len, x.mode, rfl, s.pol_every hs _, hs.1, hs.2.1, rfl⟩) rfl rfl fun σ Hd H y1 w => ?_
        refine w.qaug rfl rfl (by walk_at "ev") fun σ Hd H y2 w => ?_
        refine w.aug rfl rfl (by walk_at "ev") fun σ Hd H y3 w => ?_
        refine w.ls ((((e2.trans e3).trans y1.d).trans y2.d).trans y3.d) (ρ' := ls [.set s, .d (encC c), .unk, .d (encI o), .d (encQ qq), .d (.int _), .d (.int _), .ml m (ll.map PyData.int), .d (.int i), .d (.int t.who), .unk, .unk, .d (encR (rulesOf s t.who)), .d (encP (afterWrite (rulesOf s t.who) (clearK (rulesOf s t.who) pp k.toNat) x.len x.mode).1), .unk, .unk, .unk, .unk, .unk, .unk]) (by walk_at "le") ⟨_, _, by rw [hnext]⟩
    · obtain ⟨sg, ak, rfl⟩ := hR
      generalize hpp : turnParts (rulesOf s t.who) c o (pickQ qq (1 - t.who)) t.a.toNat (t.b - t.a).toNat = pp at w
      have hnext : outN (rulesOf s) (firstQuick s) c o (splitTurns c) (i + 1) = (withQuick qq (1 - t.who) (afterTurn (rulesOf s t.who) pp).2.1, if 0 < (afterTurn (rulesOf s t.who) pp).1 then ll ++ [(i : Int)] else ll) := by
        rw [outN, ht]
        simp only [hq, hl, hpp]
      refine w.qun (is := [18, 19, 16, 17]) (ds := [_, _, _, _]) (ev_callE (by walk_at "evl") (by rfl) ⟨rulesOf s t.who, pp, rfl, rfl⟩) rfl rfl fun σ Hd H y1 w => ?_
      refine w.qaug rfl rfl (by walk_at "ev") fun σ Hd H y2 w => ?_
      refine w.qaug rfl rfl (by walk_at "ev") fun σ Hd H y3 w => ?_
      refine w.qasg (ev_callE (by walk_at "evl") (by rfl) ⟨qq, 1 - t.who, _, rfl, rfl⟩) fun σ Hd H y4 w => ?_
      have eAll := (((((e.trans x1.d).trans x2.d).trans e2).trans y1.d).trans y2.d |>.trans y3.d).trans y4.d
      refine w.if_ (by walk_at "evt") (fun hb Hd H y5 w => ?_) (fun hb Hd H y5 w => ?_)
      · have hb : 0 < (afterTurn (rulesOf s t.who) pp).1 := of_decide_eq_true hb
        refine w.app rfl rfl h0 (by walk_at "ap") (by walk_at "ev") (by rw [List.length_map]; omega) fun Hd H y6 w => ?_
        refine w.ls ((eAll.trans y5.d).trans y6.d) (ρ' := ls [.set s, .d (encC c), .unk, .d (encI o), .d (encQ (withQuick qq (1 - t.who) (afterTurn (rulesOf s t.who) pp).2.1)), .d (.int _), .d (.int _), .ml m (ll.map PyData.int ++ [.int i]), .unk, .unk, .unk, .unk, .unk, .unk, .unk, .unk, .unk, .unk, .unk, .unk]) (by walk_at "le") ⟨sg + (afterTurn (rulesOf s t.who) pp).2.2.1, ak + (afterTurn (rulesOf s t.who) pp).2.2.2, ?_⟩
        rw [hnext]
        simp only [if_pos hb, List.map_append]
        rfl
      · have hb : ¬ 0 < (afterTurn (rulesOf s t.who) pp).1 := of_decide_eq_false hb
        refine w.ls (eAll.trans y5.d) (ρ' := ls [.set s, .d (encC c), .unk, .d (encI o), .d (encQ (withQuick qq (1 - t.who) (afterTurn (rulesOf s t.who) pp).2.1)), .d (.int _), .d (.int _), .ml m (ll.map PyData.int), .unk, .unk, .unk, .unk, .unk, .unk, .unk, .unk, .unk, .unk, .unk, .unk]) (by walk_at "le") ⟨sg + (afterTurn (rulesOf s t.who) pp).2.2.1, ak + (afterTurn (rulesOf s t.who) pp).2.2.2, ?_⟩
        rw [hnext]
        simp only [if_neg hb]
  · obtain ⟨sg, ak, rfl⟩ := hR
    obtain ⟨Hd2, _, w, _⟩ := w.freeze (i := 7) rfl rfl h0 (by walk_at "ap")
    refine w.ret (ev_make' (evl_cons (ev_lenL (by walk_at "evl")) (evl_cons (by walk_at "ev") (evl_cons (by walk_at "ev") (evl_cons (by walk_at "ev") evl_nil)))) (by rfl) ⟨_, _, _, _, rfl, rfl⟩) fun v Hd' H' x h => q v _ Hd' H' ?_ x h
    show AV.out _ = AV.out _
    unfold outStalls
    rw [List.length_map, List.length_map]
end
end LW

set_option Elab.async false
set_option linter.all false
set_option maxRecDepth 100000
set_option maxHeartbeats 4000000
namespace LW
open PySem PySem.Spec PyProof.Rows L2 Evl
local macro_rules | `(tactic| walk_at "ev") => `(tactic| first
  | with_reducible exact ev_int | with_reducible exact ev_bl | with_reducible exact ev_str | with_reducible exact ev_non
  | ((with_reducible apply ev_var) <;> rfl)
  | ((with_reducible apply ev_ixT) <;> first | walk_at "ev" | rfl)
  | ((with_reducible apply ev_ixL) <;> first | walk_at "ev" | rfl)
  | ((with_reducible apply ev_ixM) <;> first | walk_at "ev" | rfl)
  | ((with_reducible apply ev_I0) <;> walk_at "ev")
  | ((with_reducible apply ev_B0) <;> walk_at "ev")
  | ((with_reducible apply ev_U) <;> walk_at "ev")
  | ((with_reducible apply ev_tup) <;> first | walk_at "evd" | exact Nat.le_of_ble_eq_true rfl)
  | ((with_reducible apply ev_lst) <;> first | walk_at "evd" | exact Nat.le_of_ble_eq_true rfl)
  | ((with_reducible apply ev_eqI) <;> walk_at "ev")
  | ((with_reducible apply ev_eqS) <;> walk_at "ev")
  | ((with_reducible apply ev_neI) <;> walk_at "ev")
  | ((with_reducible apply ev_neS) <;> walk_at "ev")
  | ((with_reducible apply ev_notV) <;> walk_at "ev")
  | ((with_reducible apply ev_andV) <;> first | walk_at "ev" | (intro _; walk_at "ev"))
  | ((with_reducible apply ev_orV) <;> first | walk_at "ev" | (intro _; walk_at "ev"))
  | ((with_reducible apply ev_min) <;> walk_at "evl")
  | ((with_reducible apply ev_max) <;> walk_at "evl")
  | ((with_reducible apply ev_slT) <;> first | walk_at "ev" | walk_at "evo" | walk_at "cut")
  | ((with_reducible apply ev_slL) <;> first | walk_at "ev" | walk_at "evo")
  | ((with_reducible apply ev_catT) <;> first | walk_at "ev" | exact Nat.le_of_ble_eq_true rfl | (intro z; cases z))
  | ((with_reducible apply ev_abs) <;> walk_at "evl")
  | ((with_reducible apply ev_intI) <;> walk_at "evl")
  | ((with_reducible apply ev_intB) <;> walk_at "evl")
  | ((with_reducible apply ev_lenL) <;> walk_at "evl"))
local macro_rules | `(tactic| walk_at "evd") => `(tactic| first | with_reducible exact evd_nil | ((with_reducible apply evd_cons) <;> first | walk_at "ev" | walk_at "evd"))
local macro_rules | `(tactic| walk_at "evl") => `(tactic| first | with_reducible exact evl_nil | ((with_reducible apply evl_cons) <;> first | walk_at "ev" | walk_at "evl"))
local macro_rules | `(tactic| walk_at "evo") => `(tactic| first | with_reducible exact evo_none | ((with_reducible apply evo_some) <;> walk_at "ev"))
local macro_rules | `(tactic| walk_at "evt") => `(tactic| first
  | ((with_reducible apply evt_test) <;> walk_at "ev")
  | ((with_reducible apply evt_B) <;> walk_at "ev")
  | ((with_reducible apply evt_not) <;> walk_at "evt")
  | ((with_reducible apply evt_and) <;> first | walk_at "evt" | (intro _; walk_at "evt"))
  | ((with_reducible apply evt_or) <;> first | walk_at "evt" | (intro _; walk_at "evt")))
local macro_rules | `(tactic| walk_at "cut") => `(tactic| (intro z; simp [HT.sIx] at z))
local macro_rules | `(tactic| walk_at "le") => `(tactic| (refine ⟨rfl, ?_⟩; repeat (first | exact trivial | refine ⟨?_, ?_⟩ | exact Or.inr (Or.inl rfl) | exact Or.inl rfl | exact Or.inr (Or.inr rfl))))
local macro_rules | `(tactic| walk_at "ap") => `(tactic| repeat (first | exact trivial | refine ⟨?_, ?_⟩ | exact Or.inl rfl | exact Or.inr (ne_cell rfl) | exact Or.inr (ne_cell2 rfl (by assumption)) | exact Or.inr (ne_cell2 (by assumption) (by assumption)) | exact Or.inr (by assumption)))
section
variable {κ α : Type} [DecidableEq κ]
def encL (ek : κ → PyData) (ev : α → PyData) (L : List (κ × α)) : List (PyData × PyData) := L.map fun q => (ek q.1, ev q.2)
theorem look_enc {ek : κ → PyData} {ev : α → PyData} (hi : ∀ a b, codeD (ek a) = codeD (ek b) → a = b) (L : List (κ × α)) (k : κ) : lookD (encL ek ev L) (ek k) = (lkL L k).map ev := by
  induction L with
  | nil => rfl
  | cons a r ih =>
    rw [lkL_cons]
    show ((List.find? _ ((ek a.1, ev a.2) :: encL ek ev r)).map _) = _
    rw [List.find?_cons]
    by_cases h : a.1 = k
    · rw [if_pos h, h]; simp
    · rw [if_neg h]
      have : ¬ codeD (ek a.1) = codeD (ek k) := fun z => h (hi _ _ z)
      simp only [this, decide_false]
      exact ih
theorem put_enc {ek : κ → PyData} {ev : α → PyData} (hi : ∀ a b, codeD (ek a) = codeD (ek b) → a = b) (L : List (κ × α)) (k : κ) (v : α) : putD (encL ek ev L) (ek k) (ev v) = encL ek ev (putL L k v) := by
  unfold putD putL
  rw [look_enc hi]
  cases lkL L k with
  | some x =>
    simp only [Option.map_some, Option.isSome_some, if_true]
    unfold encL
    rw [List.map_map, List.map_map]
    apply List.map_congr_left
    intro q _
    show (if codeD (ek q.1) = codeD (ek k) then (ek q.1, ev v) else (ek q.1, ev q.2)) = (ek (if q.1 = k then (q.1, v) else q).1, ev (if q.1 = k then (q.1, v) else q).2)
    by_cases h : q.1 = k
    · rw [if_pos h, if_pos (by rw [h])]
    · rw [if_neg h, if_neg fun z => h (hi _ _ z)]
  | none =>
    simp only [Option.map_none, Option.isSome_none, Bool.false_eq_true, if_false]
    unfold encL
    rw [List.map_append]; rfl
theorem keys_enc {ek : κ → PyData} {ev : α → PyData} (hl : ∀ k, (tupOf (ek k)).all leafD = true) (L : List (κ × α)) : KeysL (encL ek ev L) := by
  intro q hq
  obtain ⟨z, _, rfl⟩ := List.mem_map.mp hq
  exact hl _
theorem encL_get {ek : κ → PyData} {ev : α → PyData} {L : List (κ × α)} {j : Nat} {k v : PyData} (h : (encL ek ev L)[j]? = some (k, v)) : ∃ q, L[j]? = some q ∧ k = ek q.1 ∧ v = ev q.2 := by
  unfold encL at h
  rw [List.getElem?_map] at h
  cases e : L[j]? with
  | none => rw [e] at h; cases h
  | some q => rw [e] at h; cases h; exact ⟨q, rfl, rfl, rfl⟩
theorem encL_len {ek : κ → PyData} {ev : α → PyData} (L : List (κ × α)) : (encL ek ev L).length = L.length := List.length_map _
end
theorem encP_inj (p q : Parts) (h : codeD (encP p) = codeD (encP q)) : p = q := by
  obtain ⟨a, b, c, d, e, f⟩ := p
  obtain ⟨a', b', c', d', e', f'⟩ := q
  simp only [codeD, encP, tupOf, List.map, lkD, List.cons.injEq, Leaf.num.injEq, and_true] at h
  obtain ⟨rfl, h2, h3, h4, rfl, rfl⟩ := h
  have hb : ∀ x y : Bool, (if x = true then (1 : Int) else 0) = (if y = true then 1 else 0) → x = y := by decide
  rw [hb _ _ h2, hb _ _ h3, hb _ _ h4]
theorem encP_leaf (p : Parts) : (tupOf (encP p)).all leafD = true := rfl
theorem encQ_inj (p q : Int × Int) (h : codeD (encQ p) = codeD (encQ q)) : p = q := by
  obtain ⟨a, b⟩ := p
  obtain ⟨a', b'⟩ := q
  simp only [codeD, encQ, tupOf, List.map, lkD, List.cons.injEq, Leaf.num.injEq, and_true] at h
  rw [h.1, h.2]
theorem encQ_leaf (p : Int × Int) : (tupOf (encQ p)).all leafD = true := rfl
section
variable {P : Program} {w : World} {K : PySem.W.Frag} {mg : Str → Option Value} {base : Heap} {C : Cl P w}
abbrev encPD (L : PD) := encL encP encI L
abbrev encED (L : ED) := encL encQ encI L
def FTurnEnds : List AV → (AV → Prop) → Prop := fun as Pr => ∃ (r : Rules) (W : List Wr) (q : Int), as = [.d (encR r), .d (encC W), .d (.int q)] ∧ RulesOk r ∧ (∀ x ∈ W, x.ok) ∧ W.length ≤ 200 ∧ 0 ≤ q ∧ q ≤ 4 ∧ Pr = fun a => ∃ m des, a = .dt m none des (encED (turnEnds r W q))
theorem ok_turn_ends {f : Addr} {fd : FuncData} (F : Fun K "turn_ends" "turn_ends" s_turn_ends f fd) (T : Txt K mg C) (d_first_parts : Df P w K mg base "first_parts" 1 ps_first_parts (SpD K C FFirstParts)) (d_clearings_of : Df P w K mg base "clearings_of" 3 ps_clearings_of (SpD K C FClearings))
    (d_after_write : Df P w K mg base "after_write" 2 ps_after_write (SpD K C FAfterWrite)) (d_after_turn : Df P w K mg base "after_turn" 3 ps_after_turn (SpD K C FAfterTurn)) :
    FnOk P w K mg base CX0 4 f fd ps_turn_ends (SpN K C FTurnEnds) := by
  refine okN F sc_turn_ends (fun as Pr ⟨_, _, _, e, _⟩ => by subst e; rfl) fun cdv A outer s H vs E hr => by
    have hu := Nat.lt_of_le_of_lt (Nat.add_le_add_left (by decide : 1 ≤ 64) _) hr.units
    exact ⟨_,
(pss_cons (ps_set (i := 3) sc_turn_ends.nd rfl (Or.inl rfl) (peTOneP P w K rfl rfl rfl hu (pe_df d_first_parts (hr.mono (by decide)) rfl (pa_cons (pv 2) pa_nil)) (pe_lst pa_nil)))
    (pss_cons (ps_for PassesOwn.never rfl (piEnum K rfl T.n_enumerate (pa_cons (pv 1) pa_nil)) (pgTup K rfl (pgs_cons (pg_name (i := 4) sc_turn_ends.nd rfl (Or.inl rfl)) (pgs_cons (pg_name (i := 5) sc_turn_ends.nd rfl (Or.inl rfl)) pgs_nil))) (pss_cons (ps_set (i := 6) sc_turn_ends.nd rfl (Or.inl rfl) (peTNewP P w))
    (pss_cons (ps_lock (ps_for PassesOwn.never rfl (piTP P w (pv 3)) (pg_name (i := 7) sc_turn_ends.nd rfl (Or.inl rfl)) (pss_cons (ps_set (i := 8) sc_turn_ends.nd rfl (Or.inl rfl) (pe_ifExp (pt_cmpR op_gt (pv 4) pe_int (nomark _)) (pe_df d_clearings_of (hr.mono (by decide)) rfl (pa_cons (pv 0) (pa_cons (pv 7) pa_nil))) (pe_lst (pa_cons (pe_tup (pa_cons pe_int (pa_cons (pv 7) pa_nil))) pa_nil))))
    (pss_one (ps_for PassesOwn.never rfl (piList K (pv 8)) (pgTup K rfl (pgs_cons (pg_name (i := 9) sc_turn_ends.nd rfl (Or.inl rfl)) (pgs_cons (pg_name (i := 10) sc_turn_ends.nd rfl (Or.inl rfl)) pgs_nil))) (pss_cons (ps_set (i := 11) sc_turn_ends.nd rfl (Or.inl rfl) (pe_ix (ixT K) (pe_df d_after_write (hr.mono (by decide)) rfl (pa_cons (pv 0) (pa_cons (pv 10) (pa_cons (pe_ix (ixT K) (pv 5) pe_int (fun _ _ => rfl)) (pa_cons (pe_ix (ixT K) (pv 5) pe_int (fun _ _ => rfl)) pa_nil))))) pe_int (fun _ _ => rfl)))
    (pss_one (ps_if (pt_cmpR (opTNotInP P w K rfl rfl rfl hu) (pv 11) (pv 6) rfl) (pss_one (psTPutP P w K rfl rfl rfl hu (pv 6) (pv 11) (pe_op (opCatL K) (petGetP P w K rfl rfl rfl hu (pv 3) (pv 7) (fun _ _ => rfl)) (pe_lst (pa_cons (pv 9) pa_nil))) rfl)) pss_nil))))))))
    (pss_one (ps_set (i := 3) sc_turn_ends.nd rfl (Or.inl rfl) (pv 6))))))
    (pss_cons (ps_set (i := 12) sc_turn_ends.nd rfl (Or.inl rfl) (peTNewP P w))
    (pss_cons (ps_lock (ps_for PassesOwn.never rfl (piTP P w (pv 3)) (pg_name (i := 7) sc_turn_ends.nd rfl (Or.inl rfl)) (pss_cons (ps_set (i := 13) sc_turn_ends.nd rfl (Or.inl rfl) (pe_slice (slT K) (pe_df d_after_turn (hr.mono (by decide)) rfl (pa_cons (pv 0) (pa_cons (pv 7) pa_nil))) po_none (po_some pe_int)))
    (pss_one (ps_if (pt_cmpR (opTNotInP P w K rfl rfl rfl hu) (pv 13) (pv 12) rfl) (pss_one (psTPutP P w K rfl rfl rfl hu (pv 12) (pv 13) (petGetP P w K rfl rfl rfl hu (pv 3) (pv 7) (fun _ _ => rfl)) rfl)) pss_nil)))))
    (pss_one (ps_ret (pv 12))))))), by
  rintro Hd as Pr Q σ ⟨r, W, q0, rfl, hr, hW, hWl, h0q, hq4, rfl⟩ w q
  have hW1 : ∀ x ∈ W, 1 ≤ x.len := fun x hx => (hW x hx).2.1
  refine w.qoneT (kd := [_, _, _, _, _, _]) (d := .list []) (ev_callE (by walk_at "evl") (by rfl) ⟨q0, rfl, rfl⟩) (by walk_at "ev") (by rfl) fun m0 des0 σ Hd1 H1 hm hm0 x w => ?_
  refine w.qforE (by walk_at "evl") (fun i ρ' => ∃ m des, H m = none ∧ ρ' = ls [.d (encR r), .d (encC W), .unk, .dt m none des (encPD (reachedN r W q0 i)), .unk, .unk, .unk, .unk, .unk, .unk, .unk, .unk, .unk, .unk])
    (ls [.d (encR r), .d (encC W), .unk, .dt m0 none des0 [(encP (firstParts q0), .list [])], .unk, .unk, .unk, .unk, .unk, .unk, .unk, .unk, .unk, .unk]) (by walk_at "le") ⟨m0, des0, hm0, rfl⟩ (fun i d Hb Hd H1 σ ρ' hi hR e w => ?_) fun σ Hd H1 ρ' e w hR => ?_
  · obtain ⟨m, des, hm0, rfl⟩ := hR
    obtain ⟨y, hy, rfl⟩ := encC_get hi
    have hil := (List.getElem?_eq_some_iff.mp hy).1
    have gL := gp_reached hr hW1 h0q hq4 i (by omega)
    have hyo := hW y (List.mem_of_getElem? hy)
    have hnext : reachedN r W q0 (i + 1) = foldN (keyStep r y i (reachedN r W q0 i)) ((reachedN r W q0 i).map (·.1)) [] ((reachedN r W q0 i).map (·.1)).length := by
      rw [foldN_all, reachedN, hy]; rfl
    generalize reachedN r W q0 i = L at w gL hnext
    have hold := w.cell_old (i := 3) (m := m) rfl rfl rfl
    refine w.qnewT fun mb σ H2 hmb hmb0 x2 w => ?_
    have hne : mb ≠ m := fun z => hold (z ▸ hmb)
    have hne' : m ≠ mb := fun z => hne z.symm
    refine w.qforD (i := 3) rfl rfl hm0 (by walk_at "ap") (fun ρ' d => ρ'.set 7 (.d d)) (fun Hd' H' σ' ρ' x d Q ex hx _ r' k => k _ (r'.set (a := .d d) hx 7))
      (fun od j ρ' => ∃ desb, ρ' = ls [.d (encR r), .d (encC W), .unk, .dt m (some od) des (encPD L), .d (.int i), .d (encW y), .dt mb none desb (encPD (foldN (keyStep r y i L) (L.map (·.1)) [] j)), .unk, .unk, .unk, .unk, .unk, .unk, .unk])
      (fun od => ls [.d (encR r), .d (encC W), .unk, .dt m (some od) des (encPD L), .d (.int i), .d (encW y), .dt mb none [] [], .unk, .unk, .unk, .unk, .unk, .unk, .unk]) (fun od => by walk_at "le") (fun od => ⟨[], rfl⟩)
      (fun od j ρ' ⟨desb, h⟩ => by subst h; exact ⟨rfl, rfl, by walk_at "ap"⟩) (fun od j k v Hb' Hd' H' σ' ρ' hj hR e' w => ?_) fun od σ' Hd' H' ρ' e' hR w => ?_
    · obtain ⟨desb, rfl⟩ := hR
      obtain ⟨⟨p, o⟩, hp, rfl, rfl⟩ := encL_get hj
      have hpk : (L.map (·.1))[j]? = some p := by rw [List.getElem?_map, hp]; rfl
      have hpm : p ∈ L.map (·.1) := List.mem_of_getElem? hpk
      obtain ⟨o, ho, hol⟩ := gp_get gL hpm
      have hlook : lookD (encPD L) (encP p) = some (encI o) := by rw [look_enc encP_inj, ho]; rfl
      have gB : GP r (i + 1) (foldN (keyStep r y i L) (L.map (·.1)) [] j) := gp_fold (Q := GP r (i + 1)) (fun B p hp hB => gp_key hr hyo.2.1 gL hp hB) GP.nil j
      have hstep := foldN_succ (f := keyStep r y i L) (b := []) hpk
      generalize foldN (keyStep r y i L) (L.map (·.1)) [] j = B at w gB hstep
      have gW := ways_pb hr (gL.pb p hpm) (i := i)
      have hks : keyStep r y i L B p = foldN (wayStep r y o) (waysOf r i p) B (waysOf r i p).length := by rw [foldN_all, keyStep, ho]; rfl
      refine fun DD => w.qasg (a := .d (.list ((waysOf r i p).map encCP))) (ev_if (by walk_at "evt") (fun hb => ?_) (fun hb => ?_)) fun σ Hd H1 x3 w => ?_
      · have hb : (0 : Int) < i := of_decide_eq_true hb
        have : waysOf r i p = clearingsOf r p := by unfold waysOf; rw [if_pos (by omega)]
        rw [this]
        exact ev_callE (by walk_at "evl") (by rfl) ⟨r, p, rfl, rfl⟩
      · have hb : ¬ (0 : Int) < i := of_decide_eq_false hb
        have : waysOf r i p = [(0, p)] := by unfold waysOf; rw [if_neg (by omega)]
        rw [this]
        exact ev_is (by walk_at "ev") (by rfl)
      refine w.forLT (is := [9, 10]) (by walk_at "ev") rfl tupOf (fun d hd => ?_)
        (fun l ρ' => ∃ desb, ρ' = ls [.d (encR r), .d (encC W), .unk, .dt m (some od) des (encPD L), .d (.int i), .d (encW y), .dt mb none desb (encPD (foldN (wayStep r y o) (waysOf r i p) B l)), .d (encP p), .unk, .unk, .unk, .unk, .unk, .unk])
        _ (by walk_at "le") ⟨desb, rfl⟩ (fun l d Hb2 Hd2 H2 σ2 ρ2 hl hR2 e2 w => ?_) fun σ2 Hd2 H2 ρ2 e2 w hR2 => ?_
      · obtain ⟨z, _, rfl⟩ := List.mem_map.mp hd
        exact ⟨rfl, rfl⟩
      · obtain ⟨desb, rfl⟩ := hR2
        rw [List.getElem?_map] at hl
        cases hz : (waysOf r i p)[l]? with
        | none => rw [hz] at hl; cases hl
        | some z =>
        rw [hz] at hl; cases hl
        obtain ⟨many, ready⟩ := z
        have hrp := gW _ (List.mem_of_getElem? hz)
        have gB2 : GP r (i + 1) (foldN (wayStep r y o) (waysOf r i p) B l) := gp_fold (Q := GP r (i + 1)) (fun B z hz hB => gp_way hr hyo.2.1 hol hB (gW z hz)) gB l
        have hstep2 := foldN_succ (f := wayStep r y o) (b := B) hz
        generalize foldN (wayStep r y o) (waysOf r i p) B l = B2 at w gB2 hstep2
        have hB2 := gB2.len hr
        refine w.qasg (a := .d (encP (afterWrite r ready y.len y.mode).1)) (ev_ixT (ev_callE (evl_cons (by walk_at "ev") (evl_cons (by walk_at "ev") (evl_cons (by walk_at "ev") (evl_cons (by walk_at "ev") evl_nil)))) (by rfl) ⟨r, ready, y.len, y.mode, rfl, by have := hr.2.2.2; omega, hr.1, by have := hr.2.1; omega, rfl⟩) (by walk_at "ev") (by rfl)) fun σ Hd H1 x4 w => ?_
        refine w.if_ (evt_test (ev_tnotin (kd := tupOf (encP (afterWrite r ready y.len y.mode).1)) (by walk_at "ev") (by walk_at "ev") (keys_enc encP_leaf _) (by rfl))) (fun hb Hd H1 x5 w => ?_) (fun hb Hd H1 x5 w => ?_)
        · have hb : (lkL B2 (afterWrite r ready y.len y.mode).1).isSome = false := by
            have hb : (!(lookD (encPD B2) (encP (afterWrite r ready y.len y.mode).1)).isSome) = true := hb
            rw [look_enc encP_inj] at hb
            cases hq : lkL B2 (afterWrite r ready y.len y.mode).1 with
            | none => rfl
            | some v => rw [hq] at hb; cases hb
          refine w.tput (i := 6) (kd := tupOf (encP (afterWrite r ready y.len y.mode).1)) (d := encI (o ++ [many])) rfl rfl hmb0 (by walk_at "ap") (by walk_at "ev") (ev_is (ev_catL (ev_tget (kd := tupOf (encP p)) (by walk_at "ev") (by walk_at "ev") (keys_enc encP_leaf _) (by rfl) hlook) (by walk_at "ev") ?_) (by unfold encI; rw [List.map_append]; rfl)) (keys_enc encP_leaf _) (by rfl) (by rw [encL_len]; omega) fun des' Hd' H' x6 hk w => ?_
          · rw [List.length_map]; simp; omega
          refine w.ls (((e2.trans x4.d).trans x5.d).trans x6.d) (ρ' := ls [.d (encR r), .d (encC W), .unk, .dt m (some od) des (encPD L), .d (.int i), .d (encW y), .dt mb none des' (encPD (putL B2 (afterWrite r ready y.len y.mode).1 (o ++ [many]))), .d (encP p), .unk, .unk, .unk, .unk, .unk, .unk]) ?_ ⟨des', ?_⟩
          · have : putD (encPD B2) (.tuple (tupOf (encP (afterWrite r ready y.len y.mode).1))) (encI (o ++ [many])) = encPD (putL B2 (afterWrite r ready y.len y.mode).1 (o ++ [many])) := put_enc encP_inj _ _ _
            rw [this]
            walk_at "le"
          · rw [hstep2]
            unfold wayStep
            rw [if_neg (by rw [hb]; decide)]
        · have hb : (lkL B2 (afterWrite r ready y.len y.mode).1).isSome = true := by
            have hb : (!(lookD (encPD B2) (encP (afterWrite r ready y.len y.mode).1)).isSome) = false := hb
            rw [look_enc encP_inj] at hb
            cases hq : lkL B2 (afterWrite r ready y.len y.mode).1 with
            | none => rw [hq] at hb; cases hb
            | some v => rfl
          refine w.ls ((e2.trans x4.d).trans x5.d) (ρ' := ls [.d (encR r), .d (encC W), .unk, .dt m (some od) des (encPD L), .d (.int i), .d (encW y), .dt mb none desb (encPD B2), .d (encP p), .unk, .unk, .unk, .unk, .unk, .unk]) (by walk_at "le") ⟨desb, ?_⟩
          rw [hstep2]
          unfold wayStep
          rw [if_pos hb]
      · obtain ⟨desb, rfl⟩ := hR2
        refine w.ls ((e'.trans x3.d).trans e2) (ρ' := ls [.d (encR r), .d (encC W), .unk, .dt m (some od) des (encPD L), .d (.int i), .d (encW y), .dt mb none desb (encPD (foldN (wayStep r y o) (waysOf r i p) B (waysOf r i p).length)), .unk, .unk, .unk, .unk, .unk, .unk, .unk]) ?_ ⟨desb, by rw [hstep, hks]⟩
        rw [List.length_map]
        walk_at "le"
    · obtain ⟨desb, rfl⟩ := hR
      rw [encL_len] at w
      refine w.asg (by walk_at "ev") fun σ Hd2 H2 x7 w => ?_
      refine w.ls (((e.trans x2.d).trans e').trans x7.d) (ρ' := ls [.d (encR r), .d (encC W), .unk, .dt mb none desb (encPD (reachedN r W q0 (i + 1))), .unk, .unk, .unk, .unk, .unk, .unk, .unk, .unk, .unk, .unk]) ?_ ⟨mb, desb, hmb0, rfl⟩
      rw [hnext, List.length_map]
      walk_at "le"
  · obtain ⟨m, des, hm0, rfl⟩ := hR
    have gL := gp_reached hr hW1 h0q hq4 W.length (Nat.le_refl _)
    have hends : turnEnds r W q0 = foldN (endStep r (reachedN r W q0 W.length)) ((reachedN r W q0 W.length).map (·.1)) [] ((reachedN r W q0 W.length).map (·.1)).length := by rw [foldN_all]; rfl
    rw [List.length_map] at w
    generalize reachedN r W q0 W.length = L at w gL hends
    have hold := w.cell_old (i := 3) (m := m) rfl rfl rfl
    refine w.qnewT fun mb σ H2 hmb hmb0 x2 w => ?_
    have hne : mb ≠ m := fun z => hold (z ▸ hmb)
    have hne' : m ≠ mb := fun z => hne z.symm
    refine w.qforD (i := 3) rfl rfl hm0 (by walk_at "ap") (fun ρ' d => ρ'.set 7 (.d d)) (fun Hd' H' σ' ρ' x d Q ex hx _ r' k => k _ (r'.set (a := .d d) hx 7))
      (fun od j ρ' => ∃ desb, ρ' = ls [.d (encR r), .unk, .unk, .dt m (some od) des (encPD L), .unk, .unk, .unk, .unk, .unk, .unk, .unk, .unk, .dt mb none desb (encED (foldN (endStep r L) (L.map (·.1)) [] j)), .unk])
      (fun od => ls [.d (encR r), .unk, .unk, .dt m (some od) des (encPD L), .unk, .unk, .unk, .unk, .unk, .unk, .unk, .unk, .dt mb none [] [], .unk]) (fun od => by walk_at "le") (fun od => ⟨[], rfl⟩)
      (fun od j ρ' ⟨desb, h⟩ => by subst h; exact ⟨rfl, rfl, by walk_at "ap"⟩) (fun od j k v Hb' Hd' H' σ' ρ' hj hR e' w => ?_) fun od σ' Hd' H' ρ' e' hR w => ?_
    · obtain ⟨desb, rfl⟩ := hR
      obtain ⟨⟨p, o⟩, hp, rfl, rfl⟩ := encL_get hj
      have hpk : (L.map (·.1))[j]? = some p := by rw [List.getElem?_map, hp]; rfl
      have hpm : p ∈ L.map (·.1) := List.mem_of_getElem? hpk
      obtain ⟨o, ho, hol⟩ := gp_get gL hpm
      have hlook : lookD (encPD L) (encP p) = some (encI o) := by rw [look_enc encP_inj, ho]; rfl
      have gB : GE W.length (foldN (endStep r L) (L.map (·.1)) [] j) := ge_fold (Q := GE W.length) (fun B p hp hB => ge_end hr gL hp hB) GE.nil j
      have hstep := foldN_succ (f := endStep r L) (b := []) hpk
      generalize foldN (endStep r L) (L.map (·.1)) [] j = B at w gB hstep
      have hBl := gB.len
      refine fun DD => w.qasg (a := .d (encQ ((afterTurn r p).1, (afterTurn r p).2.1))) (ev_is (ev_slT (ev_callE (by walk_at "evl") (by rfl) ⟨r, p, rfl, rfl⟩) (by walk_at "evo") (by walk_at "evo") (by walk_at "cut")) (by rfl)) fun σ Hd H1 x4 w => ?_
      refine w.if_ (evt_test (ev_tnotin (kd := tupOf (encQ ((afterTurn r p).1, (afterTurn r p).2.1))) (by walk_at "ev") (by walk_at "ev") (keys_enc encQ_leaf _) (by rfl))) (fun hb Hd H1 x5 w => ?_) (fun hb Hd H1 x5 w => ?_)
      · have hb : (lkL B ((afterTurn r p).1, (afterTurn r p).2.1)).isSome = false := by
          have hb : (!(lookD (encED B) (encQ ((afterTurn r p).1, (afterTurn r p).2.1))).isSome) = true := hb
          rw [look_enc encQ_inj] at hb
          cases hq : lkL B ((afterTurn r p).1, (afterTurn r p).2.1) with
          | none => rfl
          | some v => rw [hq] at hb; cases hb
        refine w.tput (i := 12) (kd := tupOf (encQ ((afterTurn r p).1, (afterTurn r p).2.1))) (d := encI o) rfl rfl hmb0 (by walk_at "ap") (by walk_at "ev") (ev_tget (kd := tupOf (encP p)) (by walk_at "ev") (by walk_at "ev") (keys_enc encP_leaf _) (by rfl) hlook) (keys_enc encQ_leaf _) (by rfl) (by rw [encL_len]; omega) fun des' Hd' H' x6 hk w => ?_
        refine w.ls (((e'.trans x4.d).trans x5.d).trans x6.d) (ρ' := ls [.d (encR r), .unk, .unk, .dt m (some od) des (encPD L), .unk, .unk, .unk, .unk, .unk, .unk, .unk, .unk, .dt mb none des' (encED (putL B ((afterTurn r p).1, (afterTurn r p).2.1) o)), .unk]) ?_ ⟨des', ?_⟩
        · have : putD (encED B) (.tuple (tupOf (encQ ((afterTurn r p).1, (afterTurn r p).2.1)))) (encI o) = encED (putL B ((afterTurn r p).1, (afterTurn r p).2.1) o) := put_enc encQ_inj _ _ _
          rw [this]
          walk_at "le"
        · rw [hstep]
          unfold endStep
          rw [if_neg (by rw [hb]; decide), ho]
          rfl
      · have hb : (lkL B ((afterTurn r p).1, (afterTurn r p).2.1)).isSome = true := by
          have hb : (!(lookD (encED B) (encQ ((afterTurn r p).1, (afterTurn r p).2.1))).isSome) = false := hb
          rw [look_enc encQ_inj] at hb
          cases hq : lkL B ((afterTurn r p).1, (afterTurn r p).2.1) with
          | none => rw [hq] at hb; cases hb
          | some v => rfl
        refine w.ls ((e'.trans x4.d).trans x5.d) (ρ' := ls [.d (encR r), .unk, .unk, .dt m (some od) des (encPD L), .unk, .unk, .unk, .unk, .unk, .unk, .unk, .unk, .dt mb none desb (encED B), .unk]) (by walk_at "le") ⟨desb, ?_⟩
        rw [hstep]
        unfold endStep
        rw [if_pos hb]
    · obtain ⟨desb, rfl⟩ := hR
      rw [encL_len] at w
      refine w.ret (a := .dt mb none desb (encED (turnEnds r W q0))) ?_ fun v Hd' H' x h => q v _ Hd' H' ⟨mb, desb, rfl⟩ (fun m' hm' => by cases hm'; exact hmb0) x h
      rw [hends, List.length_map]
      walk_at "ev"⟩
end
end LW

set_option Elab.async false
set_option linter.all false
set_option maxRecDepth 100000
set_option maxHeartbeats 4000000
namespace LW
open PySem PySem.Spec PyProof.Rows L2 Evl
local macro_rules | `(tactic| walk_at "ev") => `(tactic| first
  | with_reducible exact ev_int | with_reducible exact ev_bl | with_reducible exact ev_str | with_reducible exact ev_non
  | ((with_reducible apply ev_var) <;> rfl)
  | ((with_reducible apply ev_ixT) <;> first | walk_at "ev" | rfl)
  | ((with_reducible apply ev_ixL) <;> first | walk_at "ev" | rfl)
  | ((with_reducible apply ev_ixM) <;> first | walk_at "ev" | rfl)
  | ((with_reducible apply ev_I0) <;> walk_at "ev")
  | ((with_reducible apply ev_B0) <;> walk_at "ev")
  | ((with_reducible apply ev_U) <;> walk_at "ev")
  | ((with_reducible apply ev_tup) <;> first | walk_at "evd" | exact Nat.le_of_ble_eq_true rfl)
  | ((with_reducible apply ev_lst) <;> first | walk_at "evd" | exact Nat.le_of_ble_eq_true rfl)
  | ((with_reducible apply ev_eqI) <;> walk_at "ev")
  | ((with_reducible apply ev_eqS) <;> walk_at "ev")
  | ((with_reducible apply ev_neI) <;> walk_at "ev")
  | ((with_reducible apply ev_neS) <;> walk_at "ev")
  | ((with_reducible apply ev_notV) <;> walk_at "ev")
  | ((with_reducible apply ev_andV) <;> first | walk_at "ev" | (intro _; walk_at "ev"))
  | ((with_reducible apply ev_orV) <;> first | walk_at "ev" | (intro _; walk_at "ev"))
  | ((with_reducible apply ev_min) <;> walk_at "evl")
  | ((with_reducible apply ev_max) <;> walk_at "evl")
  | ((with_reducible apply ev_slT) <;> first | walk_at "ev" | walk_at "evo" | walk_at "cut")
  | ((with_reducible apply ev_slL) <;> first | walk_at "ev" | walk_at "evo")
  | ((with_reducible apply ev_catT) <;> first | walk_at "ev" | exact Nat.le_of_ble_eq_true rfl | (intro z; cases z))
  | ((with_reducible apply ev_abs) <;> walk_at "evl")
  | ((with_reducible apply ev_intI) <;> walk_at "evl")
  | ((with_reducible apply ev_intB) <;> walk_at "evl")
  | ((with_reducible apply ev_lenL) <;> walk_at "evl"))
local macro_rules | `(tactic| walk_at "evd") => `(tactic| first | with_reducible exact evd_nil | ((with_reducible apply evd_cons) <;> first | walk_at "ev" | walk_at "evd"))
local macro_rules | `(tactic| walk_at "evl") => `(tactic| first | with_reducible exact evl_nil | ((with_reducible apply evl_cons) <;> first | walk_at "ev" | walk_at "evl"))
local macro_rules | `(tactic| walk_at "evo") => `(tactic| first | with_reducible exact evo_none | ((with_reducible apply evo_some) <;> walk_at "ev"))
local macro_rules | `(tactic| walk_at "evt") => `(tactic| first
  | ((with_reducible apply evt_test) <;> walk_at "ev")
  | ((with_reducible apply evt_B) <;> walk_at "ev")
  | ((with_reducible apply evt_not) <;> walk_at "evt")
  | ((with_reducible apply evt_and) <;> first | walk_at "evt" | (intro _; walk_at "evt"))
  | ((with_reducible apply evt_or) <;> first | walk_at "evt" | (intro _; walk_at "evt")))
local macro_rules | `(tactic| walk_at "cut") => `(tactic| (intro z; simp [HT.sIx] at z))
local macro_rules | `(tactic| walk_at "le") => `(tactic| (refine ⟨rfl, ?_⟩; repeat (first | exact trivial | refine ⟨?_, ?_⟩ | exact Or.inr (Or.inl rfl) | exact Or.inl rfl | exact Or.inr (Or.inr rfl))))
local macro_rules | `(tactic| walk_at "ap") => `(tactic| repeat (first | exact trivial | refine ⟨?_, ?_⟩ | exact Or.inl rfl | exact Or.inr (ne_cell rfl) | exact Or.inr (ne_cell2 rfl (by assumption)) | exact Or.inr (ne_cell2 (by assumption) (by assumption)) | exact Or.inr (by assumption)))
section
variable {P : Program} {w : World} {K : PySem.W.Frag} {mg : Str → Option Value} {base : Heap} {C : Cl P w} {Hd0 H0 Hd H : Hp} {σ : L2.St} {ρ : En} {ta tb te : TE} {D : Ends} {tu tz : TS}
def isNone : PyData → Bool
  | .none => true
  | _ => false
theorem ev_isN {d : PyData} (ha : Ev K C ta ρ (.d d)) (hb : Ev K C tb ρ (.d .none)) : Ev K C (tOp (fun x y H Q => y = .non ∧ Q (.bl (decide (x = .non))) H) ta tb) ρ (.d (.bool (isNone d))) :=
  ev2 ha hb fun Hd H x y ex hx hy Q q => ⟨dp_non_inv hy, by
    have hx : Dp K Hd x d := hx
    have : decide (x = V.non) = isNone d := by cases hx <;> simp [isNone]
    rw [this]
    exact q _ Hd H (Xt.refl ex) (Dp.bl _)⟩
theorem Wx.forD {i : Nat} {m : Addr} {des : List DE} {es : List (PyData × PyData)} {g : TG} (w_ : Wx K C Hd0 H0 Hd H σ ρ) (hi : Nat.blt i ρ.n = true) (hx : ρ.f i = some (.dt m none des es)) (h0 : H0 m = none) (ap : ApN ρ i m ρ.n) (G : En → PyData → En)
    (hg : ∀ (Hd' H' : Hp) σ' ρ' x d (Q : L2.St → Hp → Prop), Ex Hd' H' → Dp K Hd' x d → d ∈ es.map (·.1) → EnvR K C Hd' H' σ' ρ' → (∀ σ2, EnvR K C Hd' H' σ2 (G ρ' d) → Q σ2 H') → g x σ' H' Q)
    (R : Obj → Nat → En → Prop) (ρ0 : Obj → En) (hle : ∀ od, En.le (ρ0 od) (ρ.set i (.dt m (some od) des es))) (hR0 : ∀ od, R od 0 (ρ0 od))
    (hR : ∀ od j ρ', R od j ρ' → Nat.blt i ρ'.n = true ∧ ρ'.f i = some (.dt m (some od) des es) ∧ ApN ρ' i m ρ'.n)
    (hs : ∀ od (j : Nat) k v Hb' Hd' H' σ' ρ', es[j]? = some (k, v) → R od j ρ' → Ex Hb' Hd' → Wx K C Hd0 H0 Hd' H' σ' (G ρ' k) → ∀ DD : Ends, tu { DD with nx := LS K C Hd0 H0 Hb' (R od (j + 1)), ct := LS K C Hd0 H0 Hb' (R od (j + 1)) } σ' H')
    (hd : ∀ od σ' Hd' H' ρ', Ex Hd Hd' → R od es.length ρ' → Wx K C Hd0 H0 Hd' H' σ' (ρ'.set i (.dt m none des es)) → D.nx σ' H') : tLock (tFor (iT P w (tVar i)) g tu) D σ H :=
  w_.qforD (tz := fun _ σ' H' => D.nx σ' H') (D := D) hi hx h0 ap G hg R ρ0 hle hR0 hR hs hd
theorem sIx_of {n d : Nat} {i : Int} (h0 : 0 ≤ i) (h1 : i ≤ n) : HT.sIx n d (some i) = i.toNat := by
  unfold HT.sIx
  simp only
  rw [if_neg (by omega)]
  omega
theorem cut_slice {c : List Wr} {t : Tn} (h0 : 0 ≤ t.a) (h1 : t.a < t.b) (h2 : t.b ≤ c.length) : PyData.list (cutD (c.map encW) (some t.a) (some t.b)) = encC (sliceW c t) := by
  unfold cutD encC sliceW
  rw [List.length_map, sIx_of h0 (by omega), sIx_of (by omega) (by omega), List.map_take, List.map_drop]
def encB (z : Int × List Int) : PyData := .tuple [.int z.1, encI z.2]
def encO : Option (Int × List Int) → PyData
  | some z => encB z
  | none => .none
abbrev encBD (L : BD) := encL encQ encB L
def SetOk2 (s : SetD) : Prop := 0 < s.size ∧ s.size ≤ 10 ∧ 0 ≤ s.p0.every ∧ s.p0.every ≤ 9 ∧ 0 ≤ s.p1.every ∧ s.p1.every ≤ 9 ∧ QOk (firstQuick s)
theorem SetOk2.rs {s : SetD} (h : SetOk2 s) : RsOk (rulesOf s) := fun e he => by
  obtain ⟨a, b, c, d, e1, f, _⟩ := h
  refine ⟨a, b, ?_, ?_⟩ <;> unfold rulesOf SetD.pol <;> dsimp only <;> split <;> assumption
theorem SetOk2.ok {s : SetD} (h : SetOk2 s) : SetOk s := ⟨h.1, by have := h.2.1; omega, by have := h.2.2.2.1; omega, by have := h.2.2.2.2.2.1; omega⟩
theorem evt_betterN {sign a : Int} {t1 t2 : TT} {f : Option (Int × List Int)} (h1 : EvT K C t1 ρ f.isNone) (h2 : ∀ z, f = some z → EvT K C t2 ρ (decide (sign * a < sign * z.1))) : EvT K C (tOr t1 t2) ρ (betterB sign f a) := by
  cases f with
  | none => exact evt_is (evt_or (a := true) (b := false) h1 fun z => nomatch z) rfl
  | some z => exact evt_is (evt_or (a := false) h1 fun _ => h2 z rfl) (by rfl)
def FBest : List AV → (AV → Prop) → Prop := fun as Pr => ∃ (s : SetD) (c : List Wr) (sign : Int), as = [.set s, .d (encC c), .d (.int sign)] ∧ SetOk2 s ∧ ConvOk c ∧ (sign = 1 ∨ sign = -1) ∧ Pr = fun a => a = .d (encO (bestOrders (rulesOf s) (firstQuick s) c sign))
theorem ok_best_orders {f : Addr} {fd : FuncData} (F : Fun K "best_orders" "best_orders" s_best_orders f fd) (T : Txt K mg C) (d_first_quick : Df P w K mg base "first_quick" 1 ps_first_quick (SpD K C FFirstQuick)) (d_split_turns : Df P w K mg base "split_turns" 1 ps_split_turns (SpD K C FSplit))
    (d_rules_of : Df P w K mg base "rules_of" 1 ps_rules_of (SpD K C FRulesOf)) (d_turn_ends : Df P w K mg base "turn_ends" 4 ps_turn_ends (SpN K C FTurnEnds)) (d_with_quick : Df P w K mg base "with_quick" 1 ps_with_quick (SpD K C FWithQuick)) :
    FnOk P w K mg base CX0 5 f fd ps_best_orders (SpD K C FBest) := by
  refine okD F sc_best_orders (fun as Pr ⟨_, _, _, e, _⟩ => by subst e; rfl) fun cdv A outer s H vs E hr => by
    have hu := Nat.lt_of_le_of_lt (Nat.add_le_add_left (by decide : 1 ≤ 64) _) hr.units
    exact ⟨_,
(pss_cons (ps_set (i := 3) sc_best_orders.nd rfl (Or.inl rfl) (peTOneP P w K rfl rfl rfl hu (pe_df d_first_quick (hr.mono (by decide)) rfl (pa_cons (pv 0) pa_nil)) (pe_tup (pa_cons pe_int (pa_cons (pe_lst pa_nil) pa_nil)))))
    (pss_cons (ps_for PassesOwn.never rfl (piList K (pe_df d_split_turns (hr.mono (by decide)) rfl (pa_cons (pv 1) pa_nil))) (pgTup K rfl (pgs_cons (pg_name (i := 4) sc_best_orders.nd rfl (Or.inl rfl)) (pgs_cons (pg_name (i := 5) sc_best_orders.nd rfl (Or.inl rfl)) (pgs_cons (pg_name (i := 6) sc_best_orders.nd rfl (Or.inl rfl)) pgs_nil)))) (pss_cons (ps_set (i := 7) sc_best_orders.nd rfl (Or.inl rfl) (pe_df d_rules_of (hr.mono (by decide)) rfl (pa_cons (pv 0) (pa_cons (pv 4) pa_nil))))
    (pss_cons (ps_set (i := 8) sc_best_orders.nd rfl (Or.inl rfl) (peTNewP P w))
    (pss_cons (ps_lock (ps_for PassesOwn.never rfl (piTP P w (pv 3)) (pg_name (i := 9) sc_best_orders.nd rfl (Or.inl rfl)) (pss_cons (ps_asg (petGetP P w K rfl rfl rfl hu (pv 3) (pv 9) (fun _ _ => rfl)) (pgTup K rfl (pgs_cons (pg_name (i := 10) sc_best_orders.nd rfl (Or.inl rfl)) (pgs_cons (pg_name (i := 11) sc_best_orders.nd rfl (Or.inl rfl)) pgs_nil))))
    (pss_cons (ps_set (i := 12) sc_best_orders.nd rfl (Or.inl rfl) (pe_df d_turn_ends (hr.mono (by decide)) rfl (pa_cons (pv 7) (pa_cons (pe_slice (slL K) (pv 1) (po_some (pv 5)) (po_some (pv 6))) (pa_cons (pe_ix (ixT K) (pv 9) (pe_op op_sub pe_int (pv 4)) (fun _ _ => rfl)) pa_nil)))))
    (pss_one (ps_lock (ps_for PassesOwn.never rfl (piTP P w (pv 12)) (pgTup K rfl (pgs_cons (pg_name (i := 13) sc_best_orders.nd rfl (Or.inl rfl)) (pgs_cons (pg_name (i := 14) sc_best_orders.nd rfl (Or.inl rfl)) pgs_nil))) (pss_cons (ps_set (i := 15) sc_best_orders.nd rfl (Or.inl rfl) (pe_df d_with_quick (hr.mono (by decide)) rfl (pa_cons (pv 9) (pa_cons (pe_op op_sub pe_int (pv 4)) (pa_cons (pv 14) pa_nil)))))
    (pss_one (ps_if (PW.pt (pw_or (pt_cmpR (opTNotInP P w K rfl rfl rfl hu) (pv 15) (pv 8) rfl) (pw_or1 (pt_cmpR op_lt (pe_op op_mul (pv 2) (pe_op op_add (pv 10) (pv 13))) (pe_op op_mul (pv 2) (pe_ix (ixT K) (petGetP P w K rfl rfl rfl hu (pv 8) (pv 15) (fun _ _ => rfl)) pe_int (fun _ _ => rfl))) (nomark _))))) (pss_one (psTPutP P w K rfl rfl rfl hu (pv 8) (pv 15) (pe_tup (pa_cons (pe_op op_add (pv 10) (pv 13)) (pa_cons (pe_op (opCatL K) (pv 11) (petGetP P w K rfl rfl rfl hu (pv 12) (pe_tup (pa_cons (pv 13) (pa_cons (pv 14) pa_nil))) (fun _ _ => rfl))) pa_nil))) rfl)) pss_nil))))))))))
    (pss_one (ps_set (i := 3) sc_best_orders.nd rfl (Or.inl rfl) (pv 8)))))))
    (pss_cons (ps_set (i := 16) sc_best_orders.nd rfl (Or.inl rfl) pe_non)
    (pss_cons (ps_lock (ps_for PassesOwn.never rfl (piTP P w (pv 3)) (pg_name (i := 9) sc_best_orders.nd rfl (Or.inl rfl)) (pss_one (ps_if (PW.pt (pw_or (pt_cmpR op_isN (pv 16) pe_non (nomark _)) (pw_or1 (pt_cmpR op_lt (pe_op op_mul (pv 2) (pe_ix (ixT K) (petGetP P w K rfl rfl rfl hu (pv 3) (pv 9) (fun _ _ => rfl)) pe_int (fun _ _ => rfl))) (pe_op op_mul (pv 2) (pe_ix (ixT K) (pv 16) pe_int (fun _ _ => rfl))) (nomark _))))) (pss_one (ps_set (i := 16) sc_best_orders.nd rfl (Or.inl rfl) (petGetP P w K rfl rfl rfl hu (pv 3) (pv 9) (fun _ _ => rfl)))) pss_nil))))
    (pss_one (ps_ret (pv 16))))))), by
  rintro Hd as Pr Q σ ⟨s, c, sign, rfl, hs, hc, hsg, rfl⟩ w q
  have hsgn : ∀ x : Int, CMul sign x := fun x => .inl (by omega)
  have hlen := hc.2
  have hst := splitTurns_len c
  have hS := spI c
  refine w.qoneT (kd := [_, _]) (d := encB (0, [])) (ev_callE (by walk_at "evl") (by rfl) ⟨s, rfl, rfl⟩) (ev_is (by walk_at "ev") (by rfl)) (by rfl) fun m0 des0 σ Hd1 H1 hm hm0 x w => ?_
  refine w.qforLT (is := [4, 5, 6]) (ev_callE (by walk_at "evl") (by rfl) ⟨c, rfl, by omega, rfl⟩) rfl tupOf (fun d hd => ?_)
    (fun i ρ' => ∃ m des, H m = none ∧ ρ' = ls [.set s, .d (encC c), .d (.int sign), .dt m none des (encBD (bestN (rulesOf s) (firstQuick s) c sign (splitTurns c) i)), .unk, .unk, .unk, .unk, .unk, .unk, .unk, .unk, .unk, .unk, .unk, .unk, .unk])
    (ls [.set s, .d (encC c), .d (.int sign), .dt m0 none des0 [(encQ (firstQuick s), encB (0, []))], .unk, .unk, .unk, .unk, .unk, .unk, .unk, .unk, .unk, .unk, .unk, .unk, .unk]) (by walk_at "le") ⟨m0, des0, hm0, rfl⟩ (fun i d Hb Hd H1 σ ρ' hi hR e w => ?_) fun σ Hd H1 ρ' e w hR => ?_
  · obtain ⟨t, _, rfl⟩ := List.mem_map.mp hd
    exact ⟨rfl, rfl⟩
  · obtain ⟨m, des, hm0, rfl⟩ := hR
    rw [List.getElem?_map] at hi
    cases ht : (splitTurns c)[i]? with
    | none => rw [ht] at hi; cases hi
    | some t =>
    rw [ht] at hi; cases hi
    obtain ⟨a1, a2, a3, a4⟩ := hS.at_ i t ht
    have hwho := tn_who hc.1 hS ht
    have hoth : 1 - t.who = 0 ∨ 1 - t.who = 1 := by omega
    have hil := (List.getElem?_eq_some_iff.mp ht).1
    have gL := gb_best hs.rs hs.2.2.2.2.2.2 hc.1 hS (sign := sign) i (by omega)
    have hso : startOf (splitTurns c) c.length i = t.a.toNat := by unfold startOf; rw [ht]
    rw [hso] at gL
    have hnext : bestN (rulesOf s) (firstQuick s) c sign (splitTurns c) (i + 1) = foldN (quickStep (rulesOf s) c sign t (bestN (rulesOf s) (firstQuick s) c sign (splitTurns c) i)) ((bestN (rulesOf s) (firstQuick s) c sign (splitTurns c) i).map (·.1)) [] ((bestN (rulesOf s) (firstQuick s) c sign (splitTurns c) i).map (·.1)).length := by
      rw [foldN_all, bestN, ht]; rfl
    generalize bestN (rulesOf s) (firstQuick s) c sign (splitTurns c) i = L at w gL hnext
    refine w.qasg (ev_callE (by walk_at "evl") (by rfl) ⟨s, t.who, rfl, hwho, rfl⟩) fun σ Hd1 H1 x1 w => ?_
    have hold := w.cell_old (i := 3) (m := m) rfl rfl rfl
    refine w.qnewT fun mb σ H2 hmb hmb0 x2 w => ?_
    have hne : mb ≠ m := fun z => hold (z ▸ hmb)
    have hne' : m ≠ mb := fun z => hne z.symm
    refine w.qforD (i := 3) rfl rfl hm0 (by walk_at "ap") (fun ρ' d => ρ'.set 9 (.d d)) (fun Hd' H' σ' ρ' x d Q ex hx _ r' k => k _ (r'.set (a := .d d) hx 9))
      (fun od j ρ' => ∃ desb, ρ' = ls [.set s, .d (encC c), .d (.int sign), .dt m (some od) des (encBD L), .d (.int t.who), .d (.int t.a), .d (.int t.b), .d (encR (rulesOf s t.who)), .dt mb none desb (encBD (foldN (quickStep (rulesOf s) c sign t L) (L.map (·.1)) [] j)), .unk, .unk, .unk, .unk, .unk, .unk, .unk, .unk])
      (fun od => ls [.set s, .d (encC c), .d (.int sign), .dt m (some od) des (encBD L), .d (.int t.who), .d (.int t.a), .d (.int t.b), .d (encR (rulesOf s t.who)), .dt mb none [] [], .unk, .unk, .unk, .unk, .unk, .unk, .unk, .unk]) (fun od => by walk_at "le") (fun od => ⟨[], rfl⟩)
      (fun od j ρ' ⟨desb, h⟩ => by subst h; exact ⟨rfl, rfl, by walk_at "ap"⟩) (fun od j k v Hb' Hd' H' σ' ρ' hj hR e' w => ?_) fun od σ' Hd' H' ρ' e' hR w => ?_
    · obtain ⟨desb, rfl⟩ := hR
      obtain ⟨⟨quick, so⟩, hp, rfl, rfl⟩ := encL_get hj
      have hpk : (L.map (·.1))[j]? = some quick := by rw [List.getElem?_map, hp]; rfl
      have hpm : quick ∈ L.map (·.1) := List.mem_of_getElem? hpk
      obtain ⟨so, hso, hsol⟩ := gb_get gL hpm
      have hlook : lookD (encBD L) (encQ quick) = some (encB so) := by rw [look_enc encQ_inj, hso]; rfl
      have hqk := gL.pb quick hpm
      have gB : GB t.b.toNat (foldN (quickStep (rulesOf s) c sign t L) (L.map (·.1)) [] j) := fold_inv (Q := GB _) (fun B p hp hB => gb_quick (hs.rs _ hwho) hc.1 a1 a2 a3 gL hB hp) GB.nil j
      have hstep := foldN_succ (f := quickStep (rulesOf s) c sign t L) (b := []) hpk
      generalize foldN (quickStep (rulesOf s) c sign t L) (L.map (·.1)) [] j = B at w gB hstep
      have hpick := qok_pick hqk (1 - t.who)
      have gE := ge_ends (hs.rs _ hwho) (fun x hx => (sliceW_ok hc.1 (t := t) x hx).2.1) hpick.1 hpick.2
      have hsl := sliceW_len a1 a2 a3
      rw [hsl] at gE
      have hbn : t.b.toNat = t.a.toNat + (t.b.toNat - t.a.toNat) := by omega
      rw [hbn] at gB
      have hks : quickStep (rulesOf s) c sign t L B quick = foldN (endPut sign t.who quick so (turnEnds (rulesOf s t.who) (sliceW c t) (pickQ quick (1 - t.who)))) ((turnEnds (rulesOf s t.who) (sliceW c t) (pickQ quick (1 - t.who))).map (·.1)) B ((turnEnds (rulesOf s t.who) (sliceW c t) (pickQ quick (1 - t.who))).map (·.1)).length := by
        rw [foldN_all, quickStep, hso]; rfl
      refine fun DD => w.qun (is := [10, 11]) (ds := [_, _]) (ev_tget (kd := tupOf (encQ quick)) (by walk_at "ev") (by walk_at "ev") (keys_enc encQ_leaf _) (by rfl) hlook) rfl rfl fun σ Hd H1 x3 w => ?_
      have w0 := w
      refine w.qnasg (evn_call (evl_cons (by walk_at "ev") (evl_cons (ev_is (ev_slL (by walk_at "ev") (by walk_at "evo") (by walk_at "evo")) (congrArg AV.d (cut_slice a1 a2 a3))) (evl_cons (ev_ixT (by walk_at "ev") (by walk_at "ev") (atI_Q hoth)) evl_nil))) (by rfl) ⟨rulesOf s t.who, sliceW c t, _, rfl, hs.rs _ hwho, sliceW_ok hc.1, by omega, hpick.1, hpick.2, rfl⟩) fun a σ Hd3 H3 ha hfr x4 w => ?_
      obtain ⟨me, dese, rfl⟩ := ha
      obtain ⟨hme, hme0⟩ := hfr me rfl
      generalize turnEnds (rulesOf s t.who) (sliceW c t) (pickQ quick (1 - t.who)) = EE at w gE hks
      have hn1 : me ≠ m := fun z => (w0.cell_old (i := 3) (m := m) rfl rfl rfl) (z ▸ hme)
      have hn2 : me ≠ mb := fun z => (w0.cell_old (i := 8) (m := mb) rfl rfl rfl) (z ▸ hme)
      have hn1' : m ≠ me := fun z => hn1 z.symm
      have hn2' : mb ≠ me := fun z => hn2 z.symm
      refine w.forD (i := 12) rfl rfl hme0 (by walk_at "ap") (fun ρ' d => setsA ρ' [13, 14] (tupOf d)) (fun Hd' H' σ' ρ' x d Q ex hx hd r' k => ?_)
        (fun ode l ρ' => ∃ desb, ρ' = ls [.set s, .d (encC c), .d (.int sign), .dt m (some od) des (encBD L), .d (.int t.who), .d (.int t.a), .d (.int t.b), .d (encR (rulesOf s t.who)), .dt mb none desb (encBD (foldN (endPut sign t.who quick so EE) (EE.map (·.1)) B l)), .d (encQ quick), .d (.int so.1), .d (encI so.2), .dt me (some ode) dese (encED EE), .unk, .unk, .unk, .unk])
        (fun ode => ls [.set s, .d (encC c), .d (.int sign), .dt m (some od) des (encBD L), .d (.int t.who), .d (.int t.a), .d (.int t.b), .d (encR (rulesOf s t.who)), .dt mb none desb (encBD B), .d (encQ quick), .d (.int so.1), .d (encI so.2), .dt me (some ode) dese (encED EE), .unk, .unk, .unk, .unk]) (fun ode => by walk_at "le") (fun ode => ⟨desb, rfl⟩)
        (fun ode l ρ' ⟨desb, h⟩ => by subst h; exact ⟨rfl, rfl, by walk_at "ap"⟩) (fun ode l k v Hb2 Hd2 H2 σ2 ρ2 hl hR2 e2 w => ?_) fun ode σ2 Hd2 H2 ρ2 e2 hR2 w => ?_
      · obtain ⟨z, hz, rfl⟩ := List.mem_map.mp hd
        obtain ⟨z, _, rfl⟩ := List.mem_map.mp hz
        obtain ⟨p, us, rfl, p1, p2⟩ := dp_tup_inv (ds := [_, _]) hx
        exact ⟨p, us, rfl, ex_t ex p1, by rw [dpall_len p2]; rfl, names_go [13, 14] rfl p2 r' fun σ2 r2 => k σ2 r2⟩
      · obtain ⟨desb, rfl⟩ := hR2
        obtain ⟨⟨en, eo⟩, hep, rfl, rfl⟩ := encL_get hl
        have hek : (EE.map (·.1))[l]? = some en := by rw [List.getElem?_map, hep]; rfl
        have hem : en ∈ EE.map (·.1) := List.mem_of_getElem? hek
        obtain ⟨eo, heo⟩ := lkL_some hem
        have heol : eo.length = _ := gE.ol _ (lkL_mem heo)
        have helook : lookD (encED EE) (encQ en) = some (encI eo) := by rw [look_enc encQ_inj, heo]; rfl
        have gB2 : GB (t.a.toNat + (t.b.toNat - t.a.toNat)) (foldN (endPut sign t.who quick so EE) (EE.map (·.1)) B l) := fold_inv (Q := GB _) (fun B x hx hB => gb_end hqk hsol gE hx hB) gB l
        have hstep2 := foldN_succ (f := endPut sign t.who quick so EE) (b := B) hek
        generalize foldN (endPut sign t.who quick so EE) (EE.map (·.1)) B l = B2 at w gB2 hstep2
        have hB2 := gB2.len
        refine fun DD => w.qasg (ev_callE (by walk_at "evl") (by rfl) ⟨quick, 1 - t.who, en.2, rfl, rfl⟩) fun σ Hd H1 x5 w => ?_
        have hlk2 : ∀ z, lkL B2 (withQuick quick (1 - t.who) en.2) = some z → lookD (encBD B2) (encQ (withQuick quick (1 - t.who) en.2)) = some (encB z) := fun z hz => by rw [look_enc encQ_inj, hz]; rfl
        refine w.if_ (evt_betterN (f := lkL B2 (withQuick quick (1 - t.who) en.2)) (sign := sign) (a := so.1 + en.1) (evt_is (evt_test (ev_tnotin (kd := tupOf (encQ (withQuick quick (1 - t.who) en.2))) (by walk_at "ev") (by walk_at "ev") (keys_enc encQ_leaf _) (by rfl))) ?_) fun z hz => evt_is (evt_test (ev_B0 (i := sign * (so.1 + en.1)) (j := sign * z.1) (ev_I (by walk_at "ev") (ev_I0 (by walk_at "ev") (by walk_at "ev")) (hsgn _)) (ev_I (by walk_at "ev") (ev_ixT (ds := [.int z.1, encI z.2]) (ev_tget (kd := tupOf (encQ (withQuick quick (1 - t.who) en.2))) (by walk_at "ev") (by walk_at "ev") (keys_enc encQ_leaf _) (by rfl) (hlk2 z hz)) (by walk_at "ev") (by rfl)) (hsgn _)))) (by rfl)) (fun hb Hd H1 x6 w => ?_) (fun hb Hd H1 x6 w => ?_)
        · show (!(lookD (encBD B2) (encQ (withQuick quick (1 - t.who) en.2))).isSome) = _
          rw [look_enc encQ_inj]
          cases lkL B2 (withQuick quick (1 - t.who) en.2) <;> rfl
        · refine w.tput (i := 8) (kd := tupOf (encQ (withQuick quick (1 - t.who) en.2))) (d := encB (so.1 + en.1, so.2 ++ eo)) rfl rfl hmb0 (by walk_at "ap") (by walk_at "ev") (ev_is (ev_tup (evd_cons (by walk_at "ev") (evd_cons (ev_is (ev_catL (by walk_at "ev") (ev_tget (kd := tupOf (encQ en)) (by walk_at "ev") (ev_is (by walk_at "ev") (by rfl)) (keys_enc encQ_leaf _) (by rfl) helook) ?_) (b := .d (encI (so.2 ++ eo))) ?_) evd_nil)) (Nat.le_of_ble_eq_true rfl)) (by rfl)) (keys_enc encQ_leaf _) (by rfl) (by rw [encL_len]; omega) fun des' Hd' H' x7 hk w => ?_
          · rw [List.length_map, List.length_map]; omega
          · unfold encI; rw [List.map_append]
          have hput : putD (encBD B2) (.tuple (tupOf (encQ (withQuick quick (1 - t.who) en.2)))) (encB (so.1 + en.1, so.2 ++ eo)) = encBD (putL B2 (withQuick quick (1 - t.who) en.2) (so.1 + en.1, so.2 ++ eo)) := put_enc encQ_inj _ _ _
          rw [hput] at w
          refine w.ls (((e2.trans x5.d).trans x6.d).trans x7.d) (ρ' := ls [.set s, .d (encC c), .d (.int sign), .dt m (some od) des (encBD L), .d (.int t.who), .d (.int t.a), .d (.int t.b), .d (encR (rulesOf s t.who)), .dt mb none des' (encBD (putL B2 (withQuick quick (1 - t.who) en.2) (so.1 + en.1, so.2 ++ eo))), .d (encQ quick), .d (.int so.1), .d (encI so.2), .dt me (some ode) dese (encED EE), .unk, .unk, .unk, .unk]) (by walk_at "le") ⟨des', ?_⟩
          rw [hstep2]
          unfold endPut
          rw [if_pos hb, heo]
          rfl
        · refine w.ls ((e2.trans x5.d).trans x6.d) (ρ' := ls [.set s, .d (encC c), .d (.int sign), .dt m (some od) des (encBD L), .d (.int t.who), .d (.int t.a), .d (.int t.b), .d (encR (rulesOf s t.who)), .dt mb none desb (encBD B2), .d (encQ quick), .d (.int so.1), .d (encI so.2), .dt me (some ode) dese (encED EE), .unk, .unk, .unk, .unk]) (by walk_at "le") ⟨desb, ?_⟩
          rw [hstep2]
          unfold endPut
          rw [if_neg (by rw [hb]; decide)]
      · obtain ⟨desb, rfl⟩ := hR2
        rw [encL_len] at w
        refine w.ls (((e'.trans x3.d).trans x4.d).trans e2) (ρ' := ls [.set s, .d (encC c), .d (.int sign), .dt m (some od) des (encBD L), .d (.int t.who), .d (.int t.a), .d (.int t.b), .d (encR (rulesOf s t.who)), .dt mb none desb (encBD (foldN (endPut sign t.who quick so EE) (EE.map (·.1)) B (EE.map (·.1)).length)), .unk, .unk, .unk, .unk, .unk, .unk, .unk, .unk]) ?_ ⟨desb, by rw [hstep, hks]⟩
        rw [List.length_map]
        walk_at "le"
    · obtain ⟨desb, rfl⟩ := hR
      rw [encL_len] at w
      refine w.asg (by walk_at "ev") fun σ Hd2 H2 x7 w => ?_
      refine w.ls ((((e.trans x1.d).trans x2.d).trans e').trans x7.d) (ρ' := ls [.set s, .d (encC c), .d (.int sign), .dt mb none desb (encBD (bestN (rulesOf s) (firstQuick s) c sign (splitTurns c) (i + 1))), .unk, .unk, .unk, .unk, .unk, .unk, .unk, .unk, .unk, .unk, .unk, .unk, .unk]) ?_ ⟨mb, desb, hmb0, rfl⟩
      rw [hnext, List.length_map]
      walk_at "le"
  · obtain ⟨m, des, hm0, rfl⟩ := hR
    rw [List.length_map] at w
    have hbo : bestOrders (rulesOf s) (firstQuick s) c sign = foldN (foundStep sign (bestN (rulesOf s) (firstQuick s) c sign (splitTurns c) (splitTurns c).length)) ((bestN (rulesOf s) (firstQuick s) c sign (splitTurns c) (splitTurns c).length).map (·.1)) none ((bestN (rulesOf s) (firstQuick s) c sign (splitTurns c) (splitTurns c).length).map (·.1)).length := by
      rw [foldN_all]; rfl
    generalize bestN (rulesOf s) (firstQuick s) c sign (splitTurns c) (splitTurns c).length = L at w hbo
    refine w.qasg (by walk_at "ev") fun σ Hd1 H1 x1 w => ?_
    refine w.qforD (i := 3) rfl rfl hm0 (by walk_at "ap") (fun ρ' d => ρ'.set 9 (.d d)) (fun Hd' H' σ' ρ' x d Q ex hx _ r' k => k _ (r'.set (a := .d d) hx 9))
      (fun od j ρ' => ρ' = ls [.unk, .unk, .d (.int sign), .dt m (some od) des (encBD L), .unk, .unk, .unk, .unk, .unk, .unk, .unk, .unk, .unk, .unk, .unk, .unk, .d (encO (foldN (foundStep sign L) (L.map (·.1)) none j))])
      (fun od => ls [.unk, .unk, .d (.int sign), .dt m (some od) des (encBD L), .unk, .unk, .unk, .unk, .unk, .unk, .unk, .unk, .unk, .unk, .unk, .unk, .d .none]) (fun od => by walk_at "le") (fun od => rfl)
      (fun od j ρ' h => by subst h; exact ⟨rfl, rfl, by walk_at "ap"⟩) (fun od j k v Hb' Hd' H' σ' ρ' hj hR e' w => ?_) fun od σ' Hd' H' ρ' e' hR w => ?_
    · subst hR
      obtain ⟨⟨quick, so⟩, hp, rfl, rfl⟩ := encL_get hj
      have hpk : (L.map (·.1))[j]? = some quick := by rw [List.getElem?_map, hp]; rfl
      have hpm : quick ∈ L.map (·.1) := List.mem_of_getElem? hpk
      obtain ⟨so, hso⟩ := lkL_some hpm
      have hlook : lookD (encBD L) (encQ quick) = some (encB so) := by rw [look_enc encQ_inj, hso]; rfl
      have hstep := foldN_succ (f := foundStep sign L) (b := none) hpk
      generalize foldN (foundStep sign L) (L.map (·.1)) none j = F0 at w hstep
      refine fun DD => w.if_ (evt_betterN (f := F0) (sign := sign) (a := so.1) (evt_is (evt_test (ev_isN (by walk_at "ev") (by walk_at "ev"))) (by cases F0 <;> rfl)) fun z hz => evt_is (evt_test (ev_B0 (i := sign * so.1) (j := sign * z.1) (ev_I (by walk_at "ev") (ev_ixT (ds := [.int so.1, encI so.2]) (ev_tget (kd := tupOf (encQ quick)) (by walk_at "ev") (by walk_at "ev") (keys_enc encQ_leaf _) (by rfl) hlook) (by walk_at "ev") (by rfl)) (hsgn _)) (ev_I (by walk_at "ev") (ev_ixT (ds := [.int z.1, encI z.2]) (ev_is (a := .d (encO F0)) (by walk_at "ev") (by rw [hz]; rfl)) (by walk_at "ev") (by rfl)) (hsgn _)))) (by rfl)) (fun hb Hd H1 x6 w => ?_) (fun hb Hd H1 x6 w => ?_)
      · refine w.asg (ev_tget (kd := tupOf (encQ quick)) (by walk_at "ev") (by walk_at "ev") (keys_enc encQ_leaf _) (by rfl) hlook) fun σ Hd H1 x7 w => ?_
        refine w.ls ((e'.trans x6.d).trans x7.d) (ρ' := ls [.unk, .unk, .d (.int sign), .dt m (some od) des (encBD L), .unk, .unk, .unk, .unk, .unk, .unk, .unk, .unk, .unk, .unk, .unk, .unk, .d (encB so)]) (by walk_at "le") ?_
        rw [hstep]
        unfold foundStep
        rw [hso]
        simp only [Option.getD_some, if_pos hb]
        rfl
      · refine w.ls (e'.trans x6.d) (ρ' := ls [.unk, .unk, .d (.int sign), .dt m (some od) des (encBD L), .unk, .unk, .unk, .unk, .unk, .unk, .unk, .unk, .unk, .unk, .unk, .unk, .d (encO F0)]) (by walk_at "le") ?_
        rw [hstep]
        unfold foundStep
        rw [hso]
        simp only [Option.getD_some, hb]
        rfl
    · subst hR
      rw [encL_len] at w
      refine w.ret (a := .d (encO (bestOrders (rulesOf s) (firstQuick s) c sign))) ?_ fun v Hd' H' x h => q v _ Hd' H' rfl x h
      rw [hbo, List.length_map]
      walk_at "ev"⟩
def FLeast (sign : Int) : List AV → (AV → Prop) → Prop := fun as Pr => ∃ (s : SetD) (c : List Wr), as = [.set s, .d (encC c)] ∧ SetOk2 s ∧ ConvOk c ∧ Pr = fun a => a = .d (encO (bestOrders (rulesOf s) (firstQuick s) c sign))
theorem ok_least {f : Addr} {fd : FuncData} (F : Fun K "least" "least" s_least f fd) (T : Txt K mg C) (d_check : Df P w K mg base "check" 4 ps_check (SpD K C FCheck)) (d_best_orders : Df P w K mg base "best_orders" 5 ps_best_orders (SpD K C FBest)) :
    FnOk P w K mg base CX0 6 f fd ps_least (SpD K C (FLeast 1)) := by
  refine okD F sc_least (fun as Pr ⟨_, _, e, _⟩ => by subst e; rfl) fun cdv A outer s H vs E hr => ⟨_,
(pss_cons (ps_expr (pe_df d_check (hr.mono (by decide)) rfl (pa_cons (pv 1) pa_nil)))
    (pss_one (ps_ret (pe_df d_best_orders (hr.mono (by decide)) rfl (pa_cons (pv 0) (pa_cons (pv 1) (pa_cons pe_int pa_nil))))))), ?_⟩
  rintro Hd as Pr Q σ ⟨s, c, rfl, hs, hc, rfl⟩ w q
  refine w.qdrop (ev_callE (by walk_at "evl") (by rfl) ⟨c, rfl, hc, rfl⟩) fun Hd H x w => ?_
  exact w.ret (ev_callE (by walk_at "evl") (by rfl) ⟨s, c, 1, rfl, hs, hc, .inl rfl, rfl⟩) fun v Hd' H' x h => q v _ Hd' H' (by rfl) x h
theorem ok_most {f : Addr} {fd : FuncData} (F : Fun K "most" "most" s_most f fd) (T : Txt K mg C) (d_check : Df P w K mg base "check" 4 ps_check (SpD K C FCheck)) (d_best_orders : Df P w K mg base "best_orders" 5 ps_best_orders (SpD K C FBest)) :
    FnOk P w K mg base CX0 6 f fd ps_most (SpD K C (FLeast (-1))) := by
  refine okD F sc_most (fun as Pr ⟨_, _, e, _⟩ => by subst e; rfl) fun cdv A outer s H vs E hr => ⟨_,
(pss_cons (ps_expr (pe_df d_check (hr.mono (by decide)) rfl (pa_cons (pv 1) pa_nil)))
    (pss_one (ps_ret (pe_df d_best_orders (hr.mono (by decide)) rfl (pa_cons (pv 0) (pa_cons (pv 1) (pa_cons (pe_un un_neg pe_int) pa_nil))))))), ?_⟩
  rintro Hd as Pr Q σ ⟨s, c, rfl, hs, hc, rfl⟩ w q
  refine w.qdrop (ev_callE (by walk_at "evl") (by rfl) ⟨c, rfl, hc, rfl⟩) fun Hd H x w => ?_
  exact w.ret (ev_callE (by walk_at "evl") (by rfl) ⟨s, c, -1, rfl, hs, hc, .inr rfl, rfl⟩) fun v Hd' H' x h => q v _ Hd' H' (by rfl) x h
end
end LW

set_option Elab.async false
set_option linter.all false
set_option maxRecDepth 100000
set_option maxHeartbeats 4000000
namespace LW
open PySem PySem.Spec PyProof.Rows L2 Evl
local macro_rules | `(tactic| walk_at "ev") => `(tactic| first
  | with_reducible exact ev_int | with_reducible exact ev_bl | with_reducible exact ev_str | with_reducible exact ev_non
  | ((with_reducible apply ev_var) <;> rfl)
  | ((with_reducible apply ev_ixT) <;> first | walk_at "ev" | rfl)
  | ((with_reducible apply ev_ixL) <;> first | walk_at "ev" | rfl)
  | ((with_reducible apply ev_ixM) <;> first | walk_at "ev" | rfl)
  | ((with_reducible apply ev_I0) <;> walk_at "ev")
  | ((with_reducible apply ev_B0) <;> walk_at "ev")
  | ((with_reducible apply ev_U) <;> walk_at "ev")
  | ((with_reducible apply ev_tup) <;> first | walk_at "evd" | exact Nat.le_of_ble_eq_true rfl)
  | ((with_reducible apply ev_lst) <;> first | walk_at "evd" | exact Nat.le_of_ble_eq_true rfl)
  | ((with_reducible apply ev_eqI) <;> walk_at "ev")
  | ((with_reducible apply ev_eqS) <;> walk_at "ev")
  | ((with_reducible apply ev_neI) <;> walk_at "ev")
  | ((with_reducible apply ev_neS) <;> walk_at "ev")
  | ((with_reducible apply ev_notV) <;> walk_at "ev")
  | ((with_reducible apply ev_andV) <;> first | walk_at "ev" | (intro _; walk_at "ev"))
  | ((with_reducible apply ev_orV) <;> first | walk_at "ev" | (intro _; walk_at "ev"))
  | ((with_reducible apply ev_min) <;> walk_at "evl")
  | ((with_reducible apply ev_max) <;> walk_at "evl")
  | ((with_reducible apply ev_slT) <;> first | walk_at "ev" | walk_at "evo" | walk_at "cut")
  | ((with_reducible apply ev_slL) <;> first | walk_at "ev" | walk_at "evo")
  | ((with_reducible apply ev_catT) <;> first | walk_at "ev" | exact Nat.le_of_ble_eq_true rfl | (intro z; cases z))
  | ((with_reducible apply ev_abs) <;> walk_at "evl")
  | ((with_reducible apply ev_intI) <;> walk_at "evl")
  | ((with_reducible apply ev_intB) <;> walk_at "evl")
  | ((with_reducible apply ev_lenL) <;> walk_at "evl"))
local macro_rules | `(tactic| walk_at "evd") => `(tactic| first | with_reducible exact evd_nil | ((with_reducible apply evd_cons) <;> first | walk_at "ev" | walk_at "evd"))
local macro_rules | `(tactic| walk_at "evl") => `(tactic| first | with_reducible exact evl_nil | ((with_reducible apply evl_cons) <;> first | walk_at "ev" | walk_at "evl"))
local macro_rules | `(tactic| walk_at "evo") => `(tactic| first | with_reducible exact evo_none | ((with_reducible apply evo_some) <;> walk_at "ev"))
local macro_rules | `(tactic| walk_at "evt") => `(tactic| first
  | ((with_reducible apply evt_test) <;> walk_at "ev")
  | ((with_reducible apply evt_B) <;> walk_at "ev")
  | ((with_reducible apply evt_not) <;> walk_at "evt")
  | ((with_reducible apply evt_and) <;> first | walk_at "evt" | (intro _; walk_at "evt"))
  | ((with_reducible apply evt_or) <;> first | walk_at "evt" | (intro _; walk_at "evt")))
local macro_rules | `(tactic| walk_at "cut") => `(tactic| (intro z; simp [HT.sIx] at z))
local macro_rules | `(tactic| walk_at "le") => `(tactic| (refine ⟨rfl, ?_⟩; repeat (first | exact trivial | refine ⟨?_, ?_⟩ | exact Or.inr (Or.inl rfl) | exact Or.inl rfl | exact Or.inr (Or.inr rfl))))
local macro_rules | `(tactic| walk_at "ap") => `(tactic| repeat (first | exact trivial | refine ⟨?_, ?_⟩ | exact Or.inl rfl | exact Or.inr (ne_cell rfl) | exact Or.inr (ne_cell2 rfl (by assumption)) | exact Or.inr (ne_cell2 (by assumption) (by assumption)) | exact Or.inr (by assumption)))
section
variable {P : Program} {w : World} {K : PySem.W.Frag} {mg : Str → Option Value} {base : Heap} {C : Cl P w}
/-- the bag: after at most n draws -/
def BagOk (n : Int) (ds : List PyData) : Prop := ∃ d k c : Int, ds = [.int d, .int k, .int c] ∧ 0 ≤ d ∧ 0 ≤ c ∧ c ≤ n
def BagAt (m : Addr) (n : Int) (a : AV) : Prop := ∃ ds, a = .ml m ds ∧ BagOk n ds
def FTake : List AV → (PyData → AV → Prop) → Prop := fun as Pr => ∃ (m : Addr) (a : AV) (many n : Int), as = [a, .d (.int many)] ∧ BagAt m n a ∧ 0 < many ∧ many ≤ 33554432 ∧ n < 1000000 ∧ Pr = fun d a' => ∃ x : Int, d = .int x ∧ 0 ≤ x ∧ x < many ∧ BagAt m (n + 1) a'
theorem ok_take {f : Addr} {fd : FuncData} (F : Fun K "_law_take" "_law_take" s_law_take f fd) (T : Txt K mg C) : FnOk P w K mg base CX0 1 f fd ps_law_take (SpC K C FTake) := by
  refine okC F sc_law_take (fun as Pr ⟨_, _, _, _, e, _⟩ => by subst e; rfl) fun cdv A outer s H vs E hr => ⟨_,
(pss_cons (ps_if (pt_cmpR op_gt (pe_ix (ixL K) (pv 0) pe_int (fun _ _ => rfl)) pe_int (nomark _)) (pss_cons (ps_set (i := 2) sc_law_take.nd rfl (Or.inl rfl) (pe_op op_mod (pe_callTy call_int1 rfl T.n_int (by decide +kernel) (pa_cons (pe_ix (ixL K) (pv 0) pe_int (fun _ _ => rfl)) pa_nil)) (pv 1)))
    (pss_cons (ps_asg (pe_op op_fdiv (pe_ix (ixL K) (pv 0) pe_int (fun _ _ => rfl)) (pv 1)) (pg_sub (pv 0) pe_int set_list))
    (pss_one (ps_ret (pv 2))))) pss_nil)
    (pss_cons (ps_asg (pe_tup (pa_cons pe_int (pa_cons pe_int pa_nil))) (pgTup K rfl (pgs_cons (pg_name (i := 3) sc_law_take.nd rfl (Or.inl rfl)) (pgs_cons (pg_name (i := 4) sc_law_take.nd rfl (Or.inl rfl)) pgs_nil))))
    (pss_cons (ps_while PassesOwn.never (pt_cmpR op_lt (pv 4) (pv 1) (nomark _)) (pss_cons (ps_asg (pe_op op_add (pe_ix (ixL K) (pv 0) pe_int (fun _ _ => rfl)) pe_int) (pg_sub (pv 0) pe_int set_list))
    (pss_cons (ps_asg (pe_op op_mod (pe_callTy call_int1 rfl T.n_int (by decide +kernel) (pa_cons (pe_op op_add (pe_op op_add (pe_op op_mul (pe_ix (ixL K) (pv 0) pe_int (fun _ _ => rfl)) pe_int) (pe_op op_mul (pe_op op_mul pe_int (pe_ix (ixL K) (pv 0) pe_int (fun _ _ => rfl))) (pe_ix (ixL K) (pv 0) pe_int (fun _ _ => rfl)))) pe_int) pa_nil)) pe_int) (pg_sub (pv 0) pe_int set_list))
    (pss_cons (ps_set (i := 5) sc_law_take.nd rfl (Or.inl rfl) (pe_op op_mod (pe_callTy call_int1 rfl T.n_int (by decide +kernel) (pa_cons (pe_op op_mul (pe_op op_fdiv (pe_ix (ixL K) (pv 0) pe_int (fun _ _ => rfl)) pe_int) (pe_op op_add (pe_op op_fdiv (pe_ix (ixL K) (pv 0) pe_int (fun _ _ => rfl)) pe_int) (pe_ix (ixL K) (pv 0) pe_int (fun _ _ => rfl)))) pa_nil)) pe_int))
    (pss_cons (ps_set (i := 3) sc_law_take.nd rfl (Or.inl rfl) (pe_op op_add (pe_op op_mul (pv 3) pe_int) (pe_op op_mod (pe_callTy call_int1 rfl T.n_int (by decide +kernel) (pa_cons (pe_op op_fdiv (pv 5) pe_int) pa_nil)) pe_int)))
    (pss_one (ps_set (i := 4) sc_law_take.nd rfl (Or.inl rfl) (pe_op op_mul (pv 4) pe_int))))))))
    (pss_one (ps_ret (pe_op op_mod (pv 3) (pv 1))))))), ?_⟩
  rintro Hd H0 A0 as m Pr Q σ ⟨m', a, many, n, he, ⟨ds, rfl, d, k, c, rfl, hd0, hc0, hcn⟩, hm0, hm1, hn, rfl⟩ hcell h0 w q
  cases he
  cases hcell
  refine w.qwhen (by walk_at "evt") (fun hb Hd H x w => ?_) (fun hb Hd H x w => ?_)
  · have hb : 0 < d := of_decide_eq_true hb
    refine w.qasg (ev_I (ev_intI (by walk_at "evl")) (by walk_at "ev") hm0) fun σ Hd H x w => ?_
    refine w.qsetL (i := 0) (j := 0) rfl rfl h0 (by walk_at "ap") (ev_I (by walk_at "ev") (by walk_at "ev") ⟨hm0, by omega⟩) (by walk_at "ev") rfl fun Hd H x w => ?_
    refine w.retC (i := 0) (m := m) rfl rfl rfl (by walk_at "ev") fun v Hd' H' x hv hd => q v _ _ Hd' H' ⟨d % many, rfl, Int.emod_nonneg _ (by omega), Int.emod_lt_of_pos _ hm0, _, rfl, _, _, _, rfl, Int.ediv_nonneg hd0 (by omega), hc0, by omega⟩ rfl x hv hd
  · refine w.qun (is := [3, 4]) (ds := [_, _]) (by walk_at "ev") rfl rfl fun σ Hd H x w => ?_
    refine w.qwhile (fun g ρ' => (g = 1 ∧ ρ' = ls [.ml m [.int d, .int k, .int c], .d (.int many), .unk, .d (.int 0), .d (.int 1), .unk]) ∨ (g = 0 ∧ ∃ ds z, BagOk (n + 1) ds ∧ ρ' = ls [.ml m ds, .d (.int many), .unk, .d (.int z), .d (.int 33554432), .unk]))
      1 _ (by walk_at "le") (.inl ⟨rfl, rfl⟩) (fun g Hb Hd H σ ρ' hR e w => ?_)
    rcases hR with ⟨rfl, rfl⟩ | ⟨rfl, ds, z, hbag, rfl⟩
    · refine ⟨decide (1 < many), by walk_at "evt", fun hb Hd H x w => ?_, fun hb Hd H x w hh => ?_⟩
      · refine w.qsetL (i := 0) (j := 2) rfl rfl h0 (by walk_at "ap") (by walk_at "ev") (by walk_at "ev") rfl fun Hd H x2 w => ?_
        refine w.qsetL (i := 0) (j := 1) rfl rfl h0 (by walk_at "ap") (ev_I (ev_intI (evl_cons (ev_I0 (ev_I0 (ev_I (by walk_at "ev") (by walk_at "ev") (.inr (by decide))) (ev_I (ev_I (by walk_at "ev") (by walk_at "ev") (.inl (by decide))) (by walk_at "ev") (.inr (by omega)))) (by walk_at "ev")) evl_nil)) (by walk_at "ev") (by decide)) (by walk_at "ev") rfl fun Hd H x3 w => ?_
        refine w.qasg (ev_I (ev_intI (evl_cons (ev_I (ev_I (by walk_at "ev") (by walk_at "ev") ⟨by decide, by decide⟩) (ev_I0 (ev_I (by walk_at "ev") (by walk_at "ev") ⟨by decide, by decide⟩) (by walk_at "ev")) (.inl ?_)) evl_nil)) (by walk_at "ev") (by decide)) fun σ Hd H x4 w => ?_
        · have a1 := Int.emod_nonneg (k * 40014 + 7919 * (c + 1) * (c + 1) + 83) (b := 2147483563) (by decide)
          have a2 := Int.emod_lt_of_pos (k * 40014 + 7919 * (c + 1) * (c + 1) + 83) (b := 2147483563) (by decide)
          omega
        refine w.qasg (ev_I0 (ev_I (by walk_at "ev") (by walk_at "ev") (.inr (by decide))) (ev_I (ev_intI (evl_cons (ev_I (by walk_at "ev") (by walk_at "ev") ⟨by decide, by decide⟩) evl_nil)) (by walk_at "ev") (by decide))) fun σ Hd H x5 w => ?_
        refine w.asg (a := .d (.int 33554432)) (ev_is (ev_I (by walk_at "ev") (by walk_at "ev") (.inr (by decide))) (by rfl)) fun σ Hd H x6 w => ?_
        refine w.ws (((((e.trans x.d).trans x2.d).trans x3.d).trans x4.d).trans x5.d |>.trans x6.d) (ρ' := ls [.ml m _, .d (.int many), .unk, .d (.int _), .d (.int 33554432), .unk]) (by walk_at "le") (n' := 0) (by decide) (.inr ⟨rfl, _, _, ⟨_, _, _, rfl, hd0, by omega, by omega⟩, rfl⟩)
      · skip
        have hmany : many = 1 := by have := of_decide_eq_false hb; omega
        refine w.retC (i := 0) (m := m) (a := .ml m [.int d, .int k, .int c]) rfl rfl rfl (ev_I (by walk_at "ev") (by walk_at "ev") hm0) fun v Hd' H' x hv hd => q v _ _ Hd' H' ⟨0 % many, rfl, Int.emod_nonneg _ (by omega), Int.emod_lt_of_pos _ hm0, _, rfl, _, _, _, rfl, hd0, hc0, by omega⟩ rfl x hv hd
    · refine ⟨decide (33554432 < many), by walk_at "evt", fun hb => absurd (of_decide_eq_true hb) (by omega), fun hb Hd H x w hh => ?_⟩
      refine w.retC (i := 0) (m := m) rfl rfl rfl (ev_I (by walk_at "ev") (by walk_at "ev") hm0) fun v Hd' H' x hv hd => q v _ _ Hd' H' ⟨z % many, rfl, Int.emod_nonneg _ (by omega), Int.emod_lt_of_pos _ hm0, _, rfl, hbag⟩ rfl x hv hd

/-! draws -/
variable {Hd0 H0 Hd H : Hp} {σ : L2.St} {ρ : En} {ta tb te : TE} {tl tr : TA} {D : Ends} {tz t1 t2 : TS} {i : Nat} {m : Addr} {n n1 n2 : Int} {Pd Pe Pf : PyData → Prop}
theorem bag_cell {a : AV} (h : BagAt m n a) : a.cell = some m := by obtain ⟨ds, rfl, _⟩ := h; rfl
theorem bag_mono {a : AV} (h : BagAt m n a) (e : n ≤ n1) : BagAt m n1 a := by obtain ⟨ds, rfl, d, k, c, h1, h2, h3, h4⟩ := h; exact ⟨ds, rfl, d, k, c, h1, h2, h3, by omega⟩
def EvB (K : PySem.W.Frag) (C : Cl P w) (i : Nat) (m : Addr) (t : TE) (ρ : En) (n n' : Int) (Pd : PyData → Prop) : Prop := EvC K C i m t ρ (BagAt m n) fun d a' => Pd d ∧ BagAt m n' a'
def EvBs (K : PySem.W.Frag) (C : Cl P w) (i : Nat) (m : Addr) (t : TA) (ρ : En) (n n' : Int) (PL : List PyData → Prop) : Prop := EvCs K C i m t ρ (BagAt m n) fun ds a' => PL ds ∧ BagAt m n' a'
def IntP (Z : Int → Prop) (d : PyData) : Prop := ∃ x, d = .int x ∧ Z x
theorem eb_ev {d : PyData} (h : ∀ a, Ev K C te (ρ.set i a) (.d d)) (hp : Pd d) : EvB K C i m te ρ n n Pd := evc_mono (evc_ev fun a _ => h a) fun d' a' ⟨e, r⟩ => ⟨e ▸ hp, r⟩
theorem eb_mono (h : EvB K C i m te ρ n n1 Pd) (hp : ∀ d, Pd d → Pe d) : EvB K C i m te ρ n n1 Pe := evc_mono h fun d' a' r => ⟨hp d' r.1, r.2⟩
theorem eb_take {many : Int} (hi : Nat.blt i ρ.n = true) (h : ∀ a, Ev K C te (ρ.set i a) (.d (.int many))) (h0 : 0 < many) (h1 : many ≤ 33554432) (hn : n < 1000000) (ap : ∀ a, ApN (ρ.set i a) i m ρ.n) : EvB K C i m (tCall (SpC K C FTake) [] E0 (tCons (tVar i) (tCons te tNil))) ρ n (n + 1) (IntP fun x => 0 ≤ x ∧ x < many) :=
  evc_call (as := [.d (.int many)]) hi fun a ha => ⟨bag_cell ha, evl_cons (ev_var hi (En.set_get ρ i a) (cell_known (bag_cell ha))) (evl_cons (h a) evl_nil), ⟨m, a, many, n, rfl, ha, h0, h1, hn, by
    funext d a'
    apply propext
    constructor
    · rintro ⟨⟨x, h1, h2, h3⟩, h4⟩; exact ⟨x, h1, h2, h3, h4⟩
    · rintro ⟨x, h1, h2, h3, h4⟩; exact ⟨⟨x, h1, h2, h3⟩, h4⟩⟩, ap a⟩
theorem ebs_nil : EvBs K C i m tNil ρ n n (fun ds => ds = []) := fun Hd0 H0 Hd H σ a ha h0 w Q q => evc_nil (A := BagAt m n) Hd0 H0 Hd H σ a ha h0 w Q fun vs ds a' Hd' H' r => q vs ds a' Hd' H' r
theorem ebs_cons {PL : List PyData → Prop} (h1 : EvB K C i m ta ρ n n1 Pd) (h2 : EvBs K C i m tr ρ n1 n2 PL) : EvBs K C i m (tCons ta tr) ρ n n2 (fun ds => ∃ d r, ds = d :: r ∧ Pd d ∧ PL r) := fun Hd0 H0 Hd H σ a ha h0 w Q q =>
  h1 Hd0 H0 Hd H σ a ha h0 w _ fun v d a1 Hd1 H1 r1 e1 w1 p1 => h2 Hd0 H0 Hd1 H1 σ a1 r1.2 h0 w1 _ fun vs ds a2 Hd2 H2 r2 e2 w2 p2 => q (v :: vs) (d :: ds) a2 Hd2 H2 ⟨⟨d, ds, rfl, r1.1, r2.1⟩, r2.2⟩ (e1.trans e2) w2 (.cons (dp_ex e2 _ _ p1) p2)
/-- as many of a kind -/
theorem ebk_nil : EvBs K C i m tNil ρ n n (fun ds => ds.length = 0 ∧ ∀ d ∈ ds, Pd d) := fun Hd0 H0 Hd H σ a ha h0 w Q q => ebs_nil Hd0 H0 Hd H σ a ha h0 w Q fun vs ds a' Hd' H' r => q vs ds a' Hd' H' ⟨by rw [r.1]; exact ⟨rfl, fun _ h => by cases h⟩, r.2⟩
theorem ebk_cons {k : Nat} (h1 : EvB K C i m ta ρ n n1 Pd) (h2 : EvBs K C i m tr ρ n1 n2 (fun ds => ds.length = k ∧ ∀ d ∈ ds, Pd d)) : EvBs K C i m (tCons ta tr) ρ n n2 (fun ds => ds.length = k + 1 ∧ ∀ d ∈ ds, Pd d) := fun Hd0 H0 Hd H σ a ha h0 w Q q =>
  ebs_cons h1 h2 Hd0 H0 Hd H σ a ha h0 w Q fun vs ds a' Hd' H' r => q vs ds a' Hd' H' ⟨by
    obtain ⟨⟨d, r', rfl, h, h2, h3⟩, _⟩ := r
    exact ⟨by rw [List.length_cons, h2], fun x hx => by
      rcases List.mem_cons.mp hx with z | z
      · exact z ▸ h
      · exact h3 x z⟩, r.2⟩
theorem eb_choice {k : Nat} {kk : Int} (h1 : EvBs K C i m tl ρ n n1 (fun ds => ds.length = k ∧ ∀ d ∈ ds, Pd d)) (hk : k ≤ 1000) (h2 : EvB K C i m tb ρ n1 n2 (IntP fun x => 0 ≤ x ∧ x < kk)) (hkk : kk = k) : EvB K C i m (tOp (rIxL K) (tLst tl) tb) ρ n n2 Pd :=
  evc_op (R := fun d a => ∃ ds, d = .list ds ∧ (ds.length = k ∧ ∀ d ∈ ds, Pd d) ∧ BagAt m n1 a) (R2 := fun d1 d2 a => ∃ ds, d1 = .list ds ∧ (ds.length = k ∧ ∀ d ∈ ds, Pd d) ∧ IntP (fun x => 0 ≤ x ∧ x < kk) d2 ∧ BagAt m n2 a) (evc_lst h1 fun ds a h => by have := h.1.1; omega)
    (fun d1 Hd0 H0 Hd H σ a ha h0 w Q q => by
      obtain ⟨ds, rfl, hp, hb⟩ := ha
      exact h2 Hd0 H0 Hd H σ a hb h0 w Q fun v d a' Hd' H' r => q v d a' Hd' H' ⟨ds, rfl, hp, r.1, r.2⟩)
    fun d1 d2 a ⟨ds, e1, ⟨hl, hp⟩, ⟨x, e2, hx0, hx1⟩, hb⟩ => by
      subst e1 e2
      have hlt : x.toNat < ds.length := by omega
      refine ⟨ds[x.toNat], ⟨hp _ (List.getElem_mem _), hb⟩, fun Hd H y z ex hy hz Q q => ?_⟩
      obtain ⟨p, vs, rfl, s1, s2⟩ := dp_lst_inv hy
      obtain ⟨v, hv, hr⟩ := dpall_get s2 (List.getElem?_eq_getElem hlt)
      refine ⟨p, vs, x, v, rfl, dp_int_inv hz, ex_l ex s1, ?_, q v Hd H (Xt.refl ex) hr⟩
      have : x = (x.toNat : Int) := by omega
      rw [this]
      exact atI_nat hv
theorem eb_I {c : Int → Int → Prop} {g : Int → Int → Int} {X Y Z : Int → Prop} (h1 : EvB K C i m ta ρ n n1 (IntP X)) (h2 : EvB K C i m tb ρ n1 n2 (IntP Y)) (h : ∀ x y, X x → Y y → c x y ∧ Z (g x y)) : EvB K C i m (tOp (rI c fun i j => .int (g i j)) ta tb) ρ n n2 (IntP Z) :=
  evc_op (R2 := fun d1 d2 a => IntP X d1 ∧ IntP Y d2 ∧ BagAt m n2 a) h1 (fun d1 Hd0 H0 Hd H σ a ha h0 w Q q => h2 Hd0 H0 Hd H σ a ha.2 h0 w Q fun v d a' Hd' H' r => q v d a' Hd' H' ⟨ha.1, r.1, r.2⟩)
    fun d1 d2 a ⟨⟨x, e1, hx⟩, ⟨y, e2, hy⟩, hb⟩ => by
      subst e1 e2
      obtain ⟨k1, k2⟩ := h x y hx hy
      exact ⟨.int (g x y), ⟨⟨_, rfl, k2⟩, hb⟩, fun Hd H v u ex hv hu Q q => ⟨x, y, dp_int_inv hv, dp_int_inv hu, k1, q _ Hd H (Xt.refl ex) (Dp.int _)⟩⟩
theorem eb_I0 {g : Int → Int → Int} {X Y Z : Int → Prop} (h1 : EvB K C i m ta ρ n n1 (IntP X)) (h2 : EvB K C i m tb ρ n1 n2 (IntP Y)) (h : ∀ x y, X x → Y y → Z (g x y)) : EvB K C i m (tOp (rI0 fun i j => .int (g i j)) ta tb) ρ n n2 (IntP Z) :=
  evc_op (R2 := fun d1 d2 a => IntP X d1 ∧ IntP Y d2 ∧ BagAt m n2 a) h1 (fun d1 Hd0 H0 Hd H σ a ha h0 w Q q => h2 Hd0 H0 Hd H σ a ha.2 h0 w Q fun v d a' Hd' H' r => q v d a' Hd' H' ⟨ha.1, r.1, r.2⟩)
    fun d1 d2 a ⟨⟨x, e1, hx⟩, ⟨y, e2, hy⟩, hb⟩ => by
      subst e1 e2
      exact ⟨.int (g x y), ⟨⟨_, rfl, h x y hx hy⟩, hb⟩, fun Hd H v u ex hv hu Q q => ⟨x, y, dp_int_inv hv, dp_int_inv hu, q _ Hd H (Xt.refl ex) (Dp.int _)⟩⟩
theorem eb_eq0 {X : Int → Prop} {k : Int} (h1 : EvB K C i m ta ρ n n1 (IntP X)) : EvB K C i m (tOp rEq ta (tC (.int k))) ρ n n1 (fun d => ∃ b, d = .bool b) :=
  evc_op (R2 := fun d1 d2 a => IntP X d1 ∧ d2 = .int k ∧ BagAt m n1 a) h1 (fun d1 Hd0 H0 Hd H σ a ha h0 w Q q => evc_ev (A := BagAt m n1) (fun a _ => ev_int) Hd0 H0 Hd H σ a ha.2 h0 w Q fun v d a' Hd' H' r => q v d a' Hd' H' ⟨ha.1, r.1, r.2⟩)
    fun d1 d2 a ⟨⟨x, e1, hx⟩, e2, hb⟩ => by
      subst e1 e2
      refine ⟨.bool (decide (x = k)), ⟨⟨_, rfl⟩, hb⟩, fun Hd H v u ex hv hu Q q => ?_⟩
      cases dp_int_inv hv; cases dp_int_inv hu
      exact ⟨rfl, q _ Hd H (Xt.refl ex) (by
        have e : decide (V.int x = V.int k) = decide (x = k) := by rw [dec_int]; by_cases h : x = k <;> simp [h]
        rw [e]; exact Dp.bl _)⟩
theorem eb_tup {PL : List PyData → Prop} (h : EvBs K C i m tl ρ n n1 PL) (hl : ∀ ds, PL ds → ds.length ≤ 1000) : EvB K C i m (tTup tl) ρ n n1 (fun d => ∃ ds, d = .tuple ds ∧ PL ds) :=
  evc_mono (evc_tup h fun ds a r => by have := hl ds r.1; omega) fun d a ⟨ds, e, r⟩ => ⟨⟨ds, e, r.1⟩, r.2⟩
/-! what the law draws -/
def encRule (p : PolD) : PyData := .tuple [.str p.hold.str, .int p.every, .int p.quick]
def PolOk (p : PolD) : Prop := 0 ≤ p.every ∧ p.every ≤ 9 ∧ 0 ≤ p.quick ∧ p.quick ≤ 4
def FRules : List AV → (PyData → AV → Prop) → Prop := fun as Pr => ∃ (m : Addr) (a : AV) (n : Int), as = [a] ∧ BagAt m n a ∧ n < 900000 ∧ Pr = fun d a' => ∃ ps : List PolD, d = .list (ps.map encRule) ∧ ps.length = 2 ∧ (∀ p ∈ ps, PolOk p) ∧ BagAt m (n + 10) a'
theorem ok_law_rules {f : Addr} {fd : FuncData} (F : Fun K "_law_rules" "_law_rules" s_law_rules f fd) (T : Txt K mg C) (d_law_take : Df P w K mg base "_law_take" 1 ps_law_take (SpC K C FTake)) : FnOk P w K mg base CX0 2 f fd ps_law_rules (SpC K C FRules) := by
  refine okC F sc_law_rules (fun as Pr ⟨_, _, _, e, _⟩ => by subst e; rfl) fun cdv A outer s H vs E hr => ⟨_,
(pss_cons (ps_set (i := 1) sc_law_rules.nd rfl (Or.inl rfl) (pe_lst pa_nil))
    (pss_cons (ps_for PassesOwn.never rfl (pi_range1 rfl T.n_range (pa_cons pe_int pa_nil)) (pg_name (i := 2) sc_law_rules.nd rfl (Or.inl rfl)) (pss_cons (ps_set (i := 3) sc_law_rules.nd rfl (Or.inl rfl) (pe_ix (ixL K) (pe_lst (pa_cons pe_str (pa_cons pe_str (pa_cons pe_str (pa_cons pe_str pa_nil))))) (pe_df d_law_take (hr.mono (by decide)) rfl (pa_cons (pv 0) (pa_cons pe_int pa_nil))) (fun _ _ => rfl)))
    (pss_cons (ps_set (i := 4) sc_law_rules.nd rfl (Or.inl rfl) (pe_ix (ixL K) (pe_lst (pa_cons pe_int (pa_cons pe_int (pa_cons pe_int (pa_cons pe_int (pa_cons (pe_df d_law_take (hr.mono (by decide)) rfl (pa_cons (pv 0) (pa_cons pe_int pa_nil))) pa_nil)))))) (pe_df d_law_take (hr.mono (by decide)) rfl (pa_cons (pv 0) (pa_cons pe_int pa_nil))) (fun _ _ => rfl)))
    (pss_one (ps_expr (peBm K PySem.F.plainAttrs_list PySem.F.slot_list_append PySem.F.type_list_append mt_append (pv 1) (pa_cons (pe_tup (pa_cons (pv 3) (pa_cons (pv 4) (pa_cons (pe_ix (ixL K) (pe_lst (pa_cons pe_int (pa_cons pe_int (pa_cons pe_int (pa_cons (pe_df d_law_take (hr.mono (by decide)) rfl (pa_cons (pv 0) (pa_cons pe_int pa_nil))) pa_nil))))) (pe_df d_law_take (hr.mono (by decide)) rfl (pa_cons (pv 0) (pa_cons pe_int pa_nil))) (fun _ _ => rfl)) pa_nil)))) pa_nil)))))))
    (pss_one (ps_ret (pv 1))))), ?_⟩
  rintro Hd H0 A0 as m Pr Q σ ⟨m', a, n, he, hbag, hn, rfl⟩ hcell h0 w q
  cases he
  cases (bag_cell hbag).symm.trans hcell
  have hold := (w.cellVR (i := 0) (m := m) (a := A0) rfl rfl hcell).2
  refine w.qnewL fun mf σ H1 hmf hmf0 x w => ?_
  have hne : mf ≠ m := fun z => (vr_cell hcell hold).2.2 (z ▸ hmf)
  have hne' : m ≠ mf := fun z => hne z.symm
  refine w.qforRR (n := 2) (by walk_at "evl") ⟨by decide, by decide⟩ (fun j ρ' => ∃ a ps, BagAt m (n + 5 * j) a ∧ ps.length = j ∧ (∀ p ∈ ps, PolOk p) ∧ ρ' = ls [a, .ml mf (ps.map encRule), .unk, .unk, .unk])
    (ls [A0, .ml mf [], .unk, .unk, .unk]) (by walk_at "le") ⟨A0, [], bag_mono hbag (by omega), rfl, (fun _ h => (by cases h)), rfl⟩ (fun j Hb Hd H σ ρ' hj hR e w => ?_) fun σ Hd H ρ' e w hR => ?_
  · obtain ⟨a, ps, hbag, hpl, hps, rfl⟩ := hR
    have w : Wx K C _ _ Hd H σ ((ls [.unk, .ml mf (ps.map encRule), .d (.int j), .unk, .unk]).set 0 a) := w.le (by walk_at "le")
    refine w.qcasg h0 hbag (eb_choice (n2 := n + 5 * j + 1) (k := 4) (Pd := fun d => ∃ h : Hold, d = .str h.str) (ebk_cons (eb_ev (d := .str "all") (fun a => by walk_at "ev") ⟨.all, rfl⟩) (ebk_cons (eb_ev (d := .str "partial") (fun a => by walk_at "ev") ⟨.part, rfl⟩) (ebk_cons (eb_ev (d := .str "all") (fun a => by walk_at "ev") ⟨.all, rfl⟩) (ebk_cons (eb_ev (d := .str "off") (fun a => by walk_at "ev") ⟨.off, rfl⟩) ebk_nil)))) (by decide) (eb_take (many := 4) rfl (fun a => by walk_at "ev") (by decide) (by decide) (by omega) (fun a => by walk_at "ap")) rfl) fun d a1 σ Hd1 H1 hr1 e1 w => ?_
    obtain ⟨⟨hh, rfl⟩, hb1⟩ := hr1
    have w : Wx K C _ _ Hd1 H1 σ ((ls [.unk, .ml mf (ps.map encRule), .d (.int j), .d (.str hh.str), .unk]).set 0 a1) := w.le (by walk_at "le")
    refine w.qcasg h0 hb1 (eb_choice (n2 := n + 5 * j + 3) (k := 5) (Pd := IntP fun x => 0 ≤ x ∧ x ≤ 9) (ebk_cons (eb_ev (fun a => by walk_at "ev") ⟨_, rfl, by decide, by decide⟩) (ebk_cons (eb_ev (fun a => by walk_at "ev") ⟨_, rfl, by decide, by decide⟩) (ebk_cons (eb_ev (fun a => by walk_at "ev") ⟨_, rfl, by decide, by decide⟩) (ebk_cons (eb_ev (fun a => by walk_at "ev") ⟨_, rfl, by decide, by decide⟩)
      (ebk_cons (eb_mono (eb_take (many := 10) rfl (fun a => by walk_at "ev") (by decide) (by decide) (by omega) (fun a => by walk_at "ap")) fun d ⟨x, e, h1, h2⟩ => ⟨x, e, h1, by omega⟩) ebk_nil))))) (by decide) (by
        have := eb_take (K := K) (C := C) (i := 0) (m := m) (n := n + 5 * j + 1 + 1) (many := 5) (te := tC (.int 5)) (ρ := ls [.unk, .ml mf (ps.map encRule), .d (.int j), .d (.str hh.str), .unk]) rfl (fun a => by walk_at "ev") (by decide) (by decide) (by omega) (fun a => by walk_at "ap")
        rw [show n + 5 * (j : Int) + 1 + 1 + 1 = n + 5 * j + 3 by omega] at this
        exact this) rfl) fun d a2 σ Hd2 H2 hr2 e2 w => ?_
    obtain ⟨⟨per, rfl, hp0, hp9⟩, hb2⟩ := hr2
    have w : Wx K C _ _ Hd2 H2 σ ((ls [.unk, .ml mf (ps.map encRule), .d (.int j), .d (.str hh.str), .d (.int per)]).set 0 a2) := w.le (by walk_at "le")
    refine w.capp (j := 1) (mx := mf) h0 hb2 (eb_tup (n1 := n + 5 * j + 5) (ebs_cons (Pd := fun d => d = .str hh.str) (eb_ev (fun a => by walk_at "ev") rfl) (ebs_cons (Pd := fun d => d = .int per) (eb_ev (fun a => by walk_at "ev") rfl) (ebs_cons (Pd := IntP fun x => 0 ≤ x ∧ x ≤ 4) (eb_choice (k := 4) (ebk_cons (eb_ev (fun a => by walk_at "ev") ⟨_, rfl, by decide, by decide⟩) (ebk_cons (eb_ev (fun a => by walk_at "ev") ⟨_, rfl, by decide, by decide⟩) (ebk_cons (eb_ev (fun a => by walk_at "ev") ⟨_, rfl, by decide, by decide⟩)
      (ebk_cons (eb_mono (eb_take (many := 5) rfl (fun a => by walk_at "ev") (by decide) (by decide) (by omega) (fun a => by walk_at "ap")) fun d ⟨x, e, h1, h2⟩ => ⟨x, e, h1, by omega⟩) ebk_nil)))) (by decide) (by
        have := eb_take (K := K) (C := C) (i := 0) (m := m) (n := n + 5 * j + 3 + 1) (many := 4) (te := tC (.int 4)) (ρ := ls [.unk, .ml mf (ps.map encRule), .d (.int j), .d (.str hh.str), .d (.int per)]) rfl (fun a => by walk_at "ev") (by decide) (by decide) (by omega) (fun a => by walk_at "ap")
        rw [show n + 5 * (j : Int) + 3 + 1 + 1 = n + 5 * j + 5 by omega] at this
        exact this) rfl) ebs_nil))) fun ds ⟨d, r, h1, _, d2, r2, h2, _, d3, r3, h3, _, h4⟩ => by subst h4 h3 h2 h1; exact Nat.le_of_ble_eq_true rfl) rfl (fun a => rfl) hmf0 (fun d a' hr => by have hcc := bag_cell hr.2; walk_at "ap") (by rw [List.length_map]; omega) fun d a3 Hd3 H3 hr3 e3 w => ?_
    obtain ⟨⟨ds, rfl, d1, r1, rfl, rfl, d2, r2, rfl, rfl, d3, r3, rfl, ⟨qk, rfl, hq0, hq4⟩, rfl⟩, hb3⟩ := hr3
    refine w.ls (((e.trans e1).trans e2).trans e3) (ρ' := ls [a3, .ml mf ((ps ++ [PolD.mk hh per qk]).map encRule), .unk, .unk, .unk]) (by rw [List.map_append]; walk_at "le") ⟨a3, ps ++ [PolD.mk hh per qk], bag_mono hb3 (by omega), by rw [List.length_append, hpl]; rfl, fun p hp => ?_, rfl⟩
    rcases List.mem_append.mp hp with z | z
    · exact hps p z
    · rw [List.mem_singleton.mp z]; exact ⟨hp0, hp9, hq0, hq4⟩
  · obtain ⟨a, ps, hbag, hpl, hps, rfl⟩ := hR
    obtain ⟨Hd2, _, w, _⟩ := w.freeze (i := 1) rfl rfl hmf0 (by have hcc := bag_cell hbag; walk_at "ap")
    refine w.retC (i := 0) (m := m) (a := a) rfl rfl (bag_cell hbag) (by walk_at "ev") fun v Hd' H' x hv hd => q v _ _ Hd' H' ⟨ps, rfl, hpl, hps, bag_mono hbag (by show n + 5 * ((2 : Nat) : Int) ≤ n + 10; omega)⟩ (bag_cell hbag) x hv hd
end
end LW

set_option Elab.async false
set_option linter.all false
set_option maxRecDepth 100000
set_option maxHeartbeats 4000000
namespace LW
open PySem PySem.Spec PyProof.Rows L2 Evl
local macro_rules | `(tactic| walk_at "ev") => `(tactic| first
  | with_reducible exact ev_int | with_reducible exact ev_bl | with_reducible exact ev_str | with_reducible exact ev_non
  | ((with_reducible apply ev_var) <;> rfl)
  | ((with_reducible apply ev_ixT) <;> first | walk_at "ev" | rfl)
  | ((with_reducible apply ev_ixL) <;> first | walk_at "ev" | rfl)
  | ((with_reducible apply ev_ixM) <;> first | walk_at "ev" | rfl)
  | ((with_reducible apply ev_I0) <;> walk_at "ev")
  | ((with_reducible apply ev_B0) <;> walk_at "ev")
  | ((with_reducible apply ev_U) <;> walk_at "ev")
  | ((with_reducible apply ev_tup) <;> first | walk_at "evd" | exact Nat.le_of_ble_eq_true rfl)
  | ((with_reducible apply ev_lst) <;> first | walk_at "evd" | exact Nat.le_of_ble_eq_true rfl)
  | ((with_reducible apply ev_eqI) <;> walk_at "ev")
  | ((with_reducible apply ev_eqS) <;> walk_at "ev")
  | ((with_reducible apply ev_neI) <;> walk_at "ev")
  | ((with_reducible apply ev_neS) <;> walk_at "ev")
  | ((with_reducible apply ev_notV) <;> walk_at "ev")
  | ((with_reducible apply ev_andV) <;> first | walk_at "ev" | (intro _; walk_at "ev"))
  | ((with_reducible apply ev_orV) <;> first | walk_at "ev" | (intro _; walk_at "ev"))
  | ((with_reducible apply ev_min) <;> walk_at "evl")
  | ((with_reducible apply ev_max) <;> walk_at "evl")
  | ((with_reducible apply ev_slT) <;> first | walk_at "ev" | walk_at "evo" | walk_at "cut")
  | ((with_reducible apply ev_slL) <;> first | walk_at "ev" | walk_at "evo")
  | ((with_reducible apply ev_catT) <;> first | walk_at "ev" | exact Nat.le_of_ble_eq_true rfl | (intro z; cases z))
  | ((with_reducible apply ev_abs) <;> walk_at "evl")
  | ((with_reducible apply ev_intI) <;> walk_at "evl")
  | ((with_reducible apply ev_intB) <;> walk_at "evl")
  | ((with_reducible apply ev_lenL) <;> walk_at "evl"))
local macro_rules | `(tactic| walk_at "evd") => `(tactic| first | with_reducible exact evd_nil | ((with_reducible apply evd_cons) <;> first | walk_at "ev" | walk_at "evd"))
local macro_rules | `(tactic| walk_at "evl") => `(tactic| first | with_reducible exact evl_nil | ((with_reducible apply evl_cons) <;> first | walk_at "ev" | walk_at "evl"))
local macro_rules | `(tactic| walk_at "evo") => `(tactic| first | with_reducible exact evo_none | ((with_reducible apply evo_some) <;> walk_at "ev"))
local macro_rules | `(tactic| walk_at "evt") => `(tactic| first
  | ((with_reducible apply evt_test) <;> walk_at "ev")
  | ((with_reducible apply evt_B) <;> walk_at "ev")
  | ((with_reducible apply evt_not) <;> walk_at "evt")
  | ((with_reducible apply evt_and) <;> first | walk_at "evt" | (intro _; walk_at "evt"))
  | ((with_reducible apply evt_or) <;> first | walk_at "evt" | (intro _; walk_at "evt")))
local macro_rules | `(tactic| walk_at "cut") => `(tactic| (intro z; simp [HT.sIx] at z))
local macro_rules | `(tactic| walk_at "le") => `(tactic| (refine ⟨rfl, ?_⟩; repeat (first | exact trivial | refine ⟨?_, ?_⟩ | exact Or.inr (Or.inl rfl) | exact Or.inl rfl | exact Or.inr (Or.inr rfl))))
local macro_rules | `(tactic| walk_at "ap") => `(tactic| repeat (first | exact trivial | refine ⟨?_, ?_⟩ | exact Or.inl rfl | exact Or.inr (ne_cell rfl) | exact Or.inr (ne_cell2 rfl (by assumption)) | exact Or.inr (ne_cell2 (by assumption) (by assumption)) | exact Or.inr (by assumption)))
section
variable {P : Program} {w : World} {K : PySem.W.Frag} {mg : Str → Option Value} {base : Heap} {C : Cl P w} {Hd0 H0 Hd H : Hp} {σ : L2.St} {ρ : En} {ta tb te : TE} {tl tr : TA} {D : Ends} {tz t1 t2 : TS} {i : Nat} {m : Addr} {n n1 n2 : Int} {Pd Pe Pf : PyData → Prop}
theorem eb_tk {many : Int} (n' : Int) (hi : Nat.blt i ρ.n = true) (h : ∀ a, Ev K C te (ρ.set i a) (.d (.int many))) (h0 : 0 < many) (h1 : many ≤ 33554432) (hn : n < 1000000) (ap : ∀ a, ApN (ρ.set i a) i m ρ.n) (hn' : n + 1 ≤ n') : EvB K C i m (tCall (SpC K C FTake) [] E0 (tCons (tVar i) (tCons te tNil))) ρ n n' (IntP fun x => 0 ≤ x ∧ x < many) :=
  evc_mono (eb_take hi h h0 h1 hn ap) fun d a r => ⟨r.1, bag_mono r.2 hn'⟩
def FAmount : List AV → (PyData → AV → Prop) → Prop := fun as Pr => ∃ (m : Addr) (a : AV) (wd n : Int), as = [a, .d (.int wd)] ∧ BagAt m n a ∧ 0 < wd ∧ wd ≤ 10 ∧ n < 900000 ∧ Pr = fun d a' => ∃ x : Int, d = .int x ∧ 1 ≤ x ∧ x ≤ 100 ∧ BagAt m (n + 4) a'
theorem ok_law_amount {f : Addr} {fd : FuncData} (F : Fun K "_law_amount" "_law_amount" s_law_amount f fd) (T : Txt K mg C) (d_law_take : Df P w K mg base "_law_take" 1 ps_law_take (SpC K C FTake)) : FnOk P w K mg base CX0 2 f fd ps_law_amount (SpC K C FAmount) := by
  refine okC F sc_law_amount (fun as Pr ⟨_, _, _, _, e, _⟩ => by subst e; rfl) fun cdv A outer s H vs E hr => ⟨_,
(pss_cons (ps_set (i := 2) sc_law_amount.nd rfl (Or.inl rfl) (pe_op op_add pe_int (pe_df d_law_take (hr.mono (by decide)) rfl (pa_cons (pv 0) (pa_cons (pv 1) pa_nil)))))
    (pss_one (ps_ret (pe_ix (ixL K) (pe_lst (pa_cons (pv 2) (pa_cons (pv 2) (pa_cons (pe_op op_mul (pv 1) (pe_op op_add pe_int (pe_df d_law_take (hr.mono (by decide)) rfl (pa_cons (pv 0) (pa_cons pe_int pa_nil))))) (pa_cons (pe_op op_add (pe_op op_mul (pv 1) (pe_df d_law_take (hr.mono (by decide)) rfl (pa_cons (pv 0) (pa_cons pe_int pa_nil)))) (pv 2)) pa_nil))))) (pe_df d_law_take (hr.mono (by decide)) rfl (pa_cons (pv 0) (pa_cons pe_int pa_nil))) (fun _ _ => rfl))))), ?_⟩
  rintro Hd H0 A0 as m Pr Q σ ⟨m', a, wd, n, he, hbag, hw0, hw1, hn, rfl⟩ hcell h0 w q
  cases he
  cases (bag_cell hbag).symm.trans hcell
  have w : Wx K C _ _ Hd H σ ((ls [.unk, .d (.int wd), .unk]).set 0 A0) := w.le (by walk_at "le")
  refine w.qcasg h0 hbag (eb_I0 (Z := fun z => 1 ≤ z ∧ z ≤ 10) (X := fun x => x = 1) (eb_ev (d := .int 1) (fun a => by walk_at "ev") ⟨_, rfl, rfl⟩) (eb_tk (many := wd) (n + 1) rfl (fun a => by walk_at "ev") hw0 (by omega) (by omega) (fun a => by walk_at "ap") (by omega)) fun x y h1 h2 => by omega) fun d a1 σ Hd1 H1 hr1 e1 w => ?_
  obtain ⟨⟨z, rfl, hz1, hz2⟩, hb1⟩ := hr1
  have w : Wx K C _ _ Hd1 H1 σ ((ls [.unk, .d (.int wd), .d (.int z)]).set 0 a1) := w.le (by walk_at "le")
  have hmul : ∀ x y : Int, x = wd → 0 ≤ y → y ≤ 4 → CMul x y ∧ 0 ≤ x * y ∧ x * y ≤ 40 := fun x y hx h1 h2 => by
    subst hx
    refine ⟨.inl (by omega), Int.mul_nonneg (by omega) h1, ?_⟩
    have := Int.mul_le_mul hw1 h2 h1 (by decide)
    omega
  have hmul1 : ∀ x y : Int, x = wd → 1 ≤ y → y ≤ 4 → 1 ≤ x * y := fun x y hx h1 h2 => by
    subst hx
    have := Int.mul_le_mul (a := 1) (b := 1) (c := x) (d := y) (by omega) h1 (by decide) (by omega)
    omega
  refine w.cret h0 hb1 rfl (by exact fun d a' h => bag_cell h.2) (eb_choice (n2 := n + 4) (k := 4) (kk := 4) (Pd := IntP fun x => 1 ≤ x ∧ x ≤ 100) (ebk_cons (eb_ev (d := .int z) (fun a => by walk_at "ev") ⟨_, rfl, by omega, by omega⟩) (ebk_cons (eb_ev (d := .int z) (fun a => by walk_at "ev") ⟨_, rfl, by omega, by omega⟩)
    (ebk_cons (eb_I (X := fun x => x = wd) (Y := fun y => 1 ≤ y ∧ y ≤ 4) (eb_ev (d := .int wd) (fun a => by walk_at "ev") ⟨_, rfl, rfl⟩) (eb_I0 (X := fun x => x = 1) (eb_ev (d := .int 1) (fun a => by walk_at "ev") ⟨_, rfl, rfl⟩) (eb_tk (many := 4) (n + 2) rfl (fun a => by walk_at "ev") (by decide) (by decide) (by omega) (fun a => by walk_at "ap") (by omega)) fun x y h1 h2 => by omega) fun x y h1 h2 => by
        have k1 := hmul x y h1 (by omega) h2.2
        have k2 := hmul1 x y h1 h2.1 h2.2
        exact ⟨k1.1, k2, by omega⟩)
      (ebk_cons (eb_I0 (X := fun x => 0 ≤ x ∧ x ≤ 40) (Y := fun y => y = z) (eb_I (X := fun x => x = wd) (eb_ev (d := .int wd) (fun a => by walk_at "ev") ⟨_, rfl, rfl⟩) (eb_tk (many := 4) (n + 3) rfl (fun a => by walk_at "ev") (by decide) (by decide) (by omega) (fun a => by walk_at "ap") (by omega)) fun x y h1 h2 => by
          have := hmul x y h1 h2.1 (by omega)
          exact this) (eb_ev (d := .int z) (fun a => by walk_at "ev") ⟨_, rfl, rfl⟩) fun x y h1 h2 => by omega) ebk_nil)))) (by decide)
    (eb_tk (many := 4) (n + 4) rfl (fun a => by walk_at "ev") (by decide) (by decide) (by omega) (fun a => by walk_at "ap") (by omega)) rfl) fun v d a' Hd' H' hr2 x hv hd => ?_
  obtain ⟨⟨y, rfl, hy0, hy1⟩, hb2⟩ := hr2
  exact q v _ a' Hd' H' ⟨y, rfl, hy0, hy1, hb2⟩ (bag_cell hb2) x hv hd
/-- a, b = [], e where e may change m -/
theorem Wx.qcnew2 {a : AV} {A : AV → Prop} {R : PyData → AV → Prop} {j1 j2 : Nat} (w : Wx K C Hd0 H0 Hd H σ (ρ.set i a)) (h0 : H0 m = none) (ha : A a) (hi : Nat.blt i ρ.n = true) (hc : a.cell = some m) (hc2 : ∀ d a', R d a' → a'.cell = some m) (h : EvC K C i m te ρ A R) 
    (k : ∀ mf d a' σ' Hd' H', mf ≠ m → H mf = none → H0 mf = none → R d a' → Ex Hd Hd' → Wx K C Hd0 H0 Hd' H' σ' (((ρ.set i a').set j1 (.ml mf [])).set j2 (.d d)) → tz D σ' H') : tSeq (tPar j1 j2 (tCons (tLst tNil) (tCons te tNil))) tz D σ H := by
  have hold := (w.cellVR hi (En.set_get ρ i a) hc).2
  refine ev_newL (K := K) (C := C) (σ := σ) (Q := fun x H1 => te σ H1 fun y H2 => ∃ v u, [x, y] = [v, u] ∧ tz D ((σ.set j1 (some v)).set j2 (some u)) H2) w.x.dh fun mf hmf x1 r1 => ?_
  have hne : mf ≠ m := fun z => (vr_cell hc hold).2.2 (z ▸ hmf)
  have hmf0 : H0 mf = none := fresh_back w.x.h hmf
  have hmc : cutH (upd H mf (.lst [])) m m = none := if_pos rfl
  have xc : Xt Hd (cutH (upd H mf (.lst [])) m) Hd (upd H mf (.lst [])) := ⟨Ex.refl _, fun b o e => by
    unfold cutH at e
    split at e
    · cases e
    · exact e, x1.dh, fun _ _ _ => rfl⟩
  have wc : Wx K C Hd (cutH (upd H mf (.lst [])) m) Hd (upd H mf (.lst [])) σ (ρ.set i a) := ⟨xc, w.env.xt x1⟩
  refine h Hd _ Hd _ σ a ha hmc wc _ fun v d a' Hd' H' hr e w' hd => ⟨.ref mf, v, rfl, ?_⟩
  have hmf2 : cutH (upd H mf (.lst [])) m mf = some (.lst []) := by unfold cutH; rw [if_neg hne]; exact upd_same
  have hmf3 : H' mf = some (.lst []) := w'.x.h _ _ hmf2
  have hmf4 : Hd' mf = none := (w'.x.nw _ _ hmf2).trans (free_of w.x.dh hmf)
  have hvr := (w'.cellVR hi (En.set_get ρ i a') (hc2 d a' hr)).2
  have hdm : Hd m = none := (vr_cell hc hold).2.1
  have xf : Xm m Hd H Hd' H' := ⟨w'.x.d, fun b o hb eb => w'.x.h b o (by unfold cutH; rw [if_neg hb]; exact x1.h b o eb), w'.x.dh, fun b o eb => by
    by_cases hb : b = m
    · subst hb; rw [(vr_cell (hc2 d a' hr) hvr).2.1, hdm]
    · exact w'.x.nw b o (by unfold cutH; rw [if_neg hb]; exact x1.h b o eb)⟩
  refine k mf d a' _ Hd' H' hne hmf hmf0 hr e ⟨w.x.mod xf h0, ?_⟩
  exact ((w'.env.set (v := .ref mf) (a := .ml mf []) ⟨rfl, hmf4, [], hmf3, .nil⟩ j1).set (a := .d d) hd j2)
/-- where the two ways of an if meet: any state that R tells of -/
theorem Wx.qcutL {te1 : TS} (R : En → Prop) (w : Wx K C Hd0 H0 Hd H σ ρ) (h : te1 { D with nx := LS K C Hd0 H0 Hd R } σ H) (k : ∀ σ' Hd' H' ρ', Ex Hd Hd' → R ρ' → Wx K C Hd0 H0 Hd' H' σ' ρ' → tz D σ' H') : Evl.tCut te1 tz D σ H :=
  ⟨LS K C Hd0 H0 Hd R, h, fun σ' H' ⟨Hd', ρ', e, w', r⟩ => k σ' Hd' H' ρ' e r w'⟩
def FWrites : List AV → (PyData → AV → Prop) → Prop := fun as Pr => ∃ (m : Addr) (a : AV) (wd many n : Int), as = [a, .d (.int wd), .d (.int many)] ∧ BagAt m n a ∧ 0 < wd ∧ wd ≤ 10 ∧ 0 ≤ many ∧ many ≤ 50 ∧ n < 800000 ∧ Pr = fun d a' => ∃ c : List Wr, d = encC c ∧ (∀ x ∈ c, x.ok2) ∧ (c.length : Int) = many ∧ BagAt m (n + 400) a'
theorem ok_law_writes {f : Addr} {fd : FuncData} (F : Fun K "_law_writes" "_law_writes" s_law_writes f fd) (T : Txt K mg C) (d_law_take : Df P w K mg base "_law_take" 1 ps_law_take (SpC K C FTake)) (d_law_amount : Df P w K mg base "_law_amount" 2 ps_law_amount (SpC K C FAmount)) : FnOk P w K mg base CX0 3 f fd ps_law_writes (SpC K C FWrites) := by
  refine okC F sc_law_writes (fun as Pr ⟨_, _, _, _, _, e, _⟩ => by subst e; rfl) fun cdv A outer s H vs E hr => ⟨_,
(pss_cons (ps_par (i := 3) (j := 4) rfl sc_law_writes.nd rfl rfl (by decide) rfl rfl (pa_cons (pe_lst pa_nil) (pa_cons (pe_df d_law_take (hr.mono (by decide)) rfl (pa_cons (pv 0) (pa_cons pe_int pa_nil))) pa_nil)) (by rfl))
    (pss_cons (ps_for PassesOwn.never rfl (pi_range1 rfl T.n_range (pa_cons (pv 2) pa_nil)) (pg_name (i := 5) sc_law_writes.nd rfl (Or.inl rfl)) (Evl.pss_cut (ps_if (pt_cmpR op_eq (pe_df d_law_take (hr.mono (by decide)) rfl (pa_cons (pv 0) (pa_cons pe_int pa_nil))) pe_int (nomark _)) (pss_one (ps_set (i := 4) sc_law_writes.nd rfl (Or.inl rfl) (pe_op op_sub pe_int (pv 4)))) pss_nil)
    (pss_cons (ps_set (i := 6) sc_law_writes.nd rfl (Or.inl rfl) (pe_ix (ixL K) (pe_lst (pa_cons pe_str (pa_cons pe_str (pa_cons pe_str (pa_cons pe_str (pa_cons pe_str (pa_cons pe_str pa_nil))))))) (pe_df d_law_take (hr.mono (by decide)) rfl (pa_cons (pv 0) (pa_cons pe_int pa_nil))) (fun _ _ => rfl)))
    (pss_one (ps_expr (peBm K PySem.F.plainAttrs_list PySem.F.slot_list_append PySem.F.type_list_append mt_append (pv 3) (pa_cons (pe_tup (pa_cons (pv 4) (pa_cons (pe_df d_law_amount (hr.mono (by decide)) rfl (pa_cons (pv 0) (pa_cons (pv 1) pa_nil))) (pa_cons (pv 6) pa_nil)))) pa_nil)))))))
    (pss_one (ps_ret (pv 3))))), ?_⟩
  rintro Hd H0 A0 as m Pr Q σ ⟨m', a, wd, many, n, he, hbag, hw0, hw1, hm0, hm1, hn, rfl⟩ hcell h0 w q
  cases he
  cases (bag_cell hbag).symm.trans hcell
  have w : Wx K C _ _ Hd H σ ((ls [.unk, .d (.int wd), .d (.int many), .unk, .unk, .unk, .unk]).set 0 A0) := w.le (by walk_at "le")
  refine w.qcnew2 h0 hbag rfl hcell (by exact fun d a' h => bag_cell h.2) (eb_tk (many := 2) (n + 1) rfl (fun a => by walk_at "ev") (by decide) (by decide) (by omega) (fun a => by walk_at "ap") (by omega)) fun mf d a1 σ Hd H hne hmf hmf0 hr1 e0 w => ?_
  obtain ⟨⟨who, rfl, hwho0, hwho1⟩, hb1⟩ := hr1
  have hne' : m ≠ mf := fun z => hne z.symm
  refine w.qforRR (n := many) (by walk_at "evl") ⟨by omega, by omega⟩ (fun j ρ' => ∃ a who c, BagAt m (n + 1 + 6 * j) a ∧ (who = 0 ∨ who = 1) ∧ c.length = j ∧ (∀ x ∈ c, x.ok2) ∧ ρ' = ls [a, .d (.int wd), .d (.int many), .ml mf (c.map encW), .d (.int who), .unk, .unk])
    (ls [a1, .d (.int wd), .d (.int many), .ml mf [], .d (.int who), .unk, .unk]) (by walk_at "le") ⟨a1, who, [], bag_mono hb1 (by omega), by omega, rfl, (fun _ h => (by cases h)), rfl⟩ (fun j Hb Hd H σ ρ' hj hR e w => ?_) fun σ Hd H ρ' e w hR => ?_
  · obtain ⟨a, who, c, hbag, hwho, hcl, hc, rfl⟩ := hR
    have w : Wx K C _ _ Hd H σ ((ls [.unk, .d (.int wd), .d (.int many), .ml mf (c.map encW), .d (.int who), .unk, .unk]).set 0 a) := w.le (by walk_at "le")
    refine w.qcutL (fun ρ' => ∃ a who, BagAt m (n + 2 + 6 * j) a ∧ (who = 0 ∨ who = 1) ∧ ρ' = (ls [.unk, .d (.int wd), .d (.int many), .ml mf (c.map encW), .d (.int who), .unk, .unk]).set 0 a) (w.cif_ h0 hbag (eb_eq0 (eb_tk (many := 3) (n + 2 + 6 * j) rfl (fun a => by walk_at "ev") (by decide) (by decide) (by omega) (fun a => by walk_at "ap") (by omega))) (fun d a' h => h.1) (fun a2 Hd2 H2 hr2 e2 w => ?_) (fun a2 Hd2 H2 hr2 e2 w => ?_)) fun σ Hd2 H2 ρ2 e2 hR2 w => ?_
    · refine w.asg (by walk_at "ev") fun σ Hd3 H3 x3 w => w.ls (e2.trans x3.d) (ρ' := (ls [.unk, .d (.int wd), .d (.int many), .ml mf (c.map encW), .d (.int (1 - who)), .unk, .unk]).set 0 a2) (by walk_at "le") ⟨a2, 1 - who, hr2.2, by omega, rfl⟩
    · exact w.ls e2 (ρ' := (ls [.unk, .d (.int wd), .d (.int many), .ml mf (c.map encW), .d (.int who), .unk, .unk]).set 0 a2) (by walk_at "le") ⟨a2, who, hr2.2, hwho, rfl⟩
    · obtain ⟨a2, who, hb2, hwho, rfl⟩ := hR2
      refine w.qcasg h0 hb2 (eb_choice (n2 := n + 3 + 6 * j) (k := 6) (kk := 6) (Pd := fun d => ∃ h : Mode, d = .str h.str) (ebk_cons (eb_ev (d := .str "plain") (fun a => by walk_at "ev") ⟨.plain, rfl⟩) (ebk_cons (eb_ev (d := .str "plain") (fun a => by walk_at "ev") ⟨.plain, rfl⟩) (ebk_cons (eb_ev (d := .str "plain") (fun a => by walk_at "ev") ⟨.plain, rfl⟩) (ebk_cons (eb_ev (d := .str "push") (fun a => by walk_at "ev") ⟨.push, rfl⟩)
        (ebk_cons (eb_ev (d := .str "more") (fun a => by walk_at "ev") ⟨.more, rfl⟩) (ebk_cons (eb_ev (d := .str "plain") (fun a => by walk_at "ev") ⟨.plain, rfl⟩) ebk_nil)))))) (by decide) (eb_tk (many := 6) (n + 3 + 6 * j) rfl (fun a => by walk_at "ev") (by decide) (by decide) (by omega) (fun a => by walk_at "ap") (by omega)) rfl) fun d a3 σ Hd3 H3 hr3 e3 w => ?_
      obtain ⟨⟨md, rfl⟩, hb3⟩ := hr3
      have w : Wx K C _ _ Hd3 H3 σ ((ls [.unk, .d (.int wd), .d (.int many), .ml mf (c.map encW), .d (.int who), .unk, .d (.str md.str)]).set 0 a3) := w.le (by walk_at "le")
      refine w.capp (j := 3) (mx := mf) h0 hb3 (eb_tup (n1 := n + 7 + 6 * j) (ebs_cons (Pd := fun d => d = .int who) (eb_ev (fun a => by walk_at "ev") rfl) (ebs_cons (Pd := IntP fun x => 1 ≤ x ∧ x ≤ 100) (evc_call (as := [.d (.int wd)]) rfl fun a ha => ⟨bag_cell ha, evl_cons (ev_var rfl (En.set_get _ 0 a) (cell_known (bag_cell ha))) (evl_cons (by walk_at "ev") evl_nil), ⟨m, a, wd, n + 3 + 6 * j, rfl, ha, hw0, hw1, by omega, ?_⟩, by walk_at "ap"⟩) (ebs_cons (Pd := fun d => d = .str md.str) (eb_ev (fun a => by walk_at "ev") rfl) ebs_nil))) fun ds ⟨d, r, h1, _, d2, r2, h2, _, d3, r3, h3, _, h4⟩ => by subst h4 h3 h2 h1; exact Nat.le_of_ble_eq_true rfl) rfl (fun a => rfl) hmf0 (fun d a' hr => by have hcc := bag_cell hr.2; walk_at "ap") (by rw [List.length_map]; omega) fun d a4 Hd4 H4 hr4 e4 w => ?_
      · funext d a'
        apply propext
        rw [show n + 3 + 6 * (j : Int) + 4 = n + 7 + 6 * j by omega]
        constructor
        · rintro ⟨⟨x, h1, h2, h3⟩, h4⟩; exact ⟨x, h1, h2, h3, h4⟩
        · rintro ⟨x, h1, h2, h3, h4⟩; exact ⟨⟨x, h1, h2, h3⟩, h4⟩
      obtain ⟨⟨ds, rfl, d1, r1, rfl, rfl, d2, r2, rfl, ⟨l, rfl, hl0, hl1⟩, d3, r3, rfl, rfl, rfl⟩, hb4⟩ := hr4
      refine w.ls (((e.trans e2).trans e3).trans e4) (ρ' := ls [a4, .d (.int wd), .d (.int many), .ml mf ((c ++ [Wr.mk who l md]).map encW), .d (.int who), .unk, .unk]) (by rw [List.map_append]; walk_at "le") ⟨a4, who, c ++ [Wr.mk who l md], bag_mono hb4 (by omega), hwho, by rw [List.length_append, hcl]; rfl, fun p hp => ?_, rfl⟩
      rcases List.mem_append.mp hp with z | z
      · exact hc p z
      · rw [List.mem_singleton.mp z]; exact ⟨hwho, hl0, hl1⟩
  · obtain ⟨a, who, c, hbag, hwho, hcl, hc, rfl⟩ := hR
    obtain ⟨Hd2, _, w, _⟩ := w.freeze (i := 3) rfl rfl hmf0 (by have hcc := bag_cell hbag; walk_at "ap")
    refine w.retC (i := 0) (m := m) (a := a) rfl rfl (bag_cell hbag) (by walk_at "ev") fun v Hd' H' x hv hd => q v _ _ Hd' H' ⟨c, rfl, hc, by omega, bag_mono hbag (by omega)⟩ (bag_cell hbag) x hv hd
end
end LW

set_option Elab.async false
set_option linter.all false
set_option maxRecDepth 100000
set_option maxHeartbeats 4000000
namespace LW
open PySem PySem.Spec PyProof.Rows L2 Evl
local macro_rules | `(tactic| walk_at "ev") => `(tactic| first
  | with_reducible exact ev_int | with_reducible exact ev_bl | with_reducible exact ev_str | with_reducible exact ev_non
  | ((with_reducible apply ev_var) <;> rfl)
  | ((with_reducible apply ev_ixT) <;> first | walk_at "ev" | rfl)
  | ((with_reducible apply ev_ixL) <;> first | walk_at "ev" | rfl)
  | ((with_reducible apply ev_ixM) <;> first | walk_at "ev" | rfl)
  | ((with_reducible apply ev_I0) <;> walk_at "ev")
  | ((with_reducible apply ev_B0) <;> walk_at "ev")
  | ((with_reducible apply ev_U) <;> walk_at "ev")
  | ((with_reducible apply ev_tup) <;> first | walk_at "evd" | exact Nat.le_of_ble_eq_true rfl)
  | ((with_reducible apply ev_lst) <;> first | walk_at "evd" | exact Nat.le_of_ble_eq_true rfl)
  | ((with_reducible apply ev_eqI) <;> walk_at "ev")
  | ((with_reducible apply ev_eqS) <;> walk_at "ev")
  | ((with_reducible apply ev_neI) <;> walk_at "ev")
  | ((with_reducible apply ev_neS) <;> walk_at "ev")
  | ((with_reducible apply ev_notV) <;> walk_at "ev")
  | ((with_reducible apply ev_andV) <;> first | walk_at "ev" | (intro _; walk_at "ev"))
  | ((with_reducible apply ev_orV) <;> first | walk_at "ev" | (intro _; walk_at "ev"))
  | ((with_reducible apply ev_min) <;> walk_at "evl")
  | ((with_reducible apply ev_max) <;> walk_at "evl")
  | ((with_reducible apply ev_slT) <;> first | walk_at "ev" | walk_at "evo" | walk_at "cut")
  | ((with_reducible apply ev_slL) <;> first | walk_at "ev" | walk_at "evo")
  | ((with_reducible apply ev_catT) <;> first | walk_at "ev" | exact Nat.le_of_ble_eq_true rfl | (intro z; cases z))
  | ((with_reducible apply ev_abs) <;> walk_at "evl")
  | ((with_reducible apply ev_intI) <;> walk_at "evl")
  | ((with_reducible apply ev_intB) <;> walk_at "evl")
  | ((with_reducible apply ev_lenL) <;> walk_at "evl"))
local macro_rules | `(tactic| walk_at "evd") => `(tactic| first | with_reducible exact evd_nil | ((with_reducible apply evd_cons) <;> first | walk_at "ev" | walk_at "evd"))
local macro_rules | `(tactic| walk_at "evl") => `(tactic| first | with_reducible exact evl_nil | ((with_reducible apply evl_cons) <;> first | walk_at "ev" | walk_at "evl"))
local macro_rules | `(tactic| walk_at "evo") => `(tactic| first | with_reducible exact evo_none | ((with_reducible apply evo_some) <;> walk_at "ev"))
local macro_rules | `(tactic| walk_at "evt") => `(tactic| first
  | ((with_reducible apply evt_test) <;> walk_at "ev")
  | ((with_reducible apply evt_B) <;> walk_at "ev")
  | ((with_reducible apply evt_not) <;> walk_at "evt")
  | ((with_reducible apply evt_and) <;> first | walk_at "evt" | (intro _; walk_at "evt"))
  | ((with_reducible apply evt_or) <;> first | walk_at "evt" | (intro _; walk_at "evt")))
local macro_rules | `(tactic| walk_at "cut") => `(tactic| (intro z; simp [HT.sIx] at z))
local macro_rules | `(tactic| walk_at "le") => `(tactic| (refine ⟨rfl, ?_⟩; repeat (first | exact trivial | refine ⟨?_, ?_⟩ | exact Or.inr (Or.inl rfl) | exact Or.inl rfl | exact Or.inr (Or.inr rfl))))
local macro_rules | `(tactic| walk_at "ap") => `(tactic| repeat (first | exact trivial | refine ⟨?_, ?_⟩ | exact Or.inl rfl | exact Or.inr (ne_cell rfl) | exact Or.inr (ne_cell2 rfl (by assumption)) | exact Or.inr (ne_cell2 (by assumption) (by assumption)) | exact Or.inr (by assumption)))
section
variable {P : Program} {w : World} {K : PySem.W.Frag} {mg : Str → Option Value} {base : Heap} {C : Cl P w} {Hd0 H0 Hd H : Hp} {σ : L2.St} {ρ : En} {ta tb te : TE} {tl tr : TA} {D : Ends} {tz t1 t2 : TS} {i : Nat} {m : Addr} {n n1 n2 : Int} {Pd Pe Pf : PyData → Prop}
theorem whoAt_get {c : List Wr} {i : Nat} {x : Wr} (h : c[i]? = some x) : whoAt c i = x.who := by unfold whoAt; rw [h]; rfl
def FSteps : List AV → (PyData → AV → Prop) → Prop := fun as Pr => ∃ (m : Addr) (a : AV) (c : List Wr) (n : Int), as = [a, .d (encC c)] ∧ BagAt m n a ∧ c.length ≤ 200 ∧ n < 800000 ∧ Pr = fun d a' => ∃ o, d = encI o ∧ OrderF c o ∧ BagAt m (n + 400) a'
theorem ok_law_steps {f : Addr} {fd : FuncData} (F : Fun K "_law_steps" "_law_steps" s_law_steps f fd) (T : Txt K mg C) (d_law_take : Df P w K mg base "_law_take" 1 ps_law_take (SpC K C FTake)) : FnOk P w K mg base CX0 2 f fd ps_law_steps (SpC K C FSteps) := by
  refine okC F sc_law_steps (fun as Pr ⟨_, _, _, _, e, _⟩ => by subst e; rfl) fun cdv A outer s H vs E hr => ⟨_,
(pss_cons (ps_set (i := 2) sc_law_steps.nd rfl (Or.inl rfl) (pe_lst pa_nil))
    (pss_cons (ps_for PassesOwn.never rfl (pi_range1 rfl T.n_range (pa_cons (pe_callB (callLen K) rfl T.n_len (by decide +kernel) (pa_cons (pv 1) pa_nil)) pa_nil)) (pg_name (i := 3) sc_law_steps.nd rfl (Or.inl rfl)) (pss_cons (ps_set (i := 4) sc_law_steps.nd rfl (Or.inl rfl) (pe_or (pe_cmpR op_eq (pv 3) pe_int (nomark _)) (pe_one (pe_cmpR op_ne (pe_ix (ixT K) (pe_ix (ixL K) (pv 1) (pe_op op_sub (pv 3) pe_int) (fun _ _ => rfl)) pe_int (fun _ _ => rfl)) (pe_ix (ixT K) (pe_ix (ixL K) (pv 1) (pv 3) (fun _ _ => rfl)) pe_int (fun _ _ => rfl)) (nomark _)))))
    (pss_one (ps_expr (peBm K PySem.F.plainAttrs_list PySem.F.slot_list_append PySem.F.type_list_append mt_append (pv 2) (pa_cons (pe_op op_mul (pe_ix (ixL K) (pe_lst (pa_cons (pe_op op_add pe_int (pe_df d_law_take (hr.mono (by decide)) rfl (pa_cons (pv 0) (pa_cons pe_int pa_nil)))) (pa_cons pe_int (pa_cons pe_int pa_nil)))) (pe_df d_law_take (hr.mono (by decide)) rfl (pa_cons (pv 0) (pa_cons pe_int pa_nil))) (fun _ _ => rfl)) (pe_callTy call_int1 rfl T.n_int (by decide +kernel) (pa_cons (pe_not (pv 4)) pa_nil))) pa_nil))))))
    (pss_one (ps_ret (pv 2))))), ?_⟩
  rintro Hd H0 A0 as m Pr Q σ ⟨m', a, c, n, he, hbag, hc, hn, rfl⟩ hcell h0 w q
  cases he
  cases (bag_cell hbag).symm.trans hcell
  have hold := (w.cellVR (i := 0) (m := m) (a := A0) rfl rfl hcell).2
  refine w.qnewL fun mf σ H1 hmf hmf0 x w => ?_
  have hne : mf ≠ m := fun z => (vr_cell hcell hold).2.2 (z ▸ hmf)
  have hne' : m ≠ mf := fun z => hne z.symm
  refine w.qforRR (n := (c.map encW).length) (evl_cons (ev_lenL (by walk_at "evl")) evl_nil) ⟨by rw [List.length_map]; omega, by omega⟩ (fun j ρ' => ∃ a o, BagAt m (n + 2 * j) a ∧ o.length = j ∧ (∀ (i : Nat) k, o[i]? = some k → 0 ≤ k ∧ k ≤ limF c i) ∧ ρ' = ls [a, .d (encC c), .ml mf (o.map PyData.int), .unk, .unk])
    (ls [A0, .d (encC c), .ml mf [], .unk, .unk]) (by walk_at "le") ⟨A0, [], bag_mono hbag (by omega), rfl, (fun i k h => by simp at h), rfl⟩ (fun j Hb Hd H σ ρ' hj hR e w => ?_) fun σ Hd H ρ' e w hR => ?_
  · obtain ⟨a, o, hbag, hol, ho, rfl⟩ := hR
    rw [List.length_map] at hj
    have hj : j < c.length := by omega
    obtain ⟨y, hy⟩ : ∃ y, c[j]? = some y := ⟨_, List.getElem?_eq_getElem hj⟩
    have hcc := bag_cell hbag
    refine w.qasg (a := .d (.bool (firstB c j))) (ev_orV (by walk_at "ev") fun hz => ?_) fun σ Hd1 H1 x1 w => ?_
    · have hz : ¬ (j : Int) = 0 := of_decide_eq_false hz
      obtain ⟨z, hz2⟩ : ∃ z, c[j - 1]? = some z := ⟨_, List.getElem?_eq_getElem (by omega)⟩
      rw [whoAt_get hz2, whoAt_get hy]
      exact ev_neI (ev_ixT (ev_ixL (d := encW z) (by walk_at "ev") (by walk_at "ev") (atI_int (k := j - 1) (by omega) (by rw [List.getElem?_map, hz2]; rfl))) (by walk_at "ev") (by rfl)) (ev_ixT (ev_ixL (d := encW y) (by walk_at "ev") (by walk_at "ev") (atI_nat (by rw [List.getElem?_map, hy]; rfl))) (by walk_at "ev") (by rfl))
    have w : Wx K C _ _ Hd1 H1 σ ((ls [.unk, .d (encC c), .ml mf (o.map PyData.int), .d (.int j), .d (.bool (firstB c j))]).set 0 a) := w.le (by walk_at "le")
    refine w.capp (j := 2) (mx := mf) h0 hbag (eb_I (n2 := n + 2 * j + 2) (X := fun x => 0 ≤ x ∧ x ≤ 2) (Y := fun y => y = if (!firstB c j) = true then 1 else 0) (Z := fun z => 0 ≤ z ∧ z ≤ limF c j) (eb_choice (k := 3) (kk := 3) (n2 := n + 2 * j + 2) (ebk_cons (eb_I0 (X := fun x => x = 1) (eb_ev (d := .int 1) (fun a => by walk_at "ev") ⟨_, rfl, rfl⟩) (eb_tk (many := 2) (n + 2 * j + 1) rfl (fun a => by walk_at "ev") (by decide) (by decide) (by omega) (fun a => by walk_at "ap") (by omega)) fun x y h1 h2 => by omega)
      (ebk_cons (eb_ev (d := .int 0) (fun a => by walk_at "ev") ⟨_, rfl, by decide, by decide⟩) (ebk_cons (eb_ev (d := .int 2) (fun a => by walk_at "ev") ⟨_, rfl, by decide, by decide⟩) ebk_nil))) (by decide) (eb_tk (many := 3) (n + 2 * j + 2) rfl (fun a => by walk_at "ev") (by decide) (by decide) (by omega) (fun a => by walk_at "ap") (by omega)) rfl) (eb_ev (d := .int (if (!firstB c j) = true then 1 else 0)) (fun a => by walk_at "ev") ⟨_, rfl, rfl⟩) fun x y h1 h2 => ?_) rfl (fun a => rfl) hmf0 (fun d a' hr => by have hcc := bag_cell hr.2; walk_at "ap") (by rw [List.length_map]; omega) fun d a3 Hd3 H3 hr3 e3 w => ?_
    · subst h2
      refine ⟨.inl (by omega), ?_⟩
      unfold limF
      cases firstB c j <;> simp <;> omega
    obtain ⟨⟨k, rfl, hk0, hk1⟩, hb3⟩ := hr3
    refine w.ls ((e.trans x1.d).trans e3) (ρ' := ls [a3, .d (encC c), .ml mf ((o ++ [k]).map PyData.int), .unk, .unk]) (by rw [List.map_append]; walk_at "le") ⟨a3, o ++ [k], bag_mono hb3 (by omega), by rw [List.length_append, hol]; rfl, fun i k' hk' => ?_, rfl⟩
    rcases snoc_get hk' with z | ⟨rfl, rfl⟩
    · exact ho i k' z
    · rw [hol]; exact ⟨hk0, hk1⟩
  · obtain ⟨a, o, hbag, hol, ho, rfl⟩ := hR
    have hcc := bag_cell hbag
    obtain ⟨Hd2, _, w, _⟩ := w.freeze (i := 2) rfl rfl hmf0 (by walk_at "ap")
    have hl : ((c.map encW).length : Int).toNat = c.length := by rw [List.length_map]; omega
    rw [hl] at hol hbag
    refine w.retC (i := 0) (m := m) (a := a) rfl rfl hcc (by walk_at "ev") fun v Hd' H' x hv hd => q v _ _ Hd' H' ⟨o, rfl, ⟨hol, ho⟩, bag_mono hbag (by omega)⟩ hcc x hv hd
/-- return [e, ..]: a list that is to be changed -/
theorem Wx.retNL {ds : List PyData} (w : Wx K C Hd0 H0 Hd H σ ρ) (h : EvD K C tl ρ ds) (hl : ds.length ≤ 100000) (k : ∀ m Hd' H', H0 m = none → Xt Hd0 H0 Hd' H' → VR K C Hd' H' (.ref m) (.ml m ds) → D.rt (.ref m) H') : tRet (tLst tl) D σ H :=
  ev_newLM (K := K) (C := C) (Q := fun v H1 => D.rt v H1) h hl w.x.dh w.env fun m Hd' H' hm x1 r => k m Hd' H' (fresh_back w.x.h hm) (w.x.trans x1) r
def FBag : List AV → (AV → Prop) → Prop := fun as Pr => ∃ (xs : List Int) (at' : Nat), as = [.d (encI xs), .d (.int at')] ∧ Pr = fun a => ∃ m, BagAt m 0 a
theorem ok_law_bag {f : Addr} {fd : FuncData} (F : Fun K "_law_bag" "_law_bag" s_law_bag f fd) (T : Txt K mg C) : FnOk P w K mg base CX0 1 f fd ps_law_bag (SpN K C FBag) := by
  refine okN F sc_law_bag (fun as Pr ⟨_, _, e, _⟩ => by subst e; rfl) fun cdv A outer s H vs E hr => ⟨_,
(pss_cons (ps_set (i := 2) sc_law_bag.nd rfl (Or.inl rfl) (pe_ifExp (pt_cmpR op_lt (pv 1) (pe_callB (callLen K) rfl T.n_len (by decide +kernel) (pa_cons (pv 0) pa_nil)) (nomark _)) (pe_ix (ixL K) (pv 0) (pv 1) (fun _ _ => rfl)) pe_int))
    (pss_cons (ps_set (i := 3) sc_law_bag.nd rfl (Or.inl rfl) (pe_op op_mul (pe_callB call_abs rfl T.n_abs (by decide +kernel) (pa_cons (pv 2) pa_nil)) (pe_callTy call_int1 rfl T.n_int (by decide +kernel) (pa_cons (pe_cmpR op_ge (pe_callB call_abs rfl T.n_abs (by decide +kernel) (pa_cons (pv 2) pa_nil)) (pe_op op_pow pe_int pe_int) (nomark _)) pa_nil))))
    (pss_one (ps_ret (pe_lst (pa_cons (pv 3) (pa_cons (pe_op op_add (pe_op op_add (pe_op op_mod (pe_callTy call_int1 rfl T.n_int (by decide +kernel) (pa_cons (pv 2) pa_nil)) pe_int) (pe_op op_mul pe_int (pv 1))) pe_int) (pa_cons pe_int pa_nil)))))))), ?_⟩
  rintro Hd as Pr Q σ ⟨xs, k, rfl, rfl⟩ w q
  refine w.qasg (a := .d (.int (xs.getD k 0))) (ev_if (c := decide ((k : Int) < ((xs.map PyData.int).length : Nat))) (evt_test (ev_B0 (by walk_at "ev") (ev_lenL (by walk_at "evl")))) (fun hb => ?_) (fun hb => ?_)) fun σ Hd H x w => ?_
  · have hb : (k : Int) < ((xs.map PyData.int).length : Nat) := of_decide_eq_true hb
    rw [List.length_map] at hb
    have hk : xs[k]? = some (xs.getD k 0) := by rw [List.getD_eq_getElem?_getD, List.getElem?_eq_getElem (by omega)]; rfl
    exact ev_ixL (by walk_at "ev") (by walk_at "ev") (atI_nat (by rw [List.getElem?_map, hk]; rfl))
  · have hb : ¬ (k : Int) < ((xs.map PyData.int).length : Nat) := of_decide_eq_false hb
    rw [List.length_map] at hb
    have hk : xs.getD k 0 = 0 := by rw [List.getD_eq_getElem?_getD, List.getElem?_eq_none (by omega)]; rfl
    rw [hk]
    exact ev_int
  generalize xs.getD k 0 = z at w
  refine w.qasg (a := .d (.int ((if z < 0 then -z else z) * (if decide ((10 : Int) ^ (18 : Int).toNat ≤ (if z < 0 then -z else z)) = true then 1 else 0)))) (ev_I (by walk_at "ev") (ev_intB (evl_cons (ev_B0 (by walk_at "ev") (ev_I (by walk_at "ev") (by walk_at "ev") ⟨by decide, by decide, by decide⟩)) evl_nil)) (.inr ?_)) fun σ Hd H x w => ?_
  · split <;> omega
  refine w.retNL (ds := [_, .int (z % 2147483563 + 40009 * k + 61), .int 0]) (evd_cons (by walk_at "ev") (evd_cons (ev_I0 (ev_I0 (ev_I (ev_intI (by walk_at "evl")) (by walk_at "ev") (by decide)) (ev_I (by walk_at "ev") (by walk_at "ev") (.inl (by decide)))) (by walk_at "ev")) (evd_cons (by walk_at "ev") evd_nil))) (Nat.le_of_ble_eq_true rfl) fun m Hd' H' hm x hv => q _ _ Hd' H' ⟨m, _, rfl, _, _, _, rfl, ?_, Int.le_refl _, Int.le_refl _⟩ (fun m' hm' => by cases hm'; exact hm) x hv
  have hb01 : ∀ b : Bool, (0 : Int) ≤ (if b = true then 1 else 0) := by decide
  exact Int.mul_nonneg (by split <;> omega) (hb01 _)
end
end LW

set_option Elab.async false
set_option linter.all false
set_option maxRecDepth 100000
set_option maxHeartbeats 4000000
namespace LW
open PySem PySem.Spec PyProof.Rows L2 Evl
local macro_rules | `(tactic| walk_at "ev") => `(tactic| first
  | with_reducible exact ev_int | with_reducible exact ev_bl | with_reducible exact ev_str | with_reducible exact ev_non
  | ((with_reducible apply ev_var) <;> rfl)
  | ((with_reducible apply ev_ixT) <;> first | walk_at "ev" | rfl)
  | ((with_reducible apply ev_ixL) <;> first | walk_at "ev" | rfl)
  | ((with_reducible apply ev_ixM) <;> first | walk_at "ev" | rfl)
  | ((with_reducible apply ev_I0) <;> walk_at "ev")
  | ((with_reducible apply ev_B0) <;> walk_at "ev")
  | ((with_reducible apply ev_U) <;> walk_at "ev")
  | ((with_reducible apply ev_tup) <;> first | walk_at "evd" | exact Nat.le_of_ble_eq_true rfl)
  | ((with_reducible apply ev_lst) <;> first | walk_at "evd" | exact Nat.le_of_ble_eq_true rfl)
  | ((with_reducible apply ev_eqI) <;> walk_at "ev")
  | ((with_reducible apply ev_eqS) <;> walk_at "ev")
  | ((with_reducible apply ev_neI) <;> walk_at "ev")
  | ((with_reducible apply ev_neS) <;> walk_at "ev")
  | ((with_reducible apply ev_notV) <;> walk_at "ev")
  | ((with_reducible apply ev_andV) <;> first | walk_at "ev" | (intro _; walk_at "ev"))
  | ((with_reducible apply ev_orV) <;> first | walk_at "ev" | (intro _; walk_at "ev"))
  | ((with_reducible apply ev_min) <;> walk_at "evl")
  | ((with_reducible apply ev_max) <;> walk_at "evl")
  | ((with_reducible apply ev_slT) <;> first | walk_at "ev" | walk_at "evo" | walk_at "cut")
  | ((with_reducible apply ev_slL) <;> first | walk_at "ev" | walk_at "evo")
  | ((with_reducible apply ev_catT) <;> first | walk_at "ev" | exact Nat.le_of_ble_eq_true rfl | (intro z; cases z))
  | ((with_reducible apply ev_abs) <;> walk_at "evl")
  | ((with_reducible apply ev_intI) <;> walk_at "evl")
  | ((with_reducible apply ev_intB) <;> walk_at "evl")
  | ((with_reducible apply ev_lenL) <;> walk_at "evl"))
local macro_rules | `(tactic| walk_at "evd") => `(tactic| first | with_reducible exact evd_nil | ((with_reducible apply evd_cons) <;> first | walk_at "ev" | walk_at "evd"))
local macro_rules | `(tactic| walk_at "evl") => `(tactic| first | with_reducible exact evl_nil | ((with_reducible apply evl_cons) <;> first | walk_at "ev" | walk_at "evl"))
local macro_rules | `(tactic| walk_at "evo") => `(tactic| first | with_reducible exact evo_none | ((with_reducible apply evo_some) <;> walk_at "ev"))
local macro_rules | `(tactic| walk_at "evt") => `(tactic| first
  | ((with_reducible apply evt_test) <;> walk_at "ev")
  | ((with_reducible apply evt_B) <;> walk_at "ev")
  | ((with_reducible apply evt_not) <;> walk_at "evt")
  | ((with_reducible apply evt_and) <;> first | walk_at "evt" | (intro _; walk_at "evt"))
  | ((with_reducible apply evt_or) <;> first | walk_at "evt" | (intro _; walk_at "evt")))
local macro_rules | `(tactic| walk_at "cut") => `(tactic| (intro z; simp [HT.sIx] at z))
local macro_rules | `(tactic| walk_at "le") => `(tactic| (refine ⟨rfl, ?_⟩; repeat (first | exact trivial | refine ⟨?_, ?_⟩ | exact Or.inr (Or.inl rfl) | exact Or.inl rfl | exact Or.inr (Or.inr rfl))))
local macro_rules | `(tactic| walk_at "ap") => `(tactic| repeat (first | exact trivial | refine ⟨?_, ?_⟩ | exact Or.inl rfl | exact Or.inr (ne_cell rfl) | exact Or.inr (ne_cell2 rfl (by assumption)) | exact Or.inr (ne_cell2 (by assumption) (by assumption)) | exact Or.inr (by assumption)))
def keysS : List Str := ["rest", "kept", "sent", "covered", "mark", "way", "heard", "fulls", "arrived", "count", "bare"]
def valsS (s : Side) : List PyData := [.int s.rest, .bool s.kept, .int s.sent, .int s.covered, .int s.mark, encI s.way, .int s.heard, .int s.fulls, .int s.arrived, .int s.count, .int s.bare]
def encS (s : Side) : List (Str × PyData) := keysS.zip (valsS s)
theorem keysS_nd : keysS.Nodup := by decide +kernel
theorem encS_len (s : Side) : (encS s).length = 11 := rfl
theorem ks_rest : keysS.idxOf ("rest" : Str) = 0 := by decide +kernel
theorem ks_kept : keysS.idxOf ("kept" : Str) = 1 := by decide +kernel
theorem ks_sent : keysS.idxOf ("sent" : Str) = 2 := by decide +kernel
theorem ks_covered : keysS.idxOf ("covered" : Str) = 3 := by decide +kernel
theorem ks_mark : keysS.idxOf ("mark" : Str) = 4 := by decide +kernel
theorem ks_way : keysS.idxOf ("way" : Str) = 5 := by decide +kernel
theorem ks_heard : keysS.idxOf ("heard" : Str) = 6 := by decide +kernel
theorem ks_fulls : keysS.idxOf ("fulls" : Str) = 7 := by decide +kernel
theorem ks_arrived : keysS.idxOf ("arrived" : Str) = 8 := by decide +kernel
theorem ks_count : keysS.idxOf ("count" : Str) = 9 := by decide +kernel
theorem ks_bare : keysS.idxOf ("bare" : Str) = 10 := by decide +kernel
theorem lookSide {k : Str} {i : Nat} {d : PyData} (s : Side) (hi : keysS.idxOf k = i) (h : (valsS s)[i]? = some d) : lookS (encS s) k = some d := look_zip k keysS (valsS s) i d hi rfl h
theorem putSide {k : Str} {i : Nat} {d : PyData} {s s' : Side} (hi : keysS.idxOf k = i) (h : (valsS s).set i d = valsS s') (hl : i < 11) : putS (encS s) k d = encS s' := by
  unfold encS
  rw [put_zip k d keysS (valsS s) i keysS_nd hi rfl (by
    have : keysS.idxOf k < keysS.length := by rw [hi]; exact hl
    exact List.idxOf_lt_length_iff.mp this), h]
section
variable {P : Program} {w : World} {K : PySem.W.Frag} {mg : Str → Option Value} {base : Heap} {C : Cl P w} {Hd0 H0 Hd H : Hp} {σ : L2.St} {ρ : En} {ta tb tv te : TE} {tl tr : TA} {D : Ends} {tz t1 t2 : TS} {i : Nat} {m : Addr} {s s' : Side}
theorem ev_sget {k : Str} {d : PyData} (j : Nat) (ha : Ev K C ta ρ (.dk m (encS s))) (hi : keysS.idxOf k = j) (h : (valsS s)[j]? = some d) : Ev K C (tDGet ta (tC (.str k))) ρ (.d d) := ev_dget ha (lookSide s hi h)
theorem ev_rest (ha : Ev K C ta ρ (.dk m (encS s))) : Ev K C (tDGet ta (tC (.str "rest"))) ρ (.d (.int s.rest)) := ev_sget 0 ha ks_rest rfl
theorem ev_kept (ha : Ev K C ta ρ (.dk m (encS s))) : Ev K C (tDGet ta (tC (.str "kept"))) ρ (.d (.bool s.kept)) := ev_sget 1 ha ks_kept rfl
theorem ev_sent (ha : Ev K C ta ρ (.dk m (encS s))) : Ev K C (tDGet ta (tC (.str "sent"))) ρ (.d (.int s.sent)) := ev_sget 2 ha ks_sent rfl
theorem ev_covered (ha : Ev K C ta ρ (.dk m (encS s))) : Ev K C (tDGet ta (tC (.str "covered"))) ρ (.d (.int s.covered)) := ev_sget 3 ha ks_covered rfl
theorem ev_mark (ha : Ev K C ta ρ (.dk m (encS s))) : Ev K C (tDGet ta (tC (.str "mark"))) ρ (.d (.int s.mark)) := ev_sget 4 ha ks_mark rfl
theorem ev_way (ha : Ev K C ta ρ (.dk m (encS s))) : Ev K C (tDGet ta (tC (.str "way"))) ρ (.d (encI s.way)) := ev_sget 5 ha ks_way rfl
theorem ev_wayL (ha : Ev K C ta ρ (.dk m (encS s))) : Ev K C (tDGet ta (tC (.str "way"))) ρ (.d (.list (s.way.map PyData.int))) := ev_sget 5 ha ks_way rfl
theorem ev_heard (ha : Ev K C ta ρ (.dk m (encS s))) : Ev K C (tDGet ta (tC (.str "heard"))) ρ (.d (.int s.heard)) := ev_sget 6 ha ks_heard rfl
theorem ev_fulls (ha : Ev K C ta ρ (.dk m (encS s))) : Ev K C (tDGet ta (tC (.str "fulls"))) ρ (.d (.int s.fulls)) := ev_sget 7 ha ks_fulls rfl
theorem ev_arrived (ha : Ev K C ta ρ (.dk m (encS s))) : Ev K C (tDGet ta (tC (.str "arrived"))) ρ (.d (.int s.arrived)) := ev_sget 8 ha ks_arrived rfl
theorem ev_count (ha : Ev K C ta ρ (.dk m (encS s))) : Ev K C (tDGet ta (tC (.str "count"))) ρ (.d (.int s.count)) := ev_sget 9 ha ks_count rfl
theorem ev_bare (ha : Ev K C ta ρ (.dk m (encS s))) : Ev K C (tDGet ta (tC (.str "bare"))) ρ (.d (.int s.bare)) := ev_sget 10 ha ks_bare rfl
end
local macro_rules | `(tactic| walk_at "es") => `(tactic| first
  | ((with_reducible apply ev_rest) <;> walk_at "ev") | ((with_reducible apply ev_kept) <;> walk_at "ev") | ((with_reducible apply ev_sent) <;> walk_at "ev") | ((with_reducible apply ev_covered) <;> walk_at "ev")
  | ((with_reducible apply ev_mark) <;> walk_at "ev") | ((with_reducible apply ev_way) <;> walk_at "ev") | ((with_reducible apply ev_heard) <;> walk_at "ev") | ((with_reducible apply ev_fulls) <;> walk_at "ev")
  | ((with_reducible apply ev_arrived) <;> walk_at "ev") | ((with_reducible apply ev_count) <;> walk_at "ev") | ((with_reducible apply ev_bare) <;> walk_at "ev")
  | ((with_reducible apply ev_I0) <;> walk_at "es") | ((with_reducible apply ev_B0) <;> walk_at "es") | ((with_reducible apply ev_eqI) <;> walk_at "es")
  | walk_at "ev")
section
variable {P : Program} {w : World} {K : PySem.W.Frag} {mg : Str → Option Value} {base : Heap} {C : Cl P w} {Hd0 H0 Hd H : Hp} {σ : L2.St} {ρ : En} {ta tb tv te : TE} {tl tr : TA} {D : Ends} {tz t1 t2 : TS} {i : Nat} {m : Addr} {s s' : Side}
/-- side[k] = e -/
theorem Wx.sput {k : Str} {d : PyData} (j : Nat) (s' : Side) (w : Wx K C Hd0 H0 Hd H σ ρ) (h : Ev K C tv ρ (.d d)) (hi : Nat.blt i ρ.n = true) (hx : ρ.f i = some (.dk m (encS s))) (h0 : H0 m = none) (ap : ApN ρ i m ρ.n) (hk : keysS.idxOf k = j) (hv : (valsS s).set j d = valsS s') (hl : j < 11)
    (k_ : ∀ Hd' H', Xm m Hd H Hd' H' → Wx K C Hd0 H0 Hd' H' σ (ρ.set i (.dk m (encS s'))) → D.nx σ H') : sDPut (tVar i) (tC (.str k)) tv D σ H :=
  w.dput hi hx h0 ap h (by rw [encS_len]; decide) fun Hd' H' x w' => k_ Hd' H' x (by rw [putSide hk hv hl] at w'; exact w')
theorem Wx.qsput {k : Str} {d : PyData} (j : Nat) (s' : Side) (w : Wx K C Hd0 H0 Hd H σ ρ) (h : Ev K C tv ρ (.d d)) (hi : Nat.blt i ρ.n = true) (hx : ρ.f i = some (.dk m (encS s))) (h0 : H0 m = none) (ap : ApN ρ i m ρ.n) (hk : keysS.idxOf k = j) (hv : (valsS s).set j d = valsS s') (hl : j < 11)
    (k_ : ∀ Hd' H', Xm m Hd H Hd' H' → Wx K C Hd0 H0 Hd' H' σ (ρ.set i (.dk m (encS s'))) → tz D σ H') : tSeq (sDPut (tVar i) (tC (.str k)) tv) tz D σ H := w.sput (D := { D with nx := tz D }) j s' h hi hx h0 ap hk hv hl k_
/-- the procedures on a side: what they make of it -/
def FSend : List AV → (PyData → AV → Prop) → Prop := fun as Pr => ∃ (m : Addr) (s : Side) (wd x : Int), as = [.dk m (encS s), .d (.int wd), .d (.int x)] ∧ s.way.length < 90000 ∧ Pr = fun d a' => d = .none ∧ a' = .dk m (encS (sSend s wd x))
theorem ok_law_send {f : Addr} {fd : FuncData} (F : Fun K "_law_send" "_law_send" s_law_send f fd) (T : Txt K mg C) : FnOk P w K mg base CX0 1 f fd ps_law_send (SpC K C FSend) := by
  refine okC F sc_law_send (fun as Pr ⟨_, _, _, _, e, _⟩ => by subst e; rfl) fun cdv A outer s H vs E hr => by
    have hu := Nat.lt_of_le_of_lt (Nat.add_le_add_left (by decide : 1 ≤ 64) _) hr.units
    exact ⟨_,
(pss_cons (ps_dput hu (pv 0) pe_str (pe_op op_sub (pe_dget hu (pv 0) pe_str (fun _ _ => rfl)) (pv 2)) rfl)
    (pss_cons (ps_dput hu (pv 0) pe_str (pe_op op_add (pe_dget hu (pv 0) pe_str (fun _ _ => rfl)) (pv 2)) rfl)
    (pss_cons (ps_dput hu (pv 0) pe_str (pe_op op_add (pe_dget hu (pv 0) pe_str (fun _ _ => rfl)) pe_int) rfl)
    (pss_cons (ps_dput hu (pv 0) pe_str (pe_op (opCatL K) (pe_dget hu (pv 0) pe_str (fun _ _ => rfl)) (pe_lst (pa_cons (pv 2) pa_nil))) rfl)
    (pss_one (ps_if (pt_cmpR op_lt (pv 2) (pv 1) (nomark _)) (pss_cons (ps_dput hu (pv 0) pe_str (pe_dget hu (pv 0) pe_str (fun _ _ => rfl)) rfl)
    (pss_one (ps_dput hu (pv 0) pe_str pe_bl rfl))) pss_nil)))))), by
  rintro Hd H0 A0 as m Pr Q σ ⟨m', s, wd, x, he, hlw, rfl⟩ hcell h0 w q
  cases he
  cases hcell
  refine w.qsput 0 { s with rest := s.rest - x } (by walk_at "es") rfl rfl h0 (by walk_at "ap") ks_rest (by rfl) (by decide) fun Hd H y1 w => ?_
  refine w.qsput 2 { s with rest := s.rest - x, sent := s.sent + x } (by walk_at "es") rfl rfl h0 (by walk_at "ap") ks_sent (by rfl) (by decide) fun Hd H y1 w => ?_
  refine w.qsput 9 { s with rest := s.rest - x, sent := s.sent + x, count := s.count + 1 } (by walk_at "es") rfl rfl h0 (by walk_at "ap") ks_count (by rfl) (by decide) fun Hd H y1 w => ?_
  refine w.qsput 5 { s with rest := s.rest - x, sent := s.sent + x, count := s.count + 1, way := s.way ++ [x] } (d := encI (s.way ++ [x])) (ev_is (ev_catL (ev_wayL (by walk_at "ev")) (by walk_at "ev") (by rw [List.length_map]; simp; omega)) (by unfold encI; rw [List.map_append]; rfl)) rfl rfl h0 (by walk_at "ap") ks_way (by rfl) (by decide) fun Hd H y1 w => ?_
  refine w.if_ (by walk_at "evt") (fun hb Hd H y2 w => ?_) (fun hb Hd H y2 w => ?_)
  · have hb : x < wd := of_decide_eq_true hb
    refine w.qsput 4 { s with rest := s.rest - x, sent := s.sent + x, count := s.count + 1, way := s.way ++ [x], mark := s.sent + x } (by walk_at "es") rfl rfl h0 (by walk_at "ap") ks_mark (by rfl) (by decide) fun Hd H y1 w => ?_
    refine w.sput 1 { s with rest := s.rest - x, sent := s.sent + x, count := s.count + 1, way := s.way ++ [x], mark := s.sent + x, kept := false } (by walk_at "es") rfl rfl h0 (by walk_at "ap") ks_kept (by rfl) (by decide) fun Hd H y1 w => ?_
    exact q _ _ _ Hd H ⟨rfl, by unfold sSend; rw [if_pos hb]⟩ rfl w.x (w.cellVR (i := 0) rfl rfl rfl).2 Dp.non
  · have hb : ¬ x < wd := of_decide_eq_false hb
    exact q _ _ _ Hd H ⟨rfl, by unfold sSend; rw [if_neg hb]⟩ rfl w.x (w.cellVR (i := 0) rfl rfl rfl).2 Dp.non⟩
def FMay : List AV → (AV → Prop) → Prop := fun as Pr => ∃ (m : Addr) (s : Side) (h : Hold), as = [.dk m (encS s), .d (.str h.str)] ∧ Pr = fun a => a = .d (.bool (sMay s h))
theorem ok_law_may {f : Addr} {fd : FuncData} (F : Fun K "_law_may" "_law_may" s_law_may f fd) (T : Txt K mg C) : FnOk P w K mg base CX0 1 f fd ps_law_may (SpD K C FMay) := by
  refine okD F sc_law_may (fun as Pr ⟨_, _, _, e, _⟩ => by subst e; rfl) fun cdv A outer s H vs E hr => by
    have hu := Nat.lt_of_le_of_lt (Nat.add_le_add_left (by decide : 1 ≤ 64) _) hr.units
    exact ⟨_,
(pss_cons (ps_if (pt_cmpR op_eq (pv 1) pe_str (nomark _)) (pss_one (ps_ret (pe_cmpR op_ge (pe_dget hu (pv 0) pe_str (fun _ _ => rfl)) (pe_dget hu (pv 0) pe_str (fun _ _ => rfl)) (nomark _)))) pss_nil)
    (pss_one (ps_ret (pe_or (pe_cmpR op_eq (pv 1) pe_str (nomark _)) (pe_one (pe_cmpR op_eq (pe_dget hu (pv 0) pe_str (fun _ _ => rfl)) (pe_dget hu (pv 0) pe_str (fun _ _ => rfl)) (nomark _))))))), by
  rintro Hd as Pr Q σ ⟨m, s, h, rfl, rfl⟩ w q
  refine w.qwhen (evt_is (by walk_at "evt") (hold_part h)) (fun hb Hd H x w => ?_) (fun hb Hd H x w => ?_)
  · have hb : h = .part := of_decide_eq_true hb
    exact w.ret (by walk_at "es") fun v Hd' H' x hv => q v _ Hd' H' (by unfold sMay; rw [if_pos hb]) x hv
  · have hb : ¬ h = .part := of_decide_eq_false hb
    exact w.ret (ev_orV (ev_is (by walk_at "ev") (by rw [hold_off])) fun _ => by walk_at "es") fun v Hd' H' x hv => q v _ Hd' H' (by unfold sMay; rw [if_neg hb]) x hv⟩

/-- a call that changes a side at slot i -/
theorem evc_side {F : List AV → (PyData → AV → Prop) → Prop} {E : XK} {R : PyData → AV → Prop} {as : List AV} (hi : Nat.blt i ρ.n = true) (h : EvL K C tl (ρ.set i (.dk m (encS s))) (.dk m (encS s) :: as)) (hF : F (.dk m (encS s) :: as) R) (ap : ApN (ρ.set i (.dk m (encS s))) i m ρ.n) : EvC K C i m (tCall (SpC K C F) [] E tl) ρ (fun a => a = .dk m (encS s)) R :=
  evc_call (as := as) hi fun a e => by subst e; exact ⟨rfl, h, hF, ap⟩
theorem Wx.kdrop {a : AV} {R : PyData → AV → Prop} (w : Wx K C Hd0 H0 Hd H σ (ρ.set i a)) (h0 : H0 m = none) (h : EvC K C i m te ρ (fun x => x = a) R) (k : ∀ d a' Hd' H', R d a' → Ex Hd Hd' → Wx K C Hd0 H0 Hd' H' σ (ρ.set i a') → D.nx σ H') : tDrop te D σ H := w.cdrop (A := fun x => x = a) h0 rfl h k
theorem Wx.qkdrop {a : AV} {R : PyData → AV → Prop} (w : Wx K C Hd0 H0 Hd H σ (ρ.set i a)) (h0 : H0 m = none) (h : EvC K C i m te ρ (fun x => x = a) R) (k : ∀ d a' Hd' H', R d a' → Ex Hd Hd' → Wx K C Hd0 H0 Hd' H' σ (ρ.set i a') → tz D σ H') : tSeq (tDrop te) tz D σ H := w.qcdrop (A := fun x => x = a) h0 rfl h k
theorem evc_sd {F : List AV → (PyData → AV → Prop) → Prop} {E : XK} {R : PyData → AV → Prop} {as : List AV} (hF : F (.dk m (encS s) :: as) R) (hi : Nat.blt i ρ.n = true) (h : EvL K C tl (ρ.set i (.dk m (encS s))) (.dk m (encS s) :: as)) (ap : ApN (ρ.set i (.dk m (encS s))) i m ρ.n) : EvC K C i m (tCall (SpC K C F) [] E tl) ρ (fun a => a = .dk m (encS s)) R := evc_side hi h hF ap
def FWrite : List AV → (PyData → AV → Prop) → Prop := fun as Pr => ∃ (m : Addr) (s : Side) (wd l : Int) (h : Hold) (md : Mode), as = [.dk m (encS s), .d (.int wd), .d (.str h.str), .d (.int l), .d (.str md.str)] ∧ 0 < wd ∧ 0 ≤ s.rest ∧ s.rest < wd ∧ 0 ≤ l ∧ l ≤ 1000 ∧ wd ≤ 10 ∧ s.way.length < 80000 ∧ Pr = fun d a' => d = .none ∧ a' = .dk m (encS (sWrite s wd h l md))
theorem ok_law_write {f : Addr} {fd : FuncData} (F : Fun K "_law_write" "_law_write" s_law_write f fd) (T : Txt K mg C) (d_law_send : Df P w K mg base "_law_send" 1 ps_law_send (SpC K C FSend)) (d_law_may : Df P w K mg base "_law_may" 1 ps_law_may (SpD K C FMay)) : FnOk P w K mg base CX0 2 f fd ps_law_write (SpC K C FWrite) := by
  refine okC F sc_law_write (fun as Pr ⟨_, _, _, _, _, _, e, _⟩ => by subst e; rfl) fun cdv A outer s H vs E hr => by
    have hu := Nat.lt_of_le_of_lt (Nat.add_le_add_left (by decide : 1 ≤ 64) _) hr.units
    exact ⟨_,
(pss_cons (ps_dput hu (pv 0) pe_str (pe_op op_add (pe_dget hu (pv 0) pe_str (fun _ _ => rfl)) (pv 3)) rfl)
    (pss_cons (ps_dput hu (pv 0) pe_str pe_bl rfl)
    (pss_cons (ps_while PassesOwn.never (pt_cmpR op_ge (pe_dget hu (pv 0) pe_str (fun _ _ => rfl)) (pv 1) (nomark _)) (pss_one (ps_expr (pe_df d_law_send (hr.mono (by decide)) rfl (pa_cons (pv 0) (pa_cons (pv 1) (pa_cons (pv 1) pa_nil)))))))
    (pss_one (ps_if (PW.pt (pw_and (pt_cmpR op_gt (pe_dget hu (pv 0) pe_str (fun _ _ => rfl)) pe_int (nomark _)) (pw_and1 (pt_cmpR op_eq (pv 4) pe_str (nomark _))))) (pss_one (ps_dput hu (pv 0) pe_str pe_bl rfl)) (pss_one (ps_if (PW.pt (pw_and (pt_cmpR op_gt (pe_dget hu (pv 0) pe_str (fun _ _ => rfl)) pe_int (nomark _)) (pw_and1 (PW.pt (pw_or (pt_cmpR op_eq (pv 4) pe_str (nomark _)) (pw_or1 (pt_val (pe_df d_law_may (hr.mono (by decide)) rfl (pa_cons (pv 0) (pa_cons (pv 2) pa_nil)))))))))) (pss_one (ps_expr (pe_df d_law_send (hr.mono (by decide)) rfl (pa_cons (pv 0) (pa_cons (pv 1) (pa_cons (pe_dget hu (pv 0) pe_str (fun _ _ => rfl)) pa_nil)))))) pss_nil))))))), by
  rintro Hd H0 A0 as m Pr Q σ ⟨m', s, wd, l, h, md, he, hwd, hr0, hr1, hl0, hl1, hwd1, hway, rfl⟩ hcell h0 w q
  cases he
  cases hcell
  refine w.qsput 0 { s with rest := s.rest + l } (by walk_at "es") rfl rfl h0 (by walk_at "ap") ks_rest (by rfl) (by decide) fun Hd H y1 w => ?_
  refine w.qsput 1 { s with rest := s.rest + l, kept := false } (by walk_at "es") rfl rfl h0 (by walk_at "ap") ks_kept (by rfl) (by decide) fun Hd H y1 w => ?_
  have hdef : sWrite s wd h l md = sPush (sLoop wd ((s.rest + l) / wd).toNat { s with rest := s.rest + l, kept := false }) wd h md := rfl
  have hs0 : ({ s with rest := s.rest + l, kept := false } : Side).way = s.way := rfl
  have hs1 : ({ s with rest := s.rest + l, kept := false } : Side).rest = s.rest + l := rfl
  generalize ({ s with rest := s.rest + l, kept := false } : Side) = s0 at w hdef hs0 hs1
  have hdiv0 : 0 ≤ (s.rest + l) / wd := Int.ediv_nonneg (by omega) (by omega)
  have hdm := Int.mul_ediv_add_emod (s.rest + l) wd
  have hm0 := Int.emod_nonneg (s.rest + l) (b := wd) (by omega)
  have hm1 := Int.emod_lt_of_pos (s.rest + l) (b := wd) hwd
  have hdivl : (s.rest + l) / wd ≤ 1010 := by
    have := Int.ediv_le_self (b := wd) (a := s.rest + l) (by omega)
    omega
  generalize hN : ((s.rest + l) / wd).toNat = N at hdef
  have hNe : (s.rest + l) / wd = (N : Int) := by omega
  rw [hNe] at hdm hdivl
  refine w.qwhile (fun g ρ' => g ≤ N ∧ ρ' = ls [.dk m (encS (sLoop wd (N - g) s0)), .d (.int wd), .d (.str h.str), .d (.int l), .d (.str md.str)]) N _ (by
    have : (N - N) = 0 := by omega
    rw [this]
    walk_at "le") ⟨Nat.le_refl _, rfl⟩ (fun g Hb Hd H σ ρ' hR e w => ?_)
  obtain ⟨hg, rfl⟩ := hR
  have hrest := sLoop_rest wd (N - g) s0
  have hwayl := sLoop_way wd (N - g) s0
  rw [hs1] at hrest
  rw [hs0] at hwayl
  have hcast : ((N - g : Nat) : Int) = N - g := by omega
  rw [hcast, Int.mul_sub] at hrest
  refine ⟨decide (wd ≤ (sLoop wd (N - g) s0).rest), by
    refine evt_test (ev_B0 ?_ ?_)
    · walk_at "es"
    · walk_at "ev", fun hb Hd H x w => ?_, fun hb Hd H x w _ => ?_⟩
  · have hb : wd ≤ (sLoop wd (N - g) s0).rest := of_decide_eq_true hb
    have hg0 : g ≠ 0 := fun z => by
      subst z
      simp at hrest hb
      omega
    have w : Wx K C _ _ Hd H σ ((ls [.unk, .d (.int wd), .d (.str h.str), .d (.int l), .d (.str md.str)]).set 0 (.dk m (encS (sLoop wd (N - g) s0)))) := w.le (by walk_at "le")
    refine w.kdrop h0 (evc_side (R := fun d a' => d = .none ∧ a' = .dk m (encS (sSend (sLoop wd (N - g) s0) wd wd))) rfl (by walk_at "evl") ⟨m, _, wd, wd, rfl, by omega, rfl⟩ (by walk_at "ap")) fun d a' Hd2 H2 hr2 e2 w => ?_
    obtain ⟨rfl, rfl⟩ := hr2
    refine w.ws ((e.trans x.d).trans e2) (ρ' := ls [.dk m (encS (sLoop wd (N - (g - 1)) s0)), .d (.int wd), .d (.str h.str), .d (.int l), .d (.str md.str)]) ?_ (n' := g - 1) (by omega) ⟨by omega, rfl⟩
    have : N - (g - 1) = (N - g) + 1 := by omega
    rw [this, sLoop_succ]
    walk_at "le"
  · have hb : ¬ wd ≤ (sLoop wd (N - g) s0).rest := of_decide_eq_false hb
    have hg0 : g = 0 := by
      cases g with
      | zero => rfl
      | succ k =>
        have : wd * ((k + 1 : Nat) : Int) = wd * k + wd := by rw [Int.natCast_add, Int.mul_add]; simp
        have h2 : 0 ≤ wd * (k : Int) := Int.mul_nonneg (by omega) (by omega)
        omega
    subst hg0
    rw [Nat.sub_zero] at w hwayl
    generalize hS : sLoop wd N s0 = S at w hdef hwayl
    refine w.if_ (evt_and (evt_test (ev_B0 (by walk_at "es") (by walk_at "ev"))) fun _ => evt_is (by walk_at "evt") (mode_more md)) (fun hb Hd H y2 w => ?_) (fun hb Hd H y2 w => ?_)
    · rw [Bool.and_eq_true, decide_eq_true_eq, decide_eq_true_eq] at hb
      refine w.sput 1 { S with kept := true } (by walk_at "es") rfl rfl h0 (by walk_at "ap") ks_kept (by rfl) (by decide) fun Hd H y1 w => ?_
      exact q _ _ _ Hd H ⟨rfl, by rw [hdef]; unfold sPush; rw [if_pos hb]⟩ rfl w.x (w.cellVR (i := 0) rfl rfl rfl).2 Dp.non
    · have hb : ¬ (0 < S.rest ∧ md = .more) := fun z => by
        rw [decide_eq_true z.1, decide_eq_true z.2] at hb; cases hb
      refine w.if_ (evt_and (evt_test (ev_B0 (by walk_at "es") (by walk_at "ev"))) fun _ => evt_or (evt_is (by walk_at "evt") (mode_push md)) fun _ => evt_B (ev_callE (by walk_at "evl") (by rfl) ⟨m, S, h, rfl, rfl⟩)) (fun hc Hd H y2 w => ?_) (fun hc Hd H y2 w => ?_)
      · have hc : 0 < S.rest ∧ (md = .push ∨ sMay S h = true) := by simpa using hc
        have w : Wx K C _ _ Hd H σ ((ls [.unk, .d (.int wd), .d (.str h.str), .d (.int l), .d (.str md.str)]).set 0 (.dk m (encS S))) := w.le (by walk_at "le")
        refine w.kdrop h0 (evc_side (R := fun d a' => d = .none ∧ a' = .dk m (encS (sSend S wd S.rest))) rfl (evl_cons (by walk_at "ev") (evl_cons (by walk_at "ev") (evl_cons (by walk_at "es") evl_nil))) ⟨m, S, wd, S.rest, rfl, by omega, rfl⟩ (by walk_at "ap")) fun d a' Hd2 H2 hr2 e2 w => ?_
        obtain ⟨rfl, rfl⟩ := hr2
        exact q _ _ _ Hd2 H2 ⟨rfl, by rw [hdef]; unfold sPush; rw [if_neg hb, if_pos hc]⟩ rfl w.x (w.cellVR (i := 0) rfl rfl rfl).2 Dp.non
      · have hc : ¬ (0 < S.rest ∧ (md = .push ∨ sMay S h = true)) := fun z => by
          have : (decide (0 < S.rest) && (decide (md = .push) || sMay S h)) = true := by simpa using z
          rw [hc] at this; cases this
        exact q _ _ _ Hd H ⟨rfl, by rw [hdef]; unfold sPush; rw [if_neg hb, if_neg hc]⟩ rfl w.x (w.cellVR (i := 0) rfl rfl rfl).2 Dp.non⟩
end
end LW

set_option Elab.async false
set_option linter.all false
set_option maxRecDepth 100000
set_option maxHeartbeats 4000000
namespace LW
open PySem PySem.Spec PyProof.Rows L2 Evl
local macro_rules | `(tactic| walk_at "ev") => `(tactic| first
  | with_reducible exact ev_int | with_reducible exact ev_bl | with_reducible exact ev_str | with_reducible exact ev_non
  | ((with_reducible apply ev_var) <;> rfl)
  | ((with_reducible apply ev_ixT) <;> first | walk_at "ev" | rfl)
  | ((with_reducible apply ev_ixL) <;> first | walk_at "ev" | rfl)
  | ((with_reducible apply ev_ixM) <;> first | walk_at "ev" | rfl)
  | ((with_reducible apply ev_I0) <;> walk_at "ev")
  | ((with_reducible apply ev_B0) <;> walk_at "ev")
  | ((with_reducible apply ev_U) <;> walk_at "ev")
  | ((with_reducible apply ev_tup) <;> first | walk_at "evd" | exact Nat.le_of_ble_eq_true rfl)
  | ((with_reducible apply ev_lst) <;> first | walk_at "evd" | exact Nat.le_of_ble_eq_true rfl)
  | ((with_reducible apply ev_eqI) <;> walk_at "ev")
  | ((with_reducible apply ev_eqS) <;> walk_at "ev")
  | ((with_reducible apply ev_neI) <;> walk_at "ev")
  | ((with_reducible apply ev_neS) <;> walk_at "ev")
  | ((with_reducible apply ev_notV) <;> walk_at "ev")
  | ((with_reducible apply ev_andV) <;> first | walk_at "ev" | (intro _; walk_at "ev"))
  | ((with_reducible apply ev_orV) <;> first | walk_at "ev" | (intro _; walk_at "ev"))
  | ((with_reducible apply ev_min) <;> walk_at "evl")
  | ((with_reducible apply ev_max) <;> walk_at "evl")
  | ((with_reducible apply ev_slT) <;> first | walk_at "ev" | walk_at "evo" | walk_at "cut")
  | ((with_reducible apply ev_slL) <;> first | walk_at "ev" | walk_at "evo")
  | ((with_reducible apply ev_catT) <;> first | walk_at "ev" | exact Nat.le_of_ble_eq_true rfl | (intro z; cases z))
  | ((with_reducible apply ev_abs) <;> walk_at "evl")
  | ((with_reducible apply ev_intI) <;> walk_at "evl")
  | ((with_reducible apply ev_intB) <;> walk_at "evl")
  | ((with_reducible apply ev_lenL) <;> walk_at "evl"))
local macro_rules | `(tactic| walk_at "evd") => `(tactic| first | with_reducible exact evd_nil | ((with_reducible apply evd_cons) <;> first | walk_at "ev" | walk_at "evd"))
local macro_rules | `(tactic| walk_at "evl") => `(tactic| first | with_reducible exact evl_nil | ((with_reducible apply evl_cons) <;> first | walk_at "ev" | walk_at "evl"))
local macro_rules | `(tactic| walk_at "evo") => `(tactic| first | with_reducible exact evo_none | ((with_reducible apply evo_some) <;> walk_at "ev"))
local macro_rules | `(tactic| walk_at "evt") => `(tactic| first
  | ((with_reducible apply evt_test) <;> walk_at "ev")
  | ((with_reducible apply evt_B) <;> walk_at "ev")
  | ((with_reducible apply evt_not) <;> walk_at "evt")
  | ((with_reducible apply evt_and) <;> first | walk_at "evt" | (intro _; walk_at "evt"))
  | ((with_reducible apply evt_or) <;> first | walk_at "evt" | (intro _; walk_at "evt")))
local macro_rules | `(tactic| walk_at "cut") => `(tactic| (intro z; simp [HT.sIx] at z))
local macro_rules | `(tactic| walk_at "le") => `(tactic| (refine ⟨rfl, ?_⟩; repeat (first | exact trivial | refine ⟨?_, ?_⟩ | exact Or.inr (Or.inl rfl) | exact Or.inl rfl | exact Or.inr (Or.inr rfl))))
local macro_rules | `(tactic| walk_at "ap") => `(tactic| repeat (first | exact trivial | refine ⟨?_, ?_⟩ | exact Or.inl rfl | exact Or.inr (ne_cell rfl) | exact Or.inr (ne_cell2 rfl (by assumption)) | exact Or.inr (ne_cell2 (by assumption) (by assumption)) | exact Or.inr (by assumption)))
local macro_rules | `(tactic| walk_at "es") => `(tactic| first
  | ((with_reducible apply ev_rest) <;> walk_at "ev") | ((with_reducible apply ev_kept) <;> walk_at "ev") | ((with_reducible apply ev_sent) <;> walk_at "ev") | ((with_reducible apply ev_covered) <;> walk_at "ev")
  | ((with_reducible apply ev_mark) <;> walk_at "ev") | ((with_reducible apply ev_way) <;> walk_at "ev") | ((with_reducible apply ev_heard) <;> walk_at "ev") | ((with_reducible apply ev_fulls) <;> walk_at "ev")
  | ((with_reducible apply ev_arrived) <;> walk_at "ev") | ((with_reducible apply ev_count) <;> walk_at "ev") | ((with_reducible apply ev_bare) <;> walk_at "ev")
  | ((with_reducible apply ev_I0) <;> walk_at "es") | ((with_reducible apply ev_B0) <;> walk_at "es") | ((with_reducible apply ev_eqI) <;> walk_at "es")
  | walk_at "ev")
section
variable {P : Program} {w : World} {K : PySem.W.Frag} {mg : Str → Option Value} {base : Heap} {C : Cl P w} {Hd0 H0 Hd H : Hp} {σ : L2.St} {ρ : En} {ta tb tv te : TE} {tl tr : TA} {D : Ends} {tz t1 t2 : TS} {i : Nat} {m : Addr} {s s' : Side}
def FHear : List AV → (PyData → AV → Prop) → Prop := fun as Pr => ∃ (m : Addr) (s : Side) (wd : Int) (o : PolD), as = [.dk m (encS s), .d (.int wd), .d (encRule o)] ∧ Pr = fun d a' => d = .int (sHear s wd o).2 ∧ a' = .dk m (encS (sHear s wd o).1)
theorem ok_law_hear {f : Addr} {fd : FuncData} (F : Fun K "_law_hear" "_law_hear" s_law_hear f fd) (T : Txt K mg C) : FnOk P w K mg base CX0 1 f fd ps_law_hear (SpC K C FHear) := by
  refine okC F sc_law_hear (fun as Pr ⟨_, _, _, _, e, _⟩ => by subst e; rfl) fun cdv A outer s H vs E hr => by
    have hu := Nat.lt_of_le_of_lt (Nat.add_le_add_left (by decide : 1 ≤ 64) _) hr.units
    exact ⟨_,
(pss_cons (ps_set (i := 3) sc_law_hear.nd rfl (Or.inl rfl) (pe_dget hu (pv 0) pe_str (fun _ _ => rfl)))
    (pss_cons (ps_for PassesOwn.never rfl (piList K (pe_dget hu (pv 0) pe_str (fun _ _ => rfl))) (pg_name (i := 4) sc_law_hear.nd rfl (Or.inl rfl)) (pss_cons (ps_dput hu (pv 0) pe_str (pe_op op_add (pe_dget hu (pv 0) pe_str (fun _ _ => rfl)) (pv 4)) rfl)
    (pss_cons (ps_dput hu (pv 0) pe_str (pe_op op_add (pe_dget hu (pv 0) pe_str (fun _ _ => rfl)) pe_int) rfl)
    (pss_cons (ps_dput hu (pv 0) pe_str (pe_op op_add (pe_dget hu (pv 0) pe_str (fun _ _ => rfl)) (pe_callTy call_int1 rfl T.n_int (by decide +kernel) (pa_cons (pe_cmpR op_eq (pv 4) (pv 1) (nomark _)) pa_nil))) rfl)
    (pss_one (ps_if (PW.pt (pw_or (pt_cmpR op_le (pe_dget hu (pv 0) pe_str (fun _ _ => rfl)) (pe_ix (ixT K) (pv 2) pe_int (fun _ _ => rfl)) (nomark _)) (pw_or1 (PW.pt (pw_and (pt_cmpR op_eq (pv 4) (pv 1) (nomark _)) (pw_and1 (pt_cmpR op_eq (pe_dget hu (pv 0) pe_str (fun _ _ => rfl)) (pe_ix (ixT K) (pv 2) pe_int (fun _ _ => rfl)) (nomark _)))))))) (pss_cons (ps_set (i := 3) sc_law_hear.nd rfl (Or.inl rfl) (pe_dget hu (pv 0) pe_str (fun _ _ => rfl)))
    (pss_cons (ps_dput hu (pv 0) pe_str pe_int rfl)
    (pss_one (ps_dput hu (pv 0) pe_str (pe_op op_add (pe_dget hu (pv 0) pe_str (fun _ _ => rfl)) pe_int) rfl)))) pss_nil))))))
    (pss_cons (ps_dput hu (pv 0) pe_str (pe_lst pa_nil) rfl)
    (pss_one (ps_ret (pv 3)))))), by
  rintro Hd H0 A0 as m Pr Q σ ⟨m', s, wd, o, he, rfl⟩ hcell h0 w q
  cases he
  cases hcell
  refine w.qasg (by walk_at "es") fun σ Hd H x w => ?_
  refine w.qforL (ds := s.way.map PyData.int) (ev_wayL (by walk_at "ev")) (fun i ρ' => ρ' = ls [.dk m (encS (foldN (hearStep wd o) s.way (s, s.covered) i).1), .d (.int wd), .d (encRule o), .d (.int (foldN (hearStep wd o) s.way (s, s.covered) i).2), .unk])
    (ls [.dk m (encS s), .d (.int wd), .d (encRule o), .d (.int s.covered), .unk]) (by walk_at "le") rfl (fun i d Hb Hd H σ ρ' hi hR e w => ?_) fun σ Hd H ρ' e w hR => ?_
  · subst hR
    rw [List.getElem?_map] at hi
    cases hz : s.way[i]? with
    | none => rw [hz] at hi; cases hi
    | some z =>
    rw [hz] at hi; cases hi
    have hstep := foldN_succ (f := hearStep wd o) (b := (s, s.covered)) hz
    generalize foldN (hearStep wd o) s.way (s, s.covered) i = Z at w hstep
    obtain ⟨S, rc⟩ := Z
    refine w.qsput 6 { S with heard := S.heard + z } (by walk_at "es") rfl rfl h0 (by walk_at "ap") ks_heard (by rfl) (by decide) fun Hd H y1 w => ?_
    refine w.qsput 8 { S with heard := S.heard + z, arrived := S.arrived + 1 } (by walk_at "es") rfl rfl h0 (by walk_at "ap") ks_arrived (by rfl) (by decide) fun Hd H y2 w => ?_
    refine w.qsput 7 { S with heard := S.heard + z, arrived := S.arrived + 1, fulls := S.fulls + (if decide (z = wd) = true then 1 else 0) } (ev_I0 (by walk_at "es") (ev_intB (by walk_at "evl"))) rfl rfl h0 (by walk_at "ap") ks_fulls (by rfl) (by decide) fun Hd H y3 w => ?_
    have hS : hearStep wd o (S, rc) z = if (S.arrived + 1 ≤ o.quick ∨ (z = wd ∧ S.fulls + (if decide (z = wd) = true then 1 else 0) = o.every)) then
      ({ S with heard := S.heard + z, arrived := S.arrived + 1, fulls := 0, bare := S.bare + 1 }, S.heard + z) else ({ S with heard := S.heard + z, arrived := S.arrived + 1, fulls := S.fulls + (if decide (z = wd) = true then 1 else 0) }, rc) := rfl
    generalize hS2 : ({ S with heard := S.heard + z, arrived := S.arrived + 1, fulls := S.fulls + (if decide (z = wd) = true then 1 else 0) } : Side) = S2 at w hS
    have e1 : S2.arrived = S.arrived + 1 := by rw [← hS2]
    have e2 : S2.fulls = S.fulls + (if decide (z = wd) = true then 1 else 0) := by rw [← hS2]
    have e3 : S2.heard = S.heard + z := by rw [← hS2]
    rw [← e1, ← e2, ← e3] at hS
    refine w.if_ (evt_or (evt_test (ev_B0 (by walk_at "es") (ev_ixT (ds := [_, _, _]) (by walk_at "ev") (by walk_at "ev") (by rfl)))) fun _ => evt_and (evt_test (by walk_at "ev")) fun _ => evt_test (ev_eqI (by walk_at "es") (ev_ixT (ds := [_, _, _]) (by walk_at "ev") (by walk_at "ev") (by rfl)))) (fun hb Hd H y4 w => ?_) (fun hb Hd H y4 w => ?_)
    · have hb : S2.arrived ≤ o.quick ∨ (z = wd ∧ S2.fulls = o.every) := by simpa using hb
      refine w.qasg (by walk_at "es") fun σ Hd H y5 w => ?_
      refine w.qsput 7 { S2 with fulls := 0 } (by walk_at "es") rfl rfl h0 (by walk_at "ap") ks_fulls (by rfl) (by decide) fun Hd H y6 w => ?_
      refine w.sput 10 { S2 with fulls := 0, bare := S2.bare + 1 } (by walk_at "es") rfl rfl h0 (by walk_at "ap") ks_bare (by rfl) (by decide) fun Hd H y7 w => ?_
      refine w.ls (((((((e.trans y1.d).trans y2.d).trans y3.d).trans y4.d).trans y5.d).trans y6.d).trans y7.d) (ρ' := ls [.dk m (encS { S2 with fulls := 0, bare := S2.bare + 1 }), .d (.int wd), .d (encRule o), .d (.int S2.heard), .unk]) (by walk_at "le") ?_
      rw [hstep, hS, if_pos hb, ← hS2]
    · have hb : ¬ (S2.arrived ≤ o.quick ∨ (z = wd ∧ S2.fulls = o.every)) := fun z' => by
        have : (decide (S2.arrived ≤ o.quick) || (decide (z = wd) && decide (S2.fulls = o.every))) = true := by simpa using z'
        rw [hb] at this; cases this
      refine w.ls ((((e.trans y1.d).trans y2.d).trans y3.d).trans y4.d) (ρ' := ls [.dk m (encS S2), .d (.int wd), .d (encRule o), .d (.int rc), .unk]) (by walk_at "le") ?_
      rw [hstep, hS, if_neg hb]
  · subst hR
    rw [List.length_map, foldN_all] at w
    refine w.qsput 5 (sHear s wd o).1 (d := encI []) (ev_is (by walk_at "ev") (by rfl)) rfl rfl h0 (by walk_at "ap") ks_way (by rfl) (by decide) fun Hd H y1 w => ?_
    refine w.retC (i := 0) (m := m) rfl rfl rfl (by walk_at "ev") fun v Hd' H' x hv hd => q v _ _ Hd' H' ⟨rfl, rfl⟩ rfl x hv hd⟩
theorem Wx.kcdput {a : AV} {k : Str} {R : PyData → AV → Prop} {d : PyData} (j : Nat) (s s' : Side) (w : Wx K C Hd0 H0 Hd H σ (ρ.set i a)) (h : EvC K C i m tv ρ (fun x => x = a) (fun d' a' => d' = d ∧ a' = .dk m (encS s))) (hi : Nat.blt i ρ.n = true) (h0 : H0 m = none) (ap : ∀ a', ApN (ρ.set i a') i m ρ.n) (hk : keysS.idxOf k = j) (hv : (valsS s).set j d = valsS s') (hl : j < 11)
    (k_ : ∀ Hd' H', Ex Hd Hd' → Wx K C Hd0 H0 Hd' H' σ (ρ.set i (.dk m (encS s'))) → D.nx σ H') : sDPut (tVar i) (tC (.str k)) tv D σ H :=
  w.cdput (A := fun x => x = a) hi h0 rfl h (fun d' a' r => ⟨encS s, r.2, by rw [encS_len]; decide⟩) ap fun d' kvs Hd' H' r e w' => by
    obtain ⟨rfl, r2⟩ := r
    cases r2
    rw [putSide hk hv hl] at w'
    exact k_ Hd' H' e w'
theorem Wx.qkcdput {a : AV} {k : Str} {R : PyData → AV → Prop} {d : PyData} (j : Nat) (s s' : Side) (w : Wx K C Hd0 H0 Hd H σ (ρ.set i a)) (h : EvC K C i m tv ρ (fun x => x = a) (fun d' a' => d' = d ∧ a' = .dk m (encS s))) (hi : Nat.blt i ρ.n = true) (h0 : H0 m = none) (ap : ∀ a', ApN (ρ.set i a') i m ρ.n) (hk : keysS.idxOf k = j) (hv : (valsS s).set j d = valsS s') (hl : j < 11)
    (k_ : ∀ Hd' H', Ex Hd Hd' → Wx K C Hd0 H0 Hd' H' σ (ρ.set i (.dk m (encS s'))) → tz D σ H') : tSeq (sDPut (tVar i) (tC (.str k)) tv) tz D σ H := w.kcdput (D := { D with nx := tz D }) (R := R) j s s' h hi h0 ap hk hv hl k_
def FClear : List AV → (PyData → AV → Prop) → Prop := fun as Pr => ∃ (m : Addr) (s : Side) (wd : Int) (p o : PolD), as = [.dk m (encS s), .d (.int wd), .d (encRule p), .d (encRule o)] ∧ Pr = fun d a' => d = .none ∧ a' = .dk m (encS (sClear s wd p.hold o))
theorem ok_law_clear {f : Addr} {fd : FuncData} (F : Fun K "_law_clear" "_law_clear" s_law_clear f fd) (T : Txt K mg C) (d_law_hear : Df P w K mg base "_law_hear" 1 ps_law_hear (SpC K C FHear)) (d_law_may : Df P w K mg base "_law_may" 1 ps_law_may (SpD K C FMay)) (d_law_send : Df P w K mg base "_law_send" 1 ps_law_send (SpC K C FSend)) : FnOk P w K mg base CX0 2 f fd ps_law_clear (SpC K C FClear) := by
  refine okC F sc_law_clear (fun as Pr ⟨_, _, _, _, _, e, _⟩ => by subst e; rfl) fun cdv A outer s H vs E hr => by
    have hu := Nat.lt_of_le_of_lt (Nat.add_le_add_left (by decide : 1 ≤ 64) _) hr.units
    exact ⟨_,
(pss_cons (ps_dput hu (pv 0) pe_str (pe_df d_law_hear (hr.mono (by decide)) rfl (pa_cons (pv 0) (pa_cons (pv 1) (pa_cons (pv 3) pa_nil)))) rfl)
    (pss_one (ps_if (PW.pt (pw_and (pt_cmpR op_gt (pe_dget hu (pv 0) pe_str (fun _ _ => rfl)) pe_int (nomark _)) (pw_and (pt_not (pt_val (pe_dget hu (pv 0) pe_str (fun _ _ => rfl)))) (pw_and1 (pt_val (pe_df d_law_may (hr.mono (by decide)) rfl (pa_cons (pv 0) (pa_cons (pe_ix (ixT K) (pv 2) pe_int (fun _ _ => rfl)) pa_nil)))))))) (pss_one (ps_expr (pe_df d_law_send (hr.mono (by decide)) rfl (pa_cons (pv 0) (pa_cons (pv 1) (pa_cons (pe_dget hu (pv 0) pe_str (fun _ _ => rfl)) pa_nil)))))) pss_nil))), by
  rintro Hd H0 A0 as m Pr Q σ ⟨m', s, wd, p, o, he, rfl⟩ hcell h0 w q
  cases he
  cases hcell
  have w : Wx K C _ _ Hd H σ ((ls [.unk, .d (.int wd), .d (encRule p), .d (encRule o)]).set 0 (.dk m (encS s))) := w.le (by walk_at "le")
  refine w.qkcdput (R := fun _ _ => True) (d := .int (sHear s wd o).2) 3 (sHear s wd o).1 (sCov s wd o) (evc_side (R := fun d' a' => d' = .int (sHear s wd o).2 ∧ a' = .dk m (encS (sHear s wd o).1)) rfl (by walk_at "evl") ⟨m, s, wd, o, rfl, rfl⟩ (by walk_at "ap")) rfl h0 (fun a' => by walk_at "ap") ks_covered (by rfl) (by decide) fun Hd H e1 w => ?_
  have hdef : sClear s wd p.hold o = if 0 < (sCov s wd o).rest ∧ (sCov s wd o).kept = false ∧ sMay (sCov s wd o) p.hold = true then sSend (sCov s wd o) wd (sCov s wd o).rest else sCov s wd o := rfl
  have hway := (sCov_rest s wd o).2.2
  generalize sCov s wd o = S at w hdef hway
  refine w.if_ (evt_and (evt_test (ev_B0 (by walk_at "es") (by walk_at "ev"))) fun _ => evt_and (evt_not (evt_B (by walk_at "es"))) fun _ => evt_B (ev_callE (evl_cons (by walk_at "ev") (evl_cons (ev_ixT (ds := [_, _, _]) (by walk_at "ev") (by walk_at "ev") (by rfl)) evl_nil)) (by rfl) ⟨m, S, p.hold, rfl, rfl⟩)) (fun hb Hd H y2 w => ?_) (fun hb Hd H y2 w => ?_)
  · have hb : 0 < S.rest ∧ S.kept = false ∧ sMay S p.hold = true := by simpa using hb
    have w : Wx K C _ _ Hd H σ ((ls [.unk, .d (.int wd), .d (encRule p), .d (encRule o)]).set 0 (.dk m (encS S))) := w.le (by walk_at "le")
    refine w.kdrop h0 (evc_side (R := fun d a' => d = .none ∧ a' = .dk m (encS (sSend S wd S.rest))) rfl (evl_cons (by walk_at "ev") (evl_cons (by walk_at "ev") (evl_cons (by walk_at "es") evl_nil))) ⟨m, S, wd, S.rest, rfl, by rw [hway]; decide, rfl⟩ (by walk_at "ap")) fun d a' Hd2 H2 hr2 e2 w => ?_
    obtain ⟨rfl, rfl⟩ := hr2
    exact q _ _ _ Hd2 H2 ⟨rfl, by rw [hdef, if_pos hb]⟩ rfl w.x (w.cellVR (i := 0) rfl rfl rfl).2 Dp.non
  · have hb : ¬ (0 < S.rest ∧ S.kept = false ∧ sMay S p.hold = true) := fun z => by
      have : (decide (0 < S.rest) && (!S.kept && sMay S p.hold)) = true := by simpa using z
      rw [hb] at this; cases this
    exact q _ _ _ Hd H ⟨rfl, by rw [hdef, if_neg hb]⟩ rfl w.x (w.cellVR (i := 0) rfl rfl rfl).2 Dp.non⟩
end
end LW

set_option Elab.async false
set_option linter.all false
set_option maxRecDepth 100000
set_option maxHeartbeats 4000000
namespace LW
open PySem PySem.Spec PyProof.Rows L2 Evl
local macro_rules | `(tactic| walk_at "ev") => `(tactic| first
  | with_reducible exact ev_int | with_reducible exact ev_bl | with_reducible exact ev_str | with_reducible exact ev_non
  | ((with_reducible apply ev_var) <;> rfl)
  | ((with_reducible apply ev_ixT) <;> first | walk_at "ev" | rfl)
  | ((with_reducible apply ev_ixL) <;> first | walk_at "ev" | rfl)
  | ((with_reducible apply ev_ixM) <;> first | walk_at "ev" | rfl)
  | ((with_reducible apply ev_I0) <;> walk_at "ev")
  | ((with_reducible apply ev_B0) <;> walk_at "ev")
  | ((with_reducible apply ev_U) <;> walk_at "ev")
  | ((with_reducible apply ev_tup) <;> first | walk_at "evd" | exact Nat.le_of_ble_eq_true rfl)
  | ((with_reducible apply ev_lst) <;> first | walk_at "evd" | exact Nat.le_of_ble_eq_true rfl)
  | ((with_reducible apply ev_eqI) <;> walk_at "ev")
  | ((with_reducible apply ev_eqS) <;> walk_at "ev")
  | ((with_reducible apply ev_neI) <;> walk_at "ev")
  | ((with_reducible apply ev_neS) <;> walk_at "ev")
  | ((with_reducible apply ev_notV) <;> walk_at "ev")
  | ((with_reducible apply ev_andV) <;> first | walk_at "ev" | (intro _; walk_at "ev"))
  | ((with_reducible apply ev_orV) <;> first | walk_at "ev" | (intro _; walk_at "ev"))
  | ((with_reducible apply ev_min) <;> walk_at "evl")
  | ((with_reducible apply ev_max) <;> walk_at "evl")
  | ((with_reducible apply ev_slT) <;> first | walk_at "ev" | walk_at "evo" | walk_at "cut")
  | ((with_reducible apply ev_slL) <;> first | walk_at "ev" | walk_at "evo")
  | ((with_reducible apply ev_catT) <;> first | walk_at "ev" | exact Nat.le_of_ble_eq_true rfl | (intro z; cases z))
  | ((with_reducible apply ev_abs) <;> walk_at "evl")
  | ((with_reducible apply ev_intI) <;> walk_at "evl")
  | ((with_reducible apply ev_intB) <;> walk_at "evl")
  | ((with_reducible apply ev_lenL) <;> walk_at "evl"))
local macro_rules | `(tactic| walk_at "evd") => `(tactic| first | with_reducible exact evd_nil | ((with_reducible apply evd_cons) <;> first | walk_at "ev" | walk_at "evd"))
local macro_rules | `(tactic| walk_at "evl") => `(tactic| first | with_reducible exact evl_nil | ((with_reducible apply evl_cons) <;> first | walk_at "ev" | walk_at "evl"))
local macro_rules | `(tactic| walk_at "evo") => `(tactic| first | with_reducible exact evo_none | ((with_reducible apply evo_some) <;> walk_at "ev"))
local macro_rules | `(tactic| walk_at "evt") => `(tactic| first
  | ((with_reducible apply evt_test) <;> walk_at "ev")
  | ((with_reducible apply evt_B) <;> walk_at "ev")
  | ((with_reducible apply evt_not) <;> walk_at "evt")
  | ((with_reducible apply evt_and) <;> first | walk_at "evt" | (intro _; walk_at "evt"))
  | ((with_reducible apply evt_or) <;> first | walk_at "evt" | (intro _; walk_at "evt")))
local macro_rules | `(tactic| walk_at "cut") => `(tactic| (intro z; simp [HT.sIx] at z))
local macro_rules | `(tactic| walk_at "le") => `(tactic| (refine ⟨rfl, ?_⟩; repeat (first | exact trivial | refine ⟨?_, ?_⟩ | exact Or.inr (Or.inl rfl) | exact Or.inl rfl | exact Or.inr (Or.inr rfl))))
local macro_rules | `(tactic| walk_at "ap") => `(tactic| repeat (first | exact trivial | refine ⟨?_, ?_⟩ | exact Or.inl rfl | exact Or.inr (ne_cell rfl) | exact Or.inr (ne_cell2 rfl (by assumption)) | exact Or.inr (ne_cell2 (by assumption) (by assumption)) | exact Or.inr (by assumption)))
local macro_rules | `(tactic| walk_at "es") => `(tactic| first
  | ((with_reducible apply ev_rest) <;> walk_at "ev") | ((with_reducible apply ev_kept) <;> walk_at "ev") | ((with_reducible apply ev_sent) <;> walk_at "ev") | ((with_reducible apply ev_covered) <;> walk_at "ev")
  | ((with_reducible apply ev_mark) <;> walk_at "ev") | ((with_reducible apply ev_way) <;> walk_at "ev") | ((with_reducible apply ev_heard) <;> walk_at "ev") | ((with_reducible apply ev_fulls) <;> walk_at "ev")
  | ((with_reducible apply ev_arrived) <;> walk_at "ev") | ((with_reducible apply ev_count) <;> walk_at "ev") | ((with_reducible apply ev_bare) <;> walk_at "ev")
  | ((with_reducible apply ev_I0) <;> walk_at "es") | ((with_reducible apply ev_B0) <;> walk_at "es") | ((with_reducible apply ev_eqI) <;> walk_at "es")
  | walk_at "ev")
section
variable {P : Program} {w : World} {K : PySem.W.Frag} {mg : Str → Option Value} {base : Heap} {C : Cl P w} {Hd0 H0 Hd H : Hp} {σ : L2.St} {ρ : En} {ta tb tv te : TE} {tl tr : TA} {D : Ends} {tz t1 t2 : TS} {i : Nat} {m : Addr} {s s' : Side}
theorem shaped_ints (l : List Int) : SeqAt.shaped (.list (l.map PyData.int)) = true := shaped_list fun d hd => by
  obtain ⟨x, _, rfl⟩ := List.mem_map.mp hd
  exact ⟨by simp [PyData.canLay0], by simp [PyData.depth]⟩
def FFinish : List AV → (PyData → AV → Prop) → Prop := fun as Pr => ∃ (m : Addr) (s : Side) (wd : Int) (p o : PolD), as = [.dk m (encS s), .d (.int wd), .d (encRule p), .d (encRule o)] ∧ Pr = fun d a' => d = .bool (sFinish s wd p.hold o).1 ∧ a' = .dk m (encS (sFinish s wd p.hold o).2)
theorem ok_law_finish {f : Addr} {fd : FuncData} (F : Fun K "_law_finish" "_law_finish" s_law_finish f fd) (T : Txt K mg C) (d_law_clear : Df P w K mg base "_law_clear" 2 ps_law_clear (SpC K C FClear)) (d_law_hear : Df P w K mg base "_law_hear" 1 ps_law_hear (SpC K C FHear)) (d_law_send : Df P w K mg base "_law_send" 1 ps_law_send (SpC K C FSend)) : FnOk P w K mg base CX0 3 f fd ps_law_finish (SpC K C FFinish) := by
  refine okC F sc_law_finish (fun as Pr ⟨_, _, _, _, _, e, _⟩ => by subst e; rfl) fun cdv A outer s H vs E hr => by
    have hu := Nat.lt_of_le_of_lt (Nat.add_le_add_left (by decide : 1 ≤ 64) _) hr.units
    exact ⟨_,
(pss_cons (ps_while PassesOwn.never (pt_cmpR (opNeD K hr.units) (pe_dget hu (pv 0) pe_str (fun _ _ => rfl)) (pe_lst pa_nil) (nomark _)) (pss_one (ps_expr (pe_df d_law_clear (hr.mono (by decide)) rfl (pa_cons (pv 0) (pa_cons (pv 1) (pa_cons (pv 2) (pa_cons (pv 3) pa_nil))))))))
    (pss_cons (ps_if (pt_cmpR op_eq (pe_dget hu (pv 0) pe_str (fun _ _ => rfl)) pe_int (nomark _)) (pss_one (ps_ret pe_bl)) pss_nil)
    (Evl.pss_cut (ps_if (pt_not (pt_val (pe_dget hu (pv 0) pe_str (fun _ _ => rfl)))) (pss_cons (ps_dput hu (pv 0) pe_str (pe_op op_add (pe_dget hu (pv 0) pe_str (fun _ _ => rfl)) pe_int) rfl)
    (pss_one (ps_dput hu (pv 0) pe_str pe_int rfl))) pss_nil)
    (pss_cons (ps_expr (pe_df d_law_send (hr.mono (by decide)) rfl (pa_cons (pv 0) (pa_cons (pv 1) (pa_cons (pe_dget hu (pv 0) pe_str (fun _ _ => rfl)) pa_nil)))))
    (pss_cons (ps_dput hu (pv 0) pe_str (pe_df d_law_hear (hr.mono (by decide)) rfl (pa_cons (pv 0) (pa_cons (pv 1) (pa_cons (pv 3) pa_nil)))) rfl)
    (pss_one (ps_ret pe_bl))))))), by
  rintro Hd H0 A0 as m Pr Q σ ⟨m', s, wd, p, o, he, rfl⟩ hcell h0 w q
  cases he
  cases hcell
  have hfin : sFinish s wd p.hold o = if (sDone s wd p.hold o).rest = 0 then (false, sDone s wd p.hold o) else (true, sCov (sSend (if (sDone s wd p.hold o).kept = true then sDone s wd p.hold o else { sDone s wd p.hold o with bare := (sDone s wd p.hold o).bare + 1, fulls := 0 }) wd (if (sDone s wd p.hold o).kept = true then sDone s wd p.hold o else { sDone s wd p.hold o with bare := (sDone s wd p.hold o).bare + 1, fulls := 0 }).rest) wd o) := rfl
  refine w.qwhile (fun g ρ' => ∃ S, ρ' = ls [.dk m (encS S), .d (.int wd), .d (encRule p), .d (encRule o)] ∧ ((g = 2 ∧ S = s) ∨ (g = 1 ∧ s.way ≠ [] ∧ S = sClear s wd p.hold o) ∨ (g = 0 ∧ s.way ≠ [] ∧ (sClear s wd p.hold o).way ≠ [] ∧ S = sClear (sClear s wd p.hold o) wd p.hold o)))
    2 (ls [.dk m (encS s), .d (.int wd), .d (encRule p), .d (encRule o)]) (by walk_at "le") ⟨s, rfl, .inl ⟨rfl, rfl⟩⟩ (fun g Hb Hd H σ ρ' hR e w => ?_)
  obtain ⟨S, rfl, hS⟩ := hR
  have hev : EvT K C (tTest (tOp (rNeD K) (tDGet (tVar 0) (tC (.str "way"))) (tLst tNil))) (ls [.dk m (encS S), .d (.int wd), .d (encRule p), .d (encRule o)]) (!S.way.isEmpty) := by
    refine evt_is (evt_test (ev_neD (ev_wayL (by walk_at "ev")) (by walk_at "ev") (shaped_ints _) shaped_nil)) ?_
    rw [eqv_list_nil]
    cases S.way <;> rfl
  refine ⟨!S.way.isEmpty, hev, fun hb Hd H x w => ?_, fun hb Hd H x w _ => ?_⟩
  · have hb : S.way ≠ [] := fun z => by rw [z] at hb; cases hb
    have w : Wx K C _ _ Hd H σ ((ls [.unk, .d (.int wd), .d (encRule p), .d (encRule o)]).set 0 (.dk m (encS S))) := w.le (by walk_at "le")
    refine w.kdrop h0 (evc_side (R := fun d a' => d = .none ∧ a' = .dk m (encS (sClear S wd p.hold o))) rfl (by walk_at "evl") ⟨m, S, wd, p, o, rfl, rfl⟩ (by walk_at "ap")) fun d a' Hd2 H2 hr2 e2 w => ?_
    obtain ⟨rfl, rfl⟩ := hr2
    rcases hS with ⟨hg, hSs⟩ | ⟨hg, hw, hSs⟩ | ⟨hg, hw, hw2, hSs⟩
    · exact w.ws ((e.trans x.d).trans e2) (ρ' := ls [.dk m (encS (sClear S wd p.hold o)), .d (.int wd), .d (encRule p), .d (encRule o)]) (by walk_at "le") (n' := 1) (by omega) ⟨_, rfl, .inr (.inl ⟨rfl, by rw [← hSs]; exact hb, by rw [hSs]⟩)⟩
    · exact w.ws ((e.trans x.d).trans e2) (ρ' := ls [.dk m (encS (sClear S wd p.hold o)), .d (.int wd), .d (encRule p), .d (encRule o)]) (by walk_at "le") (n' := 0) (by omega) ⟨_, rfl, .inr (.inr ⟨rfl, hw, by rw [← hSs]; exact hb, by rw [hSs]⟩)⟩
    · exact absurd (clear_rest0 (clear_way hw2)).1 (by rw [← hSs]; exact hb)
  · have hb : S.way = [] := by
      cases hz : S.way with
      | nil => rfl
      | cons a r => rw [hz] at hb; cases hb
    have hdn : sDone s wd p.hold o = S := by
      unfold sDone
      rcases hS with ⟨hg, hSs⟩ | ⟨hg, hw, hSs⟩ | ⟨hg, hw, hw2, hSs⟩
      · rw [← hSs, if_pos hb]
      · rw [← hSs, if_neg hw, if_pos hb]
      · rw [if_neg hw, if_neg hw2, ← hSs]
    rw [hdn] at hfin
    refine w.qwhen (evt_test (ev_eqI (by walk_at "es") (by walk_at "ev"))) (fun hc Hd H y1 w => ?_) (fun hc Hd H y1 w => ?_)
    · have hc : S.rest = 0 := of_decide_eq_true hc
      refine w.retC (i := 0) (m := m) rfl rfl rfl (by walk_at "ev") fun v Hd' H' x hv hd => q v _ _ Hd' H' ⟨?_, ?_⟩ rfl x hv hd
      · rw [hfin, if_pos hc]
      · rw [hfin, if_pos hc]
    have hc : ¬ S.rest = 0 := of_decide_eq_false hc
    rw [if_neg hc] at hfin
    refine w.qcutL (fun ρ' => ρ' = (ls [.unk, .d (.int wd), .d (encRule p), .d (encRule o)]).set 0 (.dk m (encS (if S.kept = true then S else { S with bare := S.bare + 1, fulls := 0 })))) (w.if_ (evt_not (evt_B (by walk_at "es"))) (fun hk Hd H y2 w => ?_) (fun hk Hd H y2 w => ?_)) fun σ Hd H ρ2 e2 hR2 w => ?_
    · have hk : ¬ S.kept = true := by simpa using hk
      refine w.qsput 10 { S with bare := S.bare + 1 } (by walk_at "es") rfl rfl h0 (by walk_at "ap") ks_bare (by rfl) (by decide) fun Hd H y3 w => ?_
      refine w.sput 7 { S with bare := S.bare + 1, fulls := 0 } (by walk_at "es") rfl rfl h0 (by walk_at "ap") ks_fulls (by rfl) (by decide) fun Hd H y4 w => ?_
      refine w.ls ((y2.d.trans y3.d).trans y4.d) (ρ' := (ls [.unk, .d (.int wd), .d (encRule p), .d (encRule o)]).set 0 (.dk m (encS { S with bare := S.bare + 1, fulls := 0 }))) (by walk_at "le") (by rw [if_neg hk])
    · have hk : S.kept = true := by simpa using hk
      refine w.ls y2.d (ρ' := (ls [.unk, .d (.int wd), .d (encRule p), .d (encRule o)]).set 0 (.dk m (encS S))) (by walk_at "le") (by rw [if_pos hk])
    subst hR2
    have hw2 : (if S.kept = true then S else { S with bare := S.bare + 1, fulls := 0 } : Side).way = [] := by split <;> exact hb
    generalize (if S.kept = true then S else { S with bare := S.bare + 1, fulls := 0 } : Side) = S2 at w hfin hw2
    refine w.qkdrop h0 (evc_side (R := fun d a' => d = .none ∧ a' = .dk m (encS (sSend S2 wd S2.rest))) rfl (evl_cons (by walk_at "ev") (evl_cons (by walk_at "ev") (evl_cons (by walk_at "es") evl_nil))) ⟨m, S2, wd, S2.rest, rfl, by rw [hw2]; decide, rfl⟩ (by walk_at "ap")) fun d a' Hd2 H2 hr2 e3 w => ?_
    obtain ⟨rfl, rfl⟩ := hr2
    generalize sSend S2 wd S2.rest = S3 at w hfin
    refine w.qkcdput (R := fun _ _ => True) (d := .int (sHear S3 wd o).2) 3 (sHear S3 wd o).1 (sCov S3 wd o) (evc_side (R := fun d' a' => d' = .int (sHear S3 wd o).2 ∧ a' = .dk m (encS (sHear S3 wd o).1)) rfl (by walk_at "evl") ⟨m, S3, wd, o, rfl, rfl⟩ (by walk_at "ap")) rfl h0 (fun a' => by walk_at "ap") ks_covered (by rfl) (by decide) fun Hd H e1 w => ?_
    refine w.retC (i := 0) (m := m) rfl rfl rfl (by walk_at "ev") fun v Hd' H' x hv hd => q v _ _ Hd' H' ⟨?_, ?_⟩ rfl x hv hd
    · rw [hfin]
    · rw [hfin]⟩
theorem put_new {kvs : List (Str × PyData)} {k : Str} {d : PyData} (h : k ∉ kvs.map (·.1)) : putS kvs k d = kvs ++ [(k, d)] := by
  unfold putS
  rw [if_neg]
  intro z
  obtain ⟨q, hq, e⟩ := List.any_eq_true.mp z
  exact h (of_decide_eq_true e ▸ List.mem_map.mpr ⟨q, hq, rfl⟩)
def kv8 : List (Str × PyData) := [("rest", .int 0), ("kept", .bool false), ("sent", .int 0), ("covered", .int 0), ("mark", .int 0), ("way", .list []), ("heard", .int 0), ("fulls", .int 0)]
def kv9 (a0 : Int) : List (Str × PyData) := kv8 ++ [(("arrived" : Str), PyData.int a0)]
def kv10 (a0 : Int) : List (Str × PyData) := kv9 a0 ++ [(("count" : Str), PyData.int 0)]
def FSide : List AV → (AV → Prop) → Prop := fun as Pr => ∃ a0 : Int, as = [.d (.int a0)] ∧ Pr = fun a => ∃ m, a = .dk m (encS (sNew a0))
theorem ok_law_side {f : Addr} {fd : FuncData} (F : Fun K "_law_side" "_law_side" s_law_side f fd) (T : Txt K mg C) : FnOk P w K mg base CX0 1 f fd ps_law_side (SpN K C FSide) := by
  refine okN F sc_law_side (fun as Pr ⟨_, e, _⟩ => by subst e; rfl) fun cdv A outer s H vs E hr => by
    have hu := Nat.lt_of_le_of_lt (Nat.add_le_add_left (by decide : 1 ≤ 64) _) hr.units
    exact ⟨_,
(pss_cons (ps_set (i := 1) sc_law_side.nd rfl (Or.inl rfl) (pe_disp (pps_cons pe_str pe_int (pps_cons pe_str pe_bl (pps_cons pe_str pe_int (pps_cons pe_str pe_int (pps_cons pe_str pe_int (pps_cons pe_str (pe_lst pa_nil) (pps_cons pe_str pe_int (pps_cons pe_str pe_int pps_nil)))))))) (by rfl) (by rfl) (fun z => by cases z) (by decide)))
    (pss_cons (ps_dput hu (pv 1) pe_str (pv 0) rfl)
    (pss_cons (ps_dput hu (pv 1) pe_str pe_int rfl)
    (pss_cons (ps_dput hu (pv 1) pe_str pe_int rfl)
    (pss_one (ps_ret (pv 1))))))), by
  rintro Hd as Pr Q σ ⟨a0, rfl, rfl⟩ w q
  refine w.qdisp (kvs := kv8) (evps_cons (by walk_at "ev") (evps_cons (by walk_at "ev") (evps_cons (by walk_at "ev") (evps_cons (by walk_at "ev") (evps_cons (by walk_at "ev") (evps_cons (by walk_at "ev") (evps_cons (by walk_at "ev") (evps_cons (by walk_at "ev") evps_nil)))))))) (by decide +kernel) (Nat.le_of_ble_eq_true rfl) fun m σ Hd H hm h0 x w => ?_
  have hk1 : putS kv8 "arrived" (.int a0) = kv9 a0 := put_new (show (("arrived" : Str) ∉ kv8.map (·.1)) by decide +kernel)
  have hk2 : putS (kv9 a0) "count" (.int 0) = kv10 a0 := put_new (show (("count" : Str) ∉ [("rest" : Str), "kept", "sent", "covered", "mark", "way", "heard", "fulls", "arrived"]) by decide +kernel)
  have hk3 : putS (kv10 a0) "bare" (.int 0) = encS (sNew a0) := put_new (show (("bare" : Str) ∉ [("rest" : Str), "kept", "sent", "covered", "mark", "way", "heard", "fulls", "arrived", "count"]) by decide +kernel)
  refine w.qdput rfl rfl h0 (by walk_at "ap") (by walk_at "ev") (Nat.le_of_ble_eq_true rfl) fun Hd H y1 w => ?_
  rw [hk1] at w
  refine w.qdput rfl rfl h0 (by walk_at "ap") (by walk_at "ev") (Nat.le_of_ble_eq_true rfl) fun Hd H y2 w => ?_
  rw [hk2] at w
  refine w.qdput rfl rfl h0 (by walk_at "ap") (by walk_at "ev") (Nat.le_of_ble_eq_true rfl) fun Hd H y3 w => ?_
  rw [hk3] at w
  exact w.ret (by walk_at "ev") fun v Hd' H' x hv => q v _ Hd' H' ⟨m, rfl⟩ (fun m' hm' => by cases hm'; exact h0) x hv⟩
end
end LW

set_option Elab.async false
set_option linter.all false
set_option maxRecDepth 100000
set_option maxHeartbeats 4000000
namespace LW
open PySem PySem.Spec PyProof.Rows L2 Evl
local macro_rules | `(tactic| walk_at "ev") => `(tactic| first
  | with_reducible exact ev_int | with_reducible exact ev_bl | with_reducible exact ev_str | with_reducible exact ev_non
  | ((with_reducible apply ev_var) <;> rfl)
  | ((with_reducible apply ev_ixT) <;> first | walk_at "ev" | rfl)
  | ((with_reducible apply ev_ixL) <;> first | walk_at "ev" | rfl)
  | ((with_reducible apply ev_ixM) <;> first | walk_at "ev" | rfl)
  | ((with_reducible apply ev_I0) <;> walk_at "ev")
  | ((with_reducible apply ev_B0) <;> walk_at "ev")
  | ((with_reducible apply ev_U) <;> walk_at "ev")
  | ((with_reducible apply ev_tup) <;> first | walk_at "evd" | exact Nat.le_of_ble_eq_true rfl)
  | ((with_reducible apply ev_lst) <;> first | walk_at "evd" | exact Nat.le_of_ble_eq_true rfl)
  | ((with_reducible apply ev_eqI) <;> walk_at "ev")
  | ((with_reducible apply ev_eqS) <;> walk_at "ev")
  | ((with_reducible apply ev_neI) <;> walk_at "ev")
  | ((with_reducible apply ev_neS) <;> walk_at "ev")
  | ((with_reducible apply ev_notV) <;> walk_at "ev")
  | ((with_reducible apply ev_andV) <;> first | walk_at "ev" | (intro _; walk_at "ev"))
  | ((with_reducible apply ev_orV) <;> first | walk_at "ev" | (intro _; walk_at "ev"))
  | ((with_reducible apply ev_min) <;> walk_at "evl")
  | ((with_reducible apply ev_max) <;> walk_at "evl")
  | ((with_reducible apply ev_slT) <;> first | walk_at "ev" | walk_at "evo" | walk_at "cut")
  | ((with_reducible apply ev_slL) <;> first | walk_at "ev" | walk_at "evo")
  | ((with_reducible apply ev_catT) <;> first | walk_at "ev" | exact Nat.le_of_ble_eq_true rfl | (intro z; cases z))
  | ((with_reducible apply ev_abs) <;> walk_at "evl")
  | ((with_reducible apply ev_intI) <;> walk_at "evl")
  | ((with_reducible apply ev_intB) <;> walk_at "evl")
  | ((with_reducible apply ev_lenL) <;> walk_at "evl"))
local macro_rules | `(tactic| walk_at "evd") => `(tactic| first | with_reducible exact evd_nil | ((with_reducible apply evd_cons) <;> first | walk_at "ev" | walk_at "evd"))
local macro_rules | `(tactic| walk_at "evl") => `(tactic| first | with_reducible exact evl_nil | ((with_reducible apply evl_cons) <;> first | walk_at "ev" | walk_at "evl"))
local macro_rules | `(tactic| walk_at "evo") => `(tactic| first | with_reducible exact evo_none | ((with_reducible apply evo_some) <;> walk_at "ev"))
local macro_rules | `(tactic| walk_at "evt") => `(tactic| first
  | ((with_reducible apply evt_test) <;> walk_at "ev")
  | ((with_reducible apply evt_B) <;> walk_at "ev")
  | ((with_reducible apply evt_not) <;> walk_at "evt")
  | ((with_reducible apply evt_and) <;> first | walk_at "evt" | (intro _; walk_at "evt"))
  | ((with_reducible apply evt_or) <;> first | walk_at "evt" | (intro _; walk_at "evt")))
local macro_rules | `(tactic| walk_at "cut") => `(tactic| (intro z; simp [HT.sIx] at z))
local macro_rules | `(tactic| walk_at "le") => `(tactic| (refine ⟨rfl, ?_⟩; repeat (first | exact trivial | refine ⟨?_, ?_⟩ | exact Or.inr (Or.inl rfl) | exact Or.inl rfl | exact Or.inr (Or.inr rfl))))
local macro_rules | `(tactic| walk_at "ap") => `(tactic| repeat (first | exact trivial | refine ⟨?_, ?_⟩ | exact Or.inl rfl | exact Or.inr (ne_cell rfl) | exact Or.inr (ne_cell2 rfl (by assumption)) | exact Or.inr (ne_cell2 (by assumption) (by assumption)) | exact Or.inr (by assumption)))
local macro_rules | `(tactic| walk_at "es") => `(tactic| first
  | ((with_reducible apply ev_rest) <;> walk_at "ev") | ((with_reducible apply ev_kept) <;> walk_at "ev") | ((with_reducible apply ev_sent) <;> walk_at "ev") | ((with_reducible apply ev_covered) <;> walk_at "ev")
  | ((with_reducible apply ev_mark) <;> walk_at "ev") | ((with_reducible apply ev_way) <;> walk_at "ev") | ((with_reducible apply ev_heard) <;> walk_at "ev") | ((with_reducible apply ev_fulls) <;> walk_at "ev")
  | ((with_reducible apply ev_arrived) <;> walk_at "ev") | ((with_reducible apply ev_count) <;> walk_at "ev") | ((with_reducible apply ev_bare) <;> walk_at "ev")
  | ((with_reducible apply ev_I0) <;> walk_at "es") | ((with_reducible apply ev_B0) <;> walk_at "es") | ((with_reducible apply ev_eqI) <;> walk_at "es")
  | walk_at "ev")
section
variable {P : Program} {w : World} {K : PySem.W.Frag} {mg : Str → Option Value} {base : Heap} {C : Cl P w} {Hd0 H0 Hd H : Hp} {σ : L2.St} {ρ : En} {ta tb tv te : TE} {tl tr : TA} {D : Ends} {tz t1 t2 : TS} {i : Nat} {m : Addr} {s s' : Side}
def ConvW (c : List Wr) : Prop := (∀ x ∈ c, x.ok2) ∧ c.length ≤ 200
def FPlay : List AV → (AV → Prop) → Prop := fun as Pr => ∃ (wd : Int) (p : PolD × PolD) (c : List Wr) (o : List Int), as = [.d (.int wd), .d (.list [encRule p.1, encRule p.2]), .d (encC c), .d (encI o)] ∧ 0 < wd ∧ wd ≤ 10 ∧ ConvW c ∧ OrderF c o ∧
  Pr = fun a => ∃ sg br : Int, a = .d (.tuple [.int (playStalls wd p c o).length, .int sg, .int br, encI (playStalls wd p c o)])
/-- the first line of the play: a list, a list, an int, an int, a dict, an int -/
theorem Wx.play6 {k : Int → Int} (w : Wx K C Hd0 H0 Hd H σ ρ) (hn : ρ.n = 15)
    (k_ : ∀ ma ms σ' H', ma ≠ ms → H0 ma = none → H0 ms = none → Xt Hd H Hd H' → Wx K C Hd0 H0 Hd H' σ' ((((((ρ.set 4 (.ml ma [.int 0, .int 0])).set 5 (.ml ms [])).set 6 (.d (.int 0))).set 7 (.d (.int 0))).set 8 .unk).set 9 (.d (.int (k 1)))) → tz D σ' H') :
    tSeq (tAsg (tTup (tCons (tLst (tCons (tC (.int 0)) (tCons (tC (.int 0)) tNil))) (tCons (tLst tNil) (tCons (tC (.int 0)) (tCons (tC (.int 0)) (tCons tDNewK (tCons (tUn (rU fun i => .int (k i)) (tC (.int 1))) tNil))))))) (gTup K 6 (gNames [4, 5, 6, 7, 8, 9]))) tz D σ H := by
  refine ⟨Nat.le_of_ble_eq_true rfl, fun ma hma => ⟨Nat.zero_le _, fun ms hms => fun md hmd => ⟨1, rfl, ⟨Nat.le_of_ble_eq_true rfl, fun mt hmt => ?_⟩⟩⟩⟩
  have x1 : Xt Hd H Hd (upd H ma (.lst [.int 0, .int 0])) := ⟨Ex.refl _, Ex.new hma, ex_mut w.x.dh (free_of w.x.dh hma), fun _ _ _ => rfl⟩
  have r1 : VR K C Hd (upd H ma (.lst [.int 0, .int 0])) (.ref ma) (.ml ma [.int 0, .int 0]) := ⟨rfl, free_of w.x.dh hma, _, upd_same, .cons (Dp.int 0) (.cons (Dp.int 0) .nil)⟩
  generalize upd H ma (.lst [.int 0, .int 0]) = H1 at x1 r1 hms hmd hmt ⊢
  have hne : ma ≠ ms := fun z => by
    obtain ⟨_, _, vs, h, _⟩ := r1
    rw [z, hms] at h; cases h
  have x2 : Xt Hd H1 Hd (upd H1 ms (.lst [])) := ⟨Ex.refl _, Ex.new hms, ex_mut x1.dh (free_of x1.dh hms), fun _ _ _ => rfl⟩
  have r2 : VR K C Hd (upd H1 ms (.lst [])) (.ref ms) (.ml ms []) := ⟨rfl, free_of x1.dh hms, _, upd_same, .nil⟩
  have hms0 : H ms = none := fresh_back x1.h hms
  generalize upd H1 ms (.lst []) = H2 at x2 r2 hmd hmt ⊢
  have x3 : Xt Hd H2 Hd (upd H2 md (.dK [])) := ⟨Ex.refl _, Ex.new hmd, ex_mut x2.dh (free_of x2.dh hmd), fun _ _ _ => rfl⟩
  generalize upd H2 md (.dK []) = H3 at x3 hmt ⊢
  have x4 : Xt Hd H3 Hd (upd H3 mt (.tup [.ref ma, .ref ms, .int 0, .int 0, .ref md, .int (k 1)])) := ⟨Ex.refl _, Ex.new hmt, ex_mut x3.dh (free_of x3.dh hmt), fun _ _ _ => rfl⟩
  refine ⟨mt, _, rfl, SqT.of upd_same, rfl, _, _, rfl, _, _, rfl, _, _, rfl, _, _, rfl, _, _, rfl, _, _, rfl, rfl, ?_⟩
  have xx := ((x1.trans x2).trans x3).trans x4
  refine k_ ma ms _ _ hne (fresh_back w.x.h hma) (fresh_back w.x.h hms0) xx ⟨w.x.trans xx, ?_⟩
  exact ((((((w.env.xt xx).set (r1.xt ((x2.trans x3).trans x4)) 4).set (r2.xt (x3.trans x4)) 5).set (a := .d (.int 0)) (Dp.int 0) 6).set (a := .d (.int 0)) (Dp.int 0) 7).set (v := .ref md) (a := .unk) trivial 8).set (a := .d (.int (k 1))) (Dp.int _) 9
theorem atI_pol {p : PolD × PolD} {e : Int} (h : e = 0 ∨ e = 1) : atI [encRule p.1, encRule p.2] e = some (encRule (polOf p e)) := by
  rcases h with rfl | rfl <;> rfl
theorem playN_run (wd : Int) (p : PolD × PolD) (c : List Wr) (o : List Int) : True := trivial
theorem playN_stlen (wd : Int) (p : PolD × PolD) (c : List Wr) (o : List Int) : ∀ i, (playN wd p c o i).st.length ≤ i
  | 0 => Nat.le_refl _
  | i + 1 => by
    have ih := playN_stlen wd p c o i
    unfold playN
    split
    · unfold playStep psEnd
      have hb : ∀ x, (psBegin c i x (playN wd p c o i)).st = (playN wd p c o i).st := fun x => by unfold psBegin; split <;> rfl
      split
      · dsimp only
        split
        · rw [List.length_append, hb]; simp; omega
        · rw [hb]; omega
      · show (psBegin c i _ _).st.length ≤ _
        rw [hb]; omega
    · omega
theorem psBegin_arr (c : List Wr) (i : Nat) (x : Wr) (z : PSt) : (psBegin c i x z).arr = z.arr ∧ (psBegin c i x z).st = z.st := by unfold psBegin; split <;> exact ⟨rfl, rfl⟩
theorem setArr {q : Int × Int} {e v : Int} (h : e = 0 ∨ e = 1) : ([PyData.int q.1, .int q.2] : List PyData).set e.toNat (.int v) = [.int (withQuick q e v).1, .int (withQuick q e v).2] := by
  rcases h with rfl | rfl <;> rfl
def basePlay (wd : Int) (p : PolD × PolD) (c : List Wr) (o : List Int) (ma ms : Addr) (arr : Int × Int) (st : List Int) (sg br run at' who len : Int) (md : Mode) : En :=
  ls [.d (.int wd), .d (.list [encRule p.1, encRule p.2]), .d (encC c), .d (encI o), .ml ma [.int arr.1, .int arr.2], .ml ms (st.map PyData.int), .d (.int sg), .d (.int br), .unk, .d (.int run), .d (.int at'), .d (.int who), .d (.int len), .d (.str md.str), .unk]
theorem ok_law_play {f : Addr} {fd : FuncData} (F : Fun K "_law_play" "_law_play" s_law_play f fd) (T : Txt K mg C) (d_law_side : Df P w K mg base "_law_side" 1 ps_law_side (SpN K C FSide)) (d_law_clear : Df P w K mg base "_law_clear" 2 ps_law_clear (SpC K C FClear)) (d_law_write : Df P w K mg base "_law_write" 2 ps_law_write (SpC K C FWrite))
    (d_law_finish : Df P w K mg base "_law_finish" 3 ps_law_finish (SpC K C FFinish)) : FnOk P w K mg base CX0 4 f fd ps_law_play (SpD K C FPlay) := by
  refine okD F sc_law_play (fun as Pr ⟨_, _, _, _, e, _⟩ => by subst e; rfl) fun cdv A outer s H vs E hr => by
    have hu := Nat.lt_of_le_of_lt (Nat.add_le_add_left (by decide : 1 ≤ 64) _) hr.units
    exact ⟨_,
(pss_cons (ps_asg (pe_tup (pa_cons (pe_lst (pa_cons pe_int (pa_cons pe_int pa_nil))) (pa_cons (pe_lst pa_nil) (pa_cons pe_int (pa_cons pe_int (pa_cons pe_dnewK (pa_cons (pe_un un_neg pe_int) pa_nil))))))) (pgTup K rfl (pgs_cons (pg_name (i := 4) sc_law_play.nd rfl (Or.inl rfl)) (pgs_cons (pg_name (i := 5) sc_law_play.nd rfl (Or.inl rfl)) (pgs_cons (pg_name (i := 6) sc_law_play.nd rfl (Or.inl rfl)) (pgs_cons (pg_name (i := 7) sc_law_play.nd rfl (Or.inl rfl)) (pgs_cons (pg_name (i := 8) sc_law_play.nd rfl (Or.inl rfl)) (pgs_cons (pg_name (i := 9) sc_law_play.nd rfl (Or.inl rfl)) pgs_nil))))))))
    (pss_cons (ps_for PassesOwn.never rfl (pi_range1 rfl T.n_range (pa_cons (pe_callB (callLen K) rfl T.n_len (by decide +kernel) (pa_cons (pv 2) pa_nil)) pa_nil)) (pg_name (i := 10) sc_law_play.nd rfl (Or.inl rfl)) (pss_cons (ps_asg (pe_ix (ixL K) (pv 2) (pv 10) (fun _ _ => rfl)) (pgTup K rfl (pgs_cons (pg_name (i := 11) sc_law_play.nd rfl (Or.inl rfl)) (pgs_cons (pg_name (i := 12) sc_law_play.nd rfl (Or.inl rfl)) (pgs_cons (pg_name (i := 13) sc_law_play.nd rfl (Or.inl rfl)) pgs_nil)))))
    (Evl.pss_cut (ps_if (PW.pt (pw_or (pt_cmpR op_eq (pv 10) pe_int (nomark _)) (pw_or1 (pt_cmpR op_ne (pe_ix (ixT K) (pe_ix (ixL K) (pv 2) (pe_op op_sub (pv 10) pe_int) (fun _ _ => rfl)) pe_int (fun _ _ => rfl)) (pv 11) (nomark _))))) (pss_cons (ps_set (i := 9) sc_law_play.nd rfl (Or.inl rfl) (pe_op op_add (pv 9) pe_int))
    (pss_one (ps_set (i := 8) sc_law_play.nd rfl (Or.inl rfl) (pe_df d_law_side (hr.mono (by decide)) rfl (pa_cons (pe_ix (ixL K) (pv 4) (pe_op op_sub pe_int (pv 11)) (fun _ _ => rfl)) pa_nil))))) pss_nil)
    (pss_cons (ps_for PassesOwn.never rfl (pi_range1 rfl T.n_range (pa_cons (pe_ix (ixL K) (pv 3) (pv 10) (fun _ _ => rfl)) pa_nil)) (pg_name (i := 14) sc_law_play.nd rfl (Or.inl rfl)) (pss_one (ps_expr (pe_df d_law_clear (hr.mono (by decide)) rfl (pa_cons (pv 8) (pa_cons (pv 0) (pa_cons (pe_ix (ixL K) (pv 1) (pv 11) (fun _ _ => rfl)) (pa_cons (pe_ix (ixL K) (pv 1) (pe_op op_sub pe_int (pv 11)) (fun _ _ => rfl)) pa_nil))))))))
    (pss_cons (ps_expr (pe_df d_law_write (hr.mono (by decide)) rfl (pa_cons (pv 8) (pa_cons (pv 0) (pa_cons (pe_ix (ixT K) (pe_ix (ixL K) (pv 1) (pv 11) (fun _ _ => rfl)) pe_int (fun _ _ => rfl)) (pa_cons (pv 12) (pa_cons (pv 13) pa_nil)))))))
    (pss_one (ps_if (PW.pt (pw_or (pt_cmpR op_eq (pe_op op_add (pv 10) pe_int) (pe_callB (callLen K) rfl T.n_len (by decide +kernel) (pa_cons (pv 2) pa_nil)) (nomark _)) (pw_or1 (pt_cmpR op_ne (pe_ix (ixT K) (pe_ix (ixL K) (pv 2) (pe_op op_add (pv 10) pe_int) (fun _ _ => rfl)) pe_int (fun _ _ => rfl)) (pv 11) (nomark _))))) (Evl.pss_cut (ps_if (pt_val (pe_df d_law_finish (hr.mono (by decide)) rfl (pa_cons (pv 8) (pa_cons (pv 0) (pa_cons (pe_ix (ixL K) (pv 1) (pv 11) (fun _ _ => rfl)) (pa_cons (pe_ix (ixL K) (pv 1) (pe_op op_sub pe_int (pv 11)) (fun _ _ => rfl)) pa_nil)))))) (pss_one (ps_expr (peBm K PySem.F.plainAttrs_list PySem.F.slot_list_append PySem.F.type_list_append mt_append (pv 5) (pa_cons (pv 9) pa_nil)))) pss_nil)
    (pss_cons (ps_asg (pe_dget hu (pv 8) pe_str (fun _ _ => rfl)) (pg_sub (pv 4) (pe_op op_sub pe_int (pv 11)) set_list))
    (pss_cons (ps_set (i := 6) sc_law_play.nd rfl (Or.inl rfl) (pe_op op_add (pv 6) (pe_dget hu (pv 8) pe_str (fun _ _ => rfl))))
    (pss_one (ps_set (i := 7) sc_law_play.nd rfl (Or.inl rfl) (pe_op op_add (pv 7) (pe_dget hu (pv 8) pe_str (fun _ _ => rfl)))))))) pss_nil)))))))
    (pss_one (ps_ret (pe_tup (pa_cons (pe_callB (callLen K) rfl T.n_len (by decide +kernel) (pa_cons (pv 5) pa_nil)) (pa_cons (pv 6) (pa_cons (pv 7) (pa_cons (pv 5) pa_nil))))))))), by
  rintro Hd as Pr Q σ ⟨wd, p, c, o, rfl, hwd, hwd1, hc, ho, rfl⟩ w q
  have hlen := hc.2
  refine w.play6 rfl fun ma ms σ H1 hne hma0 hms0 x w => ?_
  have hne' : ms ≠ ma := fun z => hne z.symm
  refine w.qforRR (n := (c.map encW).length) (evl_cons (ev_lenL (by walk_at "evl")) evl_nil) ⟨by rw [List.length_map]; omega, by omega⟩
    (fun j ρ' => ∃ sg br A8, ((j = 0 ∧ A8 = .unk) ∨ ∃ m8, A8 = .dk m8 (encS (playN wd p c o j).side) ∧ H m8 = none ∧ m8 ≠ ma ∧ m8 ≠ ms ∧ SI wd (120 * j) (playN wd p c o j).side) ∧
      ρ' = ls [.d (.int wd), .d (.list [encRule p.1, encRule p.2]), .d (encC c), .d (encI o), .ml ma [.int (playN wd p c o j).arr.1, .int (playN wd p c o j).arr.2], .ml ms ((playN wd p c o j).st.map PyData.int), .d (.int sg), .d (.int br), A8, .d (.int (playN wd p c o j).run), .unk, .unk, .unk, .unk, .unk])
    (ls [.d (.int wd), .d (.list [encRule p.1, encRule p.2]), .d (encC c), .d (encI o), .ml ma [.int 0, .int 0], .ml ms [], .d (.int 0), .d (.int 0), .unk, .d (.int (-1)), .unk, .unk, .unk, .unk, .unk]) (by walk_at "le") ⟨0, 0, .unk, .inl ⟨rfl, rfl⟩, rfl⟩ (fun j Hb Hd H2 σ ρ' hj hR e w => ?_) fun σ Hd H2 ρ' e w hR => ?_
  · obtain ⟨sg, br, A8, hA8, rfl⟩ := hR
    rw [List.length_map] at hj
    have hj : j < c.length := by omega
    obtain ⟨x, hx⟩ : ∃ x, c[j]? = some x := ⟨_, List.getElem?_eq_getElem hj⟩
    obtain ⟨kk, hk⟩ : ∃ kk, o[j]? = some kk := ⟨_, List.getElem?_eq_getElem (by have := ho.1; omega)⟩
    have hk02 := ho.2 j kk hk
    have hlim : limF c j ≤ 2 := by unfold limF; split <;> decide
    have hxo := hc.1 x (List.mem_of_getElem? hx)
    have hoth : 1 - x.who = 0 ∨ 1 - x.who = 1 := by have := hxo.1; omega
    have hnext : playN wd p c o (j + 1) = psEnd wd p c j x (psBegin c j x (playN wd p c o j)) (psMid wd p x kk (psBegin c j x (playN wd p c o j)).side) := by
      rw [playN, hx, hk]; rfl
    have hstl := playN_stlen wd p c o j
    generalize playN wd p c o j = Z at w hA8 hnext hstl
    refine w.qun (is := [11, 12, 13]) (ds := [_, _, _]) (ev_ixL (d := encW x) (by walk_at "ev") (by walk_at "ev") (atI_nat (by rw [List.getElem?_map, hx]; rfl))) rfl rfl fun σ Hd1 H1 x1 w => ?_
    have hpb := psBegin_arr c j x Z
    refine w.qcutL (fun ρ' => ∃ m8, H m8 = none ∧ m8 ≠ ma ∧ m8 ≠ ms ∧ SI wd (120 * j) (psBegin c j x Z).side ∧ ρ' = (basePlay wd p c o ma ms Z.arr Z.st sg br (psBegin c j x Z).run j x.who x.len x.mode).set 8 (.dk m8 (encS (psBegin c j x Z).side)))
      (w.if_ (b := firstB c j) (evt_or (evt_test (by walk_at "ev")) fun hz => ?_) (fun hb Hd H3 y1 w => ?_) (fun hb Hd H3 y1 w => ?_)) fun σ Hd3 H3 ρ3 e3 hR3 w => ?_
    · have hz : ¬ (j : Int) = 0 := of_decide_eq_false hz
      obtain ⟨y, hy⟩ : ∃ y, c[j - 1]? = some y := ⟨_, List.getElem?_eq_getElem (by omega)⟩
      rw [whoAt_get hy, whoAt_get hx]
      exact evt_test (ev_neI (ev_ixT (ev_ixL (d := encW y) (by walk_at "ev") (by walk_at "ev") (atI_int (k := j - 1) (by omega) (by rw [List.getElem?_map, hy]; rfl))) (by walk_at "ev") (by rfl)) (by walk_at "ev"))
    · have hZ1 : psBegin c j x Z = { Z with run := Z.run + 1, side := sNew (pickQ Z.arr (1 - x.who)) } := by unfold psBegin; rw [if_pos hb]
      refine w.qasg (by walk_at "ev") fun σ Hd H4 y2 w => ?_
      have ho4 := w.cell_old (i := 4) (m := ma) rfl rfl rfl
      have ho5 := w.cell_old (i := 5) (m := ms) rfl rfl rfl
      refine w.nasg (evn_call (evl_cons (ev_ixM (by walk_at "ev") (by walk_at "ev") (atI_Q hoth)) evl_nil) (by rfl) ⟨_, rfl, rfl⟩) fun a σ Hd5 H5 ha hfr y3 w => ?_
      obtain ⟨m8, rfl⟩ := ha
      obtain ⟨f1, f2⟩ := hfr m8 rfl
      refine w.ls ((y1.d.trans y2.d).trans y3.d) (ρ' := (basePlay wd p c o ma ms Z.arr Z.st sg br (Z.run + 1) j x.who x.len x.mode).set 8 (.dk m8 (encS (sNew (pickQ Z.arr (1 - x.who)))))) (by walk_at "le") ⟨m8, f2, fun z => ho4 (z ▸ f1), fun z => ho5 (z ▸ f1), ?_, by rw [hZ1]⟩
      rw [hZ1]
      exact ⟨(si_new hwd _).r0, (si_new hwd _).r1, by show (0 : Nat) ≤ _; omega⟩
    · have hZ1 : psBegin c j x Z = Z := by unfold psBegin; rw [if_neg (by rw [hb]; decide)]
      rcases hA8 with ⟨hj0, _⟩ | ⟨m8, rfl, f2, n1, n2, hsi⟩
      · subst hj0
        cases hb
      · refine w.ls y1.d (ρ' := (basePlay wd p c o ma ms Z.arr Z.st sg br Z.run j x.who x.len x.mode).set 8 (.dk m8 (encS Z.side))) (by walk_at "le") ⟨m8, f2, n1, n2, by rw [hZ1]; exact hsi, by rw [hZ1]⟩
    obtain ⟨m8, h80, n81, n82, hsi, rfl⟩ := hR3
    have n81' : ma ≠ m8 := fun z => n81 z.symm
    have n82' : ms ≠ m8 := fun z => n82 z.symm
    have hZarr := hpb.1
    have hZst := hpb.2
    generalize hZ1 : psBegin c j x Z = Z1 at w hnext hsi hZarr hZst
    generalize hh : (polOf p x.who).hold = hd at *
    generalize hoo : polOf p (1 - x.who) = od at *
    refine w.qforRR (n := kk) (evl_cons (ev_ixL (d := .int kk) (by walk_at "ev") (by walk_at "ev") (atI_nat (by rw [List.getElem?_map, hk]; rfl))) evl_nil) ⟨by omega, by omega⟩
      (fun i ρ' => ρ' = (basePlay wd p c o ma ms Z.arr Z.st sg br Z1.run j x.who x.len x.mode).set 8 (.dk m8 (encS (sClearK Z1.side wd hd od i)))) _ (by walk_at "le") rfl (fun i Hb2 Hd4 H4 σ ρ4 hi hR4 e4 w => ?_) fun σ Hd4 H4 ρ4 e4 w hR4 => ?_
    · subst hR4
      have w : Wx K C _ _ Hd4 H4 σ ((basePlay wd p c o ma ms Z.arr Z.st sg br Z1.run j x.who x.len x.mode).set 8 (.dk m8 (encS (sClearK Z1.side wd hd od i)))) := w.le (by walk_at "le")
      refine w.kdrop h80 (evc_side (R := fun d a' => d = .none ∧ a' = .dk m8 (encS (sClear (sClearK Z1.side wd hd od i) wd hd od))) rfl (evl_cons (by walk_at "ev") (evl_cons (by walk_at "ev") (evl_cons (ev_ixL (by walk_at "ev") (by walk_at "ev") (atI_pol hxo.1)) (evl_cons (ev_ixL (by walk_at "ev") (by walk_at "ev") (atI_pol hoth)) evl_nil)))) ⟨m8, _, wd, polOf p x.who, polOf p (1 - x.who), rfl, by rw [hh, hoo]⟩ (by walk_at "ap")) fun d a' Hd5 H5 hr5 e5 w => ?_
      obtain ⟨rfl, rfl⟩ := hr5
      exact w.ls (e4.trans e5) (ρ' := (basePlay wd p c o ma ms Z.arr Z.st sg br Z1.run j x.who x.len x.mode).set 8 (.dk m8 (encS (sClearK Z1.side wd hd od (i + 1))))) (by walk_at "le") rfl
    · subst hR4
      have hsiK := si_clearK hwd hsi hd od kk.toNat
      have hmid : psMid wd p x kk Z1.side = sWrite (sClearK Z1.side wd hd od kk.toNat) wd hd x.len x.mode := by unfold psMid; rw [hh, hoo]
      rw [hmid] at hnext
      generalize sClearK Z1.side wd hd od kk.toNat = S1 at w hsiK hnext
      refine w.qkdrop h80 (evc_side (R := fun d a' => d = .none ∧ a' = .dk m8 (encS (sWrite S1 wd hd x.len x.mode))) rfl (evl_cons (by walk_at "ev") (evl_cons (by walk_at "ev") (evl_cons (ev_ixT (ds := [_, _, _]) (ev_ixL (d := encRule (polOf p x.who)) (by walk_at "ev") (by walk_at "ev") (atI_pol hxo.1)) (by walk_at "ev") (by rfl)) (evl_cons (by walk_at "ev") (evl_cons (by walk_at "ev") evl_nil))))) ⟨m8, S1, wd, x.len, hd, x.mode, by rw [hh], hwd, hsiK.r0, hsiK.r1, by have := hxo.2.1; omega, by have := hxo.2.2; omega, hwd1, by have := hsiK.wl; omega, rfl⟩ (by walk_at "ap")) fun d a' Hd5 H5 hr5 e5 w => ?_
      obtain ⟨rfl, rfl⟩ := hr5
      have hsiW := si_write hwd hwd1 hsiK hd (l := x.len) (by have := hxo.2.1; omega) hxo.2.2 x.mode
      generalize sWrite S1 wd hd x.len x.mode = S2 at w hsiW hnext
      have hpe : psEnd wd p c j x Z1 S2 = if lastB c j = true then ⟨withQuick Z1.arr (1 - x.who) (sFinish S2 wd hd od).2.arrived, if (sFinish S2 wd hd od).1 = true then Z1.st ++ [Z1.run] else Z1.st, Z1.run, (sFinish S2 wd hd od).2⟩ else { Z1 with side := S2 } := by unfold psEnd; rw [hh, hoo]
      rw [hpe] at hnext
      have eA := ((e.trans x1.d).trans e3).trans (e4.trans e5)
      refine w.if_ (b := lastB c j) (evt_or (evt_is (evt_test (ev_eqI (by walk_at "ev") (ev_lenL (by walk_at "evl")))) (by rw [List.length_map])) fun hz => ?_) (fun hb Hd6 H6 y6 w => ?_) (fun hb Hd6 H6 y6 w => ?_)
      · have hz : ¬ (j : Int) + 1 = c.length := of_decide_eq_false hz
        obtain ⟨y, hy⟩ : ∃ y, c[j + 1]? = some y := ⟨_, List.getElem?_eq_getElem (by omega)⟩
        rw [whoAt_get hy, whoAt_get hx]
        exact evt_test (ev_neI (ev_ixT (ev_ixL (d := encW y) (by walk_at "ev") (by walk_at "ev") (atI_int (k := j + 1) (by omega) (by rw [List.getElem?_map, hy]; rfl))) (by walk_at "ev") (by rfl)) (by walk_at "ev"))
      · rw [if_pos hb] at hnext
        generalize hF : sFinish S2 wd hd od = ff at hnext
        refine w.qcutL (fun ρ' => ρ' = (basePlay wd p c o ma ms Z.arr (if ff.1 = true then Z.st ++ [Z1.run] else Z.st) sg br Z1.run j x.who x.len x.mode).set 8 (.dk m8 (encS ff.2)))
          (w.cifB_ (A := fun z => z = .dk m8 (encS S2)) h80 rfl (evc_side (R := fun d a' => d = .bool ff.1 ∧ a' = .dk m8 (encS ff.2)) rfl (evl_cons (by walk_at "ev") (evl_cons (by walk_at "ev") (evl_cons (ev_ixL (by walk_at "ev") (by walk_at "ev") (atI_pol hxo.1)) (evl_cons (ev_ixL (by walk_at "ev") (by walk_at "ev") (atI_pol hoth)) evl_nil)))) ⟨m8, S2, wd, polOf p x.who, polOf p (1 - x.who), rfl, by rw [hh, hoo, hF]⟩ (by walk_at "ap")) (fun d a' r => ⟨_, r.1⟩) (fun a' Hd7 H7 hr7 e7 w => ?_) (fun a' Hd7 H7 hr7 e7 w => ?_)) fun σ Hd7 H7 ρ7 e7 hR7 w => ?_
        · obtain ⟨hf1, rfl⟩ := hr7
          have hf1 : ff.1 = true := by injection hf1 with hz; exact hz.symm
          refine w.app (i := 5) rfl rfl hms0 (by walk_at "ap") (by walk_at "ev") (by rw [List.length_map]; omega) fun Hd8 H8 y8 w => ?_
          refine w.ls (e7.trans y8.d) (ρ' := (basePlay wd p c o ma ms Z.arr (Z.st ++ [Z1.run]) sg br Z1.run j x.who x.len x.mode).set 8 (.dk m8 (encS ff.2))) (by unfold basePlay; rw [List.map_append]; walk_at "le") (by rw [if_pos hf1])
        · obtain ⟨hf1, rfl⟩ := hr7
          have hf1 : ¬ ff.1 = true := by injection hf1 with hz; rw [← hz]; decide
          exact w.ls e7 (ρ' := (basePlay wd p c o ma ms Z.arr Z.st sg br Z1.run j x.who x.len x.mode).set 8 (.dk m8 (encS ff.2))) (by walk_at "le") (by rw [if_neg hf1])
        subst hR7
        generalize hst : (if ff.1 = true then Z.st ++ [Z1.run] else Z.st) = st2 at w
        refine w.qsetL (i := 4) (j := (1 - x.who).toNat) rfl rfl hma0 (by walk_at "ap") (ev_arrived (by walk_at "ev")) (by walk_at "ev") (by rcases hoth with h | h <;> rw [h] <;> rfl) fun Hd8 H8 y8 w => ?_
        rw [setArr hoth] at w
        refine w.qasg (ev_I0 (by walk_at "ev") (ev_count (by walk_at "ev"))) fun σ Hd9 H9 y9 w => ?_
        refine w.asg (ev_I0 (by walk_at "ev") (ev_bare (by walk_at "ev"))) fun σ Hd10 H10 y10 w => ?_
        refine w.ls (((((eA.trans y6.d).trans e7).trans y8.d).trans y9.d).trans y10.d) (ρ' := ls [.d (.int wd), .d (.list [encRule p.1, encRule p.2]), .d (encC c), .d (encI o), .ml ma [.int (withQuick Z.arr (1 - x.who) ff.2.arrived).1, .int (withQuick Z.arr (1 - x.who) ff.2.arrived).2], .ml ms (st2.map PyData.int), .d (.int (sg + ff.2.count)), .d (.int (br + ff.2.bare)), .dk m8 (encS ff.2), .d (.int Z1.run), .unk, .unk, .unk, .unk, .unk]) (by walk_at "le") ⟨sg + ff.2.count, br + ff.2.bare, .dk m8 (encS ff.2), .inr ⟨m8, by rw [hnext], h80, n81, n82, ?_⟩, ?_⟩
        · rw [hnext]
          have hfs := si_finish hwd hsiW hd od
          rw [hF] at hfs
          exact ⟨hfs.r0, hfs.r1, by have := hfs.wl; show ff.2.way.length ≤ _; omega⟩
        · rw [hnext, hZarr, hZst, hst]
      · rw [if_neg (by rw [hb]; decide)] at hnext
        refine w.ls (eA.trans y6.d) (ρ' := ls [.d (.int wd), .d (.list [encRule p.1, encRule p.2]), .d (encC c), .d (encI o), .ml ma [.int Z.arr.1, .int Z.arr.2], .ml ms (Z.st.map PyData.int), .d (.int sg), .d (.int br), .dk m8 (encS S2), .d (.int Z1.run), .unk, .unk, .unk, .unk, .unk]) (by walk_at "le") ⟨sg, br, .dk m8 (encS S2), .inr ⟨m8, by rw [hnext], h80, n81, n82, ?_⟩, ?_⟩
        · rw [hnext]
          exact ⟨hsiW.r0, hsiW.r1, by have := hsiW.wl; show S2.way.length ≤ _; omega⟩
        · rw [hnext, hZarr, hZst]
  · obtain ⟨sg, br, A8, hA8, rfl⟩ := hR
    have hl : ((c.map encW).length : Int).toNat = c.length := by rw [List.length_map]; omega
    rw [hl] at w
    have hfz : playStalls wd p c o = (playN wd p c o c.length).st := rfl
    have hA8c : A8.cell ≠ some ms := by
      rcases hA8 with ⟨_, rfl⟩ | ⟨m8, rfl, _, _, n2, _⟩
      · exact ne_cell rfl
      · exact ne_cell2 rfl n2
    generalize (playN wd p c o c.length) = Z at w hfz
    obtain ⟨Hd3, _, w, _⟩ := w.freeze (i := 5) rfl rfl hms0 (by walk_at "ap")
    refine w.ret (ev_tup (evd_cons (ev_lenL (ds := Z.st.map PyData.int) (by walk_at "evl")) (evd_cons (by walk_at "ev") (evd_cons (by walk_at "ev") (evd_cons (by walk_at "ev") evd_nil)))) (Nat.le_of_ble_eq_true rfl)) fun v Hd' H' x hv => q v _ Hd' H' ⟨sg, br, ?_⟩ x hv
    rw [hfz, List.length_map]; rfl⟩
end
end LW

set_option Elab.async false
set_option linter.all false
set_option maxRecDepth 100000
set_option maxHeartbeats 4000000
namespace LW
open PySem PySem.Spec PyProof.Rows L2 Evl ClX
local macro_rules | `(tactic| walk_at "ev") => `(tactic| first
  | with_reducible exact ev_int | with_reducible exact ev_bl | with_reducible exact ev_str | with_reducible exact ev_non
  | ((with_reducible apply ev_var) <;> rfl)
  | ((with_reducible apply ev_ixT) <;> first | walk_at "ev" | rfl)
  | ((with_reducible apply ev_ixL) <;> first | walk_at "ev" | rfl)
  | ((with_reducible apply ev_ixM) <;> first | walk_at "ev" | rfl)
  | ((with_reducible apply ev_I0) <;> walk_at "ev")
  | ((with_reducible apply ev_B0) <;> walk_at "ev")
  | ((with_reducible apply ev_U) <;> walk_at "ev")
  | ((with_reducible apply ev_tup) <;> first | walk_at "evd" | exact Nat.le_of_ble_eq_true rfl)
  | ((with_reducible apply ev_lst) <;> first | walk_at "evd" | exact Nat.le_of_ble_eq_true rfl)
  | ((with_reducible apply ev_eqI) <;> walk_at "ev")
  | ((with_reducible apply ev_eqS) <;> walk_at "ev")
  | ((with_reducible apply ev_neI) <;> walk_at "ev")
  | ((with_reducible apply ev_neS) <;> walk_at "ev")
  | ((with_reducible apply ev_notV) <;> walk_at "ev")
  | ((with_reducible apply ev_andV) <;> first | walk_at "ev" | (intro _; walk_at "ev"))
  | ((with_reducible apply ev_orV) <;> first | walk_at "ev" | (intro _; walk_at "ev"))
  | ((with_reducible apply ev_min) <;> walk_at "evl")
  | ((with_reducible apply ev_max) <;> walk_at "evl")
  | ((with_reducible apply ev_slT) <;> first | walk_at "ev" | walk_at "evo" | walk_at "cut")
  | ((with_reducible apply ev_slL) <;> first | walk_at "ev" | walk_at "evo")
  | ((with_reducible apply ev_catT) <;> first | walk_at "ev" | exact Nat.le_of_ble_eq_true rfl | (intro z; cases z))
  | ((with_reducible apply ev_abs) <;> walk_at "evl")
  | ((with_reducible apply ev_intI) <;> walk_at "evl")
  | ((with_reducible apply ev_intB) <;> walk_at "evl")
  | ((with_reducible apply ev_lenL) <;> walk_at "evl"))
local macro_rules | `(tactic| walk_at "evd") => `(tactic| first | with_reducible exact evd_nil | ((with_reducible apply evd_cons) <;> first | walk_at "ev" | walk_at "evd"))
local macro_rules | `(tactic| walk_at "evl") => `(tactic| first | with_reducible exact evl_nil | ((with_reducible apply evl_cons) <;> first | walk_at "ev" | walk_at "evl"))
local macro_rules | `(tactic| walk_at "evo") => `(tactic| first | with_reducible exact evo_none | ((with_reducible apply evo_some) <;> walk_at "ev"))
local macro_rules | `(tactic| walk_at "evt") => `(tactic| first
  | ((with_reducible apply evt_test) <;> walk_at "ev")
  | ((with_reducible apply evt_B) <;> walk_at "ev")
  | ((with_reducible apply evt_not) <;> walk_at "evt")
  | ((with_reducible apply evt_and) <;> first | walk_at "evt" | (intro _; walk_at "evt"))
  | ((with_reducible apply evt_or) <;> first | walk_at "evt" | (intro _; walk_at "evt")))
local macro_rules | `(tactic| walk_at "cut") => `(tactic| (intro z; simp [HT.sIx] at z))
local macro_rules | `(tactic| walk_at "le") => `(tactic| (refine ⟨rfl, ?_⟩; repeat (first | exact trivial | refine ⟨?_, ?_⟩ | exact Or.inr (Or.inl rfl) | exact Or.inl rfl | exact Or.inr (Or.inr rfl))))
local macro_rules | `(tactic| walk_at "ap") => `(tactic| repeat (first | exact trivial | refine ⟨?_, ?_⟩ | exact Or.inl rfl | exact Or.inr (ne_cell rfl) | exact Or.inr (ne_cell2 rfl (by assumption)) | exact Or.inr (ne_cell2 (by assumption) (by assumption)) | exact Or.inr (by assumption)))
theorem vrs_app {P : Program} {w : World} {K : PySem.W.Frag} {C : Cl P w} {Hd H : Hp} : ∀ {vs us : List V} {as bs : List AV}, VRs K C Hd H vs as → VRs K C Hd H us bs → VRs K C Hd H (vs ++ us) (as ++ bs)
  | _, _, _, _, .nil, h => h
  | _, _, _, _, .cons r t, h => .cons r (vrs_app t h)
theorem pe_gR {X : Cx} {x : Str} {a : Addr} {pos : Pos} (hg : Gl X x) (hm : X.mg x = some (.ref a)) (hd : (x == ("__debug__" : Str)) = false := by decide) : PE X (.Name x pos) (tC (.ref a)) := pe_glob (v := .ref a) hg hm rfl hd
theorem peCval {X : Cx} {e : Expr} {f : Str} {pos : Pos} {ta : TE} (K : PySem.W.Frag) (he : PE X e ta) (hb : attributeBase e f X.env (eval e X.env) = eval e X.env := by rfl) (hK : X.K = K := by rfl) : PE X (.Attribute e f pos) (tCVal K ta f) := hK ▸ pe_cval he hb
structure TxP {P : Program} {w : World} (K : PySem.W.Frag) (C : Cl P w) : Prop where
  rd : ∃ mc u, CRead K C.pol mc ∧ CVal K C.pol mc "HOLDS" (.ref C.holds) u
  holds : SqT K (fun _ => none) C.holds [.str "off", .str "partial", .str "all"]
  ty : ∀ {H : Hp} {a dx : Addr} {fs : List (Str × V)}, H a = some (.ins C.pol dx fs) → TyX K H (.ref a) (.ref C.pol)
section
variable {P : Program} {w : World} {K : PySem.W.Frag} {mg : Str → Option Value} {base : Heap} {C : Cl P w} {Hd0 H0 Hd H : Hp} {σ : L2.St} {ρ : En} {ta tb tv te : TE} {tl tk tr : TA} {D : Ends} {tz t1 t2 : TS} {i : Nat} {m : Addr} {a : AV}
theorem holds_notin (T : TxP K C) {h : Hold} (hh : Ev K C ta ρ (.d (.str h.str))) : Ev K C (tOp (rIn K true) ta (tCVal K (tC (.ref C.pol)) "HOLDS")) ρ (.d (.bool false)) := fun Hd H σ x r Q q =>
  hh Hd H σ x r _ fun v Hd1 H1 x1 h1 => by
    cases dp_str_inv h1
    obtain ⟨mc, u, c1, c2⟩ := T.rd
    refine ⟨C.pol, mc, .ref C.holds, u, rfl, c1, c2, ?_⟩
    refine ⟨C.holds, _, rfl, .inr (ex_t (fun _ _ e => by cases e) T.holds), rfl, by decide +kernel, ?_⟩
    have e : (if true = true then !inV (V.str h.str) [.str "off", .str "partial", .str "all"] else inV (V.str h.str) [.str "off", .str "partial", .str "all"]) = false := by cases h <;> decide +kernel
    rw [e]
    exact q _ Hd1 H1 x1 (Dp.bl false)
def FPolicyInit : List AV → AV → Prop := fun as z => ∃ p : PolD, as = [.d (.str p.hold.str), .d (.int p.every), .d (.int p.quick)] ∧ PolOk p ∧ z = .pol p
theorem ok_Policy_init {pa : Arguments} {bd : List Stmt} {sc : Scope} {dvs : List V} {kws : List (Str × V)} {f : Addr} {fd : FuncData} (F : FunD K "__init__" "Policy.__init__" (defArgs s_Policy__init) (defBody s_Policy__init) (defScope s_Policy__init) dvs kws f fd) (T : Txt K mg C) (T2 : TxP K C)
    (d_in_range : Df P w K mg base "in_range" 2 ps_in_range (SpD K C FInRange)) : FnOk P w K mg base CX0 3 f fd ps_Policy__init (SpM K C C.pol FPolicyInit) := by
  refine okM F sc_Policy__init (fun as z ⟨_, e, _⟩ => by subst e; rfl) fun cdv A outer s H vs E hr => ⟨_,
(pss_cons (ps_if (PW.pt (pw_or (pt_not (pt_val (pe_callB (callIsi K) rfl T.n_isinstance (by decide +kernel) (pa_cons (pv 1) (pa_cons (peTy "str" rfl T.n_str (by decide +kernel)) pa_nil))))) (pw_or1 (pt_cmpR (opNotIn K) (pv 1) (peCval K (pe_gR rfl T.g_Policy)) rfl)))) pss_never pss_nil)
    (pss_cons (ps_if (pt_not (pt_val (pe_df d_in_range (hr.mono (by decide)) rfl (pa_cons (pv 2) (pa_cons pe_int (pa_cons (peG rfl T.g_MOST_EVERY) pa_nil)))))) pss_never pss_nil)
    (pss_cons (ps_if (pt_not (pt_val (pe_df d_in_range (hr.mono (by decide)) rfl (pa_cons (pv 3) (pa_cons pe_int (pa_cons (peG rfl T.g_MOST_QUICK) pa_nil)))))) pss_never pss_nil)
    (pss_cons (psFld K (pv 0) (pv 1) rfl)
    (pss_cons (psFld K (pv 0) (pv 2) rfl)
    (pss_one (psFld K (pv 0) (pv 3) rfl))))))), ?_⟩
  rintro Hd0 H0 Hd as z Q σ m dx ⟨p, rfl, hp, rfl⟩ h0 hd hm w q
  obtain ⟨p1, p2, p3, p4⟩ := hp
  have he : (decide ((0 : Int) ≤ p.every) && decide (p.every ≤ 9)) = true := by rw [decide_eq_true p1, decide_eq_true p2]; rfl
  have hq : (decide ((0 : Int) ≤ p.quick) && decide (p.quick ≤ 4)) = true := by rw [decide_eq_true p3, decide_eq_true p4]; rfl
  refine w.qwhen (b := false) (evt_or (a := false) (b := false) (evt_not (a := true) (evt_B (ev_isi (b := true) (by walk_at "ev") (by exact kt_str)))) fun _ => evt_test (holds_notin T2 (by walk_at "ev"))) (fun z => nomatch z) fun _ Hd H x w => ?_
  have hd : Hd m = none := (x.nw _ _ hm).trans hd
  have hm := x.h _ _ hm
  refine w.qwhen (b := false) (evt_is (evt_not (evt_B (ev_callE (by walk_at "evl") (by rfl) ⟨_, _, _, rfl, rfl⟩))) (by rw [he]; rfl)) (fun z => nomatch z) fun _ Hd H x w => ?_
  have hd : Hd m = none := (x.nw _ _ hm).trans hd
  have hm := x.h _ _ hm
  refine w.qwhen (b := false) (evt_is (evt_not (evt_B (ev_callE (by walk_at "evl") (by rfl) ⟨_, _, _, rfl, rfl⟩))) (by rw [hq]; rfl)) (fun z => nomatch z) fun _ Hd H x w => ?_
  have hd : Hd m = none := (x.nw _ _ hm).trans hd
  have hm := x.h _ _ hm
  refine w.qfld rfl rfl h0 hd hm T.clP T.nP_hold (Nat.le_of_ble_eq_true rfl) (by walk_at "ap") rfl (by walk_at "ev") fun v1 Hd H r1 x1 hd hm w => ?_
  refine w.qfld rfl rfl h0 hd hm T.clP T.nP_every (Nat.le_of_ble_eq_true rfl) (by walk_at "ap") rfl (by walk_at "ev") fun v2 Hd H r2 x2 hd hm w => ?_
  refine w.fld rfl rfl h0 hd hm T.clP T.nP_quick (Nat.le_of_ble_eq_true rfl) (by walk_at "ap") rfl (by walk_at "ev") fun v3 Hd H r3 x3 hd hm w => ?_
  obtain ⟨xx, xe⟩ := w.done h0 hd hm
  have e1 : v1 = .str p.hold.str := dp_str_inv r1
  have e2 : v2 = .int p.every := dp_int_inv r2
  have e3 : v3 = .int p.quick := dp_int_inv r3
  subst e1 e2 e3
  refine q _ _ xx ⟨m, dx, _, rfl, upd_same, ?_, ?_, ?_⟩
  · rw [lookup_putF, lookup_putF, lookup_putF, if_neg (by decide), if_neg (by decide), if_pos rfl]
  · rw [lookup_putF, lookup_putF, if_neg (by decide), if_pos rfl]
  · rw [lookup_putF, if_pos rfl]
/-- a class made with keywords -/
structure MkrK (P : Program) (w : World) (K : PySem.W.Frag) (mg : Str → Option Value) (base : Heap) (x : Str) (k : Nat) (ps ks : List Str) (n : Nat) (cls : Addr) (sp : Sp) : Prop where
  ex : ∃ f fd g, Mk K cls f ∧ FnOk P w K mg base CX0 k f fd ps sp ∧ mg x = some (.ref cls) ∧ KBn K fd ps (n + 1) ks g (fun vs zs => vs ++ zs)
theorem pe_mkK {X : Cx} {k n : Nat} {ps ks : List Str} {sp : Sp} {cls : Addr} {x : Str} {p pos : Pos} {e : Expr} {es : List Expr} {kws : List Keyword} {t tk : TA} (d : MkrK X.prog X.w X.K X.mg X.base x k ps ks n cls sp) (hr : Room (k + 1) X.A) (hg : Gl X x) (ha : PA X (e :: es) t) (hkw : PK X kws tk)
    (hall : (backToKw pos (keywordEach kws X.env)).all (·.1.isSome) = true := by rfl) (hks : (backToKw pos (keywordEach kws X.env)).filterMap (·.1) = ks := by rfl) (hdb : (x == ("__debug__" : Str)) = false := by decide)
    (he : starEach (e :: es) X.env = (false, eval e X.env) :: starEach es X.env := by rfl) (hpl : ((backTo pos (starEach (e :: es) X.env)).any (·.1) || (backToKw pos (keywordEach kws X.env)).any (·.1.isNone)) = false := by rfl) :
    PE X (.Call (.Name x p) (e :: es) kws pos) (tMakeK cls n ks.length sp (fun vs zs => vs ++ zs) E0 t tk) := by
  obtain ⟨f, fd, g, M, F, hm, hb⟩ := d.ex
  exact pe_makeK M F hr hg hm hb pass0 ha hkw hall hks hdb he hpl
theorem ev_makeK {cls : Addr} {F : List AV → AV → Prop} {E : XK} {n mm : Nat} {as bs : List AV} (h1 : EvL K C tl ρ as) (h2 : EvL K C tk ρ bs) (hn : as.length = n) (hm : bs.length = mm) (hF : F (as ++ bs) a) : Ev K C (tMakeK cls n mm (SpM K C cls F) (fun vs zs => vs ++ zs) E tl tk) ρ a := fun Hd H σ x r Q q =>
  h1 Hd H σ x r _ fun vs Hd1 H1 x1 r1 => h2 Hd1 H1 σ x1.dh (r.xt x1) _ fun zs Hd2 H2 x2 r2 => ⟨(Paired.length r1).trans hn, (Paired.length r2).trans hm, fun y dx hy hdx hne => make_core x2.dh (vrs_app (r1.xt x2) r2) hF (fun v Hd' H' x3 h3 => q v Hd' H' ((x1.trans x2).trans x3) h3) y dx hy hdx hne⟩
theorem ev_make0 {cls : Addr} {F : List AV → AV → Prop} {E : XK} {dvs : List V} {as : List AV} (h : ∀ Hd H : Hp, VRs K C Hd H dvs as) (hF : F as a) : Ev K C (tMake cls (SpM K C cls F) dvs E tNil) ρ a := fun Hd H σ x r Q q => by
  intro y dx hy hdx hne
  rw [List.nil_append]
  exact make_core x (h Hd H) hF (fun v Hd' H' x2 h2 => q v Hd' H' x2 h2) y dx hy hdx hne
end
end LW

set_option Elab.async false
set_option linter.all false
set_option maxRecDepth 100000
set_option maxHeartbeats 4000000
namespace LW
open PySem PySem.Spec PyProof.Rows L2 Evl ClX
local macro_rules | `(tactic| walk_at "ev") => `(tactic| first
  | with_reducible exact ev_int | with_reducible exact ev_bl | with_reducible exact ev_str | with_reducible exact ev_non
  | ((with_reducible apply ev_var) <;> rfl)
  | ((with_reducible apply ev_ixT) <;> first | walk_at "ev" | rfl)
  | ((with_reducible apply ev_ixL) <;> first | walk_at "ev" | rfl)
  | ((with_reducible apply ev_ixM) <;> first | walk_at "ev" | rfl)
  | ((with_reducible apply ev_I0) <;> walk_at "ev")
  | ((with_reducible apply ev_B0) <;> walk_at "ev")
  | ((with_reducible apply ev_U) <;> walk_at "ev")
  | ((with_reducible apply ev_tup) <;> first | walk_at "evd" | exact Nat.le_of_ble_eq_true rfl)
  | ((with_reducible apply ev_lst) <;> first | walk_at "evd" | exact Nat.le_of_ble_eq_true rfl)
  | ((with_reducible apply ev_eqI) <;> walk_at "ev")
  | ((with_reducible apply ev_eqS) <;> walk_at "ev")
  | ((with_reducible apply ev_neI) <;> walk_at "ev")
  | ((with_reducible apply ev_neS) <;> walk_at "ev")
  | ((with_reducible apply ev_notV) <;> walk_at "ev")
  | ((with_reducible apply ev_andV) <;> first | walk_at "ev" | (intro _; walk_at "ev"))
  | ((with_reducible apply ev_orV) <;> first | walk_at "ev" | (intro _; walk_at "ev"))
  | ((with_reducible apply ev_min) <;> walk_at "evl")
  | ((with_reducible apply ev_max) <;> walk_at "evl")
  | ((with_reducible apply ev_slT) <;> first | walk_at "ev" | walk_at "evo" | walk_at "cut")
  | ((with_reducible apply ev_slL) <;> first | walk_at "ev" | walk_at "evo")
  | ((with_reducible apply ev_catT) <;> first | walk_at "ev" | exact Nat.le_of_ble_eq_true rfl | (intro z; cases z))
  | ((with_reducible apply ev_abs) <;> walk_at "evl")
  | ((with_reducible apply ev_intI) <;> walk_at "evl")
  | ((with_reducible apply ev_intB) <;> walk_at "evl")
  | ((with_reducible apply ev_lenL) <;> walk_at "evl"))
local macro_rules | `(tactic| walk_at "evd") => `(tactic| first | with_reducible exact evd_nil | ((with_reducible apply evd_cons) <;> first | walk_at "ev" | walk_at "evd"))
local macro_rules | `(tactic| walk_at "evl") => `(tactic| first | with_reducible exact evl_nil | ((with_reducible apply evl_cons) <;> first | walk_at "ev" | walk_at "evl"))
local macro_rules | `(tactic| walk_at "evo") => `(tactic| first | with_reducible exact evo_none | ((with_reducible apply evo_some) <;> walk_at "ev"))
local macro_rules | `(tactic| walk_at "evt") => `(tactic| first
  | ((with_reducible apply evt_test) <;> walk_at "ev")
  | ((with_reducible apply evt_B) <;> walk_at "ev")
  | ((with_reducible apply evt_not) <;> walk_at "evt")
  | ((with_reducible apply evt_and) <;> first | walk_at "evt" | (intro _; walk_at "evt"))
  | ((with_reducible apply evt_or) <;> first | walk_at "evt" | (intro _; walk_at "evt")))
local macro_rules | `(tactic| walk_at "cut") => `(tactic| (intro z; simp [HT.sIx] at z))
local macro_rules | `(tactic| walk_at "le") => `(tactic| (refine ⟨rfl, ?_⟩; repeat (first | exact trivial | refine ⟨?_, ?_⟩ | exact Or.inr (Or.inl rfl) | exact Or.inl rfl | exact Or.inr (Or.inr rfl))))
local macro_rules | `(tactic| walk_at "ap") => `(tactic| repeat (first | exact trivial | refine ⟨?_, ?_⟩ | exact Or.inl rfl | exact Or.inr (ne_cell rfl) | exact Or.inr (ne_cell2 rfl (by assumption)) | exact Or.inr (ne_cell2 (by assumption) (by assumption)) | exact Or.inr (by assumption)))
section
variable {P : Program} {w : World} {K : PySem.W.Frag} {mg : Str → Option Value} {base : Heap} {C : Cl P w} {Hd0 H0 Hd H Hd1 H1 : Hp} {σ : L2.St} {ρ : En} {ta tb tv te : TE} {tl tk tr : TA} {D : Ends} {tz t1 t2 : TS} {i : Nat} {m : Addr} {a : AV} {ps qs : List PolD}
theorem ev_lenPv {b : Bool} (h : EvL K C tl ρ [.pv b ps]) : Ev K C (tCB (fun xs H Q => ∃ p ys, xs = [.ref p] ∧ (SqL K H p ys ∨ SqT K H p ys) ∧ Q (.int ys.length) H) tl) ρ (.d (.int ps.length)) :=
  ev_cb h fun Hd H vs e r Q q => by
    obtain ⟨v, rfl, t, us, rfl, h2, h3⟩ := vrs1 r
    refine ⟨t, us, rfl, ?_, q _ Hd H (Xt.refl e) (by rw [Paired.length h3]; exact Dp.int _)⟩
    cases b with
    | true => exact .inr (ex_t e h2)
    | false => exact .inl (ex_l e h2)
theorem ev_isiP (T2 : TxP K C) {p : PolD} (h : Ev K C ta ρ (.pol p)) : Ev K C (tCB (rIsi K) (tCons ta (tCons (tC (.ref C.pol)) tNil))) ρ (.d (.bool true)) := fun Hd H σ x r Q q =>
  h Hd H σ x r _ fun v Hd1 H1 x1 ⟨a, dx, fs, h1, h2, _⟩ => by
    subst h1
    exact ⟨.ref a, .ref C.pol, .ref C.pol, .ref C.pol, true, rfl, .own _, T2.ty (x1.dh _ _ h2), by unfold PySem.W.kitOne; rw [if_pos (by simp)], q _ Hd1 H1 x1 (Dp.bl true)⟩
theorem dp_bls {bs : List Bool} : ∀ {vs : List V}, DpAll K H vs (bs.map PyData.bool) → vs = bs.map V.bl := by
  induction bs with
  | nil => intro vs h; cases h; rfl
  | cons a r ih =>
    intro vs h
    cases h with
    | cons h1 h2 => rw [dp_bl_inv h1, ih h2]; rfl
theorem ev_all {bs : List Bool} (h : EvL K C tl ρ [.d (.list (bs.map PyData.bool))]) : Ev K C (tCB (rAll K) tl) ρ (.d (.bool (bs.all id))) :=
  ev_cb h fun Hd H vs e r Q q => by
    obtain ⟨v, rfl, h1⟩ := vrs1 r
    obtain ⟨p, us, rfl, h2, h3⟩ := dp_lst_inv h1
    have : us = bs.map V.bl := dp_bls h3
    subst this
    exact ⟨p, bs, rfl, ex_l e h2, q _ Hd H (Xt.refl e) (Dp.bl _)⟩
/-- a list of policies -/
def EvPo (K : PySem.W.Frag) (C : Cl P w) (t : TA) (ρ : En) (ps : List PolD) : Prop := ∀ (Hd H : Hp) (σ : L2.St), Ex Hd H → EnvR K C Hd H σ ρ → ∀ Q : List V → Hp → Prop, (∀ vs Hd' H', Xt Hd H Hd' H' → Paired (PolAt C Hd') vs ps → Q vs H') → t σ H Q
theorem evpo_nil : EvPo K C tNil ρ [] := fun Hd H σ x r Q q => q _ Hd H (Xt.refl x) .nil
theorem evpo_cons {p : PolD} (ha : Ev K C ta ρ (.pol p)) (hr : EvPo K C tr ρ ps) : EvPo K C (tCons ta tr) ρ (p :: ps) := fun Hd H σ x r Q q =>
  ha Hd H σ x r _ fun v Hd1 H1 x1 h1 => hr Hd1 H1 σ x1.dh (r.xt x1) _ fun vs Hd2 H2 x2 h2 => q _ Hd2 H2 (x1.trans x2) (.cons (PolAt.ex x2.d h1) h2)
theorem po_app {Hd : Hp} : ∀ {vs us : List V} {ps qs : List PolD}, Paired (PolAt C Hd) vs ps → Paired (PolAt C Hd) us qs → Paired (PolAt C Hd) (vs ++ us) (ps ++ qs)
  | _, _, _, _, .nil, h => h
  | _, _, _, _, .cons r t, h => .cons r (po_app t h)
theorem evpo_star {b : Bool} (ha : Ev K C ta ρ (.pv b ps)) (hr : EvPo K C tr ρ qs) : EvPo K C (StX.tStar K ta tr) ρ (ps ++ qs) := fun Hd H σ x r Q q =>
  ha Hd H σ x r _ fun v Hd1 H1 x1 ⟨t, us, h1, h2, h3⟩ => ⟨t, us, h1, by
    cases b with
    | true => exact .inl (ex_t x1.dh h2)
    | false => exact .inr (ex_l x1.dh h2), hr Hd1 H1 σ x1.dh (r.xt x1) _ fun vs Hd2 H2 x2 h4 => q _ Hd2 H2 (x1.trans x2) (po_app (Paired.mapP h3 fun _ _ r => PolAt.ex x2.d r) h4)⟩
theorem ev_lstP (h : EvPo K C tl ρ ps) (hl : ps.length ≤ 1000) : Ev K C (tLst tl) ρ (.pv false ps) := fun Hd H σ x r Q q =>
  h Hd H σ x r _ fun vs Hd1 H1 x1 h1 => ⟨by rw [Paired.length h1]; exact sz_of (by omega), fun p hp => q _ _ _ (x1.trans (Xt.new x1.dh hp)) ⟨p, vs, rfl, SqL.of upd_same, Paired.mapP h1 fun _ _ r => PolAt.ex (Ex.new (free_of x1.dh hp)) r⟩⟩
theorem ev_tupP (h : EvPo K C tl ρ ps) (hl : ps.length ≤ 1000) : Ev K C (tTup tl) ρ (.pv true ps) := fun Hd H σ x r Q q =>
  h Hd H σ x r _ fun vs Hd1 H1 x1 h1 => ⟨by rw [Paired.length h1]; exact sz_of (by omega), fun p hp => q _ _ _ (x1.trans (Xt.new x1.dh hp)) ⟨p, vs, rfl, SqT.of upd_same, Paired.mapP h1 fun _ _ r => PolAt.ex (Ex.new (free_of x1.dh hp)) r⟩⟩
theorem ev_ixPL {k : Nat} {p : PolD} (ha : Ev K C ta ρ (.pv false ps)) (h : ps[k]? = some p) : Ev K C (tOp (rIxL K) ta (tC (.int k))) ρ (.pol p) := fun Hd H σ x r Q q =>
  ha Hd H σ x r _ fun v Hd1 H1 x1 ⟨t, us, h1, h2, h3⟩ => by
    subst h1
    have hl := Paired.length h3
    have hk := (List.getElem?_eq_some_iff.mp h).1
    obtain ⟨b, hb, hr⟩ := paired_get h3 (List.getElem?_eq_getElem (show k < us.length by omega))
    rw [h] at hb
    cases hb
    exact ⟨t, us, k, _, rfl, rfl, ex_l x1.dh h2, atI_nat (List.getElem?_eq_getElem (by omega)), q _ Hd1 H1 x1 hr⟩
/-- [e for j in policies] -/
theorem ev_lcPv {vs : List Nat} {j : Nat} (h : Ev K C ta ρ (.pv true ps)) (hj : j ∈ vs) (hl : ps.length ≤ 1000) (v : Nat → PyData) (p0 : PolD) (he : ∀ i p, ps[i]? = some p → Ev K C te ((wipeA ρ vs).set j (.pol p)) (.d (v i))) :
    Ev K C (tLc (iTup K ta) (gName j) tYes te vs) ρ (.d (.list (givenD ps.length (fun _ => true) v))) := by
  refine fun Hd H σ x r Q q => h Hd H σ x r _ fun u Hd1 H1 x1 ⟨t, us, h1, h2, h3⟩ => ⟨t, h1, ⟨_, ex_t x1.dh h2⟩, ?_⟩
  have hlen := Paired.length h3
  refine lc_core_ev (K := K) (C := C) (walk_tup (K := K) (a := t) (xs := us)) (g := gName j) (tt := tYes) (te := te) (vs := vs) (σ := σ) (Hd1 := Hd1) (H1 := H1) (fun i => (wipeA ρ vs).set j (.pol (ps.getD i p0))) (fun _ => true) v (by omega) x1.dh (fun Hd' H' xx => ex_t (x1.dh.trans xx.h) h2) ?_ ?_ ?_ Q ?_
  · rintro i Hd' H' y H'' Q hi xx ⟨rfl, hy⟩ k
    refine k _ _ (set_wipe hj) (Xt.refl xx.dh) ?_
    refine ((r.xt (x1.trans xx)).wipe vs).set (a := .pol _) ?_ j
    obtain ⟨b, hb, hr⟩ := paired_get h3 hy
    rw [List.getD_eq_getElem?_getD, hb]
    exact PolAt.ex xx.d hr
  · exact fun i hi Hd H σ x r Q q => q Hd H (Xt.refl x)
  · intro i hi _
    have hi' : i < ps.length := by omega
    rw [List.getD_eq_getElem?_getD, List.getElem?_eq_getElem hi']
    exact he i _ (List.getElem?_eq_getElem hi')
  · exact fun D Hd' H' xx hdp => q _ Hd' H' (x1.trans xx) (by rw [← hlen]; exact hdp)
def FSettingInit : List AV → AV → Prop := fun as z => ∃ (n : Int) (p0 p1 : PolD), as = [.d (.int n), .pv true [p0, p1]] ∧ 1 ≤ n ∧ n ≤ 10 ∧ z = .set ⟨n, p0, p1⟩
theorem ok_Setting_init {f : Addr} {N : List Str} {x qual : Str} {pa : Arguments} {bd : List Stmt} {sc : Scope} {dvs : List V} {kws : List (Str × V)} {fd : FuncData} (F : FunD K "__init__" "Setting.__init__" (defArgs s_Setting__init) (defBody s_Setting__init) (defScope s_Setting__init) dvs kws f fd) (T : Txt K mg C) (T2 : TxP K C)
    (d_in_range : Df P w K mg base "in_range" 2 ps_in_range (SpD K C FInRange)) (c_Policy0 : Mkr P w K mg base "Policy" 3 ps_Policy__init C.pol (SpM K C C.pol FPolicyInit) [.str "all", .int 2, .int 0])
    (hd : dvs = []) (hb : ∀ (kV doc pm : Value) (an : Option Addr) (cdv ct : Value) (us rest : List Value), us.length = 2 → bindArgs (PySem.W.fnOf "__init__" "Setting.__init__" (defArgs s_Setting__init) (defBody s_Setting__init) (defScope s_Setting__init) .none kV doc pm an cdv ct) ⟨us ++ rest, []⟩ = (newTuple rest >>= fun t => pure ((["self", "size"] : List Str).zip us ++ [(("policies" : Str), t)]))) :
    FnR P w K mg base CX0 5 f (fun vs H Q E => ∃ ws rest, vs = ws ++ rest ∧ ws.length = (["self", "size"] : List Str).length ∧ rest.length ≤ sizeLine ∧ ∀ p, H p = Option.none → SpM K C C.set FSettingInit (ws ++ [V.ref p]) (upd H p (.tup rest)) Q E) := by
  obtain ⟨oc, od, dV, kV, doc, pm, an, cdv, ct, osl, rfl, lk, hcd, hD, _⟩ := F.ex
  obtain rfl : dV = .none := by
    rcases hD with ⟨_, e⟩ | ⟨e, _⟩
    · exact e
    · exact absurd hd e
  refine StX.fn_star lk hcd sc_Setting__init StX.cxUp_none (fun us rest hl => hb _ _ _ _ _ _ us rest hl) fun A outer s H vs Q E hr hsp => ?_
  obtain ⟨Hd0, H0, Hd, as, z, m, dx, us, ⟨n, p0, p1, rfl, hn1, hn2, rfl⟩, rfl, xx, h0, hd, hm, hv, q⟩ := hsp
  refine ⟨_, PSs.nox (
(pss_cons (ps_if (pt_not (pt_val (pe_df d_in_range (hr.mono (by decide)) rfl (pa_cons (pv 1) (pa_cons pe_int (pa_cons (peG rfl T.g_MOST_SIZE) pa_nil)))))) pss_never pss_nil)
    (pss_cons (ps_if (PW.pt (pw_or (pt_cmpR op_gt (pe_callB (callLen K) rfl T.n_len (by decide +kernel) (pa_cons (pv 2) pa_nil)) pe_int (nomark _)) (pw_or1 (pt_not (pt_val (pe_callB (callAll K) rfl T.n_all (by decide +kernel) (pa_cons (pe_lc (own := [("policy", 4)]) (g := (gName 4)) rfl sc_Setting__init.nd (piTup K (pv 2)) (blkOk_by (own := [("policy", 4)]) (N := nm_Setting__init) (sc := defScope s_Setting__init) (by decide +kernel)) (fun _ _ _ _ _ => (pg_name (i := 4) sc_Setting__init.nd rfl (Or.inl rfl))) (fun _ _ _ _ _ => pts_nil) (fun _ _ _ _ _ => (pe_callB (callIsi K) rfl T.n_isinstance (by decide +kernel) (pa_cons (pv 4) (pa_cons (pe_gR rfl T.g_Policy) pa_nil))))) pa_nil))))))) pss_never pss_nil)
    (pss_cons (ps_set (i := 3) sc_Setting__init.nd rfl (Or.inl rfl) (pe_lst (StX.pa_star (pv 2) (StX.pa_star (pv 2) (pa_cons (pe_mk0 c_Policy0 (hr.mono (by decide)) rfl) (pa_cons (pe_mk0 c_Policy0 (hr.mono (by decide)) rfl) pa_nil))))))
    (pss_cons (psFld K (pv 0) (pv 1) rfl)
    (pss_one (psFld K (pv 0) (pe_tup (pa_cons (pe_ix (ixL K) (pv 3) pe_int (fun _ _ => rfl)) (pa_cons (pe_ix (ixL K) (pv 3) pe_int (fun _ _ => rfl)) pa_nil))) rfl))))))), ?_⟩
  have hlen : (V.ref m :: us).length ≤ nm_Setting__init.length := by
    rw [List.length_cons, Paired.length hv]
    exact Nat.le_of_ble_eq_true rfl
  have w : Wx K C Hd0 H0 Hd H (L2.start nm_Setting__init (V.ref m :: us)) (startA nm_Setting__init (.raw (.ref m) :: [.d (.int n), .pv true [p0, p1]])) := ⟨xx, env_start _ hlen (.cons (a := V.ref m) (b := AV.raw (.ref m)) rfl hv)⟩
  have he : (decide ((1 : Int) ≤ n) && decide (n ≤ 1000000000000000000)) = true := by rw [decide_eq_true hn1, decide_eq_true (by omega)]; rfl
  refine w.qwhen (b := false) (evt_is (evt_not (evt_B (ev_callE (by walk_at "evl") (by rfl) ⟨_, _, _, rfl, rfl⟩))) (by rw [he]; rfl)) (fun z => nomatch z) fun _ Hd H x w => ?_
  have hd : Hd m = none := (x.nw _ _ hm).trans hd
  have hm := x.h _ _ hm
  refine w.qwhen (b := false) (evt_or (a := false) (b := false) (evt_is (evt_test (ev_B0 (ev_lenPv (ps := [p0, p1]) (by walk_at "evl")) (by walk_at "ev"))) (by rfl)) fun _ => evt_not (a := true) (evt_B (ev_is (ev_all (bs := [true, true]) (evl_cons (ev_is (ev_lcPv (ps := [p0, p1]) (by walk_at "ev") (by decide) (Nat.le_of_ble_eq_true rfl) (fun _ => .bool true) p0 fun i p hp => ev_isiP T2 (by walk_at "ev")) (by rfl)) evl_nil)) (by rfl)))) (fun z => nomatch z) fun _ Hd H x w => ?_
  have hd : Hd m = none := (x.nw _ _ hm).trans hd
  have hm := x.h _ _ hm
  have mkd : ∀ ρ : En, Ev K C (tMake C.pol (SpM K C C.pol FPolicyInit) [.str "all", .int 2, .int 0] E0 tNil) ρ (.pol ⟨.all, 2, 0⟩) := fun ρ => ev_make0 (as := [.d (.str "all"), .d (.int 2), .d (.int 0)]) (fun Hd H => .cons (Dp.str _) (.cons (Dp.int _) (.cons (Dp.int _) .nil))) ⟨⟨.all, 2, 0⟩, rfl, by unfold PolOk; decide, rfl⟩
  refine w.qasg (a := .pv false ([p0, p1] ++ ([p0, p1] ++ [⟨.all, 2, 0⟩, ⟨.all, 2, 0⟩]))) (ev_lstP (evpo_star (b := true) (by walk_at "ev") (evpo_star (b := true) (by walk_at "ev") (evpo_cons (mkd _) (evpo_cons (mkd _) evpo_nil)))) (Nat.le_of_ble_eq_true rfl)) fun σ Hd H x w => ?_
  have hd : Hd m = none := (x.nw _ _ hm).trans hd
  have hm := x.h _ _ hm
  refine w.qfld rfl rfl h0 hd hm T.clS T.nS_size (Nat.le_of_ble_eq_true rfl) (by walk_at "ap") rfl (by walk_at "ev") fun v1 Hd H r1 x1 hd hm w => ?_
  refine w.fld (a := .pv true [p0, p1]) rfl rfl h0 hd hm T.clS T.nS_policies (Nat.le_of_ble_eq_true rfl) (by walk_at "ap") rfl (ev_tupP (evpo_cons (ev_ixPL (k := 0) (ps := [p0, p1, p0, p1, ⟨.all, 2, 0⟩, ⟨.all, 2, 0⟩]) (by walk_at "ev") rfl) (evpo_cons (ev_ixPL (k := 1) (ps := [p0, p1, p0, p1, ⟨.all, 2, 0⟩, ⟨.all, 2, 0⟩]) (by walk_at "ev") rfl) evpo_nil)) (Nat.le_of_ble_eq_true rfl)) fun v2 Hd H r2 x2 hd hm w => ?_
  obtain ⟨xx, xe⟩ := w.done h0 hd hm
  have e1 : v1 = .int n := dp_int_inv r1
  subst e1
  obtain ⟨t, us2, rfl, q2, q3⟩ := r2
  cases q3 with
  | cons r0 q3 =>
  cases q3 with
  | cons r1 q3 =>
  cases q3
  refine q _ _ xx ⟨m, dx, _, t, _, _, rfl, upd_same, ?_, ?_, ex_t xe q2, PolAt.ex xe r0, PolAt.ex xe r1⟩
  · rw [lookup_putF, lookup_putF, if_neg (by decide), if_pos rfl]
  · rw [lookup_putF, if_pos rfl]
end
end LW

set_option Elab.async false
set_option linter.all false
set_option maxRecDepth 100000
set_option maxHeartbeats 4000000
namespace LW
open PySem PySem.Spec PyProof.Rows L2 Evl ClX
local macro_rules | `(tactic| walk_at "ev") => `(tactic| first
  | with_reducible exact ev_int | with_reducible exact ev_bl | with_reducible exact ev_str | with_reducible exact ev_non
  | ((with_reducible apply ev_var) <;> rfl)
  | ((with_reducible apply ev_ixT) <;> first | walk_at "ev" | rfl)
  | ((with_reducible apply ev_ixL) <;> first | walk_at "ev" | rfl)
  | ((with_reducible apply ev_ixM) <;> first | walk_at "ev" | rfl)
  | ((with_reducible apply ev_I0) <;> walk_at "ev")
  | ((with_reducible apply ev_B0) <;> walk_at "ev")
  | ((with_reducible apply ev_U) <;> walk_at "ev")
  | ((with_reducible apply ev_tup) <;> first | walk_at "evd" | exact Nat.le_of_ble_eq_true rfl)
  | ((with_reducible apply ev_lst) <;> first | walk_at "evd" | exact Nat.le_of_ble_eq_true rfl)
  | ((with_reducible apply ev_eqI) <;> walk_at "ev")
  | ((with_reducible apply ev_eqS) <;> walk_at "ev")
  | ((with_reducible apply ev_neI) <;> walk_at "ev")
  | ((with_reducible apply ev_neS) <;> walk_at "ev")
  | ((with_reducible apply ev_notV) <;> walk_at "ev")
  | ((with_reducible apply ev_andV) <;> first | walk_at "ev" | (intro _; walk_at "ev"))
  | ((with_reducible apply ev_orV) <;> first | walk_at "ev" | (intro _; walk_at "ev"))
  | ((with_reducible apply ev_min) <;> walk_at "evl")
  | ((with_reducible apply ev_max) <;> walk_at "evl")
  | ((with_reducible apply ev_slT) <;> first | walk_at "ev" | walk_at "evo" | walk_at "cut")
  | ((with_reducible apply ev_slL) <;> first | walk_at "ev" | walk_at "evo")
  | ((with_reducible apply ev_catT) <;> first | walk_at "ev" | exact Nat.le_of_ble_eq_true rfl | (intro z; cases z))
  | ((with_reducible apply ev_abs) <;> walk_at "evl")
  | ((with_reducible apply ev_intI) <;> walk_at "evl")
  | ((with_reducible apply ev_intB) <;> walk_at "evl")
  | ((with_reducible apply ev_lenL) <;> walk_at "evl"))
local macro_rules | `(tactic| walk_at "evd") => `(tactic| first | with_reducible exact evd_nil | ((with_reducible apply evd_cons) <;> first | walk_at "ev" | walk_at "evd"))
local macro_rules | `(tactic| walk_at "evl") => `(tactic| first | with_reducible exact evl_nil | ((with_reducible apply evl_cons) <;> first | walk_at "ev" | walk_at "evl"))
local macro_rules | `(tactic| walk_at "evo") => `(tactic| first | with_reducible exact evo_none | ((with_reducible apply evo_some) <;> walk_at "ev"))
local macro_rules | `(tactic| walk_at "evt") => `(tactic| first
  | ((with_reducible apply evt_test) <;> walk_at "ev")
  | ((with_reducible apply evt_B) <;> walk_at "ev")
  | ((with_reducible apply evt_not) <;> walk_at "evt")
  | ((with_reducible apply evt_and) <;> first | walk_at "evt" | (intro _; walk_at "evt"))
  | ((with_reducible apply evt_or) <;> first | walk_at "evt" | (intro _; walk_at "evt")))
local macro_rules | `(tactic| walk_at "cut") => `(tactic| (intro z; simp [HT.sIx] at z))
local macro_rules | `(tactic| walk_at "le") => `(tactic| (refine ⟨rfl, ?_⟩; repeat (first | exact trivial | refine ⟨?_, ?_⟩ | exact Or.inr (Or.inl rfl) | exact Or.inl rfl | exact Or.inr (Or.inr rfl))))
local macro_rules | `(tactic| walk_at "ap") => `(tactic| repeat (first | exact trivial | refine ⟨?_, ?_⟩ | exact Or.inl rfl | exact Or.inr (ne_cell rfl) | exact Or.inr (ne_cell2 rfl (by assumption)) | exact Or.inr (ne_cell2 (by assumption) (by assumption)) | exact Or.inr (by assumption)))
structure MkrR (P : Program) (w : World) (K : PySem.W.Frag) (mg : Str → Option Value) (base : Heap) (x : Str) (k : Nat) (cls : Addr) (sp : Sp) : Prop where
  ex : ∃ f, Mk K cls f ∧ FnR P w K mg base CX0 k f sp ∧ mg x = some (.ref cls)
theorem pe_mkR {X : Cx} {k : Nat} {sp : Sp} {cls : Addr} {x : Str} {p pos : Pos} {e : Expr} {es : List Expr} {t : TA} (d : MkrR X.prog X.w X.K X.mg X.base x k cls sp) (hr : Room (k + 1) X.A) (hg : Gl X x) (ha : PA X (e :: es) t) (hdb : (x == ("__debug__" : Str)) = false := by decide)
    (he : starEach (e :: es) X.env = (false, eval e X.env) :: starEach es X.env := by rfl) (hpl : (backTo pos (starEach es X.env)).any (·.1) = false := by rfl) : PE X (.Call (.Name x p) (e :: es) [] pos) (StX.tMakeR cls sp E0 t) := by
  obtain ⟨f, M, F, hm⟩ := d.ex
  exact StX.pe_makeR M F hr hg hm pass0 ha hdb he hpl
section
variable {P : Program} {w : World} {K : PySem.W.Frag} {mg : Str → Option Value} {base : Heap} {C : Cl P w} {Hd0 H0 Hd H Hd1 H1 : Hp} {σ : L2.St} {ρ : En} {ta tb tv te : TE} {tl tk tr : TA} {D : Ends} {tz t1 t2 : TS} {i : Nat} {m : Addr} {a : AV} {ps qs : List PolD}
abbrev SpSet (K : PySem.W.Frag) (C : Cl P w) : Sp := fun vs H Q E => ∃ ws rest, vs = ws ++ rest ∧ ws.length = (["self", "size"] : List Str).length ∧ rest.length ≤ sizeLine ∧ ∀ p, H p = Option.none → SpM K C C.set FSettingInit (ws ++ [V.ref p]) (upd H p (.tup rest)) Q E
theorem ev_mkSet {E : XK} {n : Int} {p0 p1 : PolD} (h : EvL K C tl ρ [.d (.int n), .pol p0, .pol p1]) (h1 : 1 ≤ n) (h2 : n ≤ 10) : Ev K C (StX.tMakeR C.set (SpSet K C) E tl) ρ (.set ⟨n, p0, p1⟩) := fun Hd H σ x r Q q =>
  h Hd H σ x r _ fun vs Hd1 H1 x1 h3 => by
    obtain ⟨v, v0, v1, rfl, r0, r1, r2⟩ := vrs3 h3
    intro y dx hy hdx hne
    refine ⟨[.ref y, v], [v0, v1], rfl, rfl, Nat.le_of_ble_eq_true rfl, fun pt hpt => ?_⟩
    have hx2 : upd H1 dx (.own y) y = none := by rw [upd_ne (Ne.symm hne)]; exact hy
    have xx : Xt Hd1 H1 Hd1 (upd (upd H1 dx (.own y)) y (.ins C.set dx [])) := ⟨Ex.refl _, (Ex.new hdx).trans (Ex.new hx2), ex_mut (ex_mut x1.dh (free_of x1.dh hdx)) (free_of x1.dh hy), fun _ _ _ => rfl⟩
    have x2 := Xt.new (o := .tup [v0, v1]) xx.dh hpt
    have hyp : y ≠ pt := fun z => by
      have : upd (upd H1 dx (.own y)) y (.ins C.set dx []) y = some (.ins C.set dx []) := upd_same
      rw [z] at this; rw [← z] at this hpt; rw [hpt] at this; cases this
    refine ⟨Hd1, H1, _, [.d (.int n), .pv true [p0, p1]], .set ⟨n, p0, p1⟩, y, dx, [v, .ref pt], ⟨n, p0, p1, rfl, h1, h2, rfl⟩, rfl, xx.trans x2, hy, ?_, ?_, .cons (dp_ex x2.d _ _ r0) (.cons ⟨pt, _, rfl, SqT.of upd_same, .cons (PolAt.ex x2.d r1) (.cons (PolAt.ex x2.d r2) .nil)⟩ .nil), fun Hd' H' x3 hr => ⟨rfl, q _ Hd' H' (x1.trans x3) hr⟩⟩
    · rw [upd_ne hyp]; exact free_of x1.dh hy
    · rw [upd_ne hyp]; exact upd_same
/-- [.. for is in list of tuples], policies -/
theorem ev_lcPo {vs is : List Nat} {mm : Nat} (v : Nat → PolD) (F : PyData → List PyData) {ds : List PyData} (h : Ev K C ta ρ (.d (.list ds))) (hn : ds.length ≤ 1000) (hj : ∀ i ∈ is, i ∈ vs) (hm : mm = is.length) (hf : ∀ d ∈ ds, d = .tuple (F d) ∧ (F d).length = is.length)
    (he : ∀ (i : Nat) d, ds[i]? = some d → Ev K C te (setsA (wipeA ρ vs) is (F d)) (.pol (v i))) :
    Ev K C (tLc (iList K ta) (gTup K mm (gNames is)) tYes te vs) ρ (.pv false ((List.range ds.length).map v)) := fun Hd H σ x r Q q =>
  h Hd H σ x r _ fun u Hd1 H1 x1 hu => by
    obtain ⟨a, xs, rfl, hs1, hs2⟩ := dp_lst_inv hu
    have hl := dpall_len hs2
    refine ⟨a, rfl, ⟨xs, ex_l x1.dh hs1⟩, fun D hD => ?_⟩
    refine lc_it (walk_list (K := K) (a := a) (xs := xs)) (fun i H' => ∃ Hd' acc, Xt Hd1 H1 Hd' H' ∧ Hd' D = none ∧ H' D = some (.lst acc) ∧ Paired (PolAt C Hd') acc ((List.range i).map v)) ⟨Hd1, [], ⟨Ex.refl _, Ex.new hD, ex_mut x1.dh (free_of x1.dh hD), fun _ _ _ => rfl⟩, free_of x1.dh hD, upd_same, .nil⟩ (fun i H' _ ⟨Hd', _, xx, _⟩ => ex_l (x1.dh.trans xx.h) hs1) (fun i y H' H'' hi ⟨Hd', acc, xx, z1, z2, z3⟩ hy => ?_) fun H' ⟨Hd', acc, xx, z1, z2, z3⟩ => ?_
    · obtain ⟨rfl, hy⟩ := hy
      have hi' : i < ds.length := by omega
      obtain ⟨u, q1, q2⟩ := dpall_get hs2 (List.getElem?_eq_getElem hi')
      rw [hy] at q1
      cases q1
      obtain ⟨f1, f2⟩ := hf _ (List.mem_of_getElem? (List.getElem?_eq_getElem hi'))
      have q3 := dp_ex xx.d _ _ q2
      rw [f1] at q3
      obtain ⟨p, us, rfl, p1, p2⟩ := dp_tup_inv q3
      refine ⟨p, us, rfl, ex_t xx.dh p1, by rw [hm, dpall_len p2, f2], ?_⟩
      refine names_wipe (τ := σ) is hj f2.symm p2 ((r.xt (x1.trans xx)).wipe vs) (wipe_ext (by rw [wipe_length]) fun k hk => wipe_get hk) fun σ2 hw r2 => ⟨hw, ?_⟩
      refine he i _ (List.getElem?_eq_getElem hi') Hd' _ σ2 xx.dh r2 _ fun u Hd4 H4 x4 h4 => ⟨acc, x4.h _ _ z2, ?_, ?_⟩
      · rw [Paired.length z3, List.length_map, List.length_range]
        exact sz_lt (by omega)
      · have hd4 : Hd4 D = none := (x4.nw _ _ z2).trans z1
        have xq := xx.trans x4
        refine ⟨Hd4, acc ++ [u], ⟨xq.d, fun b o e => by rw [upd_ne (ne_of_none e hD)]; exact xq.h b o e, ex_mut xq.dh hd4, xq.nw⟩, hd4, upd_same, ?_⟩
        rw [List.range_succ, List.map_append]
        exact po_app (Paired.mapP z3 fun _ _ r => PolAt.ex x4.d r) (.cons h4 .nil)
    · obtain ⟨f1, f2⟩ := ex_freeze xx.dh z2 z1
      refine q _ (upd Hd' D (.lst acc)) H' (x1.trans ⟨xx.d.trans f2, xx.h, f1, fun b o e => by rw [upd_ne (ne_of_none e hD)]; exact xx.nw b o e⟩) ⟨D, acc, rfl, SqL.of upd_same, ?_⟩
      rw [← hl]
      exact Paired.mapP z3 fun _ _ r => PolAt.ex f2 r
def FLawSetting : List AV → (AV → Prop) → Prop := fun as Pr => ∃ (n : Int) (p : PolD × PolD), as = [.d (.int n), .d (.list [encRule p.1, encRule p.2])] ∧ 1 ≤ n ∧ n ≤ 10 ∧ PolOk p.1 ∧ PolOk p.2 ∧ Pr = fun a => a = .set ⟨n, p.1, p.2⟩
theorem ok_law_setting {f : Addr} {fd : FuncData} (F : Fun K "_law_setting" "_law_setting" s_law_setting f fd) (T : Txt K mg C) (c_PolicyK : MkrK P w K mg base "Policy" 3 ps_Policy__init ["every", "quick"] 1 C.pol (SpM K C C.pol FPolicyInit)) (c_Setting : MkrR P w K mg base "Setting" 5 C.set (SpSet K C)) :
    FnOk P w K mg base CX0 7 f fd ps_law_setting (SpD K C FLawSetting) := by
  refine okD F sc_law_setting (fun as Pr ⟨_, _, e, _⟩ => by subst e; rfl) fun cdv A outer s H vs E hr => ⟨_,
(pss_cons (ps_setLc (i := 2) (own := [("_law_lets", 3), ("_law_some", 4), ("_law_soon", 5)]) (g := (gTup K 3 (gCons (gName 3) (gCons (gName 4) (gCons (gName 5) gNil))))) rfl sc_law_setting.nd rfl rfl (sw_true rfl rfl rfl (by decide +kernel)) (piList K (pv 1)) (blkOk_by (own := [("_law_lets", 3), ("_law_some", 4), ("_law_soon", 5)]) (N := nm_law_setting) (sc := defScope s_law_setting) (by decide +kernel)) (fun _ _ _ _ _ => (pgTup K rfl (pgs_cons (pg_name (i := 3) sc_law_setting.nd rfl (Or.inl rfl)) (pgs_cons (pg_name (i := 4) sc_law_setting.nd rfl (Or.inl rfl)) (pgs_cons (pg_name (i := 5) sc_law_setting.nd rfl (Or.inl rfl)) pgs_nil))))) (fun _ _ _ _ _ => pts_nil) (fun _ _ _ _ _ => (pe_mkK c_PolicyK (hr.mono (by decide)) rfl (pa_cons (pv 3) pa_nil) (pk_cons (pv 4) (pk_cons (pv 5) pk_nil)))))
    (pss_one (ps_ret (pe_mkR c_Setting (hr.mono (by decide)) rfl (pa_cons (pv 0) (pa_cons (pe_ix (ixL K) (pv 2) pe_int (fun _ _ => rfl)) (pa_cons (pe_ix (ixL K) (pv 2) pe_int (fun _ _ => rfl)) pa_nil))))))), ?_⟩
  rintro Hd as Pr Q σ ⟨n, p, rfl, h1, h2, hp0, hp1, rfl⟩ w q
  refine w.qasg (a := .pv false [p.1, p.2]) (ev_is (ev_lcPo (is := [3, 4, 5]) (fun i => if i = 0 then p.1 else p.2) tupOf (ds := [encRule p.1, encRule p.2]) (by walk_at "ev") (Nat.le_of_ble_eq_true rfl) (by decide) rfl (fun d hd => ?_) (fun i d hi => ?_)) (by rfl)) fun σ Hd H x w => ?_
  · simp at hd
    rcases hd with rfl | rfl <;> exact ⟨rfl, rfl⟩
  · match i, hi with
    | 0, hi => cases hi; exact ev_makeK (as := [.d (.str p.1.hold.str)]) (bs := [.d (.int p.1.every), .d (.int p.1.quick)]) (by walk_at "evl") (by walk_at "evl") rfl rfl ⟨p.1, rfl, hp0, rfl⟩
    | 1, hi => cases hi; exact ev_makeK (as := [.d (.str p.2.hold.str)]) (bs := [.d (.int p.2.every), .d (.int p.2.quick)]) (by walk_at "evl") (by walk_at "evl") rfl rfl ⟨p.2, rfl, hp1, rfl⟩
    | (k + 2), hi => simp at hi
  exact w.ret (ev_mkSet (evl_cons (by walk_at "ev") (evl_cons (ev_ixPL (k := 0) (ps := [p.1, p.2]) (by walk_at "ev") rfl) (evl_cons (ev_ixPL (k := 1) (ps := [p.1, p.2]) (by walk_at "ev") rfl) evl_nil))) h1 h2) fun v Hd' H' x hv => q v _ Hd' H' rfl x hv

theorem kt_int_bool2 : kitB "int" "bool" = some false := by decide +kernel
def FWhole : List AV → (AV → Prop) → Prop := fun as Pr => ∃ i : Int, as = [.d (.int i)] ∧ Pr = fun a => a = .d (.bool true)
theorem ok_law_whole {f : Addr} {fd : FuncData} (F : Fun K "_law_whole" "_law_whole" s_law_whole f fd) (T : Txt K mg C) : FnOk P w K mg base CX0 1 f fd ps_law_whole (SpD K C FWhole) := by
  refine okD F sc_law_whole (fun as Pr ⟨_, e, _⟩ => by subst e; rfl) fun cdv A outer s H vs E hr => ⟨_,
(pss_one (ps_ret (pe_and (pe_callB (callIsi K) rfl T.n_isinstance (by decide +kernel) (pa_cons (pv 0) (pa_cons (peTy "int" rfl T.n_int (by decide +kernel)) pa_nil))) (pe_one (pe_not (pe_callB (callIsi K) rfl T.n_isinstance (by decide +kernel) (pa_cons (pv 0) (pa_cons (peTy "bool" rfl T.n_bool (by decide +kernel)) pa_nil)))))))), ?_⟩
  rintro Hd as Pr Q σ ⟨i, rfl, rfl⟩ w q
  exact w.ret (ev_andV (ev_isi (b := true) (by walk_at "ev") (by exact kt_int_int)) fun _ => ev_notV (ev_isi (b := false) (by walk_at "ev") (by exact kt_int_bool))) fun v Hd' H' x hv => q v _ Hd' H' (by rfl) x hv
def limsF (c : List Wr) : List Int := (List.range c.length).map (limF c)
def FLimits : List AV → (AV → Prop) → Prop := fun as Pr => ∃ c : List Wr, as = [.d (encC c)] ∧ c.length ≤ 1000 ∧ Pr = fun a => a = .d (encI (limsF c))
theorem ok_law_limits {f : Addr} {fd : FuncData} (F : Fun K "_law_limits" "_law_limits" s_law_limits f fd) (T : Txt K mg C) : FnOk P w K mg base CX0 1 f fd ps_law_limits (SpD K C FLimits) := by
  refine okD F sc_law_limits (fun as Pr ⟨_, e, _⟩ => by subst e; rfl) fun cdv A outer s H vs E hr => ⟨_,
(pss_one (ps_ret (pe_lc (own := [("_law_at", 1)]) (g := (gName 1)) rfl sc_law_limits.nd (pi_range1 rfl T.n_range (pa_cons (pe_callB (callLen K) rfl T.n_len (by decide +kernel) (pa_cons (pv 0) pa_nil)) pa_nil)) (blkOk_by (own := [("_law_at", 1)]) (N := nm_law_limits) (sc := defScope s_law_limits) (by decide +kernel)) (fun _ _ _ _ _ => (pg_name (i := 1) sc_law_limits.nd rfl (Or.inl rfl))) (fun _ _ _ _ _ => pts_nil) (fun _ _ _ _ _ => (pe_op op_mul pe_int (pe_callTy call_int1 rfl T.n_int (by decide +kernel) (pa_cons (pe_and (pe_cmpR op_gt (pv 1) pe_int (nomark _)) (pe_one (pe_cmpR op_eq (pe_ix (ixT K) (pe_ix (ixL K) (pv 0) (pe_op op_sub (pv 1) pe_int) (fun _ _ => rfl)) pe_int (fun _ _ => rfl)) (pe_ix (ixT K) (pe_ix (ixL K) (pv 0) (pv 1) (fun _ _ => rfl)) pe_int (fun _ _ => rfl)) (nomark _)))) pa_nil))))))), ?_⟩
  rintro Hd as Pr Q σ ⟨c, rfl, hc, rfl⟩ w q
  refine w.ret (a := .d (encI (limsF c))) (ev_is (ev_lcR (n := (c.map encW).length) (fun _ => true) (fun i => PyData.int (limF c i)) (evl_cons (ev_lenL (by walk_at "evl")) evl_nil) (by rw [List.length_map]; omega) (by decide) (fun i hi => fun Hd H σ x r Q q => q Hd H (Xt.refl x)) (fun i hi _ => ?_)) ?_) fun v Hd' H' x hv => q v _ Hd' H' (by rfl) x hv
  · rw [List.length_map] at hi
    have hi : i < c.length := by omega
    obtain ⟨y, hy⟩ : ∃ y, c[i]? = some y := ⟨_, List.getElem?_eq_getElem hi⟩
    refine ev_is (ev_I (ev_int (i := 2)) (ev_intB (k := decide (0 < (i : Int)) && decide (whoAt c (i - 1) = whoAt c i)) (evl_cons (ev_andV (by walk_at "ev") fun hz => ?_) evl_nil)) (.inl (by decide))) ?_
    · have hz : (0 : Int) < i := of_decide_eq_true hz
      obtain ⟨z, hz2⟩ : ∃ z, c[i - 1]? = some z := ⟨_, List.getElem?_eq_getElem (by omega)⟩
      rw [whoAt_get hz2, whoAt_get hy]
      exact ev_eqI (ev_ixT (ev_ixL (d := encW z) (by walk_at "ev") (by walk_at "ev") (atI_int (k := i - 1) (by omega) (by rw [List.getElem?_map, hz2]; rfl))) (by walk_at "ev") (by rfl)) (ev_ixT (ev_ixL (d := encW y) (by walk_at "ev") (by walk_at "ev") (atI_nat (by rw [List.getElem?_map, hy]; rfl))) (by walk_at "ev") (by rfl))
    · have : limF c i = 2 * (if (decide (0 < (i : Int)) && decide (whoAt c (i - 1) = whoAt c i)) = true then 1 else 0) := by
        unfold limF firstB
        by_cases h1 : (i : Int) = 0
        · have h2 : ¬ (0 : Int) < i := by omega
          simp [h1]
        · have h2 : (0 : Int) < i := by omega
          by_cases h3 : whoAt c (i - 1) = whoAt c i
          · have h4 : ¬ i = 0 := by omega
            have h5 : 0 < i := by omega
            simp [h3, h4, h5]
          · simp [h3]
      rw [this]
  · unfold encI limsF givenD
    rw [List.filter_eq_self.mpr (fun _ _ => rfl), List.length_map, List.map_map]
    rfl
theorem limsF_len (c : List Wr) : (limsF c).length = c.length := by unfold limsF; rw [List.length_map, List.length_range]
theorem limsF_get {c : List Wr} {i : Nat} {k : Int} (h : (limsF c)[i]? = some k) : k = limF c i := by
  unfold limsF at h
  rw [List.getElem?_map] at h
  cases e : (List.range c.length)[i]? with
  | none => rw [e] at h; cases h
  | some j =>
    rw [e] at h; cases h
    have := (List.getElem?_eq_some_iff.mp e).2
    rw [List.getElem_range] at this
    rw [this]
def FIsOrder : List AV → (AV → Prop) → Prop := fun as Pr => ∃ (c : List Wr) (o : List Int), as = [.d (encC c), .d (encI o)] ∧ c.length ≤ 1000 ∧ OrderF c o ∧ Pr = fun a => a = .d (.bool true)
theorem ok_law_is_order {f : Addr} {fd : FuncData} (F : Fun K "_law_is_order" "_law_is_order" s_law_is_order f fd) (T : Txt K mg C) (d_law_limits : Df P w K mg base "_law_limits" 1 ps_law_limits (SpD K C FLimits)) (d_law_whole : Df P w K mg base "_law_whole" 1 ps_law_whole (SpD K C FWhole)) : FnOk P w K mg base CX0 2 f fd ps_law_is_order (SpD K C FIsOrder) := by
  refine okD F sc_law_is_order (fun as Pr ⟨_, _, e, _⟩ => by subst e; rfl) fun cdv A outer s H vs E hr => ⟨_,
(pss_cons (ps_if (PW.pt (pw_or (pt_not (pt_val (pe_callB (callIsi K) rfl T.n_isinstance (by decide +kernel) (pa_cons (pv 1) (pa_cons (peTy "list" rfl T.n_list (by decide +kernel)) pa_nil))))) (pw_or1 (pt_cmpR op_ne (pe_callB (callLen K) rfl T.n_len (by decide +kernel) (pa_cons (pv 1) pa_nil)) (pe_callB (callLen K) rfl T.n_len (by decide +kernel) (pa_cons (pv 0) pa_nil)) (nomark _))))) (pss_one (ps_ret pe_bl)) pss_nil)
    (pss_one (ps_ret (pe_callB (callAll K) rfl T.n_all (by decide +kernel) (pa_cons (pe_lc (own := [("_law_step", 2), ("_law_top", 3)]) (g := (gTup K 2 (gCons (gName 2) (gCons (gName 3) gNil)))) rfl sc_law_is_order.nd (piZip K rfl T.n_zip (pa_cons (pv 1) (pa_cons (pe_df d_law_limits (hr.mono (by decide)) rfl (pa_cons (pv 0) pa_nil)) pa_nil))) (blkOk_by (own := [("_law_step", 2), ("_law_top", 3)]) (N := nm_law_is_order) (sc := defScope s_law_is_order) (by decide +kernel)) (fun _ _ _ _ _ => (pgTup K rfl (pgs_cons (pg_name (i := 2) sc_law_is_order.nd rfl (Or.inl rfl)) (pgs_cons (pg_name (i := 3) sc_law_is_order.nd rfl (Or.inl rfl)) pgs_nil)))) (fun _ _ _ _ _ => pts_nil) (fun _ _ _ _ _ => (pe_and (pe_df d_law_whole (hr.mono (by decide)) rfl (pa_cons (pv 2) pa_nil)) (pe_one (pe_chain op_le op_le pe_int (pv 2) (pv 3)))))) pa_nil))))), ?_⟩
  rintro Hd as Pr Q σ ⟨c, o, rfl, hc, ho, rfl⟩ w q
  refine w.qwhen (b := false) (evt_or (a := false) (b := false) (evt_not (a := true) (evt_B (ev_isi (b := true) (by walk_at "ev") (by exact kt_list)))) fun _ => evt_is (evt_test (ev_neI (ev_lenL (by walk_at "evl")) (ev_lenL (by walk_at "evl")))) (by rw [List.length_map, List.length_map, ho.1]; simp)) (fun z => nomatch z) fun _ Hd H x w => ?_
  refine w.ret (a := .d (.bool true)) (ev_is (ev_all (bs := List.replicate o.length true) (evl_cons (ev_is (ev_lcZ (ds := o.map PyData.int) (es := (limsF c).map PyData.int) (fun _ => true) (fun _ => .bool true) (evl_cons (by walk_at "ev") (evl_cons (ev_callE (a := .d (encI (limsF c))) (by walk_at "evl") (by rfl) ⟨c, rfl, hc, rfl⟩) evl_nil)) (by rw [List.length_map, List.length_map, limsF_len, ho.1]) (by rw [List.length_map, ho.1]; omega) (by decide) (by decide) (fun i d e hd he => fun Hd H σ x r Q q => q Hd H (Xt.refl x)) (fun i d e hd he _ => ?_)) ?_) evl_nil)) ?_) fun v Hd' H' x hv => q v _ Hd' H' (by rfl) x hv
  · rw [List.getElem?_map] at hd he
    cases hx : o[i]? with
    | none => rw [hx] at hd; cases hd
    | some k =>
    rw [hx] at hd; cases hd
    cases hy : (limsF c)[i]? with
    | none => rw [hy] at he; cases he
    | some l =>
    rw [hy] at he; cases he
    have hk := ho.2 i k hx
    rw [← limsF_get hy] at hk
    refine ev_is (ev_andV (ev_callE (by walk_at "evl") (by rfl) ⟨k, rfl, rfl⟩) fun _ => ev_chain (by walk_at "ev") (by walk_at "ev") (by walk_at "ev")) ?_
    rw [decide_eq_true hk.1, decide_eq_true hk.2]; rfl
  · unfold givenD
    rw [List.filter_eq_self.mpr (fun _ _ => rfl), List.length_map, List.map_replicate]
    congr 2
    apply List.ext_getElem
    · simp
    · intro i h1 h2; simp
  · simp
end
end LW

set_option Elab.async false
set_option linter.all false
set_option maxRecDepth 100000
set_option maxHeartbeats 4000000
namespace LW
open PySem PySem.Spec PyProof.Rows L2 Evl ClX
local macro_rules | `(tactic| walk_at "ev") => `(tactic| first
  | with_reducible exact ev_int | with_reducible exact ev_bl | with_reducible exact ev_str | with_reducible exact ev_non
  | ((with_reducible apply ev_var) <;> rfl)
  | ((with_reducible apply ev_ixT) <;> first | walk_at "ev" | rfl)
  | ((with_reducible apply ev_ixL) <;> first | walk_at "ev" | rfl)
  | ((with_reducible apply ev_ixM) <;> first | walk_at "ev" | rfl)
  | ((with_reducible apply ev_I0) <;> walk_at "ev")
  | ((with_reducible apply ev_B0) <;> walk_at "ev")
  | ((with_reducible apply ev_U) <;> walk_at "ev")
  | ((with_reducible apply ev_tup) <;> first | walk_at "evd" | exact Nat.le_of_ble_eq_true rfl)
  | ((with_reducible apply ev_lst) <;> first | walk_at "evd" | exact Nat.le_of_ble_eq_true rfl)
  | ((with_reducible apply ev_eqI) <;> walk_at "ev")
  | ((with_reducible apply ev_eqS) <;> walk_at "ev")
  | ((with_reducible apply ev_neI) <;> walk_at "ev")
  | ((with_reducible apply ev_neS) <;> walk_at "ev")
  | ((with_reducible apply ev_notV) <;> walk_at "ev")
  | ((with_reducible apply ev_andV) <;> first | walk_at "ev" | (intro _; walk_at "ev"))
  | ((with_reducible apply ev_orV) <;> first | walk_at "ev" | (intro _; walk_at "ev"))
  | ((with_reducible apply ev_min) <;> walk_at "evl")
  | ((with_reducible apply ev_max) <;> walk_at "evl")
  | ((with_reducible apply ev_slT) <;> first | walk_at "ev" | walk_at "evo" | walk_at "cut")
  | ((with_reducible apply ev_slL) <;> first | walk_at "ev" | walk_at "evo")
  | ((with_reducible apply ev_catT) <;> first | walk_at "ev" | exact Nat.le_of_ble_eq_true rfl | (intro z; cases z))
  | ((with_reducible apply ev_abs) <;> walk_at "evl")
  | ((with_reducible apply ev_intI) <;> walk_at "evl")
  | ((with_reducible apply ev_intB) <;> walk_at "evl")
  | ((with_reducible apply ev_lenL) <;> walk_at "evl"))
local macro_rules | `(tactic| walk_at "evd") => `(tactic| first | with_reducible exact evd_nil | ((with_reducible apply evd_cons) <;> first | walk_at "ev" | walk_at "evd"))
local macro_rules | `(tactic| walk_at "evl") => `(tactic| first | with_reducible exact evl_nil | ((with_reducible apply evl_cons) <;> first | walk_at "ev" | walk_at "evl"))
local macro_rules | `(tactic| walk_at "evo") => `(tactic| first | with_reducible exact evo_none | ((with_reducible apply evo_some) <;> walk_at "ev"))
local macro_rules | `(tactic| walk_at "evt") => `(tactic| first
  | ((with_reducible apply evt_test) <;> walk_at "ev")
  | ((with_reducible apply evt_B) <;> walk_at "ev")
  | ((with_reducible apply evt_not) <;> walk_at "evt")
  | ((with_reducible apply evt_and) <;> first | walk_at "evt" | (intro _; walk_at "evt"))
  | ((with_reducible apply evt_or) <;> first | walk_at "evt" | (intro _; walk_at "evt")))
local macro_rules | `(tactic| walk_at "cut") => `(tactic| (intro z; simp [HT.sIx] at z))
local macro_rules | `(tactic| walk_at "le") => `(tactic| (refine ⟨rfl, ?_⟩; repeat (first | exact trivial | refine ⟨?_, ?_⟩ | exact Or.inr (Or.inl rfl) | exact Or.inl rfl | exact Or.inr (Or.inr rfl))))
local macro_rules | `(tactic| walk_at "ap") => `(tactic| repeat (first | exact trivial | refine ⟨?_, ?_⟩ | exact Or.inl rfl | exact Or.inr (ne_cell rfl) | exact Or.inr (ne_cell2 rfl (by assumption)) | exact Or.inr (ne_cell2 (by assumption) (by assumption)) | exact Or.inr (by assumption)))
def rsOf (wd : Int) (p : PolD × PolD) : RS := fun e => ⟨wd, (polOf p e).hold, (polOf p (1 - e)).every⟩
def q0Of (p : PolD × PolD) : Int × Int := (p.1.quick, p.2.quick)
def runsOf (c : List Wr) : Nat := ((List.range c.length).filter fun i => decide (limF c i = 0)).length
/-- the law, in plain words -/
structure LawMath (wd : Int) (p : PolD × PolD) (c : List Wr) : Prop where
  ord : ∀ o, OrderF c o → OrderOk c o
  ex : ∃ z1 z2 : Int × List Int, bestOrders (rsOf wd p) (q0Of p) c 1 = some z1 ∧ bestOrders (rsOf wd p) (q0Of p) c (-1) = some z2 ∧ OrderF c z1.2 ∧ OrderF c z2.2 ∧ z1.1 = outStalls (rsOf wd p) (q0Of p) c z1.2 ∧ z2.1 = outStalls (rsOf wd p) (q0Of p) c z2.2 ∧
    (∀ o, OrderF c o → z1.1 ≤ outStalls (rsOf wd p) (q0Of p) c o ∧ outStalls (rsOf wd p) (q0Of p) c o ≤ z2.1) ∧ z2.1 ≤ runsOf c
  play : ∀ o, OrderF c o → ((playStalls wd p c o).length : Int) = outStalls (rsOf wd p) (q0Of p) c o
section
variable {P : Program} {w : World} {K : PySem.W.Frag} {mg : Str → Option Value} {base : Heap} {C : Cl P w} {Hd0 H0 Hd H Hd1 H1 : Hp} {σ : L2.St} {ρ : En} {ta tb tv te te2 te3 : TE} {tl tk tr : TA} {D : Ends} {tz tu t1 t2 : TS} {i : Nat} {m : Addr} {a : AV}
theorem evc_call3 {F : List AV → (PyData → AV → Prop) → Prop} {E : XK} {A : AV → Prop} {R R2 : PyData → AV → Prop} {d2 : PyData} (hi : Nat.blt i ρ.n = true) (hcA : ∀ a, A a → a.cell = some m) (h3 : EvC K C i m te3 ρ A R2) (h2 : ∀ a, A a → Ev K C te2 (ρ.set i a) (.d d2)) (hF : ∀ d3 a', R2 d3 a' → a'.cell = some m ∧ (∃ Pr, F [a', .d d2, .d d3] Pr ∧ ∀ d a', Pr d a' → R d a') ∧ ApN (ρ.set i a') i m ρ.n) :
    EvC K C i m (tCall (SpC K C F) [] E (tCons (tVar i) (tCons te2 (tCons te3 tNil)))) ρ A R := fun Hd0 H0 Hd H σ a ha h0 w Q q => by
  obtain ⟨hv, hr⟩ := w.cellVR hi (En.set_get ρ i a) (hcA a ha)
  refine ⟨.ref m, hv, h2 a ha Hd H σ w.x.dh w.env _ fun v2 Hd1 H1 x1 r1 => ?_⟩
  have w1 : Wx K C Hd0 H0 Hd1 H1 σ (ρ.set i a) := ⟨w.x.trans x1, w.env.xt x1⟩
  refine h3 Hd0 H0 Hd1 H1 σ a ha h0 w1 _ fun v3 d3 a2 Hd2 H2 r2 e2 w2 p3 => ?_
  obtain ⟨hc, ⟨Pr, hf, hPR⟩, ap⟩ := hF d3 a2 r2
  obtain ⟨hv2, hr2⟩ := w2.cellVR hi (En.set_get ρ i a2) hc
  refine ⟨Hd2, a2, [.d d2, .d d3], m, _, hf, hc, w2.x.dh, .cons hr2 (.cons (dp_ex e2 _ _ r1) (.cons p3 .nil)), fun v d a' Hd3 H3 hp hc' x3 hr3 hd3 => ?_⟩
  have w3 := w2.mod (i := i) (a := a') h0 ap x3 ⟨_, hv2, hr3⟩
  rw [En.set_set] at w3
  exact q v d a' Hd3 H3 (hPR d a' hp) ((x1.d.trans e2).trans x3.d) w3 hd3
theorem Wx.qcpar {i1 i2 : Nat} {A : AV → Prop} {R : List PyData → AV → Prop} (w : Wx K C Hd0 H0 Hd H σ (ρ.set i a)) (h0 : H0 m = none) (ha : A a) (h : EvCs K C i m tl ρ A R) (hR : ∀ ds a', R ds a' → ∃ d1 d2, ds = [d1, d2])
    (k : ∀ d1 d2 a' σ' Hd' H', R [d1, d2] a' → Ex Hd Hd' → Wx K C Hd0 H0 Hd' H' σ' (((ρ.set i a').set i1 (.d d1)).set i2 (.d d2)) → tz D σ' H') : tSeq (tPar i1 i2 tl) tz D σ H :=
  h Hd0 H0 Hd H σ a ha h0 w _ fun vs ds a1 Hd1 H1 r1 e1 w1 p1 => by
    obtain ⟨d1, d2, rfl⟩ := hR ds a1 r1
    cases p1 with
    | cons q1 p1 =>
    cases p1 with
    | cons q2 p1 =>
    cases p1
    exact ⟨_, _, rfl, k d1 d2 a1 _ Hd1 H1 r1 e1 ⟨w1.x, (w1.env.set (a := .d d1) q1 i1).set (a := .d d2) q2 i2⟩⟩
theorem ev_ixP {Pr : AV → Prop} {k : Int} {d : PyData} (ha : EvP K C ta ρ Pr) (hb : Ev K C tb ρ (.d (.int k))) (h : ∀ a, Pr a → ∃ ds, a = .d (.tuple ds) ∧ atI ds k = some d) : Ev K C (tOp (rIxT K) ta tb) ρ (.d d) := fun Hd H σ x r Q q =>
  ha Hd H σ x r _ fun v a Hd1 H1 p x1 h1 => by
    obtain ⟨ds, rfl, hk⟩ := h a p
    refine hb Hd1 H1 σ x1.dh (r.xt x1) _ fun u Hd2 H2 x2 h2 => ?_
    obtain ⟨t, us, rfl, s1, s2⟩ := dp_tup_inv (dp_ex x2.d _ _ h1)
    obtain ⟨j, hj, hd⟩ : ∃ j, ixN ds.length k = some j ∧ ds[j]? = some d := by
      unfold atI at hk
      cases q' : ixN ds.length k with
      | none => rw [q'] at hk; cases hk
      | some j => rw [q'] at hk; exact ⟨j, rfl, hk⟩
    obtain ⟨z, hz, hr⟩ := dpall_get s2 hd
    exact ⟨t, us, k, z, rfl, dp_int_inv h2, ex_t x2.dh s1, by unfold atI; rw [dpall_len s2, hj]; exact hz, q z Hd2 H2 (x1.trans x2) hr⟩
theorem ev_stalls (T : Txt K mg C) {n : Int} (h : Ev K C ta ρ (.out n)) : Ev K C (tFld K ta "stalls") ρ (.d (.int n)) := fun Hd H σ x r Q q => h Hd H σ x r _ fun v Hd1 H1 x1 ⟨a, dx, fs, h1, h2, h3⟩ =>
  ⟨a, _, dx, fs, _, h1, x1.dh _ _ h2, T.clO, T.nO_stalls, h3, q _ Hd1 H1 x1 (Dp.int _)⟩
/-- for j in e, where e changes m -/
theorem Wx.cforL {j : Nat} {A : AV → Prop} {R0 : PyData → AV → Prop} (w : Wx K C Hd0 H0 Hd H σ (ρ.set i a)) (h0 : H0 m = none) (ha : A a) (h : EvC K C i m te ρ A R0) (hds : ∀ d a', R0 d a' → ∃ ds, d = .list ds)
    (k : ∀ ds a' Hd' H', R0 (.list ds) a' → Ex Hd Hd' → Wx K C Hd0 H0 Hd' H' σ (ρ.set i a') → ∃ (R : Nat → En → Prop) (ρ0 : En), En.le ρ0 (ρ.set i a') ∧ R 0 ρ0 ∧
      (∀ (i : Nat) d Hb' Hd' H' σ' ρ', ds[i]? = some d → R i ρ' → Ex Hb' Hd' → Wx K C Hd0 H0 Hd' H' σ' (ρ'.set j (.d d)) → tu { D with nx := LS K C Hd0 H0 Hb' (R (i + 1)), ct := LS K C Hd0 H0 Hb' (R (i + 1)), bk := D.nx } σ' H') ∧
      (∀ σ' Hd2 H' ρ', Ex Hd' Hd2 → Wx K C Hd0 H0 Hd2 H' σ' ρ' → R ds.length ρ' → D.nx σ' H')) : tFor (iList K te) (gName j) tu D σ H :=
  h Hd0 H0 Hd H σ a ha h0 w _ fun v d a1 Hd1 H1 r1 e1 w1 p1 => by
    obtain ⟨ds, rfl⟩ := hds d a1 r1
    obtain ⟨R, ρ0, hle, hR0, hs, hd⟩ := k ds a1 Hd1 H1 r1 e1 w1
    obtain ⟨t, xs, rfl, hs1, hs2⟩ := dp_lst_inv p1
    have hl := dpall_len hs2
    refine ⟨t, rfl, ⟨xs, ex_l w1.x.dh hs1⟩, for_it walk_list (fun i σ' H' => LS K C Hd0 H0 Hd1 (R i) σ' H') ⟨Hd1, ρ0, Ex.refl _, w1.le hle, hR0⟩ (fun i σ' H' hi ⟨Hd', ρ', e, w', _⟩ => ex_l (e.trans w'.x.dh) hs1) ?_ fun σ' H' ⟨Hd', ρ', e, w', r⟩ => hd σ' Hd' H' ρ' e w' (hl ▸ r)⟩
    rintro i x σ' H' H'' hi ⟨Hd', ρ', e, w', r⟩ ⟨rfl, e2⟩
    obtain ⟨d, hd1, hd2⟩ : ∃ d, ds[i]? = some d ∧ Dp K Hd' x d := by
      have hi' : i < ds.length := by rw [← hl]; exact hi
      obtain ⟨v, q1, q2⟩ := dpall_get hs2 (List.getElem?_eq_getElem hi')
      rw [e2] at q1
      cases q1
      exact ⟨_, List.getElem?_eq_getElem hi', dp_ex e _ _ q2⟩
    exact hs i d Hd1 Hd' _ _ ρ' hd1 r e ⟨w'.x, w'.env.set (a := .d d) hd2 j⟩
theorem encI_get {o : List Int} {i : Nat} {d : PyData} (h : (o.map PyData.int)[i]? = some d) : ∃ k, o[i]? = some k ∧ d = .int k := by
  rw [List.getElem?_map] at h
  cases e : o[i]? with
  | none => rw [e] at h; cases h
  | some x => rw [e] at h; cases h; exact ⟨x, rfl, rfl⟩
theorem firstB_zero (c : List Wr) : firstB c 0 = true := rfl
theorem limF_cases (c : List Wr) (i : Nat) : limF c i = 0 ∨ limF c i = 2 := by unfold limF; split <;> simp
theorem order_lims (c : List Wr) : OrderF c (limsF c) := ⟨limsF_len c, fun i k h => by
  rw [limsF_get h]
  rcases limF_cases c i with e | e <;> rw [e] <;> decide⟩
theorem order_zero (c : List Wr) (n : Nat) (h : n = c.length) : OrderF c (List.replicate n 0) := ⟨by rw [List.length_replicate, h], fun i k hk => by
  have := List.getElem?_eq_some_iff.mp hk
  have e : k = 0 := by rw [← this.2, List.getElem_replicate]
  rw [e]
  rcases limF_cases c i with e | e <;> rw [e] <;> decide⟩
def extW (wd : Int) : List Wr := (List.replicate 100 [Wr.mk 0 (wd + 1) .plain, Wr.mk 1 1 .plain]).flatten
theorem extW_len (wd : Int) : (extW wd).length = 200 := by unfold extW; rw [List.length_flatten]; simp
theorem extW_ok {wd : Int} (h : 0 < wd) (h1 : wd ≤ 10) : ∀ x ∈ extW wd, x.ok2 := by
  intro x hx
  unfold extW at hx
  obtain ⟨l, hl, hx⟩ := List.mem_flatten.mp hx
  rw [(List.mem_replicate.mp hl).2] at hx
  simp at hx
  rcases hx with rfl | rfl
  · exact ⟨.inl rfl, by show 1 ≤ wd + 1; omega, by show wd + 1 ≤ 100; omega⟩
  · exact ⟨.inr rfl, by decide, by decide⟩
theorem extW_enc (wd : Int) : (List.replicate (100 : Int).toNat [PyData.tuple [.int 0, .int (wd + 1), .str "plain"], .tuple [.int 1, .int 1, .str "plain"]]).flatten = (extW wd).map encW := by
  unfold extW
  rw [List.map_flatten, List.map_replicate]
  rfl
def FLaw : List AV → (AV → Prop) → Prop := fun as Pr => ∃ ns : List Int, as = [.d (encI ns)] ∧ ns.length ≤ 1000 ∧ Pr = fun a => a = .d (.bool true)
def baseL (ns : List Int) (wd : Int) (p : PolD × PolD) (c : List Wr) : En := ls [.d (encI ns), .unk, .unk, .d (.int wd), .d (.list [encRule p.1, encRule p.2]), .set ⟨wd, p.1, p.2⟩, .d (encC c), .unk, .unk, .unk, .unk, .unk, .unk, .unk, .unk]
def baseM (ns : List Int) (wd : Int) (p : PolD × PolD) (c : List Wr) (z1 z2 : Int × List Int) : En := ls [.d (encI ns), .unk, .unk, .d (.int wd), .d (.list [encRule p.1, encRule p.2]), .set ⟨wd, p.1, p.2⟩, .d (encC c), .d (encB z1), .d (encB z2), .unk, .unk, .unk, .unk, .unk, .unk]
theorem ok_law {f : Addr} {fd : FuncData} (F : Fun K "law" "law" s_law f fd) (T : Txt K mg C) (hM : ∀ wd p c, 0 < wd → wd ≤ 10 → PolOk p.1 → PolOk p.2 → ConvW c → LawMath wd p c)
    (d_law_bag : Df P w K mg base "_law_bag" 1 ps_law_bag (SpN K C FBag)) (d_law_take : Df P w K mg base "_law_take" 1 ps_law_take (SpC K C FTake)) (d_law_rules : Df P w K mg base "_law_rules" 2 ps_law_rules (SpC K C FRules)) (d_law_setting : Df P w K mg base "_law_setting" 7 ps_law_setting (SpD K C FLawSetting))
    (d_law_writes : Df P w K mg base "_law_writes" 3 ps_law_writes (SpC K C FWrites)) (d_least : Df P w K mg base "least" 6 ps_least (SpD K C (FLeast 1))) (d_most : Df P w K mg base "most" 6 ps_most (SpD K C (FLeast (-1)))) (d_law_limits : Df P w K mg base "_law_limits" 1 ps_law_limits (SpD K C FLimits))
    (d_law_is_order : Df P w K mg base "_law_is_order" 2 ps_law_is_order (SpD K C FIsOrder)) (d_law_play : Df P w K mg base "_law_play" 4 ps_law_play (SpD K C FPlay)) (d_outcome : Df P w K mg base "outcome" 6 ps_outcome (SpD K C FOutcome)) (d_law_steps : Df P w K mg base "_law_steps" 2 ps_law_steps (SpC K C FSteps)) :
    FnOk P w K mg base CX0 8 f fd ps_law (SpD K C FLaw) := by
  refine okD F sc_law (fun as Pr ⟨_, e, _⟩ => by subst e; rfl) fun cdv A outer s H vs E hr => ⟨_,
(pss_cons (ps_for PassesOwn.never rfl (pi_range1 rfl T.n_range (pa_cons (pe_callB (call_max2 rfl) rfl T.n_max (by decide +kernel) (pa_cons pe_int (pa_cons (pe_callB (call_min2 rfl) rfl T.n_min (by decide +kernel) (pa_cons pe_int (pa_cons (pe_callB (callLen K) rfl T.n_len (by decide +kernel) (pa_cons (pv 0) pa_nil)) pa_nil))) pa_nil))) pa_nil)) (pg_name (i := 1) sc_law.nd rfl (Or.inl rfl)) (pss_cons (ps_set (i := 2) sc_law.nd rfl (Or.inr rfl) (pe_df d_law_bag (hr.mono (by decide)) rfl (pa_cons (pv 0) (pa_cons (pv 1) pa_nil))))
    (pss_cons (ps_par (i := 3) (j := 4) rfl sc_law.nd rfl rfl (by decide) rfl rfl (pa_cons (pe_op op_add pe_int (pe_df d_law_take (hr.mono (by decide)) rfl (pa_cons (pv 2) (pa_cons pe_int pa_nil)))) (pa_cons (pe_df d_law_rules (hr.mono (by decide)) rfl (pa_cons (pv 2) pa_nil)) pa_nil)) (by rfl))
    (pss_cons (ps_set (i := 5) sc_law.nd rfl (Or.inl rfl) (pe_df d_law_setting (hr.mono (by decide)) rfl (pa_cons (pv 3) (pa_cons (pv 4) pa_nil))))
    (pss_cons (ps_set (i := 6) sc_law.nd rfl (Or.inr rfl) (pe_df d_law_writes (hr.mono (by decide)) rfl (pa_cons (pv 2) (pa_cons (pv 3) (pa_cons (pe_ix (ixL K) (pe_lst (pa_cons (pe_df d_law_take (hr.mono (by decide)) rfl (pa_cons (pv 2) (pa_cons pe_int pa_nil))) (pa_cons (pe_df d_law_take (hr.mono (by decide)) rfl (pa_cons (pv 2) (pa_cons pe_int pa_nil))) pa_nil))) (pe_df d_law_take (hr.mono (by decide)) rfl (pa_cons (pv 2) (pa_cons pe_int pa_nil))) (fun _ _ => rfl)) pa_nil)))))
    (Evl.pss_cut (ps_if (pt_cmpR op_eq (pe_df d_law_take (hr.mono (by decide)) rfl (pa_cons (pv 2) (pa_cons pe_int pa_nil))) pe_int (nomark _)) (pss_one (ps_set (i := 6) sc_law.nd rfl (Or.inr rfl) (pe_slice (slL K) (pe_op (opCatL K) (pv 6) (pe_op op_rep (pe_lst (pa_cons (pe_tup (pa_cons pe_int (pa_cons (pe_op op_add (pv 3) pe_int) (pa_cons pe_str pa_nil)))) (pa_cons (pe_tup (pa_cons pe_int (pa_cons pe_int (pa_cons pe_str pa_nil)))) pa_nil))) pe_int)) po_none (po_some pe_int)))) pss_nil)
    (pss_cons (ps_par (i := 7) (j := 8) rfl sc_law.nd rfl rfl (by decide) rfl rfl (pa_cons (pe_df d_least (hr.mono (by decide)) rfl (pa_cons (pv 5) (pa_cons (pv 6) pa_nil))) (pa_cons (pe_df d_most (hr.mono (by decide)) rfl (pa_cons (pv 5) (pa_cons (pv 6) pa_nil))) pa_nil)) (by rfl))
    (pss_cons (ps_set (i := 9) sc_law.nd rfl (Or.inl rfl) (pe_callB (callLen K) rfl T.n_len (by decide +kernel) (pa_cons (pe_lc (own := [("_law_step", 13)]) (g := (gName 13)) rfl sc_law.nd (piList K (pe_df d_law_limits (hr.mono (by decide)) rfl (pa_cons (pv 6) pa_nil))) (blkOk_by (own := [("_law_step", 13)]) (N := nm_law) (sc := defScope s_law) (by decide +kernel)) (fun _ _ _ _ _ => (pg_name (i := 13) sc_law.nd rfl (Or.inl rfl))) (fun _ _ _ _ _ => (pts_one (pt_cmpR op_eq (pv 13) pe_int (nomark _)))) (fun _ _ _ _ _ => (pv 13))) pa_nil)))
    (pss_cons (ps_if (pt_not (pt_chain3 op_le op_le op_le pe_int (pe_ix (ixT K) (pv 7) pe_int (fun _ _ => rfl)) (pe_ix (ixT K) (pv 8) pe_int (fun _ _ => rfl)) (pv 9))) (pss_one (ps_ret pe_bl)) pss_nil)
    (pss_cons (ps_for PassesOwn.never rfl (piList K (pe_lst (pa_cons (pv 7) (pa_cons (pv 8) pa_nil)))) (pg_name (i := 10) sc_law.nd rfl (Or.inl rfl)) (pss_cons (ps_if (PW.pt (pw_or (pt_not (pt_val (pe_df d_law_is_order (hr.mono (by decide)) rfl (pa_cons (pv 6) (pa_cons (pe_ix (ixT K) (pv 10) pe_int (fun _ _ => rfl)) pa_nil))))) (pw_or1 (pt_cmpR op_ne (pe_ix (ixT K) (pe_df d_law_play (hr.mono (by decide)) rfl (pa_cons (pv 3) (pa_cons (pv 4) (pa_cons (pv 6) (pa_cons (pe_ix (ixT K) (pv 10) pe_int (fun _ _ => rfl)) pa_nil))))) pe_int (fun _ _ => rfl)) (pe_ix (ixT K) (pv 10) pe_int (fun _ _ => rfl)) (nomark _))))) (pss_one (ps_ret pe_bl)) pss_nil)
    (pss_one (ps_if (pt_cmpR op_ne (peFld K (pe_df d_outcome (hr.mono (by decide)) rfl (pa_cons (pv 5) (pa_cons (pv 6) (pa_cons (pe_ix (ixT K) (pv 10) pe_int (fun _ _ => rfl)) pa_nil)))) rfl) (pe_ix (ixT K) (pv 10) pe_int (fun _ _ => rfl)) (nomark _)) (pss_one (ps_ret pe_bl)) pss_nil))))
    (pss_one (ps_for PassesOwn.never rfl (piList K (pe_op (opCatL K) (pe_lc (own := [("_law_k", 14)]) (g := (gName 14)) rfl sc_law.nd (pi_range1 rfl T.n_range (pa_cons pe_int pa_nil)) (blkOk_by (own := [("_law_k", 14)]) (N := nm_law) (sc := defScope s_law) (by decide +kernel)) (fun _ _ _ _ _ => (pg_name (i := 14) sc_law.nd rfl (Or.inl rfl))) (fun _ _ _ _ _ => pts_nil) (fun _ _ _ _ _ => (pe_df d_law_steps (hr.mono (by decide)) rfl (pa_cons (pv 2) (pa_cons (pv 6) pa_nil))))) (pe_lst (pa_cons (pe_df d_law_limits (hr.mono (by decide)) rfl (pa_cons (pv 6) pa_nil)) (pa_cons (pe_op op_rep (pe_lst (pa_cons pe_int pa_nil)) (pe_callB (callLen K) rfl T.n_len (by decide +kernel) (pa_cons (pv 6) pa_nil))) pa_nil))))) (pg_name (i := 11) sc_law.nd rfl (Or.inl rfl)) (pss_cons (ps_set (i := 12) sc_law.nd rfl (Or.inl rfl) (pe_df d_law_play (hr.mono (by decide)) rfl (pa_cons (pv 3) (pa_cons (pv 4) (pa_cons (pv 6) (pa_cons (pv 11) pa_nil))))))
    (pss_one (ps_if (PW.pt (pw_or (pt_not (pt_chain op_le op_le (pe_ix (ixT K) (pv 7) pe_int (fun _ _ => rfl)) (pe_ix (ixT K) (pv 12) pe_int (fun _ _ => rfl)) (pe_ix (ixT K) (pv 8) pe_int (fun _ _ => rfl)))) (pw_or1 (pt_cmpR op_ne (pe_callB (callLen K) rfl T.n_len (by decide +kernel) (pa_cons (pe_ix (ixT K) (pv 12) pe_int (fun _ _ => rfl)) pa_nil)) (pe_ix (ixT K) (pv 12) pe_int (fun _ _ => rfl)) (nomark _))))) (pss_one (ps_ret pe_bl)) pss_nil)))))))))))))))
    (pss_one (ps_ret pe_bl))), ?_⟩
  rintro Hd as Pr Q σ ⟨ns, rfl, hns, rfl⟩ w q
  refine w.qforRR (n := _) (evl_cons (ev_max (evl_cons (by walk_at "ev") (evl_cons (ev_min (evl_cons (by walk_at "ev") (evl_cons (ev_lenL (by walk_at "evl")) evl_nil))) evl_nil))) evl_nil) (by split <;> split <;> omega)
    (fun j ρ' => ρ' = ls [.d (encI ns), .unk, .unk, .unk, .unk, .unk, .unk, .unk, .unk, .unk, .unk, .unk, .unk, .unk, .unk]) _ (by walk_at "le") rfl (fun j Hb Hd H σ ρ' hj hR e w => ?_) fun σ Hd H ρ' e w hR => ?_
  · subst hR
    refine w.qnasg (evn_call (by walk_at "evl") (by rfl) ⟨ns, j, rfl, rfl⟩) fun a σ Hd1 H1 ha hfr x1 w => ?_
    obtain ⟨m, hbag⟩ := ha
    obtain ⟨hm, hm0⟩ := hfr m (bag_cell hbag)
    have w : Wx K C _ _ Hd1 H1 σ ((ls [.d (encI ns), .unk, .unk, .unk, .unk, .unk, .unk, .unk, .unk, .unk, .unk, .unk, .unk, .unk, .unk]).set 2 a) := w.le (by walk_at "le")
    refine w.qcpar hm0 hbag (ebs_cons (n1 := 1) (Pd := IntP fun x => 1 ≤ x ∧ x ≤ 9) (eb_I0 (X := fun x => x = 1) (eb_ev (d := .int 1) (fun a => by walk_at "ev") ⟨_, rfl, rfl⟩) (eb_tk (many := 9) 1 rfl (fun a => by walk_at "ev") (by decide) (by decide) (by decide) (fun a => by walk_at "ap") (by decide)) fun x y h1 h2 => by omega)
      (ebs_cons (n1 := 11) (Pd := fun d => ∃ ps : List PolD, d = .list (ps.map encRule) ∧ ps.length = 2 ∧ ∀ p ∈ ps, PolOk p) (evc_call (as := []) rfl fun a ha => ⟨bag_cell ha, evl_cons (ev_var rfl (En.set_get _ 2 a) (cell_known (bag_cell ha))) evl_nil, ⟨m, a, 1, rfl, ha, by decide, ?_⟩, by walk_at "ap"⟩) ebs_nil)) (fun ds a' ⟨⟨d, r, h1, _, d2, r2, h2, _, h3⟩, _⟩ => ⟨d, d2, by rw [h1, h2, h3]⟩) fun d1 d2 a σ Hd2 H2 hr2 e2 w => ?_
    · funext d a'
      apply propext
      constructor
      · rintro ⟨⟨ps, h1, h2, h3⟩, h4⟩; exact ⟨ps, h1, h2, h3, h4⟩
      · rintro ⟨ps, h1, h2, h3, h4⟩; exact ⟨⟨ps, h1, h2, h3⟩, h4⟩
    obtain ⟨⟨d, r, h1, ⟨wd, h2, hw1, hw9⟩, d3, r3, h3, ⟨ps, h4, hpl, hpo⟩, h5⟩, hbag⟩ := hr2
    cases h1; cases h3; subst h2 h4
    obtain ⟨p1, p2, rfl⟩ : ∃ p1 p2, ps = [p1, p2] := by
      match ps, hpl with
      | [p1, p2], _ => exact ⟨p1, p2, rfl⟩
    have hp1 := hpo p1 (by simp)
    have hp2 := hpo p2 (by simp)
    refine w.qasg (ev_callE (a := .set ⟨wd, p1, p2⟩) (by walk_at "evl") (by rfl) ⟨wd, (p1, p2), rfl, hw1, by omega, hp1, hp2, rfl⟩) fun σ Hd3 H3 x3 w => ?_
    have w : Wx K C _ _ Hd3 H3 σ ((ls [.d (encI ns), .unk, .unk, .d (.int wd), .d (.list [encRule p1, encRule p2]), .set ⟨wd, p1, p2⟩, .unk, .unk, .unk, .unk, .unk, .unk, .unk, .unk, .unk]).set 2 a) := w.le (by walk_at "le")
    refine w.qcasg hm0 hbag (evc_call3 (A := BagAt m 11) (R := fun d a' => ∃ c : List Wr, d = encC c ∧ (∀ x ∈ c, x.ok2) ∧ c.length ≤ 41 ∧ BagAt m 500 a') (R2 := fun d a' => IntP (fun x => 0 ≤ x ∧ x ≤ 40) d ∧ BagAt m 14 a') rfl (fun a h => bag_cell h) (eb_choice (n1 := 13) (k := 2) (kk := 2)
      (ebk_cons (n1 := 12) (eb_mono (eb_tk (many := 12) 12 rfl (fun a => by walk_at "ev") (by decide) (by decide) (by decide) (fun a => by walk_at "ap") (by decide)) fun d ⟨x, e, h1, h2⟩ => ⟨x, e, h1, by omega⟩) (ebk_cons (eb_mono (eb_tk (many := 41) 13 rfl (fun a => by walk_at "ev") (by decide) (by decide) (by decide) (fun a => by walk_at "ap") (by decide)) fun d ⟨x, e, h1, h2⟩ => ⟨x, e, h1, by omega⟩) ebk_nil)) (by decide) (eb_tk (many := 2) 14 rfl (fun a => by walk_at "ev") (by decide) (by decide) (by decide) (fun a => by walk_at "ap") (by decide)) rfl)
      (fun a _ => by walk_at "ev") fun d3 a' hr3 => ?_) fun d a4 σ Hd4 H4 hr4 e4 w => ?_
    · obtain ⟨⟨many, rfl, hm1, hm2⟩, hb⟩ := hr3
      have hcc := bag_cell hb
      exact ⟨hcc, ⟨_, ⟨m, a', wd, many, 14, rfl, hb, by omega, by omega, hm1, by omega, by decide, rfl⟩, fun d a' ⟨c, h1, h2, h3, h4⟩ => ⟨c, h1, h2, by omega, bag_mono h4 (by decide)⟩⟩, by walk_at "ap"⟩
    obtain ⟨c0, rfl, hc0, hcl0, hbag⟩ := hr4
    have w : Wx K C _ _ Hd4 H4 σ ((baseL ns wd (p1, p2) c0).set 2 a4) := w.le (by walk_at "le")
    refine w.qcutL (fun ρ' => ∃ a c, BagAt m 501 a ∧ ConvW c ∧ ρ' = (baseL ns wd (p1, p2) c).set 2 a) (w.cif_ hm0 hbag (eb_eq0 (eb_tk (many := 6) 501 rfl (fun a => by walk_at "ev") (by decide) (by decide) (by decide) (fun a => by walk_at "ap") (by decide))) (fun d a' h => h.1) (fun a2 Hd5 H5 hr5 e5 w => ?_) (fun a2 Hd5 H5 hr5 e5 w => ?_)) fun σ Hd5 H5 ρ5 e5 hR5 w => ?_
    · refine w.asg (a := .d (encC ((c0 ++ extW wd).take 200))) (ev_is (ev_slL (ev_catL (by walk_at "ev") (ev_is (ev_repL (k := 100) (evd_cons (by walk_at "ev") (evd_cons (by walk_at "ev") evd_nil)) (by walk_at "ev") (Nat.le_of_ble_eq_true rfl) (by decide) (by decide) (Nat.le_of_ble_eq_true rfl)) (congrArg (fun z => AV.d (.list z)) (extW_enc wd))) (by rw [List.length_map, List.length_map, extW_len]; omega)) (by walk_at "evo") (by walk_at "evo")) ?_) fun σ Hd6 H6 x6 w => ?_
      · rw [← List.map_append]
        unfold cutD encC
        have hl : ((c0 ++ extW wd).map encW).length = c0.length + 200 := by rw [List.length_map, List.length_append, extW_len]
        rw [sIx_of (i := 200) (by decide) (by rw [hl]; omega)]
        show AV.d (.list (List.take ((200 : Int).toNat - 0) (List.drop 0 _))) = _
        rw [List.drop_zero, List.map_take]; rfl
      · refine w.ls (e5.trans x6.d) (ρ' := (baseL ns wd (p1, p2) ((c0 ++ extW wd).take 200)).set 2 a2) (by walk_at "le") ⟨a2, _, hr5.2, ⟨fun x hx => ?_, by rw [List.length_take]; omega⟩, rfl⟩
        rcases List.mem_append.mp (List.take_subset _ _ hx) with z | z
        · exact hc0 x z
        · exact extW_ok (by omega) (by omega) x z
    · exact w.ls e5 (ρ' := (baseL ns wd (p1, p2) c0).set 2 a2) (by walk_at "le") ⟨a2, c0, hr5.2, ⟨hc0, by omega⟩, rfl⟩
    obtain ⟨a, c, hbag, hcw, rfl⟩ := hR5
    have hcc := bag_cell hbag
    obtain ⟨hord, ⟨z1, z2, hb1, hb2, ho1, ho2, he1, he2, hall, hruns⟩, hplay⟩ := hM wd (p1, p2) c (by omega) (by omega) hp1 hp2 hcw
    have hco : ConvOk c := ⟨fun x hx => Wr.ok2_ok (hcw.1 x hx), hcw.2⟩
    have hlen := hcw.2
    have hset : SetOk2 ⟨wd, p1, p2⟩ := ⟨by show 0 < wd; omega, by show wd ≤ 10; omega, hp1.1, hp1.2.1, hp2.1, hp2.2.1, hp1.2.2.1, hp1.2.2.2, hp2.2.2.1, hp2.2.2.2⟩
    refine w.qpar (a := .d (encB z1)) (b := .d (encB z2)) (evl_cons (ev_callE (by walk_at "evl") (by rfl) ⟨⟨wd, p1, p2⟩, c, rfl, hset, hco, ?_⟩) (evl_cons (ev_callE (by walk_at "evl") (by rfl) ⟨⟨wd, p1, p2⟩, c, rfl, hset, hco, ?_⟩) evl_nil)) fun σ Hd6 H6 x6 w => ?_
    · show (fun b => b = AV.d (encB z1)) = fun a => a = .d (encO (bestOrders (rsOf wd (p1, p2)) (q0Of (p1, p2)) c 1))
      rw [hb1]; rfl
    · show (fun b => b = AV.d (encB z2)) = fun a => a = .d (encO (bestOrders (rsOf wd (p1, p2)) (q0Of (p1, p2)) c (-1)))
      rw [hb2]; rfl
    have w : Wx K C _ _ Hd6 H6 σ ((baseM ns wd (p1, p2) c z1 z2).set 2 a) := w.le (by walk_at "le")
    refine w.qasg (a := .d (.int (runsOf c))) (ev_is (ev_lenL (evl_cons (ev_lcL (ds := (limsF c).map PyData.int) (fun i => decide (limF c i = 0)) (fun i => .int (limF c i)) (ev_callE (a := .d (encI (limsF c))) (by walk_at "evl") (by rfl) ⟨c, rfl, by omega, rfl⟩) (by rw [List.length_map, limsF_len]; omega) (by decide) (fun i d hd => ?_) (fun i d hd _ => ?_)) evl_nil)) ?_) fun σ Hd7 H7 x7 w => ?_
    · obtain ⟨k, hk, rfl⟩ := encI_get hd
      rw [← limsF_get hk]
      walk_at "evt"
    · obtain ⟨k, hk, rfl⟩ := encI_get hd
      rw [← limsF_get hk]
      walk_at "ev"
    · unfold givenD runsOf
      rw [List.length_map, List.length_map, limsF_len]
    have hz12 := (hall z1.2 ho1).2
    rw [← he1] at hz12
    have hz1 : 0 ≤ z1.1 := by rw [he1]; unfold outStalls; omega
    have eAll := (((((e.trans x1.d).trans e2).trans x3.d).trans e4).trans e5).trans (x6.d.trans x7.d)
    refine w.qwhen (b := false) (evt_is (evt_not (evt_test (ev_chain3 (i := 0) (j := z1.1) (k := z2.1) (l := runsOf c) (by walk_at "ev") (ev_ixT (ds := [.int z1.1, encI z1.2]) (by walk_at "ev") (by walk_at "ev") (by rfl)) (ev_ixT (ds := [.int z2.1, encI z2.2]) (by walk_at "ev") (by walk_at "ev") (by rfl)) (by walk_at "ev")))) (by rw [decide_eq_true hz1, decide_eq_true hz12, decide_eq_true hruns]; rfl)) (fun z => nomatch z) fun _ Hd8 H8 x8 w => ?_
    have w : Wx K C _ _ Hd8 H8 σ ((baseM ns wd (p1, p2) c z1 z2).set 2 a) := w.le (by walk_at "le")
    refine w.qforL (ds := [encB z1, encB z2]) (by walk_at "ev") (fun _ ρ' => ρ' = (baseM ns wd (p1, p2) c z1 z2).set 2 a) _ (by walk_at "le") rfl (fun i d Hb9 Hd9 H9 σ9 ρ9 hi hR9 e9 w => ?_) fun σ9 Hd9 H9 ρ9 e9 w hR9 => ?_
    · subst hR9
      obtain ⟨z, rfl, hoz, hez⟩ : ∃ z : Int × List Int, d = encB z ∧ OrderF c z.2 ∧ z.1 = outStalls (rsOf wd (p1, p2)) (q0Of (p1, p2)) c z.2 := by
        match i, hi with
        | 0, hi => cases hi; exact ⟨z1, rfl, ho1, he1⟩
        | 1, hi => cases hi; exact ⟨z2, rfl, ho2, he2⟩
        | (k + 2), hi => simp at hi
      refine w.qwhen (b := false) (evt_or (a := false) (b := false) (evt_not (a := true) (evt_B (ev_callE (evl_cons (by walk_at "ev") (evl_cons (ev_ixT (d := encI z.2) (ds := [.int z.1, encI z.2]) (by walk_at "ev") (by walk_at "ev") (by rfl)) evl_nil)) (by rfl) ⟨c, z.2, rfl, by omega, hoz, rfl⟩))) fun _ => evt_is (evt_test (ev_neI (i := z.1) (j := z.1) (ev_ixP (evp_callE (evl_cons (by walk_at "ev") (evl_cons (by walk_at "ev") (evl_cons (by walk_at "ev") (evl_cons (ev_ixT (d := encI z.2) (ds := [.int z.1, encI z.2]) (by walk_at "ev") (by walk_at "ev") (by rfl)) evl_nil)))) (by rfl) ⟨wd, (p1, p2), c, z.2, rfl, by omega, by omega, hcw, hoz, rfl⟩) (by walk_at "ev") fun a ⟨sg, br, ha⟩ => ⟨_, ha, ?_⟩) (ev_ixT (ds := [.int z.1, encI z.2]) (by walk_at "ev") (by walk_at "ev") (by rfl)))) (by simp)) (fun z => nomatch z) fun _ Hd10 H10 x10 w => ?_
      · show some (PyData.int ((playStalls wd (p1, p2) c z.2).length : Nat)) = some (.int z.1)
        rw [hplay z.2 hoz, hez]
      refine w.if_ (b := false) (evt_is (evt_test (ev_neI (i := z.1) (j := z.1) (ev_stalls T (ev_callE (evl_cons (by walk_at "ev") (evl_cons (by walk_at "ev") (evl_cons (ev_ixT (d := encI z.2) (ds := [.int z.1, encI z.2]) (by walk_at "ev") (by walk_at "ev") (by rfl)) evl_nil))) (by rfl) ⟨⟨wd, p1, p2⟩, c, z.2, rfl, hset.ok, hco, hord z.2 hoz, ?_⟩)) (ev_ixT (ds := [.int z.1, encI z.2]) (by walk_at "ev") (by walk_at "ev") (by rfl)))) (by simp)) (fun z => nomatch z) fun _ Hd11 H11 x11 w => ?_
      · rw [hez]; rfl
      exact w.ls ((e9.trans x10.d).trans x11.d) (ρ' := (baseM ns wd (p1, p2) c z1 z2).set 2 a) (by walk_at "le") rfl
    · subst hR9
      have ezero : PyData.list (List.replicate ((c.map encW).length : Int).toNat [PyData.int 0]).flatten = encI (List.replicate c.length 0) := by
        have : ((c.map encW).length : Int).toNat = c.length := by rw [List.length_map]; omega
        rw [this]
        unfold encI
        rw [List.map_replicate]
        congr 1
        induction c.length with
        | zero => rfl
        | succ n ih => rw [List.replicate_succ, List.flatten_cons, ih, List.replicate_succ]; rfl
      have hstepS : ∀ k, k < 6 → EvC K C 2 m (tCall (SpC K C FSteps) [] E0 (tCons (tVar 2) (tCons (tVar 6) tNil))) ((baseM ns wd (p1, p2) c z1 z2).set 14 (.d (.int (k : Nat)))) (fun a => BagAt m (501 + 400 * (k : Nat)) a) (fun d a' => (∃ o, d = encI o ∧ OrderF c o) ∧ BagAt m (501 + 400 * ((k + 1 : Nat) : Int)) a') := fun k hk => by
        refine evc_mono (R := fun d a' => ∃ o, d = encI o ∧ OrderF c o ∧ BagAt m (501 + 400 * (k : Nat) + 400) a') (evc_call (as := [.d (encC c)]) rfl fun a ha => ?_) fun d a' h => ?_
        · exact ⟨bag_cell ha, evl_cons (ev_var rfl (En.set_get _ 2 a) (cell_known (bag_cell ha))) (by walk_at "evl"), ⟨m, a, c, 501 + 400 * (k : Nat), rfl, ha, hlen, by omega, rfl⟩, by walk_at "ap"⟩
        · obtain ⟨o, h1, h2, h3⟩ := h
          exact ⟨⟨o, h1, h2⟩, bag_mono h3 (by omega)⟩
      refine w.cforL (R0 := fun d a'  => ∃ ds, d = .list ds ∧ ∀ d ∈ ds, ∃ o, d = encI o ∧ OrderF c o) hm0 hbag (evc_op (R := fun d a' => ∃ ds, d = .list ds ∧ ds.length = 6 ∧ (∀ d ∈ ds, ∃ o, d = encI o ∧ OrderF c o) ∧ BagAt m (501 + 400 * (6 : Nat)) a') (R2 := fun d1 d2 a' => (∃ ds, d1 = .list ds ∧ ds.length = 6 ∧ ∀ d ∈ ds, ∃ o, d = encI o ∧ OrderF c o) ∧ d2 = .list [encI (limsF c), encI (List.replicate c.length 0)])
        (evc_pre (evc_lcR (n := 6) (fun k a => BagAt m (501 + 400 * (k : Nat)) a) (fun d => ∃ o, d = encI o ∧ OrderF c o) rfl (by decide) (by decide) (by decide) (fun v hv => by simp at hv; subst hv; rfl) (fun k a h => bag_cell h) hstepS) fun a h => bag_mono h (by decide))
        (fun d1 Hd0 H0 Hd H σ a ha h0 w Q q => ?_) ?_) (fun d a' ⟨ds, h, _⟩ => ⟨ds, h⟩) fun ds a' Hd12 H12 hr12 e12 w => ?_
      · obtain ⟨ds, h1, h2, h3, h4⟩ := ha
        refine evc_ev (A := BagAt m (501 + 400 * (6 : Nat))) (i := 2) (m := m) (ρ := baseM ns wd (p1, p2) c z1 z2) (d := .list [encI (limsF c), encI (List.replicate c.length 0)]) (fun a _ => ?_) Hd0 H0 Hd H σ a h4 h0 w Q fun v d a' Hd' H' r => q v d a' Hd' H' ⟨⟨ds, h1, h2, h3⟩, r.1⟩
        refine ev_lst (evd_cons ?_ (evd_cons ?_ evd_nil)) (Nat.le_of_ble_eq_true rfl)
        · exact ev_callE (a := .d (encI (limsF c))) (by walk_at "evl") (by rfl) ⟨c, rfl, by omega, rfl⟩
        · exact ev_is (ev_repL (k := ((c.map encW).length : Nat)) (evd_cons (by walk_at "ev") evd_nil) (ev_lenL (by walk_at "evl")) (Nat.le_of_ble_eq_true rfl) (by rw [List.length_map]; omega) (by omega) (by simp; omega)) (congrArg AV.d ezero)
      · rintro d1 d2 a ⟨⟨ds, rfl, h2, h3⟩, rfl⟩
        refine ⟨.list (ds ++ [encI (limsF c), encI (List.replicate c.length 0)]), ⟨_, rfl, fun d hd => ?_⟩, fun Hd H x y ex hx hy Q q => ?_⟩
        · rcases List.mem_append.mp hd with z | z
          · exact h3 d z
          · simp at z
            rcases z with rfl | rfl
            · exact ⟨_, rfl, order_lims c⟩
            · exact ⟨_, rfl, order_zero c _ rfl⟩
        · obtain ⟨p, vs, rfl, hs, hp⟩ := dp_lst_inv hx
          obtain ⟨p2, us, rfl, hs2, hp2⟩ := dp_lst_inv hy
          exact ⟨p, p2, vs, us, rfl, rfl, ex_l ex hs, ex_l ex hs2, by rw [dpall_len hp, dpall_len hp2, h2]; exact sz_of (Nat.le_of_ble_eq_true rfl), fun l hl => q _ _ _ (Xt.new ex hl) (Dp.lst (SqL.of upd_same) (dps_ex (Ex.new (free_of ex hl)) _ _ (dpall_app hp hp2)))⟩
      · obtain ⟨ds', hds', hord'⟩ := hr12
        cases hds'
        refine ⟨fun _ ρ' => ρ' = baseM ns wd (p1, p2) c z1 z2, baseM ns wd (p1, p2) c z1 z2, by walk_at "le", rfl, fun i d Hb13 Hd13 H13 σ13 ρ13 hi hR13 e13 w => ?_, fun σ13 Hd13 H13 ρ13 e13 w hR13 => ?_⟩
        · subst hR13
          obtain ⟨o, rfl, hoo⟩ := hord' d (List.mem_of_getElem? hi)
          have hpl := hplay o hoo
          have hbd := hall o hoo
          rw [← hpl] at hbd
          refine w.qpasg (evp_callE (by walk_at "evl") (by rfl) ⟨wd, (p1, p2), c, o, rfl, by omega, by omega, hcw, hoo, rfl⟩) fun b σ Hd14 H14 hb x14 w => ?_
          obtain ⟨sg, br, rfl⟩ := hb
          generalize playStalls wd (p1, p2) c o = ST at w hbd
          refine w.if_ (b := false) (evt_or (a := false) (b := false) (evt_is (evt_not (evt_test (ev_chain (i := z1.1) (j := (ST.length : Nat)) (k := z2.1) (ev_ixT (ds := [.int z1.1, encI z1.2]) (by walk_at "ev") (by walk_at "ev") (by rfl)) (ev_ixT (ds := [_, _, _, _]) (by walk_at "ev") (by walk_at "ev") (by rfl)) (ev_ixT (ds := [.int z2.1, encI z2.2]) (by walk_at "ev") (by walk_at "ev") (by rfl))))) (by rw [decide_eq_true hbd.1, decide_eq_true hbd.2]; rfl)) fun _ => evt_is (evt_test (ev_neI (ev_lenL (ds := ST.map PyData.int) (evl_cons (ev_ixT (ds := [_, _, _, _]) (by walk_at "ev") (by walk_at "ev") (by rfl)) evl_nil)) (ev_ixT (d := .int (ST.length : Nat)) (ds := [_, _, _, _]) (by walk_at "ev") (by walk_at "ev") (by rfl)))) (by rw [List.length_map]; simp)) (fun z => nomatch z) fun _ Hd15 H15 x15 w => ?_
          exact w.ls ((e13.trans x14.d).trans x15.d) (ρ' := baseM ns wd (p1, p2) c z1 z2) (by walk_at "le") rfl
        · subst hR13
          exact w.ls (((eAll.trans x8.d).trans e9).trans (e12.trans e13)) (ρ' := ls [.d (encI ns), .unk, .unk, .unk, .unk, .unk, .unk, .unk, .unk, .unk, .unk, .unk, .unk, .unk, .unk]) (by walk_at "le") rfl
  · exact w.ret (by walk_at "ev") fun v Hd' H' x hv => q v _ Hd' H' (by rfl) x hv
end
end LW

set_option Elab.async false
set_option linter.all false
set_option maxRecDepth 100000
set_option maxHeartbeats 4000000
namespace LW
theorem law_math {wd : Int} {p : PolD × PolD} {c : List Wr} (hw : 0 < wd) (hw1 : wd ≤ 10) (hp1 : PolOk p.1) (hp2 : PolOk p.2) (hc : ConvW c) : LawMath wd p c := by
  have hz : ∃ o, OrderF c o := ⟨_, order_lims c⟩
  obtain ⟨z1, e1, o1, s1, m1⟩ := best_opt (rs := rsOf wd p) (q0 := q0Of p) (c := c) 1 hz
  obtain ⟨z2, e2, o2, s2, m2⟩ := best_opt (rs := rsOf wd p) (q0 := q0Of p) (c := c) (-1) hz
  refine ⟨fun o ho => order_ok ho, ⟨z1, z2, e1, e2, o1, o2, s1, s2, fun o ho => ⟨by have := m1 o ho; omega, by have := m2 o ho; omega⟩, by rw [s2]; exact stalls_runs _ _ _ _⟩, fun o ho => ?_⟩
  have S := spI c
  have h := (play_spec hw hw1 hp1 hp2 hc.1 ho S (splitTurns c).length (Nat.le_refl _)).1
  have hst : startOf (splitTurns c) c.length (splitTurns c).length = c.length := by
    unfold startOf
    rw [List.getElem?_eq_none (Nat.le_refl _)]
  rw [hst] at h
  unfold playStalls outStalls
  rw [h]; rfl
end LW

set_option Elab.async false
set_option linter.all false
set_option maxRecDepth 100000
set_option maxHeartbeats 0
namespace LW
open PySem L2
def d_is_integer : He.DefD := ⟨("is_integer", none), "is_integer", "is_integer", defArgs s_is_integer, defBody s_is_integer, defScope s_is_integer, [], []⟩
def d_in_range : He.DefD := ⟨("in_range", none), "in_range", "in_range", defArgs s_in_range, defBody s_in_range, defScope s_in_range, [], []⟩
def d_Policy__init : He.DefD := ⟨("Policy", some "__init__"), "__init__", "Policy.__init__", defArgs s_Policy__init, defBody s_Policy__init, defScope s_Policy__init, [.str "all"], [("every", .int 2), ("quick", .int 0)]⟩
def d_Setting__init : He.DefD := ⟨("Setting", some "__init__"), "__init__", "Setting.__init__", defArgs s_Setting__init, defBody s_Setting__init, defScope s_Setting__init, [], []⟩
def d_is_write : He.DefD := ⟨("is_write", none), "is_write", "is_write", defArgs s_is_write, defBody s_is_write, defScope s_is_write, [], []⟩
def d_check : He.DefD := ⟨("check", none), "check", "check", defArgs s_check, defBody s_check, defScope s_check, [], []⟩
def d_split_turns : He.DefD := ⟨("split_turns", none), "split_turns", "split_turns", defArgs s_split_turns, defBody s_split_turns, defScope s_split_turns, [], []⟩
def d_normal_order : He.DefD := ⟨("normal_order", none), "normal_order", "normal_order", defArgs s_normal_order, defBody s_normal_order, defScope s_normal_order, [], []⟩
def d_rules_of : He.DefD := ⟨("rules_of", none), "rules_of", "rules_of", defArgs s_rules_of, defBody s_rules_of, defScope s_rules_of, [], []⟩
def d_with_full : He.DefD := ⟨("with_full", none), "with_full", "with_full", defArgs s_with_full, defBody s_with_full, defScope s_with_full, [], []⟩
def d_with_partial : He.DefD := ⟨("with_partial", none), "with_partial", "with_partial", defArgs s_with_partial, defBody s_with_partial, defScope s_with_partial, [], []⟩
def d_after_write : He.DefD := ⟨("after_write", none), "after_write", "after_write", defArgs s_after_write, defBody s_after_write, defScope s_after_write, [], []⟩
def d_after_clearing : He.DefD := ⟨("after_clearing", none), "after_clearing", "after_clearing", defArgs s_after_clearing, defBody s_after_clearing, defScope s_after_clearing, [], []⟩
def d_after_turn : He.DefD := ⟨("after_turn", none), "after_turn", "after_turn", defArgs s_after_turn, defBody s_after_turn, defScope s_after_turn, [], []⟩
def d_Outcome__init : He.DefD := ⟨("Outcome", some "__init__"), "__init__", "Outcome.__init__", defArgs s_Outcome__init, defBody s_Outcome__init, defScope s_Outcome__init, [.int 0, .int 0, .int 0, .adr (He.dflAt ("Outcome", some "__init__") 3)], []⟩
def d_first_parts : He.DefD := ⟨("first_parts", none), "first_parts", "first_parts", defArgs s_first_parts, defBody s_first_parts, defScope s_first_parts, [], []⟩
def d_first_quick : He.DefD := ⟨("first_quick", none), "first_quick", "first_quick", defArgs s_first_quick, defBody s_first_quick, defScope s_first_quick, [], []⟩
def d_with_quick : He.DefD := ⟨("with_quick", none), "with_quick", "with_quick", defArgs s_with_quick, defBody s_with_quick, defScope s_with_quick, [], []⟩
def d_outcome : He.DefD := ⟨("outcome", none), "outcome", "outcome", defArgs s_outcome, defBody s_outcome, defScope s_outcome, [.str "quick"], []⟩
def d_clearings_of : He.DefD := ⟨("clearings_of", none), "clearings_of", "clearings_of", defArgs s_clearings_of, defBody s_clearings_of, defScope s_clearings_of, [], []⟩
def d_turn_ends : He.DefD := ⟨("turn_ends", none), "turn_ends", "turn_ends", defArgs s_turn_ends, defBody s_turn_ends, defScope s_turn_ends, [], []⟩
def d_best_orders : He.DefD := ⟨("best_orders", none), "best_orders", "best_orders", defArgs s_best_orders, defBody s_best_orders, defScope s_best_orders, [], []⟩
def d_least : He.DefD := ⟨("least", none), "least", "least", defArgs s_least, defBody s_least, defScope s_least, [], []⟩
def d_most : He.DefD := ⟨("most", none), "most", "most", defArgs s_most, defBody s_most, defScope s_most, [], []⟩
def d_law_bag : He.DefD := ⟨("_law_bag", none), "_law_bag", "_law_bag", defArgs s_law_bag, defBody s_law_bag, defScope s_law_bag, [], []⟩
def d_law_take : He.DefD := ⟨("_law_take", none), "_law_take", "_law_take", defArgs s_law_take, defBody s_law_take, defScope s_law_take, [], []⟩
def d_law_rules : He.DefD := ⟨("_law_rules", none), "_law_rules", "_law_rules", defArgs s_law_rules, defBody s_law_rules, defScope s_law_rules, [], []⟩
def d_law_setting : He.DefD := ⟨("_law_setting", none), "_law_setting", "_law_setting", defArgs s_law_setting, defBody s_law_setting, defScope s_law_setting, [], []⟩
def d_law_amount : He.DefD := ⟨("_law_amount", none), "_law_amount", "_law_amount", defArgs s_law_amount, defBody s_law_amount, defScope s_law_amount, [], []⟩
def d_law_writes : He.DefD := ⟨("_law_writes", none), "_law_writes", "_law_writes", defArgs s_law_writes, defBody s_law_writes, defScope s_law_writes, [], []⟩
def d_law_steps : He.DefD := ⟨("_law_steps", none), "_law_steps", "_law_steps", defArgs s_law_steps, defBody s_law_steps, defScope s_law_steps, [], []⟩
def d_law_side : He.DefD := ⟨("_law_side", none), "_law_side", "_law_side", defArgs s_law_side, defBody s_law_side, defScope s_law_side, [], []⟩
def d_law_send : He.DefD := ⟨("_law_send", none), "_law_send", "_law_send", defArgs s_law_send, defBody s_law_send, defScope s_law_send, [], []⟩
def d_law_may : He.DefD := ⟨("_law_may", none), "_law_may", "_law_may", defArgs s_law_may, defBody s_law_may, defScope s_law_may, [], []⟩
def d_law_write : He.DefD := ⟨("_law_write", none), "_law_write", "_law_write", defArgs s_law_write, defBody s_law_write, defScope s_law_write, [], []⟩
def d_law_hear : He.DefD := ⟨("_law_hear", none), "_law_hear", "_law_hear", defArgs s_law_hear, defBody s_law_hear, defScope s_law_hear, [], []⟩
def d_law_clear : He.DefD := ⟨("_law_clear", none), "_law_clear", "_law_clear", defArgs s_law_clear, defBody s_law_clear, defScope s_law_clear, [], []⟩
def d_law_finish : He.DefD := ⟨("_law_finish", none), "_law_finish", "_law_finish", defArgs s_law_finish, defBody s_law_finish, defScope s_law_finish, [], []⟩
def d_law_play : He.DefD := ⟨("_law_play", none), "_law_play", "_law_play", defArgs s_law_play, defBody s_law_play, defScope s_law_play, [], []⟩
def d_law_whole : He.DefD := ⟨("_law_whole", none), "_law_whole", "_law_whole", defArgs s_law_whole, defBody s_law_whole, defScope s_law_whole, [], []⟩
def d_law_limits : He.DefD := ⟨("_law_limits", none), "_law_limits", "_law_limits", defArgs s_law_limits, defBody s_law_limits, defScope s_law_limits, [], []⟩
def d_law_is_order : He.DefD := ⟨("_law_is_order", none), "_law_is_order", "_law_is_order", defArgs s_law_is_order, defBody s_law_is_order, defScope s_law_is_order, [], []⟩
def d_law : He.DefD := ⟨("law", none), "law", "law", defArgs s_law, defBody s_law, defScope s_law, [], []⟩
def fnL : List He.DefD := [d_is_integer, d_in_range, d_Policy__init, d_Setting__init, d_is_write, d_check, d_split_turns, d_normal_order, d_rules_of, d_with_full, d_with_partial, d_after_write, d_after_clearing, d_after_turn, d_Outcome__init, d_first_parts, d_first_quick, d_with_quick, d_outcome, d_clearings_of, d_turn_ends, d_best_orders, d_least, d_most, d_law_bag, d_law_take, d_law_rules, d_law_setting, d_law_amount, d_law_writes, d_law_steps, d_law_side, d_law_send, d_law_may, d_law_write, d_law_hear, d_law_clear, d_law_finish, d_law_play, d_law_whole, d_law_limits, d_law_is_order, d_law]
def faL : List He.Fa := [.free "min", .free "max", .free "divmod", .free "range", .free "len", .free "abs", .free "int", .free "bool", .free "str", .free "tuple", .free "list", .free "isinstance", .free "enumerate", .free "zip", .free "all", .int "MOST_EVERY" 9, .int "MOST_QUICK" 4, .int "MOST_SIZE" 1000000000000000000, .int "MOST_WRITES" 200, .int "MOST_LENGTH" 1000000000000000000, .glo "MODES", .glo "Policy", .glo "Setting", .glo "Outcome", .cls "Policy", .cls "Setting", .cls "Outcome", .mkr "Policy", .mkr "Setting", .mkr "Outcome", .noat "Policy" "hold", .noat "Policy" "every", .noat "Policy" "quick", .noat "Setting" "size", .noat "Setting" "policies", .noat "Outcome" "stalls", .noat "Outcome" "segments", .noat "Outcome" "acknowledgments", .noat "Outcome" "stalled", .glo "is_integer", .glo "in_range", .glo "is_write", .glo "check", .glo "split_turns", .glo "normal_order", .glo "rules_of", .glo "with_full", .glo "with_partial", .glo "after_write", .glo "after_clearing", .glo "after_turn", .glo "first_parts", .glo "first_quick", .glo "with_quick", .glo "outcome", .glo "clearings_of", .glo "turn_ends", .glo "best_orders", .glo "least", .glo "most", .glo "_law_bag", .glo "_law_take", .glo "_law_rules", .glo "_law_setting", .glo "_law_amount", .glo "_law_writes", .glo "_law_steps", .glo "_law_side", .glo "_law_send", .glo "_law_may", .glo "_law_write", .glo "_law_hear", .glo "_law_clear", .glo "_law_finish", .glo "_law_play", .glo "_law_whole", .glo "_law_limits", .glo "_law_is_order", .glo "law"]
def looseA : List Str := ["_wall", "LatewordsError", "BadSetting", "BadWrite", "BadOrder", "MOST_EVERY", "MOST_QUICK", "MOST_SIZE", "is_integer", "in_range", "Policy", "Setting", "MODES", "MOST_WRITES", "MOST_LENGTH", "is_write", "check", "split_turns", "normal_order", "rules_of", "with_full", "with_partial", "after_write", "after_clearing", "after_turn", "Outcome"]
def looseB : List Str := ["first_parts", "first_quick", "with_quick", "outcome", "clearings_of", "turn_ends", "best_orders", "least", "most", "_law_bag", "_law_take", "_law_rules", "_law_setting", "_law_amount", "_law_writes", "_law_steps", "_law_side", "_law_send", "_law_may", "_law_write", "_law_hear", "_law_clear", "_law_finish", "_law_play", "_law_whole", "_law_limits", "_law_is_order"]
def looseN : List Str := looseA ++ looseB
def namedM (x : Obj) : List Addr := He.refV x.cls ++ match x.data with
  | .cls k => k.ns :: (k.mro.map He.refV).flatten
  | .func k => [k.code, k.defaults, k.kwdefaults].flatMap He.refV
  | .dict ps _ => (ps.toList.map fun q => He.refV q.val).flatten
  | .seq us _ => (us.toList.map He.refV).flatten
  | _ => []
/-- what the module's names reach, in j steps -/
def reachM (g : Addr → Option Obj) : Nat → List Addr
  | 0 => [mainGlobals]
  | j + 1 => (reachM g j ++ ((reachM g j).filterMap g).flatMap namedM).eraseDups
def holdsA (K : PySem.W.Frag) : Addr := match PySem.W.findIn K (.ref (He.ga K "Policy")) "HOLDS" with
  | some (some (.ref a)) => a
  | _ => 0
def itsO (x : Obj) : Option (Array Value) := match x.data with
  | .seq us _ => some us
  | _ => none
def tupA (K : PySem.W.Frag) (a : Addr) (vs : List He.Dv) : Bool := (K.lookup a).any fun x => decide (x.cls = .type "tuple") && (itsO x).any fun us => decide (us.size ≤ sizeLine) && He.relAll (vs.map fun d => d.v K) us.toList
/-- besides: the tuples MODES and Policy.HOLDS, how a class constant is read, what an instance's class is -/
def exL (K : PySem.W.Frag) : List Bool := [tupA K (He.ga K "MODES") [.str "plain", .str "push", .str "more"], tupA K (holdsA K) [.str "off", .str "partial", .str "all"],
  PySem.W.readsIn K (He.ga K "Policy") (.type "type"), He.eqO (PySem.W.specialIn K (.ref (He.ga K "Policy")) "__getattribute__") (some (some (.builtin "type.__getattribute__"))),
  (match PySem.W.findCls K (.ref (He.ga K "Policy")) (.type "type") "HOLDS" with
  | some (.val (.ref a)) => decide (a = holdsA K)
  | _ => false), He.eqO (PySem.W.findIn K (.ref (He.ga K "Policy")) "__class__") (some (some (.builtin "object.__class__"))),
  decide (PySem.W.mroIn K (He.ga K "Policy") (.type "object") = some true),
  He.eqO (PySem.W.specialIn K (.builtin "object.__class__") "__get__") (some (some (.builtin "getset_descriptor.__get__"))), decide (PySem.W.takesIn K (.builtin "object.__class__") = some true)]
def exB (K : PySem.W.Frag) : Bool := (exL K).all id
abbrev AlM : Type := He.AlD × Bool
/-- the part of the heap that is looked at -/
def partM (g : Addr → Option Obj) : PySem.W.Frag := He.frG g (cStatics :: reachM g 4)
def obsM (g : Addr → Option Obj) : AlM := (He.obsD faL fnL (partM g), exB (partM g))
def valM : AlM := (He.valD fnL, true)
def hookM : PySem.W.Hook where
  α := AlM
  obs x := obsM x.heap.get?
  val _ := valM
  says _ H := ∃ K : PySem.W.Frag, K.In H ∧ He.SaysD faL fnL K ∧ exB K = true
  of _ x q := ⟨partM x.heap.get?, He.frG_in, (Prod.mk.inj q).1, (Prod.mk.inj q).2⟩
  keeps := fun _ _ _ ⟨K, k1, k2⟩ q => ⟨K, k1.keeps q, k2⟩
abbrev RR : PySem.W.OpenRow := PySem.W.OpenLaw.row PySem.Challenge.rw_latewords_k12_whole_no_order_beyond_leas
def obM (s : PySem.W.SharedT) : AlM := obsM (HandSHeadRun.getT s)
theorem obM_eq (s : PySem.W.SharedT) : obM s = hookM.obs s.abs := by
  show obsM (HandSHeadRun.getT s) = obsM s.abs.heap.get?
  rw [show HandSHeadRun.getT s = s.abs.heap.get? from funext (HandSHeadRun.getT_eq s)]
theorem topRunEq (w : World) : HandSHeadRun.RunEq RR (PySem.W.view RR.prog [59]) hookM obM 4000 looseN w := by
  intro os
  kernel_rfl
end LW

set_option Elab.async false
set_option linter.all false
set_option maxRecDepth 100000
set_option maxHeartbeats 4000000
namespace LW
open PySem PySem.Spec PyProof.Rows L2 Evl ClX
theorem fun_of {K : PySem.W.Frag} {x qual : Str} {st : Stmt} {f : Addr} {fd : FuncData} (F : FunD K x qual (defArgs st) (defBody st) (defScope st) [] [] f fd) : Fun K x qual st f fd := by
  obtain ⟨oc, od, dV, kV, doc, pm, an, cdv, ct, osl, rfl, lk, hcd, hD, hK⟩ := F.ex
  rcases hD with ⟨_, rfl⟩ | ⟨e, _⟩
  · exact ⟨⟨oc, od, kV, doc, pm, an, cdv, ct, osl, rfl, lk, hcd⟩, F.kp⟩
  · exact absurd rfl e
theorem any_ok {α : Type} {p : α → Bool} : ∀ {o : Option α}, o.any p = true → ∃ x, o = some x ∧ p x = true
  | some x, h => ⟨x, rfl, h⟩
  | none, h => by cases h
theorem tupA_ok {K : PySem.W.Frag} {a : Addr} {vs : List He.Dv} (h : tupA K a vs = true) (H : Hp) : SqT K H a (vs.map fun d => d.v K) := by
  obtain ⟨x, hx, h⟩ := any_ok h
  obtain ⟨h1, h⟩ := Bool.and_eq_true_iff.mp h
  obtain ⟨us, hu, h⟩ := any_ok h
  obtain ⟨h2, h3⟩ := Bool.and_eq_true_iff.mp h
  obtain ⟨n, hn⟩ : ∃ n, x.data = .seq us n := by
    unfold itsO at hu
    split at hu
    · rename_i vs n q
      cases hu
      exact ⟨n, q⟩
    · cases hu
  exact .inr ⟨x, us, n, hx, of_decide_eq_true h1, hn, of_decide_eq_true h2, He.relAll_ok h3⟩
theorem exL_ok {K : PySem.W.Frag} (h : exB K = true) {b : Bool} (i : Nat) (hb : (exL K)[i]? = some b) : b = true := List.all_eq_true.mp h b (List.mem_of_getElem? hb)
/-- the classes -/
def clM (P : Program) (w : World) (K : PySem.W.Frag) : Cl P w := ⟨He.ga K "Policy", He.ga K "Setting", He.ga K "Outcome", He.ga K "MODES", holdsA K⟩
section
variable {P : Program} {w : World} {K : PySem.W.Frag} {mg : Str → Option Value} {h : Heap}
theorem gv_int (X : K.In h) (G : h.Ns mainGlobals mg) {x : Str} {i : Int} (c : (He.Fa.int x i).ok K = true) : GV mg x (.int i) := by
  obtain ⟨t, e⟩ := He.int_ok X G c
  exact ⟨_, e, t, rfl⟩
theorem txt_ok (X : K.In h) (G : h.Ns mainGlobals mg) (c : He.SaysD faL fnL K) (e : exB K = true) : Txt K mg (clM P w K) where
  n_min := He.free_ok X G (c.fact 0 rfl)
  n_max := He.free_ok X G (c.fact 1 rfl)
  n_divmod := He.free_ok X G (c.fact 2 rfl)
  n_range := He.free_ok X G (c.fact 3 rfl)
  n_len := He.free_ok X G (c.fact 4 rfl)
  n_abs := He.free_ok X G (c.fact 5 rfl)
  n_int := He.free_ok X G (c.fact 6 rfl)
  n_bool := He.free_ok X G (c.fact 7 rfl)
  n_str := He.free_ok X G (c.fact 8 rfl)
  n_tuple := He.free_ok X G (c.fact 9 rfl)
  n_list := He.free_ok X G (c.fact 10 rfl)
  n_isinstance := He.free_ok X G (c.fact 11 rfl)
  n_enumerate := He.free_ok X G (c.fact 12 rfl)
  n_zip := He.free_ok X G (c.fact 13 rfl)
  n_all := He.free_ok X G (c.fact 14 rfl)
  g_MOST_EVERY := gv_int X G (c.fact 15 rfl)
  g_MOST_QUICK := gv_int X G (c.fact 16 rfl)
  g_MOST_SIZE := gv_int X G (c.fact 17 rfl)
  g_MOST_WRITES := gv_int X G (c.fact 18 rfl)
  g_MOST_LENGTH := gv_int X G (c.fact 19 rfl)
  g_MODES := ⟨_, He.glo_ok X G (c.fact 20 rfl), rfl⟩
  modes := tupA_ok (exL_ok e 0 rfl) _
  g_Policy := He.glo_ok X G (c.fact 21 rfl)
  g_Setting := He.glo_ok X G (c.fact 22 rfl)
  g_Outcome := He.glo_ok X G (c.fact 23 rfl)
  clP := He.cls_ok (c.fact 24 rfl)
  clS := He.cls_ok (c.fact 25 rfl)
  clO := He.cls_ok (c.fact 26 rfl)
  nP_hold := He.noat_ok (c.fact 30 rfl)
  nP_every := He.noat_ok (c.fact 31 rfl)
  nP_quick := He.noat_ok (c.fact 32 rfl)
  nS_size := He.noat_ok (c.fact 33 rfl)
  nS_policies := He.noat_ok (c.fact 34 rfl)
  nO_stalls := He.noat_ok (c.fact 35 rfl)
  nO_segments := He.noat_ok (c.fact 36 rfl)
  nO_acks := He.noat_ok (c.fact 37 rfl)
  nO_stalled := He.noat_ok (c.fact 38 rfl)
theorem txp_ok (c : He.SaysD faL fnL K) (e : exB K = true) : TxP K (clM P w K) where
  rd := by
    have h2 := exL_ok e 2 rfl
    have h3 := He.eqO_ok (exL_ok e 3 rfl)
    have h4 := exL_ok e 4 rfl
    refine ⟨.type "type", .ref (holdsA K), ⟨h2, h3⟩, ⟨?_, rfl⟩⟩
    split at h4
    · rename_i a q
      have := of_decide_eq_true h4
      subst this
      exact q
    · cases h4
  holds := tupA_ok (exL_ok e 1 rfl) _
  ty := fun hh => .base (.ins hh (He.cls_ok (c.fact 24 rfl)) (He.eqO_ok (exL_ok e 5 rfl)) (He.eqO_ok (exL_ok e 7 rfl)) (of_decide_eq_true (exL_ok e 8 rfl)) (of_decide_eq_true (exL_ok e 6 rfl)))
theorem law_ok (X : K.In h) (G : h.Ns mainGlobals mg) (c : He.SaysD faL fnL K) (e : exB K = true) : ∃ fd : FuncData, (∀ (s : Shared) (v : Value), BindsTo s fd ⟨[v], []⟩ [("_law_script", v)]) ∧ ∀ base : Heap, K.In base → base.Ns mainGlobals mg → FnOk P w K mg base CX0 8 (He.ga K "law") fd ps_law (SpD K (clM P w K) FLaw) := by
  have T : Txt K mg (clM P w K) := txt_ok X G c e
  have T2 : TxP K (clM P w K) := txp_ok c e
  obtain ⟨fd_is_integer, F_is_integer⟩ := c.def_ 0 (d := d_is_integer) rfl
  obtain ⟨fd_in_range, F_in_range⟩ := c.def_ 1 (d := d_in_range) rfl
  obtain ⟨fd_Policy__init, F_Policy__init⟩ := c.def_ 2 (d := d_Policy__init) rfl
  obtain ⟨fd_Setting__init, F_Setting__init⟩ := c.def_ 3 (d := d_Setting__init) rfl
  obtain ⟨fd_is_write, F_is_write⟩ := c.def_ 4 (d := d_is_write) rfl
  obtain ⟨fd_check, F_check⟩ := c.def_ 5 (d := d_check) rfl
  obtain ⟨fd_split_turns, F_split_turns⟩ := c.def_ 6 (d := d_split_turns) rfl
  obtain ⟨fd_normal_order, F_normal_order⟩ := c.def_ 7 (d := d_normal_order) rfl
  obtain ⟨fd_rules_of, F_rules_of⟩ := c.def_ 8 (d := d_rules_of) rfl
  obtain ⟨fd_with_full, F_with_full⟩ := c.def_ 9 (d := d_with_full) rfl
  obtain ⟨fd_with_partial, F_with_partial⟩ := c.def_ 10 (d := d_with_partial) rfl
  obtain ⟨fd_after_write, F_after_write⟩ := c.def_ 11 (d := d_after_write) rfl
  obtain ⟨fd_after_clearing, F_after_clearing⟩ := c.def_ 12 (d := d_after_clearing) rfl
  obtain ⟨fd_after_turn, F_after_turn⟩ := c.def_ 13 (d := d_after_turn) rfl
  obtain ⟨fd_Outcome__init, F_Outcome__init⟩ := c.def_ 14 (d := d_Outcome__init) rfl
  obtain ⟨fd_first_parts, F_first_parts⟩ := c.def_ 15 (d := d_first_parts) rfl
  obtain ⟨fd_first_quick, F_first_quick⟩ := c.def_ 16 (d := d_first_quick) rfl
  obtain ⟨fd_with_quick, F_with_quick⟩ := c.def_ 17 (d := d_with_quick) rfl
  obtain ⟨fd_outcome, F_outcome⟩ := c.def_ 18 (d := d_outcome) rfl
  obtain ⟨fd_clearings_of, F_clearings_of⟩ := c.def_ 19 (d := d_clearings_of) rfl
  obtain ⟨fd_turn_ends, F_turn_ends⟩ := c.def_ 20 (d := d_turn_ends) rfl
  obtain ⟨fd_best_orders, F_best_orders⟩ := c.def_ 21 (d := d_best_orders) rfl
  obtain ⟨fd_least, F_least⟩ := c.def_ 22 (d := d_least) rfl
  obtain ⟨fd_most, F_most⟩ := c.def_ 23 (d := d_most) rfl
  obtain ⟨fd_law_bag, F_law_bag⟩ := c.def_ 24 (d := d_law_bag) rfl
  obtain ⟨fd_law_take, F_law_take⟩ := c.def_ 25 (d := d_law_take) rfl
  obtain ⟨fd_law_rules, F_law_rules⟩ := c.def_ 26 (d := d_law_rules) rfl
  obtain ⟨fd_law_setting, F_law_setting⟩ := c.def_ 27 (d := d_law_setting) rfl
  obtain ⟨fd_law_amount, F_law_amount⟩ := c.def_ 28 (d := d_law_amount) rfl
  obtain ⟨fd_law_writes, F_law_writes⟩ := c.def_ 29 (d := d_law_writes) rfl
  obtain ⟨fd_law_steps, F_law_steps⟩ := c.def_ 30 (d := d_law_steps) rfl
  obtain ⟨fd_law_side, F_law_side⟩ := c.def_ 31 (d := d_law_side) rfl
  obtain ⟨fd_law_send, F_law_send⟩ := c.def_ 32 (d := d_law_send) rfl
  obtain ⟨fd_law_may, F_law_may⟩ := c.def_ 33 (d := d_law_may) rfl
  obtain ⟨fd_law_write, F_law_write⟩ := c.def_ 34 (d := d_law_write) rfl
  obtain ⟨fd_law_hear, F_law_hear⟩ := c.def_ 35 (d := d_law_hear) rfl
  obtain ⟨fd_law_clear, F_law_clear⟩ := c.def_ 36 (d := d_law_clear) rfl
  obtain ⟨fd_law_finish, F_law_finish⟩ := c.def_ 37 (d := d_law_finish) rfl
  obtain ⟨fd_law_play, F_law_play⟩ := c.def_ 38 (d := d_law_play) rfl
  obtain ⟨fd_law_whole, F_law_whole⟩ := c.def_ 39 (d := d_law_whole) rfl
  obtain ⟨fd_law_limits, F_law_limits⟩ := c.def_ 40 (d := d_law_limits) rfl
  obtain ⟨fd_law_is_order, F_law_is_order⟩ := c.def_ 41 (d := d_law_is_order) rfl
  obtain ⟨fd_law, F_law⟩ := c.def_ 42 (d := d_law) rfl
  refine ⟨fd_law, fun s v => FunD.bindsA (ps := ["_law_script"]) F_law (fun _ _ _ _ _ _ us hl => match us, hl with | [_], _ => rfl) s [v] rfl, fun base _ _ => ?_⟩
  have d_law_bag : Df P w K mg base "_law_bag" 1 ps_law_bag (SpN K (clM P w K) FBag) := ⟨_, _, ok_law_bag (fun_of F_law_bag) T, He.glo_ok X G (c.fact 60 rfl), F_law_bag.kp, FunD.bindsN F_law_bag fun _ _ _ _ _ _ us hl => match us, hl with | [_, _], _ => rfl⟩
  have d_law_take : Df P w K mg base "_law_take" 1 ps_law_take (SpC K (clM P w K) FTake) := ⟨_, _, ok_take (fun_of F_law_take) T, He.glo_ok X G (c.fact 61 rfl), F_law_take.kp, FunD.bindsN F_law_take fun _ _ _ _ _ _ us hl => match us, hl with | [_, _], _ => rfl⟩
  have d_law_rules : Df P w K mg base "_law_rules" 2 ps_law_rules (SpC K (clM P w K) FRules) := ⟨_, _, ok_law_rules (fun_of F_law_rules) T d_law_take, He.glo_ok X G (c.fact 62 rfl), F_law_rules.kp, FunD.bindsN F_law_rules fun _ _ _ _ _ _ us hl => match us, hl with | [_], _ => rfl⟩
  have d_is_integer : Df P w K mg base "is_integer" 1 ps_is_integer (SpD K (clM P w K) FIsInteger) := ⟨_, _, ok_is_integer (fun_of F_is_integer) T, He.glo_ok X G (c.fact 39 rfl), F_is_integer.kp, FunD.bindsN F_is_integer fun _ _ _ _ _ _ us hl => match us, hl with | [_], _ => rfl⟩
  have d_in_range : Df P w K mg base "in_range" 2 ps_in_range (SpD K (clM P w K) FInRange) := ⟨_, _, ok_in_range (fun_of F_in_range) T d_is_integer, He.glo_ok X G (c.fact 40 rfl), F_in_range.kp, FunD.bindsN F_in_range fun _ _ _ _ _ _ us hl => match us, hl with | [_, _, _], _ => rfl⟩
  have ok_pol : FnOk P w K mg base CX0 3 (He.ma K (He.ga K "Policy") "__init__") fd_Policy__init ps_Policy__init (SpM K (clM P w K) (clM P w K).pol FPolicyInit) := ok_Policy_init (pa := defArgs s_outcome) (bd := []) (sc := defScope s_outcome) F_Policy__init T T2 d_in_range
  have c_Policy0 : Mkr P w K mg base "Policy" 3 ps_Policy__init (clM P w K).pol (SpM K (clM P w K) (clM P w K).pol FPolicyInit) [.str "all", .int 2, .int 0] := by
    obtain ⟨ds, hv, hb⟩ := FunD.binds (ps := ps_Policy__init) F_Policy__init 1 0 (by simp [He.DefD.dvs, d_Policy__init]) rfl (fun T D doc pm an cdv ct us its ks h1 h2 h3 => match us, h1 with | [_], _ => match its, h2 with | [_], _ => match ks, h3 with | [_, _], _ => ⟨_, rfl, ⟨_, _, _, _, _, _, rfl, rfl, _, _, _, _, _, _, rfl, rfl, rfl⟩⟩) (by simp [He.DefD.kws, d_Policy__init])
    exact ⟨_, _, ds, He.mkr_ok (c.fact 27 rfl), ok_pol, He.glo_ok X G (c.fact 21 rfl), hb, hv⟩
  have c_PolicyK : MkrK P w K mg base "Policy" 3 ps_Policy__init ["every", "quick"] 1 (clM P w K).pol (SpM K (clM P w K) (clM P w K).pol FPolicyInit) := by
    obtain ⟨its, hb⟩ := FunD.kbindsD (ps := ps_Policy__init) F_Policy__init 2 ["every", "quick"] (fun us _ ws => us ++ ws) (by simp [He.DefD.dvs, d_Policy__init]) (fun a _ c => a.append c) (fun T kV doc pm an cdv ct us its ws h1 h2 h3 => match us, h1 with | [_, _], _ => match its, h2 with | [_], _ => match ws, h3 with | [_, _], _ => ⟨_, rfl, rfl⟩)
    exact ⟨_, _, _, He.mkr_ok (c.fact 27 rfl), ok_pol, He.glo_ok X G (c.fact 21 rfl), hb⟩
  have c_Setting : MkrR P w K mg base "Setting" 5 (clM P w K).set (SpSet K (clM P w K)) := by
    refine ⟨_, He.mkr_ok (c.fact 28 rfl), ok_Setting_init (N := []) (x := "") (qual := "") (pa := defArgs s_outcome) (bd := []) (sc := defScope s_outcome) F_Setting__init T T2 d_in_range c_Policy0 rfl (fun kV doc pm an cdv ct us rest hl => match us, hl with | [_, _], _ => match rest with | [] => rfl | _ :: _ => rfl), He.glo_ok X G (c.fact 22 rfl)⟩
  have d_law_setting : Df P w K mg base "_law_setting" 7 ps_law_setting (SpD K (clM P w K) FLawSetting) := ⟨_, _, ok_law_setting (fun_of F_law_setting) T c_PolicyK c_Setting, He.glo_ok X G (c.fact 63 rfl), F_law_setting.kp, FunD.bindsN F_law_setting fun _ _ _ _ _ _ us hl => match us, hl with | [_, _], _ => rfl⟩
  have d_law_amount : Df P w K mg base "_law_amount" 2 ps_law_amount (SpC K (clM P w K) FAmount) := ⟨_, _, ok_law_amount (fun_of F_law_amount) T d_law_take, He.glo_ok X G (c.fact 64 rfl), F_law_amount.kp, FunD.bindsN F_law_amount fun _ _ _ _ _ _ us hl => match us, hl with | [_, _], _ => rfl⟩
  have d_law_writes : Df P w K mg base "_law_writes" 3 ps_law_writes (SpC K (clM P w K) FWrites) := ⟨_, _, ok_law_writes (fun_of F_law_writes) T d_law_take d_law_amount, He.glo_ok X G (c.fact 65 rfl), F_law_writes.kp, FunD.bindsN F_law_writes fun _ _ _ _ _ _ us hl => match us, hl with | [_, _, _], _ => rfl⟩
  have d_is_write : Df P w K mg base "is_write" 3 ps_is_write (SpD K (clM P w K) FIsWrite) := ⟨_, _, ok_is_write (fun_of F_is_write) T d_in_range, He.glo_ok X G (c.fact 41 rfl), F_is_write.kp, FunD.bindsN F_is_write fun _ _ _ _ _ _ us hl => match us, hl with | [_], _ => rfl⟩
  have d_check : Df P w K mg base "check" 4 ps_check (SpD K (clM P w K) FCheck) := ⟨_, _, ok_check (fun_of F_check) T d_is_write, He.glo_ok X G (c.fact 42 rfl), F_check.kp, FunD.bindsN F_check fun _ _ _ _ _ _ us hl => match us, hl with | [_], _ => rfl⟩
  have d_first_quick : Df P w K mg base "first_quick" 1 ps_first_quick (SpD K (clM P w K) FFirstQuick) := ⟨_, _, ok_first_quick (fun_of F_first_quick) T, He.glo_ok X G (c.fact 52 rfl), F_first_quick.kp, FunD.bindsN F_first_quick fun _ _ _ _ _ _ us hl => match us, hl with | [_], _ => rfl⟩
  have d_split_turns : Df P w K mg base "split_turns" 1 ps_split_turns (SpD K (clM P w K) FSplit) := ⟨_, _, ok_split_turns (fun_of F_split_turns) T, He.glo_ok X G (c.fact 43 rfl), F_split_turns.kp, FunD.bindsN F_split_turns fun _ _ _ _ _ _ us hl => match us, hl with | [_], _ => rfl⟩
  have d_rules_of : Df P w K mg base "rules_of" 1 ps_rules_of (SpD K (clM P w K) FRulesOf) := ⟨_, _, ok_rules_of (fun_of F_rules_of) T, He.glo_ok X G (c.fact 45 rfl), F_rules_of.kp, FunD.bindsN F_rules_of fun _ _ _ _ _ _ us hl => match us, hl with | [_, _], _ => rfl⟩
  have d_first_parts : Df P w K mg base "first_parts" 1 ps_first_parts (SpD K (clM P w K) FFirstParts) := ⟨_, _, ok_first_parts (fun_of F_first_parts) T, He.glo_ok X G (c.fact 51 rfl), F_first_parts.kp, FunD.bindsN F_first_parts fun _ _ _ _ _ _ us hl => match us, hl with | [_], _ => rfl⟩
  have d_with_partial : Df P w K mg base "with_partial" 1 ps_with_partial (SpD K (clM P w K) FWithPartial) := ⟨_, _, ok_with_partial (fun_of F_with_partial) T, He.glo_ok X G (c.fact 47 rfl), F_with_partial.kp, FunD.bindsN F_with_partial fun _ _ _ _ _ _ us hl => match us, hl with | [_, _], _ => rfl⟩
  have d_after_clearing : Df P w K mg base "after_clearing" 2 ps_after_clearing (SpD K (clM P w K) FAfterClearing) := ⟨_, _, ok_after_clearing (fun_of F_after_clearing) T d_with_partial, He.glo_ok X G (c.fact 49 rfl), F_after_clearing.kp, FunD.bindsN F_after_clearing fun _ _ _ _ _ _ us hl => match us, hl with | [_, _], _ => rfl⟩
  have d_clearings_of : Df P w K mg base "clearings_of" 3 ps_clearings_of (SpD K (clM P w K) FClearings) := ⟨_, _, ok_clearings_of (fun_of F_clearings_of) T d_after_clearing, He.glo_ok X G (c.fact 55 rfl), F_clearings_of.kp, FunD.bindsN F_clearings_of fun _ _ _ _ _ _ us hl => match us, hl with | [_, _], _ => rfl⟩
  have d_with_full : Df P w K mg base "with_full" 1 ps_with_full (SpD K (clM P w K) FWithFull) := ⟨_, _, ok_with_full (fun_of F_with_full) T, He.glo_ok X G (c.fact 46 rfl), F_with_full.kp, FunD.bindsN F_with_full fun _ _ _ _ _ _ us hl => match us, hl with | [_, _, _], _ => rfl⟩
  have d_after_write : Df P w K mg base "after_write" 2 ps_after_write (SpD K (clM P w K) FAfterWrite) := ⟨_, _, ok_after_write (fun_of F_after_write) T d_with_full d_with_partial, He.glo_ok X G (c.fact 48 rfl), F_after_write.kp, FunD.bindsN F_after_write fun _ _ _ _ _ _ us hl => match us, hl with | [_, _, _, _], _ => rfl⟩
  have d_after_turn : Df P w K mg base "after_turn" 3 ps_after_turn (SpD K (clM P w K) FAfterTurn) := ⟨_, _, ok_after_turn (fun_of F_after_turn) T d_with_partial d_after_clearing, He.glo_ok X G (c.fact 50 rfl), F_after_turn.kp, FunD.bindsN F_after_turn fun _ _ _ _ _ _ us hl => match us, hl with | [_, _], _ => rfl⟩
  have d_turn_ends : Df P w K mg base "turn_ends" 4 ps_turn_ends (SpN K (clM P w K) FTurnEnds) := ⟨_, _, ok_turn_ends (fun_of F_turn_ends) T d_first_parts d_clearings_of d_after_write d_after_turn, He.glo_ok X G (c.fact 56 rfl), F_turn_ends.kp, FunD.bindsN F_turn_ends fun _ _ _ _ _ _ us hl => match us, hl with | [_, _, _], _ => rfl⟩
  have d_with_quick : Df P w K mg base "with_quick" 1 ps_with_quick (SpD K (clM P w K) FWithQuick) := ⟨_, _, ok_with_quick (fun_of F_with_quick) T, He.glo_ok X G (c.fact 53 rfl), F_with_quick.kp, FunD.bindsN F_with_quick fun _ _ _ _ _ _ us hl => match us, hl with | [_, _, _], _ => rfl⟩
  have d_best_orders : Df P w K mg base "best_orders" 5 ps_best_orders (SpD K (clM P w K) FBest) := ⟨_, _, ok_best_orders (fun_of F_best_orders) T d_first_quick d_split_turns d_rules_of d_turn_ends d_with_quick, He.glo_ok X G (c.fact 57 rfl), F_best_orders.kp, FunD.bindsN F_best_orders fun _ _ _ _ _ _ us hl => match us, hl with | [_, _, _], _ => rfl⟩
  have d_least : Df P w K mg base "least" 6 ps_least (SpD K (clM P w K) (FLeast 1)) := ⟨_, _, ok_least (fun_of F_least) T d_check d_best_orders, He.glo_ok X G (c.fact 58 rfl), F_least.kp, FunD.bindsN F_least fun _ _ _ _ _ _ us hl => match us, hl with | [_, _], _ => rfl⟩
  have d_most : Df P w K mg base "most" 6 ps_most (SpD K (clM P w K) (FLeast (-1))) := ⟨_, _, ok_most (fun_of F_most) T d_check d_best_orders, He.glo_ok X G (c.fact 59 rfl), F_most.kp, FunD.bindsN F_most fun _ _ _ _ _ _ us hl => match us, hl with | [_, _], _ => rfl⟩
  have d_law_limits : Df P w K mg base "_law_limits" 1 ps_law_limits (SpD K (clM P w K) FLimits) := ⟨_, _, ok_law_limits (fun_of F_law_limits) T, He.glo_ok X G (c.fact 76 rfl), F_law_limits.kp, FunD.bindsN F_law_limits fun _ _ _ _ _ _ us hl => match us, hl with | [_], _ => rfl⟩
  have d_law_whole : Df P w K mg base "_law_whole" 1 ps_law_whole (SpD K (clM P w K) FWhole) := ⟨_, _, ok_law_whole (fun_of F_law_whole) T, He.glo_ok X G (c.fact 75 rfl), F_law_whole.kp, FunD.bindsN F_law_whole fun _ _ _ _ _ _ us hl => match us, hl with | [_], _ => rfl⟩
  have d_law_is_order : Df P w K mg base "_law_is_order" 2 ps_law_is_order (SpD K (clM P w K) FIsOrder) := ⟨_, _, ok_law_is_order (fun_of F_law_is_order) T d_law_limits d_law_whole, He.glo_ok X G (c.fact 77 rfl), F_law_is_order.kp, FunD.bindsN F_law_is_order fun _ _ _ _ _ _ us hl => match us, hl with | [_, _], _ => rfl⟩
  have d_law_side : Df P w K mg base "_law_side" 1 ps_law_side (SpN K (clM P w K) FSide) := ⟨_, _, ok_law_side (fun_of F_law_side) T, He.glo_ok X G (c.fact 67 rfl), F_law_side.kp, FunD.bindsN F_law_side fun _ _ _ _ _ _ us hl => match us, hl with | [_], _ => rfl⟩
  have d_law_hear : Df P w K mg base "_law_hear" 1 ps_law_hear (SpC K (clM P w K) FHear) := ⟨_, _, ok_law_hear (fun_of F_law_hear) T, He.glo_ok X G (c.fact 71 rfl), F_law_hear.kp, FunD.bindsN F_law_hear fun _ _ _ _ _ _ us hl => match us, hl with | [_, _, _], _ => rfl⟩
  have d_law_may : Df P w K mg base "_law_may" 1 ps_law_may (SpD K (clM P w K) FMay) := ⟨_, _, ok_law_may (fun_of F_law_may) T, He.glo_ok X G (c.fact 69 rfl), F_law_may.kp, FunD.bindsN F_law_may fun _ _ _ _ _ _ us hl => match us, hl with | [_, _], _ => rfl⟩
  have d_law_send : Df P w K mg base "_law_send" 1 ps_law_send (SpC K (clM P w K) FSend) := ⟨_, _, ok_law_send (fun_of F_law_send) T, He.glo_ok X G (c.fact 68 rfl), F_law_send.kp, FunD.bindsN F_law_send fun _ _ _ _ _ _ us hl => match us, hl with | [_, _, _], _ => rfl⟩
  have d_law_clear : Df P w K mg base "_law_clear" 2 ps_law_clear (SpC K (clM P w K) FClear) := ⟨_, _, ok_law_clear (fun_of F_law_clear) T d_law_hear d_law_may d_law_send, He.glo_ok X G (c.fact 72 rfl), F_law_clear.kp, FunD.bindsN F_law_clear fun _ _ _ _ _ _ us hl => match us, hl with | [_, _, _, _], _ => rfl⟩
  have d_law_write : Df P w K mg base "_law_write" 2 ps_law_write (SpC K (clM P w K) FWrite) := ⟨_, _, ok_law_write (fun_of F_law_write) T d_law_send d_law_may, He.glo_ok X G (c.fact 70 rfl), F_law_write.kp, FunD.bindsN F_law_write fun _ _ _ _ _ _ us hl => match us, hl with | [_, _, _, _, _], _ => rfl⟩
  have d_law_finish : Df P w K mg base "_law_finish" 3 ps_law_finish (SpC K (clM P w K) FFinish) := ⟨_, _, ok_law_finish (fun_of F_law_finish) T d_law_clear d_law_hear d_law_send, He.glo_ok X G (c.fact 73 rfl), F_law_finish.kp, FunD.bindsN F_law_finish fun _ _ _ _ _ _ us hl => match us, hl with | [_, _, _, _], _ => rfl⟩
  have d_law_play : Df P w K mg base "_law_play" 4 ps_law_play (SpD K (clM P w K) FPlay) := ⟨_, _, ok_law_play (fun_of F_law_play) T d_law_side d_law_clear d_law_write d_law_finish, He.glo_ok X G (c.fact 74 rfl), F_law_play.kp, FunD.bindsN F_law_play fun _ _ _ _ _ _ us hl => match us, hl with | [_, _, _, _], _ => rfl⟩
  have c_Outcome : Mkr P w K mg base "Outcome" 1 ps_Outcome__init (clM P w K).out (SpM K (clM P w K) (clM P w K).out FOutcomeInit) [] := by
    obtain ⟨ds, hv, hb⟩ := FunD.binds1 (ps := ps_Outcome__init) F_Outcome__init 5 4 (by simp [He.DefD.dvs, d_Outcome__init]) rfl (fun T kV doc pm an cdv ct us its hl h2 => match us, hl with | [_, _, _, _, _], _ => match its, h2 with | [_, _, _, _], _ => ⟨_, rfl, rfl⟩)
    cases hv
    exact ⟨_, _, [], He.mkr_ok (c.fact 29 rfl), ok_Outcome_init (pa := defArgs s_outcome) (bd := []) (sc := defScope s_outcome) F_Outcome__init T, He.glo_ok X G (c.fact 23 rfl), hb, .nil⟩
  have d_normal_order : Df P w K mg base "normal_order" 5 ps_normal_order (SpD K (clM P w K) FNormalOrder) := ⟨_, _, ok_normal_order (fun_of F_normal_order) T d_check d_split_turns d_in_range, He.glo_ok X G (c.fact 44 rfl), F_normal_order.kp, FunD.bindsN F_normal_order fun _ _ _ _ _ _ us hl => match us, hl with | [_, _], _ => rfl⟩
  have d_outcome : Df P w K mg base "outcome" 6 ps_outcome (SpD K (clM P w K) FOutcome) := by
    obtain ⟨ds, hv, hb⟩ := FunD.binds1 (ps := ps_outcome) F_outcome 3 1 (by simp [He.DefD.dvs, d_outcome]) rfl (fun T kV doc pm an cdv ct us its hl h2 => match us, hl with | [_, _, _], _ => match its, h2 with | [_], _ => ⟨_, rfl, rfl⟩)
    cases hv
    exact ⟨_, _, ok_outcome (pa := defArgs s_outcome) (bd := []) (sc := defScope s_outcome) F_outcome T c_Outcome d_normal_order d_first_quick d_split_turns d_rules_of d_first_parts d_after_clearing d_after_write d_after_turn d_with_quick, He.glo_ok X G (c.fact 54 rfl), F_outcome.kp, hb⟩
  have d_law_steps : Df P w K mg base "_law_steps" 2 ps_law_steps (SpC K (clM P w K) FSteps) := ⟨_, _, ok_law_steps (fun_of F_law_steps) T d_law_take, He.glo_ok X G (c.fact 66 rfl), F_law_steps.kp, FunD.bindsN F_law_steps fun _ _ _ _ _ _ us hl => match us, hl with | [_, _], _ => rfl⟩
  exact ok_law (fun_of F_law) T (fun _ _ _ h1 h2 h3 h4 h5 => law_math h1 h2 h3 h4 h5) d_law_bag d_law_take d_law_rules d_law_setting d_law_writes d_least d_most d_law_limits d_law_is_order d_law_play d_outcome d_law_steps
end
end LW

set_option Elab.async false
set_option linter.all false
set_option maxRecDepth 100000
set_option maxHeartbeats 4000000

namespace LW
open PySem PySem.W PySem.Calls PyProof.Rows
def viewR : PySem.Program := PySem.W.view RR.prog [59]
def defR : DefRec := HandSHeadRun.topDef RR.prog 59
theorem r_open : opening RR.prog = plainProg RR.prog.main.scope.names := by kernel_rfl
theorem r_fence (s : Shared) : fenceModules? RR.prog s = some s := by kernel_rfl
theorem r_def : defOf (PySem.W.view RR.prog [59]) RR.name = some (HandSHeadRun.topDef RR.prog 59, []) := by kernel_rfl
theorem r_the : RR.prog.theDef RR.name = some ((HandSHeadRun.topDef RR.prog 59).params, (HandSHeadRun.topDef RR.prog 59).body, (HandSHeadRun.topDef RR.prog 59).scope) := by kernel_rfl
theorem r_kw : kwWritten? (HandSHeadRun.topDef RR.prog 59).params.kwonlyargs (HandSHeadRun.topDef RR.prog 59).params.kw_defaults = some [] := by kernel_rfl
theorem r_wr : (!RR.writes || RR.records.isEmpty) = true := by rfl
theorem r_said : RR.wellSaid = true := by first | assumption | decide +kernel
theorem r_ok : (chainsOk (PySem.W.view RR.prog [59]) && opensWell RR.prog && (frees RR.toRowW && RR.within.isEmpty)) = true := by decide +kernel
theorem r_bare : RR.prog.bare := ⟨rfl, rfl, rfl, rfl, rfl, by decide +kernel⟩
theorem r_df : (HandSHeadRun.topDef RR.prog 59).params.defaults = [] := by kernel_rfl
theorem r_nm : (HandSHeadRun.topDef RR.prog 59).name = ("law" : PySem.Str) := by kernel_rfl
end LW

set_option Elab.async false
set_option linter.all false
set_option maxRecDepth 100000
set_option maxHeartbeats 4000000
namespace LW
open PySem PySem.Spec PyProof.Rows L2 Evl ClX
theorem dpa_ints {K : PySem.W.Frag} {H : Hp} : ∀ ns : List Int, DpAll K H (ns.map V.int) (ns.map PyData.int)
  | [] => .nil
  | n :: r => .cons (.int n) (dpa_ints r)
theorem law_sp {P : Program} {w : World} {K : PySem.W.Frag} (H : Hp) (a : Addr) (ns : List Int) (hl : ns.length ≤ 63) (hS : SqL K H a (ns.map V.int)) : SpD K (clM P w K) FLaw [.ref a] H (fun v _ => v = .bl true) fun _ _ _ => False := by
  refine ⟨H, [.d (encI ns)], fun a => a = .d (.bool true), ⟨ns, rfl, Nat.le_trans hl (by decide), rfl⟩, Ex.refl _, .cons (Dp.lst hS (dpa_ints ns)) .nil, fun v a Hd' H' e x r => ?_⟩
  subst e
  cases (show Dp K Hd' v (.bool true) from r)
  rfl
open PySem PySem.W PySem.Calls PyProof.Rows
theorem r_wit : RR.toRowW.promised := by w_witness2
theorem r_facts (w : World) (mg : PySem.Str → Option Value) (fa : Addr) (h : Heap) (Y : hookM.says w h) (G : h.Ns mainGlobals mg) (hmg0 : mg (HandSHeadRun.topDef RR.prog 59).name = some (.ref fa)) :
    ∃ (K : PySem.W.Frag) (fd : FuncData) (sp : Sp), K.In h ∧ (∀ (s : Shared) (u : Value), BindsTo s fd ⟨[u], []⟩ [("_law_script", u)]) ∧
        (∀ (H : Hp) (a : Addr) (ns : List Int), ns.length ≤ 63 → Only H → SqL K H a (ns.map V.int) → sp [.ref a] H (fun v _ => v = .bl true) fun _ _ _ => False) ∧
        ∀ base : Heap, K.In base → base.Ns mainGlobals mg → FnOk RR.prog w K mg base CX0 8 fa fd ["_law_script"] sp := by
  obtain ⟨K, KX, c, e⟩ := Y
  have hmg : mg ("law" : PySem.Str) = some (.ref fa) := by
    rw [← LW.r_nm]
    exact hmg0
  have ea := hmg.symm.trans (He.glo_ok KX G (c.fact 78 rfl))
  obtain rfl : fa = He.ga K "law" := by injection ea with ea; injection ea
  obtain ⟨fd, hb, hF⟩ := LW.law_ok (P := RR.prog) (w := w) KX G c e
  exact ⟨K, fd, _, KX, hb, fun H a ns hl _ hS => LW.law_sp H a ns hl hS, hF⟩
theorem r_walk : PySem.W.WalkO (PySem.W.view RR.prog [59]) looseN (XL (PySem.W.view RR.prog [59]) []) hookM.says RR.toRowW (HandSHeadRun.topDef RR.prog 59) [] (fun f vs => PySem.call f vs) :=
  L2.walk_ofE (l := PySem.Challenge.rw_latewords_k12_whole_no_order_beyond_leas) (n := 63) (k := 8) (x := "_law_script") (CX := L2.CX0) rfl (by decide) LW.r_df ⟨rfl, by decide, by decide⟩ r_facts (fun _ _ _ _ z => z)
end LW

set_option Elab.async false
set_option linter.all false
set_option maxRecDepth 100000
set_option maxHeartbeats 0
open PySem PySem.W PySem.Calls PyProof.Rows
theorem LW.holdsR : LW.RR.Holds := 
  HandSHeadRun.head_any (r := LW.RR) (q := view LW.RR.prog [59]) (H := LW.hookM) (ob := LW.obM) (M := 4000) (loose := LW.looseN) (d := HandSHeadRun.topDef LW.RR.prog 59) (kwd := []) LW.obM_eq
    LW.r_open LW.r_fence LW.topRunEq LW.r_def LW.r_the LW.r_kw LW.r_wr LW.r_said LW.r_ok LW.r_bare LW.r_wit LW.r_walk

set_option Elab.async false
set_option linter.all false
set_option maxRecDepth 100000
open PySem PySem.W PySem.Calls PyProof.Rows
theorem PySem.Challenge.cw_latewords_k12_whole_no_order_beyond_leas_holds : PySem.Challenge.rw_latewords_k12_whole_no_order_beyond_leas.Holds := by
  w_on; o_law
  exact LW.holdsR

