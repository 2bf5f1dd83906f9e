import PyProof.Rows.All
import Wide.All
import OpenK.AllK
import Wide.FinOn
import HandS.ForMost
import HandS.DictTup
import KE.KDictDisplayH
import HandS.Codes
import HandS.Flow
import HandS.Wide
import HandS.WideBits
import HandS.Deep
import HandS.IsInst
import HandS.TupAny
import HandS.TupLen
import HandS.Conv
import HandS.Flt
import HandS.Small
import HandS.Evl
import PySem.Challenge.RW_foldwarrant_k20_threads_along_words
set_option Elab.async false
set_option linter.all false
set_option maxRecDepth 100000
set_option maxHeartbeats 4000000
namespace Fw
open PySem PySem.Spec PyProof.Rows L2
/-! ### {k: v} with one key that is a tuple -/
def tDisp1T (tk tv : TE) : TE := fun σ H Q => ∀ p, H p = none → tk σ (upd H p (.dT [])) fun x H1 => tv σ H1 fun y H2 =>
  ∃ (k : List Key) (b : Addr), x = .ref b ∧ H2 b = some (.tup (k.map kV)) ∧ H2 p = some (.dT []) ∧ Q (.ref p) (upd H2 p (.dT [(k, y)]))
theorem pe_disp1T {X : Cx} {pos : Pos} {k v : Expr} {tk tv : TE} (hu : X.A.units + 1 < cLine) (hk : PE X k tk) (hv : PE X v tv) : PE X (.Dict [some k] [v] pos) (tDisp1T tk tv) := by
  refine ⟨fun pins s σ H Q I q => ?_⟩
  have hn := I.hok.fresh (Nat.le_refl s.heap.objs.size)
  have I1 := I.laid (a := s.heap.objs.size) (o := .dT []) (h' := s.heap.push { cls := .type "dict", data := .dict #[] }) (t' := s.toks) (fun _ _ q => Heap.get?_push_of_some _ q) (Nat.le_refl _) (dt_empty s.heap I.big)
  have hsh := zip_pairTrees [some k] [v] X.env pos rfl rfl
  have hlen : (pairTrees [some k] [v] X.env pos).length = 1 := (pairTrees_length [some k] [v] X.env pos rfl rfl)
  have h0 : pairTrees [some k] [v] X.env pos ≠ [] := fun e => by rw [e] at hlen; cases hlen
  rw [arm_eval_Dict, hsh, dictDisplay_pairs _ h0 (by omega)]
  refine wpAny_bind (wpAny_standAt (wpAny_bind (wpAny_subDictH (knd := tupleKind (mixKind X.prog X.w)) (Q := fun d s' => wpAny (model X.prog X.w) X.A (pure (Value.ref d)) (EP X pins σ Q) X.xe s') (show X.A.units < cLine by omega) (by omega) ?_)))
  refine pairTrees_cons_walk (thn (hk.run pins _ σ _ _ I1 (q _ hn)) fun u s1 ⟨x, H1, I1, rx, q1⟩ => thn (hv.run pins s1 σ H1 _ I1 q1) fun w2 s2 ⟨y, H2, I2, ry, ks, b, ex, hb, hp, q2⟩ => pairTrees_nil_walk ?_)
  subst ex
  cases (show u = Value.ref b from rx)
  obtain ⟨z, hd, xs, rel, dd⟩ := dt_of I2.hok hp
  cases rel
  refine ⟨[(ks, b, w2)], ⟨rfl, rfl, key_of I2.hok hb, trivial⟩, dd, fun h' tk' dd' hs => wpAny_pure ⟨.ref s.heap.objs.size, _, ?_, rfl, q2⟩⟩
  obtain ⟨o, es, ep, hq, h2, h3, h4, _, h5⟩ := dd'
  refine d_write I2 (by rw [hp]; exact True.intro) hs ⟨o, hq⟩ ⟨by show 1 ≤ sizeLine; decide, hd, [(ks, b, w2)], .cons ⟨rfl, ?_, ry⟩ .nil, o, es, ep, hq, h2, h3, h4, h5⟩
  rw [upd_ne (ne_of hb hp (fun z => nomatch z))]
  exact hb
/-! ### for k, v in d.items(), the keys tuples -/
def ItiT (d : Addr) (o : Obj) (kvs : List (List Key × V)) : It :=
  ⟨fun i H => H d = some (.frz o (.dT kvs)) ∧ i < kvs.length, fun i H x H' => ∃ T k v q, kvs[i]? = some (k, v) ∧ x = .ref T ∧ H T = none ∧ H q = some (.tup (k.map kV)) ∧ H' = upd H T (.tup [.ref q, v]), fun i H => H d = some (.frz o (.dT kvs)) ∧ kvs.length ≤ i⟩
section
variable {X : Cx} {pins : List (Addr × Obj)} {σ : L2.St} {H : Hp} {s : Shared} {d : Addr} {o : Obj}
theorem frzT2 {kvs : List (List Key × V)} (I : Inv X pins σ H s) (h : H d = some (.frz o (.dT kvs))) :
    (d == sysModules) = false ∧ ∃ (es : Array DictEntry) (ep : Nat), DT.Raw s.heap d es ep ∧ o.data = .dict es ep ∧ es.size = kvs.length ∧
      ∀ (i : Nat) (k : List Key) (v : V), kvs[i]? = some (k, v) → ∃ (en : DictEntry) (q : Addr), es[i]? = some en ∧ en.key = .ref q ∧ H q = some (.tup (k.map kV)) ∧ RelV v en.val := by
  obtain ⟨hd, z, hs, xs, pr, o', es, ep, ho, hx, hdt, he, _⟩ := I.hok d _ h
  have ho2 := ho
  rw [hd] at ho
  cases ho
  refine ⟨hs, es, ep, ⟨o, ho2, hx, hdt⟩, hdt, ?_, fun i k v e => ?_⟩
  · have l1 : es.size = xs.length := size_of_entries he
    have l2 : kvs.length = xs.length := Paired.length pr
    omega
  · obtain ⟨b, hb, e1, e2, e3⟩ := paired_get pr e
    have q := entry_at he i
    rw [hb] at q
    exact ⟨_, b.2.1, q, rfl, e2, e3⟩
end
theorem turn_itemsT {P : Program} {w : World} {K : PySem.W.Frag} {d : Addr} {o : Obj} {es : Array DictEntry} {ep : Nat} {kvs : List (List Key × V)} {elts : List Expr} {kk : Nat} {tpos : Pos} (it : Addr) (hod : o.data = .dict es ep) :
    Turn P w K (.Tuple elts kk tpos) (ItiT d o kvs) [it] it (fun i h => ∃ ok ov, IsItemIter h it d i kvs.length ep ok ov) where
  mem := by simp
  obj := fun i h st b hb => by
    have e : b = it := by simpa using hb
    subst e
    obtain ⟨ok, ov, e⟩ := st
    exact ⟨_, e, fun v z => nomatch z⟩
  keep := fun i h h' st k => let ⟨ok, ov, e⟩ := st; ⟨ok, ov, k it (by simp) _ e⟩
  item := by
    intro X hP hw hK hc i pins s σ H E I hf st hg
    subst hP hw hK
    obtain ⟨hd, hi⟩ := hg
    obtain ⟨hs, es', ep', raw, hdt, hsz, ent⟩ := frzT2 I hd
    obtain ⟨rfl, rfl⟩ := dict_ep hod hdt
    obtain ⟨⟨k, v⟩, hkv⟩ : ∃ p, kvs[i]? = some p := ⟨kvs[i], List.getElem?_eq_getElem hi⟩
    obtain ⟨en, q, hen, hkey, hq, rv⟩ := ent i k v hkv
    obtain ⟨ok, ov, he⟩ := st
    rw [← hsz] at he
    have hi' : i < es'.size := by omega
    have hes : es'[i] = en := by
      rw [Array.getElem?_eq_getElem hi'] at hen
      exact Option.some.inj hen
    have hlt : it < s.heap.objs.size := Heap.lt_size he
    refine DT.nextI he raw hi' fun h' ho hT hz hk => ?_
    rw [hes] at ho hT
    rw [hkey] at ho hT
    refine ⟨_, rfl, wpAny_letOwnedTupleGo_items (s := { s with heap := h' }) ho fun h'' he' sb => ?_⟩
    have hT2 : h''.get? s.heap.objs.size = some { cls := .type "tuple", data := .seq #[.ref q, en.val] } := (sb.2 _ (Nat.ne_of_gt hlt)).trans hT
    have new : ObjOk X.prog X.w (upd H s.heap.objs.size (.tup [.ref q, v])) h'' s.heap.objs.size (.tup [.ref q, v]) :=
      ⟨by show 2 ≤ sizeLine; decide, [.ref q, en.val], .cons rfl (.cons rv .nil), ⟨_, hT2, rfl, _, rfl⟩⟩
    have I1 : Inv X pins σ (upd H s.heap.objs.size (.tup [.ref q, v])) { s with heap := h'' } :=
      I.turnedNew (t' := s.toks) (ch := [it]) (fun b ob hb e => (sb.2 b (by simpa using hb)).trans (hk b ob (by simpa using hb) e)) hf (Nat.le_refl _) new
    refine ⟨.ref s.heap.objs.size, _, I1, rfl, ⟨_, k, v, q, hkv, rfl, I.hok.fresh (Nat.le_refl _), hq, rfl⟩, ⟨.ref q, en.val, ?_⟩, fun b hb => ?_⟩
    · rw [← hsz]; exact he'
    · have e : b = it := by simpa using hb
      rw [e, upd_ne (Nat.ne_of_lt hlt)]
      exact (hf it (by simp)).1
  done := by
    intro X hP hw hK hc i pins s σ H E I hf st hg
    subst hP hw hK
    obtain ⟨hd, hi⟩ := hg
    obtain ⟨f0, f1, f2, f3, f4, f5⟩ := hf it (by simp)
    obtain ⟨hs, es', ep', raw, hdt, hsz, ent⟩ := frzT2 I hd
    obtain ⟨rfl, rfl⟩ := dict_ep hod hdt
    obtain ⟨ok, ov, he⟩ := st
    rw [← hsz] at he
    exact DT.endI (I.ok.hd hc) he raw (by omega) fun h' eb => ⟨rfl, I.turned (t' := s.toks) (fun b ob hb e => eb b ob hb e) f0 f1 f3 f4 f5⟩
  self := fun A i s Q E st h => let ⟨_, _, e⟩ := st; PySem.W.kcp_self e h
def iItemsT (td : TE) : TI := fun σ H R => td σ H fun x H1 => ∃ d o kvs, x = .ref d ∧ H1 d = some (.frz o (.dT kvs)) ∧ R (ItiT d o kvs) H1
theorem pi_itemsT {X : Cx} {e : Expr} {td : TE} {apos cpos : Pos} {elts : List Expr} {kk : Nat} {tpos : Pos} (he : PE X e td) (hbase : attributeBase e "items" X.env (eval e X.env) = eval e X.env := by rfl) (hline : (apos.endLine == cpos.line) = true := by rfl) :
    PI X (.Tuple elts kk tpos) (.Call (.Attribute e "items" apos) [] [] cpos) (iItemsT td) := by
  refine ⟨fun pins s σ H R I h => ?_⟩
  refine wpAny_Call_method (T := "dict") (id := "dict.items") hbase rfl hline F.plainAttrs_dict F.slot_dict_items F.type_dict_items (thn (he.run pins s σ H _ I h) fun u s1 ⟨x, H1, I1, rx, d, o, kvs, ex, hd, q⟩ => ?_)
  subst ex
  obtain rfl : u = Value.ref d := rx
  obtain ⟨hs, es, ep, raw, hdt, hsz, ent⟩ := frzT2 I1 hd
  refine ⟨raw.typeIs, ?_, ?_⟩
  · intro ob e
    cases e
    obtain ⟨o', ho, hc, _⟩ := raw
    exact ⟨o', ho, hc.2.1⟩
  have I2 : Inv X pins σ H1 { s1 with heap := s1.heap.push { cls := .type "dict_items", data := .fields #[.ref d] } } := I1.kept (t' := s1.toks) fun b ob q => Heap.get?_push_of_some _ q
  have fin : wpAny (model X.prog X.w) X.A (pyIter (.ref s1.heap.objs.size)) (PIE X pins σ (.Tuple elts kk tpos) R) X.xe { s1 with heap := s1.heap.push { cls := .type "dict_items", data := .fields #[.ref d] } } := by
    refine DT.iterI (d := d) ⟨_, Heap.get?_push_size _ rfl, rfl, rfl⟩ (raw.push _) (pi_one (tk := s1.toks) I2 _ (turn_itemsT _ hdt) ⟨.none, .none, ?_⟩ q)
    rw [← hsz]
    exact Heap.get?_push_size _ rfl
  show wpAny _ _ (callWith cpos (.builtin "dict.items") [.ref d] [] []) _ X.xe s1
  exact method_meetsIn F.slot_dict_items F.entry_dict_items rfl (PySem.evalArgs_none ⟨rfl, raw.typeIs, F.args_dict_items_1 _, _, DT.meetsItems (es := es) (ep := ep) hs, raw, fin⟩)
end Fw
namespace Fw
open PySem L2
abbrev Hev := L2.Hp
/-! ### heaps -/
/-- tuples stay -/
def Ti (H H' : Hp) : Prop := ∀ b xs, H b = some (.tup xs) → H' b = some (.tup xs)
/-- all stays -/
def Ex (H H' : Hp) : Prop := ∀ b o, H b = some o → H' b = some o
/-- all stays but what stands at d -/
def Eb (d : Addr) (H H' : Hp) : Prop := ∀ b o, b ≠ d → H b = some o → H' b = some o
section
variable {H H1 H2 H' : Hp} {p d : Addr} {o o' : HO} {xs : List V}
theorem Ti.refl : Ti H H := fun _ _ h => h
theorem Ti.trans (a : Ti H H1) (b : Ti H1 H2) : Ti H H2 := fun x o h => b x o (a x o h)
theorem Ti.new (h : H p = none) : Ti H (upd H p o) := fun b xs e => by rw [upd_ne (ne_of_none e h)]; exact e
theorem Ti.lst {ys : List V} (h : H p = some (.lst ys)) : Ti H (upd H p o) := fun b xs e => by rw [upd_ne (ne_of e h (fun z => nomatch z))]; exact e
theorem Ti.dK {ys : List (Key × V)} (h : H p = some (.dK ys)) : Ti H (upd H p o) := fun b xs e => by rw [upd_ne (ne_of e h (fun z => nomatch z))]; exact e
theorem Ti.dT {ys : List (List Key × V)} (h : H p = some (.dT ys)) : Ti H (upd H p o) := fun b xs e => by rw [upd_ne (ne_of e h (fun z => nomatch z))]; exact e
theorem Ti.frz {ob : Obj} {u : HO} (h : H p = some (.frz ob u)) : Ti H (upd H p o) := fun b xs e => by rw [upd_ne (ne_of e h (fun z => nomatch z))]; exact e
theorem Ex.refl : Ex H H := fun _ _ h => h
theorem Ex.trans (a : Ex H H1) (b : Ex H1 H2) : Ex H H2 := fun x o h => b x o (a x o h)
theorem Ex.ti (a : Ex H H1) : Ti H H1 := fun b xs h => a b _ h
theorem Ex.new (h : H p = none) : Ex H (upd H p o) := fun b u e => by rw [upd_ne (ne_of_none e h)]; exact e
/-- what H does not know may change -/
theorem Ex.mut (e : Ex H H1) (h : H p = none) : Ex H (upd H1 p o) := fun b u q => by rw [upd_ne (ne_of_none q h)]; exact e b u q
theorem Ex.eb (a : Ex H H1) : Eb d H H1 := fun b o _ h => a b o h
theorem Ex.free (e : Ex H H1) (h : H1 p = none) : H p = none := by
  cases q : H p with
  | none => rfl
  | some u => rw [e p u q] at h; cases h
theorem Eb.refl : Eb d H H := fun _ _ _ h => h
theorem Eb.trans (a : Eb d H H1) (b : Eb d H1 H2) : Eb d H H2 := fun x o n h => b x o n (a x o n h)
theorem Eb.new (h : H p = none) : Eb d H (upd H p o) := (Ex.new h).eb
theorem Eb.self : Eb d H (upd H d o) := fun b u n e => by rw [upd_ne n]; exact e
theorem Eb.mut (e : Eb d H H1) (h : H p = none) : Eb d H (upd H1 p o) := fun b u n q => by rw [upd_ne (ne_of_none q h)]; exact e b u n q
theorem Eb.muts (e : Eb d H H1) : Eb d H (upd H1 d o) := fun b u n q => by rw [upd_ne n]; exact e b u n q
theorem Eb.ti {ys : List V} (a : Eb d H H1) (h : H d = some (.lst ys)) : Ti H H1 := fun b xs e => a b _ (ne_of e h (fun z => nomatch z)) e
theorem Eb.free (e : Eb d H H1) (h : H1 p = none) (n : p ≠ d) : H p = none := by
  cases q : H p with
  | none => rfl
  | some u => rw [e p u n q] at h; cases h
theorem Ex.get (e : Ex H H1) (h : H p = some o) : H1 p = some o := e p o h
theorem Eb.get (e : Eb d H H1) (n : p ≠ d) (h : H p = some o) : H1 p = some o := e p o n h
theorem hp_ne {q : Addr} (n : p ≠ q) (h : H p = some o) : upd H q o' p = some o := by rw [upd_ne n]; exact h
theorem none_ne {q : Addr} (n : p ≠ q) (h : H p = none) : upd H q o' p = none := by rw [upd_ne n]; exact h
theorem none_of_upd {q : Addr} (h : upd H q o' p = none) : H p = none := by
  by_cases e : p = q
  · subst e; rw [upd_same] at h; cases h
  · rw [upd_ne e] at h; exact h
theorem ne_of_upd {q : Addr} (h : upd H q o' p = none) : p ≠ q := fun e => by subst e; rw [upd_same] at h; cases h
theorem ne_non (h : H p = some o) (h' : H d = none) : p ≠ d := ne_of_none h h'
end
/-! ### data that never changes: ints, bools, texts, None, tuples of them -/
class Rep (α : Type) where
  rep : Hp → V → α → Prop
  mono : ∀ {H H' : Hp} {v : V} {x : α}, Ti H H' → rep H v x → rep H' v x
  data : α → PyData
  dp : ∀ {K : PySem.W.Frag} {H : Hp} {v : V} {x : α}, rep H v x → Dp K H v (data x)
open Rep (rep)
instance : Rep Int := ⟨fun _ v i => v = .int i, fun _ h => h, .int, fun h => by cases h; exact .int _⟩
instance : Rep Bool := ⟨fun _ v i => v = .bl i, fun _ h => h, .bool, fun h => by cases h; exact .bl _⟩
instance : Rep Str := ⟨fun _ v i => v = .str i, fun _ h => h, .str, fun h => by cases h; exact .str _⟩
instance : Rep Unit := ⟨fun _ v _ => v = .non, fun _ h => h, fun _ => .none, fun h => by cases h; exact .non⟩
/-- the items of a row -/
def Reps {α : Type} [Rep α] (H : Hp) (vs : List V) (l : List α) : Prop := Paired (fun v x => rep H v x) vs l
theorem Reps.mono {α : Type} [Rep α] {H H' : Hp} {vs : List V} {l : List α} (t : Ti H H') (h : Reps H vs l) : Reps H' vs l := Paired.mapP h fun _ _ r => Rep.mono t r
theorem Reps.dp {α : Type} [Rep α] {K : PySem.W.Frag} {H : Hp} {vs : List V} {l : List α} (h : Reps H vs l) : DpAll K H vs (l.map Rep.data) := by
  unfold Reps at h
  induction h with
  | nil => exact .nil
  | cons r _ ih => exact .cons (Rep.dp r) ih
theorem Reps.len {α : Type} [Rep α] {H : Hp} {vs : List V} {l : List α} (h : Reps H vs l) : vs.length = l.length := Paired.length h
instance {α : Type} [Rep α] : Rep (List α) := ⟨fun H v l => ∃ a vs, v = .ref a ∧ H a = some (.tup vs) ∧ Reps H vs l,
  fun t ⟨a, vs, e, h, r⟩ => ⟨a, vs, e, t a vs h, r.mono t⟩, fun l => .tuple (l.map Rep.data), fun ⟨a, vs, e, h, r⟩ => by subst e; exact .tup (SqT.of h) r.dp⟩
/-- a tuple of two, of three -/
structure P2 (α β : Type) where
  a : α
  b : β
structure P3 (α β γ : Type) where
  a : α
  b : β
  c : γ
instance {α β : Type} [Rep α] [Rep β] : Rep (P2 α β) := ⟨fun H v p => ∃ t x y, v = .ref t ∧ H t = some (.tup [x, y]) ∧ rep H x p.a ∧ rep H y p.b,
  fun t ⟨a, x, y, e, h, r, s⟩ => ⟨a, x, y, e, t a _ h, Rep.mono t r, Rep.mono t s⟩, fun p => .tuple [Rep.data p.a, Rep.data p.b], fun ⟨a, x, y, e, h, r, s⟩ => by subst e; exact .tup (SqT.of h) (.cons (Rep.dp r) (.cons (Rep.dp s) .nil))⟩
instance {α β γ : Type} [Rep α] [Rep β] [Rep γ] : Rep (P3 α β γ) := ⟨fun H v p => ∃ t x y z, v = .ref t ∧ H t = some (.tup [x, y, z]) ∧ rep H x p.a ∧ rep H y p.b ∧ rep H z p.c,
  fun t ⟨a, x, y, z, e, h, r, s, u⟩ => ⟨a, x, y, z, e, t a _ h, Rep.mono t r, Rep.mono t s, Rep.mono t u⟩, fun p => .tuple [Rep.data p.a, Rep.data p.b, Rep.data p.c],
  fun ⟨a, x, y, z, e, h, r, s, u⟩ => by subst e; exact .tup (SqT.of h) (.cons (Rep.dp r) (.cons (Rep.dp s) (.cons (Rep.dp u) .nil)))⟩
theorem Reps.get {α : Type} [Rep α] {H : Hp} {vs : List V} {l : List α} (h : Reps H vs l) {i : Nat} {x : α} (e : l[i]? = some x) : ∃ v, vs[i]? = some v ∧ rep H v x := by
  unfold Reps at h
  induction h generalizing i with
  | nil => simp at e
  | cons r t ih =>
    cases i with
    | zero => simp at e; subst e; exact ⟨_, rfl, r⟩
    | succ i => simp at e; obtain ⟨v, h1, h2⟩ := ih e; exact ⟨v, by simpa using h1, h2⟩
theorem Reps.get' {α : Type} [Rep α] {H : Hp} {vs : List V} {l : List α} (h : Reps H vs l) {i : Nat} {v : V} (e : vs[i]? = some v) : ∃ x, l[i]? = some x ∧ rep H v x := by
  unfold Reps at h
  induction h generalizing i with
  | nil => simp at e
  | cons r t ih =>
    cases i with
    | zero => simp at e; subst e; exact ⟨_, rfl, r⟩
    | succ i => simp at e; obtain ⟨v, h1, h2⟩ := ih e; exact ⟨v, by simpa using h1, h2⟩
theorem Reps.nil {α : Type} [Rep α] {H : Hp} : Reps H [] ([] : List α) := Paired.nil
theorem Reps.snoc {α : Type} [Rep α] {H : Hp} {vs : List V} {l : List α} {v : V} {x : α} (h : Reps H vs l) (r : rep H v x) : Reps H (vs ++ [v]) (l ++ [x]) := Paired.snoc h r
theorem Reps.ints {H : Hp} {vs : List V} {l : List Int} (h : Reps H vs l) : vs = l.map V.int := by
  unfold Reps at h
  induction h with
  | nil => rfl
  | cons r t ih => rw [List.map_cons, ← ih]; cases r; rfl
theorem Reps.of_ints {H : Hp} : ∀ {l : List Int}, Reps H (l.map V.int) l
  | [] => .nil
  | _ :: _ => .cons rfl Reps.of_ints
theorem Reps.bools {H : Hp} {vs : List V} {l : List Bool} (h : Reps H vs l) : vs = l.map V.bl := by
  unfold Reps at h
  induction h with
  | nil => rfl
  | cons r t ih => rw [List.map_cons, ← ih]; cases r; rfl
theorem rep_tup {α : Type} [Rep α] {H : Hp} {a : Addr} {vs : List V} {l : List α} (h : H a = some (.tup vs)) (r : Reps H vs l) : rep H (.ref a) l := ⟨a, vs, rfl, h, r⟩
theorem rep_new {α : Type} [Rep α] {H : Hp} {p : Addr} {vs : List V} {l : List α} (h : H p = none) (r : Reps H vs l) : rep (upd H p (.tup vs)) (.ref p) l := ⟨p, vs, rfl, upd_same, r.mono (.new h)⟩
theorem rep_ints {H : Hp} {v : V} {l : List Int} (h : rep H v l) : ∃ a, v = .ref a ∧ H a = some (.tup (l.map V.int)) := by
  obtain ⟨a, vs, e, h, r⟩ := h
  exact ⟨a, e, by rw [h, r.ints]⟩
/-! ### one step of a reading -/
def rTupOf (K : PySem.W.Frag) : List V → Hp → VK → Prop := fun xs H Q => ∃ p ys, xs = [.ref p] ∧ ((SqL K H p ys ∧ ∀ l, H l = none → Q (.ref l) (upd H l (.tup ys))) ∨ (SqT K H p ys ∧ Q (.ref p) H))
def rLstOf (K : PySem.W.Frag) : List V → Hp → VK → Prop := fun xs H Q => ∃ p ys, xs = [.ref p] ∧ (SqL K H p ys ∨ SqT K H p ys) ∧ ∀ l, H l = none → Q (.ref l) (upd H l (.lst ys))
def rMaxI2 : List V → Hp → VK → Prop := fun xs H Q => ∃ i j, xs = [.int i, .int j] ∧ Q (.int (if j > i then j else i)) H
def rMinI2 : List V → Hp → VK → Prop := fun xs H Q => ∃ i j, xs = [.int i, .int j] ∧ Q (.int (if j < i then j else i)) H
def rIntOf : List V → Hp → VK → Prop := fun xs H Q => (∃ i, xs = [.int i] ∧ Q (.int i) H) ∨ ∃ k, xs = [.bl k] ∧ Q (.int (if k then 1 else 0)) H
def rAbsI : List V → Hp → VK → Prop := fun xs H Q => ∃ i, xs = [.int i] ∧ Q (.int (if i < 0 then -i else i)) H
section
variable {σ : L2.St} {H : Hp} {K : PySem.W.Frag} {nx bk ct : L2.St → Hp → Prop} {rt : V → Hp → Prop} {te ta tb tc : TE} {t u : TT} {ts tu : TS} {x y v : V} {i j k : Int} {n : Nat} {b c : Bool} {Q : VK} {QB : Bool → Hp → Prop} {QA : List V → Hp → Prop} {QS : L2.St → Hp → Prop}
theorem rd_seq (h : ts ⟨tu ⟨nx, rt, bk, ct⟩, rt, bk, ct⟩ σ H) : tSeq ts tu ⟨nx, rt, bk, ct⟩ σ H := h
theorem rd_next (h : nx σ H) : tNext ⟨nx, rt, bk, ct⟩ σ H := h
theorem rd_asg {g : TG} (h : te σ H fun x H1 => g x σ H1 nx) : tAsg te g ⟨nx, rt, bk, ct⟩ σ H := h
theorem rd_name (h : QS (σ.set n (some v)) H) : gName n v σ H QS := h
theorem rd_ret (h : te σ H rt) : tRet te ⟨nx, rt, bk, ct⟩ σ H := h
theorem rd_drop (h : te σ H fun _ H1 => nx σ H1) : tDrop te ⟨nx, rt, bk, ct⟩ σ H := h
theorem rd_if (h : t σ H fun b H1 => if b = true then ts ⟨nx, rt, bk, ct⟩ σ H1 else tu ⟨nx, rt, bk, ct⟩ σ H1) : tIfS t ts tu ⟨nx, rt, bk, ct⟩ σ H := h
theorem rd_var (e : σ[n]? = some (some v)) (h : Q v H) : tVar n σ H Q := ⟨v, e, h⟩
theorem rd_c (h : Q v H) : tC v σ H Q := h
theorem rd_op {r : R2} (h : ta σ H fun x H1 => tb σ H1 fun y H2 => r x y H2 Q) : tOp r ta tb σ H Q := h
theorem rd_un {r : V → Hp → VK → Prop} (h : ta σ H fun x H1 => r x H1 Q) : tUn r ta σ H Q := h
theorem rd_I0 {g : Int → Int → V} (h : Q (g i j) H) : rI0 g (.int i) (.int j) H Q := ⟨i, j, rfl, rfl, h⟩
theorem rd_I {C : Int → Int → Prop} {g : Int → Int → V} (hc : C i j) (h : Q (g i j) H) : rI C g (.int i) (.int j) H Q := ⟨i, j, rfl, rfl, hc, h⟩
theorem rd_U {g : Int → V} (h : Q (g i) H) : rU g (.int i) H Q := ⟨i, rfl, h⟩
theorem rd_eqI (h : Q (.bl (decide (i = j))) H) : rEq (.int i) (.int j) H Q := ⟨rfl, by rwa [show decide (V.int i = V.int j) = decide (i = j) from by by_cases e : i = j <;> simp [e]]⟩
theorem rd_neI (h : Q (.bl (!decide (i = j))) H) : rNe (.int i) (.int j) H Q := ⟨rfl, by rwa [show decide (V.int i = V.int j) = decide (i = j) from by by_cases e : i = j <;> simp [e]]⟩
theorem rd_eqS {a b : Str} (h : Q (.bl (decide (a = b))) H) : rEq (.str a) (.str b) H Q := ⟨rfl, by rwa [show decide (V.str a = V.str b) = decide (a = b) from by by_cases e : a = b <;> simp [e]]⟩
theorem rd_neS {a b : Str} (h : Q (.bl (!decide (a = b))) H) : rNe (.str a) (.str b) H Q := ⟨rfl, by rwa [show decide (V.str a = V.str b) = decide (a = b) from by by_cases e : a = b <;> simp [e]]⟩
theorem rd_eqB {a b : Bool} (h : Q (.bl (decide (a = b))) H) : rEq (.bl a) (.bl b) H Q := ⟨rfl, by rwa [show decide (V.bl a = V.bl b) = decide (a = b) from by by_cases e : a = b <;> simp [e]]⟩
theorem rd_tB (h : te σ H fun x H1 => ∃ c, x = .bl c ∧ QB c H1) : tB te σ H QB := h
theorem rd_test (h : te σ H fun x H1 => ∃ c, x = .bl c ∧ QB c H1) : tTest te σ H QB := h
theorem rd_bl {P : Bool → Prop} (h : P b) : ∃ c, V.bl b = V.bl c ∧ P c := ⟨b, rfl, h⟩
theorem rd_not (h : t σ H fun c H1 => QB (!c) H1) : tNot t σ H QB := h
theorem rd_and (h : t σ H fun c H1 => if c = true then u σ H1 QB else QB false H1) : tAnd t u σ H QB := h
theorem rd_or (h : t σ H fun c H1 => if c = true then QB true H1 else u σ H1 QB) : tOr t u σ H QB := h
theorem rd_andV (h : ta σ H fun x H1 => ∃ c, x = .bl c ∧ if c = true then tb σ H1 Q else Q (.bl false) H1) : tAndV ta tb σ H Q := h
theorem rd_orV (h : ta σ H fun x H1 => ∃ c, x = .bl c ∧ if c = true then Q (.bl true) H1 else tb σ H1 Q) : tOrV ta tb σ H Q := h
theorem rd_notV (h : ta σ H fun x H1 => ∃ c, x = .bl c ∧ Q (.bl (!c)) H1) : tNotV ta σ H Q := h
theorem rd_ifE (h : t σ H fun c H1 => if c = true then ta σ H1 Q else tb σ H1 Q) : tIf t ta tb σ H Q := h
/-- a if t else b, nothing made on the way: R is what is known of the value -/
theorem rd_ifV (R : V → Prop) (P : Prop) [Decidable P] (ht : ∀ QB : Bool → Hp → Prop, QB (decide P) H → t σ H QB) (h1 : P → ∀ Q' : VK, (∀ v, R v → Q' v H) → ta σ H Q') (h2 : ¬ P → ∀ Q' : VK, (∀ v, R v → Q' v H) → tb σ H Q') (hq : ∀ v, R v → Q v H) : tIf t ta tb σ H Q := ht _ (by
  by_cases h : P
  · rw [if_pos (decide_eq_true h)]; exact h1 h Q hq
  · rw [if_neg (by rw [decide_eq_false h]; exact Bool.false_ne_true)]; exact h2 h Q hq)
theorem rd_chain {r r' : R2} (h : ta σ H fun x H1 => tb σ H1 fun y H2 => r x y H2 fun z H3 => ∃ k, z = .bl k ∧ (if k = true then tc σ H3 fun w' H4 => r' y w' H4 Q else Q (.bl false) H3)) : tChain r r' ta tb tc σ H Q := h
theorem rd_any {p : Addr} {bs : List Bool} (h : H p = some (.lst (bs.map V.bl))) (q : Q (.bl (bs.any id)) H) : rAny K [.ref p] H Q := ⟨p, bs, rfl, SqL.of h, q⟩
theorem rd_all {p : Addr} {bs : List Bool} (h : H p = some (.lst (bs.map V.bl))) (q : Q (.bl (bs.all id)) H) : rAll K [.ref p] H Q := ⟨p, bs, rfl, SqL.of h, q⟩
theorem rd_isN (h : Q (.bl (decide (x = .non))) H) : (fun (x y : V) (H : Hp) (Q : VK) => y = .non ∧ Q (.bl (decide (x = .non))) H) x .non H Q := ⟨rfl, h⟩
theorem rd_nil (h : QA [] H) : tNil σ H QA := h
theorem rd_cons {tr : TA} (h : ta σ H fun x H1 => tr σ H1 fun xs H2 => QA (x :: xs) H2) : tCons ta tr σ H QA := h
theorem rd_CB {r : List V → Hp → VK → Prop} {tr : TA} (h : tr σ H fun vs H1 => r vs H1 Q) : tCB r tr σ H Q := h
theorem rd_call {sp : Sp} {E : XK} {tr : TA} (h : tr σ H fun vs H1 => sp (vs ++ []) H1 Q E) : tCall sp [] E tr σ H Q := h
theorem rd_for {wi : TI} {g : TG} (h : wi σ H fun J H1 => ∃ W : Nat → Nat → L2.St → Hp → Prop, (∃ m, W 0 m σ H1) ∧ ∀ i m σ H, W i m σ H → (J.stop i H ∧ nx σ H) ∨ (J.go i H ∧ ∃ N : L2.St → Hp → Prop, (∀ σ' H', N σ' H' → ∃ m', m' < m ∧ W (i + 1) m' σ' H') ∧ ∀ x H', J.yld i H x H' → g x σ H' fun σ2 H2 => ts ⟨N, rt, nx, N⟩ σ2 H2)) : tFor wi g ts ⟨nx, rt, bk, ct⟩ σ H := h
theorem rd_brk (h : bk σ H) : tBreak ⟨nx, rt, bk, ct⟩ σ H := h
theorem rd_cont (h : ct σ H) : tCont ⟨nx, rt, bk, ct⟩ σ H := h
theorem rd_tup {tr : TA} (h : tr σ H fun xs H1 => xs.length ≤ sizeLine ∧ ∀ p, H1 p = none → Q (.ref p) (upd H1 p (.tup xs))) : tTup tr σ H Q := h
theorem rd_lst {tr : TA} (h : tr σ H fun xs H1 => xs.length ≤ sizeLine ∧ ∀ p, H1 p = none → Q (.ref p) (upd H1 p (.lst xs))) : tLst tr σ H Q := h
theorem rd_yes {A B : Prop} (h : A) : if true = true then A else B := by rw [if_pos rfl]; exact h
theorem rd_nope {A B : Prop} (h : B) : if false = true then A else B := by rw [if_neg Bool.false_ne_true]; exact h
theorem rd_yes2 {A B : Prop} (h : A) : if (!false) = true then A else B := by rw [if_pos (by decide)]; exact h
theorem rd_nope2 {A B : Prop} (h : B) : if (!true) = true then A else B := by rw [if_neg (by decide)]; exact h
theorem rd_dec {P A B : Prop} [Decidable P] (h1 : P → A) (h2 : ¬ P → B) : if decide P = true then A else B := by
  by_cases h : P
  · rw [if_pos (decide_eq_true h)]; exact h1 h
  · rw [if_neg (by rw [decide_eq_false h]; exact Bool.false_ne_true)]; exact h2 h
theorem rd_ndec {P A B : Prop} [Decidable P] (h1 : ¬ P → A) (h2 : P → B) : if (!decide P) = true then A else B := by
  by_cases h : P
  · rw [if_neg (by rw [decide_eq_true h]; decide)]; exact h2 h
  · rw [if_pos (by rw [decide_eq_false h]; rfl)]; exact h1 h
theorem rd_ite {A B : Prop} (h1 : b = true → A) (h2 : b = false → B) : if b = true then A else B := by
  cases b with
  | true => rw [if_pos rfl]; exact h1 rfl
  | false => rw [if_neg Bool.false_ne_true]; exact h2 rfl
/-- len -/
def rLen' (K : PySem.W.Frag) : List V → Hp → VK → Prop := fun xs H Q => ∃ p ys, xs = [.ref p] ∧ (SqL K H p ys ∨ SqT K H p ys) ∧ Q (.int ys.length) H
theorem rd_lenT {α : Type} [Rep α] {l : List α} (h : rep H v l) (q : Q (.int (l.length : Int)) H) : rLen' K [v] H Q := by
  obtain ⟨a, vs, rfl, h, r⟩ := h
  exact ⟨a, vs, rfl, .inr (SqT.of h), by rw [r.len]; exact q⟩
theorem rd_lenL {p : Addr} {ys : List V} (h : H p = some (.lst ys)) (q : Q (.int (ys.length : Int)) H) : rLen' K [V.ref p] H Q := ⟨p, ys, rfl, .inl (SqL.of h), q⟩
/-- items -/
theorem rd_ixT {α : Type} [Rep α] {l : List α} {z : Int} {e : α} (h : rep H v l) (j : Nat) (hz : z = (j : Int)) (hj : l[j]? = some e) (q : ∀ w, rep H w e → Q w H) : rIxT K v (.int z) H Q := by
  obtain ⟨a, vs, rfl, h, r⟩ := h
  obtain ⟨w, hw, rw'⟩ := r.get hj
  exact ⟨a, vs, z, w, rfl, rfl, SqT.of h, by rw [hz]; exact atI_nat hw, q w rw'⟩
theorem rd_ixTI {l : List Int} {z : Int} (h : rep H v l) (hz : 0 ≤ z) (hj : z < (l.length : Int)) (q : Q (.int (l.getD z.toNat 0)) H) : rIxT K v (.int z) H Q := by
  have hj' : z.toNat < l.length := by omega
  refine rd_ixT h z.toNat (by omega) (List.getElem?_eq_getElem hj') fun w hw => ?_
  cases hw
  rw [List.getD_eq_getElem?_getD, List.getElem?_eq_getElem hj'] at q
  exact q
theorem rd_ixTL {α : Type} [Rep α] {l : List (List α)} {z : Int} (h : rep H v l) (hz : 0 ≤ z) (hj : z < (l.length : Int)) (q : ∀ w, rep H w (l.getD z.toNat []) → Q w H) : rIxT K v (.int z) H Q := by
  have hj' : z.toNat < l.length := by omega
  refine rd_ixT h z.toNat (by omega) (List.getElem?_eq_getElem hj') fun w hw => q w ?_
  rw [List.getD_eq_getElem?_getD, List.getElem?_eq_getElem hj']
  exact hw
theorem rd_ixL {p : Addr} {ys : List V} {z : Int} {e : V} (h : H p = some (.lst ys)) (j : Nat) (hz : z = (j : Int)) (hj : ys[j]? = some e) (q : Q e H) : rIxL K (.ref p) (.int z) H Q :=
  ⟨p, ys, z, e, rfl, rfl, SqL.of h, by rw [hz]; exact atI_nat hj, q⟩
theorem rd_ixLI {p : Addr} {l : List Int} {z : Int} (h : H p = some (.lst (l.map V.int))) (hz : 0 ≤ z) (hj : z < (l.length : Int)) (q : Q (.int (l.getD z.toNat 0)) H) : rIxL K (.ref p) (.int z) H Q := by
  have hj' : z.toNat < l.length := by omega
  refine rd_ixL h z.toNat (by omega) (by rw [List.getElem?_map, List.getElem?_eq_getElem hj']; rfl) ?_
  rw [List.getD_eq_getElem?_getD, List.getElem?_eq_getElem hj'] at q
  exact q
/-- the last item -/
theorem atI_neg1 {ys : List V} {e : V} (h : ys.getLast? = some e) : atI ys (-1) = some e := by
  have h0 : ys ≠ [] := by intro z; subst z; cases h
  have h1 : 0 < ys.length := List.length_pos_iff.mpr h0
  unfold atI ixN
  rw [if_neg (by decide), if_pos (by omega)]
  show ys[(-1 + (ys.length : Int)).toNat]? = some e
  rw [show (-1 + (ys.length : Int)).toNat = ys.length - 1 by omega, ← List.getLast?_eq_getElem?]
  exact h
theorem Reps.last {α : Type} [Rep α] {vs : List V} {l : List α} (h : Reps H vs l) {x : α} (e : l.getLast? = some x) : ∃ v, vs.getLast? = some v ∧ rep H v x := by
  rw [List.getLast?_eq_getElem?] at e
  obtain ⟨v, h1, h2⟩ := h.get e
  exact ⟨v, by rw [List.getLast?_eq_getElem?, h.len]; exact h1, h2⟩
theorem rd_ixTlast {α : Type} [Rep α] {l : List α} {e : α} (h : rep H v l) (hj : l.getLast? = some e) (q : ∀ w, rep H w e → Q w H) : rIxT K v (.int (-1)) H Q := by
  obtain ⟨a, vs, rfl, h, r⟩ := h
  obtain ⟨w, hw, rw'⟩ := r.last hj
  exact ⟨a, vs, -1, w, rfl, rfl, SqT.of h, atI_neg1 hw, q w rw'⟩
theorem rd_ixTlastI {l : List Int} (h : rep H v l) (h0 : l ≠ []) (q : Q (.int (l.getLast h0)) H) : rIxT K v (.int (-1)) H Q :=
  rd_ixTlast h (List.getLast?_eq_getLast h0) fun w hw => by cases hw; exact q
theorem rd_p3a {α β γ : Type} [Rep α] [Rep β] [Rep γ] {p : P3 α β γ} (h : rep H v p) (q : ∀ w, rep H w p.a → Q w H) : rIxT K v (.int 0) H Q := by
  obtain ⟨t, x, y, z, rfl, h, r1, r2, r3⟩ := h
  exact ⟨t, _, 0, x, rfl, rfl, SqT.of h, rfl, q x r1⟩
theorem rd_p3b {α β γ : Type} [Rep α] [Rep β] [Rep γ] {p : P3 α β γ} (h : rep H v p) (q : ∀ w, rep H w p.b → Q w H) : rIxT K v (.int 1) H Q := by
  obtain ⟨t, x, y, z, rfl, h, r1, r2, r3⟩ := h
  exact ⟨t, _, 1, y, rfl, rfl, SqT.of h, rfl, q y r2⟩
theorem rd_p3c {α β γ : Type} [Rep α] [Rep β] [Rep γ] {p : P3 α β γ} (h : rep H v p) (q : ∀ w, rep H w p.c → Q w H) : rIxT K v (.int 2) H Q := by
  obtain ⟨t, x, y, z, rfl, h, r1, r2, r3⟩ := h
  exact ⟨t, _, 2, z, rfl, rfl, SqT.of h, rfl, q z r3⟩
/-- xs[i] = v -/
theorem rd_sub {to ti : TE} {s : TSet} (h : to σ H fun o H1 => ti σ H1 fun i H2 => s o i v H2 fun H3 => QS σ H3) : gSub to ti s v σ H QS := h
theorem rd_setL {p : Addr} {ys : List V} {z : Int} {QH : Hp → Prop} (h : H p = some (.lst ys)) (j : Nat) (hz : z = (j : Int)) (hj : j < ys.length) (q : QH (upd H p (.lst (ys.set j v)))) : rSetL (.ref p) (.int z) v H QH :=
  ⟨p, ys, z, j, rfl, rfl, h, by rw [hz]; unfold ixN; rw [if_pos (by omega), if_pos (by omega)]; simp, q⟩
/-- methods of lists -/
theorem rd_BM {T : String} {r : V → List V → Hp → VK → Prop} {to : TE} {tr : TA} (h : to σ H fun x H1 => tyV K T x H1 ∧ tr σ H1 fun xs H2 => r x xs H2 Q) : tBM K T r to tr σ H Q := h
theorem rd_BM0 {T : String} {r : V → List V → Hp → VK → Prop} {to : TE} (h : to σ H fun x H1 => tyV K T x H1 ∧ r x [] H1 Q) : tBM0 K T r to σ H Q := h
theorem ty_lst {p : Addr} {ys : List V} (h : H p = some (.lst ys)) : tyV K "list" (.ref p) H := Or.inl ⟨rfl, ys, SqL.of h⟩
theorem rd_app {p : Addr} {ys : List V} (h : H p = some (.lst ys)) (hz : ys.length < 100000) (q : Q .non (upd H p (.lst (ys ++ [v])))) : rAppend (.ref p) [v] H Q := ⟨p, ys, v, rfl, rfl, h, Nat.lt_of_lt_of_le hz (by decide), q⟩
/-- tuple(list), tuple(tuple), list(..) -/
theorem rd_tupOf {p : Addr} {ys : List V} (h : H p = some (.lst ys)) (q : ∀ l, H l = none → Q (.ref l) (upd H l (.tup ys))) : rTupOf K [V.ref p] H Q := ⟨p, ys, rfl, .inl ⟨SqL.of h, q⟩⟩
theorem rd_listOf {p : Addr} {ys : List V} (h : H p = some (.lst ys)) (q : ∀ l, H l = none → Q (.ref l) (upd H l (.lst ys))) : rLstOf K [V.ref p] H Q := ⟨p, ys, rfl, .inl (SqL.of h), q⟩
/-- [a] * n -/
theorem rd_rep1 {p : Addr} (h : H p = some (.lst [v])) (h0 : 0 ≤ i) (h1 : i ≤ 1000) (q : ∀ p', H p' = none → Q (.ref p') (upd H p' (.lst (List.replicate i.toNat v)))) : rRep (.ref p) (.int i) H Q :=
  ⟨p, i, [v], rfl, rfl, h, by omega, by omega, by
    have e : sizeLine = 16777216 := sizeLine_eq
    simp only [List.length_cons, List.length_nil]; omega, fun p' n => by
    have e : (List.replicate i.toNat [v]).flatten = List.replicate i.toNat v := by
      induction i.toNat with
      | zero => rfl
      | succ m ih => rw [List.replicate_succ, List.replicate_succ, List.flatten_cons, ih]; rfl
    rw [e]; exact q p' n⟩
/-- max, min of two, of three -/
theorem rd_max2 (q : Q (.int (max i j)) H) : rMaxI2 [V.int i, V.int j] H Q := ⟨i, j, rfl, by
  rw [show (if j > i then j else i) = max i j by split <;> omega]; exact q⟩
theorem rd_min2 (q : Q (.int (min i j)) H) : rMinI2 [V.int i, V.int j] H Q := ⟨i, j, rfl, by
  rw [show (if j < i then j else i) = min i j by split <;> omega]; exact q⟩
theorem rd_max3 (q : Q (.int (max i (max j k))) H) : rNuC3 nuMax3 [V.int i, V.int j, V.int k] H Q := by
  refine ⟨.int i, .int j, .int k, .int (max i (max j k)), rfl, ?_, q⟩
  have a : nuMax2 (V.int i) (V.int j) = some (V.int (max i j)) := by
    show some (if decide (i < j) = true then V.int j else V.int i) = _
    by_cases h : i < j
    · rw [decide_eq_true h, if_pos rfl, Int.max_eq_right (by omega)]
    · rw [decide_eq_false h, if_neg Bool.false_ne_true, Int.max_eq_left (by omega)]
  have b : nuMax2 (V.int (max i j)) (V.int k) = some (V.int (max i (max j k))) := by
    show some (if decide (max i j < k) = true then V.int k else V.int (max i j)) = _
    by_cases h : max i j < k
    · rw [decide_eq_true h, if_pos rfl]; congr 2; omega
    · rw [decide_eq_false h, if_neg Bool.false_ne_true]; congr 2; omega
  show (nuMax2 (V.int i) (V.int j)).bind (fun m => nuMax2 m (V.int k)) = _
  rw [a]
  exact b
theorem rd_abs (q : Q (.int (if i < 0 then -i else i)) H) : rAbsI [V.int i] H Q := ⟨i, rfl, q⟩
/-- int(..) -/
theorem rd_intI (q : Q (.int i) H) : rIntOf [V.int i] H Q := .inl ⟨i, rfl, q⟩
theorem rd_intB (q : Q (.int (if b then 1 else 0)) H) : rIntOf [V.bl b] H Q := .inr ⟨b, rfl, q⟩
/-- a, b = t -/
theorem rd_gTup2 {α β : Type} [Rep α] [Rep β] {p : P2 α β} {tg : TGs} (h : rep H v p) (q : ∀ x y, rep H x p.a → rep H y p.b → tg [x, y] σ H QS) : gTup K 2 tg v σ H QS := by
  obtain ⟨t, x, y, rfl, h, r1, r2⟩ := h
  exact ⟨t, [x, y], rfl, SqT.of h, rfl, q x y r1 r2⟩
theorem rd_gTup3 {α β γ : Type} [Rep α] [Rep β] [Rep γ] {p : P3 α β γ} {tg : TGs} (h : rep H v p) (q : ∀ x y z, rep H x p.a → rep H y p.b → rep H z p.c → tg [x, y, z] σ H QS) : gTup K 3 tg v σ H QS := by
  obtain ⟨t, x, y, z, rfl, h, r1, r2, r3⟩ := h
  exact ⟨t, [x, y, z], rfl, SqT.of h, rfl, q x y z r1 r2 r3⟩
theorem rd_gCons {tg : TG} {tgs : TGs} {vs : List V} (h : tg v σ H fun σ' H' => tgs vs σ' H' QS) : gCons tg tgs (v :: vs) σ H QS := ⟨v, vs, rfl, h⟩
theorem rd_gNil (h : QS σ H) : gNil [] σ H QS := ⟨rfl, h⟩
end
/-! ### o[i] op= e, isinstance, == of data -/
section
variable {σ : L2.St} {H : Hp} {K : PySem.W.Frag} {nx bk ct : L2.St → Hp → Prop} {rt : V → Hp → Prop} {Q : VK} {X : Cx} {v w : V} {i j : Int}
theorem rd_augS {to ti te : TE} {tget : V → V → Hp → VK → Prop} {tip : TIp} {tset : TSet} (h : to σ H fun o H1 => ti σ H1 fun i H2 => tget o i H2 fun x H3 => te σ H3 fun y H4 => tip x y H4 fun z H5 => tset o i z H5 fun H6 => nx σ H6) : tAugS to ti te tget tip tset ⟨nx, rt, bk, ct⟩ σ H := h
theorem rd_aug {n : Nat} {te : TE} {ti : TIp} (e : σ[n]? = some (some v)) (h : te σ H fun y H1 => ti v y H1 fun z H2 => nx (σ.set n (some z)) H2) : tAug n te ti ⟨nx, rt, bk, ct⟩ σ H := ⟨v, e, h⟩
theorem rd_ip {f : Int → Int → Int} (h : Q (.int (f i j)) H) : ipI f (.int i) (.int j) H Q := ⟨i, j, rfl, rfl, h⟩
def rPgetL : V → V → Hp → VK → Prop := fun x y H Q => ∃ (p : Addr) (xs : List V) (j : Nat) (v : V), x = .ref p ∧ y = .int (j : Int) ∧ H p = some (.lst xs) ∧ xs[j]? = some v ∧ Q v H
theorem pget_list : PGet X rPgetL := by
  intro pins s σ H o i ov iv Q I ro ri h
  obtain ⟨p, xs, j, v, rfl, rfl, hq, he, q⟩ := h
  cases ro
  obtain ⟨t, rfl⟩ := ri
  obtain ⟨its, r, pl, hz⟩ := I.list (SqL.of hq)
  obtain ⟨w, ew, rw'⟩ := r.get he
  have hl := r.length
  have hj : j < its.length := (List.getElem?_eq_some_iff.mp ew).1
  have e : sizeLine = 16777216 := sizeLine_eq
  exact wpAny_getItem_list pl.isList (by omega) (by omega) (by simpa using ew) ⟨v, H, I, rw', q⟩
theorem rd_pget {p : Addr} {xs : List V} (h : H p = some (.lst xs)) (j : Nat) (hi : i = (j : Int)) (e : xs[j]? = some v) (q : Q v H) : rPgetL (.ref p) (.int i) H Q := ⟨p, xs, j, v, rfl, by rw [hi], h, e, q⟩
/-- isinstance -/
theorem rd_isi {T U : String} {b : Bool} (ty : TyX K H v (.type T)) (h : kitB T U = some b) (q : Q (.bl b) H) : rIsi K [v, .ty U] H Q := ⟨v, .ty U, .type T, .type U, b, rfl, .ty U, ty, kit_ty h, q⟩
theorem ty_int : TyX K H (.int i) (.type "int") := .base (.int i)
theorem ty_non : TyX K H .non (.type "NoneType") := .base .non
theorem ty_tup {a : Addr} {xs : List V} (h : H a = some (.tup xs)) : TyX K H (.ref a) (.type "tuple") := .base (.tup h)
theorem ty_str {x : Str} : TyX K H (.str x) (.type "str") := .base (.str x)
end
/-- data that == compares by what it is -/
class EqRep (α : Type) [R : Rep α] where
  ok : α → Prop
  eqv : ∀ {x y : α}, PyData.eqv (R.data x) (R.data y) = true ↔ x = y
  lay : ∀ {x : α}, ok x → (R.data x).canLay0 = true
  dep : Nat
  deep : ∀ {x : α}, (R.data x).depth ≤ dep
instance : EqRep Int := { ok := fun _ => True, eqv := by intro x y; show (x == y) = true ↔ _; simp, lay := fun _ => rfl, dep := 0, deep := Nat.le_refl 0 }
theorem eqvAll_iff {α : Type} [R : Rep α] [E : EqRep α] : ∀ {l m : List α}, PyData.eqvAll (l.map R.data) (m.map R.data) = true ↔ l = m
  | [], [] => by simp [PyData.eqvAll]
  | [], _ :: _ => by simp [PyData.eqvAll]
  | _ :: _, [] => by simp [PyData.eqvAll]
  | x :: l, y :: m => by
    have h1 := E.eqv (x := x) (y := y)
    have h2 := eqvAll_iff (l := l) (m := m)
    rw [List.map_cons, List.map_cons]
    show (PyData.eqv (R.data x) (R.data y) && PyData.eqvAll (l.map R.data) (m.map R.data)) = true ↔ _
    rw [Bool.and_eq_true, h1, h2]
    simp
theorem layAll {α : Type} [R : Rep α] [E : EqRep α] : ∀ {l : List α}, (∀ x ∈ l, E.ok x) → PyData.canLayAll0 (l.map R.data) = true
  | [], _ => rfl
  | x :: l, h => by
    rw [List.map_cons]
    show ((R.data x).canLay0 && PyData.canLayAll0 (l.map R.data)) = true
    rw [E.lay (h x List.mem_cons_self), layAll fun y hy => h y (List.mem_cons_of_mem _ hy)]
    rfl
theorem depAll {α : Type} [R : Rep α] [E : EqRep α] : ∀ {l : List α}, PyData.depthAll (l.map R.data) ≤ E.dep
  | [] => Nat.zero_le _
  | x :: l => by
    have h1 := E.deep (x := x)
    have h2 := depAll (l := l)
    rw [List.map_cons]
    show max (R.data x).depth (PyData.depthAll (l.map R.data)) ≤ _
    omega
instance {α : Type} [R : Rep α] [E : EqRep α] : EqRep (List α) := {
  ok := fun l => ∀ x ∈ l, E.ok x
  eqv := by intro x y; exact eqvAll_iff
  lay := fun h => layAll h
  dep := E.dep + 1
  deep := Nat.succ_le_succ depAll }
theorem eqv_dec {α : Type} [R : Rep α] [E : EqRep α] [DecidableEq α] (x y : α) : PyData.eqv (R.data x) (R.data y) = decide (x = y) := by
  have h := E.eqv (x := x) (y := y)
  by_cases e : x = y
  · rw [decide_eq_true e]; exact h.mpr e
  · rw [decide_eq_false e]
    cases q : PyData.eqv (R.data x) (R.data y) with
    | false => rfl
    | true => exact absurd (h.mp q) e
theorem shaped_of {α : Type} [R : Rep α] [E : EqRep α] {x : α} (h : E.ok x) (hd : E.dep ≤ 64) : SeqAt.shaped (R.data x) = true := by
  unfold SeqAt.shaped
  rw [E.lay h, Bool.true_and]
  exact decide_eq_true (Nat.le_trans E.deep hd)
section
variable {H : Hp} {K : PySem.W.Frag} {Q : VK} {v w : V}
theorem rd_eqD {α : Type} [Rep α] [E : EqRep α] [DecidableEq α] {x y : α} (r1 : rep H v x) (r2 : rep H w y) (h1 : E.ok x) (h2 : E.ok y) (hd : E.dep ≤ 64) (q : Q (.bl (decide (x = y))) H) : rEqD K v w H Q :=
  ⟨_, _, Rep.dp r1, Rep.dp r2, shaped_of h1 hd, shaped_of h2 hd, by rw [eqv_dec]; exact q⟩
theorem rd_neD {α : Type} [Rep α] [E : EqRep α] [DecidableEq α] {x y : α} (r1 : rep H v x) (r2 : rep H w y) (h1 : E.ok x) (h2 : E.ok y) (hd : E.dep ≤ 64) (q : Q (.bl (!decide (x = y))) H) : rNeD K v w H Q :=
  ⟨_, _, Rep.dp r1, Rep.dp r2, shaped_of h1 hd, shaped_of h2 hd, by rw [eqv_dec]; exact q⟩
theorem tab_ok (t : List (List Int)) : (inferInstance : EqRep (List (List Int))).ok t := fun _ _ _ _ => trivial
theorem ints_ok (t : List Int) : (inferInstance : EqRep (List Int)).ok t := fun _ _ => trivial
end
/-! ### what a for walks -/
section
variable {σ : L2.St} {H : Hp} {K : PySem.W.Frag} {te : TE} {ta : TA} {R : It → Hp → Prop}
theorem rd_iTup (h : te σ H fun x H1 => ∃ a, x = .ref a ∧ (∃ xs, SqT K H1 a xs) ∧ R (Itt K a) H1) : iTup K te σ H R := h
theorem rd_iList (h : te σ H fun x H1 => ∃ a, x = .ref a ∧ (∃ xs, SqL K H1 a xs) ∧ R (Itl K a) H1) : iList K te σ H R := h
theorem rd_iRng1 (h : ta σ H fun vs H1 => ∃ j : Int, vs = [.int j] ∧ -(2 ^ 62) ≤ j ∧ j < 2 ^ 62 ∧ R (Itr 0 j.toNat) H1) : iRng1 ta σ H R := h
theorem rd_iRng2 (h : ta σ H fun vs H1 => ∃ i j : Int, vs = [.int i, .int j] ∧ (-(2 ^ 62) ≤ i ∧ i < 2 ^ 62 ∧ -(2 ^ 62) ≤ j ∧ j < 2 ^ 62) ∧ R (Itr i (j - i).toNat) H1) : iRng2 ta σ H R := h
/-! the rules with the written part told -/
variable {X : Cx}
theorem ixT (K : PySem.W.Frag) (e : X.K = K := by rfl) : IxR X (rIxT K) := by subst e; exact ix_tup
theorem ixL (K : PySem.W.Frag) (e : X.K = K := by rfl) : IxR X (rIxL K) := by subst e; exact ix_list
theorem piT (K : PySem.W.Frag) {tg l : Expr} {tl : TE} (h : PE X l tl) (e : X.K = K := by rfl) : PI X tg l (iTup K tl) := by subst e; exact pi_tup h
theorem piL (K : PySem.W.Frag) {tg l : Expr} {tl : TE} (h : PE X l tl) (e : X.K = K := by rfl) : PI X tg l (iList K tl) := by subst e; exact pi_list h
theorem cLen (K : PySem.W.Frag) (e : X.K = K := by rfl) : CallR X (.builtin "len") (rLen' K) := by subst e; exact call_len_seq
theorem cTup (K : PySem.W.Frag) (e : X.K = K := by rfl) : CallR X (.type "tuple") (rTupOf K) := by subst e; exact call_tuple_of
theorem cLst (K : PySem.W.Frag) (e : X.K = K := by rfl) : CallR X (.type "list") (rLstOf K) := by subst e; exact call_list_of
theorem cMax2 (hc : X.calm = true) : CallR X (.builtin "max") rMaxI2 := call_max2 hc
theorem cMin2 (hc : X.calm = true) : CallR X (.builtin "min") rMinI2 := call_min2 hc
theorem cMax3 (hc : X.calm = true) : CallR X (.builtin "max") (rNuC3 nuMax3) := call_max3Nu hc
theorem cInt : CallR X (.type "int") rIntOf := call_int1
theorem cAbs : CallR X (.builtin "abs") rAbsI := call_abs
theorem cMaxL (K : PySem.W.Frag) (hc : X.calm = true) (e : X.K = K := by rfl) : CallR X (.builtin "max") (rMax K) := by subst e; exact cr_max hc
theorem cMinL (K : PySem.W.Frag) (hc : X.calm = true) (e : X.K = K := by rfl) : CallR X (.builtin "min") (rMin K) := by subst e; exact cr_min hc
theorem cAll (K : PySem.W.Frag) (hc : X.calm = true) (e : X.K = K := by rfl) : CallR X (.builtin "all") (rAll K) := by subst e; exact cr_all hc
theorem cAny (K : PySem.W.Frag) (hc : X.calm = true) (e : X.K = K := by rfl) : CallR X (.builtin "any") (rAny K) := by subst e; exact cr_any hc
theorem cIsi (K : PySem.W.Frag) (e : X.K = K := by rfl) : CallR X (.builtin "isinstance") (rIsi K) := by subst e; exact call_isi
theorem pgT (K : PySem.W.Frag) {es : List Expr} {kk : Nat} {pos : Pos} {t : TGs} {n : Nat} (hc : X.calm = true) (h : PGs X es t) (hn : (assignEach es X.env).length = n := by rfl) (hst : (assignEach es X.env).findIdx? (·.1) = none := by rfl) (e : X.K = K := by rfl) : PG X (.Tuple es kk pos) (gTup K n t) := by subst e; exact pg_tup hc h hn hst
theorem bmK (K : PySem.W.Frag) {name T id : String} {o e : Expr} {es : List Expr} {to : TE} {t : TA} {r : V → List V → Hp → VK → Prop} {apos cpos : Pos} (pa : PlainAttrs T) (slot : Slot T name id) (hty : typeOf (.builtin id) = pure (.type "method_descriptor")) (hm : MtR X id r) (ho : PE X o to) (ha : PA X (e :: es) t)
    (hbase : attributeBase o name X.env (eval o X.env) = eval o X.env := by rfl)
    (hfew : ((backTo cpos (starEach (e :: es) X.env)).all (fun x => !x.1) && (backToKw cpos (keywordEach [] X.env)).all (fun x => x.1.isSome)
      && decide ((e :: es).length + ([] : List Keyword).length + (if ([] : List Keyword).isEmpty then 0 else 1) < 30)) = true := by rfl)
    (hline : (apos.endLine == cpos.line) = true := by rfl) (hs : starEach (e :: es) X.env = (false, eval e X.env) :: starEach es X.env := by rfl) (hplain : (backTo cpos (starEach es X.env)).any (·.1) = false := by rfl) (eK : X.K = K := by rfl) :
    PE X (.Call (.Attribute o name apos) (e :: es) [] cpos) (tBM K T r to t) := by subst eK; exact pe_bm pa slot hty hm ho ha hbase hfew hline hs hplain
theorem bmK0 (K : PySem.W.Frag) {name T id : String} {o : Expr} {to : TE} {r : V → List V → Hp → VK → Prop} {apos cpos : Pos} (pa : PlainAttrs T) (slot : Slot T name id) (hty : typeOf (.builtin id) = pure (.type "method_descriptor")) (hm : MtR X id r) (ho : PE X o to)
    (hbase : attributeBase o name X.env (eval o X.env) = eval o X.env := by rfl) (hline : (apos.endLine == cpos.line) = true := by rfl) (eK : X.K = K := by rfl) : PE X (.Call (.Attribute o name apos) [] [] cpos) (tBM0 K T r to) := by subst eK; exact pe_bm0 pa slot hty hm ho hbase hline
theorem opEqD (K : PySem.W.Frag) (hu : X.A.units + 64 < cLine) (e : X.K = K := by rfl) : OpR X (compareOp .Eq) (rEqD K) := by subst e; exact op_eqD hu
theorem opNeD (K : PySem.W.Frag) (hu : X.A.units + 64 < cLine) (e : X.K = K := by rfl) : OpR X (compareOp .NotEq) (rNeD K) := by subst e; exact op_neD hu
theorem opInD (K : PySem.W.Frag) (hu : X.A.units + 65 < cLine) (e : X.K = K := by rfl) : OpR X (compareOp .In) (rInD K) := by subst e; exact op_inD hu
theorem opNotInD (K : PySem.W.Frag) (hu : X.A.units + 65 < cLine) (e : X.K = K := by rfl) : OpR X (compareOp .NotIn) (rNotInD K) := by subst e; exact op_notInD hu
theorem opCatA (K : PySem.W.Frag) (e : X.K = K := by rfl) : OpR X (binaryOp .Add) (rCatA K) := by subst e; exact op_catA
theorem slTA (K : PySem.W.Frag) (e : X.K = K := by rfl) : SlR X (rSlA K) := by subst e; exact sl_tupA
theorem slL (K : PySem.W.Frag) (e : X.K = K := by rfl) : SlR X (rSlL K) := by subst e; exact sl_list
end
/-! ### loops -/
section
variable {σ : L2.St} {H : Hp} {K : PySem.W.Frag} {nx bk ct : L2.St → Hp → Prop} {rt : V → Hp → Prop} {tb : TS} {g : TG}
/-- for i in range(n) -/
theorem r_range1 {n : Int} (hn : n < 2 ^ 62 := by omega) (hm : -(2 ^ 62) ≤ n := by omega) (Pv : Nat → L2.St → Hp → Prop) (h0 : Pv 0 σ H)
    (hs : ∀ (i : Nat) σ H, (i : Int) < n → Pv i σ H → g (.int (i : Int)) σ H fun σ2 H2 => tb ⟨Pv (i + 1), rt, nx, Pv (i + 1)⟩ σ2 H2) (hd : ∀ σ H, Pv n.toNat σ H → nx σ H) :
    ∃ j : Int, [V.int n] = [V.int j] ∧ -(2 ^ 62) ≤ j ∧ j < 2 ^ 62 ∧ ∃ W : Nat → Nat → L2.St → Hp → Prop, (∃ m, W 0 m σ H) ∧ ∀ i m σ H, W i m σ H → ((Itr 0 j.toNat).stop i H ∧ nx σ H) ∨ ((Itr 0 j.toNat).go i H ∧ ∃ N : L2.St → Hp → Prop, (∀ σ' H', N σ' H' → ∃ m', m' < m ∧ W (i + 1) m' σ' H') ∧ ∀ x H', (Itr 0 j.toNat).yld i H x H' → g x σ H' fun σ2 H2 => tb ⟨N, rt, nx, N⟩ σ2 H2) :=
  ⟨n, rfl, hm, hn, for_range (D := ⟨nx, rt, nx, nx⟩) (lo := 0) (n := n.toNat) Pv h0 (fun i σ H hi p => by
    have e : (0 : Int) + (i : Int) = (i : Int) := Int.zero_add _
    rw [e]; exact hs i σ H (by omega) p) hd⟩
theorem r_range2 {lo n : Int} (hl : 0 ≤ lo ∧ lo < 2 ^ 62 := by omega) (hn : n < 2 ^ 62 := by omega) (hm : -(2 ^ 62) ≤ n := by omega) (Pv : Nat → L2.St → Hp → Prop) (h0 : Pv 0 σ H)
    (hs : ∀ (i : Nat) σ H, lo + (i : Int) < n → Pv i σ H → g (.int (lo + (i : Int))) σ H fun σ2 H2 => tb ⟨Pv (i + 1), rt, nx, Pv (i + 1)⟩ σ2 H2) (hd : ∀ σ H, Pv (n - lo).toNat σ H → nx σ H) :
    ∃ i j : Int, [V.int lo, V.int n] = [V.int i, V.int j] ∧ (-(2 ^ 62) ≤ i ∧ i < 2 ^ 62 ∧ -(2 ^ 62) ≤ j ∧ j < 2 ^ 62) ∧ ∃ W : Nat → Nat → L2.St → Hp → Prop, (∃ m, W 0 m σ H) ∧ ∀ i' m σ H, W i' m σ H → ((Itr i (j - i).toNat).stop i' H ∧ nx σ H) ∨ ((Itr i (j - i).toNat).go i' H ∧ ∃ N : L2.St → Hp → Prop, (∀ σ' H', N σ' H' → ∃ m', m' < m ∧ W (i' + 1) m' σ' H') ∧ ∀ x H', (Itr i (j - i).toNat).yld i' H x H' → g x σ H' fun σ2 H2 => tb ⟨N, rt, nx, N⟩ σ2 H2) :=
  ⟨lo, n, rfl, ⟨by omega, by omega, by omega, by omega⟩, for_range (D := ⟨nx, rt, nx, nx⟩) (lo := lo) (n := (n - lo).toNat) Pv h0 (fun i σ H hi p => hs i σ H (by omega) p) hd⟩
/-- for x in t, t a tuple -/
theorem r_tup {α : Type} [Rep α] {v : V} {l : List α} {H0 : Hp} (h : rep H0 v l) (Pv : Nat → L2.St → Hp → Prop) (h0 : Pv 0 σ H) (hl : ∀ i σ' H', Pv i σ' H' → Ti H0 H')
    (hs : ∀ i x w σ' H', l[i]? = some x → i < l.length → rep H' w x → Pv i σ' H' → g w σ' H' fun σ2 H2 => tb ⟨Pv (i + 1), rt, nx, Pv (i + 1)⟩ σ2 H2) (hd : ∀ σ' H', Pv l.length σ' H' → nx σ' H') :
    ∃ a, v = .ref a ∧ (∃ xs, SqT K H a xs) ∧ ∃ W : Nat → Nat → L2.St → Hp → Prop, (∃ m, W 0 m σ H) ∧ ∀ i m σ H, W i m σ H → ((Itt K a).stop i H ∧ nx σ H) ∨ ((Itt K a).go i H ∧ ∃ N : L2.St → Hp → Prop, (∀ σ' H', N σ' H' → ∃ m', m' < m ∧ W (i + 1) m' σ' H') ∧ ∀ x H', (Itt K a).yld i H x H' → g x σ H' fun σ2 H2 => tb ⟨N, rt, nx, N⟩ σ2 H2) := by
  obtain ⟨a, vs, rfl, h, r⟩ := h
  have e := r.len
  refine ⟨a, rfl, ⟨vs, SqT.of (hl 0 σ H h0 a vs h)⟩, for_tup (D := ⟨nx, rt, nx, nx⟩) (xs := vs) Pv h0 (fun i σ' H' _ p => SqT.of (hl i σ' H' p a vs h)) (fun i w σ' H' hw p => ?_) (fun σ' H' p => hd σ' H' (by rw [← e]; exact p))⟩
  obtain ⟨x, hx, rx⟩ := r.get' hw
  exact hs i x w σ' H' hx (List.getElem?_eq_some_iff.mp hx).1 (Rep.mono (hl i σ' H' p) rx) p
/-- for x in l, l a list that stays -/
theorem r_lst {p : Addr} {ys : List V} (h : H p = some (.lst ys)) (Pv : Nat → L2.St → Hp → Prop) (h0 : Pv 0 σ H) (hl : ∀ i σ' H', Pv i σ' H' → H' p = some (.lst ys))
    (hs : ∀ i w σ' H', ys[i]? = some w → i < ys.length → Pv i σ' H' → g w σ' H' fun σ2 H2 => tb ⟨Pv (i + 1), rt, nx, Pv (i + 1)⟩ σ2 H2) (hd : ∀ σ' H', Pv ys.length σ' H' → nx σ' H') :
    ∃ a, V.ref p = .ref a ∧ (∃ xs, SqL K H a xs) ∧ ∃ W : Nat → Nat → L2.St → Hp → Prop, (∃ m, W 0 m σ H) ∧ ∀ i m σ H, W i m σ H → ((Itl K a).stop i H ∧ nx σ H) ∨ ((Itl K a).go i H ∧ ∃ N : L2.St → Hp → Prop, (∀ σ' H', N σ' H' → ∃ m', m' < m ∧ W (i + 1) m' σ' H') ∧ ∀ x H', (Itl K a).yld i H x H' → g x σ H' fun σ2 H2 => tb ⟨N, rt, nx, N⟩ σ2 H2) :=
  ⟨p, rfl, ⟨ys, SqL.of h⟩, for_list (D := ⟨nx, rt, nx, nx⟩) (xs := ys) Pv h0 (fun i σ' H' _ q => SqL.of (hl i σ' H' q)) (fun i w σ' H' hw q => hs i w σ' H' hw (List.getElem?_eq_some_iff.mp hw).1 q) hd⟩
end
end Fw
namespace Fw
open PySem PySem.Spec PyProof.Rows L2
open Rep (rep)
/-! ### list comprehensions -/
section
variable {σ : L2.St} {H : Hp} {K : PySem.W.Frag} {g : TG} {tt : TT} {te : TE} {vs : List Nat} {Q : VK} {k : Nat}
/-- what a comprehension asks of what it walks -/
def LcW (g : TG) (tt : TT) (te : TE) (vs : List Nat) (σ : L2.St) (Q : VK) (J : It) (H1 : Hp) : Prop := ∀ D, H1 D = none → ∃ W : Nat → Nat → Hp → Prop, (∃ m, W 0 m (upd H1 D (.lst []))) ∧ ∀ i m H, W i m H →
  (J.stop i H ∧ Q (.ref D) H) ∨ (J.go i H ∧ ∃ Nx : Hp → Prop, (∀ H', Nx H' → ∃ m', m' < m ∧ W (i + 1) m' H') ∧ ∀ x H', J.yld i H x H' → g x (wipe σ vs) H' fun σ2 H2 => wipe σ2 vs = wipe σ vs ∧ tt σ2 H2 fun b H3 =>
    if b = true then te σ2 H3 fun y H4 => ∃ acc, H4 D = some (.lst acc) ∧ acc.length < sizeLine ∧ Nx (upd H4 D (.lst (acc ++ [y]))) else Nx H3)
theorem rd_lc {wi : TI} (h : wi σ H fun J H1 => LcW g tt te vs σ Q J H1) : tLc wi g tt te vs σ H Q := h
theorem ltLine {n : Nat} (h : n ≤ 100000) : n < sizeLine := Nat.lt_of_le_of_lt h (by decide)
theorem rd_tYes {QB : Bool → Hp → Prop} (h : QB true H) : tYes σ H QB := h
/-- the turn of a comprehension without tests -/
def LcTurn (te : TE) (σ' : L2.St) (H' : Hp) (D : Addr) (ys : List V) (P : List V → Hp → Prop) : Prop := ∀ Q' : VK, (∀ y H4, H4 D = some (.lst ys) → P (ys ++ [y]) (upd H4 D (.lst (ys ++ [y]))) → Q' y H4) → te σ' H' Q'
theorem lc_fin {D : Addr} {i : Nat} {x : V} {ys : List V} {H' : Hp} {Pv : Nat → List V → Hp → Prop} (hl : ys.length ≤ i) (hi : i ≤ 100000) (hw : ∀ v, wipe ((wipe σ vs).set k v) vs = wipe σ vs) (h : LcTurn te ((wipe σ vs).set k (some x)) H' D ys (Pv (i + 1))) :
    gName k x (wipe σ vs) H' fun σ2 H2 => wipe σ2 vs = wipe σ vs ∧ tYes σ2 H2 fun b H3 =>
      if b = true then te σ2 H3 fun y H4 => ∃ acc, H4 D = some (.lst acc) ∧ acc.length < sizeLine ∧ ∃ ys, ys.length ≤ i + 1 ∧ Pv (i + 1) ys (upd H4 D (.lst (acc ++ [y]))) else ∃ ys, ys.length ≤ i + 1 ∧ Pv (i + 1) ys H3 := by
  refine ⟨hw _, rd_tYes (rd_yes ?_)⟩
  exact h _ fun y H4 e q => ⟨ys, e, ltLine (by omega), ys ++ [y], by simp; omega, q⟩
/-- [e for x in range(n)], the list told at each turn -/
theorem lcR_raw {n : Int} (hn : n ≤ 100000) (hm : -(2 ^ 62) ≤ n) (Pv : Addr → Nat → List V → Hp → Prop) (hw : ∀ v, wipe ((wipe σ vs).set k v) vs = wipe σ vs) (h0 : ∀ D, H D = none → Pv D 0 [] (upd H D (.lst [])))
    (hs : ∀ D (i : Nat) (ys : List V) H', H D = none → (i : Int) < n → Pv D i ys H' → LcTurn te ((wipe σ vs).set k (some (.int (i : Int)))) H' D ys (Pv D (i + 1)))
    (hd : ∀ D (ys : List V) H', H D = none → Pv D n.toNat ys H' → Q (.ref D) H') :
    ∃ j : Int, [V.int n] = [V.int j] ∧ -(2 ^ 62) ≤ j ∧ j < 2 ^ 62 ∧ LcW (gName k) tYes te vs σ Q (Itr 0 j.toNat) H := by
  refine ⟨n, rfl, hm, by omega, fun D hD => lc_range (lo := 0) (n := n.toNat) (fun i H' => ∃ ys, ys.length ≤ i ∧ Pv D i ys H') ⟨[], by simp, h0 D hD⟩ (fun i H' hi ⟨ys, hl, p⟩ => ?_) fun H' ⟨ys, hl, p⟩ => hd D ys H' hD p⟩
  have e : (0 : Int) + (i : Int) = (i : Int) := Int.zero_add _
  rw [e]
  exact lc_fin hl (by omega) hw (hs D i ys H' hD (by omega) p)
/-- .. over range(lo, n) -/
theorem lcR2_raw {lo n : Int} (hb : -(2 ^ 62) ≤ lo ∧ lo < 2 ^ 62) (hn : n - lo ≤ 100000) (hm : -(2 ^ 62) ≤ n ∧ n < 2 ^ 62) (Pv : Addr → Nat → List V → Hp → Prop) (hw : ∀ v, wipe ((wipe σ vs).set k v) vs = wipe σ vs) (h0 : ∀ D, H D = none → Pv D 0 [] (upd H D (.lst [])))
    (hs : ∀ D (i : Nat) (ys : List V) H', H D = none → lo + (i : Int) < n → Pv D i ys H' → LcTurn te ((wipe σ vs).set k (some (.int (lo + (i : Int))))) H' D ys (Pv D (i + 1)))
    (hd : ∀ D (ys : List V) H', H D = none → Pv D (n - lo).toNat ys H' → Q (.ref D) H') :
    ∃ i j : Int, [V.int lo, V.int n] = [V.int i, V.int j] ∧ (-(2 ^ 62) ≤ i ∧ i < 2 ^ 62 ∧ -(2 ^ 62) ≤ j ∧ j < 2 ^ 62) ∧ LcW (gName k) tYes te vs σ Q (Itr i (j - i).toNat) H := by
  refine ⟨lo, n, rfl, ⟨hb.1, hb.2, hm.1, hm.2⟩, fun D hD => lc_range (lo := lo) (n := (n - lo).toNat) (fun i H' => ∃ ys, ys.length ≤ i ∧ Pv D i ys H') ⟨[], by simp, h0 D hD⟩ (fun i H' hi ⟨ys, hl, p⟩ => ?_) fun H' ⟨ys, hl, p⟩ => hd D ys H' hD p⟩
  exact lc_fin hl (by omega) hw (hs D i ys H' hD (by omega) p)
/-- .. over a tuple -/
theorem lcT_raw {α : Type} [Rep α] {v : V} {l : List α} {H0 : Hp} (h : rep H0 v l) (hn : l.length ≤ 100000) (Pv : Addr → Nat → List V → Hp → Prop) (hw : ∀ v, wipe ((wipe σ vs).set k v) vs = wipe σ vs) (h0 : ∀ D, H D = none → Pv D 0 [] (upd H D (.lst [])))
    (h00 : Ti H0 H) (hl : ∀ D i ys H', H D = none → Pv D i ys H' → Ti H0 H')
    (hs : ∀ D (i : Nat) (ys : List V) H' w x, H D = none → l[i]? = some x → i < l.length → rep H' w x → Pv D i ys H' → LcTurn te ((wipe σ vs).set k (some w)) H' D ys (Pv D (i + 1)))
    (hd : ∀ D (ys : List V) H', H D = none → Pv D l.length ys H' → Q (.ref D) H') :
    ∃ a, v = .ref a ∧ (∃ xs, SqT K H a xs) ∧ LcW (gName k) tYes te vs σ Q (Itt K a) H := by
  obtain ⟨a, us, rfl, h, r⟩ := h
  have e := r.len
  refine ⟨a, rfl, ⟨us, SqT.of (h00 a us h)⟩, fun D hD => lc_tup (xs := us) (fun i H' => ∃ ys, ys.length ≤ i ∧ Pv D i ys H') ⟨[], by simp, h0 D hD⟩ (fun i H' _ ⟨ys, _, p⟩ => SqT.of (hl D i ys H' hD p a us h)) (fun i w H' hw' ⟨ys, hly, p⟩ => ?_) fun H' ⟨ys, hly, p⟩ => hd D ys H' hD (by rw [← e]; exact p)⟩
  obtain ⟨x, hx, rx⟩ := r.get' hw'
  have hi := (List.getElem?_eq_some_iff.mp hx).1
  exact lc_fin hly (by omega) hw (hs D i ys H' w x hD hx hi (Rep.mono (hl D i ys H' hD p) rx) p)
/-- .. over a list that stays -/
theorem lcL_raw {p : Addr} {zs : List V} (h : H p = some (.lst zs)) (hn : zs.length ≤ 100000) (Pv : Addr → Nat → List V → Hp → Prop) (hw : ∀ v, wipe ((wipe σ vs).set k v) vs = wipe σ vs) (h0 : ∀ D, H D = none → Pv D 0 [] (upd H D (.lst [])))
    (hl : ∀ D i ys H', H D = none → Pv D i ys H' → H' p = some (.lst zs))
    (hs : ∀ D (i : Nat) (ys : List V) H' w, H D = none → zs[i]? = some w → i < zs.length → Pv D i ys H' → LcTurn te ((wipe σ vs).set k (some w)) H' D ys (Pv D (i + 1)))
    (hd : ∀ D (ys : List V) H', H D = none → Pv D zs.length ys H' → Q (.ref D) H') :
    ∃ a, V.ref p = .ref a ∧ (∃ xs, SqL K H a xs) ∧ LcW (gName k) tYes te vs σ Q (Itl K a) H := by
  refine ⟨p, rfl, ⟨zs, SqL.of h⟩, fun D hD => lc_list (xs := zs) (fun i H' => ∃ ys, ys.length ≤ i ∧ Pv D i ys H') ⟨[], by simp, h0 D hD⟩ (fun i H' _ ⟨ys, _, q⟩ => SqL.of (hl D i ys H' hD q)) (fun i w H' hw' ⟨ys, hly, q⟩ => ?_) fun H' ⟨ys, hly, q⟩ => hd D ys H' hD q⟩
  have hi := (List.getElem?_eq_some_iff.mp hw').1
  exact lc_fin hly (by omega) hw (hs D i ys H' w hD hw' hi q)
/-! the elements change nothing -/
/-- an element that is evaluated without a change -/
def Pur {α : Type} [Rep α] (te : TE) (σ' : L2.St) (H' : Hp) (x : α) : Prop := ∀ Q' : VK, (∀ y H4, Ex H' H4 → rep H4 y x → Q' y H4) → te σ' H' Q'
def PvP {α : Type} [Rep α] (H : Hp) (l : List α) (D : Addr) (i : Nat) (ys : List V) (H' : Hp) : Prop := Ex H H' ∧ H' D = some (.lst ys) ∧ Reps H' ys (l.take i)
theorem pvp_0 {α : Type} [Rep α] {l : List α} {D : Addr} (h : H D = none) : PvP H l D 0 [] (upd H D (.lst [])) := ⟨Ex.new h, upd_same, by rw [List.take_zero]; exact Reps.nil⟩
theorem pvp_turn {α : Type} [Rep α] {l : List α} {D : Addr} {i : Nat} {ys : List V} {H' : Hp} {x : α} {σ' : L2.St} (h : H D = none) (hx : l[i]? = some x) (p : PvP H l D i ys H') (t : Pur te σ' H' x) : LcTurn te σ' H' D ys (PvP H l D (i + 1)) := fun Q' q => by
  obtain ⟨e, hd, r⟩ := p
  refine t Q' fun y H4 e4 ry => q y H4 (e4 D _ hd) ⟨Ex.mut (e.trans e4) h, upd_same, ?_⟩
  have t4 : Ti H' (upd H4 D (.lst (ys ++ [y]))) := e4.ti.trans (Ti.lst (e4 D _ hd))
  rw [List.take_add_one, hx]
  exact (r.mono t4).snoc (Rep.mono (Ti.lst (e4 D _ hd)) ry)
theorem pvp_end {α : Type} [Rep α] {l : List α} {D : Addr} {n : Nat} {ys : List V} {H' : Hp} (p : PvP H l D n ys H') (hn : l.length ≤ n) : Ex H H' ∧ H' D = some (.lst ys) ∧ Reps H' ys l := ⟨p.1, p.2.1, by have r := p.2.2; rw [List.take_of_length_le hn] at r; exact r⟩
theorem lcR {α : Type} [Rep α] {n : Int} (f : Nat → α) (hn : n ≤ 100000) (hm : -(2 ^ 62) ≤ n) (hw : ∀ v, wipe ((wipe σ vs).set k v) vs = wipe σ vs)
    (hs : ∀ (i : Nat) H', (i : Int) < n → Ex H H' → Pur te ((wipe σ vs).set k (some (.int (i : Int)))) H' (f i))
    (hd : ∀ D (ys : List V) H', H D = none → Ex H H' → H' D = some (.lst ys) → Reps H' ys ((List.range n.toNat).map f) → Q (.ref D) H') :
    ∃ j : Int, [V.int n] = [V.int j] ∧ -(2 ^ 62) ≤ j ∧ j < 2 ^ 62 ∧ LcW (gName k) tYes te vs σ Q (Itr 0 j.toNat) H :=
  lcR_raw hn hm (PvP H ((List.range n.toNat).map f)) hw (fun D h => pvp_0 h) (fun D i ys H' h hi p => pvp_turn h (by rw [List.getElem?_map, List.getElem?_range (by omega)]; rfl) p (hs i H' hi p.1))
    fun D ys H' h p => let ⟨a, b, c⟩ := pvp_end p (by simp); hd D ys H' h a b c
theorem lcR2 {α : Type} [Rep α] {lo n : Int} (f : Nat → α) (hb : -(2 ^ 62) ≤ lo ∧ lo < 2 ^ 62) (hn : n - lo ≤ 100000) (hm : -(2 ^ 62) ≤ n ∧ n < 2 ^ 62) (hw : ∀ v, wipe ((wipe σ vs).set k v) vs = wipe σ vs)
    (hs : ∀ (i : Nat) H', lo + (i : Int) < n → Ex H H' → Pur te ((wipe σ vs).set k (some (.int (lo + (i : Int))))) H' (f i))
    (hd : ∀ D (ys : List V) H', H D = none → Ex H H' → H' D = some (.lst ys) → Reps H' ys ((List.range (n - lo).toNat).map f) → Q (.ref D) H') :
    ∃ i j : Int, [V.int lo, V.int n] = [V.int i, V.int j] ∧ (-(2 ^ 62) ≤ i ∧ i < 2 ^ 62 ∧ -(2 ^ 62) ≤ j ∧ j < 2 ^ 62) ∧ LcW (gName k) tYes te vs σ Q (Itr i (j - i).toNat) H :=
  lcR2_raw hb hn hm (PvP H ((List.range (n - lo).toNat).map f)) hw (fun D h => pvp_0 h) (fun D i ys H' h hi p => pvp_turn h (by rw [List.getElem?_map, List.getElem?_range (by omega)]; rfl) p (hs i H' hi p.1))
    fun D ys H' h p => let ⟨a, b, c⟩ := pvp_end p (by simp); hd D ys H' h a b c
theorem lcT {α β : Type} [Rep α] [Rep β] {v : V} {l : List α} {H0 : Hp} (f : α → β) (h : rep H0 v l) (h00 : Ti H0 H) (hn : l.length ≤ 100000) (hw : ∀ v, wipe ((wipe σ vs).set k v) vs = wipe σ vs)
    (hs : ∀ (i : Nat) H' w x, l[i]? = some x → rep H' w x → Ex H H' → Pur te ((wipe σ vs).set k (some w)) H' (f x))
    (hd : ∀ D (ys : List V) H', H D = none → Ex H H' → H' D = some (.lst ys) → Reps H' ys (l.map f) → Q (.ref D) H') :
    ∃ a, v = .ref a ∧ (∃ xs, SqT K H a xs) ∧ LcW (gName k) tYes te vs σ Q (Itt K a) H :=
  lcT_raw h hn (PvP H (l.map f)) hw (fun D h => pvp_0 h) h00 (fun D i ys H' _ p => h00.trans p.1.ti) (fun D i ys H' w x h hx _ rx p => pvp_turn h (by rw [List.getElem?_map, hx]; rfl) p (hs i H' w x hx rx p.1))
    fun D ys H' h p => let ⟨a, b, c⟩ := pvp_end p (by simp); hd D ys H' h a b c
theorem lcL {β : Type} [Rep β] {p : Addr} {zs : List V} (f : V → β) (h : H p = some (.lst zs)) (hn : zs.length ≤ 100000) (hw : ∀ v, wipe ((wipe σ vs).set k v) vs = wipe σ vs)
    (hs : ∀ (i : Nat) H' w, zs[i]? = some w → Ex H H' → Pur te ((wipe σ vs).set k (some w)) H' (f w))
    (hd : ∀ D (ys : List V) H', H D = none → Ex H H' → H' D = some (.lst ys) → Reps H' ys (zs.map f) → Q (.ref D) H') :
    ∃ a, V.ref p = .ref a ∧ (∃ xs, SqL K H a xs) ∧ LcW (gName k) tYes te vs σ Q (Itl K a) H :=
  lcL_raw h hn (PvP H (zs.map f)) hw (fun D h => pvp_0 h) (fun D i ys H' _ q => q.1 p _ h) (fun D i ys H' w h hx _ q => pvp_turn h (by rw [List.getElem?_map, hx]; rfl) q (hs i H' w hx q.1))
    fun D ys H' h q => let ⟨a, b, c⟩ := pvp_end q (by simp); hd D ys H' h a b c
/-- over a list that stands anywhere -/
theorem lcS {β : Type} [Rep β] {p : Addr} {zs : List V} (f : V → β) (h : SqL K H p zs) (hn : zs.length ≤ 100000) (hw : ∀ v, wipe ((wipe σ vs).set k v) vs = wipe σ vs)
    (hs : ∀ (i : Nat) H' w, zs[i]? = some w → Ex H H' → Pur te ((wipe σ vs).set k (some w)) H' (f w))
    (hd : ∀ D (ys : List V) H', H D = none → Ex H H' → H' D = some (.lst ys) → Reps H' ys (zs.map f) → Q (.ref D) H') :
    ∃ a, V.ref p = .ref a ∧ (∃ xs, SqL K H a xs) ∧ LcW (gName k) tYes te vs σ Q (Itl K a) H := by
  refine ⟨p, rfl, ⟨zs, h⟩, fun D hD => lc_list (xs := zs) (fun i H' => ∃ ys, ys.length ≤ i ∧ PvP H (zs.map f) D i ys H') ⟨[], by simp, pvp_0 hD⟩ (fun i H' _ ⟨ys, _, q⟩ => Evl.ex_l q.1 h) (fun i w H' hw' ⟨ys, hly, q⟩ => ?_) fun H' ⟨ys, hly, q⟩ => let ⟨a, b, c⟩ := pvp_end q (by simp); hd D ys H' hD a b c⟩
  have hi := (List.getElem?_eq_some_iff.mp hw').1
  exact lc_fin (Pv := PvP H (zs.map f) D) hly (by omega) hw (pvp_turn hD (by rw [List.getElem?_map, hw']; rfl) q (hs i H' w hw' q.1))
/-! with one test -/
def LcTurnF (tt : TT) (te : TE) (σ' : L2.St) (H' : Hp) (D : Addr) (ys : List V) (P : List V → Hp → Prop) : Prop := ∃ b : Bool, ∀ Q' : Bool → Hp → Prop,
  (∀ H3, (b = true → LcTurn te σ' H3 D ys P) → (b = false → P ys H3) → Q' b H3) → tt σ' H' Q'
theorem lc_finF {D : Addr} {i : Nat} {x : V} {ys : List V} {H' : Hp} {Pv : Nat → List V → Hp → Prop} (hl : ys.length ≤ i) (hi : i ≤ 100000) (hw : ∀ v, wipe ((wipe σ vs).set k v) vs = wipe σ vs) (h : LcTurnF tt te ((wipe σ vs).set k (some x)) H' D ys (Pv (i + 1))) :
    gName k x (wipe σ vs) H' fun σ2 H2 => wipe σ2 vs = wipe σ vs ∧ tt σ2 H2 fun b H3 =>
      if b = true then te σ2 H3 fun y H4 => ∃ acc, H4 D = some (.lst acc) ∧ acc.length < sizeLine ∧ ∃ ys, ys.length ≤ i + 1 ∧ Pv (i + 1) ys (upd H4 D (.lst (acc ++ [y]))) else ∃ ys, ys.length ≤ i + 1 ∧ Pv (i + 1) ys H3 := by
  obtain ⟨b, h⟩ := h
  refine ⟨hw _, h _ fun H3 h1 h2 => ?_⟩
  cases b with
  | true =>
    rw [if_pos rfl]
    exact h1 rfl _ fun y H4 e q => ⟨ys, e, ltLine (by omega), ys ++ [y], by simp; omega, q⟩
  | false =>
    rw [if_neg Bool.false_ne_true]
    exact ⟨ys, by omega, h2 rfl⟩
theorem lcRF_raw {n : Int} (hn : n ≤ 100000) (hm : -(2 ^ 62) ≤ n) (Pv : Addr → Nat → List V → Hp → Prop) (hw : ∀ v, wipe ((wipe σ vs).set k v) vs = wipe σ vs) (h0 : ∀ D, H D = none → Pv D 0 [] (upd H D (.lst [])))
    (hs : ∀ D (i : Nat) (ys : List V) H', H D = none → (i : Int) < n → Pv D i ys H' → LcTurnF tt te ((wipe σ vs).set k (some (.int (i : Int)))) H' D ys (Pv D (i + 1)))
    (hd : ∀ D (ys : List V) H', H D = none → Pv D n.toNat ys H' → Q (.ref D) H') :
    ∃ j : Int, [V.int n] = [V.int j] ∧ -(2 ^ 62) ≤ j ∧ j < 2 ^ 62 ∧ LcW (gName k) tt te vs σ Q (Itr 0 j.toNat) H := by
  refine ⟨n, rfl, hm, by omega, fun D hD => lc_range (lo := 0) (n := n.toNat) (fun i H' => ∃ ys, ys.length ≤ i ∧ Pv D i ys H') ⟨[], by simp, h0 D hD⟩ (fun i H' hi ⟨ys, hl, p⟩ => ?_) fun H' ⟨ys, hl, p⟩ => hd D ys H' hD p⟩
  have e : (0 : Int) + (i : Int) = (i : Int) := Int.zero_add _
  rw [e]
  exact lc_finF hl (by omega) hw (hs D i ys H' hD (by omega) p)
def PurT (tt : TT) (σ' : L2.St) (H' : Hp) (b : Bool) : Prop := ∀ Q' : Bool → Hp → Prop, (∀ H4, Ex H' H4 → Q' b H4) → tt σ' H' Q'
/-- the members that are given, of a list with marks -/
def kept {α : Type} (n : Nat) (p : Nat → Bool) (f : Nat → α) : List α := ((List.range n).filter p).map f
theorem kept_yes {α : Type} {n : Nat} {p : Nat → Bool} {f : Nat → α} (h : p n = true) : kept (n + 1) p f = kept n p f ++ [f n] := by
  unfold kept
  rw [List.range_succ, List.filter_append, List.map_append, List.filter_cons, if_pos h]
  rfl
theorem kept_no {α : Type} {n : Nat} {p : Nat → Bool} {f : Nat → α} (h : p n = false) : kept (n + 1) p f = kept n p f := by
  unfold kept
  rw [List.range_succ, List.filter_append, List.map_append, List.filter_cons, if_neg (by rw [h]; decide)]
  show _ ++ [] = _
  rw [List.append_nil]
theorem lcRF {α : Type} [Rep α] {n : Int} (p : Nat → Bool) (f : Nat → α) (hn : n ≤ 100000) (hm : -(2 ^ 62) ≤ n) (hw : ∀ v, wipe ((wipe σ vs).set k v) vs = wipe σ vs)
    (ht : ∀ (i : Nat) H', (i : Int) < n → Ex H H' → PurT tt ((wipe σ vs).set k (some (.int (i : Int)))) H' (p i))
    (hs : ∀ (i : Nat) H', (i : Int) < n → p i = true → Ex H H' → Pur te ((wipe σ vs).set k (some (.int (i : Int)))) H' (f i))
    (hd : ∀ D (ys : List V) H', H D = none → Ex H H' → H' D = some (.lst ys) → Reps H' ys (kept n.toNat p f) → Q (.ref D) H') :
    ∃ j : Int, [V.int n] = [V.int j] ∧ -(2 ^ 62) ≤ j ∧ j < 2 ^ 62 ∧ LcW (gName k) tt te vs σ Q (Itr 0 j.toNat) H := by
  refine lcRF_raw hn hm (fun D i ys H' => Ex H H' ∧ H' D = some (.lst ys) ∧ Reps H' ys (kept i p f)) hw (fun D h => ⟨Ex.new h, upd_same, Reps.nil⟩) (fun D i ys H' h hi ⟨e, hD, r⟩ => ⟨p i, fun Q' q => ht i H' hi e Q' fun H3 e3 => q H3 (fun hp Q2 q2 => ?_) fun hp => ?_⟩)
    fun D ys H' h ⟨a, b, c⟩ => hd D ys H' h a b c
  · refine hs i H3 hi hp (e.trans e3) Q2 fun y H4 e4 ry => ?_
    have hD4 := e4 D _ (e3 D _ hD)
    refine q2 y H4 hD4 ⟨Ex.mut ((e.trans e3).trans e4) h, upd_same, ?_⟩
    rw [kept_yes hp]
    exact (r.mono ((e3.trans e4).ti.trans (Ti.lst hD4))).snoc (Rep.mono (Ti.lst hD4) ry)
  · rw [kept_no hp]
    exact ⟨e.trans e3, e3 D _ hD, r.mono e3.ti⟩
end
end Fw
namespace Fw
open PySem PySem.Spec PyProof.Rows L2
open Rep (rep)
local macro_rules | `(tactic| walk_at "rd") => `(tactic| first
  | with_reducible apply rd_seq | with_reducible apply rd_asg | with_reducible apply rd_name | with_reducible apply rd_ret | with_reducible apply rd_drop | with_reducible apply rd_if
  | ((with_reducible refine' rd_var ?e ?h); (case e => exact rfl)) | with_reducible apply rd_c | with_reducible apply rd_op | with_reducible apply rd_un | with_reducible apply rd_I0 | with_reducible apply rd_U
  | with_reducible apply rd_eqI | with_reducible apply rd_neI | with_reducible apply rd_eqB | with_reducible apply rd_eqS | with_reducible apply rd_neS | with_reducible apply rd_tB | with_reducible apply rd_test | with_reducible apply rd_bl | with_reducible apply rd_not | with_reducible apply rd_and | with_reducible apply rd_or
  | with_reducible apply rd_andV | with_reducible apply rd_orV | with_reducible apply rd_notV | with_reducible apply rd_chain | with_reducible apply rd_nil | with_reducible apply rd_cons | with_reducible apply rd_CB | with_reducible apply rd_call | with_reducible apply rd_for
  | with_reducible apply rd_next | with_reducible apply rd_brk | with_reducible apply rd_cont | with_reducible apply rd_tup | with_reducible apply rd_lst | with_reducible apply rd_sub | with_reducible apply rd_BM | with_reducible apply rd_BM0
  | with_reducible apply rd_yes | with_reducible apply rd_nope | with_reducible apply rd_yes2 | with_reducible apply rd_nope2 | with_reducible apply rd_gCons | with_reducible apply rd_gNil | with_reducible apply rd_iTup | with_reducible apply rd_iList | with_reducible apply rd_iRng1 | with_reducible apply rd_iRng2
  | with_reducible apply rd_lc | with_reducible apply rd_augS | ((with_reducible refine' rd_aug ?e ?h); (case e => exact rfl)) | with_reducible apply rd_ip
  | with_reducible apply rd_max2 | with_reducible apply rd_min2 | with_reducible apply rd_max3 | with_reducible apply rd_intI | with_reducible apply rd_intB | with_reducible apply rd_abs)
local macro_rules | `(tactic| walk_at "rds") => `(tactic| repeat walk_at "rd")
local macro_rules | `(tactic| walk_at "sz") => `(tactic| exact Nat.le_trans (show _ ≤ 1000 by simp) (by decide))
local macro_rules | `(tactic| walk_at "hp") => `(tactic| first
  | with_reducible assumption | with_reducible exact upd_same
  | ((with_reducible refine' hp_ne ?n ?h); (case n => walk_at "ne"); (case h => walk_at "hp"))
  | ((with_reducible refine' Ex.get ?e ?h); (case e => with_reducible assumption); (case h => walk_at "hp"))
  | ((with_reducible refine' Eb.get ?e ?n ?h); (case e => with_reducible assumption); (case n => walk_at "ne"); (case h => walk_at "hp")))
local macro_rules | `(tactic| walk_at "ne") => `(tactic| first
  | with_reducible assumption | (apply Ne.symm; with_reducible assumption)
  | ((with_reducible refine' ne_non ?h ?n); (case n => with_reducible assumption); (case h => walk_at "hp"))
  | (apply Ne.symm; with_reducible refine' ne_non ?h ?n; (case n => with_reducible assumption); (case h => walk_at "hp")))
local macro_rules | `(tactic| walk_at "ti") => `(tactic| first
  | with_reducible assumption | with_reducible exact Ti.refl | (with_reducible exact Ex.ti (by with_reducible assumption))
  | ((with_reducible refine' Ti.trans ?a (Ti.new ?b)); (case b => with_reducible assumption); (case a => walk_at "ti"))
  | ((with_reducible refine' Ti.trans ?a (Ti.lst ?b)); (case b => walk_at "hp"); (case a => walk_at "ti"))
  | ((with_reducible refine' Ti.trans ?a (Ti.dK ?b)); (case b => walk_at "hp"); (case a => walk_at "ti"))
  | ((with_reducible refine' Ti.trans ?a (Ti.dT ?b)); (case b => walk_at "hp"); (case a => walk_at "ti"))
  | ((with_reducible refine' Ti.trans ?a ?b); (case b => with_reducible assumption); (case a => walk_at "ti"))
  | ((with_reducible refine' Ti.trans ?a (Ex.ti ?b)); (case b => with_reducible assumption); (case a => walk_at "ti")))
local macro_rules | `(tactic| walk_at "ex") => `(tactic| first
  | with_reducible assumption | with_reducible exact Ex.refl
  | ((with_reducible refine' Ex.mut ?a ?b); (case b => with_reducible assumption); (case a => walk_at "ex"))
  | ((with_reducible refine' Ex.trans ?a (Ex.new ?b)); (case b => with_reducible assumption); (case a => walk_at "ex"))
  | ((with_reducible refine' Ex.trans ?a ?b); (case b => with_reducible assumption); (case a => walk_at "ex")))
local macro_rules | `(tactic| walk_at "rp") => `(tactic| first
  | with_reducible assumption | ((with_reducible refine' Rep.mono ?t ?h); (case h => with_reducible assumption); (case t => walk_at "ti"))
  | ((with_reducible refine' Reps.mono ?t ?h); (case h => with_reducible assumption); (case t => walk_at "ti")))
def topS (i : Nat) : Stmt := PySem.Challenge.pw_foldwarrant_k20_threads_along_words.main.body.getD i (.Pass ⟨0, 0, 0, 0⟩)
structure Bt (mg : Str → Option Value) : Prop where
  len : mg "len" = none
  range : mg "range" = none
  max : mg "max" = none
  min : mg "min" = none
  int : mg "int" = none
  abs : mg "abs" = none
  tuple : mg "tuple" = none
  list : mg "list" = none
  all : mg "all" = none
  any : mg "any" = none
  bool : mg "bool" = none
  isinstance : mg "isinstance" = none
/-- a def of the top -/
structure Df (K : PySem.W.Frag) (mg : Str → Option Value) (x : Str) (st : Stmt) (ps : List Str) : Prop where
  ex : ∃ (f : Addr) (fd : FuncData), C8.Def K mg x st f fd ∧ L2.Binds K fd ps []
theorem Df.cal {P : Program} {w : World} {K : PySem.W.Frag} {mg : Str → Option Value} {base : Heap} {x : Str} {st : Stmt} {N ps : List Str} {k : Nat} {sp : Sp} (F : Df K mg x st ps) (S : FnScope N ps (C8.fnScope st)) (len : ∀ vs H Q E, sp vs H Q E → vs.length = ps.length)
    (hbody : ∀ (f : Addr) (cdv : Value) (A : Around) (outer : List Env) (s : Shared) (H : Hp) (vs : List V) (Q : VK) (E : XK), L2.Room k (A.deeper (envOfC x (C8.fnScope st) s.heap.objs.size f cdv)) → sp vs H Q E →
      ∃ t, PSs (cxOf C8.CX0 P w K mg base N x (C8.fnScope st) f cdv A outer s H E).nox (C8.fnBody st) t ∧ t { nx := fun _ H' => Q .non H', rt := Q } (start N vs) H) : C8.Cal P w K mg base (k + 1) x sp [] := by
  obtain ⟨f, fd, F, b⟩ := F.ex
  exact C8.cal0 F b .nil S len fun cdv A outer s H vs Q E hr h => hbody f cdv A outer s H vs Q E hr h
/-! ### the draws -/
/-- the state of the draws stands at d, the script's numbers at c -/
def DOk (d c : Addr) (ns : List Int) (H : Hp) : Prop := d ≠ c ∧ H c = some (.lst (ns.map V.int)) ∧ ∃ p q r : Int, H d = some (.lst [.ref c, .int p, .int q, .int r]) ∧ 0 ≤ p ∧ 0 ≤ q ∧ 0 ≤ r
theorem DOk.at {d c : Addr} {ns : List Int} {H : Hp} (h : DOk d c ns H) : ∃ ys, H d = some (.lst ys) := let ⟨_, _, _, _, _, h, _⟩ := h; ⟨_, h⟩
theorem DOk.ex {d c : Addr} {ns : List Int} {H H' : Hp} (h : DOk d c ns H) (e : Ex H H') : DOk d c ns H' := let ⟨n, h1, p, q, r, h2, h3⟩ := h; ⟨n, e _ _ h1, p, q, r, e _ _ h2, h3⟩
theorem DOk.upd {d c p : Addr} {o : HO} {ns : List Int} {H : Hp} (h : DOk d c ns H) (n1 : p ≠ d) (n2 : p ≠ c) : DOk d c ns (upd H p o) := let ⟨n, h1, p, q, r, h2, h3⟩ := h; ⟨n, by rw [upd_ne n2.symm]; exact h1, p, q, r, by rw [upd_ne n1.symm]; exact h2, h3⟩
theorem DOk.nd {d c p : Addr} {ns : List Int} {H : Hp} (h : DOk d c ns H) (n : H p = none) : p ≠ d ∧ p ≠ c := let ⟨_, h1, _, _, _, h2, _⟩ := h; ⟨(ne_of_none h2 n).symm, (ne_of_none h1 n).symm⟩
theorem DOk.ti {d c : Addr} {ns : List Int} {H H' : Hp} (h : DOk d c ns H) (e : Eb d H H') : Ti H H' := let ⟨_, h⟩ := h.at; e.ti h
def spDraw : Sp := fun vs H Q _ => ∃ (d c : Addr) (ns : List Int) (many : Int), vs = [.ref d, .int many] ∧ DOk d c ns H ∧ many ≤ 1000000 ∧ ∀ r H', 0 ≤ r → r < max many 1 → Eb d H H' → DOk d c ns H' → Q (.int r) H'
abbrev s_law_draw : Stmt := topS 13
theorem sc_law_draw : FnScope ["d", "many", "found", "cell", "size"] ["d", "many"] (C8.fnScope s_law_draw) := C8.fnScope_by (by decide +kernel)
section
variable {P : Program} {w : World} {K : PySem.W.Frag} {mg : Str → Option Value} {base : Heap}
theorem ok_draw (F : Df K mg "_law_draw" s_law_draw ["d", "many"]) (T : Bt mg) : C8.Cal P w K mg base 1 "_law_draw" spDraw [] := by
  have sc := sc_law_draw
  refine F.cal sc (fun vs H Q E h => ?_) (fun f cdv A outer s H vs Q E hr h => ?_)
  · obtain ⟨d, c, ns, many, rfl, _⟩ := h; rfl
  obtain ⟨d, c, ns, many, rfl, D, hm, k⟩ := h
  refine ⟨_, 
    (pss_cons (ps_set (i := 1) sc.nd rfl (by first | exact Or.inl rfl | exact Or.inr rfl) (pe_callB (cMax2 rfl) (by rfl) T.max (by decide +kernel) (pa_cons (pv 1) (pa_cons pe_int pa_nil))))
    (pss_cons (ps_if (pt_cmpR op_gt (pe_ix (ixL K) (pv 0) pe_int (fun _ _ => rfl)) pe_int (nomark _))
    (pss_cons (ps_set (i := 2) sc.nd rfl (by first | exact Or.inl rfl | exact Or.inr rfl) (pe_ix (ixL K) (pv 0) pe_int (fun _ _ => rfl)))
    (pss_cons (ps_asg (pe_op op_fdiv (pv 2) (pv 1)) (pg_sub (pv 0) pe_int set_list))
    (pss_one (ps_ret (pe_op op_mod (pe_callTy cInt (by rfl) T.int (by decide +kernel) (pa_cons (pv 2) pa_nil)) (pv 1))))))
    pss_nil)
    (pss_cons (ps_set (i := 3) sc.nd rfl (by first | exact Or.inl rfl | exact Or.inr rfl) (pe_ifExp (pt_cmpR op_lt (pe_ix (ixL K) (pv 0) pe_int (fun _ _ => rfl)) (pe_callB (cLen K) (by rfl) T.len (by decide +kernel) (pa_cons (pe_ix (ixL K) (pv 0) pe_int (fun _ _ => rfl)) pa_nil)) (nomark _)) (pe_ix (ixL K) (pe_ix (ixL K) (pv 0) pe_int (fun _ _ => rfl)) (pe_ix (ixL K) (pv 0) pe_int (fun _ _ => rfl)) (fun _ _ => rfl)) pe_int))
    (pss_cons (ps_set (i := 4) sc.nd rfl (by first | exact Or.inl rfl | exact Or.inr rfl) (pe_op op_add (pe_op op_mul pe_int (pe_callB cAbs (by rfl) T.abs (by decide +kernel) (pa_cons (pv 3) pa_nil))) (pe_callTy cInt (by rfl) T.int (by decide +kernel) (pa_cons (pe_cmpR op_lt (pv 3) pe_int (nomark _)) pa_nil))))
    (pss_cons (ps_augS (pv 0) pe_int pget_list pe_int ip_add set_list)
    (pss_cons (ps_if (pt_cmpR op_ge (pv 4) (pe_op op_mul pe_int (pe_op op_pow pe_int pe_int)) (nomark _))
    (pss_cons (ps_set (i := 2) sc.nd rfl (by first | exact Or.inl rfl | exact Or.inr rfl) (pe_op op_mod (pe_callTy cInt (by rfl) T.int (by decide +kernel) (pa_cons (pe_op op_fdiv (pv 4) pe_int) pa_nil)) (pe_op op_oneShl pe_int pe_int)))
    (pss_cons (ps_asg (pe_op op_fdiv (pv 2) (pv 1)) (pg_sub (pv 0) pe_int set_list))
    (pss_one (ps_ret (pe_op op_mod (pe_callTy cInt (by rfl) T.int (by decide +kernel) (pa_cons (pv 2) pa_nil)) (pv 1))))))
    pss_nil)
    (pss_cons (ps_asg (pe_op op_mod (pe_callTy cInt (by rfl) T.int (by decide +kernel) (pa_cons (pe_op op_add (pe_op op_add (pe_op op_add (pe_op op_mul (pe_ix (ixL K) (pv 0) pe_int (fun _ _ => rfl)) pe_int) (pe_op op_mul (pe_op op_mod (pe_callTy cInt (by rfl) T.int (by decide +kernel) (pa_cons (pv 4) pa_nil)) pe_int) pe_int)) (pe_op op_mul (pe_ix (ixL K) (pv 0) pe_int (fun _ _ => rfl)) pe_int)) pe_int) pa_nil)) pe_int) (pg_sub (pv 0) pe_int set_list))
    (pss_one (ps_ret (pe_op op_mod (pe_callTy cInt (by rfl) T.int (by decide +kernel) (pa_cons (pe_op op_fdiv (pe_ix (ixL K) (pv 0) pe_int (fun _ _ => rfl)) pe_int) pa_nil)) (pv 1))))))))))), ?_⟩
  show tSeq _ _ _ [some (.ref d), some (.int many), none, none, none] H
  obtain ⟨ndc, hc, p, q, r, hd, hp, hq, hr0⟩ := id D
  walk_at "rds"
  have hM : 0 < max many 1 ∧ max many 1 < 1073741824 := by omega
  generalize hMe : max many 1 = M at hM k ⊢
  refine rd_ixL hd 2 rfl rfl ?_
  walk_at "rds"
  refine rd_dec (fun h0 => ?_) (fun h0 => ?_)
  · walk_at "rds"
    refine rd_ixL hd 2 rfl rfl ?_
    walk_at "rds"
    refine rd_I ⟨hM.1, hM.2⟩ ?_
    walk_at "rds"
    refine rd_setL hd 2 rfl (by show 2 < 4; decide) ?_
    walk_at "rds"
    refine rd_I hM.1 ?_
    refine k _ _ (Int.emod_nonneg _ (by omega)) (Int.emod_lt_of_pos _ hM.1) Eb.self ⟨ndc, by rw [upd_ne ndc.symm]; exact hc, p, q / M, r, upd_same, hp, Int.ediv_nonneg hq (by omega), hr0⟩
  · walk_at "rds"
    -- cell
    refine rd_ifV (fun v => ∃ z : Int, v = .int z) (p < (ns.length : Int)) (fun QB q => ?_) (fun h1 Q' q => ?_) (fun h1 Q' q => ?_) ?_
    · walk_at "rds"
      refine rd_ixL hd 1 rfl rfl ?_
      walk_at "rds"
      refine rd_ixL hd 0 rfl rfl ?_
      walk_at "rds"
      refine rd_lenL hc ?_
      rw [List.length_map]
      walk_at "rds"
      exact q
    · walk_at "rds"
      refine rd_ixL hd 0 rfl rfl ?_
      walk_at "rds"
      refine rd_ixL hd 1 rfl rfl ?_
      walk_at "rds"
      exact rd_ixLI hc (by omega) (by omega) (q _ ⟨_, rfl⟩)
    · walk_at "rds"
      exact q _ ⟨_, rfl⟩
    rintro _ ⟨cell, rfl⟩
    walk_at "rds"
    refine rd_I (.inl ⟨by decide, by decide⟩) ?_
    walk_at "rds"
    generalize hz : 2 * (if cell < 0 then -cell else cell) + (if decide (cell < 0) = true then (1 : Int) else 0) = size
    have hz0 : 0 ≤ size := by rw [← hz]; split <;> split <;> omega
    -- d[1] += 1
    refine rd_pget hd 1 rfl rfl ?_
    walk_at "rds"
    refine rd_setL hd 1 rfl (by show 1 < 4; decide) ?_
    have hd1 : upd H d (.lst (([.ref c, .int p, .int q, .int r] : List V).set 1 (.int (p + 1)))) d = some (.lst [.ref c, .int (p + 1), .int q, .int r]) := upd_same
    have e1 : Eb d H (upd H d (.lst (([.ref c, .int p, .int q, .int r] : List V).set 1 (.int (p + 1))))) := Eb.self
    have hc1 : upd H d (.lst (([.ref c, .int p, .int q, .int r] : List V).set 1 (.int (p + 1)))) c = some (.lst (ns.map V.int)) := by rw [upd_ne ndc.symm]; exact hc
    generalize upd H d (.lst (([.ref c, .int p, .int q, .int r] : List V).set 1 (.int (p + 1)))) = H1 at hd1 e1 hc1 ⊢
    walk_at "rds"
    refine rd_I ⟨by decide, by decide, by decide⟩ ?_
    walk_at "rds"
    refine rd_I (.inl ⟨by decide, by decide⟩) ?_
    walk_at "rds"
    refine rd_dec (fun h2 => ?_) (fun h2 => ?_)
    · walk_at "rds"
      refine rd_I ⟨by decide, by decide⟩ ?_
      walk_at "rds"
      refine ⟨6000, rfl, rfl, by decide, ?_⟩
      have hB : (0 : Int) < 2 ^ 6000 := Int.pow_pos (by decide)
      generalize (2 : Int) ^ 6000 = B at hB ⊢
      refine rd_I hB ?_
      walk_at "rds"
      have hf : 0 ≤ size / 2 % B := Int.emod_nonneg _ (by omega)
      generalize size / 2 % B = found at hf ⊢
      refine rd_I ⟨hM.1, hM.2⟩ ?_
      walk_at "rds"
      refine rd_setL hd1 2 rfl (by show 2 < 4; decide) ?_
      walk_at "rds"
      refine rd_I hM.1 ?_
      exact k _ _ (Int.emod_nonneg _ (by omega)) (Int.emod_lt_of_pos _ hM.1) (e1.trans Eb.self) ⟨ndc, by rw [upd_ne ndc.symm]; exact hc1, p + 1, found / M, r, upd_same, by omega, Int.ediv_nonneg hf (by omega), hr0⟩
    · walk_at "rds"
      refine rd_ixL hd1 3 rfl rfl ?_
      walk_at "rds"
      refine rd_I (.inr ⟨by decide, by decide⟩) ?_
      walk_at "rds"
      refine rd_I (by decide) ?_
      walk_at "rds"
      refine rd_I (.inr ⟨by decide, by decide⟩) ?_
      walk_at "rds"
      refine rd_ixL hd1 1 rfl rfl ?_
      walk_at "rds"
      refine rd_I (.inr ⟨by decide, by decide⟩) ?_
      walk_at "rds"
      refine rd_I (by decide) ?_
      walk_at "rds"
      have hr2 := Int.emod_nonneg (r * 48271 + size % 2147483629 * 16807 + (p + 1) * 69621 + 11) (show (2147483647 : Int) ≠ 0 by decide)
      generalize (r * 48271 + size % 2147483629 * 16807 + (p + 1) * 69621 + 11) % 2147483647 = r2 at hr2 ⊢
      refine rd_setL hd1 3 rfl (by show 3 < 4; decide) ?_
      walk_at "rds"
      refine rd_ixL upd_same 3 rfl rfl ?_
      walk_at "rds"
      refine rd_I ⟨by decide, by decide⟩ ?_
      walk_at "rds"
      refine rd_I hM.1 ?_
      exact k _ _ (Int.emod_nonneg _ (by omega)) (Int.emod_lt_of_pos _ hM.1) (e1.trans Eb.self) ⟨ndc, by rw [upd_ne ndc.symm]; exact hc1, p + 1, q, r2, upd_same, by omega, hq, hr2⟩
/-! begin, pick, rare, shuffled, is_int -/
def spBegin (K : PySem.W.Frag) : Sp := fun vs H Q _ => ∃ (a : Addr) (ns : List Int), vs = [.ref a] ∧ SqL K H a (ns.map V.int) ∧ ns.length ≤ 1000 ∧ ∀ d c H', Ex H H' → DOk d c ns H' → Q (.ref d) H'
abbrev s_law_begin : Stmt := topS 12
theorem sc_law_begin : FnScope ["script", "cell"] ["script"] (C8.fnScope s_law_begin) := C8.fnScope_by (by decide +kernel)
theorem ok_begin (F : Df K mg "_law_begin" s_law_begin ["script"]) (T : Bt mg) : C8.Cal P w K mg base 1 "_law_begin" (spBegin K) [] := by
  have sc := sc_law_begin
  refine F.cal sc (fun vs H Q E h => ?_) (fun f cdv A outer s H vs Q E hr h => ?_)
  · obtain ⟨a, ns, rfl, _⟩ := h; rfl
  obtain ⟨a, ns, rfl, hS, hl, k⟩ := h
  refine ⟨_, 
    (pss_one (ps_ret (pe_lst (pa_cons (pe_lc (own := [("cell", 1)]) (by rfl) sc.nd (piL K (pv 0)) (blkOk_by (N := ["script", "cell"]) (sc := C8.fnScope s_law_begin) (own := [("cell", 1)]) (by decide +kernel)) (fun _ _ _ _ _ => (pg_name (i := 1) sc.nd rfl (by first | exact Or.inl rfl | exact Or.inr rfl))) (fun _ _ _ _ _ => pts_nil) (fun _ _ _ _ _ => (pe_callTy cInt (by rfl) T.int (by decide +kernel) (pa_cons (pv 1) pa_nil)))) (pa_cons pe_int (pa_cons pe_int (pa_cons pe_int pa_nil))))))), ?_⟩
  show tRet _ _ [some (.ref a), none] H
  walk_at "rds"
  refine lcS (fun v => match v with | .int i => i | _ => 0) hS (by rw [List.length_map]; omega) (fun _ => rfl) (fun i H' w hw e Q' q => ?_) (fun D ys H1 nD e hD r => ?_)
  · rw [List.getElem?_map] at hw
    obtain ⟨z, _, rfl⟩ := Option.map_eq_some_iff.mp hw
    walk_at "rds"
    exact q _ _ Ex.refl rfl
  · have e2 : ys = ns.map V.int := by
      have := r.ints
      rw [List.map_map] at this
      rw [this, List.map_map]
      rfl
    subst e2
    walk_at "rds"
    refine ⟨by show 4 ≤ sizeLine; decide, fun p np => ?_⟩
    have n1 : p ≠ D := (ne_of_none hD np).symm
    exact k p D _ (e.trans (Ex.new np)) ⟨n1, by rw [upd_ne n1.symm]; exact hD, 0, 0, 7, upd_same, by decide, by decide, by decide⟩
def spPick : Sp := fun vs H Q _ => ∃ (d c : Addr) (ns : List Int) (a : Addr) (ys : List V), vs = [.ref d, .ref a] ∧ DOk d c ns H ∧ H a = some (.lst ys) ∧ a ≠ d ∧ 0 < ys.length ∧ ys.length ≤ 1000 ∧ ∀ x H', x ∈ ys → Eb d H H' → DOk d c ns H' → Q x H'
abbrev s_law_pick : Stmt := topS 14
theorem sc_law_pick : FnScope ["d", "row"] ["d", "row"] (C8.fnScope s_law_pick) := C8.fnScope_by (by decide +kernel)
theorem ok_pick (F : Df K mg "_law_pick" s_law_pick ["d", "row"]) (T : Bt mg) (c_law_draw : C8.Cal P w K mg base 1 "_law_draw" spDraw []) : C8.Cal P w K mg base 2 "_law_pick" spPick [] := by
  have sc := sc_law_pick
  refine F.cal sc (fun vs H Q E h => ?_) (fun f cdv A outer s H vs Q E hr h => ?_)
  · obtain ⟨d, c, ns, a, ys, rfl, _⟩ := h; rfl
  obtain ⟨d, c, ns, a, ys, rfl, D, ha, had, h0, hl, k⟩ := h
  refine ⟨_, 
    (pss_one (ps_ret (pe_ix (ixL K) (pv 1) (C8.pe_c c_law_draw hr (by decide) (by rfl) (pa_cons (pv 0) (pa_cons (pe_callB (cLen K) (by rfl) T.len (by decide +kernel) (pa_cons (pv 1) pa_nil)) pa_nil))) (fun _ _ => rfl)))), ?_⟩
  show tRet _ _ [some (.ref d), some (.ref a)] H
  walk_at "rds"
  refine rd_lenL ha ?_
  walk_at "rds"
  refine ⟨d, c, ns, _, rfl, D, by omega, fun r H' r0 r1 e D' => ?_⟩
  have hj : r.toNat < ys.length := by omega
  exact rd_ixL (e _ _ had ha) r.toNat (by omega) (List.getElem?_eq_getElem hj) (k _ _ (List.getElem_mem _) e D')
def spRare : Sp := fun vs H Q _ => ∃ (d c : Addr) (ns : List Int) (many : Int), vs = [.ref d, .int many] ∧ DOk d c ns H ∧ many ≤ 1000000 ∧ ∀ (b : Bool) H', Eb d H H' → DOk d c ns H' → Q (.bl b) H'
abbrev s_law_rare : Stmt := topS 15
theorem sc_law_rare : FnScope ["d", "many"] ["d", "many"] (C8.fnScope s_law_rare) := C8.fnScope_by (by decide +kernel)
theorem ok_rare (F : Df K mg "_law_rare" s_law_rare ["d", "many"]) (T : Bt mg) (c_law_draw : C8.Cal P w K mg base 1 "_law_draw" spDraw []) : C8.Cal P w K mg base 2 "_law_rare" spRare [] := by
  have sc := sc_law_rare
  refine F.cal sc (fun vs H Q E h => ?_) (fun f cdv A outer s H vs Q E hr h => ?_)
  · obtain ⟨d, c, ns, many, rfl, _⟩ := h; rfl
  obtain ⟨d, c, ns, many, rfl, D, hm, k⟩ := h
  refine ⟨_, 
    (pss_one (ps_ret (pe_cmpR op_eq (C8.pe_c c_law_draw hr (by decide) (by rfl) (pa_cons (pv 0) (pa_cons (pv 1) pa_nil))) (pe_op op_fdiv (pv 1) pe_int) (nomark _)))), ?_⟩
  show tRet _ _ [some (.ref d), some (.int many)] H
  walk_at "rds"
  refine ⟨d, c, ns, _, rfl, D, hm, fun r H' r0 r1 e D' => ?_⟩
  walk_at "rds"
  refine rd_I ⟨by decide, by decide⟩ ?_
  walk_at "rds"
  exact k _ _ e D'
theorem perm_erase {α : Type} : ∀ (us : List α) (j : Nat) {y : α}, us[j]? = some y → (y :: us.eraseIdx j).Perm us
  | [], _, _, e => by simp at e
  | u :: us, 0, y, e => by simp at e; subst e; exact List.Perm.refl _
  | u :: us, j + 1, y, e => by
    have h := perm_erase us j (y := y) (by simpa using e)
    exact (List.Perm.swap u y _).trans (h.cons u)
theorem perm_step {α : Type} {fs us ys : List α} {j : Nat} {y : α} (h : (fs ++ us).Perm ys) (e : us[j]? = some y) : ((fs ++ [y]) ++ us.eraseIdx j).Perm ys := by
  refine List.Perm.trans ?_ h
  rw [List.append_assoc]
  refine List.Perm.append_left fs ?_
  exact perm_erase us j e
def spShuf : Sp := fun vs H Q _ => ∃ (d c : Addr) (ns : List Int) (a : Addr) (ys : List V), vs = [.ref d, .ref a] ∧ DOk d c ns H ∧ H a = some (.lst ys) ∧ ys.length ≤ 1000 ∧ ∀ p zs H', zs.Perm ys → H p = none → Eb d H H' → DOk d c ns H' → H' p = some (.lst zs) → Q (.ref p) H'
abbrev s_law_shuffled : Stmt := topS 16
theorem sc_law_shuffled : FnScope ["d", "row", "left", "found", "k"] ["d", "row"] (C8.fnScope s_law_shuffled) := C8.fnScope_by (by decide +kernel)
theorem ok_shuf (F : Df K mg "_law_shuffled" s_law_shuffled ["d", "row"]) (T : Bt mg) (c_law_draw : C8.Cal P w K mg base 1 "_law_draw" spDraw []) : C8.Cal P w K mg base 2 "_law_shuffled" spShuf [] := by
  have sc := sc_law_shuffled
  refine F.cal sc (fun vs H Q E h => ?_) (fun f cdv A outer s H vs Q E hr h => ?_)
  · obtain ⟨d, c, ns, a, ys, rfl, _⟩ := h; rfl
  obtain ⟨d, c, ns, a, ys, rfl, D, ha, hl, k⟩ := h
  refine ⟨_, 
    (pss_cons (ps_set (i := 2) sc.nd rfl (by first | exact Or.inl rfl | exact Or.inr rfl) (pe_callTy (cLst K) (by rfl) T.list (by decide +kernel) (pa_cons (pv 1) pa_nil)))
    (pss_cons (ps_set (i := 3) sc.nd rfl (by first | exact Or.inl rfl | exact Or.inr rfl) (pe_lst pa_nil))
    (pss_cons (ps_for PassesOwn.never rfl (pi_range1 (by rfl) T.range (pa_cons (pe_callB (cLen K) (by rfl) T.len (by decide +kernel) (pa_cons (pv 2) pa_nil)) pa_nil)) (pg_name (i := 4) sc.nd rfl (by first | exact Or.inl rfl | exact Or.inr rfl))
    (pss_one (ps_expr (bmK K PySem.F.plainAttrs_list PySem.F.slot_list_append PySem.F.type_list_append mt_append (pv 3) (pa_cons (bmK K PySem.F.plainAttrs_list PySem.F.slot_list_pop PySem.F.type_list_pop mt_popAt (pv 2) (pa_cons (C8.pe_c c_law_draw hr (by decide) (by rfl) (pa_cons (pv 0) (pa_cons (pe_callB (cLen K) (by rfl) T.len (by decide +kernel) (pa_cons (pv 2) pa_nil)) pa_nil))) pa_nil)) pa_nil)))))
    (pss_one (ps_ret (pv 3)))))), ?_⟩
  show tSeq _ _ _ [some (.ref d), some (.ref a), none, none, none] H
  walk_at "rds"
  refine rd_listOf ha fun pl npl => ?_
  walk_at "rds"
  refine ⟨by decide, fun pf npf => ?_⟩
  walk_at "rds"
  have npf' := none_of_upd npf
  have nfl := ne_of_upd npf
  obtain ⟨l1, l2⟩ := D.nd npl
  obtain ⟨f1, f2⟩ := D.nd npf'
  refine rd_lenL (ys := ys) (by rw [upd_ne nfl.symm]; exact upd_same) ?_
  walk_at "rds"
  refine r_range1 (by omega) (by omega) (fun i σ' H' => ∃ (k4 : Option V) (fs us : List V), σ' = [some (.ref d), some (.ref a), some (.ref pl), some (.ref pf), k4] ∧ Eb d H H' ∧ DOk d c ns H' ∧ H' pl = some (.lst us) ∧ H' pf = some (.lst fs) ∧ (fs ++ us).Perm ys ∧ fs.length = i) ?_ ?_ ?_
  · refine ⟨_, [], ys, rfl, (Eb.new npl).trans (Eb.new npf), (D.upd l1 l2).upd f1 f2, by rw [upd_ne nfl.symm]; exact upd_same, upd_same, by simp, rfl⟩
  · rintro i σ' H1 hi ⟨k4, fs, us, rfl, e1, D1, hpl, hpf, hp, hfl⟩
    have hlen := hp.length_eq
    rw [List.length_append] at hlen
    walk_at "rds"
    refine ⟨ty_lst hpf, ?_⟩
    walk_at "rds"
    refine ⟨ty_lst hpl, ?_⟩
    walk_at "rds"
    refine rd_lenL hpl ?_
    walk_at "rds"
    refine ⟨d, c, ns, _, rfl, D1, by omega, fun r H2 r0 r1 e2 D2 => ?_⟩
    walk_at "rds"
    have hj : r.toNat < us.length := by omega
    have hpl2 := e2 _ _ l1 hpl
    refine ⟨pl, us, r, r.toNat, us[r.toNat], rfl, rfl, hpl2, by omega, by omega, seqIndex_of r0 (by omega), List.getElem?_eq_getElem hj, ?_⟩
    walk_at "rds"
    have hpf2 : upd H2 pl (.lst (us.eraseIdx r.toNat)) pf = some (.lst fs) := by rw [upd_ne nfl]; exact e2 _ _ f1 hpf
    refine rd_app hpf2 (by omega) ?_
    walk_at "rds"
    refine ⟨_, _, _, rfl, ?_, (D2.upd l1 l2).upd f1 f2, by rw [upd_ne nfl.symm]; exact upd_same, upd_same, perm_step hp (List.getElem?_eq_getElem hj), by rw [List.length_append, hfl]; rfl⟩
    exact ((e1.trans e2).mut npl).mut npf'
  · rintro σ' H1 ⟨k4, fs, us, rfl, e1, D1, hpl, hpf, hp, hfl⟩
    walk_at "rds"
    have hlen := hp.length_eq
    rw [List.length_append] at hlen
    have hu : us = [] := List.eq_nil_of_length_eq_zero (by omega)
    subst hu
    rw [List.append_nil] at hp
    exact k pf fs H1 hp npf' e1 D1 hpf
def spIsInt : Sp := fun vs H Q _ => ∃ z : Int, vs = [.int z] ∧ Q (.bl true) H
abbrev s_law_is_int : Stmt := topS 17
theorem sc_law_is_int : FnScope ["thing"] ["thing"] (C8.fnScope s_law_is_int) := C8.fnScope_by (by decide +kernel)
theorem ok_isint (F : Df K mg "_law_is_int" s_law_is_int ["thing"]) (T : Bt mg) : C8.Cal P w K mg base 1 "_law_is_int" spIsInt [] := by
  have sc := sc_law_is_int
  refine F.cal sc (fun vs H Q E h => ?_) (fun f cdv A outer s H vs Q E hr h => ?_)
  · obtain ⟨z, rfl, _⟩ := h; rfl
  obtain ⟨z, rfl, k⟩ := h
  refine ⟨_, 
    (pss_one (ps_ret (pe_and (pe_callB (cIsi K) (by rfl) T.isinstance (by decide +kernel) (pa_cons (pv 0) (pa_cons (pe_bltn (v := .ty "int") (by rfl) T.int (by decide +kernel) rfl) pa_nil))) (pe_one (pe_not (pe_callB (cIsi K) (by rfl) T.isinstance (by decide +kernel) (pa_cons (pv 0) (pa_cons (pe_bltn (v := .ty "bool") (by rfl) T.bool (by decide +kernel) rfl) pa_nil)))))))), ?_⟩
  show tRet _ _ [some (.int z)] H
  walk_at "rds"
  refine rd_isi ty_int (b := true) (by decide +kernel) ?_
  walk_at "rds"
  refine rd_isi ty_int (b := false) (by decide +kernel) ?_
  walk_at "rds"
  exact k
end
end Fw
namespace Fw
open PySem PySem.Spec PyProof.Rows L2
open Rep (rep)
local macro_rules | `(tactic| walk_at "rd") => `(tactic| first
  | with_reducible apply rd_seq | with_reducible apply rd_asg | with_reducible apply rd_name | with_reducible apply rd_ret | with_reducible apply rd_drop | with_reducible apply rd_if
  | ((with_reducible refine' rd_var ?e ?h); (case e => exact rfl)) | with_reducible apply rd_c | with_reducible apply rd_op | with_reducible apply rd_un | with_reducible apply rd_I0 | with_reducible apply rd_U
  | with_reducible apply rd_eqI | with_reducible apply rd_neI | with_reducible apply rd_eqB | with_reducible apply rd_eqS | with_reducible apply rd_neS | with_reducible apply rd_tB | with_reducible apply rd_test | with_reducible apply rd_bl | with_reducible apply rd_not | with_reducible apply rd_and | with_reducible apply rd_or
  | with_reducible apply rd_andV | with_reducible apply rd_orV | with_reducible apply rd_notV | with_reducible apply rd_chain | with_reducible apply rd_nil | with_reducible apply rd_cons | with_reducible apply rd_CB | with_reducible apply rd_call | with_reducible apply rd_for
  | with_reducible apply rd_next | with_reducible apply rd_brk | with_reducible apply rd_cont | with_reducible apply rd_tup | with_reducible apply rd_lst | with_reducible apply rd_sub | with_reducible apply rd_BM | with_reducible apply rd_BM0
  | with_reducible apply rd_yes | with_reducible apply rd_nope | with_reducible apply rd_yes2 | with_reducible apply rd_nope2 | with_reducible apply rd_gCons | with_reducible apply rd_gNil | with_reducible apply rd_iTup | with_reducible apply rd_iList | with_reducible apply rd_iRng1 | with_reducible apply rd_iRng2
  | with_reducible apply rd_lc | with_reducible apply rd_augS | ((with_reducible refine' rd_aug ?e ?h); (case e => exact rfl)) | with_reducible apply rd_ip
  | with_reducible apply rd_max2 | with_reducible apply rd_min2 | with_reducible apply rd_max3 | with_reducible apply rd_intI | with_reducible apply rd_intB | with_reducible apply rd_abs)
local macro_rules | `(tactic| walk_at "rds") => `(tactic| repeat walk_at "rd")
local macro_rules | `(tactic| walk_at "sz") => `(tactic| exact Nat.le_trans (show _ ≤ 1000 by simp) (by decide))
local macro_rules | `(tactic| walk_at "hp") => `(tactic| first
  | with_reducible assumption | with_reducible exact upd_same
  | ((with_reducible refine' hp_ne ?n ?h); (case n => walk_at "ne"); (case h => walk_at "hp"))
  | ((with_reducible refine' Ex.get ?e ?h); (case e => with_reducible assumption); (case h => walk_at "hp"))
  | ((with_reducible refine' Eb.get ?e ?n ?h); (case e => with_reducible assumption); (case n => walk_at "ne"); (case h => walk_at "hp")))
local macro_rules | `(tactic| walk_at "ne") => `(tactic| first
  | with_reducible assumption | (apply Ne.symm; with_reducible assumption)
  | ((with_reducible refine' ne_non ?h ?n); (case n => with_reducible assumption); (case h => walk_at "hp"))
  | (apply Ne.symm; with_reducible refine' ne_non ?h ?n; (case n => with_reducible assumption); (case h => walk_at "hp")))
local macro_rules | `(tactic| walk_at "ti") => `(tactic| first
  | with_reducible assumption | with_reducible exact Ti.refl | (with_reducible exact Ex.ti (by with_reducible assumption))
  | ((with_reducible refine' Ti.trans ?a (Ti.new ?b)); (case b => with_reducible assumption); (case a => walk_at "ti"))
  | ((with_reducible refine' Ti.trans ?a (Ti.lst ?b)); (case b => walk_at "hp"); (case a => walk_at "ti"))
  | ((with_reducible refine' Ti.trans ?a (Ti.dK ?b)); (case b => walk_at "hp"); (case a => walk_at "ti"))
  | ((with_reducible refine' Ti.trans ?a (Ti.dT ?b)); (case b => walk_at "hp"); (case a => walk_at "ti"))
  | ((with_reducible refine' Ti.trans ?a ?b); (case b => with_reducible assumption); (case a => walk_at "ti"))
  | ((with_reducible refine' Ti.trans ?a (Ex.ti ?b)); (case b => with_reducible assumption); (case a => walk_at "ti")))
local macro_rules | `(tactic| walk_at "ex") => `(tactic| first
  | with_reducible assumption | with_reducible exact Ex.refl
  | ((with_reducible refine' Ex.mut ?a ?b); (case b => with_reducible assumption); (case a => walk_at "ex"))
  | ((with_reducible refine' Ex.trans ?a (Ex.new ?b)); (case b => with_reducible assumption); (case a => walk_at "ex"))
  | ((with_reducible refine' Ex.trans ?a ?b); (case b => with_reducible assumption); (case a => walk_at "ex")))
local macro_rules | `(tactic| walk_at "rp") => `(tactic| first
  | with_reducible assumption | ((with_reducible refine' Rep.mono ?t ?h); (case h => with_reducible assumption); (case t => walk_at "ti"))
  | ((with_reducible refine' Reps.mono ?t ?h); (case h => with_reducible assumption); (case t => walk_at "ti")))
/-! ### compose -/
/-- the entry at a column, behind m middles -/
def ent (row : List Int) (s : List (List Int)) (col : Nat) : Nat → Int
  | 0 => 0
  | m + 1 => if 0 < row.getD m 0 ∧ 0 < (s.getD m []).getD col 0 then max (ent row s col m) (max (row.getD m 0) ((s.getD m []).getD col 0)) else ent row s col m
def joinT (f s : List (List Int)) (c : Nat) : List (List Int) := f.map fun row => (List.range c).map fun col => ent row s col row.length
/-- what both joins ask -/
def JoinOk (f s : List (List Int)) (c : Nat) : Prop := c ≤ 100 ∧ f.length ≤ 1000 ∧ s.length ≤ 1000 ∧ (∀ row ∈ f, row.length ≤ s.length) ∧ ∀ r ∈ s, c ≤ r.length
def spJoin : Sp := fun vs H Q _ => ∃ (v w : V) (f s : List (List Int)) (c : Nat), vs = [v, w, .int (c : Int)] ∧ rep H v f ∧ rep H w s ∧ JoinOk f s c ∧ ∀ u H', Ex H H' → rep H' u (joinT f s c) → Q u H'
abbrev s_compose : Stmt := topS 1
theorem sc_compose : FnScope ["first", "second", "columns", "made", "row", "line", "middle", "one", "behind", "column"] ["first", "second", "columns"] (C8.fnScope s_compose) := C8.fnScope_by (by decide +kernel)
section
variable {P : Program} {w : World} {K : PySem.W.Frag} {mg : Str → Option Value} {base : Heap}
theorem ok_compose (F : Df K mg "compose" s_compose ["first", "second", "columns"]) (T : Bt mg) : C8.Cal P w K mg base 1 "compose" spJoin [] := by
  have sc := sc_compose
  refine F.cal sc (fun vs H Q E h => ?_) (fun f cdv A outer s H vs Q E hr h => ?_)
  · obtain ⟨v, w, f, s, c, rfl, _⟩ := h; rfl
  obtain ⟨v, w, fi, se, c, rfl, r1, r2, ok, k⟩ := h
  have hu := hu_of hr
  refine ⟨_, 
    (pss_cons (ps_set (i := 3) sc.nd rfl (by first | exact Or.inl rfl | exact Or.inr rfl) (pe_lst pa_nil))
    (pss_cons (ps_for PassesOwn.never rfl (piT K (pv 0)) (pg_name (i := 4) sc.nd rfl (by first | exact Or.inl rfl | exact Or.inr rfl))
    (pss_cons (ps_set (i := 5) sc.nd rfl (by first | exact Or.inl rfl | exact Or.inr rfl) (pe_op op_rep (pe_lst (pa_cons pe_int pa_nil)) (pv 2)))
    (pss_cons (ps_for PassesOwn.never rfl (pi_range1 (by rfl) T.range (pa_cons (pe_callB (cLen K) (by rfl) T.len (by decide +kernel) (pa_cons (pv 4) pa_nil)) pa_nil)) (pg_name (i := 6) sc.nd rfl (by first | exact Or.inl rfl | exact Or.inr rfl))
    (pss_cons (ps_set (i := 7) sc.nd rfl (by first | exact Or.inl rfl | exact Or.inr rfl) (pe_ix (ixT K) (pv 4) (pv 6) (fun _ _ => rfl)))
    (pss_one (ps_if (pt_cmpR op_gt (pv 7) pe_int (nomark _))
    (pss_cons (ps_set (i := 8) sc.nd rfl (by first | exact Or.inl rfl | exact Or.inr rfl) (pe_ix (ixT K) (pv 1) (pv 6) (fun _ _ => rfl)))
    (pss_one (ps_for PassesOwn.never rfl (pi_range1 (by rfl) T.range (pa_cons (pv 2) pa_nil)) (pg_name (i := 9) sc.nd rfl (by first | exact Or.inl rfl | exact Or.inr rfl))
    (pss_one (ps_if (pt_cmpR op_gt (pe_ix (ixT K) (pv 8) (pv 9) (fun _ _ => rfl)) pe_int (nomark _))
    (pss_one (ps_asg (pe_callB (cMax3 rfl) (by rfl) T.max (by decide +kernel) (pa_cons (pe_ix (ixL K) (pv 5) (pv 9) (fun _ _ => rfl)) (pa_cons (pv 7) (pa_cons (pe_ix (ixT K) (pv 8) (pv 9) (fun _ _ => rfl)) pa_nil)))) (pg_sub (pv 5) (pv 9) set_list)))
    pss_nil)))))
    pss_nil))))
    (pss_one (ps_expr (bmK K PySem.F.plainAttrs_list PySem.F.slot_list_append PySem.F.type_list_append mt_append (pv 3) (pa_cons (pe_callTy (cTup K) (by rfl) T.tuple (by decide +kernel) (pa_cons (pv 5) pa_nil)) pa_nil)))))))
    (pss_one (ps_ret (pe_callTy (cTup K) (by rfl) T.tuple (by decide +kernel) (pa_cons (pv 3) pa_nil)))))), ?_⟩
  show tSeq _ _ _ [some v, some w, some (.int c), none, none, none, none, none, none, none] H
  obtain ⟨hc, hf, hs, hrow, hcol⟩ := id ok
  walk_at "rds"
  refine ⟨by decide, fun pm npm => ?_⟩
  walk_at "rds"
  -- for row in first
  refine r_tup (H0 := H) r1 (fun i σ' H' => ∃ (j4 j5 j6 j7 j8 j9 : Option V) (vs : List V), σ' = [some v, some w, some (.int c), some (.ref pm), j4, j5, j6, j7, j8, j9] ∧ Ex H H' ∧ H' pm = some (.lst vs) ∧ Reps H' vs ((joinT fi se c).take i))
    ?_ (fun i σ' H' ⟨_, _, _, _, _, _, _, _, e, _⟩ => e.ti) ?_ ?_
  · exact ⟨none, none, none, none, none, none, [], rfl, by walk_at "ex", upd_same, Reps.nil⟩
  · rintro i row wr σ' H1 hi hlt rw1 ⟨j4, j5, j6, j7, j8, j9, vs, rfl, e1, hm, rr⟩
    walk_at "rds"
    refine ⟨by show 1 ≤ sizeLine; decide, fun pz npz => ?_⟩
    walk_at "rds"
    refine rd_rep1 upd_same (by omega) (by omega) fun pl npl => ?_
    have npl' := none_of_upd npl
    have nz : pl ≠ pz := ne_of_upd npl
    have nlm : pl ≠ pm := (ne_non hm npl').symm
    have nzm : pz ≠ pm := (ne_non hm npz).symm
    walk_at "rds"
    refine rd_lenT (l := row) (by walk_at "rp") ?_
    walk_at "rds"
    have hrl : row.length ≤ se.length := hrow row (List.mem_of_getElem? hi)
    have r2' : rep H1 w se := by walk_at "rp"
    have hpm : upd (upd H1 pz (.lst [V.int 0])) pl (.lst (List.replicate (c : Int).toNat (V.int 0))) pm = some (.lst vs) := by rw [upd_ne nlm.symm, upd_ne nzm.symm]; exact hm
    generalize hH2 : upd (upd H1 pz (.lst [V.int 0])) pl (.lst (List.replicate (c : Int).toNat (V.int 0))) = H2 at *
    have e2 : Ex H1 H2 := by rw [← hH2]; exact (Ex.new npz).trans (Ex.new npl)
    have hl2 : H2 pl = some (.lst (((List.range c).map fun col => ent row se col 0).map V.int)) := by
      rw [← hH2, upd_same]
      congr 2
      rw [List.map_map]
      refine (List.eq_replicate_iff.mpr ⟨by simp, fun b hb => ?_⟩).symm
      obtain ⟨z, _, rfl⟩ := List.mem_map.mp hb
      rfl
    -- for middle in range(len(row))
    refine r_range1 (by omega) (by omega) (fun m σ' H' => ∃ (k6 k7 k8 k9 : Option V), σ' = [some v, some w, some (.int c), some (.ref pm), some wr, some (.ref pl), k6, k7, k8, k9] ∧ Ex H1 H' ∧ H' pl = some (.lst (((List.range c).map fun col => ent row se col m).map V.int))) ?_ ?_ ?_
    · exact ⟨_, _, _, _, rfl, e2, hl2⟩
    · rintro m σ' H3 hm3 ⟨k6, k7, k8, k9, rfl, e3, hl3⟩
      have hmn : m < row.length := by omega
      walk_at "rds"
      refine rd_ixTI (l := row) (by walk_at "rp") (by omega) (by omega) ?_
      walk_at "rds"
      rw [Int.toNat_natCast]
      refine rd_dec (fun hpos => ?_) (fun hneg => ?_)
      · walk_at "rds"
        refine rd_ixTL (l := se) (by walk_at "rp") (by omega) (by omega) fun wb rb => ?_
        rw [Int.toNat_natCast] at rb
        walk_at "rds"
        have hbl : c ≤ (se.getD m []).length := hcol _ (by
          rw [List.getD_eq_getElem?_getD, List.getElem?_eq_getElem (by omega)]
          exact List.getElem_mem _)
        -- for column in range(columns)
        refine r_range1 (by omega) (by omega) (fun q σ' H' => ∃ (k9 : Option V), σ' = [some v, some w, some (.int c), some (.ref pm), some wr, some (.ref pl), some (.int m), some (.int (row.getD m 0)), some wb, k9] ∧ Ex H1 H' ∧ Ti H3 H' ∧ H' pl = some (.lst (((List.range c).map fun col => ent row se col (if col < q then m + 1 else m)).map V.int))) ?_ ?_ ?_
        · exact ⟨_, rfl, e3, Ti.refl, by simpa using hl3⟩
        · rintro q σ' H4 hq ⟨k9, rfl, e4, t4, hl4⟩
          have hqc : q < c := by omega
          walk_at "rds"
          refine rd_ixTI (l := se.getD m []) (by walk_at "rp") (by omega) (by omega) ?_
          walk_at "rds"
          rw [Int.toNat_natCast]
          have old : ((List.range c).map fun col => ent row se col (if col < q then m + 1 else m)).getD q 0 = ent row se q m := by
            rw [List.getD_eq_getElem?_getD, List.getElem?_map, List.getElem?_range hqc]
            show ent row se q (if q < q then m + 1 else m) = _
            rw [if_neg (by omega)]
          refine rd_dec (fun hp2 => ?_) (fun hn2 => ?_)
          · walk_at "rds"
            refine rd_ixLI hl4 (by omega) (by simp; omega) ?_
            rw [Int.toNat_natCast, old]
            walk_at "rds"
            refine rd_ixTI (l := se.getD m []) (by walk_at "rp") (by omega) (by omega) ?_
            walk_at "rds"
            rw [Int.toNat_natCast]
            refine rd_setL hl4 q rfl (by simp; omega) ?_
            walk_at "rds"
            refine ⟨_, rfl, Ex.mut e4 npl', t4.trans (Ti.lst hl4), ?_⟩
            rw [upd_same]
            congr 2
            refine List.ext_getElem? fun z => ?_
            rw [List.getElem?_set, List.length_map, List.length_map, List.length_range, List.getElem?_map, List.getElem?_map, List.getElem?_map, List.getElem?_map]
            by_cases hz : z < c
            · rw [List.getElem?_range hz]
              by_cases hzq : q = z
              · subst hzq
                rw [if_pos rfl, if_pos hz]
                show _ = some (V.int (ent row se q (if q < q + 1 then m + 1 else m)))
                rw [if_pos (by omega)]
                show _ = some (V.int (if 0 < row.getD m 0 ∧ 0 < (se.getD m []).getD q 0 then _ else _))
                rw [if_pos ⟨hpos, hp2⟩]
              · rw [if_neg hzq]
                show some (V.int (ent row se z (if z < q then m + 1 else m))) = some (V.int (ent row se z (if z < q + 1 then m + 1 else m)))
                by_cases hzl : z < q
                · rw [if_pos hzl, if_pos (by omega)]
                · rw [if_neg hzl, if_neg (by omega)]
            · rw [if_neg (by omega), List.getElem?_eq_none (by simp; omega)]
              rfl
          · walk_at "rds"
            refine ⟨_, rfl, e4, t4, ?_⟩
            rw [hl4]
            congr 3
            refine List.map_congr_left fun z hz => ?_
            by_cases hzq : z = q
            · subst hzq
              rw [if_neg (by omega), if_pos (by omega)]
              show _ = (if 0 < row.getD m 0 ∧ 0 < (se.getD m []).getD z 0 then _ else _)
              rw [if_neg (fun h => hn2 h.2)]
            · by_cases hzl : z < q
              · rw [if_pos hzl, if_pos (by omega)]
              · rw [if_neg hzl, if_neg (by omega)]
        · rintro σ' H4 ⟨k9, rfl, e4, t4, hl4⟩
          refine ⟨_, _, _, _, rfl, e4, ?_⟩
          rw [hl4]
          congr 3
          refine List.map_congr_left fun z hz => ?_
          rw [if_pos (by rw [Int.toNat_natCast]; exact List.mem_range.mp hz)]
      · walk_at "rds"
        refine ⟨_, _, _, _, rfl, e3, ?_⟩
        rw [hl3]
        congr 3
        refine List.map_congr_left fun z hz => ?_
        show _ = (if 0 < row.getD m 0 ∧ 0 < (se.getD m []).getD z 0 then _ else _)
        rw [if_neg (fun h => hneg h.1)]
    · rintro σ' H3 ⟨k6, k7, k8, k9, rfl, e3, hl3⟩
      rw [Int.toNat_natCast] at hl3
      -- made.append(tuple(line))
      walk_at "rds"
      have hm3 : H3 pm = some (.lst vs) := e3 pm _ hm
      refine ⟨ty_lst hm3, ?_⟩
      walk_at "rds"
      refine rd_tupOf hl3 fun pt npt => ?_
      walk_at "rds"
      have nmt : pm ≠ pt := ne_non hm3 npt
      refine rd_app (by rw [upd_ne nmt]; exact hm3) (by rw [rr.len]; simp [joinT]; omega) ?_
      walk_at "rds"
      have er : (joinT fi se c).take (i + 1) = (joinT fi se c).take i ++ [(List.range c).map fun col => ent row se col row.length] := by
        unfold joinT
        rw [← List.map_take, ← List.map_take, List.take_add_one, hi]
        simp
      refine ⟨_, _, _, _, _, _, _, rfl, ?_, upd_same, ?_⟩
      · exact Ex.mut ((e1.trans e3).trans (Ex.new npt)) npm
      · have t0 : Ti H1 (upd (upd H3 pt (.tup (((List.range c).map fun col => ent row se col row.length).map V.int))) pm (.lst (vs ++ [V.ref pt]))) := (e3.ti.trans (Ti.new npt)).trans (Ti.lst (by rw [upd_ne nmt]; exact hm3))
        rw [er]
        refine (rr.mono t0).snoc ?_
        exact Rep.mono (Ti.lst (by rw [upd_ne nmt]; exact hm3)) (rep_new npt Reps.of_ints)
  · rintro σ' H1 ⟨j4, j5, j6, j7, j8, j9, vs, rfl, e1, hm, rr⟩
    walk_at "rds"
    refine rd_tupOf hm fun pt npt => ?_
    refine k _ _ (e1.trans (Ex.new npt)) (rep_new npt ?_)
    have el : (joinT fi se c).take fi.length = joinT fi se c := List.take_of_length_le (by simp [joinT])
    rw [el] at rr
    exact rr
/-! ### the law's join -/
abbrev s_law_join : Stmt := topS 18
theorem sc_law_join : FnScope ["first", "second", "columns", "made", "row", "line", "column", "best", "middle"] ["first", "second", "columns"] (C8.fnScope s_law_join) := C8.fnScope_by (by decide +kernel)
theorem ok_ljoin (F : Df K mg "_law_join" s_law_join ["first", "second", "columns"]) (T : Bt mg) : C8.Cal P w K mg base 1 "_law_join" spJoin [] := by
  have sc := sc_law_join
  refine F.cal sc (fun vs H Q E h => ?_) (fun f cdv A outer s H vs Q E hr h => ?_)
  · obtain ⟨v, w, f, s, c, rfl, _⟩ := h; rfl
  obtain ⟨v, w, fi, se, c, rfl, r1, r2, ok, k⟩ := h
  refine ⟨_, 
    (pss_cons (ps_set (i := 3) sc.nd rfl (by first | exact Or.inl rfl | exact Or.inr rfl) (pe_lst pa_nil))
    (pss_cons (ps_for PassesOwn.never rfl (piT K (pv 0)) (pg_name (i := 4) sc.nd rfl (by first | exact Or.inl rfl | exact Or.inr rfl))
    (pss_cons (ps_set (i := 5) sc.nd rfl (by first | exact Or.inl rfl | exact Or.inr rfl) (pe_lst pa_nil))
    (pss_cons (ps_for PassesOwn.never rfl (pi_range1 (by rfl) T.range (pa_cons (pv 2) pa_nil)) (pg_name (i := 6) sc.nd rfl (by first | exact Or.inl rfl | exact Or.inr rfl))
    (pss_cons (ps_set (i := 7) sc.nd rfl (by first | exact Or.inl rfl | exact Or.inr rfl) pe_int)
    (pss_cons (ps_for PassesOwn.never rfl (pi_range1 (by rfl) T.range (pa_cons (pe_callB (cLen K) (by rfl) T.len (by decide +kernel) (pa_cons (pv 4) pa_nil)) pa_nil)) (pg_name (i := 8) sc.nd rfl (by first | exact Or.inl rfl | exact Or.inr rfl))
    (pss_one (ps_if (PW.pt (pw_and (pt_cmpR op_gt (pe_ix (ixT K) (pv 4) (pv 8) (fun _ _ => rfl)) pe_int (nomark _)) (pw_and1 (pt_cmpR op_gt (pe_ix (ixT K) (pe_ix (ixT K) (pv 1) (pv 8) (fun _ _ => rfl)) (pv 6) (fun _ _ => rfl)) pe_int (nomark _)))))
    (pss_one (ps_set (i := 7) sc.nd rfl (by first | exact Or.inl rfl | exact Or.inr rfl) (pe_callB (cMax3 rfl) (by rfl) T.max (by decide +kernel) (pa_cons (pv 7) (pa_cons (pe_ix (ixT K) (pv 4) (pv 8) (fun _ _ => rfl)) (pa_cons (pe_ix (ixT K) (pe_ix (ixT K) (pv 1) (pv 8) (fun _ _ => rfl)) (pv 6) (fun _ _ => rfl)) pa_nil))))))
    pss_nil)))
    (pss_one (ps_expr (bmK K PySem.F.plainAttrs_list PySem.F.slot_list_append PySem.F.type_list_append mt_append (pv 5) (pa_cons (pv 7) pa_nil)))))))
    (pss_one (ps_expr (bmK K PySem.F.plainAttrs_list PySem.F.slot_list_append PySem.F.type_list_append mt_append (pv 3) (pa_cons (pe_callTy (cTup K) (by rfl) T.tuple (by decide +kernel) (pa_cons (pv 5) pa_nil)) pa_nil)))))))
    (pss_one (ps_ret (pe_callTy (cTup K) (by rfl) T.tuple (by decide +kernel) (pa_cons (pv 3) pa_nil)))))), ?_⟩
  show tSeq _ _ _ [some v, some w, some (.int c), none, none, none, none, none, none] H
  obtain ⟨hc, hf, hs, hrow, hcol⟩ := id ok
  walk_at "rds"
  refine ⟨by decide, fun pm npm => ?_⟩
  walk_at "rds"
  refine r_tup (H0 := H) r1 (fun i σ' H' => ∃ (j4 j5 j6 j7 j8 : Option V) (vs : List V), σ' = [some v, some w, some (.int c), some (.ref pm), j4, j5, j6, j7, j8] ∧ Ex H H' ∧ H' pm = some (.lst vs) ∧ Reps H' vs ((joinT fi se c).take i))
    ?_ (fun i σ' H' ⟨_, _, _, _, _, _, _, e, _⟩ => e.ti) ?_ ?_
  · exact ⟨none, none, none, none, none, [], rfl, by walk_at "ex", upd_same, Reps.nil⟩
  · rintro i row wr σ' H1 hi hlt rw1 ⟨j4, j5, j6, j7, j8, vs, rfl, e1, hm, rr⟩
    walk_at "rds"
    refine ⟨by decide, fun pl npl => ?_⟩
    walk_at "rds"
    have hrl : row.length ≤ se.length := hrow row (List.mem_of_getElem? hi)
    have nlm : pl ≠ pm := (ne_non hm npl).symm
    -- for column in range(columns)
    refine r_range1 (by omega) (by omega) (fun q σ' H' => ∃ (j6 j7 j8 : Option V), σ' = [some v, some w, some (.int c), some (.ref pm), some wr, some (.ref pl), j6, j7, j8] ∧ Ex H1 H' ∧ H' pl = some (.lst (((List.range q).map fun col => ent row se col row.length).map V.int))) ?_ ?_ ?_
    · exact ⟨_, _, _, rfl, Ex.new npl, upd_same⟩
    · rintro q σ' H2 hq ⟨k6, k7, k8, rfl, e2, hl2⟩
      walk_at "rds"
      refine rd_lenT (l := row) (by walk_at "rp") ?_
      walk_at "rds"
      have hqc : q < c := by omega
      refine r_range1 (by omega) (by omega) (fun m σ' H' => ∃ (k8 : Option V), σ' = [some v, some w, some (.int c), some (.ref pm), some wr, some (.ref pl), some (.int q), some (.int (ent row se q m)), k8] ∧ H' = H2) ?_ ?_ ?_
      · exact ⟨_, rfl, rfl⟩
      · rintro m σ' H3 hm3 ⟨k8, rfl, rfl⟩
        have hmn : m < row.length := by omega
        have hbl : c ≤ (se.getD m []).length := hcol _ (by
          rw [List.getD_eq_getElem?_getD, List.getElem?_eq_getElem (by omega)]
          exact List.getElem_mem _)
        walk_at "rds"
        refine rd_ixTI (l := row) (by walk_at "rp") (by omega) (by omega) ?_
        walk_at "rds"
        rw [Int.toNat_natCast]
        have r2' : rep H3 w se := by walk_at "rp"
        refine rd_dec (fun hpos => ?_) (fun hneg => ?_)
        · walk_at "rds"
          refine rd_ixTL (l := se) r2' (by omega) (by omega) fun wb rb => ?_
          rw [Int.toNat_natCast] at rb
          walk_at "rds"
          refine rd_ixTI (l := se.getD m []) rb (by omega) (by omega) ?_
          walk_at "rds"
          rw [Int.toNat_natCast]
          refine rd_dec (fun hp2 => ?_) (fun hn2 => ?_)
          · walk_at "rds"
            refine rd_ixTI (l := row) (by walk_at "rp") (by omega) (by omega) ?_
            walk_at "rds"
            refine rd_ixTL (l := se) r2' (by omega) (by omega) fun wb rb => ?_
            rw [Int.toNat_natCast] at rb
            walk_at "rds"
            refine rd_ixTI (l := se.getD m []) rb (by omega) (by omega) ?_
            rw [Int.toNat_natCast, Int.toNat_natCast]
            walk_at "rds"
            exact ⟨some (.int m), by rw [show ent row se q (m + 1) = _ from if_pos ⟨hpos, hp2⟩]; rfl, rfl⟩
          · walk_at "rds"
            exact ⟨some (.int m), by rw [show ent row se q (m + 1) = _ from if_neg (fun h => hn2 h.2)]; rfl, rfl⟩
        · walk_at "rds"
          exact ⟨some (.int m), by rw [show ent row se q (m + 1) = _ from if_neg (fun h => hneg h.1)]; rfl, rfl⟩
      · rintro σ' H3 ⟨k8, rfl, rfl⟩
        walk_at "rds"
        refine ⟨ty_lst hl2, ?_⟩
        walk_at "rds"
        refine rd_app hl2 (by simp; omega) ?_
        walk_at "rds"
        refine ⟨_, _, _, rfl, Ex.mut e2 npl, ?_⟩
        rw [upd_same, List.range_succ, List.map_append, List.map_append, Int.toNat_natCast]
        rfl
    · rintro σ' H2 ⟨k6, k7, k8, rfl, e2, hl2⟩
      rw [Int.toNat_natCast] at hl2
      walk_at "rds"
      have hm3 : H2 pm = some (.lst vs) := e2 pm _ hm
      refine ⟨ty_lst hm3, ?_⟩
      walk_at "rds"
      refine rd_tupOf hl2 fun pt npt => ?_
      walk_at "rds"
      have nmt : pm ≠ pt := ne_non hm3 npt
      refine rd_app (by rw [upd_ne nmt]; exact hm3) (by rw [rr.len]; simp [joinT]; omega) ?_
      walk_at "rds"
      have er : (joinT fi se c).take (i + 1) = (joinT fi se c).take i ++ [(List.range c).map fun col => ent row se col row.length] := by
        unfold joinT
        rw [← List.map_take, ← List.map_take, List.take_add_one, hi]
        simp
      refine ⟨_, _, _, _, _, _, rfl, ?_, upd_same, ?_⟩
      · exact Ex.mut ((e1.trans e2).trans (Ex.new npt)) npm
      · have t0 : Ti H1 (upd (upd H2 pt (.tup (((List.range c).map fun col => ent row se col row.length).map V.int))) pm (.lst (vs ++ [V.ref pt]))) := (e2.ti.trans (Ti.new npt)).trans (Ti.lst (by rw [upd_ne nmt]; exact hm3))
        rw [er]
        refine (rr.mono t0).snoc ?_
        exact Rep.mono (Ti.lst (by rw [upd_ne nmt]; exact hm3)) (rep_new npt Reps.of_ints)
  · rintro σ' H1 ⟨j4, j5, j6, j7, j8, vs, rfl, e1, hm, rr⟩
    walk_at "rds"
    refine rd_tupOf hm fun pt npt => ?_
    refine k _ _ (e1.trans (Ex.new npt)) (rep_new npt ?_)
    have el : (joinT fi se c).take fi.length = joinT fi se c := List.take_of_length_le (by simp [joinT])
    rw [el] at rr
    exact rr
/-! ### the identity -/
def idT (n : Nat) : List (List Int) := (List.range n).map fun r => (List.range n).map fun c => if r = c then 1 else 0
def spId : Sp := fun vs H Q _ => ∃ n : Nat, vs = [.int (n : Int)] ∧ n ≤ 1000 ∧ ∀ v H', Ex H H' → rep H' v (idT n) → Q v H'
abbrev s_law_identity : Stmt := topS 19
theorem sc_law_identity : FnScope ["many", "column", "row"] ["many"] (C8.fnScope s_law_identity) := C8.fnScope_by (by decide +kernel)
theorem ok_id (F : Df K mg "_law_identity" s_law_identity ["many"]) (T : Bt mg) : C8.Cal P w K mg base 1 "_law_identity" spId [] := by
  have sc := sc_law_identity
  refine F.cal sc (fun vs H Q E h => ?_) (fun f cdv A outer s H vs Q E hr h => ?_)
  · obtain ⟨n, rfl, _⟩ := h; rfl
  obtain ⟨n, rfl, hn, k⟩ := h
  refine ⟨_, 
    (pss_one (ps_ret (pe_callTy (cTup K) (by rfl) T.tuple (by decide +kernel) (pa_cons (pe_lc (own := [("row", 2)]) (by rfl) sc.nd (pi_range1 (by rfl) T.range (pa_cons (pv 0) pa_nil)) (blkOk_by (N := ["many", "column", "row"]) (sc := C8.fnScope s_law_identity) (own := [("row", 2)]) (by decide +kernel)) (fun _ _ _ _ _ => (pg_name (i := 2) sc.nd rfl (by first | exact Or.inl rfl | exact Or.inr rfl))) (fun _ _ _ _ _ => pts_nil) (fun _ _ _ _ _ => (pe_callTy (cTup K) (by rfl) T.tuple (by decide +kernel) (pa_cons (pe_lc (own := [("column", 1)]) (by rfl) sc.nd (pi_range1 (by rfl) T.range (pa_cons (pv 0) pa_nil)) (blkOk_by (N := ["many", "column", "row"]) (sc := relS _ (C8.fnScope s_law_identity)) (own := [("column", 1)]) (by decide +kernel)) (fun _ _ _ _ _ => (pg_name (i := 1) sc.nd rfl (by first | exact Or.inl rfl | exact Or.inr rfl))) (fun _ _ _ _ _ => pts_nil) (fun _ _ _ _ _ => (pe_callTy cInt (by rfl) T.int (by decide +kernel) (pa_cons (pe_cmpR op_eq (pv 2) (pv 1) (nomark _)) pa_nil)))) pa_nil)))) pa_nil)))), ?_⟩
  show tRet _ _ [some (.int n), none, none] H
  walk_at "rds"
  refine lcR (fun r => (List.range n).map fun c => if r = c then (1 : Int) else 0) (by omega) (by omega) (fun _ => rfl) (fun i H' hi e Q' q => ?_) (fun D ys H' nD e hD r => ?_)
  · walk_at "rds"
    refine lcR (fun c => if i = c then (1 : Int) else 0) (by omega) (by omega) (fun _ => rfl) (fun j H2 hj e2 Q2 q2 => ?_) (fun D ys H2 nD e2 hD r => ?_)
    · walk_at "rds"
      refine q2 _ _ Ex.refl ?_
      by_cases hij : i = j
      · subst hij; simp; rfl
      · rw [if_neg hij, decide_eq_false (by omega)]; rfl
    · walk_at "rds"
      rw [Int.toNat_natCast] at r
      refine rd_tupOf hD fun p np => q _ _ (e2.trans (Ex.new np)) (rep_new np r)
  · walk_at "rds"
    rw [Int.toNat_natCast] at r
    exact rd_tupOf hD fun p np => k _ _ (e.trans (Ex.new np)) (rep_new np r)
end
end Fw
namespace Fw
open PySem PySem.Spec PyProof.Rows L2
open Rep (rep)
local macro_rules | `(tactic| walk_at "rd") => `(tactic| first
  | with_reducible apply rd_seq | with_reducible apply rd_asg | with_reducible apply rd_name | with_reducible apply rd_ret | with_reducible apply rd_drop | with_reducible apply rd_if
  | ((with_reducible refine' rd_var ?e ?h); (case e => exact rfl)) | with_reducible apply rd_c | with_reducible apply rd_op | with_reducible apply rd_un | with_reducible apply rd_I0 | with_reducible apply rd_U
  | with_reducible apply rd_eqI | with_reducible apply rd_neI | with_reducible apply rd_eqB | with_reducible apply rd_eqS | with_reducible apply rd_neS | with_reducible apply rd_tB | with_reducible apply rd_test | with_reducible apply rd_bl | with_reducible apply rd_not | with_reducible apply rd_and | with_reducible apply rd_or
  | with_reducible apply rd_andV | with_reducible apply rd_orV | with_reducible apply rd_notV | with_reducible apply rd_chain | with_reducible apply rd_nil | with_reducible apply rd_cons | with_reducible apply rd_CB | with_reducible apply rd_call | with_reducible apply rd_for
  | with_reducible apply rd_next | with_reducible apply rd_brk | with_reducible apply rd_cont | with_reducible apply rd_tup | with_reducible apply rd_lst | with_reducible apply rd_sub | with_reducible apply rd_BM | with_reducible apply rd_BM0
  | with_reducible apply rd_yes | with_reducible apply rd_nope | with_reducible apply rd_yes2 | with_reducible apply rd_nope2 | with_reducible apply rd_gCons | with_reducible apply rd_gNil | with_reducible apply rd_iTup | with_reducible apply rd_iList | with_reducible apply rd_iRng1 | with_reducible apply rd_iRng2
  | with_reducible apply rd_lc | with_reducible apply rd_augS | ((with_reducible refine' rd_aug ?e ?h); (case e => exact rfl)) | with_reducible apply rd_ip
  | with_reducible apply rd_max2 | with_reducible apply rd_min2 | with_reducible apply rd_max3 | with_reducible apply rd_intI | with_reducible apply rd_intB | with_reducible apply rd_abs)
local macro_rules | `(tactic| walk_at "rds") => `(tactic| repeat walk_at "rd")
local macro_rules | `(tactic| walk_at "sz") => `(tactic| exact Nat.le_trans (show _ ≤ 1000 by simp) (by decide))
local macro_rules | `(tactic| walk_at "hp") => `(tactic| first
  | with_reducible assumption | with_reducible exact upd_same
  | ((with_reducible refine' hp_ne ?n ?h); (case n => walk_at "ne"); (case h => walk_at "hp"))
  | ((with_reducible refine' Ex.get ?e ?h); (case e => with_reducible assumption); (case h => walk_at "hp"))
  | ((with_reducible refine' Eb.get ?e ?n ?h); (case e => with_reducible assumption); (case n => walk_at "ne"); (case h => walk_at "hp")))
local macro_rules | `(tactic| walk_at "ne") => `(tactic| first
  | with_reducible assumption | (apply Ne.symm; with_reducible assumption)
  | ((with_reducible refine' ne_non ?h ?n); (case n => with_reducible assumption); (case h => walk_at "hp"))
  | (apply Ne.symm; with_reducible refine' ne_non ?h ?n; (case n => with_reducible assumption); (case h => walk_at "hp")))
local macro_rules | `(tactic| walk_at "ti") => `(tactic| first
  | with_reducible assumption | with_reducible exact Ti.refl | (with_reducible exact Ex.ti (by with_reducible assumption))
  | ((with_reducible refine' Ti.trans ?a (Ti.new ?b)); (case b => with_reducible assumption); (case a => walk_at "ti"))
  | ((with_reducible refine' Ti.trans ?a (Ti.lst ?b)); (case b => walk_at "hp"); (case a => walk_at "ti"))
  | ((with_reducible refine' Ti.trans ?a (Ti.dK ?b)); (case b => walk_at "hp"); (case a => walk_at "ti"))
  | ((with_reducible refine' Ti.trans ?a (Ti.dT ?b)); (case b => walk_at "hp"); (case a => walk_at "ti"))
  | ((with_reducible refine' Ti.trans ?a ?b); (case b => with_reducible assumption); (case a => walk_at "ti"))
  | ((with_reducible refine' Ti.trans ?a (Ex.ti ?b)); (case b => with_reducible assumption); (case a => walk_at "ti")))
local macro_rules | `(tactic| walk_at "ex") => `(tactic| first
  | with_reducible assumption | with_reducible exact Ex.refl
  | ((with_reducible refine' Ex.mut ?a ?b); (case b => with_reducible assumption); (case a => walk_at "ex"))
  | ((with_reducible refine' Ex.trans ?a (Ex.new ?b)); (case b => with_reducible assumption); (case a => walk_at "ex"))
  | ((with_reducible refine' Ex.trans ?a ?b); (case b => with_reducible assumption); (case a => walk_at "ex")))
local macro_rules | `(tactic| walk_at "rp") => `(tactic| first
  | with_reducible assumption | ((with_reducible refine' Rep.mono ?t ?h); (case h => with_reducible assumption); (case t => walk_at "ti"))
  | ((with_reducible refine' Reps.mono ?t ?h); (case h => with_reducible assumption); (case t => walk_at "ti")))
section
variable {P : Program} {w : World} {K : PySem.W.Frag} {mg : Str → Option Value} {base : Heap}
/-- a square table -/
def Sq (t : List (List Int)) : Prop := t.length ≤ 100 ∧ ∀ r ∈ t, r.length = t.length
theorem Sq.ok {t : List (List Int)} (h : Sq t) : JoinOk t t t.length := ⟨h.1, by have := h.1; omega, by have := h.1; omega, fun r hr => Nat.le_of_eq (h.2 r hr), fun r hr => Nat.le_of_eq (h.2 r hr).symm⟩
def ownSq (t : List (List Int)) : Bool := decide (joinT t t t.length = t)
def ownFall (t : List (List Int)) : Bool := ((List.range t.length).map fun k => decide ((t.getD k []).getD k 0 = 2)).any id
theorem Sq.row {t : List (List Int)} (h : Sq t) {k : Nat} (hk : k < t.length) : (t.getD k []).length = t.length := by
  rw [List.getD_eq_getElem?_getD, List.getElem?_eq_getElem hk]
  exact h.2 _ (List.getElem_mem _)
def spOwnSq : Sp := fun vs H Q _ => ∃ (v : V) (t : List (List Int)), vs = [v] ∧ rep H v t ∧ Sq t ∧ ∀ H', Ex H H' → Q (.bl (ownSq t)) H'
abbrev s_is_own_square : Stmt := topS 2
theorem sc_is_own_square : FnScope ["table"] ["table"] (C8.fnScope s_is_own_square) := C8.fnScope_by (by decide +kernel)
theorem ok_ownsq (F : Df K mg "is_own_square" s_is_own_square ["table"]) (T : Bt mg) (c_compose : C8.Cal P w K mg base 1 "compose" spJoin []) : C8.Cal P w K mg base 2 "is_own_square" spOwnSq [] := by
  have sc := sc_is_own_square
  refine F.cal sc (fun vs H Q E h => ?_) (fun f cdv A outer s H vs Q E hr h => ?_)
  · obtain ⟨v, t, rfl, _⟩ := h; rfl
  obtain ⟨v, t, rfl, r, ok, k⟩ := h
  have hu64 := hr.units
  refine ⟨_, 
    (pss_one (ps_ret (pe_cmpR (opEqD K hu64) (C8.pe_c c_compose hr (by decide) (by rfl) (pa_cons (pv 0) (pa_cons (pv 0) (pa_cons (pe_callB (cLen K) (by rfl) T.len (by decide +kernel) (pa_cons (pv 0) pa_nil)) pa_nil)))) (pv 0) (nomark _)))), ?_⟩
  show tRet _ _ [some v] H
  walk_at "rds"
  refine rd_lenT r ?_
  walk_at "rds"
  refine ⟨v, v, t, t, t.length, rfl, r, r, ok.ok, fun u H' e ru => ?_⟩
  walk_at "rds"
  exact rd_eqD ru (by walk_at "rp" : rep H' v t) (tab_ok _) (tab_ok _) (by decide) (k _ e)
def spOwnFall : Sp := fun vs H Q _ => ∃ (v : V) (t : List (List Int)), vs = [v] ∧ rep H v t ∧ Sq t ∧ ∀ H', Ex H H' → Q (.bl (ownFall t)) H'
abbrev s_has_own_fall : Stmt := topS 3
theorem sc_has_own_fall : FnScope ["table", "place"] ["table"] (C8.fnScope s_has_own_fall) := C8.fnScope_by (by decide +kernel)
theorem ok_ownfall (F : Df K mg "has_own_fall" s_has_own_fall ["table"]) (T : Bt mg) : C8.Cal P w K mg base 1 "has_own_fall" spOwnFall [] := by
  have sc := sc_has_own_fall
  refine F.cal sc (fun vs H Q E h => ?_) (fun f cdv A outer s H vs Q E hr h => ?_)
  · obtain ⟨v, t, rfl, _⟩ := h; rfl
  obtain ⟨v, t, rfl, r, ok, k⟩ := h
  refine ⟨_, 
    (pss_one (ps_ret (pe_callB (cAny K rfl) (by rfl) T.any (by decide +kernel) (pa_cons (pe_lc (own := [("place", 1)]) (by rfl) sc.nd (pi_range1 (by rfl) T.range (pa_cons (pe_callB (cLen K) (by rfl) T.len (by decide +kernel) (pa_cons (pv 0) pa_nil)) pa_nil)) (blkOk_by (N := ["table", "place"]) (sc := C8.fnScope s_has_own_fall) (own := [("place", 1)]) (by decide +kernel)) (fun _ _ _ _ _ => (pg_name (i := 1) sc.nd rfl (by first | exact Or.inl rfl | exact Or.inr rfl))) (fun _ _ _ _ _ => pts_nil) (fun _ _ _ _ _ => (pe_cmpR op_eq (pe_ix (ixT K) (pe_ix (ixT K) (pv 0) (pv 1) (fun _ _ => rfl)) (pv 1) (fun _ _ => rfl)) pe_int (nomark _)))) pa_nil)))), ?_⟩
  show tRet _ _ [some v, none] H
  have hl := ok.1
  walk_at "rds"
  refine rd_lenT r ?_
  walk_at "rds"
  refine lcR (fun k => decide ((t.getD k []).getD k 0 = 2)) (by omega) (by omega) (fun _ => rfl) (fun i H' hi e Q' q => ?_) (fun D ys H' nD e hD r => ?_)
  · have r' : rep H' v t := by walk_at "rp"
    walk_at "rds"
    refine rd_ixTL r' (by omega) (by omega) fun w rw' => ?_
    rw [Int.toNat_natCast] at rw'
    walk_at "rds"
    refine rd_ixTI rw' (by omega) (by rw [ok.row (by omega)]; omega) ?_
    rw [Int.toNat_natCast]
    walk_at "rds"
    exact q _ _ Ex.refl rfl
  · walk_at "rds"
    rw [r.bools, Int.toNat_natCast] at hD
    exact rd_any hD (k _ e)
def spWrong : Sp := fun vs H Q _ => ∃ (v : V) (m : P3 Int Int (List (List Int))), vs = [v] ∧ rep H v m ∧ m.a = m.b ∧ Sq m.c ∧ ∀ H', Ex H H' → Q (.bl (ownSq m.c && !ownFall m.c)) H'
abbrev s_law_wrong_round : Stmt := topS 20
theorem sc_law_wrong_round : FnScope ["member", "table", "k"] ["member"] (C8.fnScope s_law_wrong_round) := C8.fnScope_by (by decide +kernel)
theorem ok_wrong (F : Df K mg "_law_wrong_round" s_law_wrong_round ["member"]) (T : Bt mg) (c_law_join : C8.Cal P w K mg base 1 "_law_join" spJoin []) : C8.Cal P w K mg base 2 "_law_wrong_round" spWrong [] := by
  have sc := sc_law_wrong_round
  refine F.cal sc (fun vs H Q E h => ?_) (fun f cdv A outer s H vs Q E hr h => ?_)
  · obtain ⟨v, m, rfl, _⟩ := h; rfl
  obtain ⟨v, ⟨a, b, t⟩, rfl, r, hab, ok, k⟩ := h
  have hu64 := hr.units
  refine ⟨_, 
    (pss_cons (ps_set (i := 1) sc.nd rfl (by first | exact Or.inl rfl | exact Or.inr rfl) (pe_ix (ixT K) (pv 0) pe_int (fun _ _ => rfl)))
    (pss_cons (ps_if (PW.pt (pw_or (pt_cmpR op_ne (pe_ix (ixT K) (pv 0) pe_int (fun _ _ => rfl)) (pe_ix (ixT K) (pv 0) pe_int (fun _ _ => rfl)) (nomark _)) (pw_or1 (pt_cmpR (opNeD K hu64) (C8.pe_c c_law_join hr (by decide) (by rfl) (pa_cons (pv 1) (pa_cons (pv 1) (pa_cons (pe_callB (cLen K) (by rfl) T.len (by decide +kernel) (pa_cons (pv 1) pa_nil)) pa_nil)))) (pv 1) (nomark _)))))
    (pss_one (ps_ret pe_bl))
    pss_nil)
    (pss_one (ps_ret (pe_not (pe_callB (cAny K rfl) (by rfl) T.any (by decide +kernel) (pa_cons (pe_lc (own := [("k", 2)]) (by rfl) sc.nd (pi_range1 (by rfl) T.range (pa_cons (pe_callB (cLen K) (by rfl) T.len (by decide +kernel) (pa_cons (pv 1) pa_nil)) pa_nil)) (blkOk_by (N := ["member", "table", "k"]) (sc := C8.fnScope s_law_wrong_round) (own := [("k", 2)]) (by decide +kernel)) (fun _ _ _ _ _ => (pg_name (i := 2) sc.nd rfl (by first | exact Or.inl rfl | exact Or.inr rfl))) (fun _ _ _ _ _ => pts_nil) (fun _ _ _ _ _ => (pe_cmpR op_eq (pe_ix (ixT K) (pe_ix (ixT K) (pv 1) (pv 2) (fun _ _ => rfl)) (pv 2) (fun _ _ => rfl)) pe_int (nomark _)))) pa_nil))))))), ?_⟩
  show tSeq _ _ _ [some v, none, none] H
  have hl := ok.1
  dsimp only at hab ok hl k
  subst hab
  walk_at "rds"
  refine rd_p3c r fun wt rt => ?_
  walk_at "rds"
  refine rd_p3a r fun wa ra => ?_
  cases ra
  walk_at "rds"
  refine rd_p3b r fun wb rb => ?_
  cases rb
  walk_at "rds"
  refine rd_ndec (fun h => absurd rfl h) (fun _ => ?_)
  walk_at "rds"
  refine rd_lenT rt ?_
  walk_at "rds"
  refine ⟨wt, wt, t, t, t.length, rfl, rt, rt, ok.ok, fun u H' e ru => ?_⟩
  walk_at "rds"
  have rt' : rep H' wt t := by walk_at "rp"
  refine rd_neD ru rt' (tab_ok _) (tab_ok _) (by decide) ?_
  walk_at "rds"
  refine rd_ndec (fun h => ?_) (fun h => ?_)
  · walk_at "rds"
    have e1 : ownSq t = false := decide_eq_false h
    have q := k _ e
    rw [e1] at q
    exact q
  · walk_at "rds"
    have e1 : ownSq t = true := decide_eq_true h
    refine rd_lenT rt' ?_
    walk_at "rds"
    refine lcR (fun k => decide ((t.getD k []).getD k 0 = 2)) (by omega) (by omega) (fun _ => rfl) (fun i H2 hi e2 Q' q => ?_) (fun D ys H2 nD e2 hD r => ?_)
    · have r' : rep H2 wt t := by walk_at "rp"
      walk_at "rds"
      refine rd_ixTL r' (by omega) (by omega) fun w rw' => ?_
      rw [Int.toNat_natCast] at rw'
      walk_at "rds"
      refine rd_ixTI rw' (by omega) (by rw [ok.row (by omega)]; omega) ?_
      rw [Int.toNat_natCast]
      walk_at "rds"
      exact q _ _ Ex.refl rfl
    · walk_at "rds"
      rw [r.bools, Int.toNat_natCast] at hD
      refine rd_any hD ?_
      walk_at "rds"
      have q := k _ (e.trans e2)
      rw [e1] at q
      exact q
def spIsNum : Sp := fun vs H Q _ => ∃ z lim : Int, vs = [.int z, .int lim] ∧ 0 ≤ z ∧ z < lim ∧ Q (.bl true) H
abbrev s_is_number : Stmt := topS 9
theorem sc_is_number : FnScope ["thing", "limit"] ["thing", "limit"] (C8.fnScope s_is_number) := C8.fnScope_by (by decide +kernel)
theorem ok_isnum (F : Df K mg "is_number" s_is_number ["thing", "limit"]) (T : Bt mg) : C8.Cal P w K mg base 1 "is_number" spIsNum [] := by
  have sc := sc_is_number
  refine F.cal sc (fun vs H Q E h => ?_) (fun f cdv A outer s H vs Q E hr h => ?_)
  · obtain ⟨z, lim, rfl, _⟩ := h; rfl
  obtain ⟨z, lim, rfl, h0, h1, k⟩ := h
  refine ⟨_, 
    (pss_one (ps_ret (pe_and (pe_callB (cIsi K) (by rfl) T.isinstance (by decide +kernel) (pa_cons (pv 0) (pa_cons (pe_bltn (v := .ty "int") (by rfl) T.int (by decide +kernel) rfl) pa_nil))) (pe_and (pe_not (pe_callB (cIsi K) (by rfl) T.isinstance (by decide +kernel) (pa_cons (pv 0) (pa_cons (pe_bltn (v := .ty "bool") (by rfl) T.bool (by decide +kernel) rfl) pa_nil)))) (pe_one (pe_chain op_le op_lt pe_int (pv 0) (pv 1))))))), ?_⟩
  show tRet _ _ [some (.int z), some (.int lim)] H
  walk_at "rds"
  refine rd_isi ty_int (b := true) (by decide +kernel) ?_
  walk_at "rds"
  refine rd_isi ty_int (b := false) (by decide +kernel) ?_
  walk_at "rds"
  refine rd_dec (fun _ => ?_) (fun h => absurd h0 h)
  walk_at "rds"
  rw [decide_eq_true h1]
  exact k
end
end Fw
namespace Fw
open PySem PySem.Spec PyProof.Rows L2
open Rep (rep)
local macro_rules | `(tactic| walk_at "rd") => `(tactic| first
  | with_reducible apply rd_seq | with_reducible apply rd_asg | with_reducible apply rd_name | with_reducible apply rd_ret | with_reducible apply rd_drop | with_reducible apply rd_if
  | ((with_reducible refine' rd_var ?e ?h); (case e => exact rfl)) | with_reducible apply rd_c | with_reducible apply rd_op | with_reducible apply rd_un | with_reducible apply rd_I0 | with_reducible apply rd_U
  | with_reducible apply rd_eqI | with_reducible apply rd_neI | with_reducible apply rd_eqB | with_reducible apply rd_eqS | with_reducible apply rd_neS | with_reducible apply rd_tB | with_reducible apply rd_test | with_reducible apply rd_bl | with_reducible apply rd_not | with_reducible apply rd_and | with_reducible apply rd_or
  | with_reducible apply rd_andV | with_reducible apply rd_orV | with_reducible apply rd_notV | with_reducible apply rd_chain | with_reducible apply rd_nil | with_reducible apply rd_cons | with_reducible apply rd_CB | with_reducible apply rd_call | with_reducible apply rd_for
  | with_reducible apply rd_next | with_reducible apply rd_brk | with_reducible apply rd_cont | with_reducible apply rd_tup | with_reducible apply rd_lst | with_reducible apply rd_sub | with_reducible apply rd_BM | with_reducible apply rd_BM0
  | with_reducible apply rd_yes | with_reducible apply rd_nope | with_reducible apply rd_yes2 | with_reducible apply rd_nope2 | with_reducible apply rd_gCons | with_reducible apply rd_gNil | with_reducible apply rd_iTup | with_reducible apply rd_iList | with_reducible apply rd_iRng1 | with_reducible apply rd_iRng2
  | with_reducible apply rd_lc | with_reducible apply rd_augS | ((with_reducible refine' rd_aug ?e ?h); (case e => exact rfl)) | with_reducible apply rd_ip
  | with_reducible apply rd_max2 | with_reducible apply rd_min2 | with_reducible apply rd_max3 | with_reducible apply rd_intI | with_reducible apply rd_intB | with_reducible apply rd_abs)
local macro_rules | `(tactic| walk_at "rds") => `(tactic| repeat walk_at "rd")
local macro_rules | `(tactic| walk_at "sz") => `(tactic| exact Nat.le_trans (show _ ≤ 1000 by simp) (by decide))
local macro_rules | `(tactic| walk_at "hp") => `(tactic| first
  | with_reducible assumption | with_reducible exact upd_same
  | ((with_reducible refine' hp_ne ?n ?h); (case n => walk_at "ne"); (case h => walk_at "hp"))
  | ((with_reducible refine' Ex.get ?e ?h); (case e => with_reducible assumption); (case h => walk_at "hp"))
  | ((with_reducible refine' Eb.get ?e ?n ?h); (case e => with_reducible assumption); (case n => walk_at "ne"); (case h => walk_at "hp")))
local macro_rules | `(tactic| walk_at "ne") => `(tactic| first
  | with_reducible assumption | (apply Ne.symm; with_reducible assumption)
  | ((with_reducible refine' ne_non ?h ?n); (case n => with_reducible assumption); (case h => walk_at "hp"))
  | (apply Ne.symm; with_reducible refine' ne_non ?h ?n; (case n => with_reducible assumption); (case h => walk_at "hp")))
local macro_rules | `(tactic| walk_at "ti") => `(tactic| first
  | with_reducible assumption | with_reducible exact Ti.refl | (with_reducible exact Ex.ti (by with_reducible assumption))
  | ((with_reducible refine' Ti.trans ?a (Ti.new ?b)); (case b => with_reducible assumption); (case a => walk_at "ti"))
  | ((with_reducible refine' Ti.trans ?a (Ti.lst ?b)); (case b => walk_at "hp"); (case a => walk_at "ti"))
  | ((with_reducible refine' Ti.trans ?a (Ti.dK ?b)); (case b => walk_at "hp"); (case a => walk_at "ti"))
  | ((with_reducible refine' Ti.trans ?a (Ti.dT ?b)); (case b => walk_at "hp"); (case a => walk_at "ti"))
  | ((with_reducible refine' Ti.trans ?a ?b); (case b => with_reducible assumption); (case a => walk_at "ti"))
  | ((with_reducible refine' Ti.trans ?a (Ex.ti ?b)); (case b => with_reducible assumption); (case a => walk_at "ti")))
local macro_rules | `(tactic| walk_at "ex") => `(tactic| first
  | with_reducible assumption | with_reducible exact Ex.refl
  | ((with_reducible refine' Ex.mut ?a ?b); (case b => with_reducible assumption); (case a => walk_at "ex"))
  | ((with_reducible refine' Ex.trans ?a (Ex.new ?b)); (case b => with_reducible assumption); (case a => walk_at "ex"))
  | ((with_reducible refine' Ex.trans ?a ?b); (case b => with_reducible assumption); (case a => walk_at "ex")))
local macro_rules | `(tactic| walk_at "rp") => `(tactic| first
  | with_reducible assumption | ((with_reducible refine' Rep.mono ?t ?h); (case h => with_reducible assumption); (case t => walk_at "ti"))
  | ((with_reducible refine' Reps.mono ?t ?h); (case h => with_reducible assumption); (case t => walk_at "ti")))
/-! ### webs and words -/
abbrev Tab := List (List Int)
abbrev Edge := P3 Int Int Tab
structure TabOk (t : Tab) (n m : Nat) : Prop where
  rows : t.length = n
  cols : ∀ r ∈ t, r.length = m
  ent : ∀ r ∈ t, ∀ x ∈ r, 0 ≤ x ∧ x ≤ 2
def edgeAt (edges : List Edge) (z : Int) : Edge := edges.getD z.toNat ⟨0, 0, []⟩
def szN (sizes : List Int) (z : Int) : Nat := (sizes.getD z.toNat 0).toNat
structure Web (sizes : List Int) (edges : List Edge) : Prop where
  n1 : 1 ≤ sizes.length
  n3 : sizes.length ≤ 10
  sz : ∀ s ∈ sizes, 0 ≤ s ∧ s ≤ 50
  el : edges.length ≤ 100
  ed : ∀ e ∈ edges, 0 ≤ e.a ∧ e.a < sizes.length ∧ 0 ≤ e.b ∧ e.b < sizes.length ∧ TabOk e.c (szN sizes e.a) (szN sizes e.b)
  out : ∀ k : Nat, k < sizes.length → ∃ e, edges[k]? = some e ∧ e.a = k
structure WordOk (edges : List Edge) (word : List Int) : Prop where
  ne : word ≠ []
  len : word.length ≤ 200
  num : ∀ z ∈ word, 0 ≤ z ∧ z < edges.length
  chain : ∀ i : Nat, i + 1 < word.length → (edgeAt edges (word.getD i 0)).b = (edgeAt edges (word.getD (i + 1) 0)).a
theorem edgeAt_mem {edges : List Edge} {z : Int} (h0 : 0 ≤ z) (h1 : z < edges.length) : edgeAt edges z ∈ edges := by
  unfold edgeAt
  rw [List.getD_eq_getElem?_getD, List.getElem?_eq_getElem (by omega)]
  exact List.getElem_mem _
theorem Web.edge {sizes : List Int} {edges : List Edge} (W : Web sizes edges) {z : Int} (h0 : 0 ≤ z) (h1 : z < edges.length) :
    0 ≤ (edgeAt edges z).a ∧ (edgeAt edges z).a < sizes.length ∧ 0 ≤ (edgeAt edges z).b ∧ (edgeAt edges z).b < sizes.length ∧ TabOk (edgeAt edges z).c (szN sizes (edgeAt edges z).a) (szN sizes (edgeAt edges z).b) := W.ed _ (edgeAt_mem h0 h1)
theorem Web.szle {sizes : List Int} {edges : List Edge} (W : Web sizes edges) (z : Int) : szN sizes z ≤ 50 := by
  unfold szN
  by_cases h : z.toNat < sizes.length
  · rw [List.getD_eq_getElem?_getD, List.getElem?_eq_getElem h]
    have := W.sz _ (List.getElem_mem h)
    show (sizes[z.toNat]).toNat ≤ 50
    omega
  · rw [List.getD_eq_getElem?_getD, List.getElem?_eq_none (by omega)]
    decide
theorem Web.szI {sizes : List Int} {edges : List Edge} (W : Web sizes edges) {z : Int} (h1 : z.toNat < sizes.length) : sizes.getD z.toNat 0 = (szN sizes z : Int) := by
  unfold szN
  rw [List.getD_eq_getElem?_getD, List.getElem?_eq_getElem h1]
  have := W.sz _ (List.getElem_mem h1)
  show sizes[z.toNat] = ((sizes[z.toNat]).toNat : Int)
  omega
theorem WordOk.at {edges : List Edge} {word : List Int} (h : WordOk edges word) {i : Nat} (hi : i < word.length) : 0 ≤ word.getD i 0 ∧ word.getD i 0 < edges.length := by
  rw [List.getD_eq_getElem?_getD, List.getElem?_eq_getElem hi]
  exact h.num _ (List.getElem_mem hi)
section
variable {H : Hp} {K : PySem.W.Frag} {Q : VK} {v : V}
theorem rd_edge {edges : List Edge} {z : Int} (h : rep H v edges) (h0 : 0 ≤ z) (h1 : z < edges.length) (q : ∀ w, rep H w (edgeAt edges z) → Q w H) : rIxT K v (.int z) H Q := by
  have hj : z.toNat < edges.length := by omega
  refine rd_ixT h z.toNat (by omega) (List.getElem?_eq_getElem hj) fun w hw => q w ?_
  unfold edgeAt
  rw [List.getD_eq_getElem?_getD, List.getElem?_eq_getElem hj]
  exact hw
end
theorem rd_word {K : PySem.W.Frag} {H : Hp} {v : V} {Q : VK} {word : List Int} {z : Int} (h : rep H v word) (i : Nat) (hz : z = (i : Int)) (hi : i < word.length) (q : Q (.int (word.getD i 0)) H) : rIxT K v (.int z) H Q := by
  refine rd_ixTI h (by omega) (by omega) ?_
  rw [hz, Int.toNat_natCast]
  exact q
/-- the table of a way -/
def wtab (sizes : List Int) (edges : List Edge) (t : Tab) (l : List Int) : Tab := l.foldl (fun t z => joinT t (edgeAt edges z).c (szN sizes (edgeAt edges z).b)) t
def Dim (t : Tab) (r c : Nat) : Prop := t.length = r ∧ ∀ row ∈ t, row.length = c
theorem dim_join {f s : Tab} {c : Nat} : Dim (joinT f s c) f.length c := by
  unfold joinT
  refine ⟨by simp, fun row h => ?_⟩
  obtain ⟨r, _, rfl⟩ := List.mem_map.mp h
  simp
theorem TabOk.dim {t : Tab} {n m : Nat} (h : TabOk t n m) : Dim t n m := ⟨h.rows, h.cols⟩
theorem wtab_snoc {sizes : List Int} {edges : List Edge} {t : Tab} {l : List Int} {z : Int} : wtab sizes edges t (l ++ [z]) = joinT (wtab sizes edges t l) (edgeAt edges z).c (szN sizes (edgeAt edges z).b) := by
  unfold wtab
  rw [List.foldl_append]
  rfl
/-- the node that a word's first so many edges lead to -/
theorem joinOk_of {t s : Tab} {r c m : Nat} (h : Dim t r c) (h2 : Dim s c m) (hr : r ≤ 50) (hc : c ≤ 50) (hm : m ≤ 50) : JoinOk t s m :=
  ⟨by omega, by rw [h.1]; omega, by rw [h2.1]; omega, fun row q => by rw [h.2 row q, h2.1]; exact Nat.le_refl _, fun row q => Nat.le_of_eq (h2.2 row q).symm⟩
def backW (edges : List Edge) (word : List Int) : Prop := (edgeAt edges (word.getLastD 0)).b = (edgeAt edges (word.getD 0 0)).a
theorem last_getD {α : Type} {l : List α} {d : α} (h : l ≠ []) : l.getLastD d = l.getD (l.length - 1) d := by
  rw [List.getD_eq_getElem?_getD, ← List.getLast?_eq_getElem?, List.getLastD_eq_getLast?]
theorem dim_wtab {sizes : List Int} {edges : List Edge} {word : List Int} (W : Web sizes edges) (wo : WordOk edges word) {t : Tab} {r : Nat} : ∀ i, i < word.length → Dim t r (szN sizes (edgeAt edges (word.getD 0 0)).b) → Dim (wtab sizes edges t ((word.drop 1).take i)) r (szN sizes (edgeAt edges (word.getD i 0)).b)
  | 0, _, h => h
  | i + 1, hi, h => by
    have ih := dim_wtab W wo (t := t) (r := r) i (by omega) h
    have e : (word.drop 1).take (i + 1) = (word.drop 1).take i ++ [word.getD (i + 1) 0] := by
      rw [List.take_add_one, List.getElem?_drop, show 1 + i = i + 1 by omega, List.getD_eq_getElem?_getD, List.getElem?_eq_getElem hi]
      rfl
    rw [e, wtab_snoc]
    have d := dim_join (f := wtab sizes edges t ((word.drop 1).take i)) (s := (edgeAt edges (word.getD (i + 1) 0)).c) (c := szN sizes (edgeAt edges (word.getD (i + 1) 0)).b)
    rw [ih.1] at d
    exact d
instance (edges : List Edge) (word : List Int) : Decidable (backW edges word) := inferInstanceAs (Decidable (_ = _))
def endlessW (sizes : List Int) (edges : List Edge) (word : List Int) : Bool :=
  if backW edges word then ownSq (wtab sizes edges (edgeAt edges (word.getD 0 0)).c (word.drop 1)) && !ownFall (wtab sizes edges (edgeAt edges (word.getD 0 0)).c (word.drop 1)) else false
section
variable {P : Program} {w : World} {K : PySem.W.Frag} {mg : Str → Option Value} {base : Heap}
def spJudge : Sp := fun vs H Q _ => ∃ (v1 v2 v3 : V) (sizes : List Int) (edges : List Edge) (word : List Int), vs = [v1, v2, v3] ∧ rep H v1 sizes ∧ rep H v2 edges ∧ rep H v3 word ∧ Web sizes edges ∧ WordOk edges word ∧
  ∀ H', Ex H H' → Q (.bl (endlessW sizes edges word)) H'
abbrev s_judge_endless : Stmt := topS 10
theorem sc_judge_endless : FnScope ["sizes", "edges", "word", "number", "table", "at"] ["sizes", "edges", "word"] (C8.fnScope s_judge_endless) := C8.fnScope_by (by decide +kernel)
theorem ok_judge (F : Df K mg "judge_endless" s_judge_endless ["sizes", "edges", "word"]) (T : Bt mg) (c_is_number : C8.Cal P w K mg base 1 "is_number" spIsNum []) (c_compose : C8.Cal P w K mg base 1 "compose" spJoin [])
    (c_is_own_square : C8.Cal P w K mg base 2 "is_own_square" spOwnSq []) (c_has_own_fall : C8.Cal P w K mg base 1 "has_own_fall" spOwnFall []) : C8.Cal P w K mg base 3 "judge_endless" spJudge [] := by
  have sc := sc_judge_endless
  refine F.cal sc (fun vs H Q E h => ?_) (fun f cdv A outer s H vs Q E hr h => ?_)
  · obtain ⟨v1, v2, v3, sizes, edges, word, rfl, _⟩ := h; rfl
  obtain ⟨v1, v2, v3, sizes, edges, word, rfl, r1, r2, r3, W, wo, k⟩ := h
  refine ⟨_, 
    (pss_cons (ps_if (PW.pt (pw_or (pt_not (pt_val (pe_callB (cIsi K) (by rfl) T.isinstance (by decide +kernel) (pa_cons (pv 2) (pa_cons (pe_bltn (v := .ty "tuple") (by rfl) T.tuple (by decide +kernel) rfl) pa_nil))))) (pw_or1 (pt_cmpR op_eq (pe_callB (cLen K) (by rfl) T.len (by decide +kernel) (pa_cons (pv 2) pa_nil)) pe_int (nomark _)))))
    (pss_one (ps_ret pe_bl))
    pss_nil)
    (pss_cons (ps_if (pt_not (pt_val (pe_callB (cAll K rfl) (by rfl) T.all (by decide +kernel) (pa_cons (pe_lc (own := [("number", 3)]) (by rfl) sc.nd (piT K (pv 2)) (blkOk_by (N := ["sizes", "edges", "word", "number", "table", "at"]) (sc := C8.fnScope s_judge_endless) (own := [("number", 3)]) (by decide +kernel)) (fun _ _ _ _ _ => (pg_name (i := 3) sc.nd rfl (by first | exact Or.inl rfl | exact Or.inr rfl))) (fun _ _ _ _ _ => pts_nil) (fun _ _ _ _ _ => (C8.pe_c c_is_number hr (by decide) (by rfl) (pa_cons (pv 3) (pa_cons (pe_callB (cLen K) (by rfl) T.len (by decide +kernel) (pa_cons (pv 1) pa_nil)) pa_nil))))) pa_nil))))
    (pss_one (ps_ret pe_bl))
    pss_nil)
    (pss_cons (ps_set (i := 4) sc.nd rfl (by first | exact Or.inl rfl | exact Or.inr rfl) (pe_ix (ixT K) (pe_ix (ixT K) (pv 1) (pe_ix (ixT K) (pv 2) pe_int (fun _ _ => rfl)) (fun _ _ => rfl)) pe_int (fun _ _ => rfl)))
    (pss_cons (ps_for PassesOwn.never rfl (pi_range2 (by rfl) T.range (pa_cons pe_int (pa_cons (pe_callB (cLen K) (by rfl) T.len (by decide +kernel) (pa_cons (pv 2) pa_nil)) pa_nil))) (pg_name (i := 5) sc.nd rfl (by first | exact Or.inl rfl | exact Or.inr rfl))
    (pss_cons (ps_if (pt_cmpR op_ne (pe_ix (ixT K) (pe_ix (ixT K) (pv 1) (pe_ix (ixT K) (pv 2) (pe_op op_sub (pv 5) pe_int) (fun _ _ => rfl)) (fun _ _ => rfl)) pe_int (fun _ _ => rfl)) (pe_ix (ixT K) (pe_ix (ixT K) (pv 1) (pe_ix (ixT K) (pv 2) (pv 5) (fun _ _ => rfl)) (fun _ _ => rfl)) pe_int (fun _ _ => rfl)) (nomark _))
    (pss_one (ps_ret pe_bl))
    pss_nil)
    (pss_one (ps_set (i := 4) sc.nd rfl (by first | exact Or.inl rfl | exact Or.inr rfl) (C8.pe_c c_compose hr (by decide) (by rfl) (pa_cons (pv 4) (pa_cons (pe_ix (ixT K) (pe_ix (ixT K) (pv 1) (pe_ix (ixT K) (pv 2) (pv 5) (fun _ _ => rfl)) (fun _ _ => rfl)) pe_int (fun _ _ => rfl)) (pa_cons (pe_ix (ixT K) (pv 0) (pe_ix (ixT K) (pe_ix (ixT K) (pv 1) (pe_ix (ixT K) (pv 2) (pv 5) (fun _ _ => rfl)) (fun _ _ => rfl)) pe_int (fun _ _ => rfl)) (fun _ _ => rfl)) pa_nil))))))))
    (pss_cons (ps_if (pt_cmpR op_ne (pe_ix (ixT K) (pe_ix (ixT K) (pv 1) (pe_ix (ixT K) (pv 2) (pe_un un_neg pe_int) (fun _ _ => rfl)) (fun _ _ => rfl)) pe_int (fun _ _ => rfl)) (pe_ix (ixT K) (pe_ix (ixT K) (pv 1) (pe_ix (ixT K) (pv 2) pe_int (fun _ _ => rfl)) (fun _ _ => rfl)) pe_int (fun _ _ => rfl)) (nomark _))
    (pss_one (ps_ret pe_bl))
    pss_nil)
    (pss_one (ps_ret (pe_and (C8.pe_c c_is_own_square hr (by decide) (by rfl) (pa_cons (pv 4) pa_nil)) (pe_one (pe_not (C8.pe_c c_has_own_fall hr (by decide) (by rfl) (pa_cons (pv 4) pa_nil)))))))))))), ?_⟩
  show tSeq _ _ _ [some v1, some v2, some v3, none, none, none] H
  have hlen := wo.len
  have hpos : 0 < word.length := List.length_pos_iff.mpr wo.ne
  have hel := W.el
  walk_at "rds"
  obtain ⟨a3, u3, e3, h3, r3'⟩ := id r3
  refine rd_isi (v := v3) (by rw [e3]; exact ty_tup h3) (b := true) (by decide +kernel) ?_
  walk_at "rds"
  refine rd_lenT r3 ?_
  walk_at "rds"
  refine rd_dec (fun h => by omega) (fun _ => ?_)
  walk_at "rds"
  refine lcT (fun _ => true) r3 Ti.refl (by omega) (fun _ => rfl) (fun i H' wv z hz rz e Q' q => ?_) (fun D ys H1 nD e1 hD r => ?_)
  · cases rz
    walk_at "rds"
    refine rd_lenT (l := edges) (by walk_at "rp") ?_
    walk_at "rds"
    obtain ⟨z0, z1⟩ := wo.num z (List.mem_of_getElem? hz)
    exact ⟨z, _, rfl, z0, z1, q _ _ Ex.refl rfl⟩
  · walk_at "rds"
    rw [r.bools] at hD
    refine rd_all hD ?_
    have ea : (word.map (fun _ => true)).all id = true := by simp
    rw [ea]
    walk_at "rds"
    have r1' : rep H1 v1 sizes := by walk_at "rp"
    have r2' : rep H1 v2 edges := by walk_at "rp"
    have r3' : rep H1 v3 word := by walk_at "rp"
    refine rd_word r3' 0 rfl hpos ?_
    obtain ⟨a0, a1⟩ := wo.at hpos
    refine rd_edge r2' a0 a1 fun we0 re0 => ?_
    walk_at "rds"
    refine rd_p3c re0 fun wt rt => ?_
    walk_at "rds"
    refine rd_lenT r3' ?_
    walk_at "rds"
    have E0 := W.edge a0 a1
    have d0 := E0.2.2.2.2.dim
    refine r_range2 (by omega) (by omega) (by omega) (fun i σ' H' => ∃ (vt : V) (k5 : Option V), σ' = [some v1, some v2, some v3, none, some vt, k5] ∧ Ex H1 H' ∧ rep H' vt (wtab sizes edges (edgeAt edges (word.getD 0 0)).c ((word.drop 1).take i))) ?_ ?_ ?_
    · exact ⟨wt, none, rfl, Ex.refl, rt⟩
    · rintro i σ' H2 hi ⟨vt, k5, rfl, e2, rvt⟩
      have hi1 : i + 1 < word.length := by omega
      have s1 : rep H2 v1 sizes := by walk_at "rp"
      have s2 : rep H2 v2 edges := by walk_at "rp"
      have s3 : rep H2 v3 word := by walk_at "rp"
      obtain ⟨b0, b1⟩ := wo.at (i := i) (by omega)
      obtain ⟨c0, c1⟩ := wo.at (i := i + 1) hi1
      have Ei := W.edge c0 c1
      walk_at "rds"
      refine rd_word s3 i (by omega) (by omega) ?_
      refine rd_edge s2 b0 b1 fun we re => ?_
      walk_at "rds"
      refine rd_p3b re fun wb rb => ?_
      cases rb
      walk_at "rds"
      refine rd_word s3 (i + 1) (by omega) hi1 ?_
      refine rd_edge s2 c0 c1 fun we' re' => ?_
      walk_at "rds"
      refine rd_p3a re' fun wb rb => ?_
      cases rb
      walk_at "rds"
      refine rd_ndec (fun h => absurd (wo.chain i hi1) h) (fun _ => ?_)
      walk_at "rds"
      refine rd_word s3 (i + 1) (by omega) hi1 ?_
      refine rd_edge s2 c0 c1 fun we2 re2 => ?_
      walk_at "rds"
      refine rd_p3c re2 fun wt2 rt2 => ?_
      walk_at "rds"
      refine rd_word s3 (i + 1) (by omega) hi1 ?_
      refine rd_edge s2 c0 c1 fun we3 re3 => ?_
      walk_at "rds"
      refine rd_p3b re3 fun wb rb => ?_
      cases rb
      refine rd_ixTI s1 Ei.2.2.1 Ei.2.2.2.1 ?_
      rw [W.szI (by omega)]
      walk_at "rds"
      have di := dim_wtab W wo (t := (edgeAt edges (word.getD 0 0)).c) i (by omega) d0
      rw [wo.chain i hi1] at di
      refine ⟨vt, wt2, _, _, _, rfl, rvt, rt2, joinOk_of di Ei.2.2.2.2.dim (W.szle _) (W.szle _) (W.szle _), fun u H3 e3 ru => ?_⟩
      walk_at "rds"
      refine ⟨u, _, rfl, e2.trans e3, ?_⟩
      have e : (word.drop 1).take (i + 1) = (word.drop 1).take i ++ [word.getD (i + 1) 0] := by
        rw [List.take_add_one, List.getElem?_drop, show 1 + i = i + 1 by omega, List.getD_eq_getElem?_getD, List.getElem?_eq_getElem hi1]
        rfl
      rw [e, wtab_snoc]
      exact ru
    · rintro σ' H2 ⟨vt, k5, rfl, e2, rvt⟩
      have hT : (word.drop 1).take ((word.length : Int) - 1).toNat = word.drop 1 := List.take_of_length_le (by rw [List.length_drop]; omega)
      have di := dim_wtab W wo (t := (edgeAt edges (word.getD 0 0)).c) (word.length - 1) (by omega) d0
      rw [show word.length - 1 = ((word.length : Int) - 1).toNat by omega] at di
      rw [hT] at rvt di
      rw [show ((word.length : Int) - 1).toNat = word.length - 1 by omega, ← last_getD wo.ne] at di
      have s2 : rep H2 v2 edges := by walk_at "rp"
      have s3 : rep H2 v3 word := by walk_at "rp"
      obtain ⟨l0, l1⟩ := wo.at (i := word.length - 1) (by omega)
      rw [← last_getD wo.ne] at l0 l1
      walk_at "rds"
      refine rd_ixTlastI s3 wo.ne ?_
      have el : word.getLast wo.ne = word.getLastD 0 := by rw [List.getLastD_eq_getLast?, List.getLast?_eq_getLast wo.ne]; rfl
      rw [el]
      refine rd_edge s2 l0 l1 fun we re => ?_
      walk_at "rds"
      refine rd_p3b re fun wb rb => ?_
      cases rb
      walk_at "rds"
      refine rd_word s3 0 rfl hpos ?_
      refine rd_edge s2 a0 a1 fun we re => ?_
      walk_at "rds"
      refine rd_p3a re fun wb rb => ?_
      cases rb
      walk_at "rds"
      refine rd_ndec (fun h => ?_) (fun h => ?_)
      · walk_at "rds"
        have q := k _ (e1.trans e2)
        unfold endlessW at q
        rw [if_neg (show ¬ backW edges word from h)] at q
        exact q
      · walk_at "rds"
        have hb : backW edges word := h
        have sq : Sq (wtab sizes edges (edgeAt edges (word.getD 0 0)).c (word.drop 1)) := by
          unfold backW at hb
          rw [hb] at di
          exact ⟨by rw [di.1]; have := W.szle (edgeAt edges (word.getD 0 0)).a; omega, fun r hr => by rw [di.2 r hr, di.1]⟩
        refine ⟨vt, _, rfl, rvt, sq, fun H3 e3 => ?_⟩
        walk_at "rds"
        refine rd_ite (fun hs => ?_) (fun hs => ?_)
        · walk_at "rds"
          refine ⟨vt, _, rfl, by walk_at "rp", sq, fun H4 e4 => ?_⟩
          walk_at "rds"
          have q := k _ (((e1.trans e2).trans e3).trans e4)
          unfold endlessW at q
          rw [if_pos hb, hs] at q
          exact q
        · have q := k _ ((e1.trans e2).trans e3)
          unfold endlessW at q
          rw [if_pos hb, hs] at q
          exact q
end
end Fw
namespace Fw
open PySem PySem.Spec PyProof.Rows L2
open Rep (rep)
/-! ### dicts, slices, the sum of tuples -/
section
variable {σ : L2.St} {H : Hp} {K : PySem.W.Frag} {nx bk ct : L2.St → Hp → Prop} {rt : V → Hp → Prop} {te td ty tv tx : TE} {ts : TS} {Q : VK} {QO : Option Int → Hp → Prop} {v w x : V} {tb : TS} {g : TG} {d : Addr} {od : Obj} {R : It → Hp → Prop} {QS : L2.St → Hp → Prop}
theorem rd_din (h : ty σ H fun y H1 => td σ H1 fun x H2 => ∃ a o, x = .ref a ∧ DGet H2 a y o ∧ Q (.bl o.isSome) H2) : tDIn ty td σ H Q := h
theorem rd_dnotin (h : ty σ H fun y H1 => td σ H1 fun x H2 => ∃ a o, x = .ref a ∧ DGet H2 a y o ∧ Q (.bl (!o.isSome)) H2) : tDNotIn ty td σ H Q := h
theorem rd_dget (h : td σ H fun x H1 => ty σ H1 fun y H2 => ∃ a v, x = .ref a ∧ DGet H2 a y (some v) ∧ Q v H2) : tDGet td ty σ H Q := h
theorem rd_dget1 (h : td σ H fun x H1 => ∃ a, x = .ref a ∧ IsD H1 a ∧ ty σ H1 fun y H2 => ∃ o, DGet H2 a y o ∧ Q (o.getD .non) H2) : tDGet1 td ty σ H Q := h
theorem rd_dget2 (h : td σ H fun x H1 => ∃ a, x = .ref a ∧ IsD H1 a ∧ ty σ H1 fun y H2 => tx σ H2 fun z H3 => ∃ o, DGet H3 a y o ∧ Q (o.getD z) H3) : tDGet2 td ty tx σ H Q := h
theorem rd_dput (h : tv σ H fun v H1 => td σ H1 fun x H2 => ty σ H2 fun y H3 => ∃ a H4, x = .ref a ∧ DPut H3 a y v H4 ∧ nx σ H4) : sDPut td ty tv ⟨nx, rt, bk, ct⟩ σ H := h
theorem rd_disp1T (h : ∀ p, H p = none → td σ (upd H p (.dT [])) fun x H1 => tv σ H1 fun y H2 => ∃ (k : List Key) (b : Addr), x = .ref b ∧ H2 b = some (.tup (k.map kV)) ∧ H2 p = some (.dT []) ∧ Q (.ref p) (upd H2 p (.dT [(k, y)]))) : tDisp1T td tv σ H Q := h
theorem rd_dnewK (h : ∀ p, H p = none → Q (.ref p) (upd H p (.dK []))) : tDNewK σ H Q := h
theorem rd_dnewT (h : ∀ p, H p = none → Q (.ref p) (upd H p (.dT []))) : tDNewT σ H Q := h
theorem rd_lock {u : HO} (h : H d = some u) (m : Mut (some u)) (q : ∀ od, ts ⟨fun σ' H' => H' d = some (.frz od u) ∧ nx σ' (upd H' d u), fun v H' => H' d = some (.frz od u) ∧ rt v (upd H' d u), fun σ' H' => H' d = some (.frz od u) ∧ bk σ' (upd H' d u), fun σ' H' => H' d = some (.frz od u) ∧ ct σ' (upd H' d u)⟩ σ (upd H d (.frz od u))) : tLock ts ⟨nx, rt, bk, ct⟩ σ H := ⟨d, u, h, m, q⟩
theorem rd_iItems (h : td σ H fun x H1 => ∃ d o kvs, x = .ref d ∧ H1 d = some (.frz o (.dK kvs)) ∧ R (Iti d o kvs) H1) : iItems td σ H R := h
theorem rd_iItemsT (h : td σ H fun x H1 => ∃ d o kvs, x = .ref d ∧ H1 d = some (.frz o (.dT kvs)) ∧ R (ItiT d o kvs) H1) : iItemsT td σ H R := h
theorem rd_iVals (h : td σ H fun x H1 => ∃ d o kvs, x = .ref d ∧ H1 d = some (.frz o (.dK kvs)) ∧ R (Itd d o kvs) H1) : iVals td σ H R := h
theorem rd_sl {r : V → Option Int → Option Int → Hp → VK → Prop} {tl th : TO} (h : te σ H fun x H1 => tl σ H1 fun l H2 => th σ H2 fun u H3 => r x l u H3 Q) : tSl r te tl th σ H Q := h
theorem rd_noPart (h : QO none H) : tNoPart σ H QO := h
theorem rd_part (h : te σ H fun x H1 => ∃ i, x = .int i ∧ QO (some i) H1) : tPart te σ H QO := h
theorem rd_int {i : Int} {P : Int → Prop} (h : P i) : ∃ j, V.int i = V.int j ∧ P j := ⟨i, rfl, h⟩
theorem rd_gTup {a : Addr} {xs : List V} {n : Nat} {tg : TGs} (h : H a = some (.tup xs)) (hn : xs.length = n) (q : tg xs σ H QS) : gTup K n tg (.ref a) σ H QS := ⟨a, xs, rfl, SqT.of h, hn, q⟩
theorem rd_inN {A B : Prop} (h : A) : if (!(none : Option V).isSome) = true then A else B := h
theorem rd_inS {A B : Prop} {v : V} (h : B) : if (!(some v).isSome) = true then A else B := h
theorem rd_isN0 {A B : Prop} (h : B) : if (none : Option V).isSome = true then A else B := h
theorem rd_isS0 {A B : Prop} {v : V} (h : A) : if (some v).isSome = true then A else B := h
/-- for (k, v) in d.items() -/
theorem r_items {kvs : List (Key × V)} (hd : H d = some (.frz od (.dK kvs))) (Pv : Nat → L2.St → Hp → Prop) (h0 : Pv 0 σ H) (hl : ∀ i σ' H', Pv i σ' H' → H' d = some (.frz od (.dK kvs)))
    (hs : ∀ i k v T σ' H', kvs[i]? = some (k, v) → i < kvs.length → Pv i σ' H' → H' T = none → g (.ref T) σ' (upd H' T (.tup [kV k, v])) fun σ2 H2 => tb ⟨Pv (i + 1), rt, nx, Pv (i + 1)⟩ σ2 H2) (hn : ∀ σ' H', Pv kvs.length σ' H' → nx σ' H') :
    ∃ d' o kvs', V.ref d = .ref d' ∧ H d' = some (.frz o (.dK kvs')) ∧ ∃ W : Nat → Nat → L2.St → Hp → Prop, (∃ m, W 0 m σ H) ∧ ∀ i m σ H, W i m σ H → ((Iti d' o kvs').stop i H ∧ nx σ H) ∨ ((Iti d' o kvs').go i H ∧ ∃ N : L2.St → Hp → Prop, (∀ σ' H', N σ' H' → ∃ m', m' < m ∧ W (i + 1) m' σ' H') ∧ ∀ x H', (Iti d' o kvs').yld i H x H' → g x σ H' fun σ2 H2 => tb ⟨N, rt, nx, N⟩ σ2 H2) := by
  refine ⟨d, od, kvs, rfl, hd, fun i m σ H => m = kvs.length - i ∧ i ≤ kvs.length ∧ Pv i σ H, ⟨kvs.length, by simp, Nat.zero_le _, h0⟩, ?_⟩
  rintro i m σ H ⟨rfl, hi, p⟩
  have q := hl i σ H p
  by_cases hlt : i < kvs.length
  · refine .inr ⟨⟨q, hlt⟩, Pv (i + 1), fun σ' H' p' => ⟨kvs.length - (i + 1), by omega, rfl, hlt, p'⟩, fun x H' y => ?_⟩
    obtain ⟨T, k, v, e, rfl, hT, rfl⟩ := y
    exact hs i k v T σ H e hlt p hT
  · have e : i = kvs.length := by omega
    subst e
    exact .inl ⟨⟨q, Nat.le_refl _⟩, hn σ H p⟩
theorem r_itemsT {kvs : List (List Key × V)} (hd : H d = some (.frz od (.dT kvs))) (Pv : Nat → L2.St → Hp → Prop) (h0 : Pv 0 σ H) (hl : ∀ i σ' H', Pv i σ' H' → H' d = some (.frz od (.dT kvs)))
    (hs : ∀ i k v T q σ' H', kvs[i]? = some (k, v) → i < kvs.length → Pv i σ' H' → H' T = none → H' q = some (.tup (k.map kV)) → g (.ref T) σ' (upd H' T (.tup [.ref q, v])) fun σ2 H2 => tb ⟨Pv (i + 1), rt, nx, Pv (i + 1)⟩ σ2 H2) (hn : ∀ σ' H', Pv kvs.length σ' H' → nx σ' H') :
    ∃ d' o kvs', V.ref d = .ref d' ∧ H d' = some (.frz o (.dT kvs')) ∧ ∃ W : Nat → Nat → L2.St → Hp → Prop, (∃ m, W 0 m σ H) ∧ ∀ i m σ H, W i m σ H → ((ItiT d' o kvs').stop i H ∧ nx σ H) ∨ ((ItiT d' o kvs').go i H ∧ ∃ N : L2.St → Hp → Prop, (∀ σ' H', N σ' H' → ∃ m', m' < m ∧ W (i + 1) m' σ' H') ∧ ∀ x H', (ItiT d' o kvs').yld i H x H' → g x σ H' fun σ2 H2 => tb ⟨N, rt, nx, N⟩ σ2 H2) := by
  refine ⟨d, od, kvs, rfl, hd, fun i m σ H => m = kvs.length - i ∧ i ≤ kvs.length ∧ Pv i σ H, ⟨kvs.length, by simp, Nat.zero_le _, h0⟩, ?_⟩
  rintro i m σ H ⟨rfl, hi, p⟩
  have q := hl i σ H p
  by_cases hlt : i < kvs.length
  · refine .inr ⟨⟨q, hlt⟩, Pv (i + 1), fun σ' H' p' => ⟨kvs.length - (i + 1), by omega, rfl, hlt, p'⟩, fun x H' y => ?_⟩
    obtain ⟨T, k, v, a, e, rfl, hT, ha, rfl⟩ := y
    exact hs i k v T a σ H e hlt p hT ha
  · have e : i = kvs.length := by omega
    subst e
    exact .inl ⟨⟨q, Nat.le_refl _⟩, hn σ H p⟩
theorem r_vals {kvs : List (Key × V)} (hd : H d = some (.frz od (.dK kvs))) (Pv : Nat → L2.St → Hp → Prop) (h0 : Pv 0 σ H) (hl : ∀ i σ' H', Pv i σ' H' → H' d = some (.frz od (.dK kvs)))
    (hs : ∀ i k v σ' H', kvs[i]? = some (k, v) → i < kvs.length → Pv i σ' H' → g v σ' H' fun σ2 H2 => tb ⟨Pv (i + 1), rt, nx, Pv (i + 1)⟩ σ2 H2) (hn : ∀ σ' H', Pv kvs.length σ' H' → nx σ' H') :
    ∃ d' o kvs', V.ref d = .ref d' ∧ H d' = some (.frz o (.dK kvs')) ∧ ∃ W : Nat → Nat → L2.St → Hp → Prop, (∃ m, W 0 m σ H) ∧ ∀ i m σ H, W i m σ H → ((Itd d' o kvs').stop i H ∧ nx σ H) ∨ ((Itd d' o kvs').go i H ∧ ∃ N : L2.St → Hp → Prop, (∀ σ' H', N σ' H' → ∃ m', m' < m ∧ W (i + 1) m' σ' H') ∧ ∀ x H', (Itd d' o kvs').yld i H x H' → g x σ H' fun σ2 H2 => tb ⟨N, rt, nx, N⟩ σ2 H2) := by
  refine ⟨d, od, kvs, rfl, hd, fun i m σ H => m = kvs.length - i ∧ i ≤ kvs.length ∧ Pv i σ H, ⟨kvs.length, by simp, Nat.zero_le _, h0⟩, ?_⟩
  rintro i m σ H ⟨rfl, hi, p⟩
  have q := hl i σ H p
  by_cases hlt : i < kvs.length
  · refine .inr ⟨⟨q, hlt⟩, Pv (i + 1), fun σ' H' p' => ⟨kvs.length - (i + 1), by omega, rfl, hlt, p'⟩, fun x H' y => ?_⟩
    obtain ⟨rfl, k, e⟩ := y
    exact hs i k x σ _ e hlt p
  · have e : i = kvs.length := by omega
    subst e
    exact .inl ⟨⟨q, Nat.le_refl _⟩, hn σ H p⟩
/-- t + u -/
theorem Reps.append {α : Type} [Rep α] {H : Hp} {vs ws : List V} {l m : List α} (h : Reps H vs l) (h' : Reps H ws m) : Reps H (vs ++ ws) (l ++ m) := by
  unfold Reps at *
  induction h with
  | nil => exact h'
  | cons r _ ih => exact .cons r ih
theorem Reps.nil_iff {α : Type} [Rep α] {H : Hp} {vs : List V} {l : List α} (h : Reps H vs l) : vs = [] ↔ l = [] := by
  have e := h.len
  constructor
  · intro z; subst z; exact List.eq_nil_of_length_eq_zero e.symm
  · intro z; subst z; exact List.eq_nil_of_length_eq_zero e
theorem rd_catT {α : Type} [Rep α] {l m : List α} (h1 : rep H v l) (h2 : rep H w m) (hz : l.length + m.length ≤ 100000) (q : ∀ u H', Ex H H' → rep H' u (l ++ m) → Q u H') : rCatA K v w H Q := by
  obtain ⟨a, vs, rfl, ha, r1⟩ := h1
  obtain ⟨b, ws, rfl, hb, r2⟩ := h2
  refine ⟨a, b, vs, ws, rfl, rfl, SqT.of ha, SqT.of hb, ?_, fun e => ?_, fun _ e => ?_, fun _ _ p np => q _ _ (Ex.new np) (rep_new np (r1.append r2))⟩
  · rw [r1.len, r2.len]; exact Nat.le_trans hz (by decide)
  · have e' := r1.nil_iff.mp e
    subst e'
    exact q _ _ Ex.refl ⟨b, ws, rfl, hb, r2⟩
  · have e' := r2.nil_iff.mp e
    subst e'
    refine q _ _ Ex.refl ⟨a, vs, rfl, ha, ?_⟩
    rw [List.append_nil]; exact r1
/-- t[:-1] -/
theorem Reps.dropLast {α : Type} [Rep α] {H : Hp} {vs : List V} {l : List α} (h : Reps H vs l) : Reps H vs.dropLast l.dropLast := by
  unfold Reps at *
  induction h with
  | nil => exact .nil
  | cons r t ih =>
    cases t with
    | nil => exact .nil
    | cons r' t' => exact .cons r ih
theorem cut_last (xs : List V) : cutV xs none (some (-1)) = xs.dropLast := by
  have e : HT.sIx xs.length xs.length (some (-1)) = xs.length - 1 := by
    unfold HT.sIx
    show (if (-1 : Int) < 0 then (-1 + (xs.length : Int)).toNat else min (-1 : Int).toNat xs.length) = _
    rw [if_pos (by decide)]
    omega
  unfold cutV
  rw [e, HT.sIx_none, List.drop_zero, List.dropLast_eq_take]
  rfl
theorem rd_slLast {α : Type} [Rep α] {l : List α} (h : rep H v l) (h0 : l ≠ []) (q : ∀ u H', Ex H H' → rep H' u l.dropLast → Q u H') : rSlA K v none (some (-1)) H Q := by
  obtain ⟨a, vs, rfl, ha, r⟩ := h
  have hl := r.len
  have hp : 0 < l.length := List.length_pos_iff.mpr h0
  refine ⟨a, vs, rfl, SqT.of ha, fun e => ?_, fun _ p np => ?_⟩
  · have e2 := e.2
    have e3 : (if (-1 : Int) < 0 then (-1 + (vs.length : Int)).toNat else min (-1 : Int).toNat vs.length) = vs.length := e2
    rw [if_pos (by decide)] at e3
    omega
  · rw [cut_last]
    exact q _ _ (Ex.new np) (rep_new np r.dropLast)
end
/-! ### in a list of data -/
instance {α β : Type} [R : Rep α] [S : Rep β] [E : EqRep α] [F : EqRep β] : EqRep (P2 α β) := {
  ok := fun p => E.ok p.a ∧ F.ok p.b
  eqv := by
    intro x y
    show (PyData.eqv (R.data x.a) (R.data y.a) && (PyData.eqv (S.data x.b) (S.data y.b) && true)) = true ↔ _
    rw [Bool.and_true, Bool.and_eq_true, E.eqv, F.eqv]
    cases x; cases y; simp
  lay := fun h => by
    show ((R.data _).canLay0 && ((S.data _).canLay0 && true)) = true
    rw [E.lay h.1, F.lay h.2]; rfl
  dep := max E.dep F.dep + 1
  deep := by
    intro x
    have h1 := E.deep (x := x.a)
    have h2 := F.deep (x := x.b)
    show max (R.data x.a).depth (max (S.data x.b).depth 0) + 1 ≤ _
    omega }
instance {α β : Type} [DecidableEq α] [DecidableEq β] : DecidableEq (P2 α β) := fun x y =>
  if h : x.a = y.a ∧ x.b = y.b then isTrue (by cases x; cases y; cases h.1; cases h.2; rfl) else isFalse (fun e => h (by rw [e]; exact ⟨rfl, rfl⟩))
section
variable {H : Hp} {K : PySem.W.Frag} {Q : VK} {v : V}
theorem any_eqv {α : Type} [R : Rep α] [E : EqRep α] [DecidableEq α] (x : α) : ∀ l : List α, ((l.map R.data).any fun z => PyData.eqv z (R.data x)) = l.any fun z => decide (z = x)
  | [] => rfl
  | y :: l => by rw [List.map_cons, List.any_cons, List.any_cons, any_eqv x l, eqv_dec]
theorem rd_inD {α : Type} [R : Rep α] [E : EqRep α] [DecidableEq α] {x : α} {l : List α} {p : Addr} {vs : List V} (r : rep H v x) (h : H p = some (.lst vs)) (rs : Reps H vs l) (h1 : E.ok x) (h2 : ∀ y ∈ l, E.ok y) (hd : E.dep < 64) (q : Q (.bl (l.any fun z => decide (z = x))) H) : rInD K v (.ref p) H Q := by
  refine ⟨_, l.map R.data, Rep.dp r, .lst (SqL.of h) rs.dp, shaped_of h1 (Nat.le_of_lt hd), ?_, by rw [any_eqv]; exact q⟩
  unfold SeqAt.shaped
  have e : (PyData.list (l.map R.data)).canLay0 = true := layAll h2
  rw [e, Bool.true_and]
  refine decide_eq_true ?_
  show PyData.depthAll (l.map R.data) + 1 ≤ 64
  have := depAll (l := l)
  omega
end
/-! ### keys -/
theorem keys_put {κ : Type} [DecidableEq κ] {kvs : List (κ × V)} {k : κ} {v : V} (h : (kvs.map (·.1)).Nodup) : ((putK kvs k v).map (·.1)).Nodup := by
  cases e : valV kvs k with
  | none => exact nd_putK v h e
  | some x =>
    unfold putK
    rw [valV_any, e, if_pos (show (some x).isSome = true from rfl), List.map_map]
    have : ((fun x : κ × V => x.1) ∘ fun kv => if kv.1 = k then (kv.1, v) else kv) = fun kv => kv.1 := by
      funext kv
      show (if kv.1 = k then (kv.1, v) else kv).1 = kv.1
      split <;> rfl
    rw [this]; exact h
theorem valV_mem {κ : Type} [DecidableEq κ] {kvs : List (κ × V)} {k : κ} {v : V} (h : (kvs.map (·.1)).Nodup) : valV kvs k = some v ↔ (k, v) ∈ kvs := by
  induction kvs with
  | nil => simp [valV]
  | cons p r ih =>
    rw [List.map_cons, List.nodup_cons] at h
    have ih := ih h.2
    by_cases e : p.1 = k
    · rw [valV_pos e]
      constructor
      · intro z; cases z; cases p; cases e; exact List.mem_cons_self
      · intro z
        rcases List.mem_cons.mp z with z | z
        · rw [← z]
        · exact absurd (List.mem_map.mpr ⟨_, z, rfl⟩) (by rw [← e] at *; exact h.1)
    · rw [valV_neg e, ih]
      constructor
      · exact List.mem_cons_of_mem _
      · intro z
        rcases List.mem_cons.mp z with z | z
        · exact absurd (by rw [← z]) e
        · exact z
theorem nodup_le {α : Type} [DecidableEq α] : ∀ (l m : List α), l.Nodup → (∀ x ∈ l, x ∈ m) → l.length ≤ m.length
  | [], _, _, _ => Nat.zero_le _
  | x :: l, m, h, hm => by
    rw [List.nodup_cons] at h
    have hx : x ∈ m := hm x List.mem_cons_self
    have ih := nodup_le l (m.erase x) h.2 fun y hy => by
      have : y ≠ x := fun e => h.1 (e ▸ hy)
      exact (List.mem_erase_of_ne this).mpr (hm y (List.mem_cons_of_mem _ hy))
    have e := List.length_erase_of_mem hx
    have hp : 0 < m.length := List.length_pos_of_mem hx
    rw [List.length_cons]
    omega
theorem hu65_of {A : Around} {k : Nat} (hr : L2.Room k A) : A.units + 65 < cLine := by have := hr.un; omega
end Fw
namespace Fw
open PySem PySem.Spec PyProof.Rows L2
open Rep (rep)
local macro_rules | `(tactic| walk_at "rd") => `(tactic| first
  | with_reducible apply rd_seq | with_reducible apply rd_asg | with_reducible apply rd_name | with_reducible apply rd_ret | with_reducible apply rd_drop | with_reducible apply rd_if
  | ((with_reducible refine' rd_var ?e ?h); (case e => exact rfl)) | with_reducible apply rd_c | with_reducible apply rd_op | with_reducible apply rd_un | with_reducible apply rd_I0 | with_reducible apply rd_U
  | with_reducible apply rd_eqI | with_reducible apply rd_neI | with_reducible apply rd_eqB | with_reducible apply rd_eqS | with_reducible apply rd_neS | with_reducible apply rd_tB | with_reducible apply rd_test | with_reducible apply rd_bl | with_reducible apply rd_not | with_reducible apply rd_and | with_reducible apply rd_or
  | with_reducible apply rd_andV | with_reducible apply rd_orV | with_reducible apply rd_notV | with_reducible apply rd_chain | with_reducible apply rd_nil | with_reducible apply rd_cons | with_reducible apply rd_CB | with_reducible apply rd_call | with_reducible apply rd_for
  | with_reducible apply rd_next | with_reducible apply rd_brk | with_reducible apply rd_cont | with_reducible apply rd_tup | with_reducible apply rd_lst | with_reducible apply rd_sub | with_reducible apply rd_BM | with_reducible apply rd_BM0
  | with_reducible apply rd_yes | with_reducible apply rd_nope | with_reducible apply rd_yes2 | with_reducible apply rd_nope2 | with_reducible apply rd_gCons | with_reducible apply rd_gNil | with_reducible apply rd_iTup | with_reducible apply rd_iList | with_reducible apply rd_iRng1 | with_reducible apply rd_iRng2
  | with_reducible apply rd_lc | with_reducible apply rd_augS | ((with_reducible refine' rd_aug ?e ?h); (case e => exact rfl)) | with_reducible apply rd_ip
  | with_reducible apply rd_din | with_reducible apply rd_dnotin | with_reducible apply rd_dget | with_reducible apply rd_dget1 | with_reducible apply rd_dget2 | with_reducible apply rd_dput | with_reducible apply rd_disp1T | with_reducible apply rd_dnewK | with_reducible apply rd_dnewT | with_reducible apply rd_iItems | with_reducible apply rd_iItemsT | with_reducible apply rd_iVals | with_reducible apply rd_sl | with_reducible apply rd_noPart | with_reducible apply rd_part | with_reducible apply rd_int | with_reducible apply rd_inN | with_reducible apply rd_inS | with_reducible apply rd_isN0 | with_reducible apply rd_isS0
  | with_reducible apply rd_max2 | with_reducible apply rd_min2 | with_reducible apply rd_max3 | with_reducible apply rd_intI | with_reducible apply rd_intB | with_reducible apply rd_abs)
local macro_rules | `(tactic| walk_at "rds") => `(tactic| repeat walk_at "rd")
local macro_rules | `(tactic| walk_at "sz") => `(tactic| exact Nat.le_trans (show _ ≤ 1000 by simp) (by decide))
local macro_rules | `(tactic| walk_at "hp") => `(tactic| first
  | with_reducible assumption | with_reducible exact upd_same
  | ((with_reducible refine' hp_ne ?n ?h); (case n => walk_at "ne"); (case h => walk_at "hp"))
  | ((with_reducible refine' Ex.get ?e ?h); (case e => with_reducible assumption); (case h => walk_at "hp"))
  | ((with_reducible refine' Eb.get ?e ?n ?h); (case e => with_reducible assumption); (case n => walk_at "ne"); (case h => walk_at "hp")))
local macro_rules | `(tactic| walk_at "ne") => `(tactic| first
  | with_reducible assumption | (apply Ne.symm; with_reducible assumption)
  | ((with_reducible refine' ne_non ?h ?n); (case n => with_reducible assumption); (case h => walk_at "hp"))
  | (apply Ne.symm; with_reducible refine' ne_non ?h ?n; (case n => with_reducible assumption); (case h => walk_at "hp")))
local macro_rules | `(tactic| walk_at "ti") => `(tactic| first
  | with_reducible assumption | with_reducible exact Ti.refl | (with_reducible exact Ex.ti (by with_reducible assumption))
  | ((with_reducible refine' Ti.trans ?a (Ti.new ?b)); (case b => with_reducible assumption); (case a => walk_at "ti"))
  | ((with_reducible refine' Ti.trans ?a (Ti.lst ?b)); (case b => walk_at "hp"); (case a => walk_at "ti"))
  | ((with_reducible refine' Ti.trans ?a (Ti.dK ?b)); (case b => walk_at "hp"); (case a => walk_at "ti"))
  | ((with_reducible refine' Ti.trans ?a (Ti.dT ?b)); (case b => walk_at "hp"); (case a => walk_at "ti"))
  | ((with_reducible refine' Ti.trans ?a ?b); (case b => with_reducible assumption); (case a => walk_at "ti"))
  | ((with_reducible refine' Ti.trans ?a (Ex.ti ?b)); (case b => with_reducible assumption); (case a => walk_at "ti")))
local macro_rules | `(tactic| walk_at "ex") => `(tactic| first
  | with_reducible assumption | with_reducible exact Ex.refl
  | ((with_reducible refine' Ex.mut ?a ?b); (case b => with_reducible assumption); (case a => walk_at "ex"))
  | ((with_reducible refine' Ex.trans ?a (Ex.new ?b)); (case b => with_reducible assumption); (case a => walk_at "ex"))
  | ((with_reducible refine' Ex.trans ?a ?b); (case b => with_reducible assumption); (case a => walk_at "ex")))
local macro_rules | `(tactic| walk_at "rp") => `(tactic| first
  | with_reducible assumption
  | ((with_reducible refine' Rep.mono (Ex.ti ?e) ?h); (case e => with_reducible assumption); (case h => with_reducible assumption))
  | ((with_reducible refine' Rep.mono ?t ?h); (case t => with_reducible assumption); (case h => with_reducible assumption))
  | ((with_reducible refine' Rep.mono ?t ?h); (case h => with_reducible assumption); (case t => walk_at "ti"))
  | ((with_reducible refine' Reps.mono (Ex.ti ?e) ?h); (case e => with_reducible assumption); (case h => with_reducible assumption))
  | ((with_reducible refine' Reps.mono ?t ?h); (case h => with_reducible assumption); (case t => walk_at "ti")))
/-! ### rings: the walks -/
def tg (t : Tab) (i j : Nat) : Int := (t.getD i []).getD j 0
/-- l is a way of s steps from start to p; m: whether a size fell -/
def Path (t : Tab) (start : Nat) : Nat → Nat → Nat → List Int → Prop
  | 0, p, m, l => p = start ∧ m = 0 ∧ l = [(start : Int)]
  | s + 1, o, m, l => ∃ p f l', Path t start s p f l' ∧ o < t.length ∧ 0 < tg t p o ∧ m = (if tg t p o = 2 then 1 else f) ∧ l = l' ++ [(o : Int)]
theorem Path.lt {t : Tab} {start : Nat} (h0 : start < t.length) : ∀ {s p m : Nat} {l : List Int}, Path t start s p m l → p < t.length ∧ m ≤ 1
  | 0, p, m, l, h => by obtain ⟨rfl, rfl, _⟩ := h; exact ⟨h0, by decide⟩
  | s + 1, o, m, l, h => by
    obtain ⟨p, f, l', h, ho, _, rfl, _⟩ := h
    have := (Path.lt h0 h).2
    exact ⟨ho, by split <;> omega⟩
theorem Path.len {t : Tab} {start : Nat} : ∀ {s p m : Nat} {l : List Int}, Path t start s p m l → l.length = s + 1
  | 0, p, m, l, h => by obtain ⟨_, _, rfl⟩ := h; rfl
  | s + 1, o, m, l, h => by
    obtain ⟨p, f, l', h, _, _, _, rfl⟩ := h
    rw [List.length_append, Path.len h]; rfl
def k2 (p m : Nat) : List Key := [.inl (p : Int), .inl (m : Int)]
theorem k2_inj {p m p' m' : Nat} (h : k2 p m = k2 p' m') : p = p' ∧ m = m' := by
  unfold k2 at h
  injection h with h1 h2
  injection h2 with h2 _
  injection h1 with h1
  injection h2 with h2
  omega
theorem k2_bound {kvs : List (List Key × V)} {n : Nat} (h : (kvs.map (·.1)).Nodup) (hk : ∀ k v, (k, v) ∈ kvs → ∃ o m, o < n ∧ m ≤ 1 ∧ k = k2 o m) : kvs.length ≤ 2 * n := by
  have e := nodup_le (kvs.map (·.1)) ((List.range n).flatMap fun o => [k2 o 0, k2 o 1]) h fun k hk' => by
    obtain ⟨⟨k', v⟩, hm, rfl⟩ := List.mem_map.mp hk'
    obtain ⟨o, m, ho, hm1, rfl⟩ := hk _ _ hm
    refine List.mem_flatMap.mpr ⟨o, List.mem_range.mpr ho, ?_⟩
    rcases (show m = 0 ∨ m = 1 by omega) with rfl | rfl
    · exact List.mem_cons_self
    · exact List.mem_cons_of_mem _ List.mem_cons_self
  rw [List.length_map] at e
  have e2 : ((List.range n).flatMap fun o => [k2 o 0, k2 o 1]).length = 2 * n := by
    clear e
    induction n with
    | zero => rfl
    | succ n ih =>
      rw [List.range_succ, List.flatMap_append, List.length_append]
      have ih' : ∀ m : Nat, ((List.range m).flatMap fun o => [k2 o 0, k2 o 1]).length = 2 * m := by
        intro m
        induction m with
        | zero => rfl
        | succ m ihm => rw [List.range_succ, List.flatMap_append, List.length_append, ihm]; simp; omega
      rw [ih']; simp; omega
  omega
/-- the dict of the ways of s steps -/
structure WOk (t : Tab) (start : Nat) (H : Hp) (s : Nat) (kvs : List (List Key × V)) : Prop where
  nd : (kvs.map (·.1)).Nodup
  snd : ∀ k v, (k, v) ∈ kvs → ∃ p m l, k = k2 p m ∧ Path t start s p m l ∧ rep H v l
  cpl : ∀ p m l, Path t start s p m l → ∃ v, (k2 p m, v) ∈ kvs
theorem WOk.mono {t : Tab} {start : Nat} {H H' : Hp} {s : Nat} {kvs : List (List Key × V)} (h : WOk t start H s kvs) (ti : Ti H H') : WOk t start H' s kvs :=
  ⟨h.nd, fun k v hm => let ⟨p, m, l, e, q, r⟩ := h.snd k v hm; ⟨p, m, l, e, q, Rep.mono ti r⟩, h.cpl⟩
def markOf (t : Tab) (p o f : Nat) : Nat := if tg t p o = 2 then 1 else f
/-- the dict of the ways of one step more, behind i items of kvs, and of the next one q columns -/
structure BOk (t : Tab) (start : Nat) (H : Hp) (s : Nat) (kvs : List (List Key × V)) (i q : Nat) (bs : List (List Key × V)) : Prop where
  nd : (bs.map (·.1)).Nodup
  snd : ∀ k v, (k, v) ∈ bs → ∃ p m l, k = k2 p m ∧ Path t start (s + 1) p m l ∧ rep H v l
  cpl : ∀ j p f v o, kvs[j]? = some (k2 p f, v) → o < t.length → 0 < tg t p o → (j < i ∨ (j = i ∧ o < q)) → ∃ v', (k2 o (markOf t p o f), v') ∈ bs
theorem BOk.mono {t : Tab} {start : Nat} {H H' : Hp} {s i q : Nat} {kvs bs : List (List Key × V)} (h : BOk t start H s kvs i q bs) (ti : Ti H H') : BOk t start H' s kvs i q bs :=
  ⟨h.nd, fun k v hm => let ⟨p, m, l, e, q, r⟩ := h.snd k v hm; ⟨p, m, l, e, q, Rep.mono ti r⟩, h.cpl⟩
theorem BOk.bound {t : Tab} {start : Nat} {H : Hp} {s i q : Nat} {kvs bs : List (List Key × V)} (h0 : start < t.length) (h : BOk t start H s kvs i q bs) : bs.length ≤ 2 * t.length :=
  k2_bound h.nd fun k v hm => let ⟨p, m, l, e, q, _⟩ := h.snd k v hm; ⟨p, m, (q.lt h0).1, (q.lt h0).2, e⟩
section
variable {P : Program} {w : World} {K : PySem.W.Frag} {mg : Str → Option Value} {base : Heap}
def spRingFrom : Sp := fun vs H Q _ => ∃ (v : V) (t : Tab) (start L : Nat), vs = [v, .int (start : Int), .int (L : Int)] ∧ rep H v t ∧ Sq t ∧ start < t.length ∧ 1 ≤ L ∧ L ≤ 100 ∧
  (∀ H', Ex H H' → (∀ l, ¬ Path t start L start 1 l) → Q .non H') ∧ (∀ u H' l, Ex H H' → Path t start L start 1 l → rep H' u l.dropLast → Q u H')
abbrev s_ring_from : Stmt := topS 5
theorem sc_ring_from : FnScope ["table", "start", "length", "ways", "step", "behind", "place", "fallen", "ring", "onto", "entry", "mark", "found"] ["table", "start", "length"] (C8.fnScope s_ring_from) := C8.fnScope_by (by decide +kernel)
theorem ok_ringfrom (F : Df K mg "ring_from" s_ring_from ["table", "start", "length"]) (T : Bt mg) : C8.Cal P w K mg base 1 "ring_from" spRingFrom [] := by
  have sc := sc_ring_from
  refine F.cal sc (fun vs H Q E h => ?_) (fun f cdv A outer s H vs Q E hr h => ?_)
  · obtain ⟨v, t, start, L, rfl, _⟩ := h; rfl
  obtain ⟨v, t, start, L, rfl, r, ok, hst, hL1, hL, kn, ky⟩ := h
  have hu := hu_of hr
  refine ⟨_, 
    (pss_cons (ps_set (i := 3) sc.nd rfl (by first | exact Or.inl rfl | exact Or.inr rfl) (pe_disp1T hu (pe_tup (pa_cons (pv 1) (pa_cons pe_int pa_nil))) (pe_tup (pa_cons (pv 1) pa_nil))))
    (pss_cons (ps_for PassesOwn.never rfl (pi_range1 (by rfl) T.range (pa_cons (pv 2) pa_nil)) (pg_name (i := 4) sc.nd rfl (by first | exact Or.inl rfl | exact Or.inr rfl))
    (pss_cons (ps_set (i := 5) sc.nd rfl (by first | exact Or.inl rfl | exact Or.inr rfl) pe_dnewT)
    (pss_cons (ps_lock (ps_for PassesOwn.never rfl (pi_itemsT (pv 3)) (pgT K rfl (pgs_cons (pgT K rfl (pgs_cons (pg_name (i := 6) sc.nd rfl (by first | exact Or.inl rfl | exact Or.inr rfl)) (pgs_cons (pg_name (i := 7) sc.nd rfl (by first | exact Or.inl rfl | exact Or.inr rfl)) pgs_nil))) (pgs_cons (pg_name (i := 8) sc.nd rfl (by first | exact Or.inl rfl | exact Or.inr rfl)) pgs_nil)))
    (pss_one (ps_for PassesOwn.never rfl (pi_range1 (by rfl) T.range (pa_cons (pe_callB (cLen K) (by rfl) T.len (by decide +kernel) (pa_cons (pv 0) pa_nil)) pa_nil)) (pg_name (i := 9) sc.nd rfl (by first | exact Or.inl rfl | exact Or.inr rfl))
    (pss_cons (ps_set (i := 10) sc.nd rfl (by first | exact Or.inl rfl | exact Or.inr rfl) (pe_ix (ixT K) (pe_ix (ixT K) (pv 0) (pv 6) (fun _ _ => rfl)) (pv 9) (fun _ _ => rfl)))
    (pss_one (ps_if (pt_cmpR op_gt (pv 10) pe_int (nomark _))
    (pss_cons (ps_set (i := 11) sc.nd rfl (by first | exact Or.inl rfl | exact Or.inr rfl) (pe_ifExp (pt_cmpR op_eq (pv 10) pe_int (nomark _)) pe_int (pv 7)))
    (pss_one (ps_if (pt_cmp (pc_dnotin hu (pe_tup (pa_cons (pv 9) (pa_cons (pv 11) pa_nil))) (pv 5)))
    (pss_one (ps_dput hu (pv 5) (pe_tup (pa_cons (pv 9) (pa_cons (pv 11) pa_nil))) (pe_op (opCatA K) (pv 8) (pe_tup (pa_cons (pv 9) pa_nil))) rfl))
    pss_nil)))
    pss_nil)))))))
    (pss_one (ps_set (i := 3) sc.nd rfl (by first | exact Or.inl rfl | exact Or.inr rfl) (pv 5))))))
    (pss_cons (ps_set (i := 12) sc.nd rfl (by first | exact Or.inl rfl | exact Or.inr rfl) (pe_dget1 hu (pv 3) (pe_tup (pa_cons (pv 1) (pa_cons pe_int pa_nil))) ⟨rfl, rfl, rfl, rfl⟩))
    (pss_cons (ps_if (pt_cmpR op_isN (pv 12) pe_non (nomark _))
    (pss_one (ps_ret pe_non))
    pss_nil)
    (pss_one (ps_ret (pe_slice (slTA K) (pv 12) po_none (po_some (pe_un un_neg pe_int))))))))), ?_⟩
  show tSeq _ _ _ [some v, some (.int start), some (.int L), none, none, none, none, none, none, none, none, none, none] H
  have hlen := ok.1
  walk_at "rds"
  -- {(start, 0): (start,)}
  intro pw npw
  walk_at "rds"
  refine ⟨by show 2 ≤ sizeLine; decide, fun pk npk => ?_⟩
  walk_at "rds"
  refine ⟨by show 1 ≤ sizeLine; decide, fun pv1 npv => ?_⟩
  have n1 := ne_of_upd npk
  have n2 := ne_of_upd npv
  have n3 := ne_of_upd (none_of_upd npv)
  refine ⟨k2 start 0, pk, rfl, by rw [upd_ne n2.symm]; exact upd_same, by rw [upd_ne n3.symm, upd_ne n1.symm]; exact upd_same, ?_⟩
  generalize hH1 : upd (upd (upd (upd H pw (.dT [])) pk (.tup [.int start, .int 0])) pv1 (.tup [.int start])) pw (.dT [(k2 start 0, .ref pv1)]) = H1
  have e1 : Ex H H1 := by rw [← hH1]; exact ((((Ex.new npw).trans (Ex.new npk)).trans (Ex.new npv)).mut npw)
  have hw1 : H1 pw = some (.dT [(k2 start 0, .ref pv1)]) := by rw [← hH1]; exact upd_same
  have wo1 : WOk t start H1 0 [(k2 start 0, .ref pv1)] := by
    refine ⟨by simp, fun k v hm => ?_, fun p m l hp => ?_⟩
    · rcases List.mem_singleton.mp hm with e
      cases e
      refine ⟨start, 0, [(start : Int)], rfl, ⟨rfl, rfl, rfl⟩, ⟨pv1, [.int start], rfl, ?_, Reps.of_ints (l := [(start : Int)])⟩⟩
      rw [← hH1, upd_ne n3]; exact upd_same
    · obtain ⟨rfl, rfl, rfl⟩ := hp
      exact ⟨_, List.mem_cons_self⟩
  walk_at "rds"
  -- for step in range(length)
  refine r_range1 (by omega) (by omega) (fun s σ' H' => ∃ (pw : Addr) (kvs : List (List Key × V)) (j4 j5 j6 j7 j8 j9 j10 j11 : Option V), σ' = [some v, some (.int start), some (.int L), some (.ref pw), j4, j5, j6, j7, j8, j9, j10, j11, none] ∧
    Ex H H' ∧ H pw = none ∧ H' pw = some (.dT kvs) ∧ WOk t start H' s kvs) ?_ ?_ ?_
  · exact ⟨pw, _, none, none, none, none, none, none, none, none, rfl, e1, npw, hw1, wo1⟩
  · clear hH1 e1 hw1 wo1 npk npv n1 n2 n3 H1 npw pw pk pv1
    rintro s σ' H2 hs ⟨pw, kvs, j4, j5, j6, j7, j8, j9, j10, j11, rfl, e2, npw, hw, wo⟩
    walk_at "rds"
    intro pb npb
    have nbw : pb ≠ pw := (ne_non hw npb).symm
    walk_at "rds"
    have hw2 : upd H2 pb (.dT []) pw = some (.dT kvs) := by rw [upd_ne nbw.symm]; exact hw
    refine rd_lock hw2 trivial fun od => ?_
    walk_at "rds"
    have npb2 : H pb = none := e2.free npb
    refine r_itemsT upd_same (fun i σ' H' => ∃ (bs : List (List Key × V)) (j6 j7 j8 j9 j10 j11 : Option V), σ' = [some v, some (.int start), some (.int L), some (.ref pw), some (.int s), some (.ref pb), j6, j7, j8, j9, j10, j11, none] ∧
      Ex H H' ∧ Ti H2 H' ∧ H' pw = some (.frz od (.dT kvs)) ∧ H' pb = some (.dT bs) ∧ BOk t start H' s kvs i 0 bs) ?_ (fun _ _ _ ⟨_, _, _, _, _, _, _, _, _, _, h, _⟩ => h) ?_ ?_
    · refine ⟨[], j6, j7, j8, j9, j10, j11, rfl, (e2.trans (Ex.new npb)).mut npw, (Ti.new npb).trans (Ti.dT hw2), upd_same, by rw [upd_ne nbw]; exact upd_same, List.nodup_nil, fun k v hm => (nomatch hm), fun j p f v o _ _ _ hj => by omega⟩
    · rintro i k vv T q σ' H3 hi hlt ⟨bs, j6, j7, j8, j9, j10, j11, rfl, e3, t3, hw3, hb3, bok⟩ hT hq
      obtain ⟨p, m, l, rfl, hpath, hrl⟩ := wo.snd k vv (List.mem_of_getElem? hi)
      have hpl := hpath.lt hst
      have hnT : q ≠ T := ne_non hq hT
      refine rd_gTup upd_same rfl ?_
      walk_at "rds"
      refine rd_gTup (by rw [upd_ne hnT]; exact hq) rfl ?_
      show gCons _ _ [.int (p : Int), .int (m : Int)] _ _ _
      walk_at "rds"
      have nbT : pb ≠ T := ne_non hb3 hT
      have nwT : pw ≠ T := ne_non hw3 hT
      have e4 : Ex H (upd H3 T (.tup [.ref q, vv])) := e3.trans (Ex.new hT)
      have t4 : Ti H2 (upd H3 T (.tup [.ref q, vv])) := t3.trans (Ti.new hT)
      have hw4 : upd H3 T (.tup [.ref q, vv]) pw = some (.frz od (.dT kvs)) := by rw [upd_ne nwT]; exact hw3
      have hb4 : upd H3 T (.tup [.ref q, vv]) pb = some (.dT bs) := by rw [upd_ne nbT]; exact hb3
      have bok4 := bok.mono (Ti.new (o := .tup [.ref q, vv]) hT)
      generalize upd H3 T (.tup [.ref q, vv]) = H4 at e4 t4 hw4 hb4 bok4 ⊢
      have r4 : rep H4 v t := by walk_at "rp"
      refine rd_lenT r4 ?_
      walk_at "rds"
      refine r_range1 (by omega) (by omega) (fun z σ' H' => ∃ (bs : List (List Key × V)) (j9 j10 j11 : Option V), σ' = [some v, some (.int start), some (.int L), some (.ref pw), some (.int s), some (.ref pb), some (.int p), some (.int m), some vv, j9, j10, j11, none] ∧
        Ex H H' ∧ Ti H2 H' ∧ H' pw = some (.frz od (.dT kvs)) ∧ H' pb = some (.dT bs) ∧ BOk t start H' s kvs i z bs) ?_ ?_ ?_
      · exact ⟨bs, _, _, _, rfl, e4, t4, hw4, hb4, bok4⟩
      · rintro z σ' H5 hz ⟨bs, j9, j10, j11, rfl, e5, t5, hw5, hb5, bok5⟩
        have hzn : z < t.length := by omega
        have r5 : rep H5 v t := by walk_at "rp"
        walk_at "rds"
        refine rd_ixTL r5 (by omega) (by omega) fun wr rwr => ?_
        rw [Int.toNat_natCast] at rwr
        walk_at "rds"
        refine rd_ixTI rwr (by omega) (by rw [ok.row hpl.1]; omega) ?_
        rw [Int.toNat_natCast]
        show gName 10 (.int (tg t p z)) _ _ _
        walk_at "rds"
        refine rd_dec (fun hpos => ?_) (fun hneg => ?_)
        · walk_at "rds"
          refine rd_ifV (fun u => u = .int (markOf t p z m : Int)) (tg t p z = 2) (fun QB qq => ?_) (fun h2 Q' qq => ?_) (fun h2 Q' qq => ?_) ?_
          · walk_at "rds"; exact qq
          · walk_at "rds"; exact qq _ (by unfold markOf; rw [if_pos h2]; rfl)
          · walk_at "rds"; exact qq _ (by unfold markOf; rw [if_neg h2])
          rintro _ rfl
          walk_at "rds"
          refine ⟨by show 2 ≤ sizeLine; decide, fun pk npk => ?_⟩
          walk_at "rds"
          have nbk : pb ≠ pk := ne_non hb5 npk
          have nwk : pw ≠ pk := ne_non hw5 npk
          have hb6 : upd H5 pk (.tup [.int z, .int (markOf t p z m : Int)]) pb = some (.dT bs) := by rw [upd_ne nbk]; exact hb5
          refine ⟨pb, _, rfl, DGet.t (k := k2 z (markOf t p z m)) hb6 upd_same, ?_⟩
          walk_at "rds"
          have e6 : Ex H (upd H5 pk (.tup [.int z, .int (markOf t p z m : Int)])) := e5.trans (Ex.new npk)
          have t6 : Ti H5 (upd H5 pk (.tup [.int z, .int (markOf t p z m : Int)])) := Ti.new npk
          have hw6 : upd H5 pk (.tup [.int z, .int (markOf t p z m : Int)]) pw = some (.frz od (.dT kvs)) := by rw [upd_ne nwk]; exact hw5
          have bok6 := bok5.mono t6
          generalize upd H5 pk (.tup [.int z, .int (markOf t p z m : Int)]) = H6 at e6 t6 hw6 hb6 bok6 ⊢
          cases hv : valV bs (k2 z (markOf t p z m)) with
          | some v0 =>
            walk_at "rds"
            refine ⟨bs, _, _, _, rfl, e6, t5.trans t6, hw6, hb6, bok6.nd, bok6.snd, fun j p' f' v' o hj ho hp' hjz => ?_⟩
            by_cases hjz2 : j = i ∧ o = z
            · obtain ⟨rfl, rfl⟩ := hjz2
              rw [hi] at hj
              injection hj with hj
              injection hj with hj1 _
              obtain ⟨rfl, rfl⟩ := k2_inj hj1
              exact ⟨v0, (valV_mem bok6.nd).mp hv⟩
            · exact bok6.cpl j p' f' v' o hj ho hp' (by omega)
          | none =>
            walk_at "rds"
            refine ⟨by show 1 ≤ sizeLine; decide, fun pn npn => ?_⟩
            have hlp := hpath.len
            have hrl' : rep (upd H6 pn (.tup [.int z])) vv l := Rep.mono ((t5.trans t6).trans (Ti.new npn)) hrl
            refine rd_catT hrl' (rep_new npn (Reps.of_ints (l := [(z : Int)]))) (by simp [hlp]; omega) fun u H7 e7 ru => ?_
            walk_at "rds"
            refine ⟨by show 2 ≤ sizeLine; decide, fun pk2 npk2 => ?_⟩
            have hb7 : H7 pb = some (.dT bs) := e7 _ _ (by rw [upd_ne (ne_non hb6 npn)]; exact hb6)
            have hw7 : H7 pw = some (.frz od (.dT kvs)) := e7 _ _ (by rw [upd_ne (ne_non hw6 npn)]; exact hw6)
            have nbk2 : pb ≠ pk2 := ne_non hb7 npk2
            have hb8 : upd H7 pk2 (.tup [.int z, .int (markOf t p z m : Int)]) pb = some (.dT bs) := by rw [upd_ne nbk2]; exact hb7
            have hbd := bok6.bound hst
            refine ⟨pb, _, rfl, DPut.t (k := k2 z (markOf t p z m)) hb8 upd_same (ltLine (by omega)), ?_⟩
            have t8 : Ti H6 (upd (upd H7 pk2 (.tup [.int z, .int (markOf t p z m : Int)])) pb (.dT (putK bs (k2 z (markOf t p z m)) u))) := (((Ti.new npn).trans e7.ti).trans (Ti.new npk2)).trans (Ti.dT hb8)
            have nwb : pw ≠ pb := nbw.symm
            refine ⟨_, _, _, _, rfl, ?_, (t5.trans t6).trans t8, ?_, upd_same, ?_⟩
            · exact (((e6.trans (Ex.new npn)).trans e7).trans (Ex.new npk2)).mut npb2
            · rw [upd_ne nwb, upd_ne (ne_non hw7 npk2)]; exact hw7
            · have bok8 := bok6.mono t8
              refine ⟨keys_put bok6.nd, fun k v0 hm => ?_, fun j p' f' v' o hj ho hp' hjz => ?_⟩
              · rw [putK_new u hv] at hm
                rcases List.mem_append.mp hm with hm | hm
                · exact bok8.snd k v0 hm
                · cases List.mem_singleton.mp hm
                  exact ⟨z, markOf t p z m, l ++ [(z : Int)], rfl, ⟨p, m, l, hpath, hzn, hpos, rfl, rfl⟩, Rep.mono ((Ti.new npk2).trans (Ti.dT hb8)) ru⟩
              · rw [putK_new u hv]
                by_cases hjz2 : j = i ∧ o = z
                · obtain ⟨rfl, rfl⟩ := hjz2
                  rw [hi] at hj
                  injection hj with hj
                  injection hj with hj1 _
                  obtain ⟨rfl, rfl⟩ := k2_inj hj1
                  exact ⟨u, List.mem_append_right _ List.mem_cons_self⟩
                · obtain ⟨v1, h1⟩ := bok6.cpl j p' f' v' o hj ho hp' (by omega)
                  exact ⟨v1, List.mem_append_left _ h1⟩
        · walk_at "rds"
          refine ⟨bs, _, _, _, rfl, e5, t5, hw5, hb5, bok5.nd, bok5.snd, fun j p' f' v' o hj ho hp' hjz => ?_⟩
          by_cases hjz2 : j = i ∧ o = z
          · obtain ⟨rfl, rfl⟩ := hjz2
            rw [hi] at hj
            injection hj with hj
            injection hj with hj1 _
            obtain ⟨rfl, rfl⟩ := k2_inj hj1
            exact absurd hp' hneg
          · exact bok5.cpl j p' f' v' o hj ho hp' (by omega)
      · rintro σ' H5 ⟨bs, j9, j10, j11, rfl, e5, t5, hw5, hb5, bok5⟩
        refine ⟨bs, _, _, _, _, _, _, rfl, e5, t5, hw5, hb5, bok5.nd, bok5.snd, fun j p' f' v' o hj ho hp' hjz => ?_⟩
        exact bok5.cpl j p' f' v' o hj ho hp' (by rcases hjz with h | ⟨rfl, h⟩ <;> omega)
    · rintro σ' H3 ⟨bs, j6, j7, j8, j9, j10, j11, rfl, e3, t3, hw3, hb3, bok⟩
      refine ⟨hw3, ?_⟩
      walk_at "rds"
      have t4 : Ti H3 (upd H3 pw (.dT kvs)) := Ti.frz hw3
      refine ⟨pb, bs, _, _, _, _, _, _, _, _, rfl, e3.mut npw, npb2, by rw [upd_ne nbw]; exact hb3, ?_⟩
      have bok4 := bok.mono t4
      refine ⟨bok4.nd, bok4.snd, fun o m l hp => ?_⟩
      obtain ⟨p, f, l', hp', ho, hpos, rfl, rfl⟩ := hp
      obtain ⟨v1, h1⟩ := wo.cpl p f l' hp'
      obtain ⟨j, hj⟩ := List.mem_iff_getElem?.mp h1
      have hjl := (List.getElem?_eq_some_iff.mp hj).1
      exact bok4.cpl j p f v1 o hj ho hpos (.inl hjl)
  · rintro σ' H2 ⟨pw, kvs, j4, j5, j6, j7, j8, j9, j10, j11, rfl, e2, npw, hw, wo⟩
    rw [Int.toNat_natCast] at wo
    walk_at "rds"
    refine ⟨pw, rfl, .inr ⟨kvs, Rd.of hw⟩, ?_⟩
    walk_at "rds"
    refine ⟨by show 2 ≤ sizeLine; decide, fun pk npk => ?_⟩
    have hw3 : upd H2 pk (.tup [.int start, .int 1]) pw = some (.dT kvs) := by rw [upd_ne (ne_non hw npk)]; exact hw
    refine ⟨_, DGet.t (k := k2 start 1) hw3 upd_same, ?_⟩
    have e3 : Ex H (upd H2 pk (.tup [.int start, .int 1])) := e2.trans (Ex.new npk)
    have wo3 := wo.mono (Ti.new (o := .tup [.int start, .int 1]) npk)
    generalize upd H2 pk (.tup [.int start, .int 1]) = H3 at e3 wo3 ⊢
    cases hv : valV kvs (k2 start 1) with
    | none =>
      walk_at "rds"
      refine ⟨rfl, ?_⟩
      walk_at "rds"
      refine rd_dec (fun _ => ?_) (fun h => absurd rfl h)
      walk_at "rds"
      refine kn _ e3 fun l hp => ?_
      obtain ⟨v1, h1⟩ := wo3.cpl start 1 l hp
      rw [(valV_mem wo3.nd).mpr h1] at hv
      cases hv
    | some v1 =>
      obtain ⟨p, m, l, ek, hp, rl⟩ := wo3.snd _ _ ((valV_mem wo3.nd).mp hv)
      obtain ⟨rfl, rfl⟩ := k2_inj ek
      have hl2 := hp.len
      walk_at "rds"
      refine ⟨rfl, ?_⟩
      walk_at "rds"
      refine rd_dec (fun h => ?_) (fun _ => ?_)
      · obtain ⟨a, vs, e, _⟩ := rl
        subst e
        cases h
      · walk_at "rds"
        refine rd_slLast rl (by intro z; subst z; cases hl2) fun u H4 e4 ru => ?_
        exact ky u _ l (e3.trans e4) hp ru
end
end Fw
namespace Fw
open PySem PySem.Spec PyProof.Rows L2
open Rep (rep)
local macro_rules | `(tactic| walk_at "rd") => `(tactic| first
  | with_reducible apply rd_seq | with_reducible apply rd_asg | with_reducible apply rd_name | with_reducible apply rd_ret | with_reducible apply rd_drop | with_reducible apply rd_if
  | ((with_reducible refine' rd_var ?e ?h); (case e => exact rfl)) | with_reducible apply rd_c | with_reducible apply rd_op | with_reducible apply rd_un | with_reducible apply rd_I0 | with_reducible apply rd_U
  | with_reducible apply rd_eqI | with_reducible apply rd_neI | with_reducible apply rd_eqB | with_reducible apply rd_eqS | with_reducible apply rd_neS | with_reducible apply rd_tB | with_reducible apply rd_test | with_reducible apply rd_bl | with_reducible apply rd_not | with_reducible apply rd_and | with_reducible apply rd_or
  | with_reducible apply rd_andV | with_reducible apply rd_orV | with_reducible apply rd_notV | with_reducible apply rd_chain | with_reducible apply rd_nil | with_reducible apply rd_cons | with_reducible apply rd_CB | with_reducible apply rd_call | with_reducible apply rd_for
  | with_reducible apply rd_next | with_reducible apply rd_brk | with_reducible apply rd_cont | with_reducible apply rd_tup | with_reducible apply rd_lst | with_reducible apply rd_sub | with_reducible apply rd_BM | with_reducible apply rd_BM0
  | with_reducible apply rd_yes | with_reducible apply rd_nope | with_reducible apply rd_yes2 | with_reducible apply rd_nope2 | with_reducible apply rd_gCons | with_reducible apply rd_gNil | with_reducible apply rd_iTup | with_reducible apply rd_iList | with_reducible apply rd_iRng1 | with_reducible apply rd_iRng2
  | with_reducible apply rd_lc | with_reducible apply rd_augS | ((with_reducible refine' rd_aug ?e ?h); (case e => exact rfl)) | with_reducible apply rd_ip
  | with_reducible apply rd_din | with_reducible apply rd_dnotin | with_reducible apply rd_dget | with_reducible apply rd_dget1 | with_reducible apply rd_dget2 | with_reducible apply rd_dput | with_reducible apply rd_disp1T | with_reducible apply rd_dnewK | with_reducible apply rd_dnewT | with_reducible apply rd_iItems | with_reducible apply rd_iItemsT | with_reducible apply rd_iVals | with_reducible apply rd_sl | with_reducible apply rd_noPart | with_reducible apply rd_part | with_reducible apply rd_int | with_reducible apply rd_inN | with_reducible apply rd_inS | with_reducible apply rd_isN0 | with_reducible apply rd_isS0
  | with_reducible apply rd_max2 | with_reducible apply rd_min2 | with_reducible apply rd_max3 | with_reducible apply rd_intI | with_reducible apply rd_intB | with_reducible apply rd_abs)
local macro_rules | `(tactic| walk_at "rds") => `(tactic| repeat walk_at "rd")
local macro_rules | `(tactic| walk_at "sz") => `(tactic| exact Nat.le_trans (show _ ≤ 1000 by simp) (by decide))
local macro_rules | `(tactic| walk_at "hp") => `(tactic| first
  | with_reducible assumption | with_reducible exact upd_same
  | ((with_reducible refine' hp_ne ?n ?h); (case n => walk_at "ne"); (case h => walk_at "hp"))
  | ((with_reducible refine' Ex.get ?e ?h); (case e => with_reducible assumption); (case h => walk_at "hp"))
  | ((with_reducible refine' Eb.get ?e ?n ?h); (case e => with_reducible assumption); (case n => walk_at "ne"); (case h => walk_at "hp")))
local macro_rules | `(tactic| walk_at "ne") => `(tactic| first
  | with_reducible assumption | (apply Ne.symm; with_reducible assumption)
  | ((with_reducible refine' ne_non ?h ?n); (case n => with_reducible assumption); (case h => walk_at "hp"))
  | (apply Ne.symm; with_reducible refine' ne_non ?h ?n; (case n => with_reducible assumption); (case h => walk_at "hp")))
local macro_rules | `(tactic| walk_at "ti") => `(tactic| first
  | with_reducible assumption | with_reducible exact Ti.refl | (with_reducible exact Ex.ti (by with_reducible assumption))
  | ((with_reducible refine' Ti.trans ?a (Ti.new ?b)); (case b => with_reducible assumption); (case a => walk_at "ti"))
  | ((with_reducible refine' Ti.trans ?a (Ti.lst ?b)); (case b => walk_at "hp"); (case a => walk_at "ti"))
  | ((with_reducible refine' Ti.trans ?a (Ti.dK ?b)); (case b => walk_at "hp"); (case a => walk_at "ti"))
  | ((with_reducible refine' Ti.trans ?a (Ti.dT ?b)); (case b => walk_at "hp"); (case a => walk_at "ti"))
  | ((with_reducible refine' Ti.trans ?a ?b); (case b => with_reducible assumption); (case a => walk_at "ti"))
  | ((with_reducible refine' Ti.trans ?a (Ex.ti ?b)); (case b => with_reducible assumption); (case a => walk_at "ti")))
local macro_rules | `(tactic| walk_at "ex") => `(tactic| first
  | with_reducible assumption | with_reducible exact Ex.refl
  | ((with_reducible refine' Ex.mut ?a ?b); (case b => with_reducible assumption); (case a => walk_at "ex"))
  | ((with_reducible refine' Ex.trans ?a (Ex.new ?b)); (case b => with_reducible assumption); (case a => walk_at "ex"))
  | ((with_reducible refine' Ex.trans ?a ?b); (case b => with_reducible assumption); (case a => walk_at "ex")))
local macro_rules | `(tactic| walk_at "rp") => `(tactic| first
  | with_reducible assumption
  | ((with_reducible refine' Rep.mono (Ex.ti ?e) ?h); (case e => with_reducible assumption); (case h => with_reducible assumption))
  | ((with_reducible refine' Rep.mono ?t ?h); (case t => with_reducible assumption); (case h => with_reducible assumption))
  | ((with_reducible refine' Rep.mono ?t ?h); (case h => with_reducible assumption); (case t => walk_at "ti"))
  | ((with_reducible refine' Reps.mono (Ex.ti ?e) ?h); (case e => with_reducible assumption); (case h => with_reducible assumption))
  | ((with_reducible refine' Reps.mono ?t ?h); (case h => with_reducible assumption); (case t => walk_at "ti")))
def NoRing (t : Tab) (L : Nat) : Prop := ∀ start l, start < t.length → ¬ Path t start L start 1 l
section
variable {P : Program} {w : World} {K : PySem.W.Frag} {mg : Str → Option Value} {base : Heap}
def spRingOf : Sp := fun vs H Q _ => ∃ (v : V) (t : Tab), vs = [v] ∧ rep H v t ∧ Sq t ∧
  (∀ H', Ex H H' → (∀ L, 1 ≤ L → L ≤ t.length → NoRing t L) → Q .non H') ∧
  (∀ u H' L start l, Ex H H' → 1 ≤ L → L ≤ t.length → start < t.length → Path t start L start 1 l → (∀ L', 1 ≤ L' → L' < L → NoRing t L') → rep H' u l.dropLast → Q u H')
abbrev s_ring_of : Stmt := topS 4
theorem sc_ring_of : FnScope ["table", "places", "length", "start", "ring"] ["table"] (C8.fnScope s_ring_of) := C8.fnScope_by (by decide +kernel)
theorem ok_ringof (F : Df K mg "ring_of" s_ring_of ["table"]) (T : Bt mg) (c_ring_from : C8.Cal P w K mg base 1 "ring_from" spRingFrom []) : C8.Cal P w K mg base 2 "ring_of" spRingOf [] := by
  have sc := sc_ring_of
  refine F.cal sc (fun vs H Q E h => ?_) (fun f cdv A outer s H vs Q E hr h => ?_)
  · obtain ⟨v, t, rfl, _⟩ := h; rfl
  obtain ⟨v, t, rfl, r, ok, kn, ky⟩ := h
  refine ⟨_, 
    (pss_cons (ps_set (i := 1) sc.nd rfl (by first | exact Or.inl rfl | exact Or.inr rfl) (pe_callB (cLen K) (by rfl) T.len (by decide +kernel) (pa_cons (pv 0) pa_nil)))
    (pss_cons (ps_for PassesOwn.never rfl (pi_range2 (by rfl) T.range (pa_cons pe_int (pa_cons (pe_op op_add (pv 1) pe_int) pa_nil))) (pg_name (i := 2) sc.nd rfl (by first | exact Or.inl rfl | exact Or.inr rfl))
    (pss_one (ps_for PassesOwn.never rfl (pi_range1 (by rfl) T.range (pa_cons (pv 1) pa_nil)) (pg_name (i := 3) sc.nd rfl (by first | exact Or.inl rfl | exact Or.inr rfl))
    (pss_cons (ps_set (i := 4) sc.nd rfl (by first | exact Or.inl rfl | exact Or.inr rfl) (C8.pe_c c_ring_from hr (by decide) (by rfl) (pa_cons (pv 0) (pa_cons (pv 3) (pa_cons (pv 2) pa_nil)))))
    (pss_one (ps_if (pt_cmpR op_notN (pv 4) pe_non (nomark _))
    (pss_one (ps_ret (pv 4)))
    pss_nil))))))
    (pss_one (ps_ret pe_non)))), ?_⟩
  show tSeq _ _ _ [some v, none, none, none, none] H
  have hlen := ok.1
  walk_at "rds"
  refine rd_lenT r ?_
  walk_at "rds"
  refine r_range2 (by omega) (by omega) (by omega) (fun i σ' H' => ∃ (j2 j3 j4 : Option V), σ' = [some v, some (.int t.length), j2, j3, j4] ∧ Ex H H' ∧ ∀ L, 1 ≤ L → L ≤ i → NoRing t L) ?_ ?_ ?_
  · exact ⟨_, _, _, rfl, Ex.refl, fun L h1 h2 => by omega⟩
  · rintro i σ' H1 hi ⟨j2, j3, j4, rfl, e1, hn⟩
    walk_at "rds"
    refine r_range1 (by omega) (by omega) (fun q σ' H' => ∃ (j3 j4 : Option V), σ' = [some v, some (.int t.length), some (.int (1 + (i : Int))), j3, j4] ∧ Ex H H' ∧ ∀ start l, start < q → ¬ Path t start (1 + i) start 1 l) ?_ ?_ ?_
    · exact ⟨_, _, rfl, e1, fun start l h => by omega⟩
    · rintro q σ' H2 hq ⟨j3, j4, rfl, e2, hs⟩
      walk_at "rds"
      refine ⟨v, t, q, 1 + i, by rw [Int.natCast_add]; rfl, by walk_at "rp", ok, by omega, by omega, by omega, fun H3 e3 h3 => ?_, fun u H3 l e3 hp ru => ?_⟩
      · walk_at "rds"
        refine ⟨rfl, ?_⟩
        walk_at "rds"
        refine rd_ndec (fun h => absurd rfl h) (fun _ => ?_)
        walk_at "rds"
        refine ⟨_, _, rfl, e2.trans e3, fun start l hsq => ?_⟩
        by_cases h : start = q
        · subst h; exact h3 l
        · exact hs start l (by omega)
      · walk_at "rds"
        refine ⟨rfl, ?_⟩
        walk_at "rds"
        refine rd_ndec (fun _ => ?_) (fun h => ?_)
        · walk_at "rds"
          exact ky u _ (1 + i) q l (e2.trans e3) (by omega) (by omega) (by omega) hp (fun L' a b => hn L' a (by omega)) ru
        · obtain ⟨a, vs, e, _⟩ := ru
          subst e
          cases h
    · rintro σ' H2 ⟨j3, j4, rfl, e2, hs⟩
      refine ⟨_, _, _, rfl, e2, fun L h1 h2 => ?_⟩
      by_cases h : L = 1 + i
      · subst h
        exact fun start l hst => hs start l (by omega)
      · exact hn L h1 (by omega)
  · rintro σ' H1 ⟨j2, j3, j4, rfl, e1, hn⟩
    walk_at "rds"
    exact kn _ e1 fun L h1 h2 => hn L h1 (by omega)
/-! ### the law's fewest -/
/-- the mark (p, m) is met with just s steps -/
def Rch (t : Tab) (start s p m : Nat) : Prop := ∃ l, Path t start s p m l
theorem Rch.step {t : Tab} {start s p f o : Nat} (h : Rch t start s p f) (ho : o < t.length) (hp : 0 < tg t p o) : Rch t start (s + 1) o (markOf t p o f) := let ⟨l, h⟩ := h; ⟨l ++ [(o : Int)], p, f, l, h, ho, hp, rfl, rfl⟩
theorem Rch.back {t : Tab} {start s o m : Nat} (h : Rch t start (s + 1) o m) : ∃ p f, Rch t start s p f ∧ o < t.length ∧ 0 < tg t p o ∧ m = markOf t p o f := let ⟨_, p, f, l, h, ho, hp, e, _⟩ := h; ⟨p, f, ⟨l, h⟩, ho, hp, e⟩
theorem Rch.lt {t : Tab} {start s p m : Nat} (h0 : start < t.length) (h : Rch t start s p m) : p < t.length ∧ m ≤ 1 := let ⟨_, h⟩ := h; h.lt h0
def Before (t : Tab) (start i p m : Nat) : Prop := ∃ s, 1 ≤ s ∧ s ≤ i ∧ Rch t start s p m
/-- met in round i for the first time (round 0: the start) -/
def Frn (t : Tab) (start i p m : Nat) : Prop := (i = 0 ∧ p = start ∧ m = 0) ∨ (1 ≤ i ∧ Rch t start i p m ∧ ¬ Before t start (i - 1) p m)
theorem Frn.rch {t : Tab} {start i p m : Nat} (h : Frn t start i p m) : Rch t start i p m := by
  rcases h with ⟨rfl, rfl, rfl⟩ | ⟨_, h, _⟩
  · exact ⟨[(p : Int)], rfl, rfl, rfl⟩
  · exact h
theorem Frn.pred {t : Tab} {start i o m : Nat} (h : Frn t start (i + 1) o m) : ∃ p f, Frn t start i p f ∧ o < t.length ∧ 0 < tg t p o ∧ m = markOf t p o f := by
  rcases h with ⟨h, _⟩ | ⟨_, h, hb⟩
  · omega
  obtain ⟨p, f, hp, ho, hpos, rfl⟩ := h.back
  refine ⟨p, f, ?_, ho, hpos, rfl⟩
  cases i with
  | zero =>
    obtain ⟨l, h1, h2, _⟩ := hp
    exact .inl ⟨rfl, h1, h2⟩
  | succ i =>
    refine .inr ⟨by omega, hp, fun ⟨s, h1, h2, h3⟩ => hb ⟨s + 1, by omega, by omega, h3.step ho hpos⟩⟩
structure NowOk (t : Tab) (start i : Nat) (l : List (P2 Int Int)) : Prop where
  snd : ∀ x ∈ l, ∃ p m : Nat, x = ⟨(p : Int), (m : Int)⟩ ∧ Frn t start i p m
  cpl : ∀ p m : Nat, Frn t start i p m → ⟨(p : Int), (m : Int)⟩ ∈ l
structure SeenOk (t : Tab) (start i : Nat) (ks : List (List Key × V)) : Prop where
  nd : (ks.map (·.1)).Nodup
  snd : ∀ k v, (k, v) ∈ ks → ∃ p m, k = k2 p m ∧ Before t start i p m
  cpl : ∀ p m, Before t start i p m → ∃ v, (k2 p m, v) ∈ ks
/-- in round i + 1, behind j of the now and z columns of the next one -/
structure RndOk (t : Tab) (start i : Nat) (now : List (P2 Int Int)) (j z : Nat) (ks : List (List Key × V)) (ol : List (P2 Int Int)) : Prop where
  nd : (ks.map (·.1)).Nodup
  a : ∀ k v, (k, v) ∈ ks → ∃ p m : Nat, k = k2 p m ∧ p < t.length ∧ m ≤ 1 ∧ (Before t start i p m ∨ ⟨(p : Int), (m : Int)⟩ ∈ ol)
  b : ∀ p m, Before t start i p m → ∃ v, (k2 p m, v) ∈ ks
  c : ∀ x p f o : Nat, now[x]? = some ⟨(p : Int), (f : Int)⟩ → o < t.length → 0 < tg t p o → (x < j ∨ (x = j ∧ o < z)) → ∃ v, (k2 o (markOf t p o f), v) ∈ ks
  d : ∀ x ∈ ol, ∃ p m : Nat, x = ⟨(p : Int), (m : Int)⟩ ∧ Frn t start (i + 1) p m
  e : ol.length ≤ ks.length
theorem RndOk.bound {t : Tab} {start i j z : Nat} {now ol : List (P2 Int Int)} {ks : List (List Key × V)} (h : RndOk t start i now j z ks ol) : ks.length ≤ 2 * t.length :=
  k2_bound h.nd fun k v hm => let ⟨p, m, e, q1, q2, _⟩ := h.a k v hm; ⟨p, m, q1, q2, e⟩
theorem RndOk.next {t : Tab} {start i j z : Nat} {now ol : List (P2 Int Int)} {ks : List (List Key × V)} (h : RndOk t start i now j z ks ol) (hz : t.length ≤ z) : RndOk t start i now (j + 1) 0 ks ol :=
  ⟨h.nd, h.a, h.b, fun x p f o hx ho hp hj => h.c x p f o hx ho hp (by rcases hj with hj | ⟨_, hj⟩ <;> omega), h.d, h.e⟩
theorem RndOk.fin {t : Tab} {start i j z : Nat} {now ol : List (P2 Int Int)} {ks : List (List Key × V)} (h0 : start < t.length) (h : RndOk t start i now j z ks ol) (hn : NowOk t start i now) (hj : now.length ≤ j) : NowOk t start (i + 1) ol ∧ SeenOk t start (i + 1) ks := by
  have cp : ∀ p m : Nat, Frn t start (i + 1) p m → ∃ v, (k2 p m, v) ∈ ks := fun p m hf => by
    obtain ⟨q, f, hq, ho, hpos, rfl⟩ := hf.pred
    obtain ⟨x, hx⟩ := List.mem_iff_getElem?.mp (hn.cpl q f hq)
    have hxl := (List.getElem?_eq_some_iff.mp hx).1
    exact h.c x q f p hx ho hpos (.inl (by omega))
  refine ⟨⟨h.d, fun p m hf => ?_⟩, h.nd, fun k v hm => ?_, fun p m hb => ?_⟩
  · obtain ⟨v, hv⟩ := cp p m hf
    obtain ⟨p', m', ek, _, _, hc⟩ := h.a _ _ hv
    obtain ⟨rfl, rfl⟩ := k2_inj ek
    rcases hc with hc | hc
    · rcases hf with ⟨hf, _⟩ | ⟨_, _, hf⟩
      · omega
      · exact absurd hc hf
    · exact hc
  · obtain ⟨p, m, ek, _, _, hc⟩ := h.a k v hm
    refine ⟨p, m, ek, ?_⟩
    rcases hc with ⟨s, h1, h2, h3⟩ | hc
    · exact ⟨s, h1, by omega, h3⟩
    · obtain ⟨p', m', e, hf⟩ := h.d _ hc
      injection e with e1 e2
      have e1' : p = p' := by omega
      have e2' : m = m' := by omega
      subst e1' e2'
      exact ⟨i + 1, by omega, Nat.le_refl _, hf.rch⟩
  · by_cases hb' : Before t start i p m
    · exact h.b p m hb'
    · obtain ⟨s, h1, h2, h3⟩ := hb
      have hs : s = i + 1 := by
        by_cases hs : s ≤ i
        · exact absurd ⟨s, h1, hs, h3⟩ hb'
        · omega
      subst hs
      exact cp p m (.inr ⟨h1, h3, hb'⟩)
/-- the best so far, behind the starts ahead of q and i rounds of q -/
structure BestOk (t : Tab) (q i b : Nat) : Prop where
  a : ∀ start L, start < q → 1 ≤ L → L ≤ t.length → (b = 0 ∨ L < b) → ¬ Rch t start L start 1
  c : ∀ L, 1 ≤ L → L ≤ i → (b = 0 ∨ L < b) → ¬ Rch t q L q 1
  d : b = 0 ∨ (1 ≤ b ∧ b ≤ t.length ∧ ∃ start, start < t.length ∧ Rch t start b start 1)
theorem BestOk.step {t : Tab} {q i b : Nat} (h : BestOk t q i b) (hq : q < t.length) (hi : i + 1 ≤ t.length) :
    (Frn t q (i + 1) q 1 → (b = 0 ∨ i + 1 < b) → BestOk t q (i + 1) (i + 1)) ∧ (¬ (Frn t q (i + 1) q 1 ∧ (b = 0 ∨ i + 1 < b)) → BestOk t q (i + 1) b) := by
  refine ⟨fun hf hb => ⟨fun start L h1 h2 h3 h4 => h.a start L h1 h2 h3 (by omega), fun L h1 h2 h3 hr => ?_, .inr ⟨by omega, hi, q, hq, hf.rch⟩⟩, fun hn => ⟨h.a, fun L h1 h2 h3 hr => ?_, h.d⟩⟩
  · rcases hf with ⟨hf, _⟩ | ⟨_, _, hf⟩
    · omega
    · exact hf ⟨L, h1, by omega, hr⟩
  · by_cases hL : L ≤ i
    · exact h.c L h1 hL h3 hr
    · have e : L = i + 1 := by omega
      subst e
      refine hn ⟨.inr ⟨h1, hr, fun ⟨s, a1, a2, a3⟩ => h.c s a1 (by omega) (by omega) a3⟩, h3⟩
def spFewest : Sp := fun vs H Q _ => ∃ (v : V) (t : Tab), vs = [v] ∧ rep H v t ∧ Sq t ∧ ∀ H' (m : Nat), Ex H H' → (∀ L, 1 ≤ L → L ≤ t.length → (m = 0 ∨ L < m) → NoRing t L) → (m = 0 ∨ (1 ≤ m ∧ m ≤ t.length ∧ ¬ NoRing t m)) → Q (.int (m : Int)) H'
abbrev s_law_fewest : Stmt := topS 26
theorem sc_law_fewest : FnScope ["table", "best", "start", "seen", "now", "length", "onward", "place", "fell", "onto", "mark"] ["table"] (C8.fnScope s_law_fewest) := C8.fnScope_by (by decide +kernel)
theorem ok_fewest (F : Df K mg "_law_fewest" s_law_fewest ["table"]) (T : Bt mg) : C8.Cal P w K mg base 1 "_law_fewest" spFewest [] := by
  have sc := sc_law_fewest
  refine F.cal sc (fun vs H Q E h => ?_) (fun f cdv A outer s H vs Q E hr h => ?_)
  · obtain ⟨v, t, rfl, _⟩ := h; rfl
  obtain ⟨v, t, rfl, r, ok, k⟩ := h
  have hu := hu_of hr
  have hu65 := hu65_of hr
  refine ⟨_, 
    (pss_cons (ps_set (i := 1) sc.nd rfl (by first | exact Or.inl rfl | exact Or.inr rfl) pe_int)
    (pss_cons (ps_for PassesOwn.never rfl (pi_range1 (by rfl) T.range (pa_cons (pe_callB (cLen K) (by rfl) T.len (by decide +kernel) (pa_cons (pv 0) pa_nil)) pa_nil)) (pg_name (i := 2) sc.nd rfl (by first | exact Or.inl rfl | exact Or.inr rfl))
    (pss_cons (ps_set (i := 3) sc.nd rfl (by first | exact Or.inl rfl | exact Or.inr rfl) pe_dnewT)
    (pss_cons (ps_set (i := 4) sc.nd rfl (by first | exact Or.inl rfl | exact Or.inr rfl) (pe_lst (pa_cons (pe_tup (pa_cons (pv 2) (pa_cons pe_int pa_nil))) pa_nil)))
    (pss_one (ps_for PassesOwn.never rfl (pi_range2 (by rfl) T.range (pa_cons pe_int (pa_cons (pe_op op_add (pe_callB (cLen K) (by rfl) T.len (by decide +kernel) (pa_cons (pv 0) pa_nil)) pe_int) pa_nil))) (pg_name (i := 5) sc.nd rfl (by first | exact Or.inl rfl | exact Or.inr rfl))
    (pss_cons (ps_set (i := 6) sc.nd rfl (by first | exact Or.inl rfl | exact Or.inr rfl) (pe_lst pa_nil))
    (pss_cons (ps_for PassesOwn.never rfl (piL K (pv 4)) (pgT K rfl (pgs_cons (pg_name (i := 7) sc.nd rfl (by first | exact Or.inl rfl | exact Or.inr rfl)) (pgs_cons (pg_name (i := 8) sc.nd rfl (by first | exact Or.inl rfl | exact Or.inr rfl)) pgs_nil)))
    (pss_one (ps_for PassesOwn.never rfl (pi_range1 (by rfl) T.range (pa_cons (pe_callB (cLen K) (by rfl) T.len (by decide +kernel) (pa_cons (pv 0) pa_nil)) pa_nil)) (pg_name (i := 9) sc.nd rfl (by first | exact Or.inl rfl | exact Or.inr rfl))
    (pss_cons (ps_set (i := 10) sc.nd rfl (by first | exact Or.inl rfl | exact Or.inr rfl) (pe_tup (pa_cons (pv 9) (pa_cons (pe_callB (cMax2 rfl) (by rfl) T.max (by decide +kernel) (pa_cons (pv 8) (pa_cons (pe_callTy cInt (by rfl) T.int (by decide +kernel) (pa_cons (pe_cmpR op_eq (pe_ix (ixT K) (pe_ix (ixT K) (pv 0) (pv 7) (fun _ _ => rfl)) (pv 9) (fun _ _ => rfl)) pe_int (nomark _)) pa_nil)) pa_nil))) pa_nil))))
    (pss_one (ps_if (PW.pt (pw_and (pt_cmpR op_gt (pe_ix (ixT K) (pe_ix (ixT K) (pv 0) (pv 7) (fun _ _ => rfl)) (pv 9) (fun _ _ => rfl)) pe_int (nomark _)) (pw_and1 (pt_cmp (pc_dnotin hu (pv 10) (pv 3))))))
    (pss_cons (ps_dput hu (pv 3) (pv 10) pe_bl rfl)
    (pss_one (ps_expr (bmK K PySem.F.plainAttrs_list PySem.F.slot_list_append PySem.F.type_list_append mt_append (pv 6) (pa_cons (pv 10) pa_nil)))))
    pss_nil))))))
    (pss_cons (ps_if (PW.pt (pw_and (pt_cmpR (opInD K hu65) (pe_tup (pa_cons (pv 2) (pa_cons pe_int pa_nil))) (pv 6) (by rfl)) (pw_and1 (PW.pt (pw_or (pt_cmpR op_eq (pv 1) pe_int (nomark _)) (pw_or1 (pt_cmpR op_lt (pv 5) (pv 1) (nomark _))))))))
    (pss_one (ps_set (i := 1) sc.nd rfl (by first | exact Or.inl rfl | exact Or.inr rfl) (pv 5)))
    pss_nil)
    (pss_one (ps_set (i := 4) sc.nd rfl (by first | exact Or.inl rfl | exact Or.inr rfl) (pv 6)))))))))))
    (pss_one (ps_ret (pv 1))))), ?_⟩
  show tSeq _ _ _ [some v, none, none, none, none, none, none, none, none, none, none] H
  have hlen := ok.1
  walk_at "rds"
  refine rd_lenT r ?_
  walk_at "rds"
  refine r_range1 (by omega) (by omega) (fun q σ' H' => ∃ (b : Nat) (j2 j3 j4 j5 j6 j7 j8 j9 j10 : Option V), σ' = [some v, some (.int b), j2, j3, j4, j5, j6, j7, j8, j9, j10] ∧ Ex H H' ∧ BestOk t q 0 b) ?_ ?_ ?_
  · exact ⟨0, _, _, _, _, _, _, _, _, _, rfl, Ex.refl, fun start L h => by omega, fun L h1 h2 => by omega, .inl rfl⟩
  · rintro q σ' H1 hq ⟨b, j2, j3, j4, j5, j6, j7, j8, j9, j10, rfl, e1, bo⟩
    have hqn : q < t.length := by omega
    walk_at "rds"
    intro ps nps
    walk_at "rds"
    refine ⟨by show 2 ≤ sizeLine; decide, fun pk npk => ?_⟩
    walk_at "rds"
    refine ⟨by show 1 ≤ sizeLine; decide, fun pn npn => ?_⟩
    walk_at "rds"
    have nps' : H ps = none := e1.free nps
    have nsk : ps ≠ pk := (ne_of_upd npk).symm
    have nsn : ps ≠ pn := (ne_of_upd (none_of_upd npn)).symm
    have nkn : pk ≠ pn := (ne_of_upd npn).symm
    generalize hH2 : upd (upd (upd H1 ps (.dT [])) pk (.tup [.int q, .int 0])) pn (.lst [.ref pk]) = H2
    have e2 : Ex H H2 := by rw [← hH2]; exact ((e1.trans (Ex.new nps)).trans (Ex.new npk)).trans (Ex.new npn)
    have hs2 : H2 ps = some (.dT []) := by rw [← hH2, upd_ne nsn, upd_ne nsk]; exact upd_same
    have hn2 : H2 pn = some (.lst [.ref pk]) := by rw [← hH2]; exact upd_same
    have hk2 : H2 pk = some (.tup [.int q, .int 0]) := by rw [← hH2, upd_ne nkn]; exact upd_same
    refine rd_lenT (l := t) (by walk_at "rp") ?_
    walk_at "rds"
    refine r_range2 (by omega) (by omega) (by omega) (fun i σ' H' => ∃ (b : Nat) (pn : Addr) (ks : List (List Key × V)) (vs : List V) (now : List (P2 Int Int)) (j5 j6 j7 j8 j9 j10 : Option V), σ' = [some v, some (.int b), some (.int q), some (.ref ps), some (.ref pn), j5, j6, j7, j8, j9, j10] ∧
      Ex H H' ∧ H' ps = some (.dT ks) ∧ H' pn = some (.lst vs) ∧ Reps H' vs now ∧ NowOk t q i now ∧ SeenOk t q i ks ∧ BestOk t q i b ∧ now.length ≤ 1000) ?_ ?_ ?_
    · refine ⟨b, pn, [], [.ref pk], [⟨(q : Int), 0⟩], _, _, _, _, _, _, rfl, e2, hs2, hn2, .cons ⟨pk, _, _, rfl, hk2, rfl, rfl⟩ .nil, ⟨fun x hx => ?_, fun p m hf => ?_⟩, ⟨List.nodup_nil, fun k v hm => (nomatch hm), fun p m ⟨s, h1, h2, _⟩ => by omega⟩, bo, by simp⟩
      · cases List.mem_singleton.mp hx
        exact ⟨q, 0, rfl, .inl ⟨rfl, rfl, rfl⟩⟩
      · rcases hf with ⟨_, rfl, rfl⟩ | ⟨h, _⟩
        · exact List.mem_cons_self
        · omega
    · clear hH2 e2 hs2 hn2 hk2 H2 nkn nsn npn pn npk nsk pk
      rintro i σ' H2 hi ⟨b, pn, ks, vs, now, j5, j6, j7, j8, j9, j10, rfl, e2, hs2, hn2, rs, no, so, bo, hnl⟩
      walk_at "rds"
      refine ⟨by decide, fun po npo => ?_⟩
      walk_at "rds"
      have npo' : H po = none := e2.free npo
      have nso : ps ≠ po := ne_non hs2 npo
      have nno : pn ≠ po := ne_non hn2 npo
      refine r_lst (by rw [upd_ne nno]; exact hn2) (fun j σ' H' => ∃ (ks : List (List Key × V)) (ws : List V) (ol : List (P2 Int Int)) (j7 j8 j9 j10 : Option V), σ' = [some v, some (.int b), some (.int q), some (.ref ps), some (.ref pn), some (.int (1 + (i : Int))), some (.ref po), j7, j8, j9, j10] ∧
        Ex H H' ∧ Ti H2 H' ∧ H' pn = some (.lst vs) ∧ H' ps = some (.dT ks) ∧ H' po = some (.lst ws) ∧ Reps H' ws ol ∧ RndOk t q i now j 0 ks ol) ?_ (fun _ _ _ ⟨_, _, _, _, _, _, _, _, _, _, h, _⟩ => h) ?_ ?_
      · refine ⟨ks, [], [], _, _, _, _, rfl, e2.trans (Ex.new npo), Ti.new npo, by rw [upd_ne nno]; exact hn2, by rw [upd_ne nso]; exact hs2, upd_same, Reps.nil, so.nd, fun k v hm => ?_, so.cpl, fun x p f o _ _ _ h => by omega, fun x hx => (nomatch hx), Nat.zero_le _⟩
        obtain ⟨p, m, ek, hb⟩ := so.snd k v hm
        obtain ⟨s, h1, h2, h3⟩ := id hb
        exact ⟨p, m, ek, (h3.lt hqn).1, (h3.lt hqn).2, .inl hb⟩
      · rintro j wv σ' H3 hj hjl ⟨ks, ws, ol, j7, j8, j9, j10, rfl, e3, t3, hn3, hs3, ho3, ro, rd⟩
        obtain ⟨x, hx, rx⟩ := rs.get' hj
        obtain ⟨p, f, rfl, hf⟩ := no.snd x (List.mem_of_getElem? hx)
        have hpl := hf.rch.lt hqn
        refine rd_gTup2 (p := ⟨(p : Int), (f : Int)⟩) (Rep.mono t3 rx) fun x1 x2 h1 h2 => ?_
        cases h1
        cases h2
        walk_at "rds"
        have r3 : rep H3 v t := by walk_at "rp"
        refine rd_lenT r3 ?_
        clear r3
        walk_at "rds"
        refine r_range1 (by omega) (by omega) (fun z σ' H' => ∃ (ks : List (List Key × V)) (ws : List V) (ol : List (P2 Int Int)) (j9 j10 : Option V), σ' = [some v, some (.int b), some (.int q), some (.ref ps), some (.ref pn), some (.int (1 + (i : Int))), some (.ref po), some (.int p), some (.int f), j9, j10] ∧
          Ex H H' ∧ Ti H2 H' ∧ H' pn = some (.lst vs) ∧ H' ps = some (.dT ks) ∧ H' po = some (.lst ws) ∧ Reps H' ws ol ∧ RndOk t q i now j z ks ol) ?_ ?_ ?_
        · exact ⟨ks, ws, ol, _, _, rfl, e3, t3, hn3, hs3, ho3, ro, rd⟩
        · rintro z σ' H4 hz ⟨ks, ws, ol, j9, j10, rfl, e4, t4, hn4, hs4, ho4, ro, rd⟩
          have hzn : z < t.length := by omega
          have r4 : rep H4 v t := by walk_at "rp"
          walk_at "rds"
          refine rd_ixTL r4 (by omega) (by omega) fun wr rwr => ?_
          rw [Int.toNat_natCast] at rwr
          walk_at "rds"
          refine rd_ixTI rwr (by omega) (by rw [ok.row hpl.1]; omega) ?_
          rw [Int.toNat_natCast]
          walk_at "rds"
          have emk : max (f : Int) (if decide ((t.getD p []).getD z 0 = 2) = true then 1 else 0) = (markOf t p z f : Int) := by
            unfold markOf
            show max (f : Int) (if decide (tg t p z = 2) = true then 1 else 0) = _
            have := hpl.2
            by_cases h2 : tg t p z = 2
            · rw [if_pos (decide_eq_true h2), if_pos h2]; omega
            · rw [if_neg (by rw [decide_eq_false h2]; exact Bool.false_ne_true), if_neg h2]; omega
          rw [emk]
          refine ⟨by show 2 ≤ sizeLine; decide, fun pm npm => ?_⟩
          walk_at "rds"
          have nsm : ps ≠ pm := ne_non hs4 npm
          have nom : po ≠ pm := ne_non ho4 npm
          have nnm : pn ≠ pm := ne_non hn4 npm
          have e5 : Ex H (upd H4 pm (.tup [.int z, .int (markOf t p z f : Int)])) := e4.trans (Ex.new npm)
          have t5 : Ti H4 (upd H4 pm (.tup [.int z, .int (markOf t p z f : Int)])) := Ti.new npm
          have hn5 : upd H4 pm (.tup [.int z, .int (markOf t p z f : Int)]) pn = some (.lst vs) := by rw [upd_ne nnm]; exact hn4
          have hs5 : upd H4 pm (.tup [.int z, .int (markOf t p z f : Int)]) ps = some (.dT ks) := by rw [upd_ne nsm]; exact hs4
          have ho5 : upd H4 pm (.tup [.int z, .int (markOf t p z f : Int)]) po = some (.lst ws) := by rw [upd_ne nom]; exact ho4
          have hm5 : upd H4 pm (.tup [.int z, .int (markOf t p z f : Int)]) pm = some (.tup [.int z, .int (markOf t p z f : Int)]) := upd_same
          generalize upd H4 pm (.tup [.int z, .int (markOf t p z f : Int)]) = H5 at e5 t5 hn5 hs5 ho5 hm5 ⊢
          have t25 := t4.trans t5
          clear r4 rwr
          have r5 : rep H5 v t := by walk_at "rp"
          refine rd_ixTL r5 (by omega) (by omega) fun wr rwr => ?_
          rw [Int.toNat_natCast] at rwr
          walk_at "rds"
          refine rd_ixTI rwr (by omega) (by rw [ok.row hpl.1]; omega) ?_
          rw [Int.toNat_natCast]
          walk_at "rds"
          have keep : ¬ (0 < tg t p z) → RndOk t q i now j (z + 1) ks ol := fun hneg => ⟨rd.nd, rd.a, rd.b, fun x p' f' o hx' ho hp' hxz => by
            by_cases hxe : x = j ∧ o = z
            · obtain ⟨rfl, rfl⟩ := hxe
              rw [hx] at hx'
              injection hx' with hx'
              injection hx' with h1 h2
              have h1' : p = p' := by omega
              subst h1'
              exact absurd hp' hneg
            · exact rd.c x p' f' o hx' ho hp' (by omega), rd.d, rd.e⟩
          refine rd_dec (fun hpos => ?_) (fun hneg => ?_)
          · walk_at "rds"
            refine ⟨ps, _, rfl, DGet.t (k := k2 z (markOf t p z f)) hs5 hm5, ?_⟩
            cases hv : valV ks (k2 z (markOf t p z f)) with
            | some v0 =>
              walk_at "rds"
              refine ⟨ks, ws, ol, _, _, rfl, e5, t25, hn5, hs5, ho5, ro.mono t5, rd.nd, rd.a, rd.b, fun x p' f' o hx' ho hp' hxz => ?_, rd.d, rd.e⟩
              by_cases hxe : x = j ∧ o = z
              · obtain ⟨rfl, rfl⟩ := hxe
                rw [hx] at hx'
                injection hx' with hx'
                injection hx' with h1 h2
                have h1' : p = p' := by omega
                have h2' : f = f' := by omega
                subst h1' h2'
                exact ⟨v0, (valV_mem rd.nd).mp hv⟩
              · exact rd.c x p' f' o hx' ho hp' (by omega)
            | none =>
              walk_at "rds"
              have hbd := rd.bound
              refine ⟨ps, _, rfl, DPut.t (k := k2 z (markOf t p z f)) hs5 hm5 (ltLine (by omega)), ?_⟩
              walk_at "rds"
              have ho6 : upd H5 ps (.dT (putK ks (k2 z (markOf t p z f)) (.bl true))) po = some (.lst ws) := by rw [upd_ne nso.symm]; exact ho5
              refine ⟨ty_lst ho6, ?_⟩
              walk_at "rds"
              have hwl := ro.len
              have hol := rd.e
              refine rd_app ho6 (by omega) ?_
              walk_at "rds"
              have t6 : Ti H5 (upd (upd H5 ps (.dT (putK ks (k2 z (markOf t p z f)) (.bl true)))) po (.lst (ws ++ [.ref pm]))) := (Ti.dT hs5).trans (Ti.lst ho6)
              have hnb : ¬ Before t q i z (markOf t p z f) := fun hb => by
                obtain ⟨v1, h1⟩ := rd.b _ _ hb
                rw [(valV_mem rd.nd).mpr h1] at hv
                cases hv
              refine ⟨putK ks (k2 z (markOf t p z f)) (.bl true), ws ++ [.ref pm], ol ++ [⟨(z : Int), (markOf t p z f : Int)⟩], _, _, rfl, (e5.mut nps').mut npo', t25.trans t6, ?_, ?_, upd_same, ?_, ?_⟩
              · rw [upd_ne nno, upd_ne (fun e => by subst e; rw [hs5] at hn5; cases hn5)]; exact hn5
              · rw [upd_ne nso]; exact upd_same
              · refine (ro.mono (t5.trans t6)).snoc ⟨pm, _, _, rfl, t6 _ _ hm5, rfl, rfl⟩
              · rw [putK_new _ hv]
                refine ⟨by rw [← putK_new (.bl true) hv]; exact keys_put rd.nd, fun k v hm => ?_, fun p' m' hb => ?_, fun x p' f' o hx' ho hp' hxz => ?_, fun x hx' => ?_, by rw [List.length_append, List.length_append]; simp; exact hol⟩
                · rcases List.mem_append.mp hm with hm | hm
                  · obtain ⟨p', m', ek, q1, q2, q3⟩ := rd.a k v hm
                    refine ⟨p', m', ek, q1, q2, ?_⟩
                    rcases q3 with q3 | q3
                    · exact .inl q3
                    · exact .inr (List.mem_append_left _ q3)
                  · cases List.mem_singleton.mp hm
                    exact ⟨z, markOf t p z f, rfl, hzn, by unfold markOf; split <;> omega, .inr (List.mem_append_right _ List.mem_cons_self)⟩
                · obtain ⟨v1, h1⟩ := rd.b p' m' hb
                  exact ⟨v1, List.mem_append_left _ h1⟩
                · by_cases hxe : x = j ∧ o = z
                  · obtain ⟨rfl, rfl⟩ := hxe
                    rw [hx] at hx'
                    injection hx' with hx'
                    injection hx' with h1 h2
                    have h1' : p = p' := by omega
                    have h2' : f = f' := by omega
                    subst h1' h2'
                    exact ⟨_, List.mem_append_right _ List.mem_cons_self⟩
                  · obtain ⟨v1, h1⟩ := rd.c x p' f' o hx' ho hp' (by omega)
                    exact ⟨v1, List.mem_append_left _ h1⟩
                · rcases List.mem_append.mp hx' with hx' | hx'
                  · exact rd.d x hx'
                  · cases List.mem_singleton.mp hx'
                    exact ⟨z, markOf t p z f, rfl, .inr ⟨by omega, hf.rch.step hzn hpos, hnb⟩⟩
          · walk_at "rds"
            exact ⟨ks, ws, ol, _, _, rfl, e5, t25, hn5, hs5, ho5, ro.mono t5, keep hneg⟩
        · rintro σ' H4 ⟨ks, ws, ol, j9, j10, rfl, e4, t4, hn4, hs4, ho4, ro, rd⟩
          exact ⟨ks, ws, ol, _, _, _, _, rfl, e4, t4, hn4, hs4, ho4, ro, rd.next (by omega)⟩
      · rintro σ' H3 ⟨ks, ws, ol, j7, j8, j9, j10, rfl, e3, t3, hn3, hs3, ho3, ro, rd⟩
        obtain ⟨no2, so2⟩ := rd.fin hqn no (by rw [rs.len]; exact Nat.le_refl _)
        walk_at "rds"
        refine ⟨by show 2 ≤ sizeLine; decide, fun px npx => ?_⟩
        have nox : po ≠ px := ne_non ho3 npx
        have nsx : ps ≠ px := ne_non hs3 npx
        have rx : rep (upd H3 px (.tup [.int q, .int 1])) (.ref px) (⟨(q : Int), 1⟩ : P2 Int Int) := ⟨px, _, _, rfl, upd_same, rfl, rfl⟩
        walk_at "rds"
        have t4 : Ti H3 (upd H3 px (.tup [.int q, .int 1])) := Ti.new npx
        have e4 : Ex H (upd H3 px (.tup [.int q, .int 1])) := e3.trans (Ex.new npx)
        have ho4 : upd H3 px (.tup [.int q, .int 1]) po = some (.lst ws) := by rw [upd_ne nox]; exact ho3
        have hs4 : upd H3 px (.tup [.int q, .int 1]) ps = some (.dT ks) := by rw [upd_ne nsx]; exact hs3
        generalize upd H3 px (.tup [.int q, .int 1]) = H4 at rx t4 e4 ho4 hs4 ⊢
        refine rd_inD (α := P2 Int Int) rx ho4 (ro.mono t4) ⟨trivial, trivial⟩ (fun _ _ => ⟨trivial, trivial⟩) (by decide) ?_
        have hin : (ol.any fun z => decide (z = (⟨(q : Int), 1⟩ : P2 Int Int))) = true ↔ Frn t q (i + 1) q 1 := by
          rw [List.any_eq_true]
          constructor
          · rintro ⟨x, hx, hd⟩
            have e := of_decide_eq_true hd
            subst e
            obtain ⟨p, m, e, hf⟩ := no2.snd _ hx
            injection e with e1 e2
            have e1' : q = p := by omega
            have e2' : m = 1 := by omega
            subst e1' e2'
            exact hf
          · intro hf
            exact ⟨_, no2.cpl q 1 hf, decide_eq_true rfl⟩
        obtain ⟨st1, st2⟩ := bo.step hqn (by omega)
        have hln : ol.length ≤ 1000 := by have := rd.e; have := rd.bound; omega
        walk_at "rds"
        have fin : ∀ b' : Nat, BestOk t q (i + 1) b' → ∃ (b : Nat) (pn : Addr) (ks : List (List Key × V)) (vs : List V) (now : List (P2 Int Int)) (i5 i6 i7 i8 i9 i10 : Option V), [some v, some (V.int b'), some (V.int q), some (V.ref ps), some (V.ref po), some (V.int (1 + (i : Int))), some (V.ref po), j7, j8, j9, j10] = [some v, some (.int b), some (.int q), some (.ref ps), some (.ref pn), i5, i6, i7, i8, i9, i10] ∧
          Ex H H4 ∧ H4 ps = some (.dT ks) ∧ H4 pn = some (.lst vs) ∧ Reps H4 vs now ∧ NowOk t q (i + 1) now ∧ SeenOk t q (i + 1) ks ∧ BestOk t q (i + 1) b ∧ now.length ≤ 1000 := fun b' hb => ⟨b', po, ks, ws, ol, _, _, _, _, _, _, rfl, e4, hs4, ho4, ro.mono t4, no2, so2, hb, hln⟩
        refine rd_ite (fun hy => ?_) (fun hn => ?_)
        · have hf := hin.mp hy
          walk_at "rds"
          refine rd_dec (fun hb => ?_) (fun hb => ?_)
          · walk_at "rds"
            have := fin (i + 1) (st1 hf (.inl (by omega)))
            rw [show ((i + 1 : Nat) : Int) = 1 + (i : Int) by omega] at this
            exact this
          · walk_at "rds"
            refine rd_dec (fun hb2 => ?_) (fun hb2 => ?_)
            · walk_at "rds"
              have := fin (i + 1) (st1 hf (.inr (by omega)))
              rw [show ((i + 1 : Nat) : Int) = 1 + (i : Int) by omega] at this
              exact this
            · walk_at "rds"
              exact fin b (st2 fun ⟨_, h⟩ => by omega)
        · walk_at "rds"
          exact fin b (st2 fun ⟨h, _⟩ => by rw [hin.mpr h] at hn; cases hn)
    · rintro σ' H3 ⟨b, pn, ks, vs, now, j5, j6, j7, j8, j9, j10, rfl, e3, hs3, hn3, rs, no, so, bo, hnl⟩
      refine ⟨b, _, _, _, _, _, _, _, _, _, rfl, e3, fun start L h1 h2 h3 h4 => ?_, fun L h1 h2 => by omega, bo.d⟩
      by_cases h : start = q
      · subst h
        exact bo.c L h2 (by omega) h4
      · exact bo.a start L (by omega) h2 h3 h4
  · rintro σ' H1 ⟨b, j2, j3, j4, j5, j6, j7, j8, j9, j10, rfl, e1, bo⟩
    walk_at "rds"
    refine k _ b e1 (fun L h1 h2 h3 start l hs hp => bo.a start L (by omega) h1 h2 h3 ⟨l, hp⟩) ?_
    rcases bo.d with h | ⟨h1, h2, start, h3, l, hp⟩
    · exact .inl h
    · exact .inr ⟨h1, h2, fun hn => hn start l h3 hp⟩
end
end Fw
namespace Fw
open PySem PySem.Spec PyProof.Rows L2
open Rep (rep)
local macro_rules | `(tactic| walk_at "rd") => `(tactic| first
  | with_reducible apply rd_seq | with_reducible apply rd_asg | with_reducible apply rd_name | with_reducible apply rd_ret | with_reducible apply rd_drop | with_reducible apply rd_if
  | ((with_reducible refine' rd_var ?e ?h); (case e => exact rfl)) | with_reducible apply rd_c | with_reducible apply rd_op | with_reducible apply rd_un | with_reducible apply rd_I0 | with_reducible apply rd_U
  | with_reducible apply rd_eqI | with_reducible apply rd_neI | with_reducible apply rd_eqB | with_reducible apply rd_eqS | with_reducible apply rd_neS | with_reducible apply rd_tB | with_reducible apply rd_test | with_reducible apply rd_bl | with_reducible apply rd_not | with_reducible apply rd_and | with_reducible apply rd_or
  | with_reducible apply rd_andV | with_reducible apply rd_orV | with_reducible apply rd_notV | with_reducible apply rd_chain | with_reducible apply rd_nil | with_reducible apply rd_cons | with_reducible apply rd_CB | with_reducible apply rd_call | with_reducible apply rd_for
  | with_reducible apply rd_next | with_reducible apply rd_brk | with_reducible apply rd_cont | with_reducible apply rd_tup | with_reducible apply rd_lst | with_reducible apply rd_sub | with_reducible apply rd_BM | with_reducible apply rd_BM0
  | with_reducible apply rd_yes | with_reducible apply rd_nope | with_reducible apply rd_yes2 | with_reducible apply rd_nope2 | with_reducible apply rd_gCons | with_reducible apply rd_gNil | with_reducible apply rd_iTup | with_reducible apply rd_iList | with_reducible apply rd_iRng1 | with_reducible apply rd_iRng2
  | with_reducible apply rd_lc | with_reducible apply rd_augS | ((with_reducible refine' rd_aug ?e ?h); (case e => exact rfl)) | with_reducible apply rd_ip
  | with_reducible apply rd_din | with_reducible apply rd_dnotin | with_reducible apply rd_dget | with_reducible apply rd_dget1 | with_reducible apply rd_dget2 | with_reducible apply rd_dput | with_reducible apply rd_disp1T | with_reducible apply rd_dnewK | with_reducible apply rd_dnewT | with_reducible apply rd_iItems | with_reducible apply rd_iItemsT | with_reducible apply rd_iVals | with_reducible apply rd_sl | with_reducible apply rd_noPart | with_reducible apply rd_part | with_reducible apply rd_int | with_reducible apply rd_inN | with_reducible apply rd_inS | with_reducible apply rd_isN0 | with_reducible apply rd_isS0
  | with_reducible apply rd_max2 | with_reducible apply rd_min2 | with_reducible apply rd_max3 | with_reducible apply rd_intI | with_reducible apply rd_intB | with_reducible apply rd_abs)
local macro_rules | `(tactic| walk_at "rds") => `(tactic| repeat walk_at "rd")
local macro_rules | `(tactic| walk_at "sz") => `(tactic| exact Nat.le_trans (show _ ≤ 1000 by simp) (by decide))
local macro_rules | `(tactic| walk_at "hp") => `(tactic| first
  | with_reducible assumption | with_reducible exact upd_same
  | ((with_reducible refine' hp_ne ?n ?h); (case n => walk_at "ne"); (case h => walk_at "hp"))
  | ((with_reducible refine' Ex.get ?e ?h); (case e => with_reducible assumption); (case h => walk_at "hp"))
  | ((with_reducible refine' Eb.get ?e ?n ?h); (case e => with_reducible assumption); (case n => walk_at "ne"); (case h => walk_at "hp")))
local macro_rules | `(tactic| walk_at "ne") => `(tactic| first
  | with_reducible assumption | (apply Ne.symm; with_reducible assumption)
  | ((with_reducible refine' ne_non ?h ?n); (case n => with_reducible assumption); (case h => walk_at "hp"))
  | (apply Ne.symm; with_reducible refine' ne_non ?h ?n; (case n => with_reducible assumption); (case h => walk_at "hp")))
local macro_rules | `(tactic| walk_at "ti") => `(tactic| first
  | with_reducible assumption | with_reducible exact Ti.refl | (with_reducible exact Ex.ti (by with_reducible assumption))
  | ((with_reducible refine' Ti.trans ?a (Ti.new ?b)); (case b => with_reducible assumption); (case a => walk_at "ti"))
  | ((with_reducible refine' Ti.trans ?a (Ti.lst ?b)); (case b => walk_at "hp"); (case a => walk_at "ti"))
  | ((with_reducible refine' Ti.trans ?a (Ti.dK ?b)); (case b => walk_at "hp"); (case a => walk_at "ti"))
  | ((with_reducible refine' Ti.trans ?a (Ti.dT ?b)); (case b => walk_at "hp"); (case a => walk_at "ti"))
  | ((with_reducible refine' Ti.trans ?a ?b); (case b => with_reducible assumption); (case a => walk_at "ti"))
  | ((with_reducible refine' Ti.trans ?a (Ex.ti ?b)); (case b => with_reducible assumption); (case a => walk_at "ti")))
local macro_rules | `(tactic| walk_at "ex") => `(tactic| first
  | with_reducible assumption | with_reducible exact Ex.refl
  | ((with_reducible refine' Ex.mut ?a ?b); (case b => with_reducible assumption); (case a => walk_at "ex"))
  | ((with_reducible refine' Ex.trans ?a (Ex.new ?b)); (case b => with_reducible assumption); (case a => walk_at "ex"))
  | ((with_reducible refine' Ex.trans ?a ?b); (case b => with_reducible assumption); (case a => walk_at "ex")))
local macro_rules | `(tactic| walk_at "rp") => `(tactic| first
  | with_reducible assumption
  | ((with_reducible refine' Rep.mono (Ex.ti ?e) ?h); (case e => with_reducible assumption); (case h => with_reducible assumption))
  | ((with_reducible refine' Rep.mono ?t ?h); (case t => with_reducible assumption); (case h => with_reducible assumption))
  | ((with_reducible refine' Rep.mono ?t ?h); (case h => with_reducible assumption); (case t => walk_at "ti"))
  | ((with_reducible refine' Reps.mono (Ex.ti ?e) ?h); (case e => with_reducible assumption); (case h => with_reducible assumption))
  | ((with_reducible refine' Reps.mono ?t ?h); (case h => with_reducible assumption); (case t => walk_at "ti")))
theorem getD_app {l : List Int} {o : Int} {i : Nat} (h : i < l.length) : (l ++ [o]).getD i 0 = l.getD i 0 := by
  rw [List.getD_eq_getElem?_getD, List.getD_eq_getElem?_getD, List.getElem?_append_left h]
theorem getD_end {l : List Int} {o : Int} {i : Nat} (h : i = l.length) : (l ++ [o]).getD i 0 = o := by
  subst h
  rw [List.getD_eq_getElem?_getD, List.getElem?_append_right (Nat.le_refl _), Nat.sub_self]
  rfl
/-- what a way is -/
structure Way (t : Tab) (start s p m : Nat) (l : List Int) : Prop where
  len : l.length = s + 1
  fst : l.getD 0 0 = start
  lst : l.getD s 0 = p
  num : ∀ i, i ≤ s → ∃ q : Nat, q < t.length ∧ l.getD i 0 = q
  pos : ∀ i, i < s → 0 < tg t (l.getD i 0).toNat (l.getD (i + 1) 0).toNat
  two : m = 1 → ∃ i, i < s ∧ tg t (l.getD i 0).toNat (l.getD (i + 1) 0).toNat = 2
theorem Path.way {t : Tab} {start : Nat} (h0 : start < t.length) : ∀ {s p m : Nat} {l : List Int}, Path t start s p m l → Way t start s p m l
  | 0, p, m, l, h => by
    obtain ⟨rfl, rfl, rfl⟩ := h
    exact ⟨rfl, rfl, rfl, fun i hi => ⟨p, h0, by rw [show i = 0 by omega]; rfl⟩, fun i hi => by omega, fun h => by cases h⟩
  | s + 1, o, m, l, h => by
    obtain ⟨p, f, l', h, ho, hpos, rfl, rfl⟩ := h
    have W := Path.way h0 h
    have hl := W.len
    refine ⟨by rw [List.length_append, hl]; rfl, by rw [getD_app (by omega)]; exact W.fst, getD_end (by omega), fun i hi => ?_, fun i hi => ?_, fun hm => ?_⟩
    · by_cases e : i = s + 1
      · exact ⟨o, ho, getD_end (by omega)⟩
      · rw [getD_app (by omega)]
        exact W.num i (by omega)
    · by_cases e : i = s
      · subst e
        rw [getD_app (by omega), getD_end (by omega), W.lst, Int.toNat_natCast, Int.toNat_natCast]
        exact hpos
      · rw [getD_app (by omega), getD_app (by omega)]
        exact W.pos i (by omega)
    · by_cases h2 : tg t p o = 2
      · exact ⟨s, by omega, by rw [getD_app (by omega), getD_end (by omega), W.lst, Int.toNat_natCast, Int.toNat_natCast]; exact h2⟩
      · rw [if_neg h2] at hm
        obtain ⟨i, hi, e⟩ := W.two hm
        exact ⟨i, by omega, by rw [getD_app (by omega), getD_app (by omega)]; exact e⟩
theorem TabOk.tg {t : Tab} {n m i j : Nat} (h : TabOk t n m) (hi : i < n) (hj : j < m) : 0 ≤ tg t i j ∧ tg t i j ≤ 2 := by
  have hi' : i < t.length := by rw [h.rows]; exact hi
  have e : t.getD i [] = t[i] := by rw [List.getD_eq_getElem?_getD, List.getElem?_eq_getElem hi']; rfl
  have hm := List.getElem_mem hi'
  have hj' : j < (t[i]).length := by rw [h.cols _ hm]; exact hj
  have e2 : Fw.tg t i j = t[i][j] := by
    show (t.getD i []).getD j 0 = _
    rw [e, List.getD_eq_getElem?_getD, List.getElem?_eq_getElem hj']
    rfl
  rw [e2]
  exact h.ent _ hm _ (List.getElem_mem hj')
theorem TabOk.sq {t : Tab} {n : Nat} (h : TabOk t n n) (hn : n ≤ 100) : Sq t := ⟨by rw [h.rows]; exact hn, fun r hr => by rw [h.cols r hr, h.rows]⟩
/-- the entries of a ring, as the law lists them -/
def ringE (t : Tab) (l : List Int) (L k : Nat) : Int := tg t (l.getD (if k = 0 then L - 1 else k - 1) 0).toNat (l.getD k 0).toNat
theorem ringE_is {t : Tab} {l : List Int} {start L m k : Nat} (W : Way t start L start m l) (hk : k < L) : ∃ i, i < L ∧ ringE t l L k = tg t (l.getD i 0).toNat (l.getD (i + 1) 0).toNat := by
  by_cases h : k = 0
  · subst h
    refine ⟨L - 1, by omega, ?_⟩
    unfold ringE
    rw [if_pos rfl, W.fst, show L - 1 + 1 = L by omega, W.lst]
  · refine ⟨k - 1, by omega, ?_⟩
    unfold ringE
    rw [if_neg h, show k - 1 + 1 = k by omega]
theorem ringE_of {t : Tab} {l : List Int} {start L m i : Nat} (W : Way t start L start m l) (hi : i < L) : ∃ k, k < L ∧ ringE t l L k = tg t (l.getD i 0).toNat (l.getD (i + 1) 0).toNat := by
  by_cases h : i + 1 = L
  · refine ⟨0, by omega, ?_⟩
    unfold ringE
    rw [if_pos rfl, W.fst, h, W.lst, show L - 1 = i by omega]
  · refine ⟨i + 1, by omega, ?_⟩
    unfold ringE
    rw [if_neg (by omega), show i + 1 - 1 = i by omega]
theorem getD_dropLast {l : List Int} {i : Nat} (h : i + 1 < l.length) : l.dropLast.getD i 0 = l.getD i 0 := by
  rw [List.getD_eq_getElem?_getD, List.getD_eq_getElem?_getD, List.getElem?_dropLast, if_pos (by omega)]
section
variable {P : Program} {w : World} {K : PySem.W.Frag} {mg : Str → Option Value} {base : Heap}
/-- what ring_of gives -/
def RingIs (H : Hp) (u : V) (t : Tab) : Prop := (u = .non ∧ ∀ L, 1 ≤ L → L ≤ t.length → NoRing t L) ∨
  ∃ L start l, 1 ≤ L ∧ L ≤ t.length ∧ start < t.length ∧ Path t start L start 1 l ∧ (∀ L', 1 ≤ L' → L' < L → NoRing t L') ∧ rep H u l.dropLast
def spRingRight : Sp := fun vs H Q _ => ∃ (v u : V) (t : Tab), vs = [v, u] ∧ rep H v t ∧ TabOk t t.length t.length ∧ t.length ≤ 100 ∧ RingIs H u t ∧ ∀ H', Ex H H' → Q (.bl true) H'
abbrev s_law_ring_right : Stmt := topS 27
theorem sc_law_ring_right : FnScope ["table", "ring", "many", "place", "entries", "k"] ["table", "ring"] (C8.fnScope s_law_ring_right) := C8.fnScope_by (by decide +kernel)
theorem ok_ringright (F : Df K mg "_law_ring_right" s_law_ring_right ["table", "ring"]) (T : Bt mg) (c_law_fewest : C8.Cal P w K mg base 1 "_law_fewest" spFewest []) (c_law_is_int : C8.Cal P w K mg base 1 "_law_is_int" spIsInt []) : C8.Cal P w K mg base 2 "_law_ring_right" spRingRight [] := by
  have sc := sc_law_ring_right
  refine F.cal sc (fun vs H Q E h => ?_) (fun f cdv A outer s H vs Q E hr h => ?_)
  · obtain ⟨v, u, t, rfl, _⟩ := h; rfl
  obtain ⟨v, u, t, rfl, r, tok, hlen, ri, k⟩ := h
  have ok := tok.sq hlen
  refine ⟨_, 
    (pss_cons (ps_set (i := 2) sc.nd rfl (by first | exact Or.inl rfl | exact Or.inr rfl) (C8.pe_c c_law_fewest hr (by decide) (by rfl) (pa_cons (pv 0) pa_nil)))
    (pss_cons (ps_if (PW.pt (pw_or (pt_cmpR op_eq (pv 2) pe_int (nomark _)) (pw_or1 (pt_cmpR op_isN (pv 1) pe_non (nomark _)))))
    (pss_one (ps_ret (pe_and (pe_cmpR op_eq (pv 2) pe_int (nomark _)) (pe_one (pe_cmpR op_isN (pv 1) pe_non (nomark _))))))
    pss_nil)
    (pss_cons (ps_if (PW.pt (pw_or (pt_not (pt_val (pe_callB (cIsi K) (by rfl) T.isinstance (by decide +kernel) (pa_cons (pv 1) (pa_cons (pe_bltn (v := .ty "tuple") (by rfl) T.tuple (by decide +kernel) rfl) pa_nil))))) (pw_or1 (pt_cmpR op_ne (pe_callB (cLen K) (by rfl) T.len (by decide +kernel) (pa_cons (pv 1) pa_nil)) (pv 2) (nomark _)))))
    (pss_one (ps_ret pe_bl))
    pss_nil)
    (pss_cons (ps_if (pt_not (pt_val (pe_callB (cAll K rfl) (by rfl) T.all (by decide +kernel) (pa_cons (pe_lc (own := [("place", 3)]) (by rfl) sc.nd (piT K (pv 1)) (blkOk_by (N := ["table", "ring", "many", "place", "entries", "k"]) (sc := C8.fnScope s_law_ring_right) (own := [("place", 3)]) (by decide +kernel)) (fun _ _ _ _ _ => (pg_name (i := 3) sc.nd rfl (by first | exact Or.inl rfl | exact Or.inr rfl))) (fun _ _ _ _ _ => pts_nil) (fun _ _ _ _ _ => (pe_and (C8.pe_c c_law_is_int hr (by decide) (by rfl) (pa_cons (pv 3) pa_nil)) (pe_one (pe_chain op_le op_lt pe_int (pv 3) (pe_callB (cLen K) (by rfl) T.len (by decide +kernel) (pa_cons (pv 0) pa_nil))))))) pa_nil))))
    (pss_one (ps_ret pe_bl))
    pss_nil)
    (pss_cons (ps_setLc (i := 4) (own := [("k", 5)]) (by rfl) sc.nd rfl rfl (sw_true rfl rfl rfl (by decide +kernel)) (pi_range1 (by rfl) T.range (pa_cons (pv 2) pa_nil)) (blkOk_by (N := ["table", "ring", "many", "place", "entries", "k"]) (sc := C8.fnScope s_law_ring_right) (own := [("k", 5)]) (by decide +kernel)) (fun _ _ _ _ _ => (pg_name (i := 5) sc.nd rfl (by first | exact Or.inl rfl | exact Or.inr rfl))) (fun _ _ _ _ _ => pts_nil) (fun _ _ _ _ _ => (pe_ix (ixT K) (pe_ix (ixT K) (pv 0) (pe_ix (ixT K) (pv 1) (pe_op op_sub (pv 5) pe_int) (fun _ _ => rfl)) (fun _ _ => rfl)) (pe_ix (ixT K) (pv 1) (pv 5) (fun _ _ => rfl)) (fun _ _ => rfl))))
    (pss_one (ps_ret (pe_and (pe_cmpR op_gt (pe_callB (cMinL K rfl) (by rfl) T.min (by decide +kernel) (pa_cons (pv 4) pa_nil)) pe_int (nomark _)) (pe_one (pe_cmpR op_eq (pe_callB (cMaxL K rfl) (by rfl) T.max (by decide +kernel) (pa_cons (pv 4) pa_nil)) pe_int (nomark _))))))))))), ?_⟩
  show tSeq _ _ _ [some v, some u, none, none, none, none] H
  walk_at "rds"
  refine ⟨v, t, rfl, r, ok, fun H1 m e1 hmin hm => ?_⟩
  walk_at "rds"
  rcases ri with ⟨rfl, hno⟩ | ⟨L, start, l, hL1, hLn, hst, hp, hfew, ru⟩
  · have hm0 : m = 0 := by
      rcases hm with h | ⟨h1, h2, h3⟩
      · exact h
      · exact absurd (hno m h1 h2) h3
    subst hm0
    refine rd_dec (fun _ => ?_) (fun h => absurd rfl h)
    walk_at "rds"
    refine rd_dec (fun _ => ?_) (fun h => absurd rfl h)
    walk_at "rds"
    exact ⟨rfl, k _ e1⟩
  · have hmL : m = L := by
      rcases hm with h | ⟨h1, h2, h3⟩
      · exact absurd hp (hmin L hL1 hLn (.inl h) start l hst)
      · by_cases h4 : m < L
        · exact absurd (hfew m h1 h4) h3
        · by_cases h5 : L < m
          · exact absurd hp (hmin L hL1 hLn (.inr h5) start l hst)
          · omega
    subst hmL
    have W := hp.way hst
    have hll := W.len
    have hdl : l.dropLast.length = m := by rw [List.length_dropLast, hll]; rfl
    have ru1 : rep H1 u l.dropLast := by walk_at "rp"
    obtain ⟨a, vs, e, ha, rvs⟩ := id ru1
    refine rd_dec (fun h => by omega) (fun _ => ?_)
    walk_at "rds"
    refine ⟨rfl, ?_⟩
    walk_at "rds"
    refine rd_dec (fun h => by rw [e] at h; cases h) (fun _ => ?_)
    walk_at "rds"
    refine rd_isi (v := u) (by rw [e]; exact ty_tup ha) (b := true) (by decide +kernel) ?_
    walk_at "rds"
    refine rd_lenT ru1 ?_
    walk_at "rds"
    rw [hdl]
    refine rd_ndec (fun h => absurd rfl h) (fun _ => ?_)
    walk_at "rds"
    refine lcT (fun _ => true) ru1 Ti.refl (by omega) (fun _ => rfl) (fun i H2 wz z hz rz e2 Q' q => ?_) (fun D ys H2 nD e2 hD rb => ?_)
    · cases rz
      have hi := (List.getElem?_eq_some_iff.mp hz).1
      obtain ⟨q0, hq0, eq0⟩ := W.num i (by omega)
      have ez : z = (q0 : Int) := by
        rw [← eq0, ← getD_dropLast (by omega), List.getD_eq_getElem?_getD, hz]
        rfl
      subst ez
      walk_at "rds"
      refine ⟨_, rfl, ?_⟩
      walk_at "rds"
      refine rd_dec (fun _ => ?_) (fun h => by omega)
      walk_at "rds"
      refine rd_lenT (l := t) (by walk_at "rp") ?_
      walk_at "rds"
      rw [decide_eq_true (show (q0 : Int) < (t.length : Int) by omega)]
      exact q _ _ Ex.refl rfl
    · walk_at "rds"
      rw [rb.bools] at hD
      refine rd_all hD ?_
      have ea : (l.dropLast.map (fun _ => true)).all id = true := by
        rw [List.all_eq_true]; intro b hb; obtain ⟨_, _, rfl⟩ := List.mem_map.mp hb; rfl
      rw [ea]
      walk_at "rds"
      have r2 : rep H2 v t := by walk_at "rp"
      have ru2 : rep H2 u l.dropLast := by walk_at "rp"
      refine lcR (fun k => ringE t l m k) (by omega) (by omega) (fun _ => rfl) (fun i H3 hi e3 Q' q => ?_) (fun D3 ys3 H3 nD3 e3 hD3 rb3 => ?_)
      · have r3 : rep H3 v t := by walk_at "rp"
        have ru3 : rep H3 u l.dropLast := by walk_at "rp"
        have him : i < m := by omega
        walk_at "rds"
        have hprev : ∃ pz : Nat, pz < m ∧ l.getD (if i = 0 then m - 1 else i - 1) 0 = l.getD pz 0 ∧ ∀ Q2 : VK, Q2 (.int (l.getD pz 0)) H3 → rIxT K u (.int ((i : Int) - 1)) H3 Q2 := by
          by_cases h0 : i = 0
          · subst h0
            refine ⟨m - 1, by omega, by rw [if_pos rfl], fun Q2 q2 => ?_⟩
            refine rd_ixTlast (e := l.getD (m - 1) 0) ru3 ?_ (fun w hw => by cases hw; exact q2)
            rw [List.getLast?_eq_getElem?, hdl, List.getElem?_dropLast, if_pos (by omega), List.getD_eq_getElem?_getD, List.getElem?_eq_getElem (by omega)]
            rfl
          · refine ⟨i - 1, by omega, by rw [if_neg h0], fun Q2 q2 => ?_⟩
            refine rd_ixTI ru3 (by omega) (by omega) ?_
            rw [show ((i : Int) - 1).toNat = i - 1 by omega, getD_dropLast (by omega)]
            exact q2
        obtain ⟨pz, hpz, epz, st⟩ := hprev
        obtain ⟨q1, hq1, eq1⟩ := W.num pz (by omega)
        obtain ⟨q2, hq2, eq2⟩ := W.num i (by omega)
        refine st _ ?_
        rw [eq1]
        walk_at "rds"
        refine rd_ixTL r3 (by omega) (by omega) fun wr rwr => ?_
        rw [Int.toNat_natCast] at rwr
        walk_at "rds"
        refine rd_ixTI ru3 (by omega) (by omega) ?_
        rw [Int.toNat_natCast, getD_dropLast (by omega), eq2]
        refine rd_ixTI rwr (by omega) (by rw [ok.row hq1]; omega) ?_
        refine q _ _ Ex.refl ?_
        show _ = V.int (ringE t l m i)
        unfold ringE
        rw [epz, eq1, eq2, Int.toNat_natCast, Int.toNat_natCast]
        rfl
      · walk_at "rds"
        rw [rb3.ints, Int.toNat_natCast] at hD3
        refine ⟨D3, _, rfl, SqL.of hD3, by simp; omega, fun mn hmn hall => ?_⟩
        obtain ⟨k1, hk1, rfl⟩ := List.mem_map.mp hmn
        obtain ⟨i1, hi1, ei1⟩ := ringE_is W (List.mem_range.mp hk1)
        have hpos := W.pos i1 hi1
        walk_at "rds"
        rw [ei1]
        refine rd_dec (fun _ => ?_) (fun h => absurd hpos h)
        walk_at "rds"
        refine ⟨D3, _, rfl, SqL.of hD3, by simp; omega, fun mx hmx hallx => ?_⟩
        obtain ⟨i2, hi2, ei2⟩ := W.two rfl
        obtain ⟨k2', hk2, ek2⟩ := ringE_of W hi2
        have h2 := hallx _ (List.mem_map.mpr ⟨k2', List.mem_range.mpr hk2, rfl⟩)
        obtain ⟨k3, hk3, rfl⟩ := List.mem_map.mp hmx
        obtain ⟨i3, hi3, ei3⟩ := ringE_is W (List.mem_range.mp hk3)
        obtain ⟨q3, hq3, eq3⟩ := W.num i3 (by omega)
        obtain ⟨q4, hq4, eq4⟩ := W.num (i3 + 1) (by omega)
        have hb := tok.tg hq3 hq4
        walk_at "rds"
        have e2' : ringE t l m k3 = 2 := by
          replace h2 : ringE t l m k2' ≤ ringE t l m k3 := h2
          rw [ek2, ei2] at h2
          rw [ei3, eq3, eq4, Int.toNat_natCast, Int.toNat_natCast] at h2 ⊢
          omega
        rw [decide_eq_true e2']
        exact k _ ((e1.trans e2).trans e3)
end
end Fw
namespace Fw
open PySem PySem.Spec PyProof.Rows L2
open Rep (rep)
section
variable {ts tu : TS} {nx bk ct : L2.St → Hp → Prop} {rt : V → Hp → Prop} {σ : L2.St} {H : Hp}
/-- two statements, what is known between them told -/
theorem rd_seqJ (Inv : L2.St → Hp → Prop) (hn : ∀ σ H, Inv σ H → tu ⟨nx, rt, bk, ct⟩ σ H) (h : ∀ nx', (∀ σ H, Inv σ H → nx' σ H) → ts ⟨nx', rt, bk, ct⟩ σ H) : tSeq ts tu ⟨nx, rt, bk, ct⟩ σ H := h _ hn
end
section
variable {te : TE} {σ : L2.St} {H : Hp} {Q : VK} {K : PySem.W.Frag}
theorem rd_teJ (R : V → Hp → Prop) (hq : ∀ v H', R v H' → Q v H') (h : ∀ Q' : VK, (∀ v H', R v H' → Q' v H') → te σ H Q') : te σ H Q := h Q hq
/-- ys[i - 1] -/
theorem rd_prev {p : Addr} {ys : List V} (h : H p = some (.lst ys)) {i : Nat} (hi : i < ys.length) (q : ∀ e ∈ ys, Q e H) : rIxL K (.ref p) (.int ((i : Int) - 1)) H Q := by
  by_cases h0 : i = 0
  · subst h0
    have hn : ys ≠ [] := by intro z; subst z; cases hi
    refine ⟨p, ys, -1, ys.getLast hn, rfl, rfl, SqL.of h, atI_neg1 (List.getLast?_eq_getLast hn), q _ (List.getLast_mem hn)⟩
  · exact rd_ixL h (i - 1) (by omega) (List.getElem?_eq_getElem (by omega)) (q _ (List.getElem_mem _))
end
section
variable {te : L2.St → Hp → (Int → Int → Hp → Prop) → Prop} {ta : TE} {σ : L2.St} {H : Hp} {Q : VK} {Q3 : Int → Int → Hp → Prop}
theorem rd_lstRg (h : te σ H fun a b H1 => RgOk a b ∧ ∀ q, H1 q = none → Q (.ref q) (upd H1 q (.lst (rgV a b)))) : tLstRg te σ H Q := h
theorem rd_rg1 (h : ta σ H fun x H1 => ∃ n, x = V.int n ∧ Q3 0 n H1) : tRg1 ta σ H Q3 := h
end
theorem cutV_mem {xs : List V} {a b : Option Int} {x : V} (h : x ∈ cutV xs a b) : x ∈ xs := by
  unfold cutV at h
  exact List.mem_of_mem_drop (List.mem_of_mem_take h)
theorem cutV_len {xs : List V} {a b : Option Int} : (cutV xs a b).length ≤ xs.length := by
  unfold cutV
  rw [List.length_take, List.length_drop]
  omega
/-! ### grids: a list of lists of small numbers, changed in place -/
def RowOk (m : Nat) (H : Hp) (p : Addr) : Prop := ∃ l : List Int, H p = some (.lst (l.map V.int)) ∧ l.length = m ∧ ∀ x ∈ l, 0 ≤ x ∧ x ≤ 2
structure Gr (H0 : Hp) (pm : Addr) (ps : List Addr) (n m : Nat) (H : Hp) : Prop where
  pm0 : H0 pm = none
  ps0 : ∀ p ∈ ps, H0 p = none
  nd : pm ∉ ps
  hm : H pm = some (.lst (ps.map V.ref))
  len : ps.length = n
  rows : ∀ p ∈ ps, RowOk m H p
section
variable {H0 H H' : Hp} {pm d q : Addr} {ps : List Addr} {n m : Nat} {o : HO}
theorem RowOk.ex {p : Addr} (h : RowOk m H p) (e : Ex H H') : RowOk m H' p := let ⟨l, h, a⟩ := h; ⟨l, e _ _ h, a⟩
theorem RowOk.eb {p : Addr} (h : RowOk m H p) (n : p ≠ d) (e : Eb d H H') : RowOk m H' p := let ⟨l, h, a⟩ := h; ⟨l, e _ _ n h, a⟩
theorem Gr.eb (g : Gr H0 pm ps n m H) (hd : H0 d = some o) (e : Eb d H H') : Gr H0 pm ps n m H' :=
  ⟨g.pm0, g.ps0, g.nd, e _ _ (ne_of_none hd g.pm0).symm g.hm, g.len, fun p hp => (g.rows p hp).eb (ne_of_none hd (g.ps0 p hp)).symm e⟩
theorem Gr.ex (g : Gr H0 pm ps n m H) (e : Ex H H') : Gr H0 pm ps n m H' :=
  ⟨g.pm0, g.ps0, g.nd, e _ _ g.hm, g.len, fun p hp => (g.rows p hp).ex e⟩
theorem Gr.back {H1 : Hp} (g : Gr H1 pm ps n m H) (e : ∀ p, H1 p = none → H0 p = none) : Gr H0 pm ps n m H :=
  ⟨e _ g.pm0, fun p hp => e _ (g.ps0 p hp), g.nd, g.hm, g.len, g.rows⟩
theorem Gr.get (g : Gr H0 pm ps n m H) {i : Nat} (hi : i < n) : ∃ p, p ∈ ps ∧ (ps.map V.ref)[i]? = some (.ref p) := by
  have h : i < ps.length := by rw [g.len]; exact hi
  exact ⟨ps[i], List.getElem_mem h, by rw [List.getElem?_map, List.getElem?_eq_getElem h]; rfl⟩
theorem Gr.set (g : Gr H0 pm ps n m H) {p : Addr} (hp : p ∈ ps) {l : List Int} (h : H p = some (.lst (l.map V.int))) (hl : l.length = m) (hb : ∀ x ∈ l, 0 ≤ x ∧ x ≤ 2) {j : Nat} {v : Int} (hv : 0 ≤ v ∧ v ≤ 2) : Gr H0 pm ps n m (upd H p (.lst ((l.map V.int).set j (.int v)))) := by
  refine ⟨g.pm0, g.ps0, g.nd, ?_, g.len, fun p' hp' => ?_⟩
  · rw [upd_ne (fun e : pm = p => g.nd (by rw [e]; exact hp))]; exact g.hm
  · by_cases e : p' = p
    · subst e
      refine ⟨l.set j v, ?_, by rw [List.length_set]; exact hl, fun x hx => ?_⟩
      · rw [upd_same, List.map_set]
      · rcases List.mem_or_eq_of_mem_set hx with h | h
        · exact hb x h
        · subst h; exact hv
    · obtain ⟨l', h1, h2⟩ := g.rows p' hp'
      exact ⟨l', by rw [upd_ne e]; exact h1, h2⟩
end
section
variable {σ : L2.St} {H : Hp} {K : PySem.W.Frag} {te : TE} {vs : List Nat} {Q : VK} {k : Nat}
theorem lcGr {n m : Nat} (hn : n ≤ 1000) (hw : ∀ v, wipe ((wipe σ vs).set k v) vs = wipe σ vs)
    (hs : ∀ (i : Nat) H', i < n → Ex H H' → ∀ Q' : VK, (∀ p H4, H' p = none → Ex H' H4 → RowOk m H4 p → Q' (.ref p) H4) → te ((wipe σ vs).set k (some (.int (i : Int)))) H' Q')
    (hd : ∀ D ps H', Ex H H' → Gr H D ps n m H' → Q (.ref D) H') :
    ∃ j : Int, [V.int (n : Int)] = [V.int j] ∧ -(2 ^ 62) ≤ j ∧ j < 2 ^ 62 ∧ LcW (gName k) tYes te vs σ Q (Itr 0 j.toNat) H := by
  refine lcR_raw (by omega) (by omega) (fun D i ys H' => ∃ ps : List Addr, ys = ps.map V.ref ∧ Ex H H' ∧ Gr H D ps i m H') hw (fun D h => ⟨[], rfl, Ex.new h, h, fun p hp => (nomatch hp), fun h => (nomatch h), upd_same, rfl, fun p hp => (nomatch hp)⟩)
    (fun D i ys H' hD hi ⟨ps, e, ex, g⟩ => fun Q' q => ?_) (fun D ys H' hD ⟨ps, e, ex, g⟩ => hd D ps H' ex (by rw [Int.toNat_natCast] at g; exact g))
  subst e
  refine hs i H' (by omega) ex Q' fun p H4 np e4 ro => ?_
  have g4 := g.ex e4
  have hpD : p ≠ D := (ne_of_none g.hm np).symm
  refine q _ _ g4.hm ⟨ps ++ [p], by rw [List.map_append]; rfl, Ex.mut (ex.trans e4) hD, hD, fun p' hp' => ?_, fun h => ?_, by rw [upd_same, List.map_append]; rfl, by rw [List.length_append, g.len]; rfl, fun p' hp' => ?_⟩
  · rcases List.mem_append.mp hp' with h | h
    · exact g.ps0 p' h
    · cases List.mem_singleton.mp h; exact ex.free np
  · rcases List.mem_append.mp h with h | h
    · exact g.nd h
    · exact hpD (List.mem_singleton.mp h).symm
  · have hnD : p' ≠ D := by
      intro e
      subst e
      rcases List.mem_append.mp hp' with h | h
      · exact g.nd h
      · exact hpD (List.mem_singleton.mp h).symm
    have h0 : RowOk m H4 p' := by
      rcases List.mem_append.mp hp' with h | h
      · exact g4.rows p' h
      · cases List.mem_singleton.mp h; exact ro
    obtain ⟨l, h1, h2⟩ := h0
    exact ⟨l, by rw [upd_ne hnD]; exact h1, h2⟩
def toI : V → Int | .int z => z | _ => 0
theorem toI_map {l : List Int} : (l.map V.int).map toI = l := by
  rw [List.map_map]
  exact (List.map_congr_left fun _ _ => rfl).trans (List.map_id l)
/-- what stands in a row -/
def rowC (H : Hp) (v : V) : List Int := match v with
  | .ref p => match H p with
    | some (.lst ys) => ys.map toI
    | _ => []
  | _ => []
theorem rowC_of {p : Addr} {l : List Int} (h : H p = some (.lst (l.map V.int))) : rowC H (.ref p) = l := by
  show (match H p with
    | some (.lst ys) => ys.map toI
    | _ => []) = l
  rw [h]
  exact toI_map
/-- [tuple(line) for line in made] -/
theorem lcGrT {H0 : Hp} {pm : Addr} {ps : List Addr} {n m : Nat} (g : Gr H0 pm ps n m H) (hn : n ≤ 1000) (hw : ∀ v, wipe ((wipe σ vs).set k v) vs = wipe σ vs)
    (hs : ∀ (p : Addr) (l : List Int) H', H' p = some (.lst (l.map V.int)) → ∀ Q' : VK, (∀ t, H' t = none → Q' (.ref t) (upd H' t (.tup (l.map V.int)))) → te ((wipe σ vs).set k (some (.ref p))) H' Q')
    (hd : ∀ D (ys : List V) (M : List (List Int)) H', H D = none → Ex H H' → H' D = some (.lst ys) → Reps H' ys M → M.length = n → (∀ r ∈ M, r.length = m) → (∀ r ∈ M, ∀ x ∈ r, 0 ≤ x ∧ x ≤ 2) → Q (.ref D) H') :
    ∃ a, V.ref pm = .ref a ∧ (∃ xs, SqL K H a xs) ∧ LcW (gName k) tYes te vs σ Q (Itl K a) H := by
  have row : ∀ r ∈ (ps.map V.ref).map (rowC H), r.length = m ∧ ∀ x ∈ r, 0 ≤ x ∧ x ≤ 2 := fun r hr => by
    obtain ⟨w, hw, rfl⟩ := List.mem_map.mp hr
    obtain ⟨p, hp, rfl⟩ := List.mem_map.mp hw
    obtain ⟨l, h1, h2, h3⟩ := g.rows p hp
    rw [rowC_of h1]
    exact ⟨h2, h3⟩
  refine lcL (rowC H) g.hm (by rw [List.length_map, g.len]; omega) hw (fun i H' w hw' e => ?_) fun D ys H' nD e hD r => hd D ys _ H' nD e hD r (by rw [List.length_map, List.length_map, g.len]) (fun r hr => (row r hr).1) (fun r hr => (row r hr).2)
  obtain ⟨p, hp, rfl⟩ := List.mem_map.mp (List.mem_of_getElem? hw')
  obtain ⟨l, h1, h2, h3⟩ := g.rows p hp
  intro Q' q
  refine hs p l H' (e _ _ h1) Q' fun t nt => q _ _ (Ex.new nt) ?_
  rw [rowC_of h1]
  exact rep_new nt Reps.of_ints
/-- a list of so many numbers, each within bounds -/
theorem lcRB {n : Nat} (hn : n ≤ 1000) (hw : ∀ v, wipe ((wipe σ vs).set k v) vs = wipe σ vs)
    (hs : ∀ (i : Nat) H', i < n → Ex H H' → ∀ Q' : VK, (∀ z, 0 ≤ z → z ≤ 2 → Q' (.int z) H') → te ((wipe σ vs).set k (some (.int (i : Int)))) H' Q')
    (hd : ∀ D H', H D = none → Ex H H' → RowOk n H' D → Q (.ref D) H') :
    ∃ j : Int, [V.int (n : Int)] = [V.int j] ∧ -(2 ^ 62) ≤ j ∧ j < 2 ^ 62 ∧ LcW (gName k) tYes te vs σ Q (Itr 0 j.toNat) H := by
  refine lcR_raw (by omega) (by omega) (fun D i ys H' => ∃ l : List Int, ys = l.map V.int ∧ Ex H H' ∧ H' D = some (.lst (l.map V.int)) ∧ l.length = i ∧ ∀ x ∈ l, 0 ≤ x ∧ x ≤ 2) hw (fun D h => ⟨[], rfl, Ex.new h, upd_same, rfl, fun x hx => (nomatch hx)⟩)
    (fun D i ys H' hD hi ⟨l, e, ex, h, hl, hb⟩ => fun Q' q => ?_) (fun D ys H' hD ⟨l, e, ex, h, hl, hb⟩ => hd D H' hD ex ⟨l, h, by rw [hl, Int.toNat_natCast], hb⟩)
  subst e
  refine hs i H' (by omega) ex Q' fun z z0 z1 => q _ _ h ⟨l ++ [z], by rw [List.map_append]; rfl, Ex.mut ex hD, by rw [upd_same, List.map_append]; rfl, by rw [List.length_append, hl]; rfl, fun x hx => ?_⟩
  rcases List.mem_append.mp hx with h | h
  · exact hb x h
  · cases List.mem_singleton.mp h; exact ⟨z0, z1⟩
end
theorem Eb.ofEx {d : Addr} {H H' H2 : Hp} (a : Eb d H H') (b : Ex H' H2) : Eb d H H2 := a.trans b.eb
end Fw
namespace Fw
open PySem PySem.Spec PyProof.Rows L2
open Rep (rep)
local macro_rules | `(tactic| walk_at "rd") => `(tactic| first
  | with_reducible apply rd_seq | with_reducible apply rd_asg | with_reducible apply rd_name | with_reducible apply rd_ret | with_reducible apply rd_drop | with_reducible apply rd_if
  | ((with_reducible refine' rd_var ?e ?h); (case e => exact rfl)) | with_reducible apply rd_c | with_reducible apply rd_op | with_reducible apply rd_un | with_reducible apply rd_I0 | with_reducible apply rd_U
  | with_reducible apply rd_eqI | with_reducible apply rd_neI | with_reducible apply rd_eqB | with_reducible apply rd_eqS | with_reducible apply rd_neS | with_reducible apply rd_tB | with_reducible apply rd_test | with_reducible apply rd_bl | with_reducible apply rd_not | with_reducible apply rd_and | with_reducible apply rd_or
  | with_reducible apply rd_andV | with_reducible apply rd_orV | with_reducible apply rd_notV | with_reducible apply rd_chain | with_reducible apply rd_nil | with_reducible apply rd_cons | with_reducible apply rd_CB | with_reducible apply rd_call | with_reducible apply rd_for
  | with_reducible apply rd_next | with_reducible apply rd_brk | with_reducible apply rd_cont | with_reducible apply rd_tup | with_reducible apply rd_lst | with_reducible apply rd_sub | with_reducible apply rd_BM | with_reducible apply rd_BM0
  | with_reducible apply rd_yes | with_reducible apply rd_nope | with_reducible apply rd_yes2 | with_reducible apply rd_nope2 | with_reducible apply rd_gCons | with_reducible apply rd_gNil | with_reducible apply rd_iTup | with_reducible apply rd_iList | with_reducible apply rd_iRng1 | with_reducible apply rd_iRng2
  | with_reducible apply rd_lc | with_reducible apply rd_augS | ((with_reducible refine' rd_aug ?e ?h); (case e => exact rfl)) | with_reducible apply rd_ip
  | with_reducible apply rd_din | with_reducible apply rd_dnotin | with_reducible apply rd_dget | with_reducible apply rd_dget1 | with_reducible apply rd_dget2 | with_reducible apply rd_dput | with_reducible apply rd_disp1T | with_reducible apply rd_dnewK | with_reducible apply rd_dnewT | with_reducible apply rd_iItems | with_reducible apply rd_iItemsT | with_reducible apply rd_iVals | with_reducible apply rd_sl | with_reducible apply rd_noPart | with_reducible apply rd_part | with_reducible apply rd_int | with_reducible apply rd_inN | with_reducible apply rd_inS | with_reducible apply rd_isN0 | with_reducible apply rd_isS0
  | with_reducible apply rd_max2 | with_reducible apply rd_min2 | with_reducible apply rd_max3 | with_reducible apply rd_intI | with_reducible apply rd_intB | with_reducible apply rd_abs)
local macro_rules | `(tactic| walk_at "rds") => `(tactic| repeat walk_at "rd")
local macro_rules | `(tactic| walk_at "sz") => `(tactic| exact Nat.le_trans (show _ ≤ 1000 by simp) (by decide))
local macro_rules | `(tactic| walk_at "hp") => `(tactic| first
  | with_reducible assumption | with_reducible exact upd_same
  | ((with_reducible refine' hp_ne ?n ?h); (case n => walk_at "ne"); (case h => walk_at "hp"))
  | ((with_reducible refine' Ex.get ?e ?h); (case e => with_reducible assumption); (case h => walk_at "hp"))
  | ((with_reducible refine' Eb.get ?e ?n ?h); (case e => with_reducible assumption); (case n => walk_at "ne"); (case h => walk_at "hp")))
local macro_rules | `(tactic| walk_at "ne") => `(tactic| first
  | with_reducible assumption | (apply Ne.symm; with_reducible assumption)
  | ((with_reducible refine' ne_non ?h ?n); (case n => with_reducible assumption); (case h => walk_at "hp"))
  | (apply Ne.symm; with_reducible refine' ne_non ?h ?n; (case n => with_reducible assumption); (case h => walk_at "hp")))
local macro_rules | `(tactic| walk_at "ti") => `(tactic| first
  | with_reducible assumption | with_reducible exact Ti.refl | (with_reducible exact Ex.ti (by with_reducible assumption))
  | ((with_reducible refine' Ti.trans ?a (Ti.new ?b)); (case b => with_reducible assumption); (case a => walk_at "ti"))
  | ((with_reducible refine' Ti.trans ?a (Ti.lst ?b)); (case b => walk_at "hp"); (case a => walk_at "ti"))
  | ((with_reducible refine' Ti.trans ?a (Ti.dK ?b)); (case b => walk_at "hp"); (case a => walk_at "ti"))
  | ((with_reducible refine' Ti.trans ?a (Ti.dT ?b)); (case b => walk_at "hp"); (case a => walk_at "ti"))
  | ((with_reducible refine' Ti.trans ?a ?b); (case b => with_reducible assumption); (case a => walk_at "ti"))
  | ((with_reducible refine' Ti.trans ?a (Ex.ti ?b)); (case b => with_reducible assumption); (case a => walk_at "ti")))
local macro_rules | `(tactic| walk_at "ex") => `(tactic| first
  | with_reducible assumption | with_reducible exact Ex.refl
  | ((with_reducible refine' Ex.mut ?a ?b); (case b => with_reducible assumption); (case a => walk_at "ex"))
  | ((with_reducible refine' Ex.trans ?a (Ex.new ?b)); (case b => with_reducible assumption); (case a => walk_at "ex"))
  | ((with_reducible refine' Ex.trans ?a ?b); (case b => with_reducible assumption); (case a => walk_at "ex")))
local macro_rules | `(tactic| walk_at "rp") => `(tactic| first
  | with_reducible assumption
  | ((with_reducible refine' Rep.mono (Ex.ti ?e) ?h); (case e => with_reducible assumption); (case h => with_reducible assumption))
  | ((with_reducible refine' Rep.mono ?t ?h); (case t => with_reducible assumption); (case h => with_reducible assumption))
  | ((with_reducible refine' Rep.mono ?t ?h); (case h => with_reducible assumption); (case t => walk_at "ti"))
  | ((with_reducible refine' Reps.mono (Ex.ti ?e) ?h); (case e => with_reducible assumption); (case h => with_reducible assumption))
  | ((with_reducible refine' Reps.mono ?t ?h); (case h => with_reducible assumption); (case t => walk_at "ti")))
theorem DOk.upd' {d c p : Addr} {o : HO} {ns : List Int} {H H0 : Hp} (h : DOk d c ns H) (h0 : DOk d c ns H0) (n : H0 p = none) : DOk d c ns (L2.upd H p o) := h.upd (h0.nd n).1 (h0.nd n).2
section
variable {P : Program} {w : World} {K : PySem.W.Frag} {mg : Str → Option Value} {base : Heap}
def spGrid : Sp := fun vs H Q _ => ∃ (d c : Addr) (ns : List Int) (n m : Nat) (way : Int), vs = [.ref d, .int (n : Int), .int (m : Int), .int way] ∧ DOk d c ns H ∧ n ≤ 100 ∧ m ≤ 100 ∧
  ∀ u H' t, Eb d H H' → DOk d c ns H' → rep H' u t → TabOk t n m → Q u H'
abbrev s_law_grid : Stmt := topS 21
theorem sc_law_grid : FnScope ["d", "rows", "columns", "way", "made", "row", "shift", "fall", "line", "spot", "column"] ["d", "rows", "columns", "way"] (C8.fnScope s_law_grid) := C8.fnScope_by (by decide +kernel)
theorem ok_grid (F : Df K mg "_law_grid" s_law_grid ["d", "rows", "columns", "way"]) (T : Bt mg) (c_law_draw : C8.Cal P w K mg base 1 "_law_draw" spDraw []) (c_law_pick : C8.Cal P w K mg base 2 "_law_pick" spPick []) : C8.Cal P w K mg base 3 "_law_grid" spGrid [] := by
  have sc := sc_law_grid
  refine F.cal sc (fun vs H Q E h => ?_) (fun f cdv A outer s H vs Q E hr h => ?_)
  · obtain ⟨d, c, ns, n, m, way, rfl, _⟩ := h; rfl
  obtain ⟨d, c, ns, n, m, way, rfl, D, hn, hm, k⟩ := h
  refine ⟨_, 
    (pss_cons (ps_setLc (i := 4) (own := [("row", 5)]) (by rfl) sc.nd rfl rfl (sw_true rfl rfl rfl (by decide +kernel)) (pi_range1 (by rfl) T.range (pa_cons (pv 1) pa_nil)) (blkOk_by (N := ["d", "rows", "columns", "way", "made", "row", "shift", "fall", "line", "spot", "column"]) (sc := C8.fnScope s_law_grid) (own := [("row", 5)]) (by decide +kernel)) (fun _ _ _ _ _ => (pg_name (i := 5) sc.nd rfl (by first | exact Or.inl rfl | exact Or.inr rfl))) (fun _ _ _ _ _ => pts_nil) (fun _ _ _ _ _ => (pe_op op_rep (pe_lst (pa_cons pe_int pa_nil)) (pv 2))))
    (pss_cons (ps_set (i := 6) sc.nd rfl (by first | exact Or.inl rfl | exact Or.inr rfl) (C8.pe_c c_law_draw hr (by decide) (by rfl) (pa_cons (pv 0) (pa_cons (pv 2) pa_nil))))
    (pss_cons (ps_set (i := 7) sc.nd rfl (by first | exact Or.inl rfl | exact Or.inr rfl) (C8.pe_c c_law_draw hr (by decide) (by rfl) (pa_cons (pv 0) (pa_cons (pe_op op_add (pv 1) pe_int) pa_nil))))
    (pss_cons (ps_for PassesOwn.never rfl (pi_range1 (by rfl) T.range (pa_cons (pv 1) pa_nil)) (pg_name (i := 5) sc.nd rfl (by first | exact Or.inl rfl | exact Or.inr rfl))
    (pss_cons (ps_set (i := 8) sc.nd rfl (by first | exact Or.inl rfl | exact Or.inr rfl) (pe_ix (ixL K) (pv 4) (pv 5) (fun _ _ => rfl)))
    (pss_cons (ps_if (PW.pt (pw_and (pt_cmpR op_eq (pv 3) pe_int (nomark _)) (pw_and1 (pt_cmpR op_gt (pv 2) pe_int (nomark _)))))
    (pss_cons (ps_set (i := 9) sc.nd rfl (by first | exact Or.inl rfl | exact Or.inr rfl) (pe_op op_mod (pe_callTy cInt (by rfl) T.int (by decide +kernel) (pa_cons (pe_op op_add (pv 5) (pv 6)) pa_nil)) (pv 2)))
    (pss_one (ps_asg (pe_ifExp (pt_cmpR op_eq (pv 5) (pv 7) (nomark _)) pe_int pe_int) (pg_sub (pv 8) (pv 9) set_list))))
    pss_nil)
    (pss_one (ps_for PassesOwn.never rfl (pi_range1 (by rfl) T.range (pa_cons (pe_ifExp (pt_cmpR op_gt (pv 3) pe_int (nomark _)) (pv 2) pe_int) pa_nil)) (pg_name (i := 10) sc.nd rfl (by first | exact Or.inl rfl | exact Or.inr rfl))
    (pss_one (ps_asg (C8.pe_c c_law_pick hr (by decide) (by rfl) (pa_cons (pv 0) (pa_cons (pe_ifExp (pt_cmpR op_eq (pv 3) pe_int (nomark _)) (pe_lst (pa_cons pe_int (pa_cons pe_int (pa_cons pe_int (pa_cons pe_int pa_nil))))) (pe_lst (pa_cons pe_int (pa_cons pe_int (pa_cons pe_int (pa_cons pe_int pa_nil)))))) pa_nil))) (pg_sub (pv 8) (pv 10) set_list))))))))
    (pss_one (ps_ret (pe_callTy (cTup K) (by rfl) T.tuple (by decide +kernel) (pa_cons (pe_lc (own := [("line", 8)]) (by rfl) sc.nd (piL K (pv 4)) (blkOk_by (N := ["d", "rows", "columns", "way", "made", "row", "shift", "fall", "line", "spot", "column"]) (sc := C8.fnScope s_law_grid) (own := [("line", 8)]) (by decide +kernel)) (fun _ _ _ _ _ => (pg_name (i := 8) sc.nd rfl (by first | exact Or.inl rfl | exact Or.inr rfl))) (fun _ _ _ _ _ => pts_nil) (fun _ _ _ _ _ => (pe_callTy (cTup K) (by rfl) T.tuple (by decide +kernel) (pa_cons (pv 8) pa_nil)))) pa_nil)))))))), ?_⟩
  show tSeq _ _ _ [some (.ref d), some (.int n), some (.int m), some (.int way), none, none, none, none, none, none, none] H
  obtain ⟨dys, hdd⟩ := D.at
  walk_at "rds"
  refine lcGr (m := m) (by omega) (fun _ => rfl) (fun i H1 hi e Q' q => ?_) fun pm ps H1 e1 g => ?_
  · walk_at "rds"
    refine ⟨by show 1 ≤ sizeLine; decide, fun pz npz => ?_⟩
    walk_at "rds"
    refine rd_rep1 upd_same (by omega) (by omega) fun pl npl => ?_
    refine q _ _ (none_of_upd npl) ((Ex.new npz).trans (Ex.new npl)) ⟨List.replicate m 0, ?_, by simp, fun x hx => ?_⟩
    · rw [upd_same, Int.toNat_natCast, List.map_replicate]
    · rw [List.eq_of_mem_replicate hx]; decide
  · walk_at "rds"
    refine ⟨d, c, ns, m, rfl, D.ex e1, by omega, fun sh H2 s0 s1 e2 D2 => ?_⟩
    walk_at "rds"
    refine ⟨d, c, ns, _, rfl, D2, by omega, fun fa H3 f0 f1 e3 D3 => ?_⟩
    walk_at "rds"
    have e13 : Eb d H H3 := (e1.eb.trans e2).trans e3
    have g3 := (g.eb hdd e2).eb hdd e3
    refine r_range1 (by omega) (by omega) (fun i σ' H' => ∃ (j5 j8 j9 j10 : Option V), σ' = [some (.ref d), some (.int n), some (.int m), some (.int way), some (.ref pm), j5, some (.int sh), some (.int fa), j8, j9, j10] ∧ Eb d H H' ∧ DOk d c ns H' ∧ Gr H pm ps n m H') ?_ ?_ ?_
    · exact ⟨_, _, _, _, rfl, e13, D3, g3⟩
    · rintro i σ' H4 hi ⟨j5, j8, j9, j10, rfl, e4, D4, g4⟩
      have hin : i < n := by omega
      obtain ⟨p, hp, hpe⟩ := g4.get hin
      walk_at "rds"
      refine rd_ixL g4.hm i rfl hpe ?_
      refine rd_name ?_
      refine rd_seqJ (fun σ' H' => ∃ (j9 : Option V), σ' = [some (.ref d), some (.int n), some (.int m), some (.int way), some (.ref pm), some (.int i), some (.int sh), some (.int fa), some (.ref p), j9, j10] ∧ Eb d H H' ∧ DOk d c ns H' ∧ Gr H pm ps n m H') ?_ ?_
      · rintro σ' H5 ⟨j9, rfl, e5, D5, g5⟩
        walk_at "rds"
        refine rd_ifV (fun v => ∃ z : Nat, v = .int z ∧ z ≤ m) (way > 0) (fun QB q => by walk_at "rds"; exact q) (fun _ Q' q => by walk_at "rds"; exact q _ ⟨m, rfl, Nat.le_refl _⟩) (fun _ Q' q => by walk_at "rds"; exact q _ ⟨0, rfl, Nat.zero_le _⟩) ?_
        rintro _ ⟨z, rfl, hz⟩
        walk_at "rds"
        refine r_range1 (by omega) (by omega) (fun q σ' H' => ∃ (j9 j10 : Option V), σ' = [some (.ref d), some (.int n), some (.int m), some (.int way), some (.ref pm), some (.int i), some (.int sh), some (.int fa), some (.ref p), j9, j10] ∧ Eb d H H' ∧ DOk d c ns H' ∧ Gr H pm ps n m H') ?_ ?_ ?_
        · exact ⟨_, _, rfl, e5, D5, g5⟩
        · rintro q σ' H6 hq ⟨j9, j10, rfl, e6, D6, g6⟩
          have fin : ∀ (a : Addr) (ys : List Int) H7, (∀ y ∈ ys, 0 ≤ y ∧ y ≤ 2) → ys.length = 4 → H6 a = none → Ex H6 H7 → H7 a = some (.lst (ys.map V.int)) → spPick ([.ref d, .ref a] ++ []) H7 (fun x H' => gSub (tVar 8) (tVar 10) rSetL x [some (.ref d), some (.int n), some (.int m), some (.int way), some (.ref pm), some (.int i), some (.int sh), some (.int fa), some (.ref p), j9, some (.int q)] H'
              (fun σ' H' => ∃ (j9 j10 : Option V), σ' = [some (.ref d), some (.int n), some (.int m), some (.int way), some (.ref pm), some (.int i), some (.int sh), some (.int fa), some (.ref p), j9, j10] ∧ Eb d H H' ∧ DOk d c ns H' ∧ Gr H pm ps n m H')) C8.E0 := fun a ys H7 hys hyl na e7 ha => by
            obtain ⟨dy6, hd6⟩ := D6.at
            refine ⟨d, c, ns, a, _, rfl, D6.ex e7, ha, (ne_of_none hd6 na).symm, by rw [List.length_map, hyl]; decide, by rw [List.length_map, hyl]; decide, fun x H8 hx e8 D8 => ?_⟩
            obtain ⟨xz, hxz, rfl⟩ := List.mem_map.mp hx
            obtain ⟨dy7, hd7⟩ := (D6.ex e7).at
            have g8 := (g6.ex e7).eb hdd e8
            obtain ⟨l, hl1, hl2, hl3⟩ := g8.rows p hp
            walk_at "rds"
            refine rd_setL hl1 q rfl (by rw [List.length_map, hl2]; omega) ?_
            exact ⟨_, _, rfl, ((e6.ofEx e7).trans e8).mut (g4.ps0 p hp), D8.upd' D (g4.ps0 p hp), g8.set hp hl1 hl2 hl3 (hys xz hxz)⟩
          walk_at "rds"
          refine rd_ifE ?_
          walk_at "rds"
          refine rd_dec (fun _ => ?_) (fun _ => ?_)
          · walk_at "rds"
            refine ⟨by show 4 ≤ sizeLine; decide, fun a na => ?_⟩
            walk_at "rds"
            exact fin a [1, 0, 0, 2] _ (by decide) rfl na (Ex.new na) upd_same
          · walk_at "rds"
            refine ⟨by show 4 ≤ sizeLine; decide, fun a na => ?_⟩
            walk_at "rds"
            exact fin a [2, 1, 0, 1] _ (by decide) rfl na (Ex.new na) upd_same
        · rintro σ' H6 ⟨j9, j10, rfl, e6, D6, g6⟩
          exact ⟨_, _, _, _, rfl, e6, D6, g6⟩
      · intro nx' hnx
        walk_at "rds"
        refine rd_dec (fun _ => ?_) (fun _ => ?_)
        · walk_at "rds"
          refine rd_dec (fun hm0 => ?_) (fun _ => ?_)
          · walk_at "rds"
            refine rd_I (by omega) ?_
            walk_at "rds"
            have hs0 := Int.emod_nonneg ((i : Int) + sh) (show (m : Int) ≠ 0 by omega)
            have hs1 := Int.emod_lt_of_pos ((i : Int) + sh) (show 0 < (m : Int) by omega)
            obtain ⟨l, hl1, hl2, hl3⟩ := g4.rows p hp
            refine rd_ifV (fun v => ∃ z : Int, v = .int z ∧ 0 ≤ z ∧ z ≤ 2) ((i : Int) = fa) (fun QB q => by walk_at "rds"; exact q) (fun _ Q' q => by walk_at "rds"; exact q _ ⟨2, rfl, by decide⟩) (fun _ Q' q => by walk_at "rds"; exact q _ ⟨1, rfl, by decide⟩) ?_
            rintro _ ⟨z, rfl, hz⟩
            walk_at "rds"
            refine rd_setL hl1 (((i : Int) + sh) % m).toNat (by omega) (by rw [List.length_map, hl2]; omega) ?_
            exact hnx _ _ ⟨_, rfl, e4.mut (g4.ps0 p hp), D4.upd' D (g4.ps0 p hp), g4.set hp hl1 hl2 hl3 hz⟩
          · walk_at "rds"
            exact hnx _ _ ⟨_, rfl, e4, D4, g4⟩
        · walk_at "rds"
          exact hnx _ _ ⟨_, rfl, e4, D4, g4⟩
    · rintro σ' H4 ⟨j5, j8, j9, j10, rfl, e4, D4, g4⟩
      walk_at "rds"
      refine lcGrT g4 (by omega) (fun _ => rfl) (fun p l H5 hp Q' q => ?_) fun Dl ys M H5 nD e5 hD rs hM1 hM2 hM3 => ?_
      · walk_at "rds"
        exact rd_tupOf hp q
      · walk_at "rds"
        refine rd_tupOf hD fun pt npt => ?_
        exact k _ _ M (e4.ofEx (e5.trans (Ex.new npt))) (D4.ex (e5.trans (Ex.new npt))) (rep_new npt rs) ⟨hM1, hM2, hM3⟩
end
end Fw
namespace Fw
open PySem PySem.Spec PyProof.Rows L2
open Rep (rep)
local macro_rules | `(tactic| walk_at "rd") => `(tactic| first
  | with_reducible apply rd_seq | with_reducible apply rd_asg | with_reducible apply rd_name | with_reducible apply rd_ret | with_reducible apply rd_drop | with_reducible apply rd_if
  | ((with_reducible refine' rd_var ?e ?h); (case e => exact rfl)) | with_reducible apply rd_c | with_reducible apply rd_op | with_reducible apply rd_un | with_reducible apply rd_I0 | with_reducible apply rd_U
  | with_reducible apply rd_eqI | with_reducible apply rd_neI | with_reducible apply rd_eqB | with_reducible apply rd_eqS | with_reducible apply rd_neS | with_reducible apply rd_tB | with_reducible apply rd_test | with_reducible apply rd_bl | with_reducible apply rd_not | with_reducible apply rd_and | with_reducible apply rd_or
  | with_reducible apply rd_andV | with_reducible apply rd_orV | with_reducible apply rd_notV | with_reducible apply rd_chain | with_reducible apply rd_nil | with_reducible apply rd_cons | with_reducible apply rd_CB | with_reducible apply rd_call | with_reducible apply rd_for
  | with_reducible apply rd_next | with_reducible apply rd_brk | with_reducible apply rd_cont | with_reducible apply rd_tup | with_reducible apply rd_lst | with_reducible apply rd_sub | with_reducible apply rd_BM | with_reducible apply rd_BM0
  | with_reducible apply rd_yes | with_reducible apply rd_nope | with_reducible apply rd_yes2 | with_reducible apply rd_nope2 | with_reducible apply rd_gCons | with_reducible apply rd_gNil | with_reducible apply rd_iTup | with_reducible apply rd_iList | with_reducible apply rd_iRng1 | with_reducible apply rd_iRng2
  | with_reducible apply rd_lc | with_reducible apply rd_augS | ((with_reducible refine' rd_aug ?e ?h); (case e => exact rfl)) | with_reducible apply rd_ip
  | with_reducible apply rd_din | with_reducible apply rd_dnotin | with_reducible apply rd_dget | with_reducible apply rd_dget1 | with_reducible apply rd_dget2 | with_reducible apply rd_dput | with_reducible apply rd_disp1T | with_reducible apply rd_dnewK | with_reducible apply rd_dnewT | with_reducible apply rd_iItems | with_reducible apply rd_iItemsT | with_reducible apply rd_iVals | with_reducible apply rd_sl | with_reducible apply rd_noPart | with_reducible apply rd_part | with_reducible apply rd_int | with_reducible apply rd_inN | with_reducible apply rd_inS | with_reducible apply rd_isN0 | with_reducible apply rd_isS0
  | with_reducible apply rd_max2 | with_reducible apply rd_min2 | with_reducible apply rd_max3 | with_reducible apply rd_intI | with_reducible apply rd_intB | with_reducible apply rd_abs)
local macro_rules | `(tactic| walk_at "rds") => `(tactic| repeat walk_at "rd")
local macro_rules | `(tactic| walk_at "sz") => `(tactic| exact Nat.le_trans (show _ ≤ 1000 by simp) (by decide))
local macro_rules | `(tactic| walk_at "hp") => `(tactic| first
  | with_reducible assumption | with_reducible exact upd_same
  | ((with_reducible refine' hp_ne ?n ?h); (case n => walk_at "ne"); (case h => walk_at "hp"))
  | ((with_reducible refine' Ex.get ?e ?h); (case e => with_reducible assumption); (case h => walk_at "hp"))
  | ((with_reducible refine' Eb.get ?e ?n ?h); (case e => with_reducible assumption); (case n => walk_at "ne"); (case h => walk_at "hp")))
local macro_rules | `(tactic| walk_at "ne") => `(tactic| first
  | with_reducible assumption | (apply Ne.symm; with_reducible assumption)
  | ((with_reducible refine' ne_non ?h ?n); (case n => with_reducible assumption); (case h => walk_at "hp"))
  | (apply Ne.symm; with_reducible refine' ne_non ?h ?n; (case n => with_reducible assumption); (case h => walk_at "hp")))
local macro_rules | `(tactic| walk_at "ti") => `(tactic| first
  | with_reducible assumption | with_reducible exact Ti.refl | (with_reducible exact Ex.ti (by with_reducible assumption))
  | ((with_reducible refine' Ti.trans ?a (Ti.new ?b)); (case b => with_reducible assumption); (case a => walk_at "ti"))
  | ((with_reducible refine' Ti.trans ?a (Ti.lst ?b)); (case b => walk_at "hp"); (case a => walk_at "ti"))
  | ((with_reducible refine' Ti.trans ?a (Ti.dK ?b)); (case b => walk_at "hp"); (case a => walk_at "ti"))
  | ((with_reducible refine' Ti.trans ?a (Ti.dT ?b)); (case b => walk_at "hp"); (case a => walk_at "ti"))
  | ((with_reducible refine' Ti.trans ?a ?b); (case b => with_reducible assumption); (case a => walk_at "ti"))
  | ((with_reducible refine' Ti.trans ?a (Ex.ti ?b)); (case b => with_reducible assumption); (case a => walk_at "ti")))
local macro_rules | `(tactic| walk_at "ex") => `(tactic| first
  | with_reducible assumption | with_reducible exact Ex.refl
  | ((with_reducible refine' Ex.mut ?a ?b); (case b => with_reducible assumption); (case a => walk_at "ex"))
  | ((with_reducible refine' Ex.trans ?a (Ex.new ?b)); (case b => with_reducible assumption); (case a => walk_at "ex"))
  | ((with_reducible refine' Ex.trans ?a ?b); (case b => with_reducible assumption); (case a => walk_at "ex")))
local macro_rules | `(tactic| walk_at "rp") => `(tactic| first
  | with_reducible assumption
  | ((with_reducible refine' Rep.mono (Ex.ti ?e) ?h); (case e => with_reducible assumption); (case h => with_reducible assumption))
  | ((with_reducible refine' Rep.mono ?t ?h); (case t => with_reducible assumption); (case h => with_reducible assumption))
  | ((with_reducible refine' Rep.mono ?t ?h); (case h => with_reducible assumption); (case t => walk_at "ti"))
  | ((with_reducible refine' Reps.mono (Ex.ti ?e) ?h); (case e => with_reducible assumption); (case h => with_reducible assumption))
  | ((with_reducible refine' Reps.mono ?t ?h); (case h => with_reducible assumption); (case t => walk_at "ti")))
/-- numbers below n -/
def NumsIn (n : Nat) (ys : List V) : Prop := ∀ y ∈ ys, ∃ z : Nat, z < n ∧ y = .int (z : Int)
section
variable {P : Program} {w : World} {K : PySem.W.Frag} {mg : Str → Option Value} {base : Heap}
def spPlanted : Sp := fun vs H Q _ => ∃ (d c : Addr) (ns : List Int), vs = [.ref d] ∧ DOk d c ns H ∧
  ∀ u H' t, Eb d H H' → DOk d c ns H' → rep H' u t → TabOk t t.length t.length → t.length ≤ 100 → Q u H'
abbrev s_law_planted : Stmt := topS 28
theorem sc_law_planted : FnScope ["d", "places", "made", "row", "order", "ring", "k", "line", "turn", "spot", "column"] ["d"] (C8.fnScope s_law_planted) := C8.fnScope_by (by decide +kernel)
theorem ok_planted (F : Df K mg "_law_planted" s_law_planted ["d"]) (T : Bt mg) (c_law_draw : C8.Cal P w K mg base 1 "_law_draw" spDraw []) (c_law_pick : C8.Cal P w K mg base 2 "_law_pick" spPick []) (c_law_rare : C8.Cal P w K mg base 2 "_law_rare" spRare []) (c_law_shuffled : C8.Cal P w K mg base 2 "_law_shuffled" spShuf []) : C8.Cal P w K mg base 3 "_law_planted" spPlanted [] := by
  have sc := sc_law_planted
  refine F.cal sc (fun vs H Q E h => ?_) (fun f cdv A outer s H vs Q E hr h => ?_)
  · obtain ⟨d, c, ns, rfl, _⟩ := h; rfl
  obtain ⟨d, c, ns, rfl, D, k⟩ := h
  refine ⟨_, 
    (pss_cons (ps_set (i := 1) sc.nd rfl (by first | exact Or.inl rfl | exact Or.inr rfl) (C8.pe_c c_law_draw hr (by decide) (by rfl) (pa_cons (pv 0) (pa_cons pe_int pa_nil))))
    (pss_cons (ps_set (i := 2) sc.nd rfl (by first | exact Or.inl rfl | exact Or.inr rfl) (pe_lc (own := [("row", 3)]) (by rfl) sc.nd (pi_range1 (by rfl) T.range (pa_cons (pv 1) pa_nil)) (blkOk_by (N := ["d", "places", "made", "row", "order", "ring", "k", "line", "turn", "spot", "column"]) (sc := C8.fnScope s_law_planted) (own := [("row", 3)]) (by decide +kernel)) (fun _ _ _ _ _ => (pg_name (i := 3) sc.nd rfl (by first | exact Or.inl rfl | exact Or.inr rfl))) (fun _ _ _ _ _ => pts_nil) (fun _ _ _ _ _ => (pe_op op_rep (pe_lst (pa_cons pe_int pa_nil)) (pv 1)))))
    (pss_cons (ps_set (i := 4) sc.nd rfl (by first | exact Or.inl rfl | exact Or.inr rfl) (C8.pe_c c_law_shuffled hr (by decide) (by rfl) (pa_cons (pv 0) (pa_cons (pe_listRg rfl (by rfl) T.list (prg_1 (by rfl) T.range (pv 1))) pa_nil))))
    (pss_cons (ps_set (i := 5) sc.nd rfl (by first | exact Or.inl rfl | exact Or.inr rfl) (pe_slice (slL K) (pv 4) po_none (po_some (pe_op op_add pe_int (C8.pe_c c_law_draw hr (by decide) (by rfl) (pa_cons (pv 0) (pa_cons (pv 1) pa_nil)))))))
    (pss_cons (ps_for PassesOwn.never rfl (pi_range1 (by rfl) T.range (pa_cons (pe_callB (cLen K) (by rfl) T.len (by decide +kernel) (pa_cons (pv 5) pa_nil)) pa_nil)) (pg_name (i := 6) sc.nd rfl (by first | exact Or.inl rfl | exact Or.inr rfl))
    (pss_cons (ps_set (i := 7) sc.nd rfl (by first | exact Or.inl rfl | exact Or.inr rfl) (pe_ix (ixL K) (pv 2) (pe_ix (ixL K) (pv 5) (pe_op op_sub (pv 6) pe_int) (fun _ _ => rfl)) (fun _ _ => rfl)))
    (pss_one (ps_asg pe_int (pg_sub (pv 7) (pe_ix (ixL K) (pv 5) (pv 6) (fun _ _ => rfl)) set_list)))))
    (pss_cons (ps_if (PW.pt (pw_and (pt_cmpR op_gt (pe_callB (cLen K) (by rfl) T.len (by decide +kernel) (pa_cons (pv 5) pa_nil)) pe_int (nomark _)) (pw_and1 (pt_cmpR op_gt (C8.pe_c c_law_draw hr (by decide) (by rfl) (pa_cons (pv 0) (pa_cons pe_int pa_nil))) pe_int (nomark _)))))
    (pss_cons (ps_set (i := 6) sc.nd rfl (by first | exact Or.inl rfl | exact Or.inr rfl) (C8.pe_c c_law_draw hr (by decide) (by rfl) (pa_cons (pv 0) (pa_cons (pe_callB (cLen K) (by rfl) T.len (by decide +kernel) (pa_cons (pv 5) pa_nil)) pa_nil))))
    (pss_cons (ps_set (i := 7) sc.nd rfl (by first | exact Or.inl rfl | exact Or.inr rfl) (pe_ix (ixL K) (pv 2) (pe_ix (ixL K) (pv 5) (pe_op op_sub (pv 6) pe_int) (fun _ _ => rfl)) (fun _ _ => rfl)))
    (pss_one (ps_asg pe_int (pg_sub (pv 7) (pe_ix (ixL K) (pv 5) (pv 6) (fun _ _ => rfl)) set_list)))))
    pss_nil)
    (pss_cons (ps_for PassesOwn.never rfl (pi_range1 (by rfl) T.range (pa_cons (pe_ifExp (pt_cmpR op_gt (pv 1) pe_int (nomark _)) (C8.pe_c c_law_draw hr (by decide) (by rfl) (pa_cons (pv 0) (pa_cons pe_int pa_nil))) pe_int) pa_nil)) (pg_name (i := 8) sc.nd rfl (by first | exact Or.inl rfl | exact Or.inr rfl))
    (pss_cons (ps_set (i := 7) sc.nd rfl (by first | exact Or.inl rfl | exact Or.inr rfl) (pe_ix (ixL K) (pv 2) (C8.pe_c c_law_draw hr (by decide) (by rfl) (pa_cons (pv 0) (pa_cons (pv 1) pa_nil))) (fun _ _ => rfl)))
    (pss_cons (ps_set (i := 9) sc.nd rfl (by first | exact Or.inl rfl | exact Or.inr rfl) (C8.pe_c c_law_draw hr (by decide) (by rfl) (pa_cons (pv 0) (pa_cons (pv 1) pa_nil))))
    (pss_one (ps_asg (C8.pe_c c_law_pick hr (by decide) (by rfl) (pa_cons (pv 0) (pa_cons (pe_lst (pa_cons pe_int (pa_cons pe_int (pa_cons pe_int (pa_cons pe_int pa_nil))))) pa_nil))) (pg_sub (pv 7) (pv 9) set_list))))))
    (pss_cons (ps_if (pt_val (C8.pe_c c_law_rare hr (by decide) (by rfl) (pa_cons (pv 0) (pa_cons pe_int pa_nil))))
    (pss_one (ps_set (i := 2) sc.nd rfl (by first | exact Or.inl rfl | exact Or.inr rfl) (pe_lc (own := [("row", 3)]) (by rfl) sc.nd (pi_range1 (by rfl) T.range (pa_cons (pv 1) pa_nil)) (blkOk_by (N := ["d", "places", "made", "row", "order", "ring", "k", "line", "turn", "spot", "column"]) (sc := C8.fnScope s_law_planted) (own := [("row", 3)]) (by decide +kernel)) (fun _ _ _ _ _ => (pg_name (i := 3) sc.nd rfl (by first | exact Or.inl rfl | exact Or.inr rfl))) (fun _ _ _ _ _ => pts_nil) (fun _ _ _ _ _ => (pe_lc (own := [("column", 10)]) (by rfl) sc.nd (pi_range1 (by rfl) T.range (pa_cons (pv 1) pa_nil)) (blkOk_by (N := ["d", "places", "made", "row", "order", "ring", "k", "line", "turn", "spot", "column"]) (sc := relS _ (C8.fnScope s_law_planted)) (own := [("column", 10)]) (by decide +kernel)) (fun _ _ _ _ _ => (pg_name (i := 10) sc.nd rfl (by first | exact Or.inl rfl | exact Or.inr rfl))) (fun _ _ _ _ _ => pts_nil) (fun _ _ _ _ _ => (pe_op op_mul (pe_ix (ixL K) (pe_ix (ixL K) (pv 2) (pv 3) (fun _ _ => rfl)) (pv 10) (fun _ _ => rfl)) (pe_callTy cInt (by rfl) T.int (by decide +kernel) (pa_cons (pe_cmpR op_lt (pv 3) (pv 10) (nomark _)) pa_nil)))))))))
    pss_nil)
    (pss_one (ps_ret (pe_callTy (cTup K) (by rfl) T.tuple (by decide +kernel) (pa_cons (pe_lc (own := [("line", 7)]) (by rfl) sc.nd (piL K (pv 2)) (blkOk_by (N := ["d", "places", "made", "row", "order", "ring", "k", "line", "turn", "spot", "column"]) (sc := C8.fnScope s_law_planted) (own := [("line", 7)]) (by decide +kernel)) (fun _ _ _ _ _ => (pg_name (i := 7) sc.nd rfl (by first | exact Or.inl rfl | exact Or.inr rfl))) (fun _ _ _ _ _ => pts_nil) (fun _ _ _ _ _ => (pe_callTy (cTup K) (by rfl) T.tuple (by decide +kernel) (pa_cons (pv 7) pa_nil)))) pa_nil)))))))))))), ?_⟩
  show tSeq _ _ _ [some (.ref d), none, none, none, none, none, none, none, none, none, none] H
  obtain ⟨dys, hdd⟩ := D.at
  walk_at "rds"
  refine ⟨d, c, ns, _, rfl, D, by decide, fun r H1 r0 r1 e1 D1 => ?_⟩
  obtain ⟨n, rfl⟩ := Int.eq_ofNat_of_zero_le r0
  have hn : n < 9 := by have : ((n : Nat) : Int) < max 9 1 := r1; omega
  walk_at "rds"
  obtain ⟨dy1, hd1⟩ := D1.at
  refine lcGr (m := n) (by omega) (fun _ => rfl) (fun i H2 hi e Q' q => ?_) fun pm ps H2 e2 g => ?_
  · walk_at "rds"
    refine ⟨by show 1 ≤ sizeLine; decide, fun pz npz => ?_⟩
    walk_at "rds"
    refine rd_rep1 upd_same (by omega) (by omega) fun pl npl => ?_
    refine q _ _ (none_of_upd npl) ((Ex.new npz).trans (Ex.new npl)) ⟨List.replicate n 0, ?_, by simp, fun x hx => ?_⟩
    · rw [upd_same, Int.toNat_natCast, List.map_replicate]
    · rw [List.eq_of_mem_replicate hx]; decide
  · have fr1 : ∀ p, H1 p = none → H p = none := fun p hp => e1.free hp (ne_of_none hd1 hp).symm
    have g2 := g.back fr1
    have e12 := e1.ofEx e2
    have D2 := D1.ex e2
    clear g e2
    walk_at "rds"
    -- order
    refine rd_lstRg (rd_rg1 ?_)
    walk_at "rds"
    refine ⟨⟨by decide, by decide, by omega, by omega, by omega⟩, fun po npo => ?_⟩
    walk_at "rds"
    have e13 := e12.ofEx (Ex.new (o := .lst (rgV 0 n)) npo)
    have g3 := g2.ex (Ex.new (o := .lst (rgV 0 n)) npo)
    have D3 := D2.ex (Ex.new (o := .lst (rgV 0 n)) npo)
    have ho3 : upd H2 po (.lst (rgV 0 n)) po = some (.lst (rgV 0 n)) := upd_same
    have hrl : (rgV 0 n).length = n := by unfold rgV; simp
    have hrg : NumsIn n (rgV 0 n) := fun y hy => by
      unfold rgV at hy
      obtain ⟨z, hz, rfl⟩ := List.mem_map.mp hy
      have := List.mem_range.mp hz
      exact ⟨z, by omega, by rw [Int.zero_add]⟩
    generalize upd H2 po (.lst (rgV 0 n)) = H3 at e13 g3 D3 ho3 ⊢
    refine ⟨d, c, ns, po, _, rfl, D3, ho3, by rw [hrl]; omega, fun pz zs H4 hperm npz e4 D4 hz4 => ?_⟩
    have hzs : NumsIn n zs := fun y hy => hrg y (hperm.mem_iff.mp hy)
    have hzl : zs.length = n := by rw [hperm.length_eq, hrl]
    obtain ⟨dy3, hd3⟩ := D3.at
    have g4 := g3.eb hdd e4
    have e14 := e13.trans e4
    have nzp : ∀ p ∈ ps, pz ≠ p := fun p hp => (ne_of_none (g3.rows p hp).choose_spec.1 npz).symm
    walk_at "rds"
    -- ring
    refine ⟨d, c, ns, _, rfl, D4, by omega, fun r H5 r0 r1 e5 D5 => ?_⟩
    walk_at "rds"
    obtain ⟨dy4, hd4⟩ := D4.at
    have nzd : pz ≠ d := (ne_of_none hd3 npz).symm
    have hz5 := e5 _ _ nzd hz4
    refine ⟨pz, zs, rfl, SqL.of hz5, fun pr npr => ?_⟩
    generalize hrv : cutV zs none (some (1 + r)) = rv
    have hrv1 : NumsIn n rv := fun y hy => hzs y (cutV_mem (by rw [hrv]; exact hy))
    have hrv2 : rv.length ≤ n := by rw [← hrv, ← hzl]; exact cutV_len
    have hz6 : upd H5 pr (.lst rv) pr = some (.lst rv) := upd_same
    have e16 := (e14.trans e5).ofEx (Ex.new (o := .lst rv) npr)
    have g6 := (g4.eb hdd e5).ex (Ex.new (o := .lst rv) npr)
    have D6 := D5.ex (Ex.new (o := .lst rv) npr)
    have g5 := g4.eb hdd e5
    have nrp : ∀ p ∈ ps, pr ≠ p := fun p hp => (ne_of_none (g5.rows p hp).choose_spec.1 npr).symm
    have nrm : pr ≠ pm := (ne_of_none g5.hm npr).symm
    obtain ⟨dy5, hd5⟩ := D5.at
    have nrd : pr ≠ d := (ne_of_none hd5 npr).symm
    have ok6 : Eb d H (upd H5 pr (.lst rv)) ∧ DOk d c ns (upd H5 pr (.lst rv)) ∧ Gr H pm ps n n (upd H5 pr (.lst rv)) ∧ upd H5 pr (.lst rv) pr = some (.lst rv) := ⟨e16, D6, g6, hz6⟩
    have draws : ∀ H' H2, (Eb d H H' ∧ DOk d c ns H' ∧ Gr H pm ps n n H' ∧ H' pr = some (.lst rv)) → Eb d H' H2 → DOk d c ns H2 → (Eb d H H2 ∧ DOk d c ns H2 ∧ Gr H pm ps n n H2 ∧ H2 pr = some (.lst rv)) := fun H' H2 ⟨a1, a2, a3, a4⟩ e D => ⟨a1.trans e, D, a3.eb hdd e, e _ _ nrd a4⟩
    have put : ∀ H', (Eb d H H' ∧ DOk d c ns H' ∧ Gr H pm ps n n H' ∧ H' pr = some (.lst rv)) → ∀ p ∈ ps, ∀ j, j < n → ∀ v : Int, 0 ≤ v ∧ v ≤ 2 → ∀ QH : Hp → Prop, (∀ H2, (Eb d H H2 ∧ DOk d c ns H2 ∧ Gr H pm ps n n H2 ∧ H2 pr = some (.lst rv)) → QH H2) → rSetL (.ref p) (.int (j : Int)) (.int v) H' QH := fun H' ⟨a1, a2, a3, a4⟩ p hp j hj v hv QH q => by
      obtain ⟨l, hl1, hl2, hl3⟩ := a3.rows p hp
      refine rd_setL hl1 j rfl (by rw [List.length_map, hl2]; exact hj) (q _ ⟨a1.mut (g6.ps0 p hp), a2.upd' D (g6.ps0 p hp), a3.set hp hl1 hl2 hl3 hv, ?_⟩)
      rw [upd_ne (nrp p hp)]; exact a4
    generalize upd H5 pr (.lst rv) = H6 at ok6 ⊢
    clear hz6 e16 g6 D6 g5 hd5
    walk_at "rds"
    refine rd_lenL ok6.2.2.2 ?_
    walk_at "rds"
    refine r_range1 (by omega) (by omega) (fun i σ' H' => ∃ (j6 j7 : Option V), σ' = [some (.ref d), some (.int n), some (.ref pm), none, some (.ref pz), some (.ref pr), j6, j7, none, none, none] ∧ (Eb d H H' ∧ DOk d c ns H' ∧ Gr H pm ps n n H' ∧ H' pr = some (.lst rv))) ?_ ?_ ?_
    · exact ⟨_, _, rfl, ok6⟩
    · rintro i σ' H7 hi ⟨j6, j7, rfl, ok7⟩
      have hil : i < rv.length := by omega
      walk_at "rds"
      refine rd_prev ok7.2.2.2 hil fun y hy => ?_
      obtain ⟨z, hz, rfl⟩ := hrv1 y hy
      obtain ⟨p, hp, hpe⟩ := ok7.2.2.1.get hz
      refine rd_ixL ok7.2.2.1.hm z rfl hpe ?_
      walk_at "rds"
      refine rd_ixL ok7.2.2.2 i rfl (List.getElem?_eq_getElem hil) ?_
      obtain ⟨z2, hz2, ez2⟩ := hrv1 _ (List.getElem_mem hil)
      rw [ez2]
      exact put _ ok7 p hp z2 hz2 1 (by decide) _ fun H8 ok8 => ⟨_, _, rfl, ok8⟩
    · rintro σ' H7 ⟨j6, j7, rfl, ok7⟩
      refine rd_seqJ (fun σ' H' => ∃ (j6 j7 : Option V), σ' = [some (.ref d), some (.int n), some (.ref pm), none, some (.ref pz), some (.ref pr), j6, j7, none, none, none] ∧ (Eb d H H' ∧ DOk d c ns H' ∧ Gr H pm ps n n H' ∧ H' pr = some (.lst rv))) ?_ ?_
      · rintro σ' H8 ⟨j6, j7, rfl, ok8⟩
        walk_at "rds"
        refine rd_teJ (fun v H' => ∃ z : Int, v = .int z ∧ 0 ≤ z ∧ z < 100 ∧ (0 < z → 0 < n) ∧ (Eb d H H' ∧ DOk d c ns H' ∧ Gr H pm ps n n H' ∧ H' pr = some (.lst rv))) ?_ ?_
        · rintro _ H9 ⟨z, rfl, hz0, hz1, hzn, ok9⟩
          walk_at "rds"
          refine r_range1 (by omega) (by omega) (fun i σ' H' => ∃ (j7 j8 j9 : Option V), σ' = [some (.ref d), some (.int n), some (.ref pm), none, some (.ref pz), some (.ref pr), j6, j7, j8, j9, none] ∧ (Eb d H H' ∧ DOk d c ns H' ∧ Gr H pm ps n n H' ∧ H' pr = some (.lst rv))) ?_ ?_ ?_
          · exact ⟨_, _, _, rfl, ok9⟩
          · rintro i σ' H10 hi ⟨j7, j8, j9, rfl, ok10⟩
            have hn0 : 0 < n := hzn (by omega)
            walk_at "rds"
            refine ⟨d, c, ns, _, rfl, ok10.2.1, by omega, fun r2 H11 a0 a1 e11 D11 => ?_⟩
            have ok11 := draws _ _ ok10 e11 D11
            obtain ⟨z2, rfl⟩ := Int.eq_ofNat_of_zero_le a0
            obtain ⟨p, hp, hpe⟩ := ok11.2.2.1.get (show z2 < n by omega)
            refine rd_ixL ok11.2.2.1.hm z2 rfl hpe ?_
            walk_at "rds"
            refine ⟨d, c, ns, _, rfl, ok11.2.1, by omega, fun r3 H12 b0 b1 e12 D12 => ?_⟩
            have ok12 := draws _ _ ok11 e12 D12
            obtain ⟨z3, rfl⟩ := Int.eq_ofNat_of_zero_le b0
            walk_at "rds"
            refine ⟨by show 4 ≤ sizeLine; decide, fun a na => ?_⟩
            walk_at "rds"
            obtain ⟨a1', a2', a3', a4'⟩ := ok12
            have ex13 := Ex.new (o := .lst [.int 1, .int 2, .int 1, .int 0]) na
            obtain ⟨dy12, hd12⟩ := D12.at
            refine ⟨d, c, ns, a, _, rfl, D12.ex ex13, upd_same, (ne_of_none hd12 na).symm, by decide, by decide, fun x H14 hx e14 D14 => ?_⟩
            have ok14 := draws _ _ ⟨a1'.ofEx ex13, D12.ex ex13, a3'.ex ex13, ex13 _ _ a4'⟩ e14 D14
            have hxz : ∃ xz : Int, x = .int xz ∧ 0 ≤ xz ∧ xz ≤ 2 := by
              rcases List.mem_cons.mp hx with h | h
              · exact ⟨1, h, by decide⟩
              rcases List.mem_cons.mp h with h | h
              · exact ⟨2, h, by decide⟩
              rcases List.mem_cons.mp h with h | h
              · exact ⟨1, h, by decide⟩
              rcases List.mem_cons.mp h with h | h
              · exact ⟨0, h, by decide⟩
              · cases h
            obtain ⟨xz, rfl, hxz⟩ := hxz
            walk_at "rds"
            exact put _ ok14 p hp z3 (by omega) xz hxz _ fun H15 ok15 => ⟨_, _, _, rfl, ok15⟩
          · rintro σ' H10 ⟨j7, j8, j9, rfl, ok10⟩
            refine rd_seqJ (fun σ' H' => ∃ (pm : Addr) (ps : List Addr) (j3 j10 : Option V), σ' = [some (.ref d), some (.int n), some (.ref pm), j3, some (.ref pz), some (.ref pr), j6, j7, j8, j9, j10] ∧ Eb d H H' ∧ DOk d c ns H' ∧ Gr H pm ps n n H') ?_ ?_
            · rintro σ' H11 ⟨pm, ps, j3, j10, rfl, e11, D11, g11⟩
              walk_at "rds"
              refine lcGrT g11 (by omega) (fun _ => rfl) (fun p l H5 hp Q' q => ?_) fun Dl ys M H5 nD e5 hD rs hM1 hM2 hM3 => ?_
              · walk_at "rds"
                exact rd_tupOf hp q
              · walk_at "rds"
                refine rd_tupOf hD fun pt npt => ?_
                exact k _ _ M (e11.ofEx (e5.trans (Ex.new npt))) (D11.ex (e5.trans (Ex.new npt))) (rep_new npt rs) (by rw [hM1]; exact ⟨hM1, hM2, hM3⟩) (by omega)
            · intro nx' hnx
              walk_at "rds"
              refine ⟨d, c, ns, _, rfl, ok10.2.1, by decide, fun b H11 e11 D11 => ?_⟩
              have ok11 := draws _ _ ok10 e11 D11
              walk_at "rds"
              refine rd_ite (fun hb => ?_) (fun hb => ?_)
              · walk_at "rds"
                refine lcGr (m := n) (by omega) (fun _ => rfl) (fun i H12 hi ex12 Q' q => ?_) fun pm2 ps2 H12 ex12 g12 => ?_
                · walk_at "rds"
                  have g12 := ok11.2.2.1.ex ex12
                  obtain ⟨p, hp, hpe⟩ := g12.get hi
                  refine lcRB (n := n) (by omega) (fun _ => rfl) (fun j H13 hj ex13 Q2 q2 => ?_) fun Dr H13 nDr ex13 hro => ?_
                  · walk_at "rds"
                    have g13 := g12.ex ex13
                    obtain ⟨l, hl1, hl2, hl3⟩ := g13.rows p hp
                    refine rd_ixL g13.hm i rfl hpe ?_
                    walk_at "rds"
                    refine rd_ixLI hl1 (by omega) (by omega) ?_
                    rw [Int.toNat_natCast]
                    walk_at "rds"
                    have hb : 0 ≤ l.getD j 0 ∧ l.getD j 0 ≤ 2 := by
                      rw [List.getD_eq_getElem?_getD, List.getElem?_eq_getElem (show j < l.length by omega)]
                      exact hl3 _ (List.getElem_mem _)
                    generalize l.getD j 0 = x at hb ⊢
                    refine rd_I (.inl ⟨by omega, by omega⟩) ?_
                    by_cases hij : (i : Int) < (j : Int)
                    · rw [decide_eq_true hij, if_pos rfl]
                      exact q2 _ (by omega) (by omega)
                    · rw [decide_eq_false hij, if_neg Bool.false_ne_true]
                      exact q2 _ (by omega) (by omega)
                  · exact q _ _ nDr ex13 hro
                · walk_at "rds"
                  refine hnx _ _ ⟨pm2, ps2, _, _, rfl, ok11.1.ofEx ex12, ok11.2.1.ex ex12, g12.back fun p hp => ?_⟩
                  obtain ⟨dy11, hd11⟩ := D11.at
                  exact ok11.1.free hp (ne_of_none hd11 hp).symm
              · walk_at "rds"
                exact hnx _ _ ⟨pm, ps, _, _, rfl, ok11.1, ok11.2.1, ok11.2.2.1⟩
        · intro Q' q
          refine rd_ifE ?_
          walk_at "rds"
          refine rd_dec (fun h0 => ?_) (fun h0 => ?_)
          · walk_at "rds"
            refine ⟨d, c, ns, _, rfl, ok8.2.1, by decide, fun r2 H11 a0 a1 e11 D11 => ?_⟩
            have : r2 < max 5 1 := a1
            exact q _ _ ⟨r2, rfl, a0, by omega, fun _ => by omega, draws _ _ ok8 e11 D11⟩
          · walk_at "rds"
            exact q _ _ ⟨0, rfl, by decide, by decide, fun h => by omega, ok8⟩
      · intro nx' hnx
        walk_at "rds"
        refine rd_lenL ok7.2.2.2 ?_
        walk_at "rds"
        refine rd_dec (fun h0 => ?_) (fun h0 => ?_)
        · walk_at "rds"
          refine ⟨d, c, ns, _, rfl, ok7.2.1, by decide, fun r2 H8 a0 a1 e8 D8 => ?_⟩
          have ok8 := draws _ _ ok7 e8 D8
          walk_at "rds"
          refine rd_dec (fun h1 => ?_) (fun h1 => ?_)
          · walk_at "rds"
            refine rd_lenL ok8.2.2.2 ?_
            walk_at "rds"
            refine ⟨d, c, ns, _, rfl, D8, by omega, fun r3 H9 b0 b1 e9 D9 => ?_⟩
            have ok9 := draws _ _ ok8 e9 D9
            obtain ⟨i, rfl⟩ := Int.eq_ofNat_of_zero_le b0
            have hil : i < rv.length := by omega
            walk_at "rds"
            refine rd_prev ok9.2.2.2 hil fun y hy => ?_
            obtain ⟨z, hz, rfl⟩ := hrv1 y hy
            obtain ⟨p, hp, hpe⟩ := ok9.2.2.1.get hz
            refine rd_ixL ok9.2.2.1.hm z rfl hpe ?_
            walk_at "rds"
            refine rd_ixL ok9.2.2.2 i rfl (List.getElem?_eq_getElem hil) ?_
            obtain ⟨z2, hz2, ez2⟩ := hrv1 _ (List.getElem_mem hil)
            rw [ez2]
            exact put _ ok9 p hp z2 hz2 2 (by decide) _ fun H8 ok8 => hnx _ _ ⟨_, _, rfl, ok8⟩
          · walk_at "rds"
            exact hnx _ _ ⟨_, _, rfl, ok8⟩
        · walk_at "rds"
          exact hnx _ _ ⟨_, _, rfl, ok7⟩
end
end Fw
namespace Fw
open PySem PySem.Spec PyProof.Rows L2
open Rep (rep)
local macro_rules | `(tactic| walk_at "rd") => `(tactic| first
  | with_reducible apply rd_seq | with_reducible apply rd_asg | with_reducible apply rd_name | with_reducible apply rd_ret | with_reducible apply rd_drop | with_reducible apply rd_if
  | ((with_reducible refine' rd_var ?e ?h); (case e => exact rfl)) | with_reducible apply rd_c | with_reducible apply rd_op | with_reducible apply rd_un | with_reducible apply rd_I0 | with_reducible apply rd_U
  | with_reducible apply rd_eqI | with_reducible apply rd_neI | with_reducible apply rd_eqB | with_reducible apply rd_eqS | with_reducible apply rd_neS | with_reducible apply rd_tB | with_reducible apply rd_test | with_reducible apply rd_bl | with_reducible apply rd_not | with_reducible apply rd_and | with_reducible apply rd_or
  | with_reducible apply rd_andV | with_reducible apply rd_orV | with_reducible apply rd_notV | with_reducible apply rd_chain | with_reducible apply rd_nil | with_reducible apply rd_cons | with_reducible apply rd_CB | with_reducible apply rd_call | with_reducible apply rd_for
  | with_reducible apply rd_next | with_reducible apply rd_brk | with_reducible apply rd_cont | with_reducible apply rd_tup | with_reducible apply rd_lst | with_reducible apply rd_sub | with_reducible apply rd_BM | with_reducible apply rd_BM0
  | with_reducible apply rd_yes | with_reducible apply rd_nope | with_reducible apply rd_yes2 | with_reducible apply rd_nope2 | with_reducible apply rd_gCons | with_reducible apply rd_gNil | with_reducible apply rd_iTup | with_reducible apply rd_iList | with_reducible apply rd_iRng1 | with_reducible apply rd_iRng2
  | with_reducible apply rd_lc | with_reducible apply rd_augS | ((with_reducible refine' rd_aug ?e ?h); (case e => exact rfl)) | with_reducible apply rd_ip
  | with_reducible apply rd_din | with_reducible apply rd_dnotin | with_reducible apply rd_dget | with_reducible apply rd_dget1 | with_reducible apply rd_dget2 | with_reducible apply rd_dput | with_reducible apply rd_disp1T | with_reducible apply rd_dnewK | with_reducible apply rd_dnewT | with_reducible apply rd_iItems | with_reducible apply rd_iItemsT | with_reducible apply rd_iVals | with_reducible apply rd_sl | with_reducible apply rd_noPart | with_reducible apply rd_part | with_reducible apply rd_int | with_reducible apply rd_inN | with_reducible apply rd_inS | with_reducible apply rd_isN0 | with_reducible apply rd_isS0
  | with_reducible apply rd_max2 | with_reducible apply rd_min2 | with_reducible apply rd_max3 | with_reducible apply rd_intI | with_reducible apply rd_intB | with_reducible apply rd_abs)
local macro_rules | `(tactic| walk_at "rds") => `(tactic| repeat walk_at "rd")
local macro_rules | `(tactic| walk_at "sz") => `(tactic| exact Nat.le_trans (show _ ≤ 1000 by simp) (by decide))
local macro_rules | `(tactic| walk_at "hp") => `(tactic| first
  | with_reducible assumption | with_reducible exact upd_same
  | ((with_reducible refine' hp_ne ?n ?h); (case n => walk_at "ne"); (case h => walk_at "hp"))
  | ((with_reducible refine' Ex.get ?e ?h); (case e => with_reducible assumption); (case h => walk_at "hp"))
  | ((with_reducible refine' Eb.get ?e ?n ?h); (case e => with_reducible assumption); (case n => walk_at "ne"); (case h => walk_at "hp")))
local macro_rules | `(tactic| walk_at "ne") => `(tactic| first
  | with_reducible assumption | (apply Ne.symm; with_reducible assumption)
  | ((with_reducible refine' ne_non ?h ?n); (case n => with_reducible assumption); (case h => walk_at "hp"))
  | (apply Ne.symm; with_reducible refine' ne_non ?h ?n; (case n => with_reducible assumption); (case h => walk_at "hp")))
local macro_rules | `(tactic| walk_at "ti") => `(tactic| first
  | with_reducible assumption | with_reducible exact Ti.refl | (with_reducible exact Ex.ti (by with_reducible assumption))
  | ((with_reducible refine' Ti.trans ?a (Ti.new ?b)); (case b => with_reducible assumption); (case a => walk_at "ti"))
  | ((with_reducible refine' Ti.trans ?a (Ti.lst ?b)); (case b => walk_at "hp"); (case a => walk_at "ti"))
  | ((with_reducible refine' Ti.trans ?a (Ti.dK ?b)); (case b => walk_at "hp"); (case a => walk_at "ti"))
  | ((with_reducible refine' Ti.trans ?a (Ti.dT ?b)); (case b => walk_at "hp"); (case a => walk_at "ti"))
  | ((with_reducible refine' Ti.trans ?a ?b); (case b => with_reducible assumption); (case a => walk_at "ti"))
  | ((with_reducible refine' Ti.trans ?a (Ex.ti ?b)); (case b => with_reducible assumption); (case a => walk_at "ti")))
local macro_rules | `(tactic| walk_at "ex") => `(tactic| first
  | with_reducible assumption | with_reducible exact Ex.refl
  | ((with_reducible refine' Ex.mut ?a ?b); (case b => with_reducible assumption); (case a => walk_at "ex"))
  | ((with_reducible refine' Ex.trans ?a (Ex.new ?b)); (case b => with_reducible assumption); (case a => walk_at "ex"))
  | ((with_reducible refine' Ex.trans ?a ?b); (case b => with_reducible assumption); (case a => walk_at "ex")))
local macro_rules | `(tactic| walk_at "rp") => `(tactic| first
  | with_reducible assumption
  | ((with_reducible refine' Rep.mono (Ex.ti ?e) ?h); (case e => with_reducible assumption); (case h => with_reducible assumption))
  | ((with_reducible refine' Rep.mono ?t ?h); (case t => with_reducible assumption); (case h => with_reducible assumption))
  | ((with_reducible refine' Rep.mono ?t ?h); (case h => with_reducible assumption); (case t => walk_at "ti"))
  | ((with_reducible refine' Reps.mono (Ex.ti ?e) ?h); (case e => with_reducible assumption); (case h => with_reducible assumption))
  | ((with_reducible refine' Reps.mono ?t ?h); (case h => with_reducible assumption); (case t => walk_at "ti")))
theorem rd_size {K : PySem.W.Frag} {H : Hp} {v : V} {Q : VK} {sizes : List Int} {z : Int} (r : rep H v sizes) (hs : ∀ s ∈ sizes, 0 ≤ s ∧ s ≤ 50) (h0 : 0 ≤ z) (h1 : z < sizes.length) (q : Q (.int (szN sizes z : Int)) H) : rIxT K v (.int z) H Q := by
  refine rd_ixTI r h0 h1 ?_
  have e : sizes.getD z.toNat 0 = (szN sizes z : Int) := by
    unfold szN
    rw [List.getD_eq_getElem?_getD, List.getElem?_eq_getElem (by omega)]
    have := hs _ (List.getElem_mem (show z.toNat < sizes.length by omega))
    show sizes[z.toNat] = ((sizes[z.toNat]).toNat : Int)
    omega
  rw [e]; exact q
theorem szN_le {sizes : List Int} (hs : ∀ s ∈ sizes, 0 ≤ s ∧ s ≤ 50) (z : Int) : szN sizes z ≤ 50 := by
  unfold szN
  by_cases h : z.toNat < sizes.length
  · rw [List.getD_eq_getElem?_getD, List.getElem?_eq_getElem h]
    have := hs _ (List.getElem_mem h)
    show (sizes[z.toNat]).toNat ≤ 50
    omega
  · rw [List.getD_eq_getElem?_getD, List.getElem?_eq_none (by omega)]
    decide
def EdgeOk (sizes : List Int) (e : Edge) : Prop := 0 ≤ e.a ∧ e.a < sizes.length ∧ 0 ≤ e.b ∧ e.b < sizes.length ∧ TabOk e.c (szN sizes e.a) (szN sizes e.b)
theorem Reps.newL {α : Type} [Rep α] {H : Hp} {vs : List V} {l : List α} {p : Addr} {o : HO} (h : Reps H vs l) (n : H p = none) : Reps (upd H p o) vs l := h.mono (Ti.new n)
section
variable {P : Program} {w : World} {K : PySem.W.Frag} {mg : Str → Option Value} {base : Heap}
def spWeb : Sp := fun vs H Q _ => ∃ (d c : Addr) (ns : List Int), vs = [.ref d] ∧ DOk d c ns H ∧
  ∀ u H' (p : P2 (List Int) (List Edge)), Eb d H H' → DOk d c ns H' → rep H' u p → Web p.a p.b → Q u H'
abbrev s_law_web : Stmt := topS 22
theorem sc_law_web : FnScope ["d", "nodes", "sizes", "k", "edges", "way", "begin", "end"] ["d"] (C8.fnScope s_law_web) := C8.fnScope_by (by decide +kernel)
theorem ok_web (F : Df K mg "_law_web" s_law_web ["d"]) (T : Bt mg) (c_law_draw : C8.Cal P w K mg base 1 "_law_draw" spDraw []) (c_law_pick : C8.Cal P w K mg base 2 "_law_pick" spPick []) (c_law_grid : C8.Cal P w K mg base 3 "_law_grid" spGrid []) : C8.Cal P w K mg base 4 "_law_web" spWeb [] := by
  have sc := sc_law_web
  refine F.cal sc (fun vs H Q E h => ?_) (fun f cdv A outer s H vs Q E hr h => ?_)
  · obtain ⟨d, c, ns, rfl, _⟩ := h; rfl
  obtain ⟨d, c, ns, rfl, D, k⟩ := h
  refine ⟨_, 
    (pss_cons (ps_set (i := 1) sc.nd rfl (by first | exact Or.inl rfl | exact Or.inr rfl) (pe_op op_add pe_int (C8.pe_c c_law_draw hr (by decide) (by rfl) (pa_cons (pv 0) (pa_cons pe_int pa_nil)))))
    (pss_cons (ps_set (i := 2) sc.nd rfl (by first | exact Or.inl rfl | exact Or.inr rfl) (pe_callTy (cTup K) (by rfl) T.tuple (by decide +kernel) (pa_cons (pe_lc (own := [("k", 3)]) (by rfl) sc.nd (pi_range1 (by rfl) T.range (pa_cons (pv 1) pa_nil)) (blkOk_by (N := ["d", "nodes", "sizes", "k", "edges", "way", "begin", "end"]) (sc := C8.fnScope s_law_web) (own := [("k", 3)]) (by decide +kernel)) (fun _ _ _ _ _ => (pg_name (i := 3) sc.nd rfl (by first | exact Or.inl rfl | exact Or.inr rfl))) (fun _ _ _ _ _ => pts_nil) (fun _ _ _ _ _ => (C8.pe_c c_law_pick hr (by decide) (by rfl) (pa_cons (pv 0) (pa_cons (pe_lst (pa_cons pe_int (pa_cons pe_int (pa_cons pe_int (pa_cons pe_int (pa_cons pe_int (pa_cons pe_int (pa_cons pe_int pa_nil)))))))) pa_nil))))) pa_nil)))
    (pss_cons (ps_setLc (i := 4) (own := [("k", 3)]) (by rfl) sc.nd rfl rfl (sw_true rfl rfl rfl (by decide +kernel)) (pi_range1 (by rfl) T.range (pa_cons (pv 1) pa_nil)) (blkOk_by (N := ["d", "nodes", "sizes", "k", "edges", "way", "begin", "end"]) (sc := C8.fnScope s_law_web) (own := [("k", 3)]) (by decide +kernel)) (fun _ _ _ _ _ => (pg_name (i := 3) sc.nd rfl (by first | exact Or.inl rfl | exact Or.inr rfl))) (fun _ _ _ _ _ => pts_nil) (fun _ _ _ _ _ => (pe_tup (pa_cons (pv 3) (pa_cons (pe_op op_mod (pe_callTy cInt (by rfl) T.int (by decide +kernel) (pa_cons (pe_op op_add (pv 3) pe_int) pa_nil)) (pv 1)) (pa_cons (C8.pe_c c_law_grid hr (by decide) (by rfl) (pa_cons (pv 0) (pa_cons (pe_ix (ixT K) (pv 2) (pv 3) (fun _ _ => rfl)) (pa_cons (pe_ix (ixT K) (pv 2) (pe_op op_mod (pe_callTy cInt (by rfl) T.int (by decide +kernel) (pa_cons (pe_op op_add (pv 3) pe_int) pa_nil)) (pv 1)) (fun _ _ => rfl)) (pa_cons pe_int pa_nil))))) pa_nil))))))
    (pss_cons (ps_set (i := 5) sc.nd rfl (by first | exact Or.inl rfl | exact Or.inr rfl) (C8.pe_c c_law_draw hr (by decide) (by rfl) (pa_cons (pv 0) (pa_cons pe_int pa_nil))))
    (pss_cons (ps_for PassesOwn.never rfl (pi_range1 (by rfl) T.range (pa_cons (C8.pe_c c_law_draw hr (by decide) (by rfl) (pa_cons (pv 0) (pa_cons pe_int pa_nil))) pa_nil)) (pg_name (i := 3) sc.nd rfl (by first | exact Or.inl rfl | exact Or.inr rfl))
    (pss_cons (ps_set (i := 6) sc.nd rfl (by first | exact Or.inl rfl | exact Or.inr rfl) (C8.pe_c c_law_draw hr (by decide) (by rfl) (pa_cons (pv 0) (pa_cons (pv 1) pa_nil))))
    (pss_cons (ps_set (i := 7) sc.nd rfl (by first | exact Or.inl rfl | exact Or.inr rfl) (C8.pe_c c_law_draw hr (by decide) (by rfl) (pa_cons (pv 0) (pa_cons (pv 1) pa_nil))))
    (pss_one (ps_expr (bmK K PySem.F.plainAttrs_list PySem.F.slot_list_append PySem.F.type_list_append mt_append (pv 4) (pa_cons (pe_tup (pa_cons (pv 6) (pa_cons (pv 7) (pa_cons (C8.pe_c c_law_grid hr (by decide) (by rfl) (pa_cons (pv 0) (pa_cons (pe_ix (ixT K) (pv 2) (pv 6) (fun _ _ => rfl)) (pa_cons (pe_ix (ixT K) (pv 2) (pv 7) (fun _ _ => rfl)) (pa_cons (pv 5) pa_nil))))) pa_nil)))) pa_nil)))))))
    (pss_one (ps_ret (pe_tup (pa_cons (pv 2) (pa_cons (pe_callTy (cTup K) (by rfl) T.tuple (by decide +kernel) (pa_cons (pv 4) pa_nil)) pa_nil)))))))))), ?_⟩
  show tSeq _ _ _ [some (.ref d), none, none, none, none, none, none, none] H
  obtain ⟨dys, hdd⟩ := D.at
  walk_at "rds"
  refine ⟨d, c, ns, _, rfl, D, by decide, fun r H1 r0 r1 e1 D1 => ?_⟩
  obtain ⟨n0, rfl⟩ := Int.eq_ofNat_of_zero_le r0
  have hn0 : n0 < 3 := by have : ((n0 : Nat) : Int) < max 3 1 := r1; omega
  walk_at "rds"
  generalize hN : (1 + (n0 : Int)) = N
  -- sizes
  refine lcR_raw (n := N) (by omega) (by omega) (fun Dl i ys H' => ∃ l : List Int, ys = l.map V.int ∧ l.length = i ∧ (∀ s ∈ l, 0 ≤ s ∧ s ≤ 50) ∧ Eb d H H' ∧ DOk d c ns H' ∧ H' Dl = some (.lst (l.map V.int)) ∧ H Dl = none) (fun _ => rfl)
    (fun Dl h => ?_) (fun Dl i ys H2 nDl hi ⟨l, e, hl, hb, e2, D2, hDl, nDl0⟩ Q' q => ?_) (fun Dl ys H2 nDl ⟨l, e, hl, hb, e2, D2, hDl, _⟩ => ?_)
  · obtain ⟨dy1, hd1⟩ := D1.at
    exact ⟨[], rfl, rfl, fun s hs => (nomatch hs), e1.ofEx (Ex.new h), D1.ex (Ex.new h), upd_same, e1.free h (ne_of_none hd1 h).symm⟩
  · subst e
    walk_at "rds"
    refine ⟨by show 7 ≤ sizeLine; decide, fun a na => ?_⟩
    walk_at "rds"
    obtain ⟨dy2, hd2⟩ := D2.at
    have ex3 := Ex.new (o := .lst [.int 2, .int 3, .int 1, .int 4, .int 3, .int 0, .int 4]) na
    refine ⟨d, c, ns, a, _, rfl, D2.ex ex3, upd_same, (ne_of_none hd2 na).symm, by decide, by decide, fun x H4 hx e4 D4 => ?_⟩
    have hxz : ∃ xz : Int, x = .int xz ∧ 0 ≤ xz ∧ xz ≤ 50 := by
      have : ∀ ys : List Int, (∀ y ∈ ys, 0 ≤ y ∧ y ≤ 50) → x ∈ ys.map V.int → ∃ xz : Int, x = .int xz ∧ 0 ≤ xz ∧ xz ≤ 50 := fun ys h hx => by
        obtain ⟨z, hz, rfl⟩ := List.mem_map.mp hx
        exact ⟨z, rfl, h z hz⟩
      exact this [2, 3, 1, 4, 3, 0, 4] (by decide) hx
    obtain ⟨xz, rfl, hxz⟩ := hxz
    have nDd : Dl ≠ d := (ne_of_none hdd nDl0).symm
    have hD4 : H4 Dl = some (.lst (l.map V.int)) := e4 _ _ nDd (ex3 _ _ hDl)
    refine q _ _ hD4 ⟨l ++ [xz], by rw [List.map_append]; rfl, by rw [List.length_append, hl]; rfl, fun s hs => ?_, ((e2.ofEx ex3).trans e4).mut nDl0, D4.upd' D nDl0, by rw [upd_same, List.map_append]; rfl, nDl0⟩
    rcases List.mem_append.mp hs with h | h
    · exact hb s h
    · cases List.mem_singleton.mp h; exact hxz
  subst e
  walk_at "rds"
  refine rd_tupOf hDl fun ps nps => ?_
  have hsl : l.length = N.toNat := hl
  have hlN : (l.length : Int) = N := by omega
  have rs3 : rep (upd H2 ps (.tup (l.map V.int))) (.ref ps) l := rep_new nps Reps.of_ints
  have e3 := e2.ofEx (Ex.new (o := .tup (l.map V.int)) nps)
  have D3 := D2.ex (Ex.new (o := .tup (l.map V.int)) nps)
  generalize upd H2 ps (.tup (l.map V.int)) = H3 at rs3 e3 D3 ⊢
  clear hDl nps D2 e2 hl nDl
  walk_at "rds"
  -- edges
  refine lcR_raw (n := N) (by omega) (by omega) (fun Dl i ys H' => ∃ el : List Edge, Reps H' ys el ∧ el.length = i ∧ (∀ e ∈ el, EdgeOk l e) ∧ (∀ j : Nat, j < i → ∃ e, el[j]? = some e ∧ e.a = j) ∧ Eb d H H' ∧ DOk d c ns H' ∧ Ti H3 H' ∧ H' Dl = some (.lst ys) ∧ H Dl = none) (fun _ => rfl)
    (fun Dl h => ?_) (fun Dl i ys H4 nDl hi ⟨el, res, hel, heo, hea, e4, D4, t4, hDl, nDl0⟩ Q' q => ?_) (fun Dl ys H4 nDl ⟨el, res, hel, heo, hea, e4, D4, t4, hDl, nDl0⟩ => ?_)
  · obtain ⟨dy3, hd3⟩ := D3.at
    exact ⟨[], Reps.nil, rfl, fun e he => (nomatch he), fun j hj => by omega, e3.ofEx (Ex.new h), D3.ex (Ex.new h), Ti.new h, upd_same, e3.free h (ne_of_none hd3 h).symm⟩
  · have hm0 := Int.emod_nonneg ((i : Int) + 1) (show N ≠ 0 by omega)
    have hm1 := Int.emod_lt_of_pos ((i : Int) + 1) (show 0 < N by omega)
    have rs4 := Rep.mono t4 rs3
    walk_at "rds"
    refine rd_I (by omega) ?_
    walk_at "rds"
    refine rd_size rs4 hb (by omega) (by omega) ?_
    walk_at "rds"
    refine rd_I (by omega) ?_
    refine rd_size rs4 hb (by omega) (by omega) ?_
    walk_at "rds"
    have hb1 := szN_le hb (i : Int)
    have hb2 := szN_le hb (((i : Int) + 1) % N)
    refine ⟨d, c, ns, _, _, _, rfl, D4, by omega, by omega, fun u H5 t e5 D5 ru tok => ?_⟩
    walk_at "rds"
    refine ⟨by show 3 ≤ sizeLine; decide, fun pt npt => ?_⟩
    have nDd : Dl ≠ d := (ne_of_none hdd nDl0).symm
    have hD5 : H5 Dl = some (.lst ys) := e5 _ _ nDd hDl
    have nDt : Dl ≠ pt := ne_of_none hD5 npt
    have hD6 : upd H5 pt (.tup [.int i, .int (((i : Int) + 1) % N), u]) Dl = some (.lst ys) := by rw [upd_ne nDt]; exact hD5
    have t5 : Ti H4 H5 := D4.ti e5
    have t6 : Ti H5 (upd (upd H5 pt (.tup [.int i, .int (((i : Int) + 1) % N), u])) Dl (.lst (ys ++ [.ref pt]))) := (Ti.new npt).trans (Ti.lst hD6)
    refine q _ _ hD6 ⟨el ++ [⟨(i : Int), ((i : Int) + 1) % N, t⟩], ?_, by rw [List.length_append, hel]; rfl, fun e he => ?_, fun j hj => ?_, (((e4.trans e5).ofEx (Ex.new npt))).mut nDl0, (D5.ex (Ex.new npt)).upd' D nDl0, t4.trans (t5.trans t6), upd_same, nDl0⟩
    · refine (res.mono (t5.trans t6)).snoc ⟨pt, _, _, _, rfl, ?_, rfl, rfl, Rep.mono t6 ru⟩
      rw [upd_ne nDt.symm]; exact upd_same
    · rcases List.mem_append.mp he with h | h
      · exact heo e h
      · cases List.mem_singleton.mp h
        exact ⟨by show (0 : Int) ≤ (i : Int); omega, by show (i : Int) < _; omega, hm0, by show _ % N < _; omega, tok⟩
    · by_cases h : j < i
      · obtain ⟨e, h1, h2⟩ := hea j h
        exact ⟨e, by rw [List.getElem?_append_left (by omega)]; exact h1, h2⟩
      · have : j = i := by omega
        subst this
        exact ⟨_, by rw [List.getElem?_append_right (by omega), hel, Nat.sub_self]; rfl, rfl⟩
  walk_at "rds"
  refine ⟨d, c, ns, _, rfl, D4, by decide, fun way H5 w0 w1 e5 D5 => ?_⟩
  walk_at "rds"
  refine ⟨d, c, ns, _, rfl, D5, by decide, fun more H6 m0 m1 e6 D6 => ?_⟩
  walk_at "rds"
  have hmore : more < max 6 1 := m1
  have nDd : Dl ≠ d := (ne_of_none hdd nDl0).symm
  have t36 : Ti H3 H6 := (t4.trans (D4.ti e5)).trans (D5.ti e6)
  refine r_range1 (by omega) (by omega) (fun i σ' H' => ∃ (j3 j6 j7 : Option V) (ys : List V) (el : List Edge), σ' = [some (.ref d), some (.int N), some (.ref ps), j3, some (.ref Dl), some (.int way), j6, j7] ∧ Reps H' ys el ∧ el.length ≤ 10 + i ∧ (∀ e ∈ el, EdgeOk l e) ∧ (∀ j : Nat, j < l.length → ∃ e, el[j]? = some e ∧ e.a = j) ∧ Eb d H H' ∧ DOk d c ns H' ∧ Ti H3 H' ∧ H' Dl = some (.lst ys)) ?_ ?_ ?_
  · refine ⟨_, _, _, ys, el, rfl, res.mono ((D4.ti e5).trans (D5.ti e6)), by omega, heo, fun j hj => hea j (by omega), (e4.trans e5).trans e6, D6, t36, e6 _ _ nDd (e5 _ _ nDd hDl)⟩
  · clear hDl res hel heo hea D4 D5 D6 e4 e5 e6 t36 t4
    rintro i σ' H7 hi ⟨j3, j6, j7, ys, el, rfl, res, hel, heo, hea, e7, D7, t7, hDl⟩
    walk_at "rds"
    refine ⟨d, c, ns, _, rfl, D7, by omega, fun b H8 b0 b1 e8 D8 => ?_⟩
    walk_at "rds"
    refine ⟨d, c, ns, _, rfl, D8, by omega, fun z H9 z0 z1 e9 D9 => ?_⟩
    walk_at "rds"
    have hD9 := e9 _ _ nDd (e8 _ _ nDd hDl)
    refine ⟨ty_lst hD9, ?_⟩
    walk_at "rds"
    have t79 : Ti H7 H9 := (D7.ti e8).trans (D8.ti e9)
    have rs9 := Rep.mono (t7.trans t79) rs3
    refine rd_size rs9 hb (by omega) (by omega) ?_
    walk_at "rds"
    refine rd_size rs9 hb (by omega) (by omega) ?_
    walk_at "rds"
    have hb1 := szN_le hb b
    have hb2 := szN_le hb z
    refine ⟨d, c, ns, _, _, _, rfl, D9, by omega, by omega, fun u HA t eA DA ru tok => ?_⟩
    walk_at "rds"
    refine ⟨by show 3 ≤ sizeLine; decide, fun pt npt => ?_⟩
    walk_at "rds"
    have hDA : HA Dl = some (.lst ys) := eA _ _ nDd hD9
    have nDt : Dl ≠ pt := ne_of_none hDA npt
    have hDB : upd HA pt (.tup [.int b, .int z, u]) Dl = some (.lst ys) := by rw [upd_ne nDt]; exact hDA
    have tA : Ti H7 HA := t79.trans (D9.ti eA)
    have tB : Ti HA (upd (upd HA pt (.tup [.int b, .int z, u])) Dl (.lst (ys ++ [.ref pt]))) := (Ti.new npt).trans (Ti.lst hDB)
    have hyl := res.len
    refine rd_app hDB (by omega) ?_
    walk_at "rds"
    refine ⟨_, _, _, ys ++ [.ref pt], el ++ [⟨b, z, t⟩], rfl, ?_, by rw [List.length_append]; simp; omega, fun e he => ?_, fun j hj => ?_, ((((e7.trans e8).trans e9).trans eA).ofEx (Ex.new npt)).mut nDl0, (DA.ex (Ex.new npt)).upd' D nDl0, t7.trans (tA.trans tB), upd_same⟩
    · refine (res.mono (tA.trans tB)).snoc ⟨pt, _, _, _, rfl, ?_, rfl, rfl, Rep.mono tB ru⟩
      rw [upd_ne nDt.symm]; exact upd_same
    · rcases List.mem_append.mp he with h | h
      · exact heo e h
      · cases List.mem_singleton.mp h
        exact ⟨b0, by show b < _; omega, z0, by show z < _; omega, tok⟩
    · obtain ⟨e, h1, h2⟩ := hea j hj
      exact ⟨e, by rw [List.getElem?_append_left (List.getElem?_eq_some_iff.mp h1).1]; exact h1, h2⟩
  · clear hDl res hel heo hea D4 D5 D6 e4 e5 e6 t36 t4
    rintro σ' H7 ⟨j3, j6, j7, ys, el, rfl, res, hel, heo, hea, e7, D7, t7, hDl⟩
    walk_at "rds"
    refine rd_tupOf hDl fun pe npe => ?_
    walk_at "rds"
    refine ⟨by show 2 ≤ sizeLine; decide, fun pu npu => ?_⟩
    have ex8 := (Ex.new (o := .tup ys) npe).trans (Ex.new (o := .tup [.ref ps, .ref pe]) npu)
    refine k _ _ ⟨l, el⟩ (e7.ofEx ex8) (D7.ex ex8) ⟨pu, _, _, rfl, upd_same, Rep.mono (t7.trans ex8.ti) rs3, Rep.mono (Ti.new npu) (rep_new npe res)⟩ ⟨?_, ?_, hb, ?_, heo, fun j hj => hea j hj⟩
    · show 1 ≤ l.length; omega
    · show l.length ≤ 10; omega
    · show el.length ≤ 100
      omega
end
end Fw
namespace Fw
open PySem PySem.Spec PyProof.Rows L2
open Rep (rep)
local macro_rules | `(tactic| walk_at "rd") => `(tactic| first
  | with_reducible apply rd_seq | with_reducible apply rd_asg | with_reducible apply rd_name | with_reducible apply rd_ret | with_reducible apply rd_drop | with_reducible apply rd_if
  | ((with_reducible refine' rd_var ?e ?h); (case e => exact rfl)) | with_reducible apply rd_c | with_reducible apply rd_op | with_reducible apply rd_un | with_reducible apply rd_I0 | with_reducible apply rd_U
  | with_reducible apply rd_eqI | with_reducible apply rd_neI | with_reducible apply rd_eqB | with_reducible apply rd_eqS | with_reducible apply rd_neS | with_reducible apply rd_tB | with_reducible apply rd_test | with_reducible apply rd_bl | with_reducible apply rd_not | with_reducible apply rd_and | with_reducible apply rd_or
  | with_reducible apply rd_andV | with_reducible apply rd_orV | with_reducible apply rd_notV | with_reducible apply rd_chain | with_reducible apply rd_nil | with_reducible apply rd_cons | with_reducible apply rd_CB | with_reducible apply rd_call | with_reducible apply rd_for
  | with_reducible apply rd_next | with_reducible apply rd_brk | with_reducible apply rd_cont | with_reducible apply rd_tup | with_reducible apply rd_lst | with_reducible apply rd_sub | with_reducible apply rd_BM | with_reducible apply rd_BM0
  | with_reducible apply rd_yes | with_reducible apply rd_nope | with_reducible apply rd_yes2 | with_reducible apply rd_nope2 | with_reducible apply rd_gCons | with_reducible apply rd_gNil | with_reducible apply rd_iTup | with_reducible apply rd_iList | with_reducible apply rd_iRng1 | with_reducible apply rd_iRng2
  | with_reducible apply rd_lc | with_reducible apply rd_augS | ((with_reducible refine' rd_aug ?e ?h); (case e => exact rfl)) | with_reducible apply rd_ip
  | with_reducible apply rd_din | with_reducible apply rd_dnotin | with_reducible apply rd_dget | with_reducible apply rd_dget1 | with_reducible apply rd_dget2 | with_reducible apply rd_dput | with_reducible apply rd_disp1T | with_reducible apply rd_dnewK | with_reducible apply rd_dnewT | with_reducible apply rd_iItems | with_reducible apply rd_iItemsT | with_reducible apply rd_iVals | with_reducible apply rd_sl | with_reducible apply rd_noPart | with_reducible apply rd_part | with_reducible apply rd_int | with_reducible apply rd_inN | with_reducible apply rd_inS | with_reducible apply rd_isN0 | with_reducible apply rd_isS0
  | with_reducible apply rd_max2 | with_reducible apply rd_min2 | with_reducible apply rd_max3 | with_reducible apply rd_intI | with_reducible apply rd_intB | with_reducible apply rd_abs)
local macro_rules | `(tactic| walk_at "rds") => `(tactic| repeat walk_at "rd")
local macro_rules | `(tactic| walk_at "sz") => `(tactic| exact Nat.le_trans (show _ ≤ 1000 by simp) (by decide))
local macro_rules | `(tactic| walk_at "hp") => `(tactic| first
  | with_reducible assumption | with_reducible exact upd_same
  | ((with_reducible refine' hp_ne ?n ?h); (case n => walk_at "ne"); (case h => walk_at "hp"))
  | ((with_reducible refine' Ex.get ?e ?h); (case e => with_reducible assumption); (case h => walk_at "hp"))
  | ((with_reducible refine' Eb.get ?e ?n ?h); (case e => with_reducible assumption); (case n => walk_at "ne"); (case h => walk_at "hp")))
local macro_rules | `(tactic| walk_at "ne") => `(tactic| first
  | with_reducible assumption | (apply Ne.symm; with_reducible assumption)
  | ((with_reducible refine' ne_non ?h ?n); (case n => with_reducible assumption); (case h => walk_at "hp"))
  | (apply Ne.symm; with_reducible refine' ne_non ?h ?n; (case n => with_reducible assumption); (case h => walk_at "hp")))
local macro_rules | `(tactic| walk_at "ti") => `(tactic| first
  | with_reducible assumption | with_reducible exact Ti.refl | (with_reducible exact Ex.ti (by with_reducible assumption))
  | ((with_reducible refine' Ti.trans ?a (Ti.new ?b)); (case b => with_reducible assumption); (case a => walk_at "ti"))
  | ((with_reducible refine' Ti.trans ?a (Ti.lst ?b)); (case b => walk_at "hp"); (case a => walk_at "ti"))
  | ((with_reducible refine' Ti.trans ?a (Ti.dK ?b)); (case b => walk_at "hp"); (case a => walk_at "ti"))
  | ((with_reducible refine' Ti.trans ?a (Ti.dT ?b)); (case b => walk_at "hp"); (case a => walk_at "ti"))
  | ((with_reducible refine' Ti.trans ?a ?b); (case b => with_reducible assumption); (case a => walk_at "ti"))
  | ((with_reducible refine' Ti.trans ?a (Ex.ti ?b)); (case b => with_reducible assumption); (case a => walk_at "ti")))
local macro_rules | `(tactic| walk_at "ex") => `(tactic| first
  | with_reducible assumption | with_reducible exact Ex.refl
  | ((with_reducible refine' Ex.mut ?a ?b); (case b => with_reducible assumption); (case a => walk_at "ex"))
  | ((with_reducible refine' Ex.trans ?a (Ex.new ?b)); (case b => with_reducible assumption); (case a => walk_at "ex"))
  | ((with_reducible refine' Ex.trans ?a ?b); (case b => with_reducible assumption); (case a => walk_at "ex")))
local macro_rules | `(tactic| walk_at "rp") => `(tactic| first
  | with_reducible assumption
  | ((with_reducible refine' Rep.mono (Ex.ti ?e) ?h); (case e => with_reducible assumption); (case h => with_reducible assumption))
  | ((with_reducible refine' Rep.mono ?t ?h); (case t => with_reducible assumption); (case h => with_reducible assumption))
  | ((with_reducible refine' Rep.mono ?t ?h); (case h => with_reducible assumption); (case t => walk_at "ti"))
  | ((with_reducible refine' Reps.mono (Ex.ti ?e) ?h); (case e => with_reducible assumption); (case h => with_reducible assumption))
  | ((with_reducible refine' Reps.mono ?t ?h); (case h => with_reducible assumption); (case t => walk_at "ti")))
theorem getLast_nat {l : List Int} (h : l ≠ []) : (l.map V.int).getLast? = some (.int (l.getLastD 0)) := by
  rw [List.getLast?_map, List.getLast?_eq_getLast h, List.getLastD_eq_getLast?, List.getLast?_eq_getLast h]
  rfl
theorem getLastD_mem {l : List Int} (h : l ≠ []) : l.getLastD 0 ∈ l := by
  rw [List.getLastD_eq_getLast?, List.getLast?_eq_getLast h]
  exact List.getLast_mem h
theorem WordOk.snoc {edges : List Edge} {wl : List Int} {z : Int} (h : WordOk edges wl) (h0 : 0 ≤ z) (h1 : z < edges.length) (hc : (edgeAt edges (wl.getLastD 0)).b = (edgeAt edges z).a) (hl : wl.length < 200) : WordOk edges (wl ++ [z]) := by
  refine ⟨by simp, by rw [List.length_append]; show _ + 1 ≤ _; omega, fun y hy => ?_, fun i hi => ?_⟩
  · rcases List.mem_append.mp hy with h' | h'
    · exact h.num y h'
    · cases List.mem_singleton.mp h'; exact ⟨h0, h1⟩
  · rw [List.length_append] at hi
    replace hi : i + 1 < wl.length + 1 := hi
    by_cases e : i + 1 = wl.length
    · rw [getD_app (by omega), getD_end e]
      have := last_getD (d := (0 : Int)) h.ne
      rw [show wl.length - 1 = i by omega] at this
      rw [← this]
      exact hc
    · rw [getD_app (by omega), getD_app (by omega)]
      exact h.chain i (by omega)
theorem Web.next {sizes : List Int} {edges : List Edge} (W : Web sizes edges) {z : Int} (h0 : 0 ≤ z) (h1 : z < edges.length) :
    0 ≤ (edgeAt edges z).b ∧ (edgeAt edges z).b < edges.length ∧ (edgeAt edges (edgeAt edges z).b).a = (edgeAt edges z).b := by
  obtain ⟨_, _, a3, a4, _⟩ := W.edge h0 h1
  obtain ⟨e, e1, e2⟩ := W.out (edgeAt edges z).b.toNat (by omega)
  have := (List.getElem?_eq_some_iff.mp e1).1
  refine ⟨a3, by omega, ?_⟩
  have e3 : edgeAt edges (edgeAt edges z).b = e := by
    show edges.getD (edgeAt edges z).b.toNat _ = e
    rw [List.getD_eq_getElem?_getD, e1]
    rfl
  rw [e3, e2]
  omega
theorem rd_last {K : PySem.W.Frag} {H : Hp} {Q : VK} {p : Addr} {l : List Int} (h : H p = some (.lst (l.map V.int))) (h0 : l ≠ []) (q : Q (.int (l.getLastD 0)) H) : rIxL K (.ref p) (.int (-1)) H Q :=
  ⟨p, _, -1, _, rfl, rfl, SqL.of h, atI_neg1 (getLast_nat h0), q⟩
section
variable {P : Program} {w : World} {K : PySem.W.Frag} {mg : Str → Option Value} {base : Heap}
def spWord : Sp := fun vs H Q _ => ∃ (d c : Addr) (ns : List Int) (v2 v3 : V) (sizes : List Int) (edges : List Edge), vs = [.ref d, v2, v3] ∧ DOk d c ns H ∧ rep H v2 sizes ∧ rep H v3 edges ∧ Web sizes edges ∧
  ∀ u H' wl, Eb d H H' → DOk d c ns H' → rep H' u wl → WordOk edges wl → Q u H'
abbrev s_law_word : Stmt := topS 23
theorem sc_law_word : FnScope ["d", "sizes", "edges", "word", "turn", "k"] ["d", "sizes", "edges"] (C8.fnScope s_law_word) := C8.fnScope_by (by decide +kernel)
theorem ok_word (F : Df K mg "_law_word" s_law_word ["d", "sizes", "edges"]) (T : Bt mg) (c_law_draw : C8.Cal P w K mg base 1 "_law_draw" spDraw []) (c_law_pick : C8.Cal P w K mg base 2 "_law_pick" spPick []) (c_law_rare : C8.Cal P w K mg base 2 "_law_rare" spRare []) : C8.Cal P w K mg base 3 "_law_word" spWord [] := by
  have sc := sc_law_word
  refine F.cal sc (fun vs H Q E h => ?_) (fun f cdv A outer s H vs Q E hr h => ?_)
  · obtain ⟨d, c, ns, v2, v3, sizes, edges, rfl, _⟩ := h; rfl
  obtain ⟨d, c, ns, v2, v3, sizes, edges, rfl, D, r2, r3, W, k⟩ := h
  refine ⟨_, 
    (pss_cons (ps_set (i := 3) sc.nd rfl (by first | exact Or.inl rfl | exact Or.inr rfl) (pe_lst (pa_cons (C8.pe_c c_law_draw hr (by decide) (by rfl) (pa_cons (pv 0) (pa_cons (pe_callB (cLen K) (by rfl) T.len (by decide +kernel) (pa_cons (pv 2) pa_nil)) pa_nil))) pa_nil)))
    (pss_cons (ps_for PassesOwn.never rfl (pi_range1 (by rfl) T.range (pa_cons (C8.pe_c c_law_draw hr (by decide) (by rfl) (pa_cons (pv 0) (pa_cons (pe_ifExp (pt_val (C8.pe_c c_law_rare hr (by decide) (by rfl) (pa_cons (pv 0) (pa_cons pe_int pa_nil)))) pe_int pe_int) pa_nil))) pa_nil)) (pg_name (i := 4) sc.nd rfl (by first | exact Or.inl rfl | exact Or.inr rfl))
    (pss_one (ps_expr (bmK K PySem.F.plainAttrs_list PySem.F.slot_list_append PySem.F.type_list_append mt_append (pv 3) (pa_cons (C8.pe_c c_law_pick hr (by decide) (by rfl) (pa_cons (pv 0) (pa_cons (pe_lc (own := [("k", 5)]) (by rfl) sc.nd (pi_range1 (by rfl) T.range (pa_cons (pe_callB (cLen K) (by rfl) T.len (by decide +kernel) (pa_cons (pv 2) pa_nil)) pa_nil)) (blkOk_by (N := ["d", "sizes", "edges", "word", "turn", "k"]) (sc := C8.fnScope s_law_word) (own := [("k", 5)]) (by decide +kernel)) (fun _ _ _ _ _ => (pg_name (i := 5) sc.nd rfl (by first | exact Or.inl rfl | exact Or.inr rfl))) (fun _ _ _ _ _ => (pts_one (pt_cmpR op_eq (pe_ix (ixT K) (pe_ix (ixT K) (pv 2) (pv 5) (fun _ _ => rfl)) pe_int (fun _ _ => rfl)) (pe_ix (ixT K) (pe_ix (ixT K) (pv 2) (pe_ix (ixL K) (pv 3) (pe_un un_neg pe_int) (fun _ _ => rfl)) (fun _ _ => rfl)) pe_int (fun _ _ => rfl)) (nomark _)))) (fun _ _ _ _ _ => (pv 5))) pa_nil))) pa_nil)))))
    (pss_cons (ps_if (pt_cmpR op_gt (C8.pe_c c_law_draw hr (by decide) (by rfl) (pa_cons (pv 0) (pa_cons pe_int pa_nil))) pe_int (nomark _))
    (pss_one (ps_for PassesOwn.never rfl (pi_range1 (by rfl) T.range (pa_cons (pe_callB (cLen K) (by rfl) T.len (by decide +kernel) (pa_cons (pv 1) pa_nil)) pa_nil)) (pg_name (i := 4) sc.nd rfl (by first | exact Or.inl rfl | exact Or.inr rfl))
    (pss_one (ps_if (pt_cmpR op_ne (pe_ix (ixT K) (pe_ix (ixT K) (pv 2) (pe_ix (ixL K) (pv 3) (pe_un un_neg pe_int) (fun _ _ => rfl)) (fun _ _ => rfl)) pe_int (fun _ _ => rfl)) (pe_ix (ixT K) (pe_ix (ixT K) (pv 2) (pe_ix (ixL K) (pv 3) pe_int (fun _ _ => rfl)) (fun _ _ => rfl)) pe_int (fun _ _ => rfl)) (nomark _))
    (pss_one (ps_expr (bmK K PySem.F.plainAttrs_list PySem.F.slot_list_append PySem.F.type_list_append mt_append (pv 3) (pa_cons (pe_ix (ixT K) (pe_ix (ixT K) (pv 2) (pe_ix (ixL K) (pv 3) (pe_un un_neg pe_int) (fun _ _ => rfl)) (fun _ _ => rfl)) pe_int (fun _ _ => rfl)) pa_nil))))
    pss_nil))))
    pss_nil)
    (pss_one (ps_ret (pe_callTy (cTup K) (by rfl) T.tuple (by decide +kernel) (pa_cons (pv 3) pa_nil))))))), ?_⟩
  show tSeq _ _ _ [some (.ref d), some v2, some v3, none, none, none] H
  obtain ⟨dys, hdd⟩ := D.at
  have hel := W.el
  have hn3 := W.n3
  have hn1 := W.n1
  have hel0 : 0 < edges.length := by
    obtain ⟨e, h, _⟩ := W.out 0 (by omega)
    exact (List.getElem?_eq_some_iff.mp h).1
  walk_at "rds"
  refine rd_lenT r3 ?_
  walk_at "rds"
  refine ⟨d, c, ns, _, rfl, D, by omega, fun r H1 a0 a1 e1 D1 => ?_⟩
  walk_at "rds"
  refine ⟨by show 1 ≤ sizeLine; decide, fun pw npw => ?_⟩
  walk_at "rds"
  obtain ⟨dy1, hd1⟩ := D1.at
  have npw0 : H pw = none := e1.free npw (ne_of_none hd1 npw).symm
  have nwd : pw ≠ d := (ne_of_none hd1 npw).symm
  have e2 := e1.ofEx (Ex.new (o := .lst [.int r]) npw)
  have D2 := D1.ex (Ex.new (o := .lst [.int r]) npw)
  have hw2 : upd H1 pw (.lst [.int r]) pw = some (.lst [.int r]) := upd_same
  have wo2 : WordOk edges [r] := ⟨by simp, by simp, fun z hz => by cases List.mem_singleton.mp hz; omega, fun i hi => by simp at hi⟩
  generalize upd H1 pw (.lst [.int r]) = H2 at e2 D2 hw2 ⊢
  refine rd_teJ (fun v H' => ∃ z : Int, v = .int z ∧ 0 ≤ z ∧ z ≤ 58 ∧ Eb d H2 H' ∧ DOk d c ns H') ?_ ?_
  · rintro _ H3 ⟨z, rfl, z0, z1, e3, D3⟩
    walk_at "rds"
    refine ⟨d, c, ns, _, rfl, D3, by omega, fun t1 H4 b0 b1 e4 D4 => ?_⟩
    walk_at "rds"
    refine r_range1 (by omega) (by omega) (fun i σ' H' => ∃ (j4 j5 : Option V) (wl : List Int), σ' = [some (.ref d), some v2, some v3, some (.ref pw), j4, j5] ∧ Eb d H H' ∧ DOk d c ns H' ∧ H' pw = some (.lst (wl.map V.int)) ∧ WordOk edges wl ∧ wl.length = i + 1) ?_ ?_ ?_
    · exact ⟨_, _, [r], rfl, (e2.trans e3).trans e4, D4, e4 _ _ nwd (e3 _ _ nwd hw2), wo2, rfl⟩
    · rintro i σ' H5 hi ⟨j4, j5, wl, rfl, e5, D5, hw5, wo, hwl⟩
      walk_at "rds"
      refine ⟨ty_lst hw5, ?_⟩
      walk_at "rds"
      obtain ⟨l0, l1⟩ := wo.num _ (getLastD_mem wo.ne)
      have r35 := Rep.mono (D.ti e5) r3
      refine rd_lenT r35 ?_
      walk_at "rds"
      refine lcRF (fun k => decide ((edgeAt edges (k : Int)).a = (edgeAt edges (wl.getLastD 0)).b)) (fun k => (k : Int)) (by omega) (by omega) (fun _ => rfl) (fun j H6 hj e6 Q' q => ?_) (fun j H6 hj _ e6 Q' q => ?_) (fun Dl ys H6 nDl e6 hDl rs => ?_)
      · have r36 := Rep.mono e6.ti r35
        have hw6 := e6 _ _ hw5
        walk_at "rds"
        refine rd_edge r36 (by omega) (by omega) fun we re => ?_
        walk_at "rds"
        refine rd_p3a re fun wa ra => ?_
        cases ra
        walk_at "rds"
        refine rd_last hw6 wo.ne ?_
        refine rd_edge r36 l0 l1 fun we2 re2 => ?_
        walk_at "rds"
        refine rd_p3b re2 fun wb rb => ?_
        cases rb
        walk_at "rds"
        exact q _ Ex.refl
      · walk_at "rds"
        exact q _ _ Ex.refl rfl
      · walk_at "rds"
        rw [rs.ints, Int.toNat_natCast] at hDl
        obtain ⟨dy5, hd5⟩ := D5.at
        obtain ⟨b0', b1', b2'⟩ := W.next l0 l1
        have hkin : ∀ x, x ∈ kept edges.length (fun k => decide ((edgeAt edges (k : Int)).a = (edgeAt edges (wl.getLastD 0)).b)) (fun k => (k : Int)) ↔ ∃ k : Nat, x = (k : Int) ∧ k < edges.length ∧ (edgeAt edges (k : Int)).a = (edgeAt edges (wl.getLastD 0)).b := fun x => by
          unfold kept
          rw [List.mem_map]
          constructor
          · rintro ⟨k, hk, rfl⟩
            obtain ⟨h1, h2⟩ := List.mem_filter.mp hk
            exact ⟨k, rfl, List.mem_range.mp h1, of_decide_eq_true h2⟩
          · rintro ⟨k, rfl, h1, h2⟩
            exact ⟨k, List.mem_filter.mpr ⟨List.mem_range.mpr h1, decide_eq_true h2⟩, rfl⟩
        have hne : 0 < (kept edges.length (fun k => decide ((edgeAt edges (k : Int)).a = (edgeAt edges (wl.getLastD 0)).b)) (fun k => (k : Int))).length := by
          refine List.length_pos_of_mem ((hkin (edgeAt edges (wl.getLastD 0)).b).mpr ⟨(edgeAt edges (wl.getLastD 0)).b.toNat, by omega, by omega, ?_⟩)
          rw [Int.toNat_of_nonneg b0']
          exact b2'
        have hle : (kept edges.length (fun k => decide ((edgeAt edges (k : Int)).a = (edgeAt edges (wl.getLastD 0)).b)) (fun k => (k : Int))).length ≤ edges.length := by
          unfold kept
          rw [List.length_map]
          exact Nat.le_trans (List.length_filter_le _ _) (by rw [List.length_range]; exact Nat.le_refl _)
        refine ⟨d, c, ns, Dl, _, rfl, D5.ex e6, hDl, (ne_of_none hd5 nDl).symm, by rw [List.length_map]; exact hne, by rw [List.length_map]; omega, fun x H7 hx e7 D7 => ?_⟩
        obtain ⟨xz, hxz, rfl⟩ := List.mem_map.mp hx
        obtain ⟨kk, rfl, hk1, hk2⟩ := (hkin xz).mp hxz
        have hw7 := e7 _ _ nwd (e6 _ _ hw5)
        walk_at "rds"
        refine rd_app hw7 (by rw [List.length_map, hwl]; omega) ?_
        walk_at "rds"
        refine ⟨_, _, wl ++ [(kk : Int)], rfl, ((e5.ofEx e6).trans e7).mut npw0, D7.upd' D npw0, by rw [upd_same, List.map_append]; rfl, wo.snoc (by omega) (by omega) hk2.symm (by omega), by rw [List.length_append, hwl]; rfl⟩
    · rintro σ' H5 ⟨j4, j5, wl, rfl, e5, D5, hw5, wo, hwl⟩
      have hwl59 : wl.length ≤ 59 := by
        have : t1 < max z 1 := b1
        omega
      have fin : ∀ (σ0 : L2.St) H6 (wl : List Int), (∃ j4 j5, σ0 = [some (.ref d), some v2, some v3, some (.ref pw), j4, j5]) → Eb d H H6 → DOk d c ns H6 → H6 pw = some (.lst (wl.map V.int)) → WordOk edges wl → tRet (tCB (rTupOf K) (tCons (tVar 3) tNil)) ⟨fun _ H' => Q .non H', Q, fun _ _ => True, fun _ _ => True⟩ σ0 H6 := by
        rintro σ0 H6 wl ⟨j4, j5, rfl⟩ e6 D6 hw6 wo6
        walk_at "rds"
        refine rd_tupOf hw6 fun pt npt => ?_
        exact k _ _ wl (e6.ofEx (Ex.new npt)) (D6.ex (Ex.new npt)) (rep_new npt Reps.of_ints) wo6
      walk_at "rds"
      refine ⟨d, c, ns, _, rfl, D5, by decide, fun t2 H6 c0 c1 e6 D6 => ?_⟩
      have hw6 := e6 _ _ nwd hw5
      walk_at "rds"
      refine rd_dec (fun _ => ?_) (fun _ => ?_)
      · walk_at "rds"
        have r26 := Rep.mono (D.ti (e5.trans e6)) r2
        refine rd_lenT r26 ?_
        walk_at "rds"
        refine r_range1 (by omega) (by omega) (fun i σ' H' => ∃ (j4 : Option V) (wl : List Int), σ' = [some (.ref d), some v2, some v3, some (.ref pw), j4, j5] ∧ Eb d H H' ∧ DOk d c ns H' ∧ H' pw = some (.lst (wl.map V.int)) ∧ WordOk edges wl ∧ wl.length ≤ 59 + i) ?_ ?_ ?_
        · exact ⟨_, wl, rfl, e5.trans e6, D6, hw6, wo, by omega⟩
        · clear hwl59 hwl wo hw6 hw5
          rintro i σ' H7 hi ⟨j4, wl, rfl, e7, D7, hw7, wo, hwl⟩
          obtain ⟨l0, l1⟩ := wo.num _ (getLastD_mem wo.ne)
          have hpos : 0 < wl.length := List.length_pos_iff.mpr wo.ne
          obtain ⟨f0, f1⟩ := wo.at hpos
          have r37 := Rep.mono (D.ti e7) r3
          walk_at "rds"
          refine rd_last hw7 wo.ne ?_
          refine rd_edge r37 l0 l1 fun we2 re2 => ?_
          walk_at "rds"
          refine rd_p3b re2 fun wb rb => ?_
          cases rb
          walk_at "rds"
          refine rd_ixLI hw7 (by decide) (by omega) ?_
          refine rd_edge r37 f0 f1 fun we re => ?_
          walk_at "rds"
          refine rd_p3a re fun wa ra => ?_
          cases ra
          walk_at "rds"
          refine rd_ndec (fun _ => ?_) (fun _ => ?_)
          · walk_at "rds"
            refine ⟨ty_lst hw7, ?_⟩
            walk_at "rds"
            refine rd_last hw7 wo.ne ?_
            refine rd_edge r37 l0 l1 fun we3 re3 => ?_
            walk_at "rds"
            refine rd_p3b re3 fun wb3 rb3 => ?_
            cases rb3
            walk_at "rds"
            refine rd_app hw7 (by rw [List.length_map]; omega) ?_
            walk_at "rds"
            obtain ⟨b0', b1', b2'⟩ := W.next l0 l1
            refine ⟨_, wl ++ [(edgeAt edges (wl.getLastD 0)).b], rfl, e7.mut npw0, D7.upd' D npw0, by rw [upd_same, List.map_append]; rfl, wo.snoc b0' b1' b2'.symm (by omega), by rw [List.length_append]; show _ + 1 ≤ _; omega⟩
          · walk_at "rds"
            exact ⟨_, wl, rfl, e7, D7, hw7, wo, by omega⟩
        · rintro σ' H7 ⟨j4, wl, rfl, e7, D7, hw7, wo, hwl⟩
          exact fin _ _ wl ⟨_, _, rfl⟩ e7 D7 hw7 wo
      · walk_at "rds"
        refine rd_tupOf hw6 fun pt npt => ?_
        exact k _ _ wl ((e5.trans e6).ofEx (Ex.new npt)) (D6.ex (Ex.new npt)) (rep_new npt Reps.of_ints) wo
  · intro Q' q
    refine rd_ifE ?_
    walk_at "rds"
    refine ⟨d, c, ns, _, rfl, D2, by decide, fun b H3 e3 D3 => ?_⟩
    walk_at "rds"
    refine rd_ite (fun _ => ?_) (fun _ => ?_)
    · walk_at "rds"
      exact q _ _ ⟨58, rfl, by decide, by decide, e3, D3⟩
    · walk_at "rds"
      exact q _ _ ⟨12, rfl, by decide, by decide, e3, D3⟩
end
end Fw
namespace Fw
open PySem PySem.Spec PyProof.Rows L2
open Rep (rep)
/-! ### the most falls, in plain numbers: -1 stands for no thread -/
def mxF : Nat → (Nat → Int) → Int
  | 0, _ => -1
  | n + 1, g => max (mxF n g) (g n)
theorem mxF_ge : ∀ (n : Nat) (g : Nat → Int), -1 ≤ mxF n g
  | 0, _ => Int.le_refl _
  | n + 1, g => by have := mxF_ge n g; show -1 ≤ max _ _; omega
theorem le_mxF : ∀ {n : Nat} {g : Nat → Int} {k : Nat}, k < n → g k ≤ mxF n g
  | 0, _, _, h => by omega
  | n + 1, g, k, h => by
    show _ ≤ max _ _
    by_cases e : k = n
    · subst e; omega
    · have := le_mxF (g := g) (show k < n by omega); omega
theorem mxF_le : ∀ {n : Nat} {g : Nat → Int} {m : Int}, -1 ≤ m → (∀ k, k < n → g k ≤ m) → mxF n g ≤ m
  | 0, _, _, h, _ => h
  | n + 1, g, m, h, hk => by
    have h1 := mxF_le h (fun k hkn => hk k (Nat.lt_succ_of_lt hkn))
    have h2 := hk n (Nat.lt_succ_self n)
    show max _ _ ≤ _
    omega
theorem mxF_iff : ∀ {n : Nat} {g : Nat → Int} {z : Int}, 0 ≤ z → (z ≤ mxF n g ↔ ∃ k, k < n ∧ z ≤ g k)
  | 0, _, z, h => ⟨fun q => by have : z ≤ -1 := q; omega, fun ⟨k, h, _⟩ => by omega⟩
  | n + 1, g, z, h => by
    have ih := mxF_iff (n := n) (g := g) h
    constructor
    · intro q
      have q : z ≤ max (mxF n g) (g n) := q
      by_cases h1 : z ≤ g n
      · exact ⟨n, by omega, h1⟩
      · obtain ⟨k, h2, h3⟩ := ih.mp (by omega)
        exact ⟨k, by omega, h3⟩
    · rintro ⟨k, h2, h3⟩
      exact Int.le_trans h3 (le_mxF h2)
theorem mxF_congr {n : Nat} {g h : Nat → Int} (e : ∀ k, k < n → g k = h k) : mxF n g = mxF n h := by
  refine Int.le_antisymm (mxF_le (mxF_ge n h) fun k hk => ?_) (mxF_le (mxF_ge n g) fun k hk => ?_)
  · rw [e k hk]; exact le_mxF hk
  · rw [← e k hk]; exact le_mxF hk
theorem eq_of_low {a b : Int} (h1 : -1 ≤ a) (h2 : -1 ≤ b) (h : ∀ z, 0 ≤ z → (z ≤ a ↔ z ≤ b)) : a = b := by
  by_cases ha : 0 ≤ a
  · have := (h a ha).mp (Int.le_refl _)
    have := (h b (by omega)).mpr (Int.le_refl _)
    omega
  · by_cases hb : 0 ≤ b
    · have := (h b hb).mpr (Int.le_refl _)
      omega
    · omega
/-- max([-1] + [f k for k in range(n) if p k]) -/
theorem mx_kept {n : Nat} {p : Nat → Bool} {f : Nat → Int} {m : Int} (hm : m ∈ (-1) :: kept n p f) (hall : ∀ y ∈ (-1) :: kept n p f, y ≤ m) : m = mxF n (fun k => if p k = true then f k else -1) := by
  have inn : ∀ k, k < n → p k = true → f k ∈ (-1) :: kept n p f := fun k hk hp => List.mem_cons_of_mem _ (List.mem_map.mpr ⟨k, List.mem_filter.mpr ⟨List.mem_range.mpr hk, hp⟩, rfl⟩)
  refine Int.le_antisymm ?_ (mxF_le (hall _ List.mem_cons_self) fun k hk => ?_)
  · rcases List.mem_cons.mp hm with rfl | h
    · exact mxF_ge _ _
    · obtain ⟨k, hk, rfl⟩ := List.mem_map.mp h
      obtain ⟨h1, h2⟩ := List.mem_filter.mp hk
      have := le_mxF (g := fun k => if p k = true then f k else -1) (List.mem_range.mp h1)
      rw [if_pos h2] at this
      exact this
  · by_cases h : p k = true
    · rw [if_pos h]; exact hall _ (inn k hk h)
    · rw [if_neg h]; exact hall _ List.mem_cons_self
/-- max([-1] + [f 0, ..]) -/
theorem mx_all {n : Nat} {f : Nat → Int} {m : Int} (hm : m ∈ (-1) :: (List.range n).map f) (hall : ∀ y ∈ (-1) :: (List.range n).map f, y ≤ m) : m = mxF n f := by
  have e : (List.range n).map f = kept n (fun _ => true) f := by
    unfold kept
    rw [List.filter_eq_self.mpr (fun _ _ => rfl)]
  rw [e] at hm hall
  exact mx_kept hm hall
def unitF (p o : Nat) : Int := if o = p then 0 else -1
/-- one edge further -/
def sv (t : Tab) (n : Nat) (f : Nat → Int) (o : Nat) : Int := mxF n (fun k => if (decide (0 ≤ f k) && decide (0 < tg t k o)) = true then f k + (if tg t k o = 2 then 1 else 0) else -1)
theorem sv_iff {t : Tab} {n : Nat} {f : Nat → Int} {o : Nat} {z : Int} (hz : 0 ≤ z) : z ≤ sv t n f o ↔ ∃ k, k < n ∧ 0 ≤ f k ∧ 0 < tg t k o ∧ z ≤ f k + (if tg t k o = 2 then 1 else 0) := by
  unfold sv
  rw [mxF_iff hz]
  refine exists_congr fun k => and_congr_right fun _ => ?_
  by_cases h : 0 ≤ f k ∧ 0 < tg t k o
  · rw [if_pos (by rw [decide_eq_true h.1, decide_eq_true h.2]; rfl)]
    exact ⟨fun q => ⟨h.1, h.2, q⟩, fun q => q.2.2⟩
  · rw [if_neg (fun q => h (by rw [Bool.and_eq_true] at q; exact ⟨of_decide_eq_true q.1, of_decide_eq_true q.2⟩))]
    exact ⟨fun q => by omega, fun q => absurd ⟨q.1, q.2.1⟩ h⟩
theorem sv_congr {t : Tab} {n : Nat} {f g : Nat → Int} (h : ∀ k, k < n → f k = g k) : sv t n f = sv t n g := by
  funext o
  exact mxF_congr fun k hk => by rw [h k hk]
def combF (s : Nat) (G : Nat → Nat → Int) (f : Nat → Int) (o : Nat) : Int := mxF s (fun k => if (decide (0 ≤ f k) && decide (0 ≤ G k o)) = true then f k + G k o else -1)
theorem combF_iff {s : Nat} {G : Nat → Nat → Int} {f : Nat → Int} {o : Nat} {z : Int} (hz : 0 ≤ z) : z ≤ combF s G f o ↔ ∃ k, k < s ∧ 0 ≤ f k ∧ 0 ≤ G k o ∧ z ≤ f k + G k o := by
  unfold combF
  rw [mxF_iff hz]
  refine exists_congr fun k => and_congr_right fun _ => ?_
  by_cases h : 0 ≤ f k ∧ 0 ≤ G k o
  · rw [if_pos (by rw [decide_eq_true h.1, decide_eq_true h.2]; rfl)]
    exact ⟨fun q => ⟨h.1, h.2, q⟩, fun q => q.2.2⟩
  · rw [if_neg (fun q => h (by rw [Bool.and_eq_true] at q; exact ⟨of_decide_eq_true q.1, of_decide_eq_true q.2⟩))]
    exact ⟨fun q => by omega, fun q => absurd ⟨q.1, q.2.1⟩ h⟩
/-- along a word -/
def wv (sizes : List Int) (edges : List Edge) (f : Nat → Int) (l : List Int) : Nat → Int := l.foldl (fun f z => sv (edgeAt edges z).c (szN sizes (edgeAt edges z).a) f) f
theorem wv_snoc {sizes : List Int} {edges : List Edge} {f : Nat → Int} {l : List Int} {z : Int} : wv sizes edges f (l ++ [z]) = sv (edgeAt edges z).c (szN sizes (edgeAt edges z).a) (wv sizes edges f l) := by
  unfold wv
  rw [List.foldl_append]
  rfl
/-- the size that a word's first i edges lead to -/
def szAt (sizes : List Int) (edges : List Edge) (word : List Int) (i : Nat) : Nat := if i = 0 then szN sizes (edgeAt edges (word.getD 0 0)).a else szN sizes (edgeAt edges (word.getD (i - 1) 0)).b
theorem szAt_succ {sizes : List Int} {edges : List Edge} {word : List Int} {i : Nat} : szAt sizes edges word (i + 1) = szN sizes (edgeAt edges (word.getD i 0)).b := by
  unfold szAt
  rw [if_neg (by omega), Nat.add_sub_cancel]
theorem szAt_eq {sizes : List Int} {edges : List Edge} {word : List Int} (wo : WordOk edges word) {i : Nat} (hi : i < word.length) : szN sizes (edgeAt edges (word.getD i 0)).a = szAt sizes edges word i := by
  unfold szAt
  by_cases h : i = 0
  · subst h; rw [if_pos rfl]
  · rw [if_neg h, wo.chain (i - 1) (by omega), show i - 1 + 1 = i by omega]
theorem take_succ' {l : List Int} {i : Nat} (hi : i < l.length) : l.take (i + 1) = l.take i ++ [l.getD i 0] := by
  rw [List.take_add_one, List.getElem?_eq_getElem hi, List.getD_eq_getElem?_getD, List.getElem?_eq_getElem hi]
  rfl
theorem wv_ge {sizes : List Int} {edges : List Edge} {f : Nat → Int} (hf : ∀ o, -1 ≤ f o) : ∀ (l : List Int) (o : Nat), -1 ≤ wv sizes edges f l o := by
  intro l
  unfold wv
  induction l generalizing f with
  | nil => exact hf
  | cons z l ih => exact ih fun o => mxF_ge _ _
theorem unitF_ge {p o : Nat} : -1 ≤ unitF p o := by unfold unitF; split <;> decide
/-- a word's step is linear -/
theorem wv_lin {sizes : List Int} {edges : List Edge} {word : List Int} (wo : WordOk edges word) {f : Nat → Int} : ∀ i, i ≤ word.length → ∀ o, o < szAt sizes edges word i → ∀ z : Int, 0 ≤ z →
    (z ≤ wv sizes edges f (word.take i) o ↔ ∃ k, k < szAt sizes edges word 0 ∧ 0 ≤ f k ∧ 0 ≤ wv sizes edges (unitF k) (word.take i) o ∧ z ≤ f k + wv sizes edges (unitF k) (word.take i) o)
  | 0, _, o, ho, z, hz => by
    rw [List.take_zero]
    show z ≤ f o ↔ ∃ k, k < _ ∧ 0 ≤ f k ∧ 0 ≤ unitF k o ∧ z ≤ f k + unitF k o
    unfold unitF
    constructor
    · intro h
      exact ⟨o, ho, by omega, by rw [if_pos rfl]; decide, by rw [if_pos rfl]; omega⟩
    · rintro ⟨k, h1, h2, h3, h4⟩
      by_cases e : o = k
      · subst e
        rw [if_pos rfl] at h4
        omega
      · rw [if_neg e] at h3
        omega
  | i + 1, hi, o, ho, z, hz => by
    have ih := wv_lin (sizes := sizes) (f := f) wo i (by omega)
    rw [take_succ' (by omega), wv_snoc, sv_iff hz]
    have en := szAt_eq (sizes := sizes) wo (show i < word.length by omega)
    rw [en]
    constructor
    · rintro ⟨j, hj, h1, h2, h3⟩
      obtain ⟨k, k1, k2, k3, k4⟩ := (ih j hj _ h1).mp (Int.le_refl _)
      have hb : (0 : Int) ≤ if tg (edgeAt edges (word.getD i 0)).c j o = 2 then 1 else 0 := by split <;> decide
      have hg := (sv_iff (t := (edgeAt edges (word.getD i 0)).c) (n := szAt sizes edges word i) (f := wv sizes edges (unitF k) (word.take i)) (o := o) (z := wv sizes edges (unitF k) (word.take i) j + if tg (edgeAt edges (word.getD i 0)).c j o = 2 then 1 else 0) (by omega)).mpr ⟨j, hj, k3, h2, Int.le_refl _⟩
      refine ⟨k, k1, k2, ?_, ?_⟩
      · rw [wv_snoc, en]; omega
      · rw [wv_snoc, en]; omega
    · rintro ⟨k, k1, k2, k3, k4⟩
      rw [wv_snoc, en] at k3 k4
      obtain ⟨j, hj, h1, h2, h3⟩ := (sv_iff k3).mp (Int.le_refl _)
      have := (ih j hj (f k + wv sizes edges (unitF k) (word.take i) j) (by omega)).mpr ⟨k, k1, k2, h1, Int.le_refl _⟩
      exact ⟨j, hj, by omega, h2, by omega⟩
theorem wv_comb {sizes : List Int} {edges : List Edge} {word : List Int} (wo : WordOk edges word) {f : Nat → Int} (hf : ∀ o, -1 ≤ f o) {o : Nat} (ho : o < szAt sizes edges word word.length) :
    wv sizes edges f word o = combF (szAt sizes edges word 0) (fun k => wv sizes edges (unitF k) word) f o := by
  refine eq_of_low (wv_ge hf _ _) (mxF_ge _ _) fun z hz => ?_
  have h := wv_lin (sizes := sizes) (f := f) wo word.length (Nat.le_refl _) o ho z hz
  rw [List.take_length] at h
  rw [h, combF_iff hz]
theorem wv_congr {sizes : List Int} {edges : List Edge} {word : List Int} (wo : WordOk edges word) {f g : Nat → Int} (h : ∀ k, k < szAt sizes edges word 0 → f k = g k) : wv sizes edges f word = wv sizes edges g word := by
  cases word with
  | nil => exact absurd rfl wo.ne
  | cons z l =>
    show wv sizes edges (sv _ _ f) l = wv sizes edges (sv _ _ g) l
    rw [sv_congr (n := szN sizes (edgeAt edges z).a) (f := f) (g := g) h]
def iterF (h : (Nat → Int) → Nat → Int) : Nat → (Nat → Int) → Nat → Int
  | 0, f => f
  | t + 1, f => h (iterF h t f)
/-- the size behind so many turns -/
def szT (sizes : List Int) (edges : List Edge) (word : List Int) (turns : Nat) : Nat := if turns = 0 then szAt sizes edges word 0 else szAt sizes edges word word.length
theorem szAt_back {sizes : List Int} {edges : List Edge} {word : List Int} (wo : WordOk edges word) (h : backW edges word) : szAt sizes edges word word.length = szAt sizes edges word 0 := by
  have hp : 0 < word.length := List.length_pos_iff.mpr wo.ne
  unfold szAt
  rw [if_neg (by omega), if_pos rfl]
  unfold backW at h
  rw [← h, last_getD wo.ne]
theorem iter_ge {sizes : List Int} {edges : List Edge} {word : List Int} {f : Nat → Int} (hf : ∀ o, -1 ≤ f o) : ∀ t o, -1 ≤ iterF (fun f => wv sizes edges f word) t f o
  | 0, o => hf o
  | t + 1, o => wv_ge (iter_ge hf t) _ _
theorem iter_comb {sizes : List Int} {edges : List Edge} {word : List Int} (wo : WordOk edges word) {f : Nat → Int} (hf : ∀ o, -1 ≤ f o) : ∀ t, (t ≤ 1 ∨ backW edges word) → ∀ o, o < szT sizes edges word t →
    iterF (fun f => wv sizes edges f word) t f o = iterF (combF (szAt sizes edges word 0) (fun k => wv sizes edges (unitF k) word)) t f o
  | 0, _, _, _ => rfl
  | t + 1, hb, o, ho => by
    have hszt : szT sizes edges word t = szAt sizes edges word 0 := by
      unfold szT
      by_cases h : t = 0
      · rw [if_pos h]
      · rw [if_neg h]
        exact szAt_back wo (by rcases hb with h2 | h2; omega; exact h2)
    have ih := iter_comb (sizes := sizes) wo hf t (by rcases hb with h | h; exact .inl (by omega); exact .inr h)
    rw [hszt] at ih
    have ho' : o < szAt sizes edges word word.length := by
      unfold szT at ho
      rw [if_neg (by omega)] at ho
      exact ho
    show wv sizes edges (iterF (fun f => wv sizes edges f word) t f) word o = combF _ _ (iterF (combF _ _) t f) o
    rw [wv_comb wo (iter_ge hf t) ho']
    exact mxF_congr fun k hk => by rw [ih k hk]
/-- what the law asks of thread_falls -/
theorem falls_eq {sizes : List Int} {edges : List Edge} {word : List Int} (wo : WordOk edges word) {t start : Nat} (hb : t ≤ 1 ∨ backW edges word) :
    mxF (szT sizes edges word t) (iterF (fun f => wv sizes edges f word) t (unitF start)) = mxF (szT sizes edges word t) (iterF (combF (szAt sizes edges word 0) (fun k => wv sizes edges (unitF k) word)) t (unitF start)) :=
  mxF_congr fun o ho => iter_comb wo (fun _ => unitF_ge) t hb o ho
end Fw
namespace Fw
open PySem PySem.Spec PyProof.Rows L2
open Rep (rep)
local macro_rules | `(tactic| walk_at "rd") => `(tactic| first
  | with_reducible apply rd_seq | with_reducible apply rd_asg | with_reducible apply rd_name | with_reducible apply rd_ret | with_reducible apply rd_drop | with_reducible apply rd_if
  | ((with_reducible refine' rd_var ?e ?h); (case e => exact rfl)) | with_reducible apply rd_c | with_reducible apply rd_op | with_reducible apply rd_un | with_reducible apply rd_I0 | with_reducible apply rd_U
  | with_reducible apply rd_eqI | with_reducible apply rd_neI | with_reducible apply rd_eqB | with_reducible apply rd_eqS | with_reducible apply rd_neS | with_reducible apply rd_tB | with_reducible apply rd_test | with_reducible apply rd_bl | with_reducible apply rd_not | with_reducible apply rd_and | with_reducible apply rd_or
  | with_reducible apply rd_andV | with_reducible apply rd_orV | with_reducible apply rd_notV | with_reducible apply rd_chain | with_reducible apply rd_nil | with_reducible apply rd_cons | with_reducible apply rd_CB | with_reducible apply rd_call | with_reducible apply rd_for
  | with_reducible apply rd_next | with_reducible apply rd_brk | with_reducible apply rd_cont | with_reducible apply rd_tup | with_reducible apply rd_lst | with_reducible apply rd_sub | with_reducible apply rd_BM | with_reducible apply rd_BM0
  | with_reducible apply rd_yes | with_reducible apply rd_nope | with_reducible apply rd_yes2 | with_reducible apply rd_nope2 | with_reducible apply rd_gCons | with_reducible apply rd_gNil | with_reducible apply rd_iTup | with_reducible apply rd_iList | with_reducible apply rd_iRng1 | with_reducible apply rd_iRng2
  | with_reducible apply rd_lc | with_reducible apply rd_augS | ((with_reducible refine' rd_aug ?e ?h); (case e => exact rfl)) | with_reducible apply rd_ip
  | with_reducible apply rd_din | with_reducible apply rd_dnotin | with_reducible apply rd_dget | with_reducible apply rd_dget1 | with_reducible apply rd_dget2 | with_reducible apply rd_dput | with_reducible apply rd_disp1T | with_reducible apply rd_dnewK | with_reducible apply rd_dnewT | with_reducible apply rd_iItems | with_reducible apply rd_iItemsT | with_reducible apply rd_iVals | with_reducible apply rd_sl | with_reducible apply rd_noPart | with_reducible apply rd_part | with_reducible apply rd_int | with_reducible apply rd_inN | with_reducible apply rd_inS | with_reducible apply rd_isN0 | with_reducible apply rd_isS0
  | with_reducible apply rd_max2 | with_reducible apply rd_min2 | with_reducible apply rd_max3 | with_reducible apply rd_intI | with_reducible apply rd_intB | with_reducible apply rd_abs)
local macro_rules | `(tactic| walk_at "rds") => `(tactic| repeat walk_at "rd")
local macro_rules | `(tactic| walk_at "sz") => `(tactic| exact Nat.le_trans (show _ ≤ 1000 by simp) (by decide))
local macro_rules | `(tactic| walk_at "hp") => `(tactic| first
  | with_reducible assumption | with_reducible exact upd_same
  | ((with_reducible refine' hp_ne ?n ?h); (case n => walk_at "ne"); (case h => walk_at "hp"))
  | ((with_reducible refine' Ex.get ?e ?h); (case e => with_reducible assumption); (case h => walk_at "hp"))
  | ((with_reducible refine' Eb.get ?e ?n ?h); (case e => with_reducible assumption); (case n => walk_at "ne"); (case h => walk_at "hp")))
local macro_rules | `(tactic| walk_at "ne") => `(tactic| first
  | with_reducible assumption | (apply Ne.symm; with_reducible assumption)
  | ((with_reducible refine' ne_non ?h ?n); (case n => with_reducible assumption); (case h => walk_at "hp"))
  | (apply Ne.symm; with_reducible refine' ne_non ?h ?n; (case n => with_reducible assumption); (case h => walk_at "hp")))
local macro_rules | `(tactic| walk_at "ti") => `(tactic| first
  | with_reducible assumption | with_reducible exact Ti.refl | (with_reducible exact Ex.ti (by with_reducible assumption))
  | ((with_reducible refine' Ti.trans ?a (Ti.new ?b)); (case b => with_reducible assumption); (case a => walk_at "ti"))
  | ((with_reducible refine' Ti.trans ?a (Ti.lst ?b)); (case b => walk_at "hp"); (case a => walk_at "ti"))
  | ((with_reducible refine' Ti.trans ?a (Ti.dK ?b)); (case b => walk_at "hp"); (case a => walk_at "ti"))
  | ((with_reducible refine' Ti.trans ?a (Ti.dT ?b)); (case b => walk_at "hp"); (case a => walk_at "ti"))
  | ((with_reducible refine' Ti.trans ?a ?b); (case b => with_reducible assumption); (case a => walk_at "ti"))
  | ((with_reducible refine' Ti.trans ?a (Ex.ti ?b)); (case b => with_reducible assumption); (case a => walk_at "ti")))
local macro_rules | `(tactic| walk_at "ex") => `(tactic| first
  | with_reducible assumption | with_reducible exact Ex.refl
  | ((with_reducible refine' Ex.mut ?a ?b); (case b => with_reducible assumption); (case a => walk_at "ex"))
  | ((with_reducible refine' Ex.trans ?a (Ex.new ?b)); (case b => with_reducible assumption); (case a => walk_at "ex"))
  | ((with_reducible refine' Ex.trans ?a ?b); (case b => with_reducible assumption); (case a => walk_at "ex")))
local macro_rules | `(tactic| walk_at "rp") => `(tactic| first
  | with_reducible assumption
  | ((with_reducible refine' Rep.mono (Ex.ti ?e) ?h); (case e => with_reducible assumption); (case h => with_reducible assumption))
  | ((with_reducible refine' Rep.mono ?t ?h); (case t => with_reducible assumption); (case h => with_reducible assumption))
  | ((with_reducible refine' Rep.mono ?t ?h); (case h => with_reducible assumption); (case t => walk_at "ti"))
  | ((with_reducible refine' Reps.mono (Ex.ti ?e) ?h); (case e => with_reducible assumption); (case h => with_reducible assumption))
  | ((with_reducible refine' Reps.mono ?t ?h); (case h => with_reducible assumption); (case t => walk_at "ti")))
def IntsAt (H : Hp) (p : Addr) (m : Nat) (g : Nat → Int) : Prop := H p = some (.lst (((List.range m).map g).map V.int))
def Rows (H : Hp) (u : V) (n m : Nat) (G : Nat → Nat → Int) : Prop := ∃ (pm : Addr) (ps : List Addr), u = .ref pm ∧ H pm = some (.lst (ps.map V.ref)) ∧ ps.length = n ∧ ∀ i p, ps[i]? = some p → IntsAt H p m (G i)
theorem Rows.ex {H H' : Hp} {u : V} {n m : Nat} {G : Nat → Nat → Int} (h : Rows H u n m G) (e : Ex H H') : Rows H' u n m G := let ⟨pm, ps, a, b, c, d⟩ := h; ⟨pm, ps, a, e _ _ b, c, fun i p q => e _ _ (d i p q)⟩
theorem getD_range {m k : Nat} {g : Nat → Int} (h : k < m) : ((List.range m).map g).getD k 0 = g k := by
  rw [List.getD_eq_getElem?_getD, List.getElem?_map, List.getElem?_range h]
  rfl
section
variable {σ : L2.St} {H : Hp} {K : PySem.W.Frag} {te : TE} {vs : List Nat} {Q : VK} {k : Nat}
theorem rd_ixA {p : Addr} {m j : Nat} {g : Nat → Int} (h : IntsAt H p m g) (hj : j < m) (q : Q (.int (g j)) H) : rIxL K (.ref p) (.int (j : Int)) H Q := by
  refine rd_ixLI h (by omega) (by simp; exact hj) ?_
  rw [Int.toNat_natCast, getD_range hj]
  exact q
theorem rd_lenA {p : Addr} {m : Nat} {g : Nat → Int} (h : IntsAt H p m g) (q : Q (.int (m : Int)) H) : rLen' K [V.ref p] H Q := by
  refine rd_lenL h ?_
  rw [List.length_map, List.length_map, List.length_range]
  exact q
theorem lcRows {n m : Nat} (G : Nat → Nat → Int) (hn : n ≤ 1000) (hw : ∀ v, wipe ((wipe σ vs).set k v) vs = wipe σ vs)
    (hs : ∀ (i : Nat) H', i < n → Ex H H' → ∀ Q' : VK, (∀ p H4, H' p = none → Ex H' H4 → IntsAt H4 p m (G i) → Q' (.ref p) H4) → te ((wipe σ vs).set k (some (.int (i : Int)))) H' Q')
    (hd : ∀ D H', H D = none → Ex H H' → Rows H' (.ref D) n m G → Q (.ref D) H') :
    ∃ j : Int, [V.int (n : Int)] = [V.int j] ∧ -(2 ^ 62) ≤ j ∧ j < 2 ^ 62 ∧ LcW (gName k) tYes te vs σ Q (Itr 0 j.toNat) H := by
  refine lcR_raw (by omega) (by omega) (fun D i ys H' => ∃ ps : List Addr, ys = ps.map V.ref ∧ Ex H H' ∧ H' D = some (.lst (ps.map V.ref)) ∧ ps.length = i ∧ D ∉ ps ∧ ∀ j p, ps[j]? = some p → IntsAt H' p m (G j)) hw (fun D h => ⟨[], rfl, Ex.new h, upd_same, rfl, fun h => (nomatch h), fun j p h => by simp at h⟩)
    (fun D i ys H' hD hi ⟨ps, e, ex, hDl, hl, nD, hp⟩ => fun Q' q => ?_) (fun D ys H' hD ⟨ps, e, ex, hDl, hl, nD, hp⟩ => hd D H' hD ex ⟨D, ps, rfl, hDl, by rw [hl, Int.toNat_natCast], hp⟩)
  subst e
  refine hs i H' (by omega) ex Q' fun p H4 np e4 ro => ?_
  have hD4 := e4 _ _ hDl
  have hpD : p ≠ D := (ne_of_none hDl np).symm
  refine q _ _ hD4 ⟨ps ++ [p], by rw [List.map_append]; rfl, Ex.mut (ex.trans e4) hD, by rw [upd_same, List.map_append]; rfl, by rw [List.length_append, hl]; rfl, fun h => ?_, fun j p' hj => ?_⟩
  · rcases List.mem_append.mp h with h | h
    · exact nD h
    · exact hpD (List.mem_singleton.mp h).symm
  · by_cases h : j < ps.length
    · rw [List.getElem?_append_left h] at hj
      have hne : p' ≠ D := fun e => nD (by rw [← e]; exact List.mem_of_getElem? hj)
      show upd _ _ _ _ = _
      rw [upd_ne hne]
      exact e4 _ _ (hp j p' hj)
    · rw [List.getElem?_append_right (by omega)] at hj
      have hj0 : j - ps.length = 0 := by
        have := (List.getElem?_eq_some_iff.mp hj).1
        simp at this
        omega
      rw [hj0] at hj
      simp at hj
      subst hj
      have : j = i := by omega
      subst this
      show upd _ _ _ _ = _
      rw [upd_ne hpD]
      exact ro
end
section
variable {P : Program} {w : World} {K : PySem.W.Frag} {mg : Str → Option Value} {base : Heap}
def spMost : Sp := fun vs H Q _ => ∃ (u : V) (place turns s m : Nat) (G : Nat → Nat → Int), vs = [u, .int (place : Int), .int (turns : Int)] ∧ Rows H u s m G ∧ 0 < s ∧ s ≤ 50 ∧ m ≤ 50 ∧ turns ≤ 1000 ∧ (turns ≤ 1 ∨ m = s) ∧
  ∀ H', Ex H H' → Q (.int (mxF (if turns = 0 then s else m) (iterF (combF s G) turns (unitF place)))) H'
abbrev s_law_most : Stmt := topS 25
theorem sc_law_most : FnScope ["gains", "place", "turns", "best", "k", "turn", "onward", "column", "ways"] ["gains", "place", "turns"] (C8.fnScope s_law_most) := C8.fnScope_by (by decide +kernel)
theorem ok_most (F : Df K mg "_law_most" s_law_most ["gains", "place", "turns"]) (T : Bt mg) : C8.Cal P w K mg base 1 "_law_most" spMost [] := by
  have sc := sc_law_most
  refine F.cal sc (fun vs H Q E h => ?_) (fun f cdv A outer s H vs Q E hr h => ?_)
  · obtain ⟨u, place, turns, s, m, G, rfl, _⟩ := h; rfl
  obtain ⟨u, place, turns, n, m, G, rfl, R, hn0, hn, hm, ht, htm, k⟩ := h
  refine ⟨_, 
    (pss_cons (ps_set (i := 3) sc.nd rfl (by first | exact Or.inl rfl | exact Or.inr rfl) (pe_lc (own := [("k", 4)]) (by rfl) sc.nd (pi_range1 (by rfl) T.range (pa_cons (pe_callB (cLen K) (by rfl) T.len (by decide +kernel) (pa_cons (pv 0) pa_nil)) pa_nil)) (blkOk_by (N := ["gains", "place", "turns", "best", "k", "turn", "onward", "column", "ways"]) (sc := C8.fnScope s_law_most) (own := [("k", 4)]) (by decide +kernel)) (fun _ _ _ _ _ => (pg_name (i := 4) sc.nd rfl (by first | exact Or.inl rfl | exact Or.inr rfl))) (fun _ _ _ _ _ => pts_nil) (fun _ _ _ _ _ => (pe_op op_sub (pe_callTy cInt (by rfl) T.int (by decide +kernel) (pa_cons (pe_cmpR op_eq (pv 4) (pv 1) (nomark _)) pa_nil)) pe_int))))
    (pss_cons (ps_for PassesOwn.never rfl (pi_range1 (by rfl) T.range (pa_cons (pv 2) pa_nil)) (pg_name (i := 5) sc.nd rfl (by first | exact Or.inl rfl | exact Or.inr rfl))
    (pss_cons (ps_set (i := 6) sc.nd rfl (by first | exact Or.inl rfl | exact Or.inr rfl) (pe_lst pa_nil))
    (pss_cons (ps_for PassesOwn.never rfl (pi_range1 (by rfl) T.range (pa_cons (pe_callB (cLen K) (by rfl) T.len (by decide +kernel) (pa_cons (pe_ix (ixL K) (pv 0) pe_int (fun _ _ => rfl)) pa_nil)) pa_nil)) (pg_name (i := 7) sc.nd rfl (by first | exact Or.inl rfl | exact Or.inr rfl))
    (pss_cons (ps_setLc (i := 8) (own := [("k", 4)]) (by rfl) sc.nd rfl rfl (sw_true rfl rfl rfl (by decide +kernel)) (pi_range1 (by rfl) T.range (pa_cons (pe_callB (cLen K) (by rfl) T.len (by decide +kernel) (pa_cons (pv 0) pa_nil)) pa_nil)) (blkOk_by (N := ["gains", "place", "turns", "best", "k", "turn", "onward", "column", "ways"]) (sc := C8.fnScope s_law_most) (own := [("k", 4)]) (by decide +kernel)) (fun _ _ _ _ _ => (pg_name (i := 4) sc.nd rfl (by first | exact Or.inl rfl | exact Or.inr rfl))) (fun _ _ _ _ _ => (pts_one (PW.pt (pw_and (pt_cmpR op_ge (pe_ix (ixL K) (pv 3) (pv 4) (fun _ _ => rfl)) pe_int (nomark _)) (pw_and1 (pt_cmpR op_ge (pe_ix (ixL K) (pe_ix (ixL K) (pv 0) (pv 4) (fun _ _ => rfl)) (pv 7) (fun _ _ => rfl)) pe_int (nomark _))))))) (fun _ _ _ _ _ => (pe_op op_add (pe_ix (ixL K) (pv 3) (pv 4) (fun _ _ => rfl)) (pe_ix (ixL K) (pe_ix (ixL K) (pv 0) (pv 4) (fun _ _ => rfl)) (pv 7) (fun _ _ => rfl)))))
    (pss_one (ps_expr (bmK K PySem.F.plainAttrs_list PySem.F.slot_list_append PySem.F.type_list_append mt_append (pv 6) (pa_cons (pe_callB (cMaxL K rfl) (by rfl) T.max (by decide +kernel) (pa_cons (pe_op op_cat (pe_lst (pa_cons (pe_un un_neg pe_int) pa_nil)) (pv 8)) pa_nil)) pa_nil))))))
    (pss_one (ps_set (i := 3) sc.nd rfl (by first | exact Or.inl rfl | exact Or.inr rfl) (pv 6))))))
    (pss_one (ps_ret (pe_callB (cMaxL K rfl) (by rfl) T.max (by decide +kernel) (pa_cons (pe_op op_cat (pe_lst (pa_cons (pe_un un_neg pe_int) pa_nil)) (pv 3)) pa_nil)))))), ?_⟩
  show tSeq _ _ _ [some u, some (.int place), some (.int turns), none, none, none, none, none, none] H
  obtain ⟨pm, ps, rfl, hpm, hpl, hps⟩ := id R
  walk_at "rds"
  refine rd_lenL hpm ?_
  rw [List.length_map, hpl]
  walk_at "rds"
  refine lcR (fun k => unitF place k) (by omega) (by omega) (fun _ => rfl) (fun i H1 hi e1 Q' q => ?_) (fun Db ys H1 nD e1 hD rs => ?_)
  · walk_at "rds"
    refine q _ _ Ex.refl ?_
    show V.int _ = V.int _
    unfold unitF
    by_cases h : i = place
    · subst h; rw [decide_eq_true rfl, if_pos rfl, if_pos rfl]; rfl
    · rw [decide_eq_false (by omega), if_neg Bool.false_ne_true, if_neg h]; rfl
  walk_at "rds"
  rw [rs.ints, Int.toNat_natCast] at hD
  refine r_range1 (by omega) (by omega) (fun i σ' H' => ∃ (pb : Addr) (j4 j5 j6 j7 j8 : Option V), σ' = [some (.ref pm), some (.int place), some (.int turns), some (.ref pb), j4, j5, j6, j7, j8] ∧ Ex H H' ∧ IntsAt H' pb (if i = 0 then n else m) (iterF (combF n G) i (unitF place))) ?_ ?_ ?_
  · exact ⟨Db, _, _, _, _, _, rfl, e1, hD⟩
  · rintro i σ' H2 hi ⟨pb, j4, j5, j6, j7, j8, rfl, e2, hb⟩
    have hN : (if i = 0 then n else m) = n := by
      by_cases h : i = 0
      · rw [if_pos h]
      · rw [if_neg h]; omega
    rw [hN] at hb
    walk_at "rds"
    refine ⟨by decide, fun po npo => ?_⟩
    walk_at "rds"
    have npo0 : H po = none := e2.free npo
    have e3 : Ex H2 (upd H2 po (.lst [])) := Ex.new npo
    have e03 := e2.trans e3
    have ho3 : IntsAt (upd H2 po (.lst [])) po 0 (combF n G (iterF (combF n G) i (unitF place))) := upd_same
    have hpm3 := e03 _ _ hpm
    obtain ⟨p0, hp0⟩ : ∃ p0, ps[0]? = some p0 := ⟨ps[0]'(by omega), List.getElem?_eq_getElem (by omega)⟩
    refine rd_ixL hpm3 0 rfl (by rw [List.getElem?_map, hp0]; rfl) ?_
    walk_at "rds"
    refine rd_lenA (e03 _ _ (hps 0 p0 hp0)) ?_
    walk_at "rds"
    generalize upd H2 po (.lst []) = H3 at e3 e03 ho3 hpm3 ⊢
    refine r_range1 (by omega) (by omega) (fun z σ' H' => ∃ (j4 j7 j8 : Option V), σ' = [some (.ref pm), some (.int place), some (.int turns), some (.ref pb), j4, some (.int i), some (.ref po), j7, j8] ∧ Ex H2 H' ∧ IntsAt H' po z (combF n G (iterF (combF n G) i (unitF place)))) ?_ ?_ ?_
    · exact ⟨_, _, _, rfl, e3, ho3⟩
    · rintro z σ' H4 hz ⟨j4, j7, j8, rfl, e4, ho4⟩
      have e04 := e2.trans e4
      walk_at "rds"
      refine rd_lenL (e04 _ _ hpm) ?_
      rw [List.length_map, hpl]
      walk_at "rds"
      refine lcRF (fun k => decide (0 ≤ iterF (combF n G) i (unitF place) k) && decide (0 ≤ G k z)) (fun k => iterF (combF n G) i (unitF place) k + G k z) (by omega) (by omega) (fun _ => rfl) (fun j H5 hj e5 Q' q => ?_) (fun j H5 hj _ e5 Q' q => ?_) (fun Dw ys H5 nDw e5 hDw rw5 => ?_)
      · have e05 := e04.trans e5
        have hj' : j < n := by omega
        obtain ⟨pj, hpj⟩ : ∃ pj, ps[j]? = some pj := ⟨ps[j]'(by omega), List.getElem?_eq_getElem (by omega)⟩
        walk_at "rds"
        refine rd_ixA (e5 _ _ (e4 _ _ hb)) hj' ?_
        walk_at "rds"
        refine rd_dec (fun h1 => ?_) (fun h1 => ?_)
        · walk_at "rds"
          refine rd_ixL (e05 _ _ hpm) j rfl (by rw [List.getElem?_map, hpj]; rfl) ?_
          walk_at "rds"
          refine rd_ixA (e05 _ _ (hps j pj hpj)) (by omega) ?_
          walk_at "rds"
          have := q _ Ex.refl
          rw [decide_eq_true (show 0 ≤ iterF (combF n G) i (unitF place) j from h1), Bool.true_and] at this
          exact this
        · walk_at "rds"
          have := q _ Ex.refl
          rw [decide_eq_false (show ¬ 0 ≤ iterF (combF n G) i (unitF place) j from h1), Bool.false_and] at this
          exact this
      · have e05 := e04.trans e5
        have hj' : j < n := by omega
        obtain ⟨pj, hpj⟩ : ∃ pj, ps[j]? = some pj := ⟨ps[j]'(by omega), List.getElem?_eq_getElem (by omega)⟩
        walk_at "rds"
        refine rd_ixA (e5 _ _ (e4 _ _ hb)) hj' ?_
        walk_at "rds"
        refine rd_ixL (e05 _ _ hpm) j rfl (by rw [List.getElem?_map, hpj]; rfl) ?_
        walk_at "rds"
        refine rd_ixA (e05 _ _ (hps j pj hpj)) (by omega) ?_
        walk_at "rds"
        exact q _ _ Ex.refl rfl
      · rw [rw5.ints, Int.toNat_natCast] at hDw
        have ho5 := e5 _ _ ho4
        walk_at "rds"
        refine ⟨ty_lst ho5, ?_⟩
        walk_at "rds"
        refine ⟨by show 1 ≤ sizeLine; decide, fun p1 np1 => ?_⟩
        have n1 : Dw ≠ p1 := ne_of_none hDw np1
        walk_at "rds"
        refine ⟨p1, Dw, _, _, rfl, rfl, upd_same, by rw [upd_ne n1]; exact hDw, ?_, fun p2 np2 => ?_⟩
        · rw [List.length_map]
          refine Nat.le_trans (Nat.add_le_add_left (show _ ≤ n from ?_) _) (Nat.le_trans (show 1 + n ≤ 1000 by omega) (by decide))
          unfold kept
          rw [List.length_map]
          exact Nat.le_trans (List.length_filter_le _ _) (by rw [List.length_range]; exact Nat.le_refl _)
        walk_at "rds"
        refine ⟨p2, (-1) :: kept n _ _, rfl, SqL.of upd_same, by simp, fun mx hmx hall => ?_⟩
        have hmx' : mx = combF n G (iterF (combF n G) i (unitF place)) z := mx_kept hmx hall
        subst hmx'
        have e6 : Ex H5 (upd (upd H5 p1 (.lst [.int (-1)])) p2 (.lst ([V.int (-1)] ++ (kept n (fun k => decide (0 ≤ iterF (combF n G) i (unitF place) k) && decide (0 ≤ G k z)) (fun k => iterF (combF n G) i (unitF place) k + G k z)).map V.int))) := (Ex.new np1).trans (Ex.new np2)
        have ho6 := e6 _ _ ho5
        walk_at "rds"
        refine rd_app ho6 (by simp; omega) ?_
        walk_at "rds"
        refine ⟨_, _, _, rfl, Ex.mut ((e4.trans e5).trans e6) npo, ?_⟩
        show upd _ _ _ _ = _
        rw [upd_same, List.range_succ, List.map_append, List.map_append]
        rfl
    · rintro σ' H4 ⟨j4, j7, j8, rfl, e4, ho4⟩
      walk_at "rds"
      refine ⟨po, _, _, _, _, _, rfl, e2.trans e4, ?_⟩
      rw [if_neg (by omega)]
      rw [Int.toNat_natCast] at ho4
      exact ho4
  · rintro σ' H2 ⟨pb, j4, j5, j6, j7, j8, rfl, e2, hb⟩
    rw [Int.toNat_natCast] at hb
    walk_at "rds"
    refine ⟨by show 1 ≤ sizeLine; decide, fun p1 np1 => ?_⟩
    have n1 : pb ≠ p1 := ne_of_none hb np1
    walk_at "rds"
    refine ⟨p1, pb, _, _, rfl, rfl, upd_same, by rw [upd_ne n1]; exact hb, ?_, fun p2 np2 => ?_⟩
    · rw [List.length_map, List.length_map, List.length_range]
      refine Nat.le_trans (Nat.add_le_add_left (show _ ≤ 50 from ?_) _) (show 1 + 50 ≤ sizeLine by decide)
      split <;> omega
    walk_at "rds"
    refine ⟨p2, (-1) :: (List.range (if turns = 0 then n else m)).map (iterF (combF n G) turns (unitF place)), rfl, SqL.of upd_same, by simp, fun mx hmx hall => ?_⟩
    rw [mx_all hmx hall]
    exact k _ ((e2.trans (Ex.new np1)).trans (Ex.new np2))
end
end Fw
namespace Fw
open PySem PySem.Spec PyProof.Rows L2
open Rep (rep)
local macro_rules | `(tactic| walk_at "rd") => `(tactic| first
  | with_reducible apply rd_seq | with_reducible apply rd_asg | with_reducible apply rd_name | with_reducible apply rd_ret | with_reducible apply rd_drop | with_reducible apply rd_if
  | ((with_reducible refine' rd_var ?e ?h); (case e => exact rfl)) | with_reducible apply rd_c | with_reducible apply rd_op | with_reducible apply rd_un | with_reducible apply rd_I0 | with_reducible apply rd_U
  | with_reducible apply rd_eqI | with_reducible apply rd_neI | with_reducible apply rd_eqB | with_reducible apply rd_eqS | with_reducible apply rd_neS | with_reducible apply rd_tB | with_reducible apply rd_test | with_reducible apply rd_bl | with_reducible apply rd_not | with_reducible apply rd_and | with_reducible apply rd_or
  | with_reducible apply rd_andV | with_reducible apply rd_orV | with_reducible apply rd_notV | with_reducible apply rd_chain | with_reducible apply rd_nil | with_reducible apply rd_cons | with_reducible apply rd_CB | with_reducible apply rd_call | with_reducible apply rd_for
  | with_reducible apply rd_next | with_reducible apply rd_brk | with_reducible apply rd_cont | with_reducible apply rd_tup | with_reducible apply rd_lst | with_reducible apply rd_sub | with_reducible apply rd_BM | with_reducible apply rd_BM0
  | with_reducible apply rd_yes | with_reducible apply rd_nope | with_reducible apply rd_yes2 | with_reducible apply rd_nope2 | with_reducible apply rd_gCons | with_reducible apply rd_gNil | with_reducible apply rd_iTup | with_reducible apply rd_iList | with_reducible apply rd_iRng1 | with_reducible apply rd_iRng2
  | with_reducible apply rd_lc | with_reducible apply rd_augS | ((with_reducible refine' rd_aug ?e ?h); (case e => exact rfl)) | with_reducible apply rd_ip
  | with_reducible apply rd_din | with_reducible apply rd_dnotin | with_reducible apply rd_dget | with_reducible apply rd_dget1 | with_reducible apply rd_dget2 | with_reducible apply rd_dput | with_reducible apply rd_disp1T | with_reducible apply rd_dnewK | with_reducible apply rd_dnewT | with_reducible apply rd_iItems | with_reducible apply rd_iItemsT | with_reducible apply rd_iVals | with_reducible apply rd_sl | with_reducible apply rd_noPart | with_reducible apply rd_part | with_reducible apply rd_int | with_reducible apply rd_inN | with_reducible apply rd_inS | with_reducible apply rd_isN0 | with_reducible apply rd_isS0
  | with_reducible apply rd_max2 | with_reducible apply rd_min2 | with_reducible apply rd_max3 | with_reducible apply rd_intI | with_reducible apply rd_intB | with_reducible apply rd_abs)
local macro_rules | `(tactic| walk_at "rds") => `(tactic| repeat walk_at "rd")
local macro_rules | `(tactic| walk_at "sz") => `(tactic| exact Nat.le_trans (show _ ≤ 1000 by simp) (by decide))
local macro_rules | `(tactic| walk_at "hp") => `(tactic| first
  | with_reducible assumption | with_reducible exact upd_same
  | ((with_reducible refine' hp_ne ?n ?h); (case n => walk_at "ne"); (case h => walk_at "hp"))
  | ((with_reducible refine' Ex.get ?e ?h); (case e => with_reducible assumption); (case h => walk_at "hp"))
  | ((with_reducible refine' Eb.get ?e ?n ?h); (case e => with_reducible assumption); (case n => walk_at "ne"); (case h => walk_at "hp")))
local macro_rules | `(tactic| walk_at "ne") => `(tactic| first
  | with_reducible assumption | (apply Ne.symm; with_reducible assumption)
  | ((with_reducible refine' ne_non ?h ?n); (case n => with_reducible assumption); (case h => walk_at "hp"))
  | (apply Ne.symm; with_reducible refine' ne_non ?h ?n; (case n => with_reducible assumption); (case h => walk_at "hp")))
local macro_rules | `(tactic| walk_at "ti") => `(tactic| first
  | with_reducible assumption | with_reducible exact Ti.refl | (with_reducible exact Ex.ti (by with_reducible assumption))
  | ((with_reducible refine' Ti.trans ?a (Ti.new ?b)); (case b => with_reducible assumption); (case a => walk_at "ti"))
  | ((with_reducible refine' Ti.trans ?a (Ti.lst ?b)); (case b => walk_at "hp"); (case a => walk_at "ti"))
  | ((with_reducible refine' Ti.trans ?a (Ti.dK ?b)); (case b => walk_at "hp"); (case a => walk_at "ti"))
  | ((with_reducible refine' Ti.trans ?a (Ti.dT ?b)); (case b => walk_at "hp"); (case a => walk_at "ti"))
  | ((with_reducible refine' Ti.trans ?a ?b); (case b => with_reducible assumption); (case a => walk_at "ti"))
  | ((with_reducible refine' Ti.trans ?a (Ex.ti ?b)); (case b => with_reducible assumption); (case a => walk_at "ti")))
local macro_rules | `(tactic| walk_at "ex") => `(tactic| first
  | with_reducible assumption | with_reducible exact Ex.refl
  | ((with_reducible refine' Ex.mut ?a ?b); (case b => with_reducible assumption); (case a => walk_at "ex"))
  | ((with_reducible refine' Ex.trans ?a (Ex.new ?b)); (case b => with_reducible assumption); (case a => walk_at "ex"))
  | ((with_reducible refine' Ex.trans ?a ?b); (case b => with_reducible assumption); (case a => walk_at "ex")))
local macro_rules | `(tactic| walk_at "rp") => `(tactic| first
  | with_reducible assumption
  | ((with_reducible refine' Rep.mono (Ex.ti ?e) ?h); (case e => with_reducible assumption); (case h => with_reducible assumption))
  | ((with_reducible refine' Rep.mono ?t ?h); (case t => with_reducible assumption); (case h => with_reducible assumption))
  | ((with_reducible refine' Rep.mono ?t ?h); (case h => with_reducible assumption); (case t => walk_at "ti"))
  | ((with_reducible refine' Reps.mono (Ex.ti ?e) ?h); (case e => with_reducible assumption); (case h => with_reducible assumption))
  | ((with_reducible refine' Reps.mono ?t ?h); (case h => with_reducible assumption); (case t => walk_at "ti")))
section
variable {P : Program} {w : World} {K : PySem.W.Frag} {mg : Str → Option Value} {base : Heap}
def spGains : Sp := fun vs H Q _ => ∃ (v1 v2 v3 : V) (sizes : List Int) (edges : List Edge) (word : List Int), vs = [v1, v2, v3] ∧ rep H v1 sizes ∧ rep H v2 edges ∧ rep H v3 word ∧ Web sizes edges ∧ WordOk edges word ∧
  ∀ u H', Ex H H' → Rows H' u (szAt sizes edges word 0) (szAt sizes edges word word.length) (fun k => wv sizes edges (unitF k) word) → Q u H'
abbrev s_law_gains : Stmt := topS 24
theorem sc_law_gains : FnScope ["sizes", "edges", "word", "first", "gains", "column", "row", "number", "begin", "end", "table", "onward", "line", "made", "ways", "k"] ["sizes", "edges", "word"] (C8.fnScope s_law_gains) := C8.fnScope_by (by decide +kernel)
theorem ok_gains (F : Df K mg "_law_gains" s_law_gains ["sizes", "edges", "word"]) (T : Bt mg) : C8.Cal P w K mg base 1 "_law_gains" spGains [] := by
  have sc := sc_law_gains
  refine F.cal sc (fun vs H Q E h => ?_) (fun f cdv A outer s H vs Q E hr h => ?_)
  · obtain ⟨v1, v2, v3, sizes, edges, word, rfl, _⟩ := h; rfl
  obtain ⟨v1, v2, v3, sizes, edges, word, rfl, r1, r2, r3, W, wo, k⟩ := h
  refine ⟨_, 
    (pss_cons (ps_set (i := 3) sc.nd rfl (by first | exact Or.inl rfl | exact Or.inr rfl) (pe_ix (ixT K) (pe_ix (ixT K) (pv 1) (pe_ix (ixT K) (pv 2) pe_int (fun _ _ => rfl)) (fun _ _ => rfl)) pe_int (fun _ _ => rfl)))
    (pss_cons (ps_setLc (i := 4) (own := [("row", 6)]) (by rfl) sc.nd rfl rfl (sw_true rfl rfl rfl (by decide +kernel)) (pi_range1 (by rfl) T.range (pa_cons (pe_ix (ixT K) (pv 0) (pv 3) (fun _ _ => rfl)) pa_nil)) (blkOk_by (N := ["sizes", "edges", "word", "first", "gains", "column", "row", "number", "begin", "end", "table", "onward", "line", "made", "ways", "k"]) (sc := C8.fnScope s_law_gains) (own := [("row", 6)]) (by decide +kernel)) (fun _ _ _ _ _ => (pg_name (i := 6) sc.nd rfl (by first | exact Or.inl rfl | exact Or.inr rfl))) (fun _ _ _ _ _ => pts_nil) (fun _ _ _ _ _ => (pe_lc (own := [("column", 5)]) (by rfl) sc.nd (pi_range1 (by rfl) T.range (pa_cons (pe_ix (ixT K) (pv 0) (pv 3) (fun _ _ => rfl)) pa_nil)) (blkOk_by (N := ["sizes", "edges", "word", "first", "gains", "column", "row", "number", "begin", "end", "table", "onward", "line", "made", "ways", "k"]) (sc := relS _ (C8.fnScope s_law_gains)) (own := [("column", 5)]) (by decide +kernel)) (fun _ _ _ _ _ => (pg_name (i := 5) sc.nd rfl (by first | exact Or.inl rfl | exact Or.inr rfl))) (fun _ _ _ _ _ => pts_nil) (fun _ _ _ _ _ => (pe_op op_sub (pe_callTy cInt (by rfl) T.int (by decide +kernel) (pa_cons (pe_cmpR op_eq (pv 6) (pv 5) (nomark _)) pa_nil)) pe_int)))))
    (pss_cons (ps_for PassesOwn.never rfl (piT K (pv 2)) (pg_name (i := 7) sc.nd rfl (by first | exact Or.inl rfl | exact Or.inr rfl))
    (pss_cons (ps_asg (pe_ix (ixT K) (pv 1) (pv 7) (fun _ _ => rfl)) (pgT K rfl (pgs_cons (pg_name (i := 8) sc.nd rfl (by first | exact Or.inl rfl | exact Or.inr rfl)) (pgs_cons (pg_name (i := 9) sc.nd rfl (by first | exact Or.inl rfl | exact Or.inr rfl)) (pgs_cons (pg_name (i := 10) sc.nd rfl (by first | exact Or.inl rfl | exact Or.inr rfl)) pgs_nil)))))
    (pss_cons (ps_set (i := 11) sc.nd rfl (by first | exact Or.inl rfl | exact Or.inr rfl) (pe_lst pa_nil))
    (pss_cons (ps_for PassesOwn.never rfl (piL K (pv 4)) (pg_name (i := 12) sc.nd rfl (by first | exact Or.inl rfl | exact Or.inr rfl))
    (pss_cons (ps_set (i := 13) sc.nd rfl (by first | exact Or.inl rfl | exact Or.inr rfl) (pe_lst pa_nil))
    (pss_cons (ps_for PassesOwn.never rfl (pi_range1 (by rfl) T.range (pa_cons (pe_ix (ixT K) (pv 0) (pv 9) (fun _ _ => rfl)) pa_nil)) (pg_name (i := 5) sc.nd rfl (by first | exact Or.inl rfl | exact Or.inr rfl))
    (pss_cons (ps_setLc (i := 14) (own := [("k", 15)]) (by rfl) sc.nd rfl rfl (sw_true rfl rfl rfl (by decide +kernel)) (pi_range1 (by rfl) T.range (pa_cons (pe_callB (cLen K) (by rfl) T.len (by decide +kernel) (pa_cons (pv 12) pa_nil)) pa_nil)) (blkOk_by (N := ["sizes", "edges", "word", "first", "gains", "column", "row", "number", "begin", "end", "table", "onward", "line", "made", "ways", "k"]) (sc := C8.fnScope s_law_gains) (own := [("k", 15)]) (by decide +kernel)) (fun _ _ _ _ _ => (pg_name (i := 15) sc.nd rfl (by first | exact Or.inl rfl | exact Or.inr rfl))) (fun _ _ _ _ _ => (pts_one (PW.pt (pw_and (pt_cmpR op_ge (pe_ix (ixL K) (pv 12) (pv 15) (fun _ _ => rfl)) pe_int (nomark _)) (pw_and1 (pt_cmpR op_gt (pe_ix (ixT K) (pe_ix (ixT K) (pv 10) (pv 15) (fun _ _ => rfl)) (pv 5) (fun _ _ => rfl)) pe_int (nomark _))))))) (fun _ _ _ _ _ => (pe_op op_add (pe_ix (ixL K) (pv 12) (pv 15) (fun _ _ => rfl)) (pe_callTy cInt (by rfl) T.int (by decide +kernel) (pa_cons (pe_cmpR op_eq (pe_ix (ixT K) (pe_ix (ixT K) (pv 10) (pv 15) (fun _ _ => rfl)) (pv 5) (fun _ _ => rfl)) pe_int (nomark _)) pa_nil)))))
    (pss_one (ps_expr (bmK K PySem.F.plainAttrs_list PySem.F.slot_list_append PySem.F.type_list_append mt_append (pv 13) (pa_cons (pe_callB (cMaxL K rfl) (by rfl) T.max (by decide +kernel) (pa_cons (pe_op op_cat (pe_lst (pa_cons (pe_un un_neg pe_int) pa_nil)) (pv 14)) pa_nil)) pa_nil))))))
    (pss_one (ps_expr (bmK K PySem.F.plainAttrs_list PySem.F.slot_list_append PySem.F.type_list_append mt_append (pv 11) (pa_cons (pv 13) pa_nil)))))))
    (pss_one (ps_set (i := 4) sc.nd rfl (by first | exact Or.inl rfl | exact Or.inr rfl) (pv 11)))))))
    (pss_one (ps_ret (pv 4)))))), ?_⟩
  show tSeq _ _ _ [some v1, some v2, some v3, none, none, none, none, none, none, none, none, none, none, none, none, none] H
  have hlen := wo.len
  have hpos : 0 < word.length := List.length_pos_iff.mpr wo.ne
  have hel := W.el
  obtain ⟨a0, a1⟩ := wo.at hpos
  obtain ⟨b0, b1, b2, b3, tok0⟩ := W.edge a0 a1
  walk_at "rds"
  refine rd_word r3 0 rfl hpos ?_
  refine rd_edge r2 a0 a1 fun we re => ?_
  walk_at "rds"
  refine rd_p3a re fun wa ra => ?_
  cases ra
  walk_at "rds"
  refine rd_size r1 W.sz b0 b1 ?_
  walk_at "rds"
  have hs50 := W.szle (edgeAt edges (word.getD 0 0)).a
  have hs0 : szAt sizes edges word 0 = szN sizes (edgeAt edges (word.getD 0 0)).a := if_pos rfl
  refine lcRows (m := szN sizes (edgeAt edges (word.getD 0 0)).a) (fun k => unitF k) (by omega) (fun _ => rfl) (fun i H1 hi e1 Q' q => ?_) (fun Dg H1 nDg e1 R1 => ?_)
  · walk_at "rds"
    have r11 := Rep.mono e1.ti r1
    refine rd_size r11 W.sz b0 b1 ?_
    walk_at "rds"
    refine lcR (fun z => unitF i z) (by omega) (by omega) (fun _ => rfl) (fun z H2 hz e2 Q2 q2 => ?_) (fun D ys H2 nD e2 hD r => ?_)
    · walk_at "rds"
      refine q2 _ _ Ex.refl ?_
      show V.int _ = V.int _
      unfold unitF
      by_cases h : z = i
      · subst h; rw [decide_eq_true rfl, if_pos rfl, if_pos rfl]; rfl
      · rw [decide_eq_false (by omega), if_neg Bool.false_ne_true, if_neg h]; rfl
    · rw [r.ints, Int.toNat_natCast] at hD
      exact q _ _ nD e2 hD
  walk_at "rds"
  refine r_tup (H0 := H) r3 (fun i σ' H' => ∃ (u : V) (j5 j6 j7 j8 j9 j10 j11 j12 j13 j14 j15 : Option V), σ' = [some v1, some v2, some v3, some (.int (edgeAt edges (word.getD 0 0)).a), some u, j5, j6, j7, j8, j9, j10, j11, j12, j13, j14, j15] ∧ Ex H H' ∧ Rows H' u (szAt sizes edges word 0) (szAt sizes edges word i) (fun k => wv sizes edges (unitF k) (word.take i)))
    ?_ (fun i σ' H' ⟨_, _, _, _, _, _, _, _, _, _, _, _, _, e, _⟩ => e.ti) ?_ ?_
  · exact ⟨_, _, _, _, _, _, _, _, _, _, _, _, rfl, e1, by rw [hs0]; exact R1⟩
  · rintro i z wz σ' H2 hz hi rz ⟨u, j5, j6, j7, j8, j9, j10, j11, j12, j13, j14, j15, rfl, e2, R2⟩
    cases rz
    clear R1
    obtain ⟨z0, z1⟩ := wo.num z (List.mem_of_getElem? hz)
    have hzd : word.getD i 0 = z := by rw [List.getD_eq_getElem?_getD, hz]; rfl
    obtain ⟨c0, c1, c2, c3, tok⟩ := W.edge z0 z1
    have hnm : szN sizes (edgeAt edges z).a = szAt sizes edges word i := by rw [← hzd]; exact szAt_eq wo hi
    have hnx : szAt sizes edges word (i + 1) = szN sizes (edgeAt edges z).b := by rw [szAt_succ, hzd]
    have hm50 := W.szle (edgeAt edges z).b
    have hn50 := W.szle (edgeAt edges z).a
    have hwv : ∀ f, wv sizes edges f (word.take (i + 1)) = sv (edgeAt edges z).c (szAt sizes edges word i) (wv sizes edges f (word.take i)) := fun f => by
      rw [take_succ' hi, hzd, wv_snoc, hnm]
    obtain ⟨pm, ps, rfl, hpm, hpl, hps⟩ := R2
    walk_at "rds"
    refine rd_edge (Rep.mono e2.ti r2) z0 z1 fun we re => ?_
    refine rd_gTup3 re fun x1 x2 x3 h1 h2 h3 => ?_
    cases h1
    cases h2
    walk_at "rds"
    refine ⟨by decide, fun po npo => ?_⟩
    walk_at "rds"
    have npo0 : H po = none := e2.free npo
    have e3 : Ex H2 (upd H2 po (.lst [])) := Ex.new npo
    have ho3 : upd H2 po (.lst []) po = some (.lst (([] : List Addr).map V.ref)) := upd_same
    generalize upd H2 po (.lst []) = H3 at e3 ho3 ⊢
    refine r_lst (e3 _ _ hpm) (fun j σ' H' => ∃ (qs : List Addr) (j5 j12 j13 j14 j15 : Option V), σ' = [some v1, some v2, some v3, some (.int (edgeAt edges (word.getD 0 0)).a), some (.ref pm), j5, j6, some (.int z), some (.int (edgeAt edges z).a), some (.int (edgeAt edges z).b), some x3, some (.ref po), j12, j13, j14, j15] ∧ Ex H2 H' ∧ H' po = some (.lst (qs.map V.ref)) ∧ qs.length = j ∧ po ∉ qs ∧ ∀ a p, qs[a]? = some p → IntsAt H' p (szAt sizes edges word (i + 1)) (wv sizes edges (unitF a) (word.take (i + 1))))
      ?_ (fun j σ' H' ⟨_, _, _, _, _, _, _, e, _⟩ => e _ _ hpm) ?_ ?_
    · exact ⟨[], _, _, _, _, _, rfl, e3, ho3, rfl, fun h => (nomatch h), fun a p h => by simp at h⟩
    · rintro j wl σ' H4 hj hjl ⟨qs, j5, j12, j13, j14, j15, rfl, e4, ho4, hql, hpoq, hqs⟩
      rw [List.getElem?_map] at hj
      obtain ⟨pl, hpj, rfl⟩ := Option.map_eq_some_iff.mp hj
      have hline := hps j pl hpj
      walk_at "rds"
      refine ⟨by decide, fun pz npz => ?_⟩
      walk_at "rds"
      have nopz : po ≠ pz := ne_of_none ho4 npz
      have e5 : Ex H4 (upd H4 pz (.lst [])) := Ex.new npz
      have hz5 : IntsAt (upd H4 pz (.lst [])) pz 0 (wv sizes edges (unitF j) (word.take (i + 1))) := upd_same
      generalize upd H4 pz (.lst []) = H5 at e5 hz5 ⊢
      refine rd_size (Rep.mono ((e2.trans e4).trans e5).ti r1) W.sz c2 c3 ?_
      walk_at "rds"
      refine r_range1 (by omega) (by omega) (fun q σ' H' => ∃ (j5 j14 j15 : Option V), σ' = [some v1, some v2, some v3, some (.int (edgeAt edges (word.getD 0 0)).a), some (.ref pm), j5, j6, some (.int z), some (.int (edgeAt edges z).a), some (.int (edgeAt edges z).b), some x3, some (.ref po), some (.ref pl), some (.ref pz), j14, j15] ∧ Ex H4 H' ∧ IntsAt H' pz q (wv sizes edges (unitF j) (word.take (i + 1)))) ?_ ?_ ?_
      · exact ⟨_, _, _, rfl, e5, hz5⟩
      · rintro q σ' H6 hq ⟨j5, j14, j15, rfl, e6, hz6⟩
        walk_at "rds"
        refine rd_lenA (e6 _ _ (e4 _ _ hline)) ?_
        walk_at "rds"
        refine lcRF (fun k => decide (0 ≤ wv sizes edges (unitF j) (word.take i) k) && decide (0 < tg (edgeAt edges z).c k q)) (fun k => wv sizes edges (unitF j) (word.take i) k + (if tg (edgeAt edges z).c k q = 2 then 1 else 0)) (by omega) (by omega) (fun _ => rfl) (fun y H7 hy e7 Q' qq => ?_) (fun y H7 hy _ e7 Q' qq => ?_) (fun Dw ys H7 nDw e7 hDw rw7 => ?_)
        · have hl7 := e7 _ _ (e6 _ _ (e4 _ _ hline))
          have h37 := Rep.mono ((e4.trans e6).trans e7).ti h3
          have hy' : y < szAt sizes edges word i := by omega
          have hyr : y < (edgeAt edges z).c.length := by rw [tok.rows]; omega
          walk_at "rds"
          refine rd_ixA hl7 hy' ?_
          walk_at "rds"
          refine rd_dec (fun h1 => ?_) (fun h1 => ?_)
          · walk_at "rds"
            refine rd_ixTL h37 (by omega) (by omega) fun wr rwr => ?_
            rw [Int.toNat_natCast] at rwr
            walk_at "rds"
            refine rd_ixTI rwr (by omega) (by rw [tok.cols _ (by rw [List.getD_eq_getElem?_getD, List.getElem?_eq_getElem hyr]; exact List.getElem_mem _)]; omega) ?_
            rw [Int.toNat_natCast]
            walk_at "rds"
            have := qq _ Ex.refl
            rw [decide_eq_true (show 0 ≤ wv sizes edges (unitF j) (word.take i) y from h1), Bool.true_and] at this
            exact this
          · walk_at "rds"
            have := qq _ Ex.refl
            rw [decide_eq_false (show ¬ 0 ≤ wv sizes edges (unitF j) (word.take i) y from h1), Bool.false_and] at this
            exact this
        · have hl7 := e7 _ _ (e6 _ _ (e4 _ _ hline))
          have h37 := Rep.mono ((e4.trans e6).trans e7).ti h3
          have hy' : y < szAt sizes edges word i := by omega
          have hyr : y < (edgeAt edges z).c.length := by rw [tok.rows]; omega
          walk_at "rds"
          refine rd_ixA hl7 hy' ?_
          walk_at "rds"
          refine rd_ixTL h37 (by omega) (by omega) fun wr rwr => ?_
          rw [Int.toNat_natCast] at rwr
          walk_at "rds"
          refine rd_ixTI rwr (by omega) (by rw [tok.cols _ (by rw [List.getD_eq_getElem?_getD, List.getElem?_eq_getElem hyr]; exact List.getElem_mem _)]; omega) ?_
          rw [Int.toNat_natCast]
          walk_at "rds"
          refine qq _ _ Ex.refl ?_
          show V.int _ = V.int _
          show V.int (_ + if decide (tg (edgeAt edges z).c y q = 2) = true then 1 else 0) = _
          by_cases h2 : tg (edgeAt edges z).c y q = 2
          · rw [decide_eq_true h2, if_pos rfl, if_pos h2]
          · rw [decide_eq_false h2, if_neg Bool.false_ne_true, if_neg h2]
        · rw [rw7.ints, Int.toNat_natCast] at hDw
          have hz7 := e7 _ _ hz6
          walk_at "rds"
          refine ⟨ty_lst hz7, ?_⟩
          walk_at "rds"
          refine ⟨by show 1 ≤ sizeLine; decide, fun p1 np1 => ?_⟩
          have n1 : Dw ≠ p1 := ne_of_none hDw np1
          walk_at "rds"
          refine ⟨p1, Dw, _, _, rfl, rfl, upd_same, by rw [upd_ne n1]; exact hDw, ?_, fun p2 np2 => ?_⟩
          · rw [List.length_map]
            refine Nat.le_trans (Nat.add_le_add_left (show _ ≤ 50 from ?_) _) (show 1 + 50 ≤ sizeLine by decide)
            unfold kept
            rw [List.length_map]
            exact Nat.le_trans (List.length_filter_le _ _) (by rw [List.length_range]; omega)
          walk_at "rds"
          refine ⟨p2, (-1) :: kept (szAt sizes edges word i) _ _, rfl, SqL.of upd_same, by simp, fun mx hmx hall => ?_⟩
          have hmx' : mx = wv sizes edges (unitF j) (word.take (i + 1)) q := by rw [hwv]; exact mx_kept hmx hall
          subst hmx'
          have e8 := (Ex.new (o := .lst [.int (-1)]) np1).trans (Ex.new (o := .lst ([V.int (-1)] ++ (kept (szAt sizes edges word i) (fun k => decide (0 ≤ wv sizes edges (unitF j) (word.take i) k) && decide (0 < tg (edgeAt edges z).c k q)) (fun k => wv sizes edges (unitF j) (word.take i) k + (if tg (edgeAt edges z).c k q = 2 then 1 else 0))).map V.int)) np2)
          have hz8 := e8 _ _ hz7
          walk_at "rds"
          refine rd_app hz8 (by simp; omega) ?_
          walk_at "rds"
          refine ⟨_, _, _, rfl, Ex.mut ((e6.trans e7).trans e8) npz, ?_⟩
          show upd _ _ _ _ = _
          rw [upd_same, List.range_succ, List.map_append, List.map_append]
          rfl
      · rintro σ' H6 ⟨j5, j14, j15, rfl, e6, hz6⟩
        rw [Int.toNat_natCast] at hz6
        walk_at "rds"
        have ho6 := e6 _ _ ho4
        refine ⟨ty_lst ho6, ?_⟩
        walk_at "rds"
        have hpsj := (List.getElem?_eq_some_iff.mp hpj).1
        have hs50' : szAt sizes edges word 0 ≤ 50 := by rw [hs0]; exact hs50
        refine rd_app ho6 (by rw [List.length_map]; omega) ?_
        walk_at "rds"
        refine ⟨qs ++ [pz], _, _, _, _, _, rfl, Ex.mut (e4.trans e6) npo, by rw [upd_same, List.map_append]; rfl, by rw [List.length_append, hql]; rfl, fun h => ?_, fun a p ha => ?_⟩
        · rcases List.mem_append.mp h with h | h
          · exact hpoq h
          · exact nopz (List.mem_singleton.mp h)
        · by_cases h : a < qs.length
          · rw [List.getElem?_append_left h] at ha
            have hne : p ≠ po := fun e => hpoq (by rw [← e]; exact List.mem_of_getElem? ha)
            show upd _ _ _ _ = _
            rw [upd_ne hne]
            exact e6 _ _ (hqs a p ha)
          · rw [List.getElem?_append_right (by omega)] at ha
            have hj0 : a - qs.length = 0 := by
              have := (List.getElem?_eq_some_iff.mp ha).1
              simp at this
              omega
            rw [hj0] at ha
            simp at ha
            subst ha
            have : a = j := by omega
            subst this
            show upd _ _ _ _ = _
            rw [upd_ne nopz.symm, hnx]
            exact hz6
    · rintro σ' H4 ⟨qs, j5, j12, j13, j14, j15, rfl, e4, ho4, hql, hpoq, hqs⟩
      walk_at "rds"
      refine ⟨.ref po, _, _, _, _, _, _, _, _, _, _, _, rfl, e2.trans e4, po, qs, rfl, ho4, ?_, hqs⟩
      rw [hql, List.length_map, hpl]
  · rintro σ' H2 ⟨u, j5, j6, j7, j8, j9, j10, j11, j12, j13, j14, j15, rfl, e2, R2⟩
    rw [List.take_length] at R2
    walk_at "rds"
    exact k _ _ e2 R2
end
end Fw
namespace Fw
open PySem PySem.Spec PyProof.Rows L2
open Rep (rep)
local macro_rules | `(tactic| walk_at "rd") => `(tactic| first
  | with_reducible apply rd_seq | with_reducible apply rd_asg | with_reducible apply rd_name | with_reducible apply rd_ret | with_reducible apply rd_drop | with_reducible apply rd_if
  | ((with_reducible refine' rd_var ?e ?h); (case e => exact rfl)) | with_reducible apply rd_c | with_reducible apply rd_op | with_reducible apply rd_un | with_reducible apply rd_I0 | with_reducible apply rd_U
  | with_reducible apply rd_eqI | with_reducible apply rd_neI | with_reducible apply rd_eqB | with_reducible apply rd_eqS | with_reducible apply rd_neS | with_reducible apply rd_tB | with_reducible apply rd_test | with_reducible apply rd_bl | with_reducible apply rd_not | with_reducible apply rd_and | with_reducible apply rd_or
  | with_reducible apply rd_andV | with_reducible apply rd_orV | with_reducible apply rd_notV | with_reducible apply rd_chain | with_reducible apply rd_nil | with_reducible apply rd_cons | with_reducible apply rd_CB | with_reducible apply rd_call | with_reducible apply rd_for
  | with_reducible apply rd_next | with_reducible apply rd_brk | with_reducible apply rd_cont | with_reducible apply rd_tup | with_reducible apply rd_lst | with_reducible apply rd_sub | with_reducible apply rd_BM | with_reducible apply rd_BM0
  | with_reducible apply rd_yes | with_reducible apply rd_nope | with_reducible apply rd_yes2 | with_reducible apply rd_nope2 | with_reducible apply rd_gCons | with_reducible apply rd_gNil | with_reducible apply rd_iTup | with_reducible apply rd_iList | with_reducible apply rd_iRng1 | with_reducible apply rd_iRng2
  | with_reducible apply rd_lc | with_reducible apply rd_augS | ((with_reducible refine' rd_aug ?e ?h); (case e => exact rfl)) | with_reducible apply rd_ip
  | with_reducible apply rd_din | with_reducible apply rd_dnotin | with_reducible apply rd_dget | with_reducible apply rd_dget1 | with_reducible apply rd_dget2 | with_reducible apply rd_dput | with_reducible apply rd_disp1T | with_reducible apply rd_dnewK | with_reducible apply rd_dnewT | with_reducible apply rd_iItems | with_reducible apply rd_iItemsT | with_reducible apply rd_iVals | with_reducible apply rd_sl | with_reducible apply rd_noPart | with_reducible apply rd_part | with_reducible apply rd_int | with_reducible apply rd_inN | with_reducible apply rd_inS | with_reducible apply rd_isN0 | with_reducible apply rd_isS0
  | with_reducible apply rd_max2 | with_reducible apply rd_min2 | with_reducible apply rd_max3 | with_reducible apply rd_intI | with_reducible apply rd_intB | with_reducible apply rd_abs)
local macro_rules | `(tactic| walk_at "rds") => `(tactic| repeat walk_at "rd")
local macro_rules | `(tactic| walk_at "sz") => `(tactic| exact Nat.le_trans (show _ ≤ 1000 by simp) (by decide))
local macro_rules | `(tactic| walk_at "hp") => `(tactic| first
  | with_reducible assumption | with_reducible exact upd_same
  | ((with_reducible refine' hp_ne ?n ?h); (case n => walk_at "ne"); (case h => walk_at "hp"))
  | ((with_reducible refine' Ex.get ?e ?h); (case e => with_reducible assumption); (case h => walk_at "hp"))
  | ((with_reducible refine' Eb.get ?e ?n ?h); (case e => with_reducible assumption); (case n => walk_at "ne"); (case h => walk_at "hp")))
local macro_rules | `(tactic| walk_at "ne") => `(tactic| first
  | with_reducible assumption | (apply Ne.symm; with_reducible assumption)
  | ((with_reducible refine' ne_non ?h ?n); (case n => with_reducible assumption); (case h => walk_at "hp"))
  | (apply Ne.symm; with_reducible refine' ne_non ?h ?n; (case n => with_reducible assumption); (case h => walk_at "hp")))
local macro_rules | `(tactic| walk_at "ti") => `(tactic| first
  | with_reducible assumption | with_reducible exact Ti.refl | (with_reducible exact Ex.ti (by with_reducible assumption))
  | ((with_reducible refine' Ti.trans ?a (Ti.new ?b)); (case b => with_reducible assumption); (case a => walk_at "ti"))
  | ((with_reducible refine' Ti.trans ?a (Ti.lst ?b)); (case b => walk_at "hp"); (case a => walk_at "ti"))
  | ((with_reducible refine' Ti.trans ?a (Ti.dK ?b)); (case b => walk_at "hp"); (case a => walk_at "ti"))
  | ((with_reducible refine' Ti.trans ?a (Ti.dT ?b)); (case b => walk_at "hp"); (case a => walk_at "ti"))
  | ((with_reducible refine' Ti.trans ?a ?b); (case b => with_reducible assumption); (case a => walk_at "ti"))
  | ((with_reducible refine' Ti.trans ?a (Ex.ti ?b)); (case b => with_reducible assumption); (case a => walk_at "ti")))
local macro_rules | `(tactic| walk_at "ex") => `(tactic| first
  | with_reducible assumption | with_reducible exact Ex.refl
  | ((with_reducible refine' Ex.mut ?a ?b); (case b => with_reducible assumption); (case a => walk_at "ex"))
  | ((with_reducible refine' Ex.trans ?a (Ex.new ?b)); (case b => with_reducible assumption); (case a => walk_at "ex"))
  | ((with_reducible refine' Ex.trans ?a ?b); (case b => with_reducible assumption); (case a => walk_at "ex")))
local macro_rules | `(tactic| walk_at "rp") => `(tactic| first
  | with_reducible assumption
  | ((with_reducible refine' Rep.mono (Ex.ti ?e) ?h); (case e => with_reducible assumption); (case h => with_reducible assumption))
  | ((with_reducible refine' Rep.mono ?t ?h); (case t => with_reducible assumption); (case h => with_reducible assumption))
  | ((with_reducible refine' Rep.mono ?t ?h); (case h => with_reducible assumption); (case t => walk_at "ti"))
  | ((with_reducible refine' Reps.mono (Ex.ti ?e) ?h); (case e => with_reducible assumption); (case h => with_reducible assumption))
  | ((with_reducible refine' Reps.mono ?t ?h); (case h => with_reducible assumption); (case t => walk_at "ti")))
/-- a dict of the numbers that are not below 0 -/
structure DOn (n : Nat) (g : Nat → Int) (kvs : List (Key × V)) : Prop where
  nd : (kvs.map (·.1)).Nodup
  key : ∀ k v, (k, v) ∈ kvs → ∃ o : Nat, o < n ∧ k = .inl (o : Int)
  val : ∀ o : Nat, o < n → valV kvs (.inl (o : Int)) = if 0 ≤ g o then some (.int (g o)) else none
theorem DOn.mem {n : Nat} {g : Nat → Int} {kvs : List (Key × V)} (h : DOn n g kvs) {k : Key} {v : V} (hm : (k, v) ∈ kvs) : ∃ o : Nat, o < n ∧ k = .inl (o : Int) ∧ 0 ≤ g o ∧ v = .int (g o) := by
  obtain ⟨o, ho, rfl⟩ := h.key k v hm
  have e := (valV_mem h.nd).mpr hm
  rw [h.val o ho] at e
  by_cases h0 : 0 ≤ g o
  · rw [if_pos h0] at e
    injection e with e
    exact ⟨o, ho, rfl, h0, e.symm⟩
  · rw [if_neg h0] at e; cases e
theorem DOn.of {n : Nat} {g : Nat → Int} {kvs : List (Key × V)} (h : DOn n g kvs) {o : Nat} (ho : o < n) (h0 : 0 ≤ g o) : (.inl (o : Int), .int (g o)) ∈ kvs := by
  refine (valV_mem h.nd).mp ?_
  rw [h.val o ho, if_pos h0]
theorem DOn.get {n : Nat} {g : Nat → Int} {kvs : List (Key × V)} (h : DOn n g kvs) (hg : ∀ o, -1 ≤ g o) {o : Nat} (ho : o < n) : (valV kvs (.inl (o : Int))).getD (.int (-1)) = .int (g o) := by
  rw [h.val o ho]
  have := hg o
  by_cases h0 : 0 ≤ g o
  · rw [if_pos h0]; rfl
  · rw [if_neg h0]
    show V.int (-1) = _
    congr 1
    omega
theorem DOn.congr {n : Nat} {g g' : Nat → Int} {kvs : List (Key × V)} (h : DOn n g kvs) (e : ∀ o, o < n → g' o = g o) : DOn n g' kvs := ⟨h.nd, h.key, fun o ho => by rw [h.val o ho, e o ho]⟩
theorem DOn.len {n : Nat} {g : Nat → Int} {kvs : List (Key × V)} (h : DOn n g kvs) : kvs.length ≤ n := by
  have e := nodup_le (kvs.map (·.1)) ((List.range n).map fun o : Nat => (.inl (o : Int) : Key)) h.nd fun k hk => by
    obtain ⟨⟨k', v⟩, hm, rfl⟩ := List.mem_map.mp hk
    obtain ⟨o, ho, rfl⟩ := h.key _ _ hm
    exact List.mem_map.mpr ⟨o, List.mem_range.mpr ho, rfl⟩
  rw [List.length_map, List.length_map, List.length_range] at e
  exact e
theorem DOn.put {n : Nat} {g g' : Nat → Int} {kvs : List (Key × V)} (h : DOn n g kvs) {q : Nat} (hq : q < n) (h0 : 0 ≤ g' q) (e : ∀ o, o ≠ q → g' o = g o) : DOn n g' (putK kvs (.inl (q : Int)) (.int (g' q))) := by
  have nd := keys_put (k := (.inl (q : Int) : Key)) (v := .int (g' q)) h.nd
  refine ⟨nd, fun k v hm => ?_, fun o ho => ?_⟩
  · have hv := (valV_mem nd).mpr hm
    rw [valV_put] at hv
    by_cases hk : k = .inl (q : Int)
    · exact ⟨q, hq, hk⟩
    · rw [if_neg hk] at hv
      exact h.key k v ((valV_mem h.nd).mp hv)
  · rw [valV_put]
    by_cases hk : o = q
    · subst hk
      rw [if_pos rfl, if_pos h0]
    · rw [if_neg (fun e => hk (by injection e with e; omega)), h.val o ho, e o hk]
theorem DOn.nil {n : Nat} : DOn n (fun _ => -1) [] := ⟨List.nodup_nil, fun k v h => (nomatch h), fun o ho => by rw [if_neg (by decide)]; rfl⟩
theorem DOn.unit {n p : Nat} (hp : p < n) : DOn n (unitF p) [(.inl (p : Int), .int 0)] := by
  refine ⟨by simp, fun k v hm => ?_, fun o ho => ?_⟩
  · cases List.mem_singleton.mp hm
    exact ⟨p, hp, rfl⟩
  · unfold unitF
    by_cases h : o = p
    · subst h
      rw [valV_pos rfl, if_pos rfl, if_pos (by decide)]
    · rw [valV_neg (fun e => h (by injection e with e; omega)), if_neg h, if_neg (by decide)]
      rfl
/-- what the next dict holds, behind i items and q columns -/
structure Beh (t : Tab) (m : Nat) (f : Nat → Int) (kvs : List (Key × V)) (i q : Nat) (g : Nat → Int) : Prop where
  ge : ∀ o, -1 ≤ g o
  low : ∀ o, o < m → ∀ z : Int, 0 ≤ z → (z ≤ g o ↔ ∃ j p, kvs[j]? = some (.inl (p : Nat), .int (f p)) ∧ 0 < tg t p o ∧ z ≤ f p + (if tg t p o = 2 then 1 else 0) ∧ (j < i ∨ (j = i ∧ o < q)))
theorem Beh.nil {t : Tab} {m : Nat} {f : Nat → Int} {kvs : List (Key × V)} : Beh t m f kvs 0 0 (fun _ => -1) :=
  ⟨fun _ => Int.le_refl _, fun o ho z hz => ⟨fun h => by omega, fun ⟨j, p, _, _, _, h⟩ => by omega⟩⟩
theorem Beh.next {t : Tab} {m : Nat} {f : Nat → Int} {kvs : List (Key × V)} {i : Nat} {g : Nat → Int} (h : Beh t m f kvs i m g) : Beh t m f kvs (i + 1) 0 g :=
  ⟨h.ge, fun o ho z hz => by
    rw [h.low o ho z hz]
    refine exists_congr fun j => exists_congr fun p => and_congr_right fun _ => and_congr_right fun _ => and_congr_right fun _ => ?_
    omega⟩
theorem inl_inj {a b : Nat} (h : (.inl (a : Int) : Key) = .inl (b : Int)) : a = b := by injection h with h; omega
theorem Beh.no {t : Tab} {m : Nat} {f : Nat → Int} {kvs : List (Key × V)} {i q p : Nat} {g : Nat → Int} (h : Beh t m f kvs i q g) (hi : kvs[i]? = some (.inl (p : Int), .int (f p))) (hn : ¬ 0 < tg t p q) : Beh t m f kvs i (q + 1) g :=
  ⟨h.ge, fun o ho z hz => by
    rw [h.low o ho z hz]
    refine exists_congr fun j => exists_congr fun p' => and_congr_right fun hj => and_congr_right fun hp => and_congr_right fun _ => ?_
    by_cases e : j = i ∧ o = q
    · obtain ⟨rfl, rfl⟩ := e
      rw [hi] at hj
      injection hj with hj
      injection hj with hj _
      cases inl_inj hj
      exact absurd hp hn
    · omega⟩
theorem Beh.yes {t : Tab} {m : Nat} {f : Nat → Int} {kvs : List (Key × V)} {i q p : Nat} {g : Nat → Int} (h : Beh t m f kvs i q g) (hi : kvs[i]? = some (.inl (p : Int), .int (f p))) (hp : 0 < tg t p q) :
    Beh t m f kvs i (q + 1) (fun o => if o = q then max (g q) (f p + (if tg t p q = 2 then 1 else 0)) else g o) := by
  refine ⟨fun o => ?_, fun o ho z hz => ?_⟩
  · by_cases e : o = q
    · rw [if_pos e]; have := h.ge q; omega
    · rw [if_neg e]; exact h.ge o
  · by_cases e : o = q
    · subst e
      rw [if_pos rfl]
      constructor
      · intro hz2
        by_cases h1 : z ≤ g o
        · obtain ⟨j, p', a, b, c, d⟩ := (h.low o ho z hz).mp h1
          exact ⟨j, p', a, b, c, by omega⟩
        · exact ⟨i, p, hi, hp, by omega, by omega⟩
      · rintro ⟨j, p', a, b, c, d⟩
        by_cases e2 : j = i
        · subst e2
          rw [hi] at a
          injection a with a
          injection a with a _
          cases inl_inj a
          omega
        · have := (h.low o ho z hz).mpr ⟨j, p', a, b, c, by omega⟩
          omega
    · rw [if_neg e, h.low o ho z hz]
      refine exists_congr fun j => exists_congr fun p' => and_congr_right fun _ => and_congr_right fun _ => and_congr_right fun _ => ?_
      omega
theorem Beh.fin {t : Tab} {n m i : Nat} {f g : Nat → Int} {kvs : List (Key × V)} (h : Beh t m f kvs i 0 g) (hi : kvs.length ≤ i) (D : DOn n f kvs) {o : Nat} (ho : o < m) : sv t n f o = g o := by
  refine eq_of_low (mxF_ge _ _) (h.ge o) fun z hz => ?_
  rw [h.low o ho z hz, sv_iff hz]
  constructor
  · rintro ⟨p, a, b, c, d⟩
    obtain ⟨j, hj⟩ := List.mem_iff_getElem?.mp (D.of a b)
    have := (List.getElem?_eq_some_iff.mp hj).1
    exact ⟨j, p, hj, c, d, by omega⟩
  · rintro ⟨j, p, a, b, c, d⟩
    obtain ⟨o', h1, h2, h3, h4⟩ := D.mem (List.mem_of_getElem? a)
    cases inl_inj h2
    exact ⟨p, h1, h3, b, c⟩
def valAt (kvs : List (Key × V)) (j : Nat) : Int := match kvs[j]? with
  | some (_, .int x) => x
  | _ => -1
theorem mx_vals {n : Nat} {f : Nat → Int} {kvs : List (Key × V)} (D : DOn n f kvs) : mxF kvs.length (valAt kvs) = mxF n f := by
  refine eq_of_low (mxF_ge _ _) (mxF_ge _ _) fun z hz => ?_
  rw [mxF_iff hz, mxF_iff hz]
  constructor
  · rintro ⟨j, hj, h⟩
    have e := List.getElem?_eq_getElem hj
    obtain ⟨o, h1, h2, h3, h4⟩ := D.mem (List.mem_of_getElem? (l := kvs) (i := j) (a := (kvs[j].1, kvs[j].2)) e)
    unfold valAt at h
    rw [e, show kvs[j] = (kvs[j].1, kvs[j].2) from rfl, h4] at h
    exact ⟨o, h1, h⟩
  · rintro ⟨o, ho, h⟩
    obtain ⟨j, hj⟩ := List.mem_iff_getElem?.mp (D.of ho (by omega))
    refine ⟨j, (List.getElem?_eq_some_iff.mp hj).1, ?_⟩
    unfold valAt
    rw [hj]
    exact h
section
variable {P : Program} {w : World} {K : PySem.W.Frag} {mg : Str → Option Value} {base : Heap}
def spFalls : Sp := fun vs H Q _ => ∃ (v2 v3 : V) (sizes : List Int) (edges : List Edge) (word : List Int) (start turns : Nat), vs = [v2, v3, .int (start : Int), .int (turns : Int)] ∧ rep H v2 edges ∧ rep H v3 word ∧ Web sizes edges ∧ WordOk edges word ∧
  start < szAt sizes edges word 0 ∧ turns ≤ 1000 ∧ (turns ≤ 1 ∨ backW edges word) ∧ ∀ H', Ex H H' → Q (.int (mxF (szT sizes edges word turns) (iterF (fun f => wv sizes edges f word) turns (unitF start)))) H'
abbrev s_thread_falls : Stmt := topS 7
theorem sc_thread_falls : FnScope ["edges", "word", "start", "turns", "best", "turn", "number", "table", "behind", "place", "falls", "onto", "entry", "gained", "most"] ["edges", "word", "start", "turns"] (C8.fnScope s_thread_falls) := C8.fnScope_by (by decide +kernel)
theorem ok_falls (F : Df K mg "thread_falls" s_thread_falls ["edges", "word", "start", "turns"]) (T : Bt mg) : C8.Cal P w K mg base 1 "thread_falls" spFalls [] := by
  have sc := sc_thread_falls
  refine F.cal sc (fun vs H Q E h => ?_) (fun f cdv A outer s H vs Q E hr h => ?_)
  · obtain ⟨v2, v3, sizes, edges, word, start, turns, rfl, _⟩ := h; rfl
  obtain ⟨v2, v3, sizes, edges, word, start, turns, rfl, r2, r3, W, wo, hst, ht, hb, k⟩ := h
  have hu := hu_of hr
  refine ⟨_, 
    (pss_cons (ps_set (i := 4) sc.nd rfl (by first | exact Or.inl rfl | exact Or.inr rfl) (pe_disp (pps_cons (pv 2) pe_int pps_nil) (by rfl) (by rfl) (fun z => by cases z) (by decide)))
    (pss_cons (ps_for PassesOwn.never rfl (pi_range1 (by rfl) T.range (pa_cons (pv 3) pa_nil)) (pg_name (i := 5) sc.nd rfl (by first | exact Or.inl rfl | exact Or.inr rfl))
    (pss_one (ps_for PassesOwn.never rfl (piT K (pv 1)) (pg_name (i := 6) sc.nd rfl (by first | exact Or.inl rfl | exact Or.inr rfl))
    (pss_cons (ps_set (i := 7) sc.nd rfl (by first | exact Or.inl rfl | exact Or.inr rfl) (pe_ix (ixT K) (pe_ix (ixT K) (pv 0) (pv 6) (fun _ _ => rfl)) pe_int (fun _ _ => rfl)))
    (pss_cons (ps_set (i := 8) sc.nd rfl (by first | exact Or.inl rfl | exact Or.inr rfl) pe_dnewK)
    (pss_cons (ps_lock (ps_for PassesOwn.never rfl (pi_items (pv 4)) (pgT K rfl (pgs_cons (pg_name (i := 9) sc.nd rfl (by first | exact Or.inl rfl | exact Or.inr rfl)) (pgs_cons (pg_name (i := 10) sc.nd rfl (by first | exact Or.inl rfl | exact Or.inr rfl)) pgs_nil)))
    (pss_one (ps_for PassesOwn.never rfl (pi_range1 (by rfl) T.range (pa_cons (pe_callB (cLen K) (by rfl) T.len (by decide +kernel) (pa_cons (pe_ix (ixT K) (pv 7) (pv 9) (fun _ _ => rfl)) pa_nil)) pa_nil)) (pg_name (i := 11) sc.nd rfl (by first | exact Or.inl rfl | exact Or.inr rfl))
    (pss_cons (ps_set (i := 12) sc.nd rfl (by first | exact Or.inl rfl | exact Or.inr rfl) (pe_ix (ixT K) (pe_ix (ixT K) (pv 7) (pv 9) (fun _ _ => rfl)) (pv 11) (fun _ _ => rfl)))
    (pss_one (ps_if (pt_cmpR op_gt (pv 12) pe_int (nomark _))
    (pss_cons (ps_set (i := 13) sc.nd rfl (by first | exact Or.inl rfl | exact Or.inr rfl) (pe_op op_add (pv 10) (pe_ifExp (pt_cmpR op_eq (pv 12) pe_int (nomark _)) pe_int pe_int)))
    (pss_one (ps_if (pt_cmpR op_gt (pv 13) (pe_dget2 hu (pv 8) (pv 11) (pe_un un_neg pe_int) ⟨rfl, rfl, rfl, rfl⟩) (nomark _))
    (pss_one (ps_dput hu (pv 8) (pv 11) (pv 13) rfl))
    pss_nil)))
    pss_nil)))))))
    (pss_one (ps_set (i := 4) sc.nd rfl (by first | exact Or.inl rfl | exact Or.inr rfl) (pv 8)))))))))
    (pss_cons (ps_set (i := 14) sc.nd rfl (by first | exact Or.inl rfl | exact Or.inr rfl) (pe_un un_neg pe_int))
    (pss_cons (ps_lock (ps_for PassesOwn.never rfl (pi_values (pv 4)) (pg_name (i := 10) sc.nd rfl (by first | exact Or.inl rfl | exact Or.inr rfl))
    (pss_one (ps_set (i := 14) sc.nd rfl (by first | exact Or.inl rfl | exact Or.inr rfl) (pe_callB (cMax2 rfl) (by rfl) T.max (by decide +kernel) (pa_cons (pv 14) (pa_cons (pv 10) pa_nil)))))))
    (pss_one (ps_ret (pv 14))))))), ?_⟩
  show tSeq _ _ _ [some v2, some v3, some (.int start), some (.int turns), none, none, none, none, none, none, none, none, none, none, none] H
  have hlen := wo.len
  have hpos : 0 < word.length := List.length_pos_iff.mpr wo.ne
  have hel := W.el
  walk_at "rds"
  intro pb npb
  show tVar 2 _ _ _
  walk_at "rds"
  refine ⟨upd_same, [(.inl (start : Int), .int 0)], rfl, by show 1 ≤ 15; decide, ?_⟩
  walk_at "rds"
  have e1 : Ex H (upd (upd H pb (.dK [])) pb (.dK (mergeK [] [(.inl (start : Int), .int 0)]))) := (Ex.new npb).mut npb
  have hb1 : upd (upd H pb (.dK [])) pb (.dK (mergeK [] [(.inl (start : Int), .int 0)])) pb = some (.dK [(.inl (start : Int), .int 0)]) := upd_same
  generalize upd (upd H pb (.dK [])) pb (.dK (mergeK [] [(.inl (start : Int), .int 0)])) = H1 at e1 hb1 ⊢
  refine r_range1 (by omega) (by omega) (fun i σ' H' => ∃ (pb : Addr) (kvs : List (Key × V)) (j5 j6 j7 j8 j9 j10 j11 j12 j13 : Option V), σ' = [some v2, some v3, some (.int start), some (.int turns), some (.ref pb), j5, j6, j7, j8, j9, j10, j11, j12, j13, none] ∧ Ex H H' ∧ H pb = none ∧ H' pb = some (.dK kvs) ∧ DOn (szT sizes edges word i) (iterF (fun f => wv sizes edges f word) i (unitF start)) kvs) ?_ ?_ ?_
  · exact ⟨pb, _, _, _, _, _, _, _, _, _, _, rfl, e1, npb, hb1, DOn.unit hst⟩
  · clear hb1 e1 npb pb H1
    rintro i σ' H1 hi ⟨pb, kvs, j5, j6, j7, j8, j9, j10, j11, j12, j13, rfl, e1, npb, hb1, D1⟩
    have hsz : szT sizes edges word i = szAt sizes edges word 0 := by
      unfold szT
      by_cases h : i = 0
      · rw [if_pos h]
      · rw [if_neg h]
        exact szAt_back wo (by rcases hb with h2 | h2; omega; exact h2)
    rw [hsz] at D1
    generalize hF : iterF (fun f => wv sizes edges f word) i (unitF start) = F0 at D1
    walk_at "rds"
    refine r_tup (H0 := H) r3 (fun j σ' H' => ∃ (pb : Addr) (kvs : List (Key × V)) (j6 j7 j8 j9 j10 j11 j12 j13 : Option V), σ' = [some v2, some v3, some (.int start), some (.int turns), some (.ref pb), some (.int i), j6, j7, j8, j9, j10, j11, j12, j13, none] ∧ Ex H H' ∧ H pb = none ∧ H' pb = some (.dK kvs) ∧ DOn (szAt sizes edges word j) (wv sizes edges F0 (word.take j)) kvs)
      ?_ (fun j σ' H' ⟨_, _, _, _, _, _, _, _, _, _, _, e, _⟩ => e.ti) ?_ ?_
    · exact ⟨pb, kvs, _, _, _, _, _, _, _, _, rfl, e1, npb, hb1, D1⟩
    · clear D1 hb1 npb e1 H1 kvs pb
      rintro j z wz σ' H1 hz hj rz ⟨pb, kvs, j6, j7, j8, j9, j10, j11, j12, j13, rfl, e1, npb, hb1, D1⟩
      cases rz
      obtain ⟨z0, z1⟩ := wo.num z (List.mem_of_getElem? hz)
      have hzd : word.getD j 0 = z := by rw [List.getD_eq_getElem?_getD, hz]; rfl
      obtain ⟨c0, c1, c2, c3, tok⟩ := W.edge z0 z1
      have hnm : szN sizes (edgeAt edges z).a = szAt sizes edges word j := by rw [← hzd]; exact szAt_eq wo hj
      have hnx : szAt sizes edges word (j + 1) = szN sizes (edgeAt edges z).b := by rw [szAt_succ, hzd]
      have hm50 := W.szle (edgeAt edges z).b
      have hn50 := W.szle (edgeAt edges z).a
      have hwv : wv sizes edges F0 (word.take (j + 1)) = sv (edgeAt edges z).c (szAt sizes edges word j) (wv sizes edges F0 (word.take j)) := by
        rw [take_succ' hj, hzd, wv_snoc, hnm]
      generalize wv sizes edges F0 (word.take j) = f0 at D1 hwv
      rw [hwv, hnx]
      rw [← hnm] at D1 ⊢
      have hlk := D1.len
      walk_at "rds"
      refine rd_edge (Rep.mono e1.ti r2) z0 z1 fun we re => ?_
      walk_at "rds"
      refine rd_p3c re fun wt rt => ?_
      walk_at "rds"
      intro pd npd
      walk_at "rds"
      have npd0 : H pd = none := e1.free npd
      have nbd : pb ≠ pd := ne_of_none hb1 npd
      have e2 : Ex H1 (upd H1 pd (.dK [])) := Ex.new npd
      have hd2 : upd H1 pd (.dK []) pd = some (.dK []) := upd_same
      have hb2 := e2 _ _ hb1
      generalize upd H1 pd (.dK []) = H2 at e2 hd2 hb2 ⊢
      refine rd_lock hb2 trivial fun od => ?_
      walk_at "rds"
      have e3 : Ex H (upd H2 pb (.frz od (.dK kvs))) := (e1.trans e2).mut npb
      have t3 : Ti H1 (upd H2 pb (.frz od (.dK kvs))) := e2.ti.trans (Ti.dK hb2)
      have hd3 : upd H2 pb (.frz od (.dK kvs)) pd = some (.dK []) := by rw [upd_ne nbd.symm]; exact hd2
      have hb3 : upd H2 pb (.frz od (.dK kvs)) pb = some (.frz od (.dK kvs)) := upd_same
      generalize upd H2 pb (.frz od (.dK kvs)) = H3 at e3 t3 hd3 hb3 ⊢
      refine r_items hb3 (fun x σ' H' => ∃ (bs : List (Key × V)) (g : Nat → Int) (j9 j10 j11 j12 j13 : Option V), σ' = [some v2, some v3, some (.int start), some (.int turns), some (.ref pb), some (.int i), some (.int z), some wt, some (.ref pd), j9, j10, j11, j12, j13, none] ∧ Ex H H' ∧ Ti H1 H' ∧ H' pb = some (.frz od (.dK kvs)) ∧ H' pd = some (.dK bs) ∧ DOn (szN sizes (edgeAt edges z).b) g bs ∧ Beh (edgeAt edges z).c (szN sizes (edgeAt edges z).b) f0 kvs x 0 g) ?_ (fun _ _ _ ⟨_, _, _, _, _, _, _, _, _, _, h, _⟩ => h) ?_ ?_
      · exact ⟨[], _, _, _, _, _, _, rfl, e3, t3, hb3, hd3, DOn.nil, Beh.nil⟩
      · rintro x kk vv TT σ' H4 hx hxl ⟨bs, g, j9, j10, j11, j12, j13, rfl, e4, t4, hb4, hd4, D4, B4⟩ nT
        obtain ⟨p, hp, rfl, hp0, rfl⟩ := D1.mem (List.mem_of_getElem? hx)
        have hpr : p < (edgeAt edges z).c.length := by rw [tok.rows]; exact hp
        have hcl : ((edgeAt edges z).c.getD p []).length = szN sizes (edgeAt edges z).b := tok.cols _ (by rw [List.getD_eq_getElem?_getD, List.getElem?_eq_getElem hpr]; exact List.getElem_mem _)
        refine rd_gTup upd_same rfl ?_
        walk_at "rds"
        have e5 : Ex H4 (upd H4 TT (.tup [kV (.inl (p : Int)), .int (f0 p)])) := Ex.new nT
        have hb5 := e5 _ _ hb4
        have hd5 := e5 _ _ hd4
        generalize upd H4 TT (.tup [kV (.inl (p : Int)), .int (f0 p)]) = H5 at e5 hb5 hd5 ⊢
        have rt5 := Rep.mono (t4.trans e5.ti) rt
        refine rd_ixTL rt5 (by omega) (by omega) fun wr rwr => ?_
        rw [Int.toNat_natCast] at rwr
        walk_at "rds"
        refine rd_lenT rwr ?_
        rw [hcl]
        walk_at "rds"
        refine r_range1 (by omega) (by omega) (fun q σ' H' => ∃ (bs : List (Key × V)) (g : Nat → Int) (j11 j12 j13 : Option V), σ' = [some v2, some v3, some (.int start), some (.int turns), some (.ref pb), some (.int i), some (.int z), some wt, some (.ref pd), some (.int p), some (.int (f0 p)), j11, j12, j13, none] ∧ Ex H H' ∧ Ti H1 H' ∧ H' pb = some (.frz od (.dK kvs)) ∧ H' pd = some (.dK bs) ∧ DOn (szN sizes (edgeAt edges z).b) g bs ∧ Beh (edgeAt edges z).c (szN sizes (edgeAt edges z).b) f0 kvs x q g) ?_ ?_ ?_
        · exact ⟨bs, g, _, _, _, rfl, e4.trans e5, t4.trans e5.ti, hb5, hd5, D4, B4⟩
        · rintro q σ' H6 hq ⟨bs, g, j11, j12, j13, rfl, e6, t6, hb6, hd6, D6, B6⟩
          have hqm : q < szN sizes (edgeAt edges z).b := by omega
          have rt6 := Rep.mono t6 rt
          walk_at "rds"
          refine rd_ixTL rt6 (by omega) (by omega) fun wr rwr => ?_
          rw [Int.toNat_natCast] at rwr
          walk_at "rds"
          refine rd_ixTI rwr (by omega) (by rw [hcl]; omega) ?_
          rw [Int.toNat_natCast]
          show _
          walk_at "rds"
          refine rd_dec (fun hpos => ?_) (fun hneg => ?_)
          · replace hpos : 0 < tg (edgeAt edges z).c p q := hpos
            walk_at "rds"
            refine rd_ifV (fun v => v = .int (if tg (edgeAt edges z).c p q = 2 then 1 else 0)) (tg (edgeAt edges z).c p q = 2) (fun QB q => by walk_at "rds"; exact q) (fun h Q' q => by walk_at "rds"; exact q _ (by rw [if_pos h])) (fun h Q' q => by walk_at "rds"; exact q _ (by rw [if_neg h])) ?_
            rintro _ rfl
            walk_at "rds"
            refine ⟨pd, rfl, .inl ⟨bs, Rd.of hd6⟩, ?_⟩
            walk_at "rds"
            refine ⟨_, DGet.k (k := .inl (q : Int)) hd6, ?_⟩
            rw [D6.get B6.ge hqm]
            walk_at "rds"
            have B7 := B6.yes hx hpos
            have hge := B6.ge q
            generalize hgn : f0 p + (if tg (edgeAt edges z).c p q = 2 then 1 else 0) = gn at B7 ⊢
            refine rd_dec (fun hgt => ?_) (fun hle => ?_)
            · walk_at "rds"
              have hbl := D6.len
              have D7 := D6.put (g' := fun o => if o = q then max (g q) gn else g o) hqm (by rw [if_pos rfl]; omega) (fun o ho => if_neg ho)
              rw [if_pos rfl, Int.max_eq_right (show g q ≤ gn by omega)] at D7
              refine ⟨pd, _, rfl, DPut.k (k := .inl (q : Int)) hd6 (ltLine (by omega)), ?_⟩
              walk_at "rds"
              refine ⟨_, _, _, _, _, rfl, e6.mut npd0, t6.trans (Ti.dK hd6), by rw [upd_ne nbd]; exact hb6, upd_same, D7, ?_⟩
              rw [Int.max_eq_right (show g q ≤ gn by omega)] at B7
              exact B7
            · walk_at "rds"
              refine ⟨bs, _, _, _, _, rfl, e6, t6, hb6, hd6, D6.congr fun o ho => ?_, B7⟩
              by_cases h : o = q
              · subst h; rw [if_pos rfl]; omega
              · rw [if_neg h]
          · walk_at "rds"
            exact ⟨bs, g, _, _, _, rfl, e6, t6, hb6, hd6, D6, B6.no hx hneg⟩
        · rintro σ' H6 ⟨bs, g, j11, j12, j13, rfl, e6, t6, hb6, hd6, D6, B6⟩
          rw [Int.toNat_natCast] at B6
          exact ⟨bs, g, _, _, _, _, _, rfl, e6, t6, hb6, hd6, D6, B6.next⟩
      · rintro σ' H4 ⟨bs, g, j9, j10, j11, j12, j13, rfl, e4, t4, hb4, hd4, D4, B4⟩
        refine ⟨hb4, ?_⟩
        walk_at "rds"
        refine ⟨pd, bs, _, _, _, _, _, _, _, _, rfl, e4.mut npb, npd0, by rw [upd_ne nbd.symm]; exact hd4, D4.congr fun o ho => B4.fin (Nat.le_refl _) D1 ho⟩
    · clear D1 hb1 npb e1 H1 kvs pb
      rintro σ' H1 ⟨pb, kvs, j6, j7, j8, j9, j10, j11, j12, j13, rfl, e1, npb, hb1, D1⟩
      rw [List.take_length] at D1
      refine ⟨pb, kvs, _, _, _, _, _, _, _, _, _, rfl, e1, npb, hb1, ?_⟩
      have e : szT sizes edges word (i + 1) = szAt sizes edges word word.length := if_neg (by omega)
      rw [e]
      show DOn _ (wv sizes edges (iterF _ i _) word) kvs
      rw [hF]
      exact D1
  · clear hb1 e1 npb pb H1
    rintro σ' H1 ⟨pb, kvs, j5, j6, j7, j8, j9, j10, j11, j12, j13, rfl, e1, npb, hb1, D1⟩
    rw [Int.toNat_natCast] at D1
    walk_at "rds"
    refine rd_lock hb1 trivial fun od => ?_
    walk_at "rds"
    have hb2 : upd H1 pb (.frz od (.dK kvs)) pb = some (.frz od (.dK kvs)) := upd_same
    refine r_vals hb2 (fun x σ' H' => ∃ (j10 : Option V), σ' = [some v2, some v3, some (.int start), some (.int turns), some (.ref pb), j5, j6, j7, j8, j9, j10, j11, j12, j13, some (.int (mxF x (valAt kvs)))] ∧ H' = upd H1 pb (.frz od (.dK kvs))) ?_ (fun _ _ _ ⟨_, _, h⟩ => by rw [h]; exact hb2) ?_ ?_
    · exact ⟨_, rfl, rfl⟩
    · rintro x kk vv σ' H2 hx hxl ⟨j10, rfl, rfl⟩
      obtain ⟨o, ho, rfl, ho0, rfl⟩ := D1.mem (List.mem_of_getElem? hx)
      walk_at "rds"
      refine ⟨some (.int (iterF (fun f => wv sizes edges f word) turns (unitF start) o)), ?_, rfl⟩
      have : mxF (x + 1) (valAt kvs) = max (mxF x (valAt kvs)) (valAt kvs x) := rfl
      rw [this]
      have e : valAt kvs x = iterF (fun f => wv sizes edges f word) turns (unitF start) o := by unfold valAt; rw [hx]
      rw [e]
      rfl
    · rintro σ' H2 ⟨j10, rfl, rfl⟩
      refine ⟨hb2, ?_⟩
      walk_at "rds"
      rw [mx_vals D1]
      exact k _ ((e1.mut npb).mut npb)
end
end Fw
namespace Fw
open PySem PySem.Spec PyProof.Rows L2
open Rep (rep)
local macro_rules | `(tactic| walk_at "rd") => `(tactic| first
  | with_reducible apply rd_seq | with_reducible apply rd_asg | with_reducible apply rd_name | with_reducible apply rd_ret | with_reducible apply rd_drop | with_reducible apply rd_if
  | ((with_reducible refine' rd_var ?e ?h); (case e => exact rfl)) | with_reducible apply rd_c | with_reducible apply rd_op | with_reducible apply rd_un | with_reducible apply rd_I0 | with_reducible apply rd_U
  | with_reducible apply rd_eqI | with_reducible apply rd_neI | with_reducible apply rd_eqB | with_reducible apply rd_eqS | with_reducible apply rd_neS | with_reducible apply rd_tB | with_reducible apply rd_test | with_reducible apply rd_bl | with_reducible apply rd_not | with_reducible apply rd_and | with_reducible apply rd_or
  | with_reducible apply rd_andV | with_reducible apply rd_orV | with_reducible apply rd_notV | with_reducible apply rd_chain | with_reducible apply rd_nil | with_reducible apply rd_cons | with_reducible apply rd_CB | with_reducible apply rd_call | with_reducible apply rd_for
  | with_reducible apply rd_next | with_reducible apply rd_brk | with_reducible apply rd_cont | with_reducible apply rd_tup | with_reducible apply rd_lst | with_reducible apply rd_sub | with_reducible apply rd_BM | with_reducible apply rd_BM0
  | with_reducible apply rd_yes | with_reducible apply rd_nope | with_reducible apply rd_yes2 | with_reducible apply rd_nope2 | with_reducible apply rd_gCons | with_reducible apply rd_gNil | with_reducible apply rd_iTup | with_reducible apply rd_iList | with_reducible apply rd_iRng1 | with_reducible apply rd_iRng2
  | with_reducible apply rd_lc | with_reducible apply rd_augS | ((with_reducible refine' rd_aug ?e ?h); (case e => exact rfl)) | with_reducible apply rd_ip
  | with_reducible apply rd_din | with_reducible apply rd_dnotin | with_reducible apply rd_dget | with_reducible apply rd_dget1 | with_reducible apply rd_dget2 | with_reducible apply rd_dput | with_reducible apply rd_disp1T | with_reducible apply rd_dnewK | with_reducible apply rd_dnewT | with_reducible apply rd_iItems | with_reducible apply rd_iItemsT | with_reducible apply rd_iVals | with_reducible apply rd_sl | with_reducible apply rd_noPart | with_reducible apply rd_part | with_reducible apply rd_int | with_reducible apply rd_inN | with_reducible apply rd_inS | with_reducible apply rd_isN0 | with_reducible apply rd_isS0
  | with_reducible apply rd_max2 | with_reducible apply rd_min2 | with_reducible apply rd_max3 | with_reducible apply rd_intI | with_reducible apply rd_intB | with_reducible apply rd_abs)
local macro_rules | `(tactic| walk_at "rds") => `(tactic| repeat walk_at "rd")
local macro_rules | `(tactic| walk_at "sz") => `(tactic| exact Nat.le_trans (show _ ≤ 1000 by simp) (by decide))
local macro_rules | `(tactic| walk_at "hp") => `(tactic| first
  | with_reducible assumption | with_reducible exact upd_same
  | ((with_reducible refine' hp_ne ?n ?h); (case n => walk_at "ne"); (case h => walk_at "hp"))
  | ((with_reducible refine' Ex.get ?e ?h); (case e => with_reducible assumption); (case h => walk_at "hp"))
  | ((with_reducible refine' Eb.get ?e ?n ?h); (case e => with_reducible assumption); (case n => walk_at "ne"); (case h => walk_at "hp")))
local macro_rules | `(tactic| walk_at "ne") => `(tactic| first
  | with_reducible assumption | (apply Ne.symm; with_reducible assumption)
  | ((with_reducible refine' ne_non ?h ?n); (case n => with_reducible assumption); (case h => walk_at "hp"))
  | (apply Ne.symm; with_reducible refine' ne_non ?h ?n; (case n => with_reducible assumption); (case h => walk_at "hp")))
local macro_rules | `(tactic| walk_at "ti") => `(tactic| first
  | with_reducible assumption | with_reducible exact Ti.refl | (with_reducible exact Ex.ti (by with_reducible assumption))
  | ((with_reducible refine' Ti.trans ?a (Ti.new ?b)); (case b => with_reducible assumption); (case a => walk_at "ti"))
  | ((with_reducible refine' Ti.trans ?a (Ti.lst ?b)); (case b => walk_at "hp"); (case a => walk_at "ti"))
  | ((with_reducible refine' Ti.trans ?a (Ti.dK ?b)); (case b => walk_at "hp"); (case a => walk_at "ti"))
  | ((with_reducible refine' Ti.trans ?a (Ti.dT ?b)); (case b => walk_at "hp"); (case a => walk_at "ti"))
  | ((with_reducible refine' Ti.trans ?a ?b); (case b => with_reducible assumption); (case a => walk_at "ti"))
  | ((with_reducible refine' Ti.trans ?a (Ex.ti ?b)); (case b => with_reducible assumption); (case a => walk_at "ti")))
local macro_rules | `(tactic| walk_at "ex") => `(tactic| first
  | with_reducible assumption | with_reducible exact Ex.refl
  | ((with_reducible refine' Ex.mut ?a ?b); (case b => with_reducible assumption); (case a => walk_at "ex"))
  | ((with_reducible refine' Ex.trans ?a (Ex.new ?b)); (case b => with_reducible assumption); (case a => walk_at "ex"))
  | ((with_reducible refine' Ex.trans ?a ?b); (case b => with_reducible assumption); (case a => walk_at "ex")))
local macro_rules | `(tactic| walk_at "rp") => `(tactic| first
  | with_reducible assumption
  | ((with_reducible refine' Rep.mono (Ex.ti ?e) ?h); (case e => with_reducible assumption); (case h => with_reducible assumption))
  | ((with_reducible refine' Rep.mono ?t ?h); (case t => with_reducible assumption); (case h => with_reducible assumption))
  | ((with_reducible refine' Rep.mono ?t ?h); (case h => with_reducible assumption); (case t => walk_at "ti"))
  | ((with_reducible refine' Reps.mono (Ex.ti ?e) ?h); (case e => with_reducible assumption); (case h => with_reducible assumption))
  | ((with_reducible refine' Reps.mono ?t ?h); (case h => with_reducible assumption); (case t => walk_at "ti")))
theorem getD_bound {l : List Int} (h : ∀ x ∈ l, 0 ≤ x ∧ x ≤ 2) (i : Nat) : 0 ≤ l.getD i 0 ∧ l.getD i 0 ≤ 2 := by
  rw [List.getD_eq_getElem?_getD]
  by_cases hi : i < l.length
  · rw [List.getElem?_eq_getElem hi]
    exact h _ (List.getElem_mem hi)
  · rw [List.getElem?_eq_none (by omega)]
    exact ⟨Int.le_refl _, by decide⟩
theorem getD_row {t : Tab} {n m : Nat} (h : TabOk t n m) (i : Nat) : ∀ x ∈ t.getD i [], 0 ≤ x ∧ x ≤ 2 := by
  rw [List.getD_eq_getElem?_getD]
  by_cases hi : i < t.length
  · rw [List.getElem?_eq_getElem hi]
    exact h.ent _ (List.getElem_mem hi)
  · rw [List.getElem?_eq_none (by omega)]
    intro x hx; cases hx
theorem ent_bound {row : List Int} {s : Tab} {n m : Nat} (h1 : ∀ x ∈ row, 0 ≤ x ∧ x ≤ 2) (h2 : TabOk s n m) (col : Nat) : ∀ k, 0 ≤ ent row s col k ∧ ent row s col k ≤ 2
  | 0 => ⟨Int.le_refl _, by show (0 : Int) ≤ 2; decide⟩
  | k + 1 => by
    have ih := ent_bound h1 h2 col k
    have a := getD_bound h1 k
    have b := getD_bound (getD_row h2 k) col
    have e : ent row s col (k + 1) = if 0 < row.getD k 0 ∧ 0 < (s.getD k []).getD col 0 then max (ent row s col k) (max (row.getD k 0) ((s.getD k []).getD col 0)) else ent row s col k := rfl
    rw [e]
    by_cases h : 0 < row.getD k 0 ∧ 0 < (s.getD k []).getD col 0
    · rw [if_pos h]; omega
    · rw [if_neg h]; exact ih
theorem tabok_join {f s : Tab} {n k j m : Nat} (h1 : TabOk f n k) (h2 : TabOk s j m) : TabOk (joinT f s m) n m := by
  refine ⟨by unfold joinT; rw [List.length_map, h1.rows], fun r hr => ?_, fun r hr x hx => ?_⟩
  · obtain ⟨row, _, rfl⟩ := List.mem_map.mp hr
    rw [List.length_map, List.length_range]
  · obtain ⟨row, hrow, rfl⟩ := List.mem_map.mp hr
    obtain ⟨col, _, rfl⟩ := List.mem_map.mp hx
    exact ent_bound (h1.ent row hrow) h2 col _
theorem tabok_id {n : Nat} : TabOk (idT n) n n := by
  unfold idT
  refine ⟨by simp, fun r hr => ?_, fun r hr x hx => ?_⟩
  · obtain ⟨i, _, rfl⟩ := List.mem_map.mp hr
    simp
  · obtain ⟨i, _, rfl⟩ := List.mem_map.mp hr
    obtain ⟨j, _, rfl⟩ := List.mem_map.mp hx
    show 0 ≤ (if i = j then (1 : Int) else 0) ∧ (if i = j then (1 : Int) else 0) ≤ 2
    split <;> decide
theorem map_getD {l : List Int} {m : Nat} (h : l.length = m) : (List.range m).map (fun i => l.getD i 0) = l := by
  refine List.ext_getElem? fun i => ?_
  rw [List.getElem?_map]
  by_cases hi : i < m
  · rw [List.getElem?_range hi, List.getElem?_eq_getElem (by omega)]
    show some (l.getD i 0) = _
    rw [List.getD_eq_getElem?_getD, List.getElem?_eq_getElem (by omega)]
    rfl
  · rw [List.getElem?_eq_none (by simp; omega), List.getElem?_eq_none (by omega)]
    rfl
theorem ent_id {T : Tab} {n m r col : Nat} (h : TabOk T n m) (hr : r < n) : ∀ k, k ≤ n → ent ((List.range n).map fun c => if r = c then (1 : Int) else 0) T col k = if r < k then (T.getD r []).getD col 0 else 0
  | 0, _ => by rw [if_neg (by omega)]; rfl
  | k + 1, hk => by
    have ih := ent_id (col := col) h hr k (by omega)
    have e1 : ((List.range n).map fun c => if r = c then (1 : Int) else 0).getD k 0 = if r = k then 1 else 0 := by
      rw [List.getD_eq_getElem?_getD, List.getElem?_map, List.getElem?_range (by omega)]
      rfl
    have b := getD_bound (getD_row h k) col
    show (if 0 < _ ∧ 0 < _ then _ else _) = _
    rw [e1, ih]
    by_cases h1 : r = k
    · subst h1
      rw [if_pos rfl, if_neg (Nat.lt_irrefl _), if_pos (Nat.lt_succ_self _)]
      by_cases h2 : 0 < (T.getD r []).getD col 0
      · rw [if_pos ⟨by decide, h2⟩]; omega
      · rw [if_neg (fun q => h2 q.2)]; omega
    · rw [if_neg h1, if_neg (fun q => absurd q.1 (by decide))]
      by_cases h2 : r < k
      · rw [if_pos h2, if_pos (by omega)]
      · rw [if_neg h2, if_neg (by omega)]
theorem join_id {T : Tab} {n m : Nat} (h : TabOk T n m) : joinT (idT n) T m = T := by
  unfold joinT idT
  rw [List.map_map]
  refine List.ext_getElem? fun i => ?_
  rw [List.getElem?_map]
  by_cases hi : i < n
  · have hi' : i < T.length := by rw [h.rows]; exact hi
    rw [List.getElem?_range hi, List.getElem?_eq_getElem hi']
    show some _ = some _
    congr 1
    have hrow : (T.getD i []).length = m := by
      rw [List.getD_eq_getElem?_getD, List.getElem?_eq_getElem hi']
      exact h.cols _ (List.getElem_mem hi')
    have e : T[i] = T.getD i [] := by rw [List.getD_eq_getElem?_getD, List.getElem?_eq_getElem hi']; rfl
    rw [e, ← map_getD hrow]
    refine List.map_congr_left fun col hcol => ?_
    show ent _ T col _ = _
    rw [List.length_map, List.length_range, ent_id h hi n (Nat.le_refl _), if_pos hi]
  · rw [List.getElem?_eq_none (by simp; omega), List.getElem?_eq_none (by rw [h.rows]; omega)]
    rfl
theorem tabok_wtab {sizes : List Int} {edges : List Edge} {word : List Int} (W : Web sizes edges) (wo : WordOk edges word) {t : Tab} {r : Nat} (ht : TabOk t r (szAt sizes edges word 0)) : ∀ i, i ≤ word.length → TabOk (wtab sizes edges t (word.take i)) r (szAt sizes edges word i)
  | 0, _ => ht
  | i + 1, hi => by
    have ih := tabok_wtab W wo ht i (by omega)
    obtain ⟨z0, z1⟩ := wo.at (show i < word.length by omega)
    rw [take_succ' (by omega), wtab_snoc, szAt_succ]
    exact tabok_join ih (W.edge z0 z1).2.2.2.2
/-- both ways of the word's table -/
theorem wtab_both {sizes : List Int} {edges : List Edge} {word : List Int} (W : Web sizes edges) (wo : WordOk edges word) : wtab sizes edges (idT (szAt sizes edges word 0)) word = wtab sizes edges (edgeAt edges (word.getD 0 0)).c (word.drop 1) := by
  have hp : 0 < word.length := List.length_pos_iff.mpr wo.ne
  obtain ⟨z0, z1⟩ := wo.at hp
  have tok := (W.edge z0 z1).2.2.2.2
  cases word with
  | nil => exact absurd rfl wo.ne
  | cons z l =>
    show wtab sizes edges (joinT (idT _) _ _) l = wtab _ _ _ l
    have e0 : szAt sizes edges (z :: l) 0 = szN sizes (edgeAt edges z).a := if_pos rfl
    rw [e0]
    have := join_id tok
    exact congrArg (fun t => wtab sizes edges t l) this
theorem ty_bl {K : PySem.W.Frag} {H : Hp} {b : Bool} : TyX K H (.bl b) (.type "bool") := .base (.bl b)
section
variable {P : Program} {w : World} {K : PySem.W.Frag} {mg : Str → Option Value} {base : Heap}
def spWordRight : Sp := fun vs H Q _ => ∃ (d c : Addr) (ns : List Int) (v1 v2 v3 : V) (sizes : List Int) (edges : List Edge) (word : List Int), vs = [.ref d, v1, v2, v3] ∧ DOk d c ns H ∧ rep H v1 sizes ∧ rep H v2 edges ∧ rep H v3 word ∧ Web sizes edges ∧ WordOk edges word ∧
  ∀ H', Eb d H H' → DOk d c ns H' → Q (.bl true) H'
abbrev s_law_word_right : Stmt := topS 29
theorem sc_law_word_right : FnScope ["d", "sizes", "edges", "word", "first", "back", "turns", "gains", "place", "falls", "endless", "table", "number", "told"] ["d", "sizes", "edges", "word"] (C8.fnScope s_law_word_right) := C8.fnScope_by (by decide +kernel)
theorem ok_wordright (F : Df K mg "_law_word_right" s_law_word_right ["d", "sizes", "edges", "word"]) (T : Bt mg) (c_law_draw : C8.Cal P w K mg base 1 "_law_draw" spDraw []) (c_law_gains : C8.Cal P w K mg base 1 "_law_gains" spGains []) (c_thread_falls : C8.Cal P w K mg base 1 "thread_falls" spFalls []) (c_law_is_int : C8.Cal P w K mg base 1 "_law_is_int" spIsInt [])
    (c_law_most : C8.Cal P w K mg base 1 "_law_most" spMost []) (c_law_identity : C8.Cal P w K mg base 1 "_law_identity" spId []) (c_law_join : C8.Cal P w K mg base 1 "_law_join" spJoin []) (c_law_wrong_round : C8.Cal P w K mg base 2 "_law_wrong_round" spWrong []) (c_law_ring_right : C8.Cal P w K mg base 2 "_law_ring_right" spRingRight [])
    (c_ring_of : C8.Cal P w K mg base 2 "ring_of" spRingOf []) (c_judge_endless : C8.Cal P w K mg base 3 "judge_endless" spJudge []) : C8.Cal P w K mg base 4 "_law_word_right" spWordRight [] := by
  have sc := sc_law_word_right
  refine F.cal sc (fun vs H Q E h => ?_) (fun f cdv A outer s H vs Q E hr h => ?_)
  · obtain ⟨d, c, ns, v1, v2, v3, sizes, edges, word, rfl, _⟩ := h; rfl
  obtain ⟨d, c, ns, v1, v2, v3, sizes, edges, word, rfl, D, r1, r2, r3, W, wo, k⟩ := h
  refine ⟨_, 
    (pss_cons (ps_set (i := 4) sc.nd rfl (by first | exact Or.inl rfl | exact Or.inr rfl) (pe_ix (ixT K) (pe_ix (ixT K) (pv 2) (pe_ix (ixT K) (pv 3) pe_int (fun _ _ => rfl)) (fun _ _ => rfl)) pe_int (fun _ _ => rfl)))
    (pss_cons (ps_set (i := 5) sc.nd rfl (by first | exact Or.inl rfl | exact Or.inr rfl) (pe_cmpR op_eq (pe_ix (ixT K) (pe_ix (ixT K) (pv 2) (pe_ix (ixT K) (pv 3) (pe_un un_neg pe_int) (fun _ _ => rfl)) (fun _ _ => rfl)) pe_int (fun _ _ => rfl)) (pv 4) (nomark _)))
    (pss_cons (ps_set (i := 6) sc.nd rfl (by first | exact Or.inl rfl | exact Or.inr rfl) (pe_ifExp (pt_val (pv 5)) (C8.pe_c c_law_draw hr (by decide) (by rfl) (pa_cons (pv 0) (pa_cons pe_int pa_nil))) (C8.pe_c c_law_draw hr (by decide) (by rfl) (pa_cons (pv 0) (pa_cons pe_int pa_nil)))))
    (pss_cons (ps_if (PW.pt (pw_and (pt_cmpR op_gt (pe_op op_mul (pv 6) (pe_callB (cLen K) (by rfl) T.len (by decide +kernel) (pa_cons (pv 3) pa_nil))) pe_int (nomark _)) (pw_and1 (pt_cmpR op_gt (C8.pe_c c_law_draw hr (by decide) (by rfl) (pa_cons (pv 0) (pa_cons pe_int pa_nil))) pe_int (nomark _)))))
    (pss_one (ps_set (i := 6) sc.nd rfl (by first | exact Or.inl rfl | exact Or.inr rfl) (pe_op op_fdiv pe_int (pe_callB (cLen K) (by rfl) T.len (by decide +kernel) (pa_cons (pv 3) pa_nil)))))
    pss_nil)
    (pss_cons (ps_set (i := 7) sc.nd rfl (by first | exact Or.inl rfl | exact Or.inr rfl) (C8.pe_c c_law_gains hr (by decide) (by rfl) (pa_cons (pv 1) (pa_cons (pv 2) (pa_cons (pv 3) pa_nil)))))
    (pss_cons (ps_for PassesOwn.never rfl (pi_range1 (by rfl) T.range (pa_cons (pe_ix (ixT K) (pv 1) (pv 4) (fun _ _ => rfl)) pa_nil)) (pg_name (i := 8) sc.nd rfl (by first | exact Or.inl rfl | exact Or.inr rfl))
    (pss_cons (ps_set (i := 9) sc.nd rfl (by first | exact Or.inl rfl | exact Or.inr rfl) (C8.pe_c c_thread_falls hr (by decide) (by rfl) (pa_cons (pv 2) (pa_cons (pv 3) (pa_cons (pv 8) (pa_cons (pv 6) pa_nil))))))
    (pss_one (ps_if (PW.pt (pw_or (pt_not (pt_val (C8.pe_c c_law_is_int hr (by decide) (by rfl) (pa_cons (pv 9) pa_nil)))) (pw_or1 (pt_cmpR op_ne (pv 9) (C8.pe_c c_law_most hr (by decide) (by rfl) (pa_cons (pv 7) (pa_cons (pv 8) (pa_cons (pv 6) pa_nil)))) (nomark _)))))
    (pss_one (ps_ret pe_bl))
    pss_nil))))
    (pss_cons (ps_set (i := 10) sc.nd rfl (by first | exact Or.inl rfl | exact Or.inr rfl) pe_bl)
    (pss_cons (ps_if (pt_val (pv 5))
    (pss_cons (ps_set (i := 11) sc.nd rfl (by first | exact Or.inl rfl | exact Or.inr rfl) (C8.pe_c c_law_identity hr (by decide) (by rfl) (pa_cons (pe_ix (ixT K) (pv 1) (pv 4) (fun _ _ => rfl)) pa_nil)))
    (pss_cons (ps_for PassesOwn.never rfl (piT K (pv 3)) (pg_name (i := 12) sc.nd rfl (by first | exact Or.inl rfl | exact Or.inr rfl))
    (pss_one (ps_set (i := 11) sc.nd rfl (by first | exact Or.inl rfl | exact Or.inr rfl) (C8.pe_c c_law_join hr (by decide) (by rfl) (pa_cons (pv 11) (pa_cons (pe_ix (ixT K) (pe_ix (ixT K) (pv 2) (pv 12) (fun _ _ => rfl)) pe_int (fun _ _ => rfl)) (pa_cons (pe_ix (ixT K) (pv 1) (pe_ix (ixT K) (pe_ix (ixT K) (pv 2) (pv 12) (fun _ _ => rfl)) pe_int (fun _ _ => rfl)) (fun _ _ => rfl)) pa_nil)))))))
    (pss_cons (ps_set (i := 10) sc.nd rfl (by first | exact Or.inl rfl | exact Or.inr rfl) (C8.pe_c c_law_wrong_round hr (by decide) (by rfl) (pa_cons (pe_tup (pa_cons (pv 4) (pa_cons (pv 4) (pa_cons (pv 11) pa_nil)))) pa_nil)))
    (pss_one (ps_if (pt_not (pt_val (C8.pe_c c_law_ring_right hr (by decide) (by rfl) (pa_cons (pv 11) (pa_cons (C8.pe_c c_ring_of hr (by decide) (by rfl) (pa_cons (pv 11) pa_nil)) pa_nil)))))
    (pss_one (ps_ret pe_bl))
    pss_nil)))))
    pss_nil)
    (pss_cons (ps_set (i := 13) sc.nd rfl (by first | exact Or.inl rfl | exact Or.inr rfl) (C8.pe_c c_judge_endless hr (by decide) (by rfl) (pa_cons (pv 1) (pa_cons (pv 2) (pa_cons (pv 3) pa_nil)))))
    (pss_one (ps_ret (pe_and (pe_callB (cIsi K) (by rfl) T.isinstance (by decide +kernel) (pa_cons (pv 13) (pa_cons (pe_bltn (v := .ty "bool") (by rfl) T.bool (by decide +kernel) rfl) pa_nil))) (pe_one (pe_cmpR op_eq (pv 13) (pv 10) (nomark _))))))))))))))), ?_⟩
  show tSeq _ _ _ [some (.ref d), some v1, some v2, some v3, none, none, none, none, none, none, none, none, none, none] H
  have hlen := wo.len
  have hpos : 0 < word.length := List.length_pos_iff.mpr wo.ne
  have hel := W.el
  obtain ⟨a0, a1⟩ := wo.at hpos
  obtain ⟨b0, b1, b2, b3, tok0⟩ := W.edge a0 a1
  have hs0 : szAt sizes edges word 0 = szN sizes (edgeAt edges (word.getD 0 0)).a := if_pos rfl
  have hs50 := W.szle (edgeAt edges (word.getD 0 0)).a
  have hm50 : szAt sizes edges word word.length ≤ 50 := by
    unfold szAt; split <;> exact W.szle _
  walk_at "rds"
  refine rd_word r3 0 rfl hpos ?_
  refine rd_edge r2 a0 a1 fun we re => ?_
  walk_at "rds"
  refine rd_p3a re fun wa ra => ?_
  cases ra
  walk_at "rds"
  obtain ⟨l0, l1⟩ := wo.num _ (List.getLast_mem wo.ne)
  refine rd_ixTlastI r3 wo.ne ?_
  refine rd_edge r2 l0 l1 fun we re => ?_
  walk_at "rds"
  refine rd_p3b re fun wb rb => ?_
  cases rb
  walk_at "rds"
  have hbk : ((edgeAt edges (word.getLast wo.ne)).b = (edgeAt edges (word.getD 0 0)).a) = backW edges word := by
    unfold backW
    rw [List.getLastD_eq_getLast?, List.getLast?_eq_getLast wo.ne]
    rfl
  -- turns
  refine rd_teJ (fun v H' => ∃ t : Nat, v = .int (t : Int) ∧ t ≤ 20 ∧ (t ≤ 1 ∨ backW edges word) ∧ Eb d H H' ∧ DOk d c ns H') ?_ ?_
  · rintro _ H1 ⟨t, rfl, ht20, htb, e1, D1⟩
    refine rd_name ?_
    refine rd_seqJ (fun σ' H' => ∃ t : Nat, σ' = [some (.ref d), some v1, some v2, some v3, some (.int (edgeAt edges (word.getD 0 0)).a), some (.bl (decide ((edgeAt edges (word.getLast wo.ne)).b = (edgeAt edges (word.getD 0 0)).a))), some (.int (t : Int)), none, none, none, none, none, none, none] ∧ t ≤ 1000 ∧ (t ≤ 1 ∨ backW edges word) ∧ Eb d H H' ∧ DOk d c ns H') ?_ ?_
    · clear htb ht20 e1 D1 t
      rintro σ' H1 ⟨t, rfl, ht, htb, e1, D1⟩
      have t1 := D.ti e1
      have r11 := Rep.mono t1 r1
      have r21 := Rep.mono t1 r2
      have r31 := Rep.mono t1 r3
      walk_at "rds"
      refine ⟨v1, v2, v3, sizes, edges, word, rfl, r11, r21, r31, W, wo, fun u H2 e2 R2 => ?_⟩
      walk_at "rds"
      refine rd_size (Rep.mono e2.ti r11) W.sz b0 b1 ?_
      walk_at "rds"
      refine r_range1 (by omega) (by omega) (fun i σ' H' => ∃ (j8 j9 : Option V), σ' = [some (.ref d), some v1, some v2, some v3, some (.int (edgeAt edges (word.getD 0 0)).a), some (.bl (decide ((edgeAt edges (word.getLast wo.ne)).b = (edgeAt edges (word.getD 0 0)).a))), some (.int (t : Int)), some u, j8, j9, none, none, none, none] ∧ Ex H2 H') ?_ ?_ ?_
      · exact ⟨_, _, rfl, Ex.refl⟩
      · rintro i σ' H3 hi ⟨j8, j9, rfl, e3⟩
        have hin : i < szAt sizes edges word 0 := by rw [hs0]; omega
        have t3 : Ti H1 H3 := (e2.trans e3).ti
        walk_at "rds"
        refine ⟨v2, v3, sizes, edges, word, i, t, rfl, Rep.mono t3 r21, Rep.mono t3 r31, W, wo, hin, ht, htb, fun H4 e4 => ?_⟩
        walk_at "rds"
        refine ⟨_, rfl, ?_⟩
        walk_at "rds"
        refine ⟨u, i, t, szAt sizes edges word 0, szAt sizes edges word word.length, _, rfl, R2.ex (e3.trans e4), by omega, by rw [hs0]; exact hs50, hm50, ht, ?_, fun H5 e5 => ?_⟩
        · rcases htb with h | h
          · exact .inl h
          · exact .inr (szAt_back wo h)
        · have e : (if t = 0 then szAt sizes edges word 0 else szAt sizes edges word word.length) = szT sizes edges word t := rfl
          rw [e, ← falls_eq wo htb]
          walk_at "rds"
          refine rd_ndec (fun h => absurd rfl h) (fun _ => ?_)
          walk_at "rds"
          exact ⟨_, _, rfl, (e3.trans e4).trans e5⟩
      · rintro σ' H3 ⟨j8, j9, rfl, e3⟩
        refine rd_seq (rd_asg (rd_c (rd_name ?_)))
        have t3 : Ti H1 H3 := (e2.trans e3).ti
        have e03 : Eb d H H3 := e1.ofEx (e2.trans e3)
        have D3 : DOk d c ns H3 := D1.ex (e2.trans e3)
        have r13 := Rep.mono t3 r11
        have r23 := Rep.mono t3 r21
        have r33 := Rep.mono t3 r31
        refine rd_seqJ (fun σ' H' => ∃ (j11 j12 : Option V), σ' = [some (.ref d), some v1, some v2, some v3, some (.int (edgeAt edges (word.getD 0 0)).a), some (.bl (decide ((edgeAt edges (word.getLast wo.ne)).b = (edgeAt edges (word.getD 0 0)).a))), some (.int (t : Int)), some u, j8, j9, some (.bl (endlessW sizes edges word)), j11, j12, none] ∧ Ex H3 H') ?_ ?_
        · rintro σ' H4 ⟨j11, j12, rfl, e4⟩
          walk_at "rds"
          refine ⟨v1, v2, v3, sizes, edges, word, rfl, Rep.mono e4.ti r13, Rep.mono e4.ti r23, Rep.mono e4.ti r33, W, wo, fun H5 e5 => ?_⟩
          walk_at "rds"
          refine rd_isi ty_bl (b := true) (by decide +kernel) ?_
          walk_at "rds"
          rw [decide_eq_true rfl]
          exact k _ (e03.ofEx (e4.trans e5)) (D3.ex (e4.trans e5))
        · intro nx' hnx
          walk_at "rds"
          refine rd_dec (fun hb => ?_) (fun hb => ?_)
          · have hb' : backW edges word := by rw [← hbk]; exact hb
            have hsq := szAt_back (sizes := sizes) wo hb'
            walk_at "rds"
            refine rd_size r13 W.sz b0 b1 ?_
            walk_at "rds"
            refine ⟨_, rfl, by omega, fun vt H4 e4 rt => ?_⟩
            walk_at "rds"
            refine r_tup (H0 := H3) r33 (fun i σ' H' => ∃ (vt : V) (j12 : Option V), σ' = [some (.ref d), some v1, some v2, some v3, some (.int (edgeAt edges (word.getD 0 0)).a), some (.bl (decide ((edgeAt edges (word.getLast wo.ne)).b = (edgeAt edges (word.getD 0 0)).a))), some (.int (t : Int)), some u, j8, j9, some (.bl false), some vt, j12, none] ∧ Ex H3 H' ∧ rep H' vt (wtab sizes edges (idT (szAt sizes edges word 0)) (word.take i)))
              ?_ (fun i σ' H' ⟨_, _, _, e, _⟩ => e.ti) ?_ ?_
            · refine ⟨vt, _, rfl, e4, ?_⟩
              rw [hs0]
              exact rt
            · rintro i z wz σ' H5 hz hi rz ⟨vt, j12, rfl, e5, rt⟩
              cases rz
              obtain ⟨z0, z1⟩ := wo.num z (List.mem_of_getElem? hz)
              have hzd : word.getD i 0 = z := by rw [List.getD_eq_getElem?_getD, hz]; rfl
              obtain ⟨c0, c1, c2, c3, tok⟩ := W.edge z0 z1
              have hnm : szN sizes (edgeAt edges z).a = szAt sizes edges word i := by rw [← hzd]; exact szAt_eq wo hi
              have tw := tabok_wtab (t := idT (szAt sizes edges word 0)) W wo tabok_id i (by omega)
              rw [← hnm] at tw
              have r25 := Rep.mono e5.ti r23
              walk_at "rds"
              refine rd_edge r25 z0 z1 fun we re => ?_
              walk_at "rds"
              refine rd_p3c re fun wc rc => ?_
              walk_at "rds"
              refine rd_edge r25 z0 z1 fun we2 re2 => ?_
              walk_at "rds"
              refine rd_p3b re2 fun wb rb => ?_
              cases rb
              walk_at "rds"
              refine rd_size (Rep.mono e5.ti r13) W.sz c2 c3 ?_
              walk_at "rds"
              refine ⟨vt, wc, _, _, _, rfl, rt, rc, joinOk_of tw.dim tok.dim (by rw [hs0]; exact hs50) (W.szle _) (W.szle _), fun x H6 e6 rx => ?_⟩
              walk_at "rds"
              refine ⟨x, _, rfl, e5.trans e6, ?_⟩
              rw [take_succ' hi, wtab_snoc, hzd]
              exact rx
            · rintro σ' H5 ⟨vt, j12, rfl, e5, rt⟩
              have tw := tabok_wtab (t := idT (szAt sizes edges word 0)) W wo tabok_id word.length (Nat.le_refl _)
              rw [List.take_length] at rt tw
              rw [hsq] at tw
              have hend : endlessW sizes edges word = (ownSq (wtab sizes edges (idT (szAt sizes edges word 0)) word) && !ownFall (wtab sizes edges (idT (szAt sizes edges word 0)) word)) := by
                unfold endlessW
                rw [if_pos hb', wtab_both W wo]
              generalize wtab sizes edges (idT (szAt sizes edges word 0)) word = t0 at rt tw hend
              have htl := tw.rows
              have hsq0 : Sq t0 := tw.sq (by rw [hs0]; omega)
              walk_at "rds"
              refine ⟨by show 3 ≤ sizeLine; decide, fun pm npm => ?_⟩
              have e6 := Ex.new (o := .tup [.int (edgeAt edges (word.getD 0 0)).a, .int (edgeAt edges (word.getD 0 0)).a, vt]) npm
              walk_at "rds"
              refine ⟨_, ⟨(edgeAt edges (word.getD 0 0)).a, (edgeAt edges (word.getD 0 0)).a, t0⟩, rfl, ⟨pm, _, _, _, rfl, upd_same, rfl, rfl, Rep.mono e6.ti rt⟩, rfl, hsq0, fun H7 e7 => ?_⟩
              walk_at "rds"
              have rt7 := Rep.mono (e6.trans e7).ti rt
              have tw' : TabOk t0 t0.length t0.length := by rw [htl]; exact tw
              have fin : ∀ u2 H8, Ex H7 H8 → RingIs H8 u2 t0 → spRingRight ([vt, u2] ++ []) H8 (fun x H' => ∃ c, x = V.bl c ∧ (if (!c) = true then Q (.bl false) H' else nx' [some (.ref d), some v1, some v2, some v3, some (.int (edgeAt edges (word.getD 0 0)).a), some (.bl (decide ((edgeAt edges (word.getLast wo.ne)).b = (edgeAt edges (word.getD 0 0)).a))), some (.int (t : Int)), some u, j8, j9, some (.bl (ownSq t0 && !ownFall t0)), some vt, j12, none] H')) C8.E0 := fun u2 H8 e8 ri => by
                refine ⟨vt, u2, t0, rfl, Rep.mono e8.ti rt7, tw', by rw [htl, hs0]; omega, ri, fun H9 e9 => ⟨true, rfl, ?_⟩⟩
                rw [if_neg (by decide)]
                refine hnx _ _ ⟨some vt, j12, ?_, (((e5.trans e6).trans e7).trans e8).trans e9⟩
                rw [hend]
              refine ⟨vt, t0, rfl, rt7, hsq0, fun H8 e8 hno => ?_, fun u2 H8 L start l e8 hL1 hLn hst hp hfew ru => ?_⟩
              · walk_at "rds"
                exact fin _ _ e8 (.inl ⟨rfl, hno⟩)
              · walk_at "rds"
                exact fin _ _ e8 (.inr ⟨L, start, l, hL1, hLn, hst, hp, hfew, ru⟩)
          · have hb' : ¬ backW edges word := by rw [← hbk]; exact hb
            walk_at "rds"
            refine hnx _ _ ⟨none, none, ?_, Ex.refl⟩
            have : endlessW sizes edges word = false := by unfold endlessW; rw [if_neg hb']
            rw [this]
            rfl
    · intro nx' hnx
      walk_at "rds"
      refine rd_lenT (Rep.mono (D.ti e1) r3) ?_
      walk_at "rds"
      refine rd_I (.inl ⟨by omega, by omega⟩) ?_
      walk_at "rds"
      refine rd_dec (fun hbig => ?_) (fun _ => ?_)
      · have ht2 : 2 ≤ t := by
          by_cases h : t ≤ 1
          · exfalso
            have h1 : t = 0 ∨ t = 1 := by omega
            rcases h1 with rfl | rfl <;> omega
          · omega
        walk_at "rds"
        refine ⟨d, c, ns, _, rfl, D1, by decide, fun r2' H2 q0 q1 e2 D2 => ?_⟩
        walk_at "rds"
        refine rd_dec (fun _ => ?_) (fun _ => ?_)
        · walk_at "rds"
          refine rd_lenT (Rep.mono (D.ti (e1.trans e2)) r3) ?_
          walk_at "rds"
          refine rd_I ⟨by omega, by omega⟩ ?_
          walk_at "rds"
          refine hnx _ _ ⟨240 / word.length, ?_, Nat.le_trans (Nat.div_le_self _ _) (by decide), .inr (by rcases htb with h | h; omega; exact h), e1.trans e2, D2⟩
          rw [show ((240 / word.length : Nat) : Int) = (240 : Int) / (word.length : Int) from Int.natCast_ediv 240 word.length]
          rfl
        · walk_at "rds"
          exact hnx _ _ ⟨t, rfl, by omega, htb, e1.trans e2, D2⟩
      · walk_at "rds"
        exact hnx _ _ ⟨t, rfl, by omega, htb, e1, D1⟩
  · intro Q' q
    refine rd_ifE ?_
    walk_at "rds"
    refine rd_dec (fun hb => ?_) (fun _ => ?_)
    · walk_at "rds"
      refine ⟨d, c, ns, _, rfl, D, by decide, fun r H1 q0 q1 e1 D1 => ?_⟩
      obtain ⟨t, rfl⟩ := Int.eq_ofNat_of_zero_le q0
      have : ((t : Nat) : Int) < max 21 1 := q1
      exact q _ _ ⟨t, rfl, by omega, .inr (by rw [← hbk]; exact hb), e1, D1⟩
    · walk_at "rds"
      refine ⟨d, c, ns, _, rfl, D, by decide, fun r H1 q0 q1 e1 D1 => ?_⟩
      obtain ⟨t, rfl⟩ := Int.eq_ofNat_of_zero_le q0
      have : ((t : Nat) : Int) < max 2 1 := q1
      exact q _ _ ⟨t, rfl, by omega, .inl (by omega), e1, D1⟩
end
end Fw
namespace Fw
open PySem PySem.Spec PyProof.Rows L2
open Rep (rep)
local macro_rules | `(tactic| walk_at "rd") => `(tactic| first
  | with_reducible apply rd_seq | with_reducible apply rd_asg | with_reducible apply rd_name | with_reducible apply rd_ret | with_reducible apply rd_drop | with_reducible apply rd_if
  | ((with_reducible refine' rd_var ?e ?h); (case e => exact rfl)) | with_reducible apply rd_c | with_reducible apply rd_op | with_reducible apply rd_un | with_reducible apply rd_I0 | with_reducible apply rd_U
  | with_reducible apply rd_eqI | with_reducible apply rd_neI | with_reducible apply rd_eqB | with_reducible apply rd_eqS | with_reducible apply rd_neS | with_reducible apply rd_tB | with_reducible apply rd_test | with_reducible apply rd_bl | with_reducible apply rd_not | with_reducible apply rd_and | with_reducible apply rd_or
  | with_reducible apply rd_andV | with_reducible apply rd_orV | with_reducible apply rd_notV | with_reducible apply rd_chain | with_reducible apply rd_nil | with_reducible apply rd_cons | with_reducible apply rd_CB | with_reducible apply rd_call | with_reducible apply rd_for
  | with_reducible apply rd_next | with_reducible apply rd_brk | with_reducible apply rd_cont | with_reducible apply rd_tup | with_reducible apply rd_lst | with_reducible apply rd_sub | with_reducible apply rd_BM | with_reducible apply rd_BM0
  | with_reducible apply rd_yes | with_reducible apply rd_nope | with_reducible apply rd_yes2 | with_reducible apply rd_nope2 | with_reducible apply rd_gCons | with_reducible apply rd_gNil | with_reducible apply rd_iTup | with_reducible apply rd_iList | with_reducible apply rd_iRng1 | with_reducible apply rd_iRng2
  | with_reducible apply rd_lc | with_reducible apply rd_augS | ((with_reducible refine' rd_aug ?e ?h); (case e => exact rfl)) | with_reducible apply rd_ip
  | with_reducible apply rd_din | with_reducible apply rd_dnotin | with_reducible apply rd_dget | with_reducible apply rd_dget1 | with_reducible apply rd_dget2 | with_reducible apply rd_dput | with_reducible apply rd_disp1T | with_reducible apply rd_dnewK | with_reducible apply rd_dnewT | with_reducible apply rd_iItems | with_reducible apply rd_iItemsT | with_reducible apply rd_iVals | with_reducible apply rd_sl | with_reducible apply rd_noPart | with_reducible apply rd_part | with_reducible apply rd_int | with_reducible apply rd_inN | with_reducible apply rd_inS | with_reducible apply rd_isN0 | with_reducible apply rd_isS0
  | with_reducible apply rd_max2 | with_reducible apply rd_min2 | with_reducible apply rd_max3 | with_reducible apply rd_intI | with_reducible apply rd_intB | with_reducible apply rd_abs)
local macro_rules | `(tactic| walk_at "rds") => `(tactic| repeat walk_at "rd")
local macro_rules | `(tactic| walk_at "sz") => `(tactic| exact Nat.le_trans (show _ ≤ 1000 by simp) (by decide))
local macro_rules | `(tactic| walk_at "hp") => `(tactic| first
  | with_reducible assumption | with_reducible exact upd_same
  | ((with_reducible refine' hp_ne ?n ?h); (case n => walk_at "ne"); (case h => walk_at "hp"))
  | ((with_reducible refine' Ex.get ?e ?h); (case e => with_reducible assumption); (case h => walk_at "hp"))
  | ((with_reducible refine' Eb.get ?e ?n ?h); (case e => with_reducible assumption); (case n => walk_at "ne"); (case h => walk_at "hp")))
local macro_rules | `(tactic| walk_at "ne") => `(tactic| first
  | with_reducible assumption | (apply Ne.symm; with_reducible assumption)
  | ((with_reducible refine' ne_non ?h ?n); (case n => with_reducible assumption); (case h => walk_at "hp"))
  | (apply Ne.symm; with_reducible refine' ne_non ?h ?n; (case n => with_reducible assumption); (case h => walk_at "hp")))
local macro_rules | `(tactic| walk_at "ti") => `(tactic| first
  | with_reducible assumption | with_reducible exact Ti.refl | (with_reducible exact Ex.ti (by with_reducible assumption))
  | ((with_reducible refine' Ti.trans ?a (Ti.new ?b)); (case b => with_reducible assumption); (case a => walk_at "ti"))
  | ((with_reducible refine' Ti.trans ?a (Ti.lst ?b)); (case b => walk_at "hp"); (case a => walk_at "ti"))
  | ((with_reducible refine' Ti.trans ?a (Ti.dK ?b)); (case b => walk_at "hp"); (case a => walk_at "ti"))
  | ((with_reducible refine' Ti.trans ?a (Ti.dT ?b)); (case b => walk_at "hp"); (case a => walk_at "ti"))
  | ((with_reducible refine' Ti.trans ?a ?b); (case b => with_reducible assumption); (case a => walk_at "ti"))
  | ((with_reducible refine' Ti.trans ?a (Ex.ti ?b)); (case b => with_reducible assumption); (case a => walk_at "ti")))
local macro_rules | `(tactic| walk_at "ex") => `(tactic| first
  | with_reducible assumption | with_reducible exact Ex.refl
  | ((with_reducible refine' Ex.mut ?a ?b); (case b => with_reducible assumption); (case a => walk_at "ex"))
  | ((with_reducible refine' Ex.trans ?a (Ex.new ?b)); (case b => with_reducible assumption); (case a => walk_at "ex"))
  | ((with_reducible refine' Ex.trans ?a ?b); (case b => with_reducible assumption); (case a => walk_at "ex")))
local macro_rules | `(tactic| walk_at "rp") => `(tactic| first
  | with_reducible assumption
  | ((with_reducible refine' Rep.mono (Ex.ti ?e) ?h); (case e => with_reducible assumption); (case h => with_reducible assumption))
  | ((with_reducible refine' Rep.mono ?t ?h); (case t => with_reducible assumption); (case h => with_reducible assumption))
  | ((with_reducible refine' Rep.mono ?t ?h); (case h => with_reducible assumption); (case t => walk_at "ti"))
  | ((with_reducible refine' Reps.mono (Ex.ti ?e) ?h); (case e => with_reducible assumption); (case h => with_reducible assumption))
  | ((with_reducible refine' Reps.mono ?t ?h); (case h => with_reducible assumption); (case t => walk_at "ti")))
def spLaw (K : PySem.W.Frag) : Sp := fun vs H Q _ => ∃ (a : Addr) (ns : List Int), vs = [.ref a] ∧ SqL K H a (ns.map V.int) ∧ ns.length ≤ 63 ∧ ∀ H', Q (.bl true) H'
abbrev s_law : Stmt := topS 30
theorem sc_law : FnScope ["script", "d", "sizes", "edges", "turn", "table"] ["script"] (C8.fnScope s_law) := C8.fnScope_by (by decide +kernel)
section
variable {P : Program} {w : World} {K : PySem.W.Frag} {mg : Str → Option Value} {base : Heap}
theorem ok_law {f : Addr} {fd : FuncData} (F : C8.Fun K "law" "law" s_law f fd) (T : Bt mg) (c_law_begin : C8.Cal P w K mg base 1 "_law_begin" (spBegin K) []) (c_law_web : C8.Cal P w K mg base 4 "_law_web" spWeb []) (c_law_word : C8.Cal P w K mg base 3 "_law_word" spWord []) (c_law_word_right : C8.Cal P w K mg base 4 "_law_word_right" spWordRight [])
    (c_law_planted : C8.Cal P w K mg base 3 "_law_planted" spPlanted []) (c_law_ring_right : C8.Cal P w K mg base 2 "_law_ring_right" spRingRight []) (c_ring_of : C8.Cal P w K mg base 2 "ring_of" spRingOf []) : FnOk P w K mg base C8.CX0 5 f fd ["script"] (spLaw K) := by
  have sc := sc_law
  refine C8.fn0 F sc (fun vs H Q E h => ?_) (fun cdv A outer s H vs Q E hr h => ?_)
  · obtain ⟨a, ns, rfl, _⟩ := h; rfl
  obtain ⟨a, ns, rfl, hS, hl, k⟩ := h
  refine ⟨_, 
    (pss_cons (ps_set (i := 1) sc.nd rfl (by first | exact Or.inl rfl | exact Or.inr rfl) (C8.pe_c c_law_begin hr (by decide) (by rfl) (pa_cons (pv 0) pa_nil)))
    (pss_cons (ps_asg (C8.pe_c c_law_web hr (by decide) (by rfl) (pa_cons (pv 1) pa_nil)) (pgT K rfl (pgs_cons (pg_name (i := 2) sc.nd rfl (by first | exact Or.inl rfl | exact Or.inr rfl)) (pgs_cons (pg_name (i := 3) sc.nd rfl (by first | exact Or.inl rfl | exact Or.inr rfl)) pgs_nil))))
    (pss_cons (ps_for PassesOwn.never rfl (pi_range1 (by rfl) T.range (pa_cons pe_int pa_nil)) (pg_name (i := 4) sc.nd rfl (by first | exact Or.inl rfl | exact Or.inr rfl))
    (pss_one (ps_if (pt_not (pt_val (C8.pe_c c_law_word_right hr (by decide) (by rfl) (pa_cons (pv 1) (pa_cons (pv 2) (pa_cons (pv 3) (pa_cons (C8.pe_c c_law_word hr (by decide) (by rfl) (pa_cons (pv 1) (pa_cons (pv 2) (pa_cons (pv 3) pa_nil)))) pa_nil)))))))
    (pss_one (ps_ret pe_bl))
    pss_nil)))
    (pss_cons (ps_for PassesOwn.never rfl (pi_range1 (by rfl) T.range (pa_cons pe_int pa_nil)) (pg_name (i := 4) sc.nd rfl (by first | exact Or.inl rfl | exact Or.inr rfl))
    (pss_cons (ps_set (i := 5) sc.nd rfl (by first | exact Or.inl rfl | exact Or.inr rfl) (C8.pe_c c_law_planted hr (by decide) (by rfl) (pa_cons (pv 1) pa_nil)))
    (pss_one (ps_if (pt_not (pt_val (C8.pe_c c_law_ring_right hr (by decide) (by rfl) (pa_cons (pv 5) (pa_cons (C8.pe_c c_ring_of hr (by decide) (by rfl) (pa_cons (pv 5) pa_nil)) pa_nil)))))
    (pss_one (ps_ret pe_bl))
    pss_nil))))
    (pss_one (ps_ret pe_bl)))))), ?_⟩
  show tSeq _ _ _ [some (.ref a), none, none, none, none, none] H
  walk_at "rds"
  refine ⟨a, ns, rfl, hS, by omega, fun d c H1 e1 D1 => ?_⟩
  walk_at "rds"
  refine ⟨d, c, ns, rfl, D1, fun u H2 p e2 D2 rp W => ?_⟩
  walk_at "rds"
  refine rd_gTup2 rp fun v1 v2 r1 r2 => ?_
  walk_at "rds"
  refine r_range1 (by omega) (by omega) (fun i σ' H' => ∃ (j4 : Option V), σ' = [some (.ref a), some (.ref d), some v1, some v2, j4, none] ∧ Eb d H2 H' ∧ DOk d c ns H') ?_ ?_ ?_
  · exact ⟨_, rfl, Eb.refl, D2⟩
  · rintro i σ' H3 hi ⟨j4, rfl, e3, D3⟩
    have t3 := D2.ti e3
    walk_at "rds"
    refine ⟨d, c, ns, v1, v2, p.a, p.b, rfl, D3, Rep.mono t3 r1, Rep.mono t3 r2, W, fun vw H4 wl e4 D4 rw4 wo => ?_⟩
    have t4 := t3.trans (D3.ti e4)
    walk_at "rds"
    refine ⟨d, c, ns, v1, v2, vw, p.a, p.b, wl, rfl, D4, Rep.mono t4 r1, Rep.mono t4 r2, rw4, W, wo, fun H5 e5 D5 => ?_⟩
    walk_at "rds"
    exact ⟨_, rfl, (e3.trans e4).trans e5, D5⟩
  · rintro σ' H3 ⟨j4, rfl, e3, D3⟩
    walk_at "rds"
    refine r_range1 (by omega) (by omega) (fun i σ' H' => ∃ (j4 j5 : Option V), σ' = [some (.ref a), some (.ref d), some v1, some v2, j4, j5] ∧ DOk d c ns H') ?_ ?_ ?_
    · exact ⟨_, _, rfl, D3⟩
    · rintro i σ' H4 hi ⟨j4, j5, rfl, D4⟩
      walk_at "rds"
      refine ⟨d, c, ns, rfl, D4, fun vt H5 t e5 D5 rt tok htl => ?_⟩
      walk_at "rds"
      have fin : ∀ u2 H6, Ex H5 H6 → RingIs H6 u2 t → spRingRight ([vt, u2] ++ []) H6 (fun x H' => ∃ c', x = V.bl c' ∧ (if (!c') = true then Q (.bl false) H' else ∃ (j4 j5 : Option V), [some (V.ref a), some (.ref d), some v1, some v2, some (.int (i : Int)), some vt] = [some (.ref a), some (.ref d), some v1, some v2, j4, j5] ∧ DOk d c ns H')) C8.E0 := fun u2 H6 e6 ri => by
        refine ⟨vt, u2, t, rfl, Rep.mono e6.ti rt, tok, htl, ri, fun H7 e7 => ⟨true, rfl, ?_⟩⟩
        rw [if_neg (by decide)]
        exact ⟨_, _, rfl, (D5.ex e6).ex e7⟩
      refine ⟨vt, t, rfl, rt, tok.sq htl, fun H6 e6 hno => ?_, fun u2 H6 L start l e6 hL1 hLn hst hp hfew ru => ?_⟩
      · walk_at "rds"
        exact fin _ _ e6 (.inl ⟨rfl, hno⟩)
      · walk_at "rds"
        exact fin _ _ e6 (.inr ⟨L, start, l, hL1, hLn, hst, hp, hfew, ru⟩)
    · rintro σ' H4 ⟨j4, j5, rfl, D4⟩
      walk_at "rds"
      exact k _
theorem df_mk {h : Heap} {x : Str} {st : Stmt} {ps : List Str} {f : Addr} {od an : Option Addr} {sl : Array (Option Value)} {oc kV dc pm cd ct : Value} (X : K.In h) (G : h.Ns mainGlobals mg)
    (hb : ∀ (kV doc pm : Value) (an : Option Addr) (cdv ct : Value) (us : List Value), us.length = ps.length → bindArgs (PySem.W.fnOf x x (C8.fnArgs st) (C8.fnBody st) (C8.fnScope st) .none kV doc pm an cdv ct) ⟨us, []⟩ = pure (ps.zip us))
    (a : PySem.W.nsIn K mainGlobals x = some (some (.ref f))) (l : K.lookup f = some ⟨oc, od, .func (PySem.W.fnOf x x (C8.fnArgs st) (C8.fnBody st) (C8.fnScope st) .none kV dc pm an cd ct), sl⟩) (c : PySem.W.codeIn K cd x = true) (k : PySem.W.keepIn K (.ref f) = true) : Df K mg x st ps :=
  ⟨f, _, ⟨⟨oc, od, .none, kV, dc, pm, an, cd, ct, sl, rfl, l, c⟩, PySem.W.mg_of X G a, k⟩, .all (hb kV dc pm an cd ct)⟩
theorem all_mk {l : PySem.W.OpenLaw} {h : Heap} {fa fL : Addr} {odL anL : Option Addr} {slL : Array (Option Value)} {ocL kVL dcL pmL cdL ctL : Value} (X : K.In h) (G : h.Ns mainGlobals mg) (hfa : mg "law" = some (.ref fa)) (T : Bt mg)
    (d_compose : Df K mg "compose" s_compose ["first", "second", "columns"]) (d_is_own_square : Df K mg "is_own_square" s_is_own_square ["table"]) (d_has_own_fall : Df K mg "has_own_fall" s_has_own_fall ["table"]) (d_ring_of : Df K mg "ring_of" s_ring_of ["table"]) (d_ring_from : Df K mg "ring_from" s_ring_from ["table", "start", "length"]) (d_thread_falls : Df K mg "thread_falls" s_thread_falls ["edges", "word", "start", "turns"]) (d_is_number : Df K mg "is_number" s_is_number ["thing", "limit"]) (d_judge_endless : Df K mg "judge_endless" s_judge_endless ["sizes", "edges", "word"])
    (d_law_begin : Df K mg "_law_begin" s_law_begin ["script"]) (d_law_draw : Df K mg "_law_draw" s_law_draw ["d", "many"]) (d_law_pick : Df K mg "_law_pick" s_law_pick ["d", "row"]) (d_law_rare : Df K mg "_law_rare" s_law_rare ["d", "many"]) (d_law_shuffled : Df K mg "_law_shuffled" s_law_shuffled ["d", "row"]) (d_law_is_int : Df K mg "_law_is_int" s_law_is_int ["thing"]) (d_law_join : Df K mg "_law_join" s_law_join ["first", "second", "columns"]) (d_law_identity : Df K mg "_law_identity" s_law_identity ["many"]) (d_law_wrong_round : Df K mg "_law_wrong_round" s_law_wrong_round ["member"])
    (d_law_grid : Df K mg "_law_grid" s_law_grid ["d", "rows", "columns", "way"]) (d_law_web : Df K mg "_law_web" s_law_web ["d"]) (d_law_word : Df K mg "_law_word" s_law_word ["d", "sizes", "edges"]) (d_law_gains : Df K mg "_law_gains" s_law_gains ["sizes", "edges", "word"]) (d_law_most : Df K mg "_law_most" s_law_most ["gains", "place", "turns"]) (d_law_fewest : Df K mg "_law_fewest" s_law_fewest ["table"]) (d_law_ring_right : Df K mg "_law_ring_right" s_law_ring_right ["table", "ring"]) (d_law_planted : Df K mg "_law_planted" s_law_planted ["d"]) (d_law_word_right : Df K mg "_law_word_right" s_law_word_right ["d", "sizes", "edges", "word"])
    (aL : PySem.W.nsIn K mainGlobals "law" = some (some (.ref fL))) (lL : K.lookup fL = some ⟨ocL, odL, .func (PySem.W.fnOf "law" "law" (C8.fnArgs s_law) (C8.fnBody s_law) (C8.fnScope s_law) .none kVL dcL pmL anL cdL ctL), slL⟩) (cL : PySem.W.codeIn K cdL "law" = true) :
    ∃ fd : FuncData, (∀ (s : Shared) (v : Value), BindsTo s fd ⟨[v], []⟩ [("script", v)]) ∧ ∀ base : Heap, K.In base → base.Ns mainGlobals mg → FnOk l.prog w K mg base C8.CX0 5 fa fd ["script"] (spLaw K) := by
  have e := hfa.symm.trans (PySem.W.mg_of X G aL)
  cases e
  refine ⟨PySem.W.fnOf "law" "law" (C8.fnArgs s_law) (C8.fnBody s_law) (C8.fnScope s_law) .none kVL dcL pmL anL cdL ctL, fun s v => .of_eq rfl, fun base _ _ => ?_⟩
  have FL : C8.Fun K "law" "law" s_law fa (PySem.W.fnOf "law" "law" (C8.fnArgs s_law) (C8.fnBody s_law) (C8.fnScope s_law) .none kVL dcL pmL anL cdL ctL) := ⟨⟨ocL, odL, .none, kVL, dcL, pmL, anL, cdL, ctL, slL, rfl, lL, cL⟩⟩
  have q_begin := ok_begin (P := l.prog) (w := w) (base := base) d_law_begin T
  have q_draw := ok_draw (P := l.prog) (w := w) (base := base) d_law_draw T
  have q_pick := ok_pick (P := l.prog) (w := w) (base := base) d_law_pick T q_draw
  have q_rare := ok_rare (P := l.prog) (w := w) (base := base) d_law_rare T q_draw
  have q_shuf := ok_shuf (P := l.prog) (w := w) (base := base) d_law_shuffled T q_draw
  have q_isint := ok_isint (P := l.prog) (w := w) (base := base) d_law_is_int T
  have q_compose := ok_compose (P := l.prog) (w := w) (base := base) d_compose T
  have q_join := ok_ljoin (P := l.prog) (w := w) (base := base) d_law_join T
  have q_id := ok_id (P := l.prog) (w := w) (base := base) d_law_identity T
  have q_sq := ok_ownsq (P := l.prog) (w := w) (base := base) d_is_own_square T q_compose
  have q_fall := ok_ownfall (P := l.prog) (w := w) (base := base) d_has_own_fall T
  have q_wrong := ok_wrong (P := l.prog) (w := w) (base := base) d_law_wrong_round T q_join
  have q_num := ok_isnum (P := l.prog) (w := w) (base := base) d_is_number T
  have q_judge := ok_judge (P := l.prog) (w := w) (base := base) d_judge_endless T q_num q_compose q_sq q_fall
  have q_rf := ok_ringfrom (P := l.prog) (w := w) (base := base) d_ring_from T
  have q_ro := ok_ringof (P := l.prog) (w := w) (base := base) d_ring_of T q_rf
  have q_few := ok_fewest (P := l.prog) (w := w) (base := base) d_law_fewest T
  have q_rr := ok_ringright (P := l.prog) (w := w) (base := base) d_law_ring_right T q_few q_isint
  have q_grid := ok_grid (P := l.prog) (w := w) (base := base) d_law_grid T q_draw q_pick
  have q_plant := ok_planted (P := l.prog) (w := w) (base := base) d_law_planted T q_draw q_pick q_rare q_shuf
  have q_web := ok_web (P := l.prog) (w := w) (base := base) d_law_web T q_draw q_pick q_grid
  have q_word := ok_word (P := l.prog) (w := w) (base := base) d_law_word T q_draw q_pick q_rare
  have q_most := ok_most (P := l.prog) (w := w) (base := base) d_law_most T
  have q_gains := ok_gains (P := l.prog) (w := w) (base := base) d_law_gains T
  have q_falls := ok_falls (P := l.prog) (w := w) (base := base) d_thread_falls T
  have q_wr := ok_wordright (P := l.prog) (w := w) (base := base) d_law_word_right T q_draw q_gains q_falls q_isint q_most q_id q_join q_wrong q_rr q_ro q_judge
  exact ok_law FL T q_begin q_web q_word q_wr q_plant q_rr q_ro
end
end Fw
open PySem PySem.W PyProof.Rows
set_option maxRecDepth 100000 in
set_option maxHeartbeats 0 in
theorem PySem.Challenge.cw_foldwarrant_k20_threads_along_words_holds : PySem.Challenge.rw_foldwarrant_k20_threads_along_words.Holds := by
  w_on; o_law; k_head; (case hw => w_witness2)
  k_fill
  refine L2.walk_of (l := PySem.Challenge.rw_foldwarrant_k20_threads_along_words) (n := 63) (k := 5) (x := "script") (CX := fun _ => C8.CX0) (sp := fun w => Fw.spLaw _) rfl (by decide) rfl ⟨rfl, by decide, by decide⟩ (fun w h Y => PySem.W.kIn_of Y) ?F (fun _ _ a ns hl _ hS => ⟨a, ns, rfl, hS, hl, fun _ => rfl⟩) (fun _ _ _ _ _ h => h)
  case F =>
    intro w mg fa h KX G hmg
    refine' Fw.all_mk KX G hmg ⟨PySem.W.mg_none_of KX G ?z_len, PySem.W.mg_none_of KX G ?z_range, PySem.W.mg_none_of KX G ?z_max, PySem.W.mg_none_of KX G ?z_min, PySem.W.mg_none_of KX G ?z_int, PySem.W.mg_none_of KX G ?z_abs, PySem.W.mg_none_of KX G ?z_tuple, PySem.W.mg_none_of KX G ?z_list, PySem.W.mg_none_of KX G ?z_all, PySem.W.mg_none_of KX G ?z_any, PySem.W.mg_none_of KX G ?z_bool, PySem.W.mg_none_of KX G ?z_isinstance⟩
      (Fw.df_mk KX G (fun _ _ _ _ _ _ us hl => match us, hl with | [_, _, _], _ => rfl) ?a_compose ?l_compose ?c_compose ?k_compose)
      (Fw.df_mk KX G (fun _ _ _ _ _ _ us hl => match us, hl with | [_], _ => rfl) ?a_is_own_square ?l_is_own_square ?c_is_own_square ?k_is_own_square)
      (Fw.df_mk KX G (fun _ _ _ _ _ _ us hl => match us, hl with | [_], _ => rfl) ?a_has_own_fall ?l_has_own_fall ?c_has_own_fall ?k_has_own_fall)
      (Fw.df_mk KX G (fun _ _ _ _ _ _ us hl => match us, hl with | [_], _ => rfl) ?a_ring_of ?l_ring_of ?c_ring_of ?k_ring_of)
      (Fw.df_mk KX G (fun _ _ _ _ _ _ us hl => match us, hl with | [_, _, _], _ => rfl) ?a_ring_from ?l_ring_from ?c_ring_from ?k_ring_from)
      (Fw.df_mk KX G (fun _ _ _ _ _ _ us hl => match us, hl with | [_, _, _, _], _ => rfl) ?a_thread_falls ?l_thread_falls ?c_thread_falls ?k_thread_falls)
      (Fw.df_mk KX G (fun _ _ _ _ _ _ us hl => match us, hl with | [_, _], _ => rfl) ?a_is_number ?l_is_number ?c_is_number ?k_is_number)
      (Fw.df_mk KX G (fun _ _ _ _ _ _ us hl => match us, hl with | [_, _, _], _ => rfl) ?a_judge_endless ?l_judge_endless ?c_judge_endless ?k_judge_endless)
      (Fw.df_mk KX G (fun _ _ _ _ _ _ us hl => match us, hl with | [_], _ => rfl) ?a_law_begin ?l_law_begin ?c_law_begin ?k_law_begin)
      (Fw.df_mk KX G (fun _ _ _ _ _ _ us hl => match us, hl with | [_, _], _ => rfl) ?a_law_draw ?l_law_draw ?c_law_draw ?k_law_draw)
      (Fw.df_mk KX G (fun _ _ _ _ _ _ us hl => match us, hl with | [_, _], _ => rfl) ?a_law_pick ?l_law_pick ?c_law_pick ?k_law_pick)
      (Fw.df_mk KX G (fun _ _ _ _ _ _ us hl => match us, hl with | [_, _], _ => rfl) ?a_law_rare ?l_law_rare ?c_law_rare ?k_law_rare)
      (Fw.df_mk KX G (fun _ _ _ _ _ _ us hl => match us, hl with | [_, _], _ => rfl) ?a_law_shuffled ?l_law_shuffled ?c_law_shuffled ?k_law_shuffled)
      (Fw.df_mk KX G (fun _ _ _ _ _ _ us hl => match us, hl with | [_], _ => rfl) ?a_law_is_int ?l_law_is_int ?c_law_is_int ?k_law_is_int)
      (Fw.df_mk KX G (fun _ _ _ _ _ _ us hl => match us, hl with | [_, _, _], _ => rfl) ?a_law_join ?l_law_join ?c_law_join ?k_law_join)
      (Fw.df_mk KX G (fun _ _ _ _ _ _ us hl => match us, hl with | [_], _ => rfl) ?a_law_identity ?l_law_identity ?c_law_identity ?k_law_identity)
      (Fw.df_mk KX G (fun _ _ _ _ _ _ us hl => match us, hl with | [_], _ => rfl) ?a_law_wrong_round ?l_law_wrong_round ?c_law_wrong_round ?k_law_wrong_round)
      (Fw.df_mk KX G (fun _ _ _ _ _ _ us hl => match us, hl with | [_, _, _, _], _ => rfl) ?a_law_grid ?l_law_grid ?c_law_grid ?k_law_grid)
      (Fw.df_mk KX G (fun _ _ _ _ _ _ us hl => match us, hl with | [_], _ => rfl) ?a_law_web ?l_law_web ?c_law_web ?k_law_web)
      (Fw.df_mk KX G (fun _ _ _ _ _ _ us hl => match us, hl with | [_, _, _], _ => rfl) ?a_law_word ?l_law_word ?c_law_word ?k_law_word)
      (Fw.df_mk KX G (fun _ _ _ _ _ _ us hl => match us, hl with | [_, _, _], _ => rfl) ?a_law_gains ?l_law_gains ?c_law_gains ?k_law_gains)
      (Fw.df_mk KX G (fun _ _ _ _ _ _ us hl => match us, hl with | [_, _, _], _ => rfl) ?a_law_most ?l_law_most ?c_law_most ?k_law_most)
      (Fw.df_mk KX G (fun _ _ _ _ _ _ us hl => match us, hl with | [_], _ => rfl) ?a_law_fewest ?l_law_fewest ?c_law_fewest ?k_law_fewest)
      (Fw.df_mk KX G (fun _ _ _ _ _ _ us hl => match us, hl with | [_, _], _ => rfl) ?a_law_ring_right ?l_law_ring_right ?c_law_ring_right ?k_law_ring_right)
      (Fw.df_mk KX G (fun _ _ _ _ _ _ us hl => match us, hl with | [_], _ => rfl) ?a_law_planted ?l_law_planted ?c_law_planted ?k_law_planted)
      (Fw.df_mk KX G (fun _ _ _ _ _ _ us hl => match us, hl with | [_, _, _, _], _ => rfl) ?a_law_word_right ?l_law_word_right ?c_law_word_right ?k_law_word_right)
      ?a_law ?l_law ?c_law
    (case z_len => k_is); (case z_range => k_is); (case z_max => k_is); (case z_min => k_is); (case z_int => k_is); (case z_abs => k_is)
    (case z_tuple => k_is); (case z_list => k_is); (case z_all => k_is); (case z_any => k_is); (case z_bool => k_is); (case z_isinstance => k_is)
    (case a_compose => k_is); (case l_compose => k_is); (case c_compose => k_is); (case k_compose => k_is); (case a_is_own_square => k_is); (case l_is_own_square => k_is)
    (case c_is_own_square => k_is); (case k_is_own_square => k_is); (case a_has_own_fall => k_is); (case l_has_own_fall => k_is); (case c_has_own_fall => k_is); (case k_has_own_fall => k_is)
    (case a_ring_of => k_is); (case l_ring_of => k_is); (case c_ring_of => k_is); (case k_ring_of => k_is); (case a_ring_from => k_is); (case l_ring_from => k_is)
    (case c_ring_from => k_is); (case k_ring_from => k_is); (case a_thread_falls => k_is); (case l_thread_falls => k_is); (case c_thread_falls => k_is); (case k_thread_falls => k_is)
    (case a_is_number => k_is); (case l_is_number => k_is); (case c_is_number => k_is); (case k_is_number => k_is); (case a_judge_endless => k_is); (case l_judge_endless => k_is)
    (case c_judge_endless => k_is); (case k_judge_endless => k_is); (case a_law_begin => k_is); (case l_law_begin => k_is); (case c_law_begin => k_is); (case k_law_begin => k_is)
    (case a_law_draw => k_is); (case l_law_draw => k_is); (case c_law_draw => k_is); (case k_law_draw => k_is); (case a_law_pick => k_is); (case l_law_pick => k_is)
    (case c_law_pick => k_is); (case k_law_pick => k_is); (case a_law_rare => k_is); (case l_law_rare => k_is); (case c_law_rare => k_is); (case k_law_rare => k_is)
    (case a_law_shuffled => k_is); (case l_law_shuffled => k_is); (case c_law_shuffled => k_is); (case k_law_shuffled => k_is); (case a_law_is_int => k_is); (case l_law_is_int => k_is)
    (case c_law_is_int => k_is); (case k_law_is_int => k_is); (case a_law_join => k_is); (case l_law_join => k_is); (case c_law_join => k_is); (case k_law_join => k_is)
    (case a_law_identity => k_is); (case l_law_identity => k_is); (case c_law_identity => k_is); (case k_law_identity => k_is); (case a_law_wrong_round => k_is); (case l_law_wrong_round => k_is)
    (case c_law_wrong_round => k_is); (case k_law_wrong_round => k_is); (case a_law_grid => k_is); (case l_law_grid => k_is); (case c_law_grid => k_is); (case k_law_grid => k_is)
    (case a_law_web => k_is); (case l_law_web => k_is); (case c_law_web => k_is); (case k_law_web => k_is); (case a_law_word => k_is); (case l_law_word => k_is)
    (case c_law_word => k_is); (case k_law_word => k_is); (case a_law_gains => k_is); (case l_law_gains => k_is); (case c_law_gains => k_is); (case k_law_gains => k_is)
    (case a_law_most => k_is); (case l_law_most => k_is); (case c_law_most => k_is); (case k_law_most => k_is); (case a_law_fewest => k_is); (case l_law_fewest => k_is)
    (case c_law_fewest => k_is); (case k_law_fewest => k_is); (case a_law_ring_right => k_is); (case l_law_ring_right => k_is); (case c_law_ring_right => k_is); (case k_law_ring_right => k_is)
    (case a_law_planted => k_is); (case l_law_planted => k_is); (case c_law_planted => k_is); (case k_law_planted => k_is); (case a_law_word_right => k_is); (case l_law_word_right => k_is)
    (case c_law_word_right => k_is); (case k_law_word_right => k_is); (case a_law => k_is); (case l_law => k_is); (case c_law => k_is)
