import PyProof.Rows.All
import Wide.All
import OpenK.AllK
import Wide.FinOn
import HandS.ForMost
import HandS.ForExc
import HandS.IsInst
import HandS.ExcValue
import HandS.TupAny
import HandS.TupMul
import HandS.Rev
import HandS.Nested
import HandS.RevRange
import HandS.Style
import HandS.SortInts
import HandS.SetFor
import KE.DataEq
import KE.KSortedM
import HandS.Walk
import HandS.WordsExc
import HandS.ExcIs
import HandS.Conv
import KE.DatumOrd
import PyProof.ListRange
import PyProof.EnumFor
import KE.DataFind
import HandS.Defaults
import HandS.Wide
import HandS.TryOnly
import HandS.Flt
import KE.GoesComp
import HandS.Flow
import KE.KRevSl
import HandS.NestedK
import HandS.EndTab
import PySem.Challenge.RW_loosemarks_k06_papers
set_option Elab.async false
set_option linter.all false
set_option maxRecDepth 100000
set_option maxHeartbeats 4000000
/-! tuples that are made: their objects have no dict of their own -/
namespace DL
open PySem PySem.Spec PyProof.Rows L2
/-- a new tuple, its object told -/
def NewT (H : Hp) (xs : List V) (Q : VK) : Prop := ∀ (p : Addr) (ob : Obj), H p = none → ob.dict = none → Q (.ref p) (upd H p (.frz ob (.tup xs)))
section
variable {X : Cx} {pins : List (Addr × Obj)} {σ : L2.St} {H : Hp} {s : Shared} {h' : Heap} {e : Expr} {es : List Expr} {te : TE} {t : TA} {p p2 pos pos2 : Pos}
abbrev tob (its : Array Value) : Obj := { cls := .type "tuple", data := .seq its }
theorem newT_end {xs : List V} {its : List Value} {Q : VK} {tk : Nat} (I : Inv X pins σ H { s with heap := h', toks := tk }) (r : Vals xs its) (hz : xs.length ≤ sizeLine) (q : NewT H xs Q) : EP X pins σ Q (.ref h'.objs.size) { s with heap := h'.push (tob its.toArray), toks := tk } :=
  ⟨.ref h'.objs.size, upd H h'.objs.size (.frz (tob its.toArray) (.tup xs)), I.laid (t' := tk) (h' := h'.push (tob its.toArray)) (fun _ _ k => Heap.get?_push_of_some _ k) (Nat.le_refl _) ⟨Heap.get?_push_size _ rfl, hz, its, r, IsTup.new _ _⟩, rfl, q _ _ (I.hok.fresh (Nat.le_refl _)) rfl⟩
theorem pe_tupZ {x1} (h : PA X es t) : PE X (.Tuple es x1 pos) (fun σ H Q => t σ H fun xs H1 => xs.length ≤ sizeLine ∧ NewT H1 xs Q) :=
  ⟨fun pins s σ H Q I hq => wpAny_Tuple_spliced <| thn (h.run pos pins s σ H _ I hq) fun us s1 ⟨xs, H1, I1, r, z, q⟩ => ⟨by rw [← r.length]; exact z, newT_end (tk := s1.toks) I1 r z q⟩⟩
theorem call_tupleZ : CallR X (.type "tuple") (fun xs H Q => ∃ p ys, xs = [.ref p] ∧ ((SqL X.K H p ys ∧ NewT H ys Q) ∨ (SqT X.K H p ys ∧ Q (.ref p) H))) := by
  intro pins s σ H xs us Q I r h
  obtain ⟨a, ys, rfl, h⟩ := h
  obtain ⟨u, rfl, rx⟩ := vals1 r
  cases rx
  rcases h with ⟨hq, q⟩ | ⟨hq, q⟩
  · obtain ⟨its, rv, pl, hz⟩ := I.list hq
    have hn := rv.length
    exact call_tuple_list pl.isList (fun h2 kp => newT_end (tk := s.toks) (I.kept (t' := s.toks) kp) rv hz q) (by simp only [List.size_toArray]; omega)
  · obtain ⟨its, rv, pl, hz⟩ := I.tuple hq
    exact call_tuple_same pl ⟨.ref a, H, I, rfl, q⟩
def rCatZ (K : PySem.W.Frag) : R2 := fun x y H Q => ∃ a b xs ys, x = .ref a ∧ y = .ref b ∧ SqT K H a xs ∧ SqT K H b ys ∧ xs.length + ys.length ≤ sizeLine ∧ (xs = [] → Q (.ref b) H) ∧ (ys = [] → Q (.ref a) H) ∧ NewT H (xs ++ ys) Q
theorem op_catZ : OpR X (binaryOp .Add) (rCatZ X.K) := by
  intro pins s σ H x y v u Q I rx ry h
  obtain ⟨a, b, xs, ys, rfl, rfl, ha, hb, hz, q0, q1, q2⟩ := h
  cases rx
  cases ry
  obtain ⟨is1, r1, t1, _⟩ := I.tuple ha
  obtain ⟨is2, r2, t2, _⟩ := I.tuple hb
  by_cases hx : xs = []
  · subst hx
    cases r1
    exact cat_tup0 t1 t2 ⟨.ref b, H, I, rfl, q0 rfl⟩
  · have ln : is1.length + is2.length ≤ sizeLine := by rw [← r1.length, ← r2.length]; exact hz
    exact HT.cat_tup t1 t2 (fun z => hx (r1.nil_iff.mp z)) (fun z => ⟨.ref a, H, I, rfl, q1 (r2.nil_iff.mp z)⟩) (fun z => newT_end (tk := s.toks) I (r1.append r2) (by rw [List.length_append]; exact hz) q2) ln
def rSlZ (K : PySem.W.Frag) : V → Option Int → Option Int → Hp → VK → Prop := fun x lo hi H Q => ∃ a xs, x = .ref a ∧ SqT K H a xs ∧
  (HT.sIx xs.length 0 lo = 0 ∧ HT.sIx xs.length xs.length hi = xs.length → Q (.ref a) H) ∧ (¬ (HT.sIx xs.length 0 lo = 0 ∧ HT.sIx xs.length xs.length hi = xs.length) → NewT H (cutV xs lo hi) Q)
theorem sl_tupZ : SlR X (rSlZ X.K) := by
  intro pins s σ H x v vl vu lo hi sl Q I rx hs pl pu h
  obtain ⟨a, xs, rfl, hx, q1, q2⟩ := h
  cases rx
  obtain ⟨its, r, ht, hz⟩ := I.tuple hx
  have ln : its.toArray.size = xs.length := by rw [List.size_toArray, r.length]
  refine ⟨"tuple", _, PyProof.Rows.slot_tuple_getitem.lookup, ht.typeIs, ?_⟩
  by_cases hw : HT.sIx xs.length 0 lo = 0 ∧ HT.sIx xs.length xs.length hi = xs.length
  · exact getItem_tuple_whole ht hs pl pu (by rw [ln]; exact hw) ⟨.ref a, H, I, rfl, q1 hw⟩
  · refine HT.getItem_tuple_cut ht hs pl pu (by rw [ln]; exact hw) ?_ (by rw [ln]; exact hz)
    rw [ln]
    have rc := (r.drop (HT.sIx xs.length 0 lo)).take (HT.sIx xs.length xs.length hi - HT.sIx xs.length 0 lo)
    exact newT_end (tk := s.toks) I rc (Nat.le_trans (cutV_length xs lo hi) hz) (q2 hw)
def tTupRevZ (K : PySem.W.Frag) (te : TE) : TE := fun σ H Q => te σ H fun v H1 => ∃ (a : Addr) (xs : List V), v = .ref a ∧ SqL K H1 a xs ∧ NewT H1 xs.reverse Q
theorem pe_tupRevZ (hc : X.calm = true) (hg : Gl X "tuple") (hm : X.mg "tuple" = none) (hg2 : Gl X "reversed") (hm2 : X.mg "reversed" = none) (he : PE X e te) (hs : starEach [e] X.env = (false, eval e X.env) :: starEach [] X.env)
    (hs2 : starEach [.Call (.Name "reversed" p2) [e] [] pos2] X.env = (false, eval (.Call (.Name "reversed" p2) [e] [] pos2) X.env) :: starEach [] X.env := by rfl) : PE X (.Call (.Name "tuple" p) [.Call (.Name "reversed" p2) [e] [] pos2] [] pos) (tTupRevZ X.K te) := by
  refine ⟨fun pins s σ H Q I h => Call_ (ld_blt I hg hm boot_tuple (PyProof.Rows.callWith_type1 (args_cons (Call_ (ld_blt I hg2 hm2 PyProof.Rows.boot_reversed (PyProof.Rows.callWith_type1 (args_cons (thn (he.run pins s σ H _ I h) fun u s1 ⟨v, H1, I1, r1, a, xs, ev, hq, q⟩ => args_nil ?_) hs) hs rfl))) hs2) hs2 rfl))⟩
  subst ev
  obtain rfl : u = Value.ref a := r1
  obtain ⟨its, rv, pl, hz⟩ := I1.list hq
  have hl := pl.isList
  obtain ⟨ol, hol, _⟩ := id hl
  have ln : its.toArray.size ≤ sizeLine := by rw [List.size_toArray, ← rv.length]; exact hz
  obtain ⟨f0, f1, f2, f3, f4, f5⟩ := I1.fpOk (H' := H1) (b := s1.heap.objs.size) (Nat.le_refl _) (I1.hok.fresh (Nat.le_refl _))
  have J : Inv X pins σ H1 { s1 with heap := s1.heap.push (PySem.revObj a ((its.toArray.size : Int) - 1)) } := I1.kept (t' := s1.toks) fun b o k => Heap.get?_push_of_some _ k
  refine PySem.call_reversed_list hl <| args_nil <| RT.call_tuple_rev (s := { s1 with heap := s1.heap.push (PySem.revObj a ((its.toArray.size : Int) - 1)) }) (I1.ok.hd hc) ⟨_, Heap.get?_push_size _ rfl, rfl, rfl⟩ (hl.push _) (Nat.ne_of_lt (Heap.lt_size hol)) ln fun h2 tk acc hk hi => ?_
  have J2 : Inv X pins σ H1 { s1 with heap := h2, toks := tk } := J.turned (t' := tk) (fun b o hb k => hk b o hb k) f0 f1 f3 f4 f5
  have fin := newT_end (tk := tk) J2 (RT.vals_rev rv hi) (by rw [List.length_reverse]; exact hz) q
  rw [Array.toArray_toList] at fin
  exact fin
def rRepZ (K : PySem.W.Frag) : R2 := fun x y H Q => ∃ l k xs, x = .ref l ∧ y = .int k ∧ SqT K H l xs ∧ xs ≠ [] ∧ 2 ≤ k ∧ k ≤ 1000 ∧ xs.length ≤ 1000 ∧ NewT H (List.replicate k.toNat xs).flatten Q
theorem op_repZ : OpR X (binaryOp .Mult) (rRepZ X.K) := by
  intro pins s σ H x y v u Q I rx ry h
  obtain ⟨l, k, xs, rfl, rfl, hT, hne, h1, h2, hz, q⟩ := h
  cases rx
  obtain ⟨t, rfl⟩ := ry
  obtain ⟨its, r, ⟨⟨cl, dd, da, sl⟩, ho, hc, n, hd⟩, hs⟩ := I.tuple hT
  simp only at hc hd
  subst hc hd
  have hle : its.length = xs.length := r.length.symm
  have sz : its.toArray.size = xs.length := by rw [List.size_toArray, hle]
  have emp : its.toArray.isEmpty = false := by
    cases its with
    | cons a b => rfl
    | nil => exact absurd (List.eq_nil_of_length_eq_zero hle.symm) hne
  have big : ((its.toArray.size : Nat) : Int) * k ≤ 1000000 := by
    have a1 := Int.mul_le_mul_of_nonneg_right (show ((xs.length : Nat) : Int) ≤ 1000 by omega) (show (0 : Int) ≤ k by omega)
    rw [sz]
    omega
  have fl : (List.replicate k.toNat xs).flatten.length ≤ sizeLine := by
    have a1 : k.toNat * xs.length ≤ 1000 * 1000 := Nat.mul_le_mul (by omega) hz
    rw [PyProof.Rows.lm_len_rep_flat, sizeLine_eq]
    omega
  have fl2 : (List.replicate k.toNat its).flatten.length ≤ sizeLine := by
    rw [PyProof.Rows.lm_len_rep_flat, hle, ← PyProof.Rows.lm_len_rep_flat]
    exact fl
  have d0 : (decide (k < -(2 ^ 63)) || decide (k ≥ 2 ^ 63)) = false := by rw [decide_eq_false (by omega), decide_eq_false (by omega)]; rfl
  have d1 : (its.toArray.isEmpty || k == 1) = false := by rw [emp, Bool.false_or]; exact beq_eq_false_iff_ne.mpr (by omega)
  have d2 : (decide (k ≤ 0) || its.toArray.isEmpty) = false := by rw [emp, Bool.or_false]; exact decide_eq_false (by omega)
  have d3 : Builtin.Tuple.tupleTooMany (((its.toArray.size : Nat) : Int) * k) = false := by unfold Builtin.Tuple.tupleTooMany; rw [sizeLine_eq]; exact decide_eq_false (by omega)
  have hm := tuple_mulW l its.toArray n dd sl k t d0 d1 d2 (by omega) d3 (by rw [size_rep, List.size_toArray]; exact fl2)
  have fin := newT_end (tk := s.toks) I (r.rep k.toNat) fl q
  rw [← size_rep] at fin
  exact wpAny_binaryOp_repeat_ref (T := "tuple") (U := "int") (by decide) ⟨_, ho, rfl⟩ (fun s' => typeIs_int s' k t) noFill_tuple_mul F.fills_int_mul F.slot_int_rmul repeat_tuple F.slot_int_index.lookup
    (call_meets F.slot_int_rmul (typeIs_int s k t) F.entry_int_rmul (F.args_int_rmul_2 _ _) (int_rmul_tuple k t l its.toArray n dd sl) ⟨ho, rfl, ⟨_, ho, rfl⟩, call_meets F.slot_tuple_mul ⟨_, ho, rfl⟩ F.entry_tuple_mul (F.args_tuple_mul_2 _ _) hm ⟨ho, fin⟩⟩)
end
end DL
/-! a layer over plain data: the heap is hidden -/
namespace DL
open PySem PySem.Spec PyProof.Rows L2

/-- a caught exception of the class cls at a -/
def ExA (cls : Value) (a : Addr) : HO := .ext fun h => ∃ (oe : Obj) (vs : Array Value), h.get? a = some oe ∧ Zc cls none oe ∧ oe.data = .fields vs

inductive D where
  | non | bl (b : Bool) | int (i : Int) | str (s : Str) | lst (xs : List D) | tup (xs : List D)
  | raw (v : V) | dct (kvs : List (Key × V)) | ins (C : Addr) (fs : List (Str × V)) | exc (C : Addr)
  /-- a pair that a walk hands out -/
  | pr (d1 d2 : D)
  /-- a dict of ints that stays as it is -/
  | dcz (l : List (Int × Int))
  /-- a function made in a def: what is known of it for good -/
  | clo (a : Addr) (φ : Hp → Prop)
def kvI (l : List (Int × Int)) : List (Key × V) := l.map fun p => (.inl p.1, .int p.2)
/-- a tuple, its object without a dict -/
def Tq (K : PySem.W.Frag) (H : Hp) (a : Addr) (xs : List V) : Prop := SqT K H a xs ∧ ∃ ob u, H a = some (.frz ob u) ∧ ob.dict = none

mutual
inductive At (K : PySem.W.Frag) (H : Hp) : V → D → Prop
  | non : At K H .non .non
  | bl (b : Bool) : At K H (.bl b) (.bl b)
  | int (i : Int) : At K H (.int i) (.int i)
  | str (s : Str) : At K H (.str s) (.str s)
  | lst {a : Addr} {xs : List V} {ds : List D} : Rd H a (.lst xs) → AtAll K H xs ds → At K H (.ref a) (.lst ds)
  | tup {a : Addr} {xs : List V} {ds : List D} : Tq K H a xs → AtAll K H xs ds → At K H (.ref a) (.tup ds)
  | raw (v : V) : At K H v (.raw v)
  | dct {a : Addr} {kvs : List (Key × V)} : H a = some (.dK kvs) → At K H (.ref a) (.dct kvs)
  | ins {a C dx : Addr} {fs : List (Str × V)} : H a = some (.ins C dx fs) → At K H (.ref a) (.ins C fs)
  | exc {a C : Addr} : H a = some (ExA (.ref C) a) → At K H (.ref a) (.exc C)
  | pr {a : Addr} {v1 v2 : V} {d1 d2 : D} : SqT K H a [v1, v2] → At K H v1 d1 → At K H v2 d2 → At K H (.ref a) (.pr d1 d2)
  | dcz {a : Addr} {l : List (Int × Int)} : (∃ ob, H a = some (.frz ob (.dK (kvI l)))) → At K H (.ref a) (.dcz l)
  | clo {a : Addr} {φ : Hp → Prop} : (∀ H', LamX.ExtN H H' → φ H') → At K H (.ref a) (.clo a φ)
inductive AtAll (K : PySem.W.Frag) (H : Hp) : List V → List D → Prop
  | nil : AtAll K H [] []
  | cons {v : V} {vs : List V} {d : D} {ds : List D} : At K H v d → AtAll K H vs ds → AtAll K H (v :: vs) (d :: ds)
end

theorem same_rd {H H' : Hp} {a : Addr} {u : HO} (e : Same H H') (h : Rd H a u) : Rd H' a u := by
  rcases h with h | ⟨o, h⟩
  · exact .inl (e _ _ h)
  · exact .inr ⟨o, e _ _ h⟩
theorem same_seqT {K : PySem.W.Frag} {H H' : Hp} {a : Addr} {xs : List V} (e : Same H H') (h : SqT K H a xs) : SqT K H' a xs := by
  rcases h with (h | ⟨o, h⟩) | h
  · exact .inl (.inl (e _ _ h))
  · exact .inl (.inr ⟨o, e _ _ h⟩)
  · exact .inr h

theorem same_tq {K : PySem.W.Frag} {H H' : Hp} {a : Addr} {xs : List V} (e : Same H H') (h : Tq K H a xs) : Tq K H' a xs :=
  let ⟨q, ob, u, h1, h2⟩ := h
  ⟨same_seqT e q, ob, u, e _ _ h1, h2⟩
theorem tq_new {K : PySem.W.Frag} {H : Hp} {p : Addr} {ob : Obj} {xs : List V} (h : ob.dict = none) : Tq K (upd H p (.frz ob (.tup xs))) p xs := ⟨.inl (.inr ⟨ob, upd_same⟩), ob, _, upd_same, h⟩
section
variable {K : PySem.W.Frag} {H H' : Hp} {v : V} {vs ws : List V} {d : D} {ds es : List D}
theorem nt_lst {xs : List V} : ∀ ps, HO.lst xs ≠ .tbl ps := fun ps z => nomatch z
theorem nt_tup {xs : List V} : ∀ ps, HO.tup xs ≠ .tbl ps := fun ps z => nomatch z
theorem nt_frz {o : Obj} {u : HO} : ∀ ps, HO.frz o u ≠ .tbl ps := fun ps z => nomatch z
theorem nt_dK {xs : List (Key × V)} : ∀ ps, HO.dK xs ≠ .tbl ps := fun ps z => nomatch z
theorem nt_ins {C dx : Addr} {fs : List (Str × V)} : ∀ ps, HO.ins C dx fs ≠ .tbl ps := fun ps z => nomatch z
theorem nt_exc {c : Value} {a : Addr} : ∀ ps, ExA c a ≠ .tbl ps := fun ps z => by unfold ExA at z; cases z
/-- no table of code objects is read -/
theorem ext_rd {H H' : Hp} {a : Addr} {u : HO} (e : LamX.ExtN H H') (hu : ∀ ps, u ≠ .tbl ps) (h : Rd H a u) : Rd H' a u := by
  rcases h with h | ⟨o, h⟩
  · exact .inl (e _ _ h hu)
  · exact .inr ⟨o, e _ _ h nt_frz⟩
theorem ext_seqT {K : PySem.W.Frag} {H H' : Hp} {a : Addr} {xs : List V} (e : LamX.ExtN H H') (h : SqT K H a xs) : SqT K H' a xs := by
  rcases h with h | h
  · exact .inl (ext_rd e nt_tup h)
  · exact .inr h
theorem ext_tq {K : PySem.W.Frag} {H H' : Hp} {a : Addr} {xs : List V} (e : LamX.ExtN H H') (h : Tq K H a xs) : Tq K H' a xs :=
  let ⟨q, ob, u, h1, h2⟩ := h
  ⟨ext_seqT e q, ob, u, e _ _ h1 nt_frz, h2⟩
mutual
theorem At.ext (e : LamX.ExtN H H') : ∀ {v : V} {d : D}, At K H v d → At K H' v d
  | _, _, .non => .non
  | _, _, .bl b => .bl b
  | _, _, .int b => .int b
  | _, _, .str b => .str b
  | _, _, .lst s a => .lst (ext_rd e nt_lst s) (AtAll.ext e a)
  | _, _, .tup s a => .tup (ext_tq e s) (AtAll.ext e a)
  | _, _, .pr s a b => .pr (ext_seqT e s) (At.ext e a) (At.ext e b)
  | _, _, .dcz h => .dcz (h.elim fun o q => ⟨o, e _ _ q nt_frz⟩)
  | _, _, .clo h => .clo fun _ s => h _ (LamX.ExtN.trans e s)
  | _, _, .raw v => .raw v
  | _, _, .dct h => .dct (e _ _ h nt_dK)
  | _, _, .ins h => .ins (e _ _ h nt_ins)
  | _, _, .exc h => .exc (e _ _ h nt_exc)
theorem AtAll.ext (e : LamX.ExtN H H') : ∀ {vs : List V} {ds : List D}, AtAll K H vs ds → AtAll K H' vs ds
  | _, _, .nil => .nil
  | _, _, .cons a b => .cons (At.ext e a) (AtAll.ext e b)
end
theorem At.mono (e : Same H H') {v : V} {d : D} (a : At K H v d) : At K H' v d := a.ext (LamX.ExtN.of e)
theorem AtAll.mono (e : Same H H') {vs : List V} {ds : List D} (a : AtAll K H vs ds) : AtAll K H' vs ds := a.ext (LamX.ExtN.of e)
theorem AtAll.length : ∀ {vs : List V} {ds : List D}, AtAll K H vs ds → vs.length = ds.length
  | _, _, .nil => rfl
  | _, _, .cons _ b => by rw [List.length_cons, List.length_cons, AtAll.length b]
theorem AtAll.append : ∀ {vs ws : List V} {ds es : List D}, AtAll K H vs ds → AtAll K H ws es → AtAll K H (vs ++ ws) (ds ++ es)
  | _, _, _, _, .nil, h => h
  | _, _, _, _, .cons a b, h => .cons a (AtAll.append b h)
theorem AtAll.take : ∀ {vs : List V} {ds : List D} (n : Nat), AtAll K H vs ds → AtAll K H (vs.take n) (ds.take n)
  | _, _, 0, _ => .nil
  | _, _, n + 1, .nil => .nil
  | _, _, n + 1, .cons a b => .cons a (AtAll.take n b)
theorem AtAll.drop : ∀ {vs : List V} {ds : List D} (n : Nat), AtAll K H vs ds → AtAll K H (vs.drop n) (ds.drop n)
  | _, _, 0, h => h
  | _, _, n + 1, .nil => .nil
  | _, _, n + 1, .cons a b => AtAll.drop n b
theorem AtAll.rev : ∀ {vs : List V} {ds : List D}, AtAll K H vs ds → AtAll K H vs.reverse ds.reverse
  | _, _, .nil => .nil
  | _, _, .cons a b => by
    rw [List.reverse_cons, List.reverse_cons]
    exact AtAll.append (AtAll.rev b) (.cons a .nil)
theorem AtAll.get : ∀ {vs : List V} {ds : List D} {i : Nat} {d : D}, AtAll K H vs ds → ds[i]? = some d → ∃ v, vs[i]? = some v ∧ At K H v d
  | _, _, _, _, .nil, h => by simp at h
  | _, _, 0, _, .cons a _, h => by simp at h; subst h; exact ⟨_, rfl, a⟩
  | _, _, i + 1, _, .cons _ b, h => by
    obtain ⟨v, e, q⟩ := AtAll.get (i := i) b (by simpa using h)
    exact ⟨v, by simpa using e, q⟩
theorem AtAll.get' : ∀ {vs : List V} {ds : List D} {i : Nat} {v : V}, AtAll K H vs ds → vs[i]? = some v → ∃ d, ds[i]? = some d ∧ At K H v d
  | _, _, _, _, .nil, h => by simp at h
  | _, _, 0, _, .cons a _, h => by simp at h; subst h; exact ⟨_, rfl, a⟩
  | _, _, i + 1, _, .cons _ b, h => by
    obtain ⟨v, e, q⟩ := AtAll.get' (i := i) b (by simpa using h)
    exact ⟨v, by simpa using e, q⟩
/-- ints, texts, .. stand as they are -/
theorem AtAll.ints : ∀ {vs : List V} {ns : List Int}, AtAll K H vs (ns.map D.int) → vs = ns.map V.int
  | _, [], .nil => rfl
  | _, n :: ns, .cons a b => by
    cases a
    rw [AtAll.ints b]
    rfl
theorem AtAll.of_ints : ∀ {ns : List Int}, AtAll K H (ns.map V.int) (ns.map D.int)
  | [] => .nil
  | n :: ns => .cons (.int n) AtAll.of_ints
theorem AtAll.strs : ∀ {vs : List V} {ns : List Str}, AtAll K H vs (ns.map D.str) → vs = ns.map V.str
  | _, [], .nil => rfl
  | _, n :: ns, .cons a b => by
    cases a
    rw [AtAll.strs b]
    rfl
theorem AtAll.of_strs : ∀ {ns : List Str}, AtAll K H (ns.map V.str) (ns.map D.str)
  | [] => .nil
  | n :: ns => .cons (.str n) AtAll.of_strs
theorem AtAll.bls : ∀ {vs : List V} {ns : List Bool}, AtAll K H vs (ns.map D.bl) → vs = ns.map V.bl
  | _, [], .nil => rfl
  | _, n :: ns, .cons a b => by
    cases a
    rw [AtAll.bls b]
    rfl
end

/-! ### tables -/
/-- no code object is known -/
def NoC (H : Hp) : Prop := ∀ b c q, H b ≠ some (LamX.CodeO c q)
theorem tabS_same {H H' : Hp} {P : Addr} {q : Str} (t : LamX.TabS H P q) (e : Same H H') : LamX.TabS H' P q := t.ext e
/-- neither a table nor a code object -/
structure NoTb (u : HO) : Prop where
  t : ∀ ps, u ≠ .tbl ps
  c : ∀ c q, u ≠ LamX.CodeO c q
theorem tabS_nx {H H' : Hp} {P a : Addr} {q : Str} {u : HO} (t : LamX.TabS H P q) (ha : H a = some u) (hu : NoTb u) (e : ∀ b o, b ≠ a → H b = some o → H' b = some o) : LamX.TabS H' P q := by
  obtain ⟨ps, h1, h2, h3⟩ := t
  refine ⟨ps, e _ _ (fun z => by rw [z, ha] at h1; exact hu.t _ (Option.some.inj h1)) h1, h2, fun pos cv hc => ?_⟩
  obtain ⟨c, e1, e2⟩ := h3 pos cv hc
  exact ⟨c, e1, e _ _ (fun z => by rw [z, ha] at e2; exact hu.c _ _ (Option.some.inj e2)) e2⟩
theorem noTb_lst {xs : List V} : NoTb (.lst xs) := ⟨(fun _ z => nomatch z), fun c q z => by unfold LamX.CodeO at z; cases z⟩
theorem noTb_dK {xs : List (Key × V)} : NoTb (.dK xs) := ⟨(fun _ z => nomatch z), fun c q z => by unfold LamX.CodeO at z; cases z⟩
theorem tabS_ne {H H' : Hp} {P a : Addr} {q : Str} (t : LamX.TabS H P q) (xs : List V) (ha : H a = some (.lst xs)) (e : ∀ b o, b ≠ a → H b = some o → H' b = some o) : LamX.TabS H' P q := tabS_nx t ha noTb_lst e
/-! ### slots -/
inductive Sl where
  | em | dat (d : D)
  /-- an own list; told where it lies: it is the caller's, handed in -/
  | ow (q : Option Addr) (ds : List D)
  /-- no name: a table of code objects, which may grow -/
  | tb (P : Addr) (q : Str)
abbrev Sl.own (ds : List D) : Sl := .ow none ds
/-- the entry: the heap, and what of it the data at hand stand on -/
structure Ent where
  h : Hp
  b : Hp
structure Rel (K : PySem.W.Frag) (H0 : Ent) (ρ : List Sl) (σ : L2.St) (Hb H : Hp) : Prop where
  b0 : Same H0.h H
  bb : Same H0.b Hb
  bn : ∀ a, H0.b a = none → H0.h a ≠ none → Hb a = none
  b1 : Same Hb H
  dat : ∀ (i : Nat) (d : D), ρ[i]? = some (Sl.dat d) → ∃ v, σ[i]? = some (some v) ∧ At K Hb v d
  own : ∀ (i : Nat) (q : Option Addr) (ds : List D), ρ[i]? = some (Sl.ow q ds) → ∃ (a : Addr) (xs : List V), σ[i]? = some (some (V.ref a)) ∧ Hb a = none ∧ H a = some (HO.lst xs) ∧ AtAll K Hb xs ds ∧ H0.h a = none ∧ ∀ p, q = some p → a = p
  sep : ∀ (i j : Nat) (q r : Option Addr) (ds es : List D) (a : Addr), ρ[i]? = some (Sl.ow q ds) → ρ[j]? = some (Sl.ow r es) → σ[i]? = some (some (V.ref a)) → σ[j]? = some (some (V.ref a)) → i = j
  len : ρ.length = σ.length
  tb : ∀ (i : Nat) (P : Addr) (q : Str), ρ[i]? = some (Sl.tb P q) → LamX.TabS H P q ∧ Hb P = none ∧ H0.h P = none ∧ NoC H0.h

theorem set_tb {ρ : List Sl} {i j : Nat} {s : Sl} {P : Addr} {q : Str} (h : (ρ.set i s)[j]? = some (.tb P q)) (hs : s ≠ .tb P q) : ρ[j]? = some (.tb P q) := by
  by_cases hj : i = j
  · subst hj
    have hi : i < ρ.length := by
      have := (List.getElem?_eq_some_iff.mp h).1
      rwa [List.length_set] at this
    rw [List.getElem?_set_self hi] at h
    exact absurd (Option.some.inj h) hs
  · rwa [List.getElem?_set_ne hj] at h
section
variable {K : PySem.W.Frag} {H0 : Ent} {H H' Hb : Hp} {ρ : List Sl} {σ : L2.St} {p : Addr} {o : HO}
theorem same_upd {H : Hp} {p : Addr} {o : HO} (h : H p = none) : Same H (upd H p o) := fun b x e => by
  rw [upd_ne (ne_of_none e h)]
  exact e
theorem same_upd2 {H H' : Hp} {p : Addr} {o : HO} (s : Same H H') (h : H' p = none) : Same (upd H p o) (upd H' p o) := fun b x e => by
  by_cases hb : b = p
  · subst hb
    rw [upd_same] at e ⊢
    exact e
  · rw [upd_ne hb] at e ⊢
    exact s _ _ e
/-- a new object, known from now on -/
theorem Rel.alloc (R : Rel K H0 ρ σ Hb H) (hp : H p = none) : Rel K H0 ρ σ (upd Hb p o) (upd H p o) := by
  have hb : Hb p = none := R.b1.free hp
  have s : Same Hb (upd Hb p o) := same_upd hb
  refine ⟨R.b0.trans (same_upd hp), R.bb.trans s, fun a n0 n1 => ?_, same_upd2 R.b1 hp, fun i d h => ?_, fun i qq ds h => ?_, R.sep, R.len, fun i P q h => let ⟨t, t1, t2⟩ := R.tb i P q h; ⟨tabS_same t (same_upd hp), (upd_ne (fun z => by obtain ⟨_, w, _⟩ := t; rw [z, hp] at w; cases w)).trans t1, t2⟩⟩
  · rw [upd_ne (fun z => n1 (by rw [z]; exact R.b0.free hp))]
    exact R.bn a n0 n1
  · obtain ⟨v, e, a⟩ := R.dat i d h
    exact ⟨v, e, a.mono s⟩
  · obtain ⟨a, xs, e, n, q, A, z⟩ := R.own i qq ds h
    have ne : a ≠ p := ne_of_none q hp
    exact ⟨a, xs, e, by rw [upd_ne ne]; exact n, by rw [upd_ne ne]; exact q, A.mono s, z⟩
/-- a new object, not known -/
theorem Rel.allocN (R : Rel K H0 ρ σ Hb H) (hp : H p = none) : Rel K H0 ρ σ Hb (upd H p o) := by
  refine ⟨R.b0.trans (same_upd hp), R.bb, R.bn, R.b1.trans (same_upd hp), R.dat, fun i qq ds h => ?_, R.sep, R.len, fun i P q h => let ⟨t, t1, t2⟩ := R.tb i P q h; ⟨tabS_same t (same_upd hp), t1, t2⟩⟩
  obtain ⟨a, xs, e, n, q, A⟩ := R.own i qq ds h
  have ne : a ≠ p := ne_of_none q hp
  exact ⟨a, xs, e, n, by rw [upd_ne ne]; exact q, A⟩
/-- the heap grows -/
theorem Rel.grow (R : Rel K H0 ρ σ Hb H) (s : Same H H') : Rel K H0 ρ σ Hb H' :=
  ⟨R.b0.trans s, R.bb, R.bn, R.b1.trans s, R.dat, fun i qq ds h => let ⟨a, xs, e, n, q, A⟩ := R.own i qq ds h; ⟨a, xs, e, n, s _ _ q, A⟩, R.sep, R.len, fun i P q h => let ⟨t, t1, t2⟩ := R.tb i P q h; ⟨tabS_same t s, t1, t2⟩⟩
/-- a name takes a datum -/
theorem Rel.setD (R : Rel K H0 ρ σ Hb H) (i : Nat) {d : D} {v : V} (a : At K Hb v d) : Rel K H0 (ρ.set i (.dat d)) (σ.set i (some v)) Hb H := by
  refine ⟨R.b0, R.bb, R.bn, R.b1, fun j d' h => ?_, fun j qq ds h => ?_, fun j l q1 q2 ds es b h1 h2 h3 h4 => ?_, by rw [List.length_set, List.length_set]; exact R.len, fun j P q h => R.tb j P q (set_tb h (by intro z; cases z))⟩
  · by_cases hj : i = j
    · subst hj
      have hi : i < ρ.length := by
        have := (List.getElem?_eq_some_iff.mp h).1
        rwa [List.length_set] at this
      rw [List.getElem?_set_self hi] at h
      cases h
      exact ⟨v, List.getElem?_set_self (by rw [← R.len]; exact hi), a⟩
    · rw [List.getElem?_set_ne hj] at h
      obtain ⟨v', e, q⟩ := R.dat j d' h
      exact ⟨v', by rw [List.getElem?_set_ne hj]; exact e, q⟩
  · by_cases hj : i = j
    · subst hj
      have hi : i < ρ.length := by
        have := (List.getElem?_eq_some_iff.mp h).1
        rwa [List.length_set] at this
      rw [List.getElem?_set_self hi] at h
      cases h
    · rw [List.getElem?_set_ne hj] at h
      obtain ⟨a', xs, e, q⟩ := R.own j qq ds h
      exact ⟨a', xs, by rw [List.getElem?_set_ne hj]; exact e, q⟩
  · have n1 : i ≠ j := fun z => by
      subst z
      have hi : i < ρ.length := by
        have := (List.getElem?_eq_some_iff.mp h1).1
        rwa [List.length_set] at this
      rw [List.getElem?_set_self hi] at h1
      cases h1
    have n2 : i ≠ l := fun z => by
      subst z
      have hi : i < ρ.length := by
        have := (List.getElem?_eq_some_iff.mp h2).1
        rwa [List.length_set] at this
      rw [List.getElem?_set_self hi] at h2
      cases h2
    rw [List.getElem?_set_ne n1] at h1 h3
    rw [List.getElem?_set_ne n2] at h2 h4
    exact R.sep j l q1 q2 ds es b h1 h2 h3 h4
/-- a name is forgotten -/
theorem Rel.setE (R : Rel K H0 ρ σ Hb H) (i : Nat) (x : Option V) : Rel K H0 (ρ.set i Sl.em) (σ.set i x) Hb H := by
  have key : ∀ {j : Nat} {s : Sl}, s ≠ Sl.em → (ρ.set i Sl.em)[j]? = some s → i ≠ j ∧ ρ[j]? = some s := fun {j s} hs h => by
    by_cases hj : i = j
    · subst hj
      have hi : i < ρ.length := by
        have := (List.getElem?_eq_some_iff.mp h).1
        rwa [List.length_set] at this
      rw [List.getElem?_set_self hi] at h
      exact absurd (Option.some.inj h).symm hs
    · rw [List.getElem?_set_ne hj] at h
      exact ⟨hj, h⟩
  refine ⟨R.b0, R.bb, R.bn, R.b1, fun j d' h => ?_, fun j qq ds h => ?_, fun j l q1 q2 ds es b h1 h2 h3 h4 => ?_, by rw [List.length_set, List.length_set]; exact R.len, fun j P q h => R.tb j P q (set_tb h (by intro z; cases z))⟩
  · obtain ⟨n, h⟩ := key (by intro z; cases z) h
    obtain ⟨v', e, q⟩ := R.dat j d' h
    exact ⟨v', by rw [List.getElem?_set_ne n]; exact e, q⟩
  · obtain ⟨n, h⟩ := key (by intro z; cases z) h
    obtain ⟨a', xs, e, q⟩ := R.own j qq ds h
    exact ⟨a', xs, by rw [List.getElem?_set_ne n]; exact e, q⟩
  · obtain ⟨n1, h1⟩ := key (by intro z; cases z) h1
    obtain ⟨n2, h2⟩ := key (by intro z; cases z) h2
    rw [List.getElem?_set_ne n1] at h3
    rw [List.getElem?_set_ne n2] at h4
    exact R.sep j l q1 q2 ds es b h1 h2 h3 h4
/-- a name takes a new list -/
theorem Rel.setO (R : Rel K H0 ρ σ Hb H) (i : Nat) {ds : List D} {xs : List V} (hn : Hb p = none) (hp : H p = some (.lst xs)) (A : AtAll K Hb xs ds) (h0 : H0.h p = none) (fresh : ∀ (j : Nat) (q : Option Addr) (es : List D), ρ[j]? = some (Sl.ow q es) → σ[j]? ≠ some (some (V.ref p))) : Rel K H0 (ρ.set i (.own ds)) (σ.set i (some (.ref p))) Hb H := by
  refine ⟨R.b0, R.bb, R.bn, R.b1, fun j d' h => ?_, fun j qq es h => ?_, fun j l q1 q2 es fs b h1 h2 h3 h4 => ?_, by rw [List.length_set, List.length_set]; exact R.len, fun j P q h => R.tb j P q (set_tb h (by intro z; cases z))⟩
  · by_cases hj : i = j
    · subst hj
      have hi : i < ρ.length := by
        have := (List.getElem?_eq_some_iff.mp h).1
        rwa [List.length_set] at this
      rw [List.getElem?_set_self hi] at h
      cases h
    · rw [List.getElem?_set_ne hj] at h
      obtain ⟨v', e, q⟩ := R.dat j d' h
      exact ⟨v', by rw [List.getElem?_set_ne hj]; exact e, q⟩
  · by_cases hj : i = j
    · subst hj
      have hi : i < ρ.length := by
        have := (List.getElem?_eq_some_iff.mp h).1
        rwa [List.length_set] at this
      rw [List.getElem?_set_self hi] at h
      cases h
      exact ⟨p, xs, List.getElem?_set_self (by rw [← R.len]; exact hi), hn, hp, A, h0, fun p z => nomatch z⟩
    · rw [List.getElem?_set_ne hj] at h
      obtain ⟨a', ys, e, q⟩ := R.own j qq es h
      exact ⟨a', ys, by rw [List.getElem?_set_ne hj]; exact e, q⟩
  · by_cases hj : i = j
    · by_cases hl : i = l
      · rw [← hj, ← hl]
      · subst hj
        rw [List.getElem?_set_ne hl] at h2 h4
        have hi : i < σ.length := by
          have := (List.getElem?_eq_some_iff.mp h3).1
          rwa [List.length_set] at this
        rw [List.getElem?_set_self hi] at h3
        cases h3
        exact absurd h4 (fresh l _ fs h2)
    · by_cases hl : i = l
      · subst hl
        rw [List.getElem?_set_ne hj] at h1 h3
        have hi : i < σ.length := by
          have := (List.getElem?_eq_some_iff.mp h4).1
          rwa [List.length_set] at this
        rw [List.getElem?_set_self hi] at h4
        cases h4
        exact absurd h3 (fresh j _ es h1)
      · rw [List.getElem?_set_ne hj] at h1 h3
        rw [List.getElem?_set_ne hl] at h2 h4
        exact R.sep j l q1 q2 es fs b h1 h2 h3 h4
/-- an own list grows by a datum -/
theorem Rel.push (R : Rel K H0 ρ σ Hb H) {i : Nat} {q0 : Option Addr} {ds es : List D} {a : Addr} {ys : List V} (h : ρ[i]? = some (.ow q0 ds)) (hs : σ[i]? = some (some (.ref a))) (A : AtAll K Hb ys es) : Rel K H0 (ρ.set i (.ow q0 es)) σ Hb (upd H a (.lst ys)) := by
  have hi : i < ρ.length := (List.getElem?_eq_some_iff.mp h).1
  obtain ⟨a', xs, e, n, q, _, h0, hq⟩ := R.own i q0 ds h
  have ea : a' = a := by
    rw [hs] at e
    cases e
    rfl
  subst ea
  refine ⟨fun b x hb => ?_, R.bb, R.bn, fun b x hb => ?_, fun j d' hj => ?_, fun j qq fs hj => ?_, fun j l q1 q2 es' fs b h1 h2 h3 h4 => ?_, by rw [List.length_set]; exact R.len, fun j P qn h => let ⟨t, t1, t2⟩ := R.tb j P qn (set_tb h (by intro z; cases z)); ⟨tabS_ne t xs q (fun b o hb e => by rw [upd_ne hb]; exact e), t1, t2⟩⟩
  · rw [upd_ne (ne_of_none hb h0)]
    exact R.b0 _ _ hb
  · rw [upd_ne (ne_of_none hb n)]
    exact R.b1 _ _ hb
  · have n1 : i ≠ j := fun z => by
      subst z
      rw [List.getElem?_set_self hi] at hj
      cases hj
    rw [List.getElem?_set_ne n1] at hj
    exact R.dat j d' hj
  · by_cases z : i = j
    · subst z
      rw [List.getElem?_set_self hi] at hj
      cases hj
      exact ⟨a', ys, hs, n, upd_same, A, h0, hq⟩
    · rw [List.getElem?_set_ne z] at hj
      obtain ⟨b, zs, e2, n2, q2, A2⟩ := R.own j qq fs hj
      have ne : b ≠ a' := fun w => z (R.sep i j _ _ ds fs a' h hj hs (by rw [e2, w]))
      exact ⟨b, zs, e2, n2, by rw [upd_ne ne]; exact q2, A2⟩
  · have back : ∀ {j : Nat} {r : Option Addr} {gs : List D}, (ρ.set i (Sl.ow q0 es))[j]? = some (Sl.ow r gs) → ∃ (r' : Option Addr) (gs' : List D), ρ[j]? = some (Sl.ow r' gs') := fun {j r gs} z => by
      by_cases w : i = j
      · subst w
        exact ⟨q0, ds, h⟩
      · rw [List.getElem?_set_ne w] at z
        exact ⟨r, gs, z⟩
    obtain ⟨_, g1, k1⟩ := back h1
    obtain ⟨_, g2, k2⟩ := back h2
    exact R.sep j l _ _ g1 g2 b k1 k2 h3 h4
end
end DL
namespace DL
open PySem PySem.Spec PyProof.Rows L2
/-! ### what an expression, a test, a list of arguments asks, by the machine itself -/
structure WE (X : Cx) (e : Expr) (σ : L2.St) (H : Hp) (Q : VK) : Prop where
  go : ∀ (pins : List (Addr × Obj)) (s : Shared), Inv X pins σ H s → wpAny (model X.prog X.w) X.A (eval e X.env) (EP X pins σ Q) X.xe s
structure WT (X : Cx) (e : Expr) (σ : L2.St) (H : Hp) (Q : Bool → Hp → Prop) : Prop where
  go : ∀ (pins : List (Addr × Obj)) (s : Shared), Inv X pins σ H s → wpAny (model X.prog X.w) X.A (isTrue e X.env (eval e X.env)) (TP X pins σ Q) X.xe s
structure WW (X : Cx) (e : Expr) (σ : L2.St) (H : Hp) (Q : Bool → Hp → Prop) : Prop where
  go : ∀ (whole : Sem Value) (pins : List (Addr × Obj)) (s : Shared), Inv X pins σ H s → wpAny (model X.prog X.w) X.A (isTrue e X.env whole) (TP X pins σ Q) X.xe s
structure WA (X : Cx) (es : List Expr) (σ : L2.St) (H : Hp) (Q : List V → Hp → Prop) : Prop where
  go : ∀ (pos : Pos) (pins : List (Addr × Obj)) (s : Shared), Inv X pins σ H s → wpAny (model X.prog X.w) X.A (spliced (backTo pos (starEach es X.env))) (AP X pins σ Q) X.xe s
structure WS (X : Cx) (st : Stmt) (D : Ends) (σ : L2.St) (H : Hp) : Prop where
  go : ∀ (pins : List (Addr × Obj)) (s : Shared), Inv X pins σ H s → wpAny (model X.prog X.w) X.A (exec st X.env) (SP X pins D) X.xe s
structure WSs (X : Cx) (st : List Stmt) (D : Ends) (σ : L2.St) (H : Hp) : Prop where
  go : ∀ (pins : List (Addr × Obj)) (s : Shared), Inv X pins σ H s → wpAny (model X.prog X.w) X.A (execs st X.env) (SP X pins D) X.xe s
structure WI (X : Cx) (tg iter : Expr) (σ : L2.St) (H : Hp) (R : It → Hp → Prop) : Prop where
  go : ∀ (pins : List (Addr × Obj)) (s : Shared), Inv X pins σ H s → wpAny (model X.prog X.w) X.A (eval iter X.env) (fun v s1 => wpAny (model X.prog X.w) X.A (pyIter v) (PIE X pins σ tg R) X.xe s1) X.xe s
def WG (X : Cx) (tg : Expr) : TG := fun v σ H Q => ∀ (pins : List (Addr × Obj)) (s : Shared) (u : Value), Inv X pins σ H s → RelV v u → wpAny (model X.prog X.w) X.A (assign tg X.env u) (fun _ s' => ∃ σ' H', Inv X pins σ' H' s' ∧ Q σ' H') X.xe s
/-- no starred argument -/
def nst : Expr → Bool
  | .Starred .. => false
  | _ => true
theorem star_nst {e : Expr} {es : List Expr} {env : Env} (h : nst e = true) : starEach (e :: es) env = (false, eval e env) :: starEach es env := by
  cases e with
  | Starred => cases h
  | _ => rfl
section
variable {X : Cx} {e tg iter : Expr} {es : List Expr} {st : Stmt} {sts : List Stmt} {σ : L2.St} {H : Hp}
theorem pe_w : PE X e (WE X e) := ⟨fun pins s _ _ _ I h => h.go pins s I⟩
theorem pt_w : PT X e (WT X e) := ⟨fun pins s _ _ _ I h => h.go pins s I⟩
theorem pw_w : PW X e (WW X e) := ⟨fun wh pins s _ _ _ I h => h.go wh pins s I⟩
theorem pa_w : PA X es (WA X es) := ⟨fun pos pins s _ _ _ I h => h.go pos pins s I⟩
theorem ps_w : PS X st (WS X st) := ⟨fun pins s _ _ _ I h => h.go pins s I⟩
theorem pss_w : PSs X sts (WSs X sts) := ⟨fun pins s _ _ _ I h => h.go pins s I⟩
theorem pi_w : PI X tg iter (WI X tg iter) := ⟨fun pins s _ _ _ I h => h.go pins s I⟩
theorem WE.of {t : TE} {Q : VK} (p : PE X e t) (h : t σ H Q) : WE X e σ H Q := ⟨fun pins s I => p.run pins s σ H Q I h⟩
theorem WT.of {t : TT} {Q : Bool → Hp → Prop} (p : PT X e t) (h : t σ H Q) : WT X e σ H Q := ⟨fun pins s I => p.run pins s σ H Q I h⟩
theorem WW.of {t : TT} {Q : Bool → Hp → Prop} (p : PW X e t) (h : t σ H Q) : WW X e σ H Q := ⟨fun wh pins s I => p.run wh pins s σ H Q I h⟩
theorem WA.of {t : TA} {Q : List V → Hp → Prop} (p : PA X es t) (h : t σ H Q) : WA X es σ H Q := ⟨fun pos pins s I => p.run pos pins s σ H Q I h⟩
theorem WS.of {t : TS} {D : Ends} (p : PS X st t) (h : t D σ H) : WS X st D σ H := ⟨fun pins s I => p.run pins s σ H D I h⟩
theorem WSs.of {t : TS} {D : Ends} (p : PSs X sts t) (h : t D σ H) : WSs X sts D σ H := ⟨fun pins s I => p.run pins s σ H D I h⟩
theorem WI.of {t : TI} {R : It → Hp → Prop} (p : PI X tg iter t) (h : t σ H R) : WI X tg iter σ H R := ⟨fun pins s I => p.run pins s σ H R I h⟩
theorem WE.mono {Q Q' : VK} (h : WE X e σ H Q) (k : ∀ v H', Q v H' → Q' v H') : WE X e σ H Q' := ⟨fun pins s I => thn (h.go pins s I) fun _ _ ⟨v, H', I', r, q⟩ => ⟨v, H', I', r, k _ _ q⟩⟩
theorem WT.mono {Q Q' : Bool → Hp → Prop} (h : WT X e σ H Q) (k : ∀ v H', Q v H' → Q' v H') : WT X e σ H Q' := ⟨fun pins s I => thn (h.go pins s I) fun _ _ ⟨H', I', q⟩ => ⟨H', I', k _ _ q⟩⟩
theorem WW.mono {Q Q' : Bool → Hp → Prop} (h : WW X e σ H Q) (k : ∀ v H', Q v H' → Q' v H') : WW X e σ H Q' := ⟨fun wh pins s I => thn (h.go wh pins s I) fun _ _ ⟨H', I', q⟩ => ⟨H', I', k _ _ q⟩⟩
theorem WA.mono {Q Q' : List V → Hp → Prop} (h : WA X es σ H Q) (k : ∀ v H', Q v H' → Q' v H') : WA X es σ H Q' := ⟨fun pos pins s I => thn (h.go pos pins s I) fun _ _ ⟨v, H', I', r, q⟩ => ⟨v, H', I', r, k _ _ q⟩⟩
theorem WI.mono {R R' : It → Hp → Prop} (h : WI X tg iter σ H R) (k : ∀ J H', R J H' → R' J H') : WI X tg iter σ H R' := ⟨fun pins s I =>
  thn (h.go pins s I) fun _ _ h1 => thn h1 fun _ _ ⟨it, fp, tn, J, H', e1, I', T, st, f, q⟩ => ⟨it, fp, tn, J, H', e1, I', T, st, f, k _ _ q⟩⟩
end

/-! ### over data -/
structure Gr (Hb H Hb' H' : Hp) : Prop where
  b : L2.Same Hb Hb'
  h : L2.Same H H'
theorem Gr.refl {Hb H : Hp} : Gr Hb H Hb H := ⟨L2.Same.refl Hb, L2.Same.refl H⟩
theorem Gr.trans {Hb H H1 H2 H3 H4 : Hp} (a : Gr Hb H H1 H2) (b : Gr H1 H2 H3 H4) : Gr Hb H H3 H4 := ⟨L2.Same.trans a.b b.b, L2.Same.trans a.h b.h⟩
abbrev DZ := Addr → Prop
def NoZ : DZ := fun _ => False
def PostE (K : PySem.W.Frag) (H0 : Ent) (ρ : List Sl) (σ : L2.St) (Hb H : Hp) (Φ : D → Prop) : VK := fun v H' => ∃ (d : D) (Hb' : Hp), Φ d ∧ Rel K H0 ρ σ Hb' H' ∧ Gr Hb H Hb' H' ∧ At K Hb' v d
def PostT (K : PySem.W.Frag) (H0 : Ent) (ρ : List Sl) (σ : L2.St) (Hb H : Hp) (Φ : Bool → Prop) : Bool → Hp → Prop := fun b H' => ∃ (Hb' : Hp), Φ b ∧ Rel K H0 ρ σ Hb' H' ∧ Gr Hb H Hb' H'
def PostA (K : PySem.W.Frag) (H0 : Ent) (ρ : List Sl) (σ : L2.St) (Hb H : Hp) (Φ : List D → Prop) : List V → Hp → Prop := fun vs H' => ∃ (ds : List D) (Hb' : Hp), Φ ds ∧ Rel K H0 ρ σ Hb' H' ∧ Gr Hb H Hb' H' ∧ AtAll K Hb' vs ds
/-- a list (false) or a tuple (true) -/
def Sq (t : Bool) (K : PySem.W.Frag) (H : Hp) (a : Addr) (xs : List V) : Prop := if t = true then SqT K H a xs else Rd H a (.lst xs)
theorem Sq.mono {t : Bool} {K : PySem.W.Frag} {H H' : Hp} {a : Addr} {xs : List V} (e : Same H H') (h : Sq t K H a xs) : Sq t K H' a xs := by
  cases t with
  | true => exact same_seqT e h
  | false => exact same_rd e h
theorem Sq.or {t : Bool} {K : PySem.W.Frag} {H : Hp} {a : Addr} {xs : List V} (h : Sq t K H a xs) : SqL K H a xs ∨ SqT K H a xs := by
  cases t with
  | true => exact .inr h
  | false => exact .inl (.inl h)
def PostS (K : PySem.W.Frag) (H0 : Ent) (ρ : List Sl) (σ : L2.St) (Hb H : Hp) (Φ : Bool → List D → Prop) : VK := fun v H' => ∃ (t : Bool) (ds : List D) (Hb' : Hp) (a : Addr) (xs : List V), v = .ref a ∧ Φ t ds ∧ Rel K H0 ρ σ Hb' H' ∧ Gr Hb H Hb' H' ∧ Sq t K H' a xs ∧ AtAll K Hb' xs ds ∧ (t = true → Tq K Hb' a xs)
def PostN (K : PySem.W.Frag) (H0 : Ent) (ρ : List Sl) (σ : L2.St) (Hb H : Hp) (Φ : List D → Prop) : VK := fun v H' => ∃ (ds : List D) (Hb' : Hp) (p : Addr) (xs : List V), v = .ref p ∧ Φ ds ∧ Rel K H0 ρ σ Hb' H' ∧ Gr Hb H Hb' H' ∧
  Hb' p = none ∧ H' p = some (.lst xs) ∧ AtAll K Hb' xs ds ∧ H0.h p = none ∧ ∀ (j : Nat) (q : Option Addr) (es : List D), ρ[j]? = some (Sl.ow q es) → σ[j]? ≠ some (some (V.ref p))
def RZ (X : Cx) (W : WX) (H0 : Ent) (ρ : List Sl) (σ : L2.St) (Hb H : Hp) (Z : DZ) : Prop := ∀ (C : Addr) (Hb' H' : Hp), Z C → Rel X.K H0 ρ σ Hb' H' → Gr Hb H Hb' H' → W (.ref C) none σ H'
def EW (X : Cx) (W : WX) (ρ : List Sl) (e : Expr) (Φ : D → Prop) (Z : DZ) : Prop := ∀ (H0 : Ent) (σ : L2.St) (Hb H : Hp), Rel X.K H0 ρ σ Hb H → RZ X W H0 ρ σ Hb H Z → WE X e σ H (PostE X.K H0 ρ σ Hb H Φ)
def ES (X : Cx) (W : WX) (ρ : List Sl) (e : Expr) (Φ : Bool → List D → Prop) (Z : DZ) : Prop := ∀ (H0 : Ent) (σ : L2.St) (Hb H : Hp), Rel X.K H0 ρ σ Hb H → RZ X W H0 ρ σ Hb H Z → WE X e σ H (PostS X.K H0 ρ σ Hb H Φ)
def EN (X : Cx) (W : WX) (ρ : List Sl) (e : Expr) (Φ : List D → Prop) (Z : DZ) : Prop := ∀ (H0 : Ent) (σ : L2.St) (Hb H : Hp), Rel X.K H0 ρ σ Hb H → RZ X W H0 ρ σ Hb H Z → WE X e σ H (PostN X.K H0 ρ σ Hb H Φ)
def TW (X : Cx) (W : WX) (ρ : List Sl) (e : Expr) (Φ : Bool → Prop) (Z : DZ) : Prop := ∀ (H0 : Ent) (σ : L2.St) (Hb H : Hp), Rel X.K H0 ρ σ Hb H → RZ X W H0 ρ σ Hb H Z → WT X e σ H (PostT X.K H0 ρ σ Hb H Φ)
/-- a test by and, or (whatever its whole is) -/
def BW (X : Cx) (W : WX) (ρ : List Sl) (e : Expr) (Φ : Bool → Prop) (Z : DZ) : Prop := ∀ (H0 : Ent) (σ : L2.St) (Hb H : Hp), Rel X.K H0 ρ σ Hb H → RZ X W H0 ρ σ Hb H Z → WW X e σ H (PostT X.K H0 ρ σ Hb H Φ)
def AW (X : Cx) (W : WX) (ρ : List Sl) (es : List Expr) (Φ : List D → Prop) (Z : DZ) : Prop := ∀ (H0 : Ent) (σ : L2.St) (Hb H : Hp), Rel X.K H0 ρ σ Hb H → RZ X W H0 ρ σ Hb H Z → WA X es σ H (PostA X.K H0 ρ σ Hb H Φ)

section
variable {X : Cx} {W : WX} {ρ : List Sl} {Z : DZ} {H0 : Ent} {σ : L2.St} {Hb H : Hp}
theorem RZ.mono {Hb' H' : Hp} (z : RZ X W H0 ρ σ Hb H Z) (s : Gr Hb H Hb' H') : RZ X W H0 ρ σ Hb' H' Z := fun C Hc H' c R t => z C Hc H' c R (s.trans t)
theorem rz_no : RZ X W H0 ρ σ Hb H NoZ := fun _ _ _ z _ _ => z.elim
theorem EW.run {e : Expr} {Φ : D → Prop} {Q : VK} (h : EW X W ρ e Φ Z) (R : Rel X.K H0 ρ σ Hb H) (z : RZ X W H0 ρ σ Hb H Z) (k : ∀ d v Hb' H', Φ d → Rel X.K H0 ρ σ Hb' H' → Gr Hb H Hb' H' → At X.K Hb' v d → RZ X W H0 ρ σ Hb' H' Z → Q v H') : WE X e σ H Q :=
  (h H0 σ Hb H R z).mono fun v H' ⟨d, Hb', f, R', s, a⟩ => k d v Hb' H' f R' s a (z.mono s)
theorem ES.run {e : Expr} {Φ : Bool → List D → Prop} {Q : VK} (h : ES X W ρ e Φ Z) (R : Rel X.K H0 ρ σ Hb H) (z : RZ X W H0 ρ σ Hb H Z) (k : ∀ t ds a xs Hb' H', Φ t ds → Rel X.K H0 ρ σ Hb' H' → Gr Hb H Hb' H' → Sq t X.K H' a xs → AtAll X.K Hb' xs ds → (t = true → Tq X.K Hb' a xs) → RZ X W H0 ρ σ Hb' H' Z → Q (.ref a) H') : WE X e σ H Q :=
  (h H0 σ Hb H R z).mono fun v H' ⟨t, ds, Hb', a, xs, e1, f, R', s, q, A, T⟩ => by
    subst e1
    exact k t ds a xs Hb' H' f R' s q A T (z.mono s)
theorem EN.run {e : Expr} {Φ : List D → Prop} {Q : VK} (h : EN X W ρ e Φ Z) (R : Rel X.K H0 ρ σ Hb H) (z : RZ X W H0 ρ σ Hb H Z) (k : ∀ ds p xs Hb' H', Φ ds → Rel X.K H0 ρ σ Hb' H' → Gr Hb H Hb' H' → Hb' p = none → H' p = some (.lst xs) → AtAll X.K Hb' xs ds → H0.h p = none → (∀ (j : Nat) (q : Option Addr) (es : List D), ρ[j]? = some (Sl.ow q es) → σ[j]? ≠ some (some (V.ref p))) → RZ X W H0 ρ σ Hb' H' Z → Q (.ref p) H') : WE X e σ H Q :=
  (h H0 σ Hb H R z).mono fun v H' ⟨ds, Hb', p, xs, e1, f, R', s, n, q, A, h0, fr⟩ => by
    subst e1
    exact k ds p xs Hb' H' f R' s n q A h0 fr (z.mono s)
theorem TW.run {e : Expr} {Φ : Bool → Prop} {Q : Bool → Hp → Prop} (h : TW X W ρ e Φ Z) (R : Rel X.K H0 ρ σ Hb H) (z : RZ X W H0 ρ σ Hb H Z) (k : ∀ b Hb' H', Φ b → Rel X.K H0 ρ σ Hb' H' → Gr Hb H Hb' H' → RZ X W H0 ρ σ Hb' H' Z → Q b H') : WT X e σ H Q :=
  (h H0 σ Hb H R z).mono fun b H' ⟨Hb', f, R', s⟩ => k b Hb' H' f R' s (z.mono s)
theorem BW.run {e : Expr} {Φ : Bool → Prop} {Q : Bool → Hp → Prop} (h : BW X W ρ e Φ Z) (R : Rel X.K H0 ρ σ Hb H) (z : RZ X W H0 ρ σ Hb H Z) (k : ∀ b Hb' H', Φ b → Rel X.K H0 ρ σ Hb' H' → Gr Hb H Hb' H' → RZ X W H0 ρ σ Hb' H' Z → Q b H') : WW X e σ H Q :=
  (h H0 σ Hb H R z).mono fun b H' ⟨Hb', f, R', s⟩ => k b Hb' H' f R' s (z.mono s)
theorem AW.run {es : List Expr} {Φ : List D → Prop} {Q : List V → Hp → Prop} (h : AW X W ρ es Φ Z) (R : Rel X.K H0 ρ σ Hb H) (z : RZ X W H0 ρ σ Hb H Z) (k : ∀ ds vs Hb' H', Φ ds → Rel X.K H0 ρ σ Hb' H' → Gr Hb H Hb' H' → AtAll X.K Hb' vs ds → RZ X W H0 ρ σ Hb' H' Z → Q vs H') : WA X es σ H Q :=
  (h H0 σ Hb H R z).mono fun v H' ⟨d, Hb', f, R', s, a⟩ => k d v Hb' H' f R' s a (z.mono s)
theorem EW.mono {e : Expr} {Φ Φ' : D → Prop} (h : EW X W ρ e Φ Z) (k : ∀ d, Φ d → Φ' d) : EW X W ρ e Φ' Z := fun H0 σ Hb H R z => h.run R z fun d _ Hb' _ f R' s a _ => ⟨d, Hb', k d f, R', s, a⟩
theorem TW.mono {e : Expr} {Φ Φ' : Bool → Prop} (h : TW X W ρ e Φ Z) (k : ∀ d, Φ d → Φ' d) : TW X W ρ e Φ' Z := fun H0 σ Hb H R z => h.run R z fun d Hb' _ f R' s _ => ⟨Hb', k d f, R', s⟩

/-- ends -/
theorem endE {Φ : D → Prop} {d : D} {v : V} {Hb' H' : Hp} (f : Φ d) (R : Rel X.K H0 ρ σ Hb' H') (s : Gr Hb H Hb' H') (a : At X.K Hb' v d) : PostE X.K H0 ρ σ Hb H Φ v H' := ⟨d, Hb', f, R, s, a⟩
/-- a new object, as a datum -/
theorem endNew {Φ : D → Prop} {d : D} {p : Addr} {o : HO} {Hb' H' : Hp} (f : Φ d) (R : Rel X.K H0 ρ σ Hb' H') (s : Gr Hb H Hb' H') (hp : H' p = none) (a : At X.K (upd Hb' p o) (.ref p) d) : PostE X.K H0 ρ σ Hb H Φ (.ref p) (upd H' p o) :=
  ⟨d, _, f, R.alloc hp, s.trans ⟨same_upd (R.b1.free hp), same_upd hp⟩, a⟩
theorem endTup {Φ : D → Prop} {ds : List D} {xs : List V} {p : Addr} {ob : Obj} {Hb' H' : Hp} (f : Φ (.tup ds)) (R : Rel X.K H0 ρ σ Hb' H') (s : Gr Hb H Hb' H') (hp : H' p = none) (hd : ob.dict = none) (a : AtAll X.K Hb' xs ds) : PostE X.K H0 ρ σ Hb H Φ (.ref p) (upd H' p (.frz ob (.tup xs))) :=
  endNew f R s hp (.tup (tq_new hd) (a.mono (same_upd (R.b1.free hp))))
theorem endLst {Φ : List D → Prop} {ds : List D} {xs : List V} {p : Addr} {Hb' H' : Hp} (f : Φ ds) (R : Rel X.K H0 ρ σ Hb' H') (s : Gr Hb H Hb' H') (hp : H' p = none) (a : AtAll X.K Hb' xs ds) : PostN X.K H0 ρ σ Hb H Φ (.ref p) (upd H' p (.lst xs)) :=
  ⟨ds, Hb', p, xs, rfl, f, R.allocN hp, s.trans ⟨Same.refl _, same_upd hp⟩, R.b1.free hp, upd_same, a, R.b0.free hp, fun j qq es h e => by
    obtain ⟨a', ys, e1, _, q, _⟩ := R.own j qq es h
    rw [e] at e1
    cases e1
    rw [hp] at q
    cases q⟩
/-- a new list is a datum -/
theorem ew_new {e : Expr} {Φ : D → Prop} (h : EN X W ρ e (fun ds => Φ (.lst ds)) Z) : EW X W ρ e Φ Z := fun H0 σ Hb H R z => h.run R z fun ds p xs Hb' H' f R' s n q A h0 fr _ => by
  have sb : Same Hb' (upd Hb' p (.lst xs)) := same_upd n
  refine ⟨.lst ds, upd Hb' p (.lst xs), f, ⟨R'.b0, R'.bb.trans sb, fun a n0 n1 => ?_, fun b x e => ?_, fun i d h => ?_, fun i qq es h => ?_, R'.sep, R'.len, fun i P qn h => let ⟨t, t1, t2⟩ := R'.tb i P qn h; ⟨t, (upd_ne (fun z => by obtain ⟨_, w, _⟩ := t; rw [z, q] at w; cases w)).trans t1, t2⟩⟩, s.trans ⟨sb, Same.refl _⟩, .lst (Rd.of upd_same) (A.mono sb)⟩
  · rw [upd_ne (fun z => n1 (by rw [z]; exact h0))]
    exact R'.bn a n0 n1
  · by_cases hb : b = p
    · subst hb
      rw [upd_same] at e
      cases e
      exact q
    · rw [upd_ne hb] at e
      exact R'.b1 _ _ e
  · obtain ⟨v, e, a⟩ := R'.dat i d h
    exact ⟨v, e, a.mono sb⟩
  · obtain ⟨a, ys, e, n2, q2, A2⟩ := R'.own i qq es h
    have ne : a ≠ p := fun w => fr i qq es h (by rw [e, w])
    exact ⟨a, ys, e, by rw [upd_ne ne]; exact n2, q2, A2.1.mono sb, A2.2⟩
/-- a new list, an own list, a datum, read as a sequence -/
theorem es_new {e : Expr} {Φ : Bool → List D → Prop} (h : EN X W ρ e (Φ false) Z) : ES X W ρ e Φ Z := fun H0 σ Hb H R z => h.run R z fun ds p xs Hb' _ f R' s _ q A _ _ _ => ⟨false, ds, Hb', p, xs, rfl, f, R', s, Rd.of q, A, fun z => nomatch z⟩
def seqD (Φ : Bool → List D → Prop) : D → Prop
  | .lst ds => Φ false ds
  | .tup ds => Φ true ds
  | _ => False
theorem es_ew {e : Expr} {Φ : Bool → List D → Prop} (h : EW X W ρ e (seqD Φ) Z) : ES X W ρ e Φ Z := fun H0 σ Hb H R z => h.run R z fun d v Hb' _ f R' s a _ => by
  cases a with
  | lst q A => exact ⟨false, _, Hb', _, _, rfl, f, R', s, same_rd R'.b1 q, A, fun z => nomatch z⟩
  | tup q A => exact ⟨true, _, Hb', _, _, rfl, f, R', s, same_seqT R'.b1 q.1, A, fun _ => q⟩
  | _ => exact f.elim
end

/-! ### the context of a def's body, of a comprehension's block -/
structure Ctx (X : Cx) (W : WX) (N : List Str) (sc : Scope) (k : Nat) : Prop where
  hN : X.N = N
  nd : N.Nodup
  hs : X.env.scope = sc
  room : Room k X.A
  calm : X.calm = true
  tk : Takes X W
  own : PassesOwn (model X.prog X.w) X.A X.env X.xe
structure CtxD (X : Cx) (W : WX) (N : List Str) (sc : Scope) (k : Nat) : Prop extends Ctx X W N sc k where
  fnD : ∀ x, X.fn x = true
  stk : X.stack = X.env :: X.outer
  frm : X.env.frame = some X.env.locals
  exn : X.ex = []
section
variable {X : Cx} {W : WX} {ρ : List Sl} {Z : DZ} {N : List Str} {sc : Scope} {k : Nat}
theorem Ctx.gl (C : Ctx X W N sc k) {x : Str} (h : sc.names.lookup x = some .globalImplicit) : Gl X x := by
  show X.env.scope.names.lookup x = _
  rw [C.hs]
  exact h
theorem Ctx.vis (C : Ctx X W N sc k) {x : Str} (h : Vis sc x) : Vis X.env.scope x := by
  rw [C.hs]
  exact h
theorem Ctx.loc (C : Ctx X W N sc k) {x : Str} (h : Loc sc x) : Loc X.env.scope x := by
  rw [C.hs]
  exact h
theorem Ctx.at (C : Ctx X W N sc k) {i : Nat} {x : Str} (h : N[i]? = some x) : X.N[i]? = some x := by
  rw [C.hN]
  exact h
theorem Ctx.ndX (C : Ctx X W N sc k) : X.N.Nodup := by
  rw [C.hN]
  exact C.nd
/-! ### names, constants -/
theorem ew_name (C : Ctx X W N sc k) {i : Nat} {x : Str} {pos : Pos} {d : D} {Φ : D → Prop} (hN : N[i]? = some x) (hv : Vis sc x) (hρ : ρ[i]? = some (Sl.dat d)) (h : Φ d)
    (hd : (x == ("__debug__" : Str)) = false := by decide) (hcd : (x == ("__classdict__" : Str)) = false := by decide) : EW X W ρ (.Name x pos) Φ Z := fun H0 σ Hb H R z => by
  obtain ⟨v, e, a⟩ := R.dat i d hρ
  exact WE.of (pe_var (C.at hN) (C.vis hv) hd hcd) ⟨v, e, endE h R (Gr.refl) a⟩
theorem es_own (C : Ctx X W N sc k) {i : Nat} {x : Str} {pos : Pos} {qq : Option Addr} {ds : List D} {Φ : Bool → List D → Prop} (hN : N[i]? = some x) (hv : Vis sc x) (hρ : ρ[i]? = some (Sl.ow qq ds)) (h : Φ false ds)
    (hd : (x == ("__debug__" : Str)) = false := by decide) (hcd : (x == ("__classdict__" : Str)) = false := by decide) : ES X W ρ (.Name x pos) Φ Z := fun H0 σ Hb H R z => by
  obtain ⟨a, xs, e, n, q, A, _⟩ := R.own i qq ds hρ
  exact WE.of (pe_var (C.at hN) (C.vis hv) hd hcd) ⟨.ref a, e, false, ds, Hb, a, xs, rfl, h, R, Gr.refl, Rd.of q, A, fun z => nomatch z⟩
theorem ew_c {e : Expr} {v : V} {d : D} {Φ : D → Prop} (p : PE X e (tC v)) (a : ∀ H, At X.K H v d) (h : Φ d) : EW X W ρ e Φ Z := fun H0 σ Hb H R z => WE.of p (endE h R (Gr.refl) (a _))
theorem ew_int {i j pos} {Φ : D → Prop} (h : Φ (.int i)) : EW X W ρ (.Constant (.int i) j pos) Φ Z := ew_c pe_int (fun _ => .int i) h
theorem ew_bl {b j pos} {Φ : D → Prop} (h : Φ (.bl b)) : EW X W ρ (.Constant (.bool b) j pos) Φ Z := ew_c pe_bl (fun _ => .bl b) h
theorem ew_non {j pos} {Φ : D → Prop} (h : Φ .non) : EW X W ρ (.Constant .none j pos) Φ Z := ew_c pe_non (fun _ => .non) h
theorem ew_str {x j pos} {Φ : D → Prop} (h : Φ (.str x)) : EW X W ρ (.Constant (.str x) j pos) Φ Z := ew_c pe_str (fun _ => .str x) h
theorem ew_globI (C : Ctx X W N sc k) {x : Str} {pos : Pos} {i : Int} {t : Tok} {Φ : D → Prop} (hg : sc.names.lookup x = some .globalImplicit) (hm : X.mg x = some (.int i t)) (h : Φ (.int i)) (hd : (x == ("__debug__" : Str)) = false := by decide) : EW X W ρ (.Name x pos) Φ Z :=
  ew_c (pe_glob (v := .int i) (C.gl hg) hm ⟨t, rfl⟩ hd) (fun _ => .int i) h
theorem ew_globS (C : Ctx X W N sc k) {x : Str} {pos : Pos} {i : Str} {t : Tok} {Φ : D → Prop} (hg : sc.names.lookup x = some .globalImplicit) (hm : X.mg x = some (.str i t)) (h : Φ (.str i)) (hd : (x == ("__debug__" : Str)) = false := by decide) : EW X W ρ (.Name x pos) Φ Z :=
  ew_c (pe_glob (v := .str i) (C.gl hg) hm ⟨t, rfl⟩ hd) (fun _ => .str i) h
/-- a def, a class of the text, as a value -/
theorem ew_globF (C : Ctx X W N sc k) {x : Str} {pos : Pos} {f : Addr} {Φ : D → Prop} (hg : sc.names.lookup x = some .globalImplicit) (hm : X.mg x = some (.ref f)) (h : Φ (.raw (.ref f))) (hd : (x == ("__debug__" : Str)) = false := by decide) : EW X W ρ (.Name x pos) Φ Z :=
  ew_c (pe_glob (v := .ref f) (C.gl hg) hm rfl hd) (fun _ => .raw _) h
/-- a built-in class as a value -/
theorem ew_ty (C : Ctx X W N sc k) {x : Str} {pos : Pos} {n : String} {Φ : D → Prop} (hg : sc.names.lookup x = some .globalImplicit) (hm : X.mg x = none) (hv : bootBuiltins x = some (.type n)) (h : Φ (.raw (.ty n))) (hn : x ≠ "__name__" := by decide) (hd : (x == ("__debug__" : Str)) = false := by decide) : EW X W ρ (.Name x pos) Φ Z :=
  ew_c (pe_bltn (C.gl hg) hm hv (show RelV (.ty n) (.type n) from rfl) hn hd) (fun _ => .raw _) h

/-! ### operators -/
def RR (X : Cx) (r : R2) (x y : D) (Φ : D → Prop) : Prop := ∀ (H0 : Ent) (ρ : List Sl) (σ : L2.St) (Hb H : Hp) (v u : V), Rel X.K H0 ρ σ Hb H → At X.K Hb v x → At X.K Hb u y → r v u H (PostE X.K H0 ρ σ Hb H Φ)
variable {a b : Expr} {pos : Pos} {Φ : D → Prop}
theorem PostE.back {H0 : Ent} {σ : L2.St} {Hb Hb' H H' H2 : Hp} {v : V} (h : PostE X.K H0 ρ σ Hb' H' Φ v H2) (s : Gr Hb H Hb' H') : PostE X.K H0 ρ σ Hb H Φ v H2 := let ⟨d, Hc, f, R, t, a⟩ := h; ⟨d, Hc, f, R, s.trans t, a⟩
/-- what a two-place reading asks is had from any stronger wish -/
def R2mono (r : R2) : Prop := ∀ (v u : V) (H : Hp) (Q Q' : VK), (∀ x H', Q x H' → Q' x H') → r v u H Q → r v u H Q'
theorem ew_two {e : Expr} {r : R2} (p : PE X e (tOp r (WE X a) (WE X b))) (hm : R2mono r) (h : EW X W ρ a (fun x => EW X W ρ b (fun y => RR X r x y Φ) Z) Z) : EW X W ρ e Φ Z := fun H0 σ Hb H R z =>
  WE.of p (h.run R z fun x v Hb1 H1 f1 R1 s1 a1 z1 => f1.run R1 z1 fun y u Hb2 H2 f2 R2 s2 a2 _ =>
    hm _ _ _ _ _ (fun _ _ q => PostE.back q (s1.trans s2)) (f2 H0 ρ σ Hb2 H2 v u R2 (a1.mono s2.b) a2))
theorem ew_op {op : Operator} {r : R2} (ho : OpR X (binaryOp op) r) (hm : R2mono r) (h : EW X W ρ a (fun x => EW X W ρ b (fun y => RR X r x y Φ) Z) Z) : EW X W ρ (.BinOp a op b pos) Φ Z := ew_two (pe_op ho pe_w pe_w) hm h
theorem ew_cmp {op : CmpOp} {r : R2} (ho : OpR X (compareOp op) r) (hm : R2mono r) (hk : behindInMarks op b = false) (h : EW X W ρ a (fun x => EW X W ρ b (fun y => RR X r x y Φ) Z) Z) : EW X W ρ (.Compare a [op] [b] pos) Φ Z := ew_two (pe_cmpR ho pe_w pe_w hk) hm h
theorem tw_cmp {op : CmpOp} {r : R2} {Φ : Bool → Prop} (ho : OpR X (compareOp op) r) (hm : R2mono r) (hk : behindInMarks op b = false) (h : EW X W ρ a (fun x => EW X W ρ b (fun y => RR X r x y (fun d => ∃ t, d = .bl t ∧ Φ t)) Z) Z) : TW X W ρ (.Compare a [op] [b] pos) Φ Z := fun H0 σ Hb H R z =>
  WT.of (pt_cmpR ho pe_w pe_w hk) (h.run R z fun x v Hb1 H1 f1 R1 s1 a1 z1 => f1.run R1 z1 fun y u Hb2 H2 f2 R2 s2 a2 _ =>
    hm _ _ _ _ _ (fun w H' q => by
      obtain ⟨d, Hc, ⟨t, e, f⟩, R3, s3, a3⟩ := q
      subst e
      cases a3
      exact ⟨t, rfl, Hc, f, R3, (s1.trans s2).trans s3⟩) (f2 H0 ρ σ Hb2 H2 v u R2 (a1.mono s2.b) a2))
theorem rI0_mono {g : Int → Int → V} : R2mono (rI0 g) := fun _ _ _ _ _ k ⟨i, j, e1, e2, q⟩ => ⟨i, j, e1, e2, k _ _ q⟩
theorem rI_mono {c : Int → Int → Prop} {g : Int → Int → V} : R2mono (rI c g) := fun _ _ _ _ _ k ⟨i, j, e1, e2, z, q⟩ => ⟨i, j, e1, e2, z, k _ _ q⟩
theorem rr_I0 {g : Int → Int → V} {G : Int → Int → D} (hg : ∀ H i j, At X.K H (g i j) (G i j)) {x y : D} (h : ∃ i j, x = .int i ∧ y = .int j ∧ Φ (G i j)) : RR X (rI0 g) x y Φ := fun H0 ρ σ Hb H v u R a b => by
  obtain ⟨i, j, rfl, rfl, f⟩ := h
  cases a
  cases b
  exact ⟨i, j, rfl, rfl, endE f R (Gr.refl) (hg _ _ _)⟩
theorem rr_I {c : Int → Int → Prop} {g : Int → Int → V} {G : Int → Int → D} (hg : ∀ H i j, At X.K H (g i j) (G i j)) {x y : D} (h : ∃ i j, x = .int i ∧ y = .int j ∧ c i j ∧ Φ (G i j)) : RR X (rI c g) x y Φ := fun H0 ρ σ Hb H v u R a b => by
  obtain ⟨i, j, rfl, rfl, z, f⟩ := h
  cases a
  cases b
  exact ⟨i, j, rfl, rfl, z, endE f R (Gr.refl) (hg _ _ _)⟩
theorem ew_add (h : EW X W ρ a (fun x => EW X W ρ b (fun y => ∃ i j, x = .int i ∧ y = .int j ∧ Φ (.int (i + j))) Z) Z) : EW X W ρ (.BinOp a .Add b pos) Φ Z :=
  ew_op op_add rI0_mono (h.mono fun _ h => h.mono fun _ h => rr_I0 (G := fun i j => .int (i + j)) (fun _ _ _ => .int _) h)
theorem ew_sub (h : EW X W ρ a (fun x => EW X W ρ b (fun y => ∃ i j, x = .int i ∧ y = .int j ∧ Φ (.int (i - j))) Z) Z) : EW X W ρ (.BinOp a .Sub b pos) Φ Z :=
  ew_op op_sub rI0_mono (h.mono fun _ h => h.mono fun _ h => rr_I0 (G := fun i j => .int (i - j)) (fun _ _ _ => .int _) h)
theorem ew_mul (h : EW X W ρ a (fun x => EW X W ρ b (fun y => ∃ i j, x = .int i ∧ y = .int j ∧ CMul i j ∧ Φ (.int (i * j))) Z) Z) : EW X W ρ (.BinOp a .Mult b pos) Φ Z :=
  ew_op op_mul rI_mono (h.mono fun _ h => h.mono fun _ h => rr_I (G := fun i j => .int (i * j)) (fun _ _ _ => .int _) h)
theorem ew_mod (h : EW X W ρ a (fun x => EW X W ρ b (fun y => ∃ i j, x = .int i ∧ y = .int j ∧ 0 < j ∧ Φ (.int (i % j))) Z) Z) : EW X W ρ (.BinOp a .Mod b pos) Φ Z :=
  ew_op op_mod rI_mono (h.mono fun _ h => h.mono fun _ h => rr_I (c := fun _ j => 0 < j) (G := fun i j => .int (i % j)) (fun _ _ _ => .int _) h)
theorem ew_fdiv (h : EW X W ρ a (fun x => EW X W ρ b (fun y => ∃ i j, x = .int i ∧ y = .int j ∧ CDiv i j ∧ Φ (.int (i / j))) Z) Z) : EW X W ρ (.BinOp a .FloorDiv b pos) Φ Z :=
  ew_op op_fdiv rI_mono (h.mono fun _ h => h.mono fun _ h => rr_I (G := fun i j => .int (i / j)) (fun _ _ _ => .int _) h)
theorem ew_pow (h : EW X W ρ a (fun x => EW X W ρ b (fun y => ∃ i j, x = .int i ∧ y = .int j ∧ CPow i j ∧ Φ (.int (i ^ j.toNat))) Z) Z) : EW X W ρ (.BinOp a .Pow b pos) Φ Z :=
  ew_op op_pow rI_mono (h.mono fun _ h => h.mono fun _ h => rr_I (G := fun i j => .int (i ^ j.toNat)) (fun _ _ _ => .int _) h)
theorem ew_lt (h : EW X W ρ a (fun x => EW X W ρ b (fun y => ∃ i j, x = .int i ∧ y = .int j ∧ Φ (.bl (decide (i < j)))) Z) Z) : EW X W ρ (.Compare a [.Lt] [b] pos) Φ Z :=
  ew_cmp op_lt rI0_mono (nomark _) (h.mono fun _ h => h.mono fun _ h => rr_I0 (G := fun i j => .bl (decide (i < j))) (fun _ _ _ => .bl _) h)
theorem ew_le (h : EW X W ρ a (fun x => EW X W ρ b (fun y => ∃ i j, x = .int i ∧ y = .int j ∧ Φ (.bl (decide (i ≤ j)))) Z) Z) : EW X W ρ (.Compare a [.LtE] [b] pos) Φ Z :=
  ew_cmp op_le rI0_mono (nomark _) (h.mono fun _ h => h.mono fun _ h => rr_I0 (G := fun i j => .bl (decide (i ≤ j))) (fun _ _ _ => .bl _) h)
theorem ew_gt (h : EW X W ρ a (fun x => EW X W ρ b (fun y => ∃ i j, x = .int i ∧ y = .int j ∧ Φ (.bl (decide (j < i)))) Z) Z) : EW X W ρ (.Compare a [.Gt] [b] pos) Φ Z :=
  ew_cmp op_gt rI0_mono (nomark _) (h.mono fun _ h => h.mono fun _ h => rr_I0 (G := fun i j => .bl (decide (j < i))) (fun _ _ _ => .bl _) h)
theorem ew_ge (h : EW X W ρ a (fun x => EW X W ρ b (fun y => ∃ i j, x = .int i ∧ y = .int j ∧ Φ (.bl (decide (j ≤ i)))) Z) Z) : EW X W ρ (.Compare a [.GtE] [b] pos) Φ Z :=
  ew_cmp op_ge rI0_mono (nomark _) (h.mono fun _ h => h.mono fun _ h => rr_I0 (G := fun i j => .bl (decide (j ≤ i))) (fun _ _ _ => .bl _) h)
section
variable {Φ : Bool → Prop}
theorem ttw {x y : D} {g : Int → Int → V} {G : Int → Int → Bool} (hg : ∀ i j, g i j = .bl (G i j)) (h : ∃ i j, x = .int i ∧ y = .int j ∧ Φ (G i j)) : RR X (rI0 g) x y (fun d => ∃ t, d = .bl t ∧ Φ t) :=
  rr_I0 (G := fun i j => .bl (G i j)) (fun _ i j => by rw [hg]; exact .bl _) (let ⟨i, j, e1, e2, f⟩ := h; ⟨i, j, e1, e2, _, rfl, f⟩)
theorem tw_lt (h : EW X W ρ a (fun x => EW X W ρ b (fun y => ∃ i j, x = .int i ∧ y = .int j ∧ Φ (decide (i < j))) Z) Z) : TW X W ρ (.Compare a [.Lt] [b] pos) Φ Z := tw_cmp op_lt rI0_mono (nomark _) (h.mono fun _ h => h.mono fun _ h => ttw (G := fun i j => decide (i < j)) (fun _ _ => rfl) h)
theorem tw_le (h : EW X W ρ a (fun x => EW X W ρ b (fun y => ∃ i j, x = .int i ∧ y = .int j ∧ Φ (decide (i ≤ j))) Z) Z) : TW X W ρ (.Compare a [.LtE] [b] pos) Φ Z := tw_cmp op_le rI0_mono (nomark _) (h.mono fun _ h => h.mono fun _ h => ttw (G := fun i j => decide (i ≤ j)) (fun _ _ => rfl) h)
theorem tw_gt (h : EW X W ρ a (fun x => EW X W ρ b (fun y => ∃ i j, x = .int i ∧ y = .int j ∧ Φ (decide (j < i))) Z) Z) : TW X W ρ (.Compare a [.Gt] [b] pos) Φ Z := tw_cmp op_gt rI0_mono (nomark _) (h.mono fun _ h => h.mono fun _ h => ttw (G := fun i j => decide (j < i)) (fun _ _ => rfl) h)
theorem tw_ge (h : EW X W ρ a (fun x => EW X W ρ b (fun y => ∃ i j, x = .int i ∧ y = .int j ∧ Φ (decide (j ≤ i))) Z) Z) : TW X W ρ (.Compare a [.GtE] [b] pos) Φ Z := tw_cmp op_ge rI0_mono (nomark _) (h.mono fun _ h => h.mono fun _ h => ttw (G := fun i j => decide (j ≤ i)) (fun _ _ => rfl) h)
end
/-- a <= b <= c of ints -/
theorem ew_chainI {c : Expr} {op op' : CmpOp} {G G' : Int → Int → Bool} (ho : OpR X (compareOp op) (rI0 fun i j => .bl (G i j))) (ho' : OpR X (compareOp op') (rI0 fun i j => .bl (G' i j))) (hk : lastMarks [op, op'] [b, c] = false)
    (h : EW X W ρ a (fun x => EW X W ρ b (fun y => ∃ i j, x = .int i ∧ y = .int j ∧ (G i j = true → EW X W ρ c (fun w => ∃ l, w = .int l ∧ Φ (.bl (G' j l))) Z) ∧ (G i j = false → Φ (.bl false))) Z) Z) : EW X W ρ (.Compare a [op, op'] [b, c] pos) Φ Z := fun H0 σ Hb H R z =>
  WE.of (pe_chain ho ho' pe_w pe_w pe_w hk) (h.run R z fun x v Hb1 H1 f1 R1 s1 a1 z1 => f1.run R1 z1 fun y u Hb2 H2 f2 R2 s2 a2 z2 => by
    obtain ⟨i, j, rfl, rfl, yes, no⟩ := f2
    cases a1
    cases a2
    refine ⟨i, j, rfl, rfl, G i j, rfl, ?_⟩
    cases e : G i j with
    | true =>
      rw [if_pos rfl]
      exact (yes e).run R2 z2 fun w q Hb3 H3 f3 R3 s3 a3 _ => by
        obtain ⟨l, rfl, f3⟩ := f3
        cases a3
        exact ⟨j, l, rfl, rfl, endE f3 R3 ((s1.trans s2).trans s3) (.bl _)⟩
    | false =>
      rw [if_neg Bool.false_ne_true]
      exact endE (no e) R2 (s1.trans s2) (.bl _))

/-! ### and, or, not, if else -/
theorem ew_and {b : Expr} {rest : List Expr} (h : EW X W ρ a (fun x => ∃ t, x = .bl t ∧ (t = true → EW X W ρ (.BoolOp .And (b :: rest) pos) Φ Z) ∧ (t = false → Φ (.bl false))) Z) : EW X W ρ (.BoolOp .And (a :: b :: rest) pos) Φ Z := fun H0 σ Hb H R z =>
  WE.of (pe_and pe_w pe_w) (h.run R z fun x v Hb1 H1 f1 R1 s1 a1 z1 => by
    obtain ⟨t, rfl, yes, no⟩ := f1
    cases a1
    refine ⟨t, rfl, ?_⟩
    cases t with
    | true =>
      rw [if_pos rfl]
      exact (yes rfl).run R1 z1 fun w q Hb3 H3 f3 R3 s3 a3 _ => endE f3 R3 (s1.trans s3) a3
    | false =>
      rw [if_neg Bool.false_ne_true]
      exact endE (no rfl) R1 s1 (.bl _))
theorem ew_or {b : Expr} {rest : List Expr} (h : EW X W ρ a (fun x => ∃ t, x = .bl t ∧ (t = false → EW X W ρ (.BoolOp .Or (b :: rest) pos) Φ Z) ∧ (t = true → Φ (.bl true))) Z) : EW X W ρ (.BoolOp .Or (a :: b :: rest) pos) Φ Z := fun H0 σ Hb H R z =>
  WE.of (pe_or pe_w pe_w) (h.run R z fun x v Hb1 H1 f1 R1 s1 a1 z1 => by
    obtain ⟨t, rfl, yes, no⟩ := f1
    cases a1
    refine ⟨t, rfl, ?_⟩
    cases t with
    | false =>
      rw [if_neg Bool.false_ne_true]
      exact (yes rfl).run R1 z1 fun w q Hb3 H3 f3 R3 s3 a3 _ => endE f3 R3 (s1.trans s3) a3
    | true =>
      rw [if_pos rfl]
      exact endE (no rfl) R1 s1 (.bl _))
theorem ew_one {op} (h : EW X W ρ a Φ Z) : EW X W ρ (.BoolOp op [a] pos) Φ Z := fun H0 σ Hb H R z => WE.of (pe_one pe_w) (h H0 σ Hb H R z)
theorem ew_not (h : EW X W ρ a (fun x => ∃ t, x = .bl t ∧ Φ (.bl (!t))) Z) : EW X W ρ (.UnaryOp .Not a pos) Φ Z := fun H0 σ Hb H R z =>
  WE.of (pe_not pe_w) (h.run R z fun x v Hb1 H1 f1 R1 s1 a1 z1 => by
    obtain ⟨t, rfl, f⟩ := f1
    cases a1
    exact ⟨t, rfl, endE f R1 s1 (.bl _)⟩)
theorem ew_if {c : Expr} (h : TW X W ρ c (fun t => (t = true → EW X W ρ a Φ Z) ∧ (t = false → EW X W ρ b Φ Z)) Z) : EW X W ρ (.IfExp c a b pos) Φ Z := fun H0 σ Hb H R z =>
  WE.of (pe_ifExp pt_w pe_w pe_w) (h.run R z fun t Hb1 H1 f1 R1 s1 z1 => by
    cases t with
    | true =>
      rw [if_pos rfl]
      exact (f1.1 rfl).run R1 z1 fun w q Hb3 H3 f3 R3 s3 a3 _ => endE f3 R3 (s1.trans s3) a3
    | false =>
      rw [if_neg Bool.false_ne_true]
      exact (f1.2 rfl).run R1 z1 fun w q Hb3 H3 f3 R3 s3 a3 _ => endE f3 R3 (s1.trans s3) a3)
section
variable {Φ : Bool → Prop}
theorem tw_val {e : Expr} (h : EW X W ρ e (fun d => ∃ t, d = .bl t ∧ Φ t) Z) (he : ∀ whole, isTrue e X.env whole = (do let v ← whole; standAt e.pos; holding [v] (truthy v)) := by intro _; rfl) : TW X W ρ e Φ Z := fun H0 σ Hb H R z =>
  WT.of (pt_val pe_w he) (h.run R z fun x v Hb1 H1 f1 R1 s1 a1 z1 => by
    obtain ⟨t, rfl, f⟩ := f1
    cases a1
    exact ⟨t, rfl, Hb1, f, R1, s1⟩)
theorem tw_bool {e : Expr} (h : BW X W ρ e Φ Z) : TW X W ρ e Φ Z := fun H0 σ Hb H R z => WT.of pw_w.pt (h H0 σ Hb H R z)
theorem bw_and1 (h : TW X W ρ a Φ Z) : BW X W ρ (.BoolOp .And [a] pos) Φ Z := fun H0 σ Hb H R z => WW.of (pw_and1 pt_w) (h H0 σ Hb H R z)
theorem bw_or1 (h : TW X W ρ a Φ Z) : BW X W ρ (.BoolOp .Or [a] pos) Φ Z := fun H0 σ Hb H R z => WW.of (pw_or1 pt_w) (h H0 σ Hb H R z)
theorem bw_and {b : Expr} {rest : List Expr} (h : TW X W ρ a (fun t => (t = true → BW X W ρ (.BoolOp .And (b :: rest) pos) Φ Z) ∧ (t = false → Φ false)) Z) : BW X W ρ (.BoolOp .And (a :: b :: rest) pos) Φ Z := fun H0 σ Hb H R z =>
  WW.of (pw_and pt_w pw_w) (h.run R z fun t Hb1 H1 f1 R1 s1 z1 => by
    cases t with
    | true =>
      rw [if_pos rfl]
      exact (f1.1 rfl).run R1 z1 fun w Hb3 H3 f3 R3 s3 _ => ⟨Hb3, f3, R3, s1.trans s3⟩
    | false =>
      rw [if_neg Bool.false_ne_true]
      exact ⟨Hb1, f1.2 rfl, R1, s1⟩)
theorem bw_or {b : Expr} {rest : List Expr} (h : TW X W ρ a (fun t => (t = false → BW X W ρ (.BoolOp .Or (b :: rest) pos) Φ Z) ∧ (t = true → Φ true)) Z) : BW X W ρ (.BoolOp .Or (a :: b :: rest) pos) Φ Z := fun H0 σ Hb H R z =>
  WW.of (pw_or pt_w pw_w) (h.run R z fun t Hb1 H1 f1 R1 s1 z1 => by
    cases t with
    | false =>
      rw [if_neg Bool.false_ne_true]
      exact (f1.1 rfl).run R1 z1 fun w Hb3 H3 f3 R3 s3 _ => ⟨Hb3, f3, R3, s1.trans s3⟩
    | true =>
      rw [if_pos rfl]
      exact ⟨Hb1, f1.2 rfl, R1, s1⟩)
theorem tw_not (h : TW X W ρ a (fun t => Φ (!t)) Z) : TW X W ρ (.UnaryOp .Not a pos) Φ Z := fun H0 σ Hb H R z =>
  WT.of (pt_not pt_w) (h.run R z fun t Hb1 H1 f1 R1 s1 z1 => ⟨Hb1, f1, R1, s1⟩)
end
/-! ### is None -/
def isNon : D → Bool
  | .non => true
  | .raw .non => true
  | _ => false
theorem At.isNon {K : PySem.W.Frag} {H : Hp} {v : V} {d : D} (a : At K H v d) : decide (v = .non) = isNon d := by
  cases a with
  | non => rfl
  | raw _ =>
    cases v with
    | non => rfl
    | _ => exact decide_eq_false (fun z => nomatch z)
  | _ => exact decide_eq_false (fun z => nomatch z)
theorem ew_isN {j pos'} (h : EW X W ρ a (fun x => Φ (.bl (isNon x))) Z) : EW X W ρ (.Compare a [.Is] [.Constant .none j pos'] pos) Φ Z := fun H0 σ Hb H R z =>
  WE.of (pe_cmp (pc_isN pe_w)) (h.run R z fun x v Hb1 H1 f1 R1 s1 a1 z1 => endE f1 R1 s1 (by rw [a1.isNon]; exact .bl _))
theorem tw_isN {Φ : Bool → Prop} {j pos'} (h : EW X W ρ a (fun x => Φ (isNon x)) Z) : TW X W ρ (.Compare a [.Is] [.Constant .none j pos'] pos) Φ Z := fun H0 σ Hb H R z =>
  WT.of (pt_cmp (pc_isN pe_w)) (h.run R z fun x v Hb1 H1 f1 R1 s1 a1 z1 => ⟨isNon x, by rw [a1.isNon], Hb1, f1, R1, s1⟩)
theorem tw_notN {Φ : Bool → Prop} {j pos'} (h : EW X W ρ a (fun x => Φ (!isNon x)) Z) : TW X W ρ (.Compare a [.IsNot] [.Constant .none j pos'] pos) Φ Z := fun H0 σ Hb H R z =>
  WT.of (pt_cmp (pc_notN pe_w)) (h.run R z fun x v Hb1 H1 f1 R1 s1 a1 z1 => ⟨!isNon x, by rw [a1.isNon], Hb1, f1, R1, s1⟩)

/-! ### arguments, displays -/
theorem aw_nil {Φ : List D → Prop} (h : Φ []) : AW X W ρ [] Φ Z := fun H0 σ Hb H R z => WA.of pa_nil ⟨[], Hb, h, R, Gr.refl, .nil⟩
theorem aw_cons {e : Expr} {es : List Expr} {Φ : List D → Prop} (h : EW X W ρ e (fun d => AW X W ρ es (fun ds => Φ (d :: ds)) Z) Z) (hs : starEach (e :: es) X.env = (false, eval e X.env) :: starEach es X.env := by exact star_nst rfl) : AW X W ρ (e :: es) Φ Z := fun H0 σ Hb H R z =>
  WA.of (pa_cons pe_w pa_w hs) (h.run R z fun x v Hb1 H1 f1 R1 s1 a1 z1 => f1.run R1 z1 fun ds vs Hb2 H2 f2 R2 s2 a2 _ => ⟨x :: ds, Hb2, f2, R2, s1.trans s2, .cons (a1.mono s2.b) a2⟩)
theorem ew_tup {es : List Expr} {x1} (h : AW X W ρ es (fun ds => ds.length ≤ sizeLine ∧ Φ (.tup ds)) Z) : EW X W ρ (.Tuple es x1 pos) Φ Z := fun H0 σ Hb H R z =>
  WE.of (pe_tupZ pa_w) (h.run R z fun ds vs Hb1 H1 f1 R1 s1 a1 z1 => ⟨by rw [a1.length]; exact f1.1, fun p ob hp hd => endTup f1.2 R1 s1 hp hd a1⟩)
theorem en_lst {es : List Expr} {Φ : List D → Prop} (h : AW X W ρ es (fun ds => ds.length ≤ sizeLine ∧ Φ ds) Z) : EN X W ρ (.List es pos) Φ Z := fun H0 σ Hb H R z =>
  WE.of (pe_lst pa_w) (h.run R z fun ds vs Hb1 H1 f1 R1 s1 a1 z1 => ⟨by rw [a1.length]; exact f1.1, fun p hp => endLst f1.2 R1 s1 hp a1⟩)
end
end DL
namespace DL
open PySem PySem.Spec PyProof.Rows L2
/-! ### data as the library's own -/
mutual
def D.py : D → PyData
  | .non => .none
  | .bl b => .bool b
  | .int i => .int i
  | .str s => .str s
  | .lst xs => .list (pyAll xs)
  | .tup xs => .tuple (pyAll xs)
  | .raw _ => .none
  | .clo _ _ => .none
  | .dct _ => .none
  | .ins _ _ => .none
  | .exc _ => .none
  | .pr _ _ => .none
  | .dcz _ => .none
def pyAll : List D → List PyData
  | [] => []
  | x :: xs => x.py :: pyAll xs
end
mutual
def D.pure : D → Bool
  | .raw _ => false
  | .clo _ _ => false
  | .dct _ => false
  | .ins _ _ => false
  | .exc _ => false
  | .pr _ _ => false
  | .dcz _ => false
  | .lst xs => pureAll xs
  | .tup xs => pureAll xs
  | .non => true
  | .bl _ => true
  | .int _ => true
  | .str _ => true
def pureAll : List D → Bool
  | [] => true
  | x :: xs => x.pure && pureAll xs
end
mutual
def D.dep : D → Nat
  | .lst xs => depAll xs + 1
  | .tup xs => depAll xs + 1
  | .raw _ => 0
  | .clo _ _ => 0
  | .dct _ => 0
  | .ins _ _ => 0
  | .exc _ => 0
  | .pr _ _ => 0
  | .dcz _ => 0
  | .non => 0
  | .bl _ => 0
  | .int _ => 0
  | .str _ => 0
def depAll : List D → Nat
  | [] => 0
  | x :: xs => max x.dep (depAll xs)
end
mutual
theorem plain_py : ∀ d : D, d.py.plain = true
  | .non => rfl
  | .bl _ => rfl
  | .int _ => rfl
  | .str _ => rfl
  | .lst xs => by simp only [D.py, PyData.plain]; exact plain_pyAll xs
  | .tup xs => by simp only [D.py, PyData.plain]; exact plain_pyAll xs
  | .raw _ => rfl
  | .clo _ _ => rfl
  | .dct _ => rfl
  | .ins _ _ => rfl
  | .exc _ => rfl
  | .pr _ _ => rfl
  | .dcz _ => rfl
theorem plain_pyAll : ∀ ds : List D, PyData.plainAll (pyAll ds) = true
  | [] => rfl
  | d :: ds => by simp only [pyAll, PyData.plainAll, plain_py d, plain_pyAll ds, Bool.and_self]
end
mutual
theorem depth_py : ∀ d : D, d.py.depth = d.dep
  | .non => rfl
  | .bl _ => rfl
  | .int _ => rfl
  | .str _ => rfl
  | .lst xs => by simp only [D.py, PyData.depth, D.dep, depth_pyAll xs]
  | .tup xs => by simp only [D.py, PyData.depth, D.dep, depth_pyAll xs]
  | .raw _ => rfl
  | .clo _ _ => rfl
  | .dct _ => rfl
  | .ins _ _ => rfl
  | .exc _ => rfl
  | .pr _ _ => rfl
  | .dcz _ => rfl
theorem depth_pyAll : ∀ ds : List D, PyData.depthAll (pyAll ds) = depAll ds
  | [] => rfl
  | d :: ds => by simp only [pyAll, PyData.depthAll, depAll, depth_py d, depth_pyAll ds]
end
section
variable {K : PySem.W.Frag} {H : Hp}
mutual
theorem At.dp : ∀ {v : V} {d : D}, At K H v d → d.pure = true → Dp K H v d.py
  | _, _, .non, _ => .non
  | _, _, .bl b, _ => .bl b
  | _, _, .int b, _ => .int b
  | _, _, .str b, _ => .str b
  | _, _, .lst s a, h => by
    simp only [D.py]
    exact .lst (.inl s) (AtAll.dp a (by simpa only [D.pure] using h))
  | _, _, .tup s a, h => by
    simp only [D.py]
    exact .tup s.1 (AtAll.dp a (by simpa only [D.pure] using h))
  | _, _, .raw _, h => by simp only [D.pure, Bool.false_eq_true] at h
  | _, _, .clo _, h => by simp only [D.pure, Bool.false_eq_true] at h
  | _, _, .dct _, h => by simp only [D.pure, Bool.false_eq_true] at h
  | _, _, .ins _, h => by simp only [D.pure, Bool.false_eq_true] at h
  | _, _, .exc _, h => by simp only [D.pure, Bool.false_eq_true] at h
  | _, _, .pr _ _ _, h => by simp only [D.pure, Bool.false_eq_true] at h
  | _, _, .dcz _, h => by simp only [D.pure, Bool.false_eq_true] at h
theorem AtAll.dp : ∀ {vs : List V} {ds : List D}, AtAll K H vs ds → pureAll ds = true → DpAll K H vs (pyAll ds)
  | _, _, .nil, _ => .nil
  | _, _, .cons a b, h => by
    have h' := Bool.and_eq_true_iff.mp (by simpa only [pureAll] using h)
    exact .cons (At.dp a h'.1) (AtAll.dp b h'.2)
end
end
/-- Python's == of data -/
def eqD (x y : D) : Bool := PyData.eqv x.py y.py

section
variable {X : Cx} {W : WX} {ρ : List Sl} {Z : DZ} {N : List Str} {sc : Scope} {k : Nat} {a b : Expr} {pos : Pos} {Φ : D → Prop}
def rEqG (K : PySem.W.Frag) (neg : Bool) : R2 := fun x y H Q => ∃ d e : D, At K H x d ∧ At K H y e ∧ d.pure = true ∧ e.pure = true ∧ (d.dep ≤ 60 ∨ e.dep ≤ 60) ∧ Q (.bl (if neg = true then !eqD d e else eqD d e)) H
theorem room_min {A : Around} {d e : D} (hu : A.units + 64 < cLine) (h : d.dep ≤ 60 ∨ e.dep ≤ 60) : A.units + min d.py.depth e.py.depth < cLine := by
  rw [depth_py, depth_py]
  have := Nat.min_le_left d.dep e.dep
  have := Nat.min_le_right d.dep e.dep
  omega
theorem op_eqG (hu : X.A.units + 64 < cLine) : OpR X (compareOp .Eq) (rEqG X.K false) := by
  intro pins s σ H x y v u Q I rx ry h
  obtain ⟨d, e, hd, he, sd, se, hm, q⟩ := h
  obtain ⟨as, r1⟩ := Dp.reads I _ x v (hd.dp sd) rx
  obtain ⟨bs, r2⟩ := Dp.reads I _ y u (he.dp se) ry
  exact SeqAt.eq_plain r1 r2 (plain_py d) (plain_py e) (room_min hu hm) ⟨.bl _, H, I, rfl, q⟩
theorem op_neG (hu : X.A.units + 64 < cLine) : OpR X (compareOp .NotEq) (rEqG X.K true) := by
  intro pins s σ H x y v u Q I rx ry h
  obtain ⟨d, e, hd, he, sd, se, hm, q⟩ := h
  obtain ⟨as, r1⟩ := Dp.reads I _ x v (hd.dp sd) rx
  obtain ⟨bs, r2⟩ := Dp.reads I _ y u (he.dp se) ry
  exact SeqAt.ne_plain r1 r2 (plain_py d) (plain_py e) (room_min hu hm) ⟨.bl _, H, I, rfl, q⟩
theorem rEqG_mono {K : PySem.W.Frag} {n : Bool} : R2mono (rEqG K n) := fun _ _ _ _ _ k ⟨d, e, h1, h2, h3, h4, h5, q⟩ => ⟨d, e, h1, h2, h3, h4, h5, k _ _ q⟩
/-- what == asks of its two sides -/
def EqOk (x y : D) : Prop := x.pure = true ∧ y.pure = true ∧ (x.dep ≤ 60 ∨ y.dep ≤ 60)
theorem rr_eq {n : Bool} {x y : D} (h : EqOk x y ∧ Φ (.bl (if n = true then !eqD x y else eqD x y))) : RR X (rEqG X.K n) x y Φ := fun H0 ρ σ Hb H v u R a b =>
  ⟨x, y, a.mono R.b1, b.mono R.b1, h.1.1, h.1.2.1, h.1.2.2, endE h.2 R (Gr.refl) (.bl _)⟩
theorem ew_eq (C : Ctx X W N sc k) (h : EW X W ρ a (fun x => EW X W ρ b (fun y => EqOk x y ∧ Φ (.bl (eqD x y))) Z) Z) : EW X W ρ (.Compare a [.Eq] [b] pos) Φ Z :=
  ew_cmp (op_eqG C.room.units) rEqG_mono (nomark _) (h.mono fun _ h => h.mono fun _ h => rr_eq (n := false) h)
theorem ew_ne (C : Ctx X W N sc k) (h : EW X W ρ a (fun x => EW X W ρ b (fun y => EqOk x y ∧ Φ (.bl (!eqD x y))) Z) Z) : EW X W ρ (.Compare a [.NotEq] [b] pos) Φ Z :=
  ew_cmp (op_neG C.room.units) rEqG_mono (nomark _) (h.mono fun _ h => h.mono fun _ h => rr_eq (n := true) h)
theorem tw_eq {Φ : Bool → Prop} (C : Ctx X W N sc k) (h : EW X W ρ a (fun x => EW X W ρ b (fun y => EqOk x y ∧ Φ (eqD x y)) Z) Z) : TW X W ρ (.Compare a [.Eq] [b] pos) Φ Z :=
  tw_cmp (op_eqG C.room.units) rEqG_mono (nomark _) (h.mono fun _ h => h.mono fun _ h => rr_eq (n := false) ⟨h.1, _, rfl, h.2⟩)
theorem tw_ne {Φ : Bool → Prop} (C : Ctx X W N sc k) (h : EW X W ρ a (fun x => EW X W ρ b (fun y => EqOk x y ∧ Φ (!eqD x y)) Z) Z) : TW X W ρ (.Compare a [.NotEq] [b] pos) Φ Z :=
  tw_cmp (op_neG C.room.units) rEqG_mono (nomark _) (h.mono fun _ h => h.mono fun _ h => rr_eq (n := true) ⟨h.1, _, rfl, h.2⟩)

/-! ### in, not in -/
def rInG (K : PySem.W.Frag) (neg : Bool) : R2 := fun x y H Q => ∃ (d : D) (t : Bool) (ds : List D) (p : Addr) (xs : List V), At K H x d ∧ y = .ref p ∧ Sq t K H p xs ∧ AtAll K H xs ds ∧ d.pure = true ∧ pureAll ds = true ∧ (d.dep ≤ 60 ∨ depAll ds ≤ 60) ∧ Q (.bl (if neg = true then !(ds.any fun y => eqD y d) else ds.any fun y => eqD y d)) H
theorem any_py (d : D) : ∀ ds : List D, ((pyAll ds).any fun y => PyData.eqv y d.py) = ds.any fun y => eqD y d
  | [] => rfl
  | x :: xs => by
    simp only [pyAll, List.any_cons, any_py d xs]
    rfl
theorem room_in2 {A : Around} {d : D} {ds : List D} (hu : A.units + 64 < cLine) (h : d.dep ≤ 60 ∨ depAll ds ≤ 60) : A.units + 1 + min (PyData.depthAll (pyAll ds)) d.py.depth < cLine := by
  rw [depth_py, depth_pyAll]
  have := Nat.min_le_left (depAll ds) d.dep
  have := Nat.min_le_right (depAll ds) d.dep
  omega
theorem op_inG (hu : X.A.units + 64 < cLine) : OpR X (compareOp .In) (rInG X.K false) := by
  intro pins s σ H x y v u Q I rx ry h
  obtain ⟨d, t, ds, p, xs, hd, rfl, hs, ha, sd, se, hm, q⟩ := h
  obtain ⟨as, r1⟩ := Dp.reads I _ x v (hd.dp sd) rx
  have qq : EP X pins σ Q (.bool ((pyAll ds).any fun y => PyData.eqv y d.py)) s := by
    rw [any_py]
    exact ⟨.bl _, H, I, rfl, q⟩
  cases t with
  | true =>
    obtain ⟨bs, r2⟩ := Dp.reads I (.tuple (pyAll ds)) (.ref p) u (.tup hs (ha.dp se)) ry
    exact SeqAt.in_tuple_data r2 r1 (plain_pyAll ds) (plain_py d) (room_in2 hu hm) qq
  | false =>
    obtain ⟨bs, r2⟩ := Dp.reads I (.list (pyAll ds)) (.ref p) u (.lst (.inl hs) (ha.dp se)) ry
    exact SeqAt.in_list_data r2 r1 (plain_pyAll ds) (plain_py d) (room_in2 hu hm) qq
theorem op_notInG (hu : X.A.units + 64 < cLine) : OpR X (compareOp .NotIn) (rInG X.K true) := by
  intro pins s σ H x y v u Q I rx ry h
  obtain ⟨d, t, ds, p, xs, hd, rfl, hs, ha, sd, se, hm, q⟩ := h
  obtain ⟨as, r1⟩ := Dp.reads I _ x v (hd.dp sd) rx
  have qq : EP X pins σ Q (.bool (!(pyAll ds).any fun y => PyData.eqv y d.py)) s := by
    rw [any_py]
    exact ⟨.bl _, H, I, rfl, q⟩
  cases t with
  | true =>
    obtain ⟨bs, r2⟩ := Dp.reads I (.tuple (pyAll ds)) (.ref p) u (.tup hs (ha.dp se)) ry
    exact SeqAt.notIn_tuple_data r2 r1 (plain_pyAll ds) (plain_py d) (room_in2 hu hm) qq
  | false =>
    obtain ⟨bs, r2⟩ := Dp.reads I (.list (pyAll ds)) (.ref p) u (.lst (.inl hs) (ha.dp se)) ry
    exact SeqAt.notIn_list_data r2 r1 (plain_pyAll ds) (plain_py d) (room_in2 hu hm) qq
theorem rInG_mono {K : PySem.W.Frag} {n : Bool} : R2mono (rInG K n) := fun _ _ _ _ _ k ⟨d, t, ds, p, xs, h1, h2, h3, h4, h5, h6, h7, q⟩ => ⟨d, t, ds, p, xs, h1, h2, h3, h4, h5, h6, h7, k _ _ q⟩
def InOk (x : D) (ds : List D) : Prop := x.pure = true ∧ pureAll ds = true ∧ (x.dep ≤ 60 ∨ depAll ds ≤ 60)
theorem ES.mono {e : Expr} {Φ Φ' : Bool → List D → Prop} (h : ES X W ρ e Φ Z) (k : ∀ t ds, Φ t ds → Φ' t ds) : ES X W ρ e Φ' Z := fun H0 σ Hb H R z => h.run R z fun t ds a xs Hb' _ f R' s q A T _ => ⟨t, ds, Hb', a, xs, rfl, k _ _ f, R', s, q, A, T⟩
theorem ew_inX {n : Bool} {op : CmpOp} (ho : OpR X (compareOp op) (rInG X.K n)) (hk : behindInMarks op b = false) (h : EW X W ρ a (fun x => ES X W ρ b (fun _ ds => InOk x ds ∧ Φ (.bl (if n = true then !(ds.any fun y => eqD y x) else ds.any fun y => eqD y x))) Z) Z) : EW X W ρ (.Compare a [op] [b] pos) Φ Z := fun H0 σ Hb H R z =>
  WE.of (pe_cmpR ho pe_w pe_w hk) (h.run R z fun x v Hb1 H1 f1 R1 s1 a1 z1 => f1.run R1 z1 fun t ds p xs Hb2 H2 f2 R2 s2 q2 A2 _ _ =>
    ⟨x, t, ds, p, xs, a1.mono (s2.b.trans R2.b1), rfl, q2, A2.mono R2.b1, f2.1.1, f2.1.2.1, f2.1.2.2, endE f2.2 R2 (s1.trans s2) (.bl _)⟩)
theorem tw_inX {Φ : Bool → Prop} {n : Bool} {op : CmpOp} (ho : OpR X (compareOp op) (rInG X.K n)) (hk : behindInMarks op b = false) (h : EW X W ρ a (fun x => ES X W ρ b (fun _ ds => InOk x ds ∧ Φ (if n = true then !(ds.any fun y => eqD y x) else ds.any fun y => eqD y x)) Z) Z) : TW X W ρ (.Compare a [op] [b] pos) Φ Z := fun H0 σ Hb H R z =>
  WT.of (pt_cmpR ho pe_w pe_w hk) (h.run R z fun x v Hb1 H1 f1 R1 s1 a1 z1 => f1.run R1 z1 fun t ds p xs Hb2 H2 f2 R2 s2 q2 A2 _ _ =>
    ⟨x, t, ds, p, xs, a1.mono (s2.b.trans R2.b1), rfl, q2, A2.mono R2.b1, f2.1.1, f2.1.2.1, f2.1.2.2, _, rfl, Hb2, f2.2, R2, s1.trans s2⟩)
theorem ew_in (C : Ctx X W N sc k) (h : EW X W ρ a (fun x => ES X W ρ b (fun _ ds => InOk x ds ∧ Φ (.bl (ds.any fun y => eqD y x))) Z) Z) (hk : behindInMarks .In b = false := by rfl) : EW X W ρ (.Compare a [.In] [b] pos) Φ Z := ew_inX (n := false) (op_inG C.room.units) hk h
theorem ew_notIn (C : Ctx X W N sc k) (h : EW X W ρ a (fun x => ES X W ρ b (fun _ ds => InOk x ds ∧ Φ (.bl (!(ds.any fun y => eqD y x)))) Z) Z) (hk : behindInMarks .NotIn b = false := by rfl) : EW X W ρ (.Compare a [.NotIn] [b] pos) Φ Z := ew_inX (n := true) (op_notInG C.room.units) hk h
theorem tw_in {Φ : Bool → Prop} (C : Ctx X W N sc k) (h : EW X W ρ a (fun x => ES X W ρ b (fun _ ds => InOk x ds ∧ Φ (ds.any fun y => eqD y x)) Z) Z) (hk : behindInMarks .In b = false := by rfl) : TW X W ρ (.Compare a [.In] [b] pos) Φ Z := tw_inX (n := false) (op_inG C.room.units) hk h
theorem tw_notIn {Φ : Bool → Prop} (C : Ctx X W N sc k) (h : EW X W ρ a (fun x => ES X W ρ b (fun _ ds => InOk x ds ∧ Φ (!(ds.any fun y => eqD y x))) Z) Z) (hk : behindInMarks .NotIn b = false := by rfl) : TW X W ρ (.Compare a [.NotIn] [b] pos) Φ Z := tw_inX (n := true) (op_notInG C.room.units) hk h

/-! ### items, slices -/
theorem AtAll.atI {K : PySem.W.Frag} {H : Hp} {vs : List V} {ds : List D} {i : Int} {d : D} (A : AtAll K H vs ds) (h : atI ds i = some d) : ∃ v, L2.atI vs i = some v ∧ At K H v d := by
  unfold L2.atI at h ⊢
  rw [A.length]
  cases e : ixN ds.length i with
  | none => rw [e] at h; cases h
  | some j =>
    rw [e] at h
    obtain ⟨v, e2, a⟩ := A.get (i := j) h
    exact ⟨v, e2, a⟩
theorem ew_ix (h : ES X W ρ a (fun _ ds => EW X W ρ b (fun y => ∃ n d, y = .int n ∧ atI ds n = some d ∧ Φ d) Z) Z) (hs : PlainIx b := by exact fun _ _ => rfl) : EW X W ρ (.Subscript a b pos) Φ Z := fun H0 σ Hb H R z =>
  WE.of (pe_ix ix_seq pe_w pe_w hs) (h.run R z fun t ds p xs Hb1 H1 f1 R1 s1 q1 A1 T1 z1 => f1.run R1 z1 fun y u Hb2 H2 f2 R2 s2 a2 _ => by
    obtain ⟨n, d, rfl, e, f⟩ := f2
    cases a2
    obtain ⟨v, e2, av⟩ := A1.atI e
    have q2 := q1.mono s2.h
    have fin := endE (H := H) (Hb := Hb) f R2 (s1.trans s2) (av.mono s2.b)
    cases t with
    | true => exact .inr (.inl ⟨p, xs, n, v, rfl, rfl, q2, e2, fin⟩)
    | false => exact .inl ⟨p, xs, n, v, rfl, rfl, .inl q2, e2, fin⟩)
def cutG {α : Type} (xs : List α) (lo hi : Option Int) : List α := (xs.drop (HT.sIx xs.length 0 lo)).take (HT.sIx xs.length xs.length hi - HT.sIx xs.length 0 lo)
theorem cutG_whole {α : Type} {xs : List α} {lo hi : Option Int} (h : HT.sIx xs.length 0 lo = 0 ∧ HT.sIx xs.length xs.length hi = xs.length) : cutG xs lo hi = xs := by
  unfold cutG
  rw [h.1, h.2, List.drop_zero, Nat.sub_zero, List.take_length]
theorem AtAll.cut {K : PySem.W.Frag} {H : Hp} {vs : List V} {ds : List D} (A : AtAll K H vs ds) (lo hi : Option Int) : AtAll K H (cutV vs lo hi) (cutG ds lo hi) := by
  unfold cutV cutG
  rw [A.length]
  exact (A.drop _).take _
/-- a part of a slice -/
def OW (X : Cx) (W : WX) (ρ : List Sl) (e : Option Expr) (Φ : Option Int → Prop) (Z : DZ) : Prop := match e with
  | none => Φ none
  | some e => EW X W ρ e (fun d => ∃ i, d = .int i ∧ Φ (some i)) Z
def WO (X : Cx) (e : Option Expr) : TO := match e with
  | none => tNoPart
  | some e => tPart (WE X e)
theorem po_w {e : Option Expr} : PO X e (WO X e) := by
  cases e with
  | none => exact po_none
  | some e => exact po_some pe_w
theorem OW.run {e : Option Expr} {Φ : Option Int → Prop} {Q : Option Int → Hp → Prop} {H0 : Ent} {σ : L2.St} {Hb H : Hp} (h : OW X W ρ e Φ Z) (R : Rel X.K H0 ρ σ Hb H) (z : RZ X W H0 ρ σ Hb H Z)
    (k : ∀ o Hb' H', Φ o → Rel X.K H0 ρ σ Hb' H' → Gr Hb H Hb' H' → RZ X W H0 ρ σ Hb' H' Z → Q o H') : WO X e σ H Q := by
  cases e with
  | none => exact k none Hb H h R Gr.refl z
  | some e =>
    refine EW.run (show EW X W ρ e _ Z from h) R z fun d v Hb' H' f R' s a z' => ?_
    obtain ⟨i, rfl, f⟩ := f
    cases a
    exact ⟨i, rfl, k _ Hb' H' f R' s z'⟩
theorem en_slice {lo hi : Option Expr} {p2 : Pos} {Φ : List D → Prop} (h : ES X W ρ a (fun t ds => t = false ∧ OW X W ρ lo (fun l => OW X W ρ hi (fun u => Φ (cutG ds l u)) Z) Z) Z) : EN X W ρ (.Subscript a (.Slice lo hi none p2) pos) Φ Z := fun H0 σ Hb H R z =>
  WE.of (pe_slice sl_list pe_w po_w po_w) (h.run R z fun t ds p xs Hb1 H1 f1 R1 s1 q1 A1 T1 z1 => by
    obtain ⟨rfl, f1⟩ := f1
    exact f1.run R1 z1 fun l Hb2 H2 f2 R2 s2 z2 => f2.run R2 z2 fun u Hb3 H3 f3 R3 s3 _ =>
      ⟨p, xs, rfl, .inl (q1.mono (s2.trans s3).h), fun q hq => endLst f3 R3 ((s1.trans s2).trans s3) hq ((A1.mono (s2.trans s3).b).cut l u)⟩)
theorem ew_sliceT {lo hi : Option Expr} {p2 : Pos} (h : ES X W ρ a (fun t ds => t = true ∧ OW X W ρ lo (fun l => OW X W ρ hi (fun u => Φ (.tup (cutG ds l u))) Z) Z) Z) : EW X W ρ (.Subscript a (.Slice lo hi none p2) pos) Φ Z := fun H0 σ Hb H R z =>
  WE.of (pe_slice sl_tupZ pe_w po_w po_w) (h.run R z fun t ds p xs Hb1 H1 f1 R1 s1 q1 A1 T1 z1 => by
    obtain ⟨rfl, f1⟩ := f1
    exact f1.run R1 z1 fun l Hb2 H2 f2 R2 s2 z2 => f2.run R2 z2 fun u Hb3 H3 f3 R3 s3 _ => by
      have A3 := A1.mono (s2.trans s3).b
      have q3 : SqT X.K H3 p xs := q1.mono (s2.trans s3).h
      refine ⟨p, xs, rfl, q3, fun hw => ?_, fun _ q ob hq hd => endTup f3 R3 ((s1.trans s2).trans s3) hq hd (A3.cut l u)⟩
      rw [A1.length] at hw
      rw [cutG_whole hw] at f3
      exact endE f3 R3 ((s1.trans s2).trans s3) (.tup (same_tq (s2.trans s3).b (T1 rfl)) A3))
end
end DL
namespace DL
open PySem PySem.Spec PyProof.Rows L2
abbrev GlN (sc : Scope) (x : Str) : Prop := sc.names.lookup x = some .globalImplicit
section
variable {X : Cx} {W : WX} {ρ : List Sl} {Z : DZ} {N : List Str} {sc : Scope} {k : Nat} {a b e : Expr} {es : List Expr} {pos p : Pos} {Φ : D → Prop}
/-! ### built-ins, by their arguments as data -/
def CA (X : Cx) (r : List V → Hp → VK → Prop) (ds : List D) (Φ : D → Prop) : Prop := ∀ (H0 : Ent) (ρ : List Sl) (σ : L2.St) (Hb H : Hp) (vs : List V), Rel X.K H0 ρ σ Hb H → AtAll X.K Hb vs ds → ∀ Q : VK, (∀ v H', PostE X.K H0 ρ σ Hb H Φ v H' → Q v H') → r vs H Q
def CS (X : Cx) (r : List V → Hp → VK → Prop) (t : Bool) (ds : List D) (Φ : D → Prop) : Prop := ∀ (H0 : Ent) (ρ : List Sl) (σ : L2.St) (Hb H : Hp) (a : Addr) (xs : List V), Rel X.K H0 ρ σ Hb H → Sq t X.K H a xs → AtAll X.K Hb xs ds → (t = true → Tq X.K Hb a xs) → ∀ Q : VK, (∀ v H', PostE X.K H0 ρ σ Hb H Φ v H' → Q v H') → r [.ref a] H Q
def CSn (X : Cx) (r : List V → Hp → VK → Prop) (t : Bool) (ds : List D) (Φ : List D → Prop) : Prop := ∀ (H0 : Ent) (ρ : List Sl) (σ : L2.St) (Hb H : Hp) (a : Addr) (xs : List V), Rel X.K H0 ρ σ Hb H → Sq t X.K H a xs → AtAll X.K Hb xs ds → (t = true → Tq X.K Hb a xs) → ∀ Q : VK, (∀ v H', PostN X.K H0 ρ σ Hb H Φ v H' → Q v H') → r [.ref a] H Q
theorem PostN.back {H0 : Ent} {σ : L2.St} {Hb Hb' H H' H2 : Hp} {v : V} {Φ : List D → Prop} (h : PostN X.K H0 ρ σ Hb' H' Φ v H2) (s : Gr Hb H Hb' H') : PostN X.K H0 ρ σ Hb H Φ v H2 := let ⟨d, Hc, p, xs, e, f, R, t, r⟩ := h; ⟨d, Hc, p, xs, e, f, R, s.trans t, r⟩
theorem ew_cB {x : Str} {id : String} {r : List V → Hp → VK → Prop} (C : Ctx X W N sc k) (hc : CallR X (.builtin id) r) (hg : sc.names.lookup x = some .globalImplicit) (hm : X.mg x = none) (hv : bootBuiltins x = some (.builtin id)) (h : AW X W ρ (e :: es) (fun ds => CA X r ds Φ) Z)
    (hn : x ≠ "__name__" := by decide) (hdb : (x == ("__debug__" : Str)) = false := by decide) (he : starEach (e :: es) X.env = (false, eval e X.env) :: starEach es X.env := by exact star_nst rfl) (hpl : (backTo pos (starEach es X.env)).any (·.1) = false := by rfl) : EW X W ρ (.Call (.Name x p) (e :: es) [] pos) Φ Z := fun H0 σ Hb H R z =>
  WE.of (pe_callB hc (C.gl hg) hm hv pa_w hn hdb he hpl) (h.run R z fun ds vs Hb1 H1 f1 R1 s1 a1 _ => f1 H0 ρ σ Hb1 H1 vs R1 a1 _ fun _ _ q => PostE.back q s1)
theorem ew_cT {x : Str} {id : String} {r : List V → Hp → VK → Prop} (C : Ctx X W N sc k) (hc : CallR X (.type id) r) (hg : sc.names.lookup x = some .globalImplicit) (hm : X.mg x = none) (hv : bootBuiltins x = some (.type id)) (h : AW X W ρ (e :: es) (fun ds => CA X r ds Φ) Z)
    (hn : x ≠ "__name__" := by decide) (hdb : (x == ("__debug__" : Str)) = false := by decide) (he : starEach (e :: es) X.env = (false, eval e X.env) :: starEach es X.env := by exact star_nst rfl) (hpl : (backTo pos (starEach es X.env)).any (·.1) = false := by rfl) : EW X W ρ (.Call (.Name x p) (e :: es) [] pos) Φ Z := fun H0 σ Hb H R z =>
  WE.of (pe_callTy hc (C.gl hg) hm hv pa_w hn hdb he hpl) (h.run R z fun ds vs Hb1 H1 f1 R1 s1 a1 _ => f1 H0 ρ σ Hb1 H1 vs R1 a1 _ fun _ _ q => PostE.back q s1)
theorem pa_one (he : starEach [e] X.env = (false, eval e X.env) :: starEach [] X.env) : PA X [e] (tCons (WE X e) tNil) := pa_cons pe_w pa_nil he
theorem ew_cBS {x : Str} {id : String} {r : List V → Hp → VK → Prop} (C : Ctx X W N sc k) (hc : CallR X (.builtin id) r) (hg : sc.names.lookup x = some .globalImplicit) (hm : X.mg x = none) (hv : bootBuiltins x = some (.builtin id)) (h : ES X W ρ e (fun t ds => CS X r t ds Φ) Z)
    (hn : x ≠ "__name__") (hdb : (x == ("__debug__" : Str)) = false) (he : starEach [e] X.env = (false, eval e X.env) :: starEach [] X.env) : EW X W ρ (.Call (.Name x p) [e] [] pos) Φ Z := fun H0 σ Hb H R z =>
  WE.of (pe_callB hc (C.gl hg) hm hv (pa_one he) hn hdb he rfl) (h.run R z fun t ds a xs Hb1 H1 f1 R1 s1 q1 A1 T1 _ => f1 H0 ρ σ Hb1 H1 a xs R1 q1 A1 T1 _ fun _ _ q => PostE.back q s1)
theorem ew_cTS {x : Str} {id : String} {r : List V → Hp → VK → Prop} (C : Ctx X W N sc k) (hc : CallR X (.type id) r) (hg : sc.names.lookup x = some .globalImplicit) (hm : X.mg x = none) (hv : bootBuiltins x = some (.type id)) (h : ES X W ρ e (fun t ds => CS X r t ds Φ) Z)
    (hn : x ≠ "__name__") (hdb : (x == ("__debug__" : Str)) = false) (he : starEach [e] X.env = (false, eval e X.env) :: starEach [] X.env) : EW X W ρ (.Call (.Name x p) [e] [] pos) Φ Z := fun H0 σ Hb H R z =>
  WE.of (pe_callTy hc (C.gl hg) hm hv (pa_one he) hn hdb he rfl) (h.run R z fun t ds a xs Hb1 H1 f1 R1 s1 q1 A1 T1 _ => f1 H0 ρ σ Hb1 H1 a xs R1 q1 A1 T1 _ fun _ _ q => PostE.back q s1)
theorem en_cBS {x : Str} {id : String} {r : List V → Hp → VK → Prop} {Φ : List D → Prop} (C : Ctx X W N sc k) (hc : CallR X (.builtin id) r) (hg : sc.names.lookup x = some .globalImplicit) (hm : X.mg x = none) (hv : bootBuiltins x = some (.builtin id)) (h : ES X W ρ e (fun t ds => CSn X r t ds Φ) Z)
    (hn : x ≠ "__name__") (hdb : (x == ("__debug__" : Str)) = false) (he : starEach [e] X.env = (false, eval e X.env) :: starEach [] X.env) : EN X W ρ (.Call (.Name x p) [e] [] pos) Φ Z := fun H0 σ Hb H R z =>
  WE.of (pe_callB hc (C.gl hg) hm hv (pa_one he) hn hdb he rfl) (h.run R z fun t ds a xs Hb1 H1 f1 R1 s1 q1 A1 T1 _ => f1 H0 ρ σ Hb1 H1 a xs R1 q1 A1 T1 _ fun _ _ q => PostN.back q s1)
theorem en_cTS {x : Str} {id : String} {r : List V → Hp → VK → Prop} {Φ : List D → Prop} (C : Ctx X W N sc k) (hc : CallR X (.type id) r) (hg : sc.names.lookup x = some .globalImplicit) (hm : X.mg x = none) (hv : bootBuiltins x = some (.type id)) (h : ES X W ρ e (fun t ds => CSn X r t ds Φ) Z)
    (hn : x ≠ "__name__") (hdb : (x == ("__debug__" : Str)) = false) (he : starEach [e] X.env = (false, eval e X.env) :: starEach [] X.env) : EN X W ρ (.Call (.Name x p) [e] [] pos) Φ Z := fun H0 σ Hb H R z =>
  WE.of (pe_callTy hc (C.gl hg) hm hv (pa_one he) hn hdb he rfl) (h.run R z fun t ds a xs Hb1 H1 f1 R1 s1 q1 A1 T1 _ => f1 H0 ρ σ Hb1 H1 a xs R1 q1 A1 T1 _ fun _ _ q => PostN.back q s1)
theorem Sq.l {K : PySem.W.Frag} {H : Hp} {a : Addr} {xs : List V} (h : Sq false K H a xs) : SqL K H a xs := .inl h
theorem ew_len (C : Ctx X W N sc k) (hm : X.mg "len" = none) (h : ES X W ρ e (fun _ ds => Φ (.int ds.length)) Z) (hg : GlN sc "len" := by rfl) (he : starEach [e] X.env = (false, eval e X.env) :: starEach [] X.env := by exact star_nst rfl) : EW X W ρ (.Call (.Name "len" p) [e] [] pos) Φ Z :=
  ew_cBS C call_len_seq hg hm PySem.boot_len (h.mono fun t ds f H0 ρ σ Hb H a xs R q A T Q kq => ⟨a, xs, rfl, q.or, kq _ _ (endE (by rw [A.length]; exact f) R Gr.refl (.int _))⟩) (by decide) (by decide) he
theorem ew_all (C : Ctx X W N sc k) (hm : X.mg "all" = none) (h : ES X W ρ e (fun t ds => t = false ∧ ∃ bs : List Bool, ds = bs.map D.bl ∧ Φ (.bl (bs.all id))) Z) (hg : GlN sc "all" := by rfl) (he : starEach [e] X.env = (false, eval e X.env) :: starEach [] X.env := by exact star_nst rfl) : EW X W ρ (.Call (.Name "all" p) [e] [] pos) Φ Z :=
  ew_cBS C (cr_all C.calm) hg hm PyProof.Rows.boot_all (h.mono fun t ds f H0 ρ σ Hb H a xs R q A T Q kq => by
    obtain ⟨rfl, bs, rfl, f⟩ := f
    have e1 := A.bls
    subst e1
    exact ⟨a, bs, rfl, q.l, kq _ _ (endE f R Gr.refl (.bl _))⟩) (by decide) (by decide) he
theorem ew_sum (C : Ctx X W N sc k) (hm : X.mg "sum" = none) (h : ES X W ρ e (fun t ds => t = false ∧ ∃ ns : List Int, ds = ns.map D.int ∧ Φ (.int ns.sum)) Z) (hg : GlN sc "sum" := by rfl) (he : starEach [e] X.env = (false, eval e X.env) :: starEach [] X.env := by exact star_nst rfl) : EW X W ρ (.Call (.Name "sum" p) [e] [] pos) Φ Z :=
  ew_cBS C (cr_sum C.calm) hg hm PyProof.Rows.boot_sum (h.mono fun t ds f H0 ρ σ Hb H a xs R q A T Q kq => by
    obtain ⟨rfl, ns, rfl, f⟩ := f
    have e1 := A.ints
    subst e1
    exact ⟨a, ns, rfl, q.l, kq _ _ (endE f R Gr.refl (.int _))⟩) (by decide) (by decide) he
/-- the ints in order -/
def srt (ns : List Int) : List Int := ns.mergeSort (fun a b => decide (a ≤ b))
theorem srt_perm (ns : List Int) : (srt ns).Perm ns := List.mergeSort_perm _ _
theorem srt_ord (ns : List Int) : (srt ns).Pairwise (· ≤ ·) := by
  have h := List.pairwise_mergeSort (le := fun a b : Int => decide (a ≤ b)) (fun a b c h1 h2 => by simp only [decide_eq_true_eq] at *; omega) (fun a b => by simp only [Bool.or_eq_true, decide_eq_true_eq]; omega) ns
  exact h.imp fun h => of_decide_eq_true h
theorem srt_of {ns ms : List Int} (p : ms.Perm ns) (o : ms.Pairwise (· ≤ ·)) : ms = srt ns := PySem.W.ksm_same (p.trans (srt_perm ns).symm) o (srt_ord ns)
theorem srt_id {ns : List Int} (o : ns.Pairwise (· ≤ ·)) : srt ns = ns := (srt_of (List.Perm.refl _) o).symm
theorem en_sorted {Φ : List D → Prop} (C : Ctx X W N sc k) (hm : X.mg "sorted" = none) (h : ES X W ρ e (fun t ds => t = false ∧ ∃ ns : List Int, ds = ns.map D.int ∧ Φ ((srt ns).map D.int)) Z) (hg : GlN sc "sorted" := by rfl) (he : starEach [e] X.env = (false, eval e X.env) :: starEach [] X.env := by exact star_nst rfl) : EN X W ρ (.Call (.Name "sorted" p) [e] [] pos) Φ Z :=
  en_cBS C cr_sortedI hg hm PyProof.Rows.boot_sorted (h.mono fun t ds f H0 ρ σ Hb H a xs R q A T Q kq => by
    obtain ⟨rfl, ns, rfl, f⟩ := f
    have e1 := A.ints
    subst e1
    refine ⟨a, ns, rfl, q.l, fun ms p hp ho hn => ?_⟩
    have e2 := srt_of hp ho
    subst e2
    exact kq _ _ (endLst f R Gr.refl hn AtAll.of_ints)) (by decide) (by decide) he
theorem en_list {Φ : List D → Prop} (C : Ctx X W N sc k) (hm : X.mg "list" = none) (h : ES X W ρ e (fun _ ds => Φ ds) Z) (hg : GlN sc "list" := by rfl) (he : starEach [e] X.env = (false, eval e X.env) :: starEach [] X.env := by exact star_nst rfl) : EN X W ρ (.Call (.Name "list" p) [e] [] pos) Φ Z :=
  en_cTS C call_list_of hg hm PyProof.Rows.boot_list (h.mono fun t ds f H0 ρ σ Hb H a xs R q A T Q kq => ⟨a, xs, rfl, q.or, fun l hl => kq _ _ (endLst f R Gr.refl hl A)⟩) (by decide) (by decide) he
theorem ew_tuple (C : Ctx X W N sc k) (hm : X.mg "tuple" = none) (h : ES X W ρ e (fun _ ds => Φ (.tup ds)) Z) (hg : GlN sc "tuple" := by rfl) (he : starEach [e] X.env = (false, eval e X.env) :: starEach [] X.env := by exact star_nst rfl) : EW X W ρ (.Call (.Name "tuple" p) [e] [] pos) Φ Z :=
  ew_cTS C call_tupleZ hg hm PyProof.Rows.boot_tuple (h.mono fun t ds f H0 ρ σ Hb H a xs R q A T Q kq => by
    refine ⟨a, xs, rfl, ?_⟩
    cases t with
    | true => exact .inr ⟨q, kq _ _ (endE f R Gr.refl (.tup (T rfl) A))⟩
    | false => exact .inl ⟨q.l, fun l ob hl hd => kq _ _ (endTup f R Gr.refl hl hd A)⟩) (by decide) (by decide) he
/-- int(x), x a truth or an int -/
theorem ew_intOf (C : Ctx X W N sc k) (hm : X.mg "int" = none) (h : EW X W ρ e (fun d => (∃ i, d = .int i ∧ Φ (.int i)) ∨ ∃ t, d = .bl t ∧ Φ (.int (if t = true then 1 else 0))) Z) (hg : GlN sc "int" := by rfl) (he : starEach [e] X.env = (false, eval e X.env) :: starEach [] X.env := by exact star_nst rfl) : EW X W ρ (.Call (.Name "int" p) [e] [] pos) Φ Z :=
  ew_cT C call_int1 hg hm PyProof.Rows.boot_int (aw_cons (h.mono fun d f => aw_nil fun H0 ρ σ Hb H vs R A Q kq => by
    cases A with
    | cons a1 A =>
      cases A
      rcases f with ⟨i, rfl, f⟩ | ⟨t, rfl, f⟩
      · cases a1
        exact .inl ⟨i, rfl, kq _ _ (endE f R Gr.refl (.int _))⟩
      · cases a1
        exact .inr ⟨t, rfl, kq _ _ (endE f R Gr.refl (.int _))⟩) he) (by decide) (by decide) he
theorem ew_max2 (C : Ctx X W N sc k) (hm : X.mg "max" = none) (h : EW X W ρ a (fun x => EW X W ρ b (fun y => ∃ i j, x = .int i ∧ y = .int j ∧ Φ (.int (max i j))) Z) Z) (hg : GlN sc "max" := by rfl)
    (he : starEach [a, b] X.env = (false, eval a X.env) :: starEach [b] X.env := by exact star_nst rfl) (he2 : starEach [b] X.env = (false, eval b X.env) :: starEach [] X.env := by exact star_nst rfl) (hpl : (backTo pos (starEach [b] X.env)).any (·.1) = false := by rfl) : EW X W ρ (.Call (.Name "max" p) [a, b] [] pos) Φ Z :=
  ew_cB C (call_max2 C.calm) hg hm PyProof.Rows.boot_max (aw_cons (h.mono fun d f => aw_cons (f.mono fun d2 f => aw_nil fun H0 ρ σ Hb H vs R A Q kq => by
    obtain ⟨i, j, rfl, rfl, f⟩ := f
    cases A with
    | cons a1 A =>
      cases A with
      | cons a2 A =>
        cases A
        cases a1
        cases a2
        refine ⟨i, j, rfl, kq _ _ (endE f R Gr.refl ?_)⟩
        have e1 : (if j > i then j else i) = max i j := by
          by_cases hh : j > i
          · rw [if_pos hh]
            omega
          · rw [if_neg hh]
            omega
        rw [e1]
        exact .int _) he2) he) (by decide) (by decide) he hpl
theorem ew_min2 (C : Ctx X W N sc k) (hm : X.mg "min" = none) (h : EW X W ρ a (fun x => EW X W ρ b (fun y => ∃ i j, x = .int i ∧ y = .int j ∧ Φ (.int (min i j))) Z) Z) (hg : GlN sc "min" := by rfl)
    (he : starEach [a, b] X.env = (false, eval a X.env) :: starEach [b] X.env := by exact star_nst rfl) (he2 : starEach [b] X.env = (false, eval b X.env) :: starEach [] X.env := by exact star_nst rfl) (hpl : (backTo pos (starEach [b] X.env)).any (·.1) = false := by rfl) : EW X W ρ (.Call (.Name "min" p) [a, b] [] pos) Φ Z :=
  ew_cB C (call_min2 C.calm) hg hm PyProof.Rows.boot_min (aw_cons (h.mono fun d f => aw_cons (f.mono fun d2 f => aw_nil fun H0 ρ σ Hb H vs R A Q kq => by
    obtain ⟨i, j, rfl, rfl, f⟩ := f
    cases A with
    | cons a1 A =>
      cases A with
      | cons a2 A =>
        cases A
        cases a1
        cases a2
        refine ⟨i, j, rfl, kq _ _ (endE f R Gr.refl ?_)⟩
        have e1 : (if j < i then j else i) = min i j := by
          by_cases hh : j < i
          · rw [if_pos hh]
            omega
          · rw [if_neg hh]
            omega
        rw [e1]
        exact .int _) he2) he) (by decide) (by decide) he hpl
theorem cr_maxL {m : Int} {ns : List Int} (h1 : m ∈ ns) (h2 : ∀ y, y ∈ ns → y ≤ m) {m' : Int} (h3 : m' ∈ ns) (h4 : ∀ y, y ∈ ns → y ≤ m') : m' = m := Int.le_antisymm (h2 _ h3) (h4 _ h1)
/-- max of a list of ints -/
theorem ew_maxL (C : Ctx X W N sc k) (hm : X.mg "max" = none) (h : ES X W ρ e (fun t ds => t = false ∧ ∃ (ns : List Int) (m : Int), ds = ns.map D.int ∧ m ∈ ns ∧ (∀ y, y ∈ ns → y ≤ m) ∧ Φ (.int m)) Z) (hg : GlN sc "max" := by rfl) (he : starEach [e] X.env = (false, eval e X.env) :: starEach [] X.env := by exact star_nst rfl) : EW X W ρ (.Call (.Name "max" p) [e] [] pos) Φ Z :=
  ew_cBS C (cr_max C.calm) hg hm PyProof.Rows.boot_max (h.mono fun t ds f H0 ρ σ Hb H a xs R q A T Q kq => by
    obtain ⟨rfl, ns, m, rfl, h1, h2, f⟩ := f
    have e1 := A.ints
    subst e1
    refine ⟨a, ns, rfl, q.l, List.length_pos_of_mem h1, fun m' h3 h4 => ?_⟩
    have e2 := cr_maxL h1 h2 h3 h4
    subst e2
    exact kq _ _ (endE f R Gr.refl (.int _))) (by decide) (by decide) he
theorem ew_minL (C : Ctx X W N sc k) (hm : X.mg "min" = none) (h : ES X W ρ e (fun t ds => t = false ∧ ∃ (ns : List Int) (m : Int), ds = ns.map D.int ∧ m ∈ ns ∧ (∀ y, y ∈ ns → m ≤ y) ∧ Φ (.int m)) Z) (hg : GlN sc "min" := by rfl) (he : starEach [e] X.env = (false, eval e X.env) :: starEach [] X.env := by exact star_nst rfl) : EW X W ρ (.Call (.Name "min" p) [e] [] pos) Φ Z :=
  ew_cBS C (cr_min C.calm) hg hm PyProof.Rows.boot_min (h.mono fun t ds f H0 ρ σ Hb H a xs R q A T Q kq => by
    obtain ⟨rfl, ns, m, rfl, h1, h2, f⟩ := f
    have e1 := A.ints
    subst e1
    refine ⟨a, ns, rfl, q.l, List.length_pos_of_mem h1, fun m' h3 h4 => ?_⟩
    have e2 : m' = m := Int.le_antisymm (h4 _ h1) (h2 _ h3)
    subst e2
    exact kq _ _ (endE f R Gr.refl (.int _))) (by decide) (by decide) he

/-! ### isinstance -/
def tyD : D → Option String
  | .non => some "NoneType"
  | .bl _ => some "bool"
  | .int _ => some "int"
  | .str _ => some "str"
  | .lst _ => some "list"
  | .tup _ => some "tuple"
  | .dct _ => some "dict"
  | _ => none
theorem At.tyX {K : PySem.W.Frag} {H : Hp} {v : V} {d : D} {T : String} (a : At K H v d) (h : tyD d = some T) : TyX K H v (.type T) := by
  cases a with
  | non => cases h; exact .base .non
  | bl b => cases h; exact .base (.bl b)
  | int b => cases h; exact .base (.int b)
  | str b => cases h; exact .base (.str b)
  | lst s A =>
    cases h
    rcases s with s | ⟨o, s⟩
    · exact .base (.lst s)
    · exact .base (.frz s)
  | tup s A =>
    cases h
    rcases s.1 with (s | ⟨o, s⟩) | ⟨o, its, n, s, c, _⟩
    · exact .base (.tup s)
    · exact .fTuple s
    · exact .kTuple s c
  | dct s => cases h; exact .base (.dK s)
  | raw => cases h
  | ins => cases h
  | exc => cases h
  | pr => cases h
  | dcz => cases h
  | clo => cases h
/-- isinstance(e, T), T the name of a built-in class -/
theorem ew_isi (C : Ctx X W N sc k) (hm : X.mg "isinstance" = none) {x : Str} {n : String} {px : Pos} (hmx : X.mg x = none) (hgx : sc.names.lookup x = some .globalImplicit) (hvx : bootBuiltins x = some (.type n))
    (h : EW X W ρ e (fun d => ∃ T t, tyD d = some T ∧ kitB T n = some t ∧ Φ (.bl t)) Z) (hg : GlN sc "isinstance" := by rfl) (hnx : x ≠ "__name__" := by decide) (hdx : (x == ("__debug__" : Str)) = false := by decide)
    (he : starEach [e, .Name x px] X.env = (false, eval e X.env) :: starEach [.Name x px] X.env := by exact star_nst rfl) : EW X W ρ (.Call (.Name "isinstance" p) [e, .Name x px] [] pos) Φ Z :=
  ew_cB C call_isi hg hm PyProof.Rows.boot_isinstance (aw_cons (h.mono fun d f => aw_cons (ew_ty C hgx hmx hvx (aw_nil fun H0 ρ σ Hb H vs R A Q kq => by
    obtain ⟨T, t, h1, h2, f⟩ := f
    cases A with
    | cons a1 A =>
      cases A with
      | cons a2 A =>
        cases A
        cases a2
        exact ⟨_, _, _, _, t, rfl, .ty n, (a1.mono R.b1).tyX h1, kit_ty h2, kq _ _ (endE f R Gr.refl (.bl _))⟩) hnx hdx) rfl) he) (by decide) (by decide) he rfl

/-! ### lists and tuples put together -/
theorem op_catR : OpR X (binaryOp .Add) (fun x y H Q => ∃ l b xs zs, x = .ref l ∧ y = .ref b ∧ Rd H l (.lst xs) ∧ Rd H b (.lst zs) ∧ xs.length + zs.length ≤ sizeLine ∧ ∀ p, H p = none → Q (.ref p) (upd H p (.lst (xs ++ zs)))) := by
  intro pins s σ H x y v u Q I rx ry h
  obtain ⟨l, b, xs, zs, rfl, rfl, hH, hB, hz, q⟩ := h
  cases rx
  cases ry
  obtain ⟨z, its, n, r, e⟩ := hH.ok I.hok
  obtain ⟨z2, its2, n2, r2, e2⟩ := hB.ok I.hok
  have l1 := r.length
  have l2 := r2.length
  refine PySem.P.add_list e e2 ?_ (by rw [List.size_toArray, List.size_toArray]; omega)
  have ea : its.toArray ++ its2.toArray = (its ++ its2).toArray := by simp
  rw [ea]
  exact ⟨.ref _, _, I.lnew (t' := s.toks) (r.append r2) (by rw [List.length_append]; omega), rfl, q _ I.fresh⟩
theorem en_cat {Φ : List D → Prop} (h : ES X W ρ a (fun t ds => t = false ∧ ES X W ρ b (fun u es => u = false ∧ ds.length + es.length ≤ sizeLine ∧ Φ (ds ++ es)) Z) Z) : EN X W ρ (.BinOp a .Add b pos) Φ Z := fun H0 σ Hb H R z =>
  WE.of (pe_op op_catR pe_w pe_w) (h.run R z fun t ds p xs Hb1 H1 f1 R1 s1 q1 A1 T1 z1 => by
    obtain ⟨rfl, f1⟩ := f1
    exact f1.run R1 z1 fun u es q ys Hb2 H2 f2 R2 s2 q2 A2 T2 _ => by
      obtain ⟨rfl, hz, f2⟩ := f2
      exact ⟨p, q, xs, ys, rfl, rfl, q1.mono s2.h, q2, by rw [A1.length, A2.length]; exact hz, fun l hl => endLst f2 R2 (s1.trans s2) hl ((A1.mono s2.b).append A2)⟩)
theorem ew_catT (h : ES X W ρ a (fun t ds => t = true ∧ ES X W ρ b (fun u es => u = true ∧ ds.length + es.length ≤ sizeLine ∧ Φ (.tup (ds ++ es))) Z) Z) : EW X W ρ (.BinOp a .Add b pos) Φ Z := fun H0 σ Hb H R z =>
  WE.of (pe_op op_catZ pe_w pe_w) (h.run R z fun t ds p xs Hb1 H1 f1 R1 s1 q1 A1 T1 z1 => by
    obtain ⟨rfl, f1⟩ := f1
    exact f1.run R1 z1 fun u es q ys Hb2 H2 f2 R2 s2 q2 A2 T2 _ => by
      obtain ⟨rfl, hz, f2⟩ := f2
      have A := (A1.mono s2.b).append A2
      have q1' : SqT X.K H2 p xs := q1.mono s2.h
      have q2' : SqT X.K H2 q ys := q2
      refine ⟨p, q, xs, ys, rfl, rfl, q1', q2', by rw [A1.length, A2.length]; exact hz, fun e1 => ?_, fun e2 => ?_, fun l ob hl hd => endTup f2 R2 (s1.trans s2) hl hd A⟩
      · subst e1
        cases A1
        exact endE f2 R2 (s1.trans s2) (.tup (T2 rfl) A2)
      · subst e2
        cases A2
        rw [List.append_nil] at f2
        exact endE f2 R2 (s1.trans s2) (.tup (same_tq s2.b (T1 rfl)) (A1.mono s2.b)))
theorem AtAll.rep {K : PySem.W.Frag} {H : Hp} {vs : List V} {ds : List D} (A : AtAll K H vs ds) : ∀ n : Nat, AtAll K H (List.replicate n vs).flatten (List.replicate n ds).flatten
  | 0 => .nil
  | n + 1 => by
    rw [List.replicate_succ, List.replicate_succ, List.flatten_cons, List.flatten_cons]
    exact A.append (AtAll.rep A n)
theorem ew_repT (h : ES X W ρ a (fun t ds => t = true ∧ EW X W ρ b (fun y => ∃ n, y = .int n ∧ ds ≠ [] ∧ 2 ≤ n ∧ n ≤ 1000 ∧ ds.length ≤ 1000 ∧ Φ (.tup (List.replicate n.toNat ds).flatten)) Z) Z) : EW X W ρ (.BinOp a .Mult b pos) Φ Z := fun H0 σ Hb H R z =>
  WE.of (pe_op op_repZ pe_w pe_w) (h.run R z fun t ds p xs Hb1 H1 f1 R1 s1 q1 A1 T1 z1 => by
    obtain ⟨rfl, f1⟩ := f1
    exact f1.run R1 z1 fun y u Hb2 H2 f2 R2 s2 a2 _ => by
      obtain ⟨n, rfl, h0, h1, h2, h3, f2⟩ := f2
      cases a2
      have q1' : SqT X.K H2 p xs := q1.mono s2.h
      exact ⟨p, n, xs, rfl, rfl, q1', fun z => h0 (by rw [← List.length_eq_zero_iff, ← A1.length, z]; rfl), h1, h2, by rw [A1.length]; exact h3, fun l ob hl hd => endTup f2 R2 (s1.trans s2) hl hd ((A1.mono s2.b).rep _)⟩)
theorem op_repR : OpR X (binaryOp .Mult) rRep := op_rep
theorem en_rep {Φ : List D → Prop} (h : EN X W ρ a (fun ds => EW X W ρ b (fun y => ∃ n, y = .int n ∧ 0 ≤ n ∧ n ≤ 1000 ∧ ds.length ≤ 1000 ∧ Φ (List.replicate n.toNat ds).flatten) Z) Z) : EN X W ρ (.BinOp a .Mult b pos) Φ Z := fun H0 σ Hb H R z =>
  WE.of (pe_op op_rep pe_w pe_w) (h.run R z fun ds p xs Hb1 H1 f1 R1 s1 n1 q1 A1 h0 fr z1 => by
    exact f1.run R1 z1 fun y u Hb2 H2 f2 R2 s2 a2 _ => by
      obtain ⟨n, rfl, h1, h2, h3, f2⟩ := f2
      cases a2
      refine ⟨p, n, xs, rfl, rfl, s2.h _ _ q1, by omega, by omega, ?_, fun l hl => endLst f2 R2 (s1.trans s2) hl ((A1.mono s2.b).rep _)⟩
      rw [A1.length]
      have h4 : n.toNat ≤ 1000 := by omega
      calc ds.length * n.toNat ≤ 1000 * 1000 := Nat.mul_le_mul h3 h4
        _ ≤ sizeLine := by decide)
/-- xs[::-1] of a list -/
theorem en_revL {kk : Nat} {p1 p2 p3 : Pos} {Φ : List D → Prop} (h : ES X W ρ a (fun t ds => t = false ∧ Φ ds.reverse) Z) : EN X W ρ (.Subscript a (.Slice none none (some (.UnaryOp .USub (.Constant (.int 1) kk p1) p2)) p3) pos) Φ Z := fun H0 σ Hb H R z =>
  WE.of (pe_revL pe_w) (h.run R z fun t ds p xs Hb1 H1 f1 R1 s1 q1 A1 T1 z1 => by
    obtain ⟨rfl, f1⟩ := f1
    exact ⟨p, xs, rfl, q1.l, fun l hl => endLst f1 R1 s1 hl A1.rev⟩)
/-- tuple(reversed(list)) -/
theorem ew_tupRev (C : Ctx X W N sc k) (hm : X.mg "tuple" = none) (hm2 : X.mg "reversed" = none) {p2 pos2 : Pos} (h : ES X W ρ a (fun t ds => t = false ∧ Φ (.tup ds.reverse)) Z) (hg : GlN sc "tuple" := by rfl) (hg2 : GlN sc "reversed" := by rfl)
    (hs : starEach [a] X.env = (false, eval a X.env) :: starEach [] X.env := by exact star_nst rfl) : EW X W ρ (.Call (.Name "tuple" p) [.Call (.Name "reversed" p2) [a] [] pos2] [] pos) Φ Z := fun H0 σ Hb H R z =>
  WE.of (pe_tupRevZ C.calm (C.gl hg) hm (C.gl hg2) hm2 pe_w hs rfl) (h.run R z fun t ds p xs Hb1 H1 f1 R1 s1 q1 A1 T1 z1 => by
    obtain ⟨rfl, f1⟩ := f1
    exact ⟨p, xs, rfl, q1.l, fun l ob hl hd => endTup f1 R1 s1 hl hd A1.rev⟩)
end
end DL
namespace DL
open PySem PySem.Spec PyProof.Rows L2
/-! ### statements -/
/-- own lists that no name holds -/
structure Gh (K : PySem.W.Frag) (Hb H : Hp) (gs : List (Addr × List D)) : Prop where
  nd : (gs.map Prod.fst).Nodup
  at_ : ∀ g ∈ gs, Hb g.1 = none ∧ ∃ xs, H g.1 = some (HO.lst xs) ∧ AtAll K Hb xs g.2
inductive FR where
  | ret (d : D) | new (ds : List D) | exc (C : Addr)
  /-- whatever else: of the heap at the entry, the known heap, the heap, the value -/
  | gen (Ψ : Hp → Hp → Hp → V → Prop)
structure DE where
  nx : List Sl → Prop
  rt : FR → Prop
  bk : List Sl → Prop := fun _ => False
  ct : List Sl → Prop := fun _ => False
  ex : Addr → List Sl → Prop
/-- what lies behind, seen from the entry -/
structure Back (H0 : Ent) (Hb H : Hp) : Prop where
  h : Same H0.h H
  b : Same H0.b Hb
  s : Same Hb H
  n : ∀ a, H0.b a = none → H0.h a ≠ none → Hb a = none
theorem Rel.back {K : PySem.W.Frag} {H0 : Ent} {ρ : List Sl} {σ : L2.St} {Hb H : Hp} (R : Rel K H0 ρ σ Hb H) : Back H0 Hb H := ⟨R.b0, R.bb, R.b1, R.bn⟩
def RetAt (K : PySem.W.Frag) (H0 : Ent) (r : FR) (v : V) (H : Hp) : Prop := match r with
  | .ret d => ∃ Hb, Back H0 Hb H ∧ At K Hb v d
  | .new ds => ∃ p xs Hb, v = .ref p ∧ H0.h p = none ∧ Back H0 Hb H ∧ Hb p = none ∧ H p = some (.lst xs) ∧ AtAll K Hb xs ds
  | .exc _ => False
  | .gen Ψ => ∃ Hb, Back H0 Hb H ∧ Ψ H0.h Hb H v
def endsD (K : PySem.W.Frag) (H0 : Ent) (E : DE) : Ends where
  nx := fun σ H => ∃ ρ Hb, E.nx ρ ∧ Rel K H0 ρ σ Hb H
  rt := fun v H => ∃ r, E.rt r ∧ RetAt K H0 r v H
  bk := fun σ H => ∃ ρ Hb, E.bk ρ ∧ Rel K H0 ρ σ Hb H
  ct := fun σ H => ∃ ρ Hb, E.ct ρ ∧ Rel K H0 ρ σ Hb H
def RX (X : Cx) (W : WX) (H0 : Ent) (ex : Addr → List Sl → Prop) : Prop := ∀ (C : Addr) (ρ : List Sl) (σ : L2.St) (Hb H : Hp), ex C ρ → Rel X.K H0 ρ σ Hb H → W (.ref C) none σ H
def SW (X : Cx) (W : WX) (ρ : List Sl) (sts : List Stmt) (E : DE) : Prop := ∀ (H0 : Ent) (σ : L2.St) (Hb H : Hp), Rel X.K H0 ρ σ Hb H → RX X W H0 E.ex → WSs X sts (endsD X.K H0 E) σ H
def S1 (X : Cx) (W : WX) (ρ : List Sl) (st : Stmt) (E : DE) : Prop := ∀ (H0 : Ent) (σ : L2.St) (Hb H : Hp), Rel X.K H0 ρ σ Hb H → RX X W H0 E.ex → WS X st (endsD X.K H0 E) σ H
theorem SP.imp {X : Cx} {pins : List (Addr × Obj)} {D D' : Ends} {f : Flow} {s : Shared} (h : SP X pins D f s) (h1 : ∀ σ H, D.nx σ H → D'.nx σ H) (h2 : ∀ v H, D.rt v H → D'.rt v H) (h3 : ∀ σ H, D.bk σ H → D'.bk σ H) (h4 : ∀ σ H, D.ct σ H → D'.ct σ H) : SP X pins D' f s := by
  cases f with
  | next => obtain ⟨σ, H, I, q⟩ := h; exact ⟨σ, H, I, h1 _ _ q⟩
  | brk => obtain ⟨σ, H, I, q⟩ := h; exact ⟨σ, H, I, h3 _ _ q⟩
  | cont => obtain ⟨σ, H, I, q⟩ := h; exact ⟨σ, H, I, h4 _ _ q⟩
  | ret u => obtain ⟨v, σ, H, I, r, q⟩ := h; exact ⟨v, σ, H, I, r, h2 _ _ q⟩
theorem WSs.mono {X : Cx} {sts : List Stmt} {D D' : Ends} {σ : L2.St} {H : Hp} (h : WSs X sts D σ H) (h1 : ∀ σ H, D.nx σ H → D'.nx σ H) (h2 : ∀ v H, D.rt v H → D'.rt v H) (h3 : ∀ σ H, D.bk σ H → D'.bk σ H) (h4 : ∀ σ H, D.ct σ H → D'.ct σ H) : WSs X sts D' σ H :=
  ⟨fun pins s I => thn (h.go pins s I) fun _ _ q => SP.imp q h1 h2 h3 h4⟩
theorem WS.mono {X : Cx} {st : Stmt} {D D' : Ends} {σ : L2.St} {H : Hp} (h : WS X st D σ H) (h1 : ∀ σ H, D.nx σ H → D'.nx σ H) (h2 : ∀ v H, D.rt v H → D'.rt v H) (h3 : ∀ σ H, D.bk σ H → D'.bk σ H) (h4 : ∀ σ H, D.ct σ H → D'.ct σ H) : WS X st D' σ H :=
  ⟨fun pins s I => thn (h.go pins s I) fun _ _ q => SP.imp q h1 h2 h3 h4⟩

section
variable {X : Cx} {W : WX} {ρ : List Sl} {E : DE} {N : List Str} {sc : Scope} {k : Nat} {a b e : Expr} {es : List Expr} {pos p px : Pos} {rest : List Stmt} {st : Stmt} {sts : List Stmt}
abbrev exz (E : DE) (ρ : List Sl) : DZ := fun C => E.ex C ρ
theorem RX.z {H0 : Ent} {σ : L2.St} {Hb H : Hp} (x : RX X W H0 E.ex) : RZ X W H0 ρ σ Hb H (exz E ρ) := fun C Hb' H' z R _ => x C ρ σ Hb' H' z R
theorem sw_nil (h : E.nx ρ) : SW X W ρ [] E := fun H0 σ Hb H R x => WSs.of pss_nil ⟨ρ, Hb, h, R⟩
/-- what follows a statement -/
abbrev thenD (X : Cx) (W : WX) (rest : List Stmt) (E : DE) : DE := { nx := fun ρ => SW X W ρ rest E, rt := E.rt, bk := E.bk, ct := E.ct, ex := E.ex }
theorem sw_cons (h : S1 X W ρ st (thenD X W rest E)) : SW X W ρ (st :: rest) E := fun H0 σ Hb H R x =>
  WSs.of (pss_cons ps_w pss_w) (WS.mono (h H0 σ Hb H R x) (fun σ' H' ⟨ρ', Hb', f, R'⟩ => f H0 σ' Hb' H' R' x) (fun _ _ q => q) (fun _ _ q => q) (fun _ _ q => q))
theorem sw_mono {E' : DE} (h : SW X W ρ sts E) (h1 : ∀ ρ, E.nx ρ → E'.nx ρ) (h2 : ∀ r, E.rt r → E'.rt r) (h3 : ∀ ρ, E.bk ρ → E'.bk ρ) (h4 : ∀ ρ, E.ct ρ → E'.ct ρ) (h5 : ∀ C ρ, E.ex C ρ → E'.ex C ρ) : SW X W ρ sts E' := fun H0 σ Hb H R x =>
  WSs.mono (h H0 σ Hb H R fun C ρ σ Hb H z R => x C ρ σ Hb H (h5 C ρ z) R) (fun _ _ ⟨ρ', Hb', f, R'⟩ => ⟨ρ', Hb', h1 _ f, R'⟩) (fun _ _ ⟨r, f, q⟩ => ⟨r, h2 _ f, q⟩) (fun _ _ ⟨ρ', Hb', f, R'⟩ => ⟨ρ', Hb', h3 _ f, R'⟩) (fun _ _ ⟨ρ', Hb', f, R'⟩ => ⟨ρ', Hb', h4 _ f, R'⟩)
/-- a name takes a datum -/
theorem sw_set (C : CtxD X W N sc k) {i : Nat} {x : Str} (h : EW X W ρ e (fun d => SW X W (ρ.set i (.dat d)) rest E) (exz E ρ)) (hi : N[i]? = some x := by rfl) (hx : Loc sc x := by first | exact .inl rfl | exact .inr rfl)
    (hs : swapsWith e (some (.Name x px)) pos.line X.env = pure false := by rfl) : SW X W ρ (.Assign [.Name x px] e pos :: rest) E := sw_cons fun H0 σ Hb H R x =>
  WS.of (ps_set C.ndX (C.at hi) (C.loc hx) pe_w hs (.inl (C.fnD _))) (h.run R (RX.z x) fun d v Hb' H' f R' s a _ => ⟨_, Hb', f, R'.setD i a⟩)
/-- a name takes a new list -/
theorem sw_setN (C : CtxD X W N sc k) {i : Nat} {x : Str} (h : EN X W ρ e (fun ds => SW X W (ρ.set i (.own ds)) rest E) (exz E ρ)) (hi : N[i]? = some x := by rfl) (hx : Loc sc x := by first | exact .inl rfl | exact .inr rfl)
    (hs : swapsWith e (some (.Name x px)) pos.line X.env = pure false := by rfl) : SW X W ρ (.Assign [.Name x px] e pos :: rest) E := sw_cons fun H0 σ Hb H R x =>
  WS.of (ps_set C.ndX (C.at hi) (C.loc hx) pe_w hs (.inl (C.fnD _))) (h.run R (RX.z x) fun ds p xs Hb' H' f R' s n q A h0 fr _ => ⟨_, Hb', f, R'.setO i n q A h0 fr⟩)
theorem sw_expr (h : EW X W ρ e (fun _ => SW X W ρ rest E) (exz E ρ)) (hs : swapsWith e none pos.line X.env = pure false := by rfl) : SW X W ρ (.Expr e pos :: rest) E := sw_cons fun H0 σ Hb H R x =>
  WS.of (ps_expr pe_w hs) (h.run R (RX.z x) fun d v Hb' H' f R' s a _ => ⟨ρ, Hb', f, R'⟩)
theorem sw_ret (h : EW X W ρ e (fun d => E.rt (.ret d)) (exz E ρ)) : SW X W ρ (.Return (some e) pos :: rest) E := sw_cons fun H0 σ Hb H R x =>
  WS.of (ps_ret pe_w) (h.run R (RX.z x) fun d v Hb' H' f R' s a _ => ⟨.ret d, f, Hb', R'.back, a⟩)
theorem sw_retN (h : EN X W ρ e (fun ds => E.rt (.new ds)) (exz E ρ)) : SW X W ρ (.Return (some e) pos :: rest) E := sw_cons fun H0 σ Hb H R x =>
  WS.of (ps_ret pe_w) (h.run R (RX.z x) fun ds p xs Hb' H' f R' s n q A h0 fr _ => ⟨.new ds, f, p, xs, Hb', rfl, h0, R'.back, n, q, A⟩)
theorem sw_retO (C : Ctx X W N sc k) {i : Nat} {x : Str} {ds : List D} (hρ : ρ[i]? = some (Sl.own ds)) (h : E.rt (.new ds)) (hi : N[i]? = some x := by rfl) (hx : Vis sc x := by first | exact .inl rfl | exact .inr (.inl rfl)) (hd : (x == ("__debug__" : Str)) = false := by decide) (hcd : (x == ("__classdict__" : Str)) = false := by decide) :
    SW X W ρ (.Return (some (.Name x px)) pos :: rest) E := sw_cons fun H0 σ Hb H R _ => by
  obtain ⟨a, xs, e, n, q, A, h0, _⟩ := R.own i _ ds hρ
  exact WS.of (ps_ret (pe_var (C.at hi) (C.vis hx) hd hcd)) ⟨.ref a, e, .new ds, h, a, xs, Hb, rfl, h0, R.back, n, q, A⟩
theorem sw_ret0 (h : E.rt (.ret .non)) : SW X W ρ (.Return none pos :: rest) E := sw_cons fun H0 σ Hb H R _ => WS.of ps_retN ⟨.ret .non, h, Hb, R.back, .non⟩
theorem sw_if {c : Expr} {s1 s2 : List Stmt} (h : TW X W ρ c (fun t => (t = true → SW X W ρ s1 (thenD X W rest E)) ∧ (t = false → SW X W ρ s2 (thenD X W rest E))) (exz E ρ)) : SW X W ρ (.If c s1 s2 pos :: rest) E := sw_cons fun H0 σ Hb H R x =>
  WS.of (ps_if pt_w pss_w pss_w) (h.run R (RX.z x) fun t Hb' H' f R' s _ => by
    cases t with
    | true =>
      rw [if_pos rfl]
      exact f.1 rfl H0 σ Hb' H' R' x
    | false =>
      rw [if_neg Bool.false_ne_true]
      exact f.2 rfl H0 σ Hb' H' R' x)
theorem sw_pass (h : SW X W ρ rest E) : SW X W ρ (.Pass pos :: rest) E := sw_cons fun H0 σ Hb H R _ => WS.of ps_pass ⟨ρ, Hb, h, R⟩
theorem sw_brk (h : E.bk ρ) : SW X W ρ (.Break pos :: rest) E := sw_cons fun H0 σ Hb H R _ => WS.of ps_break ⟨ρ, Hb, h, R⟩
theorem sw_cont (h : E.ct ρ) : SW X W ρ (.Continue pos :: rest) E := sw_cons fun H0 σ Hb H R _ => WS.of ps_continue ⟨ρ, Hb, h, R⟩
/-- x += e, ints -/
theorem sw_augI (C : CtxD X W N sc k) {i : Nat} {x : Str} {m : Int} (hρ : ρ[i]? = some (Sl.dat (.int m))) (h : EW X W ρ e (fun d => ∃ n, d = .int n ∧ SW X W (ρ.set i (.dat (.int (m + n)))) rest E) (exz E ρ)) (hi : N[i]? = some x := by rfl) (hx : Loc sc x := by first | exact .inl rfl | exact .inr rfl) :
    SW X W ρ (.AugAssign (.Name x px) .Add e pos :: rest) E := sw_cons fun H0 σ Hb H R x => by
  obtain ⟨v0, e0, a0⟩ := R.dat i _ hρ
  cases a0
  exact WS.of (ps_aug C.ndX (C.at hi) (C.loc hx) pe_w ip_add (.inl (C.fnD _))) ⟨_, e0, h.run R (RX.z x) fun d v Hb' H' f R' s a _ => by
    obtain ⟨n, rfl, f⟩ := f
    cases a
    exact ⟨m, n, rfl, rfl, _, Hb', f, R'.setD i (.int _)⟩⟩
theorem sw_subI (C : CtxD X W N sc k) {i : Nat} {x : Str} {m : Int} (hρ : ρ[i]? = some (Sl.dat (.int m))) (h : EW X W ρ e (fun d => ∃ n, d = .int n ∧ SW X W (ρ.set i (.dat (.int (m - n)))) rest E) (exz E ρ)) (hi : N[i]? = some x := by rfl) (hx : Loc sc x := by first | exact .inl rfl | exact .inr rfl) :
    SW X W ρ (.AugAssign (.Name x px) .Sub e pos :: rest) E := sw_cons fun H0 σ Hb H R x => by
  obtain ⟨v0, e0, a0⟩ := R.dat i _ hρ
  cases a0
  exact WS.of (ps_aug C.ndX (C.at hi) (C.loc hx) pe_w ip_sub (.inl (C.fnD _))) ⟨_, e0, h.run R (RX.z x) fun d v Hb' H' f R' s a _ => by
    obtain ⟨n, rfl, f⟩ := f
    cases a
    exact ⟨m, n, rfl, rfl, _, Hb', f, R'.setD i (.int _)⟩⟩
/-- x, y = a, b -/
theorem sw_par (C : CtxD X W N sc k) {i j : Nat} {x y : Str} {py pt : Pos} {kt k2 pt2} (h : AW X W ρ [a, b] (fun ds => ∃ d e, ds = [d, e] ∧ SW X W ((ρ.set i (.dat d)).set j (.dat e)) rest E) (exz E ρ))
    (hps : ∀ te : TA, PA X [a, b] te → PS X (.Assign [.Tuple [.Name x px, .Name y py] kt pt] (.Tuple [a, b] k2 pt2) pos) (tPar i j te)) : SW X W ρ (.Assign [.Tuple [.Name x px, .Name y py] kt pt] (.Tuple [a, b] k2 pt2) pos :: rest) E := sw_cons fun H0 σ Hb H R xx =>
  WS.of (hps _ pa_w) (h.run R (RX.z xx) fun ds vs Hb' H' f R' s A _ => by
    obtain ⟨d, e, rfl, f⟩ := f
    cases A with
    | cons a1 A =>
      cases A with
      | cons a2 A =>
        cases A
        exact ⟨_, _, rfl, _, Hb', f, (R'.setD i a1).setD j a2⟩)
/-- x, y = e, a tuple of two -/
theorem sw_unpack (C : CtxD X W N sc k) {i j : Nat} {x y : Str} {py pt : Pos} {kt : Nat} (h : EW X W ρ e (fun d => ∃ d1 d2, d = .tup [d1, d2] ∧ SW X W ((ρ.set i (.dat d1)).set j (.dat d2)) rest E) (exz E ρ)) (hi : N[i]? = some x := by rfl) (hj : N[j]? = some y := by rfl)
    (hx : Loc sc x := by first | exact .inl rfl | exact .inr rfl) (hy : Loc sc y := by first | exact .inl rfl | exact .inr rfl) (hs : swapsWithSole [.Tuple [.Name x px, .Name y py] kt pt] e pos.line X.env = pure false := by rfl) (hw : swappedStores [.Tuple [.Name x px, .Name y py] kt pt] e X.env = pure none := by rfl)
    (hq : ∀ g1 g2, X.calm = true → PG X (.Name x px) g1 → PG X (.Name y py) g2 → PG X (.Tuple [.Name x px, .Name y py] kt pt) (gTup X.K 2 (gCons g1 (gCons g2 gNil))) := by exact fun _ _ hc h1 h2 => pg_tup hc (pgs_cons h1 (pgs_cons h2 pgs_nil))) :
    SW X W ρ (.Assign [.Tuple [.Name x px, .Name y py] kt pt] e pos :: rest) E := sw_cons fun H0 σ Hb H R xx =>
  WS.of (ps_asg pe_w (hq _ _ C.calm (pg_name C.ndX (C.at hi) (C.loc hx) (.inl (C.fnD _))) (pg_name C.ndX (C.at hj) (C.loc hy) (.inl (C.fnD _)))) hs hw) (h.run R (RX.z xx) fun d v Hb' H' f R' s a _ => by
    obtain ⟨d1, d2, rfl, f⟩ := f
    cases a with
    | tup q A =>
      cases A with
      | cons a1 A =>
        cases A with
        | cons a2 A =>
          cases A
          exact ⟨_, _, rfl, same_seqT R'.b1 q.1, rfl, _, _, rfl, _, _, rfl, rfl, _, Hb', f, (R'.setD i a1).setD j a2⟩)
/-- x.append(e), x a list of our own -/
theorem sw_append (C : Ctx X W N sc k) {i : Nat} {x : Str} {qq : Option Addr} {ds : List D} {pa : Pos} (hρ : ρ[i]? = some (Sl.ow qq ds)) (h : EW X W ρ e (fun d => ds.length < sizeLine ∧ SW X W (ρ.set i (.ow qq (ds ++ [d]))) rest E) (exz E ρ)) (hi : N[i]? = some x := by rfl) (hx : Vis sc x := by first | exact .inl rfl | exact .inr (.inl rfl))
    (hd : (x == ("__debug__" : Str)) = false := by decide) (hcd : (x == ("__classdict__" : Str)) = false := by decide)
    (hp : ∀ to te, PE X (.Name x px) to → PA X [e] te → PE X (.Call (.Attribute (.Name x px) "append" pa) [e] [] p) (tBM X.K "list" rAppend to te) := by exact fun _ _ h1 h2 => pe_bm PySem.F.plainAttrs_list PySem.F.slot_list_append PySem.F.type_list_append mt_append h1 h2)
    (he : starEach [e] X.env = (false, eval e X.env) :: starEach [] X.env := by exact star_nst rfl) (hs : swapsWith (.Call (.Attribute (.Name x px) "append" pa) [e] [] p) none pos.line X.env = pure false := by rfl) : SW X W ρ (.Expr (.Call (.Attribute (.Name x px) "append" pa) [e] [] p) pos :: rest) E := sw_cons fun H0 σ Hb H R xx => by
  obtain ⟨l, xs, e1, n, q, A, h0, _⟩ := R.own i qq ds hρ
  refine WS.of (ps_expr (hp _ _ (pe_var (C.at hi) (C.vis hx) hd hcd) (pa_one he)) hs) ⟨.ref l, e1, .inl ⟨rfl, _, .inl (.inl q)⟩, h.run R (RX.z xx) fun d v Hb' H' f R' s a _ => ?_⟩
  obtain ⟨a', ys, e2, n', q', A', _⟩ := R'.own i qq ds hρ
  rw [e1] at e2
  cases e2
  exact ⟨l, ys, v, rfl, rfl, q', by rw [A'.length]; exact f.1, ρ.set i (.ow qq (ds ++ [d])), Hb', f.2, R'.push hρ e1 (A'.append (.cons a .nil))⟩

/-! ### while -/
theorem sw_while (C : Ctx X W N sc k) {c : Expr} {body : List Stmt} (Pv : Nat → List Sl → Prop) {m0 : Nat} (h0 : Pv m0 ρ)
    (hs : ∀ m ρ', Pv m ρ' → TW X W ρ' c (fun t => (t = true → SW X W ρ' body { nx := fun ρ2 => ∃ m', m' < m ∧ Pv m' ρ2, rt := E.rt, bk := fun ρ2 => SW X W ρ2 rest E, ct := fun ρ2 => ∃ m', m' < m ∧ Pv m' ρ2, ex := E.ex }) ∧ (t = false → SW X W ρ' rest E)) (exz E ρ')) :
    SW X W ρ (.While c body [] pos :: rest) E := sw_cons fun H0 σ Hb H R x =>
  WS.of (ps_while C.own pt_w pss_w) ⟨fun m σ' H' => ∃ ρ' Hb', Pv m ρ' ∧ Rel X.K H0 ρ' σ' Hb' H', ⟨m0, ρ, Hb, h0, R⟩, fun m σ' H' ⟨ρ', Hb', pv, R'⟩ => (hs m ρ' pv).run R' (RX.z x) fun t Hb2 H2 f R2 s _ => by
    cases t with
    | true =>
      rw [if_pos rfl]
      exact ⟨fun σ3 H3 => ∃ ρ3 Hb3, (∃ m', m' < m ∧ Pv m' ρ3) ∧ Rel X.K H0 ρ3 σ3 Hb3 H3, fun σ3 H3 ⟨ρ3, Hb3, ⟨m', hm, pv'⟩, R3⟩ => ⟨m', hm, ρ3, Hb3, pv', R3⟩, f.1 rfl H0 σ' Hb2 H2 R2 x⟩
    | false =>
      rw [if_neg Bool.false_ne_true]
      exact ⟨ρ', Hb2, f.2 rfl, R2⟩⟩

/-! ### what is walked -/
structure WalkD (K : PySem.W.Frag) (Hw : Hp) (J : It) (ds : List D) : Prop where
  go : ∀ i H, i < ds.length → Same Hw H → J.go i H
  stop : ∀ H, Same Hw H → J.stop ds.length H
  yld : ∀ i d H x H', ds[i]? = some d → Same Hw H → J.yld i H x H' → ∀ H0 ρ σ Hb, Rel K H0 ρ σ Hb H → Same Hw Hb → ∃ Hb', Rel K H0 ρ σ Hb' H' ∧ Gr Hb H Hb' H' ∧ At K Hb' x d
def IW (X : Cx) (W : WX) (ρ : List Sl) (tg iter : Expr) (Φ : List D → Prop) (Z : DZ) : Prop := ∀ (H0 : Ent) (σ : L2.St) (Hb H : Hp), Rel X.K H0 ρ σ Hb H → RZ X W H0 ρ σ Hb H Z →
  WI X tg iter σ H (fun J H1 => ∃ ds Hw, Φ ds ∧ Rel X.K H0 ρ σ Hw H1 ∧ Gr Hb H Hw H1 ∧ WalkD X.K Hw J ds)
variable {Z : DZ} {tg iter : Expr}
theorem walkD_seq {K : PySem.W.Frag} {Hw : Hp} {J : It} {ds : List D} {xs : List V} {G : Hp → Prop} (w : Walk J xs.length G (YAt xs)) (hG : ∀ H, Same Hw H → G H) (A : AtAll K Hw xs ds) : WalkD K Hw J ds := by
  refine ⟨fun i H hi s => w.goes i H (by rw [A.length]; exact hi) (hG H s), fun H s => by rw [← A.length]; exact w.stops H (hG H s), fun i d H x H' hd s y H0 ρ σ Hb R sb => ?_⟩
  obtain ⟨v, e, a⟩ := A.get hd
  have hi : i < xs.length := (List.getElem?_eq_some_iff.mp e).1
  obtain ⟨rfl, e2⟩ := w.yields i H x H' hi (hG H s) y
  rw [e] at e2
  cases e2
  exact ⟨Hb, R, Gr.refl, a.mono sb⟩
theorem iw_list {Φ : List D → Prop} (h : EW X W ρ iter (fun d => ∃ ds, d = .lst ds ∧ Φ ds) Z) : IW X W ρ tg iter Φ Z := fun H0 σ Hb H R z =>
  WI.of (pi_list pe_w) (h.run R z fun d v Hb1 H1 f1 R1 s1 a1 z1 => by
    obtain ⟨ds, rfl, f1⟩ := f1
    cases a1 with
    | lst q A => exact ⟨_, rfl, ⟨_, .inl (same_rd R1.b1 q)⟩, ds, Hb1, f1, R1, s1, walkD_seq walk_list (fun H s => .inl (same_rd s q)) A⟩)
theorem iw_tup {Φ : List D → Prop} (h : EW X W ρ iter (fun d => ∃ ds, d = .tup ds ∧ Φ ds) Z) : IW X W ρ tg iter Φ Z := fun H0 σ Hb H R z =>
  WI.of (pi_tup pe_w) (h.run R z fun d v Hb1 H1 f1 R1 s1 a1 z1 => by
    obtain ⟨ds, rfl, f1⟩ := f1
    cases a1 with
    | tup q A => exact ⟨_, rfl, ⟨_, same_seqT R1.b1 q.1⟩, ds, Hb1, f1, R1, s1, walkD_seq walk_tup (fun H s => same_seqT s q.1) A⟩)
theorem walkD_fn {K : PySem.W.Frag} {Hw : Hp} {J : It} {n : Nat} {f : Nat → Int} (w : Walk J n (fun _ => True) (YFn fun i => .int (f i))) : WalkD K Hw J ((List.range n).map fun i => D.int (f i)) := by
  have hl : ((List.range n).map fun i => D.int (f i)).length = n := by rw [List.length_map, List.length_range]
  refine ⟨fun i H hi s => w.goes i H (by rw [← hl]; exact hi) trivial, fun H s => by rw [hl]; exact w.stops H trivial, fun i d H x H' hd s y H0 ρ σ Hb R sb => ?_⟩
  have hi : i < n := by
    have := (List.getElem?_eq_some_iff.mp hd).1
    rw [hl] at this
    exact this
  obtain ⟨rfl, rfl⟩ := w.yields i H x H' hi trivial y
  rw [List.getElem?_map, List.getElem?_range hi] at hd
  cases hd
  exact ⟨Hb, R, Gr.refl, .int _⟩
theorem iw_range1 {Φ : List D → Prop} (C : Ctx X W N sc k) (hm : X.mg "range" = none) (h : EW X W ρ a (fun d => ∃ n, d = .int n ∧ -(2 ^ 62) ≤ n ∧ n < 2 ^ 62 ∧ Φ ((List.range n.toNat).map fun i : Nat => D.int i)) Z) (hg : GlN sc "range" := by rfl)
    (hs : starEach [a] X.env = [(false, eval a X.env)] := by rfl) : IW X W ρ tg (.Call (.Name "range" p) [a] [] pos) Φ Z := fun H0 σ Hb H R z =>
  WI.of (pi_range1 (C.gl hg) hm (pa_one (by rw [hs]; rfl)) hs) (h.run R z fun d v Hb1 H1 f1 R1 s1 a1 z1 => by
    obtain ⟨n, rfl, h1, h2, f1⟩ := f1
    cases a1
    refine ⟨n, rfl, h1, h2, _, Hb1, f1, R1, s1, ?_⟩
    have w := walkD_fn (K := X.K) (Hw := Hb1) (f := fun i => (0 : Int) + (i : Nat)) (walk_range (lo := 0) (n := n.toNat))
    simpa only [Int.zero_add] using w)
theorem iw_range2 {Φ : List D → Prop} (C : Ctx X W N sc k) (hm : X.mg "range" = none) (h : EW X W ρ a (fun x => EW X W ρ b (fun y => ∃ i j, x = .int i ∧ y = .int j ∧ (-(2 ^ 62) ≤ i ∧ i < 2 ^ 62 ∧ -(2 ^ 62) ≤ j ∧ j < 2 ^ 62) ∧ Φ ((List.range (j - i).toNat).map fun m => D.int (i + (m : Nat)))) Z) Z) (hg : GlN sc "range" := by rfl)
    (hs : starEach [a, b] X.env = [(false, eval a X.env), (false, eval b X.env)] := by rfl) (hs2 : starEach [b] X.env = [(false, eval b X.env)] := by rfl) : IW X W ρ tg (.Call (.Name "range" p) [a, b] [] pos) Φ Z := fun H0 σ Hb H R z =>
  WI.of (pi_range2 (C.gl hg) hm (pa_cons pe_w (pa_one (by rw [hs2]; rfl)) (by rw [hs, hs2])) hs hs2) (h.run R z fun d v Hb1 H1 f1 R1 s1 a1 z1 => f1.run R1 z1 fun y u Hb2 H2 f2 R2 s2 a2 _ => by
    obtain ⟨i, j, rfl, rfl, hb, f2⟩ := f2
    cases a1
    cases a2
    exact ⟨i, j, rfl, hb, _, Hb2, f2, R2, s1.trans s2, walkD_fn (f := fun m => i + (m : Nat)) walk_range⟩)
theorem iw_range3 {c : Expr} {Φ : List D → Prop} (C : Ctx X W N sc k) (hm : X.mg "range" = none) (h : EW X W ρ a (fun x => EW X W ρ b (fun y => EW X W ρ c (fun w => ∃ (i j l : Int) (n : Nat), x = .int i ∧ y = .int j ∧ w = .int l ∧ RgC i j l n ∧ Φ ((List.range n).map fun m => D.int (i + (m : Nat) * l))) Z) Z) Z) (hg : GlN sc "range" := by rfl)
    (hs : starEach [a, b, c] X.env = (false, eval a X.env) :: starEach [b, c] X.env := by exact star_nst rfl) (hs2 : starEach [b, c] X.env = (false, eval b X.env) :: starEach [c] X.env := by exact star_nst rfl) (hs3 : starEach [c] X.env = (false, eval c X.env) :: starEach [] X.env := by exact star_nst rfl) (hpl : (backTo pos (starEach [b, c] X.env)).any (·.1) = false := by rfl) : IW X W ρ tg (.Call (.Name "range" p) [a, b, c] [] pos) Φ Z := fun H0 σ Hb H R z =>
  WI.of (pi_range3 (C.gl hg) hm (pa_cons pe_w (pa_cons pe_w (pa_one hs3) hs2) hs) hs hpl) (h.run R z fun d v Hb1 H1 f1 R1 s1 a1 z1 => f1.run R1 z1 fun y u Hb2 H2 f2 R2 s2 a2 z2 => f2.run R2 z2 fun y3 u3 Hb3 H3 f3 R3 s3 a3 _ => by
    obtain ⟨i, j, l, n, rfl, rfl, rfl, hb, f3⟩ := f3
    cases a1
    cases a2
    cases a3
    exact ⟨i, j, l, n, rfl, hb, _, Hb3, f3, R3, (s1.trans s2).trans s3, walkD_fn (f := fun m => i + (m : Nat) * l) walk_rangeC⟩)
/-- enumerate(list) -/
def enumD : Nat → List D → List D
  | _, [] => []
  | n, d :: ds => .pr (.int n) d :: enumD (n + 1) ds
theorem enumD_length : ∀ (n : Nat) (ds : List D), (enumD n ds).length = ds.length
  | _, [] => rfl
  | n, d :: ds => by rw [enumD, List.length_cons, List.length_cons, enumD_length (n + 1) ds]
theorem enumD_get : ∀ (n : Nat) (ds : List D) (i : Nat), (enumD n ds)[i]? = (ds[i]?).map fun d => .pr (.int ((n + i : Nat) : Int)) d
  | _, [], i => by rw [enumD]; rfl
  | n, d :: ds, 0 => by rw [enumD]; rfl
  | n, d :: ds, i + 1 => by
    rw [enumD, List.getElem?_cons_succ, List.getElem?_cons_succ, enumD_get (n + 1) ds i, Nat.add_right_comm n 1 i]
    rfl
theorem iw_enum {elts : List Expr} {kk : Nat} {tpos : Pos} {Φ : List D → Prop} (C : Ctx X W N sc k) (hm : X.mg "enumerate" = none) (h : EW X W ρ e (fun d => ∃ ds, d = .lst ds ∧ Φ (enumD 0 ds)) Z) (hg : GlN sc "enumerate" := by rfl)
    (hs : starEach [e] X.env = [(false, eval e X.env)] := by rfl) : IW X W ρ (.Tuple elts kk tpos) (.Call (.Name "enumerate" p) [e] [] pos) Φ Z := fun H0 σ Hb H R z =>
  WI.of (pi_enum (C.gl hg) hm (pa_one (by rw [hs]; rfl)) hs) (h.run R z fun d v Hb1 H1 f1 R1 s1 a1 z1 => by
    obtain ⟨ds, rfl, f1⟩ := f1
    cases a1 with
    | @lst a xs _ q A =>
      refine ⟨_, _, rfl, .inl (same_rd R1.b1 q), _, Hb1, f1, R1, s1, ?_⟩
      have w := walk_enum (K := X.K) (a := a) (xs := xs)
      have hG : ∀ H, Same Hb1 H → SqL X.K H a xs := fun H s => .inl (same_rd s q)
      refine ⟨fun i H hi s => w.goes i H (by rw [A.length]; rw [enumD_length] at hi; exact hi) (hG H s), fun H s => by rw [enumD_length, ← A.length]; exact w.stops H (hG H s), fun i d H x H' hd s y H0 ρ σ Hb R sb => ?_⟩
      rw [enumD_get, Nat.zero_add] at hd
      cases hd1 : ds[i]? with
      | none => rw [hd1] at hd; cases hd
      | some d1 =>
        rw [hd1] at hd
        cases hd
        obtain ⟨v, e, a2⟩ := A.get hd1
        have hi : i < xs.length := (List.getElem?_eq_some_iff.mp e).1
        obtain ⟨T, x1, x2, rfl, nT, rfl, e1, e2⟩ := w.yields i H x H' hi (hG H s) y
        cases e1
        have e2 : xs[i]? = some x2 := e2
        rw [e] at e2
        cases e2
        exact ⟨_, R.alloc nT, ⟨same_upd (R.b1.free nT), same_upd nT⟩, .pr (SqT.of upd_same) (.int _) (a2.mono (sb.trans (same_upd (R.b1.free nT))))⟩)
/-- reversed(list), reversed(tuple) -/
theorem iw_rev {Φ : List D → Prop} (C : Ctx X W N sc k) (hm : X.mg "reversed" = none) (h : EW X W ρ e (fun d => ∃ ds, (d = .lst ds ∨ d = .tup ds) ∧ Φ ds.reverse) Z) (hg : GlN sc "reversed" := by rfl)
    (hs : starEach [e] X.env = (false, eval e X.env) :: starEach [] X.env := by exact star_nst rfl) : IW X W ρ tg (.Call (.Name "reversed" p) [e] [] pos) Φ Z := fun H0 σ Hb H R z =>
  WI.of (RT.pi_revA (C.gl hg) hm pe_w hs) (h.run R z fun d v Hb1 H1 f1 R1 s1 a1 z1 => by
    obtain ⟨ds, f0, f1⟩ := f1
    have key : ∀ {xs : List V}, AtAll X.K Hb1 xs ds → ∀ {i : Nat} {d : D} {x : V}, ds.reverse[i]? = some d → xs[xs.length - 1 - i]? = some x → At X.K Hb1 x d := fun {xs} A {i d x} hd hx => by
      have hi : i < ds.length := by
        have := (List.getElem?_eq_some_iff.mp hd).1
        rwa [List.length_reverse] at this
      rw [List.getElem?_reverse hi] at hd
      obtain ⟨v, e, a⟩ := A.get hd
      rw [A.length] at hx
      rw [e] at hx
      cases hx
      exact a
    rcases f0 with rfl | rfl
    · cases a1 with
      | @lst a xs _ q A =>
        refine ⟨a, xs, rfl, .inl ⟨.inl (same_rd R1.b1 q), _, Hb1, f1, R1, s1, ?_⟩⟩
        have w := walk_rev (K := X.K) (a := a) (xs := xs)
        have hG : ∀ H, Same Hb1 H → SqL X.K H a xs := fun H s => .inl (same_rd s q)
        have hl : ds.reverse.length = xs.length := by rw [List.length_reverse, A.length]
        refine ⟨fun i H hi s => w.goes i H (by rw [← hl]; exact hi) (hG H s), fun H s => by rw [hl]; exact w.stops H (hG H s), fun i d H x H' hd s y H0 ρ σ Hb R sb => ?_⟩
        have hi : i < xs.length := by
          rw [← hl]
          exact (List.getElem?_eq_some_iff.mp hd).1
        obtain ⟨rfl, e2⟩ := w.yields i H x H' hi (hG H s) y
        exact ⟨Hb, R, Gr.refl, (key A hd e2).mono sb⟩
    · cases a1 with
      | @tup a xs _ q A =>
        refine ⟨a, xs, rfl, .inr ⟨same_seqT R1.b1 q.1, _, Hb1, f1, R1, s1, ?_⟩⟩
        have hG : ∀ H, Same Hb1 H → SqT X.K H a xs := fun H s => same_seqT s q.1
        have hl : ds.reverse.length = xs.length := by rw [List.length_reverse, A.length]
        refine ⟨fun i H hi s => ⟨by rw [← hl]; exact hi, xs, xs[xs.length - 1 - i]'(by omega), hG H s, by simp [show xs.length - 1 - i < xs.length by omega]⟩, fun H s => by rw [hl]; exact Nat.le_refl _, fun i d H x H' hd s y H0 ρ σ Hb R sb => ?_⟩
        obtain ⟨rfl, e2⟩ := y
        exact ⟨Hb, R, Gr.refl, (key A hd (e2 xs (hG H' s))).mono sb⟩)
/-- reversed(range(n)) -/
theorem iw_revR {p2 pos2 : Pos} {Φ : List D → Prop} (C : Ctx X W N sc k) (hm : X.mg "reversed" = none) (hm2 : X.mg "range" = none) (h : EW X W ρ a (fun d => ∃ n : Nat, d = .int n ∧ n < 2 ^ 62 ∧ Φ ((List.range n).map fun i => D.int ((n : Int) - 1 - (i : Nat)))) Z) (hg : GlN sc "reversed" := by rfl) (hg2 : GlN sc "range" := by rfl)
    (hs : starEach [a] X.env = (false, eval a X.env) :: starEach [] X.env := by exact star_nst rfl) : IW X W ρ tg (.Call (.Name "reversed" p) [.Call (.Name "range" p2) [a] [] pos2] [] pos) Φ Z := fun H0 σ Hb H R z =>
  WI.of (pi_revR (C.gl hg) hm (prg_1 (C.gl hg2) hm2 pe_w hs) rfl) (h.run R z fun d v Hb1 H1 f1 R1 s1 a1 z1 => by
    obtain ⟨n, rfl, h2, f1⟩ := f1
    cases a1
    refine ⟨n, rfl, by omega, by omega, by omega, by omega, _, Hb1, f1, R1, s1, ?_⟩
    have e1 : ((n : Int) - 0).toNat = n := by omega
    rw [e1]
    have w := walkD_fn (K := X.K) (Hw := Hb1) (f := fun i => (0 + (n : Int) - 1) + (i : Nat) * (-1)) (walk_rangeC (lo := 0 + (n : Int) - 1) (c := -1) (n := n))
    have e2 : (fun i : Nat => D.int ((n : Int) - 1 - (i : Nat))) = fun i : Nat => D.int ((0 + (n : Int) - 1) + (i : Nat) * (-1)) := by
      funext i
      congr 1
      omega
    rw [e2]
    exact w)

/-! ### for -/
/-- the target: a name, or a pair of names -/
inductive Tg (N : List Str) (sc : Scope) : Expr → (D → List Sl → Option (List Sl)) → Prop where
  | name {x : Str} {px : Pos} (i : Nat) (hi : N[i]? = some x) (hx : Loc sc x) : Tg N sc (.Name x px) (fun d ρ => some (ρ.set i (.dat d)))
  | pair {x y : Str} {px py pt : Pos} {kt : Nat} (i j : Nat) (hi : N[i]? = some x) (hj : N[j]? = some y) (hx : Loc sc x) (hy : Loc sc y) : Tg N sc (.Tuple [.Name x px, .Name y py] kt pt) (fun d ρ => match d with
      | .tup [d1, d2] => some ((ρ.set i (.dat d1)).set j (.dat d2))
      | .pr d1 d2 => some ((ρ.set i (.dat d1)).set j (.dat d2))
      | _ => none)
def gTg {N : List Str} {sc : Scope} : {tg : Expr} → {f : D → List Sl → Option (List Sl)} → Tg N sc tg f → True := fun _ => trivial
theorem Tg.ok (C : CtxD X W N sc k) {f : D → List Sl → Option (List Sl)} (T : Tg N sc tg f) : ∃ g, PG X tg g ∧ ∀ (H0 : Ent) (σ : L2.St) (Hb H : Hp) (ρ : List Sl) (d : D) (v : V) (ρ' : List Sl) (Q : L2.St → Hp → Prop), Rel X.K H0 ρ σ Hb H → At X.K Hb v d → f d ρ = some ρ' → (∀ σ', Rel X.K H0 ρ' σ' Hb H → Q σ' H) → g v σ H Q := by
  cases T with
  | name i hi hx => exact ⟨gName i, pg_name C.ndX (C.at hi) (C.loc hx) (.inl (C.fnD _)), fun H0 σ Hb H ρ d v ρ' Q R a e q => by
      cases e
      exact q _ (R.setD i a)⟩
  | pair i j hi hj hx hy => exact ⟨_, pg_tup C.calm (pgs_cons (pg_name C.ndX (C.at hi) (C.loc hx) (.inl (C.fnD _))) (pgs_cons (pg_name C.ndX (C.at hj) (C.loc hy) (.inl (C.fnD _))) pgs_nil)), fun H0 σ Hb H ρ d v ρ' Q R a e q => by
      cases a with
      | tup qs A =>
        cases A with
        | nil => cases e
        | cons a1 A =>
          cases A with
          | nil => cases e
          | cons a2 A =>
            cases A with
            | cons _ _ => cases e
            | nil =>
              cases e
              exact ⟨_, _, rfl, same_seqT R.b1 qs.1, rfl, _, _, rfl, _, _, rfl, rfl, q _ ((R.setD i a1).setD j a2)⟩
      | pr qs a1 a2 =>
        cases e
        exact ⟨_, _, rfl, same_seqT R.b1 qs, rfl, _, _, rfl, _, _, rfl, rfl, q _ ((R.setD i a1).setD j a2)⟩
      | _ => cases e⟩
theorem sw_for (C : CtxD X W N sc k) {body : List Stmt} {f : D → List Sl → Option (List Sl)} (T : Tg N sc tg f)
    (h : IW X W ρ tg iter (fun ds => ∃ Pv : Nat → List Sl → Prop, Pv 0 ρ ∧
      (∀ i d ρ', ds[i]? = some d → Pv i ρ' → ∃ ρ2, f d ρ' = some ρ2 ∧ SW X W ρ2 body { nx := Pv (i + 1), rt := E.rt, bk := fun ρ2 => SW X W ρ2 rest E, ct := Pv (i + 1), ex := E.ex }) ∧ (∀ ρ', Pv ds.length ρ' → SW X W ρ' rest E)) (exz E ρ))
    (hs : ∀ x, foldedSetIterable iter X.env x = pure x := by intro _; rfl) : SW X W ρ (.For tg iter body [] pos :: rest) E := sw_cons fun H0 σ Hb H R x => by
  obtain ⟨g, pg, hg⟩ := T.ok C
  refine WS.of (ps_for C.own C.calm pi_w pg pss_w hs) (WI.mono (h H0 σ Hb H R (RX.z x)) fun J H1 ⟨ds, Hw, ⟨Pv, p0, step, done⟩, R1, s1, w⟩ => ?_)
  refine ⟨fun i m σ' H' => m = ds.length - i ∧ i ≤ ds.length ∧ ∃ ρ' Hb', Pv i ρ' ∧ Rel X.K H0 ρ' σ' Hb' H' ∧ Same Hw Hb', ⟨_, rfl, Nat.zero_le _, ρ, Hw, p0, R1, Same.refl _⟩, ?_⟩
  rintro i m σ' H' ⟨rfl, hi, ρ', Hb', pv, R', sw⟩
  by_cases hlt : i < ds.length
  · refine .inr ⟨w.go i H' hlt (sw.trans R'.b1), fun σ3 H3 => ∃ ρ3 Hb3, Pv (i + 1) ρ3 ∧ Rel X.K H0 ρ3 σ3 Hb3 H3 ∧ Same Hw Hb3, fun σ3 H3 ⟨ρ3, Hb3, pv3, R3, sw3⟩ => ⟨ds.length - (i + 1), by omega, rfl, hlt, ρ3, Hb3, pv3, R3, sw3⟩, fun v H2 y => ?_⟩
    obtain ⟨Hb2, R2, g2, a2⟩ := w.yld i ds[i] H' v H2 (List.getElem?_eq_getElem hlt) (sw.trans R'.b1) y H0 ρ' σ' Hb' R' sw
    obtain ⟨ρ2, e2, S⟩ := step i ds[i] ρ' (List.getElem?_eq_getElem hlt) pv
    have swb := sw.trans g2.b
    refine hg H0 σ' Hb2 H2 ρ' ds[i] v ρ2 _ R2 a2 e2 fun σ2 R2' => ?_
    -- the body, entered anew so that what is walked stays known
    have key := S ⟨H0.h, Hb2⟩ σ2 Hb2 H2 ⟨R2'.b0, Same.refl _, fun a n _ => n, R2'.b1, R2'.dat, R2'.own, R2'.sep, R2'.len, R2'.tb⟩ (fun C ρ4 σ4 Hb4 H4 z R4 => x C ρ4 σ4 Hb4 H4 z ⟨R4.b0, R2'.bb.trans R4.bb, fun a n0 n1 => R4.bn a (R2'.bn a n0 n1) n1, R4.b1, R4.dat, R4.own, R4.sep, R4.len, R4.tb⟩)
    have up : ∀ {ρ4 : List Sl} {σ4 : L2.St} {Hb4 H4 : Hp}, Rel X.K ⟨H0.h, Hb2⟩ ρ4 σ4 Hb4 H4 → Rel X.K H0 ρ4 σ4 Hb4 H4 := fun {ρ4 σ4 Hb4 H4} R4 => ⟨R4.b0, R2'.bb.trans R4.bb, fun a n0 n1 => R4.bn a (R2'.bn a n0 n1) n1, R4.b1, R4.dat, R4.own, R4.sep, R4.len, R4.tb⟩
    have upB : ∀ {Hb4 H4 : Hp}, Back ⟨H0.h, Hb2⟩ Hb4 H4 → Back H0 Hb4 H4 := fun {Hb4 H4} B => ⟨B.h, R2'.bb.trans B.b, B.s, fun a n0 n1 => B.n a (R2'.bn a n0 n1) n1⟩
    refine WSs.mono key (fun σ4 H4 ⟨ρ4, Hb4, f4, R4⟩ => ⟨ρ4, Hb4, f4, up R4, swb.trans R4.bb⟩) (fun v4 H4 ⟨r, f4, q⟩ => ⟨r, f4, ?_⟩) (fun σ4 H4 ⟨ρ4, Hb4, f4, R4⟩ => ⟨ρ4, Hb4, f4, up R4⟩) (fun σ4 H4 ⟨ρ4, Hb4, f4, R4⟩ => ⟨ρ4, Hb4, f4, up R4, swb.trans R4.bb⟩)
    cases r with
    | ret d => obtain ⟨Hb5, B, a5⟩ := q; exact ⟨Hb5, upB B, a5⟩
    | new es => obtain ⟨p5, xs5, Hb5, e5, h5, B, n5, q5, A5⟩ := q; exact ⟨p5, xs5, Hb5, e5, h5, upB B, n5, q5, A5⟩
    | exc _ => exact q.elim
    | gen Ψ => obtain ⟨Hb5, B, q5⟩ := q; exact ⟨Hb5, upB B, q5⟩
  · have e : i = ds.length := by omega
    subst e
    exact .inl ⟨w.stop H' (sw.trans R'.b1), ρ', Hb', done ρ' pv, R'⟩
end
end DL
namespace DL
open PySem PySem.Spec PyProof.Rows L2
/-! ### defs and their calls -/
def FRk (K : PySem.W.Frag) (Hb H : Hp) (r : FR) (Q : VK) (E : XK) : Prop := match r with
  | .ret d => ∀ v Hb' H', Back ⟨H, Hb⟩ Hb' H' → At K Hb' v d → Q v H'
  | .new ds => ∀ p xs Hb' H', H p = none → Back ⟨H, Hb⟩ Hb' H' → Hb' p = none → H' p = some (.lst xs) → AtAll K Hb' xs ds → Q (.ref p) H'
  | .exc C => ∀ H', Same H H' → E (.ref C) none H'
  | .gen Ψ => ∀ v H', RetAt K ⟨H, Hb⟩ (.gen Ψ) v H' → Q v H'
/-- a def's promise over data -/
def spF (K : PySem.W.Frag) (n : Nat) (S : List D → FR → Prop) : Sp := fun vs H Q E => ∃ ds r Hb, vs.length = n ∧ Same Hb H ∧ AtAll K Hb vs ds ∧ S ds r ∧ FRk K Hb H r Q E
/-- what stands at f keeps it (what is not handed in is filled up) -/
structure Fn (P : Program) (w : World) (K : PySem.W.Frag) (mg : Str → Option Value) (base : Heap) (f : Addr) (k n : Nat) (S : List D → FR → Prop) : Prop where
  ex : ∃ fd ps sp ds dvs, FnOk P w K mg base (L2.CX P w) k f fd ps sp ∧ PySem.W.keepIn K (.ref f) = true ∧ Binds K fd ps ds ∧ Vals dvs ds ∧ ∀ vs H Q E, spF K n S vs H Q E → sp (vs ++ dvs) H Q E
abbrev FnX (X : Cx) (f : Addr) (k n : Nat) (S : List D → FR → Prop) : Prop := Fn X.prog X.w X.K X.mg X.base f k n S
theorem Fn.imp {P : Program} {w : World} {K : PySem.W.Frag} {mg : Str → Option Value} {base : Heap} {f : Addr} {k n : Nat} {S S' : List D → FR → Prop} (F : Fn P w K mg base f k n S) (h : ∀ ds r, S' ds r → S ds r) : Fn P w K mg base f k n S' := by
  obtain ⟨fd, ps, sp, ds, dvs, h1, h2, h3, h4, h5⟩ := F.ex
  exact ⟨fd, ps, sp, ds, dvs, h1, h2, h3, h4, fun vs H Q E ⟨ds, r, Hb, e, s, A, z, q⟩ => h5 vs H Q E ⟨ds, r, Hb, e, s, A, h _ _ z, q⟩⟩
section
variable {X : Cx} {W : WX} {ρ : List Sl} {Z : DZ} {N : List Str} {sc : Scope} {k j n : Nat} {a b e : Expr} {es : List Expr} {pos p : Pos} {Φ : D → Prop} {f : Addr} {S : List D → FR → Prop} {x : Str}
theorem Rel.called {K : PySem.W.Frag} {H0 : Ent} {σ : L2.St} {Hb H Hb' H' : Hp} (R : Rel K H0 ρ σ Hb H) (B : Back ⟨H, Hb⟩ Hb' H') : Rel K H0 ρ σ Hb' H' := by
  refine ⟨R.b0.trans B.h, R.bb.trans B.b, fun a n0 n1 => B.n a (R.bn a n0 n1) (fun z => n1 (R.b0.free z)), B.s, fun i d h => ?_, fun i qq ds h => ?_, R.sep, R.len, fun i P qn h => let ⟨t, t1, t2⟩ := R.tb i P qn h; ⟨tabS_same t B.h, B.n P t1 (fun z => by obtain ⟨_, w, _⟩ := t; rw [show H P = none from z] at w; cases w), t2⟩⟩
  · obtain ⟨v, e, a⟩ := R.dat i d h
    exact ⟨v, e, a.mono B.b⟩
  · obtain ⟨a, xs, e, n, q, A, h0⟩ := R.own i qq ds h
    exact ⟨a, xs, e, B.n a n (fun z => by rw [show H a = none from z] at q; cases q), B.h _ _ q, A.mono B.b, h0⟩
/-- the callee runs, defaults filled up, the wish by the slots -/
theorem run_fnG {CX : CXT} {fd : FuncData} {ps : List Str} {sp : Sp} {ds : List Value} {dvs : List V} {E : XK} {pins : List (Addr × Obj)} {σ : L2.St} {H : Hp} {s : Shared} {Q : VK} {us : List Value} {vs : List V} (F : FnOk X.prog X.w X.K X.mg X.base CX k f fd ps sp) (hr : Room k X.A) (hb : Binds X.K fd ps ds) (hd : Vals dvs ds) (hx : PassesAt CX X σ E)
    (I : Inv X pins σ H s) (r : Vals vs us) (h : sp (vs ++ dvs) H Q E) : wpAny (model X.prog X.w) X.A (call (.ref f) us) (EP X pins σ Q) X.xe s := by
  have r2 : Vals (vs ++ dvs) (us ++ ds) := r.append hd
  have hl : (us ++ ds).length = ps.length := by rw [← r2.length]; exact F.len _ _ _ _ h
  refine wpAny_call (codeAny_mono (F.run X.A X.stack s H ⟨us, []⟩ (us ++ ds) (vs ++ dvs) Q E hr I.env0 (hb s us I.kIn hl) r2 h) fun r s' hq => ?_)
  cases r with
  | error e => exact hx pins H s e s' I hq
  | ok fl =>
    cases fl with
    | ret u => exact I.after hq
    | next => exact False.elim hq
    | brk => exact False.elim hq
    | cont => exact False.elim hq
abbrev xk (W : WX) (σ : L2.St) : XK := fun cls d H => W cls d σ H
theorem pe_fn (C : Ctx X W N sc k) (F : FnX X f j n S) (hj : j ≤ k) (hg : GlN sc x) (hm : X.mg x = some (.ref f)) (hdb : (x == ("__debug__" : Str)) = false)
    (he : starEach (e :: es) X.env = (false, eval e X.env) :: starEach es X.env) (hpl : (backTo pos (starEach es X.env)).any (·.1) = false) :
    PE X (.Call (.Name x p) (e :: es) [] pos) (fun σ H Q => WA X (e :: es) σ H fun vs H1 => spF X.K n S vs H1 Q (xk W σ)) := by
  obtain ⟨fd, ps, sp, ds, dvs, h1, h2, h3, h4, h5⟩ := F.ex
  refine ⟨fun pins s σ H Q I h => ?_⟩
  refine wpAny_Call_Name_kw (ld_glob I (C.gl hg) hm ?_ hdb)
  refine PySem.W.callWith_K (h₀ := X.base) I.ok.mod.kin h2 (thn (h.go pos pins s I) fun us s1 ⟨vs, H1, I1, r, q⟩ => ⟨I1.kIn, ?_⟩) he hpl
  exact run_fnG h1 (C.room.mono hj) h3 h4 (passAt C.tk σ) I1 r (h5 _ _ _ _ q)
theorem pe_fn0 (C : Ctx X W N sc k) (F : FnX X f j 0 S) (hj : j ≤ k) (hg : GlN sc x) (hm : X.mg x = some (.ref f)) (hdb : (x == ("__debug__" : Str)) = false) :
    PE X (.Call (.Name x p) [] [] pos) (fun σ H Q => spF X.K 0 S [] H Q (xk W σ)) := by
  obtain ⟨fd, ps, sp, ds, dvs, h1, h2, h3, h4, h5⟩ := F.ex
  refine ⟨fun pins s σ H Q I h => ?_⟩
  refine wpAny_Call_Name_kw (ld_glob I (C.gl hg) hm ?_ hdb)
  exact PySem.W.callWith_K0 I.kIn h2 (run_fnG (us := []) h1 (C.room.mono hj) h3 h4 (passAt C.tk σ) I .nil (h5 _ _ _ _ h))
/-- a call of what a name of the def holds -/
theorem pe_fnL (C : Ctx X W N sc k) (F : FnX X f j n S) (hj : j ≤ k) {i : Nat} (hN : N[i]? = some x) (hv : Vis sc x) (hdb : (x == ("__debug__" : Str)) = false) (hcd : (x == ("__classdict__" : Str)) = false)
    (he : starEach (e :: es) X.env = (false, eval e X.env) :: starEach es X.env) (hpl : (backTo pos (starEach es X.env)).any (·.1) = false) :
    PE X (.Call (.Name x p) (e :: es) [] pos) (fun σ H Q => σ[i]? = some (some (.ref f)) ∧ WA X (e :: es) σ H fun vs H1 => spF X.K n S vs H1 Q (xk W σ)) := by
  obtain ⟨fd, ps, sp, ds, dvs, h1, h2, h3, h4, h5⟩ := F.ex
  refine ⟨fun pins s σ H Q I h => ?_⟩
  obtain ⟨hs, ht⟩ := h
  refine wpAny_Call_Name_kw (thn ((pe_var (pos := p) (C.at hN) (C.vis hv) hdb hcd).run pins s σ H (fun v H1 => v = .ref f ∧ H1 = H) I ⟨.ref f, hs, rfl, rfl⟩) fun u s1 ⟨v, H1, I1, r1, q1⟩ => ?_)
  obtain ⟨rfl, rfl⟩ := q1
  cases r1
  refine PySem.W.callWith_K (h₀ := X.base) I.ok.mod.kin h2 (thn (ht.go pos pins s1 I1) fun us s2 ⟨vs, H2, I2, r, q⟩ => ⟨I2.kIn, ?_⟩) he hpl
  exact run_fnG h1 (C.room.mono hj) h3 h4 (passAt C.tk σ) I2 r (h5 _ _ _ _ q)
/-- what the caller has of an answer -/
def FRd (Φ : D → Prop) (Z : DZ) : FR → Prop
  | .ret d => Φ d
  | .new ds => Φ (.lst ds)
  | .exc C => Z C
  | _ => False
def FRn (Φ : List D → Prop) (Z : DZ) : FR → Prop
  | .ret _ => False
  | .new ds => Φ ds
  | .exc C => Z C
  | _ => False
theorem frk_E {H0 : Ent} {σ : L2.St} {Hb0 H00 Hb H : Hp} {r : FR} (R : Rel X.K H0 ρ σ Hb H) (g : Gr Hb0 H00 Hb H) (z : RZ X W H0 ρ σ Hb H Z) (f : FRd Φ Z r) : FRk X.K Hb H r (PostE X.K H0 ρ σ Hb0 H00 Φ) (xk W σ) := by
  cases r with
  | ret d => exact fun v Hb' H' B a => endE f (R.called B) (g.trans ⟨B.b, B.h⟩) a
  | new ds =>
    intro p xs Hb' H' np B n q A
    have R' := R.called B
    have sb : Same Hb' (upd Hb' p (.lst xs)) := same_upd n
    have h0 : H0.h p = none := R.b0.free np
    refine ⟨.lst ds, upd Hb' p (.lst xs), f, ⟨R'.b0, R'.bb.trans sb, fun a n0 n1 => ?_, fun b x e => ?_, fun i d h => ?_, fun i qq es h => ?_, R'.sep, R'.len, fun i P qn h => let ⟨t, t1, t2⟩ := R'.tb i P qn h; ⟨t, (upd_ne (fun z => by obtain ⟨_, w, _⟩ := t; rw [z, q] at w; cases w)).trans t1, t2⟩⟩, g.trans ⟨B.b.trans sb, B.h⟩, .lst (Rd.of upd_same) (A.mono sb)⟩
    · rw [upd_ne (fun z => n1 (by rw [z]; exact h0))]
      exact R'.bn a n0 n1
    · by_cases hb : b = p
      · subst hb
        rw [upd_same] at e
        cases e
        exact q
      · rw [upd_ne hb] at e
        exact R'.b1 _ _ e
    · obtain ⟨v, e, a⟩ := R'.dat i d h
      exact ⟨v, e, a.mono sb⟩
    · obtain ⟨a, ys, e, n2, q2, A2, h2⟩ := R.own i qq es h
      have ne : a ≠ p := fun w => by rw [w, np] at q2; cases q2
      obtain ⟨a', ys', e', n2', q2', A2', h2'⟩ := R'.own i qq es h
      rw [e] at e'
      cases e'
      exact ⟨a, ys', e, by rw [upd_ne ne]; exact n2', q2', A2'.mono sb, h2⟩
  | exc C => exact fun H' s => z C Hb H' f (R.grow s) ⟨Same.refl _, s⟩
  | gen => exact f.elim
theorem frk_N {H0 : Ent} {σ : L2.St} {Hb0 H00 Hb H : Hp} {r : FR} {Φ : List D → Prop} (R : Rel X.K H0 ρ σ Hb H) (g : Gr Hb0 H00 Hb H) (z : RZ X W H0 ρ σ Hb H Z) (f : FRn Φ Z r) : FRk X.K Hb H r (PostN X.K H0 ρ σ Hb0 H00 Φ) (xk W σ) := by
  cases r with
  | ret d => exact f.elim
  | new ds =>
    intro p xs Hb' H' np B n q A
    refine ⟨ds, Hb', p, xs, rfl, f, R.called B, g.trans ⟨B.b, B.h⟩, n, q, A, R.b0.free np, fun i qq es h e => ?_⟩
    obtain ⟨a, ys, e2, n2, q2, A2, h2⟩ := R.own i qq es h
    rw [e] at e2
    cases e2
    rw [np] at q2
    cases q2
  | exc C => exact fun H' s => z C Hb H' f (R.grow s) ⟨Same.refl _, s⟩
  | gen => exact f.elim
theorem ew_call (C : Ctx X W N sc k) (F : FnX X f j n S) (hm : X.mg x = some (.ref f)) (h : AW X W ρ (e :: es) (fun ds => ds.length = n ∧ ∃ r, S ds r ∧ FRd Φ Z r) Z) (hj : j ≤ k := by omega) (hg : GlN sc x := by rfl) (hdb : (x == ("__debug__" : Str)) = false := by decide)
    (he : starEach (e :: es) X.env = (false, eval e X.env) :: starEach es X.env := by exact star_nst rfl) (hpl : (backTo pos (starEach es X.env)).any (·.1) = false := by rfl) : EW X W ρ (.Call (.Name x p) (e :: es) [] pos) Φ Z := fun H0 σ Hb H R z =>
  WE.of (pe_fn C F hj hg hm hdb he hpl) (h.run R z fun ds vs Hb1 H1 f1 R1 s1 A1 z1 => by
    obtain ⟨hl, r, hs, fr⟩ := f1
    exact ⟨ds, r, Hb1, by rw [A1.length]; exact hl, R1.b1, A1, hs, frk_E R1 s1 z1 fr⟩)
theorem en_call {Φ : List D → Prop} (C : Ctx X W N sc k) (F : FnX X f j n S) (hm : X.mg x = some (.ref f)) (h : AW X W ρ (e :: es) (fun ds => ds.length = n ∧ ∃ r, S ds r ∧ FRn Φ Z r) Z) (hj : j ≤ k := by omega) (hg : GlN sc x := by rfl) (hdb : (x == ("__debug__" : Str)) = false := by decide)
    (he : starEach (e :: es) X.env = (false, eval e X.env) :: starEach es X.env := by exact star_nst rfl) (hpl : (backTo pos (starEach es X.env)).any (·.1) = false := by rfl) : EN X W ρ (.Call (.Name x p) (e :: es) [] pos) Φ Z := fun H0 σ Hb H R z =>
  WE.of (pe_fn C F hj hg hm hdb he hpl) (h.run R z fun ds vs Hb1 H1 f1 R1 s1 A1 z1 => by
    obtain ⟨hl, r, hs, fr⟩ := f1
    exact ⟨ds, r, Hb1, by rw [A1.length]; exact hl, R1.b1, A1, hs, frk_N R1 s1 z1 fr⟩)
theorem ew_callL (C : Ctx X W N sc k) (F : FnX X f j n S) {i : Nat} (hρ : ρ[i]? = some (Sl.dat (.raw (.ref f)))) (h : AW X W ρ (e :: es) (fun ds => ds.length = n ∧ ∃ r, S ds r ∧ FRd Φ Z r) Z) (hj : j ≤ k := by omega) (hN : N[i]? = some x := by rfl) (hv : Vis sc x := by first | exact .inl rfl | exact .inr (.inl rfl) | exact .inr (.inr rfl)) (hdb : (x == ("__debug__" : Str)) = false := by decide) (hcd : (x == ("__classdict__" : Str)) = false := by decide)
    (he : starEach (e :: es) X.env = (false, eval e X.env) :: starEach es X.env := by exact star_nst rfl) (hpl : (backTo pos (starEach es X.env)).any (·.1) = false := by rfl) : EW X W ρ (.Call (.Name x p) (e :: es) [] pos) Φ Z := fun H0 σ Hb H R z => by
  obtain ⟨v, ev, av⟩ := R.dat i _ hρ
  cases av
  exact WE.of (pe_fnL C F hj hN hv hdb hcd he hpl) ⟨ev, h.run R z fun ds vs Hb1 H1 f1 R1 s1 A1 z1 => by
    obtain ⟨hl, r, hs, fr⟩ := f1
    exact ⟨ds, r, Hb1, by rw [A1.length]; exact hl, R1.b1, A1, hs, frk_E R1 s1 z1 fr⟩⟩
theorem ew_call0 (C : Ctx X W N sc k) (F : FnX X f j 0 S) (hm : X.mg x = some (.ref f)) (h : ∃ r, S [] r ∧ FRd Φ Z r) (hj : j ≤ k := by omega) (hg : GlN sc x := by rfl) (hdb : (x == ("__debug__" : Str)) = false := by decide) : EW X W ρ (.Call (.Name x p) [] [] pos) Φ Z := fun H0 σ Hb H R z => by
  obtain ⟨r, hs, fr⟩ := h
  exact WE.of (pe_fn0 C F hj hg hm hdb) ⟨[], r, Hb, rfl, R.b1, .nil, hs, frk_E R Gr.refl z fr⟩
/-! ### a def -/
def startD (N : List Str) (ds : List D) : List Sl := ds.map Sl.dat ++ List.replicate (N.length - ds.length) Sl.em
theorem rel_start {K : PySem.W.Frag} {N : List Str} {vs : List V} {ds : List D} {Hb H : Hp} (s : Same Hb H) (A : AtAll K Hb vs ds) : Rel K ⟨H, Hb⟩ (startD N ds) (L2.start N vs) Hb H := by
  have hl := A.length
  refine ⟨Same.refl _, Same.refl _, fun _ n _ => n, s, fun i d h => ?_, fun i qq es h => ?_, fun i j q1 q2 es fs a h => ?_, ?_, fun i P qn h => ?_⟩
  · unfold startD at h
    by_cases hi : i < ds.length
    · rw [List.getElem?_append_left (by rw [List.length_map]; exact hi), List.getElem?_map] at h
      cases hd : ds[i]? with
      | none => rw [hd] at h; cases h
      | some d' =>
        rw [hd] at h
        cases h
        obtain ⟨v, e, a⟩ := A.get hd
        refine ⟨v, ?_, a⟩
        unfold L2.start
        rw [List.getElem?_append_left (by rw [List.length_map, hl]; exact hi), List.getElem?_map, e]
        rfl
    · rw [List.getElem?_append_right (by rw [List.length_map]; omega), List.getElem?_replicate] at h
      split at h <;> cases h
  · unfold startD at h
    by_cases hi : i < ds.length
    · rw [List.getElem?_append_left (by rw [List.length_map]; exact hi), List.getElem?_map] at h
      cases hd : ds[i]? with
      | none => rw [hd] at h; cases h
      | some d' => rw [hd] at h; cases h
    · rw [List.getElem?_append_right (by rw [List.length_map]; omega), List.getElem?_replicate] at h
      split at h <;> cases h
  · exfalso
    unfold startD at h
    by_cases hi : i < ds.length
    · rw [List.getElem?_append_left (by rw [List.length_map]; exact hi), List.getElem?_map] at h
      cases hd : ds[i]? with
      | none => rw [hd] at h; cases h
      | some d' => rw [hd] at h; cases h
    · rw [List.getElem?_append_right (by rw [List.length_map]; omega), List.getElem?_replicate] at h
      split at h <;> cases h
  · unfold startD L2.start
    rw [List.length_append, List.length_append, List.length_map, List.length_map, List.length_replicate, List.length_replicate, hl]
  · exfalso
    unfold startD at h
    by_cases hi : i < ds.length
    · rw [List.getElem?_append_left (by rw [List.length_map]; exact hi), List.getElem?_map] at h
      cases hd : ds[i]? with
      | none => rw [hd] at h; cases h
      | some d' => rw [hd] at h; cases h
    · rw [List.getElem?_append_right (by rw [List.length_map]; omega), List.getElem?_replicate] at h
      split at h <;> cases h
/-- the def's end, where r is promised -/
def endF (r : FR) : DE := { nx := fun _ => r = .ret .non, rt := fun r' => r' = r ∨ ∃ ds, r' = .new ds ∧ r = .ret (.lst ds), ex := fun C _ => r = .exc C }
end
section
variable {P : Program} {w : World} {K : PySem.W.Frag} {mg : Str → Option Value} {base : Heap}
/-- the context of a def's body stands over the program at hand -/
structure Over (X : Cx) (P : Program) (w : World) (K : PySem.W.Frag) (mg : Str → Option Value) (base : Heap) : Prop where
  p : X.prog = P
  w : X.w = w
  k : X.K = K
  m : X.mg = mg
  b : X.base = base
theorem fnOk_def {x qual : Str} {st : Stmt} {f : Addr} {fd : FuncData} {N ps : List Str} {k : Nat} {S : List D → FR → Prop} (F : Fun K x qual st f fd) (Sc : FnScope N ps (defScope st))
    (body : ∀ (ds : List D) (r : FR), S ds r → ds.length = ps.length → ∀ (X : Cx) (W : WX), Over X P w K mg base → CtxD X W N (defScope st) k → SW X W (startD N ds) (defBody st) (endF r)) : FnOk P w K mg base (L2.CX P w) (k + 1) f fd ps (spF K ps.length S) := by
  refine F.okX Sc (fun vs H Q E h => ?_) (fun cdv A outer s H vs Q E hr h => ⟨_, pss_w, ?_⟩)
  · obtain ⟨ds, r, Hb, e, _⟩ := h
    exact e
  · obtain ⟨ds, r, Hb, e, sm, AA, hs, fk⟩ := h
    have b := body ds r hs (by rw [← AA.length]; exact e) (cxOf (L2.CX P w) P w K mg base N qual (defScope st) f cdv A outer s H E) (fun cls d _ H => E cls d H) ⟨rfl, rfl, rfl, rfl, rfl⟩
      { hN := rfl, nd := Sc.nd, hs := rfl, room := hr, calm := rfl, tk := takes_of rfl rfl rfl rfl, own := passes_of rfl, fnD := fun _ => rfl, stk := rfl, frm := rfl, exn := rfl }
    have R := rel_start (N := N) sm AA
    refine WSs.mono (b ⟨H, Hb⟩ (L2.start N vs) Hb H R ?_) ?_ ?_ ?_ ?_
    · intro C ρ σ Hb' H' z R'
      subst z
      exact fk H' R'.b0
    · rintro σ' H' ⟨ρ', Hb', z, R'⟩
      subst z
      exact fk .non Hb' H' R'.back .non
    · rintro v H' ⟨r', z, q⟩
      rcases z with rfl | ⟨ds', rfl, rfl⟩
      · cases r' with
        | ret d => obtain ⟨Hb', B, a⟩ := q; exact fk v Hb' H' B a
        | new ds' => obtain ⟨p, xs, Hb', rfl, n0, B, n1, q, A'⟩ := q; exact fk p xs Hb' H' n0 B n1 q A'
        | exc _ => exact q.elim
        | gen Ψ => exact fk v H' q
      · obtain ⟨p, xs, Hb', rfl, n0, B, n1, q, A'⟩ := q
        have sb : Same Hb' (upd Hb' p (.lst xs)) := same_upd n1
        refine fk (.ref p) (upd Hb' p (.lst xs)) H' ⟨B.h, B.b.trans sb, fun b x e => ?_, fun a z1 z2 => ?_⟩ (.lst (Rd.of upd_same) (A'.mono sb))
        · by_cases hb : b = p
          · subst hb
            rw [upd_same] at e
            cases e
            exact q
          · rw [upd_ne hb] at e
            exact B.s _ _ e
        · rw [upd_ne (fun z => z2 (by rw [z]; exact n0))]
          exact B.n a z1 z2
    · rintro _ _ ⟨_, _, z, _⟩
      exact z.elim
    · rintro _ _ ⟨_, _, z, _⟩
      exact z.elim
theorem fn_def {x qual : Str} {st : Stmt} {f : Addr} {fd : FuncData} {N ps : List Str} {k : Nat} {S : List D → FR → Prop} (F : Fun K x qual st f fd) (Sc : FnScope N ps (defScope st)) (hb : Binds K fd ps [])
    (body : ∀ (ds : List D) (r : FR), S ds r → ds.length = ps.length → ∀ (X : Cx) (W : WX), Over X P w K mg base → CtxD X W N (defScope st) k → SW X W (startD N ds) (defBody st) (endF r)) : Fn P w K mg base f (k + 1) ps.length S :=
  ⟨fd, ps, spF K ps.length S, [], [], fnOk_def F Sc body, F.kp, hb, .nil, fun vs H Q E h => by rw [List.append_nil]; exact h⟩
end
end DL
namespace DL
open PySem PySem.Spec PyProof.Rows L2
/-! ### list comprehensions -/
def dropOwn (ρ : List Sl) : List Sl := ρ.map fun s => match s with
  | .ow _ _ => .em
  | .tb _ _ => .em
  | s => s
def wipeD (ρ : List Sl) : List Nat → List Sl
  | [] => ρ
  | v :: vs => (wipeD ρ vs).set v .em
theorem dropOwn_get {ρ : List Sl} {i : Nat} {d : D} (h : (dropOwn ρ)[i]? = some (Sl.dat d)) : ρ[i]? = some (Sl.dat d) := by
  unfold dropOwn at h
  rw [List.getElem?_map] at h
  cases e : ρ[i]? with
  | none => rw [e] at h; cases h
  | some s =>
    rw [e] at h
    cases s with
    | em => cases h
    | ow _ _ => cases h
    | tb _ _ => cases h
    | dat d' => exact h
theorem dropOwn_no {ρ : List Sl} {i : Nat} {qq : Option Addr} {ds : List D} : (dropOwn ρ)[i]? ≠ some (Sl.ow qq ds) := by
  intro h
  unfold dropOwn at h
  rw [List.getElem?_map] at h
  cases e : ρ[i]? with
  | none => rw [e] at h; cases h
  | some s =>
    rw [e] at h
    cases s <;> cases h
theorem dropOwn_noT {ρ : List Sl} {i : Nat} {P : Addr} {q : Str} : (dropOwn ρ)[i]? ≠ some (Sl.tb P q) := by
  intro h
  unfold dropOwn at h
  rw [List.getElem?_map] at h
  cases e : ρ[i]? with
  | none => rw [e] at h; cases h
  | some s =>
    rw [e] at h
    cases s <;> cases h
theorem rel_block {K : PySem.W.Frag} {H0 : Ent} {ρ : List Sl} {σ : L2.St} {Hb H : Hp} (R : Rel K H0 ρ σ Hb H) : ∀ vs : List Nat, Rel K ⟨H, Hb⟩ (wipeD (dropOwn ρ) vs) (wipe σ vs) Hb H
  | [] => ⟨Same.refl _, Same.refl _, fun _ n _ => n, R.b1, fun i d h => R.dat i d (dropOwn_get h), fun i qq ds h => absurd h dropOwn_no, fun i j q1 q2 ds es a h => absurd h dropOwn_no, by
      unfold wipeD wipe dropOwn
      rw [List.length_map]
      exact R.len, fun i P qn h => absurd h dropOwn_noT⟩
  | v :: vs => (rel_block R vs).setE v none
/-- a list that is not known is written -/
theorem Rel.mut {K : PySem.W.Frag} {H0 : Ent} {ρ : List Sl} {σ : L2.St} {Hb H : Hp} {p : Addr} {o : HO} (R : Rel K H0 ρ σ Hb H) (hb : Hb p = none) (h0 : H0.h p = none) (fr : ∀ (j : Nat) (q : Option Addr) (es : List D), ρ[j]? = some (Sl.ow q es) → σ[j]? ≠ some (some (V.ref p))) {zu : HO} (hz : H p = some zu) (hu : NoTb zu) : Rel K H0 ρ σ Hb (upd H p o) := by
  refine ⟨fun b x e => ?_, R.bb, R.bn, fun b x e => ?_, R.dat, fun i qq ds h => ?_, R.sep, R.len, fun i P qn h => let ⟨t, t1, t2⟩ := R.tb i P qn h; ⟨tabS_nx t hz hu (fun b o hb e => by rw [upd_ne hb]; exact e), t1, t2⟩⟩
  · rw [upd_ne (ne_of_none e h0)]
    exact R.b0 _ _ e
  · rw [upd_ne (ne_of_none e hb)]
    exact R.b1 _ _ e
  · obtain ⟨a, xs, e, n, q, A, z⟩ := R.own i qq ds h
    have ne : a ≠ p := fun w => fr i qq ds h (by rw [e, w])
    exact ⟨a, xs, e, n, by rw [upd_ne ne]; exact q, A, z⟩
theorem wipe_get (σ : L2.St) (i : Nat) : ∀ vs : List Nat, (wipe σ vs)[i]? = if i ∈ vs then (if i < σ.length then some none else none) else σ[i]?
  | [] => by simp [wipe]
  | v :: vs => by
    unfold wipe
    rw [List.getElem?_set, wipe_length, wipe_get σ i vs]
    by_cases hv : v = i
    · subst hv
      simp
    · rw [if_neg hv]
      simp only [List.mem_cons, show ¬ i = v from fun e => hv e.symm, false_or]
theorem wipe_set {σ : L2.St} {j : Nat} {x : Option V} {vs : List Nat} (h : j ∈ vs) : wipe (σ.set j x) vs = wipe σ vs := by
  apply List.ext_getElem?
  intro i
  rw [wipe_get, wipe_get, List.length_set]
  by_cases hi : i ∈ vs
  · rw [if_pos hi, if_pos hi]
  · rw [if_neg hi, if_neg hi, List.getElem?_set_ne (fun e => hi (by rw [← e]; exact h))]
theorem wipe_wipe {σ : L2.St} {vs : List Nat} : wipe (wipe σ vs) vs = wipe σ vs := by
  apply List.ext_getElem?
  intro i
  rw [wipe_get, wipe_get, wipe_length]
  by_cases hi : i ∈ vs
  · rw [if_pos hi, if_pos hi]
  · rw [if_neg hi, if_neg hi]
abbrev W0 : WX := fun _ _ _ _ => False
/-- the target in a block: its own names -/
inductive TgB (N : List Str) (sc : Scope) (vs : List Nat) : Expr → (D → List Sl → Option (List Sl)) → Prop where
  | name {x : Str} {px : Pos} (i : Nat) (hi : N[i]? = some x) (hx : sc.names.lookup x = some .local) (hv : i ∈ vs) : TgB N sc vs (.Name x px) (fun d ρ => some (ρ.set i (.dat d)))
  | pair {x y : Str} {px py pt : Pos} {kt : Nat} (i j : Nat) (hi : N[i]? = some x) (hj : N[j]? = some y) (hx : sc.names.lookup x = some .local) (hy : sc.names.lookup y = some .local) (hv : i ∈ vs) (hw : j ∈ vs) : TgB N sc vs (.Tuple [.Name x px, .Name y py] kt pt) (fun d ρ => match d with
      | .tup [d1, d2] => some ((ρ.set i (.dat d1)).set j (.dat d2))
      | .pr d1 d2 => some ((ρ.set i (.dat d1)).set j (.dat d2))
      | _ => none)
def gOf {N : List Str} {sc : Scope} (K : PySem.W.Frag) : Expr → List Nat → TG
  | .Name _ _, i :: _ => gName i
  | _, i :: j :: _ => gTup K 2 (gCons (gName i) (gCons (gName j) gNil))
  | _, _ => gName 0
theorem TgB.ok {N : List Str} {sc : Scope} {vs : List Nat} {tg : Expr} {f : D → List Sl → Option (List Sl)} (T : TgB N sc vs tg f) (K : PySem.W.Frag) : ∃ g : TG, (∀ (X : Cx) (W : WX) (k : Nat), X.K = K → Ctx X W N sc k → PG X tg g) ∧ ∀ (H0 : Ent) (σ : L2.St) (Hb H : Hp) (ρ : List Sl) (d : D) (v : V) (ρ' : List Sl) (Q : L2.St → Hp → Prop), Rel K H0 ρ σ Hb H → At K Hb v d → f d ρ = some ρ' → (∀ σ', Rel K H0 ρ' σ' Hb H → wipe σ' vs = wipe σ vs → Q σ' H) → g v σ H Q := by
  cases T with
  | name i hi hx hv => exact ⟨gName i, fun X W k _ C => pg_name C.ndX (C.at hi) (C.loc (.inl hx)) (.inr (by rw [C.hs]; exact hx)), fun H0 σ Hb H ρ d v ρ' Q R a e q => by
      cases e
      exact q _ (R.setD i a) (wipe_set hv)⟩
  | pair i j hi hj hx hy hv hw => exact ⟨gTup K 2 (gCons (gName i) (gCons (gName j) gNil)), fun X W k e C => by
      subst e
      exact pg_tup C.calm (pgs_cons (pg_name C.ndX (C.at hi) (C.loc (.inl hx)) (.inr (by rw [C.hs]; exact hx))) (pgs_cons (pg_name C.ndX (C.at hj) (C.loc (.inl hy)) (.inr (by rw [C.hs]; exact hy))) pgs_nil)), fun H0 σ Hb H ρ d v ρ' Q R a e q => by
      cases a with
      | tup qs A =>
        cases A with
        | nil => cases e
        | cons a1 A =>
          cases A with
          | nil => cases e
          | cons a2 A =>
            cases A with
            | cons _ _ => cases e
            | nil =>
              cases e
              exact ⟨_, _, rfl, same_seqT R.b1 qs.1, rfl, _, _, rfl, _, _, rfl, rfl, q _ ((R.setD i a1).setD j a2) (by rw [wipe_set hw, wipe_set hv])⟩
      | pr qs a1 a2 =>
        cases e
        exact ⟨_, _, rfl, same_seqT R.b1 qs, rfl, _, _, rfl, _, _, rfl, rfl, q _ ((R.setD i a1).setD j a2) (by rw [wipe_set hw, wipe_set hv])⟩
      | _ => cases e⟩
/-- what a walk over ds makes, where each item makes what P says -/
inductive Outs (P : D → Option D → Prop) : List D → List D → Prop where
  | nil : Outs P [] []
  | keep {d r : D} {ds rs : List D} : P d (some r) → Outs P ds rs → Outs P (d :: ds) (r :: rs)
  | skip {d : D} {ds rs : List D} : P d none → Outs P ds rs → Outs P (d :: ds) rs
theorem outs_map {α : Type} {P : D → Option D → Prop} {enc g : α → D} : ∀ {xs : List α}, (∀ x ∈ xs, P (enc x) (some (g x))) → Outs P (xs.map enc) (xs.map g)
  | [], _ => .nil
  | x :: xs, h => .keep (h x List.mem_cons_self) (outs_map fun y hy => h y (List.mem_cons_of_mem _ hy))
theorem outs_filter {α : Type} {P : D → Option D → Prop} {enc : α → D} {g : α → Option D} : ∀ {xs : List α}, (∀ x ∈ xs, P (enc x) (g x)) → Outs P (xs.map enc) (xs.filterMap g)
  | [], _ => .nil
  | x :: xs, h => by
    have h1 := h x List.mem_cons_self
    have h2 := outs_filter (g := g) fun y hy => h y (List.mem_cons_of_mem _ hy)
    cases e : g x with
    | none =>
      rw [List.filterMap_cons_none e]
      exact .skip (by rw [← e]; exact h1) h2
    | some r =>
      rw [List.filterMap_cons_some e]
      exact .keep (by rw [← e]; exact h1) h2
theorem Outs.length {P : D → Option D → Prop} : ∀ {ds rs : List D}, Outs P ds rs → rs.length ≤ ds.length
  | _, _, .nil => Nat.le_refl _
  | _, _, .keep _ h => Nat.succ_le_succ h.length
  | _, _, .skip _ h => Nat.le_succ_of_le h.length
/-- the tests of a comprehension: none, or one -/
def IfW (X : Cx) (W : WX) (ρ : List Sl) (ifs : List Expr) (Φ : Bool → Prop) (Z : DZ) : Prop := match ifs with
  | [] => Φ true
  | [c] => TW X W ρ c Φ Z
  | _ => False
def WIf (X : Cx) (ifs : List Expr) : TT := match ifs with
  | [] => tYes
  | [c] => WT X c
  | _ => fun _ _ _ => False
theorem pts_w {X : Cx} {ifs : List Expr} : PTs X ifs (WIf X ifs) := by
  match ifs with
  | [] => exact pts_nil
  | [c] => exact pts_one pt_w
  | _ :: _ :: _ => exact ⟨fun _ _ _ _ _ _ h => h.elim⟩
theorem IfW.run {X : Cx} {W : WX} {ρ : List Sl} {Z : DZ} {ifs : List Expr} {Φ : Bool → Prop} {H0 : Ent} {σ : L2.St} {Hb H : Hp} {Q : Bool → Hp → Prop} (h : IfW X W ρ ifs Φ Z) (R : Rel X.K H0 ρ σ Hb H) (z : RZ X W H0 ρ σ Hb H Z) (k : ∀ b Hb' H', Φ b → Rel X.K H0 ρ σ Hb' H' → Gr Hb H Hb' H' → Q b H') : WIf X ifs σ H Q := by
  match ifs with
  | [] => exact k true Hb H h R Gr.refl
  | [c] => exact TW.run (show TW X W ρ c Φ Z from h) R z fun b Hb' H' f R' g _ => k b Hb' H' f R' g
  | _ :: _ :: _ => exact h.elim
section
variable {X : Cx} {W : WX} {ρ : List Sl} {Z : DZ} {N : List Str} {sc scope : Scope} {k : Nat} {elt tg iter : Expr} {ifs : List Expr} {pos : Pos}
/-- one turn: the item d makes o -/
def BI (X : Cx) (N : List Str) (sc scope : Scope) (k : Nat) (ρ : List Sl) (vs : List Nat) (f : D → List Sl → Option (List Sl)) (ifs : List Expr) (elt : Expr) (d : D) (o : Option D) : Prop :=
  ∃ ρ2 b, f d (wipeD (dropOwn ρ) vs) = some ρ2 ∧
    (∀ (s : Shared) (H : Hp) (C0 : Addr) (cl : List (Str × Addr)) (fp : List Addr), Ctx (X.blk s H scope (compEnvC scope cl C0 X.env) fp) W0 N (relS scope sc) k → IfW (X.blk s H scope (compEnvC scope cl C0 X.env) fp) W0 ρ2 ifs (fun b' => b' = b) NoZ) ∧
    (b = true → ∃ r, o = some r ∧ ∀ (s : Shared) (H : Hp) (C0 : Addr) (cl : List (Str × Addr)) (fp : List Addr), Ctx (X.blk s H scope (compEnvC scope cl C0 X.env) fp) W0 N (relS scope sc) k → EW (X.blk s H scope (compEnvC scope cl C0 X.env) fp) W0 ρ2 elt (fun r' => r' = r) NoZ) ∧
    (b = false → o = none)
theorem Ctx.blk (C : Ctx X W N sc k) (s : Shared) (H : Hp) (C0 : Addr) (cl : List (Str × Addr)) (fp : List Addr) : Ctx (X.blk s H scope (compEnvC scope cl C0 X.env) fp) W0 N (relS scope sc) k where
  hN := C.hN
  nd := C.nd
  hs := by
    rw [← C.hs]
    rfl
  room := C.room
  calm := C.calm
  tk := takes0
  own := PassesOwn.never
theorem Outs.split {P : D → Option D → Prop} : ∀ {ds out : List D} {i : Nat}, Outs P ds out → i ≤ ds.length → ∃ o1 o2, out = o1 ++ o2 ∧ Outs P (ds.take i) o1 ∧ Outs P (ds.drop i) o2
  | ds, out, 0, h, _ => ⟨[], out, rfl, by rw [List.take_zero]; exact .nil, by rw [List.drop_zero]; exact h⟩
  | [], _, i + 1, h, hi => absurd hi (by simp)
  | _, _, i + 1, .keep hp h, hi => by
    obtain ⟨o1, o2, e, h1, h2⟩ := Outs.split (i := i) h (by simpa using hi)
    exact ⟨_ :: o1, o2, by rw [e]; rfl, .keep hp h1, h2⟩
  | _, _, i + 1, .skip hp h, hi => by
    obtain ⟨o1, o2, e, h1, h2⟩ := Outs.split (i := i) h (by simpa using hi)
    exact ⟨o1, o2, e, .skip hp h1, h2⟩
def LcInv (K : PySem.W.Frag) (H0 : Ent) (ρ : List Sl) (σ : L2.St) (Hw : Hp) (P : D → Option D → Prop) (ds out : List D) (Dl : Addr) (i : Nat) (H : Hp) : Prop :=
  ∃ Hb acc accd rest, Rel K H0 ρ σ Hb H ∧ Same Hw Hb ∧ Hb Dl = none ∧ H Dl = some (.lst acc) ∧ AtAll K Hb acc accd ∧ accd.length ≤ i ∧ out = accd ++ rest ∧ Outs P (ds.drop i) rest
/-- the reading of a comprehension, over data -/
theorem lc_read (C : Ctx X W N sc k) {own : List (Str × Nat)} {f : D → List Sl → Option (List Sl)} (T : TgB N (relS scope sc) (own.map (·.2)) tg f) {g : TG}
    (hg : ∀ (H0 : Ent) (σ : L2.St) (Hb H : Hp) (ρ : List Sl) (d : D) (v : V) (ρ' : List Sl) (Q : L2.St → Hp → Prop), Rel X.K H0 ρ σ Hb H → At X.K Hb v d → f d ρ = some ρ' → (∀ σ', Rel X.K H0 ρ' σ' Hb H → wipe σ' (own.map (·.2)) = wipe σ (own.map (·.2)) → Q σ' H) → g v σ H Q)
    {Φ : List D → Prop} {H0 : Ent} {σ : L2.St} {Hb H : Hp} (R : Rel X.K H0 ρ σ Hb H) (z : RZ X W H0 ρ σ Hb H Z)
    (h : IW X W ρ tg iter (fun ds => ds.length ≤ 1000000 ∧ ∃ out, Outs (BI X N sc scope k ρ (own.map (·.2)) f ifs elt) ds out ∧ Φ out) Z) :
    tLc (WI X tg iter) g (fun σ H Q => ∀ (s : Shared) (H0 : Hp) (C0 : Addr) (cl : List (Str × Addr)) (fp : List Addr), WIf (X.blk s H0 scope (compEnvC scope cl C0 X.env) fp) ifs σ H Q) (fun σ H Q => ∀ (s : Shared) (H0 : Hp) (C0 : Addr) (cl : List (Str × Addr)) (fp : List Addr), WE (X.blk s H0 scope (compEnvC scope cl C0 X.env) fp) elt σ H Q) (own.map (·.2)) σ H (PostN X.K H0 ρ σ Hb H Φ) := by
  refine (h H0 σ Hb H R z).mono fun J H1 ⟨ds, Hw, ⟨hz, out, O, f0⟩, R1, s1, w⟩ Dl hD => ?_
  obtain ⟨Hent, hent⟩ : ∃ Hent, Hent = H0 := ⟨H0, rfl⟩
  subst hent
  have hwD : Hw Dl = none := R1.b1.free hD
  have h0D : Hent.h Dl = none := R1.b0.free hD
  have fr : ∀ (j : Nat) (q : Option Addr) (es : List D), ρ[j]? = some (Sl.ow q es) → σ[j]? ≠ some (some (V.ref Dl)) := fun j qq es hj e => by
    obtain ⟨a, ys, e1, _, q, _⟩ := R1.own j qq es hj
    rw [e] at e1
    cases e1
    rw [hD] at q
    cases q
  have mutH : ∀ {H' : Hp} {o : HO}, Same H1 H' → Same H1 (upd H' Dl o) := fun {H' o} s b x e => by
    rw [upd_ne (ne_of_none e hD)]
    exact s _ _ e
  refine ⟨fun i m H' => m = ds.length - i ∧ i ≤ ds.length ∧ LcInv X.K Hent ρ σ Hw (BI X N sc scope k ρ (own.map (·.2)) f ifs elt) ds out Dl i H' ∧ Same H1 H', ⟨_, rfl, Nat.zero_le _, ?_, ?_⟩, ?_⟩
  · exact ⟨Hw, [], [], out, R1.allocN hD, Same.refl _, hwD, upd_same, .nil, Nat.zero_le _, rfl, by rw [List.drop_zero]; exact O⟩
  · exact mutH (Same.refl _)
  · rintro i m H' ⟨rfl, hi, ⟨Hb', acc, accd, rst, R', sw, nb, qD, A, hl, eo, O'⟩, sH⟩
    by_cases hlt : i < ds.length
    · have goH : Same Hw H' := sw.trans R'.b1
      refine .inr ⟨w.go i H' hlt goH, fun H5 => LcInv X.K Hent ρ σ Hw (BI X N sc scope k ρ (own.map (·.2)) f ifs elt) ds out Dl (i + 1) H5 ∧ Same H1 H5, fun H5 h5 => ⟨ds.length - (i + 1), by omega, rfl, hlt, h5.1, h5.2⟩, fun x H2 y => ?_⟩
      have hd : ds[i]? = some ds[i] := List.getElem?_eq_getElem hlt
      obtain ⟨Hb2, R2, g2, a2⟩ := w.yld i ds[i] H' x H2 hd goH y ⟨H', Hb'⟩ _ _ Hb' (rel_block R' (own.map (·.2))) sw
      have ed : ds.drop i = ds[i] :: ds.drop (i + 1) := List.drop_eq_getElem_cons hlt
      -- back in the def: from what the turn left
      have ret : ∀ {ρ4 : List Sl} {σ4 : L2.St} {Hb4 H4 : Hp}, Rel X.K ⟨H', Hb'⟩ ρ4 σ4 Hb4 H4 → Rel X.K Hent ρ σ Hb4 H4 ∧ Same Hw Hb4 ∧ Hb4 Dl = none ∧ H4 Dl = some (.lst acc) ∧ AtAll X.K Hb4 acc accd ∧ Same H1 H4 := fun {ρ4 σ4 Hb4 H4} R4 =>
        ⟨R'.called R4.back, sw.trans R4.bb, R4.bn Dl nb (by rw [show (⟨H', Hb'⟩ : Ent).h Dl = some (.lst acc) from qD]; exact fun z => nomatch z), R4.b0 _ _ qD, A.mono R4.bb, sH.trans R4.b0⟩
      have turn : ∀ o rs, BI X N sc scope k ρ (own.map (·.2)) f ifs elt ds[i] o → Outs (BI X N sc scope k ρ (own.map (·.2)) f ifs elt) (ds.drop (i + 1)) rs → rst = (match o with | some r => r :: rs | none => rs) → g x (wipe σ (own.map (·.2))) H2 fun σ2 H3 => wipe σ2 (own.map (·.2)) = wipe σ (own.map (·.2)) ∧ (∀ (s : Shared) (H0 : Hp) (C0 : Addr) (cl : List (Str × Addr)) (fp : List Addr), WIf (X.blk s H0 scope (compEnvC scope cl C0 X.env) fp) ifs σ2 H3 fun b H3 =>
          if b = true then (∀ (s : Shared) (H0 : Hp) (C0 : Addr) (cl : List (Str × Addr)) (fp : List Addr), WE (X.blk s H0 scope (compEnvC scope cl C0 X.env) fp) elt σ2 H3 fun y H4 => ∃ acc, H4 Dl = some (.lst acc) ∧ acc.length < sizeLine ∧ (fun H5 => LcInv X.K Hent ρ σ Hw (BI X N sc scope k ρ (own.map (·.2)) f ifs elt) ds out Dl (i + 1) H5 ∧ Same H1 H5) (upd H4 Dl (.lst (acc ++ [y])))) else (fun H5 => LcInv X.K Hent ρ σ Hw (BI X N sc scope k ρ (own.map (·.2)) f ifs elt) ds out Dl (i + 1) H5 ∧ Same H1 H5) H3) := by
        intro o rs hp ho he
        obtain ⟨ρ2, b0, e2, st1, st2, st3⟩ := hp
        refine hg ⟨H', Hb'⟩ _ Hb2 H2 _ ds[i] x ρ2 _ R2 a2 e2 fun σ2 R3 hw => ⟨by rw [hw, wipe_wipe], fun s5 H5 C0 cl fp => ?_⟩
        refine IfW.run (st1 s5 H5 C0 cl fp (C.blk s5 H5 C0 cl fp)) R3 rz_no fun b Hb4 H4 fb R4 g4 => ?_
        subst fb
        cases b with
        | true =>
          rw [if_pos rfl]
          intro s6 H6 C1 cl1 fp1
          obtain ⟨r, rfl, st4⟩ := st2 rfl
          refine EW.run (st4 s6 H6 C1 cl1 fp1 (C.blk s6 H6 C1 cl1 fp1)) R4 rz_no fun r' yv Hb6 H7 fr7 R7 g7 a7 _ => ?_
          subst fr7
          obtain ⟨r1, r2, r3, r4, r5, r6⟩ := ret R7
          refine ⟨acc, r4, ?_, ⟨Hb6, acc ++ [yv], accd ++ [r'], rs, r1.mut r3 h0D fr r4 noTb_lst, r2, r3, upd_same, r5.append (.cons a7 .nil), ?_, ?_, ho⟩, mutH r6⟩
          · rw [A.length]
            have : (1000000 : Nat) < sizeLine := by decide
            omega
          · rw [List.length_append, List.length_singleton]
            omega
          · rw [eo, he, List.append_assoc]
            rfl
        | false =>
          rw [if_neg Bool.false_ne_true]
          have hno := st3 rfl
          subst hno
          obtain ⟨r1, r2, r3, r4, r5, r6⟩ := ret R4
          exact ⟨⟨Hb4, acc, accd, rs, r1, r2, r3, r4, r5, by omega, by rw [eo, he], ho⟩, r6⟩
      rw [ed] at O'
      cases O' with
      | keep hp ho => exact turn _ _ hp ho rfl
      | skip hp ho => exact turn _ _ hp ho rfl
    · have e : i = ds.length := by omega
      subst e
      rw [List.drop_length] at O'
      cases O'
      rw [List.append_nil] at eo
      subst eo
      exact .inl ⟨w.stop H' (sw.trans R'.b1), out, Hb', Dl, acc, rfl, f0, R', s1.trans ⟨sw, sH⟩, nb, qD, A, h0D, fr⟩
theorem en_lc (C : Ctx X W N sc k) {own : List (Str × Nat)} {f : D → List Sl → Option (List Sl)} (T : TgB N (relS scope sc) (own.map (·.2)) tg f) {Φ : List D → Prop}
    (h : IW X W ρ tg iter (fun ds => ds.length ≤ 1000000 ∧ ∃ out, Outs (BI X N sc scope k ρ (own.map (·.2)) f ifs elt) ds out ∧ Φ out) Z) (ok : BlkOk N sc scope own) (hs : ∀ x, foldedSetIterable iter X.env x = pure x := by intro _; rfl) : EN X W ρ (.ListComp elt [⟨tg, iter, ifs, 0⟩] scope pos) Φ Z := fun H0 σ Hb H R z => by
  obtain ⟨g, pg, hg⟩ := T.ok X.K
  refine WE.of (pe_lc (own := own) (tt := fun σ H Q => ∀ (s : Shared) (H0 : Hp) (C0 : Addr) (cl : List (Str × Addr)) (fp : List Addr), WIf (X.blk s H0 scope (compEnvC scope cl C0 X.env) fp) ifs σ H Q) (te := fun σ H Q => ∀ (s : Shared) (H0 : Hp) (C0 : Addr) (cl : List (Str × Addr)) (fp : List Addr), WE (X.blk s H0 scope (compEnvC scope cl C0 X.env) fp) elt σ H Q) C.calm C.ndX pi_w (by rw [C.hN, C.hs]; exact ok)
    (fun s H C0 cl fp => pg _ _ _ rfl (C.blk s H C0 cl fp)) (fun s H C0 cl fp => ⟨fun pins s1 σ1 H1 Q I q => pts_w.run pins s1 σ1 H1 Q I (q s H C0 cl fp)⟩) (fun s H C0 cl fp => ⟨fun pins s1 σ1 H1 Q I q => (q s H C0 cl fp).go pins s1 I⟩) hs) (lc_read C T hg R z h)
end
section
variable {X : Cx} {W : WX} {ρ : List Sl} {N : List Str} {sc scope : Scope} {k : Nat} {elt tg iter : Expr} {ifs : List Expr} {pos px spos : Pos} {rest : List Stmt} {E : DE}
/-- name = [..] on one line, the name a local: the list is the name's own -/
theorem sw_setLcO (C : CtxD X W N sc k) {own : List (Str × Nat)} {f : D → List Sl → Option (List Sl)} (T : TgB N (relS scope sc) (own.map (·.2)) tg f) {i : Nat} {y : Str}
    (h : IW X W ρ tg iter (fun ds => ds.length ≤ 1000000 ∧ ∃ out, Outs (BI X N sc scope k ρ (own.map (·.2)) f ifs elt) ds out ∧ SW X W (ρ.set i (.own out)) rest E) (exz E ρ)) (ok : BlkOk N sc scope own)
    (hsw : swapsWith (.ListComp elt [⟨tg, iter, ifs, 0⟩] scope pos) (some (.Name y px)) spos.line X.env = pure true) (hi : N[i]? = some y := by rfl) (hy : sc.names.lookup y = some .local := by rfl) (hs : ∀ x, foldedSetIterable iter X.env x = pure x := by intro _; rfl) :
    SW X W ρ (.Assign [.Name y px] (.ListComp elt [⟨tg, iter, ifs, 0⟩] scope pos) spos :: rest) E := sw_cons fun H0 σ Hb H R x => by
  obtain ⟨g, pg, hg⟩ := T.ok X.K
  refine WS.of (ps_setLc (own := own) (tt := fun σ H Q => ∀ (s : Shared) (H0 : Hp) (C0 : Addr) (cl : List (Str × Addr)) (fp : List Addr), WIf (X.blk s H0 scope (compEnvC scope cl C0 X.env) fp) ifs σ H Q) (te := fun σ H Q => ∀ (s : Shared) (H0 : Hp) (C0 : Addr) (cl : List (Str × Addr)) (fp : List Addr), WE (X.blk s H0 scope (compEnvC scope cl C0 X.env) fp) elt σ H Q) C.calm C.ndX (C.at hi) (by rw [C.hs]; exact hy) hsw pi_w (by rw [C.hN, C.hs]; exact ok)
    (fun s H C0 cl fp => pg _ _ _ rfl (C.toCtx.blk s H C0 cl fp)) (fun s H C0 cl fp => ⟨fun pins s1 σ1 H1 Q I q => pts_w.run pins s1 σ1 H1 Q I (q s H C0 cl fp)⟩) (fun s H C0 cl fp => ⟨fun pins s1 σ1 H1 Q I q => (q s H C0 cl fp).go pins s1 I⟩) hs) ?_
  refine WI.mono (lc_read C.toCtx T hg R (RX.z x) h) fun J H1 hh Dl hD => ?_
  obtain ⟨Wf, w0, st⟩ := hh Dl hD
  refine ⟨Wf, w0, fun i' m H' w' => (st i' m H' w').elim (fun ⟨a, ds, Hb', p, xs, ev, f0, R', s, n, q, A, h0, fr⟩ => .inl ⟨a, ?_⟩) .inr⟩
  cases ev
  exact ⟨_, Hb', f0, R'.setO i n q A h0 fr⟩
end
end DL
namespace DL
open PySem PySem.Spec PyProof.Rows L2
/-! ### an own list becomes a datum -/
theorem Rel.freeze {K : PySem.W.Frag} {H0 : Ent} {ρ : List Sl} {σ : L2.St} {Hb H : Hp} (R : Rel K H0 ρ σ Hb H) {i : Nat} {ds : List D} (h : ρ[i]? = some (Sl.own ds)) : ∃ Hb', Rel K H0 (ρ.set i (.dat (.lst ds))) σ Hb' H := by
  obtain ⟨p, xs, e, n, q, A, h0, _⟩ := R.own i _ ds h
  have sb : Same Hb (upd Hb p (.lst xs)) := same_upd n
  have hi : i < ρ.length := (List.getElem?_eq_some_iff.mp h).1
  refine ⟨upd Hb p (.lst xs), R.b0, R.bb.trans sb, fun a n0 n1 => ?_, fun b x e => ?_, fun j d hj => ?_, fun j qq es hj => ?_, fun j l q1 q2 es fs b h1 h2 h3 h4 => ?_, by rw [List.length_set]; exact R.len, fun j P qn h => let ⟨t, t1, t2⟩ := R.tb j P qn (set_tb h (by intro z; cases z)); ⟨t, (upd_ne (fun z => by obtain ⟨_, w, _⟩ := t; rw [z, q] at w; cases w)).trans t1, t2⟩⟩
  · rw [upd_ne (fun z => n1 (by rw [z]; exact h0))]
    exact R.bn a n0 n1
  · by_cases hb : b = p
    · subst hb
      rw [upd_same] at e
      cases e
      exact q
    · rw [upd_ne hb] at e
      exact R.b1 _ _ e
  · by_cases z : i = j
    · subst z
      rw [List.getElem?_set_self hi] at hj
      cases hj
      exact ⟨.ref p, e, .lst (Rd.of upd_same) (A.mono sb)⟩
    · rw [List.getElem?_set_ne z] at hj
      obtain ⟨v, e, a⟩ := R.dat j d hj
      exact ⟨v, e, a.mono sb⟩
  · have z : i ≠ j := fun z => by
      subst z
      rw [List.getElem?_set_self hi] at hj
      cases hj
    rw [List.getElem?_set_ne z] at hj
    obtain ⟨a, ys, e2, n2, q2, A2, h2⟩ := R.own j qq es hj
    have ne : a ≠ p := fun w => z (R.sep i j _ _ ds es p h hj e (by rw [e2, w]))
    exact ⟨a, ys, e2, by rw [upd_ne ne]; exact n2, q2, A2.mono sb, h2⟩
  · have key : ∀ {j : Nat} {qq : Option Addr} {es : List D}, (ρ.set i (.dat (.lst ds)))[j]? = some (.ow qq es) → ρ[j]? = some (.ow qq es) := fun {j qq es} h => by
      by_cases z : i = j
      · subst z
        rw [List.getElem?_set_self hi] at h
        cases h
      · rwa [List.getElem?_set_ne z] at h
    exact R.sep j l q1 q2 es fs b (key h1) (key h2) h3 h4
section
variable {X : Cx} {W : WX} {ρ : List Sl} {Z : DZ} {N : List Str} {sc : Scope} {k : Nat} {a b e : Expr} {es : List Expr} {pos p : Pos} {Φ : D → Prop} {rest : List Stmt} {E : DE}
theorem sw_freeze {sts : List Stmt} {i : Nat} {ds : List D} (hρ : ρ[i]? = some (Sl.own ds)) (h : SW X W (ρ.set i (.dat (.lst ds))) sts E) : SW X W ρ sts E := fun H0 σ Hb H R x => by
  obtain ⟨Hb', R'⟩ := R.freeze hρ
  exact h H0 σ Hb' H R' x
/-- while own lists are read as data: where the answer is none of them -/
def froz (ρ : List Sl) : List Sl := ρ.map fun s => match s with
  | .ow _ ds => .dat (.lst ds)
  | .tb _ _ => .em
  | s => s
theorem froz_get {ρ : List Sl} {i : Nat} {s : Sl} (h : (froz ρ)[i]? = some s) : ∃ s', ρ[i]? = some s' ∧ s = (match s' with | .ow _ ds => .dat (.lst ds) | .tb _ _ => .em | s => s) := by
  unfold froz at h
  rw [List.getElem?_map] at h
  cases e : ρ[i]? with
  | none => rw [e] at h; cases h
  | some s' =>
    rw [e] at h
    exact ⟨s', rfl, (Option.some.inj h).symm⟩
theorem Rel.froz {K : PySem.W.Frag} {H0 : Ent} {ρ : List Sl} {σ : L2.St} {Hb H : Hp} (R : Rel K H0 ρ σ Hb H) : Rel K ⟨H, H⟩ (froz ρ) σ H H := by
  refine ⟨Same.refl _, Same.refl _, fun _ n _ => n, Same.refl _, fun i d h => ?_, fun i qq ds h => ?_, fun i j q1 q2 ds es a h => ?_, by unfold DL.froz; rw [List.length_map]; exact R.len, fun i P qn h => ?_⟩
  · obtain ⟨s', h', e⟩ := froz_get h
    cases s' with
    | em => cases e
    | tb _ _ => cases e
    | dat d' =>
      cases e
      obtain ⟨v, e, a⟩ := R.dat i _ h'
      exact ⟨v, e, a.mono R.b1⟩
    | ow qq ds =>
      cases e
      obtain ⟨a, xs, e, n, q, A, _⟩ := R.own i qq ds h'
      exact ⟨.ref a, e, .lst (Rd.of q) (A.mono R.b1)⟩
  · obtain ⟨s', h', e⟩ := froz_get h
    cases s' <;> cases e
  · obtain ⟨s', h', e⟩ := froz_get h
    cases s' <;> cases e
  · obtain ⟨s', h', e⟩ := froz_get h
    cases s' <;> cases e
def scalD : D → Bool
  | .non => true
  | .bl _ => true
  | .int _ => true
  | .str _ => true
  | .raw _ => true
  | _ => false
theorem At.scal {K : PySem.W.Frag} {H H' : Hp} {v : V} {d : D} (a : At K H v d) (h : scalD d = true) : At K H' v d := by
  cases a with
  | non => exact .non
  | bl b => exact .bl b
  | int b => exact .int b
  | str b => exact .str b
  | raw => exact .raw _
  | _ => cases h
theorem Rel.thaw {K : PySem.W.Frag} {H0 : Ent} {ρ : List Sl} {σ : L2.St} {Hb H H' : Hp} (R : Rel K H0 ρ σ Hb H) (s : Same H H') : Rel K H0 ρ σ Hb H' := R.grow s
theorem ew_froz (h : EW X W (froz ρ) e (fun d => scalD d = true ∧ Φ d) Z) : EW X W ρ e Φ Z := fun H0 σ Hb H R z =>
  EW.run h R.froz (fun C Hb' H' c R' g => z C Hb H' c (R.grow g.h) ⟨Same.refl _, g.h⟩) fun d v Hb' H' f R' g a _ => ⟨d, Hb, f.2, R.grow g.h, ⟨Same.refl _, g.h⟩, a.scal f.1⟩
theorem tw_froz {Φ : Bool → Prop} (h : TW X W (froz ρ) e Φ Z) : TW X W ρ e Φ Z := fun H0 σ Hb H R z =>
  TW.run h R.froz (fun C Hb' H' c R' g => z C Hb H' c (R.grow g.h) ⟨Same.refl _, g.h⟩) fun t Hb' H' f R' g _ => ⟨Hb, f, R.grow g.h, ⟨Same.refl _, g.h⟩⟩

/-! ### raise -/
/-- an exception class of the text, over ValueError -/
structure ExF (K : PySem.W.Frag) (mg : Str → Option Value) (x : Str) (C : Addr) : Prop where
  g : mg x = some (.ref C)
  e : PySem.W.excIn K C [.type "ValueError", .type "Exception", .type "BaseException", .type "object"] "ValueError.__new__" = true
  kp : PySem.W.keepIn K (.ref C) = true
  b : PySem.W.subIn K (.ref C) (.type "BaseException") = some true
  t : PySem.W.typeIn K (.ref C) = some (.type "type")
theorem sw_raise (C : Ctx X W N sc k) {x m : Str} {jj : Nat} {p2 pos' : Pos} {A : Addr} (F : ExF X.K X.mg x A) (h : E.ex A ρ) (hg : GlN sc x := by rfl) (hdb : (x == ("__debug__" : Str)) = false := by decide) : SW X W ρ (.Raise (some (.Call (.Name x p) [.Constant (.str m) jj p2] [] pos)) none pos' :: rest) E := sw_cons fun H0 σ Hb H R xx =>
  WS.of (ps_raise C.calm C.tk (pmk_own PySem.F.excBase_ValueError F.e F.g F.kp (raises_own F.b F.t) (C.gl hg) hdb)) (xx A ρ σ Hb H h R)

/-! ### try: .. except x as n: y = n -/
theorem Inv.track {pins : List (Addr × Obj)} {σ : L2.St} {H : Hp} {s : Shared} {a : Addr} {cls : Value} {oe : Obj} {vs : Array Value} (I : Inv X pins σ H s) (na : H a = none) (ha : s.heap.get? a = some oe) (hz : Zc cls none oe) (hd : oe.data = .fields vs) (n0 : X.s_0.heap.get? a = none) (nL : a ≠ X.env.locals) (hp : ∀ p ∈ X.pn ++ pins, p.1 ≠ a) : Inv X pins σ (upd H a (ExA cls a)) s := by
  refine ⟨I.ok, I.os, I.bare, ⟨I.base.keep, I.base.slot, fun b o e n hx => ?_, I.base.there, fun b xs e => ?_, fun b o u e => ?_, fun b ps e => ?_⟩, I.loc, I.cell, ?_, fun x c e => ?_, fun q hq => ?_, ?_, I.len⟩
  · rw [upd_ne (fun z => by rw [z, n0] at e; cases e)]
    exact I.base.free b o e n hx
  · have q := I.base.tups b xs e
    rw [upd_ne (ne_of_none q na)]
    exact q
  · have q := I.base.frzs b o u e
    rw [upd_ne (ne_of_none q na)]
    exact q
  · obtain ⟨m, q⟩ := I.base.tbls b ps e
    exact ⟨m, by rw [upd_ne (ne_of_none q na)]; exact q⟩
  · rw [upd_ne (Ne.symm nL)]
    exact I.free
  · have ne : c ≠ a := fun z => by
      obtain ⟨v, o, ho, hv⟩ := I.cell x c e
      rw [z, ha] at ho
      cases ho
      rw [hd] at hv
      cases hv
    rw [upd_ne ne]
    exact I.freeC x c e
  · obtain ⟨e, n, ne, nf, d⟩ := I.pin q hq
    exact ⟨e, by rw [upd_ne (hp q hq)]; exact n, ne, nf, d⟩
  · exact I.hok.laidN (fun _ _ z => z) na ⟨⟨oe, vs, ha, hz, hd⟩, ⟨oe, ha⟩, fun h1 h2 ⟨o, v, q, r⟩ kk => ⟨o, v, kk o q, r⟩⟩
/-- what the clause wishes: slot i is n's, slot j is y's -/
def wKeep (K : PySem.W.Frag) (c : Value) (i j : Nat) (Wout : WX) (D : Ends) : WX := fun cls d σ H =>
  ∃ b, PySem.W.exmOne K cls c = some b ∧ d = none ∧ (b = true → ∀ a, H a = none → D.nx (((σ.set i (some (.ref a))).set j (some (.ref a))).set i none) (upd H a (ExA cls a))) ∧ (b = false → Wout cls d σ H)
theorem ps_try_keep {x n y : Str} {c : Value} {i j : Nat} {body : List Stmt} {np pn1 py pos' spos : Pos} {tb : WX → TS} {Wout : WX} (hs : X.stack = X.env :: X.outer) (hf : X.env.frame = some X.env.locals) (hex : X.ex = []) (hN : X.N.Nodup) (hi : X.N[i]? = some n) (hln : X.env.kindOf n = some .local) (hj : X.N[j]? = some y) (hlj : X.env.kindOf y = some .local) (hc : Names X x c) (tk : Takes X Wout)
    (hb : ∀ (W : WX) (pn : List (Addr × Obj)) (xe : Value → Shared → Prop), Takes (X.tr pn xe) W → PassesOwn (model X.prog X.w) X.A X.env xe → PSs (X.tr pn xe) body (tb W))
    (hdn : (n == ("__debug__" : Str)) = false) (hcn : (n == ("__classdict__" : Str)) = false) (hij : i ≠ j) :
    PS X (.Try body [.ExceptHandler (some (.Name x np)) (some n) [.Assign [.Name y py] (.Name n pn1) spos] pos'] [] [] pos) (fun D σ H => tb (wKeep X.K c i j Wout D) D σ H) := by
  refine ⟨fun pins s σ H D I h => ?_⟩
  have ok := I.ok
  have hfr : X.A.frames = some (X.env :: X.outer) := by rw [ok.frames, hs]
  have hloc : Loc X.env.scope n := .inl hln
  refine wpAny_Try_except ?_
  refine wpAny_mono ((hb (wKeep X.K c i j Wout D) (X.pn ++ pins) (fun e s₁ => wpAny (model X.prog X.w) X.A (noteFrame e X.env) (fun _ s₂ => wpAny (model X.prog X.w) X.A (setFlight e none) (fun _ s₃ =>
    wpAny (model X.prog X.w) X.A (handleBy e X.env [.ExceptHandler (some (.Name x np)) (some n) [.Assign [.Name y py] (.Name n pn1) spos] pos']) (SP X pins D) X.xe s₃) X.xe s₂) X.xe s₁) (fun u s' xx => ?_) PassesOwn.looking).run [] s σ H D (I.toTry _) h) (fun f s1 hsp => ?_) (fun e s1 he => he)
  · -- the catch
    obtain ⟨a, B, sI, pins', σ', H', cls, d, rfl, J', nb, up, sky, na, os, ag, b, hb1, rfl, hyes, hno⟩ := xx
    have J : Inv X pins σ' H' sI := J'.ofTry ok
    have sky' : Sky B (X.env :: X.outer) a (Zc cls none) X.env.locals s'.heap := by rw [← hs]; exact sky
    show wpAny (model X.prog X.w) X.A (noteFrame (.ref a) X.env) _ _ _
    refine Sky.land Zc.steady hfr hf sky' fun h3 fl3 up3 => ?_
    have J3 : Inv X pins σ' H' { s' with heap := h3 } := J.landed nb fl3.1 (up.trans up3) os ag
    obtain ⟨oe3, vs3, he3, hz3, hd3⟩ := fl3.there
    have notFr : ∀ {h : Heap} {o : Obj} {vs : Array Value}, h.FunFrames B (X.env :: X.outer) → h.get? a = some o → o.data = .fields vs → a ∉ frs (X.env :: X.outer) := fun {h o vs} ff e dd hm => by
      obtain ⟨_, o', e', hnf⟩ := ff.mem hm
      rw [e] at e'; cases e'
      exact hnf _ dd
    have nfr := notFr fl3.2.2.1 he3 hd3
    have nL : a ≠ X.env.locals := fun z => nfr (List.mem_filterMap.mpr ⟨X.env, List.mem_cons_self, by rw [hf, z]⟩)
    have nF : a ∉ X.fs := fun hm => by
      obtain ⟨e, he, q⟩ := List.mem_filterMap.mp hm
      exact nfr (List.mem_filterMap.mpr ⟨e, List.mem_cons_of_mem _ he, q⟩)
    -- the exception is new
    have nB : B.get? a = none := fl3.2.1
    have nI : sI.heap.get? a = none := by
      cases e : sI.heap.get? a with
      | none => rfl
      | some o =>
        have z := nb a o e (by rw [hs]; exact nfr)
        rw [nB] at z
        cases z
    have n0 : X.s_0.heap.get? a = none := by
      cases e : X.s_0.heap.get? a with
      | none => rfl
      | some o =>
        obtain ⟨o', z⟩ := J.base.there a o e (by rw [hex]; exact fun z => nomatch z)
        rw [nI] at z
        cases z
    have np' : ∀ p ∈ X.pn ++ pins, p.1 ≠ a := fun p hp z => by
      have e := (J.pin p hp).1
      rw [z, nI] at e
      cases e
    have S3 := J3.suite he3 hd3 na nL nF
    refine wpAny_handleBy_cons (codeAny_handlers_test ?_) (by intro q; cases q)
    have LT : PySem.W.Looks (model X.prog X.w) h3 (typeOf (.ref a)) cls := fun A Q E s k q => wpAny_typeOf_ref (k _ _ he3) (by rw [hz3.1]; exact q)
    have LM := PySem.W.exm_one (M := model X.prog X.w) (J3.kIn) LT hb1
    have test : ∀ {Q : Value → Shared → Prop} {E : Value → Shared → Prop}, Q c { s' with heap := h3 } → wpAny (model X.prog X.w) (X.A.mark (some (.ref a))) (eval (.Name x np) X.env) Q E { s' with heap := h3 } := fun {Q E} q => by
      obtain ⟨hg, hdbg, hm | ⟨hm, hv, hnn⟩⟩ := hc
      · exact ld_glob (X := X.suite a ((a, oe3) :: (X.pn ++ pins))) S3 hg hm q hdbg
      · exact ld_blt (X := X.suite a ((a, oe3) :: (X.pn ++ pins))) S3 hg hm hv q hnn hdbg
    refine test (LM.here ?_)
    cases b with
    | true =>
      refine codeAny_handlers_suite_as ?_
      refine HandSPX.lands_againZ fl3 fun h4 fl4 up4 => ?_
      have J4 : Inv X pins σ' H' { s' with heap := h4 } := J.landed nb fl4.1 ((up.trans up3).trans up4) os ag
      obtain ⟨oe4, vs4, he4, hz4, hd4⟩ := fl4.there
      have S4 := J4.suite he4 hd4 na nL nF
      refine store_ok (X := X.suite a ((a, oe4) :: (X.pn ++ pins))) (v := .ref a) S4 hN hi hloc rfl (fun s5 S5 => ?_) (.inr hln)
      have hil : i < σ'.length := by
        rw [J.len]
        exact (List.getElem?_eq_some_iff.mp hi).1
      have ass := ps_set (X := X.suite a ((a, oe4) :: (X.pn ++ pins))) (pos := spos) (pos' := py) (i := j) (x := y) hN hj (.inl hlj) (pe_var (X := X.suite a ((a, oe4) :: (X.pn ++ pins))) (pos := pn1) hi (.inl hln) hdn hcn) rfl (.inr hlj)
      refine wpAny_mono ((pss_one ass).run [] s5 _ H' { nx := fun σ6 H6 => σ6 = (σ'.set i (some (.ref a))).set j (some (.ref a)) ∧ H6 = H', rt := fun _ _ => False } S5 ⟨.ref a, List.getElem?_set_self hil, rfl, rfl⟩) (fun f s6 hsp => ?_) (fun _ _ z => False.elim z)
      cases f with
      | next =>
        obtain ⟨σ6, H6, S6, e6, e7⟩ := hsp
        subst e6 e7
        have he6 : s6.heap.get? a = some oe4 := (S6.pin (a, oe4) (List.mem_append.mpr (.inl List.mem_cons_self))).1
        -- the exception stays pinned while its name goes
        have J6 : Inv X ((a, oe4) :: pins) ((σ'.set i (some (.ref a))).set j (some (.ref a))) H6 s6 :=
          ⟨ok, S6.os, S6.bare, S6.base, S6.loc, S6.cell, S6.free, S6.freeC, fun p hp => by
            rcases List.mem_append.mp hp with h | h
            · exact S6.pin p (List.mem_append_left _ (List.mem_cons_of_mem _ (List.mem_append_left _ h)))
            · rcases List.mem_cons.mp h with h | h
              · exact S6.pin p (List.mem_append_left _ (by rw [h]; exact List.mem_cons_self))
              · exact S6.pin p (List.mem_append_left _ (List.mem_cons_of_mem _ (List.mem_append_right _ h))), S6.hok, S6.len⟩
        refine gone_ok J6 hN hi hln fun s7 J7 => ?_
        have he7 : s7.heap.get? a = some oe4 := (J7.pin (a, oe4) (List.mem_append_right _ List.mem_cons_self)).1
        have J8 : Inv X pins (((σ'.set i (some (.ref a))).set j (some (.ref a))).set i none) H6 s7 :=
          ⟨J7.ok, J7.os, J7.bare, J7.base, J7.loc, J7.cell, J7.free, J7.freeC, fun p hp => J7.pin p (by
            rcases List.mem_append.mp hp with h | h
            · exact List.mem_append_left _ h
            · exact List.mem_append_right _ (List.mem_cons_of_mem _ h)), J7.hok, J7.len⟩
        exact ⟨_, _, DL.Inv.track J8 na he7 hz4 hd4 n0 nL np', hyes rfl a na⟩
      | brk => obtain ⟨_, _, _, z⟩ := hsp; exact z.elim
      | cont => obtain ⟨_, _, _, z⟩ := hsp; exact z.elim
      | ret u => obtain ⟨_, _, _, _, _, z⟩ := hsp; exact z.elim
    | false =>
      show wpAny _ X.A (handleBy (.ref a) X.env []) _ _ _
      refine wpAny_handleBy_nil ?_
      obtain ⟨k1, k2, k3, oe, vs, T, oT, ts', he, hz, hd, h1, hr⟩ := id fl3
      unfold PySem.passOn
      refine wpAny_bind (wpAny_field he hd h1 ?_)
      rw [if_neg (show ¬ ((Value.ref T == Value.none) = true) from by simp)]
      have fin : wpAny (model X.prog X.w) X.A (setFlight (.ref a) X.env.frame) (fun _ s4 => wpAny (model X.prog X.w) X.A (throw (.ref a) : Sem Flow) (SP X pins D) X.xe s4) X.xe { s' with heap := h3 } := by
        rw [hf]
        refine HandSPX.setFlight_upZ fl3 fun h4 hh4 up4 => wpAny_throw (tk _ _ ?_)
        exact ⟨a, B, sI, pins, σ', H', cls, none, rfl, J, nb, (up.trans up3).trans up4, .inr (.inr (by rw [hs]; exact hh4)), na, os, ag, hno rfl⟩
      first
        | exact wpAny_bind (wpAny_pure (wpAny_bind fin))
        | exact wpAny_bind fin
  · cases f with
    | next =>
      obtain ⟨σ', H', J', q⟩ := hsp
      exact wpAny_execs_nil ⟨σ', H', J'.ofTry ok, q⟩
    | brk =>
      obtain ⟨σ', H', J', q⟩ := hsp
      exact ⟨σ', H', J'.ofTry ok, q⟩
    | cont =>
      obtain ⟨σ', H', J', q⟩ := hsp
      exact ⟨σ', H', J'.ofTry ok, q⟩
    | ret u =>
      obtain ⟨v, σ', H', J', r, q⟩ := hsp
      exact ⟨v, σ', H', J'.ofTry ok, r, q⟩
theorem CtxD.tr (C : CtxD X W N sc k) {W' : WX} {pn : List (Addr × Obj)} {xe : Value → Shared → Prop} (tk : Takes (X.tr pn xe) W') (po : PassesOwn (model X.prog X.w) X.A X.env xe) : CtxD (X.tr pn xe) W' N sc k :=
  { hN := C.hN, nd := C.nd, hs := C.hs, room := C.room, calm := C.calm, tk := tk, own := po, fnD := C.fnD, stk := C.stk, frm := C.frm, exn := C.exn }
/-- over data -/
theorem sw_tryKeep (C : CtxD X W N sc k) {x n y : Str} {A : Addr} {i j : Nat} {body : List Stmt} {np pn1 py pos' spos : Pos} (hm : X.mg x = some (.ref A))
    (hb : ∀ (W' : WX) (pn : List (Addr × Obj)) (xe : Value → Shared → Prop), CtxD (X.tr pn xe) W' N sc k → SW (X.tr pn xe) W' ρ body { nx := fun ρ' => SW X W ρ' rest E, rt := E.rt, bk := E.bk, ct := E.ct, ex := fun B ρ' => PySem.W.exmOne X.K (.ref B) (.ref A) = some true ∧ SW X W (((ρ'.set i .em).set j (.dat (.exc B))).set i .em) rest E })
    (hij : i ≠ j) (hi : N[i]? = some n := by rfl) (hln : sc.names.lookup n = some .local := by rfl) (hj : N[j]? = some y := by rfl) (hlj : sc.names.lookup y = some .local := by rfl) (hg : GlN sc x := by rfl) (hdb : (x == ("__debug__" : Str)) = false := by decide) (hdn : (n == ("__debug__" : Str)) = false := by decide) (hcn : (n == ("__classdict__" : Str)) = false := by decide) :
    SW X W ρ (.Try body [.ExceptHandler (some (.Name x np)) (some n) [.Assign [.Name y py] (.Name n pn1) spos] pos'] [] [] pos :: rest) E := sw_cons fun H0 σ Hb H R xx => by
  have kn : X.env.kindOf n = some .local := by
    show X.env.scope.names.lookup n = _
    rw [C.hs]
    exact hln
  have ky : X.env.kindOf y = some .local := by
    show X.env.scope.names.lookup y = _
    rw [C.hs]
    exact hlj
  refine WS.of (ps_try_keep (tb := fun W' D σ H => ∀ pn xe, Takes (X.tr pn xe) W' → PassesOwn (model X.prog X.w) X.A X.env xe → WSs (X.tr pn xe) body D σ H) (Wout := W) C.stk C.frm C.exn C.ndX (C.at hi) kn (C.at hj) ky ⟨C.gl hg, hdb, .inl hm⟩ C.tk (fun W' pn xe tk po => ⟨fun pins s σ H D I h => (h pn xe tk po).go pins s I⟩) hdn hcn hij) ?_
  intro pn xe tk po
  refine WSs.mono (hb _ pn xe (C.tr tk po) H0 σ Hb H R ?_) (fun _ _ q => q) (fun _ _ q => q) (fun _ _ q => q) (fun _ _ q => q)
  intro B ρ' σ' Hb' H' z R'
  obtain ⟨z1, z2⟩ := z
  refine ⟨true, z1, rfl, fun _ a na => ?_, fun z => nomatch z⟩
  have nb : Hb' a = none := R'.b1.free na
  have R2 : Rel X.K H0 ρ' σ' (upd Hb' a (ExA (.ref B) a)) (upd H' a (ExA (.ref B) a)) := R'.alloc na
  exact ⟨_, _, z2, ((R2.setE i _).setD j (.exc upd_same)).setE i none⟩
/-! ### isinstance of a caught exception -/
def rIsG (K : PySem.W.Frag) : List V → Hp → VK → Prop := fun xs H Q => ∃ (a D : Addr) (c : V) (cv : Value) (b : Bool), xs = [.ref a, c] ∧ H a = some (ExA (.ref D) a) ∧ ExcC K D ∧ (∀ u, RelV c u → u = cv) ∧ PySem.W.kitOne K (.ref D) cv = some b ∧ Q (.bl b) H
theorem call_isG : CallR X (.builtin "isinstance") (rIsG X.K) := by
  intro pins s σ H xs us Q I r h
  obtain ⟨a, D, c, cv, b, rfl, ha, C, hcv, e, q⟩ := h
  cases r with
  | cons rx rr =>
    cases rr with
    | cons rt rr =>
      cases rr
      cases rx
      have ec := hcv _ rt
      subst ec
      obtain ⟨⟨oe, vs, hget, hz, hv⟩, _⟩ := I.hok a _ ha
      have J : PySem.W.InstAt s.heap a oe D none := by
        obtain ⟨oc, od, oda, osl⟩ := oe
        obtain ⟨h1, h2⟩ := hz
        dsimp only at h1 h2 hv
        subst h1 h2 hv
        exact ⟨hget, rfl, rfl, trivial⟩
      exact PySem.W.kia_one (PySem.W.handS_kitx_exc C.hg C.hk C.hs C.hd C.ha C.hn C.ht C.hm) I.kIn J e (fun z => nomatch z) fun tk => ⟨.bl b, H, I.kept (t' := tk) fun _ _ z => z, rfl, q⟩
/-- isinstance(e, C), e a caught exception, C a class of the text -/
theorem ew_isX (C : Ctx X W N sc k) (hm : X.mg "isinstance" = none) {x : Str} {A : Addr} {px : Pos} (hmx : X.mg x = some (.ref A))
    (h : EW X W ρ e (fun d => ∃ B t, d = .exc B ∧ ExcC X.K B ∧ PySem.W.kitOne X.K (.ref B) (.ref A) = some t ∧ Φ (.bl t)) Z) (hg : GlN sc "isinstance" := by rfl) (hgx : GlN sc x := by rfl) (hdx : (x == ("__debug__" : Str)) = false := by decide)
    (he : starEach [e, .Name x px] X.env = (false, eval e X.env) :: starEach [.Name x px] X.env := by exact star_nst rfl) : EW X W ρ (.Call (.Name "isinstance" p) [e, .Name x px] [] pos) Φ Z :=
  ew_cB C call_isG hg hm PyProof.Rows.boot_isinstance (aw_cons (h.mono fun d f => aw_cons (ew_globF C hgx hmx (aw_nil fun H0 ρ σ Hb H vs R A' Q kq => by
    obtain ⟨B, t, rfl, c, kt, f⟩ := f
    cases A' with
    | cons a1 A' =>
      cases A' with
      | cons a2 A' =>
        cases A'
        cases a2
        cases a1 with
        | exc q => exact ⟨_, B, _, .ref A, t, rfl, R.b1 _ _ q, c, fun u r => r, kt, kq _ _ (endE f R Gr.refl (.bl _))⟩) hdx) rfl) he) (by decide) (by decide) he rfl
/-- .. C a built-in class -/
theorem ew_isXB (C : Ctx X W N sc k) (hm : X.mg "isinstance" = none) {x : Str} {n : String} {px : Pos} (hmx : X.mg x = none) (hgx : sc.names.lookup x = some .globalImplicit) (hvx : bootBuiltins x = some (.type n))
    (h : EW X W ρ e (fun d => ∃ B t, d = .exc B ∧ ExcC X.K B ∧ PySem.W.kitOne X.K (.ref B) (.type n) = some t ∧ Φ (.bl t)) Z) (hg : GlN sc "isinstance" := by rfl) (hnx : x ≠ "__name__" := by decide) (hdx : (x == ("__debug__" : Str)) = false := by decide)
    (he : starEach [e, .Name x px] X.env = (false, eval e X.env) :: starEach [.Name x px] X.env := by exact star_nst rfl) : EW X W ρ (.Call (.Name "isinstance" p) [e, .Name x px] [] pos) Φ Z :=
  ew_cB C call_isG hg hm PyProof.Rows.boot_isinstance (aw_cons (h.mono fun d f => aw_cons (ew_ty C hgx hmx hvx (aw_nil fun H0 ρ σ Hb H vs R A' Q kq => by
    obtain ⟨B, t, rfl, c, kt, f⟩ := f
    cases A' with
    | cons a1 A' =>
      cases A' with
      | cons a2 A' =>
        cases A'
        cases a2
        cases a1 with
        | exc q => exact ⟨_, B, _, .type n, t, rfl, R.b1 _ _ q, c, fun u r => r, kt, kq _ _ (endE f R Gr.refl (.bl _))⟩) hnx hdx) rfl) he) (by decide) (by decide) he rfl
end
end DL
namespace DL
open PySem PySem.Spec PyProof.Rows L2
/-- the built-ins are what they were -/
structure Bt (mg : Str → Option Value) : Prop where
  len : mg "len" = none
  all : mg "all" = none
  isi : mg "isinstance" = none
  sorted : mg "sorted" = none
  tuple : mg "tuple" = none
  sum : mg "sum" = none
  range : mg "range" = none
  enum : mg "enumerate" = none
  list : mg "list" = none
  max : mg "max" = none
  min : mg "min" = none
  rev : mg "reversed" = none
  int : mg "int" = none
  str : mg "str" = none
  bool : mg "bool" = none
  ve : mg "ValueError" = none
section
variable {X : Cx} {W : WX} {ρ : List Sl} {Z : DZ} {N : List Str} {sc : Scope} {k : Nat} {pos : Pos} {Φ : D → Prop}
/-- the name in slot i -/
theorem nv (i : Nat) {x : Str} {d : D} (hρ : ρ[i]? = some (Sl.dat d)) (C : Ctx X W N sc k) (h : Φ d) (hN : N[i]? = some x := by rfl) (hv : Vis sc x := by first | exact .inl rfl | exact .inr (.inl rfl) | exact .inr (.inr rfl))
    (hd : (x == ("__debug__" : Str)) = false := by decide) (hcd : (x == ("__classdict__" : Str)) = false := by decide) : EW X W ρ (.Name x pos) Φ Z := ew_name C hN hv hρ h hd hcd
/-- .. as a sequence -/
theorem sv (i : Nat) {x : Str} {d : D} {Φ : Bool → List D → Prop} (hρ : ρ[i]? = some (Sl.dat d)) (C : Ctx X W N sc k) (h : seqD Φ d) (hN : N[i]? = some x := by rfl) (hv : Vis sc x := by first | exact .inl rfl | exact .inr (.inl rfl) | exact .inr (.inr rfl))
    (hd : (x == ("__debug__" : Str)) = false := by decide) (hcd : (x == ("__classdict__" : Str)) = false := by decide) : ES X W ρ (.Name x pos) Φ Z := es_ew (ew_name C hN hv hρ h hd hcd)
/-- .. an own list -/
theorem ov (i : Nat) {x : Str} {qq : Option Addr} {ds : List D} {Φ : Bool → List D → Prop} (hρ : ρ[i]? = some (Sl.ow qq ds)) (C : Ctx X W N sc k) (h : Φ false ds) (hN : N[i]? = some x := by rfl) (hv : Vis sc x := by first | exact .inl rfl | exact .inr (.inl rfl) | exact .inr (.inr rfl))
    (hd : (x == ("__debug__" : Str)) = false := by decide) (hcd : (x == ("__classdict__" : Str)) = false := by decide) : ES X W ρ (.Name x pos) Φ Z := es_own C hN hv hρ h hd hcd
end
section
variable {X : Cx} {W : WX} {ρ ρ2 : List Sl} {Z : DZ} {N : List Str} {sc scope : Scope} {k : Nat} {vs : List Nat} {elt tg iter c : Expr} {ifs : List Expr} {pos px spos : Pos} {f : D → List Sl → Option (List Sl)} {d r : D} {b : Bool}
theorem bi_plain (h2 : f d (wipeD (dropOwn ρ) vs) = some ρ2) (h : ∀ (s : Shared) (H : Hp) (C0 : Addr) (cl : List (Str × Addr)) (fp : List Addr), Ctx (X.blk s H scope (compEnvC scope cl C0 X.env) fp) W0 N (relS scope sc) k → EW (X.blk s H scope (compEnvC scope cl C0 X.env) fp) W0 ρ2 elt (fun r' => r' = r) NoZ) :
    BI X N sc scope k ρ vs f [] elt d (some r) := ⟨ρ2, true, h2, fun _ _ _ _ _ _ => rfl, fun _ => ⟨r, rfl, h⟩, fun z => nomatch z⟩
theorem bi_if (b : Bool) (h2 : f d (wipeD (dropOwn ρ) vs) = some ρ2) (hc : ∀ (s : Shared) (H : Hp) (C0 : Addr) (cl : List (Str × Addr)) (fp : List Addr), Ctx (X.blk s H scope (compEnvC scope cl C0 X.env) fp) W0 N (relS scope sc) k → TW (X.blk s H scope (compEnvC scope cl C0 X.env) fp) W0 ρ2 c (fun b' => b' = b) NoZ)
    (h : b = true → ∀ (s : Shared) (H : Hp) (C0 : Addr) (cl : List (Str × Addr)) (fp : List Addr), Ctx (X.blk s H scope (compEnvC scope cl C0 X.env) fp) W0 N (relS scope sc) k → EW (X.blk s H scope (compEnvC scope cl C0 X.env) fp) W0 ρ2 elt (fun r' => r' = r) NoZ) :
    BI X N sc scope k ρ vs f [c] elt d (if b = true then some r else none) := ⟨ρ2, b, h2, hc, fun e => ⟨r, by rw [if_pos e], h e⟩, fun e => by rw [if_neg (by rw [e]; exact Bool.false_ne_true)]⟩
theorem en_lcM {α : Type} {own : List (Str × Nat)} {Φ : List D → Prop} (enc g : α → D) (C : Ctx X W N sc k) (T : TgB N (relS scope sc) (own.map (·.2)) tg f)
    (h : IW X W ρ tg iter (fun ds => ∃ xs : List α, ds = xs.map enc ∧ xs.length ≤ 1000000 ∧ (∀ x ∈ xs, BI X N sc scope k ρ (own.map (·.2)) f ifs elt (enc x) (some (g x))) ∧ Φ (xs.map g)) Z) (ok : BlkOk N sc scope own) (hs : ∀ x, foldedSetIterable iter X.env x = pure x := by intro _; rfl) : EN X W ρ (.ListComp elt [⟨tg, iter, ifs, 0⟩] scope pos) Φ Z :=
  en_lc C T (fun H0 σ Hb H R z => (h H0 σ Hb H R z).mono fun J H1 ⟨ds, Hw, ⟨xs, e, hl, hb, f0⟩, q⟩ => ⟨ds, Hw, ⟨by rw [e, List.length_map]; exact hl, _, by rw [e]; exact outs_map hb, f0⟩, q⟩) ok hs
theorem en_lcF {α : Type} {own : List (Str × Nat)} {Φ : List D → Prop} (enc : α → D) (g : α → Option D) (C : Ctx X W N sc k) (T : TgB N (relS scope sc) (own.map (·.2)) tg f)
    (h : IW X W ρ tg iter (fun ds => ∃ xs : List α, ds = xs.map enc ∧ xs.length ≤ 1000000 ∧ (∀ x ∈ xs, BI X N sc scope k ρ (own.map (·.2)) f ifs elt (enc x) (g x)) ∧ Φ (xs.filterMap g)) Z) (ok : BlkOk N sc scope own) (hs : ∀ x, foldedSetIterable iter X.env x = pure x := by intro _; rfl) : EN X W ρ (.ListComp elt [⟨tg, iter, ifs, 0⟩] scope pos) Φ Z :=
  en_lc C T (fun H0 σ Hb H R z => (h H0 σ Hb H R z).mono fun J H1 ⟨ds, Hw, ⟨xs, e, hl, hb, f0⟩, q⟩ => ⟨ds, Hw, ⟨by rw [e, List.length_map]; exact hl, _, by rw [e]; exact outs_filter hb, f0⟩, q⟩) ok hs
end
/-! ### == -/
theorem eqD_int (i j : Int) : eqD (.int i) (.int j) = decide (i = j) := by
  unfold eqD
  simp only [D.py, PyData.eqv]
  exact Bool.beq_eq_decide_eq _ _
theorem eqD_str (i j : Str) : eqD (.str i) (.str j) = decide (i = j) := by
  unfold eqD
  simp only [D.py, PyData.eqv]
  by_cases h : i = j
  · subst h
    simp
  · rw [decide_eq_false h]
    exact beq_eq_false_iff_ne.mpr h
theorem eqD_non : eqD .non .non = true := by
  unfold eqD
  simp only [D.py, PyData.eqv]
theorem eqD_bl (i j : Bool) : eqD (.bl i) (.bl j) = decide (i = j) := by
  unfold eqD
  simp only [D.py, PyData.eqv]
  exact Bool.beq_eq_decide_eq _ _
theorem eqvAll_ints : ∀ ns ms : List Int, PyData.eqvAll (pyAll (ns.map D.int)) (pyAll (ms.map D.int)) = decide (ns = ms)
  | [], [] => by simp [pyAll, PyData.eqvAll]
  | [], _ :: _ => by simp [pyAll, PyData.eqvAll]
  | _ :: _, [] => by simp [pyAll, PyData.eqvAll]
  | n :: ns, m :: ms => by
    have ih := eqvAll_ints ns ms
    simp only [List.map_cons, pyAll, D.py, PyData.eqvAll, PyData.eqv, ih, List.cons.injEq]
    by_cases h : n = m
    · subst h
      simp
    · simp [h]
/-- a tuple, a list of ints -/
abbrev tupI (ns : List Int) : D := .tup (ns.map D.int)
abbrev lstI (ns : List Int) : D := .lst (ns.map D.int)
theorem eqD_tupI (ns ms : List Int) : eqD (tupI ns) (tupI ms) = decide (ns = ms) := by
  unfold eqD
  simp only [D.py, PyData.eqv]
  exact eqvAll_ints ns ms
theorem eqD_lstI (ns ms : List Int) : eqD (lstI ns) (lstI ms) = decide (ns = ms) := by
  unfold eqD
  simp only [D.py, PyData.eqv]
  exact eqvAll_ints ns ms
theorem pureAll_ints : ∀ ns : List Int, pureAll (ns.map D.int) = true
  | [] => rfl
  | n :: ns => by simp only [List.map_cons, pureAll, D.pure, pureAll_ints ns, Bool.and_self]
theorem depAll_ints : ∀ ns : List Int, depAll (ns.map D.int) = 0
  | [] => rfl
  | n :: ns => by simp only [List.map_cons, depAll, D.dep, depAll_ints ns, Nat.max_self]
theorem pure_tupI (ns : List Int) : (tupI ns).pure = true := by simp only [D.pure, pureAll_ints]
theorem dep_tupI (ns : List Int) : (tupI ns).dep = 1 := by simp only [D.dep, depAll_ints]
theorem pure_lstI (ns : List Int) : (lstI ns).pure = true := by simp only [D.pure, pureAll_ints]
theorem dep_lstI (ns : List Int) : (lstI ns).dep = 1 := by simp only [D.dep, depAll_ints]
/-- one side is flat and written -/
theorem eqok_r {x y : D} (hx : x.pure = true) (hy : y.pure = true) (h : y.dep ≤ 60) : EqOk x y := ⟨hx, hy, .inr h⟩
theorem eqok_l {x y : D} (hx : x.pure = true) (hy : y.pure = true) (h : x.dep ≤ 60) : EqOk x y := ⟨hx, hy, .inl h⟩
theorem atI_ints {ns : List Int} {i : Int} {m : Int} (h : L2.atI ns i = some m) : L2.atI (ns.map D.int) i = some (D.int m) := by
  unfold L2.atI at h ⊢
  rw [List.length_map]
  cases e : ixN ns.length i with
  | none => rw [e] at h; cases h
  | some j =>
    rw [e] at h
    show (ns.map D.int)[j]? = some (D.int m)
    rw [List.getElem?_map]
    have h : ns[j]? = some m := h
    rw [h]
    rfl
end DL
namespace DL
open PySem PySem.Spec PyProof.Rows L2
mutual
/-- what isinstance tells of by its built-in class -/
def D.wty : D → Bool
  | .raw _ => false
  | .clo _ _ => false
  | .ins _ _ => false
  | .exc _ => false
  | .pr _ _ => false
  | .dcz _ => false
  | .lst xs => wtyAll xs
  | .tup xs => wtyAll xs
  | .dct _ => true
  | .non => true
  | .bl _ => true
  | .int _ => true
  | .str _ => true
def wtyAll : List D → Bool
  | [] => true
  | x :: xs => x.wty && wtyAll xs
end
theorem wtyAll_mem : ∀ {xs : List D} {x : D}, wtyAll xs = true → x ∈ xs → x.wty = true
  | y :: ys, x, h, hx => by
    have h' := Bool.and_eq_true_iff.mp (by simpa only [wtyAll] using h)
    rcases List.mem_cons.mp hx with e | hx
    · rw [e]; exact h'.1
    · exact wtyAll_mem h'.2 hx
theorem wtyAll_ints : ∀ ns : List Int, wtyAll (ns.map D.int) = true
  | [] => rfl
  | n :: ns => by simp only [List.map_cons, wtyAll, D.wty, wtyAll_ints ns, Bool.and_self]
theorem wty_tupI (ns : List Int) : (tupI ns).wty = true := by simp only [D.wty, wtyAll_ints]
theorem wty_lstI (ns : List Int) : (lstI ns).wty = true := by simp only [D.wty, wtyAll_ints]
def isTup : D → Bool
  | .tup _ => true
  | _ => false
def isLst : D → Bool
  | .lst _ => true
  | _ => false
def isStr : D → Bool
  | .str _ => true
  | _ => false
def isBl : D → Bool
  | .bl _ => true
  | _ => false
/-- int, or bool that is one -/
def isInB : D → Bool
  | .int _ => true
  | .bl _ => true
  | _ => false
section
variable {X : Cx} {W : WX} {ρ : List Sl} {Z : DZ} {N : List Str} {sc : Scope} {k : Nat} {e a b : Expr} {es : List Expr} {p px pos : Pos} {Φ : D → Prop}
theorem ew_neg (h : EW X W ρ a (fun x => ∃ i, x = .int i ∧ Φ (.int (-i))) Z) : EW X W ρ (.UnaryOp .USub a pos) Φ Z := fun H0 σ Hb H R z =>
  WE.of (pe_un un_neg pe_w) (h.run R z fun x v Hb1 H1 f1 R1 s1 a1 z1 => by
    obtain ⟨i, rfl, f⟩ := f1
    cases a1
    exact ⟨i, rfl, endE f R1 s1 (.int _)⟩)
theorem ew_isTup (C : Ctx X W N sc k) (B : Bt X.mg) (h : EW X W ρ e (fun d => d.wty = true ∧ Φ (.bl (isTup d))) Z) (hgx : GlN sc "tuple" := by rfl) (hg : GlN sc "isinstance" := by rfl)
    (he : starEach [e, .Name "tuple" px] X.env = (false, eval e X.env) :: starEach [.Name "tuple" px] X.env := by exact star_nst rfl) : EW X W ρ (.Call (.Name "isinstance" p) [e, .Name "tuple" px] [] pos) Φ Z :=
  ew_isi C B.isi B.tuple hgx PyProof.Rows.boot_tuple (h.mono fun d ⟨hw, f⟩ => by
    cases d with
    | raw => cases hw
    | clo => cases hw
    | ins => cases hw
    | exc => cases hw
    | pr => cases hw
    | dcz => cases hw
    | _ => exact ⟨_, _, rfl, by simp only [isTup, isLst, isStr, isBl, isInB]; decide +kernel, f⟩) hg (by decide) (by decide) he
theorem ew_isInt (C : Ctx X W N sc k) (B : Bt X.mg) (h : EW X W ρ e (fun d => d.wty = true ∧ Φ (.bl (isInB d))) Z) (hgx : GlN sc "int" := by rfl) (hg : GlN sc "isinstance" := by rfl)
    (he : starEach [e, .Name "int" px] X.env = (false, eval e X.env) :: starEach [.Name "int" px] X.env := by exact star_nst rfl) : EW X W ρ (.Call (.Name "isinstance" p) [e, .Name "int" px] [] pos) Φ Z :=
  ew_isi C B.isi B.int hgx PyProof.Rows.boot_int (h.mono fun d ⟨hw, f⟩ => by
    cases d with
    | raw => cases hw
    | clo => cases hw
    | ins => cases hw
    | exc => cases hw
    | pr => cases hw
    | dcz => cases hw
    | _ => exact ⟨_, _, rfl, by simp only [isTup, isLst, isStr, isBl, isInB]; decide +kernel, f⟩) hg (by decide) (by decide) he
theorem ew_isBool (C : Ctx X W N sc k) (B : Bt X.mg) (h : EW X W ρ e (fun d => d.wty = true ∧ Φ (.bl (isBl d))) Z) (hgx : GlN sc "bool" := by rfl) (hg : GlN sc "isinstance" := by rfl)
    (he : starEach [e, .Name "bool" px] X.env = (false, eval e X.env) :: starEach [.Name "bool" px] X.env := by exact star_nst rfl) : EW X W ρ (.Call (.Name "isinstance" p) [e, .Name "bool" px] [] pos) Φ Z :=
  ew_isi C B.isi B.bool hgx PyProof.Rows.boot_bool (h.mono fun d ⟨hw, f⟩ => by
    cases d with
    | raw => cases hw
    | clo => cases hw
    | ins => cases hw
    | exc => cases hw
    | pr => cases hw
    | dcz => cases hw
    | _ => exact ⟨_, _, rfl, by simp only [isTup, isLst, isStr, isBl, isInB]; decide +kernel, f⟩) hg (by decide) (by decide) he
theorem ew_isStr (C : Ctx X W N sc k) (B : Bt X.mg) (h : EW X W ρ e (fun d => d.wty = true ∧ Φ (.bl (isStr d))) Z) (hgx : GlN sc "str" := by rfl) (hg : GlN sc "isinstance" := by rfl)
    (he : starEach [e, .Name "str" px] X.env = (false, eval e X.env) :: starEach [.Name "str" px] X.env := by exact star_nst rfl) : EW X W ρ (.Call (.Name "isinstance" p) [e, .Name "str" px] [] pos) Φ Z :=
  ew_isi C B.isi B.str hgx PyProof.Rows.boot_str (h.mono fun d ⟨hw, f⟩ => by
    cases d with
    | raw => cases hw
    | clo => cases hw
    | ins => cases hw
    | exc => cases hw
    | pr => cases hw
    | dcz => cases hw
    | _ => exact ⟨_, _, rfl, by simp only [isTup, isLst, isStr, isBl, isInB]; decide +kernel, f⟩) hg (by decide) (by decide) he
theorem ew_isList (C : Ctx X W N sc k) (B : Bt X.mg) (h : EW X W ρ e (fun d => d.wty = true ∧ Φ (.bl (isLst d))) Z) (hgx : GlN sc "list" := by rfl) (hg : GlN sc "isinstance" := by rfl)
    (he : starEach [e, .Name "list" px] X.env = (false, eval e X.env) :: starEach [.Name "list" px] X.env := by exact star_nst rfl) : EW X W ρ (.Call (.Name "isinstance" p) [e, .Name "list" px] [] pos) Φ Z :=
  ew_isi C B.isi B.list hgx PyProof.Rows.boot_list (h.mono fun d ⟨hw, f⟩ => by
    cases d with
    | raw => cases hw
    | clo => cases hw
    | ins => cases hw
    | exc => cases hw
    | pr => cases hw
    | dcz => cases hw
    | _ => exact ⟨_, _, rfl, by simp only [isTup, isLst, isStr, isBl, isInB]; decide +kernel, f⟩) hg (by decide) (by decide) he
end
/-- the name x is a def with its promise -/
abbrev Df (P : Program) (w : World) (K : PySem.W.Frag) (mg : Str → Option Value) (base : Heap) (x : Str) (k n : Nat) (S : List D → FR → Prop) : Prop := ∃ f, mg x = some (.ref f) ∧ Fn P w K mg base f k n S
abbrev DfX (X : Cx) (x : Str) (k n : Nat) (S : List D → FR → Prop) : Prop := Df X.prog X.w X.K X.mg X.base x k n S
section
variable {X : Cx} {W : WX} {ρ : List Sl} {Z : DZ} {N : List Str} {sc : Scope} {k j n : Nat} {e : Expr} {es : List Expr} {p pos : Pos} {S : List D → FR → Prop} {x : Str}
theorem ew_df {Φ : D → Prop} (C : Ctx X W N sc k) (F : DfX X x j n S) (h : AW X W ρ (e :: es) (fun ds => ds.length = n ∧ ∃ r, S ds r ∧ FRd Φ Z r) Z) (hj : j ≤ k := by omega) (hg : GlN sc x := by rfl) (hdb : (x == ("__debug__" : Str)) = false := by decide) (he : starEach (e :: es) X.env = (false, eval e X.env) :: starEach es X.env := by exact star_nst rfl) (hpl : (backTo pos (starEach es X.env)).any (·.1) = false := by rfl) : EW X W ρ (.Call (.Name x p) (e :: es) [] pos) Φ Z := by
  obtain ⟨f, hm, F⟩ := F
  exact ew_call C F hm h hj hg hdb he hpl
theorem en_df {Φ : List D → Prop} (C : Ctx X W N sc k) (F : DfX X x j n S) (h : AW X W ρ (e :: es) (fun ds => ds.length = n ∧ ∃ r, S ds r ∧ FRn Φ Z r) Z) (hj : j ≤ k := by omega) (hg : GlN sc x := by rfl) (hdb : (x == ("__debug__" : Str)) = false := by decide) (he : starEach (e :: es) X.env = (false, eval e X.env) :: starEach es X.env := by exact star_nst rfl) (hpl : (backTo pos (starEach es X.env)).any (·.1) = false := by rfl) : EN X W ρ (.Call (.Name x p) (e :: es) [] pos) Φ Z := by
  obtain ⟨f, hm, F⟩ := F
  exact en_call C F hm h hj hg hdb he hpl
theorem ew_df0 {Φ : D → Prop} (C : Ctx X W N sc k) (F : DfX X x j 0 S) (h : ∃ r, S [] r ∧ FRd Φ Z r) (hj : j ≤ k := by omega) (hg : GlN sc x := by rfl) (hdb : (x == ("__debug__" : Str)) = false := by decide) : EW X W ρ (.Call (.Name x p) [] [] pos) Φ Z := by
  obtain ⟨f, hm, F⟩ := F
  exact ew_call0 C F hm h hj hg hdb
end
section
variable {X : Cx} {W : WX} {ρ : List Sl} {Z : DZ} {N : List Str} {sc scope : Scope} {k : Nat} {e a b elt tg iter : Expr} {ifs : List Expr} {es : List Expr} {p px pos spos : Pos} {Φ : D → Prop} {rest : List Stmt} {E : DE}
/-- name = [..] is put by the target's own way -/
def lcSwap (sc scope : Scope) (y : Str) (l1 l2 : Nat) : Bool := sc.kind == .function && sc.names.lookup y == some .local && l1 == l2 && !(scope.names.any fun (n, k) => n == y && (k == .local || k == .cell))
theorem lcSwap_ok (C : Ctx X W N sc k) {y : Str} {ln : Nat} {gens : List Comprehension} (h : lcSwap sc scope y px.line pos.line = true) : swapsWith (.ListComp elt gens scope pos) (some (.Name y px)) ln X.env = pure true := by
  unfold lcSwap at h
  simp only [Bool.and_eq_true] at h
  obtain ⟨⟨⟨h1, h2⟩, h3⟩, h4⟩ := h
  have hk : X.env.blockKind = .function := by
    unfold Env.blockKind
    rw [C.hs, eq_of_beq h1]
    rfl
  have e : (X.env.blockKind == .function && X.env.kindOf y == some .local && px.line == pos.line && !(scope.names.any fun (n, k) => n == y && (k == .local || k == .cell))) = true := by
    simp only [Bool.and_eq_true]
    refine ⟨⟨⟨by rw [hk]; rfl, ?_⟩, h3⟩, h4⟩
    unfold Env.kindOf
    rw [C.hs]
    exact h2
  show (pure _ : Sem Bool) = pure true
  rw [← e]
  rfl
theorem sw_setLcM {α : Type} {own : List (Str × Nat)} {f : D → List Sl → Option (List Sl)} (enc g : α → D) (C : CtxD X W N sc k) (T : TgB N (relS scope sc) (own.map (·.2)) tg f) {i : Nat} {y : Str}
    (h : IW X W ρ tg iter (fun ds => ∃ xs : List α, ds = xs.map enc ∧ xs.length ≤ 1000000 ∧ (∀ x ∈ xs, BI X N sc scope k ρ (own.map (·.2)) f ifs elt (enc x) (some (g x))) ∧ SW X W (ρ.set i (.own (xs.map g))) rest E) (exz E ρ)) (ok : BlkOk N sc scope own)
    (hsw : lcSwap sc scope y px.line pos.line = true := by decide +kernel) (hi : N[i]? = some y := by rfl) (hy : sc.names.lookup y = some .local := by rfl) (hs : ∀ x, foldedSetIterable iter X.env x = pure x := by intro _; rfl) :
    SW X W ρ (.Assign [.Name y px] (.ListComp elt [⟨tg, iter, ifs, 0⟩] scope pos) spos :: rest) E :=
  sw_setLcO C T (fun H0 σ Hb H R z => (h H0 σ Hb H R z).mono fun J H1 ⟨ds, Hw, ⟨xs, e, hl, hb, f0⟩, q⟩ => ⟨ds, Hw, ⟨by rw [e, List.length_map]; exact hl, _, by rw [e]; exact outs_map hb, f0⟩, q⟩) ok (lcSwap_ok C.toCtx hsw) hi hy hs
theorem sw_setLcF {α : Type} {own : List (Str × Nat)} {f : D → List Sl → Option (List Sl)} (enc : α → D) (g : α → Option D) (C : CtxD X W N sc k) (T : TgB N (relS scope sc) (own.map (·.2)) tg f) {i : Nat} {y : Str}
    (h : IW X W ρ tg iter (fun ds => ∃ xs : List α, ds = xs.map enc ∧ xs.length ≤ 1000000 ∧ (∀ x ∈ xs, BI X N sc scope k ρ (own.map (·.2)) f ifs elt (enc x) (g x)) ∧ SW X W (ρ.set i (.own (xs.filterMap g))) rest E) (exz E ρ)) (ok : BlkOk N sc scope own)
    (hsw : lcSwap sc scope y px.line pos.line = true := by decide +kernel) (hi : N[i]? = some y := by rfl) (hy : sc.names.lookup y = some .local := by rfl) (hs : ∀ x, foldedSetIterable iter X.env x = pure x := by intro _; rfl) :
    SW X W ρ (.Assign [.Name y px] (.ListComp elt [⟨tg, iter, ifs, 0⟩] scope pos) spos :: rest) E :=
  sw_setLcO C T (fun H0 σ Hb H R z => (h H0 σ Hb H R z).mono fun J H1 ⟨ds, Hw, ⟨xs, e, hl, hb, f0⟩, q⟩ => ⟨ds, Hw, ⟨by rw [e, List.length_map]; exact hl, _, by rw [e]; exact outs_filter hb, f0⟩, q⟩) ok (lcSwap_ok C.toCtx hsw) hi hy hs
/-- == of ints -/
theorem eqok_int (i j : Int) : EqOk (.int i) (.int j) := ⟨rfl, rfl, .inl (by simp only [D.dep]; decide)⟩
theorem ew_eqI (C : Ctx X W N sc k) (h : EW X W ρ a (fun x => EW X W ρ b (fun y => ∃ i j, x = .int i ∧ y = .int j ∧ Φ (.bl (decide (i = j)))) Z) Z) : EW X W ρ (.Compare a [.Eq] [b] pos) Φ Z :=
  ew_eq C (h.mono fun x h => h.mono fun y ⟨i, j, e1, e2, f⟩ => by subst e1 e2; exact ⟨eqok_int i j, by rw [eqD_int]; exact f⟩)
theorem tw_eqI {Φ : Bool → Prop} (C : Ctx X W N sc k) (h : EW X W ρ a (fun x => EW X W ρ b (fun y => ∃ i j, x = .int i ∧ y = .int j ∧ Φ (decide (i = j))) Z) Z) : TW X W ρ (.Compare a [.Eq] [b] pos) Φ Z :=
  tw_eq C (h.mono fun x h => h.mono fun y ⟨i, j, e1, e2, f⟩ => by subst e1 e2; exact ⟨eqok_int i j, by rw [eqD_int]; exact f⟩)
theorem tw_neI {Φ : Bool → Prop} (C : Ctx X W N sc k) (h : EW X W ρ a (fun x => EW X W ρ b (fun y => ∃ i j, x = .int i ∧ y = .int j ∧ Φ (!decide (i = j))) Z) Z) : TW X W ρ (.Compare a [.NotEq] [b] pos) Φ Z :=
  tw_ne C (h.mono fun x h => h.mono fun y ⟨i, j, e1, e2, f⟩ => by subst e1 e2; exact ⟨eqok_int i j, by rw [eqD_int]; exact f⟩)
/-- {i: j}, two ints -/
theorem ew_dct1 {i j : Int} {k1 k2 : Nat} {p1 p2 : Pos} (h : Φ (.dct [(.inl i, .int j)])) : EW X W ρ (.Dict [some (.Constant (.int i) k1 p1)] [.Constant (.int j) k2 p2] pos) Φ Z := fun H0 σ Hb H R z =>
  WE.of (pe_disp (pps_cons pe_int pe_int pps_nil) rfl rfl (by simp) (by simp only [List.length_cons, List.length_nil]; decide)) fun p hp => by
    refine ⟨upd_same, [(.inl i, .int j)], rfl, by simp only [List.length_cons, List.length_nil]; decide, ?_⟩
    have e : upd (upd H p (.dK [])) p (.dK (mergeK [] [((.inl i : Key), V.int j)])) = upd H p (.dK [(.inl i, .int j)]) := by
      funext x
      by_cases hx : x = p
      · subst hx
        rw [upd_same, upd_same]
        rfl
      · rw [upd_ne hx, upd_ne hx, upd_ne hx]
    show PostE X.K H0 ρ σ Hb H Φ _ _
    rw [e]
    exact endNew h R Gr.refl hp (.dct upd_same)
end
theorem szl {ds : List D} (h : Nat.ble ds.length 64 = true) : ds.length ≤ sizeLine := Nat.le_trans (Nat.le_of_ble_eq_true h) (by decide)
theorem szn {n : Nat} (h : n ≤ 1000000) : n ≤ sizeLine := Nat.le_trans h (by decide)
theorem eqL {x y : D} (h : Nat.ble x.dep 60 = true) (hx : x.pure = true) (hy : y.pure = true) : EqOk x y := ⟨hx, hy, .inl (Nat.le_of_ble_eq_true h)⟩
theorem eqR {x y : D} (h : Nat.ble y.dep 60 = true) (hx : x.pure = true) (hy : y.pure = true) : EqOk x y := ⟨hx, hy, .inr (Nat.le_of_ble_eq_true h)⟩
theorem aw_gen {X : Cx} {W : WX} {ρ : List Sl} {Z : DZ} {es : List Expr} {Φ : List D → Prop} (ds : List D) (h : ∀ Φ' : List D → Prop, Φ' ds → AW X W ρ es Φ' Z) (h2 : Φ ds) : AW X W ρ es Φ Z := h Φ h2
theorem aw_tup {X : Cx} {W : WX} {ρ : List Sl} {Z : DZ} {es1 es : List Expr} {x1} {pos : Pos} {Φ : List D → Prop} (h : AW X W ρ es1 (fun ds1 => ds1.length ≤ sizeLine ∧ AW X W ρ es (fun ds => Φ (.tup ds1 :: ds)) Z) Z)
    (hs : starEach (.Tuple es1 x1 pos :: es) X.env = (false, eval (.Tuple es1 x1 pos) X.env) :: starEach es X.env := by rfl) : AW X W ρ (.Tuple es1 x1 pos :: es) Φ Z := aw_cons (ew_tup h) hs
end DL
namespace DL
open PySem PySem.Spec PyProof.Rows L2
/-! ### max(.., default=..) -/
theorem maxOf_is (y : Int) : ∀ ys : List Int, PySem.W.maxOf y ys ∈ y :: ys ∧ ∀ z ∈ y :: ys, z ≤ PySem.W.maxOf y ys := by
  intro ys
  induction ys generalizing y with
  | nil => exact ⟨List.mem_singleton.mpr rfl, fun z hz => by rw [List.mem_singleton.mp hz]; exact Int.le_refl _⟩
  | cons x xs ih =>
    have e : PySem.W.maxOf y (x :: xs) = PySem.W.maxOf (if PySem.W.DatumOrd.lt y x = true then x else y) xs := rfl
    have l : (PySem.W.DatumOrd.lt y x = true) ↔ y < x := by
      show decide (y < x) = true ↔ _
      exact decide_eq_true_iff
    rw [e]
    by_cases h : y < x
    · rw [if_pos (l.mpr h)]
      obtain ⟨h1, h2⟩ := ih x
      refine ⟨List.mem_cons_of_mem _ h1, fun z hz => ?_⟩
      rcases List.mem_cons.mp hz with rfl | hz
      · exact Int.le_trans (Int.le_of_lt h) (h2 x List.mem_cons_self)
      · exact h2 z hz
    · rw [if_neg (fun q => h (l.mp q))]
      obtain ⟨h1, h2⟩ := ih y
      refine ⟨?_, fun z hz => ?_⟩
      · rcases List.mem_cons.mp h1 with q | q
        · rw [q]; exact List.mem_cons_self
        · exact List.mem_cons_of_mem _ (List.mem_cons_of_mem _ q)
      · rcases List.mem_cons.mp hz with rfl | hz
        · exact h2 z List.mem_cons_self
        · rcases List.mem_cons.mp hz with rfl | hz
          · exact Int.le_trans (Int.not_lt.mp h) (h2 y List.mem_cons_self)
          · exact h2 z (List.mem_cons_of_mem _ hz)
section
variable {X : Cx} {W : WX} {ρ : List Sl} {Z : DZ} {N : List Str} {sc : Scope} {k : Nat} {e d : Expr} {p kp pos : Pos} {Φ : D → Prop} {te td : TE}
theorem holdInts {h : Heap} : ∀ {ns : List Int} {its : List Value}, Vals (ns.map V.int) its → PySem.W.HoldAll h its ns
  | [], _, r => by cases r; exact ⟨_, .nil⟩
  | n :: ns, _, r => by
    rw [List.map_cons] at r
    cases r with
    | cons r1 r2 =>
      obtain ⟨t, rfl⟩ := r1
      obtain ⟨as, q⟩ := holdInts r2
      exact ⟨_, .cons (.int n t) q⟩
theorem heldInt {h : Heap} {u : Value} {m : Int} (hh : PySem.W.Holds h u m) : RelV (.int m) u := by
  obtain ⟨as, r⟩ := hh
  cases r
  exact ⟨_, rfl⟩
theorem pe_maxD (hc : X.calm = true) (hu : X.A.units + 2 < cLine) (hg : Gl X "max") (hm : X.mg "max" = none) (he : PE X e te) (hd : PE X d td) (hs : starEach [e] X.env = (false, eval e X.env) :: starEach [] X.env) :
    PE X (.Call (.Name "max" p) [e] [⟨some "default", d, kp⟩] pos) (fun σ H Q => te σ H fun x H1 => td σ H1 fun y H2 => ∃ (a : Addr) (ns : List Int) (k : Int), x = .ref a ∧ SqL X.K H2 a (ns.map V.int) ∧ y = .int k ∧ ∀ m : Int, (ns = [] ∧ m = k ∨ m ∈ ns ∧ ∀ y ∈ ns, y ≤ m) → Q (.int m) H2) := by
  refine ⟨fun pins s σ H Q I h => ?_⟩
  have e1 : backTo pos (starEach [e] X.env) = (false, eval e X.env) :: backTo pos (starEach [] X.env) := by rw [hs]; rfl
  refine wpAny_Call_Name_kw (ld_blt I hg hm boot_max ?_)
  refine PyProof.Rows.callWith_kw (kws := [⟨some "default", d, kp⟩]) ?_ e1 (by rw [e1]; rfl) rfl rfl
  refine one_arg he I h (fun v s2 x H2 I2 r q => ?_) hs
  refine thn ((pk_cons hd pk_nil).run pos pins s2 σ H2 (fun vs H' => match vs with
    | [y] => ∃ (a : Addr) (ns : List Int) (k : Int), x = .ref a ∧ SqL X.K H' a (ns.map V.int) ∧ y = .int k ∧ ∀ m : Int, (ns = [] ∧ m = k ∨ m ∈ ns ∧ ∀ y ∈ ns, y ≤ m) → Q (.int m) H'
    | _ => False) I2 q) fun us s3 ⟨vs, H3, I3, r3, q3⟩ => ?_
  match vs, r3, q3 with
  | [], _, q3 => exact q3.elim
  | _ :: _ :: _, _, q3 => exact q3.elim
  | [y], r3, ⟨a, ns, k, e1, hS, e2, qq⟩ =>
    subst e1 e2
    obtain rfl : v = .ref a := r
    cases r3 with
    | cons ry rr =>
      cases rr
      obtain ⟨t, rfl⟩ := ry
      obtain ⟨its, rv, hl, hz⟩ := I3.list hS
      refine PySem.W.max_list_datum_default (α := Int) (xs := ns) (I3.ok.hd hc) hl.isList (by rw [List.toList_toArray]; exact holdInts rv) (show X.A.units + 1 + 0 < cLine by omega) (fun e h' tk hk => ⟨.int k, H3, I3.kept hk, ⟨_, rfl⟩, qq k (.inl ⟨e, rfl⟩)⟩) fun y ys i u h' tk e hu hh hk => ?_
      obtain ⟨z1, z2⟩ := maxOf_is y ys
      subst e
      exact ⟨.int (PySem.W.maxOf y ys), H3, I3.kept hk, heldInt hh, qq _ (.inr ⟨z1, z2⟩)⟩
theorem ew_maxD (C : Ctx X W N sc k) (hm : X.mg "max" = none) (h : ES X W ρ e (fun t ds => t = false ∧ EW X W ρ d (fun y => ∃ (ns : List Int) (k : Int), ds = ns.map D.int ∧ y = .int k ∧ ∀ m : Int, (ns = [] ∧ m = k ∨ m ∈ ns ∧ ∀ y ∈ ns, y ≤ m) → Φ (.int m)) Z) Z)
    (hg : GlN sc "max" := by rfl) (hs : starEach [e] X.env = (false, eval e X.env) :: starEach [] X.env := by exact star_nst rfl) : EW X W ρ (.Call (.Name "max" p) [e] [⟨some "default", d, kp⟩] pos) Φ Z := fun H0 σ Hb H R z =>
  WE.of (pe_maxD C.calm (by have := C.room.un; omega) (C.gl hg) hm pe_w pe_w hs) (h.run R z fun t ds a xs Hb1 H1 f1 R1 s1 q A T z1 => by
    obtain ⟨rfl, f1⟩ := f1
    refine f1.run R1 z1 fun y v Hb2 H2 f2 R2 s2 a2 _ => ?_
    obtain ⟨ns, k, rfl, rfl, f2⟩ := f2
    have e1 := A.ints
    subst e1
    cases a2
    exact ⟨a, ns, k, rfl, (Sq.mono s2.h q).l, rfl, fun m hm => endE (f2 m hm) R2 (s1.trans s2) (.int _)⟩)
end
/-! ### x, y = a, b, the names on one line -/
def par2 (sc : Scope) (x y : Str) (l1 l2 : Nat) (a b : Expr) : Bool := sc.kind == .function && sc.names.lookup x == some .local && sc.names.lookup y == some .local && l1 == l2 && !(x == y) && nst a && nst b && !([a, b].all (foldedForSure 8)) && !([a, b].all (constantsAlone 8))
section
variable {X : Cx} {W : WX} {ρ : List Sl} {N : List Str} {sc : Scope} {k : Nat} {a b : Expr} {px py pt pos : Pos} {rest : List Stmt} {E : DE}
theorem par2_ok (C : Ctx X W N sc k) {x y : Str} {kt k2 pt2} (h : par2 sc x y px.line py.line a b = true) : swappedStores [.Tuple [.Name x px, .Name y py] kt pt] (.Tuple [a, b] k2 pt2) X.env = pure (some [x, y]) := by
  unfold par2 at h
  simp only [Bool.and_eq_true, Bool.not_eq_true'] at h
  obtain ⟨⟨⟨⟨⟨⟨⟨⟨h1, h2⟩, h3⟩, h4⟩, h5⟩, h6⟩, h7⟩, h8⟩, h9⟩ := h
  have hk : X.env.blockKind = .function := by
    unfold Env.blockKind
    rw [C.hs, eq_of_beq h1]
    rfl
  have kx : X.env.kindOf x = some .local := by
    unfold Env.kindOf
    rw [C.hs]
    exact eq_of_beq h2
  have ky : X.env.kindOf y = some .local := by
    unfold Env.kindOf
    rw [C.hs]
    exact eq_of_beq h3
  have hl : py.line = px.line := (eq_of_beq h4).symm
  have hne : (x == y) = false := h5
  have hne2 : (y == x) = false := by
    rw [← hne]
    exact BEq.comm
  have n1 : x ≠ y := fun z => by rw [z, beq_self_eq_true] at hne; cases hne
  have n2 : y ≠ x := fun z => n1 z.symm
  unfold swappedStores
  simp only [hk]
  refine (if_neg (by simp)).trans ((if_neg ?_).trans ((if_neg ?_).trans ((if_neg ?_).trans ?_)))
  · cases a with
    | Starred => cases h6
    | _ =>
      cases b with
      | Starred => cases h7
      | _ => exact Bool.false_ne_true
  · simp [List.filterMap_cons, Expr.pos, kx, ky, hl, hne, hne2, List.eraseDups_cons, n1, n2]
  · rw [h8]
    exact Bool.false_ne_true
  · simp [List.filterMap_cons, Expr.pos, kx, ky, hl, h9]
theorem sw_par2 (C : CtxD X W N sc k) {i j : Nat} {x y : Str} {kt k2 pt2} (h : AW X W ρ [a, b] (fun ds => ∃ d e, ds = [d, e] ∧ SW X W ((ρ.set i (.dat d)).set j (.dat e)) rest E) (exz E ρ))
    (hij : i ≠ j := by decide) (hp : par2 sc x y px.line py.line a b = true := by decide +kernel) (hi : N[i]? = some x := by rfl) (hj : N[j]? = some y := by rfl) (hx : sc.names.lookup x = some .local := by rfl) (hy : sc.names.lookup y = some .local := by rfl)
    (hsw : ∀ env, swapsWithSole [.Tuple [.Name x px, .Name y py] kt pt] (.Tuple [a, b] k2 pt2) pos.line env = pure false := by intro _; rfl) : SW X W ρ (.Assign [.Tuple [.Name x px, .Name y py] kt pt] (.Tuple [a, b] k2 pt2) pos :: rest) E :=
  sw_par C h fun te hte => ps_par C.calm C.ndX (C.at hi) (C.at hj) hij (by rw [C.hs]; exact hx) (by rw [C.hs]; exact hy) hte (par2_ok C.toCtx hp) (hsw _)
/-- if, whose branches meet again in ρ' -/
theorem sw_ifJ {c : Expr} {s1 s2 : List Stmt} {ρ' : List Sl} (hr : SW X W ρ' rest E) (h : TW X W ρ c (fun t => (t = true → SW X W ρ s1 { E with nx := fun ρ2 => ρ2 = ρ' }) ∧ (t = false → SW X W ρ s2 { E with nx := fun ρ2 => ρ2 = ρ' })) (exz E ρ)) : SW X W ρ (.If c s1 s2 pos :: rest) E :=
  sw_if (h.mono fun t ⟨h1, h2⟩ => ⟨fun ht => sw_mono (h1 ht) (fun _ e => by subst e; exact hr) (fun _ h => h) (fun _ h => h) (fun _ h => h) (fun _ _ h => h), fun ht => sw_mono (h2 ht) (fun _ e => by subst e; exact hr) (fun _ h => h) (fun _ h => h) (fun _ h => h) (fun _ _ h => h)⟩)
end
end DL
namespace DL
open PySem PySem.Spec PyProof.Rows L2
/-! ### list(enumerate(l)): the pairs are kept, so the enumerate object makes a new one each time -/
/-- an enumerate object at its i-th item: its own pair never handed out, or handed out and still there -/
def EnS (h : Heap) (e it : Addr) (i : Int) : Prop := ∃ a0 b0 old : Value, h.get? e = some { cls := .type "enumerate", dict := none, data := .fields #[a0, b0, .ref it, rawInt i, .none, old], slots := #[] } ∧
  ((a0 = .none ∧ b0 = .bool false) ∨ ∃ (T : Nat) (o : Obj), a0 = rawInt (T : Int) ∧ h.get? T = some o ∧ T ≠ e ∧ T ≠ it)
section
variable {prog : Program} {w : World} {A : Around} {E : Value → Shared → Prop} {s : Shared}
theorem any_alive {a : Addr} {Q : Option Obj → Shared → Prop} (h : Q (s.heap.get? a) s) : wpAny (model prog w) A (loadIfAlive a) Q E s := fun _ _ _ => h
/-- the pair is out and there: a new pair, the object only counts on -/
theorem next_out {e it l : Addr} {i : Nat} {items : Array Value} {x b0 old : Value} {T : Nat} {oT : Obj} {Q : Value → Shared → Prop}
    (ho : s.heap.get? e = some { cls := .type "enumerate", dict := none, data := .fields #[rawInt (T : Int), b0, .ref it, rawInt i, .none, old], slots := #[] }) (hT : s.heap.get? T = some oT) (nTe : T ≠ e) (nTi : T ≠ it)
    (hit : s.heap.IsListIter it l i) (hl : s.heap.IsList l items) (hx : items[i]? = some x) (hne : e ≠ it)
    (hQ : ∀ h', EnS h' e it ((i : Int) + 1) → h'.IsListIter it l (i + 1) → h'.get? s.heap.objs.size = some { cls := .type "tuple", data := .seq #[.int i s.toks, x] } →
      (∀ b o, b ≠ e → b ≠ it → s.heap.get? b = some o → h'.get? b = some o) → Q (.ref s.heap.objs.size) { s with heap := h', toks := s.toks + 1 }) :
    wpAny (model prog w) A (Builtin.«enumerate.__next__» ⟨[.ref e], []⟩) (fun fin s' => ∃ v, fin = .done (.ret v) ∧ Q v s') E s := by
  obtain ⟨h0, gg, dd, tk, os⟩ := s
  show wpAny _ _ (do let y ← field (.ref e) 2; _) _ _ _
  refine wpAny_bind (wpAny_field ho rfl (x := .ref it) rfl (wpAny_bind (wpAny_nextOf_list_item hit hl hx fun h1 hi1 q1 => ?_)))
  have q1 : Heap.SameBut it h0 h1 := q1
  have o1 := (q1.2 e hne).trans ho
  refine wpAny_bind (wpAny_field (s := ⟨h1, gg, dd, tk, os⟩) o1 rfl (x := rawInt i) rfl (wpAny_bind (wpAny_field (s := ⟨h1, gg, dd, tk, os⟩) o1 rfl (x := .none) rfl ?_)))
  show wpAny _ _ (do let y ← mkInt i; _) _ _ _
  refine wpAny_bind (wpAny_mkInt (wpAny_bind (wpAny_setField_rec (s := ⟨h1, gg, dd, tk + 1, os⟩) o1 (by simp) fun h2 o2 q2 => ?_)))
  refine wpAny_bind (wpAny_setField_rec (s := ⟨h2, gg, dd, tk + 1, os⟩) o2 (by simp) fun h3 o3 q3 => ?_)
  refine wpAny_bind (wpAny_newTuple ?_)
  have q2 : Heap.SameBut e h1 h2 := q2
  have q3 : Heap.SameBut e h2 h3 := q3
  have size3 : h3.objs.size = h0.objs.size := q3.1.trans (q2.1.trans q1.1)
  generalize hp : h3.push { cls := .type "tuple", data := .seq #[.int i tk, x] } = h4
  have o4 : h4.get? e = some { cls := .type "enumerate", dict := none, data := .fields #[rawInt (T : Int), b0, .ref it, rawInt ((i : Int) + 1), .none, old], slots := #[] } := by
    rw [← hp]
    exact Heap.get?_push_of_some _ o3
  have keep : ∀ b o, b ≠ e → b ≠ it → h0.get? b = some o → h4.get? b = some o := fun b o n1 n2 z => by
    rw [← hp]
    exact Heap.get?_push_of_some _ (q3.extBut b o n1 (q2.extBut b o n1 (q1.extBut b o n2 z)))
  have tup4 : h4.get? h0.objs.size = some { cls := .type "tuple", data := .seq #[.int i tk, x] } := by
    rw [← hp, ← size3]
    exact Heap.get?_push_size _ rfl
  have it4 : h4.IsListIter it l (i + 1) := by
    obtain ⟨o, z, r⟩ := (hi1.extBut q2.extBut (Ne.symm hne)).extBut q3.extBut (Ne.symm hne)
    rw [← hp]
    exact ⟨o, Heap.get?_push_of_some _ z, r⟩
  have T4 := keep T oT nTe nTi hT
  have lt : e < h0.objs.size := Heap.lt_size ho
  rw [size3]
  refine wpAny_bind ?_
  show wpAny _ _ (Builtin.SmallTypes.ownedTupleIsFree (.ref e)) _ _ ⟨h4, gg, dd, tk + 1, os⟩
  unfold Builtin.SmallTypes.ownedTupleIsFree
  refine wpAny_bind (wpAny_field (s := ⟨h4, gg, dd, tk + 1, os⟩) o4 rfl (x := rawInt (T : Int)) rfl ?_)
  refine wpAny_bind (any_alive ?_)
  have eT : (T : Int).toNat = T := Int.toNat_natCast T
  rw [eT]
  have T4' : (Shared.heap ⟨h4, gg, dd, tk + 1, os⟩).get? T = some oT := T4
  rw [T4']
  refine wpAny_bind (wpAny_field (s := ⟨h4, gg, dd, tk + 1, os⟩) o4 rfl (x := b0) rfl ?_)
  have last : ∀ (h5 : Heap) (b5 : Value), h5.get? e = some { cls := .type "enumerate", dict := none, data := .fields #[rawInt (T : Int), b5, .ref it, rawInt ((i : Int) + 1), .none, old], slots := #[] } → (∀ b o, b ≠ e → h4.get? b = some o → h5.get? b = some o) →
      Q (.ref h0.objs.size) { heap := h5, gens := gg, drawn := dd, toks := tk + 1, os := os } := fun h5 b5 o5 k5 =>
    hQ h5 ⟨_, _, _, o5, .inr ⟨T, oT, rfl, k5 T oT nTe T4, nTe, nTi⟩⟩ (it4.at fun o z => k5 it o (Ne.symm hne) z) (k5 _ _ (Nat.ne_of_gt lt) tup4) fun b o n1 n2 z => k5 b o n1 (keep b o n1 n2 z)
  by_cases hb : (b0 != .bool true) = true
  · refine (if_pos hb : _ = _) ▸ ?_
    refine wpAny_bind (wpAny_setField_rec (s := ⟨h4, gg, dd, tk + 1, os⟩) o4 (by simp) fun h5 o5 q5 => wpAny_pure ?_)
    have q5 : Heap.SameBut e h4 h5 := q5
    show wpAny _ _ (if false = true then _ else _) _ _ _
    rw [if_neg Bool.false_ne_true]
    exact wpAny_pure ⟨_, rfl, last h5 (.bool true) o5 fun b o n z => q5.extBut b o n z⟩
  · refine (if_neg hb : _ = _) ▸ ?_
    refine wpAny_pure ?_
    show wpAny _ _ (if false = true then _ else _) _ _ _
    rw [if_neg Bool.false_ne_true]
    exact wpAny_pure ⟨_, rfl, last h4 b0 o4 fun b o n z => z⟩
/-- either way -/
theorem next_en {e it l : Addr} {i : Nat} {items : Array Value} {x : Value} {Q : Option Value → Shared → Prop} (he : EnS s.heap e it i) (hit : s.heap.IsListIter it l i) (hl : s.heap.IsList l items) (hx : items[i]? = some x) (hne : e ≠ it)
    (hQ : ∀ h', EnS h' e it ((i : Int) + 1) → h'.IsListIter it l (i + 1) → h'.get? s.heap.objs.size = some { cls := .type "tuple", data := .seq #[.int i s.toks, x] } →
      (∀ b o, b ≠ e → b ≠ it → s.heap.get? b = some o → h'.get? b = some o) → Q (some (.ref s.heap.objs.size)) { s with heap := h', toks := s.toks + 1 }) :
    wpAny (model prog w) A (pyNext (.ref e)) Q E s := by
  obtain ⟨a0, b0, old, ho, hc⟩ := he
  have hle : e < s.heap.objs.size := Heap.lt_size ho
  rcases hc with ⟨rfl, rfl⟩ | ⟨T, oT, rfl, hT, n1, n2⟩
  · have hi' : it < s.heap.objs.size := by
      obtain ⟨_, z, _⟩ := hit
      exact Heap.lt_size z
    exact wpAny_pyNext_enum_item ho hit hl hx hne fun h' q1 q2 q3 _ q5 => hQ h' ⟨_, _, _, q1, .inr ⟨_, _, rfl, q3, Nat.ne_of_gt hle, Nat.ne_of_gt hi'⟩⟩ q2 q3 q5
  · have ty : s.TypeIs (.ref e) "enumerate" := ⟨_, ho, rfl⟩
    unfold pyNext
    refine wpAny_bind (wpAny_attempt (wpAny_callSpecial?_slot (name := Str.ofString "__next__") ty F.slot_enumerate_next ?_))
    exact wpAny_call_entry F.slot_enumerate_next ty F.entry_enumerate_next (next_out ho hT n1 n2 hit hl hx hne fun h' q1 q2 q3 q4 => wpAny_pure (hQ h' q1 q2 q3 q4)) (F.args_enumerate_next_1 _)
theorem next_en_end {e it l : Addr} {i : Nat} {items : Array Value} {Q : Option Value → Shared → Prop} (hh : A.handled = none) (he : EnS s.heap e it i) (hit : s.heap.IsListIter it l i) (hl : s.heap.IsList l items) (hx : items[i]? = none)
    (hQ : ∀ h', Heap.ExtBut it s.heap h' → Q none { s with heap := h' }) : wpAny (model prog w) A (pyNext (.ref e)) Q E s := by
  obtain ⟨a0, b0, old, ho, _⟩ := he
  have ty : s.TypeIs (.ref e) "enumerate" := ⟨_, ho, rfl⟩
  unfold pyNext
  refine wpAny_bind (wpAny_attempt (wpAny_callSpecial?_slot (name := Str.ofString "__next__") ty F.slot_enumerate_next ?_))
  refine wpAny_call_entry F.slot_enumerate_next ty F.entry_enumerate_next ?_ (F.args_enumerate_next_1 _)
  show wpAny _ _ (do let y ← field (.ref e) 2; _) _ _ _
  refine wpAny_bind (wpAny_field ho rfl (x := .ref it) rfl (wpAny_bind (wpAny_nextOf_list_end hh hit hl hx fun h' u q1 q2 => ?_)))
  obtain ⟨o, z1, z2⟩ := q2
  exact wpAny_bind (wpAny_isInstance (T := "StopIteration") (b := true) ⟨o, z1, z2⟩ isSubtype_stop (wpAny_pure (hQ h' q1)))
/-- the pairs told so far -/
def Prs (h : Heap) (items acc : Array Value) (e it S : Addr) : Prop := ∀ (j : Nat) (v : Value), acc[j]? = some v → ∃ (T : Addr) (t : Tok) (x : Value), v = .ref T ∧ items[j]? = some x ∧ h.get? T = some { cls := .type "tuple", data := .seq #[.int (j : Int) t, x] } ∧ T ≠ e ∧ T ≠ it ∧ S < T
theorem Prs.keep {h h' : Heap} {items acc : Array Value} {e it S : Addr} (p : Prs h items acc e it S) (k : ∀ b o, b ≠ e → b ≠ it → b ≠ S → h.get? b = some o → h'.get? b = some o) : Prs h' items acc e it S := fun j v hj =>
  let ⟨T, t, x, h1, h2, h3, n1, n2, n3⟩ := p j v hj
  ⟨T, t, x, h1, h2, k T _ n1 n2 (Nat.ne_of_gt n3) h3, n1, n2, n3⟩
theorem EnS.keep {h h' : Heap} {e it : Addr} {i : Int} (p : EnS h e it i) {S : Addr} (hS : ∃ o, h.get? S = some o) (he : h'.get? e = h.get? e) (k : ∀ b o, b ≠ S → h.get? b = some o → h'.get? b = some o) (k2 : ∃ o, h'.get? S = some o) : EnS h' e it i := by
  obtain ⟨a0, b0, old, ho, hc⟩ := p
  refine ⟨a0, b0, old, he.trans ho, hc.imp id fun ⟨T, o, h1, h2, n1, n2⟩ => ?_⟩
  by_cases hT : T = S
  · obtain ⟨o2, z⟩ := k2
    exact ⟨T, o2, h1, by rw [hT]; exact z, n1, n2⟩
  · exact ⟨T, o, h1, k T o hT h2, n1, n2⟩
theorem loop_en {R : Result → Shared → Prop} (hh : A.handled = none) {e it l S : Addr} {items : Array Value} (hn : items.size ≤ sizeLine) (n1 : e ≠ it) (n2 : l ≠ e) (n3 : l ≠ it) (n4 : S ≠ e) (n5 : S ≠ it) (n6 : l ≠ S) (res : Value) :
    ∀ (k i : Nat) (s : Shared) (acc : Array Value) (c : Nat), items.size - i = k → i ≤ items.size → EnS s.heap e it i → s.heap.IsListIter it l i → s.heap.IsList l items → s.heap.get? S = some { cls := .type "list", dict := none, data := .seq acc c, slots := #[] } → acc.size = i → Prs s.heap items acc e it S →
    (∀ h' tk acc' c', (∀ b o, b ≠ e → b ≠ it → b ≠ S → s.heap.get? b = some o → h'.get? b = some o) → h'.get? S = some { cls := .type "list", dict := none, data := .seq acc' c', slots := #[] } → acc'.size = items.size → Prs h' items acc' e it S → R (.ok (.ret res)) { s with heap := h', toks := tk }) →
    codeAny (model prog w) A (.builtin "list.extend.loop" ⟨[.ref S, .ref e, res], []⟩) R s := by
  intro k
  induction k with
  | zero =>
    intro i s acc c hk hi hE hI hL hS ha hp hR
    have ei : i = items.size := by omega
    subst ei
    refine codeAny_builtin F.entry_extend_loop ?_
    rw [Around.under_plainId F.plain_extend_loop _]
    show wpAny _ A.in1 (do let y ← pyNext (.ref e); _) _ _ s
    refine wpAny_bind (next_en_end hh hE hI hL (Array.getElem?_eq_none (Nat.le_refl _)) fun h' q => wpAny_pure ?_)
    have kk : ∀ b o, b ≠ e → b ≠ it → b ≠ S → s.heap.get? b = some o → h'.get? b = some o := fun b o _ m2 _ z => q b o m2 z
    exact hR h' s.toks acc c kk (q S _ n5 hS) ha (hp.keep kk)
  | succ k ih =>
    intro i s acc c hk hi hE hI hL hS ha hp hR
    have lt : i < items.size := by omega
    refine codeAny_builtin F.entry_extend_loop ?_
    rw [Around.under_plainId F.plain_extend_loop _]
    show wpAny _ A.in1 (do let y ← pyNext (.ref e); _) _ _ s
    have hx : items[i]? = some items[i] := Array.getElem?_eq_getElem lt
    refine wpAny_bind (next_en hE hI hL hx n1 fun h1 e1 i1 t1 k1 => ?_)
    have S1 := k1 S _ n4 n5 hS
    have L1 : h1.IsList l items := hL.at fun o z => k1 l o n2 n3 z
    show wpAny _ A.in1 (do let _ ← updateSeq S (·.push (.ref s.heap.objs.size)); _) _ _ _
    have eS : S < s.heap.objs.size := Heap.lt_size hS
    have ee : e < s.heap.objs.size := by
      obtain ⟨_, _, _, z, _⟩ := hE
      exact Heap.lt_size z
    have ei : it < s.heap.objs.size := by
      obtain ⟨_, z, _⟩ := hI
      exact Heap.lt_size z
    refine wpAny_bind (wpAny_updateSeq (s := { s with heap := h1, toks := s.toks + 1 }) S1 rfl (wpAny_pure ⟨plainId_quiet F.plain_extend_loop _, ?_⟩) (by rw [ha]; omega) (by show (acc.push _).size ≤ _; rw [Array.size_push, ha]; omega))
    have S2 := Heap.get?_update_self (Obj.mapSeq (·.push (Value.ref s.heap.objs.size))) S1 rfl
    have oth : ∀ b o, b ≠ S → h1.get? b = some o → (h1.update S (Obj.mapSeq (·.push (Value.ref s.heap.objs.size)))).get? b = some o := fun b o hb z => (Heap.get?_update_other _ _ (Ne.symm hb)).trans z
    have kk : ∀ b o, b ≠ e → b ≠ it → b ≠ S → s.heap.get? b = some o → (h1.update S (Obj.mapSeq (·.push (Value.ref s.heap.objs.size)))).get? b = some o := fun b o m1 m2 m3 z => oth b o m3 (k1 b o m1 m2 z)
    refine ih (i + 1) _ (acc.push (.ref s.heap.objs.size)) _ (by omega) lt ?_ ?_ (L1.at fun o z => oth l o n6 z) S2 (by rw [Array.size_push, ha]) ?_ fun h' tk acc' c' k' S' a' p' => hR h' tk acc' c' (fun b o m1 m2 m3 z => k' b o m1 m2 m3 (kk b o m1 m2 m3 z)) S' a' p'
    · have := e1.keep (S := S) (h' := h1.update S (Obj.mapSeq (·.push (Value.ref s.heap.objs.size)))) ⟨_, S1⟩ (Heap.get?_update_other _ _ n4) oth ⟨_, S2⟩
      exact this
    · obtain ⟨o, z, r⟩ := i1
      exact ⟨o, oth it o (Ne.symm n5) z, r⟩
    · intro j v hj
      rw [Array.getElem?_push] at hj
      split at hj
      · rename_i ej
        rw [ha] at ej
        subst ej
        cases hj
        exact ⟨_, _, _, rfl, hx, oth _ _ (Nat.ne_of_gt eS) t1, Nat.ne_of_gt ee, Nat.ne_of_gt ei, eS⟩
      · exact (hp.keep kk) j v hj
theorem en_len0 : typeLookup (.type "enumerate") "__len__" = pure none := by rw [typeLookup_type, builtinLookup_eq_fast]; kernel_rfl
theorem en_hint0 : typeLookup (.type "enumerate") "__length_hint__" = pure none := by rw [typeLookup_type, builtinLookup_eq_fast]; kernel_rfl
theorem extend_en {R : Result → Shared → Prop} (hh : A.handled = none) {e it l S : Addr} {items : Array Value} {old : Value} {c0 : Nat} (hn : items.size ≤ sizeLine) (n1 : e ≠ it) (n2 : l ≠ e) (n3 : l ≠ it) (n4 : S ≠ e) (n5 : S ≠ it) (n6 : l ≠ S) (res : Value)
    (he : IsEnum s.heap e it 0 old) (hit : s.heap.IsListIter it l 0) (hl : s.heap.IsList l items) (hS : s.heap.get? S = some { cls := .type "list", data := .seq #[] c0 })
    (hR : ∀ h' tk acc' c', (∀ b o, b ≠ e → b ≠ it → b ≠ S → s.heap.get? b = some o → h'.get? b = some o) → h'.get? S = some { cls := .type "list", dict := none, data := .seq acc' c', slots := #[] } → acc'.size = items.size → Prs h' items acc' e it S → R (.ok (.ret res)) { s with heap := h', toks := tk }) :
    wpAny (model prog w) A.in1 (Builtin.List.listExtendWith (.ref S) (.ref e) res) (fun fin s' => match fin with | .done f => R (.ok f) s' | .again c' => c'.quiet = true ∧ codeAny (model prog w) A c' R s') (fun e s' => R (.error e) s') s := by
  have ty : s.TypeIs (.ref e) "enumerate" := ⟨_, he, rfl⟩
  unfold Builtin.List.listExtendWith
  refine wpAny_bind (wpAny_typeOf ty ?_)
  have z1 : Builtin.List.listSameRef (.ref S) (.ref e) = false := by simp [Builtin.List.listSameRef, n4]
  have z2 : (Value.type "enumerate" == Value.type "list") = false := by decide
  have z3 : (Value.type "enumerate" == Value.type "tuple") = false := by decide
  simp only [z1, z2, z3, Bool.or_false, Bool.false_eq_true, if_false]
  refine wpAny_bind (wpAny_pyIter_enum he (wpAny_bind (wpAny_holding ?_)))
  unfold Builtin.List.listLengthHint
  refine wpAny_bind (wpAny_specialOf ty en_len0 ?_)
  show wpAny _ A.in1 (do let y ← specialOf (Value.ref e) (Str.ofString "__length_hint__"); _) _ _ _
  refine wpAny_bind (wpAny_specialOf ty en_hint0 (wpAny_pure ?_))
  show wpAny _ A.in1 (do rule "list.extend.makes-room"; Builtin.List.listTouch (.ref S); again (.builtin "list.extend.loop" ⟨[.ref S, .ref e, res], []⟩)) _ _ _
  refine wpAny_bind (wpAny_rule (wpAny_bind ?_))
  show wpAny _ A.in1 (do updateSeq S (·.push .none); updateSeq S (·.pop)) _ _ _
  refine wpAny_bind (wpAny_updateSeq hS rfl ?_)
  have S2 := Heap.get?_update_self (Obj.mapSeq (·.push Value.none)) hS rfl
  refine wpAny_updateSeq (hz := by seq_fits) S2 rfl (wpAny_pure ⟨plainId_quiet F.plain_extend_loop _, ?_⟩)
  have S3 := Heap.get?_update_self (Obj.mapSeq (·.pop)) S2 rfl
  have oth : ∀ b o, b ≠ S → s.heap.get? b = some o → ((s.heap.update S (Obj.mapSeq (·.push Value.none))).update S (Obj.mapSeq (·.pop))).get? b = some o :=
    fun b o hb z => (Heap.get?_update_other _ _ (Ne.symm hb)).trans ((Heap.get?_update_other _ _ (Ne.symm hb)).trans z)
  refine loop_en hh hn n1 n2 n3 n4 n5 n6 res items.size 0 _ #[] _ rfl (Nat.zero_le _) ⟨_, _, _, oth e _ (Ne.symm n4) he, .inl ⟨rfl, rfl⟩⟩ ?_ (hl.at fun o z => oth l o n6 z) S3 rfl (fun j v hj => by simp at hj) fun h' tk acc' c' k S' a' p' => hR h' tk acc' c' (fun b o m1 m2 m3 z => k b o m1 m2 m3 (oth b o m3 z)) S' a' p'
  obtain ⟨o, z, r⟩ := hit
  exact ⟨o, oth it o (Ne.symm n5) z, r⟩
theorem init_en {R : Result → Shared → Prop} (hh : A.handled = none) {e it l S : Addr} {items : Array Value} {old : Value} (hn : items.size ≤ sizeLine) (n1 : e ≠ it) (n2 : l ≠ e) (n3 : l ≠ it) (n4 : S ≠ e) (n5 : S ≠ it) (n6 : l ≠ S)
    (he : IsEnum s.heap e it 0 old) (hit : s.heap.IsListIter it l 0) (hl : s.heap.IsList l items) (hS : s.heap.get? S = some { cls := .type "list", data := .seq #[] })
    (hR : ∀ h' tk acc' c', (∀ b o, b ≠ e → b ≠ it → b ≠ S → s.heap.get? b = some o → h'.get? b = some o) → h'.get? S = some { cls := .type "list", dict := none, data := .seq acc' c', slots := #[] } → acc'.size = items.size → Prs h' items acc' e it S → R (.ok (.ret .none)) { s with heap := h', toks := tk }) :
    wpAny (model prog w) A.in1 (Builtin.«list.__init__» ⟨[.ref S, .ref e], []⟩) (fun fin s' => match fin with | .done f => R (.ok f) s' | .again c' => c'.quiet = true ∧ codeAny (model prog w) A c' R s') (fun e s' => R (.error e) s') s := by
  show wpAny _ _ (do let was ← Builtin.List.listItems (.ref S); Builtin.List.listUpdate (.ref S) (fun _ => #[]); letGo was.toList.reverse; Builtin.List.listExtendWith (.ref S) (.ref e) .none) _ _ s
  refine wpAny_bind ?_
  unfold Builtin.List.listItems
  refine wpAny_bind (wpAny_seqItems hS rfl (wpAny_pure ?_))
  show wpAny _ _ (do updateSeq S (fun _ => #[]); letGo (#[] : Array Value).toList.reverse; Builtin.List.listExtendWith (.ref S) (.ref e) .none) _ _ s
  refine wpAny_bind (wpAny_updateSeq hS rfl (wpAny_bind (wpAny_letGo ?_)))
  have S2 := Heap.get?_update_self (Obj.mapSeq (fun _ => (#[] : Array Value))) hS rfl
  have oth : ∀ b o, b ≠ S → s.heap.get? b = some o → (s.heap.update S (Obj.mapSeq (fun _ => (#[] : Array Value)))).get? b = some o := fun b o hb z => (Heap.get?_update_other _ _ (Ne.symm hb)).trans z
  refine extend_en hh hn n1 n2 n3 n4 n5 n6 .none (oth e _ (Ne.symm n4) he) ?_ (hl.at fun o z => oth l o n6 z) S2 fun h' tk acc' c' k S' a' p' => hR h' tk acc' c' (fun b o m1 m2 m3 z => k b o m1 m2 m3 (oth b o m3 z)) S' a' p'
  obtain ⟨o, z, r⟩ := hit
  exact ⟨o, oth it o (Ne.symm n5) z, r⟩
theorem call_list_en {Q : Value → Shared → Prop} (hh : A.handled = none) {e it l : Addr} {items : Array Value} {old : Value} (hn : items.size ≤ sizeLine) (n1 : e ≠ it) (n2 : l ≠ e) (n3 : l ≠ it)
    (he : IsEnum s.heap e it 0 old) (hit : s.heap.IsListIter it l 0) (hl : s.heap.IsList l items)
    (hQ : ∀ h' tk acc' c', (∀ b o, b ≠ e → b ≠ it → s.heap.get? b = some o → h'.get? b = some o) → h'.get? s.heap.objs.size = some { cls := .type "list", dict := none, data := .seq acc' c', slots := #[] } → acc'.size = items.size → Prs h' items acc' e it s.heap.objs.size → Q (.ref s.heap.objs.size) { s with heap := h', toks := tk }) :
    wpAny (model prog w) A (call (.type "list") [.ref e]) Q E s := by
  refine callType_codes (Q₁ := fun obj s1 => obj = .ref s.heap.objs.size ∧ s1 = { s with heap := s.heap.push { cls := .type "list", data := .seq #[] } }) F.called_list (F.typeCall_list_1 _) F.entry_list_init (code_list_new _ ⟨rfl, rfl⟩) fun obj s1 q => ?_
  obtain ⟨rfl, rfl⟩ := q
  have S1 : (s.heap.push { cls := .type "list", data := .seq #[] }).get? s.heap.objs.size = some { cls := .type "list", data := .seq #[] } := Heap.get?_push_size _ rfl
  have ne : ∀ {b : Addr}, (∃ o, s.heap.get? b = some o) → s.heap.objs.size ≠ b := fun ⟨o, z⟩ => Nat.ne_of_gt (Heap.lt_size z)
  have l0 : ∃ o, s.heap.get? l = some o := by
    obtain ⟨o, z, _⟩ := hl
    exact ⟨o, z⟩
  have i0 : ∃ o, s.heap.get? it = some o := by
    obtain ⟨o, z, _⟩ := hit
    exact ⟨o, z⟩
  refine ⟨⟨_, S1, rfl⟩, F.args_list_init_2 _ _, init_en (A := A.in1) hh hn n1 n2 n3 (ne ⟨_, he⟩) (ne i0) (ne l0).symm (Heap.get?_push_of_some _ he) ?_ (hl.at fun o z => Heap.get?_push_of_some _ z) S1 fun h' tk acc' c' k S' a' p' => ?_⟩
  · obtain ⟨o, z, r⟩ := hit
    exact ⟨o, Heap.get?_push_of_some _ z, r⟩
  · exact ⟨rfl, hQ h' tk acc' c' (fun b o m1 m2 z => k b o m1 m2 (ne ⟨o, z⟩).symm (Heap.get?_push_of_some _ z)) S' a' p'⟩
end
section
variable {X : Cx} {pins : List (Addr × Obj)} {σ : L2.St} {H H' : Hp} {s : Shared}
/-- many new objects at once -/
theorem lay_all {h' : Heap} {t' : Nat} (I : L2.Inv X pins σ H s) (k : ∀ b u, s.heap.get? b = some u → h'.get? b = some u) (e : ∀ b, b < s.heap.objs.size → H' b = H b) (new : ∀ b o, s.heap.objs.size ≤ b → H' b = some o → ObjOk X.prog X.w H' h' b o) :
    L2.Inv X pins σ H' { s with heap := h', toks := t' } := by
  have lt : ∀ {b o}, H b = some o → b < s.heap.objs.size := fun q => I.hok.lt q
  refine I.un { keep := fun b o q _ _ _ => k b o q, slot := fun b o q _ _ _ => ⟨o.slots, k b o q⟩, free := fun b o q n _ => by rw [e b (Heap.lt_size q)]; exact n, there := fun b o q _ => ⟨o, k b o q⟩, tups := fun b xs q => by rw [e b (lt q)]; exact q, frzs := fun b o u q => by rw [e b (lt q)]; exact q, tbls := fun b ps q => ⟨#[], by rw [e b (lt q)]; simpa using q⟩ } ?_
  intro b o q
  by_cases hb : b < s.heap.objs.size
  · rw [e b hb] at q
    exact (I.hok b o q).stay (fun c u _ z => k c u z) (fun c z => by rw [e c (lt z)]; exact z) fun c xs z => by rw [e c (lt z)]; exact z
  · exact new b o (Nat.le_of_not_lt hb) q
end
/-- new pairs at Ts -/
def layT : Hp → List Addr → Nat → List V → Hp
  | H, T :: Ts, n, x :: xs => layT (upd H T (.tup [.int (n : Int), x])) Ts (n + 1) xs
  | H, _, _, _ => H
theorem layT_out : ∀ (Ts : List Addr) (H : Hp) (n : Nat) (xs : List V) (b : Addr), b ∉ Ts → layT H Ts n xs b = H b
  | [], H, n, xs, b, _ => by cases xs <;> rfl
  | T :: Ts, H, n, [], b, _ => rfl
  | T :: Ts, H, n, x :: xs, b, h => by
    rw [layT, layT_out Ts _ (n + 1) xs b fun z => h (List.mem_cons_of_mem _ z)]
    exact upd_ne fun z => h (by rw [z]; exact List.mem_cons_self)
theorem layT_in : ∀ (Ts : List Addr) (H : Hp) (n : Nat) (xs : List V) (j : Nat) (T : Addr) (x : V), Ts.Nodup → Ts[j]? = some T → xs[j]? = some x → layT H Ts n xs T = some (.tup [.int ((n + j : Nat) : Int), x])
  | [], _, _, _, _, _, _, _, h, _ => by cases h
  | _ :: _, _, _, [], _, _, _, _, _, h => by cases h
  | T :: Ts, H, n, x :: xs, 0, T', x', nd, h1, h2 => by
    cases h1
    cases h2
    rw [layT, layT_out Ts _ (n + 1) xs T (List.nodup_cons.mp nd).1]
    exact upd_same
  | T :: Ts, H, n, x :: xs, j + 1, T', x', nd, h1, h2 => by
    have := layT_in Ts (upd H T (.tup [.int (n : Int), x])) (n + 1) xs j T' x' (List.nodup_cons.mp nd).2 h1 h2
    rw [layT, this, show n + 1 + j = n + (j + 1) by omega]
theorem layT_rel {K : PySem.W.Frag} {H0 : Ent} {ρ : List Sl} {σ : L2.St} : ∀ (Ts : List Addr) (Hb H : Hp) (n : Nat) (vs : List V) (ds : List D), Ts.Nodup → (∀ T ∈ Ts, H T = none) → Ts.length = vs.length → Rel K H0 ρ σ Hb H → AtAll K Hb vs ds →
    Rel K H0 ρ σ (layT Hb Ts n vs) (layT H Ts n vs) ∧ Gr Hb H (layT Hb Ts n vs) (layT H Ts n vs) ∧ AtAll K (layT Hb Ts n vs) (Ts.map V.ref) (enumD n ds)
  | [], Hb, H, n, vs, ds, _, _, hl, R, A => by
    cases vs with
    | nil => cases A; exact ⟨R, Gr.refl, .nil⟩
    | cons _ _ => cases hl
  | T :: Ts, Hb, H, n, vs, ds, nd, fr, hl, R, A => by
    cases A with
    | nil => cases hl
    | @cons v vs d ds a A =>
      have h0 : H T = none := fr T List.mem_cons_self
      have b0 : Hb T = none := R.b1.free h0
      have R1 : Rel K H0 ρ σ (upd Hb T (.tup [.int (n : Int), v])) (upd H T (.tup [.int (n : Int), v])) := R.alloc h0
      have sb : Same Hb (upd Hb T (.tup [.int (n : Int), v])) := same_upd b0
      have sh : Same H (upd H T (.tup [.int (n : Int), v])) := same_upd h0
      obtain ⟨nd1, nd2⟩ := List.nodup_cons.mp nd
      have fr2 : ∀ U ∈ Ts, upd H T (.tup [.int (n : Int), v]) U = none := fun U hU => by
        rw [upd_ne fun z => nd1 (by rw [← z]; exact hU)]
        exact fr U (List.mem_cons_of_mem _ hU)
      obtain ⟨R2, g2, A2⟩ := layT_rel Ts (upd Hb T (.tup [.int (n : Int), v])) (upd H T (.tup [.int (n : Int), v])) (n + 1) vs ds nd2 fr2 (Nat.succ.inj hl) R1 (A.mono sb)
      refine ⟨R2, Gr.trans ⟨sb, sh⟩ g2, ?_⟩
      refine .cons (.pr (.inl (Rd.of (g2.b _ _ upd_same))) (.int _) (a.mono (sb.trans g2.b))) A2
section
variable {X : Cx} {W : WX} {ρ : List Sl} {Z : DZ} {N : List Str} {sc : Scope} {k : Nat} {e : Expr} {p1 p2 pos2 pos : Pos} {te : TE}
theorem pe_listEnum (hc : X.calm = true) (hg : Gl X "list") (hm : X.mg "list" = none) (hg2 : Gl X "enumerate") (hm2 : X.mg "enumerate" = none) (he : PE X e te) (hs : starEach [e] X.env = (false, eval e X.env) :: starEach [] X.env) :
    PE X (.Call (.Name "list" p1) [.Call (.Name "enumerate" p2) [e] [] pos2] [] pos) (fun σ H Q => te σ H fun x H1 => ∃ (a : Addr) (xs : List V), x = .ref a ∧ SqL X.K H1 a xs ∧ ∀ (Ts : List Addr) (p : Addr), Ts.length = xs.length → Ts.Nodup → (∀ T ∈ Ts, H1 T = none) → H1 p = none → p ∉ Ts → Q (.ref p) (upd (layT H1 Ts 0 xs) p (.lst (Ts.map V.ref)))) := by
  refine ⟨fun pins s σ H Q I h => ?_⟩
  refine Call_ (ld_blt I hg hm boot_list (PyProof.Rows.callWith_type1 (args_cons ?_ (star_nst rfl)) (star_nst rfl)))
  refine Call_ (ld_blt I hg2 hm2 boot_enumerate (PyProof.Rows.callWith_type1 (one_arg he I h (fun v s2 x H2 I2 r q => ?_) hs) hs))
  obtain ⟨a, xs, rfl, hS, q⟩ := q
  obtain rfl : v = .ref a := r
  obtain ⟨its, rv, pl, hz⟩ := I2.list hS
  have lz : its.toArray.size = xs.length := by rw [List.size_toArray, rv.length]
  refine call_enumerate_list pl.isList fun h1 e1 i1 z1 k1 => args_nil ?_
  have la : a < s2.heap.objs.size := by
    obtain ⟨o, z, _⟩ := pl.isList
    exact Heap.lt_size z
  refine call_list_en (s := { s2 with heap := h1 }) (I2.ok.hd hc) (by rw [lz]; exact hz) (Nat.succ_ne_self _) (Nat.ne_of_lt (Nat.lt_succ_of_lt la)) (Nat.ne_of_lt la) e1 i1 (pl.isList.at fun o z => k1 a o z) fun h2 tk acc c2 k2 S2 n2 p2 => ?_
  have sle : s2.heap.objs.size < h1.objs.size := by
    have z := Heap.lt_size e1
    omega
  have aj : ∀ j, j < xs.length → ∃ (T : Addr) (t : Tok) (u : Value) (x : V), acc[j]? = some (.ref T) ∧ xs[j]? = some x ∧ RelV x u ∧ h2.get? T = some { cls := .type "tuple", data := .seq #[.int (j : Int) t, u] } ∧ h1.objs.size < T := by
    intro j hj
    have hx : xs[j]? = some xs[j] := List.getElem?_eq_getElem hj
    obtain ⟨u, hu, ru⟩ := rv.get hx
    have ha : j < acc.size := by rw [n2, lz]; exact hj
    obtain ⟨T, t, u', h3, h4, h5, _, _, h6⟩ := p2 j acc[j] (Array.getElem?_eq_getElem ha)
    have h4' : its[j]? = some u' := by simpa using h4
    rw [hu] at h4'
    cases h4'
    exact ⟨T, t, u, _, by rw [Array.getElem?_eq_getElem ha, h3], hx, ru, h5, h6⟩
  obtain ⟨adr, hadr⟩ : ∃ adr : Value → Addr, ∀ T, adr (.ref T) = T := ⟨fun v => match v with | .ref T => T | _ => 0, fun _ => rfl⟩
  obtain ⟨Ts, hTs⟩ : ∃ Ts : List Addr, Ts = acc.toList.map adr := ⟨_, rfl⟩
  have tl : Ts.length = xs.length := by rw [hTs, List.length_map, Array.length_toList, n2, lz]
  have tj : ∀ j, j < xs.length → ∃ (T : Addr) (t : Tok) (u : Value) (x : V), acc.toList[j]? = some (.ref T) ∧ Ts[j]? = some T ∧ xs[j]? = some x ∧ RelV x u ∧ h2.get? T = some { cls := .type "tuple", data := .seq #[.int (j : Int) t, u] } ∧ h1.objs.size < T := by
    intro j hj
    obtain ⟨T, t, u, x, h3, h4, h5, h6, h7⟩ := aj j hj
    have h3' : acc.toList[j]? = some (.ref T) := by simpa using h3
    exact ⟨T, t, u, x, h3', by rw [hTs, List.getElem?_map, h3']; exact congrArg some (hadr T), h4, h5, h6, h7⟩
  have nd : Ts.Nodup := List.pairwise_iff_getElem.mpr fun i j hi hj lt z => by
    obtain ⟨T, t, u, x, _, g1, _, _, g2, _⟩ := tj i (by omega)
    obtain ⟨T', t', u', x', _, g1', _, _, g2', _⟩ := tj j (by omega)
    rw [List.getElem?_eq_getElem hi] at g1
    rw [List.getElem?_eq_getElem hj] at g1'
    cases g1
    cases g1'
    rw [z, g2'] at g2
    simp only [Option.some.injEq, Obj.mk.injEq, Data.seq.injEq] at g2
    have e5 := congrArg (fun a : Array Value => a[0]?) g2.2.2.1.1
    simp only [List.getElem?_toArray, List.getElem?_cons_zero, Option.some.injEq, Value.int.injEq] at e5
    omega
  have big : ∀ T ∈ Ts, h1.objs.size < T := fun T hT => by
    obtain ⟨j, hj, e5⟩ := List.getElem_of_mem hT
    obtain ⟨T', _, _, _, _, g1, _, _, _, g3⟩ := tj j (by omega)
    rw [List.getElem?_eq_getElem hj, e5] at g1
    cases g1
    exact g3
  have fr : ∀ T ∈ Ts, H2 T = none := fun T hT => I2.hok.fresh (by have := big T hT; omega)
  have pn : h1.objs.size ∉ Ts := fun z => Nat.lt_irrefl _ (big _ z)
  have kk : ∀ b u, s2.heap.get? b = some u → h2.get? b = some u := fun b u z => by
    have lb := Heap.lt_size z
    exact k2 b u (Nat.ne_of_lt (Nat.lt_succ_of_lt lb)) (Nat.ne_of_lt lb) (k1 b u z)
  refine ⟨.ref h1.objs.size, upd (layT H2 Ts 0 xs) h1.objs.size (.lst (Ts.map V.ref)), lay_all (s := s2) (h' := h2) (t' := tk) I2 kk (fun b hb => ?_) (fun b o hb ho => ?_), rfl, q Ts _ tl nd fr (I2.hok.fresh (Nat.le_of_lt sle)) pn⟩
  · rw [upd_ne (show b ≠ h1.objs.size by omega), layT_out _ _ _ _ _ fun z => by have := big b z; omega]
  · by_cases hbS : b = h1.objs.size
    · subst hbS
      rw [upd_same] at ho
      cases ho
      refine ⟨by rw [List.length_map, tl]; exact hz, acc.toList, c2, ?_, by simpa using S2⟩
      have key : ∀ (l : List Value), (∀ v ∈ l, ∃ T, v = .ref T) → Vals ((l.map adr).map V.ref) l := by
        intro l
        induction l with
        | nil => intro _; exact .nil
        | cons v l ih =>
          intro hl
          obtain ⟨T, rfl⟩ := hl v List.mem_cons_self
          refine .cons ?_ (ih fun v hv => hl v (List.mem_cons_of_mem _ hv))
          show Value.ref T = Value.ref (adr (.ref T))
          rw [hadr]
      rw [hTs]
      refine key _ fun v hv => ?_
      obtain ⟨j, hj, e5⟩ := List.getElem_of_mem hv
      obtain ⟨T, _, _, _, g0, _⟩ := tj j (by rw [Array.length_toList, n2, lz] at hj; exact hj)
      rw [List.getElem?_eq_getElem hj, e5] at g0
      exact ⟨T, Option.some.inj g0⟩
    · rw [upd_ne hbS] at ho
      by_cases hbT : b ∈ Ts
      · obtain ⟨j, hj, e5⟩ := List.getElem_of_mem hbT
        obtain ⟨T, t, u, x, _, g1, g2, g3, g4, _⟩ := tj j (by omega)
        have g1' := g1
        rw [List.getElem?_eq_getElem hj, e5] at g1'
        cases g1'
        rw [layT_in Ts H2 0 xs j b x nd g1 g2, Nat.zero_add] at ho
        cases ho
        exact ⟨by show 2 ≤ sizeLine; decide, [.int (j : Int) t, u], .cons ⟨t, rfl⟩ (.cons g3 .nil), ⟨_, g4, rfl, _, rfl⟩⟩
      · rw [layT_out _ _ _ _ _ hbT, I2.hok.fresh hb] at ho
        cases ho
theorem en_listEnum {Φ : List D → Prop} (C : Ctx X W N sc k) (hm : X.mg "list" = none) (hm2 : X.mg "enumerate" = none) (h : ES X W ρ e (fun t ds => t = false ∧ Φ (enumD 0 ds)) Z) (hg : GlN sc "list" := by rfl) (hg2 : GlN sc "enumerate" := by rfl)
    (hs : starEach [e] X.env = (false, eval e X.env) :: starEach [] X.env := by exact star_nst rfl) : EN X W ρ (.Call (.Name "list" p1) [.Call (.Name "enumerate" p2) [e] [] pos2] [] pos) Φ Z := fun H0 σ Hb H R z =>
  WE.of (pe_listEnum C.calm (C.gl hg) hm (C.gl hg2) hm2 pe_w hs) (h.run R z fun t ds a xs Hb1 H1 f1 R1 s1 q A T z1 => by
    obtain ⟨rfl, f⟩ := f1
    refine ⟨a, xs, rfl, q.l, fun Ts p hl nd fr hp hpn => ?_⟩
    obtain ⟨R2, g2, A2⟩ := layT_rel Ts Hb1 H1 0 xs ds nd fr hl R1 A
    exact endLst f R2 (s1.trans g2) (by rw [layT_out _ _ _ _ _ hpn]; exact hp) A2)
end
end DL
namespace DL
open PySem PySem.Spec PyProof.Rows L2
/-! ### defs that change the caller's own list -/
inductive OR where
  | ok (ds : List D) | exc (C : Addr)
/-- without p -/
def rem (H : Hp) (p : Addr) : Hp := fun b => if b = p then none else H b
theorem rem_ne {H : Hp} {p b : Addr} (h : b ≠ p) : rem H p b = H b := if_neg h
theorem rem_at {H : Hp} {p : Addr} : rem H p p = none := if_pos rfl
theorem rem_same {H : Hp} {p : Addr} : Same (rem H p) H := fun b x e => by
  by_cases hb : b = p
  · rw [hb, rem_at] at e
    cases e
  · rwa [rem_ne hb] at e
def spO (K : PySem.W.Frag) (n : Nat) (S : List D → List D → OR → Prop) : Sp := fun vs H Q E => ∃ (p : Addr) (vs' xs : List V) (ds args : List D) (r : OR) (Hb : Hp), vs = .ref p :: vs' ∧ vs'.length = n ∧ Same Hb H ∧ Hb p = none ∧ H p = some (.lst xs) ∧ AtAll K Hb xs ds ∧ AtAll K Hb vs' args ∧ S ds args r ∧
  match r with
  | .ok ds' => ∀ (xs' : List V) (Hb' H' : Hp), Back ⟨rem H p, Hb⟩ Hb' H' → Hb' p = none → H' p = some (.lst xs') → AtAll K Hb' xs' ds' → Q .non H'
  | .exc C => ∀ H', Same (rem H p) H' → E (.ref C) none H'
structure FnO (P : Program) (w : World) (K : PySem.W.Frag) (mg : Str → Option Value) (base : Heap) (f : Addr) (k n : Nat) (S : List D → List D → OR → Prop) : Prop where
  ex : ∃ fd ps, FnOk P w K mg base (L2.CX P w) k f fd ps (spO K n S) ∧ PySem.W.keepIn K (.ref f) = true ∧ Binds K fd ps []
abbrev DfO (P : Program) (w : World) (K : PySem.W.Frag) (mg : Str → Option Value) (base : Heap) (x : Str) (k n : Nat) (S : List D → List D → OR → Prop) : Prop := ∃ f, mg x = some (.ref f) ∧ FnO P w K mg base f k n S
section
variable {K : PySem.W.Frag} {H0 : Ent} {ρ : List Sl} {σ : L2.St} {Hb H Hb' H' : Hp} {i : Nat} {q : Option Addr} {ds ds' : List D} {p : Addr} {xs' : List V}
theorem Rel.calledO (R : Rel K H0 ρ σ Hb H) (h : ρ[i]? = some (.ow q ds)) (hs : σ[i]? = some (some (.ref p))) (B : Back ⟨rem H p, Hb⟩ Hb' H') (n : Hb' p = none) (hp : H' p = some (.lst xs')) (A : AtAll K Hb' xs' ds') : Rel K H0 (ρ.set i (.ow q ds')) σ Hb' H' := by
  have hi : i < ρ.length := (List.getElem?_eq_some_iff.mp h).1
  obtain ⟨a', xs, e, n0, q0, _, h0, hq⟩ := R.own i q ds h
  have ea : a' = p := by
    rw [hs] at e
    cases e
    rfl
  subst ea
  have up : ∀ {b x}, b ≠ a' → H b = some x → H' b = some x := fun {b x} hb z => B.h b x (by show rem H a' b = _; rw [rem_ne hb]; exact z)
  refine ⟨fun b x hb => up (ne_of_none hb h0) (R.b0 _ _ hb), R.bb.trans B.b, fun b z1 z2 => B.n b (R.bn b z1 z2) ?_, B.s, fun j d' hj => ?_, fun j qq fs hj => ?_, fun j l q1 q2 es' fs b h1 h2 h3 h4 => ?_, by rw [List.length_set]; exact R.len, fun j P qn h => let ⟨t, t1, t2⟩ := R.tb j P qn (set_tb h (by intro z; cases z)); have t' : LamX.TabS H' P qn := tabS_ne t xs q0 (fun b o hb e => up hb e); ⟨t', B.n P t1 (fun z => by obtain ⟨_, w, _⟩ := t; have hb : P ≠ a' := (fun w2 => by rw [w2, q0] at w; cases w); rw [show H P = none from (rem_ne hb).symm.trans z] at w; cases w), t2⟩⟩
  · intro z
    have hb : b ≠ a' := fun w => z2 (by rw [w]; exact h0)
    have z : rem H a' b = none := z
    rw [rem_ne hb] at z
    exact z2 (R.b0.free z)
  · have n1 : i ≠ j := fun z => by
      subst z
      rw [List.getElem?_set_self hi] at hj
      cases hj
    rw [List.getElem?_set_ne n1] at hj
    obtain ⟨v, e1, a1⟩ := R.dat j d' hj
    exact ⟨v, e1, a1.mono B.b⟩
  · by_cases z : i = j
    · subst z
      rw [List.getElem?_set_self hi] at hj
      cases hj
      exact ⟨a', xs', hs, n, hp, A, h0, hq⟩
    · rw [List.getElem?_set_ne z] at hj
      obtain ⟨b, zs, e2, n2, q2, A2, h2, hq2⟩ := R.own j qq fs hj
      have ne : b ≠ a' := fun w => z (R.sep i j _ _ ds fs a' h hj hs (by rw [e2, w]))
      refine ⟨b, zs, e2, B.n b n2 ?_, up ne q2, A2.mono B.b, h2, hq2⟩
      intro w
      have w : rem H a' b = none := w
      rw [rem_ne ne, q2] at w
      cases w
  · have back : ∀ {j : Nat} {r : Option Addr} {gs : List D}, (ρ.set i (Sl.ow q ds'))[j]? = some (Sl.ow r gs) → ∃ (r' : Option Addr) (gs' : List D), ρ[j]? = some (Sl.ow r' gs') := fun {j r gs} z => by
      by_cases w : i = j
      · subst w
        exact ⟨q, ds, h⟩
      · rw [List.getElem?_set_ne w] at z
        exact ⟨r, gs, z⟩
    obtain ⟨_, g1, k1⟩ := back h1
    obtain ⟨_, g2, k2⟩ := back h2
    exact R.sep j l _ _ g1 g2 b k1 k2 h3 h4
/-- .. and where it raises: the list is forgotten -/
theorem Rel.raisedO (R : Rel K H0 ρ σ Hb H) (h : ρ[i]? = some (.ow q ds)) (hs : σ[i]? = some (some (.ref p))) (s : Same (rem H p) H') : Rel K H0 (ρ.set i .em) σ Hb H' := by
  have hi : i < ρ.length := (List.getElem?_eq_some_iff.mp h).1
  obtain ⟨a', xs, e, n0, q0, _, h0, hq⟩ := R.own i q ds h
  have ea : a' = p := by
    rw [hs] at e
    cases e
    rfl
  subst ea
  have up : ∀ {b x}, b ≠ a' → H b = some x → H' b = some x := fun {b x} hb z => s b x (by rw [rem_ne hb]; exact z)
  have key : ∀ {j : Nat} {u : Sl}, u ≠ Sl.em → (ρ.set i Sl.em)[j]? = some u → i ≠ j ∧ ρ[j]? = some u := fun {j u} hu hj => by
    by_cases z : i = j
    · subst z
      rw [List.getElem?_set_self hi] at hj
      exact absurd (Option.some.inj hj).symm hu
    · rw [List.getElem?_set_ne z] at hj
      exact ⟨z, hj⟩
  refine ⟨fun b x hb => up (ne_of_none hb h0) (R.b0 _ _ hb), R.bb, R.bn, fun b x hb => up (ne_of_none hb n0) (R.b1 _ _ hb), fun j d' hj => R.dat j d' (key (by intro z; cases z) hj).2, fun j qq fs hj => ?_, fun j l q1 q2 es' fs b h1 h2 h3 h4 => R.sep j l q1 q2 es' fs b (key (by intro z; cases z) h1).2 (key (by intro z; cases z) h2).2 h3 h4, by rw [List.length_set]; exact R.len, fun j P qn h => let ⟨t, t1, t2⟩ := R.tb j P qn (set_tb h (by intro z; cases z)); ⟨tabS_ne t xs q0 (fun b o hb e => up hb e), t1, t2⟩⟩
  obtain ⟨z, hj⟩ := key (by intro z; cases z) hj
  obtain ⟨b, zs, e2, n2, q2, A2, h2, hq2⟩ := R.own j qq fs hj
  have ne : b ≠ a' := fun w => z (R.sep i j _ _ ds fs a' h hj hs (by rw [e2, w]))
  exact ⟨b, zs, e2, n2, up ne q2, A2, h2, hq2⟩
end
def startO (N : List Str) (p : Addr) (ds args : List D) : List Sl := Sl.ow (some p) ds :: (args.map Sl.dat ++ List.replicate (N.length - (args.length + 1)) Sl.em)
theorem startO_get {N : List Str} {p : Addr} {ds args : List D} {j : Nat} {u : Sl} (h : (startO N p ds args)[j + 1]? = some u) : (∃ d, args[j]? = some d ∧ u = .dat d) ∨ u = .em := by
  have h : (args.map Sl.dat ++ List.replicate (N.length - (args.length + 1)) Sl.em)[j]? = some u := h
  by_cases hj : j < args.length
  · rw [List.getElem?_append_left (by rw [List.length_map]; exact hj), List.getElem?_map, List.getElem?_eq_getElem hj] at h
    exact .inl ⟨_, List.getElem?_eq_getElem hj, (Option.some.inj h).symm⟩
  · rw [List.getElem?_append_right (by rw [List.length_map]; omega), List.getElem?_replicate] at h
    split at h
    · exact .inr (Option.some.inj h).symm
    · cases h
theorem rel_startO {K : PySem.W.Frag} {N : List Str} {p : Addr} {vs xs : List V} {ds args : List D} {Hb H : Hp} (s : Same Hb H) (n : Hb p = none) (hp : H p = some (.lst xs)) (A : AtAll K Hb xs ds) (A2 : AtAll K Hb vs args) :
    Rel K ⟨rem H p, Hb⟩ (startO N p ds args) (L2.start N (.ref p :: vs)) Hb H := by
  have hl := A2.length
  have only : ∀ {j : Nat} {q : Option Addr} {es : List D}, (startO N p ds args)[j]? = some (.ow q es) → j = 0 ∧ q = some p ∧ es = ds := fun {j q es} h => by
    cases j with
    | zero =>
      have h : some (Sl.ow (some p) ds) = some (Sl.ow q es) := h
      cases h
      exact ⟨rfl, rfl, rfl⟩
    | succ j =>
      rcases startO_get h with ⟨d, _, z⟩ | z <;> cases z
  refine ⟨rem_same, Same.refl _, fun a z _ => z, s, fun j d h => ?_, fun j q es h => ?_, fun i j q r es fs a h1 h2 _ _ => by rw [(only h1).1, (only h2).1], ?_, fun j P qn h => ?_⟩
  · cases j with
    | zero =>
      have h : some (Sl.ow (some p) ds) = some (Sl.dat d) := h
      cases h
    | succ j =>
      rcases startO_get h with ⟨d', h', z⟩ | z
      · cases z
        obtain ⟨v, e, a⟩ := A2.get h'
        refine ⟨v, ?_, a⟩
        unfold L2.start
        have hj : j < vs.length := (List.getElem?_eq_some_iff.mp e).1
        rw [List.getElem?_append_left (by rw [List.length_map, List.length_cons]; omega), List.getElem?_map, List.getElem?_cons_succ, e]
        rfl
      · cases z
  · obtain ⟨rfl, rfl, rfl⟩ := only h
    exact ⟨p, xs, rfl, n, hp, A, rem_at, fun p' z => Option.some.inj z⟩
  · unfold startO L2.start
    rw [List.length_cons, List.length_append, List.length_append, List.length_map, List.length_map, List.length_replicate, List.length_replicate, List.length_cons, hl]
    omega
  · cases j with
    | zero =>
      have h : some (Sl.ow (some p) ds) = some (Sl.tb P qn) := h
      cases h
    | succ j => rcases startO_get h with ⟨d, _, z⟩ | z <;> cases z
/-- such a def's end -/
def endO (p : Addr) (r : OR) : DE := { nx := fun ρ => ∃ ds', r = .ok ds' ∧ ρ[0]? = some (.ow (some p) ds'), rt := fun _ => False, ex := fun C _ => r = .exc C }
section
variable {P : Program} {w : World} {K : PySem.W.Frag} {mg : Str → Option Value} {base : Heap}
theorem fn_defO {x qual : Str} {st : Stmt} {f : Addr} {fd : FuncData} {N ps : List Str} {k n : Nat} {S : List D → List D → OR → Prop} (F : Fun K x qual st f fd) (Sc : FnScope N ps (defScope st)) (hb : Binds K fd ps []) (hn : ps.length = n + 1)
    (body : ∀ (p : Addr) (ds args : List D) (r : OR), S ds args r → args.length = n → ∀ (X : Cx) (W : WX), Over X P w K mg base → CtxD X W N (defScope st) k → SW X W (startO N p ds args) (defBody st) (endO p r)) : FnO P w K mg base f (k + 1) n S := by
  refine ⟨fd, ps, F.okX Sc (fun vs H Q E h => ?_) (fun cdv A outer s H vs Q E hr h => ⟨_, pss_w, ?_⟩), F.kp, hb⟩
  · obtain ⟨p, vs', xs, ds, args, r, Hb, rfl, e, _⟩ := h
    rw [List.length_cons, e, hn]
  · obtain ⟨p, vs', xs, ds, args, r, Hb, rfl, e, sm, n0, hp, A1, A2, hs, fk⟩ := h
    have b := body p ds args r hs (by rw [← A2.length]; exact e) (cxOf (L2.CX P w) P w K mg base N qual (defScope st) f cdv A outer s H E) (fun cls d _ H => E cls d H) ⟨rfl, rfl, rfl, rfl, rfl⟩
      { hN := rfl, nd := Sc.nd, hs := rfl, room := hr, calm := rfl, tk := takes_of rfl rfl rfl rfl, own := passes_of rfl, fnD := fun _ => rfl, stk := rfl, frm := rfl, exn := rfl }
    have R := rel_startO (N := N) sm n0 hp A1 A2
    refine WSs.mono (b ⟨rem H p, Hb⟩ (L2.start N (.ref p :: vs')) Hb H R ?_) ?_ ?_ ?_ ?_
    · intro C ρ σ Hb' H' z R'
      have z : r = .exc C := z
      subst z
      exact fk H' R'.b0
    · rintro σ' H' ⟨ρ', Hb', ⟨ds', z, z2⟩, R'⟩
      subst z
      obtain ⟨a, xs', e1, n1, q1, A', _, hq⟩ := R'.own 0 _ _ z2
      have := hq p rfl
      subst this
      exact fk xs' Hb' H' R'.back n1 q1 A'
    · rintro v H' ⟨_, z, _⟩
      exact z.elim
    · rintro _ _ ⟨_, _, z, _⟩
      exact z.elim
    · rintro _ _ ⟨_, _, z, _⟩
      exact z.elim
end
section
variable {X : Cx} {W : WX} {ρ : List Sl} {N : List Str} {sc : Scope} {k j n : Nat} {es : List Expr} {p px pos spos : Pos} {f : Addr} {S : List D → List D → OR → Prop} {x y : Str} {rest : List Stmt} {E : DE}
/-- f(y, ..), y an own list that f changes -/
theorem sw_callO (C : Ctx X W N sc k) (F : DfO X.prog X.w X.K X.mg X.base x j n S) {i : Nat} {q : Option Addr} {ds : List D} (hρ : ρ[i]? = some (.ow q ds))
    (h : AW X W ρ es (fun args => args.length = n ∧ ∃ r, S ds args r ∧ match r with | .ok ds' => SW X W (ρ.set i (.ow q ds')) rest E | .exc A => E.ex A (ρ.set i .em)) (exz E ρ)) (hj : j ≤ k := by omega) (hg : GlN sc x := by rfl) (hdb : (x == ("__debug__" : Str)) = false := by decide)
    (hN : N[i]? = some y := by rfl) (hv : Vis sc y := by first | exact .inl rfl | exact .inr (.inl rfl) | exact .inr (.inr rfl)) (hd : (y == ("__debug__" : Str)) = false := by decide) (hcd : (y == ("__classdict__" : Str)) = false := by decide)
    (hpl : (backTo pos (starEach es X.env)).any (·.1) = false := by rfl) (hs : ∀ env, swapsWith (.Call (.Name x p) (.Name y px :: es) [] pos) none spos.line env = pure false := by intro _; rfl) :
    SW X W ρ (.Expr (.Call (.Name x p) (.Name y px :: es) [] pos) spos :: rest) E := sw_cons fun H0 σ Hb H R xx => by
  obtain ⟨g, hm, fd, ps, h1, h2, h3⟩ := F
  obtain ⟨a, xs, e1, n0, q0, A, h0, _⟩ := R.own i q ds hρ
  have pe : PE X (.Call (.Name x p) (.Name y px :: es) [] pos) (fun σ H Q => WA X (.Name y px :: es) σ H fun vs H1 => spO X.K n S vs H1 Q (xk W σ)) := by
    refine ⟨fun pins s σ H Q I h => ?_⟩
    refine wpAny_Call_Name_kw (ld_glob I (C.gl hg) hm ?_ hdb)
    refine PySem.W.callWith_K (h₀ := X.base) I.ok.mod.kin h2 (thn (h.go pos pins s I) fun us s1 ⟨vs, H1, I1, r, q⟩ => ⟨I1.kIn, ?_⟩) (star_nst rfl) hpl
    exact run_fnG (dvs := []) h1 (C.room.mono hj) h3 .nil (passAt C.tk σ) I1 r (by rw [List.append_nil]; exact q)
  refine WS.of (ps_expr pe (hs _)) (WA.of (pa_cons (pe_var (C.at hN) (C.vis hv) hd hcd) pa_w (star_nst rfl)) ⟨.ref a, e1, h.run R (RX.z xx) fun args vs Hb1 H1 f1 R1 g1 A1 z1 => ?_⟩)
  obtain ⟨hl, r, hS, fr⟩ := f1
  obtain ⟨a', xs', e1', n1, q1, A', _, _⟩ := R1.own i q ds hρ
  rw [e1] at e1'
  cases e1'
  refine ⟨a, vs, xs', ds, args, r, Hb1, rfl, by rw [A1.length]; exact hl, R1.b1, n1, q1, A', A1, hS, ?_⟩
  cases r with
  | ok ds' => exact fun ys Hb' H' B n2 q2 A2 => ⟨ρ.set i (.ow q ds'), Hb', fr, R1.calledO hρ e1 B n2 q2 A2⟩
  | exc A0 => exact fun H' s => xx A0 (ρ.set i .em) σ Hb1 H' fr (R1.raisedO hρ e1 s)
end
end DL
namespace DL
open PySem PySem.Spec PyProof.Rows L2
/-! ### own lists: remove, pop, extend -/
theorem erase_at : ∀ {ns : List Int} {k : Int}, k ∈ ns → ∃ j : Nat, ns[j]? = some k ∧ (∀ m : Nat, m < j → ns[m]? ≠ some k) ∧ ns.eraseIdx j = ns.erase k
  | n :: ns, k, h => by
    by_cases e : n = k
    · subst e
      exact ⟨0, rfl, fun m z => absurd z (Nat.not_lt_zero m), by simp⟩
    · have h : k ∈ ns := (List.mem_cons.mp h).resolve_left fun z => e z.symm
      obtain ⟨j, h1, h2, h3⟩ := erase_at h
      refine ⟨j + 1, h1, fun m hm => ?_, ?_⟩
      · cases m with
        | zero => exact fun z => e (Option.some.inj z)
        | succ m => exact h2 m (by omega)
      · rw [List.eraseIdx_cons_succ, h3, List.erase_cons_tail (by simpa using e)]
section
variable {X : Cx} {W : WX} {ρ : List Sl} {N : List Str} {sc : Scope} {k : Nat} {e : Expr} {es : List Expr} {p px py pos spos : Pos} {x : Str} {rest : List Stmt} {E : DE}
/-- y.remove(e), ints -/
theorem sw_removeI (C : Ctx X W N sc k) {i : Nat} {x : Str} {qq : Option Addr} {ns : List Int} {pa : Pos} (hρ : ρ[i]? = some (.ow qq (ns.map D.int))) (h : EW X W ρ e (fun d => ∃ k, d = .int k ∧ k ∈ ns ∧ SW X W (ρ.set i (.ow qq ((ns.erase k).map D.int))) rest E) (exz E ρ)) (hi : N[i]? = some x := by rfl) (hx : Vis sc x := by first | exact .inl rfl | exact .inr (.inl rfl))
    (hd : (x == ("__debug__" : Str)) = false := by decide) (hcd : (x == ("__classdict__" : Str)) = false := by decide)
    (hp : ∀ to te, PE X (.Name x px) to → PA X [e] te → PE X (.Call (.Attribute (.Name x px) "remove" pa) [e] [] p) (tBM X.K "list" rRemI to te) := by exact fun _ _ h1 h2 => pe_bm PySem.F.plainAttrs_list PySem.F.slot_list_remove PySem.F.type_list_remove mt_remove h1 h2)
    (he : starEach [e] X.env = (false, eval e X.env) :: starEach [] X.env := by exact star_nst rfl) (hs : swapsWith (.Call (.Attribute (.Name x px) "remove" pa) [e] [] p) none pos.line X.env = pure false := by rfl) : SW X W ρ (.Expr (.Call (.Attribute (.Name x px) "remove" pa) [e] [] p) pos :: rest) E := sw_cons fun H0 σ Hb H R xx => by
  obtain ⟨l, xs, e1, n, q, A, h0, _⟩ := R.own i qq _ hρ
  refine WS.of (ps_expr (hp _ _ (pe_var (C.at hi) (C.vis hx) hd hcd) (pa_one he)) hs) ⟨.ref l, e1, .inl ⟨rfl, _, .inl (.inl q)⟩, h.run R (RX.z xx) fun d v Hb' H' f R' s a _ => ?_⟩
  obtain ⟨a', ys, e2, n', q', A', _⟩ := R'.own i qq _ hρ
  rw [e1] at e2
  cases e2
  obtain ⟨k, rfl, hk, f⟩ := f
  cases a
  have ey := A'.ints
  subst ey
  obtain ⟨j, j1, j2, j3⟩ := erase_at hk
  refine ⟨l, ns, k, j, rfl, rfl, q', j1, j2, ρ.set i (.ow qq ((ns.erase k).map D.int)), Hb', f, ?_⟩
  rw [j3]
  exact R'.push hρ e1 AtAll.of_ints
/-- y.extend(e), e a new list -/
theorem sw_extend (C : Ctx X W N sc k) {i : Nat} {x : Str} {qq : Option Addr} {ds : List D} {pa : Pos} (hρ : ρ[i]? = some (.ow qq ds)) (h : EN X W ρ e (fun es => ds.length + es.length ≤ sizeLine ∧ SW X W (ρ.set i (.ow qq (ds ++ es))) rest E) (exz E ρ)) (hi : N[i]? = some x := by rfl) (hx : Vis sc x := by first | exact .inl rfl | exact .inr (.inl rfl))
    (hd : (x == ("__debug__" : Str)) = false := by decide) (hcd : (x == ("__classdict__" : Str)) = false := by decide)
    (hp : ∀ to te, PE X (.Name x px) to → PA X [e] te → PE X (.Call (.Attribute (.Name x px) "extend" pa) [e] [] p) (tBM X.K "list" rExtend to te) := by exact fun _ _ h1 h2 => pe_bm PySem.F.plainAttrs_list PySem.F.slot_list_extend PySem.F.type_list_extend mt_extend h1 h2)
    (he : starEach [e] X.env = (false, eval e X.env) :: starEach [] X.env := by exact star_nst rfl) (hs : swapsWith (.Call (.Attribute (.Name x px) "extend" pa) [e] [] p) none pos.line X.env = pure false := by rfl) : SW X W ρ (.Expr (.Call (.Attribute (.Name x px) "extend" pa) [e] [] p) pos :: rest) E := sw_cons fun H0 σ Hb H R xx => by
  obtain ⟨l, xs, e1, n, q, A, h0, _⟩ := R.own i qq ds hρ
  refine WS.of (ps_expr (hp _ _ (pe_var (C.at hi) (C.vis hx) hd hcd) (pa_one he)) hs) ⟨.ref l, e1, .inl ⟨rfl, _, .inl (.inl q)⟩, h.run R (RX.z xx) fun fs b zs Hb' H' f R' s n2 q2 A2 h2 fr _ => ?_⟩
  obtain ⟨a', ys, e2, n', q', A', _⟩ := R'.own i qq ds hρ
  rw [e1] at e2
  cases e2
  refine ⟨l, b, ys, zs, rfl, rfl, q', q2, by rw [A'.length, A2.length]; exact f.1, ρ.set i (.ow qq (ds ++ fs)), Hb', f.2, R'.push hρ e1 (A'.append A2)⟩
end
end DL
namespace DL
open PySem PySem.Spec PyProof.Rows L2
/-! ### instances: made by __init__(self, place), read, asked -/
/-- __init__ puts the one field -/
def spInit (K : PySem.W.Frag) (fld : Str) : Sp := fun vs H Q E => ∃ (x C dx : Addr) (v : V), vs = [.ref x, v] ∧ H x = some (.ins C dx []) ∧ Cls K C ∧ NoAttr K C fld ∧ Q .non (upd H x (.ins C dx [(fld, v)]))
section
variable {X : Cx} {W : WX} {ρ : List Sl} {Z : DZ} {N : List Str} {sc : Scope} {k j n : Nat} {o e : Expr} {es : List Expr} {p px py apos pos spos : Pos} {Φ : D → Prop} {x m : Str} {rest : List Stmt} {E : DE}
/-- e.f -/
theorem ew_attr {f : Str} (h : EW X W ρ e (fun d => ∃ (C : Addr) (fs : List (Str × V)) (v : V) (d' : D), d = .ins C fs ∧ Cls X.K C ∧ NoAttr X.K C f ∧ fs.lookup f = some v ∧ (∀ H, At X.K H v d') ∧ Φ d') Z) (hb : attributeBase e f X.env (eval e X.env) = eval e X.env := by rfl) : EW X W ρ (.Attribute e f pos) Φ Z := fun H0 σ Hb H R z =>
  WE.of (pe_fld pe_w hb) (h.run R z fun d v Hb1 H1 f1 R1 s1 a1 z1 => by
    obtain ⟨C, fs, u, d', rfl, c, na, l, au, f1⟩ := f1
    cases a1 with
    | ins q => exact ⟨_, C, _, fs, u, rfl, R1.b1 _ _ q, c, na, l, endE f1 R1 s1 (au _)⟩)
/-- C(e): a new instance -/
theorem ew_make {C0 f0 : Addr} {fd : FuncData} {ps : List Str} {fld : Str} (C : Ctx X W N sc k) (M : Mk X.K C0 f0) (FI : FnOk X.prog X.w X.K X.mg X.base (L2.CX X.prog X.w) j f0 fd ps (spInit X.K fld)) (hb : Binds X.K fd ps []) (cl : Cls X.K C0) (na : NoAttr X.K C0 fld) (hm : X.mg x = some (.ref C0))
    (h : EW X W ρ e (fun d => ∃ v : V, (∀ (H : Hp) (u : V), At X.K H u d → u = v) ∧ Φ (.ins C0 [(fld, v)])) Z) (hj : j + 1 ≤ k := by omega) (hg : GlN sc x := by rfl) (hdb : (x == ("__debug__" : Str)) = false := by decide)
    (hs : starEach [e] X.env = (false, eval e X.env) :: starEach [] X.env := by exact star_nst rfl) (hpl : (backTo pos (starEach [] X.env)).any (·.1) = false := by rfl) : EW X W ρ (.Call (.Name x p) [e] [] pos) Φ Z := fun H0 σ Hb H R z =>
  WE.of (pe_make (ds := []) (dvs := []) (E := fun _ _ _ => False) M FI (C.room.mono hj) (C.gl hg) hm hb .nil (fun pins σ H s e s' I h => by obtain ⟨_, _, _, _, _, _, _, _, _, _, _, _, q⟩ := h; exact q.elim) (pa_one hs) hdb hs hpl)
    (h.run R z fun d v Hb1 H1 f1 R1 s1 a1 z1 => by
      obtain ⟨v', hv, f1⟩ := f1
      have ev := hv _ _ a1
      subst ev
      intro a dx na1 nd1 ne
      have ux : upd H1 dx (.own a) a = none := by rw [upd_ne (Ne.symm ne)]; exact na1
      refine ⟨a, C0, dx, v, rfl, upd_same, cl, na, rfl, ?_⟩
      rw [upd_upd]
      have R2 : Rel X.K H0 ρ σ (upd Hb1 dx (.own a)) (upd H1 dx (.own a)) := R1.alloc nd1
      exact endNew f1 R2 (s1.trans ⟨same_upd (R1.b1.free nd1), same_upd nd1⟩) ux (.ins upd_same))
/-- o.m(e, ..) -/
theorem ew_meth {C0 f0 : Addr} {S : List D → FR → Prop} (C : Ctx X W N sc k) (cl : Cls X.K C0) (mt : Meth X.K C0 m f0) (F : FnX X f0 j (n + 1) S)
    (h : EW X W ρ o (fun d => ∃ fs, d = .ins C0 fs ∧ fs.lookup m = none ∧ AW X W ρ (e :: es) (fun ds => ds.length = n ∧ ∃ r, S (d :: ds) r ∧ FRd Φ NoZ r) Z) Z) (hj : j ≤ k := by omega)
    (hst : starEach (e :: es) X.env = (false, eval e X.env) :: starEach es X.env := by exact star_nst rfl) (hpl : (backTo pos (starEach es X.env)).any (·.1) = false := by rfl) {pl : Sem Bool}
    (ht : eval (.Call (.Attribute o m apos) (e :: es) [] pos) X.env = (do
      let ov ← eval o X.env
      standAt apos.atName
      let (f, first) ← holding [ov] (getMethod ov m pl)
      callWith pos f first (backTo pos (starEach (e :: es) X.env)) (backToKw pos (keywordEach [] X.env))) := by rfl) : EW X W ρ (.Call (.Attribute o m apos) (e :: es) [] pos) Φ Z := fun H0 σ Hb H R z => by
  obtain ⟨fd, ps, sp, ds0, dvs, h1, h2, h3, h4, h5⟩ := F.ex
  refine WE.of (pe_meth (pl := pl) (E := fun _ _ _ => False) pe_w cl mt h1 (C.room.mono hj) h3 h4 (fun pins σ H s e s' I h => by obtain ⟨_, _, _, _, _, _, _, _, _, _, _, _, q⟩ := h; exact q.elim) pa_w hst hpl ht) ?_
  refine h.run R z fun d v Hb1 H1 f1 R1 s1 a1 z1 => ?_
  obtain ⟨fs, rfl, l, f1⟩ := f1
  cases a1 with
  | @ins a _ dx _ q =>
    refine ⟨a, dx, fs, rfl, R1.b1 _ _ q, l, f1.run R1 z1 fun ds vs Hb2 H2 f2 R2 s2 A2 z2 => ?_⟩
    obtain ⟨hl, r, hS, fr⟩ := f2
    refine h5 (.ref a :: vs) H2 _ _ ⟨.ins C0 fs :: ds, r, Hb2, by rw [List.length_cons, A2.length, hl], R2.b1, .cons (.ins (s2.b _ _ q)) A2, hS, ?_⟩
    cases r with
    | exc A => exact (show False from fr).elim
    | gen => exact (show False from fr).elim
    | ret d' => exact frk_E (W := W) R2 (s1.trans s2) rz_no (show FRd Φ NoZ (.ret d') from fr)
    | new ds' => exact frk_E (W := W) R2 (s1.trans s2) rz_no (show FRd Φ NoZ (.new ds') from fr)
/-- o.m() -/
theorem ew_meth0 {C0 f0 : Addr} {S : List D → FR → Prop} (C : Ctx X W N sc k) (cl : Cls X.K C0) (mt : Meth X.K C0 m f0) (F : FnX X f0 j 1 S)
    (h : EW X W ρ o (fun d => ∃ fs, d = .ins C0 fs ∧ fs.lookup m = none ∧ ∃ r, S [d] r ∧ FRd Φ NoZ r) Z) (hj : j ≤ k := by omega) {pl : Sem Bool}
    (ht : eval (.Call (.Attribute o m apos) [] [] pos) X.env = (do
      let ov ← eval o X.env
      standAt apos.atName
      let (f, first) ← holding [ov] (getMethod ov m pl)
      callWith pos f first (backTo pos (starEach [] X.env)) (backToKw pos (keywordEach [] X.env))) := by rfl) : EW X W ρ (.Call (.Attribute o m apos) [] [] pos) Φ Z := fun H0 σ Hb H R z => by
  obtain ⟨fd, ps, sp, ds0, dvs, h1, h2, h3, h4, h5⟩ := F.ex
  refine WE.of (pe_meth0 (pl := pl) (E := fun _ _ _ => False) pe_w cl mt h1 (C.room.mono hj) h3 h4 (fun pins σ H s e s' I h => by obtain ⟨_, _, _, _, _, _, _, _, _, _, _, _, q⟩ := h; exact q.elim) ht) ?_
  refine h.run R z fun d v Hb1 H1 f1 R1 s1 a1 z1 => ?_
  obtain ⟨fs, rfl, l, r, hS, fr⟩ := f1
  cases a1 with
  | @ins a _ dx _ q =>
    refine ⟨a, dx, fs, rfl, R1.b1 _ _ q, l, h5 [.ref a] H1 _ _ ⟨[.ins C0 fs], r, Hb1, rfl, R1.b1, .cons (.ins q) .nil, hS, ?_⟩⟩
    cases r with
    | exc A => exact (show False from fr).elim
    | gen => exact (show False from fr).elim
    | ret d' => exact frk_E (W := W) R1 s1 rz_no (show FRd Φ NoZ (.ret d') from fr)
    | new ds' => exact frk_E (W := W) R1 s1 rz_no (show FRd Φ NoZ (.new ds') from fr)
theorem en_meth0 {C0 f0 : Addr} {S : List D → FR → Prop} {Φ : List D → Prop} (C : Ctx X W N sc k) (cl : Cls X.K C0) (mt : Meth X.K C0 m f0) (F : FnX X f0 j 1 S)
    (h : EW X W ρ o (fun d => ∃ fs, d = .ins C0 fs ∧ fs.lookup m = none ∧ ∃ ds, S [d] (.new ds) ∧ Φ ds) Z) (hj : j ≤ k := by omega) {pl : Sem Bool}
    (ht : eval (.Call (.Attribute o m apos) [] [] pos) X.env = (do
      let ov ← eval o X.env
      standAt apos.atName
      let (f, first) ← holding [ov] (getMethod ov m pl)
      callWith pos f first (backTo pos (starEach [] X.env)) (backToKw pos (keywordEach [] X.env))) := by rfl) : EN X W ρ (.Call (.Attribute o m apos) [] [] pos) Φ Z := fun H0 σ Hb H R z => by
  obtain ⟨fd, ps, sp, ds0, dvs, h1, h2, h3, h4, h5⟩ := F.ex
  refine WE.of (pe_meth0 (pl := pl) (E := fun _ _ _ => False) pe_w cl mt h1 (C.room.mono hj) h3 h4 (fun pins σ H s e s' I h => by obtain ⟨_, _, _, _, _, _, _, _, _, _, _, _, q⟩ := h; exact q.elim) ht) ?_
  refine h.run R z fun d v Hb1 H1 f1 R1 s1 a1 z1 => ?_
  obtain ⟨fs, rfl, l, ds, hS, f⟩ := f1
  cases a1 with
  | @ins a _ dx _ q =>
    refine ⟨a, dx, fs, rfl, R1.b1 _ _ q, l, h5 [.ref a] H1 _ _ ⟨[.ins C0 fs], .new ds, Hb1, rfl, R1.b1, .cons (.ins q) .nil, hS, ?_⟩⟩
    exact frk_N (W := W) (Z := NoZ) R1 s1 rz_no (show FRn Φ NoZ (.new ds) from f)
/-! ### count, pop -/
theorem eqk_countD (k : Int) (ns : List Int) : ((ns.map PyData.int).countP fun y => PyData.eqv y (.int k)) = ns.count k := by
  induction ns with
  | nil => rfl
  | cons n ns ih =>
    rw [List.map_cons, List.countP_cons, List.count_cons, ih]
    simp only [PyData.eqv]
    rfl
theorem reads_ints {h : Heap} : ∀ {ns : List Int} {its : List Value}, Vals (ns.map V.int) its → ∃ as, ReadsAll h its (ns.map PyData.int) as
  | [], _, r => by cases r; exact ⟨_, .nil⟩
  | n :: ns, _, r => by
    rw [List.map_cons] at r
    cases r with
    | cons r1 r2 =>
      obtain ⟨t, rfl⟩ := r1
      obtain ⟨as, q⟩ := reads_ints r2
      exact ⟨_, .cons (.int n t) q⟩
theorem plain_ints : ∀ ns : List Int, PyData.plainAll (ns.map PyData.int) = true
  | [] => rfl
  | n :: ns => by
    rw [List.map_cons]
    simp only [PyData.plainAll, PyData.plain, plain_ints ns, Bool.and_self]
theorem mt_tcount (hu : X.A.units + 64 < cLine) : MtR X "tuple.count" (fun x xs H Q => ∃ (p : Addr) (ns : List Int) (k : Int), x = .ref p ∧ xs = [.int k] ∧ SqT X.K H p (ns.map V.int) ∧ Q (.int (ns.count k : Nat)) H) := by
  intro pins s σ H x xs v us Q I rx rxs h
  obtain ⟨p, ns, k, rfl, rfl, hs, q⟩ := h
  cases rx
  obtain ⟨u, rfl, ru⟩ := rxs.one
  obtain ⟨t, rfl⟩ := ru
  obtain ⟨its, rv, pl, hz⟩ := I.tuple hs
  obtain ⟨as, rs⟩ := reads_ints (h := s.heap) rv
  refine PySem.SeqAt.count_tuple_data (vs := its.toArray) (xs := ns.map PyData.int) (d := .int k) pl (by rw [List.toList_toArray]; exact rs) (.int k t) (plain_ints ns) rfl ?_ ?_
  · have : min (PyData.depthAll (ns.map PyData.int)) (PyData.int k).depth ≤ 0 := Nat.min_le_right _ _
    omega
  · rw [eqk_countD]
    exact ⟨.int (ns.count k : Nat), H, I.tok _, ⟨s.toks, rfl⟩, q⟩
end
end DL
namespace DL
open PySem PySem.Spec PyProof.Rows L2
section
variable {X : Cx} {W : WX} {ρ : List Sl} {N : List Str} {sc : Scope} {k : Nat} {p px py pos spos : Pos} {x y : Str} {rest : List Stmt} {E : DE}
theorem AtAll.last {K : PySem.W.Frag} {H : Hp} {xs : List V} {ds : List D} {d : D} (A : AtAll K H xs (ds ++ [d])) : ∃ v, xs[xs.length - 1]? = some v ∧ At K H v d ∧ AtAll K H xs.dropLast ds := by
  have hl : xs.length = ds.length + 1 := by rw [A.length, List.length_append, List.length_singleton]
  obtain ⟨v, e, a⟩ := A.get (i := ds.length) (d := d) (by rw [List.getElem?_append_right (Nat.le_refl _), Nat.sub_self]; rfl)
  refine ⟨v, by rw [hl, Nat.add_sub_cancel]; exact e, a, ?_⟩
  have t := A.take ds.length
  rw [List.take_left] at t
  rw [List.dropLast_eq_take, hl, Nat.add_sub_cancel]
  exact t
/-- x = y.pop() -/
theorem sw_pop (C : CtxD X W N sc k) {i j : Nat} {qq : Option Addr} {ds : List D} {d : D} {pa : Pos} (hρ : ρ[j]? = some (Sl.ow qq (ds ++ [d]))) (h : SW X W ((ρ.set j (.ow qq ds)).set i (.dat d)) rest E) (hi : N[i]? = some x := by rfl) (hj : N[j]? = some y := by rfl) (hx : Loc sc x := by first | exact .inl rfl | exact .inr rfl) (hy : Vis sc y := by first | exact .inl rfl | exact .inr (.inl rfl))
    (hd : (y == ("__debug__" : Str)) = false := by decide) (hcd : (y == ("__classdict__" : Str)) = false := by decide)
    (hp : ∀ to, PE X (.Name y py) to → PE X (.Call (.Attribute (.Name y py) "pop" pa) [] [] p) (tBM0 X.K "list" rPop to) := by exact fun _ h1 => pe_bm0 PySem.F.plainAttrs_list PySem.F.slot_list_pop PySem.F.type_list_pop mt_pop h1)
    (hs : swapsWith (.Call (.Attribute (.Name y py) "pop" pa) [] [] p) (some (.Name x px)) pos.line X.env = pure false := by rfl) : SW X W ρ (.Assign [.Name x px] (.Call (.Attribute (.Name y py) "pop" pa) [] [] p) pos :: rest) E := sw_cons fun H0 σ Hb H R xx => by
  obtain ⟨l, xs, e1, n, q, A, h0, _⟩ := R.own j qq _ hρ
  obtain ⟨v, ev, av, A'⟩ := A.last
  exact WS.of (ps_set C.ndX (C.at hi) (C.loc hx) (hp _ (pe_var (C.at hj) (C.vis hy) hd hcd)) hs (.inl (C.fnD _))) ⟨.ref l, e1, .inl ⟨rfl, _, .inl (.inl q)⟩, l, xs, v, rfl, rfl, q, ev, _, Hb, h, (R.push hρ e1 A').setD i av⟩
/-- y.clear() -/
theorem sw_exprN {e : Expr} (h : EN X W ρ e (fun _ => SW X W ρ rest E) (exz E ρ)) (hs : swapsWith e none pos.line X.env = pure false := by rfl) : SW X W ρ (.Expr e pos :: rest) E := sw_expr (ew_new h) hs
end
section
variable {P : Program} {w : World} {K : PySem.W.Frag} {mg : Str → Option Value} {base : Heap}
/-! ### defs with defaults -/
theorem fnOk_defD {x qual : Str} {st : Stmt} {f : Addr} {fd : FuncData} {dvs : List V} {N ps : List Str} {k : Nat} {S : List D → FR → Prop} (F : FunD K x qual (defArgs st) (defBody st) (defScope st) dvs [] f fd) (Sc : FnScope N ps (defScope st))
    (body : ∀ (ds : List D) (r : FR), S ds r → ds.length = ps.length → ∀ (X : Cx) (W : WX), Over X P w K mg base → CtxD X W N (defScope st) k → SW X W (startD N ds) (defBody st) (endF r)) : FnOk P w K mg base (L2.CX P w) (k + 1) f fd ps (spF K ps.length S) := by
  refine F.ok Sc (fun vs H Q E h => ?_) (fun cdv A outer s H vs Q E hr h => ⟨_, pss_w, ?_⟩)
  · obtain ⟨ds, r, Hb, e, _⟩ := h
    exact e
  · obtain ⟨ds, r, Hb, e, sm, AA, hs, fk⟩ := h
    have b := body ds r hs (by rw [← AA.length]; exact e) (cxOf (L2.CX P w) P w K mg base N qual (defScope st) f cdv A outer s H E) (fun cls d _ H => E cls d H) ⟨rfl, rfl, rfl, rfl, rfl⟩
      { hN := rfl, nd := Sc.nd, hs := rfl, room := hr, calm := rfl, tk := takes_of rfl rfl rfl rfl, own := passes_of rfl, fnD := fun _ => rfl, stk := rfl, frm := rfl, exn := rfl }
    have R := rel_start (N := N) sm AA
    refine WSs.mono (b ⟨H, Hb⟩ (L2.start N vs) Hb H R ?_) ?_ ?_ ?_ ?_
    · intro C ρ σ Hb' H' z R'
      have z : r = .exc C := z
      subst z
      exact fk H' R'.b0
    · rintro σ' H' ⟨ρ', Hb', z, R'⟩
      have z : r = .ret .non := z
      subst z
      exact fk .non Hb' H' R'.back .non
    · rintro v H' ⟨r', z, q⟩
      have z : r' = r ∨ ∃ ds, r' = .new ds ∧ r = .ret (.lst ds) := z
      rcases z with rfl | ⟨ds', rfl, rfl⟩
      · cases r' with
        | ret d => obtain ⟨Hb', B, a⟩ := q; exact fk v Hb' H' B a
        | new ds' => obtain ⟨p, xs, Hb', rfl, n0, B, n1, q, A'⟩ := q; exact fk p xs Hb' H' n0 B n1 q A'
        | exc _ => exact q.elim
        | gen Ψ => exact fk v H' q
      · obtain ⟨p, xs, Hb', rfl, n0, B, n1, q, A'⟩ := q
        have sb : Same Hb' (upd Hb' p (.lst xs)) := same_upd n1
        refine fk (.ref p) (upd Hb' p (.lst xs)) H' ⟨B.h, B.b.trans sb, fun b x e => ?_, fun a z1 z2 => ?_⟩ (.lst (Rd.of upd_same) (A'.mono sb))
        · by_cases hb : b = p
          · subst hb
            rw [upd_same] at e
            cases e
            exact q
          · rw [upd_ne hb] at e
            exact B.s _ _ e
        · rw [upd_ne (fun z => z2 (by rw [z]; exact n0))]
          exact B.n a z1 z2
    · rintro _ _ ⟨_, _, z, _⟩
      exact z.elim
    · rintro _ _ ⟨_, _, z, _⟩
      exact z.elim
/-- .. called with n values, the others filled up -/
theorem fn_fill {x qual : Str} {pa : Arguments} {bd : List Stmt} {sc : Scope} {f : Addr} {fd : FuncData} {dvs : List V} {ps : List Str} {k : Nat} {S : List D → FR → Prop} (F : FunD K x qual pa bd sc dvs [] f fd) (ok : FnOk P w K mg base (L2.CX P w) k f fd ps (spF K ps.length S)) (n j : Nat) (dds : List D) (ha : ∀ H, AtAll K H (dvs.drop j) dds) (hd : dvs ≠ []) (hn : n + (dvs.length - j) = ps.length)
    (h : ∀ (T : Addr) (kV doc pm : Value) (an : Option Addr) (cdv ct : Value) (us its : List Value), us.length = n → its.length = dvs.length →
      ∃ k, bindArgs (PySem.W.fnOf x qual pa bd sc (.ref T) kV doc pm an cdv ct) ⟨us, []⟩ = seqItems? (.ref T) >>= k ∧ k (some its.toArray) = pure (ps.zip (us ++ its.drop j))) : Fn P w K mg base f k n (fun ds r => S (ds ++ dds) r) := by
  obtain ⟨ds0, h1, h2⟩ := F.binds1 n j hd hn h
  refine ⟨fd, ps, spF K ps.length S, ds0, dvs.drop j, ok, F.kp, h2, h1, fun vs H Q E ⟨ds, r, Hb, e, s, A, z, q⟩ => ⟨ds ++ dds, r, Hb, ?_, s, A.append (ha Hb), z, q⟩⟩
  rw [List.length_append, List.length_drop, e, hn]
end
end DL
namespace DL
open PySem PySem.Spec PyProof.Rows L2
/-! ### sorted(tuple) -/
section
variable {pr : Program} {w : World} {B : Around} {Er : Value → Shared → Prop} {z : Shared}
/-- the heap with the copy -/
abbrev cpy (h : Heap) (us : List Value) : Heap := (h.push (seqObj "list" #[] 0)).update h.objs.size (Obj.mapSeq (· ++ us.toArray))
theorem collectT {t : Addr} {us : List Value} {R : List Value → Shared → Prop} (ht : IsTup z.heap t us.toArray) (hu : us.length ≤ sizeLine) (h : R us { z with heap := cpy z.heap us }) : wpAny (model pr w) B (collect (.ref t)) R Er z := by
  obtain ⟨ob, hob, hcl, n, hdt⟩ := ht
  have nw : (z.heap.push (seqObj "list" #[] 0)).get? z.heap.objs.size = some (seqObj "list" #[] 0) := Heap.get?_push_size _ rfl
  have old := Heap.get?_push_of_some (seqObj "list" #[] 0) hob
  unfold collect
  refine wpAny_bind <| wpAny_runValue <| codeAny_builtin entry_proto_collect' ?_
  show wpAny _ _ (do again (.builtin "list.__iadd__" ⟨[← newList [], .ref t], []⟩)) _ _ z
  refine wpAny_bind <| wpAny_newList <| wpAny_pure ⟨Code.quiet_builtin _ (by decide +kernel), codeAny_builtin entry_list_iadd' ?_⟩
  show wpAny _ _ (Builtin.List.listExtendWith (.ref z.heap.objs.size) (.ref t) (.ref z.heap.objs.size)) _ _ { z with heap := z.heap.push (seqObj "list" #[] 0) }
  unfold Builtin.List.listExtendWith
  refine wpAny_bind <| wpAny_typeOf (T := "tuple") ⟨ob, old, hcl⟩ ?_
  have et : (Value.type "tuple" == Value.type "tuple") = true := by rfl
  rw [if_pos (by rw [et]; simp)]
  refine wpAny_bind <| listItems_at old hdt <| wpAny_bind <| listItems_at (xs := #[]) (n := 0) nw rfl ?_
  rw [if_neg (by simp)]
  refine wpAny_bind <| listUpdate_at (xs := #[]) (n := 0) nw rfl ?_ (Nat.zero_le _) (by show (#[] ++ us.toArray).size ≤ sizeLine + 1; simp only [Array.size_append, List.size_toArray, List.length_nil]; omega)
  refine wpAny_pure ?_
  show wpAny (model pr w) B (do
      let ob ← load z.heap.objs.size
      match ob.data with
      | .seq xs _ => pure xs.toList
      | _ => unsupported "internal:collect") R Er { z with heap := cpy z.heap us }
  refine wpAny_bind <| wpAny_load (get?_update_seq nw _) ?_
  show wpAny _ _ (pure ((#[] : Array Value) ++ us.toArray).toList) R Er _
  rw [show ((#[] : Array Value) ++ us.toArray).toList = us by simp]
  exact wpAny_pure h
theorem sortedT {t : Addr} {us : List Value} {ns : List Int} {R : Value → Shared → Prop} (ht : IsTup z.heap t us.toArray) (hu : us.length ≤ sizeLine) (hI : IntsAre us ns)
    (h : ∀ out : List Value, SrtO.Srtd SrtO.ltIv out → SrtO.Stb SrtO.ltIv out us → R (.ref (z.heap.objs.size + 1)) { z with heap := sortedAll z.heap us out.toArray }) : wpAny (model pr w) B (call (.builtin "sorted") [.ref t]) R Er z := by
  refine Calls.call_function_entry kind_sorted plain_sorted entry_sorted (args_sorted1 _) ?_
  unfold Builtin.«sorted»
  refine wpAny_bind (m := checkCount "sorted" 1 1 _) <| wpAny_pure <| wpAny_bind <| collectT ht hu <| wpAny_bind <| wpAny_newList ?_ hu
  have es : (cpy z.heap us).objs.size = z.heap.objs.size + 1 := by rw [Heap.size_update, size_push']
  have at1 : ((cpy z.heap us).push (seqObj "list" us.toArray 0)).get? (z.heap.objs.size + 1) = some (seqObj "list" us.toArray 0) := by
    rw [← es]
    exact Heap.get?_push_size _ rfl
  show wpAny _ _ _ _ _ { z with heap := (cpy z.heap us).push (seqObj "list" us.toArray 0) }
  rw [es]
  refine wpAny_bind <| wpAny_holding <| wpAny_call_entry slot_list_sort ⟨_, at1, rfl⟩ entry_list_sort (SrtO.list_sort_ord SrtO.swo_int at1 hu (fun h2 => SrtO.ints_sortable hI h2) fun out h1 h2 => ⟨_, rfl, ?_⟩) (args_list_sort _)
  exact wpAny_pure ⟨_, rfl, h out h1 h2⟩
end
section
variable {X : Cx} {W : WX} {ρ : List Sl} {Z : DZ} {N : List Str} {sc : Scope} {k : Nat} {a b c e : Expr} {es : List Expr} {pos p : Pos} {Φ : D → Prop}
def rSortedTI (K : PySem.W.Frag) : List V → Hp → VK → Prop := fun vs H Q => ∃ (a : Addr) (ns : List Int), vs = [V.ref a] ∧ SqT K H a (ns.map V.int) ∧ ∀ (ms : List Int) (p : Addr), ms.Perm ns → ms.Pairwise (· ≤ ·) → H p = none → Q (.ref p) (upd H p (.lst (ms.map V.int)))
theorem cr_sortedTI : CallR X (.builtin "sorted") (rSortedTI X.K) := by
  intro pins s σ H vs us Q I r h
  obtain ⟨t, ns, rfl, hs, q⟩ := h
  obtain ⟨its, rv, hl, hz⟩ := I.tuple hs
  rw [Vals.ref1 r]
  have hi := rv.ints
  refine sortedT hl (by rw [← rv.length]; exact hz) hi fun out h1 h2 => ?_
  obtain ⟨k1, k2, k3⟩ := SrtO.ints_out hi h1 h2
  obtain ⟨ep, he⟩ := sortedAll_at s.heap its out.toArray
  have ln : ((out.map SrtO.iv).map V.int).length ≤ sizeLine := by
    rw [List.length_map, k2.length_eq, ← List.length_map (as := ns) V.int]
    exact hz
  exact ⟨.ref _, upd H (s.heap.objs.size + 1) (.lst ((out.map SrtO.iv).map V.int)), I.laid (t' := s.toks) (fun _ _ => sortedAll_old) (Nat.le_succ _) ⟨ln, out, ep, vals_of_ints k1, he⟩, rfl, q _ _ k2 k3 (I.hok.fresh (Nat.le_succ _))⟩
theorem en_sortedT {Φ : List D → Prop} (C : Ctx X W N sc k) (hm : X.mg "sorted" = none) (h : ES X W ρ e (fun t ds => t = true ∧ ∃ ns : List Int, ds = ns.map D.int ∧ Φ ((srt ns).map D.int)) Z) (hg : GlN sc "sorted" := by rfl) (he : starEach [e] X.env = (false, eval e X.env) :: starEach [] X.env := by exact star_nst rfl) : EN X W ρ (.Call (.Name "sorted" p) [e] [] pos) Φ Z :=
  en_cBS C cr_sortedTI hg hm PyProof.Rows.boot_sorted (h.mono fun t ds f H0 ρ σ Hb H a xs R q A T Q kq => by
    obtain ⟨rfl, ns, rfl, f⟩ := f
    have e1 := A.ints
    subst e1
    refine ⟨a, ns, rfl, q, fun ms p hp ho hn => ?_⟩
    have e2 := srt_of hp ho
    subst e2
    exact kq _ _ (endLst f R Gr.refl hn AtAll.of_ints)) (by decide) (by decide) he
end
end DL
namespace DL
open PySem PySem.Spec PyProof.Rows L2
section
variable {X : Cx} {W : WX} {ρ : List Sl} {Z : DZ} {N : List Str} {sc : Scope} {k : Nat} {a b e : Expr} {p px pos : Pos} {Φ : D → Prop} {rest : List Stmt} {E : DE}
theorem ew_mulW (h : EW X W ρ a (fun x => EW X W ρ b (fun y => ∃ i j, x = .int i ∧ y = .int j ∧ CMulW i j ∧ Φ (.int (i * j))) Z) Z) : EW X W ρ (.BinOp a .Mult b pos) Φ Z :=
  ew_op op_mulW rI_mono (h.mono fun _ h => h.mono fun _ h => rr_I (G := fun i j => .int (i * j)) (fun _ _ _ => .int _) h)
theorem ew_fdivW (h : EW X W ρ a (fun x => EW X W ρ b (fun y => ∃ i j, x = .int i ∧ y = .int j ∧ CDivW i j ∧ Φ (.int (i / j))) Z) Z) : EW X W ρ (.BinOp a .FloorDiv b pos) Φ Z :=
  ew_op op_fdivW rI_mono (h.mono fun _ h => h.mono fun _ h => rr_I (c := CDivW) (G := fun i j => .int (i / j)) (fun _ _ _ => .int _) h)
/-- numbers of at most 100 binary places -/
theorem mulW_ok {i j : Int} (h1 : i.natAbs < 2 ^ 100) (h2 : j.natAbs < 2 ^ 100) : CMulW i j := wide_mul h1 h2 (by decide) (by decide) (by decide)
theorem divW_ok {i j : Int} (h : 0 < j) (h2 : j.natAbs < 2 ^ 100) : CDivW i j := wide_div h h2 (by decide) (by decide)
/-- x, y = e, a list of two -/
theorem sw_unpackL (C : CtxD X W N sc k) {i j : Nat} {x y : Str} {py pt : Pos} {kt : Nat} (h : EW X W ρ e (fun d => ∃ d1 d2, d = .lst [d1, d2] ∧ SW X W ((ρ.set i (.dat d1)).set j (.dat d2)) rest E) (exz E ρ)) (hi : N[i]? = some x := by rfl) (hj : N[j]? = some y := by rfl)
    (hx : Loc sc x := by first | exact .inl rfl | exact .inr rfl) (hy : Loc sc y := by first | exact .inl rfl | exact .inr rfl) (hs : swapsWithSole [.Tuple [.Name x px, .Name y py] kt pt] e pos.line X.env = pure false := by rfl) (hw : swappedStores [.Tuple [.Name x px, .Name y py] kt pt] e X.env = pure none := by rfl)
    (hq : ∀ g1 g2, X.calm = true → PG X (.Name x px) g1 → PG X (.Name y py) g2 → PG X (.Tuple [.Name x px, .Name y py] kt pt) (gLst X.K 2 (gCons g1 (gCons g2 gNil))) := by exact fun _ _ hc h1 h2 => pg_lst hc (pgs_cons h1 (pgs_cons h2 pgs_nil))) :
    SW X W ρ (.Assign [.Tuple [.Name x px, .Name y py] kt pt] e pos :: rest) E := sw_cons fun H0 σ Hb H R xx =>
  WS.of (ps_asg pe_w (hq _ _ C.calm (pg_name C.ndX (C.at hi) (C.loc hx) (.inl (C.fnD _))) (pg_name C.ndX (C.at hj) (C.loc hy) (.inl (C.fnD _)))) hs hw) (h.run R (RX.z xx) fun d v Hb' H' f R' s a _ => by
    obtain ⟨d1, d2, rfl, f⟩ := f
    cases a with
    | lst q A =>
      cases A with
      | cons a1 A =>
        cases A with
        | cons a2 A =>
          cases A
          exact ⟨_, _, rfl, .inl (same_rd R'.b1 q), rfl, _, _, rfl, _, _, rfl, rfl, _, Hb', f, (R'.setD i a1).setD j a2⟩)
/-- if, behind whose branches Q holds -/
theorem sw_ifP {c : Expr} {s1 s2 : List Stmt} (Q : List Sl → Prop) (hr : ∀ ρ', Q ρ' → SW X W ρ' rest E) (h : TW X W ρ c (fun t => (t = true → SW X W ρ s1 { E with nx := Q }) ∧ (t = false → SW X W ρ s2 { E with nx := Q })) (exz E ρ)) : SW X W ρ (.If c s1 s2 pos :: rest) E :=
  sw_if (h.mono fun t ⟨h1, h2⟩ => ⟨fun ht => sw_mono (h1 ht) (fun _ e => hr _ e) (fun _ h => h) (fun _ h => h) (fun _ h => h) (fun _ _ h => h), fun ht => sw_mono (h2 ht) (fun _ e => hr _ e) (fun _ h => h) (fun _ h => h) (fun _ h => h) (fun _ _ h => h)⟩)
end
end DL
namespace DL
open PySem PySem.Spec PyProof.Rows L2
theorem nuMin2_int (i j : Int) : nuMin2 (.int i) (.int j) = some (.int (min i j)) := by
  show Option.map _ (some (decide (j < i))) = _
  by_cases h : j < i
  · rw [decide_eq_true h, Int.min_eq_right (by omega)]
    rfl
  · rw [decide_eq_false h, Int.min_eq_left (by omega)]
    rfl
section
variable {X : Cx} {W : WX} {ρ : List Sl} {Z : DZ} {N : List Str} {sc : Scope} {k : Nat} {a b c e : Expr} {p pos : Pos} {Φ : D → Prop}
theorem ew_min3 (C : Ctx X W N sc k) (hm : X.mg "min" = none) (h : EW X W ρ a (fun x => EW X W ρ b (fun y => EW X W ρ c (fun z => ∃ i j l, x = .int i ∧ y = .int j ∧ z = .int l ∧ Φ (.int (min (min i j) l))) Z) Z) Z) (hg : GlN sc "min" := by rfl)
    (he : starEach [a, b, c] X.env = (false, eval a X.env) :: starEach [b, c] X.env := by exact star_nst rfl) (he2 : starEach [b, c] X.env = (false, eval b X.env) :: starEach [c] X.env := by exact star_nst rfl) (he3 : starEach [c] X.env = (false, eval c X.env) :: starEach [] X.env := by exact star_nst rfl) (hpl : (backTo pos (starEach [b, c] X.env)).any (·.1) = false := by rfl) : EW X W ρ (.Call (.Name "min" p) [a, b, c] [] pos) Φ Z :=
  ew_cB C (call_min3Nu C.calm) hg hm PyProof.Rows.boot_min (aw_cons (h.mono fun d f => aw_cons (f.mono fun d2 f => aw_cons (f.mono fun d3 f => aw_nil fun H0 ρ σ Hb H vs R A Q kq => by
    obtain ⟨i, j, l, rfl, rfl, rfl, f⟩ := f
    cases A with
    | cons a1 A =>
      cases A with
      | cons a2 A =>
        cases A with
        | cons a3 A =>
          cases A
          cases a1
          cases a2
          cases a3
          refine ⟨.int i, .int j, .int l, .int (min (min i j) l), rfl, ?_, kq _ _ (endE f R Gr.refl (.int _))⟩
          show (nuMin2 (.int i) (.int j)).bind _ = _
          rw [nuMin2_int]
          exact nuMin2_int _ _) he3) he2) he) (by decide) (by decide) he hpl
end
/-! ### x, y = constants -/
theorem par0_ok {env : Env} {x y : Str} {px py pt pt2 : Pos} {kt k2} {a b : Expr} (h : [a, b].all (foldedForSure 8) = true) : swappedStores [.Tuple [.Name x px, .Name y py] kt pt] (.Tuple [a, b] k2 pt2) env = pure none := by
  unfold swappedStores
  simp only []
  split
  · rfl
  · split
    · rfl
    · split
      · rfl
      · rfl
/-! ### == of unlike things -/
theorem eqD_tup_str (xs : List D) (s : Str) : eqD (.tup xs) (.str s) = false := by
  unfold eqD
  simp only [D.py, PyData.eqv]
theorem eqD_str_tup (xs : List D) (s : Str) : eqD (.str s) (.tup xs) = false := by
  unfold eqD
  simp only [D.py, PyData.eqv]
end DL
namespace DL
open PySem PySem.Spec PyProof.Rows L2
/-! ### count -/
section
variable {X : Cx} {W : WX} {ρ : List Sl} {Z : DZ} {N : List Str} {sc : Scope} {k : Nat} {o e : Expr} {p apos pos : Pos} {Φ : D → Prop} {to : TE} {t : TA} {name : Str} {id : String} {r : V → List V → Hp → VK → Prop}
/-- a method of a tuple that was made -/
theorem pe_bmT (slot : Slot "tuple" name id) (hty : typeOf (.builtin id) = pure (.type "method_descriptor")) (hm : MtR X id r) (ho : PE X o to) (ha : PA X [e] t)
    (hbase : attributeBase o name X.env (eval o X.env) = eval o X.env := by rfl)
    (hfew : ((backTo pos (starEach [e] X.env)).all (fun x => !x.1) && (backToKw pos (keywordEach [] X.env)).all (fun x => x.1.isSome) && decide ([e].length + ([] : List Keyword).length + (if ([] : List Keyword).isEmpty then 0 else 1) < 30)) = true := by rfl)
    (hline : (apos.endLine == pos.line) = true := by rfl) (hs : starEach [e] X.env = (false, eval e X.env) :: starEach [] X.env := by rfl) :
    PE X (.Call (.Attribute o name apos) [e] [] pos) (fun σ H Q => to σ H fun x H1 => (∃ a xs, x = .ref a ∧ Tq X.K H1 a xs) ∧ t σ H1 fun ys H2 => r x ys H2 Q) := by
  refine ⟨fun pins s σ H Q I h => wpAny_Call_method_late hbase hfew hline rfl <| thn (ho.run pins s σ H _ I h) fun v s1 ⟨x, H1, I1, r1, ⟨a, xs, ex, hq, ob, u, ho1, hd⟩, q1⟩ => ?_⟩
  subst ex
  cases r1
  obtain ⟨its, _, tp, _⟩ := I1.tuple hq
  have at1 : s1.heap.get? a = some ob := (I1.hok a _ ho1).1
  refine ⟨"tuple", id, PySem.F.plainAttrs_tuple, slot, hty, tp.typeIs, fun b eb => ?_, ?_⟩
  · cases eb
    exact ⟨ob, at1, hd⟩
  · have hA := ha.run pos pins s1 σ H1 _ I1 q1
    rw [hs] at hA ⊢
    refine Calls.callWith_builtin (by show (false || (backTo pos (starEach [] X.env)).any (·.1)) = false; rfl) <| Calls.evalArgs_plain ?_
    exact thn hA fun us s2 ⟨ys, H2, I2, r2, q2⟩ => hm pins s2 σ H2 (.ref a) ys _ us Q I2 rfl r2 q2
/-- e.count(i), a tuple of ints -/
theorem ew_tcount (C : Ctx X W N sc k) (h : EW X W ρ o (fun d => ∃ ns : List Int, d = tupI ns ∧ EW X W ρ e (fun y => ∃ i, y = .int i ∧ Φ (.int (ns.count i : Nat))) Z) Z) (hb : attributeBase o "count" X.env (eval o X.env) = eval o X.env := by rfl)
    (hp : ∀ to te, PE X o to → PE X e te → PE X (.Call (.Attribute o "count" apos) [e] [] pos) (fun σ H Q => to σ H fun x H1 => (∃ a xs, x = .ref a ∧ Tq X.K H1 a xs) ∧ tCons te tNil σ H1 fun ys H2 => (fun x xs H Q => ∃ (p : Addr) (ns : List Int) (k : Int), x = .ref p ∧ xs = [.int k] ∧ SqT X.K H p (ns.map V.int) ∧ Q (.int (ns.count k : Nat)) H : V → List V → Hp → VK → Prop) x ys H2 Q)) :
    EW X W ρ (.Call (.Attribute o "count" apos) [e] [] pos) Φ Z := fun H0 σ Hb H R z =>
  WE.of (hp _ _ pe_w pe_w) (h.run R z fun d v Hb1 H1 f1 R1 s1 a1 z1 => by
    obtain ⟨ns, rfl, f1⟩ := f1
    cases a1 with
    | @tup a xs _ q A =>
      have ex := A.ints
      subst ex
      exact ⟨⟨a, _, rfl, same_tq R1.b1 q⟩, f1.run R1 z1 fun y u Hb2 H2 f2 R2 s2 a2 _ => by
        obtain ⟨i, rfl, f2⟩ := f2
        cases a2
        exact ⟨a, ns, i, rfl, rfl, same_seqT (L2.Same.trans s2.b R2.b1) q.1, endE f2 R2 (s1.trans s2) (.int _)⟩⟩)
/-- e.count(i), a list of ints -/
theorem ew_lcount (C : Ctx X W N sc k) (h : ES X W ρ o (fun t ds => t = false ∧ ∃ ns : List Int, ds = ns.map D.int ∧ EW X W ρ e (fun y => ∃ i, y = .int i ∧ Φ (.int (ns.count i : Nat))) Z) Z)
    (hp : ∀ to te, PE X o to → PE X e te → PE X (.Call (.Attribute o "count" apos) [e] [] pos) (tBM X.K "list" (rCntI X.K) to (tCons te tNil))) :
    EW X W ρ (.Call (.Attribute o "count" apos) [e] [] pos) Φ Z := fun H0 σ Hb H R z =>
  WE.of (hp _ _ pe_w pe_w) (h.run R z fun t ds a xs Hb1 H1 f1 R1 s1 q1 A1 T1 z1 => by
    obtain ⟨rfl, ns, rfl, f1⟩ := f1
    have ex := A1.ints
    subst ex
    exact ⟨.inl ⟨rfl, _, q1.l⟩, f1.run R1 z1 fun y u Hb2 H2 f2 R2 s2 a2 _ => by
      obtain ⟨i, rfl, f2⟩ := f2
      cases a2
      exact ⟨a, ns, i, rfl, rfl, .inl (q1.mono s2.h), endE f2 R2 (s1.trans s2) (.int _)⟩⟩)
end
/-- the premise of ew_tcount -/
theorem pe_tcountW {X : Cx} {o e : Expr} {apos pos : Pos} (hu : X.A.units + 64 < cLine)
    (hbase : attributeBase o "count" X.env (eval o X.env) = eval o X.env := by rfl)
    (hfew : ((backTo pos (starEach [e] X.env)).all (fun x => !x.1) && (backToKw pos (keywordEach [] X.env)).all (fun x => x.1.isSome) && decide ([e].length + ([] : List Keyword).length + (if ([] : List Keyword).isEmpty then 0 else 1) < 30)) = true := by rfl)
    (hline : (apos.endLine == pos.line) = true := by rfl) (hs : starEach [e] X.env = (false, eval e X.env) :: starEach [] X.env := by exact star_nst rfl) :
    ∀ to te, PE X o to → PE X e te → PE X (.Call (.Attribute o "count" apos) [e] [] pos) (fun σ H Q => to σ H fun x H1 => (∃ a xs, x = .ref a ∧ Tq X.K H1 a xs) ∧ tCons te tNil σ H1 fun ys H2 => (fun x xs H Q => ∃ (p : Addr) (ns : List Int) (k : Int), x = .ref p ∧ xs = [.int k] ∧ SqT X.K H p (ns.map V.int) ∧ Q (.int (ns.count k : Nat)) H : V → List V → Hp → VK → Prop) x ys H2 Q) :=
  fun to te h1 h2 => pe_bmT PySem.F.slot_tuple_count PySem.F.type_tuple_count (mt_tcount hu) h1 (pa_cons h2 pa_nil hs) hbase hfew hline hs
theorem pe_lcountW {X : Cx} {o e : Expr} {apos pos : Pos} 
    (hbase : attributeBase o "count" X.env (eval o X.env) = eval o X.env := by rfl)
    (hfew : ((backTo pos (starEach [e] X.env)).all (fun x => !x.1) && (backToKw pos (keywordEach [] X.env)).all (fun x => x.1.isSome) && decide ([e].length + ([] : List Keyword).length + (if ([] : List Keyword).isEmpty then 0 else 1) < 30)) = true := by rfl)
    (hline : (apos.endLine == pos.line) = true := by rfl) (hs : starEach [e] X.env = (false, eval e X.env) :: starEach [] X.env := by exact star_nst rfl) :
    ∀ to te, PE X o to → PE X e te → PE X (.Call (.Attribute o "count" apos) [e] [] pos) (tBM X.K "list" (rCntI X.K) to (tCons te tNil)) :=
  fun to te h1 h2 => pe_bm PySem.F.plainAttrs_list PySem.F.slot_list_count PySem.F.type_list_count mt_lcount h1 (pa_cons h2 pa_nil hs) hbase hfew hline hs
end DL
set_option pp.maxSteps 900
namespace DL
open PySem PySem.Spec PyProof.Rows L2
/-! ### dicts of ints, counted up, then left as they are -/
def getI (l : List (Int × Int)) (n : Int) : Int := ((l.find? fun p => decide (p.1 = n)).map (·.2)).getD 0
def hasI (l : List (Int × Int)) (n : Int) : Bool := l.any fun p => decide (p.1 = n)
def putI (l : List (Int × Int)) (n c : Int) : List (Int × Int) := if hasI l n = true then l.map (fun p => if p.1 = n then (p.1, c) else p) else l ++ [(n, c)]
def tallyL (ns : List Int) : List (Int × Int) := ns.foldl (fun l n => putI l n (getI l n + 1)) []
theorem kv_any (l : List (Int × Int)) (n : Int) : ((kvI l).any fun kv => decide (kv.1 = (Sum.inl n : Key))) = hasI l n := by
  unfold kvI hasI
  rw [List.any_map]
  congr 1
  funext p
  simp
theorem kv_get (l : List (Int × Int)) (n : Int) : (valV (kvI l) (Sum.inl n : Key)).getD (.int 0) = .int (getI l n) := by
  induction l with
  | nil => rfl
  | cons p l ih =>
    by_cases h : p.1 = n
    · have e : valV (kvI (p :: l)) (Sum.inl n : Key) = some (.int p.2) := valV_pos (congrArg Sum.inl h)
      rw [e, getI, List.find?_cons_of_pos (by simpa using h)]
      rfl
    · have e : valV (kvI (p :: l)) (Sum.inl n : Key) = valV (kvI l) (Sum.inl n : Key) := valV_neg (fun z => h (by injection z))
      rw [e, ih, getI, getI, List.find?_cons_of_neg (by simpa using h)]
theorem kv_some (l : List (Int × Int)) (n : Int) : (valV (kvI l) (Sum.inl n : Key)).isSome = hasI l n := by
  induction l with
  | nil => rfl
  | cons p l ih =>
    by_cases h : p.1 = n
    · have e : valV (kvI (p :: l)) (Sum.inl n : Key) = some (.int p.2) := valV_pos (congrArg Sum.inl h)
      rw [e, hasI, List.any_cons, decide_eq_true h]
      rfl
    · have e : valV (kvI (p :: l)) (Sum.inl n : Key) = valV (kvI l) (Sum.inl n : Key) := valV_neg (fun z => h (by injection z))
      rw [e, ih, hasI, hasI, List.any_cons, decide_eq_false h, Bool.false_or]
theorem kv_put (l : List (Int × Int)) (n c : Int) : putK (kvI l) (Sum.inl n : Key) (.int c) = kvI (putI l n c) := by
  unfold putK putI
  rw [kv_any]
  by_cases h : hasI l n = true
  · rw [if_pos h, if_pos h]
    unfold kvI
    rw [List.map_map, List.map_map]
    refine List.map_congr_left fun p _ => ?_
    show (if (Sum.inl p.1 : Key) = Sum.inl n then ((Sum.inl p.1 : Key), V.int c) else (Sum.inl p.1, .int p.2)) = _
    by_cases e : p.1 = n
    · rw [if_pos (by rw [e])]
      show _ = (fun p : Int × Int => ((Sum.inl p.1 : Key), V.int p.2)) (if p.1 = n then (p.1, c) else p)
      rw [if_pos e]
    · rw [if_neg (fun z => e (by injection z))]
      show _ = (fun p : Int × Int => ((Sum.inl p.1 : Key), V.int p.2)) (if p.1 = n then (p.1, c) else p)
      rw [if_neg e]
  · rw [if_neg h, if_neg h]
    unfold kvI
    rw [List.map_append]
    rfl
theorem putI_len (l : List (Int × Int)) (n c : Int) : (putI l n c).length ≤ l.length + 1 := by
  unfold putI
  split
  · rw [List.length_map]; omega
  · rw [List.length_append]; exact Nat.le_refl _
theorem tally_snoc (ms : List Int) (n : Int) : tallyL (ms ++ [n]) = putI (tallyL ms) n (getI (tallyL ms) n + 1) := by
  unfold tallyL
  rw [List.foldl_append]
  rfl
theorem tally_len (ms : List Int) : (tallyL ms).length ≤ ms.length := by
  have key : ∀ (ms : List Int) (l : List (Int × Int)), (ms.foldl (fun l n => putI l n (getI l n + 1)) l).length ≤ l.length + ms.length := by
    intro ms
    induction ms with
    | nil => intro l; exact Nat.le_refl _
    | cons a ms ih =>
      intro l
      rw [List.foldl_cons, List.length_cons]
      have := ih (putI l a (getI l a + 1))
      have := putI_len l a (getI l a + 1)
      omega
  have h := key ms []
  rw [List.length_nil, Nat.zero_add] at h
  exact h
section
variable {K : PySem.W.Frag} {H0 : Ent} {ρ : List Sl} {σ : L2.St} {Hb H : Hp} {p : Addr} {o : HO}
/-- what stands at p is known from now on -/
theorem Rel.know (R : Rel K H0 ρ σ Hb H) (hb : Hb p = none) (hp : H p = some o) (ho : ∀ ps, o ≠ .tbl ps) (h0 : H0.h p = none) (fr : ∀ (j : Nat) (q : Option Addr) (es : List D), ρ[j]? = some (Sl.ow q es) → σ[j]? ≠ some (some (V.ref p))) : Rel K H0 ρ σ (upd Hb p o) H := by
  have sb : Same Hb (upd Hb p o) := same_upd hb
  refine ⟨R.b0, R.bb.trans sb, fun a n0 n1 => ?_, fun b x e => ?_, fun i d h => ?_, fun i qq ds h => ?_, R.sep, R.len, fun i P qn h => let ⟨t, t1, t2⟩ := R.tb i P qn h; ⟨t, (upd_ne (fun z => by obtain ⟨ps, w, _⟩ := t; rw [z, hp] at w; exact ho ps (Option.some.inj w))).trans t1, t2⟩⟩
  · rw [upd_ne (fun z => n1 (by rw [z]; exact h0))]
    exact R.bn a n0 n1
  · by_cases z : b = p
    · rw [z, upd_same] at e
      rw [z, ← e]
      exact hp
    · rw [upd_ne z] at e
      exact R.b1 _ _ e
  · obtain ⟨v, e, a⟩ := R.dat i d h
    exact ⟨v, e, a.mono sb⟩
  · obtain ⟨a, xs, e, n, q, A, z⟩ := R.own i qq ds h
    have ne : a ≠ p := fun w => fr i qq ds h (by rw [e, w])
    exact ⟨a, xs, e, by rw [upd_ne ne]; exact n, q, A.mono sb, z⟩
end
section
variable {X : Cx} {W : WX} {ρ : List Sl} {Z : DZ} {N : List Str} {sc : Scope} {k : Nat} {a b e tg iter : Expr} {p p1 p2 p3 p4 p5 p6 p7 p8 p9 pa pb pc pd pe pf pg pos apos : Pos} {st : Stmt} {D : Ends} {σ : L2.St} {H : Hp} {rest : List Stmt} {E : DE}
theorem WS.lock (h : WS X st { D with nx := fun σ H => ∃ p u, H p = some u ∧ Mut (some u) ∧ ∀ od, D.nx σ (upd H p (.frz od u)) } σ H) : WS X st D σ H := ⟨fun pins s I => thn (h.go pins s I) fun f s' q => by
  cases f with
  | next =>
    obtain ⟨σ', H', I', p, u, e, m, k⟩ := q
    obtain ⟨od, J⟩ := I'.lock e m
    exact ⟨σ', _, J, k od⟩
  | brk => exact q
  | cont => exact q
  | ret u => exact q⟩
/-- c = {}; for x in pile: c[x] = c.get(x, 0) + 1 -/
theorem sw_tally (C : CtxD X W N sc k) {i0 i1 i2 k1 k2 : Nat} {x0 x1 x2 : Str} {ns : List Int} (hρ : ρ[i0]? = some (Sl.dat (tupI ns))) (hn : ns.length ≤ 1000) (h01 : i0 ≠ i1) (h02 : i0 ≠ i2) (h12 : i1 ≠ i2) (hl1 : i1 < ρ.length) (hl2 : i2 < ρ.length)
    (h : ∀ s, SW X W ((ρ.set i2 s).set i1 (.dat (.dcz (tallyL ns)))) rest E)
    (n0 : N[i0]? = some x0 := by rfl) (n1 : N[i1]? = some x1 := by rfl) (n2 : N[i2]? = some x2 := by rfl) (v0 : Vis sc x0 := by first | exact .inl rfl | exact .inr (.inl rfl)) (v1 : Vis sc x1 := by first | exact .inl rfl | exact .inr (.inl rfl)) (v2 : Vis sc x2 := by first | exact .inl rfl | exact .inr (.inl rfl))
    (l1 : Loc sc x1 := by first | exact .inl rfl | exact .inr rfl) (l2 : Loc sc x2 := by first | exact .inl rfl | exact .inr rfl)
    (d0 : (x0 == ("__debug__" : Str)) = false := by decide) (c0 : (x0 == ("__classdict__" : Str)) = false := by decide) (d1 : (x1 == ("__debug__" : Str)) = false := by decide) (c1 : (x1 == ("__classdict__" : Str)) = false := by decide) (d2 : (x2 == ("__debug__" : Str)) = false := by decide) (c2 : (x2 == ("__classdict__" : Str)) = false := by decide)
    (hm : M2 X (.Name x1 p8) "get" apos (.Name x2 p9) (.Constant (.int 0) k1 pa) pb := by exact ⟨rfl, rfl, rfl, rfl⟩)
    (hs1 : swapsWith (.Dict [] [] p2) (some (.Name x1 p1)) p3.line X.env = pure false := by rfl)
    (hs2 : swapsWith (.BinOp (.Call (.Attribute (.Name x1 p8) "get" apos) [.Name x2 p9, .Constant (.int 0) k1 pa] [] pb) .Add (.Constant (.int 1) k2 pc) pd) (some (.Subscript (.Name x1 p6) (.Name x2 p7) pe)) pf.line X.env = pure false := by rfl)
    (hs3 : ∀ x, foldedSetIterable (.Name x0 p5) X.env x = pure x := by intro _; rfl) :
    SW X W ρ (.Assign [.Name x1 p1] (.Dict [] [] p2) p3 :: .For (.Name x2 p4) (.Name x0 p5) [.Assign [.Subscript (.Name x1 p6) (.Name x2 p7) pe] (.BinOp (.Call (.Attribute (.Name x1 p8) "get" apos) [.Name x2 p9, .Constant (.int 0) k1 pa] [] pb) .Add (.Constant (.int 1) k2 pc) pd) pf] [] pg :: rest) E := by
  intro H0 σ Hb H R xx
  have hu : X.A.units + 1 < cLine := by have := C.room.units; omega
  refine WSs.of (pss_cons ps_w (pss_cons ps_w pss_w)) ?_
  refine WS.of (ps_set C.ndX (C.at n1) (C.loc l1) pe_dnewK hs1 (.inl (C.fnD _))) fun p hp => ?_
  have R1 : Rel X.K H0 (ρ.set i1 .em) (σ.set i1 (some (.ref p))) Hb (upd H p (.dK [])) := (R.allocN hp).setE i1 _
  have hbp : Hb p = none := R.b1.free hp
  have h0p : H0.h p = none := R.b0.free hp
  have s1 : (σ.set i1 (some (V.ref p)))[i1]? = some (some (.ref p)) := List.getElem?_set_self (by rw [← R.len]; exact hl1)
  have fr1 : ∀ (j : Nat) (q : Option Addr) (es : List D), (ρ.set i1 .em)[j]? = some (Sl.ow q es) → (σ.set i1 (some (V.ref p)))[j]? ≠ some (some (V.ref p)) := fun j q es hj e => by
    by_cases z : i1 = j
    · subst z
      rw [List.getElem?_set_self hl1] at hj
      cases hj
    · rw [List.getElem?_set_ne z] at hj e
      obtain ⟨a, ys, e1, _, q1, _⟩ := R.own j q es hj
      rw [e] at e1
      cases e1
      rw [hp] at q1
      cases q1
  have hρ1 : (ρ.set i1 .em)[i0]? = some (Sl.dat (tupI ns)) := by rw [List.getElem?_set_ne (Ne.symm h01)]; exact hρ
  have hl1' : i1 < (ρ.set i1 .em).length := by rw [List.length_set]; exact hl1
  have hl2' : i2 < (ρ.set i1 .em).length := by rw [List.length_set]; exact hl2
  have back : ∀ s : Sl, ((ρ.set i1 .em).set i2 s).set i1 (.dat (.dcz (tallyL ns))) = (ρ.set i2 s).set i1 (.dat (.dcz (tallyL ns))) := fun s => by
    rw [List.set_comm _ _ (Ne.symm h12), List.set_set, List.set_comm _ _ h12]
  obtain ⟨va, ea, aa⟩ := R.dat i0 _ hρ
  have ea1 : (σ.set i1 (some (V.ref p)))[i0]? = some (some va) := by rw [List.getElem?_set_ne (Ne.symm h01)]; exact ea
  cases aa with
  | @tup a xs _ qt A =>
  have exs := A.ints
  subst exs
  have hG : ∀ H', Same Hb H' → SqT X.K H' a (ns.map V.int) := fun H' s => same_seqT s qt.1
  have w := walk_tup (K := X.K) (a := a) (xs := ns.map V.int)
  generalize ρ.set i1 .em = ρ1 at R1 fr1 hρ1 hl1' hl2' back
  refine WS.lock ?_
  refine WS.of (ps_for C.own C.calm (pi_tup (pe_var (C.at n0) (C.vis v0) d0 c0)) (pg_name C.ndX (C.at n2) (C.loc l2) (.inl (C.fnD _))) (pss_one (ps_dput hu (pe_var (C.at n1) (C.vis v1) d1 c1) (pe_var (C.at n2) (C.vis v2) d2 c2) (pe_op op_add (pe_dget2 hu (pe_var (C.at n1) (C.vis v1) d1 c1) (pe_var (C.at n2) (C.vis v2) d2 c2) pe_int hm) pe_int) hs2)) hs3) ⟨.ref a, ea1, a, rfl, ⟨_, hG _ R1.b1⟩, ?_⟩
  refine ⟨fun i m σ' H' => m = ns.length - i ∧ i ≤ ns.length ∧ ∃ s, Rel X.K H0 (ρ1.set i2 s) σ' Hb H' ∧ H' p = some (.dK (kvI (tallyL (ns.take i)))) ∧ σ'[i1]? = some (some (.ref p)) ∧ ∀ (j : Nat) (q : Option Addr) (es : List D), (ρ1.set i2 s)[j]? = some (Sl.ow q es) → σ'[j]? ≠ some (some (V.ref p)), ⟨_, rfl, Nat.zero_le _, ρ1[i2]'hl2', ?_, upd_same, s1, ?_⟩, ?_⟩
  · rw [List.set_getElem_self]
    exact R1
  · rw [List.set_getElem_self]
    exact fr1
  · rintro i m σ' H' ⟨rfl, hi, s, R', hd, e1, fr⟩
    by_cases hlt : i < ns.length
    · refine .inr ⟨w.goes i H' (by rw [List.length_map]; exact hlt) (hG _ R'.b1), fun σ3 H3 => i + 1 ≤ ns.length ∧ ∃ s, Rel X.K H0 (ρ1.set i2 s) σ3 Hb H3 ∧ H3 p = some (.dK (kvI (tallyL (ns.take (i + 1))))) ∧ σ3[i1]? = some (some (.ref p)) ∧ ∀ (j : Nat) (q : Option Addr) (es : List D), (ρ1.set i2 s)[j]? = some (Sl.ow q es) → σ3[j]? ≠ some (some (V.ref p)), fun σ3 H3 h3 => ⟨ns.length - (i + 1), by omega, rfl, h3⟩, fun v H2 y => ?_⟩
      obtain ⟨rfl, ev⟩ := w.yields i H' v H2 (by rw [List.length_map]; exact hlt) (hG _ R'.b1) y
      rw [List.getElem?_map, List.getElem?_eq_getElem hlt] at ev
      have ev : V.int ns[i] = v := Option.some.inj ev
      subst ev
      have R4 := R'.setD i2 (d := .int ns[i]) (v := .int ns[i]) (.int _)
      rw [List.set_set] at R4
      have s4 : (σ'.set i2 (some (V.int ns[i])))[i1]? = some (some (.ref p)) := by rw [List.getElem?_set_ne (Ne.symm h12)]; exact e1
      have s5 : (σ'.set i2 (some (V.int ns[i])))[i2]? = some (some (.int ns[i])) := List.getElem?_set_self (by rw [← R'.len, List.length_set]; exact hl2')
      have fr4 : ∀ (j : Nat) (q : Option Addr) (es : List D), (ρ1.set i2 (.dat (.int ns[i])))[j]? = some (Sl.ow q es) → (σ'.set i2 (some (V.int ns[i])))[j]? ≠ some (some (V.ref p)) := fun j q es hj => by
        by_cases z : i2 = j
        · subst z
          rw [List.getElem?_set_self hl2'] at hj
          cases hj
        · rw [List.getElem?_set_ne z] at hj ⊢
          exact fr j q es (by rw [List.getElem?_set_ne z]; exact hj)
      have et : tallyL (ns.take (i + 1)) = putI (tallyL (ns.take i)) ns[i] (getI (tallyL (ns.take i)) ns[i] + 1) := by
        rw [List.take_succ, List.getElem?_eq_getElem hlt]
        exact tally_snoc _ _
      have sz := tally_len (ns.take i)
      refine ⟨.ref p, s4, p, rfl, .inl ⟨_, .inl hd⟩, .int ns[i], s5, valV (kvI (tallyL (ns.take i))) (Sum.inl ns[i] : Key), DGet.k (k := Sum.inl ns[i]) hd, getI (tallyL (ns.take i)) ns[i], 1, kv_get _ _, rfl, .ref p, s4, .int ns[i], s5, p, _, rfl, DPut.k (k := Sum.inl ns[i]) hd ?_, hlt, .dat (.int ns[i]), R4.mut hbp h0p fr4 hd noTb_dK, ?_, s4, fr4⟩
      · have : (kvI (tallyL (ns.take i))).length ≤ 1000 := by
          rw [kvI, List.length_map]
          rw [List.length_take] at sz
          omega
        exact small1000 this
      · rw [upd_same, kv_put, et]
    · have e : i = ns.length := by omega
      subst e
      rw [List.take_length] at hd
      refine .inl ⟨by have := w.stops H' (hG _ R'.b1); rwa [List.length_map] at this, p, _, hd, True.intro, fun od => ?_⟩
      have R5 := (R'.mut (o := .frz od (.dK (kvI (tallyL ns)))) hbp h0p fr hd noTb_dK).know hbp upd_same (fun _ z => nomatch z) h0p fr
      have R6 := R5.setD i1 (d := .dcz (tallyL ns)) (v := .ref p) (.dcz ⟨od, upd_same⟩)
      have eσ : σ'.set i1 (some (V.ref p)) = σ' := by
        obtain ⟨hl, e2⟩ := List.getElem?_eq_some_iff.mp e1
        rw [← e2]
        exact List.set_getElem_self _
      rw [eσ, back s] at R6
      exact h s H0 σ' _ _ R6 xx
/-- for x in d -/
theorem iw_keysZ {Φ : List DL.D → Prop} (h : EW X W ρ iter (fun d => ∃ l, d = .dcz l ∧ Φ (l.map fun p => .int p.1)) Z) : IW X W ρ tg iter Φ Z := fun H0 σ Hb H R z =>
  WI.of (pi_keys pe_w) (h.run R z fun d v Hb1 H1 f1 R1 s1 a1 z1 => by
    obtain ⟨l, rfl, f1⟩ := f1
    cases a1 with
    | @dcz a _ q =>
      obtain ⟨ob, q⟩ := q
      refine ⟨a, ob, rfl, .inl ⟨kvI l, R1.b1 _ _ q, _, Hb1, f1, R1, s1, ?_⟩⟩
      have w := walk_keys (d := a) (o := ob) (kvs := kvI l)
      have ln : (l.map fun p => DL.D.int p.1).length = (kvI l).length := by rw [kvI, List.length_map, List.length_map]
      refine ⟨fun i H hi s => w.goes i H (by rw [← ln]; exact hi) (s _ _ q), fun H s => by rw [ln]; exact w.stops H (s _ _ q), fun i d H x H' hd s y H0 ρ σ Hb R sb => ?_⟩
      obtain ⟨rfl, kk, vv, e1, e2⟩ := w.yields i H x H' (by rw [← ln]; exact (List.getElem?_eq_some_iff.mp hd).1) (s _ _ q) y
      rw [kvI, List.getElem?_map] at e1
      rw [List.getElem?_map] at hd
      cases hl : l[i]? with
      | none => rw [hl] at hd; cases hd
      | some p =>
        rw [hl] at hd e1
        cases hd
        cases e1
        subst e2
        exact ⟨Hb, R, Gr.refl, .int _⟩)
/-- for x, y in d.items() -/
theorem iw_itemsZ {elts : List Expr} {kk : Nat} {tpos : Pos} {Φ : List DL.D → Prop} (h : EW X W ρ iter (fun d => ∃ l, d = .dcz l ∧ Φ (l.map fun p => .pr (.int p.1) (.int p.2))) Z)
    (hp : ∀ to, PE X iter to → PI X (.Tuple elts kk tpos) (.Call (.Attribute iter "items" apos) [] [] pos) (iItems to)) : IW X W ρ (.Tuple elts kk tpos) (.Call (.Attribute iter "items" apos) [] [] pos) Φ Z := fun H0 σ Hb H R z =>
  WI.of (hp _ pe_w) (h.run R z fun d v Hb1 H1 f1 R1 s1 a1 z1 => by
    obtain ⟨l, rfl, f1⟩ := f1
    cases a1 with
    | @dcz a _ q =>
      obtain ⟨ob, q⟩ := q
      refine ⟨a, ob, kvI l, rfl, R1.b1 _ _ q, _, Hb1, f1, R1, s1, ?_⟩
      have w := walk_items (d := a) (o := ob) (kvs := kvI l)
      have ln : (l.map fun p => DL.D.pr (.int p.1) (.int p.2)).length = (kvI l).length := by rw [kvI, List.length_map, List.length_map]
      refine ⟨fun i H hi s => w.goes i H (by rw [← ln]; exact hi) (s _ _ q), fun H s => by rw [ln]; exact w.stops H (s _ _ q), fun i d H x H' hd s y H0 ρ σ Hb R sb => ?_⟩
      obtain ⟨T, x1, x2, rfl, nT, rfl, e1, e2⟩ := w.yields i H x H' (by rw [← ln]; exact (List.getElem?_eq_some_iff.mp hd).1) (s _ _ q) y
      rw [List.getElem?_map] at hd
      cases hl : l[i]? with
      | none => rw [hl] at hd; cases hd
      | some p =>
        rw [hl] at hd
        cases hd
        have ek : (kvI l)[i]? = some (Sum.inl p.1, V.int p.2) := by rw [kvI, List.getElem?_map, hl]; rfl
        simp only [ek, Option.map_some, Option.some.injEq] at e1 e2
        subst e1 e2
        exact ⟨_, R.alloc nT, ⟨same_upd (R.b1.free nT), same_upd nT⟩, .pr (SqT.of upd_same) (.int _) (.int _)⟩)
/-- x in d -/
theorem tw_inZ {Φ : Bool → Prop} (C : Ctx X W N sc k) (h : EW X W ρ a (fun x => EW X W ρ b (fun y => ∃ n l, x = .int n ∧ y = .dcz l ∧ Φ (hasI l n)) Z) Z) (hk : behindInMarks .In b = false := by rfl) : TW X W ρ (.Compare a [.In] [b] pos) Φ Z := fun H0 σ Hb H R z =>
  have hu : X.A.units + 1 < cLine := by have := C.room.units; omega
  WT.of (pt_cmp (pc_din hu pe_w pe_w) hk) (h.run R z fun x v Hb1 H1 f1 R1 s1 a1 z1 => f1.run R1 z1 fun y u Hb2 H2 f2 R2 s2 a2 _ => by
    obtain ⟨n, l, rfl, rfl, f2⟩ := f2
    cases a1
    cases a2 with
    | @dcz p _ q =>
      obtain ⟨ob, q⟩ := q
      exact ⟨p, valV (kvI l) (Sum.inl n : Key), rfl, .inl ⟨kvI l, _, .inr ⟨ob, R2.b1 _ _ q⟩, rfl, rfl⟩, hasI l n, by rw [kv_some], Hb2, f2, R2, s1.trans s2⟩)
theorem cr_maxT (hc : X.calm = true) (hu : X.A.units + 64 < cLine) : CallR X (.builtin "max") (fun vs H Q => ∃ (a : Addr) (ns : List Int) (m : Int), vs = [.ref a] ∧ SqT X.K H a (ns.map V.int) ∧ m ∈ ns ∧ (∀ y ∈ ns, y ≤ m) ∧ Q (.int m) H) := by
  intro pins s σ H vs us Q I r h
  obtain ⟨a, ns, m, rfl, hs, h1, h2, q⟩ := h
  obtain ⟨its, rv, tp, hz⟩ := I.tuple hs
  rw [Vals.ref1 r]
  cases ns with
  | nil => cases h1
  | cons y ys =>
    refine PySem.W.max_tuple_datum (α := Int) (x := y) (xs := ys) (I.ok.hd hc) tp (by rw [List.toList_toArray]; exact holdInts rv) (show X.A.units + 1 + 0 < cLine by omega) fun i u h' tk hu hh hk => ?_
    obtain ⟨z1, z2⟩ := maxOf_is y ys
    have e : PySem.W.maxOf y ys = m := Int.le_antisymm (h2 _ z1) (z2 _ h1)
    rw [e] at hh
    exact ⟨.int m, H, I.kept hk, heldInt hh, q⟩
/-- max of a tuple of ints -/
theorem ew_maxT (C : Ctx X W N sc k) (hm : X.mg "max" = none) {Φ : DL.D → Prop} (h : EW X W ρ e (fun d => ∃ (ns : List Int) (m : Int), d = tupI ns ∧ m ∈ ns ∧ (∀ y, y ∈ ns → y ≤ m) ∧ Φ (.int m)) Z) (hg : GlN sc "max" := by rfl) (he : starEach [e] X.env = (false, eval e X.env) :: starEach [] X.env := by exact star_nst rfl) : EW X W ρ (.Call (.Name "max" p) [e] [] pos) Φ Z :=
  ew_cB C (cr_maxT C.calm C.room.units) hg hm PyProof.Rows.boot_max (aw_cons (h.mono fun d f => aw_nil fun H0 ρ σ Hb H vs R A Q kq => by
    obtain ⟨ns, m, rfl, h1, h2, f⟩ := f
    cases A with
    | cons a1 A =>
      cases A
      cases a1 with
      | @tup a xs _ q A =>
        have ex := A.ints
        subst ex
        exact ⟨a, ns, m, rfl, same_seqT R.b1 q.1, h1, h2, kq _ _ (endE f R Gr.refl (.int _))⟩) he) (by decide) (by decide) he rfl
end
end DL
/-! DX: a list comprehension whose element may raise. -/
namespace DL
open PySem PySem.Spec PyProof.Rows L2
section
variable {M : Model} {A : Around} {E : Value → Shared → Prop} {s : Shared} {base : Heap} {env : Env} {outer : List Env} {e L C : Addr} {Z : Obj → Prop}
/-- an exception that a block of this frame holds is noted by the frame -/
theorem note_off {Q : Unit → Shared → Prop} (hZ : HandSPX.Steady Z) (hfr : A.frames = some (env :: outer)) (hf : env.frame = some L) (hne : C ≠ L) (hh : HandSPX.HeldZ base (env :: outer) e Z C s.heap)
    (hQ : ∀ h', HandSPX.HeldZ base (env :: outer) e Z L h' → s.heap.UpToSlots h' → Q () { s with heap := h' }) : wpAny M A (noteFrame (.ref e) env) Q E s := by
  obtain ⟨k1, k2, k3, oe, vs, T, oT, ts, h1, h2, h3, h4, h5, h6, h7, h8, h9⟩ := hh
  have far : ∀ b, b ≠ T → (s.heap.update T (Obj.mapFields (·.setIfInBounds 3 Value.none))).get? b = s.heap.get? b := fun b hb => Heap.get?_update_other _ _ (Ne.symm hb)
  have nrec : ∀ b o, s.heap.get? b = some o → (∀ vs, o.data ≠ .fields vs) → b ≠ T := fun b o hb hnf z => by
    subst z
    rw [h7] at hb
    cases hb
    exact hnf _ h8
  unfold noteFrame
  simp only [hf]
  refine wpAny_bind (wpAny_field h1 h3 h4 ?_)
  rw [if_pos (by simp)]
  refine wpAny_bind (wpAny_field h7 h8 h9 ?_)
  rw [if_neg (by simp only [rawInt, beq_iff_eq, Value.int.injEq]; exact fun z => hne (Int.ofNat.inj z.1))]
  refine wpAny_bind (wpAny_setField h7 h8 (Array.getElem?_eq_some_iff.mp h9).1 ?_)
  refine HandSPX.wpAny_entryZ hZ hfr (k3.of_keeps fun b o hb hnf => ⟨o, by rw [far b (nrec b o hb hnf)]; exact hb, rfl⟩) hf (by rw [far e (Ne.symm h6)]; exact h1)
    (fun b o hbo => by rw [far b (fun z => by rw [z, h5] at hbo; cases hbo)]; exact k1 b o hbo) k2 h3 (Array.getElem?_eq_some_iff.mp h4).1 h2 fun h' hN => ?_
  obtain ⟨x1, x2, x3, x4⟩ := hN
  exact hQ h' ⟨x1, k2, x2, x3⟩ fun b o hb hnf => x4 b o (by rw [far b (nrec b o hb hnf)]; exact hb) hnf
/-- whatever it is, noted by the frame -/
theorem note_any {Q : Unit → Shared → Prop} (hZ : HandSPX.Steady Z) (hfr : A.frames = some (env :: outer)) (hf : env.frame = some L) (hne : C ≠ L) (x : Sky base (env :: outer) e Z C s.heap)
    (hQ : ∀ h', HandSPX.HeldZ base (env :: outer) e Z L h' → s.heap.UpToSlots h' → Q () { s with heap := h' }) : wpAny M A (noteFrame (.ref e) env) Q E s := by
  rcases x with ⟨hB, hn, hl, oe, vs, he, hz, hd, h1⟩ | fl | hh
  · exact HandSPX.look_newZ hZ hfr hl hf he hB hn hd h1 hz hQ
  · exact HandSPX.looks_onZ hZ hfr hf fl hQ
  · exact note_off hZ hfr hf hne hh hQ
end
/-- the ground without one address: another object may stand there -/
theorem held_but {base h h' : Heap} {l : List Env} {e L C : Addr} {Z : Obj → Prop} {oC : Obj} (hC : base.get? C = some oC) (hl : C ∉ frs l) (hh : HandSPX.HeldZ base l e Z L h) (sb : Heap.SameBut C h h') : HandSPX.HeldZ (PySem.W.hideAll base [C]) l e Z L h' := by
  obtain ⟨k1, k2, k3, oe, vs, T, oT, ts, h1, h2, h3, h4, h5, h6, h7, h8, h9⟩ := hh
  have hid : ∀ b, base.get? b = none → (PySem.W.hideAll base [C]).get? b = none := fun b hb => by
    cases q : (PySem.W.hideAll base [C]).get? b with
    | none => rfl
    | some o => have z := PySem.W.of_hideAll _ q; rw [hb] at z; cases z
  have ne : ∀ b, base.get? b = none → b ≠ C := fun b hb z => by rw [z, hC] at hb; cases hb
  have nC : ∀ b o, (PySem.W.hideAll base [C]).get? b = some o → b ≠ C := fun b o q z => by
    subst z
    rw [PySem.W.hideAll_none _ (List.mem_singleton.mpr rfl)] at q
    cases q
  refine ⟨fun b o q => by rw [sb.2 b (nC b o q)]; exact k1 b o (PySem.W.of_hideAll _ q), hid e k2, ?_, oe, vs, T, oT, ts, by rw [sb.2 e (ne e k2)]; exact h1, h2, h3, h4, hid T h5, h6, by rw [sb.2 T (ne T h5)]; exact h7, h8, h9⟩
  clear h1 h2 h3 h4
  induction l with
  | nil => exact trivial
  | cons env rest ih =>
    obtain ⟨f1, ⟨L1, o, f2, f3, f4, f5⟩, f6⟩ := k3
    exact ⟨f1, ⟨L1, o, f2, hid L1 f3, by rw [sb.2 L1 (ne L1 f3)]; exact f4, f5⟩, ih (fun z => hl (by
      obtain ⟨x, y, z⟩ := List.mem_filterMap.mp z
      exact List.mem_filterMap.mpr ⟨x, List.mem_cons_of_mem _ y, z⟩)) f6⟩
section
variable {X : Cx} {W W' : WX} {pins pn' : List (Addr × Obj)} {σ : L2.St} {H : Hp} {s s' : Shared} {scope : Scope} {cl : List (Str × Addr)} {fp : List Addr} {xe : Value → Shared → Prop} {u : Value}
/-- what leaves a block's element goes on in the def -/
theorem xe_out (I : Inv X pins σ H s) (stk : X.stack = X.env :: X.outer) (frm : X.env.frame = some X.env.locals) (tk : Takes X W) (hfp : ∀ b ∈ fp, FpOk X pins H b)
    (hW : ∀ cls d σ' H', W' cls d σ' H' → W cls d σ H') (x : XE ((X.blk s H scope (compEnvC scope cl s.heap.objs.size X.env) fp).tr pn' xe) W' u s') :
    notedBy (model X.prog X.w) X.A (compEnvC scope cl s.heap.objs.size X.env) (fun e s'' => CompFails (model X.prog X.w) X.A X.xe (compEnvC scope cl s.heap.objs.size X.env) e s'') u s' := by
  obtain ⟨a, B, sI, pins', σ', H', cls, d, rfl, JI, nb, up, sky, na, os, ag, w⟩ := x
  have hfr : X.A.frames = some (X.env :: X.outer) := by rw [I.ok.frames, stk]
  have J : Inv X pins σ H' sI := I.call' (ch := fp) JI.os JI.base JI.hok JI.bare fun b hb => ⟨(hfp b hb).2.2.2.1, (hfp b hb).2.1, (hfp b hb).2.2.2.2.1, (hfp b hb).2.2.2.2.2⟩
  generalize hC : s.heap.objs.size = C at *
  have nC : H' C = none := JI.free
  obtain ⟨c0, c1, c2, c3, c4, c5⟩ := I.fpOk (b := C) (Nat.le_of_eq hC) nC
  obtain ⟨m, hn, _⟩ := JI.loc
  have hn : sI.heap.Ns C m := hn
  obtain ⟨oC, es, ep, e1, _⟩ := hn
  have hl : C ∉ frs X.stack := fun hm => by
    obtain ⟨_, o, z, _⟩ := I.stack.mem hm
    have := Heap.lt_size z
    rw [hC] at this
    exact Nat.lt_irrefl _ this
  have nb : ∀ b o, sI.heap.get? b = some o → b ∉ frs X.stack → B.get? b = some o := nb
  have eB : B.get? C = some oC := nb C oC e1 hl
  have sky : Sky B (X.env :: X.outer) a (Zc cls d) C s'.heap := by rw [← stk]; exact sky
  show wpAny _ X.A (noteFrame (.ref a) X.env) _ _ _
  refine note_any Zc.steady hfr frm c1 sky fun h1 held up1 => ?_
  refine ⟨m, hn.at fun o e => held.1 C o (nb C o e hl), fun h' m' hn' sb => ?_⟩
  have sb : Heap.SameBut C h1 h' := sb
  rw [← stk] at held
  have held' := held_but eB hl held sb
  have keep := held'
  obtain ⟨_, _, _, oe, vs, T, oT, ts, h1', h2', h3', h4', h5', h6', h7', h8', h9'⟩ := held'
  unfold PySem.passOn
  refine wpAny_bind (wpAny_field h1' h3' h4' ?_)
  rw [if_neg (by simp)]
  refine wpAny_bind ?_
  show wpAny _ _ (setFlight (.ref a) X.env.frame) _ _ _
  rw [frm]
  refine HandSPX.setFlight_onZ keep fun h2 held2 up2 => ?_
  refine wpAny_throw (tk _ _ ⟨a, PySem.W.hideAll B [C], { sI with heap := PySem.W.hideAll sI.heap [C] }, pins, σ, H', cls, d, rfl, J.turned (fun b o hb e => PySem.W.hideAll_get _ e (by simpa using hb)) c0 c1 c3 c4 c5, fun b o e hb => ?_, fun b o e hnf => ?_, .inr (.inr held2), na, os, ag, hW _ _ _ _ w⟩)
  · have z := PySem.W.of_hideAll _ e
    refine PySem.W.hideAll_get _ (nb b o z hb) fun q => ?_
    rw [PySem.W.hideAll_none _ q] at e
    cases e
  · have z := PySem.W.of_hideAll _ e
    have hb : b ≠ C := fun q => by
      rw [PySem.W.hideAll_none _ (by simp [q])] at e
      cases e
    obtain ⟨sl, e2⟩ := up b o z hnf
    obtain ⟨sl2, e3⟩ := up1 b _ e2 hnf
    exact up2 b { o with slots := sl2 } (by rw [sb.2 b hb]; exact e3) hnf
end
end DL
set_option pp.maxSteps 900
namespace DL
open PySem PySem.Spec PyProof.Rows L2
section
variable {X : Cx} {W : WX} {ρ : List Sl} {Z : DZ} {N : List Str} {sc scope : Scope} {k : Nat} {elt tg iter : Expr} {pos : Pos}
/-- one turn: the item d makes o, or raises C1 -/
def BX (X : Cx) (N : List Str) (sc scope : Scope) (k : Nat) (ρ : List Sl) (vs : List Nat) (f : D → List Sl → Option (List Sl)) (elt : Expr) (C1 : Addr) (d : D) (o : Option D) : Prop :=
  ∃ ρ2, f d (wipeD (dropOwn ρ) vs) = some ρ2 ∧ ∀ (s : Shared) (H : Hp) (C0 : Addr) (cl : List (Str × Addr)) (fp : List Addr) (pn : List (Addr × Obj)) (xe : Value → Shared → Prop) (W' : WX),
    Ctx ((X.blk s H scope (compEnvC scope cl C0 X.env) fp).tr pn xe) W' N (relS scope sc) k → EW ((X.blk s H scope (compEnvC scope cl C0 X.env) fp).tr pn xe) W' ρ2 elt (fun r => o = some r) (fun A => o = none ∧ A = C1)
theorem take_all {α : Type} {p : α → Prop} {l : List α} {i : Nat} (h : ∀ d ∈ l.take i, p d) {x : α} (e : l[i]? = some x) (hx : p x) : ∀ d ∈ l.take (i + 1), p d := by
  intro d hd
  rw [List.take_succ, e] at hd
  rcases List.mem_append.mp hd with hd | hd
  · exact h d hd
  · have : d = x := by simpa using hd
    rw [this]
    exact hx
theorem take_out {α β : Type} (g : α → Option β) {l : List α} {i : Nat} {x : α} {y : β} (e : l[i]? = some x) (hx : g x = some y) : (l.take (i + 1)).filterMap g = (l.take i).filterMap g ++ [y] := by
  rw [List.take_succ, e, List.filterMap_append]
  simp [hx]
theorem en_lcX (C : CtxD X W N sc k) {own : List (Str × Nat)} {f : D → List Sl → Option (List Sl)} (T : TgB N (relS scope sc) (own.map (·.2)) tg f) {Φ : List D → Prop} {C1 : Addr}
    (h : IW X W ρ tg iter (fun ds => ds.length ≤ 1000000 ∧ ∃ g : D → Option D, (∀ d ∈ ds, BX X N sc scope k ρ (own.map (·.2)) f elt C1 d (g d)) ∧ ((∀ d ∈ ds, (g d).isSome = true) → Φ (ds.filterMap g)) ∧ ((∃ d ∈ ds, g d = none) → Z C1)) Z)
    (ok : BlkOk N sc scope own) (hs : ∀ x, foldedSetIterable iter X.env x = pure x := by intro _; rfl) : EN X W ρ (.ListComp elt [⟨tg, iter, [], 0⟩] scope pos) Φ Z := fun Hent σ Hb H R z => ⟨fun pins s I => by
  obtain ⟨g0, pg0, hg⟩ := T.ok X.K
  have ok' : BlkOk X.N X.env.scope scope own := by rw [C.hN, C.hs]; exact ok
  have hN : X.N.Nodup := C.ndX
  have hfree : ∀ y ∈ scope.names, y.2 = .free → ∃ c, X.env.cells.lookup y.1 = some c := fun y hy e => (ok'.free y hy e).elim (fun w => I.ok.has _ (.inl w)) fun w => I.ok.has _ (.inr w)
  rw [eval_ListComp]
  refine comprehension_at (use := none) rfl hs (closure_ok hfree) ok'.kind (fun y hy e => by rw [ok'.uniq y hy, e]) (thn ((h Hent σ Hb H R z).go pins s I) fun xv s1 hx => thn hx fun itv s2 h2 => ?_)
  obtain ⟨it, fp, tn, J, H2, rfl, I2, Tn, st2, f2, ds, Hw, ⟨hz, g, hB, hΦ, hZ⟩, R1, gr1, w⟩ := h2
  refine wpAny_newObj_type (newEnv_comp ?_) (by show 0 ≤ sizeLine; decide)
  generalize hD : s2.heap.objs.size = Dl
  have hDn : H2 Dl = none := I2.hok.fresh (Nat.le_of_eq hD)
  generalize e3 : ({ s2 with heap := s2.heap.push { cls := .type "list", data := .seq ([] : List Value).toArray } } : Shared) = s3
  have h3 : s3.heap = s2.heap.push { cls := .type "list", data := .seq ([] : List Value).toArray } := by rw [← e3]
  have I3 : Inv X pins σ (upd H2 Dl (.lst [])) s3 := by
    rw [← e3]
    refine I2.laid (t' := s2.toks) (fun _ _ q => Heap.get?_push_of_some _ q) (Nat.le_of_eq hD) ⟨Nat.zero_le _, [], 0, .nil, ?_⟩
    rw [← hD]
    exact Heap.get?_push_size _ rfl
  have lt2 : ∀ b ∈ fp, b < s2.heap.objs.size := fun b hb => by
    obtain ⟨_, q, _⟩ := Tn.obj _ _ st2 b hb
    exact Heap.lt_size q
  have f3 : ∀ b ∈ fp, FpOk X pins (upd H2 Dl (.lst [])) b ∧ b < s3.heap.objs.size := fun b hb => ⟨⟨by rw [upd_ne (by rw [← hD]; exact Nat.ne_of_lt (lt2 b hb))]; exact (f2 b hb).1, (f2 b hb).2⟩, by rw [h3, Heap.size_push]; exact Nat.lt_succ_of_lt (lt2 b hb)⟩
  have st3 : tn 0 s3.heap := Tn.keep _ _ _ st2 fun _ _ _ q => by rw [h3]; exact Heap.get?_push_of_some _ q
  have I4 := block_start I3 ok' hN f3
  generalize hcl : cellsFrom (s3.heap.objs.size + 1) scope.names (cloFrom X.env.cells scope.names []) = cl0 at I4
  show codeAny _ _ (.compStart (.ListComp elt [⟨tg, iter, [], 0⟩] scope pos) 0 (.ref it) (.ref Dl) (compEnvC scope cl0 s3.heap.objs.size X.env))
    (compEnds (model X.prog X.w) X.A X.xe none (EP X pins σ (PostN X.K Hent ρ σ Hb H Φ)) (.ref Dl) (compEnvC scope cl0 s3.heap.objs.size X.env)) { s3 with heap := pushCells (s3.heap.push { cls := .type "dict", data := .dict #[] }) scope.names }
  have hwD : Hw Dl = none := R1.b1.free hDn
  have h0D : Hent.h Dl = none := R1.b0.free hDn
  have fr : ∀ (j : Nat) (q : Option Addr) (es : List D), ρ[j]? = some (Sl.ow q es) → σ[j]? ≠ some (some (V.ref Dl)) := fun j qq es hj e => by
    obtain ⟨a, ys, z1, _, q, _⟩ := R1.own j qq es hj
    rw [e] at z1
    cases z1
    rw [hDn] at q
    cases q
  have RD := R1.allocN hDn (o := .lst [])
  generalize hH3 : upd H2 Dl (.lst []) = H3 at I3 I4 f3 RD
  have mutS : ∀ {H' : Hp} {o : HO}, Same H2 H' → Same H2 (upd H' Dl o) := fun {H' o} q b x e => by
    rw [upd_ne (ne_of_none e hDn)]
    exact q _ _ e
  have s23 : Same H2 H3 := by rw [← hH3]; exact mutS (Same.refl _)
  generalize hs4 : ({ s3 with heap := pushCells (s3.heap.push { cls := .type "dict", data := .dict #[] }) scope.names } : Shared) = s4 at I4 ⊢
  have st4 : tn 0 s4.heap := Tn.keep _ _ _ st3 fun _ _ _ q => by rw [← hs4]; exact pushCells_keeps _ _ _ _ (Heap.get?_push_of_some _ q)
  have stat : ∀ {σ' : L2.St} {H' : Hp} {s' : Shared}, Inv (X.blk s3 H3 scope (compEnvC scope cl0 s3.heap.objs.size X.env) fp) [] σ' H' s' → (∀ b ∈ fp, H' b = none) → ∀ b ∈ fp, FpOk (X.blk s3 H3 scope (compEnvC scope cl0 s3.heap.objs.size X.env) fp) [] H' b := fun {σ' H' s'} I' hn b hb =>
    ⟨hn b hb, (I'.ok.exf b hb).1, I'.ok.exfs b hb, .inl hb, fun x c q => (I'.ok.exf b hb).2 x c q, fun p hp => absurd (show p ∈ ([] : List (Addr × Obj)) ++ [] from hp) (by simp)⟩
  have f3' : ∀ b ∈ fp, FpOk X pins H3 b := fun b hb => (f3 b hb).1
  refine codeAny_compStart_list ?loop (Tn.self X.A 0 _ _ _ st4 ?loop)
  refine compLoop_any (fun n s' => ∃ i H', Inv (X.blk s3 H3 scope (compEnvC scope cl0 s3.heap.objs.size X.env) fp) [] (wipe σ (own.map (·.2))) H' s' ∧ tn i s'.heap ∧ (∀ b ∈ fp, H' b = none) ∧ n = ds.length - i ∧ i ≤ ds.length ∧ (∀ d ∈ ds.take i, (g d).isSome = true) ∧
    ∃ Hb' acc, Rel X.K Hent ρ σ Hb' H' ∧ Same Hw Hb' ∧ Hb' Dl = none ∧ H' Dl = some (.lst acc) ∧ AtAll X.K Hb' acc ((ds.take i).filterMap g) ∧ Same H2 H') ?_ ds.length ⟨0, H3, I4, st4, fun b hb => (f3 b hb).1.1, rfl, Nat.zero_le _, fun d hd => (by simp at hd), Hw, [], RD, Same.refl _, hwD, (by rw [← hH3]; exact upd_same), (by rw [List.take_zero]; exact .nil), s23⟩
  rintro n s5 ⟨i, H5, I5, st5, n5, rfl, hi, hall, Hb5, acc, R5, sw, nb, qD, A, sH⟩
  by_cases hlt : i < ds.length
  · have goH : Same Hw H5 := sw.trans R5.b1
    have hd : ds[i]? = some ds[i] := List.getElem?_eq_getElem hlt
    obtain ⟨ρ2, e2, hel⟩ := hB ds[i] (List.getElem_mem hlt)
    have ti := Tn.item (X.blk s3 H3 scope (compEnvC scope cl0 s3.heap.objs.size X.env) fp) rfl rfl rfl C.calm i [] s5 _ H5 (fun _ _ => False) I5 (stat I5 n5) st5 (w.go i H5 hlt goH)
    refine thnF ti fun r s6 ⟨uv, hr, h6⟩ => ?_
    subst hr
    refine thnF h6 fun _ s7 ⟨x, H7, I7, r7, y7, st7, n7⟩ => ?_
    have I7' := I7.pinned (stat I7 n7) (Tn.obj _ _ st7)
    obtain ⟨Hb7, R7, g7, a7⟩ := w.yld i ds[i] H5 x H7 hd goH y7 ⟨H5, Hb5⟩ _ _ Hb5 (rel_block R5 (own.map (·.2))) sw
    have pg := pg0 (X.blk s3 H3 scope (compEnvC scope cl0 s3.heap.objs.size X.env) fp) W0 k rfl (C.toCtx.blk s3 H3 s3.heap.objs.size cl0 fp)
    refine thnF (pg.run _ s7 _ H7 x uv _ I7' r7 (hg ⟨H5, Hb5⟩ _ Hb7 H7 _ ds[i] x ρ2 (fun σ2 H' => H' = H7 ∧ wipe σ2 (own.map (·.2)) = wipe (wipe σ (own.map (·.2))) (own.map (·.2)) ∧ Rel X.K ⟨H5, Hb5⟩ ρ2 σ2 Hb7 H7) R7 a7 e2 fun σ2 R8 hw8 => ⟨rfl, hw8, R8⟩)) fun _ s8 ⟨σ8, H8, I8, e8, hw8, R8⟩ => ?_
    subst e8
    have hw8 : wipe σ8 (own.map (·.2)) = wipe σ (own.map (·.2)) := by rw [hw8, wipe_wipe]
    refine wpAny_tests_nil ?_
    -- what a turn has left, seen from the def
    have ret : ∀ {ρ4 : List Sl} {σ4 : L2.St} {Hb4 H4 : Hp}, Rel X.K ⟨H5, Hb5⟩ ρ4 σ4 Hb4 H4 → Rel X.K Hent ρ σ Hb4 H4 ∧ Same Hw Hb4 ∧ Hb4 Dl = none ∧ H4 Dl = some (.lst acc) ∧ AtAll X.K Hb4 acc ((ds.take i).filterMap g) ∧ Same H2 H4 := fun {ρ4 σ4 Hb4 H4} q =>
      ⟨R5.called q.back, sw.trans q.bb, q.bn Dl nb (by rw [show (⟨H5, Hb5⟩ : Ent).h Dl = some (.lst acc) from qD]; exact fun z => nomatch z), q.b0 _ _ qD, A.mono q.bb, sH.trans q.b0⟩
    have fin : ∀ {s' : Shared} {H' : Hp}, Inv (X.blk s3 H3 scope (compEnvC scope cl0 s3.heap.objs.size X.env) fp) ([] ++ pinsAt fp s7.heap) σ8 H' s' → (∃ y acc' Hb', g ds[i] = some y ∧ Rel X.K Hent ρ σ Hb' H' ∧ Same Hw Hb' ∧ Hb' Dl = none ∧ H' Dl = some (.lst acc') ∧ AtAll X.K Hb' acc' ((ds.take (i + 1)).filterMap g) ∧ Same H2 H') →
        ∃ m, m < ds.length - i ∧ ∃ i H', Inv (X.blk s3 H3 scope (compEnvC scope cl0 s3.heap.objs.size X.env) fp) [] (wipe σ (own.map (·.2))) H' s' ∧ tn i s'.heap ∧ (∀ b ∈ fp, H' b = none) ∧ m = ds.length - i ∧ i ≤ ds.length ∧ (∀ d ∈ ds.take i, (g d).isSome = true) ∧
          ∃ Hb' acc, Rel X.K Hent ρ σ Hb' H' ∧ Same Hw Hb' ∧ Hb' Dl = none ∧ H' Dl = some (.lst acc) ∧ AtAll X.K Hb' acc ((ds.take i).filterMap g) ∧ Same H2 H' := fun {s' H'} I' nx => by
      obtain ⟨y, acc', Hb', hy, q⟩ := nx
      have pin' : ∀ b ∈ fp, ∀ o, s7.heap.get? b = some o → s'.heap.get? b = some o ∧ H' b = none := fun b hb o e =>
        ⟨(I'.pin (b, o) (List.mem_append_right _ (List.mem_append_right _ (mem_pinsAt hb e)))).1, (I'.pin (b, o) (List.mem_append_right _ (List.mem_append_right _ (mem_pinsAt hb e)))).2.1⟩
      refine ⟨ds.length - (i + 1), by omega, i + 1, H', (I'.unpinned (pins := [])).weak (by rw [← hw8, wipe_length]) (fun j v e => ?_), Tn.keep _ _ _ st7 fun b hb o e => (pin' b hb o e).1, fun b hb => ?_, rfl, hlt, take_all (p := fun d => (g d).isSome = true) hall hd (by rw [hy]; rfl), Hb', acc', q⟩
      · rw [← hw8] at e
        exact (wipe_some e).1
      · obtain ⟨o, e, _⟩ := Tn.obj _ _ st7 b hb
        exact (pin' b hb o e).2
    rw [if_pos rfl]
    -- the element
    have I9 := Inv.toTry I8 (notedBy (model X.prog X.w) X.A (compEnvC scope cl0 s3.heap.objs.size X.env) (fun e s'' => CompFails (model X.prog X.w) X.A X.xe (compEnvC scope cl0 s3.heap.objs.size X.env) e s''))
    have ctx : Ctx ((X.blk s3 H3 scope (compEnvC scope cl0 s3.heap.objs.size X.env) fp).tr ([] ++ ([] ++ pinsAt fp s7.heap)) (notedBy (model X.prog X.w) X.A (compEnvC scope cl0 s3.heap.objs.size X.env) (fun e s'' => CompFails (model X.prog X.w) X.A X.xe (compEnvC scope cl0 s3.heap.objs.size X.env) e s''))) (fun cls d _ H' => W cls d σ H') N (relS scope sc) k :=
      ⟨C.hN, C.nd, by rw [← C.hs]; rfl, C.room, C.calm, fun u s' q => xe_out I3 C.stk C.frm C.tk f3' (fun _ _ _ _ y => y) q, PassesOwn.looking⟩
    have el := hel s3 H3 s3.heap.objs.size cl0 fp _ _ _ ctx
    refine wpAny_mono ((EW.run (Q := fun yv H' => ∃ r Hb', g ds[i] = some r ∧ Rel X.K ⟨H5, Hb5⟩ ρ2 σ8 Hb' H' ∧ At X.K Hb' yv r) el R8 (fun A' Hb' H' hA R' g' => ?_) fun r v Hb' H' e R' g' a' _ => ⟨r, Hb', e, R', a'⟩).go [] s8 I9) (fun zv s10 hq => ?_) (fun e s' he => he)
    · obtain ⟨eo, rfl⟩ := hA
      obtain ⟨q1, q2, q3, q4, q5, q6⟩ := ret R'
      exact z _ Hb' H' (hZ ⟨ds[i], List.getElem_mem hlt, eo⟩) q1 (gr1.trans ⟨q2, q6⟩)
    · obtain ⟨yv, H10, I10, r10, r, Hb10, er, R10, a10⟩ := hq
      obtain ⟨q1, q2, q3, q4, q5, q6⟩ := ret R10
      have I10' := I10.ofTry (X := X.blk s3 H3 scope (compEnvC scope cl0 s3.heap.objs.size X.env) fp) (pins := [] ++ pinsAt fp s7.heap) I8.ok
      refine app_ok (X := X.blk s3 H3 scope (compEnvC scope cl0 s3.heap.objs.size X.env) fp) I10' q4 ?_ r10 fun s11 I11 => fin I11 ⟨r, acc ++ [yv], Hb10, er, q1.mut q3 h0D fr q4 noTb_lst, q2, q3, upd_same, ?_, mutS q6⟩
      · rw [A.length]
        have h1 := List.length_filterMap_le g (ds.take i)
        have h2 : (ds.take i).length ≤ ds.length := by rw [List.length_take]; omega
        have h4 : (1000000 : Nat) < sizeLine := by decide
        omega
      · rw [take_out g hd er]
        exact q5.append (.cons a10 .nil)
  · have e : i = ds.length := by omega
    subst e
    rw [List.take_length] at A hall
    have td := Tn.done (X.blk s3 H3 scope (compEnvC scope cl0 s3.heap.objs.size X.env) fp) rfl rfl rfl C.calm ds.length [] s5 _ H5 (fun _ _ => False) I5 (stat I5 n5) st5 (w.stop H5 (sw.trans R5.b1))
    refine thnF td fun r s6 ⟨hr, I6⟩ => ?_
    subst hr
    have I7 : Inv X pins σ H5 s6 := I3.call' (ch := fp) I6.os I6.base I6.hok I6.bare fun b hb => ⟨(f3' b hb).2.2.2.1, (f3' b hb).2.1, (f3' b hb).2.2.2.2.1, (f3' b hb).2.2.2.2.2⟩
    have nC : H5 s3.heap.objs.size = none := I6.free
    obtain ⟨c0, c1, c2, c3, c4, c5⟩ := I3.fpOk (b := s3.heap.objs.size) (Nat.le_refl _) nC
    obtain ⟨m, hn, _⟩ := I6.loc
    exact ⟨m, hn, fun h'' sb => ⟨.ref Dl, H5, I7.turned (t' := s6.toks) (fun b o hb q => (sb.2 b hb).trans q) c0 c1 c3 c4 c5, rfl, ds.filterMap g, Hb5, Dl, acc, rfl, hΦ hall, R5, gr1.trans ⟨sw, sH⟩, nb, qD, A, h0D, fr⟩⟩⟩
end
end DL
set_option pp.maxSteps 900
/-! EA: texts -/
namespace DL
open PySem PySem.Spec PyProof.Rows L2
abbrev numS (i : Int) : Str := toString i
theorem at_strs {K : PySem.W.Frag} {H : Hp} : ∀ ys : List Str, AtAll K H (ys.map V.str) (ys.map D.str)
  | [] => .nil
  | y :: ys => .cons (.str y) (at_strs ys)
section
variable {X : Cx} {W : WX} {ρ : List Sl} {Z : DZ} {N : List Str} {sc : Scope} {k : Nat} {o e a b tg iter : Expr} {rest : List Expr} {apos pos p : Pos} {Φ : D → Prop}
theorem ew_addS (h : EW X W ρ a (fun x => EW X W ρ b (fun y => ∃ s t, x = .str s ∧ y = .str t ∧ s.length + t.length ≤ sizeLine ∧ Φ (.str (s ++ t))) Z) Z) : EW X W ρ (.BinOp a .Add b pos) Φ Z := fun H0 σ Hb H R z =>
  WE.of (pe_op op_add_str pe_w pe_w) (h.run R z fun x v Hb1 H1 f1 R1 s1 a1 z1 => f1.run R1 z1 fun y u Hb2 H2 f2 R2 s2 a2 _ => by
    obtain ⟨s, t, rfl, rfl, hl, f2⟩ := f2
    cases a1
    cases a2
    exact ⟨s, t, rfl, rfl, hl, endE f2 R2 (s1.trans s2) (.str _)⟩)
theorem ew_ixS (h : EW X W ρ a (fun x => EW X W ρ b (fun y => ∃ s i c, x = .str s ∧ y = .int i ∧ s.length ≤ sizeLine ∧ L2.atI s.cps.toList i = some c ∧ Φ (.str ⟨#[c]⟩)) Z) Z) (hs : PlainIx b := by exact fun _ _ => rfl) : EW X W ρ (.Subscript a b pos) Φ Z := fun H0 σ Hb H R z =>
  WE.of (pe_ix ix_str pe_w pe_w hs) (h.run R z fun x v Hb1 H1 f1 R1 s1 a1 z1 => f1.run R1 z1 fun y u Hb2 H2 f2 R2 s2 a2 _ => by
    obtain ⟨s, i, c, rfl, rfl, hl, hc, f2⟩ := f2
    cases a1
    cases a2
    exact ⟨s, i, c, rfl, rfl, hl, hc, endE f2 R2 (s1.trans s2) (.str _)⟩)
theorem ew_sliceS {lo hi : Option Expr} {p2 : Pos} (h : EW X W ρ a (fun x => ∃ s, x = .str s ∧ s.length ≤ sizeLine ∧ OW X W ρ lo (fun l => OW X W ρ hi (fun u => Φ (.str (cutS s l u))) Z) Z) Z) : EW X W ρ (.Subscript a (.Slice lo hi none p2) pos) Φ Z := fun H0 σ Hb H R z =>
  WE.of (pe_slice sl_str pe_w po_w po_w) (h.run R z fun x v Hb1 H1 f1 R1 s1 a1 z1 => by
    obtain ⟨s, rfl, hl, f1⟩ := f1
    cases a1
    exact f1.run R1 z1 fun l Hb2 H2 f2 R2 s2 z2 => f2.run R2 z2 fun u Hb3 H3 f3 R3 s3 _ => ⟨s, rfl, hl, endE f3 R3 ((s1.trans s2).trans s3) (.str _)⟩)
theorem ew_inSign (h : EW X W ρ a (fun x => EW X W ρ b (fun y => ∃ c s, x = .str ⟨#[c]⟩ ∧ y = .str s ∧ Φ (.bl (decide (c ∈ s.cps.toList)))) Z) Z) (hk : behindInMarks .In b = false := by rfl) : EW X W ρ (.Compare a [.In] [b] pos) Φ Z := fun H0 σ Hb H R z =>
  WE.of (pe_cmpR op_in_sign pe_w pe_w hk) (h.run R z fun x v Hb1 H1 f1 R1 s1 a1 z1 => f1.run R1 z1 fun y u Hb2 H2 f2 R2 s2 a2 _ => by
    obtain ⟨c, s, rfl, rfl, f2⟩ := f2
    cases a1
    cases a2
    exact ⟨c, s, rfl, rfl, endE f2 R2 (s1.trans s2) (.bl _)⟩)
theorem ew_lenS (C : Ctx X W N sc k) (hm : X.mg "len" = none) (h : EW X W ρ e (fun d => ∃ s, d = .str s ∧ s.length ≤ sizeLine ∧ Φ (.int s.length)) Z) (hg : GlN sc "len" := by rfl) (he : starEach [e] X.env = (false, eval e X.env) :: starEach [] X.env := by exact star_nst rfl) : EW X W ρ (.Call (.Name "len" p) [e] [] pos) Φ Z :=
  ew_cB C call_len_str hg hm PySem.boot_len (aw_cons (h.mono fun d f => aw_nil fun H0 ρ σ Hb H vs R A Q kq => by
    obtain ⟨s, rfl, hl, f⟩ := f
    cases A with
    | cons a1 A =>
      cases A
      cases a1
      exact ⟨s, rfl, hl, kq _ _ (endE f R Gr.refl (.int _))⟩) he) (by decide) (by decide) he rfl
theorem ew_strI (C : Ctx X W N sc k) (hm : X.mg "str" = none) (h : EW X W ρ e (fun d => ∃ i, d = .int i ∧ i.natAbs.log2 < 1920 ∧ Φ (.str (numS i))) Z) (hg : GlN sc "str" := by rfl) (he : starEach [e] X.env = (false, eval e X.env) :: starEach [] X.env := by exact star_nst rfl) : EW X W ρ (.Call (.Name "str" p) [e] [] pos) Φ Z :=
  ew_cT C call_str_int hg hm PyProof.Rows.boot_str (aw_cons (h.mono fun d f => aw_nil fun H0 ρ σ Hb H vs R A Q kq => by
    obtain ⟨i, rfl, hl, f⟩ := f
    cases A with
    | cons a1 A =>
      cases A
      cases a1
      exact ⟨i, rfl, hl, kq _ _ (endE f R Gr.refl (.str _))⟩) he) (by decide) (by decide) he rfl
theorem ew_intS (C : Ctx X W N sc k) (hm : X.mg "int" = none) (h : EW X W ρ e (fun d => ∃ s n, d = .str s ∧ PySem.intText? s = some n ∧ s.length ≤ 640 ∧ Φ (.int n)) Z) (hg : GlN sc "int" := by rfl) (he : starEach [e] X.env = (false, eval e X.env) :: starEach [] X.env := by exact star_nst rfl) : EW X W ρ (.Call (.Name "int" p) [e] [] pos) Φ Z :=
  ew_cT C call_int_str hg hm PyProof.Rows.boot_int (aw_cons (h.mono fun d f => aw_nil fun H0 ρ σ Hb H vs R A Q kq => by
    obtain ⟨s, n, rfl, h1, h2, f⟩ := f
    cases A with
    | cons a1 A =>
      cases A
      cases a1
      exact ⟨s, n, rfl, h1, h2, kq _ _ (endE f R Gr.refl (.int _))⟩) he) (by decide) (by decide) he rfl
theorem ew_orS (h : EW X W ρ a (fun x => ∃ s, x = .str s ∧ s.length ≤ sizeLine ∧ (s.length ≠ 0 → Φ (.str s)) ∧ (s.length = 0 → EW X W ρ (.BoolOp .Or (b :: rest) pos) Φ Z)) Z) : EW X W ρ (.BoolOp .Or (a :: b :: rest) pos) Φ Z := fun H0 σ Hb H R z =>
  WE.of (pe_orT pe_w pe_w) (h.run R z fun x v Hb1 H1 f1 R1 s1 a1 z1 => by
    obtain ⟨s, rfl, hl, yes, no⟩ := f1
    cases a1
    refine ⟨_, ⟨hl, rfl⟩, ?_⟩
    by_cases e : s.length = 0
    · rw [if_neg (by simp [e])]
      exact (no e).run R1 z1 fun d v Hb2 H2 f2 R2 s2 a2 _ => ⟨d, Hb2, f2, R2, s1.trans s2, a2⟩
    · rw [if_pos (by simpa using e)]
      exact endE (yes e) R1 s1 (.str _))
/-- e.join(list) -/
theorem ew_joinS (h : EW X W ρ o (fun x => ∃ s, x = .str s ∧ ES X W ρ e (fun _ ds => ∃ ys : List Str, ds = ys.map D.str ∧ (ys.map (·.length)).sum + ys.length * s.length ≤ 16777216 ∧ Φ (.str (Txt.join s ys))) Z) Z)
    (hs : starEach [e] X.env = [(false, eval e X.env)] := by rfl) (hbase : attributeBase o "join" X.env (eval o X.env) = eval o X.env := by rfl) (hline : (apos.endLine == pos.line) = true := by rfl) : EW X W ρ (.Call (.Attribute o "join" apos) [e] [] pos) Φ Z := fun H0 σ Hb H R z =>
  WE.of (pe_join pe_w pe_w hs hbase hline) (h.run R z fun x v Hb1 H1 f1 R1 s1 a1 z1 => by
    obtain ⟨s, rfl, f1⟩ := f1
    cases a1
    exact ⟨⟨s, rfl⟩, f1.run R1 z1 fun t ds a xs Hb2 H2 f2 R2 s2 q2 A2 T2 _ => by
      obtain ⟨ys, rfl, hl, f2⟩ := f2
      have ex := A2.strs
      subst ex
      exact ⟨s, a, ys, rfl, rfl, q2.or, hl, endE f2 R2 (s1.trans s2) (.str _)⟩⟩)
theorem en_split {Φ : List D → Prop} (h : EW X W ρ o (fun x => ∃ s, x = .str s ∧ EW X W ρ e (fun y => ∃ t, y = .str t ∧ (t.length == 0) = false ∧ s.length + 2 ≤ sizeLine ∧ Φ ((Txt.split s t).map D.str)) Z) Z)
    (hs : starEach [e] X.env = [(false, eval e X.env)] := by rfl) (hbase : attributeBase o "split" X.env (eval o X.env) = eval o X.env := by rfl) (hline : (apos.endLine == pos.line) = true := by rfl) : EN X W ρ (.Call (.Attribute o "split" apos) [e] [] pos) Φ Z := fun H0 σ Hb H R z =>
  WE.of (pe_split pe_w pe_w hs hbase hline) (h.run R z fun x v Hb1 H1 f1 R1 s1 a1 z1 => by
    obtain ⟨s, rfl, f1⟩ := f1
    cases a1
    exact ⟨⟨s, rfl⟩, f1.run R1 z1 fun y u Hb2 H2 f2 R2 s2 a2 _ => by
      obtain ⟨t, rfl, h1, h2, f2⟩ := f2
      cases a2
      exact ⟨s, t, rfl, rfl, h1, h2, fun q hq => endLst f2 R2 (s1.trans s2) hq (at_strs _)⟩⟩)
/-- the signs of a text -/
theorem iw_str {Φ : List D → Prop} (h : EW X W ρ iter (fun d => ∃ s, d = .str s ∧ Φ (s.cps.toList.map fun c => D.str ⟨#[c]⟩)) Z) : IW X W ρ tg iter Φ Z := fun H0 σ Hb H R z =>
  WI.of (pi_str pe_w) (h.run R z fun d v Hb1 H1 f1 R1 s1 a1 z1 => by
    obtain ⟨s, rfl, f1⟩ := f1
    cases a1
    refine ⟨s, rfl, _, Hb1, f1, R1, s1, ?_⟩
    have w := walk_str (z := s)
    have hl : (s.cps.toList.map fun c => D.str ⟨#[c]⟩).length = s.cps.size := by rw [List.length_map, Array.length_toList]
    refine ⟨fun i H hi _ => w.goes i H (by rw [← hl]; exact hi) trivial, fun H _ => by rw [hl]; exact w.stops H trivial, fun i d H x H' hd _ y H0 ρ σ Hb R sb => ?_⟩
    obtain ⟨rfl, c, hc, rfl⟩ := w.yields i H x H' (by rw [← hl]; exact (List.getElem?_eq_some_iff.mp hd).1) trivial y
    rw [List.getElem?_map, Array.getElem?_toList, hc] at hd
    cases hd
    exact ⟨Hb, R, Gr.refl, .str _⟩)
/-- a list of texts: the place of a text -/
theorem eqV_str (x y : Str) : eqV (V.str x) (V.str y) = true ↔ x = y := by simp [eqV]
theorem ew_lindex (h : ES X W ρ o (fun t ds => t = false ∧ ∃ ys : List Str, ds = ys.map D.str ∧ EW X W ρ e (fun y => ∃ (w : Str) (j : Nat), y = .str w ∧ ys[j]? = some w ∧ (∀ m, m < j → ys[m]? ≠ some w) ∧ Φ (.int (j : Nat))) Z) Z)
    (hbase : attributeBase o "index" X.env (eval o X.env) = eval o X.env := by rfl)
    (hfew : ((backTo pos (starEach [e] X.env)).all (fun x => !x.1) && (backToKw pos (keywordEach [] X.env)).all (fun x => x.1.isSome) && decide ([e].length + ([] : List Keyword).length + (if ([] : List Keyword).isEmpty then 0 else 1) < 30)) = true := by rfl)
    (hline : (apos.endLine == pos.line) = true := by rfl) (hs : starEach [e] X.env = (false, eval e X.env) :: starEach [] X.env := by exact star_nst rfl) : EW X W ρ (.Call (.Attribute o "index" apos) [e] [] pos) Φ Z := fun H0 σ Hb H R z =>
  WE.of (pe_bm PySem.F.plainAttrs_list PySem.F.slot_list_index PySem.F.type_list_index mt_index pe_w (pa_cons pe_w pa_nil hs) hbase hfew hline hs) (h.run R z fun t ds a xs Hb1 H1 f1 R1 s1 q1 A1 T1 z1 => by
    obtain ⟨rfl, ys, rfl, f1⟩ := f1
    have ex := A1.strs
    subst ex
    exact ⟨.inl ⟨rfl, _, q1.l⟩, f1.run R1 z1 fun y u Hb2 H2 f2 R2 s2 a2 _ => by
      obtain ⟨w, j, rfl, h1, h2, f2⟩ := f2
      cases a2
      refine ⟨a, ys.map V.str, V.str w, j, V.str w, rfl, rfl, .inl (q1.mono s2.h), rfl, ?_, by rw [List.getElem?_map, h1]; rfl, (eqV_str _ _).mpr rfl, fun m z' hm hz => ?_, endE f2 R2 (s1.trans s2) (.int _)⟩
      · exact List.all_eq_true.mpr fun v hv => by obtain ⟨_, _, rfl⟩ := List.mem_map.mp hv; rfl
      · rw [List.getElem?_map] at hz
        cases e : ys[m]? with
        | none => rw [e] at hz; cases hz
        | some x =>
          rw [e] at hz
          cases hz
          cases q : eqV (V.str x) (V.str w) with
          | false => rfl
          | true => exact absurd (by rw [e, (eqV_str _ _).mp q]) (h2 m hm)⟩)
end
end DL
set_option pp.maxSteps 900
/-! EB: a tuple turned about by a slice -/
namespace DL
open PySem PySem.Spec PyProof.Rows L2
section
variable {prog : Program} {w : World} {A : Around} {E : Value → Shared → Prop} {s : Shared}
theorem adjust_rev (n : Nat) : Builtin.Slice.sliceAdjust none none (-1) (n : Int) = ((n : Int) - 1, -1) := by
  unfold Builtin.Slice.sliceAdjust
  simp
theorem places_rev (n : Nat) : Builtin.Slice.slicePlaces ((n : Int) - 1) (-1) (-1) = n := by
  unfold Builtin.Slice.slicePlaces
  simp
  omega
theorem applied_rev {sl : Addr} {vs : Value} {n : Nat} {Q : Int × Int × Nat → Shared → Prop} (hs : s.heap.IsSliceOf sl .none .none vs) (ps : IsPart vs (some (-1))) (h : Q ((n : Int) - 1, -1, n) s) : wpAny (model prog w) A (Builtin.Slice.sliceApplied (.ref sl) (pure (n : Int))) Q E s := by
  obtain ⟨os, hos, _, hds⟩ := id hs
  unfold Builtin.Slice.sliceApplied Builtin.Slice.sliceFields
  refine wpAny_bind (wpAny_bind (wpAny_field hos hds (x := .none) rfl (wpAny_bind (wpAny_field hos hds (x := .none) rfl (wpAny_bind (wpAny_field hos hds (x := vs) rfl (wpAny_pure ?_)))))))
  refine wpAny_bind (HT.slicePart_ ps ?_)
  show wpAny _ _ (if ((-1 : Int) == 0) = true then _ else _) _ _ s
  rw [if_neg (by decide)]
  refine wpAny_bind (HT.slicePart_ .none (wpAny_bind (HT.slicePart_ .none (wpAny_bind (wpAny_pure ?_)))))
  show wpAny _ _ (match Builtin.Slice.sliceAdjust none none (-1) (n : Int) with | (lo, hi) => pure (lo, (-1 : Int), Builtin.Slice.slicePlaces lo hi (-1))) _ _ s
  rw [adjust_rev n]
  show wpAny _ _ (pure ((n : Int) - 1, (-1 : Int), Builtin.Slice.slicePlaces ((n : Int) - 1) (-1) (-1))) _ _ s
  rw [places_rev]
  exact wpAny_pure h
theorem fm_congr {α β : Type} {f g : α → Option β} : ∀ {l : List α}, (∀ x ∈ l, f x = g x) → l.filterMap f = l.filterMap g
  | [], _ => rfl
  | a :: l, h => by
    rw [List.filterMap_cons, List.filterMap_cons, h a List.mem_cons_self, fm_congr fun x hx => h x (List.mem_cons_of_mem _ hx)]
theorem pick_rev (xs : Array Value) : ((List.range xs.size).filterMap fun (m : Nat) => xs[(((xs.size : Nat) : Int) - 1 + (m : Int) * (-1)).toNat]?).toArray = xs.toList.reverse.toArray := by
  congr 1
  have e : (List.range xs.size).filterMap (fun (m : Nat) => xs[(((xs.size : Nat) : Int) - 1 + (m : Int) * (-1)).toNat]?) = ((List.range xs.size).map fun k => xs.size - 1 - k).filterMap (xs[·]?) := by
    rw [List.filterMap_map]
    refine fm_congr fun m hm => ?_
    have hm := List.mem_range.mp hm
    show xs[(((xs.size : Nat) : Int) - 1 + (m : Int) * (-1)).toNat]? = xs[xs.size - 1 - m]?
    congr 1
    omega
  rw [e, PySem.W.krv_range, List.filterMap_reverse, PySem.W.krv_all]
theorem getItem_tuple_rev {t sl : Addr} {items : Array Value} {vs : Value} {Q : Value → Shared → Prop} (ht : IsTup s.heap t items) (hs : s.heap.IsSliceOf sl .none .none vs) (ps : IsPart vs (some (-1)))
    (h : Q (.ref s.heap.objs.size) { s with heap := s.heap.push { cls := .type "tuple", data := .seq items.toList.reverse.toArray } }) (hsz : items.size ≤ sizeLine) : wpAny (model prog w) A (getItem (.ref t) (.ref sl)) Q E s := by
  have htake : sizeOk (.seq items.toList.reverse.toArray) := by
    show items.toList.reverse.toArray.size ≤ sizeLine
    rw [List.size_toArray, List.length_reverse, Array.length_toList]
    exact hsz
  obtain ⟨os, hos, hcs, hds⟩ := id hs
  have hT : s.TypeIs (.ref sl) "slice" := ⟨os, hos, hcs⟩
  unfold getItem
  try with_reducible refine wpAny_holding ?_
  first | refine wpAny_bind (wpAny_pure ?_) | skip
  refine wpAny_bind (wpAny_sequenceKey ht.typeIs (by decide) ?_)
  refine wpAny_bind (wpAny_callSpecial?_slot (name := Str.ofString "__getitem__") ht.typeIs slot_tuple_getitem (wpAny_call_entry slot_tuple_getitem ht.typeIs PyProof.Rows.entry_tuple_getitem ?_ (PyProof.Rows.args_tuple_getitem _ _)))
  show wpAny _ _ (Builtin.Tuple.tupleItemsOf (.ref t) >>= _) _ _ s
  refine wpAny_bind (tupleItemsOf_ ht ?_)
  refine wpAny_bind (wpAny_typeOf hT ?_)
  rw [if_pos (by decide)]
  refine wpAny_bind (applied_rev hs ps ?_)
  have hno : ¬ ((((items.size : Int) - 1) == 0 && (-1 : Int) == 1 && items.size == items.size) = true) := by simp
  show wpAny _ _ (if (((items.size : Int) - 1) == 0 && (-1 : Int) == 1 && items.size == items.size) = true then _ else _) _ _ s
  rw [if_neg hno, pick_rev]
  first
    | exact wpAny_bind (m := Builtin.Tuple.tupleExact _) (wpAny_newObj_type (wpAny_pure ⟨_, rfl, wpAny_pure h⟩) htake)
    | exact wpAny_bind (wpAny_newObj_type (wpAny_bind (wpAny_pure (wpAny_pure ⟨_, rfl, wpAny_pure h⟩))) htake)
    | exact wpAny_bind (wpAny_bind (wpAny_newObj_type (wpAny_pure (wpAny_pure ⟨_, rfl, wpAny_pure h⟩)) htake))
    | exact wpAny_bind (wpAny_bind (wpAny_newObj_type (wpAny_pure ⟨_, rfl, wpAny_pure h⟩) htake))
end
section
variable {X : Cx} {W : WX} {ρ : List Sl} {Z : DZ} {a e : Expr} {te : TE} {k : Nat} {p1 p2 p3 pos : Pos} {Φ : D → Prop}
def tRevT (K : PySem.W.Frag) (te : TE) : TE := fun σ H Q => te σ H fun x H1 => ∃ a xs, x = .ref a ∧ SqT K H1 a xs ∧ NewT H1 xs.reverse Q
theorem pe_revT (he : PE X e te) : PE X (.Subscript e (.Slice none none (some (.UnaryOp .USub (.Constant (.int 1) k p1) p2)) p3) pos) (tRevT X.K te) := by
  refine ⟨fun pins s σ H Q I h => Subscript_ (thn (he.run pins s σ H _ I h) fun v s1 ⟨x, H1, I1, r1, q1⟩ => ?_)⟩
  obtain ⟨a, xs, rfl, hx, q⟩ := q1
  cases r1
  have step : PO X (some (.UnaryOp .USub (.Constant (.int 1) k p1) p2)) (tPart (tUn (rU fun i => .int (-i)) (tC (.int 1)))) := po_some (pe_un un_neg pe_int)
  refine wpAny_Slice (thn (po_none.run pins s1 σ H1 (fun o H2 => o = none ∧ H2 = H1) I1 ⟨rfl, rfl⟩) fun vl s2 ⟨l, H2, I2, pl, z1, z2⟩ => ?_)
  subst z1 z2
  refine thn (po_none.run pins s2 σ H2 (fun o H3 => o = none ∧ H3 = H2) I2 ⟨rfl, rfl⟩) fun vu s3 ⟨u, H3, I3, pu, z1, z2⟩ => ?_
  subst z1 z2
  refine thn (step.run pins s3 σ H3 (fun o H4 => o = some (-1) ∧ H4 = H3) I3 ⟨1, rfl, -1, rfl, rfl, rfl⟩) fun vs s4 ⟨o, H4, I4, ps, z1, z2⟩ => ?_
  subst z1 z2
  cases pl
  cases pu
  have I5 : Inv X pins σ H4 { s4 with heap := s4.heap.push { cls := .type "slice", data := .fields #[.none, .none, vs] } } := I4.kept (t' := s4.toks) fun _ _ y => Heap.get?_push_of_some _ y
  obtain ⟨its, r, ht, hz⟩ := I5.tuple hx
  have hlen := r.length
  show wpAny (model X.prog X.w) X.A (subscriptTail e (.Slice none none (some (.UnaryOp .USub (.Constant (.int 1) k p1) p2)) p3) (.ref a) (.ref s4.heap.objs.size)) _ X.xe { s4 with heap := s4.heap.push { cls := .type "slice", data := .fields #[.none, .none, vs] } }
  refine tail_any (ops := [.ref a, .ref s4.heap.objs.size]) ht.typeIs PyProof.Rows.slot_tuple_getitem.lookup ?_ (by with_unfolding_all rfl)
  refine getItem_tuple_rev ht (Heap.IsSliceOf.new _ .none .none vs) ps ?_ (by rw [List.size_toArray]; omega)
  exact newT_end (tk := s4.toks) I5 r.reverse (by rw [List.length_reverse]; exact hz) q
theorem ew_revT (h : EW X W ρ a (fun d => ∃ ds, d = .tup ds ∧ Φ (.tup ds.reverse)) Z) : EW X W ρ (.Subscript a (.Slice none none (some (.UnaryOp .USub (.Constant (.int 1) k p1) p2)) p3) pos) Φ Z := fun H0 σ Hb H R z =>
  WE.of (pe_revT pe_w) (h.run R z fun d v Hb1 H1 f1 R1 s1 a1 z1 => by
    obtain ⟨ds, rfl, f1⟩ := f1
    cases a1 with
    | tup q A => exact ⟨_, _, rfl, same_seqT R1.b1 q.1, fun l ob hl hd => endTup f1 R1 s1 hl hd A.rev⟩)
end
end DL
namespace DL
open PySem PySem.Spec PyProof.Rows L2
def topS (i : Nat) : Stmt := PySem.Challenge.pw_loosemarks_k06_papers.main.body.getD i (.Pass ⟨0, 0, 0, 0⟩)
abbrev s_is_place : Stmt := topS 11
abbrev N_is_place : List Str := ["thing"]
theorem sc_is_place : FnScope N_is_place ["thing"] (defScope s_is_place) := ⟨rfl, rfl, rfl, by decide +kernel, rfl, by decide +kernel, by decide +kernel⟩
abbrev s_gaps : Stmt := topS 12
abbrev N_gaps : List Str := ["pile", "at"]
theorem sc_gaps : FnScope N_gaps ["pile"] (defScope s_gaps) := ⟨rfl, rfl, rfl, by decide +kernel, rfl, by decide +kernel, by decide +kernel⟩
abbrev s_is_pile : Stmt := topS 13
abbrev N_is_pile : List Str := ["thing", "one", "gap"]
theorem sc_is_pile : FnScope N_is_pile ["thing"] (defScope s_is_pile) := ⟨rfl, rfl, rfl, by decide +kernel, rfl, by decide +kernel, by decide +kernel⟩
abbrev s_is_row : Stmt := topS 14
abbrev N_is_row : List Str := ["thing", "gap"]
theorem sc_is_row : FnScope N_is_row ["thing"] (defScope s_is_row) := ⟨rfl, rfl, rfl, by decide +kernel, rfl, by decide +kernel, by decide +kernel⟩
abbrev s_need_pile : Stmt := topS 15
abbrev N_need_pile : List Str := ["thing"]
theorem sc_need_pile : FnScope N_need_pile ["thing"] (defScope s_need_pile) := ⟨rfl, rfl, rfl, by decide +kernel, rfl, by decide +kernel, by decide +kernel⟩
abbrev s_Move___init__ : Stmt := inClass (topS 17) 0
abbrev N_Move___init__ : List Str := ["self", "place"]
theorem sc_Move___init__ : FnScope N_Move___init__ ["self", "place"] (defScope s_Move___init__) := ⟨rfl, rfl, rfl, by decide +kernel, rfl, by decide +kernel, by decide +kernel⟩
abbrev s_Move_going : Stmt := inClass (topS 17) 1
abbrev N_Move_going : List Str := ["self"]
theorem sc_Move_going : FnScope N_Move_going ["self"] (defScope s_Move_going) := ⟨rfl, rfl, rfl, by decide +kernel, rfl, by decide +kernel, by decide +kernel⟩
abbrev s_Move_coming : Stmt := inClass (topS 17) 2
abbrev N_Move_coming : List Str := ["self"]
theorem sc_Move_coming : FnScope N_Move_coming ["self"] (defScope s_Move_coming) := ⟨rfl, rfl, rfl, by decide +kernel, rfl, by decide +kernel, by decide +kernel⟩
abbrev s_Move_can_be : Stmt := inClass (topS 17) 3
abbrev N_Move_can_be : List Str := ["self", "pile", "one"]
theorem sc_Move_can_be : FnScope N_Move_can_be ["self", "pile"] (defScope s_Move_can_be) := ⟨rfl, rfl, rfl, by decide +kernel, rfl, by decide +kernel, by decide +kernel⟩
abbrev s_Move_after : Stmt := inClass (topS 17) 4
abbrev N_Move_after : List Str := ["self", "pile", "left", "one"]
theorem sc_Move_after : FnScope N_Move_after ["self", "pile"] (defScope s_Move_after) := ⟨rfl, rfl, rfl, by decide +kernel, rfl, by decide +kernel, by decide +kernel⟩
abbrev s_Join_going : Stmt := inClass (topS 18) 0
abbrev N_Join_going : List Str := ["self"]
theorem sc_Join_going : FnScope N_Join_going ["self"] (defScope s_Join_going) := ⟨rfl, rfl, rfl, by decide +kernel, rfl, by decide +kernel, by decide +kernel⟩
abbrev s_Join_coming : Stmt := inClass (topS 18) 1
abbrev N_Join_coming : List Str := ["self"]
theorem sc_Join_coming : FnScope N_Join_coming ["self"] (defScope s_Join_coming) := ⟨rfl, rfl, rfl, by decide +kernel, rfl, by decide +kernel, by decide +kernel⟩
abbrev s_Part_going : Stmt := inClass (topS 19) 0
abbrev N_Part_going : List Str := ["self"]
theorem sc_Part_going : FnScope N_Part_going ["self"] (defScope s_Part_going) := ⟨rfl, rfl, rfl, by decide +kernel, rfl, by decide +kernel, by decide +kernel⟩
abbrev s_Part_coming : Stmt := inClass (topS 19) 1
abbrev N_Part_coming : List Str := ["self"]
theorem sc_Part_coming : FnScope N_Part_coming ["self"] (defScope s_Part_coming) := ⟨rfl, rfl, rfl, by decide +kernel, rfl, by decide +kernel, by decide +kernel⟩
abbrev s_move_of : Stmt := topS 20
abbrev N_move_of : List Str := ["thing"]
theorem sc_move_of : FnScope N_move_of ["thing"] (defScope s_move_of) := ⟨rfl, rfl, rfl, by decide +kernel, rfl, by decide +kernel, by decide +kernel⟩
abbrev s_moves_of : Stmt := topS 21
abbrev N_moves_of : List Str := ["pile", "counts", "place", "found", "many"]
theorem sc_moves_of : FnScope N_moves_of ["pile"] (defScope s_moves_of) := ⟨rfl, rfl, rfl, by decide +kernel, rfl, by decide +kernel, by decide +kernel⟩
abbrev s_done : Stmt := topS 22
abbrev N_done : List Str := ["pile", "move", "made"]
theorem sc_done : FnScope N_done ["pile", "move"] (defScope s_done) := ⟨rfl, rfl, rfl, by decide +kernel, rfl, by decide +kernel, by decide +kernel⟩
abbrev s_weight_at : Stmt := topS 23
abbrev N_weight_at : List Str := ["place"]
theorem sc_weight_at : FnScope N_weight_at ["place"] (defScope s_weight_at) := ⟨rfl, rfl, rfl, by decide +kernel, rfl, by decide +kernel, by decide +kernel⟩
abbrev s_weight : Stmt := topS 24
abbrev N_weight : List Str := ["pile", "place"]
theorem sc_weight : FnScope N_weight ["pile"] (defScope s_weight) := ⟨rfl, rfl, rfl, by decide +kernel, rfl, by decide +kernel, by decide +kernel⟩
abbrev s_walked : Stmt := topS 26
abbrev N_walked : List Str := ["pile", "paper", "at", "move"]
theorem sc_walked : FnScope N_walked ["pile", "paper"] (defScope s_walked) := ⟨rfl, rfl, rfl, by decide +kernel, rfl, by decide +kernel, by decide +kernel⟩
abbrev s_fails_at : Stmt := topS 27
abbrev N_fails_at : List Str := ["pile", "paper", "many"]
theorem sc_fails_at : FnScope N_fails_at ["pile", "paper"] (defScope s_fails_at) := ⟨rfl, rfl, rfl, by decide +kernel, rfl, by decide +kernel, by decide +kernel⟩
abbrev s_is_right : Stmt := topS 28
abbrev N_is_right : List Str := ["pile", "paper", "row", "many", "end"]
theorem sc_is_right : FnScope N_is_right ["pile", "paper", "row"] (defScope s_is_right) := ⟨rfl, rfl, rfl, by decide +kernel, rfl, by decide +kernel, by decide +kernel⟩
abbrev s_first_of : Stmt := topS 30
abbrev N_first_of : List Str := ["moves"]
theorem sc_first_of : FnScope N_first_of ["moves"] (defScope s_first_of) := ⟨rfl, rfl, rfl, by decide +kernel, rfl, by decide +kernel, by decide +kernel⟩
abbrev s_gone_on : Stmt := topS 31
abbrev N_gone_on : List Str := ["pile", "pick", "choose", "paper", "moves", "move"]
theorem sc_gone_on : FnScope N_gone_on ["pile", "pick"] (defScope s_gone_on) := ⟨rfl, rfl, rfl, by decide +kernel, rfl, by decide +kernel, by decide +kernel⟩
abbrev s_paper_of : Stmt := topS 32
abbrev N_paper_of : List Str := ["pile", "pick"]
theorem sc_paper_of : FnScope N_paper_of ["pile", "pick"] (defScope s_paper_of) := ⟨rfl, rfl, rfl, by decide +kernel, rfl, by decide +kernel, by decide +kernel⟩
abbrev s_put_in : Stmt := topS 33
abbrev N_put_in : List Str := ["marks", "place", "waiting", "at"]
theorem sc_put_in : FnScope N_put_in ["marks", "place"] (defScope s_put_in) := ⟨rfl, rfl, rfl, by decide +kernel, rfl, by decide +kernel, by decide +kernel⟩
abbrev s_settled : Stmt := topS 34
abbrev N_settled : List Str := ["pile", "pick", "marks", "place"]
theorem sc_settled : FnScope N_settled ["pile", "pick"] (defScope s_settled) := ⟨rfl, rfl, rfl, by decide +kernel, rfl, by decide +kernel, by decide +kernel⟩
abbrev s__law_mix : Stmt := topS 36
abbrev N__law_mix : List Str := ["_law_cell", "_law_k", "_law_made"]
theorem sc__law_mix : FnScope N__law_mix ["_law_cell", "_law_k"] (defScope s__law_mix) := ⟨rfl, rfl, rfl, by decide +kernel, rfl, by decide +kernel, by decide +kernel⟩
abbrev s__law_worths : Stmt := topS 37
abbrev N__law_worths : List Str := ["_law_found"]
theorem sc__law_worths : FnScope N__law_worths [] (defScope s__law_worths) := ⟨rfl, rfl, rfl, by decide +kernel, rfl, by decide +kernel, by decide +kernel⟩
abbrev s__law_row : Stmt := topS 38
abbrev N__law_row : List Str := ["_law_number", "_law_found", "_law_each", "_law_place_here"]
theorem sc__law_row : FnScope N__law_row ["_law_number"] (defScope s__law_row) := ⟨rfl, rfl, rfl, by decide +kernel, rfl, by decide +kernel, by decide +kernel⟩
abbrev s__law_worth : Stmt := topS 39
abbrev N__law_worth : List Str := ["_law_pile_here", "_law_each", "_law_place_here"]
theorem sc__law_worth : FnScope N__law_worth ["_law_pile_here"] (defScope s__law_worth) := ⟨rfl, rfl, rfl, by decide +kernel, rfl, by decide +kernel, by decide +kernel⟩
abbrev s__law_place : Stmt := topS 40
abbrev N__law_place : List Str := ["_law_number", "_law_rest"]
theorem sc__law_place : FnScope N__law_place ["_law_number"] (defScope s__law_place) := ⟨rfl, rfl, rfl, by decide +kernel, rfl, by decide +kernel, by decide +kernel⟩
abbrev s__law_pile : Stmt := topS 41
abbrev N__law_pile : List Str := ["_law_script", "_law_first", "_law_most", "_law_some", "_law_k", "_law_cell"]
theorem sc__law_pile : FnScope N__law_pile ["_law_script", "_law_first", "_law_most"] (defScope s__law_pile) := ⟨rfl, rfl, rfl, by decide +kernel, rfl, by decide +kernel, by decide +kernel⟩
abbrev s__law_parts : Stmt := topS 42
abbrev N__law_parts : List Str := ["_law_move", "_law_word_here", "_law_k"]
theorem sc__law_parts : FnScope N__law_parts ["_law_move"] (defScope s__law_parts) := ⟨rfl, rfl, rfl, by decide +kernel, rfl, by decide +kernel, by decide +kernel⟩
abbrev s__law_after : Stmt := topS 43
abbrev N__law_after : List Str := ["_law_pile_here", "_law_move", "_law_going", "_law_coming", "_law_left", "_law_place_here"]
theorem sc__law_after : FnScope N__law_after ["_law_pile_here", "_law_move"] (defScope s__law_after) := ⟨rfl, rfl, rfl, by decide +kernel, rfl, by decide +kernel, by decide +kernel⟩
abbrev s__law_moves : Stmt := topS 44
abbrev N__law_moves : List Str := ["_law_pile_here", "_law_joins", "_law_k"]
theorem sc__law_moves : FnScope N__law_moves ["_law_pile_here"] (defScope s__law_moves) := ⟨rfl, rfl, rfl, by decide +kernel, rfl, by decide +kernel, by decide +kernel⟩
abbrev s__law_word : Stmt := topS 45
abbrev N__law_word : List Str := ["_law_e", "_law_words", "_law_told", "_law_word_here", "_law_good"]
theorem sc__law_word : FnScope N__law_word ["_law_e"] (defScope s__law_word) := ⟨rfl, rfl, rfl, by decide +kernel, rfl, by decide +kernel, by decide +kernel⟩
abbrev s__law_tried : Stmt := topS 46
abbrev N__law_tried : List Str := ["_law_deed", "_law_things", "_law_told", "_law_caught", "_law_e"]
theorem sc__law_tried : FnScope N__law_tried ["_law_deed", "_law_things"] (defScope s__law_tried) := ⟨rfl, rfl, rfl, by decide +kernel, rfl, by decide +kernel, by decide +kernel⟩
abbrev s__law_pick : Stmt := topS 47
abbrev N__law_pick : List Str := ["_law_cells", "_law_state", "_law_pick_here"]
theorem sc__law_pick : FnScope N__law_pick ["_law_cells"] (defScope s__law_pick) := ⟨rfl, rfl, rfl, by decide +kernel, rfl, by decide +kernel, by decide +kernel⟩
abbrev si__law_pick : Stmt := (defBody s__law_pick).getD 1 (.Pass ⟨0, 0, 0, 0⟩)
abbrev Ni__law_pick : List Str := ["_law_moves_here", "_law_cells", "_law_state"]
theorem sci__law_pick : NdefX.NScope Ni__law_pick ["_law_moves_here"] ["_law_cells", "_law_state"] (defScope si__law_pick) := NdefX.nscope_by (by decide +kernel)
abbrev qi__law_pick : Str := "_law_pick.<locals>._law_pick_here"
abbrev ni__law_pick : Str := "_law_pick_here"
abbrev pi__law_pick : List Str := ["_law_moves_here"]
abbrev fi__law_pick : List Str := ["_law_cells", "_law_state"]
abbrev s__law_is_move : Stmt := topS 48
abbrev N__law_is_move : List Str := ["_law_thing"]
theorem sc__law_is_move : FnScope N__law_is_move ["_law_thing"] (defScope s__law_is_move) := ⟨rfl, rfl, rfl, by decide +kernel, rfl, by decide +kernel, by decide +kernel⟩
abbrev s__law_walked : Stmt := topS 49
abbrev N__law_walked : List Str := ["_law_pile_here", "_law_paper", "_law_at", "_law_move"]
theorem sc__law_walked : FnScope N__law_walked ["_law_pile_here", "_law_paper"] (defScope s__law_walked) := ⟨rfl, rfl, rfl, by decide +kernel, rfl, by decide +kernel, by decide +kernel⟩
abbrev s__law_spoilt : Stmt := topS 50
abbrev N__law_spoilt : List Str := ["_law_paper", "_law_number", "_law_at", "_law_odd", "_law_way"]
theorem sc__law_spoilt : FnScope N__law_spoilt ["_law_paper", "_law_number"] (defScope s__law_spoilt) := ⟨rfl, rfl, rfl, by decide +kernel, rfl, by decide +kernel, by decide +kernel⟩
abbrev s__law_judged : Stmt := topS 51
abbrev N__law_judged : List Str := ["_law_pile_here", "_law_paper", "_law_row_here", "_law_many", "_law_end", "_law_due", "_law_handed", "_law_found", "_law_told"]
theorem sc__law_judged : FnScope N__law_judged ["_law_pile_here", "_law_paper", "_law_row_here"] (defScope s__law_judged) := ⟨rfl, rfl, rfl, by decide +kernel, rfl, by decide +kernel, by decide +kernel⟩
abbrev s__law_by_firsts : Stmt := topS 52
abbrev N__law_by_firsts : List Str := ["_law_pile_here", "_law_found"]
theorem sc__law_by_firsts : FnScope N__law_by_firsts ["_law_pile_here"] (defScope s__law_by_firsts) := ⟨rfl, rfl, rfl, by decide +kernel, rfl, by decide +kernel, by decide +kernel⟩
abbrev s__law_clearing : Stmt := topS 53
abbrev N__law_clearing : List Str := ["_law_cells", "_law_choose", "_law_pick_here"]
theorem sc__law_clearing : FnScope N__law_clearing ["_law_cells"] (defScope s__law_clearing) := ⟨rfl, rfl, rfl, by decide +kernel, rfl, by decide +kernel, by decide +kernel⟩
abbrev si__law_clearing : Stmt := (defBody s__law_clearing).getD 1 (.Pass ⟨0, 0, 0, 0⟩)
abbrev Ni__law_clearing : List Str := ["_law_moves_here", "_law_choose", "_law_at"]
theorem sci__law_clearing : NdefX.NScope Ni__law_clearing ["_law_moves_here"] ["_law_choose"] (defScope si__law_clearing) := NdefX.nscope_by (by decide +kernel)
abbrev qi__law_clearing : Str := "_law_clearing.<locals>._law_pick_here"
abbrev ni__law_clearing : Str := "_law_pick_here"
abbrev pi__law_clearing : List Str := ["_law_moves_here"]
abbrev fi__law_clearing : List Str := ["_law_choose"]
abbrev s__law_right_of : Stmt := topS 54
abbrev N__law_right_of : List Str := ["_law_pile_here"]
theorem sc__law_right_of : FnScope N__law_right_of ["_law_pile_here"] (defScope s__law_right_of) := ⟨rfl, rfl, rfl, by decide +kernel, rfl, by decide +kernel, by decide +kernel⟩
abbrev s__law_too_great : Stmt := topS 55
abbrev N__law_too_great : List Str := ["_law_cells", "_law_pile_here"]
theorem sc__law_too_great : FnScope N__law_too_great ["_law_cells"] (defScope s__law_too_great) := ⟨rfl, rfl, rfl, by decide +kernel, rfl, by decide +kernel, by decide +kernel⟩
abbrev s_law : Stmt := topS 56
abbrev N_law : List Str := ["_law_script", "_law_pile_here", "_law_cells", "_law_paper", "_law_row_here", "_law_first", "_law_kept", "_law_k", "_law_cell", "_law_number", "_law_other", "_law_thing", "_law_place_here"]
theorem sc_law : FnScope N_law ["_law_script"] (defScope s_law) := ⟨rfl, rfl, rfl, by decide +kernel, rfl, by decide +kernel, by decide +kernel⟩
abbrev wordVar : Str := "_law_good"
end DL
/-! own lists that no name holds, tables of code objects: what stands apart from the known heap and changes in a call -/
namespace DL
open PySem PySem.Spec PyProof.Rows L2
abbrev GS := List (Addr × List D)
def remL (H : Hp) (l : List Addr) : Hp := fun b => if b ∈ l then none else H b
theorem remL_ne {H : Hp} {l : List Addr} {b : Addr} (h : b ∉ l) : remL H l b = H b := if_neg h
theorem remL_at {H : Hp} {l : List Addr} {b : Addr} (h : b ∈ l) : remL H l b = none := if_pos h
theorem remL_same {H : Hp} {l : List Addr} : Same (remL H l) H := fun b x e => by
  by_cases hb : b ∈ l
  · rw [remL_at hb] at e
    cases e
  · rwa [remL_ne hb] at e
theorem remL_nil {H : Hp} : remL H [] = H := funext fun b => remL_ne (fun h => by cases h)
theorem same_remL {H H' : Hp} {l : List Addr} (s : Same H H') (h : ∀ a ∈ l, H a = none) : Same H (remL H' l) := fun b x e => by
  have hb : b ∉ l := fun z => by rw [h b z] at e; cases e
  rw [remL_ne hb]
  exact s _ _ e
section
variable {K : PySem.W.Frag} {H0 : Ent} {ρ ρ' : List Sl} {σ : L2.St} {Hb H Hb' H' : Hp} {l : List Addr} {gs : GS}
theorem Rel.less {h' : Hp} (R : Rel K H0 ρ σ Hb H) (s : Same h' H0.h) : Rel K ⟨h', H0.b⟩ ρ σ Hb H :=
  ⟨L2.Same.trans s R.b0, R.bb, fun a n0 n1 => R.bn a n0 fun z => n1 (L2.Same.free s z), R.b1, R.dat, fun i q ds h => let ⟨a, xs, e, n, z, A, h0, hq⟩ := R.own i q ds h; ⟨a, xs, e, n, z, A, L2.Same.free s h0, hq⟩, R.sep, R.len, fun i P q h => let ⟨t, t1, t2⟩ := R.tb i P q h; ⟨t, t1, L2.Same.free s t2.1, fun b c q z => t2.2 b c q (s _ _ z)⟩⟩
/-- behind a call that may change what stands at l -/
theorem Rel.calledL (R : Rel K H0 ρ σ Hb H) (B : Back ⟨remL H l, Hb⟩ Hb' H') (h0 : ∀ a ∈ l, H0.h a = none) (hu : ∀ a ∈ l, ∃ u, H a = some u ∧ ∀ c q, u ≠ LamX.CodeO c q) (fr : ∀ (j : Nat) (q : Option Addr) (es : List D), ρ[j]? = some (Sl.ow q es) → ∀ a ∈ l, σ[j]? ≠ some (some (V.ref a)))
    (ht : ∀ (j : Nat) (P : Addr) (q : Str), ρ[j]? = some (Sl.tb P q) → P ∈ l → LamX.TabS H' P q ∧ Hb' P = none) : Rel K H0 ρ σ Hb' H' := by
  have up : ∀ {b x}, b ∉ l → H b = some x → H' b = some x := fun {b x} hb z => B.h b x (by show remL H l b = _; rw [remL_ne hb]; exact z)
  have nn : ∀ {b x}, b ∉ l → H b = some x → Hb b = none → Hb' b = none := fun {b x} hb z n => B.n b n (fun w => by have w : remL H l b = none := w; rw [remL_ne hb, z] at w; cases w)
  have nl : ∀ {b x}, H0.h b = some x → b ∉ l := fun {b x} e z => by rw [h0 b z] at e; cases e
  refine ⟨fun b x hb => up (nl hb) (R.b0 _ _ hb), R.bb.trans B.b, fun a n0 n1 => ?_, B.s, fun i d h => ?_, fun i qq ds h => ?_, R.sep, R.len, fun i P q h => ?_⟩
  · cases e : H0.h a with
    | none => exact absurd e n1
    | some x => exact nn (nl e) (R.b0 _ _ e) (R.bn a n0 n1)
  · obtain ⟨v, e, a⟩ := R.dat i d h
    exact ⟨v, e, a.mono B.b⟩
  · obtain ⟨a, xs, e, n, q, A, z⟩ := R.own i qq ds h
    have ha : a ∉ l := fun w => fr i qq ds h a w e
    exact ⟨a, xs, e, nn ha q n, up ha q, A.mono B.b, z⟩
  · obtain ⟨t, t1, t2⟩ := R.tb i P q h
    by_cases hp : P ∈ l
    · obtain ⟨w1, w2⟩ := ht i P q h hp
      exact ⟨w1, w2, t2⟩
    · obtain ⟨ps, e1, e2, e3⟩ := t
      refine ⟨⟨ps, up hp e1, e2, fun pos cv hc => ?_⟩, nn hp e1 t1, t2⟩
      obtain ⟨c, c1, c2⟩ := e3 pos cv hc
      refine ⟨c, c1, up (fun w => ?_) c2⟩
      obtain ⟨u, u1, u2⟩ := hu c w
      rw [c2] at u1
      exact u2 _ _ (Option.some.inj u1).symm
/-! ### own lists that no name holds -/
def gsl (gs : GS) : List Sl := gs.map fun g => Sl.ow (some g.1) g.2
def gsv (gs : GS) : L2.St := gs.map fun g => some (V.ref g.1)
abbrev gsa (gs : GS) : List Addr := gs.map Prod.fst
theorem gsl_get {j : Nat} {u : Sl} (h : (gsl gs)[j]? = some u) : ∃ g, gs[j]? = some g ∧ u = .ow (some g.1) g.2 := by
  unfold gsl at h
  rw [List.getElem?_map] at h
  cases e : gs[j]? with
  | none => rw [e] at h; cases h
  | some g => rw [e] at h; exact ⟨g, rfl, (Option.some.inj h).symm⟩
theorem app_get {α : Type} {a b : List α} {i : Nat} {u : α} (h : (a ++ b)[i]? = some u) : (i < a.length ∧ a[i]? = some u) ∨ (a.length ≤ i ∧ b[i - a.length]? = some u) := by
  by_cases hi : i < a.length
  · rw [List.getElem?_append_left hi] at h
    exact .inl ⟨hi, h⟩
  · rw [List.getElem?_append_right (by omega)] at h
    exact .inr ⟨by omega, h⟩
theorem gsv_get {j : Nat} {g : Addr × List D} (h : gs[j]? = some g) : (gsv gs)[j]? = some (some (V.ref g.1)) := by
  unfold gsv
  rw [List.getElem?_map, h]
  rfl
/-- they stand apart from what is at hand -/
def Fr (H0 : Ent) (ρ : List Sl) (σ : L2.St) (gs : GS) : Prop := ∀ g ∈ gs, H0.h g.1 = none ∧ ∀ (j : Nat) (q : Option Addr) (es : List D), ρ[j]? = some (Sl.ow q es) → σ[j]? ≠ some (some (V.ref g.1))
theorem Rel.ghost (R : Rel K H0 ρ σ Hb H) (G : Gh K Hb H gs) (fr : Fr H0 ρ σ gs) : Rel K H0 (ρ ++ gsl gs) (σ ++ gsv gs) Hb H := by
  have hl := R.len
  have lft : ∀ {i : Nat}, i < ρ.length → (σ ++ gsv gs)[i]? = σ[i]? := fun {i} hi => List.getElem?_append_left (by omega)
  have rgt : ∀ {i : Nat} {g}, ρ.length ≤ i → gs[i - ρ.length]? = some g → (σ ++ gsv gs)[i]? = some (some (V.ref g.1)) := fun {i g} hi e => by
    rw [List.getElem?_append_right (by omega), ← hl]
    exact gsv_get e
  refine ⟨R.b0, R.bb, R.bn, R.b1, fun i d h => ?_, fun i qq ds h => ?_, fun i j q1 q2 ds es a h1 h2 h3 h4 => ?_, by simp only [gsl, gsv, List.length_append, List.length_map, hl], fun i P q h => ?_⟩
  · rcases app_get h with ⟨hi, h⟩ | ⟨hi, h⟩
    · obtain ⟨v, e, a⟩ := R.dat i d h
      exact ⟨v, by rw [lft hi]; exact e, a⟩
    · obtain ⟨g, _, z⟩ := gsl_get h
      cases z
  · rcases app_get h with ⟨hi, h⟩ | ⟨hi, h⟩
    · obtain ⟨a, xs, e, r⟩ := R.own i qq ds h
      exact ⟨a, xs, by rw [lft hi]; exact e, r⟩
    · obtain ⟨g, hg, z⟩ := gsl_get h
      cases z
      obtain ⟨n, xs, e, A⟩ := G.at_ g (List.mem_of_getElem? hg)
      exact ⟨g.1, xs, rgt hi hg, n, e, A, (fr g (List.mem_of_getElem? hg)).1, fun p z => Option.some.inj z⟩
  · rcases app_get h1 with ⟨hi, h1⟩ | ⟨hi, h1⟩
    · rw [lft hi] at h3
      rcases app_get h2 with ⟨hj, h2⟩ | ⟨hj, h2⟩
      · rw [lft hj] at h4
        exact R.sep i j q1 q2 ds es a h1 h2 h3 h4
      · obtain ⟨g, hg, z⟩ := gsl_get h2
        rw [rgt hj hg] at h4
        cases h4
        exact absurd h3 ((fr g (List.mem_of_getElem? hg)).2 i _ _ h1)
    · obtain ⟨g, hg, z⟩ := gsl_get h1
      rw [rgt hi hg] at h3
      cases h3
      rcases app_get h2 with ⟨hj, h2⟩ | ⟨hj, h2⟩
      · rw [lft hj] at h4
        exact absurd h4 ((fr g (List.mem_of_getElem? hg)).2 j _ _ h2)
      · obtain ⟨g2, hg2, z2⟩ := gsl_get h2
        rw [rgt hj hg2] at h4
        have e : g2.1 = g.1 := V.ref.inj (Option.some.inj (Option.some.inj h4))
        have k : (gs.map Prod.fst)[i - ρ.length]? = (gs.map Prod.fst)[j - ρ.length]? := by rw [List.getElem?_map, List.getElem?_map, hg, hg2]; show some g.1 = some g2.1; rw [e]
        have := (List.getElem?_inj (by rw [List.length_map]; exact (List.getElem?_eq_some_iff.mp hg).1) G.nd).mp k
        omega
  · rcases app_get h with ⟨hi, h⟩ | ⟨hi, h⟩
    · exact R.tb i P q h
    · obtain ⟨g, _, z⟩ := gsl_get h
      cases z
/-- the slots behind: the lists' own places -/
theorem Rel.sig (R : Rel K H0 (ρ ++ gsl gs) σ Hb H) : ∃ σ0, σ = σ0 ++ gsv gs ∧ σ0.length = ρ.length := by
  have hl := R.len
  rw [List.length_append, gsl, List.length_map] at hl
  refine ⟨σ.take ρ.length, ?_, by rw [List.length_take]; omega⟩
  have e : σ.drop ρ.length = gsv gs := by
    apply List.ext_getElem?
    intro j
    rw [List.getElem?_drop]
    cases hg : gs[j]? with
    | none =>
      have h1 := List.getElem?_eq_none_iff.mp hg
      rw [List.getElem?_eq_none_iff.mpr (by omega), List.getElem?_eq_none_iff.mpr (by unfold gsv; rw [List.length_map]; omega)]
    | some g =>
      have h1 : (ρ ++ gsl gs)[ρ.length + j]? = some (.ow (some g.1) g.2) := by
        rw [List.getElem?_append_right (by omega), Nat.add_sub_cancel_left, gsl, List.getElem?_map, hg]
        rfl
      obtain ⟨a, xs, e, _, _, _, _, hq⟩ := R.own _ _ _ h1
      rw [e, gsv_get hg, hq _ rfl]
  rw [← e, List.take_append_drop]
theorem Rel.unghost {σ0 : L2.St} (R : Rel K H0 (ρ ++ gsl gs) (σ0 ++ gsv gs) Hb H) : Rel K H0 ρ σ0 Hb H ∧ Gh K Hb H gs ∧ Fr H0 ρ σ0 gs := by
  have hl : ρ.length = σ0.length := by
    have := R.len
    simp only [gsl, gsv, List.length_append, List.length_map] at this
    omega
  have rl : ∀ {i : Nat} {u : Sl}, ρ[i]? = some u → (ρ ++ gsl gs)[i]? = some u := fun {i u} h => by
    rw [List.getElem?_append_left (List.getElem?_eq_some_iff.mp h).1]
    exact h
  have sl : ∀ {i : Nat} {u : Sl}, ρ[i]? = some u → (σ0 ++ gsv gs)[i]? = σ0[i]? := fun {i u} h => List.getElem?_append_left (by rw [← hl]; exact (List.getElem?_eq_some_iff.mp h).1)
  have rg : ∀ {j : Nat} {g}, gs[j]? = some g → (ρ ++ gsl gs)[ρ.length + j]? = some (.ow (some g.1) g.2) ∧ (σ0 ++ gsv gs)[ρ.length + j]? = some (some (V.ref g.1)) := fun {j g} hg => by
    refine ⟨?_, ?_⟩
    · rw [List.getElem?_append_right (by omega), Nat.add_sub_cancel_left, gsl, List.getElem?_map, hg]
      rfl
    · rw [List.getElem?_append_right (by omega), show ρ.length + j - σ0.length = j by omega]
      exact gsv_get hg
  have at_ : ∀ {j : Nat} {g}, gs[j]? = some g → Hb g.1 = none ∧ (∃ xs, H g.1 = some (HO.lst xs) ∧ AtAll K Hb xs g.2) ∧ H0.h g.1 = none := fun {j g} hg => by
    obtain ⟨h1, h2⟩ := rg hg
    obtain ⟨a, xs, e, n, q, A, h0, hq⟩ := R.own _ _ _ h1
    have := hq _ rfl
    subst this
    exact ⟨n, ⟨xs, q, A⟩, h0⟩
  refine ⟨⟨R.b0, R.bb, R.bn, R.b1, fun i d h => ?_, fun i qq ds h => ?_, fun i j q1 q2 ds es a h1 h2 h3 h4 => ?_, hl, fun i P q h => R.tb i P q (rl h)⟩, ⟨?_, fun g hg => ?_⟩, fun g hg => ?_⟩
  · obtain ⟨v, e, a⟩ := R.dat i d (rl h)
    rw [sl h] at e
    exact ⟨v, e, a⟩
  · obtain ⟨a, xs, e, z⟩ := R.own i qq ds (rl h)
    rw [sl h] at e
    exact ⟨a, xs, e, z⟩
  · exact R.sep i j q1 q2 ds es a (rl h1) (rl h2) (by rw [sl h1]; exact h3) (by rw [sl h2]; exact h4)
  · refine List.pairwise_iff_getElem.mpr fun i j hi hj hij e => ?_
    rw [List.length_map] at hi hj
    rw [List.getElem_map, List.getElem_map] at e
    obtain ⟨h1, h2⟩ := rg (List.getElem?_eq_getElem hi)
    obtain ⟨h3, h4⟩ := rg (List.getElem?_eq_getElem hj)
    have := R.sep _ _ _ _ _ _ gs[i].1 h1 h3 h2 (by rw [h4, e])
    omega
  · obtain ⟨j, hj⟩ := List.mem_iff_getElem?.mp hg
    obtain ⟨n, q, _⟩ := at_ hj
    exact ⟨n, q⟩
  · obtain ⟨j, hj⟩ := List.mem_iff_getElem?.mp hg
    refine ⟨(at_ hj).2.2, fun i q es h e => ?_⟩
    obtain ⟨h1, h2⟩ := rg hj
    have := R.sep i _ _ _ _ _ g.1 (rl h) h1 (by rw [sl h]; exact e) h2
    have := (List.getElem?_eq_some_iff.mp h).1
    omega
def ems {α : Type} (l : List α) : List Sl := l.map fun _ => Sl.em
theorem Rel.emt (R : Rel K H0 ρ σ Hb H) {α : Type} {l : List α} {τ : L2.St} (ht : l.length = τ.length) : Rel K H0 (ρ ++ ems l) (σ ++ τ) Hb H := by
  have hl := R.len
  have key : ∀ {i : Nat} {u : Sl}, u ≠ .em → (ρ ++ ems l)[i]? = some u → ρ[i]? = some u ∧ (σ ++ τ)[i]? = σ[i]? := fun {i u} hu h => by
    rcases app_get h with ⟨hi, h⟩ | ⟨hi, h⟩
    · exact ⟨h, List.getElem?_append_left (by omega)⟩
    · unfold ems at h
      rw [List.getElem?_map] at h
      cases e : l[i - ρ.length]? with
      | none => rw [e] at h; cases h
      | some g => rw [e] at h; exact absurd (Option.some.inj h).symm hu
  refine ⟨R.b0, R.bb, R.bn, R.b1, fun i d h => ?_, fun i qq ds h => ?_, fun i j q1 q2 ds es a h1 h2 h3 h4 => ?_, by simp only [ems, List.length_append, List.length_map, hl, ht], fun i P q h => R.tb i P q (key (by intro z; cases z) h).1⟩
  · obtain ⟨h, e⟩ := key (by intro z; cases z) h
    rw [e]
    exact R.dat i d h
  · obtain ⟨h, e⟩ := key (by intro z; cases z) h
    rw [e]
    exact R.own i qq ds h
  · obtain ⟨h1, e1⟩ := key (by intro z; cases z) h1
    obtain ⟨h2, e2⟩ := key (by intro z; cases z) h2
    rw [e1] at h3
    rw [e2] at h4
    exact R.sep i j q1 q2 ds es a h1 h2 h3 h4
theorem Rel.toEm (R : Rel K H0 (ρ ++ gsl gs) σ Hb H) : Rel K H0 (ρ ++ ems gs) σ Hb H := by
  obtain ⟨σ0, rfl, hl⟩ := R.sig
  exact R.unghost.1.emt (by unfold gsv; rw [List.length_map])
end
/-! ### what is called -/
/-- what stands at f keeps the promise sp0 (what is not handed in is filled up) -/
structure FnG (P : Program) (w : World) (K : PySem.W.Frag) (mg : Str → Option Value) (base : Heap) (f : Addr) (k : Nat) (sp0 : Sp) : Prop where
  ex : ∃ fd ps sp ds dvs, FnOk P w K mg base (L2.CX P w) k f fd ps sp ∧ PySem.W.keepIn K (.ref f) = true ∧ Binds K fd ps ds ∧ Vals dvs ds ∧ ∀ vs H Q E, sp0 vs H Q E → sp (vs ++ dvs) H Q E
abbrev FgX (X : Cx) (f : Addr) (k : Nat) (sp0 : Sp) : Prop := FnG X.prog X.w X.K X.mg X.base f k sp0
abbrev Dg (P : Program) (w : World) (K : PySem.W.Frag) (mg : Str → Option Value) (base : Heap) (x : Str) (k : Nat) (sp0 : Sp) : Prop := ∃ f, mg x = some (.ref f) ∧ FnG P w K mg base f k sp0
theorem FnG.imp {P : Program} {w : World} {K : PySem.W.Frag} {mg : Str → Option Value} {base : Heap} {f : Addr} {k : Nat} {sp sp' : Sp} (F : FnG P w K mg base f k sp) (h : ∀ vs H Q E, sp' vs H Q E → sp vs H Q E) : FnG P w K mg base f k sp' := by
  obtain ⟨fd, ps, sp1, ds, dvs, h1, h2, h3, h4, h5⟩ := F.ex
  exact ⟨fd, ps, sp1, ds, dvs, h1, h2, h3, h4, fun vs H Q E q => h5 vs H Q E (h _ _ _ _ q)⟩
theorem FnG.fn {P : Program} {w : World} {K : PySem.W.Frag} {mg : Str → Option Value} {base : Heap} {f : Addr} {k n : Nat} {S : List D → FR → Prop} (F : FnG P w K mg base f k (spF K n S)) : Fn P w K mg base f k n S := ⟨F.ex⟩
section
variable {X : Cx} {W : WX} {N : List Str} {sc : Scope} {k j : Nat} {e : Expr} {es : List Expr} {pos p : Pos} {f : Addr} {x : Str} {sp0 : Sp}
theorem pe_fnG (C : Ctx X W N sc k) (F : FgX X f j sp0) (hj : j ≤ k) (hg : GlN sc x) (hm : X.mg x = some (.ref f)) (hdb : (x == ("__debug__" : Str)) = false)
    (he : starEach (e :: es) X.env = (false, eval e X.env) :: starEach es X.env) (hpl : (backTo pos (starEach es X.env)).any (·.1) = false) :
    PE X (.Call (.Name x p) (e :: es) [] pos) (fun σ H Q => WA X (e :: es) σ H fun vs H1 => sp0 vs H1 Q (xk W σ)) := by
  obtain ⟨fd, ps, sp, ds, dvs, h1, h2, h3, h4, h5⟩ := F.ex
  refine ⟨fun pins s σ H Q I h => ?_⟩
  refine wpAny_Call_Name_kw (ld_glob I (C.gl hg) hm ?_ hdb)
  refine PySem.W.callWith_K (h₀ := X.base) I.ok.mod.kin h2 (thn (h.go pos pins s I) fun us s1 ⟨vs, H1, I1, r, q⟩ => ⟨I1.kIn, ?_⟩) he hpl
  exact run_fnG h1 (C.room.mono hj) h3 h4 (passAt C.tk σ) I1 r (h5 _ _ _ _ q)
/-- a call of what a name of the def holds -/
theorem pe_fnLG (C : Ctx X W N sc k) (F : FgX X f j sp0) (hj : j ≤ k) {i : Nat} (hN : N[i]? = some x) (hv : Vis sc x) (hdb : (x == ("__debug__" : Str)) = false) (hcd : (x == ("__classdict__" : Str)) = false)
    (he : starEach (e :: es) X.env = (false, eval e X.env) :: starEach es X.env) (hpl : (backTo pos (starEach es X.env)).any (·.1) = false) :
    PE X (.Call (.Name x p) (e :: es) [] pos) (fun σ H Q => σ[i]? = some (some (.ref f)) ∧ WA X (e :: es) σ H fun vs H1 => sp0 vs H1 Q (xk W σ)) := by
  obtain ⟨fd, ps, sp, ds, dvs, h1, h2, h3, h4, h5⟩ := F.ex
  refine ⟨fun pins s σ H Q I h => ?_⟩
  obtain ⟨hs, ht⟩ := h
  refine wpAny_Call_Name_kw (thn ((pe_var (pos := p) (C.at hN) (C.vis hv) hdb hcd).run pins s σ H (fun v H1 => v = .ref f ∧ H1 = H) I ⟨.ref f, hs, rfl, rfl⟩) fun u s1 ⟨v, H1, I1, r1, q1⟩ => ?_)
  obtain ⟨rfl, rfl⟩ := q1
  cases r1
  refine PySem.W.callWith_K (h₀ := X.base) I.ok.mod.kin h2 (thn (ht.go pos pins s1 I1) fun us s2 ⟨vs, H2, I2, r, q⟩ => ⟨I2.kIn, ?_⟩) he hpl
  exact run_fnG h1 (C.room.mono hj) h3 h4 (passAt C.tk σ) I2 r (h5 _ _ _ _ q)
end
/-- a def that uses own lists up which no name holds (a function handed in stands on them) -/
def spC (K : PySem.W.Frag) (n m : Nat) (S : List D → GS → FR → Prop) : Sp := fun vs H Q E => ∃ ds gs r Hb, vs.length = n ∧ gs.length = m ∧ Same Hb H ∧ AtAll K Hb vs ds ∧ Gh K Hb H gs ∧ S ds gs r ∧ FRk K Hb (remL H (gsa gs)) r Q E
theorem spC_0 {K : PySem.W.Frag} {n : Nat} {S : List D → GS → FR → Prop} {vs : List V} {H : Hp} {Q : VK} {E : XK} (h : spF K n (fun ds r => S ds [] r) vs H Q E) : spC K n 0 S vs H Q E := by
  obtain ⟨ds, r, Hb, h1, h2, h3, h4, h5⟩ := h
  exact ⟨ds, [], r, Hb, h1, rfl, h2, h3, ⟨List.nodup_nil, (fun g z => by cases z)⟩, h4, by rw [show gsa [] = [] from rfl, remL_nil]; exact h5⟩
abbrev FnC (P : Program) (w : World) (K : PySem.W.Frag) (mg : Str → Option Value) (base : Heap) (f : Addr) (k n m : Nat) (S : List D → GS → FR → Prop) : Prop := FnG P w K mg base f k (spC K n m S)
abbrev DfC (P : Program) (w : World) (K : PySem.W.Frag) (mg : Str → Option Value) (base : Heap) (x : Str) (k n m : Nat) (S : List D → GS → FR → Prop) : Prop := ∃ f, mg x = some (.ref f) ∧ FnC P w K mg base f k n m S
theorem FnG.c0 {P : Program} {w : World} {K : PySem.W.Frag} {mg : Str → Option Value} {base : Heap} {f : Addr} {k n : Nat} {S : List D → GS → FR → Prop} (F : FnC P w K mg base f k n 0 S) : Fn P w K mg base f k n (fun ds r => S ds [] r) := (F.imp fun vs H Q E => spC_0).fn
/-- names that are none -/
def phs (m : Nat) : List Str := (["%0", "%1", "%2"] : List Str).take m
def phOk (sc : Scope) (N0 : List Str) : Bool := (["%0", "%1", "%2"] : List Str).all fun y => (sc.names.lookup y).isNone && !(N0.contains y)
theorem phs_len {m : Nat} (h : m ≤ 3) : (phs m).length = m := by
  unfold phs
  rw [List.length_take]
  exact Nat.min_eq_left h
theorem phs_nd (m : Nat) : (phs m).Nodup := List.Nodup.sublist (List.take_sublist _ _) (by decide +kernel)
theorem phs_vis {sc : Scope} {N0 : List Str} {m : Nat} (h : phOk sc N0 = true) {y : Str} (hy : y ∈ phs m) : ¬ Vis sc y ∧ y ∉ N0 := by
  have := List.all_eq_true.mp h y (List.mem_of_mem_take hy)
  rw [Bool.and_eq_true] at this
  obtain ⟨h1, h2⟩ := this
  refine ⟨fun z => ?_, fun z => ?_⟩
  · have e : sc.names.lookup y = none := Option.isNone_iff_eq_none.mp h1
    rcases z with z | z | z <;> rw [e] at z <;> cases z
  · rw [List.contains_iff_mem.mpr z] at h2
    cases h2
theorem fnScope_ph {N0 ps : List Str} {sc : Scope} {m : Nat} (S : FnScope N0 ps sc) (h : phOk sc N0 = true) : FnScope (N0 ++ phs m) ps sc := by
  have hpl : ps.length ≤ N0.length := by have := congrArg List.length S.pre; rw [List.length_take] at this; omega
  refine ⟨S.kind, S.co, S.gen, ?_, ?_, S.par, S.nofree⟩
  · exact List.nodup_append.mpr ⟨S.nd, phs_nd m, fun a ha b hb e => (phs_vis h hb).2 (e ▸ ha)⟩
  · rw [List.take_append_of_le_length hpl]
    exact S.pre
section
variable {X : Cx} {pins : List (Addr × Obj)} {σ σ' : L2.St} {H : Hp} {s : Shared}
/-- slots that belong to no name hold what one wants -/
theorem inv_fill (I : Inv X pins σ H s) (hl : σ'.length = σ.length) (h : ∀ (i : Nat) (v : V), σ'[i]? = some (some v) → σ[i]? = some (some v) ∨ ∀ x, X.N[i]? = some x → ¬ Vis X.env.scope x) : Inv X pins σ' H s :=
  ⟨I.ok, I.os, I.bare, I.base, let ⟨m, hn, hl'⟩ := I.loc; ⟨m, hn, fun i x v e1 e2 e3 => by
    rcases h i v e2 with z | z
    · exact hl' i x v e1 z e3
    · exact absurd e3 (z x e1)⟩, I.cell, I.free, I.freeC, I.pin, I.hok, hl.trans I.len⟩
theorem start_fill {N0 : List Str} {m : Nat} {vs : List V} {τ : L2.St} (hv : vs.length ≤ N0.length) (hm : m ≤ 3) (ht : τ.length = m) (hN : X.N = N0 ++ phs m) (hp : phOk X.env.scope N0 = true) (I : Inv X pins (L2.start (N0 ++ phs m) vs) H s) : Inv X pins (L2.start N0 vs ++ τ) H s := by
  have pl := phs_len hm
  refine inv_fill I ?_ fun i v e => ?_
  · unfold L2.start
    simp only [List.length_append, List.length_map, List.length_replicate]
    omega
  · rcases app_get e with ⟨hi, e⟩ | ⟨hi, e⟩
    · refine .inl ?_
      unfold L2.start at e ⊢
      rcases app_get e with ⟨h2, e⟩ | ⟨h2, e⟩
      · rw [List.getElem?_append_left h2]
        exact e
      · rw [List.getElem?_replicate] at e
        split at e <;> cases e
    · refine .inr fun x hx => ?_
      have hl : (L2.start N0 vs).length = N0.length := by
        unfold L2.start
        simp only [List.length_append, List.length_map, List.length_replicate]
        omega
      rw [hN, List.getElem?_append_right (by omega)] at hx
      exact (phs_vis hp (List.mem_of_getElem? hx)).1
end
section
variable {P : Program} {w : World} {K : PySem.W.Frag} {mg : Str → Option Value} {base : Heap} {k : Nat} {qual : Str} {sc : Scope} {bd : List Stmt} {f : Addr} {N0 ps : List Str} {m : Nat} {S : List D → GS → FR → Prop}
theorem frk_end {K : PySem.W.Frag} {Hb H : Hp} {r r' : FR} {Q : VK} {E : XK} {v : V} {H' : Hp} (fk : FRk K Hb H r Q E) (z : (endF r).rt r') (q : RetAt K ⟨H, Hb⟩ r' v H') : Q v H' := by
  have z : r' = r ∨ ∃ ds, r' = .new ds ∧ r = .ret (.lst ds) := z
  rcases z with rfl | ⟨ds', rfl, rfl⟩
  · cases r' with
    | ret d => obtain ⟨Hb', B, a⟩ := q; exact fk v Hb' H' B a
    | new ds' => obtain ⟨p, xs, Hb', rfl, n0, B, n1, q, A'⟩ := q; exact fk p xs Hb' H' n0 B n1 q A'
    | exc _ => exact q.elim
    | gen Ψ => exact fk v H' q
  · obtain ⟨p, xs, Hb', rfl, n0, B, n1, q, A'⟩ := q
    have sb : Same Hb' (upd Hb' p (.lst xs)) := same_upd n1
    refine fk (.ref p) (upd Hb' p (.lst xs)) H' ⟨B.h, B.b.trans sb, fun b x e => ?_, fun a z1 z2 => ?_⟩ (.lst (Rd.of upd_same) (A'.mono sb))
    · by_cases hb : b = p
      · subst hb
        rw [upd_same] at e
        cases e
        exact q
      · rw [upd_ne hb] at e
        exact B.s _ _ e
    · rw [upd_ne (fun z => z2 (by rw [z]; exact n0))]
      exact B.n a z1 z2
theorem body_C (Sc : FnScope N0 ps sc) (hm : m ≤ 3) (hp : phOk sc N0 = true)
    (body : ∀ (ds : List D) (gs : GS) (r : FR), S ds gs r → ds.length = ps.length → gs.length = m → ∀ (X : Cx) (W : WX), Over X P w K mg base → CtxD X W (N0 ++ phs m) sc k → SW X W (startD N0 ds ++ gsl gs) bd (endF r))
    (cdv : Value) (A : Around) (outer : List Env) (s : Shared) (H : Hp) (vs : List V) (Q : VK) (E : XK) (hr : Room k (A.deeper (envOfC qual sc s.heap.objs.size f cdv))) (h : spC K ps.length m S vs H Q E) :
    ∃ t, PSs (cxOf (L2.CX P w) P w K mg base (N0 ++ phs m) qual sc f cdv A outer s H E) bd t ∧ t { nx := fun _ H' => Q .non H', rt := Q } (L2.start (N0 ++ phs m) vs) H := by
  refine ⟨_, pss_w, ?_⟩
  obtain ⟨ds, gs, r, Hb, e, em, sm, AA, G, hs, fk⟩ := h
  have hpl : ps.length ≤ N0.length := by have := congrArg List.length Sc.pre; rw [List.length_take] at this; omega
  have b := body ds gs r hs (by rw [← AA.length]; exact e) em (cxOf (L2.CX P w) P w K mg base (N0 ++ phs m) qual sc f cdv A outer s H E) (fun cls d _ H => E cls d H) ⟨rfl, rfl, rfl, rfl, rfl⟩
    { hN := rfl, nd := (fnScope_ph Sc hp).nd, hs := rfl, room := hr, calm := rfl, tk := takes_of rfl rfl rfl rfl, own := passes_of rfl, fnD := fun _ => rfl, stk := rfl, frm := rfl, exn := rfl }
  have R0 := (rel_start (N := N0) sm AA).less (h' := remL H (gsa gs)) remL_same
  have R := R0.ghost G fun g hg => ⟨remL_at (List.mem_map.mpr ⟨g, hg, rfl⟩), fun j q es h => by
    exfalso
    unfold startD at h
    rcases app_get h with ⟨_, h⟩ | ⟨_, h⟩
    · rw [List.getElem?_map] at h
      cases hd : ds[j]? with
      | none => rw [hd] at h; cases h
      | some d' => rw [hd] at h; cases h
    · rw [List.getElem?_replicate] at h
      split at h <;> cases h⟩
  have go := WSs.mono (b ⟨remL H (gsa gs), Hb⟩ (L2.start N0 vs ++ gsv gs) Hb H R ?_) (D' := { nx := fun _ H' => Q .non H', rt := Q }) ?_ ?_ ?_ ?_
  · exact ⟨fun pins s1 I => go.go pins s1 (start_fill (by omega) hm (by unfold gsv; rw [List.length_map]; exact em) rfl hp I)⟩
  · intro C ρ σ Hb' H' z R'
    have z : r = .exc C := z
    subst z
    exact fk H' R'.b0
  · rintro σ' H' ⟨ρ', Hb', z, R'⟩
    have z : r = .ret .non := z
    subst z
    exact fk .non Hb' H' R'.back .non
  · rintro v H' ⟨r', z, q⟩
    exact frk_end fk z q
  · rintro _ _ ⟨_, _, z, _⟩
    exact z.elim
  · rintro _ _ ⟨_, _, z, _⟩
    exact z.elim
theorem spC_len {vs : List V} {H : Hp} {Q : VK} {E : XK} {n : Nat} (h : spC K n m S vs H Q E) : vs.length = n := by
  obtain ⟨ds, gs, r, Hb, e, _⟩ := h
  exact e
/-- a def by its body -/
theorem fn_defC {x : Str} {st : Stmt} {fd : FuncData} (F : Fun K x qual st f fd) (Sc : FnScope N0 ps (defScope st)) (hb : Binds K fd ps []) (hm : m ≤ 3) (hp : phOk (defScope st) N0 = true)
    (body : ∀ (ds : List D) (gs : GS) (r : FR), S ds gs r → ds.length = ps.length → gs.length = m → ∀ (X : Cx) (W : WX), Over X P w K mg base → CtxD X W (N0 ++ phs m) (defScope st) k → SW X W (startD N0 ds ++ gsl gs) (defBody st) (endF r)) : FnC P w K mg base f (k + 1) ps.length m S :=
  ⟨fd, ps, spC K ps.length m S, [], [], F.okX (fnScope_ph Sc hp) (fun _ _ _ _ => spC_len) (body_C Sc hm hp body), F.kp, hb, .nil, fun vs H Q E h => by rw [List.append_nil]; exact h⟩
/-- a def with defaults, all handed in -/
theorem fn_defCD {x : Str} {st : Stmt} {fd : FuncData} {dvs : List V} (F : FunD K x qual (defArgs st) (defBody st) (defScope st) dvs [] f fd) (Sc : FnScope N0 ps (defScope st)) (hm : m ≤ 3) (hp : phOk (defScope st) N0 = true) (hd : dvs ≠ [])
    (h : ∀ (T : Addr) (kV doc pm : Value) (an : Option Addr) (cdv ct : Value) (us its : List Value), us.length = ps.length → its.length = dvs.length →
      ∃ k, bindArgs (PySem.W.fnOf x qual (defArgs st) (defBody st) (defScope st) (.ref T) kV doc pm an cdv ct) ⟨us, []⟩ = seqItems? (.ref T) >>= k ∧ k (some its.toArray) = pure (ps.zip (us ++ its.drop dvs.length)))
    (body : ∀ (ds : List D) (gs : GS) (r : FR), S ds gs r → ds.length = ps.length → gs.length = m → ∀ (X : Cx) (W : WX), Over X P w K mg base → CtxD X W (N0 ++ phs m) (defScope st) k → SW X W (startD N0 ds ++ gsl gs) (defBody st) (endF r)) : FnC P w K mg base f (k + 1) ps.length m S := by
  obtain ⟨ds0, h1, h2⟩ := F.binds1 ps.length dvs.length hd (by omega) h
  rw [List.drop_length] at h1
  exact ⟨fd, ps, spC K ps.length m S, ds0, [], F.ok (fnScope_ph Sc hp) (fun _ _ _ _ => spC_len) (body_C Sc hm hp body), F.kp, h2, h1, fun vs H Q E h => by rw [List.append_nil]; exact h⟩
end
end DL
/-! expressions that change what stands apart -/
namespace DL
open PySem PySem.Spec PyProof.Rows L2
def RK (X : Cx) (W : WX) (H0 : Ent) (ρ : List Sl) (σ : L2.St) (Z : DZ) : Prop := ∀ (C : Addr) (Hb' H' : Hp), Z C → Rel X.K H0 ρ σ Hb' H' → W (.ref C) none σ H'
def PostK (K : PySem.W.Frag) (H0 : Ent) (ρ : List Sl) (σ : L2.St) (Hb : Hp) (Φ : D → Prop) : VK := fun v H' => ∃ (d : D) (Hb' : Hp), Φ d ∧ Rel K H0 ρ σ Hb' H' ∧ Same Hb Hb' ∧ At K Hb' v d
def PostKN (K : PySem.W.Frag) (H0 : Ent) (ρ : List Sl) (σ : L2.St) (Hb : Hp) (Φ : List D → Prop) : VK := fun v H' => ∃ (ds : List D) (Hb' : Hp) (p : Addr) (xs : List V), v = .ref p ∧ Φ ds ∧ Rel K H0 ρ σ Hb' H' ∧ Same Hb Hb' ∧
  Hb' p = none ∧ H' p = some (.lst xs) ∧ AtAll K Hb' xs ds ∧ H0.h p = none ∧ ∀ (j : Nat) (q : Option Addr) (es : List D), ρ[j]? = some (Sl.ow q es) → σ[j]? ≠ some (some (V.ref p))
def PostKT (K : PySem.W.Frag) (H0 : Ent) (ρ : List Sl) (σ : L2.St) (Hb : Hp) (Φ : Bool → Prop) : Bool → Hp → Prop := fun b H' => ∃ (Hb' : Hp), Φ b ∧ Rel K H0 ρ σ Hb' H' ∧ Same Hb Hb'
/-- ρ: the slots ahead, ρ': behind -/
def KW (X : Cx) (W : WX) (ρ ρ' : List Sl) (e : Expr) (Φ : D → Prop) (Z : DZ) : Prop := ∀ (H0 : Ent) (σ : L2.St) (Hb H : Hp), Rel X.K H0 ρ σ Hb H → RK X W H0 ρ' σ Z → WE X e σ H (PostK X.K H0 ρ' σ Hb Φ)
def KN (X : Cx) (W : WX) (ρ ρ' : List Sl) (e : Expr) (Φ : List D → Prop) (Z : DZ) : Prop := ∀ (H0 : Ent) (σ : L2.St) (Hb H : Hp), Rel X.K H0 ρ σ Hb H → RK X W H0 ρ' σ Z → WE X e σ H (PostKN X.K H0 ρ' σ Hb Φ)
def KT (X : Cx) (W : WX) (ρ : List Sl) (e : Expr) (Φ : Bool → Prop) (Z : DZ) : Prop := ∀ (H0 : Ent) (σ : L2.St) (Hb H : Hp), Rel X.K H0 ρ σ Hb H → RK X W H0 ρ σ Z → WT X e σ H (PostKT X.K H0 ρ σ Hb Φ)
def KB (X : Cx) (W : WX) (ρ : List Sl) (e : Expr) (Φ : Bool → Prop) (Z : DZ) : Prop := ∀ (H0 : Ent) (σ : L2.St) (Hb H : Hp), Rel X.K H0 ρ σ Hb H → RK X W H0 ρ σ Z → WW X e σ H (PostKT X.K H0 ρ σ Hb Φ)
/-- a value, arguments that stand on own lists -/
def PostC (K : PySem.W.Frag) (H0 : Ent) (ρ : List Sl) (σ : L2.St) (Hb : Hp) (Φ : D → GS → Prop) : VK := fun v H' => ∃ (d : D) (gs : GS) (Hb' : Hp), Φ d gs ∧ Rel K H0 ρ σ Hb' H' ∧ Same Hb Hb' ∧ At K Hb' v d ∧ Gh K Hb' H' gs ∧ Fr H0 ρ σ gs
def PostAC (K : PySem.W.Frag) (H0 : Ent) (ρ : List Sl) (σ : L2.St) (Hb : Hp) (Φ : List D → GS → Prop) : List V → Hp → Prop := fun vs H' => ∃ (ds : List D) (gs : GS) (Hb' : Hp), Φ ds gs ∧ Rel K H0 ρ σ Hb' H' ∧ Same Hb Hb' ∧ AtAll K Hb' vs ds ∧ Gh K Hb' H' gs ∧ Fr H0 ρ σ gs
def CW (X : Cx) (W : WX) (ρ : List Sl) (e : Expr) (Φ : D → GS → Prop) (Z : DZ) : Prop := ∀ (H0 : Ent) (σ : L2.St) (Hb H : Hp), Rel X.K H0 ρ σ Hb H → RK X W H0 ρ σ Z → WE X e σ H (PostC X.K H0 ρ σ Hb Φ)
def AC (X : Cx) (W : WX) (ρ : List Sl) (es : List Expr) (Φ : List D → GS → Prop) (Z : DZ) : Prop := ∀ (H0 : Ent) (σ : L2.St) (Hb H : Hp), Rel X.K H0 ρ σ Hb H → RK X W H0 ρ σ Z → WA X es σ H (PostAC X.K H0 ρ σ Hb Φ)
section
variable {X : Cx} {W : WX} {ρ ρ' : List Sl} {Z : DZ} {H0 : Ent} {σ : L2.St} {Hb H : Hp}
theorem RK.rz (z : RK X W H0 ρ σ Z) : RZ X W H0 ρ σ Hb H Z := fun C Hb' H' c R _ => z C Hb' H' c R
theorem KW.mono {e : Expr} {Φ Φ' : D → Prop} (h : KW X W ρ ρ' e Φ Z) (k : ∀ d, Φ d → Φ' d) : KW X W ρ ρ' e Φ' Z := fun H0 σ Hb H R z => (h H0 σ Hb H R z).mono fun v H' ⟨d, Hb', f, r⟩ => ⟨d, Hb', k d f, r⟩
theorem gh_nil {K : PySem.W.Frag} {Hb H : Hp} : Gh K Hb H [] := ⟨List.nodup_nil, (fun g z => by cases z)⟩
theorem fr_nil : Fr H0 ρ σ [] := fun g z => by cases z
theorem Gh.mono {K : PySem.W.Frag} {Hb H Hb' H' : Hp} {gs : GS} (G : Gh K Hb H gs) (s : Same Hb Hb') (n : ∀ g ∈ gs, Hb' g.1 = none) (h : ∀ g ∈ gs, ∀ o, H g.1 = some o → H' g.1 = some o) : Gh K Hb' H' gs :=
  ⟨G.nd, fun g hg => let ⟨_, xs, e, A⟩ := G.at_ g hg; ⟨n g hg, xs, h g hg _ e, A.mono s⟩⟩
theorem Gh.lst {K : PySem.W.Frag} {Hb H : Hp} {gs : GS} (G : Gh K Hb H gs) : ∀ a ∈ gsa gs, Hb a = none ∧ ∃ xs, H a = some (.lst xs) := fun a ha => by
  obtain ⟨g, hg, rfl⟩ := List.mem_map.mp ha
  obtain ⟨n, xs, e, _⟩ := G.at_ g hg
  exact ⟨n, xs, e⟩
theorem codeO_lst {xs : List V} : ∀ c q, HO.lst xs ≠ LamX.CodeO c q := noTb_lst.c
/-- behind a call that uses l up -/
theorem Rel.used {K : PySem.W.Frag} {gs : GS} {Hb' H' : Hp} (R : Rel K H0 ρ σ Hb H) (G : Gh K Hb H gs) (fr : Fr H0 ρ σ gs) (B : Back ⟨remL H (gsa gs), Hb⟩ Hb' H') : Rel K H0 ρ σ Hb' H' :=
  R.calledL B (fun a ha => by obtain ⟨g, hg, rfl⟩ := List.mem_map.mp ha; exact (fr g hg).1) (fun a ha => let ⟨_, xs, e⟩ := G.lst a ha; ⟨_, e, codeO_lst⟩) (fun j q es h a ha => by obtain ⟨g, hg, rfl⟩ := List.mem_map.mp ha; exact (fr g hg).2 j q es h)
    fun j P q h hp => by
      obtain ⟨⟨ps, e, _⟩, _⟩ := R.tb j P q h
      obtain ⟨_, xs, e2⟩ := G.lst P hp
      rw [e] at e2
      cases e2
theorem back_exc {K : PySem.W.Frag} {gs : GS} {H' : Hp} (R : Rel K H0 ρ σ Hb H) (G : Gh K Hb H gs) (s : Same (remL H (gsa gs)) H') : Back ⟨remL H (gsa gs), Hb⟩ Hb H' :=
  ⟨s, L2.Same.refl _, fun b x e => s b x (by
    have hb : b ∉ gsa gs := fun z => by rw [(G.lst b z).1] at e; cases e
    rw [remL_ne hb]
    exact R.b1 _ _ e), fun a n _ => n⟩
theorem frk_K {gs : GS} {Hb1 H1 : Hp} {r : FR} {Φ : D → Prop} (R : Rel X.K H0 ρ σ Hb1 H1) (G : Gh X.K Hb1 H1 gs) (fr : Fr H0 ρ σ gs) (s : Same Hb Hb1) (z : RK X W H0 ρ σ Z) (f : FRd Φ Z r) : FRk X.K Hb1 (remL H1 (gsa gs)) r (PostK X.K H0 ρ σ Hb Φ) (xk W σ) := by
  cases r with
  | ret d => exact fun v Hb' H' B a => ⟨d, Hb', f, R.used G fr B, L2.Same.trans s B.b, a⟩
  | new ds =>
    intro p xs Hb' H' np B n q A
    have R' := R.used G fr B
    have h0 : H0.h p = none := by
      by_cases hp : p ∈ gsa gs
      · obtain ⟨g, hg, rfl⟩ := List.mem_map.mp hp
        exact (fr g hg).1
      · rw [remL_ne hp] at np
        exact R.b0.free np
    have own : ∀ (j : Nat) (q : Option Addr) (es : List D), ρ[j]? = some (Sl.ow q es) → σ[j]? ≠ some (some (V.ref p)) := fun j qq es h e => by
      obtain ⟨a, ys, e2, n2, q2, _⟩ := R.own j qq es h
      rw [e] at e2
      cases e2
      by_cases hp : p ∈ gsa gs
      · obtain ⟨g, hg, rfl⟩ := List.mem_map.mp hp
        exact (fr g hg).2 j qq es h e
      · rw [remL_ne hp, q2] at np
        cases np
    exact ⟨.lst ds, upd Hb' p (.lst xs), f, R'.know n q (fun _ z => nomatch z) h0 own, L2.Same.trans s (L2.Same.trans B.b (same_upd n)), .lst (Rd.of upd_same) (A.mono (same_upd n))⟩
  | exc C => exact fun H' s' => z C Hb1 H' f (R.used G fr (back_exc R G s'))
  | gen => exact f.elim
theorem frk_KN {gs : GS} {Hb1 H1 : Hp} {r : FR} {Φ : List D → Prop} (R : Rel X.K H0 ρ σ Hb1 H1) (G : Gh X.K Hb1 H1 gs) (fr : Fr H0 ρ σ gs) (s : Same Hb Hb1) (z : RK X W H0 ρ σ Z) (f : FRn Φ Z r) : FRk X.K Hb1 (remL H1 (gsa gs)) r (PostKN X.K H0 ρ σ Hb Φ) (xk W σ) := by
  cases r with
  | ret d => exact f.elim
  | new ds =>
    intro p xs Hb' H' np B n q A
    have h0 : H0.h p = none := by
      by_cases hp : p ∈ gsa gs
      · obtain ⟨g, hg, rfl⟩ := List.mem_map.mp hp
        exact (fr g hg).1
      · rw [remL_ne hp] at np
        exact R.b0.free np
    have own : ∀ (j : Nat) (q : Option Addr) (es : List D), ρ[j]? = some (Sl.ow q es) → σ[j]? ≠ some (some (V.ref p)) := fun j qq es h e => by
      obtain ⟨a, ys, e2, n2, q2, _⟩ := R.own j qq es h
      rw [e] at e2
      cases e2
      by_cases hp : p ∈ gsa gs
      · obtain ⟨g, hg, rfl⟩ := List.mem_map.mp hp
        exact (fr g hg).2 j qq es h e
      · rw [remL_ne hp, q2] at np
        cases np
    exact ⟨ds, Hb', p, xs, rfl, f, R.used G fr B, L2.Same.trans s B.b, n, q, A, h0, own⟩
  | exc C => exact fun H' s' => z C Hb1 H' f (R.used G fr (back_exc R G s'))
  | gen => exact f.elim
end
section
variable {X : Cx} {W : WX} {ρ ρ' : List Sl} {Z : DZ} {N : List Str} {sc : Scope} {k j n m : Nat} {a b e : Expr} {es rest0 : List Expr} {pos p px : Pos} {Φ : D → Prop} {f : Addr} {x : Str} {E : DE} {rest : List Stmt}
theorem kw_ew (h : EW X W ρ e Φ Z) : KW X W ρ ρ e Φ Z := fun H0 σ Hb H R z => (h H0 σ Hb H R z.rz).mono fun v H' ⟨d, Hb', f, R', s, a⟩ => ⟨d, Hb', f, R', s.b, a⟩
theorem kn_en {Φ : List D → Prop} (h : EN X W ρ e Φ Z) : KN X W ρ ρ e Φ Z := fun H0 σ Hb H R z => (h H0 σ Hb H R z.rz).mono fun v H' ⟨ds, Hb', p, xs, e, f, R', s, q⟩ => ⟨ds, Hb', p, xs, e, f, R', s.b, q⟩
theorem kt_tw {Φ : Bool → Prop} (h : TW X W ρ e Φ Z) : KT X W ρ e Φ Z := fun H0 σ Hb H R z => (h H0 σ Hb H R z.rz).mono fun v H' ⟨Hb', f, R', s⟩ => ⟨Hb', f, R', s.b⟩
theorem kw_kn (h : KN X W ρ ρ' e (fun ds => Φ (.lst ds)) Z) : KW X W ρ ρ' e Φ Z := fun H0 σ Hb H R z => (h H0 σ Hb H R z).mono fun v H' ⟨ds, Hb', p, xs, e, f, R', s, n, q, A, h0, own⟩ => by
  subst e
  exact ⟨.lst ds, upd Hb' p (.lst xs), f, R'.know n q (fun _ z => nomatch z) h0 own, L2.Same.trans s (same_upd n), .lst (Rd.of upd_same) (A.mono (same_upd n))⟩
/-! arguments -/
theorem ac_cons {Φ : List D → GS → Prop} (h : EW X W ρ e (fun d => AC X W ρ es (fun ds gs => Φ (d :: ds) gs) Z) Z) (hs : starEach (e :: es) X.env = (false, eval e X.env) :: starEach es X.env := by exact star_nst rfl) : AC X W ρ (e :: es) Φ Z := fun H0 σ Hb H R z =>
  WA.of (pa_cons pe_w pa_w hs) (h.run R z.rz fun x v Hb1 H1 f1 R1 s1 a1 _ => (f1 H0 σ Hb1 H1 R1 z).mono fun vs H2 ⟨ds, gs, Hb2, f2, R2, s2, A2, G2, F2⟩ => ⟨x :: ds, gs, Hb2, f2, R2, L2.Same.trans s1.b s2, .cons (a1.mono s2) A2, G2, F2⟩)
theorem ac_one {Φ : List D → GS → Prop} (h : CW X W ρ e (fun d gs => Φ [d] gs) Z) (hs : starEach [e] X.env = (false, eval e X.env) :: starEach [] X.env := by exact star_nst rfl) : AC X W ρ [e] Φ Z := fun H0 σ Hb H R z =>
  WA.of (pa_cons pe_w pa_nil hs) ((h H0 σ Hb H R z).mono fun v H1 ⟨d, gs, Hb1, f1, R1, s1, a1, G1, F1⟩ => ⟨[d], gs, Hb1, f1, R1, s1, .cons a1 .nil, G1, F1⟩)
theorem cw_ew {Φ : D → GS → Prop} (h : EW X W ρ e (fun d => Φ d []) Z) : CW X W ρ e Φ Z := fun H0 σ Hb H R z => (h H0 σ Hb H R z.rz).mono fun v H' ⟨d, Hb', f, R', s, a⟩ => ⟨d, [], Hb', f, R', s.b, a, gh_nil, fr_nil⟩
theorem cw_lst {Φ : D → GS → Prop} (h : AC X W ρ es (fun ds gs => ds.length ≤ sizeLine ∧ Φ (.lst ds) gs) Z) : CW X W ρ (.List es pos) Φ Z := fun H0 σ Hb H R z =>
  WE.of (pe_lst pa_w) ((h H0 σ Hb H R z).mono fun vs H1 ⟨ds, gs, Hb1, f1, R1, s1, A1, G1, F1⟩ => ⟨by rw [A1.length]; exact f1.1, fun p hp => by
    have nb := R1.b1.free hp
    have ne : ∀ g ∈ gs, g.1 ≠ p := fun g hg w => by
      obtain ⟨_, xs, e, _⟩ := G1.at_ g hg
      rw [w, hp] at e
      cases e
    exact ⟨.lst ds, gs, upd Hb1 p (.lst vs), f1.2, R1.alloc hp, L2.Same.trans s1 (same_upd nb), .lst (Rd.of upd_same) (A1.mono (same_upd nb)), G1.mono (same_upd nb) (fun g hg => by rw [upd_ne (ne g hg)]; exact (G1.at_ g hg).1) (fun g hg o e => by rw [upd_ne (ne g hg)]; exact e), F1⟩⟩)
/-- f(..), a function handed in that stands on own lists -/
theorem kw_callC {S : List D → GS → FR → Prop} (C : Ctx X W N sc k) (F : Dg X.prog X.w X.K X.mg X.base x j (spC X.K n m S)) (h : AC X W ρ (e :: es) (fun ds gs => ds.length = n ∧ gs.length = m ∧ ∃ r, S ds gs r ∧ FRd Φ Z r) Z) (hj : j ≤ k := by omega) (hg : GlN sc x := by rfl) (hdb : (x == ("__debug__" : Str)) = false := by decide)
    (he : starEach (e :: es) X.env = (false, eval e X.env) :: starEach es X.env := by exact star_nst rfl) (hpl : (backTo pos (starEach es X.env)).any (·.1) = false := by rfl) : KW X W ρ ρ (.Call (.Name x p) (e :: es) [] pos) Φ Z := fun H0 σ Hb H R z => by
  obtain ⟨g, hm, F⟩ := F
  exact WE.of (pe_fnG C F hj hg hm hdb he hpl) ((h H0 σ Hb H R z).mono fun vs H1 ⟨ds, gs, Hb1, ⟨hl, hgs, r, hS, fr⟩, R1, s1, A1, G1, F1⟩ =>
    ⟨ds, gs, r, Hb1, by rw [A1.length]; exact hl, hgs, R1.b1, A1, G1, hS, frk_K R1 G1 F1 s1 z fr⟩)
theorem kn_callC {S : List D → GS → FR → Prop} {Φ : List D → Prop} (C : Ctx X W N sc k) (F : Dg X.prog X.w X.K X.mg X.base x j (spC X.K n m S)) (h : AC X W ρ (e :: es) (fun ds gs => ds.length = n ∧ gs.length = m ∧ ∃ r, S ds gs r ∧ FRn Φ Z r) Z) (hj : j ≤ k := by omega) (hg : GlN sc x := by rfl) (hdb : (x == ("__debug__" : Str)) = false := by decide)
    (he : starEach (e :: es) X.env = (false, eval e X.env) :: starEach es X.env := by exact star_nst rfl) (hpl : (backTo pos (starEach es X.env)).any (·.1) = false := by rfl) : KN X W ρ ρ (.Call (.Name x p) (e :: es) [] pos) Φ Z := fun H0 σ Hb H R z => by
  obtain ⟨g, hm, F⟩ := F
  exact WE.of (pe_fnG C F hj hg hm hdb he hpl) ((h H0 σ Hb H R z).mono fun vs H1 ⟨ds, gs, Hb1, ⟨hl, hgs, r, hS, fr⟩, R1, s1, A1, G1, F1⟩ =>
    ⟨ds, gs, r, Hb1, by rw [A1.length]; exact hl, hgs, R1.b1, A1, G1, hS, frk_KN R1 G1 F1 s1 z fr⟩)
/-- the same where the own lists are the def's own: they are gone then -/
theorem kw_callP {S : List D → GS → FR → Prop} {gs : GS} (C : Ctx X W N sc k) (F : Dg X.prog X.w X.K X.mg X.base x j (spC X.K n m S)) (hgs : gs.length = m) (h : AW X W (ρ ++ gsl gs) (e :: es) (fun ds => ds.length = n ∧ ∃ r, S ds gs r ∧ FRd Φ Z r) NoZ) (hj : j ≤ k := by omega) (hg : GlN sc x := by rfl) (hdb : (x == ("__debug__" : Str)) = false := by decide)
    (he : starEach (e :: es) X.env = (false, eval e X.env) :: starEach es X.env := by exact star_nst rfl) (hpl : (backTo pos (starEach es X.env)).any (·.1) = false := by rfl) : KW X W (ρ ++ gsl gs) (ρ ++ ems gs) (.Call (.Name x p) (e :: es) [] pos) Φ Z := fun H0 σ Hb H R z => by
  obtain ⟨g, hm, F⟩ := F
  refine WE.of (pe_fnG C F hj hg hm hdb he hpl) (h.run R rz_no fun ds vs Hb1 H1 f1 R1 s1 A1 _ => ?_)
  obtain ⟨hl, r, hS, fr⟩ := f1
  obtain ⟨σ0, rfl, hl0⟩ := R1.sig
  obtain ⟨R2, G2, F2⟩ := R1.unghost
  have le : gs.length = (gsv gs).length := by unfold gsv; rw [List.length_map]
  refine ⟨ds, gs, r, Hb1, by rw [A1.length]; exact hl, hgs, R1.b1, A1, G2, hS, frk_K (R2.emt le) G2 (fun g hg => ⟨(F2 g hg).1, fun j q es hq => ?_⟩) s1.b z fr⟩
  rcases app_get hq with ⟨hi, hq⟩ | ⟨hi, hq⟩
  · rw [List.getElem?_append_left (by omega)]
    exact (F2 g hg).2 j q es hq
  · unfold ems at hq
    rw [List.getElem?_map] at hq
    cases e : gs[j - ρ.length]? with
    | none => rw [e] at hq; cases hq
    | some g => rw [e] at hq; cases hq
/-- .. by a name of the def's own -/
theorem kw_callPL {S : List D → GS → FR → Prop} {gs : GS} (C : Ctx X W N sc k) (F : FgX X f j (spC X.K n m S)) (hgs : gs.length = m) {i : Nat} (hρ : (ρ ++ gsl gs)[i]? = some (Sl.dat (.raw (.ref f)))) (h : AW X W (ρ ++ gsl gs) (e :: es) (fun ds => ds.length = n ∧ ∃ r, S ds gs r ∧ FRd Φ Z r) NoZ) (hj : j ≤ k := by omega)
    (hN : N[i]? = some x := by rfl) (hv : Vis sc x := by first | exact .inl rfl | exact .inr (.inl rfl) | exact .inr (.inr rfl)) (hdb : (x == ("__debug__" : Str)) = false := by decide) (hcd : (x == ("__classdict__" : Str)) = false := by decide)
    (he : starEach (e :: es) X.env = (false, eval e X.env) :: starEach es X.env := by exact star_nst rfl) (hpl : (backTo pos (starEach es X.env)).any (·.1) = false := by rfl) : KW X W (ρ ++ gsl gs) (ρ ++ ems gs) (.Call (.Name x p) (e :: es) [] pos) Φ Z := fun H0 σ Hb H R z => by
  obtain ⟨v, ev, av⟩ := R.dat i _ hρ
  cases av
  refine WE.of (pe_fnLG C F hj hN hv hdb hcd he hpl) ⟨ev, h.run R rz_no fun ds vs Hb1 H1 f1 R1 s1 A1 _ => ?_⟩
  obtain ⟨hl, r, hS, fr⟩ := f1
  obtain ⟨σ0, rfl, hl0⟩ := R1.sig
  obtain ⟨R2, G2, F2⟩ := R1.unghost
  have le : gs.length = (gsv gs).length := by unfold gsv; rw [List.length_map]
  refine ⟨ds, gs, r, Hb1, by rw [A1.length]; exact hl, hgs, R1.b1, A1, G2, hS, frk_K (R2.emt le) G2 (fun g hg => ⟨(F2 g hg).1, fun j q es hq => ?_⟩) s1.b z fr⟩
  rcases app_get hq with ⟨hi, hq⟩ | ⟨hi, hq⟩
  · rw [List.getElem?_append_left (by omega)]
    exact (F2 g hg).2 j q es hq
  · unfold ems at hq
    rw [List.getElem?_map] at hq
    cases e : gs[j - ρ.length]? with
    | none => rw [e] at hq; cases hq
    | some g => rw [e] at hq; cases hq
/-! tests -/
theorem kt_val {Φ : Bool → Prop} (h : KW X W ρ ρ e (fun d => ∃ t, d = .bl t ∧ Φ t) Z) (he : ∀ whole, isTrue e X.env whole = (do let v ← whole; standAt e.pos; holding [v] (truthy v)) := by intro _; rfl) : KT X W ρ e Φ Z := fun H0 σ Hb H R z =>
  WT.of (pt_val pe_w he) ((h H0 σ Hb H R z).mono fun v H1 ⟨d, Hb1, ⟨t, e, f⟩, R1, s1, a1⟩ => by
    subst e
    cases a1
    exact ⟨t, rfl, Hb1, f, R1, s1⟩)
theorem kt_not {Φ : Bool → Prop} (h : KT X W ρ a (fun t => Φ (!t)) Z) : KT X W ρ (.UnaryOp .Not a pos) Φ Z := fun H0 σ Hb H R z => WT.of (pt_not pt_w) ((h H0 σ Hb H R z).mono fun t H1 ⟨Hb1, f1, R1, s1⟩ => ⟨Hb1, f1, R1, s1⟩)
theorem kt_bool {Φ : Bool → Prop} (h : KB X W ρ e Φ Z) : KT X W ρ e Φ Z := fun H0 σ Hb H R z => WT.of pw_w.pt (h H0 σ Hb H R z)
theorem kb_or1 {Φ : Bool → Prop} (h : KT X W ρ a Φ Z) : KB X W ρ (.BoolOp .Or [a] pos) Φ Z := fun H0 σ Hb H R z => WW.of (pw_or1 pt_w) (h H0 σ Hb H R z)
theorem kb_or {Φ : Bool → Prop} {b : Expr} {rest : List Expr} (h : KT X W ρ a (fun t => (t = false → KB X W ρ (.BoolOp .Or (b :: rest) pos) Φ Z) ∧ (t = true → Φ true)) Z) : KB X W ρ (.BoolOp .Or (a :: b :: rest) pos) Φ Z := fun H0 σ Hb H R z =>
  WW.of (pw_or pt_w pw_w) ((h H0 σ Hb H R z).mono fun t H1 ⟨Hb1, f1, R1, s1⟩ => by
    cases t with
    | false =>
      rw [if_neg Bool.false_ne_true]
      exact (f1.1 rfl H0 σ Hb1 H1 R1 z).mono fun w H3 ⟨Hb3, f3, R3, s3⟩ => ⟨Hb3, f3, R3, L2.Same.trans s1 s3⟩
    | true =>
      rw [if_pos rfl]
      exact ⟨Hb1, f1.2 rfl, R1, s1⟩)
theorem kt_cmpX {Φ : Bool → Prop} {op : CmpOp} {r : R2} (ho : OpR X (compareOp op) r) (hm : R2mono r) (hk : behindInMarks op b = false) (h : KW X W ρ ρ a (fun x => EW X W ρ b (fun y => RR X r x y (fun d => ∃ t, d = .bl t ∧ Φ t)) Z) Z) : KT X W ρ (.Compare a [op] [b] pos) Φ Z := fun H0 σ Hb H R z =>
  WT.of (pt_cmpR ho pe_w pe_w hk) ((h H0 σ Hb H R z).mono fun v H1 ⟨x, Hb1, f1, R1, s1, a1⟩ => f1.run R1 z.rz fun y u Hb2 H2 f2 R2 s2 a2 _ =>
    hm _ _ _ _ _ (fun w H' q => by
      obtain ⟨d, Hc, ⟨t, e, f⟩, R3, s3, a3⟩ := q
      subst e
      cases a3
      exact ⟨t, rfl, Hc, f, R3, L2.Same.trans s1 (L2.Same.trans s2.b s3.b)⟩) (f2 H0 ρ σ Hb2 H2 v u R2 (a1.mono s2.b) a2))
theorem kt_ne {Φ : Bool → Prop} (C : Ctx X W N sc k) (h : KW X W ρ ρ a (fun x => EW X W ρ b (fun y => EqOk x y ∧ Φ (!eqD x y)) Z) Z) : KT X W ρ (.Compare a [.NotEq] [b] pos) Φ Z :=
  kt_cmpX (op_neG C.room.units) rEqG_mono (nomark _) (h.mono fun x h => h.mono fun y h => rr_eq (n := true) ⟨h.1, _, rfl, h.2⟩)
/-! statements -/
theorem sw_setK (C : CtxD X W N sc k) {i : Nat} (h : KW X W ρ ρ' e (fun d => SW X W (ρ'.set i (.dat d)) rest E) (fun A => E.ex A ρ')) (hi : N[i]? = some x := by rfl) (hx : Loc sc x := by first | exact .inl rfl | exact .inr rfl)
    (hs : swapsWith e (some (.Name x px)) pos.line X.env = pure false := by rfl) : SW X W ρ (.Assign [.Name x px] e pos :: rest) E := sw_cons fun H0 σ Hb H R xx =>
  WS.of (ps_set C.ndX (C.at hi) (C.loc hx) pe_w hs (.inl (C.fnD _))) ((h H0 σ Hb H R fun A Hb' H' z R' => xx A ρ' σ Hb' H' z R').mono fun v H' ⟨d, Hb', f, R', s, a⟩ => ⟨_, Hb', f, R'.setD i a⟩)
theorem sw_setKN (C : CtxD X W N sc k) {i : Nat} (h : KN X W ρ ρ' e (fun ds => SW X W (ρ'.set i (.own ds)) rest E) (fun A => E.ex A ρ')) (hi : N[i]? = some x := by rfl) (hx : Loc sc x := by first | exact .inl rfl | exact .inr rfl)
    (hs : swapsWith e (some (.Name x px)) pos.line X.env = pure false := by rfl) : SW X W ρ (.Assign [.Name x px] e pos :: rest) E := sw_cons fun H0 σ Hb H R xx =>
  WS.of (ps_set C.ndX (C.at hi) (C.loc hx) pe_w hs (.inl (C.fnD _))) ((h H0 σ Hb H R fun A Hb' H' z R' => xx A ρ' σ Hb' H' z R').mono fun v H' ⟨ds, Hb', p, xs, e, f, R', s, n, q, A, h0, fr⟩ => by
    subst e
    exact ⟨_, Hb', f, R'.setO i n q A h0 fr⟩)
theorem sw_retK (h : KW X W ρ ρ' e (fun d => E.rt (.ret d)) (fun A => E.ex A ρ')) : SW X W ρ (.Return (some e) pos :: rest) E := sw_cons fun H0 σ Hb H R xx =>
  WS.of (ps_ret pe_w) ((h H0 σ Hb H R fun A Hb' H' z R' => xx A ρ' σ Hb' H' z R').mono fun v H' ⟨d, Hb', f, R', s, a⟩ => ⟨.ret d, f, Hb', R'.back, a⟩)
theorem sw_retKN (h : KN X W ρ ρ' e (fun ds => E.rt (.new ds)) (fun A => E.ex A ρ')) : SW X W ρ (.Return (some e) pos :: rest) E := sw_cons fun H0 σ Hb H R xx =>
  WS.of (ps_ret pe_w) ((h H0 σ Hb H R fun A Hb' H' z R' => xx A ρ' σ Hb' H' z R').mono fun v H' ⟨ds, Hb', p, xs, e, f, R', s, n, q, A, h0, fr⟩ => ⟨.new ds, f, p, xs, Hb', e, h0, R'.back, n, q, A⟩)
theorem sw_ifK {c : Expr} {s1 s2 : List Stmt} (h : KT X W ρ c (fun t => (t = true → SW X W ρ s1 (thenD X W rest E)) ∧ (t = false → SW X W ρ s2 (thenD X W rest E))) (exz E ρ)) : SW X W ρ (.If c s1 s2 pos :: rest) E := sw_cons fun H0 σ Hb H R xx =>
  WS.of (ps_if pt_w pss_w pss_w) ((h H0 σ Hb H R fun A Hb' H' z R' => xx A ρ σ Hb' H' z R').mono fun t H1 ⟨Hb1, f1, R1, s1⟩ => by
    cases t with
    | true =>
      rw [if_pos rfl]
      exact f1.1 rfl H0 σ Hb1 H1 R1 xx
    | false =>
      rw [if_neg Bool.false_ne_true]
      exact f1.2 rfl H0 σ Hb1 H1 R1 xx)
/-! ### tables of code objects -/
abbrev TS2 := List (Addr × Str)
def TabsR (Ts : TS2) (Hb H : Hp) : Prop := ∀ t ∈ Ts, LamX.TabS H t.1 t.2 ∧ Hb t.1 = none
def tbl (Ts : TS2) : List Sl := Ts.map fun t => Sl.tb t.1 t.2
/-- without its tables -/
def noT (H : Hp) : Hp := fun b => match H b with
  | some (.tbl _) => none
  | x => x
theorem noT_no (H : Hp) (b : Addr) (ps : Array Value) : noT H b ≠ some (.tbl ps) := fun z => by
  unfold noT at z
  split at z
  · cases z
  · rename_i h
    exact h ps z
theorem noT_of {H : Hp} {b : Addr} {o : HO} (e : H b = some o) (h : ∀ ps, o ≠ .tbl ps) : noT H b = some o := by
  unfold noT
  split
  · rename_i ps e2
    rw [e] at e2
    exact absurd (Option.some.inj e2) (h ps)
  · exact e
theorem noT_same {H : Hp} : Same (noT H) H := fun b o e => by
  unfold noT at e
  split at e
  · cases e
  · exact e
theorem noT_ext {H : Hp} : LamX.ExtN H (noT H) := fun b o e h => noT_of e h
/-- without l, and without what is known of code objects -/
noncomputable def remC (H : Hp) (l : List Addr) : Hp := fun b => open Classical in if b ∈ l ∨ ∃ c q, H b = some (LamX.CodeO c q) then none else H b
theorem remC_iff {H : Hp} {l : List Addr} {b : Addr} {o : HO} : remC H l b = some o ↔ b ∉ l ∧ H b = some o ∧ ∀ c q, o ≠ LamX.CodeO c q := by
  unfold remC
  constructor
  · intro e
    split at e
    · cases e
    · rename_i h
      exact ⟨fun z => h (.inl z), e, fun c q z => h (.inr ⟨c, q, by rw [e, z]⟩)⟩
  · rintro ⟨h1, h2, h3⟩
    rw [if_neg]
    · exact h2
    · rintro (z | ⟨c, q, z⟩)
      · exact h1 z
      · rw [h2] at z
        exact h3 c q (Option.some.inj z)
theorem remC_same {H : Hp} {l : List Addr} : Same (remC H l) H := fun b o e => (remC_iff.mp e).2.1
theorem remC_none {H : Hp} {l : List Addr} {b : Addr} (h : b ∈ l) : remC H l b = none := by
  cases e : remC H l b with
  | none => rfl
  | some o => exact absurd h (remC_iff.mp e).1
theorem remC_noC {H : Hp} {l : List Addr} : NoC (remC H l) := fun b c q z => (remC_iff.mp z).2.2 c q rfl
/-- a def that makes a function: it stands on own lists that are new -/
def spM (K : PySem.W.Frag) (n : Nat) (Ts : TS2) (S : List D → (D → GS → Prop) → Prop) : Sp := fun vs H Q _ => ∃ (ds : List D) (Ψ : D → GS → Prop) (Hb : Hp), vs.length = n ∧ Same Hb H ∧ (∀ b ps, Hb b ≠ some (.tbl ps)) ∧ AtAll K Hb vs ds ∧ TabsR Ts Hb H ∧ S ds Ψ ∧
  ∀ v Hb' H' d gs, Back ⟨remC H (Ts.map Prod.fst), Hb⟩ Hb' H' → TabsR Ts Hb' H' → At K Hb' v d → Ψ d gs → Gh K Hb' H' gs → (∀ g ∈ gs, H g.1 = none) → Q v H'
/-- a def that makes functions and forgets them -/
def spT (K : PySem.W.Frag) (n : Nat) (Ts : TS2) (S : List D → D → Prop) : Sp := fun vs H Q _ => ∃ (ds : List D) (d : D) (Hb : Hp), vs.length = n ∧ Same Hb H ∧ AtAll K Hb vs ds ∧ TabsR Ts Hb H ∧ S ds d ∧
  ∀ v Hb' H', Back ⟨remC H (Ts.map Prod.fst), Hb⟩ Hb' H' → TabsR Ts Hb' H' → At K Hb' v d → Q v H'
/-- the slots' tables -/
structure TbIn (ρ : List Sl) (Ts : TS2) : Prop where
  has : ∀ t ∈ Ts, ∃ i : Nat, ρ[i]? = some (Sl.tb t.1 t.2)
  all : ∀ (j : Nat) (P : Addr) (q : Str), ρ[j]? = some (Sl.tb P q) → (P, q) ∈ Ts
  ne : Ts ≠ []
theorem tbs_of {K : PySem.W.Frag} {H0 : Ent} {σ : L2.St} {Hb H : Hp} {Ts : TS2} (R : Rel K H0 ρ σ Hb H) (ti : TbIn ρ Ts) : TabsR Ts Hb H ∧ (∀ t ∈ Ts, H0.h t.1 = none) ∧ NoC H0.h := by
  refine ⟨fun t ht => let ⟨i, hi⟩ := ti.has t ht; let ⟨t1, t2, _⟩ := R.tb i _ _ hi; ⟨t1, t2⟩, fun t ht => let ⟨i, hi⟩ := ti.has t ht; let ⟨_, _, t3, _⟩ := R.tb i _ _ hi; t3, ?_⟩
  cases Ts with
  | nil => exact absurd rfl ti.ne
  | cons t l =>
    obtain ⟨i, hi⟩ := ti.has t List.mem_cons_self
    exact (R.tb i _ _ hi).2.2.2
theorem Rel.calledT {K : PySem.W.Frag} {H0 : Ent} {σ : L2.St} {Hb H Hb' H' : Hp} {Ts : TS2} (R : Rel K H0 ρ σ Hb H) (ti : TbIn ρ Ts) (B : Back ⟨remC H (Ts.map Prod.fst), Hb⟩ Hb' H') (t' : TabsR Ts Hb' H') : Rel K H0 ρ σ Hb' H' := by
  obtain ⟨h1, h2, h3⟩ := tbs_of R ti
  have nl : ∀ {b o}, H b = some o → (∀ ps, o ≠ .tbl ps) → b ∉ Ts.map Prod.fst := fun {b o} e n z => by
    obtain ⟨t, ht, rfl⟩ := List.mem_map.mp z
    obtain ⟨⟨ps, e2, _⟩, _⟩ := h1 t ht
    rw [e] at e2
    exact n ps (Option.some.inj e2)
  have n0 : ∀ {b o}, H0.h b = some o → b ∉ Ts.map Prod.fst := fun {b o} e z => by
    obtain ⟨t, ht, rfl⟩ := List.mem_map.mp z
    rw [h2 t ht] at e
    cases e
  have up0 : ∀ {b o}, H0.h b = some o → remC H (Ts.map Prod.fst) b = some o := fun {b o} e => remC_iff.mpr ⟨n0 e, R.b0 _ _ e, fun c q z => h3 b c q (by rw [e, z])⟩
  refine ⟨fun b x hb => B.h b x (up0 hb), R.bb.trans B.b, fun a w0 w1 => ?_, B.s, fun i d h => ?_, fun i qq ds h => ?_, R.sep, R.len, fun i P q h => ?_⟩
  · cases e : H0.h a with
    | none => exact absurd e w1
    | some x => exact B.n a (R.bn a w0 w1) (by show remC H _ a ≠ none; rw [up0 e]; exact fun z => nomatch z)
  · obtain ⟨v, e, a⟩ := R.dat i d h
    exact ⟨v, e, a.mono B.b⟩
  · obtain ⟨a, xs, e, n, q, A, z⟩ := R.own i qq ds h
    have ec : remC H (Ts.map Prod.fst) a = some (.lst xs) := remC_iff.mpr ⟨nl q (fun ps z => nomatch z), q, codeO_lst⟩
    exact ⟨a, xs, e, B.n a n (by show remC H _ a ≠ none; rw [ec]; exact fun z => nomatch z), B.h _ _ ec, A.mono B.b, z⟩
  · have hm := ti.all i P q h
    exact ⟨(t' _ hm).1, (t' _ hm).2, h2 _ hm, h3⟩
theorem cw_make {Ts : TS2} {S : List D → (D → GS → Prop) → Prop} {Φ : D → GS → Prop} (C : Ctx X W N sc k) (F : Dg X.prog X.w X.K X.mg X.base x j (spM X.K n Ts S)) (ti : TbIn ρ Ts) (h : AW X W ρ (e :: es) (fun ds => ds.length = n ∧ ∃ Ψ, S ds Ψ ∧ ∀ d gs, Ψ d gs → Φ d gs) Z) (hj : j ≤ k := by omega) (hg : GlN sc x := by rfl) (hdb : (x == ("__debug__" : Str)) = false := by decide)
    (he : starEach (e :: es) X.env = (false, eval e X.env) :: starEach es X.env := by exact star_nst rfl) (hpl : (backTo pos (starEach es X.env)).any (·.1) = false := by rfl) : CW X W ρ (.Call (.Name x p) (e :: es) [] pos) Φ Z := fun H0 σ Hb H R z => by
  obtain ⟨g, hm, F⟩ := F
  refine WE.of (pe_fnG C F hj hg hm hdb he hpl) (h.run R z.rz fun ds vs Hb1 H1 f1 R1 s1 A1 _ => ?_)
  obtain ⟨hl, Ψ, hS, hΨ⟩ := f1
  obtain ⟨tt, t0, _⟩ := tbs_of R1 ti
  refine ⟨ds, Ψ, noT Hb1, by rw [A1.length]; exact hl, L2.Same.trans noT_same R1.b1, noT_no Hb1, A1.ext noT_ext, fun t ht => ⟨(tt t ht).1, L2.Same.free noT_same (tt t ht).2⟩, hS, fun v Hb' H' d gs B t' a ψ G fg => ?_⟩
  have notT : ∀ {b o}, Hb1 b = some o → b ∉ Ts.map Prod.fst := fun {b o} e z => by
    obtain ⟨t, ht, rfl⟩ := List.mem_map.mp z
    rw [(tt t ht).2] at e
    cases e
  have up : ∀ {b o}, Hb1 b = some o → H' b = some o := fun {b o} e => by
    rcases Classical.em (∃ ps, o = .tbl ps) with ⟨ps, rfl⟩ | hn
    · exact B.h b _ (remC_iff.mpr ⟨notT e, R1.b1 _ _ e, fun c q z => by unfold LamX.CodeO at z; cases z⟩)
    · exact B.s _ _ (B.b _ _ (noT_of e fun ps z => hn ⟨ps, z⟩))
  obtain ⟨Hm, hm1, hm2, hm3, hm4⟩ : ∃ Hm : Hp, Same Hb1 Hm ∧ Same Hb' Hm ∧ Same Hm H' ∧ ∀ b, Hb1 b = none → Hb' b = none → Hm b = none := by
    refine ⟨fun b => match Hb1 b with | some o => some o | none => Hb' b, fun b o e => by show (match Hb1 b with | some o => some o | none => Hb' b) = _; rw [e], fun b o e => ?_, fun b o e => ?_, fun b e1 e2 => by show (match Hb1 b with | some o => some o | none => Hb' b) = _; rw [e1]; exact e2⟩
    · show (match Hb1 b with | some o => some o | none => Hb' b) = _
      cases e2 : Hb1 b with
      | none => exact e
      | some o2 =>
        have h1 := up e2
        have h2 := B.s _ _ e
        rw [h1] at h2
        exact h2
    · have e : (match Hb1 b with | some o => some o | none => Hb' b) = some o := e
      cases e2 : Hb1 b with
      | none => rw [e2] at e; exact B.s _ _ e
      | some o2 => rw [e2] at e; cases e; exact up e2
  have Bm : Back ⟨remC H1 (Ts.map Prod.fst), Hb1⟩ Hm H' := ⟨B.h, hm1, hm3, fun a n1 n2 => hm4 a n1 (B.n a (L2.Same.free noT_same n1) n2)⟩
  have nm : ∀ g ∈ gs, Hm g.1 = none := fun g hg => hm4 _ (R1.b1.free (fg g hg)) (G.at_ g hg).1
  refine ⟨d, gs, Hm, hΨ d gs ψ, R1.calledT ti Bm (fun t ht => ⟨(t' t ht).1, hm4 _ (tt t ht).2 (t' t ht).2⟩), L2.Same.trans s1.b hm1, a.mono hm2, G.mono hm2 nm (fun g _ o e => e), fun g hg => ⟨R1.b0.free (fg g hg), fun i q es hq e => ?_⟩⟩
  obtain ⟨a, xs, e3, _, e4, _⟩ := R1.own i q es hq
  rw [e] at e3
  cases e3
  rw [fg g hg] at e4
  cases e4
theorem kw_callT {Ts : TS2} {S : List D → D → Prop} (C : Ctx X W N sc k) (F : Dg X.prog X.w X.K X.mg X.base x j (spT X.K n Ts S)) (ti : TbIn ρ Ts) (h : AW X W ρ (e :: es) (fun ds => ds.length = n ∧ ∃ d, S ds d ∧ Φ d) Z) (hj : j ≤ k := by omega) (hg : GlN sc x := by rfl) (hdb : (x == ("__debug__" : Str)) = false := by decide)
    (he : starEach (e :: es) X.env = (false, eval e X.env) :: starEach es X.env := by exact star_nst rfl) (hpl : (backTo pos (starEach es X.env)).any (·.1) = false := by rfl) : KW X W ρ ρ (.Call (.Name x p) (e :: es) [] pos) Φ Z := fun H0 σ Hb H R z => by
  obtain ⟨g, hm, F⟩ := F
  refine WE.of (pe_fnG C F hj hg hm hdb he hpl) (h.run R z.rz fun ds vs Hb1 H1 f1 R1 s1 A1 _ => ?_)
  obtain ⟨hl, d, hS, hΦ⟩ := f1
  exact ⟨ds, d, Hb1, by rw [A1.length]; exact hl, R1.b1, A1, (tbs_of R1 ti).1, hS, fun v Hb' H' B t' a => ⟨d, Hb', hΦ, R1.calledT ti B t', L2.Same.trans s1.b B.b, a⟩⟩
/-- such a def's end -/
def PsiT (K : PySem.W.Frag) (d : D) (Ts : TS2) : Hp → Hp → Hp → V → Prop := fun _ Hb H v => At K Hb v d ∧ TabsR Ts Hb H
def endT (K : PySem.W.Frag) (d : D) (Ts : TS2) : DE := { nx := fun _ => False, rt := fun r => r = .gen (PsiT K d Ts), ex := fun _ _ => False }
theorem sw_retT {Ts : TS2} {d : D} (ti : TbIn ρ Ts) (h : EW X W ρ e (fun d' => d' = d) NoZ) : SW X W ρ (.Return (some e) pos :: rest) (endT X.K d Ts) := sw_cons fun H0 σ Hb H R xx =>
  WS.of (ps_ret pe_w) (h.run R rz_no fun d' v Hb' H' f R' s a _ => by
    subst f
    exact ⟨.gen (PsiT X.K d' Ts), rfl, Hb', R'.back, a, (tbs_of R' ti).1⟩)
end
section
variable {P : Program} {w : World} {K : PySem.W.Frag} {mg : Str → Option Value} {base : Heap} {k : Nat} {qual : Str} {sc : Scope} {bd : List Stmt} {f : Addr} {N0 ps : List Str} {m : Nat} {Ts : TS2} {S : List D → D → Prop}
theorem Rel.tbs {H0 : Ent} {ρ : List Sl} {σ : L2.St} {Hb H : Hp} (R : Rel K H0 ρ σ Hb H) (t : TabsR Ts Hb H) (h0 : ∀ t ∈ Ts, H0.h t.1 = none) (hc : NoC H0.h) {τ : L2.St} (ht : Ts.length = τ.length) : Rel K H0 (ρ ++ tbl Ts) (σ ++ τ) Hb H := by
  have hl := R.len
  have get : ∀ {j : Nat} {u : Sl}, (tbl Ts)[j]? = some u → ∃ t ∈ Ts, u = .tb t.1 t.2 := fun {j u} h => by
    unfold tbl at h
    rw [List.getElem?_map] at h
    cases e : Ts[j]? with
    | none => rw [e] at h; cases h
    | some t => rw [e] at h; exact ⟨t, List.mem_of_getElem? e, (Option.some.inj h).symm⟩
  have key : ∀ {i : Nat} {u : Sl}, (∀ P q, u ≠ .tb P q) → (ρ ++ tbl Ts)[i]? = some u → ρ[i]? = some u ∧ (σ ++ τ)[i]? = σ[i]? := fun {i u} hu h => by
    rcases app_get h with ⟨hi, h⟩ | ⟨hi, h⟩
    · exact ⟨h, List.getElem?_append_left (by omega)⟩
    · obtain ⟨t, _, e⟩ := get h
      exact absurd e (hu _ _)
  refine ⟨R.b0, R.bb, R.bn, R.b1, fun i d h => ?_, fun i qq ds h => ?_, fun i j q1 q2 ds es a h1 h2 h3 h4 => ?_, by simp only [tbl, List.length_append, List.length_map, hl, ht], fun i P q h => ?_⟩
  · obtain ⟨h, e⟩ := key (by intro P q z; cases z) h
    rw [e]
    exact R.dat i d h
  · obtain ⟨h, e⟩ := key (by intro P q z; cases z) h
    rw [e]
    exact R.own i qq ds h
  · obtain ⟨h1, e1⟩ := key (by intro P q z; cases z) h1
    obtain ⟨h2, e2⟩ := key (by intro P q z; cases z) h2
    rw [e1] at h3
    rw [e2] at h4
    exact R.sep i j q1 q2 ds es a h1 h2 h3 h4
  · rcases app_get h with ⟨_, h⟩ | ⟨_, h⟩
    · exact R.tb i P q h
    · obtain ⟨t1, ht1, e⟩ := get h
      cases e
      exact ⟨(t _ ht1).1, (t _ ht1).2, h0 _ ht1, hc⟩
theorem body_T (Sc : FnScope N0 ps sc) (hm : Ts.length ≤ 3) (hp : phOk sc N0 = true)
    (body : ∀ (ds : List D) (d : D), S ds d → ds.length = ps.length → ∀ (X : Cx) (W : WX), Over X P w K mg base → CtxD X W (N0 ++ phs Ts.length) sc k → SW X W (startD N0 ds ++ tbl Ts) bd (endT K d Ts))
    (cdv : Value) (A : Around) (outer : List Env) (s : Shared) (H : Hp) (vs : List V) (Q : VK) (E : XK) (hr : Room k (A.deeper (envOfC qual sc s.heap.objs.size f cdv))) (h : spT K ps.length Ts S vs H Q E) :
    ∃ t, PSs (cxOf (L2.CX P w) P w K mg base (N0 ++ phs Ts.length) qual sc f cdv A outer s H E) bd t ∧ t { nx := fun _ H' => Q .non H', rt := Q } (L2.start (N0 ++ phs Ts.length) vs) H := by
  refine ⟨_, pss_w, ?_⟩
  obtain ⟨ds, d, Hb, e, sm, AA, T, hs, fk⟩ := h
  have hpl : ps.length ≤ N0.length := by have := congrArg List.length Sc.pre; rw [List.length_take] at this; omega
  have b := body ds d hs (by rw [← AA.length]; exact e) (cxOf (L2.CX P w) P w K mg base (N0 ++ phs Ts.length) qual sc f cdv A outer s H E) (fun cls d _ H => E cls d H) ⟨rfl, rfl, rfl, rfl, rfl⟩
    { hN := rfl, nd := (fnScope_ph Sc hp).nd, hs := rfl, room := hr, calm := rfl, tk := takes_of rfl rfl rfl rfl, own := passes_of rfl, fnD := fun _ => rfl, stk := rfl, frm := rfl, exn := rfl }
  have R0 := (rel_start (N := N0) sm AA).less (h' := remC H (Ts.map Prod.fst)) remC_same
  have R := R0.tbs (τ := List.replicate Ts.length none) T (fun t ht => remC_none (List.mem_map.mpr ⟨t, ht, rfl⟩)) remC_noC (by rw [List.length_replicate])
  have go := WSs.mono (b ⟨remC H (Ts.map Prod.fst), Hb⟩ _ Hb H R ?_) (D' := { nx := fun _ H' => Q .non H', rt := Q }) ?_ ?_ ?_ ?_
  · exact ⟨fun pins s1 I => go.go pins s1 (start_fill (by omega) hm (by rw [List.length_replicate]) rfl hp I)⟩
  · intro C ρ σ Hb' H' z R'
    exact z.elim
  · rintro σ' H' ⟨ρ', Hb', z, R'⟩
    exact z.elim
  · rintro v H' ⟨r', z, q⟩
    have z : r' = .gen (PsiT K d Ts) := z
    subst z
    obtain ⟨Hb', B, a, t'⟩ := q
    exact fk v Hb' H' B t' a
  · rintro _ _ ⟨_, _, z, _⟩
    exact z.elim
  · rintro _ _ ⟨_, _, z, _⟩
    exact z.elim
theorem spT_len {vs : List V} {H : Hp} {Q : VK} {E : XK} {n : Nat} (h : spT K n Ts S vs H Q E) : vs.length = n := by
  obtain ⟨ds, d, Hb, e, _⟩ := h
  exact e
theorem fnOk_defT {x : Str} {st : Stmt} {fd : FuncData} (F : Fun K x qual st f fd) (Sc : FnScope N0 ps (defScope st)) (hm : Ts.length ≤ 3) (hp : phOk (defScope st) N0 = true)
    (body : ∀ (ds : List D) (d : D), S ds d → ds.length = ps.length → ∀ (X : Cx) (W : WX), Over X P w K mg base → CtxD X W (N0 ++ phs Ts.length) (defScope st) k → SW X W (startD N0 ds ++ tbl Ts) (defBody st) (endT K d Ts)) : FnOk P w K mg base (L2.CX P w) (k + 1) f fd ps (spT K ps.length Ts S) :=
  F.okX (fnScope_ph Sc hp) (fun _ _ _ _ => spT_len) (body_T Sc hm hp body)
theorem fn_defT {x : Str} {st : Stmt} {fd : FuncData} (F : Fun K x qual st f fd) (Sc : FnScope N0 ps (defScope st)) (hb : Binds K fd ps []) (hm : Ts.length ≤ 3) (hp : phOk (defScope st) N0 = true)
    (body : ∀ (ds : List D) (d : D), S ds d → ds.length = ps.length → ∀ (X : Cx) (W : WX), Over X P w K mg base → CtxD X W (N0 ++ phs Ts.length) (defScope st) k → SW X W (startD N0 ds ++ tbl Ts) (defBody st) (endT K d Ts)) : FnG P w K mg base f (k + 1) (spT K ps.length Ts S) :=
  ⟨fd, ps, spT K ps.length Ts S, [], [], fnOk_defT F Sc hm hp body, F.kp, hb, .nil, fun vs H Q E h => by rw [List.append_nil]; exact h⟩
end
end DL
/-! functions made in a def -/
namespace DL
open PySem PySem.Spec PyProof.Rows L2 NdefX
/-! ### statements -/
section
variable {X : Cx} {W : WX} {ρ ρ' : List Sl} {Z : DZ} {N : List Str} {sc : Scope} {k j n m : Nat} {a b e : Expr} {es : List Expr} {pos p px py ps pc pa : Pos} {Φ : D → Prop} {f : Addr} {x y : Str} {E : DE} {rest : List Stmt}
theorem AtAll.set {K : PySem.W.Frag} {H : Hp} {v : V} {d : D} (a : At K H v d) : ∀ {vs : List V} {ds : List D} (i : Nat), AtAll K H vs ds → AtAll K H (vs.set i v) (ds.set i d)
  | _, _, _, .nil => .nil
  | _, _, 0, .cons _ t => .cons a t
  | _, _, i + 1, .cons q t => .cons q (AtAll.set a i t)
/-- y[0] = e, y an own list -/
theorem sw_stI (C : Ctx X W N sc k) {i : Nat} {kk : Nat} {qq : Option Addr} {ds : List D} (hρ : ρ[i]? = some (Sl.ow qq ds)) (h : EW X W ρ e (fun d => 0 < ds.length ∧ SW X W (ρ.set i (.ow qq (ds.set 0 d))) rest E) (exz E ρ)) (hi : N[i]? = some y := by rfl) (hx : Vis sc y := by first | exact .inl rfl | exact .inr (.inl rfl) | exact .inr (.inr rfl))
    (hd : (y == ("__debug__" : Str)) = false := by decide) (hcd : (y == ("__classdict__" : Str)) = false := by decide)
    (hp : ∀ to te, PE X (.Name y py) to → PE X e te → PS X (.Assign [.Subscript (.Name y py) (.Constant (.int 0) kk pc) ps] e pos) (tAsg te (gSub to (fun _ H Q => Q (.int 0) H) rSetL)) := by exact fun _ _ h1 h2 => ps_asg h2 (pg_sub h1 pe_int set_list)) :
    SW X W ρ (.Assign [.Subscript (.Name y py) (.Constant (.int 0) kk pc) ps] e pos :: rest) E := sw_cons fun H0 σ Hb H R xx =>
  WS.of (hp _ _ (pe_var (C.at hi) (C.vis hx) hd hcd) pe_w) (h.run R (RX.z xx) fun d v Hb' H' f R' s a _ => by
    obtain ⟨l, xs, e1, n, q, A, h0, _⟩ := R'.own i qq ds hρ
    have hl : 0 < xs.length := by rw [A.length]; exact f.1
    exact ⟨.ref l, e1, l, xs, 0, 0, rfl, rfl, q, (by unfold ixN; rw [if_pos (by decide), if_pos (by omega)]; rfl), ρ.set i (.ow qq (ds.set 0 d)), Hb', f.2, R'.push hρ e1 (A.set a 0)⟩)
/-- y.clear(), y an own list -/
theorem sw_clear (C : Ctx X W N sc k) {i : Nat} {qq : Option Addr} {ds : List D} (hρ : ρ[i]? = some (Sl.ow qq ds)) (h : SW X W (ρ.set i (.ow qq [])) rest E) (hi : N[i]? = some y := by rfl) (hx : Vis sc y := by first | exact .inl rfl | exact .inr (.inl rfl) | exact .inr (.inr rfl))
    (hd : (y == ("__debug__" : Str)) = false := by decide) (hcd : (y == ("__classdict__" : Str)) = false := by decide)
    (hp : ∀ to, PE X (.Name y py) to → PE X (.Call (.Attribute (.Name y py) "clear" pa) [] [] p) (tBM0 X.K "list" rClear to) := by exact fun _ h1 => pe_bm0 PySem.F.plainAttrs_list PySem.F.slot_list_clear PySem.F.type_list_clear mt_clear h1)
    (hs : swapsWith (.Call (.Attribute (.Name y py) "clear" pa) [] [] p) none pos.line X.env = pure false := by rfl) : SW X W ρ (.Expr (.Call (.Attribute (.Name y py) "clear" pa) [] [] p) pos :: rest) E := sw_cons fun H0 σ Hb H R xx => by
  obtain ⟨l, xs, e1, n, q, A, h0, _⟩ := R.own i qq _ hρ
  exact WS.of (ps_expr (hp _ (pe_var (C.at hi) (C.vis hx) hd hcd)) hs) ⟨.ref l, e1, .inl ⟨rfl, _, .inl (.inl q)⟩, l, xs, rfl, rfl, q, ρ.set i (.ow qq []), Hb, h, R.push hρ e1 .nil⟩
/-- the place of an own list -/
theorem ew_rawO (C : Ctx X W N sc k) {i : Nat} {qq : Option Addr} {ds : List D} (hρ : ρ[i]? = some (Sl.ow qq ds)) (h : ∀ v, Φ (.raw v)) (hi : N[i]? = some y := by rfl) (hx : Vis sc y := by first | exact .inl rfl | exact .inr (.inl rfl) | exact .inr (.inr rfl))
    (hd : (y == ("__debug__" : Str)) = false := by decide) (hcd : (y == ("__classdict__" : Str)) = false := by decide) : EW X W ρ (.Name y py) Φ Z := fun H0 σ Hb H R z => by
  obtain ⟨l, xs, e1, n, q, A, h0, _⟩ := R.own i qq _ hρ
  exact WE.of (pe_var (C.at hi) (C.vis hx) hd hcd) ⟨.ref l, e1, endE (h _) R Gr.refl (.raw _)⟩
/-- a def of the module as a function at hand -/
theorem ew_globC (C : Ctx X W N sc k) {f : Addr} (hm : X.mg x = some (.ref f)) (h : Φ (.clo f fun _ => True)) (hg : sc.names.lookup x = some .globalImplicit := by rfl) (hd : (x == ("__debug__" : Str)) = false := by decide) : EW X W ρ (.Name x pos) Φ Z :=
  ew_c (pe_glob (v := .ref f) (C.gl hg) hm rfl hd) (fun _ => .clo fun _ _ => trivial) h
/-- return e, told with what it stands on -/
theorem sw_retG {Ψ : Hp → Hp → Hp → V → Prop} (hr : E.rt (.gen Ψ)) (h : EW X W ρ e (fun d => ∀ (H0 : Ent) (σ : L2.St) (Hb H : Hp) (v : V), Rel X.K H0 ρ σ Hb H → At X.K Hb v d → Ψ H0.h Hb H v) (exz E ρ)) : SW X W ρ (.Return (some e) pos :: rest) E := sw_cons fun H0 σ Hb H R xx =>
  WS.of (ps_ret pe_w) (h.run R (RX.z xx) fun d v Hb' H' f R' s a _ => ⟨.gen Ψ, hr, Hb', R'.back, f H0 σ Hb' H' v R' a⟩)
/-- a tuple of an own list and a datum -/
def PsiP (K : PySem.W.Frag) (ds : List D) (d : D) : Hp → Hp → Hp → V → Prop := fun h0 Hb H v => ∃ (tp pl : Addr) (xs : List V) (u : V), v = .ref tp ∧ SqT K H tp [.ref pl, u] ∧ h0 pl = none ∧ Hb pl = none ∧ H pl = some (.lst xs) ∧ AtAll K Hb xs ds ∧ At K Hb u d
/-- return (x, e), x an own list -/
theorem sw_retP (C : Ctx X W N sc k) {i : Nat} {ds : List D} {d : D} {x1} {pt : Pos} (hρ : ρ[i]? = some (Sl.own ds)) (hr : E.rt (.gen (PsiP X.K ds d))) (h : EW X W ρ e (fun d' => d' = d) (exz E ρ)) (hi : N[i]? = some y := by rfl) (hx : Vis sc y := by first | exact .inl rfl | exact .inr (.inl rfl) | exact .inr (.inr rfl))
    (hd : (y == ("__debug__" : Str)) = false := by decide) (hcd : (y == ("__classdict__" : Str)) = false := by decide)
    (he : starEach [.Name y py, e] X.env = (false, eval (.Name y py) X.env) :: starEach [e] X.env := by exact star_nst rfl) (he2 : starEach [e] X.env = (false, eval e X.env) :: starEach [] X.env := by exact star_nst rfl) : SW X W ρ (.Return (some (.Tuple [.Name y py, e] x1 pt)) pos :: rest) E := sw_cons fun H0 σ Hb H R xx => by
  obtain ⟨l, xs, e1, _⟩ := R.own i _ _ hρ
  refine WS.of (ps_ret (pe_tupZ (pa_cons (pe_var (C.at hi) (C.vis hx) hd hcd) (pa_cons pe_w pa_nil he2) he))) ⟨.ref l, e1, h.run R (RX.z xx) fun d' v Hb' H' f R' s a _ => ⟨(by decide : 2 ≤ sizeLine), fun tp ob hp hdn => ?_⟩⟩
  subst f
  obtain ⟨l', ys, e2, n2, q2, A2, h2, _⟩ := R'.own i _ _ hρ
  rw [e1] at e2
  cases e2
  have ne : l ≠ tp := fun w => by rw [w, hp] at q2; cases q2
  have R2 := R'.allocN (o := .frz ob (.tup [.ref l, v])) hp
  exact ⟨.gen (PsiP X.K ds d'), hr, Hb', R2.back, tp, l, ys, v, rfl, .inl (.inr ⟨ob, upd_same⟩), h2, n2, by rw [upd_ne ne]; exact q2, A2, a⟩
end
/-! ### cells that stand as they are -/
def cellO (ob : Obj) : HO := .frz ob (.ext fun _ => True)
theorem cellO_at {P : Program} {w : World} {H : Hp} {h : Heap} {c : Addr} {ob : Obj} (hok : HOk P w H h) (e : H c = some (cellO ob)) : h.get? c = some ob := (hok c _ e).1
structure CellsK (cl : List (Str × Addr)) (fr : List Str) (ws : List V) (H : Hp) : Prop where
  len : ws.length = fr.length
  all : ∀ y c, cl.lookup y = some c → ∃ ob v, H c = some (cellO ob) ∧ ob.data = .cell v
  inj : ∀ x y c, cl.lookup x = some c → cl.lookup y = some c → x = y
  has : ∀ (i : Nat) (y : Str), fr[i]? = some y → ∃ c ob u v, cl.lookup y = some c ∧ H c = some (cellO ob) ∧ ob.data = .cell (some u) ∧ ws[i]? = some v ∧ L2.RelV v u
theorem CellsK.mono {cl : List (Str × Addr)} {fr : List Str} {ws : List V} {H H' : Hp} (C : CellsK cl fr ws H) (s : Same H H') : CellsK cl fr ws H' :=
  ⟨C.len, fun y c e => let ⟨ob, v, e1, e2⟩ := C.all y c e; ⟨ob, v, s _ _ e1, e2⟩, C.inj, fun i y e => let ⟨c, ob, u, v, h1, h2, h3⟩ := C.has i y e; ⟨c, ob, u, v, h1, s _ _ h2, h3⟩⟩
def addL (cs : List Addr) (H H' : Hp) : Hp := fun b => if b ∈ cs then H b else H' b
/-- the cells' places -/
def csOf (cl : List (Str × Addr)) : List Addr := (cl.map Prod.snd).filter fun c => cl.any fun q => decide (cl.lookup q.1 = some c)
theorem csOf_mem {cl : List (Str × Addr)} {c : Addr} : c ∈ csOf cl ↔ ∃ y, cl.lookup y = some c := by
  unfold csOf
  rw [List.mem_filter, List.any_eq_true]
  constructor
  · rintro ⟨_, q, _, e⟩
    exact ⟨q.1, of_decide_eq_true e⟩
  · rintro ⟨y, e⟩
    exact ⟨List.mem_map.mpr ⟨(y, c), PySem.mem_of_lookup e, rfl⟩, (y, c), PySem.mem_of_lookup e, decide_eq_true e⟩
section
variable {P : Program} {w : World} {K : PySem.W.Frag} {mg : Str → Option Value} {base : Heap} {A : Around} {outer : List Env} {s : Shared} {H : Hp} {F : NF} {f : Addr} {ps fr : List Str} {k : Nat} {sp : List (Option V) → Sp} {us : List Value} {vs ws : List V} {Q : VK} {E : XK}
/-- a made function is called from anywhere: its cells stand as they are -/
theorem clo_run (o : NOk P w K mg base (L2.CX P w) k f F ps fr sp) (hr : Room k A) (e0 : Env0 P w K mg base A outer s H) (hf : H f = some (NdefX.FnO f F)) (hc : H F.c = some (LamX.CodeO F.c F.qual)) (C : CellsK F.cl fr ws H) (r : Vals vs us)
    (q : sp (ws.map some) vs (remL H (csOf F.cl)) (fun v H' => (∀ c ∈ csOf F.cl, H' c = none) → Q v (addL (csOf F.cl) H H')) (fun _ _ _ => False)) : codeAny (model P w) A (.call (.ref f) ⟨us, []⟩) (CR (L2.CX P w) outer P w H s Q E) s := by
  have cell : ∀ {c}, c ∈ csOf F.cl → ∃ ob v, H c = some (cellO ob) ∧ ob.data = .cell v := fun {c} hm => by
    obtain ⟨y, e⟩ := csOf_mem.mp hm
    exact C.all y c e
  have nf : f ∉ csOf F.cl := fun z => by
    obtain ⟨ob, v, e, _⟩ := cell z
    rw [hf] at e
    unfold NdefX.FnO cellO at e
    cases e
  have nc : F.c ∉ csOf F.cl := fun z => by
    obtain ⟨ob, v, e, _⟩ := cell z
    rw [hc] at e
    unfold LamX.CodeO cellO at e
    cases e
  have hokm : HOk P w (remL H (csOf F.cl)) s.heap := fun a u e => by
    have ha : a ∉ csOf F.cl := fun z => by rw [remL_at z] at e; cases e
    rw [remL_ne ha] at e
    refine (e0.hok a u e).stay (fun _ _ _ z => z) (fun b z => ?_) fun b xs z => ?_
    · have hb : b ∉ csOf F.cl := fun y => by obtain ⟨ob, v, e2, _⟩ := cell y; rw [z] at e2; cases e2
      rw [remL_ne hb]
      exact z
    · have hb : b ∉ csOf F.cl := fun y => by obtain ⟨ob, v, e2, _⟩ := cell y; rw [z] at e2; cases e2
      rw [remL_ne hb]
      exact z
  have em : Env0 P w K mg base A outer s (remL H (csOf F.cl)) := ⟨e0.frames, e0.mod, fun b ob e => ⟨(e0.bs b ob e).1, L2.Same.free remL_same (e0.bs b ob e).2⟩, e0.bsz, e0.funs, fun b hb => L2.Same.free remL_same (e0.frf b hb), hokm, e0.bare⟩
  have CA : CellsAt F.cl fr (ws.map some) s.heap (remL H (csOf F.cl)) := by
    refine ⟨by rw [List.length_map]; exact C.len, fun y c e => ⟨remL_at (csOf_mem.mpr ⟨y, e⟩), ?_⟩, C.inj, fun i y e => ?_⟩
    · obtain ⟨ob, v, e1, e2⟩ := C.all y c e
      exact ⟨v, ob, cellO_at e0.hok e1, e2⟩
    · obtain ⟨c, ob, u, v, h1, h2, h3, h4, h5⟩ := C.has i y e
      refine ⟨c, h1, fun v' ev => ?_⟩
      rw [List.getElem?_map, h4] at ev
      have ev : some (some v) = some (some v') := ev
      cases ev
      exact ⟨u, h5, ob, cellO_at e0.hok h2, h3⟩
  refine codeAny_mono (o.run A outer s _ us vs (ws.map some) _ _ hr em (by rw [remL_ne nf]; exact hf) (by rw [remL_ne nc]; exact hc) CA r q) fun r s' hq => ?_
  cases r with
  | error e => obtain ⟨_, _, _, _, _, _, _, _, _, _, _, _, z⟩ := hq; exact z.elim
  | ok fl =>
    cases fl with
    | next => exact hq.elim
    | brk => exact hq.elim
    | cont => exact hq.elim
    | ret u =>
      obtain ⟨v, H', h1, h2, un, hok', rv, qq⟩ := hq
      have rn : ∀ {b : Addr}, H b = none → remL H (csOf F.cl) b = none := fun {b} z => L2.Same.free remL_same z
      have nm : ∀ {b : Addr} {u : HO}, H b = some u → (∀ ob x, u ≠ .frz ob x) → b ∉ csOf F.cl := fun {b u} e hu z => by
        obtain ⟨ob, v, e2, _⟩ := cell z
        rw [e] at e2
        exact hu _ _ (Option.some.inj e2)
      have gone : ∀ {c}, c ∈ csOf F.cl → H' c = none := fun {c} hm => by
        obtain ⟨ob, v, e, _⟩ := cell hm
        exact un.free c ob (cellO_at e0.hok e) (remL_at hm) (by simp)
      refine ⟨v, addL (csOf F.cl) H H', h1, h2, ⟨fun b ob e n hb hx => un.keep b ob e (rn n) hb hx, fun b ob e n hb hx => un.slot b ob e (rn n) hb hx, fun b ob e n hx => ?_, un.there, fun b xs e => ?_, fun b ob u e => ?_, fun b ps e => ?_⟩, fun a u e => ?_, rv, qq fun c hm => gone hm⟩
      · have hb : b ∉ csOf F.cl := fun z => by obtain ⟨_, _, e2, _⟩ := cell z; rw [n] at e2; cases e2
        show (if b ∈ csOf F.cl then _ else _) = _
        rw [if_neg hb]
        exact un.free b ob e (rn n) hx
      · have hb := nm e (by intro _ _ z; cases z)
        show (if b ∈ csOf F.cl then _ else _) = _
        rw [if_neg hb]
        exact un.tups b xs (by rw [remL_ne hb]; exact e)
      · show (if b ∈ csOf F.cl then _ else _) = _
        by_cases hb : b ∈ csOf F.cl
        · rw [if_pos hb]
          exact e
        · rw [if_neg hb]
          exact un.frzs b ob u (by rw [remL_ne hb]; exact e)
      · have hb := nm e (by intro _ _ z; cases z)
        obtain ⟨more, e2⟩ := un.tbls b ps (by rw [remL_ne hb]; exact e)
        exact ⟨more, by show (if b ∈ csOf F.cl then _ else _) = _; rw [if_neg hb]; exact e2⟩
      · have e : (if a ∈ csOf F.cl then H a else H' a) = some u := e
        by_cases ha : a ∈ csOf F.cl
        · rw [if_pos ha] at e
          obtain ⟨ob, v, e2, _⟩ := cell ha
          rw [e] at e2
          cases e2
          have g := cellO_at e0.hok e
          have g' := un.keep a ob g (remL_at ha) (fun z => by rw [e0.frf a z] at e; cases e) (by simp)
          exact ⟨g', trivial, ⟨ob, g'⟩, fun _ _ _ _ => trivial⟩
        · rw [if_neg ha] at e
          have up : ∀ {b : Addr} {o : HO}, H' b = some o → addL (csOf F.cl) H H' b = some o := fun {b o} z => by
            have hb : b ∉ csOf F.cl := fun y => by rw [gone y] at z; cases z
            show (if b ∈ csOf F.cl then _ else _) = _
            rw [if_neg hb]
            exact z
          exact (hok' a u e).stay (fun _ _ _ z => z) (fun b z => up z) fun b xs z => up z
end
/-! ### the made function's body, over data -/
/-- the end: told by Ψ -/
def endG (Ψ : Hp → Hp → Hp → V → Prop) : DE := { nx := fun _ => False, rt := fun r => r = .gen Ψ, ex := fun _ _ => False }
def spI (K : PySem.W.Frag) (N0 : List Str) (np m : Nat) (S : List Sl → (Hp → Hp → Hp → V → Prop) → Prop) (ws : List (Option V)) : Sp := fun vs H Q _ => ∃ (ρ : List Sl) (τ : L2.St) (H0 : Ent) (Hb : Hp) (Ψ : Hp → Hp → Hp → V → Prop), vs.length = np ∧ τ.length = m ∧ Rel K H0 ρ (startF N0 vs ws ++ τ) Hb H ∧ S ρ Ψ ∧ ∀ v H', RetAt K H0 (.gen Ψ) v H' → Q v H'
theorem nScope_ph {N0 ps fr : List Str} {sc : Scope} {m : Nat} (S : NScope N0 ps fr sc) (h : phOk sc N0 = true) : NScope (N0 ++ phs m) ps fr sc := by
  have hpl : ps.length + fr.length ≤ N0.length := by have := congrArg List.length S.pre; rw [List.length_take, List.length_append] at this; omega
  exact ⟨S.kind, S.co, S.gen, List.nodup_append.mpr ⟨S.nd, phs_nd m, fun a ha b hb e => (phs_vis h hb).2 (e ▸ ha)⟩, by rw [List.take_append_of_le_length hpl]; exact S.pre, S.par, S.nocell, S.free, S.frk⟩
theorem startF_fill {X : Cx} {pins : List (Addr × Obj)} {H : Hp} {s : Shared} {N0 : List Str} {m : Nat} {vs : List V} {ws : List (Option V)} {τ : L2.St} (hv : vs.length + ws.length ≤ N0.length) (hm : m ≤ 3) (ht : τ.length = m) (hN : X.N = N0 ++ phs m) (hp : phOk X.env.scope N0 = true) (I : Inv X pins (startF (N0 ++ phs m) vs ws) H s) : Inv X pins (startF N0 vs ws ++ τ) H s := by
  have pl := phs_len hm
  have hl : (startF N0 vs ws).length = N0.length := by
    unfold startF
    simp only [List.length_append, List.length_map, List.length_replicate]
    omega
  refine inv_fill I ?_ fun i v e => ?_
  · rw [List.length_append, hl]
    unfold startF
    simp only [List.length_append, List.length_map, List.length_replicate]
    omega
  · rcases app_get e with ⟨hi, e⟩ | ⟨hi, e⟩
    · refine .inl ?_
      unfold startF at e ⊢
      rcases app_get e with ⟨h2, e⟩ | ⟨h2, e⟩
      · rw [List.getElem?_append_left h2]
        exact e
      · rw [List.getElem?_append_right h2]
        rcases app_get e with ⟨h3, e⟩ | ⟨h3, e⟩
        · rw [List.getElem?_append_left h3]
          exact e
        · rw [List.getElem?_replicate] at e
          split at e <;> cases e
    · refine .inr fun x hx => ?_
      rw [hN, List.getElem?_append_right (by omega)] at hx
      exact (phs_vis hp (List.mem_of_getElem? hx)).1
theorem nok_I {P : Program} {w : World} {K : PySem.W.Frag} {mg : Str → Option Value} {base : Heap} {N0 ps fr : List Str} {F : NF} {f : Addr} {k m : Nat} {S : List Sl → (Hp → Hp → Hp → V → Prop) → Prop} (Sc : NScope N0 ps fr F.scope) (hm : m ≤ 3) (hp : phOk F.scope N0 = true) (hb : ∀ (doc pm ctv : Value) (us : List Value), us.length = ps.length → bindArgs (F.fd doc pm ctv) ⟨us, []⟩ = pure (ps.zip us))
    (body : ∀ (ρ : List Sl) (Ψ : Hp → Hp → Hp → V → Prop), S ρ Ψ → ∀ (X : Cx) (W : WX), Over X P w K mg base → Ctx X W (N0 ++ phs m) F.scope k → SW X W ρ F.body (endG Ψ)) : NOk P w K mg base (L2.CX P w) (k + 1) f F ps fr (spI K N0 ps.length m S) := by
  have hpl : ps.length + fr.length ≤ N0.length := by have := congrArg List.length Sc.pre; rw [List.length_take, List.length_append] at this; omega
  refine nok_of (nScope_ph (m := m) Sc hp) hb (fun ws vs H Q E h => ?_) fun A outer s H vs ws Q E hr hf hc hl h => ⟨_, pss_w, ?_⟩
  · obtain ⟨_, _, _, _, _, e, _⟩ := h
    exact e
  · obtain ⟨ρ, τ, H0, Hb, Ψ, e, et, R, hs, fk⟩ := h
    have b := body ρ Ψ hs (ncx (L2.CX P w) P w K mg base (N0 ++ phs m) F f A outer s H E) (fun cls d _ H => E cls d H) ⟨rfl, rfl, rfl, rfl, rfl⟩
      { hN := rfl, nd := (nScope_ph (m := m) Sc hp).nd, hs := rfl, room := hr, calm := rfl, tk := takes_of rfl rfl rfl rfl, own := passes_of rfl }
    have go := WSs.mono (b H0 _ Hb H R ?_) (D' := { nx := fun _ H' => Q .non H', rt := Q }) ?_ ?_ ?_ ?_
    · exact ⟨fun pins s1 I => go.go pins s1 (startF_fill (by omega) hm et rfl hp I)⟩
    · intro C ρ σ Hb' H' z R'
      exact z.elim
    · rintro σ' H' ⟨ρ', Hb', z, R'⟩
      exact z.elim
    · rintro v H' ⟨r', z, q⟩
      have z : r' = .gen Ψ := z
      subst z
      exact fk v H' q
    · rintro _ _ ⟨_, _, z, _⟩
      exact z.elim
    · rintro _ _ ⟨_, _, z, _⟩
      exact z.elim
end DL
/-! defs that make functions -/
namespace DL
open PySem PySem.Spec PyProof.Rows L2 NdefX
/-- a body that ends by return, its slots at the end told -/
structure WM (X : Cx) (sts : List Stmt) (σ : L2.St) (H : Hp) (R : V → L2.St → Hp → Prop) : Prop where
  go : ∀ (pins : List (Addr × Obj)) (s : Shared), Inv X pins σ H s → wpAny (model X.prog X.w) X.A (execs sts X.env) (fun fl s' => ∃ u v σ' H', fl = .ret u ∧ Inv X pins σ' H' s' ∧ RelV v u ∧ R v σ' H') X.xe s
section
variable {X : Cx} {st : Stmt} {rest : List Stmt} {σ : L2.St} {H : Hp} {R : V → L2.St → Hp → Prop} {N : List Str} {sc : Scope} {k : Nat} {W : WX} {x : Str} {p pos : Pos}
theorem wm_cons (h : WS X st { nx := fun σ' H' => WM X rest σ' H' R, rt := fun _ _ => False } σ H) : WM X (st :: rest) σ H R := ⟨fun pins s I => by
  refine wpAny_execs_cons (thn (h.go pins s I) fun fl s1 q => ?_)
  cases fl with
  | next => obtain ⟨σ1, H1, I1, q1⟩ := q; exact q1.go pins s1 I1
  | ret v => obtain ⟨_, _, _, _, _, z⟩ := q; exact z.elim
  | brk => obtain ⟨_, _, _, z⟩ := q; exact z.elim
  | cont => obtain ⟨_, _, _, z⟩ := q; exact z.elim⟩
theorem wm_ret (C : Ctx X W N sc k) {i : Nat} {v : V} (hσ : σ[i]? = some (some v)) (h : R v σ H) (hi : N[i]? = some x := by rfl) (hx : Vis sc x := by first | exact .inl rfl | exact .inr (.inl rfl) | exact .inr (.inr rfl)) (hd : (x == ("__debug__" : Str)) = false := by decide) (hcd : (x == ("__classdict__" : Str)) = false := by decide) : WM X [.Return (some (.Name x p)) pos] σ H R := ⟨fun pins s I => by
  refine wpAny_execs_cons (wpAny_Return_some (thn ((pe_var (pos := p) (C.at hi) (C.vis hx) hd hcd).run pins s σ H (fun v' H1 => v' = v ∧ H1 = H) I ⟨v, hσ, rfl, rfl⟩) fun u s1 ⟨v', H1, I1, r1, q⟩ => ?_))
  obtain ⟨rfl, rfl⟩ := q
  exact ⟨u, v', σ, H1, rfl, I1, r1, h⟩⟩
end
/-! ### the end: the cells stand as they are from then on; tables that the def does not know are put aside -/
def hidB (H : Hp) (l : List Addr) (b : Addr) : Bool := match H b with
  | some (.tbl _) => decide (b ∉ l)
  | _ => false
theorem hidB_iff {H : Hp} {l : List Addr} {b : Addr} : hidB H l b = true ↔ (∃ ps, H b = some (.tbl ps)) ∧ b ∉ l := by
  unfold hidB
  split
  · rename_i ps e
    rw [decide_eq_true_eq]
    exact ⟨fun h => ⟨⟨ps, e⟩, h⟩, fun h => h.2⟩
  · rename_i hn
    exact ⟨(fun z => nomatch z), fun ⟨⟨ps, e⟩, _⟩ => absurd e (hn ps)⟩
def hideT (H : Hp) (l : List Addr) : Hp := fun b => if hidB H l b = true then none else H b
theorem hideT_same {H : Hp} {l : List Addr} : Same (hideT H l) H := fun b x e => by
  have e : (if hidB H l b = true then none else H b) = some x := e
  split at e
  · cases e
  · exact e
theorem hideT_keep {H : Hp} {l : List Addr} {b : Addr} {x : HO} (e : H b = some x) (h : (∀ ps, x ≠ .tbl ps) ∨ b ∈ l) : hideT H l b = some x := by
  show (if hidB H l b = true then none else H b) = some x
  rw [if_neg (fun z => ?_)]
  · exact e
  · obtain ⟨⟨ps, e2⟩, h2⟩ := hidB_iff.mp z
    rcases h with h | h
    · rw [e] at e2
      exact h ps (Option.some.inj e2)
    · exact h2 h
theorem hideT_tbl {H : Hp} {l : List Addr} {b : Addr} {ps : Array Value} (e : hideT H l b = some (.tbl ps)) : b ∈ l := by
  have e : (if hidB H l b = true then none else H b) = some (.tbl ps) := e
  split at e
  · cases e
  · rename_i h
    rcases Classical.em (b ∈ l) with z | z
    · exact z
    · exact absurd (hidB_iff.mpr ⟨⟨ps, e⟩, z⟩) h
def fin (H : Hp) (l : List Addr) (cl : List (Str × Addr)) (ob : Addr → Obj) (H' : Hp) : Hp := fun b => if b ∈ csOf cl then some (cellO (ob b)) else if hidB H l b = true then H b else H' b
/-- what the cells hold at the end -/
def CellsOf (X : Cx) (σ : L2.St) (ob : Addr → Obj) : Prop := ∀ y c, X.env.cells.lookup y = some c → (∃ v, (ob c).data = .cell v) ∧ ∀ (i : Nat) (v : V), X.N[i]? = some y → σ[i]? = some (some v) → X.env.scope.names.lookup y = some .cell → ∃ u, RelV v u ∧ (ob c).data = .cell (some u)
structure EndM (H : Hp) (l : List Addr) (cl : List (Str × Addr)) (H' : Hp) : Prop where
  cell : ∀ c ∈ csOf cl, H c = none ∧ H' c = none
  hid : ∀ b, hidB H l b = true → H' b = none
  inj : ∀ x y c, cl.lookup x = some c → cl.lookup y = some c → x = y
theorem EndM.up {H H2 : Hp} {l : List Addr} {cl : List (Str × Addr)} {ob : Addr → Obj} (em : EndM H l cl H2) {b : Addr} {o : HO} (e : H2 b = some o) : fin H l cl ob H2 b = some o := by
  show (if b ∈ csOf cl then _ else if hidB H l b = true then _ else _) = _
  rw [if_neg (fun z => by rw [(em.cell b z).2] at e; cases e), if_neg (fun z => by rw [em.hid b z] at e; cases e)]
  exact e
def mkB (cl : List (Str × Addr)) (ob : Addr → Obj) (f1 c' : Addr) (H2 Hb2 : Hp) : Hp := fun b => if b ∈ csOf cl then some (cellO (ob b)) else if b = f1 ∨ b = c' then H2 b else Hb2 b
/-- what is known at the end -/
theorem maker_end {H Hb H2 Hb2 : Hp} {l : List Addr} {cl : List (Str × Addr)} {ob : Addr → Obj} {f1 c' : Addr} {uf : HO} {q : Str} (em : EndM H l cl H2) (e2 : ∀ b o, (∀ ps, o ≠ .tbl ps) → (∀ c q, o ≠ LamX.CodeO c q) → H b = some o → H2 b = some o)
    (B2 : Same Hb Hb2) (S2 : Same Hb2 H2) (N2 : ∀ a o, Hb a = none → H a = some o → (∀ c q, o ≠ LamX.CodeO c q) → Hb2 a = none) (f0 : ∀ o, hideT H l f1 = some o → ∃ c q, o = LamX.CodeO c q) (f1e : H2 f1 = some uf) (c1 : H2 c' = some (LamX.CodeO c' q)) :
    ∃ Hb3, Back ⟨remC H l, Hb⟩ Hb3 (fin H l cl ob H2) ∧ Same Hb2 Hb3 ∧ Hb3 f1 = some uf ∧ Hb3 c' = some (LamX.CodeO c' q) ∧ (∀ c ∈ csOf cl, Hb3 c = some (cellO (ob c))) ∧ ∀ a, Hb2 a = none → a ≠ f1 → a ≠ c' → a ∉ csOf cl → Hb3 a = none := by
  have nf : f1 ∉ csOf cl := fun z => by rw [(em.cell f1 z).2] at f1e; cases f1e
  have nc : c' ∉ csOf cl := fun z => by rw [(em.cell c' z).2] at c1; cases c1
  have cy : ∀ {b}, b ∈ csOf cl → mkB cl ob f1 c' H2 Hb2 b = some (cellO (ob b)) := fun {b} h => if_pos h
  have cn : ∀ {b}, b ∉ csOf cl → (b = f1 ∨ b = c') → mkB cl ob f1 c' H2 Hb2 b = H2 b := fun {b} h h2 => (if_neg h).trans (if_pos h2)
  have co : ∀ {b}, b ∉ csOf cl → ¬ (b = f1 ∨ b = c') → mkB cl ob f1 c' H2 Hb2 b = Hb2 b := fun {b} h h2 => (if_neg h).trans (if_neg h2)
  have b2 : Same Hb2 (mkB cl ob f1 c' H2 Hb2) := fun b o e => by
    have hb : b ∉ csOf cl := fun z => by have := S2 _ _ e; rw [(em.cell b z).2] at this; cases this
    by_cases h : b = f1 ∨ b = c'
    · rw [cn hb h]
      exact S2 _ _ e
    · rw [co hb h]
      exact e
  refine ⟨mkB cl ob f1 c' H2 Hb2, ⟨fun b x e => ?_, L2.Same.trans B2 b2, fun b x e => ?_, fun a n1 n2 => ?_⟩, b2, (cn nf (.inl rfl)).trans f1e, (cn nc (.inr rfl)).trans c1, fun c hc => cy hc, fun a n h1 h2 h3 => (co h3 (fun z => z.elim h1 h2)).trans n⟩
  · obtain ⟨h1, h2, h3⟩ := remC_iff.mp e
    have hb : b ∉ csOf cl := fun z => by rw [(em.cell b z).1] at h2; cases h2
    by_cases hh : hidB H l b = true
    · show (if b ∈ csOf cl then _ else if hidB H l b = true then _ else _) = _
      rw [if_neg hb, if_pos hh]
      exact h2
    · refine em.up (e2 b x (fun ps z => hh (hidB_iff.mpr ⟨⟨ps, by rw [h2, z]⟩, h1⟩)) h3 h2)
  · by_cases hb : b ∈ csOf cl
    · rw [cy hb] at e
      show (if b ∈ csOf cl then _ else if hidB H l b = true then _ else _) = _
      rw [if_pos hb]
      exact e
    · by_cases h : b = f1 ∨ b = c'
      · rw [cn hb h] at e
        exact em.up e
      · rw [co hb h] at e
        exact em.up (S2 _ _ e)
  · have n2 : remC H l a ≠ none := n2
    cases e : remC H l a with
    | none => exact absurd e n2
    | some o =>
      obtain ⟨h1, h2, h3⟩ := remC_iff.mp e
      have hb : a ∉ csOf cl := fun z => by rw [(em.cell a z).1] at h2; cases h2
      have hid : ∀ ps, o = .tbl ps → H2 a = none := fun ps z => em.hid a (hidB_iff.mpr ⟨⟨ps, by rw [h2, z]⟩, h1⟩)
      have h : ¬ (a = f1 ∨ a = c') := by
        rintro (rfl | rfl)
        · cases hh : hidB H l a with
          | true =>
            rw [em.hid a hh] at f1e
            cases f1e
          | false =>
            obtain ⟨c, q, z⟩ := f0 o (by show (if hidB H l a = true then none else H a) = some o; rw [if_neg (by rw [hh]; decide)]; exact h2)
            exact h3 c q z
        · rcases Classical.em (∃ ps, o = .tbl ps) with ⟨ps, z⟩ | hn
          · rw [hid ps z] at c1
            cases c1
          · have := e2 a o (fun ps z => hn ⟨ps, z⟩) h3 h2
            rw [c1] at this
            exact h3 _ _ (Option.some.inj this).symm
      exact (co hb h).trans (N2 a o n1 h2 h3)
section
variable {P : Program} {w : World} {K : PySem.W.Frag} {mg : Str → Option Value} {base : Heap} {k : Nat} {f : Addr} {name qual : Str} {params : Arguments} {body : List Stmt} {scope : Scope} {dV kV doc pm cdv ct oc : Value} {an od : Option Addr} {osl : Array (Option Value)} {N ps : List Str} {sp : Sp}
/-- THE RULE for a def that makes a function and returns it -/
theorem fn_maker (lk : K.lookup f = some ⟨oc, od, .func (PySem.W.fnOf name qual params body scope dV kV doc pm an cdv ct), osl⟩) (hcd : PySem.W.codeIn K cdv qual = true) (S : FnScope N ps scope) (l : List Addr) (len : ∀ vs H Q E, sp vs H Q E → vs.length = ps.length)
    (hbody : ∀ (A : Around) (outer : List Env) (s : Shared) (H : Hp) (vs : List V) (Q : VK) (E : XK), Room k (A.deeper (envOfC qual scope s.heap.objs.size f cdv)) → Env0 P w K mg base A outer s H → sp vs H Q E →
      WM (cxOf (L2.CX P w) P w K mg base N qual scope f cdv A outer s (hideT H l) fun _ _ _ => False) body (L2.start N vs) (hideT H l) fun v σ' H' => ∀ ob, CellsOf (cxOf (L2.CX P w) P w K mg base N qual scope f cdv A outer s (hideT H l) fun _ _ _ => False) σ' ob →
        EndM H l (cellsFrom (s.heap.objs.size + 1) scope.names []) H' → Q v (fin H l (cellsFrom (s.heap.objs.size + 1) scope.names []) ob H')) :
    FnOk P w K mg base (L2.CX P w) (k + 1) f (PySem.W.fnOf name qual params body scope dV kV doc pm an cdv ct) ps sp := by
  refine ⟨len, fun A outer s H args us vs Q E hr e0 hb r hsp => ?_⟩
  have hl := len _ _ _ _ hsp
  have kin : K.In s.heap := e0.mod.kin.keeps fun b o e => (e0.bs b o e).1
  have par : ∀ y ∈ ps.zip us, scope.names.lookup y.1 = some .local ∨ (scope.names.lookup y.1 = some .cell ∧ ((cellsFrom (s.heap.objs.size + 1) scope.names []).lookup y.1).isSome = true) := fun y hy => by
    rcases S.par y.1 (List.of_mem_zip (show (y.1, y.2) ∈ ps.zip us from hy)).1 with q | q
    · exact .inl q
    · exact .inr ⟨q, PySem.W.cellsFrom_some _ _ _ (.inl q)⟩
  -- what is put aside is forgotten
  have hokm : HOk P w (hideT H l) s.heap := fun a u e => (e0.hok a u (hideT_same _ _ e)).stay (fun _ _ _ z => z) (fun b z => hideT_keep z (.inl (by intro ps z; cases z))) fun b xs z => hideT_keep z (.inl (by intro ps z; cases z))
  have em : Env0 P w K mg base A outer s (hideT H l) := ⟨e0.frames, e0.mod, fun b ob e => ⟨(e0.bs b ob e).1, L2.Same.free hideT_same (e0.bs b ob e).2⟩, e0.bsz, e0.funs, fun b hb => L2.Same.free hideT_same (e0.frf b hb), hokm, e0.bare⟩
  refine codeAny_call_function hr.depth (kin _ _ lk) rfl S.co S.gen rfl (PySem.W.codeRec_of kin hcd) (hb _ _ _ _ ?_)
  refine wpAny_newFunctionEnv_cells S.kind par fun env he s1 x => ?_
  subst he
  refine ⟨(e0.mod.nolimit.keeps fun b o e => (e0.bs b o e).1).keeps x.toInCall.keep, codeAny_func ?_⟩
  have I : Inv (cxOf (L2.CX P w) P w K mg base N qual scope f cdv A outer s (hideT H l) fun _ _ _ => False) [] (L2.start N vs) (hideT H l) s1 := inv_start S hr.hd em hl r x
  refine wpAny_mono ((hbody A outer s H vs Q E (hr.deeper _) e0 hsp).go [] s1 I) (fun fl s' hs => ?_) fun e s' hs => wpAny_mono hs (fun _ _ z => ?_) fun _ _ z => ?_
  rotate_left
  · obtain ⟨_, _, _, _, _, _, _, _, _, _, _, _, z⟩ := z
    exact z.elim
  · obtain ⟨_, _, _, _, _, _, _, _, _, _, _, _, z⟩ := z
    exact z.elim
  obtain ⟨u, v, σ', H', rfl, J, rv, q⟩ := hs
  obtain ⟨cl, hcl⟩ : ∃ cl, cl = cellsFrom (s.heap.objs.size + 1) scope.names [] := ⟨_, rfl⟩
  have above : ∀ {y c}, cl.lookup y = some c → s.heap.objs.size ≤ c := fun {y c} e => J.ok.cab y c rfl (by rw [hcl] at e; exact e)
  have free : ∀ {y c}, cl.lookup y = some c → H' c = none := fun {y c} e => J.freeC y c (by rw [hcl] at e; exact e)
  have cell : ∀ {y c}, cl.lookup y = some c → ∃ v, s'.heap.IsCell c v := fun {y c} e => J.cell y c (by rw [hcl] at e; exact e)
  have csA : ∀ {c}, c ∈ csOf cl → s.heap.objs.size ≤ c ∧ H' c = none := fun {c} hm => let ⟨y, e⟩ := csOf_mem.mp hm; ⟨above e, free e⟩
  have old : ∀ {b o}, s.heap.get? b = some o → b ∉ csOf cl := fun {b o} e z => by
    exact absurd (Nat.lt_of_lt_of_le (Heap.lt_size e) (csA z).1) (Nat.lt_irrefl _)
  have oldH : ∀ {b u}, H b = some u → b ∉ csOf cl := fun {b u} e z => by
    exact absurd (Nat.lt_of_lt_of_le (e0.hok.lt e) (csA z).1) (Nat.lt_irrefl _)
  obtain ⟨ob, hob⟩ : ∃ ob : Addr → Obj, ∀ b o, s'.heap.get? b = some o → ob b = o := ⟨fun b => (s'.heap.get? b).getD default, fun b o e => by show (s'.heap.get? b).getD default = o; rw [e]; rfl⟩
  have ga : ∀ {c}, c ∈ csOf cl → s'.heap.get? c = some (ob c) := fun {c} hm => by
    obtain ⟨y, e⟩ := csOf_mem.mp hm
    obtain ⟨v, o, ho, _⟩ := cell e
    rw [hob _ _ ho]
    exact ho
  have B := J.base
  have hidE : ∀ {b}, hidB H l b = true → ∃ ps, H b = some (.tbl ps) ∧ s.heap.get? b = some { cls := .none, data := .fields ps } ∧ s'.heap.get? b = some { cls := .none, data := .fields ps } ∧ H' b = none := fun {b} hb => by
    obtain ⟨⟨ps, e⟩, _⟩ := hidB_iff.mp hb
    have g : s.heap.get? b = some { cls := .none, data := .fields ps } := e0.hok b _ e
    have hm : hideT H l b = none := if_pos hb
    exact ⟨ps, e, g, B.keep b _ g hm (fun z => by rw [e0.frf b z] at e; cases e) (by exact fun z => nomatch z), B.free b _ g hm (by exact fun z => nomatch z)⟩
  have qq := q ob (fun y c e => by
    have e2 : cl.lookup y = some c := by rw [hcl]; exact e
    obtain ⟨v, o, ho, hd⟩ := cell e2
    refine ⟨⟨v, by rw [hob _ _ ho]; exact hd⟩, fun i v hi hv hvis => ?_⟩
    obtain ⟨m, hn, hl'⟩ := J.loc
    obtain ⟨u, r1, lo⟩ := hl' i y v hi hv (.inr (.inl hvis))
    rcases lo with ⟨z, _⟩ | ⟨_, c', hc', o', ho', hd'⟩
    · have z : scope.names.lookup y = some .local := z
      have hvis : scope.names.lookup y = some .cell := hvis
      rw [hvis] at z
      cases z
    · have e3 : (cellsFrom (s.heap.objs.size + 1) scope.names []).lookup y = some c := e
      have hc' : (cellsFrom (s.heap.objs.size + 1) scope.names []).lookup y = some c' := hc'
      rw [e3] at hc'
      cases hc'
      rw [ho] at ho'
      cases ho'
      exact ⟨u, r1, by rw [hob _ _ ho]; exact hd'⟩) (by rw [← hcl]; exact ⟨fun c hc => ⟨L2.Same.free (fun b u e => e) (by cases e : H c with | none => rfl | some u => exact absurd hc (oldH e)), (csA hc).2⟩, fun b hb => (hidE hb).choose_spec.2.2.2, fun x y c e1 e2 => J.ok.inj x y c (by rw [hcl] at e1; exact e1) (by rw [hcl] at e2; exact e2)⟩)
  rw [← hcl] at qq
  have fnone : ∀ {b}, H' b = none → b ∉ csOf cl → hidB H l b = false → fin H l cl ob H' b = none := fun {b} e1 e2 e3 => by
    show (if b ∈ csOf cl then _ else if hidB H l b = true then _ else _) = _
    rw [if_neg e2, if_neg (by rw [e3]; decide)]
    exact e1
  have fup : ∀ {b o}, H' b = some o → fin H l cl ob H' b = some o := fun {b o} e => by
    show (if b ∈ csOf cl then _ else if hidB H l b = true then _ else _) = _
    rw [if_neg (fun z => by rw [(csA z).2] at e; cases e), if_neg (fun z => by obtain ⟨_, _, _, _, n⟩ := hidE z; rw [n] at e; cases e)]
    exact e
  refine ⟨v, fin H l cl ob H', J.os, J.bare, ⟨fun b o e n hb hx => B.keep b o e (L2.Same.free hideT_same n) hb hx, fun b o e n hb hx => B.slot b o e (L2.Same.free hideT_same n) hb hx, fun b o e n hx => ?_, B.there, fun b xs e => ?_, fun b o u e => ?_, fun b ps e => ?_⟩, fun a u e => ?_, rv, qq⟩
  · refine fnone (B.free b o e (L2.Same.free hideT_same n) hx) (old e) ?_
    cases hh : hidB H l b with
    | false => rfl
    | true => obtain ⟨ps, e2, _⟩ := hidE hh; rw [n] at e2; cases e2
  · exact fup (B.tups b xs (hideT_keep e (.inl (by intro ps z; cases z))))
  · exact fup (B.frzs b o u (hideT_keep e (.inl (by intro ps z; cases z))))
  · cases hh : hidB H l b with
    | true =>
      refine ⟨#[], ?_⟩
      show (if b ∈ csOf cl then _ else if hidB H l b = true then _ else _) = _
      rw [if_neg (oldH e), if_pos hh, e]
      simp
    | false =>
      have e2 : hideT H l b = some (.tbl ps) := by
        show (if hidB H l b = true then none else H b) = _
        rw [if_neg (by rw [hh]; decide)]
        exact e
      obtain ⟨more, e3⟩ := B.tbls b ps e2
      exact ⟨more, fup e3⟩
  · have e : (if a ∈ csOf cl then some (cellO (ob a)) else if hidB H l a = true then H a else H' a) = some u := e
    by_cases ha : a ∈ csOf cl
    · rw [if_pos ha] at e
      cases e
      exact ⟨ga ha, trivial, ⟨ob a, ga ha⟩, fun _ _ _ _ => trivial⟩
    · rw [if_neg ha] at e
      by_cases hh : hidB H l a = true
      · rw [if_pos hh] at e
        obtain ⟨ps, e2, _, g, _⟩ := hidE hh
        rw [e] at e2
        cases e2
        exact g
      · rw [if_neg hh] at e
        exact (J.hok a u e).stay (fun _ _ _ z => z) (fun b z => fup z) fun b xs z => fup z
end
end DL
/-! made functions, over data -/
namespace DL
open PySem PySem.Spec PyProof.Rows L2 NdefX
/-- what stands for good -/
def Sup (L : List (Addr × HO)) (H : Hp) : Prop := ∀ q ∈ L, H q.1 = some q.2
def NoTs (L : List (Addr × HO)) : Prop := ∀ q ∈ L, ∀ ps, q.2 ≠ .tbl ps
theorem Sup.ext {L : List (Addr × HO)} {H H' : Hp} (h : Sup L H) (n : NoTs L) (e : LamX.ExtN H H') : Sup L H' := fun q hq => e _ _ (h q hq) (n q hq)
theorem Sup.same {L : List (Addr × HO)} {H H' : Hp} (h : Sup L H) (e : Same H H') : Sup L H' := fun q hq => e _ _ (h q hq)
theorem Sup.remL {L : List (Addr × HO)} {H : Hp} {l : List Addr} (h : Sup L H) (d : ∀ q ∈ L, q.1 ∉ l) : Sup L (DL.remL H l) := fun q hq => by rw [remL_ne (d q hq)]; exact h q hq
theorem at_clo {K : PySem.W.Frag} {H : Hp} {f : Addr} {L : List (Addr × HO)} (h : Sup L H) (n : NoTs L) : At K H (.ref f) (.clo f (Sup L)) := .clo fun _ e => h.ext n e
theorem noT_fn {f : Addr} {F : NF} : ∀ ps, NdefX.FnO f F ≠ .tbl ps := fun ps z => by unfold NdefX.FnO at z; cases z
theorem noT_code {c : Addr} {q : Str} : ∀ ps, LamX.CodeO c q ≠ .tbl ps := fun ps z => by unfold LamX.CodeO at z; cases z
theorem noT_cell {ob : Obj} : ∀ ps, cellO ob ≠ .tbl ps := fun ps z => by unfold cellO at z; cases z
/-! ### the cells of a made function -/
structure CellP (cl : List (Str × Addr)) (fr : List Str) (ws : List V) (ob : Addr → Obj) : Prop where
  len : ws.length = fr.length
  all : ∀ y c, cl.lookup y = some c → ∃ v, (ob c).data = .cell v
  inj : ∀ x y c, cl.lookup x = some c → cl.lookup y = some c → x = y
  has : ∀ (i : Nat) (y : Str), fr[i]? = some y → ∃ c u v, cl.lookup y = some c ∧ (ob c).data = .cell (some u) ∧ ws[i]? = some v ∧ L2.RelV v u
theorem CellP.k {cl : List (Str × Addr)} {fr : List Str} {ws : List V} {ob : Addr → Obj} {H : Hp} (p : CellP cl fr ws ob) (h : ∀ c ∈ csOf cl, H c = some (cellO (ob c))) : CellsK cl fr ws H :=
  ⟨p.len, fun y c e => let ⟨v, e2⟩ := p.all y c e; ⟨ob c, v, h c (csOf_mem.mpr ⟨y, e⟩), e2⟩, p.inj, fun i y e => let ⟨c, u, v, h1, h2, h3⟩ := p.has i y e; ⟨c, ob c, u, v, h1, h c (csOf_mem.mpr ⟨y, h1⟩), h2, h3⟩⟩
/-- what stands for good where a made function does -/
def cloL (f : Addr) (F : NF) (ob : Addr → Obj) (ds : List (Addr × HO)) : List (Addr × HO) := (f, NdefX.FnO f F) :: (F.c, LamX.CodeO F.c F.qual) :: ((csOf F.cl).map (fun c => (c, cellO (ob c))) ++ ds)
theorem cloL_no {f : Addr} {F : NF} {ob : Addr → Obj} {ds : List (Addr × HO)} (h : NoTs ds) : NoTs (cloL f F ob ds) := fun q hq => by
  rcases List.mem_cons.mp hq with rfl | hq
  · exact noT_fn
  · rcases List.mem_cons.mp hq with rfl | hq
    · exact noT_code
    · rcases List.mem_append.mp hq with hq | hq
      · obtain ⟨c, _, rfl⟩ := List.mem_map.mp hq
        exact noT_cell
      · exact h q hq
theorem cloL_mk {f : Addr} {F : NF} {ob : Addr → Obj} {ds : List (Addr × HO)} {H : Hp} (h1 : H f = some (NdefX.FnO f F)) (h2 : H F.c = some (LamX.CodeO F.c F.qual)) (h3 : ∀ c ∈ csOf F.cl, H c = some (cellO (ob c))) (h4 : Sup ds H) : Sup (cloL f F ob ds) H := fun q hq => by
  rcases List.mem_cons.mp hq with rfl | hq
  · exact h1
  · rcases List.mem_cons.mp hq with rfl | hq
    · exact h2
    · rcases List.mem_append.mp hq with hq | hq
      · obtain ⟨c, hc, rfl⟩ := List.mem_map.mp hq
        exact h3 c hc
      · exact h4 q hq
theorem cloL_at {f : Addr} {F : NF} {ob : Addr → Obj} {ds : List (Addr × HO)} {H : Hp} (h : Sup (cloL f F ob ds) H) : H f = some (NdefX.FnO f F) ∧ H F.c = some (LamX.CodeO F.c F.qual) ∧ (∀ c ∈ csOf F.cl, H c = some (cellO (ob c))) ∧ Sup ds H :=
  ⟨h _ List.mem_cons_self, h _ (List.mem_cons_of_mem _ List.mem_cons_self), fun c hc => h (c, cellO (ob c)) (List.mem_cons_of_mem _ (List.mem_cons_of_mem _ (List.mem_append_left _ (List.mem_map.mpr ⟨c, hc, rfl⟩)))), fun q hq => h q (List.mem_cons_of_mem _ (List.mem_cons_of_mem _ (List.mem_append_right _ hq)))⟩
/-- at a maker's end -/
theorem cellP_of {X : Cx} {σ : L2.St} {ob : Addr → Obj} {N' ps fr : List Str} {scope : Scope} {ws : List V} (Sc : NScope N' ps fr scope) (co : CellsOf X σ ob) (inj : ∀ x y c, X.env.cells.lookup x = some c → X.env.cells.lookup y = some c → x = y) (has : ∀ y, X.env.scope.names.lookup y = some .cell → ∃ c, X.env.cells.lookup y = some c)
    (kin : ∀ y ∈ fr, X.env.scope.names.lookup y = some .cell) (hl : ws.length = fr.length) (hw : ∀ (i : Nat) (y : Str), fr[i]? = some y → ∃ (j : Nat) (v : V), X.N[j]? = some y ∧ σ[j]? = some (some v) ∧ ws[i]? = some v) :
    CellP (cloFrom X.env.cells scope.names []) fr ws ob ∧ ∀ c ∈ csOf (cloFrom X.env.cells scope.names []), c ∈ csOf X.env.cells := by
  have hf : ∀ y ∈ scope.names, y.2 = .free → ∃ c, X.env.cells.lookup y.1 = some c := fun y hy e => has _ (kin _ (Sc.free y hy e))
  have cm : ∀ {y c}, (cloFrom X.env.cells scope.names []).lookup y = some c → X.env.cells.lookup y = some c := fun {y c} e => clo_cm hf e
  refine ⟨⟨hl, fun y c e => (co y c (cm e)).1, fun x y c e1 e2 => inj x y c (cm e1) (cm e2), fun i y e => ?_⟩, fun c hc => ?_⟩
  · have hy := List.mem_of_getElem? e
    obtain ⟨c, hc⟩ := has y (kin y hy)
    obtain ⟨j, v, h1, h2, h3⟩ := hw i y e
    obtain ⟨u, r, hd⟩ := (co y c hc).2 j v h1 h2 (kin y hy)
    exact ⟨c, u, v, clo_has hf (PySem.mem_of_lookup (Sc.frk y hy)) hc, hd, h3, r⟩
  · obtain ⟨y, e⟩ := csOf_mem.mp hc
    exact csOf_mem.mpr ⟨y, cm e⟩
/-! ### data without the cells -/
mutual
def noClo : D → Bool
  | .clo _ _ => false
  | .lst xs => noCloAll xs
  | .tup xs => noCloAll xs
  | .pr a b => noClo a && noClo b
  | _ => true
def noCloAll : List D → Bool
  | [] => true
  | x :: xs => noClo x && noCloAll xs
end
def Cells (H : Hp) (cs : List Addr) : Prop := ∀ c ∈ cs, ∃ ob, H c = some (cellO ob)
section
variable {K : PySem.W.Frag} {H : Hp} {cs : List Addr}
theorem cell_not {a : Addr} {o : HO} (hC : Cells H cs) (e : H a = some o) (h : ∀ ob, o ≠ cellO ob) : a ∉ cs := fun z => by
  obtain ⟨ob, e2⟩ := hC a z
  rw [e] at e2
  exact h ob (Option.some.inj e2)
theorem rd_noC {a : Addr} {u : HO} (hC : Cells H cs) (hu : u ≠ .ext fun _ => True) (hf : ∀ ob, u ≠ cellO ob) (h : Rd H a u) : Rd (remL H cs) a u ∧ a ∉ cs := by
  rcases h with h | ⟨o, h⟩
  · have := cell_not hC h hf
    exact ⟨.inl (by rw [remL_ne this]; exact h), this⟩
  · have := cell_not hC h (fun ob z => by unfold cellO at z; cases z; exact hu rfl)
    exact ⟨.inr ⟨o, by rw [remL_ne this]; exact h⟩, this⟩
theorem ne_lst {xs : List V} : (HO.lst xs ≠ .ext fun _ => True) ∧ ∀ ob, HO.lst xs ≠ cellO ob := ⟨(fun z => nomatch z), fun ob z => by unfold cellO at z; cases z⟩
theorem ne_tup {xs : List V} : (HO.tup xs ≠ .ext fun _ => True) ∧ ∀ ob, HO.tup xs ≠ cellO ob := ⟨(fun z => nomatch z), fun ob z => by unfold cellO at z; cases z⟩
theorem seqT_noC {a : Addr} {xs : List V} (hC : Cells H cs) (h : SqT K H a xs) : SqT K (remL H cs) a xs := by
  rcases h with h | h
  · exact .inl (rd_noC hC ne_tup.1 ne_tup.2 h).1
  · exact .inr h
theorem tq_noC {a : Addr} {xs : List V} (hC : Cells H cs) (hK : ∀ a o, K.lookup a = some o → H a = none) (h : Tq K H a xs) : Tq K (remL H cs) a xs := by
  obtain ⟨q, ob, u, h1, h2⟩ := h
  rcases q with q | ⟨o, its, n, e, r⟩
  · obtain ⟨h3, h4⟩ := rd_noC hC ne_tup.1 ne_tup.2 q
    exact ⟨.inl h3, ob, u, by rw [remL_ne h4]; exact h1, h2⟩
  · rw [hK a _ e] at h1
    cases h1
mutual
theorem At.noC (hC : Cells H cs) (hK : ∀ a o, K.lookup a = some o → H a = none) : ∀ {v : V} {d : D}, At K H v d → noClo d = true → At K (remL H cs) v d
  | _, _, .non, _ => .non
  | _, _, .bl b, _ => .bl b
  | _, _, .int b, _ => .int b
  | _, _, .str b, _ => .str b
  | _, _, .lst s a, h => .lst (rd_noC hC ne_lst.1 ne_lst.2 s).1 (AtAll.noC hC hK a (by simpa only [noClo] using h))
  | _, _, .tup s a, h => .tup (tq_noC hC hK s) (AtAll.noC hC hK a (by simpa only [noClo] using h))
  | _, _, .pr s a b, h => .pr (seqT_noC hC s) (At.noC hC hK a (by simp only [noClo, Bool.and_eq_true] at h; exact h.1)) (At.noC hC hK b (by simp only [noClo, Bool.and_eq_true] at h; exact h.2))
  | _, _, .dcz (a := a) ⟨o, q⟩, _ => .dcz ⟨o, by rw [remL_ne (cell_not hC q (fun ob z => by unfold cellO at z; cases z))]; exact q⟩
  | _, _, .clo _, h => by simp only [noClo, Bool.false_eq_true] at h
  | _, _, .raw v, _ => .raw v
  | _, _, .dct q, _ => .dct (by rw [remL_ne (cell_not hC q (fun ob z => by unfold cellO at z; cases z))]; exact q)
  | _, _, .ins q, _ => .ins (by rw [remL_ne (cell_not hC q (fun ob z => by unfold cellO at z; cases z))]; exact q)
  | _, _, .exc q, _ => .exc (by rw [remL_ne (cell_not hC q (fun ob z => by unfold cellO ExA at z; cases z))]; exact q)
theorem AtAll.noC (hC : Cells H cs) (hK : ∀ a o, K.lookup a = some o → H a = none) : ∀ {vs : List V} {ds : List D}, AtAll K H vs ds → noCloAll ds = true → AtAll K (remL H cs) vs ds
  | _, _, .nil, _ => .nil
  | _, _, .cons a b, h => .cons (At.noC hC hK a (by simp only [noCloAll, Bool.and_eq_true] at h; exact h.1)) (AtAll.noC hC hK b (by simp only [noCloAll, Bool.and_eq_true] at h; exact h.2))
end
end
/-- behind a call of a made function: the cells are back -/
theorem clo_back {H Hb H2 Hb2 : Hp} {cs l : List Addr} (hC : Cells H cs) (sm : Same Hb H) (hl : ∀ a ∈ l, ∃ xs, H a = some (.lst xs)) (gone : ∀ c ∈ cs, H2 c = none) (B : Back ⟨remL (remL H cs) l, remL Hb cs⟩ Hb2 H2) :
    Back ⟨remL H l, Hb⟩ (addL cs Hb Hb2) (addL cs H H2) ∧ Same Hb2 (addL cs Hb Hb2) ∧ Same H2 (addL cs H H2) ∧ ∀ a ∈ l, Hb2 a = none → addL cs Hb Hb2 a = none := by
  have nl : ∀ {a}, a ∈ l → a ∉ cs := fun {a} ha z => by
    obtain ⟨xs, e⟩ := hl a ha
    obtain ⟨ob, e2⟩ := hC a z
    rw [e] at e2
    cases e2
  have ay : ∀ {G G' : Hp} {b : Addr}, b ∈ cs → addL cs G G' b = G b := fun {G G' b} h => if_pos h
  have an : ∀ {G G' : Hp} {b : Addr}, b ∉ cs → addL cs G G' b = G' b := fun {G G' b} h => if_neg h
  have nb : ∀ {c}, c ∈ cs → Hb2 c = none := fun {c} hc => L2.Same.free B.s (gone c hc)
  refine ⟨⟨fun b x e => ?_, fun b x e => ?_, fun b x e => ?_, fun a n1 n2 => ?_⟩, fun b x e => ?_, fun b x e => ?_, fun a ha n => by rw [an (nl ha)]; exact n⟩
  · by_cases hb : b ∈ cs
    · rw [ay hb]
      exact remL_same _ _ e
    · rw [an hb]
      have hbl : b ∉ l := fun z => by have e : remL H l b = some x := e; rw [remL_at z] at e; cases e
      exact B.h b x (by show remL (remL H cs) l b = _; rw [remL_ne hbl, remL_ne hb]; exact remL_same _ _ e)
  · by_cases hb : b ∈ cs
    · rw [ay hb]
      exact e
    · rw [an hb]
      exact B.b b x (by show remL Hb cs b = _; rw [remL_ne hb]; exact e)
  · by_cases hb : b ∈ cs
    · rw [ay hb] at e ⊢
      exact sm _ _ e
    · rw [an hb] at e ⊢
      exact B.s _ _ e
  · by_cases hb : a ∈ cs
    · rw [ay hb]
      exact n1
    · rw [an hb]
      have n2 : remL H l a ≠ none := n2
      have hbl : a ∉ l := fun z => n2 (remL_at z)
      exact B.n a (by show remL Hb cs a = _; rw [remL_ne hb]; exact n1) (by show remL (remL H cs) l a ≠ _; rw [remL_ne hbl, remL_ne hb]; rw [remL_ne hbl] at n2; exact n2)
  · by_cases hb : b ∈ cs
    · rw [nb hb] at e
      cases e
    · rw [an hb]
      exact e
  · by_cases hb : b ∈ cs
    · rw [gone b hb] at e
      cases e
    · rw [an hb]
      exact e
/-- slots laid out -/
def SlAt (K : PySem.W.Frag) (Hb H : Hp) (l : List Addr) (o : Option (Option V)) : Sl → Prop
  | .em => True
  | .dat d => ∃ v, o = some (some v) ∧ At K Hb v d
  | .ow q ds => ∃ (a : Addr) (xs : List V), o = some (some (V.ref a)) ∧ a ∈ l ∧ Hb a = none ∧ H a = some (HO.lst xs) ∧ AtAll K Hb xs ds ∧ ∀ p, q = some p → a = p
  | .tb _ _ => False
theorem rel_slots {K : PySem.W.Frag} {Hb H : Hp} {l : List Addr} {ρ : List Sl} {σ : L2.St} (sm : Same Hb H) (hl : ρ.length = σ.length) (at_ : ∀ (i : Nat) (s : Sl), ρ[i]? = some s → SlAt K Hb H l σ[i]? s)
    (sep : ∀ (i j : Nat) (q r : Option Addr) (ds es : List D) (a : Addr), ρ[i]? = some (Sl.ow q ds) → ρ[j]? = some (Sl.ow r es) → σ[i]? = some (some (V.ref a)) → σ[j]? = some (some (V.ref a)) → i = j) : Rel K ⟨remL H l, Hb⟩ ρ σ Hb H :=
  ⟨remL_same, L2.Same.refl _, fun a n _ => n, sm, fun i d h => at_ i _ h, fun i q ds h => let ⟨a, xs, e, m, n, z, A, hq⟩ := at_ i _ h; ⟨a, xs, e, n, z, A, remL_at m, hq⟩, sep, hl, fun i P q h => (at_ i _ h).elim⟩
theorem pa_one' {X : Cx} {e : Expr} {t : TE} (h : PE X e t) (he : starEach [e] X.env = (false, eval e X.env) :: starEach [] X.env) : PA X [e] (tCons t tNil) := pa_cons h pa_nil he
theorem set_self {α : Type} {l : List α} {i : Nat} {x : α} (h : l[i]? = some x) : l.set i x = l := by
  apply List.ext_getElem?
  intro j
  by_cases hj : i = j
  · subst hj
    rw [List.getElem?_set_self (List.getElem?_eq_some_iff.mp h).1, h]
  · rw [List.getElem?_set_ne hj]
/-- a slot takes an own list that stands there -/
theorem rel_ow {K : PySem.W.Frag} {H0 : Ent} {ρ : List Sl} {σ : L2.St} {Hb H : Hp} {i : Nat} {q0 : Option Addr} {ds : List D} {p : Addr} {xs : List V} (R : Rel K H0 ρ σ Hb H) (hi : i < ρ.length) (hn : Hb p = none) (hp : H p = some (.lst xs)) (A : AtAll K Hb xs ds) (h0 : H0.h p = none) (hq : ∀ p', q0 = some p' → p = p')
    (fresh : ∀ (j : Nat) (q : Option Addr) (es : List D), ρ[j]? = some (Sl.ow q es) → σ[j]? ≠ some (some (V.ref p))) : Rel K H0 (ρ.set i (.ow q0 ds)) (σ.set i (some (.ref p))) Hb H := by
  have hiσ : i < σ.length := by rw [← R.len]; exact hi
  have ne : ∀ {j : Nat} {u : Sl}, i ≠ j → (ρ.set i (.ow q0 ds))[j]? = some u → ρ[j]? = some u := fun {j u} hj h => by rwa [List.getElem?_set_ne hj] at h
  refine ⟨R.b0, R.bb, R.bn, R.b1, fun j d h => ?_, fun j qq es h => ?_, fun j l q1 q2 es fs b h1 h2 h3 h4 => ?_, by rw [List.length_set, List.length_set]; exact R.len, fun j P q h => R.tb j P q (set_tb h (by intro z; cases z))⟩
  · by_cases hj : i = j
    · subst hj
      rw [List.getElem?_set_self hi] at h
      cases h
    · obtain ⟨v, e, a⟩ := R.dat j d (ne hj h)
      exact ⟨v, by rw [List.getElem?_set_ne hj]; exact e, a⟩
  · by_cases hj : i = j
    · subst hj
      rw [List.getElem?_set_self hi] at h
      cases h
      exact ⟨p, xs, List.getElem?_set_self hiσ, hn, hp, A, h0, fun p' z => hq p' z⟩
    · obtain ⟨a, ys, e, r⟩ := R.own j qq es (ne hj h)
      exact ⟨a, ys, by rw [List.getElem?_set_ne hj]; exact e, r⟩
  · by_cases hj : i = j
    · by_cases hl : i = l
      · rw [← hj, ← hl]
      · subst hj
        rw [List.getElem?_set_self hiσ] at h3
        cases h3
        rw [List.getElem?_set_ne hl] at h4
        exact absurd h4 (fresh l _ fs (ne hl h2))
    · by_cases hl : i = l
      · subst hl
        rw [List.getElem?_set_self hiσ] at h4
        cases h4
        rw [List.getElem?_set_ne hj] at h3
        exact absurd h3 (fresh j _ es (ne hj h1))
      · rw [List.getElem?_set_ne hj] at h3
        rw [List.getElem?_set_ne hl] at h4
        exact R.sep j l q1 q2 es fs b (ne hj h1) (ne hl h2) h3 h4
end DL
/-! try: .. except (A, B): return (x, y) -/
namespace DL
open PySem PySem.Spec PyProof.Rows L2
theorem flyZ_keeps {B : Heap} {l : List Env} {e : Addr} {Z : Obj → Prop} {h h' : Heap} (R : HandSPX.FlyingZ B l e Z h) (k : ∀ b o, h.get? b = some o → h'.get? b = some o) : HandSPX.FlyingZ B l e Z h' := by
  obtain ⟨f1, f2, f3, oe, ws, T, oT, ts, he, hz, hd, h1, hn, hne, hT, hdT, h3⟩ := R
  exact ⟨fun b o q => k b o (f1 b o q), f2, f3.of_keeps fun b o q _ => ⟨o, k b o q, rfl⟩, oe, ws, T, oT, ts, k _ _ he, hz, hd, h1, hn, hne, k _ _ hT, hdT, h3⟩
def wTup2 (K : PySem.W.Frag) (c1 c2 : Value) (ts : Addr → Value → Option Addr → TS) (D : Ends) : WX := fun cls d σ H =>
  PySem.W.exmAny K cls [c1, c2] = some true ∧ ∀ a, H a = none → ts a cls d D σ H
section
variable {X : Cx} {x1 x2 : Str} {c1 c2 : Value} {body suite : List Stmt} {b₀ : Stmt} {p1 p2 tpos pos pos' : Pos} {kk : Nat} {tb : WX → TS} {ts : Addr → Value → Option Addr → TS}
theorem ps_try_tup2 (hs : X.stack = X.env :: X.outer) (hf : X.env.frame = some X.env.locals) (hc1 : Names X x1 c1) (hc2 : Names X x2 c2)
    (hb : ∀ (W : WX) (pn : List (Addr × Obj)) (xe : Value → Shared → Prop), Takes (X.tr pn xe) W → PassesOwn (model X.prog X.w) X.A X.env xe → PSs (X.tr pn xe) body (tb W))
    (hsu : ∀ (a : Addr) (oe : Obj) (cls : Value) (d : Option Addr) (pn : List (Addr × Obj)), Zc cls d oe → (∃ vs, oe.data = .fields vs) → PSs (X.suite a ((a, oe) :: pn)) (b₀ :: suite) (ts a cls d)) :
    PS X (.Try body [.ExceptHandler (some (.Tuple [.Name x1 p1, .Name x2 p2] kk tpos)) none (b₀ :: suite) pos'] [] [] pos) (fun D σ H => tb (wTup2 X.K c1 c2 ts D) D σ H) := by
  refine ⟨fun pins s σ H D I h => ?_⟩
  have ok := I.ok
  have hfr : X.A.frames = some (X.env :: X.outer) := by rw [ok.frames, hs]
  refine wpAny_Try_except ?_
  refine wpAny_mono ((hb (wTup2 X.K c1 c2 ts D) (X.pn ++ pins) (fun e s₁ => wpAny (model X.prog X.w) X.A (noteFrame e X.env) (fun _ s₂ => wpAny (model X.prog X.w) X.A (setFlight e none) (fun _ s₃ =>
    wpAny (model X.prog X.w) X.A (handleBy e X.env [.ExceptHandler (some (.Tuple [.Name x1 p1, .Name x2 p2] kk tpos)) none (b₀ :: suite) pos']) (SP X pins D) X.xe s₃) X.xe s₂) X.xe s₁) (fun u s' xx => ?_) PassesOwn.looking).run [] s σ H D (I.toTry _) h) (fun f s1 hsp => ?_) (fun e s1 he => he)
  · obtain ⟨a, B, sI, pins', σ', H', cls, d, rfl, J', nb, up, sky, na, os, ag, hb1, hyes⟩ := xx
    have J : Inv X pins σ' H' sI := J'.ofTry ok
    have sky' : Sky B (X.env :: X.outer) a (Zc cls d) X.env.locals s'.heap := by rw [← hs]; exact sky
    show wpAny (model X.prog X.w) X.A (noteFrame (.ref a) X.env) _ _ _
    refine Sky.land Zc.steady hfr hf sky' fun h3 fl3 up3 => ?_
    have J3 : Inv X pins σ' H' { s' with heap := h3 } := J.landed nb fl3.1 (up.trans up3) os ag
    obtain ⟨oe3, vs3, he3, hz3, hd3⟩ := fl3.there
    have notFr : ∀ {h : Heap} {o : Obj} {vs : Array Value}, h.FunFrames B (X.env :: X.outer) → h.get? a = some o → o.data = .fields vs → a ∉ frs (X.env :: X.outer) := fun {h o vs} ff e dd hm => by
      obtain ⟨_, o', e', hnf⟩ := ff.mem hm
      rw [e] at e'; cases e'
      exact hnf _ dd
    have nfr := notFr fl3.2.2.1 he3 hd3
    have nL : a ≠ X.env.locals := fun z => nfr (List.mem_filterMap.mpr ⟨X.env, List.mem_cons_self, by rw [hf, z]⟩)
    have nF : a ∉ X.fs := fun hm => by
      obtain ⟨e, he, q⟩ := List.mem_filterMap.mp hm
      exact nfr (List.mem_filterMap.mpr ⟨e, List.mem_cons_of_mem _ he, q⟩)
    have S3 := J3.suite he3 hd3 na nL nF
    refine wpAny_handleBy_cons (codeAny_handlers_test ?_) (by intro q; cases q)
    have LT : PySem.W.Looks (model X.prog X.w) h3 (typeOf (.ref a)) cls := fun A Q E s k q => wpAny_typeOf_ref (k _ _ he3) (by rw [hz3.1]; exact q)
    have test : ∀ {x : Str} {c : Value} {np : Pos}, Names X x c → ∀ {Q : Value → Shared → Prop} {E : Value → Shared → Prop}, Q c { s' with heap := h3 } → wpAny (model X.prog X.w) (X.A.mark (some (.ref a))) (eval (.Name x np) X.env) Q E { s' with heap := h3 } := fun {x c np} hc {Q E} q => by
      obtain ⟨hg, hdbg, hm | ⟨hm, hv, hnn⟩⟩ := hc
      · exact ld_glob (X := X.suite a ((a, oe3) :: (X.pn ++ pins))) S3 hg hm q hdbg
      · exact ld_blt (X := X.suite a ((a, oe3) :: (X.pn ++ pins))) S3 hg hm hv q hnn hdbg
    refine wpAny_Tuple ?_
    refine wpAny_items_cons (test hc1 ?_)
    refine wpAny_items_cons (test hc2 ?_)
    refine wpAny_items_nil ⟨by size_fits, ?_⟩
    have kp : ∀ q o, h3.get? q = some o → (h3.push { cls := .type "tuple", data := .seq [c1, c2].toArray }).get? q = some o := fun _ _ z => Heap.get?_push_of_some _ z
    have fl4 := flyZ_keeps fl3 kp
    have up4 : h3.UpToSlots (h3.push { cls := .type "tuple", data := .seq [c1, c2].toArray }) := Heap.UpToSlots.of_keeps kp
    refine (PySem.W.exm_tup2 (M := model X.prog X.w) ((J3.kIn).keeps kp) (LT.keeps kp) (Heap.get?_push_size h3 rfl) hb1).here ?_
    refine codeAny_handlers_suite ?_
    refine HandSPX.lands_againZ fl4 fun h5 fl5 up5 => ?_
    have J5 : Inv X pins σ' H' { s' with heap := h5 } := J.landed nb fl5.1 (((up.trans up3).trans up4).trans up5) os ag
    obtain ⟨oe5, vs5, he5, hz5, hd5⟩ := fl5.there
    have S5 := J5.suite he5 hd5 na nL nF
    refine wpAny_mono ((hsu a oe5 cls d (X.pn ++ pins) hz5 ⟨_, hd5⟩).run [] _ _ H' _ S5 (hyes a na)) (fun f s6 hsp => ?_) (fun _ _ z => False.elim z)
    cases f with
    | next =>
      obtain ⟨σ6, H6, S6, q6⟩ := hsp
      exact ⟨_, _, S6.unsuite ok, q6⟩
    | brk =>
      obtain ⟨σ6, H6, S6, q6⟩ := hsp
      exact ⟨_, _, S6.unsuite ok, q6⟩
    | cont =>
      obtain ⟨σ6, H6, S6, q6⟩ := hsp
      exact ⟨_, _, S6.unsuite ok, q6⟩
    | ret u =>
      obtain ⟨v6, σ6, H6, S6, r6, q6⟩ := hsp
      exact ⟨_, _, _, S6.unsuite ok, r6, q6⟩
  · cases f with
    | next =>
      obtain ⟨σ', H', J', q⟩ := hsp
      exact wpAny_execs_nil ⟨σ', H', J'.ofTry ok, q⟩
    | brk =>
      obtain ⟨σ', H', J', q⟩ := hsp
      exact ⟨σ', H', J'.ofTry ok, q⟩
    | cont =>
      obtain ⟨σ', H', J', q⟩ := hsp
      exact ⟨σ', H', J'.ofTry ok, q⟩
    | ret u =>
      obtain ⟨v, σ', H', J', r, q⟩ := hsp
      exact ⟨v, σ', H', J'.ofTry ok, r, q⟩
end
section
variable {X : Cx} {W : WX} {ρ : List Sl} {N : List Str} {sc : Scope} {k : Nat} {E : DE} {rest : List Stmt} {pos : Pos}
/-- over data: the clause returns two names of the def's own -/
theorem sw_tryT (C : CtxD X W N sc k) {x1 x2 y1 y2 : Str} {A1 A2 : Addr} {i j : Nat} {body : List Stmt} {p1 p2 p3 p4 tp tp2 pos' rp : Pos} {kk k2 : Nat} (hm1 : X.mg x1 = some (.ref A1)) (hm2 : X.mg x2 = some (.ref A2))
    (hb : ∀ (W' : WX) (pn : List (Addr × Obj)) (xe : Value → Shared → Prop), CtxD (X.tr pn xe) W' N sc k → SW (X.tr pn xe) W' ρ body { nx := fun ρ' => SW X W ρ' rest E, rt := E.rt, bk := E.bk, ct := E.ct, ex := fun B ρ' => PySem.W.exmAny X.K (.ref B) [.ref A1, .ref A2] = some true ∧ ∃ d1 d2, ρ'[i]? = some (.dat d1) ∧ ρ'[j]? = some (.dat d2) ∧ E.rt (.ret (.tup [d1, d2])) })
    (hi : N[i]? = some y1 := by rfl) (hj : N[j]? = some y2 := by rfl) (hv1 : Vis sc y1 := by first | exact .inl rfl | exact .inr (.inl rfl) | exact .inr (.inr rfl)) (hv2 : Vis sc y2 := by first | exact .inl rfl | exact .inr (.inl rfl) | exact .inr (.inr rfl)) (hg1 : GlN sc x1 := by rfl) (hg2 : GlN sc x2 := by rfl) (hdb1 : (x1 == ("__debug__" : Str)) = false := by decide) (hdb2 : (x2 == ("__debug__" : Str)) = false := by decide)
    (hd1 : (y1 == ("__debug__" : Str)) = false := by decide) (hc1 : (y1 == ("__classdict__" : Str)) = false := by decide) (hd2 : (y2 == ("__debug__" : Str)) = false := by decide) (hc2 : (y2 == ("__classdict__" : Str)) = false := by decide)
    (hs1 : starEach [.Name y1 p3, .Name y2 p4] X.env = (false, eval (.Name y1 p3) X.env) :: starEach [.Name y2 p4] X.env := by exact star_nst rfl) (hs2 : starEach [.Name y2 p4] X.env = (false, eval (.Name y2 p4) X.env) :: starEach [] X.env := by exact star_nst rfl) :
    SW X W ρ (.Try body [.ExceptHandler (some (.Tuple [.Name x1 p1, .Name x2 p2] kk tp)) none [.Return (some (.Tuple [.Name y1 p3, .Name y2 p4] k2 tp2)) rp] pos'] [] [] pos :: rest) E := sw_cons fun H0 σ Hb H R xx => by
  refine WS.of (ps_try_tup2 (tb := fun W' D σ H => ∀ pn xe, Takes (X.tr pn xe) W' → PassesOwn (model X.prog X.w) X.A X.env xe → WSs (X.tr pn xe) body D σ H) (ts := fun _ _ _ => _) C.stk C.frm ⟨C.gl hg1, hdb1, .inl hm1⟩ ⟨C.gl hg2, hdb2, .inl hm2⟩ (fun W' pn xe tk po => ⟨fun pins s σ H D I h => (h pn xe tk po).go pins s I⟩)
    (fun a oe cls d pn _ _ => pss_one (ps_ret (pe_tupZ (pa_cons (pe_var (X := X.suite a ((a, oe) :: pn)) (C.at hi) (C.vis hv1) hd1 hc1) (pa_cons (pe_var (X := X.suite a ((a, oe) :: pn)) (C.at hj) (C.vis hv2) hd2 hc2) pa_nil hs2) hs1))))) ?_
  intro pn xe tk po
  refine WSs.mono (hb _ pn xe (C.tr tk po) H0 σ Hb H R ?_) (fun _ _ q => q) (fun _ _ q => q) (fun _ _ q => q) (fun _ _ q => q)
  intro B ρ' σ' Hb' H' z R'
  obtain ⟨z1, d1, d2, e1, e2, hr⟩ := z
  refine ⟨z1, fun a na => ?_⟩
  obtain ⟨v1, w1, a1⟩ := R'.dat i d1 e1
  obtain ⟨v2, w2, a2⟩ := R'.dat j d2 e2
  refine ⟨v1, w1, v2, w2, (by decide : 2 ≤ sizeLine), fun p ob hp hd => ?_⟩
  obtain ⟨d, Hb2, f, R2, s2, a3⟩ := endTup (Φ := fun d => d = .tup [d1, d2]) rfl R' Gr.refl hp hd (.cons a1 (.cons a2 .nil))
  subst f
  exact ⟨.ret _, hr, Hb2, R2.back, a3⟩
end
end DL
namespace DL
open PySem PySem.Spec PyProof.Rows L2
def isPlaceD : D → Bool
  | .int i => decide (0 ≤ i) && decide (i ≤ 99)
  | _ => false
def intsD : List D → List Int
  | [] => []
  | .int i :: r => i :: intsD r
  | _ :: r => 0 :: intsD r
def gapsL (ns : List Int) : List Int := (List.range (ns.length - 1)).map fun i => ns.getD (i + 1) 0 - ns.getD i 0
def isPileD : D → Bool
  | .tup xs => decide (xs.length ≤ 240) && (xs.all isPlaceD && (gapsL (intsD xs)).all fun g => decide (0 ≤ g))
  | _ => false
def isRowD : D → Bool
  | .tup xs => isPileD (.tup xs) && (gapsL (intsD xs)).all fun g => decide (1 < g)
  | _ => false
theorem ints_places : ∀ {xs : List D}, xs.all isPlaceD = true → xs = (intsD xs).map D.int
  | [], _ => rfl
  | x :: xs, h => by
    have h' := Bool.and_eq_true_iff.mp (by simpa only [List.all_cons] using h)
    have ih := ints_places h'.2
    cases x <;> simp only [isPlaceD, Bool.false_eq_true, false_and] at h'
    simp only [intsD, List.map_cons]
    rw [← ih]
theorem atN {α : Type} {xs : List α} {i : Int} {j : Nat} {v : α} (e : i = (j : Int)) (h : xs[j]? = some v) : L2.atI xs i = some v := by
  rw [e]
  exact L2.atI_nat h
theorem atG {ns : List Int} (j : Nat) {i : Int} (h : j < ns.length) (e : i = (j : Int)) : atI (ns.map D.int) i = some (.int (ns.getD j 0)) := by
  subst e
  refine atN rfl ?_
  rw [List.getElem?_map, List.getD_eq_getElem?_getD, List.getElem?_eq_getElem h]
  rfl
theorem intsD_map : ∀ ns : List Int, intsD (ns.map D.int) = ns
  | [] => rfl
  | n :: ns => by simp only [List.map_cons, intsD, intsD_map ns]
theorem intsD_length : ∀ ds : List D, (intsD ds).length = ds.length
  | [] => rfl
  | d :: ds => by cases d <;> simp only [intsD, List.length_cons, intsD_length ds]
/-- the worth of a mark -/
def fw : Nat → Int
  | 0 => 1
  | 1 => 2
  | n + 2 => fw (n + 1) + fw n
def fws (n : Nat) : List Int := (List.range n).map fw
theorem fws_get {n : Nat} {i : Int} (h0 : 0 ≤ i) (h : i < n) : atI ((fws n).map D.int) i = some (.int (fw i.toNat)) := by
  refine atN (j := i.toNat) (by omega) ?_
  rw [fws, List.getElem?_map, List.getElem?_map, List.getElem?_range (by omega)]
  rfl
theorem fws_neg {n : Nat} {i : Int} (j : Nat) (h0 : i < 0) (h : i + n = j) : atI ((fws n).map D.int) i = some (.int (fw j)) := by
  unfold L2.atI L2.ixN
  rw [if_neg (by omega), if_pos (by rw [List.length_map, fws, List.length_map, List.length_range]; omega), List.length_map, fws, List.length_map, List.length_range]
  show ((((List.range n).map fw).map D.int)[(i + n).toNat]?) = _
  rw [h, List.getElem?_map, List.getElem?_map, List.getElem?_range (by omega)]
  rfl
theorem fws_succ (n : Nat) : (fws n).map D.int ++ [.int (fw n)] = (fws (n + 1)).map D.int := by
  simp only [fws, List.range_succ, List.map_append, List.map_cons, List.map_nil]
def worthL (ns : List Int) : Int := (ns.map fun n => fw n.toNat).sum
/-- the module's own names -/
structure Gp (mg : Str → Option Value) : Prop where
  last : ∃ t, mg "LAST" = some (.int 99 t)
  most : ∃ t, mg "MOST_MARKS" = some (.int 240 t)

section
variable {P : Program} {w : World} {K : PySem.W.Frag} {mg : Str → Option Value} {base : Heap} {f : Addr} {fd : FuncData}
def S_is_place (ds : List D) (r : FR) : Prop := ∃ d, ds = [d] ∧ d.wty = true ∧ r = .ret (.bl (isPlaceD d))
theorem fn_is_place (F : Fun K "is_place" "is_place" s_is_place f fd) (B : Bt mg) (G : Gp mg) : Fn P w K mg base f 1 1 S_is_place := by
  refine fn_def F sc_is_place (F.binds fun _ _ _ _ _ _ us hl => match us, hl with | [_], _ => rfl) fun ds r hS hl X W O C => ?_
  obtain ⟨rfl, rfl, rfl, rfl, rfl⟩ := O
  obtain ⟨d, rfl, ht, rfl⟩ := hS
  obtain ⟨t, hL⟩ := G.last
  have C' := C.toCtx
  refine sw_ret (ew_and (ew_isInt C' B (nv 0 rfl C' ⟨ht, _, rfl, fun h => ?_, fun h => .inl ?_⟩)))
  · refine ew_and (ew_not (ew_isBool C' B (nv 0 rfl C' ⟨ht, _, rfl, _, rfl, fun h2 => ?_, fun h2 => .inl ?_⟩)))
    · cases d with
      | int i =>
        refine ew_one (ew_chainI op_le op_le (by with_unfolding_all rfl) (ew_int (nv 0 rfl C' ⟨_, _, rfl, rfl, fun h => ew_globI C' rfl hL ⟨_, rfl, .inl ?_⟩, fun h => .inl ?_⟩)))
        · simp only [isPlaceD, h, Bool.true_and]
        · simp only [isPlaceD, h, Bool.false_and]
      | bl b => cases h2
      | _ => cases h
    · cases d with
      | bl b => rfl
      | int b => cases h2
      | _ => cases h
  · cases d with
    | bl b => cases h
    | int b => cases h
    | _ => rfl
def S_gaps (ds : List D) (r : FR) : Prop := ∃ ns : List Int, ds = [tupI ns] ∧ ns.length ≤ 100000 ∧ r = .new ((gapsL ns).map D.int)
theorem fn_gaps (F : Fun K "gaps" "gaps" s_gaps f fd) (B : Bt mg) : Fn P w K mg base f 1 1 S_gaps := by
  refine fn_def F sc_gaps (F.binds fun _ _ _ _ _ _ us hl => match us, hl with | [_], _ => rfl) fun ds r hS hl X W O C => ?_
  obtain ⟨rfl, rfl, rfl, rfl, rfl⟩ := O
  obtain ⟨ns, rfl, hz, rfl⟩ := hS
  have C' := C.toCtx
  refine sw_retN (en_lcM (α := Nat) (own := [("at", 1)]) (fun i => .int i) (fun i => .int (ns.getD (i + 1) 0 - ns.getD i 0)) C' (TgB.name 1 rfl rfl (by simp)) ?_ (blkOk_by (by decide +kernel)))
  refine iw_range1 C' B.range (ew_sub (ew_len C' B.len (sv 0 rfl C' (ew_int ⟨_, _, rfl, rfl, _, rfl, ?_, ?_, List.range (ns.length - 1), ?_, ?_, fun i hi => bi_plain rfl fun s H C0 cl fp Cb => ?_, ?_⟩))))
  · rw [List.length_map]; omega
  · rw [List.length_map]; omega
  · rw [List.length_map, show ((ns.length : Int) - 1).toNat = ns.length - 1 by omega]
  · rw [List.length_range]; omega
  · have hi := List.mem_range.mp hi
    have a1 : atI (ns.map D.int) ((i : Int) + 1) = some (.int (ns.getD (i + 1) 0)) := atG (i + 1) (by omega) (by omega)
    have a2 : atI (ns.map D.int) (i : Int) = some (.int (ns.getD i 0)) := atG i (by omega) rfl
    exact ew_sub (ew_ix (sv 0 rfl Cb (ew_add (nv 1 rfl Cb (ew_int ⟨_, _, rfl, rfl, _, _, rfl, a1, ew_ix (sv 0 rfl Cb (nv 1 rfl Cb ⟨_, _, rfl, a2, _, _, rfl, rfl, rfl⟩))⟩)))))
  · refine .inl ?_
    rw [gapsL, List.map_map]
    rfl
def S_is_pile (ds : List D) (r : FR) : Prop := ∃ d, ds = [d] ∧ d.wty = true ∧ r = .ret (.bl (isPileD d))
theorem fn_is_pile (F : Fun K "is_pile" "is_pile" s_is_pile f fd) (B : Bt mg) (G : Gp mg) (F1 : Df P w K mg base "is_place" 1 1 S_is_place) (F2 : Df P w K mg base "gaps" 1 1 S_gaps) : Fn P w K mg base f 2 1 S_is_pile := by
  refine fn_def F sc_is_pile (F.binds fun _ _ _ _ _ _ us hl => match us, hl with | [_], _ => rfl) fun ds r hS hl X W O C => ?_
  obtain ⟨rfl, rfl, rfl, rfl, rfl⟩ := O
  obtain ⟨d, rfl, ht, rfl⟩ := hS
  obtain ⟨t, hM⟩ := G.most
  have C' := C.toCtx
  refine sw_if (tw_bool (bw_or (tw_not (tw_val (ew_isTup C' B (nv 0 rfl C' ⟨ht, _, rfl, fun h => ?_, fun h => ⟨fun _ => sw_ret (ew_bl (.inl ?_)), (fun z => nomatch z)⟩⟩))))))
  · cases d with
    | tup xs =>
      refine bw_or1 (tw_gt (ew_len C' B.len (sv 0 rfl C' (ew_globI C' rfl hM ⟨_, _, rfl, rfl, fun h => sw_ret (ew_bl (.inl ?_)), fun h => sw_nil ?_⟩))))
      · have h := of_decide_eq_true h
        simp only [isPileD]
        rw [decide_eq_false (by omega), Bool.false_and]
      · have h := of_decide_eq_false h
        refine sw_ret (ew_and (ew_all C' B.all (es_new (en_lcM (α := D) (own := [("one", 1)]) id (fun x => .bl (isPlaceD x)) C' (TgB.name 1 rfl rfl (by simp)) (iw_tup (nv 0 rfl C' ⟨xs, rfl, xs, (List.map_id xs).symm, by omega, fun x hx => bi_plain rfl fun s H C0 cl fp Cb => ?_, rfl, xs.map isPlaceD, by rw [List.map_map]; rfl, _, rfl, fun h3 => ?_, fun h3 => .inl ?_⟩)) (blkOk_by (by decide +kernel))))))
        · exact ew_df Cb F1 (aw_cons (nv 1 rfl Cb (aw_nil ⟨rfl, _, ⟨_, rfl, wtyAll_mem (by simpa only [D.wty] using ht) hx, rfl⟩, rfl⟩)))
        · have h3 : xs.all isPlaceD = true := by simpa only [List.all_map, Function.comp_def, id] using h3
          have e := ints_places h3
          have le := intsD_length xs
          refine ew_one (ew_all C' B.all (es_new (en_lcM (α := Int) (own := [("gap", 2)]) D.int (fun g => .bl (decide (0 ≤ g))) C' (TgB.name 2 rfl rfl (by simp)) (iw_list (ew_df C' F2 (aw_cons (nv 0 rfl C' (aw_nil ⟨rfl, _, ⟨intsD xs, by rw [tupI, ← e], by omega, rfl⟩, _, rfl, gapsL (intsD xs), rfl, ?_, fun x hx => bi_plain rfl fun s H C0 cl fp Cb => ?_, rfl, (gapsL (intsD xs)).map (fun g => decide (0 ≤ g)), by rw [List.map_map]; rfl, .inl ?_⟩))))) (blkOk_by (by decide +kernel)))))
          · rw [gapsL, List.length_map, List.length_range]; omega
          · exact ew_ge (nv 2 rfl Cb (ew_int ⟨_, _, rfl, rfl, rfl⟩))
          · simp only [isPileD, h3, List.all_map, Function.comp_def, id, Bool.true_and]
            rw [decide_eq_true (by omega), Bool.true_and]
        · have h3 : xs.all isPlaceD = false := by simpa only [List.all_map, Function.comp_def, id] using h3
          simp only [isPileD, h3, Bool.false_and, Bool.and_false]
    | _ => cases h
  · cases d with
    | tup xs => cases h
    | _ => rfl
def S_is_row (ds : List D) (r : FR) : Prop := ∃ d, ds = [d] ∧ d.wty = true ∧ r = .ret (.bl (isRowD d))
theorem pile_ints {d : D} (h : isPileD d = true) : ∃ ns : List Int, d = tupI ns ∧ ns.length ≤ 240 ∧ (∀ n ∈ ns, 0 ≤ n ∧ n ≤ 99) ∧ ∀ g ∈ gapsL ns, 0 ≤ g := by
  cases d with
  | tup xs =>
    simp only [isPileD, Bool.and_eq_true, decide_eq_true_eq, List.all_eq_true] at h
    obtain ⟨h1, h2, h3⟩ := h
    have e := ints_places (List.all_eq_true.mpr h2)
    refine ⟨intsD xs, by rw [tupI, ← e], by rw [intsD_length]; exact h1, fun n hn => ?_, h3⟩
    have := h2 (.int n) (by rw [e]; exact List.mem_map_of_mem hn)
    simpa only [isPlaceD, Bool.and_eq_true, decide_eq_true_eq] using this
  | _ => cases h
theorem fn_is_row (F : Fun K "is_row" "is_row" s_is_row f fd) (B : Bt mg) (F1 : Df P w K mg base "is_pile" 2 1 S_is_pile) (F2 : Df P w K mg base "gaps" 1 1 S_gaps) : Fn P w K mg base f 3 1 S_is_row := by
  refine fn_def F sc_is_row (F.binds fun _ _ _ _ _ _ us hl => match us, hl with | [_], _ => rfl) fun ds r hS hl X W O C => ?_
  obtain ⟨rfl, rfl, rfl, rfl, rfl⟩ := O
  obtain ⟨d, rfl, ht, rfl⟩ := hS
  have C' := C.toCtx
  refine sw_ret (ew_and (ew_df C' F1 (aw_cons (nv 0 rfl C' (aw_nil ⟨rfl, _, ⟨_, rfl, ht, rfl⟩, _, rfl, fun h => ?_, fun h => .inl ?_⟩)))))
  · obtain ⟨ns, rfl, hl, _⟩ := pile_ints h
    refine ew_one (ew_all C' B.all (es_new (en_lcM (α := Int) (own := [("gap", 1)]) D.int (fun g => .bl (decide (1 < g))) C' (TgB.name 1 rfl rfl (by simp)) (iw_list (ew_df C' F2 (aw_cons (nv 0 rfl C' (aw_nil ⟨rfl, _, ⟨ns, rfl, by omega, rfl⟩, _, rfl, gapsL ns, rfl, ?_, fun x hx => bi_plain rfl fun s H C0 cl fp Cb => ?_, rfl, (gapsL ns).map (fun g => decide (1 < g)), by rw [List.map_map]; rfl, .inl ?_⟩))))) (blkOk_by (by decide +kernel)))))
    · rw [gapsL, List.length_map, List.length_range]; omega
    · exact ew_gt (nv 1 rfl Cb (ew_int ⟨_, _, rfl, rfl, rfl⟩))
    · have h : isPileD (.tup (ns.map D.int)) = true := h
      simp only [isRowD, h, List.all_map, Function.comp_def, id, Bool.true_and, intsD_map]
  · cases d with
    | tup xs => simp only [isRowD, h, Bool.false_and]
    | _ => rfl
def S_need_pile (C : Addr) (ds : List D) (r : FR) : Prop := ∃ d, ds = [d] ∧ d.wty = true ∧ r = if isPileD d = true then .ret .non else .exc C
theorem fn_need_pile {A : Addr} (F : Fun K "need_pile" "need_pile" s_need_pile f fd) (E : ExF K mg "NoPile" A) (F1 : Df P w K mg base "is_pile" 2 1 S_is_pile) : Fn P w K mg base f 3 1 (S_need_pile A) := by
  refine fn_def F sc_need_pile (F.binds fun _ _ _ _ _ _ us hl => match us, hl with | [_], _ => rfl) fun ds r hS hl X W O C => ?_
  obtain ⟨rfl, rfl, rfl, rfl, rfl⟩ := O
  obtain ⟨d, rfl, ht, rfl⟩ := hS
  have C' := C.toCtx
  refine sw_if (tw_not (tw_val (ew_df C' F1 (aw_cons (nv 0 rfl C' (aw_nil ⟨rfl, _, ⟨_, rfl, ht, rfl⟩, _, rfl, fun h => sw_raise C' E ?_, fun h => sw_nil (sw_nil ?_)⟩))))))
  · show (if isPileD d = true then FR.ret .non else FR.exc A) = .exc A
    rw [if_neg (by simpa using h)]
  · show (if isPileD d = true then FR.ret .non else FR.exc A) = .ret .non
    rw [if_pos (by simpa using h)]
def S_need_row (C : Addr) (ds : List D) (r : FR) : Prop := ∃ d, ds = [d] ∧ d.wty = true ∧ r = if isRowD d = true then .ret .non else .exc C
/-- pile_of: what comes of a list of things -/
def pileOf (C : Addr) (ds : List D) : FR := if ds.all isPlaceD = true ∧ ds.length ≤ 240 then .ret (tupI (srt (intsD ds))) else .exc C
theorem getD_ord {ns : List Int} (o : ns.Pairwise (· ≤ ·)) {i : Nat} (h : i + 1 < ns.length) : ns.getD i 0 ≤ ns.getD (i + 1) 0 := by
  rw [List.getD_eq_getElem?_getD, List.getD_eq_getElem?_getD, List.getElem?_eq_getElem h, List.getElem?_eq_getElem (by omega)]
  exact List.pairwise_iff_getElem.mp o i (i + 1) (by omega) h (by omega)
theorem gaps_ord {ns : List Int} (o : ns.Pairwise (· ≤ ·)) : ∀ g ∈ gapsL ns, 0 ≤ g := by
  intro g hg
  obtain ⟨i, hi, rfl⟩ := List.mem_map.mp hg
  have hi := List.mem_range.mp hi
  have := getD_ord o (i := i) (by omega)
  omega
theorem ord_gaps : ∀ {ns : List Int}, (∀ g ∈ gapsL ns, 0 ≤ g) → ns.Pairwise (· ≤ ·) := by
  intro ns h
  refine List.pairwise_iff_getElem.mpr fun i j hi hj lt => ?_
  have step : ∀ k, (hk : k + 1 < ns.length) → ns[k]'(by omega) ≤ ns[k + 1] := fun k hk => by
    have := h _ (List.mem_map.mpr ⟨k, List.mem_range.mpr (by omega), rfl⟩)
    rw [List.getD_eq_getElem?_getD, List.getD_eq_getElem?_getD, List.getElem?_eq_getElem hk, List.getElem?_eq_getElem (by omega)] at this
    simp only [Option.getD_some] at this
    omega
  have main : ∀ d k, (hk : k + d < ns.length) → ns[k]'(by omega) ≤ ns[k + d] := by
    intro d
    induction d with
    | zero => intro k hk; exact Int.le_refl _
    | succ d ih => intro k hk; exact Int.le_trans (ih k (by omega)) (step (k + d) (by omega))
  have := main (j - i) i (by omega)
  simpa only [show i + (j - i) = j by omega] using this
theorem isPile_tupI {ns : List Int} : isPileD (tupI ns) = true ↔ ns.length ≤ 240 ∧ (∀ n ∈ ns, 0 ≤ n ∧ n ≤ 99) ∧ ns.Pairwise (· ≤ ·) := by
  simp only [tupI, isPileD, Bool.and_eq_true, decide_eq_true_eq, List.all_eq_true, List.length_map, intsD_map]
  refine and_congr Iff.rfl (and_congr ⟨fun h n hn => ?_, fun h x hx => ?_⟩ ⟨ord_gaps, gaps_ord⟩)
  · simpa only [isPlaceD, Bool.and_eq_true, decide_eq_true_eq] using h _ (List.mem_map_of_mem hn)
  · obtain ⟨n, hn, rfl⟩ := List.mem_map.mp hx
    simpa only [isPlaceD, Bool.and_eq_true, decide_eq_true_eq] using h n hn
def S_pile_of (C : Addr) (ds : List D) (r : FR) : Prop := ∃ es, ds = [.lst es] ∧ wtyAll es = true ∧ es.length ≤ 100000 ∧ r = pileOf C es
def S_worths (ds : List D) (r : FR) : Prop := r = .new ((fws 100).map D.int)
def S_worth (C : Addr) (ds : List D) (r : FR) : Prop := ∃ d, ds = [d] ∧ d.wty = true ∧ ((∃ ns : List Int, d = tupI ns ∧ isPileD d = true ∧ r = .ret (.int (worthL ns))) ∨ (isPileD d = false ∧ r = .exc C))
end
end DL
namespace DL
open PySem PySem.Spec PyProof.Rows L2
/-- the refusals -/
inductive Rf where
  | np | nr | nm | tg | bl | nt
deriving DecidableEq
def Rf.tx : Rf → Str
  | .np => "NoPile"
  | .nr => "NoRow"
  | .nm => "NoMove"
  | .tg => "TooGreat"
  | .bl => "Below"
  | .nt => "NoText"
theorem boot_ve : bootBuiltins "ValueError" = some (.type "ValueError") := by decide +kernel
/-- what the text has of its classes -/
structure Cl (K : PySem.W.Frag) (mg : Str → Option Value) (ad : Rf → Addr) : Prop where
  me : ∃ m, mg "MarkError" = some (.ref m) ∧ ∀ r, PySem.W.exmOne K (.ref (ad r)) (.ref m) = some true
  ex : ∀ r, ExF K mg r.tx (ad r)
  cc : ∀ r, ExcC K (ad r)
  is : ∀ r s, PySem.W.kitOne K (.ref (ad r)) (.ref (ad s)) = some (decide (r = s))
  ve : ∀ r, PySem.W.kitOne K (.ref (ad r)) (.type "ValueError") = some true
section
variable {P : Program} {w : World} {K : PySem.W.Frag} {mg : Str → Option Value} {base : Heap} {f : Addr} {fd : FuncData} {ad : Rf → Addr}
/-! ### _law_mix -/
def mixZ (c k : Int) : Int :=
  let m := (c * 48271 + 7919 * k * k + 31 * k + 5) % 2147483647
  m * (m + 2 * k + 1) % 2147483629
def S_mix (ds : List D) (r : FR) : Prop := ∃ c k : Int, ds = [.int c, .int k] ∧ 0 ≤ k ∧ k ≤ 1000000 ∧ r = .ret (.int (mixZ c k))
theorem fn_mix (F : Fun K "_law_mix" "_law_mix" s__law_mix f fd) : Fn P w K mg base f 1 2 S_mix := by
  refine fn_def F sc__law_mix (F.binds fun _ _ _ _ _ _ us hl => match us, hl with | [_, _], _ => rfl) fun ds r hS hl X W O C => ?_
  obtain ⟨rfl, rfl, rfl, rfl, rfl⟩ := O
  obtain ⟨c, k, rfl, h0, h1, rfl⟩ := hS
  have C' := C.toCtx
  refine sw_set C (i := 2) (ew_mod (ew_add (ew_add (ew_add (ew_mul (nv 0 rfl C' (ew_int ⟨_, _, rfl, rfl, .inr ⟨by decide, by decide⟩, ew_mul (ew_mul (ew_int (nv 1 rfl C' ⟨_, _, rfl, rfl, .inl ⟨by decide, by decide⟩, nv 1 rfl C' ⟨_, _, rfl, rfl, .inr ⟨by omega, by omega⟩, _, _, rfl, rfl, ew_mul (ew_int (nv 1 rfl C' ⟨_, _, rfl, rfl, .inl ⟨by decide, by decide⟩, _, _, rfl, rfl, ew_int ⟨_, _, rfl, rfl, ew_int ⟨_, _, rfl, rfl, by decide, ?_⟩⟩⟩))⟩⟩)))⟩)))))))
  refine sw_ret (ew_mod (ew_mul (nv 2 rfl C' (ew_add (ew_add (nv 2 rfl C' (ew_mul (ew_int (nv 1 rfl C' ⟨_, _, rfl, rfl, .inl ⟨by decide, by decide⟩, _, _, rfl, rfl, ew_int ⟨_, _, rfl, rfl, _, _, rfl, rfl, ?_, ew_int ⟨_, _, rfl, rfl, by decide, .inl rfl⟩⟩⟩)))))))))
  refine .inl ?_
  have a := Int.emod_nonneg (c * 48271 + 7919 * k * k + 31 * k + 5) (show (2147483647 : Int) ≠ 0 by decide)
  have b := Int.emod_lt_of_pos (c * 48271 + 7919 * k * k + 31 * k + 5) (show (0 : Int) < 2147483647 by decide)
  omega
/-! ### _law_worths -/
def S_lworths (ds : List D) (r : FR) : Prop := r = .new ((fws 101).map D.int)
theorem fn_lworths (F : Fun K "_law_worths" "_law_worths" s__law_worths f fd) (B : Bt mg) : Fn P w K mg base f 1 0 S_lworths := by
  refine fn_def F sc__law_worths (F.binds fun _ _ _ _ _ _ us hl => match us, hl with | [], _ => rfl) fun ds r hS hl X W O C => ?_
  obtain ⟨rfl, rfl, rfl, rfl, rfl⟩ := O
  obtain rfl := hS
  obtain rfl := List.length_eq_zero_iff.mp hl
  have C' := C.toCtx
  refine sw_setN C (i := 0) (en_lst (aw_cons (ew_int (aw_cons (ew_int (aw_nil ⟨by decide, ?_⟩))))))
  refine sw_while C' (fun m ρ' => ∃ n : Nat, 2 ≤ n ∧ n ≤ 101 ∧ m = 101 - n ∧ ρ' = [.own ((fws n).map D.int)]) ⟨2, by omega, by omega, rfl, rfl⟩ ?_
  rintro m ρ' ⟨n, h2, h1, rfl, rfl⟩
  have hn : ((fws n).map D.int).length = n := by rw [List.length_map, fws, List.length_map, List.length_range]
  refine tw_lt (ew_len C' B.len (ov 0 rfl C' (ew_int ⟨_, _, rfl, rfl, fun h => ?_, fun h => ?_⟩)))
  · have h := of_decide_eq_true h
    rw [hn] at h
    refine sw_append C' (i := 0) rfl (ew_add (ew_ix (ov 0 rfl C' (ew_neg (ew_int ⟨_, rfl, _, _, rfl, fws_neg (n - 1) (by omega) (by omega), ew_ix (ov 0 rfl C' (ew_neg (ew_int ⟨_, rfl, _, _, rfl, fws_neg (n - 2) (by omega) (by omega), _, _, rfl, rfl, ?_, sw_nil ⟨101 - (n + 1), by omega, n + 1, by omega, by omega, rfl, ?_⟩⟩)))⟩)))))
    · rw [hn]
      have : (1000 : Nat) < sizeLine := by decide
      omega
    · have e : fw (n - 1) + fw (n - 2) = fw n := by
        obtain ⟨k, rfl⟩ : ∃ k, n = k + 2 := ⟨n - 2, by omega⟩
        rfl
      rw [e, fws_succ]
      rfl
  · have h := of_decide_eq_false h
    rw [hn] at h
    have : n = 101 := by omega
    subst this
    exact sw_retO C' (i := 0) rfl (.inl rfl)
/-! ### _law_worth, _law_place, _law_pile -/
def S_lworth (ds : List D) (r : FR) : Prop := ∃ ns : List Int, ds = [tupI ns] ∧ (∀ n ∈ ns, 0 ≤ n ∧ n ≤ 100) ∧ ns.length ≤ 100000 ∧ r = .ret (.int (worthL ns))
theorem fn_lworth (F : Fun K "_law_worth" "_law_worth" s__law_worth f fd) (B : Bt mg) (F2 : Df P w K mg base "_law_worths" 1 0 S_lworths) : Fn P w K mg base f 2 1 S_lworth := by
  refine fn_def F sc__law_worth (F.binds fun _ _ _ _ _ _ us hl => match us, hl with | [_], _ => rfl) fun ds r hS hl X W O C => ?_
  obtain ⟨rfl, rfl, rfl, rfl, rfl⟩ := O
  obtain ⟨ns, rfl, h2, hz, rfl⟩ := hS
  have C' := C.toCtx
  refine sw_set C (i := 1) (ew_df0 C' F2 ⟨_, rfl, ?_⟩)
  refine sw_ret (ew_sum C' B.sum (es_new (en_lcM (α := Int) (own := [("_law_place_here", 2)]) D.int (fun n => .int (fw n.toNat)) C' (TgB.name 2 rfl rfl (by simp)) (iw_tup (nv 0 rfl C' ⟨_, rfl, ns, rfl, by omega, fun n hn => bi_plain rfl fun s H C0 cl fp Cb => ?_, rfl, ns.map fun n => fw n.toNat, by rw [List.map_map]; rfl, .inl rfl⟩)) (blkOk_by (by decide +kernel)))))
  exact ew_ix (sv 1 rfl Cb (nv 2 rfl Cb ⟨_, _, rfl, fws_get (h2 n hn).1 (by have := (h2 n hn).2; omega), rfl⟩))
def placeL (n : Int) : List Int := [n / 8 % 12, n / 8 % 6, n / 8 % 30, n / 8 % 100, 0, 1, n / 8 % 3, 60]
def placeZ (n : Int) : Int := (placeL n).getD (n % 8).toNat 0
theorem mod_bd (n m : Int) (h : 0 < m) : 0 ≤ n % m ∧ n % m < m := ⟨Int.emod_nonneg _ (by omega), Int.emod_lt_of_pos _ h⟩
theorem placeZ_bd (n : Int) : 0 ≤ placeZ n ∧ placeZ n ≤ 99 := by
  have key : ∀ x ∈ placeL n, 0 ≤ x ∧ x ≤ 99 := by
    intro x hx
    have h1 := mod_bd (n / 8) 12 (by decide)
    have h2 := mod_bd (n / 8) 6 (by decide)
    have h3 := mod_bd (n / 8) 30 (by decide)
    have h4 := mod_bd (n / 8) 100 (by decide)
    have h5 := mod_bd (n / 8) 3 (by decide)
    simp only [placeL, List.mem_cons, List.not_mem_nil, or_false] at hx
    rcases hx with rfl | rfl | rfl | rfl | rfl | rfl | rfl | rfl <;> omega
  unfold placeZ
  rw [List.getD_eq_getElem?_getD]
  cases e : (placeL n)[(n % 8).toNat]? with
  | none => exact ⟨by decide, by decide⟩
  | some x => exact key x (List.mem_of_getElem? e)
def S_place (ds : List D) (r : FR) : Prop := ∃ n : Int, ds = [.int n] ∧ r = .ret (.int (placeZ n))
theorem fn_place (F : Fun K "_law_place" "_law_place" s__law_place f fd) : Fn P w K mg base f 1 1 S_place := by
  refine fn_def F sc__law_place (F.binds fun _ _ _ _ _ _ us hl => match us, hl with | [_], _ => rfl) fun ds r hS hl X W O C => ?_
  obtain ⟨rfl, rfl, rfl, rfl, rfl⟩ := O
  obtain ⟨n, rfl, rfl⟩ := hS
  have C' := C.toCtx
  refine sw_set C (i := 1) (ew_fdiv (nv 0 rfl C' (ew_int ⟨_, _, rfl, rfl, ⟨by decide, by decide⟩, ?_⟩)))
  have hb := mod_bd n 8 (by decide)
  have md : ∀ {m : Int} {j1 p1 p2 p3} {Φ : D → Prop} {W : WX} {Z : DZ} {ρ : List Sl}, ρ[1]? = some (Sl.dat (.int (n / 8))) → Ctx X W N__law_place (defScope s__law_place) 0 → 0 < m → Φ (.int (n / 8 % m)) → EW X W ρ (.BinOp (.Name "_law_rest" p1) .Mod (.Constant (.int m) j1 p2) p3) Φ Z := fun hρ C' hm h => ew_mod (nv 1 hρ C' (ew_int ⟨_, _, rfl, rfl, hm, h⟩))
  refine sw_ret <| ew_ix <| es_new <| en_lst <| aw_cons <| md rfl C' (by decide) <| aw_cons <| md rfl C' (by decide) <| aw_cons <| md rfl C' (by decide) <| aw_cons <| md rfl C' (by decide) <| aw_cons <| ew_int <| aw_cons <| ew_int <| aw_cons <| md rfl C' (by decide) <| aw_cons <| ew_int <| aw_nil ⟨by simp only [List.length_cons, List.length_nil]; decide, ew_mod (nv 0 rfl C' (ew_int ⟨_, _, rfl, rfl, by decide, _, _, rfl, ?_, .inl rfl⟩))⟩
  exact atG (ns := placeL n) (n % 8).toNat (by show (n % 8).toNat < 8; omega) (by omega)
/-- what is cut off a list of ints -/
theorem cutG_map {α β : Type} (g : α → β) (xs : List α) (lo hi : Option Int) : cutG (xs.map g) lo hi = (cutG xs lo hi).map g := by
  unfold cutG
  rw [List.length_map, List.map_take, List.map_drop]
theorem cutG_le {α : Type} (xs : List α) (lo hi : Option Int) : (cutG xs lo hi).length ≤ xs.length := by
  unfold cutG
  rw [List.length_take, List.length_drop]
  omega
theorem enumD_zip : ∀ (cs : List Int) (n : Nat), enumD n (cs.map D.int) = (cs.zipIdx n).map fun p => .pr (.int p.2) (.int p.1)
  | [], _ => rfl
  | c :: cs, n => by simp only [List.map_cons, enumD, List.zipIdx_cons, enumD_zip cs (n + 1)]
def placesL (cs : List Int) : List Int := cs.zipIdx.map fun p => placeZ (mixZ p.1 (11 + p.2))
def pileL (ns : List Int) (a m : Int) : List Int := srt (placesL (cutG ns (some a) (some (a + m))))
def S_pile (ds : List D) (r : FR) : Prop := ∃ (ns : List Int) (a m : Int), ds = [lstI ns, .int a, .int m] ∧ ns.length ≤ 1000 ∧ r = .ret (tupI (pileL ns a m))
theorem zipIdx_bd {cs : List Int} {p : Int × Nat} (h : p ∈ cs.zipIdx) : p.2 < cs.length := by
  obtain ⟨_, h2, _⟩ := List.mem_zipIdx h
  omega
theorem fn_pile (F : Fun K "_law_pile" "_law_pile" s__law_pile f fd) (B : Bt mg) (F1 : Df P w K mg base "_law_mix" 1 2 S_mix) (F2 : Df P w K mg base "_law_place" 1 1 S_place) : Fn P w K mg base f 2 3 S_pile := by
  refine fn_def F sc__law_pile (F.binds fun _ _ _ _ _ _ us hl => match us, hl with | [_, _, _], _ => rfl) fun ds r hS hl X W O C => ?_
  obtain ⟨rfl, rfl, rfl, rfl, rfl⟩ := O
  obtain ⟨ns, a, m, rfl, hz, rfl⟩ := hS
  have C' := C.toCtx
  have hl := cutG_le ns (some a) (some (a + m))
  refine sw_setLcM (α := Int × Nat) (own := [("_law_k", 4), ("_law_cell", 5)]) (fun p => .pr (.int p.2) (.int p.1)) (fun p => .int (placeZ (mixZ p.1 (11 + p.2)))) C (i := 3) (TgB.pair 4 5 rfl rfl rfl rfl (by simp) (by simp)) ?_ (blkOk_by (by decide +kernel))
  refine iw_enum C' B.enum (ew_new (en_slice (sv 0 rfl C' ⟨rfl, nv 1 rfl C' ⟨_, rfl, ew_add (nv 1 rfl C' (nv 2 rfl C' ⟨_, _, rfl, rfl, _, rfl, _, rfl, (cutG ns (some a) (some (a + m))).zipIdx, ?_, ?_, ?_, ?_⟩))⟩⟩)))
  · rw [cutG_map, enumD_zip]
  · rw [List.length_zipIdx]; omega
  · intro p hp
    have hi := zipIdx_bd hp
    refine bi_plain rfl fun s H C0 cl fp Cb => ?_
    exact ew_df Cb F2 (aw_cons (ew_df Cb F1 (aw_cons (nv 5 rfl Cb (aw_cons (ew_add (ew_int (nv 4 rfl Cb ⟨_, _, rfl, rfl, aw_nil ⟨rfl, _, ⟨_, _, rfl, by omega, by omega, rfl⟩, aw_nil ⟨rfl, _, ⟨_, rfl, rfl⟩, rfl⟩⟩⟩))))))))
  · refine sw_ret (ew_tuple C' B.tuple (es_new (en_sorted C' B.sorted (ov 3 rfl C' ⟨rfl, placesL (cutG ns (some a) (some (a + m))), ?_, .inl rfl⟩))))
    rw [placesL, List.map_map]
    rfl
theorem placesL_bd {cs : List Int} : (∀ n ∈ placesL cs, 0 ≤ n ∧ n ≤ 99) ∧ (placesL cs).length = cs.length := by
  refine ⟨fun n hn => ?_, by rw [placesL, List.length_map, List.length_zipIdx]⟩
  obtain ⟨p, _, rfl⟩ := List.mem_map.mp hn
  exact placeZ_bd _
theorem pileL_bd {ns : List Int} {a m : Int} : (∀ n ∈ pileL ns a m, 0 ≤ n ∧ n ≤ 99) ∧ (pileL ns a m).length ≤ ns.length ∧ (pileL ns a m).Pairwise (· ≤ ·) := by
  refine ⟨fun n hn => placesL_bd.1 n ((srt_perm _).mem_iff.mp hn), ?_, srt_ord _⟩
  rw [pileL, (srt_perm _).length_eq, placesL_bd.2]
  exact cutG_le _ _ _
/-! ### _law_word, _law_tried -/
def S_word (ad : Rf → Addr) (ds : List D) (r : FR) : Prop := ∃ q : Rf, ds = [.exc (ad q)] ∧ r = .ret (.str q.tx)
def wordsL (q : Rf) : List (Str × Bool) := [("NoPile", decide (q = .np)), ("NoRow", decide (q = .nr)), ("NoMove", decide (q = .nm)), ("TooGreat", decide (q = .tg)), ("Below", decide (q = .bl)), ("NoText", decide (q = .nt))]
theorem fn_word (F : Fun K "_law_word" "_law_word" s__law_word f fd) (B : Bt mg) (L : Cl K mg ad) : Fn P w K mg base f 1 1 (S_word ad) := by
  refine fn_def F sc__law_word (F.binds fun _ _ _ _ _ _ us hl => match us, hl with | [_], _ => rfl) fun ds r hS hl X W O C => ?_
  obtain ⟨rfl, rfl, rfl, rfl, rfl⟩ := O
  obtain ⟨q, rfl, rfl⟩ := hS
  have C' := C.toCtx
  have is : ∀ {ρ : List Sl} {W : WX} {Z : DZ} {Φ : D → Prop} {x t : Str} {p1 p2 p3 p4 p5 p6 : Pos} {j1 j2} (s : Rf) (hx : x = s.tx), Ctx X W N__law_word (defScope s__law_word) 0 → ρ[0]? = some (Sl.dat (.exc (ad q))) → GlN (defScope s__law_word) x → (x == ("__debug__" : Str)) = false → Φ (.tup [.str t, .bl (decide (q = s))]) →
      EW X W ρ (.Tuple [.Constant (.str t) j1 p1, .Call (.Name "isinstance" p2) [.Name "_law_e" p3, .Name x p4] [] p5] j2 p6) Φ Z := fun s hx C' hρ hg hd h => by
    subst hx
    exact ew_tup (aw_cons (ew_str (aw_cons (ew_isX C' B.isi (L.ex s).g (nv 0 hρ C' ⟨_, _, rfl, L.cc q, L.is q s, aw_nil ⟨by simp only [List.length_cons, List.length_nil]; decide, h⟩⟩) rfl hg hd))))
  refine sw_setN C (i := 1) (en_lst (aw_cons (is .np rfl C' rfl rfl (by decide) (aw_cons (is .nr rfl C' rfl rfl (by decide) (aw_cons (is .nm rfl C' rfl rfl (by decide) (aw_nil ⟨by simp only [List.length_cons, List.length_nil]; decide, ?_⟩))))))))
  refine sw_setN C (i := 1) (en_cat (ov 1 rfl C' ⟨rfl, es_new (en_lst (aw_cons (is .tg rfl C' rfl rfl (by decide) (aw_cons (is .bl rfl C' rfl rfl (by decide) (aw_nil ⟨by simp only [List.length_cons, List.length_nil]; decide, rfl, by simp only [List.length_cons, List.length_nil]; decide, ?_⟩))))))⟩))
  refine sw_setN C (i := 1) (en_cat (ov 1 rfl C' ⟨rfl, es_new (en_lst (aw_cons (is .nt rfl C' rfl rfl (by decide) (aw_nil ⟨by simp only [List.length_cons, List.length_nil]; decide, rfl, by simp only [List.length_cons, List.length_nil, List.cons_append, List.nil_append]; decide, ?_⟩))))⟩))
  refine sw_freeze (i := 1) rfl ?_
  refine sw_setLcF (α := Str × Bool) (own := [("_law_word_here", 3), (wordVar, 4)]) (fun p => .tup [.str p.1, .bl p.2]) (fun p => if p.2 = true then some (.str p.1) else none) C (i := 2) (TgB.pair 3 4 rfl rfl rfl rfl (by simp) (by simp)) ?_ (blkOk_by (by decide +kernel))
  refine iw_list (nv 1 rfl C' ⟨_, rfl, wordsL q, rfl, by simp only [wordsL, List.length_cons, List.length_nil]; decide, fun p hp => bi_if p.2 rfl (fun s H C0 cl fp Cb => tw_val (nv 4 rfl Cb ⟨_, rfl, rfl⟩)) fun hp2 s H C0 cl fp Cb => nv 3 rfl Cb rfl, ?_⟩)
  have e : (wordsL q).filterMap (fun p => if p.2 = true then some (D.str p.1) else none) = [.str q.tx] := by cases q <;> rfl
  rw [e]
  refine sw_if (tw_bool (bw_or (tw_neI C' (ew_len C' B.len (ov 2 rfl C' (ew_int ⟨_, _, rfl, rfl, fun _ => bw_or1 (tw_not (tw_val (ew_isXB C' B.isi B.ve rfl boot_ve (nv 0 rfl C' ⟨_, _, rfl, L.cc q, L.ve q, _, rfl, (fun z => nomatch z), fun _ => sw_nil ?_⟩)))), (fun z => nomatch z)⟩))))))
  exact sw_ret (ew_ix (ov 2 rfl C' (ew_int ⟨_, _, rfl, rfl, .inl rfl⟩)))
def isExc : D → Bool
  | .exc _ => true
  | _ => false
theorem FRd.mono {Φ Φ' : D → Prop} {Z Z' : DZ} {r : FR} (h : FRd Φ Z r) (h1 : ∀ d, Φ d → Φ' d) (h2 : ∀ A, Z A → Z' A) : FRd Φ' Z' r := by
  cases r with
  | ret d => exact h1 _ h
  | new ds => exact h1 _ h
  | exc A => exact h2 _ h
  | gen => exact h.elim
/-- what the law's own trying tells of a deed's end -/
def Told (ad : Rf → Addr) (r0 r : FR) : Prop := (∃ d, r0 = .ret d ∧ isExc d = false ∧ r = .ret d) ∨ (∃ ds, r0 = .new ds ∧ r = .ret (.lst ds)) ∨ ∃ q : Rf, r0 = .exc (ad q) ∧ r = .ret (.str q.tx)
def S_tried (P : Program) (w : World) (K : PySem.W.Frag) (mg : Str → Option Value) (base : Heap) (ad : Rf → Addr) (ds : List D) (r : FR) : Prop :=
  ∃ (g : Addr) (j n : Nat) (S : List D → FR → Prop) (things : List D) (r0 : FR), ds = [.raw (.ref g), .lst things] ∧ Fn P w K mg base g j n S ∧ j ≤ 30 ∧ things.length = n ∧ (n = 1 ∨ n = 2) ∧ S things r0 ∧ Told ad r0 r
theorem fn_tried (F : Fun K "_law_tried" "_law_tried" s__law_tried f fd) (B : Bt mg) (L : Cl K mg ad) (F1 : Df P w K mg base "_law_word" 1 1 (S_word ad)) : Fn P w K mg base f 31 2 (S_tried P w K mg base ad) := by
  refine fn_def F sc__law_tried (F.binds fun _ _ _ _ _ _ us hl => match us, hl with | [_, _], _ => rfl) fun ds r hS hl X W O C => ?_
  obtain ⟨rfl, rfl, rfl, rfl, rfl⟩ := O
  obtain ⟨g, j, n, S, things, r0, rfl, G, hj, hn, h12, hs, ht⟩ := hS
  have C' := C.toCtx
  obtain ⟨me, hme, hx⟩ := L.me
  refine sw_set C (i := 2) (ew_non (sw_set C (i := 3) (ew_non (sw_tryKeep C (i := 4) (j := 3) hme (fun W' pn xe C2 => ?_) (by decide)))))
  have C2' := C2.toCtx
  -- what comes behind the suite
  have done : ∀ d, isExc d = false → r = .ret d → SW X W [.dat (.raw (.ref g)), .dat (.lst things), .dat d, .dat .non, .em] (defBody s__law_tried |>.drop 3) (endF r) := fun d _ e => by
    subst e
    exact sw_if (tw_isN (nv 3 rfl C' ⟨fun _ => sw_ret (nv 2 rfl C' (.inl rfl)), (fun z => nomatch z)⟩))
  have fail : ∀ q : Rf, r = .ret (.str q.tx) → ∀ x, SW X W [.dat (.raw (.ref g)), .dat (.lst things), x, .dat (.exc (ad q)), .em] (defBody s__law_tried |>.drop 3) (endF r) := fun q e x => by
    subst e
    exact sw_if (tw_isN (nv 3 rfl C' ⟨(fun z => nomatch z), fun _ => sw_nil (sw_ret (ew_df C' F1 (aw_cons (nv 3 rfl C' (aw_nil ⟨rfl, _, ⟨q, rfl, rfl⟩, .inl rfl⟩)))))⟩))
  have told : FRd (fun d => SW X W [.dat (.raw (.ref g)), .dat (.lst things), .dat d, .dat .non, .em] (defBody s__law_tried |>.drop 3) (endF r)) (fun A => PySem.W.exmOne X.K (.ref A) (.ref me) = some true ∧ SW X W [.dat (.raw (.ref g)), .dat (.lst things), .dat .non, .dat (.exc A), .em] (defBody s__law_tried |>.drop 3) (endF r)) r0 := by
    rcases ht with ⟨d, rfl, hd, e⟩ | ⟨ds, rfl, e⟩ | ⟨q, rfl, e⟩
    · exact done d hd e
    · exact done (.lst ds) rfl e
    · exact ⟨hx q, fail q e _⟩
  refine sw_if (tw_eqI C2' (ew_len C2' B.len (sv 1 rfl C2' (ew_int ⟨_, _, rfl, rfl, fun h => ?_, fun h => ?_⟩))))
  · have h : (things.length : Int) = 1 := of_decide_eq_true h
    match things, hn, h, hs with
    | [x], hn, _, hs => exact sw_set C2 (i := 2) (ew_callL C2' G (i := 0) rfl (aw_cons (ew_ix (sv 1 rfl C2' (ew_int ⟨_, _, rfl, rfl, aw_nil ⟨hn, _, hs, FRd.mono told (fun d h => sw_nil (sw_nil h)) fun A h => h⟩⟩)))))
    | [], _, h, _ => cases h
    | _ :: _ :: _, _, h, _ => simp only [List.length_cons] at h; omega
  · have h : ¬ (things.length : Int) = 1 := of_decide_eq_false h
    match things, hn, h, hs with
    | [x, y], hn, _, hs => exact sw_set C2 (i := 2) (ew_callL C2' G (i := 0) rfl (aw_cons (ew_ix (sv 1 rfl C2' (ew_int ⟨_, _, rfl, rfl, aw_cons (ew_ix (sv 1 rfl C2' (ew_int ⟨_, _, rfl, rfl, aw_nil ⟨hn, _, hs, FRd.mono told (fun d h => sw_nil (sw_nil h)) fun A h => h⟩⟩)))⟩)))))
    | [x], _, h, _ => exact absurd rfl h
    | [], hn, _, _ => simp only [List.length_nil] at hn; omega
    | _ :: _ :: _ :: _, hn, _, _ => simp only [List.length_cons] at hn; omega
end
end DL
namespace DL
open PySem PySem.Spec PyProof.Rows L2
/-- what the top has of a def -/
abbrev Tf (K : PySem.W.Frag) (mg : Str → Option Value) (x : Str) (st : Stmt) : Prop := ∃ f fd, mg x = some (.ref f) ∧ Fun K x x st f fd
section
variable {K : PySem.W.Frag} {h : Heap} {mg : Str → Option Value}
theorem fun_top {x : Str} {st : Stmt} {f : Addr} {oc : Value} {od an : Option Addr} {osl : Array (Option Value)} {kV doc pm cdv ct : Value} (X : K.In h) (G : h.Ns mainGlobals mg) (a : PySem.W.nsIn K mainGlobals x = some (some (.ref f)))
    (l : K.lookup f = some ⟨oc, od, .func (PySem.W.fnOf x x (defArgs st) (defBody st) (defScope st) .none kV doc pm an cdv ct), osl⟩) (c : PySem.W.codeIn K cdv x = true) (k : PySem.W.keepIn K (.ref f) = true) : Tf K mg x st :=
  ⟨f, _, PySem.W.mg_of X G a, fun_mk l c k⟩
theorem bt_mk (X : K.In h) (G : h.Ns mainGlobals mg) (z : (["len", "all", "isinstance", "sorted", "tuple", "sum", "range", "enumerate", "list", "max", "min", "reversed", "int", "str", "bool", "ValueError"] : List Str).all (fun x => PySem.W.nsIn K mainGlobals x == some none) = true) : Bt mg := by
  have q : ∀ x : Str, x ∈ (["len", "all", "isinstance", "sorted", "tuple", "sum", "range", "enumerate", "list", "max", "min", "reversed", "int", "str", "bool", "ValueError"] : List Str) → mg x = none := fun x hx => PySem.W.mg_none_of X G (beq_iff_eq.mp (List.all_eq_true.mp z x hx))
  constructor <;> exact q _ (by simp)
def excOk (K : PySem.W.Frag) (me D : Addr) : Bool :=
  PySem.W.excIn K D [.type "ValueError", .type "Exception", .type "BaseException", .type "object"] "ValueError.__new__" && PySem.W.keepIn K (.ref D) && PySem.W.subIn K (.ref D) (.type "BaseException") == some true && PySem.W.typeIn K (.ref D) == some (.type "type") &&
  PySem.W.findIn K (.ref D) "__getattribute__" == some (some (.builtin "BaseException.__getattribute__")) && PySem.W.findIn K (.ref D) "__getattr__" == some none && PySem.W.hasDictIn K D && PySem.W.findIn K (.ref D) "__class__" == some (some (.builtin "object.__class__")) &&
  PySem.W.specialIn K (.builtin "object.__class__") "__get__" == some (some (.builtin "getset_descriptor.__get__")) && PySem.W.takesIn K (.builtin "object.__class__") == some true && PySem.W.mroIn K D (.type "object") == some true &&
  PySem.W.exmOne K (.ref D) (.ref me) == some true && PySem.W.kitOne K (.ref D) (.type "ValueError") == some true
def adOf (np nr nm tg bl nt : Addr) : Rf → Addr
  | .np => np
  | .nr => nr
  | .nm => nm
  | .tg => tg
  | .bl => bl
  | .nt => nt
def rfs : List Rf := [.np, .nr, .nm, .tg, .bl, .nt]
theorem rfs_all (r : Rf) : r ∈ rfs := by cases r <;> decide
theorem cl_mk {np nr nm tg bl nt me : Addr} (X : K.In h) (G : h.Ns mainGlobals mg) (a0 : PySem.W.nsIn K mainGlobals "MarkError" = some (some (.ref me)))
    (a1 : PySem.W.nsIn K mainGlobals "NoPile" = some (some (.ref np))) (a2 : PySem.W.nsIn K mainGlobals "NoRow" = some (some (.ref nr))) (a3 : PySem.W.nsIn K mainGlobals "NoMove" = some (some (.ref nm)))
    (a4 : PySem.W.nsIn K mainGlobals "TooGreat" = some (some (.ref tg))) (a5 : PySem.W.nsIn K mainGlobals "Below" = some (some (.ref bl))) (a6 : PySem.W.nsIn K mainGlobals "NoText" = some (some (.ref nt)))
    (e : (rfs.map (adOf np nr nm tg bl nt)).all (excOk K me) = true)
    (i : rfs.all (fun r => rfs.all fun s => PySem.W.kitOne K (.ref (adOf np nr nm tg bl nt r)) (.ref (adOf np nr nm tg bl nt s)) == some (decide (r = s))) = true) : Cl K mg (adOf np nr nm tg bl nt) := by
  have g : ∀ r : Rf, mg r.tx = some (.ref (adOf np nr nm tg bl nt r)) := fun r => by
    cases r
    · exact PySem.W.mg_of X G a1
    · exact PySem.W.mg_of X G a2
    · exact PySem.W.mg_of X G a3
    · exact PySem.W.mg_of X G a4
    · exact PySem.W.mg_of X G a5
    · exact PySem.W.mg_of X G a6
  have q : ∀ r : Rf, excOk K me (adOf np nr nm tg bl nt r) = true := fun r => List.all_eq_true.mp e _ (List.mem_map_of_mem (rfs_all r))
  simp only [excOk, Bool.and_eq_true, beq_iff_eq] at q
  refine ⟨⟨me, PySem.W.mg_of X G a0, fun r => (q r).1.2⟩, fun r => ?_, fun r => ?_, fun r s => ?_, fun r => (q r).2⟩
  · obtain ⟨⟨⟨⟨⟨⟨⟨⟨⟨⟨⟨⟨q1, q2⟩, q3⟩, q4⟩, q5⟩, q6⟩, q7⟩, q8⟩, q9⟩, q10⟩, q11⟩, q12⟩, q13⟩ := q r
    exact ⟨g r, q1, q2, q3, q4⟩
  · obtain ⟨⟨⟨⟨⟨⟨⟨⟨⟨⟨⟨⟨q1, q2⟩, q3⟩, q4⟩, q5⟩, q6⟩, q7⟩, q8⟩, q9⟩, q10⟩, q11⟩, q12⟩, q13⟩ := q r
    exact ⟨q5, q6, q3, q7, q8, q9, q10, q11⟩
  · have z := List.all_eq_true.mp (List.all_eq_true.mp i r (rfs_all r)) s (rfs_all s)
    exact beq_iff_eq.mp z
/-- no list of the module's own -/
def noLst (K : PySem.W.Frag) : Bool := K.all fun p => !(p.2.cls == .type "list")
theorem noLst_ok {a : Addr} {o : Obj} (h : noLst K = true) (l : K.lookup a = some o) : o.cls ≠ .type "list" := by
  unfold noLst at h
  induction K with
  | nil => cases l
  | cons p r ih =>
    obtain ⟨b, u⟩ := p
    have h' := Bool.and_eq_true_iff.mp (by simpa only [List.all_cons] using h)
    rw [List.lookup_cons] at l
    split at l
    · cases l
      intro z
      rw [z] at h'
      exact absurd h'.1 (by decide +kernel)
    · exact ih h'.2 l
/-- the law's promise meets what the head asks -/
def S_law (ds : List D) (r : FR) : Prop := ∃ ns : List Int, ds = [lstI ns] ∧ ns.length ≤ 63 ∧ r = .ret (.bl true)
theorem sp_end {H : Hp} {a : Addr} {ns : List Int} (n : noLst K = true) (hl : ns.length ≤ 63) (hS : SqL K H a (ns.map V.int)) : spF K 1 S_law [.ref a] H (fun v _ => v = .bl true) fun _ _ _ => False := by
  have hr : Rd H a (.lst (ns.map V.int)) := by
    rcases hS with z | ⟨o, its, m, z1, z2, _⟩
    · exact z
    · exact absurd z2 (noLst_ok n z1)
  refine ⟨[lstI ns], .ret (.bl true), H, rfl, Same.refl _, .cons (.lst hr AtAll.of_ints) .nil, ⟨ns, rfl, hl, rfl⟩, fun v Hb' H' _ q => ?_⟩
  cases q
  rfl
theorem cx_end {P : Program} {w : World} {outer : List Env} {H : Hp} {s s' : Shared} {e : Value} (h : L2.CX P w outer H s (fun _ _ _ => False) e s') : False := by
  obtain ⟨_, _, _, _, _, _, _, _, _, _, _, _, z⟩ := h
  exact z
end
end DL
namespace DL
open PySem PySem.Spec PyProof.Rows L2
/-! ### rows, in plain Lean -/
theorem fw_pos : ∀ n : Nat, 0 < fw n
  | 0 => by decide
  | 1 => by decide
  | n + 2 => by
    have h1 := fw_pos n
    have h2 := fw_pos (n + 1)
    show 0 < fw (n + 1) + fw n
    omega
theorem fw_lt (n : Nat) : fw n < fw (n + 1) := by
  cases n with
  | zero => decide
  | succ n =>
    have := fw_pos n
    show fw (n + 1) < fw (n + 1) + fw n
    omega
theorem fw_mono {m n : Nat} (h : m ≤ n) : fw m ≤ fw n := by
  induction h with
  | refl => exact Int.le_refl _
  | step _ ih => exact Int.le_trans ih (Int.le_of_lt (fw_lt _))
/-- places from p - 1 down, the greatest that goes each time -/
def greedy : Nat → Int → List Int
  | 0, _ => []
  | p + 1, n => if fw p ≤ n then (p : Int) :: greedy p (n - fw p) else greedy p n
def rowL (n : Int) : List Int := (greedy 100 n).reverse
/-- no two side by side, from the greatest down, all below p -/
def Down : Int → List Int → Prop
  | _, [] => True
  | p, d :: r => 0 ≤ d ∧ d < p ∧ Down (d - 1) r
theorem Down.mono : ∀ {p q : Int} {l : List Int}, Down p l → p ≤ q → Down q l
  | _, _, [], _, _ => trivial
  | _, _, d :: r, ⟨h0, h1, h2⟩, h => ⟨h0, by omega, h2⟩
theorem Down.bd : ∀ {p : Int} {l : List Int}, Down p l → ∀ x ∈ l, 0 ≤ x ∧ x < p
  | p, d :: r, ⟨h0, h1, h2⟩, x, hx => by
    rcases List.mem_cons.mp hx with rfl | hx
    · exact ⟨h0, h1⟩
    · have := Down.bd h2 x hx
      omega
theorem greedy_ok : ∀ (p : Nat) (n : Int), 0 ≤ n → n < fw p → Down p (greedy p n) ∧ worthL (greedy p n) = n := by
  intro p
  induction p using Nat.strongRecOn with
  | ind p ih =>
    intro n h0 h1
    cases p with
    | zero =>
      have : fw 0 = 1 := rfl
      exact ⟨trivial, by show (0 : Int) = n; omega⟩
    | succ p =>
      unfold greedy
      by_cases h : fw p ≤ n
      · rw [if_pos h]
        cases p with
        | zero =>
          have e1 : fw 0 = 1 := rfl
          have e2 : fw (0 + 1) = 2 := rfl
          refine ⟨⟨Int.le_refl _, by decide, trivial⟩, ?_⟩
          show (fw 0 + 0 : Int) = n
          omega
        | succ q =>
          have e : fw (q + 1 + 1) = fw (q + 1) + fw q := rfl
          have lt : n - fw (q + 1) < fw q := by omega
          obtain ⟨d, s⟩ := ih q (by omega) (n - fw (q + 1)) (by omega) lt
          have g : greedy (q + 1) (n - fw (q + 1)) = greedy q (n - fw (q + 1)) := by
            rw [greedy, if_neg (by omega)]
          rw [g]
          refine ⟨⟨by omega, by omega, d.mono (by omega)⟩, ?_⟩
          show (List.map _ _).sum = n
          rw [List.map_cons, List.sum_cons]
          have s' : ((greedy q (n - fw (q + 1))).map fun n => fw n.toNat).sum = n - fw (q + 1) := s
          rw [s']
          have : ((q + 1 : Nat) : Int).toNat = q + 1 := by omega
          rw [this]
          omega
      · rw [if_neg h]
        obtain ⟨d, s⟩ := ih p (by omega) n h0 (by omega)
        exact ⟨d.mono (by omega), s⟩
theorem Down.sum_lt : ∀ {p : Nat} {l : List Int}, Down p l → worthL l < fw p
  | p, [], _ => fw_pos p
  | p, d :: r, ⟨h0, h1, h2⟩ => by
    show (List.map _ _).sum < _
    rw [List.map_cons, List.sum_cons]
    obtain ⟨k, rfl⟩ : ∃ k : Nat, d = k := ⟨d.toNat, by omega⟩
    have hk : (k : Int).toNat = k := by omega
    rw [hk]
    have m : fw (k + 1) ≤ fw p := fw_mono (by omega)
    cases k with
    | zero =>
      have : r = [] := by
        cases r with
        | nil => rfl
        | cons x xs =>
          have := h2.1
          have := h2.2.1
          omega
      subst this
      have e1 : fw 0 = 1 := rfl
      have e2 : fw (0 + 1) = 2 := rfl
      show fw 0 + 0 < _
      omega
    | succ q =>
      have h3 : Down (q : Nat) r := by
        have := h2
        rwa [show (((q + 1 : Nat) : Int) - 1) = ((q : Nat) : Int) by omega] at this
      have := h3.sum_lt
      have e : fw (q + 1 + 1) = fw (q + 1) + fw q := rfl
      have this : (r.map fun n => fw n.toNat).sum < fw q := this
      omega
theorem worth_append (a b : List Int) : worthL (a ++ b) = worthL a + worthL b := by
  unfold worthL
  rw [List.map_append, List.sum_append]
theorem worth_rev (a : List Int) : worthL a.reverse = worthL a := by
  induction a with
  | nil => rfl
  | cons x xs ih =>
    rw [List.reverse_cons, worth_append, ih]
    show worthL xs + (fw x.toNat + 0) = (List.map _ _).sum
    rw [List.map_cons, List.sum_cons]
    show (xs.map fun n => fw n.toNat).sum + (fw x.toNat + 0) = _
    omega
theorem rowL_worth {n : Int} (h0 : 0 ≤ n) (h1 : n < fw 100) : worthL (rowL n) = n := by
  rw [rowL, worth_rev]
  exact (greedy_ok 100 n h0 h1).2
/-- a pile that is a row, from the front -/
theorem down_pair : ∀ {p : Int} {l : List Int}, Down p l → l.Pairwise (fun a b => b + 1 < a)
  | _, [], _ => .nil
  | _, d :: r, ⟨h0, h1, h2⟩ => .cons (fun x hx => by have := h2.bd x hx; omega) (down_pair h2)
theorem pair_down : ∀ {l : List Int}, l.Pairwise (fun a b => b + 1 < a) → (∀ x ∈ l, 0 ≤ x) → ∀ p : Int, (∀ x ∈ l, x < p) → Down p l
  | [], _, _, _, _ => trivial
  | d :: r, h, h0, p, hp => ⟨h0 d List.mem_cons_self, hp d List.mem_cons_self, pair_down (List.Pairwise.of_cons h) (fun x hx => h0 x (List.mem_cons_of_mem _ hx)) _ fun x hx => by have := List.rel_of_pairwise_cons h hx; omega⟩
/-- the row's form: up, with gaps of two and more -/
def Up (l : List Int) : Prop := l.Pairwise (fun a b => a + 1 < b) ∧ ∀ x ∈ l, 0 ≤ x ∧ x ≤ 99
theorem up_down {l : List Int} (h : Up l) : Down 100 l.reverse := by
  refine pair_down (List.pairwise_reverse.mpr ?_) (fun x hx => (h.2 x (List.mem_reverse.mp hx)).1) _ fun x hx => by have := (h.2 x (List.mem_reverse.mp hx)).2; omega
  exact h.1
theorem rowL_up {n : Int} (h0 : 0 ≤ n) (h1 : n < fw 100) : Up (rowL n) := by
  have d := (greedy_ok 100 n h0 h1).1
  refine ⟨?_, fun x hx => ?_⟩
  · rw [rowL, List.pairwise_reverse]
    exact down_pair d
  · have := d.bd x (List.mem_reverse.mp hx)
    omega
theorem up_gaps : ∀ {l : List Int}, l.Pairwise (fun a b => a + 1 < b) → ∀ g ∈ gapsL l, 1 < g := by
  intro l o g hg
  obtain ⟨i, hi, rfl⟩ := List.mem_map.mp hg
  have hi := List.mem_range.mp hi
  have h : i + 1 < l.length := by omega
  rw [List.getD_eq_getElem?_getD, List.getD_eq_getElem?_getD, List.getElem?_eq_getElem h, List.getElem?_eq_getElem (by omega : i < l.length)]
  have := List.pairwise_iff_getElem.mp o i (i + 1) (by omega) h (by omega)
  simp only [Option.getD_some]
  omega
theorem gaps_up {l : List Int} (h : ∀ g ∈ gapsL l, 1 < g) : l.Pairwise (fun a b => a + 1 < b) := by
  refine List.pairwise_iff_getElem.mpr fun i j hi hj lt => ?_
  have step : ∀ k, (hk : k + 1 < l.length) → l[k]'(by omega) + 1 < l[k + 1] := fun k hk => by
    have := h _ (List.mem_map.mpr ⟨k, List.mem_range.mpr (by omega), rfl⟩)
    rw [List.getD_eq_getElem?_getD, List.getD_eq_getElem?_getD, List.getElem?_eq_getElem hk, List.getElem?_eq_getElem (by omega)] at this
    simp only [Option.getD_some] at this
    omega
  have main : ∀ d k, (hk : k + (d + 1) < l.length) → l[k]'(by omega) + 1 < l[k + (d + 1)] := by
    intro d
    induction d with
    | zero => intro k hk; exact step k hk
    | succ d ih => intro k hk; have := ih k (by omega); have := step (k + (d + 1)) (by omega); exact (by omega : l[k] + 1 < l[k + (d + 1) + 1])
  have := main (j - i - 1) i (by omega)
  simpa only [show i + (j - i - 1 + 1) = j by omega] using this
theorem up_le : ∀ {l : List Int}, Up l → l.length ≤ 50 := by
  intro l h
  have key : ∀ (l : List Int) (p : Int), Down p l → 0 ≤ p → 2 * l.length ≤ p + 1 := by
    intro l
    induction l with
    | nil => intro p _ hp; show (2 * 0 : Int) ≤ _; omega
    | cons d r ih =>
      intro p hd hp
      obtain ⟨h0, h1, h2⟩ := hd
      cases r with
      | nil => simp only [List.length_cons, List.length_nil]; omega
      | cons x xs =>
        have := h2.1
        have := h2.2.1
        have := ih (d - 1) h2 (by omega)
        simp only [List.length_cons] at this ⊢
        omega
  have := key _ _ (up_down h) (by decide)
  rw [List.length_reverse] at this
  omega
theorem isRow_iff {l : List Int} : isRowD (tupI l) = true ↔ Up l := by
  constructor
  · intro h
    have h' : (isPileD (tupI l) && (gapsL (intsD (l.map D.int))).all fun g => decide (1 < g)) = true := h
    rw [intsD_map, Bool.and_eq_true, List.all_eq_true] at h'
    obtain ⟨h1, h2, h3⟩ := isPile_tupI.mp h'.1
    exact ⟨gaps_up fun g hg => of_decide_eq_true (h'.2 g hg), h2⟩
  · intro h
    show (isPileD (tupI l) && (gapsL (intsD (l.map D.int))).all fun g => decide (1 < g)) = true
    rw [intsD_map, Bool.and_eq_true, List.all_eq_true]
    refine ⟨isPile_tupI.mpr ⟨?_, h.2, ?_⟩, fun g hg => decide_eq_true (up_gaps h.1 g hg)⟩
    · have := up_le h
      omega
    · exact h.1.imp fun hab => by omega
theorem row_ints {d : D} (h : isRowD d = true) : ∃ l : List Int, d = tupI l ∧ Up l := by
  have hp : isPileD d = true := by
    cases d with
    | tup xs => simp only [isRowD, Bool.and_eq_true] at h; exact h.1
    | _ => cases h
  obtain ⟨ns, rfl, _⟩ := pile_ints hp
  exact ⟨ns, rfl, isRow_iff.mp h⟩
/-! ### the order of rows -/
def mx (l : List Int) : Int := l.foldr max (-1)
theorem le_mx : ∀ {l : List Int} {x : Int}, x ∈ l → x ≤ mx l
  | y :: ys, x, h => by
    show x ≤ max y (mx ys)
    rcases List.mem_cons.mp h with rfl | h
    · exact Int.le_max_left _ _
    · exact Int.le_trans (le_mx h) (Int.le_max_right _ _)
theorem mx_le : ∀ {l : List Int} {d : Int}, (∀ x ∈ l, x ≤ d) → -1 ≤ d → mx l ≤ d
  | [], _, _, h => h
  | y :: ys, d, h, hd => by
    show max y (mx ys) ≤ d
    exact Int.max_le.mpr ⟨h y List.mem_cons_self, mx_le (fun x hx => h x (List.mem_cons_of_mem _ hx)) hd⟩
theorem mx_of {l : List Int} {m : Int} (h0 : ∀ x ∈ l, 0 ≤ x) (h : l = [] ∧ m = -1 ∨ m ∈ l ∧ ∀ y ∈ l, y ≤ m) : m = mx l := by
  rcases h with ⟨rfl, rfl⟩ | ⟨h1, h2⟩
  · rfl
  · exact Int.le_antisymm (le_mx h1) (mx_le h2 (by have := h0 m h1; omega))
theorem mx_rev (l : List Int) (h0 : ∀ x ∈ l, 0 ≤ x) : mx l.reverse = mx l := by
  have neg : ∀ l : List Int, -1 ≤ mx l := fun l => by
    cases l with
    | nil => exact Int.le_refl _
    | cons y ys => exact Int.le_trans (by induction ys with
      | nil => exact Int.le_refl _
      | cons z zs ih => exact Int.le_trans ih (Int.le_max_right _ _)) (Int.le_max_right y (mx ys))
  exact Int.le_antisymm (mx_le (fun x hx => le_mx (List.mem_reverse.mp hx)) (neg _)) (mx_le (fun x hx => le_mx (List.mem_reverse.mpr hx)) (neg _))
/-- what stands in a and not in b -/
def sdiff (a b : List Int) : List Int := a.filter fun x => decide (x ∉ b)
theorem mem_sdiff {a b : List Int} {x : Int} : x ∈ sdiff a b ↔ x ∈ a ∧ x ∉ b := by
  unfold sdiff
  rw [List.mem_filter, decide_eq_true_eq]
theorem worth_nn : ∀ l : List Int, 0 ≤ worthL l
  | [] => Int.le_refl _
  | x :: xs => by
    have h1 := worth_nn xs
    have h2 := fw_pos x.toNat
    show 0 ≤ fw x.toNat + worthL xs
    omega
theorem cmpD : ∀ (A B : List Int) (p : Int), Down p A → Down p B → (mx (sdiff A B) < mx (sdiff B A) ∧ worthL A < worthL B) ∨ (mx (sdiff B A) < mx (sdiff A B) ∧ worthL B < worthL A) ∨ (mx (sdiff A B) = mx (sdiff B A) ∧ A = B) := by
  -- the head of B lies above all of A
  have one : ∀ (A : List Int) (e : Int) (B' : List Int) (p : Int), Down p (e :: B') → Down e A → mx (sdiff A (e :: B')) < mx (sdiff (e :: B') A) ∧ worthL A < worthL (e :: B') := by
    intro A e B' p hB hA
    have e0 : 0 ≤ e := hB.1
    have mem : e ∈ sdiff (e :: B') A := mem_sdiff.mpr ⟨List.mem_cons_self, fun z => by have := hA.bd e z; omega⟩
    have l1 := le_mx mem
    have l2 : mx (sdiff A (e :: B')) ≤ e - 1 := mx_le (fun x hx => by have := hA.bd x (mem_sdiff.mp hx).1; omega) (by omega)
    refine ⟨by omega, ?_⟩
    obtain ⟨k, rfl⟩ : ∃ k : Nat, e = k := ⟨e.toNat, by omega⟩
    have s1 := hA.sum_lt
    have s2 := worth_nn B'
    have e3 : worthL ((k : Int) :: B') = fw k + worthL B' := rfl
    omega
  intro A
  induction A with
  | nil =>
    intro B p hA hB
    cases B with
    | nil => exact .inr (.inr ⟨rfl, rfl⟩)
    | cons e B' => exact .inl (one [] e B' p hB trivial)
  | cons d A' ih =>
    intro B p hA hB
    cases B with
    | nil => exact .inr (.inl (one [] d A' p hA trivial))
    | cons e B' =>
      by_cases h : d = e
      · subst h
        have hA' := hA.2.2
        have hB' := hB.2.2
        have f : ∀ {a b : List Int}, Down (d - 1) a → sdiff (d :: a) (d :: b) = sdiff a b := fun {a b} ha => by
          unfold sdiff
          rw [List.filter_cons_of_neg (by simp)]
          refine List.filter_congr fun x hx => ?_
          have hne : x ≠ d := by have := ha.bd x hx; omega
          simp only [List.mem_cons, hne, false_or]
        rw [f hA', f hB']
        have e1 : ∀ l, worthL (d :: l) = fw d.toNat + worthL l := fun l => rfl
        rcases ih B' (d - 1) hA' hB' with ⟨h1, h2⟩ | ⟨h1, h2⟩ | ⟨h1, h2⟩
        · exact .inl ⟨h1, by rw [e1, e1]; omega⟩
        · exact .inr (.inl ⟨h1, by rw [e1, e1]; omega⟩)
        · exact .inr (.inr ⟨h1, by rw [h2]⟩)
      · rcases Int.lt_or_gt_of_ne h with lt | gt
        · exact .inl (one (d :: A') e B' p hB ⟨hA.1, lt, hA.2.2⟩)
        · exact .inr (.inl (one (e :: B') d A' p hA ⟨hB.1, gt, hB.2.2⟩))
theorem sdiff_rev (a b : List Int) : sdiff a.reverse b.reverse = (sdiff a b).reverse := by
  unfold sdiff
  rw [List.filter_reverse]
  congr 1
  refine List.filter_congr fun x _ => ?_
  simp only [List.mem_reverse]
def cmpZ (a b : List Int) : Int := (if mx (sdiff b a) < mx (sdiff a b) then 1 else 0) - (if mx (sdiff a b) < mx (sdiff b a) then 1 else 0)
def sgn (x y : Int) : Int := (if y < x then 1 else 0) - (if x < y then 1 else 0)
theorem cmpU {a b : List Int} (ha : Up a) (hb : Up b) : cmpZ a b = sgn (worthL a) (worthL b) ∧ (worthL a = worthL b → a = b) := by
  have n1 : ∀ x ∈ sdiff a b, 0 ≤ x := fun x hx => (ha.2 x (mem_sdiff.mp hx).1).1
  have n2 : ∀ x ∈ sdiff b a, 0 ≤ x := fun x hx => (hb.2 x (mem_sdiff.mp hx).1).1
  have key := cmpD a.reverse b.reverse 100 (up_down ha) (up_down hb)
  rw [sdiff_rev, sdiff_rev, mx_rev _ n1, mx_rev _ n2, worth_rev, worth_rev] at key
  unfold cmpZ sgn
  rcases key with ⟨h1, h2⟩ | ⟨h1, h2⟩ | ⟨h1, h2⟩
  · refine ⟨?_, fun z => by omega⟩
    rw [if_neg (by omega), if_pos h1, if_neg (by omega), if_pos h2]
  · refine ⟨?_, fun z => by omega⟩
    rw [if_pos h1, if_neg (by omega), if_pos h2, if_neg (by omega)]
  · have e : a = b := List.reverse_inj.mp h2
    subst e
    refine ⟨?_, fun _ => rfl⟩
    rw [if_neg (Int.lt_irrefl _), if_neg (Int.lt_irrefl _)]
theorem up_worth_lt {l : List Int} (h : Up l) : worthL l < fw 100 := by
  rw [← worth_rev]
  exact (up_down h).sum_lt
theorem rowL_uniq {l : List Int} (h : Up l) : l = rowL (worthL l) := by
  have lt := up_worth_lt h
  have nn := worth_nn l
  exact (cmpU h (rowL_up nn lt)).2 (rowL_worth nn lt).symm
end DL
namespace DL
open PySem PySem.Spec PyProof.Rows L2
section
variable {P : Program} {w : World} {K : PySem.W.Frag} {mg : Str → Option Value} {base : Heap} {f : Addr} {fd : FuncData} {ad : Rf → Addr}
theorem any_int (ms : List Int) (x : Int) : (ms.map D.int).any (fun y => eqD y (.int x)) = decide (x ∈ ms) := by
  rw [List.any_map, Bool.eq_iff_iff, List.any_eq_true, decide_eq_true_eq]
  constructor
  · rintro ⟨y, hy, e⟩
    have e : eqD (.int y) (.int x) = true := e
    rw [eqD_int, decide_eq_true_eq] at e
    rw [← e]
    exact hy
  · intro h
    exact ⟨x, h, by show eqD (.int x) (.int x) = true; rw [eqD_int, decide_eq_true rfl]⟩
theorem inOk_int (x : Int) (ms : List Int) : InOk (.int x) (ms.map D.int) := ⟨rfl, pureAll_ints ms, .inl (by simp only [D.dep]; decide)⟩
theorem filt_sdiff (a b : List Int) : a.filterMap (fun x => if (!decide (x ∈ b)) = true then some (D.int x) else none) = (sdiff a b).map D.int := by
  induction a with
  | nil => rfl
  | cons x xs ih =>
    unfold sdiff at ih ⊢
    by_cases h : x ∈ b
    · rw [List.filterMap_cons_none (by rw [decide_eq_true h]; rfl), List.filter_cons_of_neg (by simpa using h), ih]
    · rw [List.filterMap_cons_some (b := D.int x) (by rw [decide_eq_false h]; rfl), List.filter_cons_of_pos (by simpa using h), List.map_cons, ih]
def S_compare (ad : Rf → Addr) (ds : List D) (r : FR) : Prop := ∃ x y, ds = [x, y] ∧ x.wty = true ∧ y.wty = true ∧ ((∃ a b : List Int, x = tupI a ∧ y = tupI b ∧ Up a ∧ Up b ∧ r = .ret (.int (cmpZ a b))) ∨ ((isRowD x = false ∨ isRowD y = false) ∧ r = .exc (ad .nr)))
/-! ### _law_row -/
theorem greedy_pos {p : Nat} {n : Int} (h : fw p ≤ n) : greedy (p + 1) n = (p : Int) :: greedy p (n - fw p) := by rw [greedy, if_pos h]
theorem greedy_neg {p : Nat} {n : Int} (h : ¬ fw p ≤ n) : greedy (p + 1) n = greedy p n := by rw [greedy, if_neg h]
def S_lrow (ds : List D) (r : FR) : Prop := ∃ n : Int, ds = [.int n] ∧ r = .ret (tupI (rowL n))
theorem fn_lrow (F : Fun K "_law_row" "_law_row" s__law_row f fd) (B : Bt mg) (F1 : Df P w K mg base "_law_worths" 1 0 S_lworths) : Fn P w K mg base f 2 1 S_lrow := by
  refine fn_def F sc__law_row (F.binds fun _ _ _ _ _ _ us hl => match us, hl with | [_], _ => rfl) fun ds r hS hl X W O C => ?_
  obtain ⟨rfl, rfl, rfl, rfl, rfl⟩ := O
  obtain ⟨n, rfl, rfl⟩ := hS
  have C' := C.toCtx
  refine sw_setN C (i := 1) <| en_lst <| aw_nil ⟨szl rfl, ?_⟩
  refine sw_set C (i := 2) <| ew_df0 C' F1 ⟨_, rfl, ?_⟩
  refine sw_for C (Tg.name 3 rfl (.inl rfl)) <| iw_revR C' B.rev B.range <| ew_int ⟨100, rfl, by decide, fun i ρ' => i ≤ 100 ∧ ∃ (m : Int) (fs : List Int) (s : Sl), greedy 100 n = fs ++ greedy (100 - i) m ∧ fs.length ≤ i ∧ ρ' = [.dat (.int m), .own (fs.map D.int), .dat (lstI (fws 101)), s], ⟨by decide, n, [], _, rfl, by decide, rfl⟩, ?_, ?_⟩
  · rintro i d ρ' hd ⟨h1, m, fs, s, hg, hf, rfl⟩
    rw [List.getElem?_map] at hd
    by_cases hi : i < 100
    · rw [List.getElem?_range hi] at hd
      have hd : D.int (((100 : Nat) : Int) - 1 - (i : Nat)) = d := Option.some.inj hd
      have e1 : (((100 : Nat) : Int) - 1 - (i : Nat)) = ((99 - i : Nat) : Int) := by omega
      rw [e1] at hd
      subst hd
      have e2 : 100 - i = (99 - i) + 1 := by omega
      rw [e2] at hg
      refine ⟨_, rfl, ?_⟩
      refine sw_if <| tw_le <| ew_ix <| sv 2 rfl C' <| nv 3 rfl C' ⟨_, _, rfl, fws_get (by omega) (by omega), nv 0 rfl C' ⟨_, _, rfl, rfl, fun h => ?_, fun h => ?_⟩⟩
      · have h := of_decide_eq_true h
        rw [Int.toNat_natCast] at h
        rw [greedy_pos h] at hg
        refine sw_append C' (i := 1) rfl <| nv 3 rfl C' ⟨?_, ?_⟩
        · rw [List.length_map]
          have : (1000 : Nat) < sizeLine := by decide
          omega
        · refine sw_set C (i := 0) <| ew_sub <| nv 0 rfl C' <| ew_ix <| sv 2 rfl C' <| nv 3 rfl C' ⟨_, _, rfl, fws_get (by omega) (by omega), _, _, rfl, rfl, ?_⟩
          rw [Int.toNat_natCast]
          refine sw_nil <| sw_nil ⟨by omega, m - fw (99 - i), fs ++ [((99 - i : Nat) : Int)], .dat (.int ((99 - i : Nat) : Int)), ?_, ?_, ?_⟩
          · rw [hg, List.append_assoc, show 100 - (i + 1) = 99 - i by omega]
            rfl
          · rw [List.length_append, List.length_singleton]
            omega
          · rw [List.map_append]
            rfl
      · have h := of_decide_eq_false h
        rw [Int.toNat_natCast] at h
        rw [greedy_neg h] at hg
        refine sw_nil <| sw_nil ⟨by omega, m, fs, .dat (.int ((99 - i : Nat) : Int)), ?_, by omega, rfl⟩
        rw [hg, show 100 - (i + 1) = 99 - i by omega]
    · rw [List.getElem?_eq_none (by rw [List.length_range]; omega)] at hd
      cases hd
  · rintro ρ' ⟨h1, m, fs, s, hg, hf, rfl⟩
    rw [List.length_map, List.length_range] at hg
    have hg : greedy 100 n = fs := by rw [hg]; exact List.append_nil _
    refine sw_ret <| ew_tupRev C' B.tuple B.rev <| ov 1 rfl C' ⟨rfl, .inl ?_⟩
    rw [rowL, hg, ← List.map_reverse]
end
end DL
namespace DL
open PySem PySem.Spec PyProof.Rows L2
/-! ### marks put into a row's marks, in plain Lean -/
/-- the weight of a mark -/
def wt (n : Int) : Int := if n < 2 then 3 + 2 * n else 2 * n + 2
def wtL (l : List Int) : Int := (l.map wt).sum
theorem wt_pos {n : Int} (h : 0 ≤ n) : 3 ≤ wt n := by
  unfold wt
  split <;> omega
theorem wtL_cons (a : Int) (l : List Int) : wtL (a :: l) = wt a + wtL l := rfl
theorem worthL_cons (a : Int) (l : List Int) : worthL (a :: l) = fw a.toNat + worthL l := rfl
theorem wtL_append (a b : List Int) : wtL (a ++ b) = wtL a + wtL b := by
  unfold wtL
  rw [List.map_append, List.sum_append]
theorem sum_perm {a b : List Int} (h : a.Perm b) : a.sum = b.sum := by
  induction h with
  | nil => rfl
  | cons x _ ih => rw [List.sum_cons, List.sum_cons, ih]
  | swap x y l => simp only [List.sum_cons]; omega
  | trans _ _ h1 h2 => rw [h1, h2]
theorem wtL_perm {a b : List Int} (h : a.Perm b) : wtL a = wtL b := sum_perm (h.map _)
theorem worthL_perm {a b : List Int} (h : a.Perm b) : worthL a = worthL b := sum_perm (h.map _)
theorem wtL_erase {l : List Int} {k : Int} (h : k ∈ l) : wtL l = wt k + wtL (l.erase k) := wtL_perm (List.perm_cons_erase h)
theorem worthL_erase {l : List Int} {k : Int} (h : k ∈ l) : worthL l = fw k.toNat + worthL (l.erase k) := worthL_perm (List.perm_cons_erase h)
theorem wtL_ge : ∀ {l : List Int}, (∀ x ∈ l, 0 ≤ x) → 3 * (l.length : Int) ≤ wtL l
  | [], _ => by show (3 * 0 : Int) ≤ 0; omega
  | a :: l, h => by
    have h1 := wtL_ge (l := l) fun x hx => h x (List.mem_cons_of_mem _ hx)
    have h2 := wt_pos (h a List.mem_cons_self)
    rw [wtL_cons, List.length_cons]
    omega
/-- no two side by side, in any order -/
def Loose (l : List Int) : Prop := l.Pairwise (fun a b => a + 1 < b ∨ b + 1 < a) ∧ ∀ x ∈ l, 0 ≤ x ∧ x ≤ 99
theorem Loose.erase {l : List Int} (h : Loose l) (k : Int) : Loose (l.erase k) := ⟨h.1.sublist List.erase_sublist, fun x hx => h.2 x (List.mem_of_mem_erase hx)⟩
theorem Loose.perm {l m : List Int} (h : Loose l) (p : l.Perm m) : Loose m := ⟨(p.pairwise_iff (fun {a b} h => h.symm)).mp h.1, fun x hx => h.2 x (p.mem_iff.mpr hx)⟩
theorem loose_up {l : List Int} (h : Loose l) : Up (srt l) := by
  have h2 := h.perm (srt_perm l).symm
  refine ⟨?_, h2.2⟩
  have h3 := srt_ord l
  exact (h2.1.and h3).imp fun ⟨a, b⟩ => by omega
theorem up_loose {l : List Int} (h : Up l) : Loose l := ⟨h.1.imp fun h => .inl h, h.2⟩
theorem loose_len {l : List Int} (h : Loose l) : l.length ≤ 50 := by
  rw [← (srt_perm l).length_eq]
  exact up_le (loose_up h)
theorem loose_worth {l : List Int} (h : Loose l) : worthL l < fw 100 := by
  rw [← worthL_perm (srt_perm l)]
  exact up_worth_lt (loose_up h)
theorem loose_row {l : List Int} (h : Loose l) : srt l = rowL (worthL l) := by
  rw [← worthL_perm (srt_perm l)]
  exact rowL_uniq (loose_up h)
/-! ### the worths' rules -/
theorem fw_nat (n : Nat) : fw (n + 2) = fw (n + 1) + fw n := rfl
theorem fw_join {k : Int} (h : 0 ≤ k) : fw (k + 2).toNat = fw (k + 1).toNat + fw k.toNat := by
  obtain ⟨n, rfl⟩ : ∃ n : Nat, k = n := ⟨k.toNat, by omega⟩
  rw [show ((n : Int) + 2).toNat = n + 2 by omega, show ((n : Int) + 1).toNat = n + 1 by omega, Int.toNat_natCast]
  rfl
/-- the marks that come of two at k, the last one first -/
def comingR (k : Int) : List Int := if k = 0 then [1] else [max (k - 2) 0, k + 1]
theorem coming_worth {k : Int} (h : 0 ≤ k) : worthL (comingR k) = 2 * fw k.toNat := by
  unfold comingR
  by_cases h0 : k = 0
  · subst h0
    rw [if_pos rfl]
    decide
  · rw [if_neg h0]
    by_cases h1 : k = 1
    · subst h1
      decide
    · obtain ⟨n, rfl⟩ : ∃ n : Nat, k = (n : Int) + 2 := ⟨(k - 2).toNat, by omega⟩
      have e1 := fw_join (k := (n : Int)) (by omega)
      have e2 := fw_join (k := (n : Int) + 1) (by omega)
      rw [worthL_cons, worthL_cons, show max ((n : Int) + 2 - 2) 0 = (n : Int) by omega]
      have e3 : (n : Int) + 1 + 2 = n + 2 + 1 := by omega
      have e4 : (n : Int) + 1 + 1 = n + 2 := by omega
      rw [e3, e4] at e2
      have e5 : worthL [] = 0 := rfl
      omega
theorem coming_wt {k : Int} (h : 0 ≤ k) : wtL (comingR k) + 1 ≤ 2 * wt k ∧ (comingR k).length ≤ 2 ∧ ∀ x ∈ comingR k, 0 ≤ x ∧ x ≤ k + 1 := by
  unfold comingR
  by_cases h0 : k = 0
  · subst h0
    rw [if_pos rfl]
    exact ⟨by decide, by decide, by simp⟩
  · rw [if_neg h0]
    refine ⟨?_, Nat.le_refl _, fun x hx => ?_⟩
    · rw [wtL_cons, wtL_cons]
      have e5 : wtL [] = 0 := rfl
      rw [e5]
      unfold wt
      repeat' split
      all_goals omega
    · simp only [List.mem_cons, List.not_mem_nil, or_false] at hx
      omega
/-- marks, what waits (the next one first) -/
def putF : Nat → List Int → List Int → Option (List Int)
  | _, ms, [] => some ms
  | 0, _, _ :: _ => none
  | f + 1, ms, a :: ws => if 99 < a then none else if a ∈ ms then putF f (ms.erase a) (comingR a ++ ws) else if a + 1 ∈ ms then putF f (ms.erase (a + 1)) ((a + 2) :: ws) else if a - 1 ∈ ms then putF f (ms.erase (a - 1)) ((a + 1) :: ws) else putF f (ms ++ [a]) ws
/-- what is left to be done -/
def mu (ms ws : List Int) : Int := 2 * (wtL ms + wtL ws) + ws.length
structure PI (ms ws : List Int) : Prop where
  l : Loose ms
  w : ∀ x ∈ ws, 0 ≤ x ∧ x ≤ 101
section
variable {ms ws : List Int} {a : Int}
theorem pi_part (h : PI ms (a :: ws)) (h9 : ¬ 99 < a) (ha : a ∈ ms) : PI (ms.erase a) (comingR a ++ ws) ∧ mu (ms.erase a) (comingR a ++ ws) + 1 ≤ mu ms (a :: ws) ∧ worthL (ms.erase a) + worthL (comingR a ++ ws) = worthL ms + worthL (a :: ws) := by
  have a0 := h.w a List.mem_cons_self
  obtain ⟨c1, c2, c3⟩ := coming_wt a0.1
  have cw := coming_worth a0.1
  refine ⟨⟨h.l.erase _, fun x hx => ?_⟩, ?_, ?_⟩
  · rcases List.mem_append.mp hx with hx | hx
    · have := c3 x hx
      omega
    · exact h.w x (List.mem_cons_of_mem _ hx)
  · have e := wtL_erase ha
    unfold mu
    rw [wtL_append, wtL_cons, List.length_append, List.length_cons]
    omega
  · have e := worthL_erase ha
    rw [worth_append, worthL_cons]
    omega
theorem pi_join1 (h : PI ms (a :: ws)) (h9 : ¬ 99 < a) (ha : a + 1 ∈ ms) : PI (ms.erase (a + 1)) ((a + 2) :: ws) ∧ mu (ms.erase (a + 1)) ((a + 2) :: ws) + 1 ≤ mu ms (a :: ws) ∧ worthL (ms.erase (a + 1)) + worthL ((a + 2) :: ws) = worthL ms + worthL (a :: ws) := by
  have a0 := h.w a List.mem_cons_self
  refine ⟨⟨h.l.erase _, fun x hx => ?_⟩, ?_, ?_⟩
  · rcases List.mem_cons.mp hx with rfl | hx
    · omega
    · exact h.w x (List.mem_cons_of_mem _ hx)
  · have e := wtL_erase ha
    unfold mu
    rw [wtL_cons, wtL_cons, List.length_cons, List.length_cons]
    have : wt (a + 2) + 1 ≤ wt a + wt (a + 1) := by
      unfold wt
      repeat' split
      all_goals omega
    omega
  · have e := worthL_erase ha
    have j := fw_join a0.1
    rw [worthL_cons, worthL_cons]
    omega
theorem pi_join2 (h : PI ms (a :: ws)) (h9 : ¬ 99 < a) (ha : a - 1 ∈ ms) : PI (ms.erase (a - 1)) ((a + 1) :: ws) ∧ mu (ms.erase (a - 1)) ((a + 1) :: ws) + 1 ≤ mu ms (a :: ws) ∧ worthL (ms.erase (a - 1)) + worthL ((a + 1) :: ws) = worthL ms + worthL (a :: ws) := by
  have a0 := h.w a List.mem_cons_self
  have m0 := h.l.2 _ ha
  refine ⟨⟨h.l.erase _, fun x hx => ?_⟩, ?_, ?_⟩
  · rcases List.mem_cons.mp hx with rfl | hx
    · omega
    · exact h.w x (List.mem_cons_of_mem _ hx)
  · have e := wtL_erase ha
    unfold mu
    rw [wtL_cons, wtL_cons, List.length_cons, List.length_cons]
    have : wt (a + 1) + 1 ≤ wt a + wt (a - 1) := by
      unfold wt
      repeat' split
      all_goals omega
    omega
  · have e := worthL_erase ha
    have j := fw_join m0.1
    rw [show a - 1 + 2 = a + 1 by omega, show a - 1 + 1 = a by omega] at j
    rw [worthL_cons, worthL_cons]
    omega
theorem pi_add (h : PI ms (a :: ws)) (h9 : ¬ 99 < a) (h1 : a ∉ ms) (h2 : a + 1 ∉ ms) (h3 : a - 1 ∉ ms) : PI (ms ++ [a]) ws ∧ mu (ms ++ [a]) ws + 1 ≤ mu ms (a :: ws) ∧ worthL (ms ++ [a]) + worthL ws = worthL ms + worthL (a :: ws) := by
  have a0 := h.w a List.mem_cons_self
  refine ⟨⟨⟨?_, fun x hx => ?_⟩, fun x hx => h.w x (List.mem_cons_of_mem _ hx)⟩, ?_, ?_⟩
  · refine List.pairwise_append.mpr ⟨h.l.1, List.pairwise_singleton _ _, fun x hx y hy => ?_⟩
    rw [List.mem_singleton] at hy
    subst hy
    have n1 : x ≠ y := fun z => h1 (by rw [← z]; exact hx)
    have n2 : x ≠ y + 1 := fun z => h2 (by rw [← z]; exact hx)
    have n3 : x ≠ y - 1 := fun z => h3 (by rw [← z]; exact hx)
    omega
  · rcases List.mem_append.mp hx with hx | hx
    · exact h.l.2 x hx
    · rw [List.mem_singleton] at hx
      omega
  · unfold mu
    rw [wtL_append, wtL_cons, wtL_cons, List.length_cons]
    have e5 : wtL [] = 0 := rfl
    omega
  · rw [worth_append, worthL_cons, worthL_cons]
    have e5 : worthL [] = 0 := rfl
    omega
theorem mu_ge (h : PI ms ws) : 7 * (ws.length : Int) + 6 * ms.length ≤ mu ms ws := by
  have h1 := wtL_ge (l := ws) fun x hx => (h.w x hx).1
  have h2 := wtL_ge (l := ms) fun x hx => (h.l.2 x hx).1
  unfold mu
  omega
theorem put_step {f : Nat} : putF (f + 1) ms (a :: ws) = if 99 < a then none else if a ∈ ms then putF f (ms.erase a) (comingR a ++ ws) else if a + 1 ∈ ms then putF f (ms.erase (a + 1)) ((a + 2) :: ws) else if a - 1 ∈ ms then putF f (ms.erase (a - 1)) ((a + 1) :: ws) else putF f (ms ++ [a]) ws := by
  rw [putF]
end
/-- where it ends, and how -/
theorem put_ok : ∀ (f : Nat) (ms ws : List Int), PI ms ws → mu ms ws ≤ f → (∀ r, putF f ms ws = some r → Loose r ∧ worthL r = worthL ms + worthL ws) ∧ (putF f ms ws = none → fw 100 ≤ worthL ms + worthL ws)
  | f, ms, [], h, _ => by
    rw [putF]
    refine ⟨fun r e => ?_, (fun z => nomatch z)⟩
    cases e
    have e5 : worthL [] = 0 := rfl
    exact ⟨h.l, by omega⟩
  | 0, ms, a :: ws, h, hm => by
    have := mu_ge h
    rw [List.length_cons] at this
    omega
  | f + 1, ms, a :: ws, h, hm => by
    rw [put_step]
    have a0 := h.w a List.mem_cons_self
    by_cases h9 : 99 < a
    · rw [if_pos h9]
      refine ⟨(fun r z => nomatch z), fun _ => ?_⟩
      have w1 := worth_nn ms
      have w2 := worth_nn ws
      have w3 := fw_mono (m := 100) (n := a.toNat) (by omega)
      rw [worthL_cons]
      omega
    · rw [if_neg h9]
      by_cases h1 : a ∈ ms
      · rw [if_pos h1]
        obtain ⟨p1, p2, p3⟩ := pi_part h h9 h1
        rw [← p3]
        exact put_ok f _ _ p1 (by omega)
      · rw [if_neg h1]
        by_cases h2 : a + 1 ∈ ms
        · rw [if_pos h2]
          obtain ⟨p1, p2, p3⟩ := pi_join1 h h9 h2
          rw [← p3]
          exact put_ok f _ _ p1 (by omega)
        · rw [if_neg h2]
          by_cases h3 : a - 1 ∈ ms
          · rw [if_pos h3]
            obtain ⟨p1, p2, p3⟩ := pi_join2 h h9 h3
            rw [← p3]
            exact put_ok f _ _ p1 (by omega)
          · rw [if_neg h3]
            obtain ⟨p1, p2, p3⟩ := pi_add h h9 h1 h2 h3
            rw [← p3]
            exact put_ok f _ _ p1 (by omega)
/-- the turns that are enough -/
def turns : Nat := 30000
theorem wt_le {n : Int} (h : n ≤ 99) : wt n ≤ 200 := by
  unfold wt
  split <;> omega
theorem wtL_le : ∀ {l : List Int}, (∀ x ∈ l, x ≤ 99) → wtL l ≤ 200 * (l.length : Int)
  | [], _ => by show (0 : Int) ≤ 200 * 0; omega
  | a :: l, h => by
    have h1 := wtL_le (l := l) fun x hx => h x (List.mem_cons_of_mem _ hx)
    have h2 := wt_le (h a List.mem_cons_self)
    rw [wtL_cons, List.length_cons]
    omega
theorem turns_ok {ms : List Int} {a : Int} (h : Loose ms) (ha : 0 ≤ a ∧ a ≤ 99) : PI ms [a] ∧ mu ms [a] ≤ turns := by
  refine ⟨⟨h, fun x hx => by rw [List.mem_singleton] at hx; omega⟩, ?_⟩
  have h1 := wtL_le (l := ms) fun x hx => (h.2 x hx).2
  have h2 := loose_len h
  have h3 := wt_le ha.2
  unfold mu turns
  rw [wtL_cons]
  have e5 : wtL [] = 0 := rfl
  rw [e5, List.length_singleton]
  omega
/-- all of a pile -/
def setF : List Int → List Int → Option (List Int)
  | ms, [] => some ms
  | ms, p :: ps => match putF turns ms [p] with
    | none => none
    | some ms' => setF ms' ps
theorem set_ok : ∀ (ps ms : List Int), Loose ms → (∀ x ∈ ps, 0 ≤ x ∧ x ≤ 99) → (∀ r, setF ms ps = some r → Loose r ∧ worthL r = worthL ms + worthL ps) ∧ (setF ms ps = none → fw 100 ≤ worthL ms + worthL ps)
  | [], ms, h, _ => by
    rw [setF]
    refine ⟨fun r e => ?_, (fun z => nomatch z)⟩
    cases e
    have e5 : worthL [] = 0 := rfl
    exact ⟨h, by omega⟩
  | p :: ps, ms, h, hp => by
    rw [setF]
    obtain ⟨t1, t2⟩ := turns_ok h (hp p List.mem_cons_self)
    obtain ⟨k1, k2⟩ := put_ok turns ms [p] t1 t2
    have e6 : worthL [p] = fw p.toNat := by rw [worthL_cons]; show fw p.toNat + 0 = _; omega
    cases e : putF turns ms [p] with
    | none =>
      refine ⟨(fun r z => nomatch z), fun _ => ?_⟩
      have := k2 e
      have := worth_nn ps
      rw [worthL_cons]
      omega
    | some ms' =>
      obtain ⟨l1, l2⟩ := k1 _ e
      have ih := set_ok ps ms' l1 fun x hx => hp x (List.mem_cons_of_mem _ hx)
      rw [worthL_cons, show worthL ms + (fw p.toNat + worthL ps) = worthL ms' + worthL ps by omega]
      exact ih
/-- the row at which a pile ends -/
theorem set_row {ps : List Int} (hp : ∀ x ∈ ps, 0 ≤ x ∧ x ≤ 99) : (worthL ps < fw 100 → ∃ r, setF [] ps = some r ∧ srt r = rowL (worthL ps)) ∧ (fw 100 ≤ worthL ps → setF [] ps = none) := by
  have l0 : Loose [] := ⟨.nil, (fun x hx => nomatch hx)⟩
  obtain ⟨k1, k2⟩ := set_ok ps [] l0 hp
  have e5 : worthL [] = 0 := rfl
  rw [e5, Int.zero_add] at k1 k2
  constructor
  · intro h
    cases e : setF [] ps with
    | none => have := k2 e; omega
    | some r =>
      obtain ⟨l1, l2⟩ := k1 r e
      exact ⟨r, rfl, by rw [loose_row l1, l2]⟩
  · intro h
    cases e : setF [] ps with
    | none => rfl
    | some r =>
      obtain ⟨l1, l2⟩ := k1 r e
      have := loose_worth l1
      omega
end DL
namespace DL
open PySem PySem.Spec PyProof.Rows L2
section
variable {P : Program} {w : World} {K : PySem.W.Frag} {mg : Str → Option Value} {base : Heap} {f : Addr} {fd : FuncData} {ad : Rf → Addr}
/-! ### the class Part -/
theorem fnOk_init (F : Fun K "__init__" "Move.__init__" s_Move___init__ f fd) : FnOk P w K mg base (L2.CX P w) 1 f fd ["self", "place"] (spInit K "place") := by
  refine F.okX sc_Move___init__ (fun vs H Q E h => ?_) (fun cdv A outer s H vs Q E hr h => ⟨_, pss_one (ps_fld (pe_var (i := 0) (x := "self") rfl (.inl rfl) (by decide) (by decide)) (pe_var (i := 1) (x := "place") rfl (.inl rfl) (by decide) (by decide)) rfl), ?_⟩)
  · obtain ⟨x, C, dx, v, rfl, _⟩ := h
    rfl
  · obtain ⟨x, C, dx, v, rfl, h1, h2, h3, q⟩ := h
    exact ⟨v, rfl, .ref x, rfl, x, C, dx, [], rfl, h1, h2, h3, by decide, q⟩
/-- the instance at place k -/
abbrev insD (C : Addr) (k : Int) : D := .ins C [("place", .int k)]
/-- what the text has of the class x: it makes instances of one field -/
structure Ko (P : Program) (w : World) (K : PySem.W.Frag) (mg : Str → Option Value) (base : Heap) (x : Str) (C : Addr) : Prop where
  g : mg x = some (.ref C)
  cl : L2.Cls K C
  na : NoAttr K C "place"
  mks : ∃ fI fd, Mk K C fI ∧ FnOk P w K mg base (L2.CX P w) 1 fI fd ["self", "place"] (spInit K "place") ∧ Binds K fd ["self", "place"] []
/-- its method m keeps S -/
structure Mo (P : Program) (w : World) (K : PySem.W.Frag) (mg : Str → Option Value) (base : Heap) (C : Addr) (m : Str) (k n : Nat) (S : List D → FR → Prop) : Prop where
  ex : ∃ fm, Meth K C m fm ∧ Fn P w K mg base fm k n S
theorem place_at (k : Int) : ([(("place" : Str), V.int k)] : List (Str × V)).lookup ("place" : Str) = some (.int k) := by
  rw [List.lookup_cons, beq_self_eq_true]
/-- the place of an instance -/
theorem ew_place {X : Cx} {W : WX} {ρ : List Sl} {Z : DZ} {e : Expr} {pos : Pos} {Φ : D → Prop} (h : EW X W ρ e (fun d => ∃ C k, d = insD C k ∧ L2.Cls X.K C ∧ NoAttr X.K C "place" ∧ Φ (.int k)) Z) (hb : attributeBase e "place" X.env (eval e X.env) = eval e X.env := by rfl) : EW X W ρ (.Attribute e "place" pos) Φ Z :=
  ew_attr (h.mono fun d ⟨C, k, e, c, n, f⟩ => ⟨C, _, .int k, .int k, e, c, n, place_at k, fun _ => .int k, f⟩) hb
def comingP (k : Int) : List Int := if k = 0 then [1] else [k + 1, max (k - 2) 0]
theorem comingP_rev (k : Int) : (comingP k).reverse = comingR k := by
  unfold comingP comingR
  by_cases h : k = 0
  · rw [if_pos h, if_pos h]
    rfl
  · rw [if_neg h, if_neg h]
    rfl
def S_part_coming (C : Addr) (ds : List D) (r : FR) : Prop := ∃ k : Int, ds = [insD C k] ∧ r = .new ((comingP k).map D.int)
theorem fn_part_coming {A : Addr} (F : Fun K "coming" "Part.coming" s_Part_coming f fd) (B : Bt mg) (c : L2.Cls K A) (n : NoAttr K A "place") : Fn P w K mg base f 1 1 (S_part_coming A) := by
  refine fn_def F sc_Part_coming (F.binds fun _ _ _ _ _ _ us hl => match us, hl with | [_], _ => rfl) fun ds r hS hl X W O C => ?_
  obtain ⟨rfl, rfl, rfl, rfl, rfl⟩ := O
  obtain ⟨k, rfl, rfl⟩ := hS
  have C' := C.toCtx
  refine sw_if <| tw_eqI C' <| ew_place <| nv 0 rfl C' ⟨A, k, rfl, c, n, ew_int ⟨_, _, rfl, rfl, fun h => ?_, fun h => ?_⟩⟩
  · have h := of_decide_eq_true h
    refine sw_retN <| en_lst <| aw_cons <| ew_int <| aw_nil ⟨szl rfl, .inl ?_⟩
    rw [comingP, if_pos h]
    rfl
  · have h := of_decide_eq_false h
    refine sw_nil <| sw_retN <| en_lst <| aw_cons <| ew_add <| ew_place <| nv 0 rfl C' ⟨A, k, rfl, c, n, ew_int ⟨_, _, rfl, rfl, aw_cons <| ew_max2 C' B.max <| ew_sub <| ew_place <| nv 0 rfl C' ⟨A, k, rfl, c, n, ew_int ⟨_, _, rfl, rfl, ew_int ⟨_, _, rfl, rfl, aw_nil ⟨szl rfl, .inl ?_⟩⟩⟩⟩⟩⟩
    rw [comingP, if_neg h]
    rfl
theorem at_int (v : Int) : ∀ (H : Hp) (u : V), At K H u (.int v) → u = .int v := fun H u a => by cases a; rfl
/-! ### put_in -/
def putR (ad : Rf → Addr) (ms : List Int) (p : Int) : OR := match putF turns ms [p] with
  | some r => .ok (r.map D.int)
  | none => .exc (ad .tg)
def S_put_in (ad : Rf → Addr) (ds args : List D) (r : OR) : Prop := ∃ (ms : List Int) (p : Int), ds = ms.map D.int ∧ args = [.int p] ∧ Loose ms ∧ 0 ≤ p ∧ p ≤ 99 ∧ r = putR ad ms p
theorem len_ok {n : Nat} (h : n ≤ 100000) : n < sizeLine := Nat.lt_of_le_of_lt h (by decide)
theorem fn_put_in {A : Addr} (F : Fun K "put_in" "put_in" s_put_in f fd) (B : Bt mg) (G : Gp mg) (L : Cl K mg ad) (Ko : Ko P w K mg base "Part" A) (M : Mo P w K mg base A "coming" 1 1 (S_part_coming A)) : FnO P w K mg base f 3 1 (S_put_in ad) := by
  refine fn_defO F sc_put_in (F.binds fun _ _ _ _ _ _ us hl => match us, hl with | [_, _], _ => rfl) rfl fun p ds args r hS hl X W O C => ?_
  obtain ⟨rfl, rfl, rfl, rfl, rfl⟩ := O
  obtain ⟨ms0, pl, rfl, rfl, hL, h0, h9, rfl⟩ := hS
  have C' := C.toCtx
  obtain ⟨t, hT⟩ := G.last
  obtain ⟨fI, fdI, mk, okI, bI⟩ := Ko.mks
  obtain ⟨fm, mt, Fm⟩ := M.ex
  obtain ⟨t1, t2⟩ := turns_ok hL ⟨h0, h9⟩
  refine sw_setN C (i := 2) <| en_lst <| aw_cons <| nv 1 rfl C' <| aw_nil ⟨szl rfl, ?_⟩
  refine sw_while C' (fun m ρ' => ∃ (ms ws : List Int) (s : Sl), PI ms ws ∧ mu ms ws ≤ m ∧ m ≤ turns ∧ putF m ms ws = putF turns ms0 [pl] ∧ ρ' = [.ow (some p) (ms.map D.int), .dat (.int pl), .own (ws.reverse.map D.int), s]) (m0 := turns) ⟨ms0, [pl], .em, t1, t2, Nat.le_refl _, rfl, rfl⟩ ?_
  rintro m ρ' ⟨ms, ws, s, pi, hm, hmt, hput, rfl⟩
  have e0 : eqD (.lst (ws.reverse.map D.int)) (.lst []) = decide (ws.reverse = []) := eqD_lstI ws.reverse []
  refine tw_froz <| tw_ne C' <| nv 2 rfl C' <| ew_new <| en_lst <| aw_nil ⟨szl rfl, eqok_l (pure_lstI _) rfl (by rw [dep_lstI]; decide), fun h => ?_, fun h => ?_⟩
  · rw [e0] at h
    cases ws with
    | nil => simp at h
    | cons a ws =>
      have mg := mu_ge pi
      have a0 := pi.w a List.mem_cons_self
      have lw : ws.length ≤ 30000 ∧ ms.length ≤ 30000 := by
        rw [List.length_cons] at mg
        have ht : turns = 30000 := rfl
        omega
      rw [List.length_cons] at mg
      obtain ⟨m', rfl⟩ : ∃ m', m = m' + 1 := ⟨m - 1, by omega⟩
      rw [put_step] at hput
      rw [List.reverse_cons, List.map_append]
      refine sw_pop C (i := 3) (j := 2) rfl ?_
      refine sw_if <| tw_gt <| nv 3 rfl C' <| ew_globI C' rfl hT ⟨_, _, rfl, rfl, fun h1 => ?_, fun h1 => ?_⟩
      · have h1 := of_decide_eq_true h1
        rw [if_pos h1] at hput
        refine sw_raise C' (L.ex .tg) ?_
        show putR ad ms0 pl = .exc (ad .tg)
        rw [putR, ← hput]
      · have h1 := of_decide_eq_false h1
        rw [if_neg h1] at hput
        refine sw_nil ?_
        refine sw_if <| tw_in C' <| nv 3 rfl C' <| ov 0 rfl C' ⟨inOk_int a ms, fun h2 => ?_, fun h2 => ?_⟩
        · rw [any_int] at h2
          have h2 := of_decide_eq_true h2
          rw [if_pos h2] at hput
          obtain ⟨p1, p2, p3⟩ := pi_part pi h1 h2
          have cl := (coming_wt a0.1).2.1
          refine sw_removeI C' (i := 0) rfl <| nv 3 rfl C' ⟨a, rfl, h2, ?_⟩
          refine sw_extend C' (i := 2) rfl <| en_meth0 C' Ko.cl mt Fm <| ew_make C' mk okI bI Ko.cl Ko.na Ko.g <| nv 3 rfl C' ⟨.int a, at_int a, _, rfl, rfl, _, ⟨a, rfl, rfl⟩, ?_, sw_nil <| sw_nil ⟨m', Nat.lt_succ_self _, ms.erase a, comingR a ++ ws, .dat (.int a), p1, by omega, by omega, hput, ?_⟩⟩
          · rw [List.length_map, List.length_map, List.length_reverse]
            have : (comingP a).length = (comingR a).length := by rw [← comingP_rev, List.length_reverse]
            have : (40000 : Nat) < sizeLine := by decide
            omega
          · rw [List.reverse_append, ← comingP_rev, List.reverse_reverse, List.map_append]
            rfl
        · rw [any_int] at h2
          have h2 := of_decide_eq_false h2
          rw [if_neg h2] at hput
          refine sw_if <| tw_in C' <| ew_add <| nv 3 rfl C' <| ew_int ⟨_, _, rfl, rfl, ov 0 rfl C' ⟨inOk_int (a + 1) ms, fun h3 => ?_, fun h3 => ?_⟩⟩
          · rw [any_int] at h3
            have h3 := of_decide_eq_true h3
            rw [if_pos h3] at hput
            obtain ⟨p1, p2, p3⟩ := pi_join1 pi h1 h3
            refine sw_removeI C' (i := 0) rfl <| ew_add <| nv 3 rfl C' <| ew_int ⟨_, _, rfl, rfl, a + 1, rfl, h3, ?_⟩
            refine sw_append C' (i := 2) rfl <| ew_add <| nv 3 rfl C' <| ew_int ⟨_, _, rfl, rfl, ?_, sw_nil <| sw_nil <| sw_nil ⟨m', Nat.lt_succ_self _, ms.erase (a + 1), (a + 2) :: ws, .dat (.int a), p1, by omega, by omega, hput, ?_⟩⟩
            · rw [List.length_map, List.length_reverse]
              exact len_ok (by omega)
            · rw [List.reverse_cons, List.map_append]
              rfl
          · rw [any_int] at h3
            have h3 := of_decide_eq_false h3
            rw [if_neg h3] at hput
            refine sw_if <| tw_in C' <| ew_sub <| nv 3 rfl C' <| ew_int ⟨_, _, rfl, rfl, ov 0 rfl C' ⟨inOk_int (a - 1) ms, fun h4 => ?_, fun h4 => ?_⟩⟩
            · rw [any_int] at h4
              have h4 := of_decide_eq_true h4
              rw [if_pos h4] at hput
              obtain ⟨p1, p2, p3⟩ := pi_join2 pi h1 h4
              refine sw_removeI C' (i := 0) rfl <| ew_sub <| nv 3 rfl C' <| ew_int ⟨_, _, rfl, rfl, a - 1, rfl, h4, ?_⟩
              refine sw_append C' (i := 2) rfl <| ew_add <| nv 3 rfl C' <| ew_int ⟨_, _, rfl, rfl, ?_, sw_nil <| sw_nil <| sw_nil <| sw_nil ⟨m', Nat.lt_succ_self _, ms.erase (a - 1), (a + 1) :: ws, .dat (.int a), p1, by omega, by omega, hput, ?_⟩⟩
              · rw [List.length_map, List.length_reverse]
                exact len_ok (by omega)
              · rw [List.reverse_cons, List.map_append]
                rfl
            · rw [any_int] at h4
              have h4 := of_decide_eq_false h4
              rw [if_neg h4] at hput
              obtain ⟨p1, p2, p3⟩ := pi_add pi h1 h2 h3 h4
              refine sw_append C' (i := 0) rfl <| nv 3 rfl C' ⟨?_, sw_nil <| sw_nil <| sw_nil <| sw_nil ⟨m', Nat.lt_succ_self _, ms ++ [a], ws, .dat (.int a), p1, by omega, by omega, hput, ?_⟩⟩
              · rw [List.length_map]
                exact len_ok (by omega)
              · rw [List.map_append]
                rfl
  · rw [e0] at h
    cases ws with
    | cons a ws => simp at h
    | nil =>
      refine sw_nil ⟨ms.map D.int, ?_, rfl⟩
      rw [putR, ← hput]
      cases m <;> rfl
end
end DL
namespace DL
open PySem PySem.Spec PyProof.Rows L2
/-! ### what the top has of classes, of defs with defaults -/
def clsOk (K : PySem.W.Frag) (C : Addr) : Bool :=
  PySem.W.plainGet K C Str.empty && PySem.W.hasDictIn K C && PySem.W.plainOver K C && PySem.W.findIn K (.ref C) "__setattr__" == some (some (.builtin "object.__setattr__")) &&
  PySem.W.findIn K (.ref C) "place" == some none && PySem.W.makesIn K C && PySem.W.keepIn K (.ref C)
structure Kt (K : PySem.W.Frag) (mg : Str → Option Value) (x : Str) (C : Addr) : Prop where
  g : mg x = some (.ref C)
  ok : clsOk K C = true
  ini : ∃ fI fd, PySem.W.findIn K (.ref C) "__init__" = some (some (.ref fI)) ∧ PySem.W.isFn K (.ref fI) = true ∧ Fun K "__init__" "Move.__init__" s_Move___init__ fI fd
abbrev Mq (K : PySem.W.Frag) (C : Addr) (m qual : Str) (st : Stmt) : Prop := ∃ f fd, Meth K C m f ∧ Fun K m qual st f fd
abbrev Tg1 (K : PySem.W.Frag) (mg : Str → Option Value) (x : Str) (st : Stmt) (dvs : List V) : Prop := ∃ f fd, mg x = some (.ref f) ∧ FunD K x x (defArgs st) (defBody st) (defScope st) dvs [] f fd
section
variable {P : Program} {w : World} {K : PySem.W.Frag} {mg : Str → Option Value} {base : Heap} {h : Heap}
theorem Kt.cls {x : Str} {C : Addr} (t : Kt K mg x C) : L2.Cls K C ∧ NoAttr K C "place" := by
  have q := t.ok
  simp only [clsOk, Bool.and_eq_true, beq_iff_eq] at q
  exact ⟨⟨q.1.1.1.1.1.1, q.1.1.1.1.1.2, q.1.1.1.1.2, q.1.1.1.2⟩, q.1.1.2⟩
theorem Kt.ko {x : Str} {C : Addr} (t : Kt K mg x C) : Ko P w K mg base x C := by
  have q := t.ok
  simp only [clsOk, Bool.and_eq_true, beq_iff_eq] at q
  obtain ⟨fI, fd, h1, h2, F⟩ := t.ini
  exact ⟨t.g, t.cls.1, t.cls.2, fI, fd, ⟨q.1.2, h1, h2, q.2⟩, fnOk_init F, F.binds fun _ _ _ _ _ _ us hl => match us, hl with | [_, _], _ => rfl⟩
theorem kt_mk {x : Str} {C f : Addr} {oc : Value} {od an : Option Addr} {osl : Array (Option Value)} {kV doc pm cdv ct : Value} (X : K.In h) (G : h.Ns mainGlobals mg) (a : PySem.W.nsIn K mainGlobals x = some (some (.ref C))) (ok : clsOk K C = true) (i : PySem.W.findIn K (.ref C) "__init__" = some (some (.ref f))) (n : PySem.W.isFn K (.ref f) = true)
    (l : K.lookup f = some ⟨oc, od, .func (PySem.W.fnOf "__init__" "Move.__init__" (defArgs s_Move___init__) (defBody s_Move___init__) (defScope s_Move___init__) .none kV doc pm an cdv ct), osl⟩) (c : PySem.W.codeIn K cdv "Move.__init__" = true) (k : PySem.W.keepIn K (.ref f) = true) : Kt K mg x C :=
  ⟨PySem.W.mg_of X G a, ok, f, _, i, n, fun_mk l c k⟩
theorem mq_mk {C f : Addr} {m qual : Str} {st : Stmt} {oc : Value} {od an : Option Addr} {osl : Array (Option Value)} {kV doc pm cdv ct : Value} (i : PySem.W.findIn K (.ref C) m = some (some (.ref f))) (n : PySem.W.isFn K (.ref f) = true)
    (l : K.lookup f = some ⟨oc, od, .func (PySem.W.fnOf m qual (defArgs st) (defBody st) (defScope st) .none kV doc pm an cdv ct), osl⟩) (c : PySem.W.codeIn K cdv qual = true) (k : PySem.W.keepIn K (.ref f) = true) : Mq K C m qual st :=
  ⟨f, _, ⟨i, n, k⟩, fun_mk l c k⟩
theorem fun_topN {x : Str} {st : Stmt} {f T : Addr} {oc tc : Value} {od an td : Option Addr} {osl tsl : Array (Option Value)} {kV doc pm cdv ct : Value} {m : Nat} (X : K.In h) (G : h.Ns mainGlobals mg) (a : PySem.W.nsIn K mainGlobals x = some (some (.ref f)))
    (l : K.lookup f = some ⟨oc, od, .func (PySem.W.fnOf x x (defArgs st) (defBody st) (defScope st) (.ref T) kV doc pm an cdv ct), osl⟩) (t : K.lookup T = some ⟨tc, td, .seq #[.none] m, tsl⟩) (c : PySem.W.codeIn K cdv x = true) (k : PySem.W.keepIn K (.ref f) = true) : Tg1 K mg x st [.non] :=
  ⟨f, _, PySem.W.mg_of X G a, ⟨_, _, _, _, _, _, _, _, _, _, rfl, l, c, .inr ⟨List.cons_ne_nil _ _, T, _, [.none], m, rfl, t, rfl, .cons rfl .nil⟩, .inl rfl⟩, k⟩
theorem fun_topI {x : Str} {st : Stmt} {f T : Addr} {oc tc : Value} {od an td : Option Addr} {osl tsl : Array (Option Value)} {kV doc pm cdv ct : Value} {m : Nat} {i : Int} {tk : Tok} (X : K.In h) (G : h.Ns mainGlobals mg) (a : PySem.W.nsIn K mainGlobals x = some (some (.ref f)))
    (l : K.lookup f = some ⟨oc, od, .func (PySem.W.fnOf x x (defArgs st) (defBody st) (defScope st) (.ref T) kV doc pm an cdv ct), osl⟩) (t : K.lookup T = some ⟨tc, td, .seq #[.int i tk] m, tsl⟩) (c : PySem.W.codeIn K cdv x = true) (k : PySem.W.keepIn K (.ref f) = true) : Tg1 K mg x st [.int i] :=
  ⟨f, _, PySem.W.mg_of X G a, ⟨_, _, _, _, _, _, _, _, _, _, rfl, l, c, .inr ⟨List.cons_ne_nil _ _, T, _, [.int i tk], m, rfl, t, rfl, .cons ⟨_, rfl⟩ .nil⟩, .inl rfl⟩, k⟩
end
end DL
namespace DL
open PySem PySem.Spec PyProof.Rows L2
section
variable {P : Program} {w : World} {K : PySem.W.Frag} {mg : Str → Option Value} {base : Heap} {f : Addr} {fd : FuncData} {ad : Rf → Addr}
/-- the row of n, or too great -/
def rowR (ad : Rf → Addr) (n : Int) : FR := if n < fw 100 then .ret (tupI (rowL n)) else .exc (ad .tg)
theorem rowR_yes {n : Int} (h : n < fw 100) : rowR ad n = .ret (tupI (rowL n)) := by rw [rowR, if_pos h]
theorem rowR_no {n : Int} (h : ¬ n < fw 100) : rowR ad n = .exc (ad .tg) := by rw [rowR, if_neg h]
theorem frd_row {Φ : D → Prop} {Z : DZ} {n : Int} (h1 : n < fw 100 → Φ (tupI (rowL n))) (h2 : ¬ n < fw 100 → Z (ad .tg)) : FRd Φ Z (rowR ad n) := by
  by_cases h : n < fw 100
  · rw [rowR_yes h]
    exact h1 h
  · rw [rowR_no h]
    exact h2 h
theorem frd_end {ρ : List Sl} {n : Int} : FRd (fun d => (endF (rowR ad n)).rt (.ret d)) (exz (endF (rowR ad n)) ρ) (rowR ad n) :=
  frd_row (fun h => .inl (rowR_yes h).symm) (fun h => rowR_no h)
/-! ### settled, without a pick -/
def S_settled (ad : Rf → Addr) (ds : List D) (r : FR) : Prop := ∃ d, ds = [d, .non] ∧ d.wty = true ∧ ((∃ ns : List Int, d = tupI ns ∧ isPileD d = true ∧ r = rowR ad (worthL ns)) ∨ (isPileD d = false ∧ r = .exc (ad .np)))
theorem ok_settled (F : FunD K "settled" "settled" (defArgs s_settled) (defBody s_settled) (defScope s_settled) [.non] [] f fd) (B : Bt mg) (F1 : Df P w K mg base "need_pile" 3 1 (S_need_pile (ad .np))) (F2 : DfO P w K mg base "put_in" 3 1 (S_put_in ad)) :
    FnOk P w K mg base (L2.CX P w) 4 f fd ["pile", "pick"] (spF K 2 (S_settled ad)) := by
  refine fnOk_defD F sc_settled fun ds r hS hl X W O C => ?_
  obtain ⟨rfl, rfl, rfl, rfl, rfl⟩ := O
  obtain ⟨d, rfl, ht, hS⟩ := hS
  have C' := C.toCtx
  refine sw_if <| tw_notN <| nv 1 rfl C' ⟨(fun z => nomatch z), fun _ => sw_nil ?_⟩
  refine sw_expr <| ew_df C' F1 <| aw_cons <| nv 0 rfl C' <| aw_nil ⟨rfl, _, ⟨_, rfl, ht, rfl⟩, ?_⟩
  rcases hS with ⟨ns, rfl, h, rfl⟩ | ⟨h, rfl⟩
  · rw [if_pos h]
    obtain ⟨h1, h2, h3⟩ := isPile_tupI.mp h
    obtain ⟨y1, y2⟩ := set_row (ps := ns) h2
    have back : ∀ s, setF [] ns = s → (∀ r, s = some r → rowR ad (worthL ns) = .ret (tupI (srt r))) ∧ (s = none → rowR ad (worthL ns) = .exc (ad .tg)) := fun s es => by
      by_cases hw : worthL ns < fw 100
      · obtain ⟨r, e1, e2⟩ := y1 hw
        rw [e1] at es
        subst es
        refine ⟨fun r' e => ?_, (fun z => nomatch z)⟩
        cases e
        rw [rowR_yes hw, e2]
      · rw [y2 (by omega)] at es
        subst es
        exact ⟨(fun r z => nomatch z), fun _ => rowR_no hw⟩
    obtain ⟨b1, b2⟩ := back _ rfl
    refine sw_setN C (i := 2) <| en_lst <| aw_nil ⟨szl rfl, ?_⟩
    refine sw_for C (Tg.name 3 rfl (.inl rfl)) <| iw_tup <| nv 0 rfl C' ⟨_, rfl, fun i ρ' => i ≤ ns.length ∧ ∃ (ms : List Int) (s : Sl), Loose ms ∧ setF ms (ns.drop i) = setF [] ns ∧ ρ' = [.dat (tupI ns), .dat .non, .own (ms.map D.int), s], ⟨Nat.zero_le _, [], _, ⟨.nil, (fun x hx => nomatch hx)⟩, by rw [List.drop_zero], rfl⟩, ?_, ?_⟩
    · rintro i d ρ' hd ⟨hi, ms, s, hL, hset, rfl⟩
      rw [List.getElem?_map] at hd
      cases hci : ns[i]? with
      | none => rw [hci] at hd; cases hd
      | some p =>
        rw [hci] at hd
        have hd : D.int p = d := Option.some.inj hd
        subst hd
        obtain ⟨hi, ep⟩ := List.getElem?_eq_some_iff.mp hci
        have pm := h2 p (List.mem_of_getElem? hci)
        rw [List.drop_eq_getElem_cons hi, ep, setF] at hset
        refine ⟨_, rfl, ?_⟩
        refine sw_callO C' F2 (i := 2) rfl <| aw_cons <| nv 3 rfl C' <| aw_nil ⟨rfl, _, ⟨ms, p, rfl, rfl, hL, pm.1, pm.2, rfl⟩, ?_⟩
        obtain ⟨t1, t2⟩ := turns_ok hL pm
        obtain ⟨k1, _⟩ := put_ok turns ms [p] t1 t2
        unfold putR
        cases e : putF turns ms [p] with
        | none =>
          rw [e] at hset
          exact b2 hset.symm
        | some ms' =>
          rw [e] at hset
          exact sw_nil ⟨hi, ms', .dat (.int p), (k1 _ e).1, hset, rfl⟩
    · rintro ρ' ⟨hi, ms, s, hL, hset, rfl⟩
      rw [List.length_map, List.drop_length, setF] at hset
      refine sw_ret <| ew_tuple C' B.tuple <| es_new <| en_sorted C' B.sorted <| ov 2 rfl C' ⟨rfl, ms, rfl, .inl ?_⟩
      exact (b1 _ hset.symm).symm
  · rw [if_neg (by rw [h]; exact Bool.false_ne_true)]
    exact rfl
/-- settled(pile) -/
def S_settled1 (ad : Rf → Addr) (ds : List D) (r : FR) : Prop := S_settled ad (ds ++ [.non]) r
theorem non1 : ∀ H, AtAll K H (([.non] : List V).drop 0) [.non] := fun H => .cons .non .nil
theorem fn_settled1 (F : FunD K "settled" "settled" (defArgs s_settled) (defBody s_settled) (defScope s_settled) [.non] [] f fd) (B : Bt mg) (F1 : Df P w K mg base "need_pile" 3 1 (S_need_pile (ad .np))) (F2 : DfO P w K mg base "put_in" 3 1 (S_put_in ad)) : Fn P w K mg base f 4 1 (S_settled1 ad) :=
  fn_fill F (ok_settled F B F1 F2) 1 0 [.non] non1 (List.cons_ne_nil _ _) rfl fun T kV doc pm an cdv ct us its h1 h2 => match us, its, h1, h2 with | [_], [_], _, _ => ⟨_, rfl, rfl⟩
theorem fn_settled2 (F : FunD K "settled" "settled" (defArgs s_settled) (defBody s_settled) (defScope s_settled) [.non] [] f fd) (B : Bt mg) (F1 : Df P w K mg base "need_pile" 3 1 (S_need_pile (ad .np))) (F2 : DfO P w K mg base "put_in" 3 1 (S_put_in ad)) : Fn P w K mg base f 4 2 (S_settled ad) :=
  (fn_fill F (ok_settled F B F1 F2) 2 1 [] (fun _ => .nil) (List.cons_ne_nil _ _) rfl fun T kV doc pm an cdv ct us its h1 h2 => match us, its, h1, h2 with | [_, _], [_], _, _ => ⟨_, rfl, rfl⟩).imp fun ds r h => by rw [List.append_nil]; exact h
/-! ### plus -/
def S_plus3 (ad : Rf → Addr) (ds : List D) (r : FR) : Prop := ∃ x y, ds = [x, y, .non] ∧ x.wty = true ∧ y.wty = true ∧ ((∃ a b : List Int, x = tupI a ∧ y = tupI b ∧ Up a ∧ Up b ∧ r = rowR ad (worthL a + worthL b)) ∨ ((isRowD x = false ∨ isRowD y = false) ∧ r = .exc (ad .nr)))
def S_plus (ad : Rf → Addr) (ds : List D) (r : FR) : Prop := S_plus3 ad (ds ++ [.non]) r
/-- plus of two rows -/
theorem plus_rows {a b : List Int} (ha : Up a) (hb : Up b) : S_plus ad [tupI a, tupI b] (rowR ad (worthL a + worthL b)) := ⟨_, _, rfl, wty_tupI _, wty_tupI _, .inl ⟨a, b, rfl, rfl, ha, hb, rfl⟩⟩
theorem plus_nr {x y : D} (hx : x.wty = true) (hy : y.wty = true) (h : isRowD x = false ∨ isRowD y = false) : S_plus ad [x, y] (.exc (ad .nr)) := ⟨_, _, rfl, hx, hy, .inr ⟨h, rfl⟩⟩
/-! ### multiples, times -/
def multL (n : Int) (m : Nat) : List D := (List.range m).map fun i => tupI (rowL (n * fw i))
theorem multL_len (n : Int) (m : Nat) : (multL n m).length = m := by rw [multL, List.length_map, List.length_range]
theorem multL_get {n : Int} {m i : Nat} (h : i < m) : (multL n m)[i]? = some (tupI (rowL (n * fw i))) := by rw [multL, List.getElem?_map, List.getElem?_range h]; rfl
theorem multL_succ (n : Int) (m : Nat) : multL n m ++ [tupI (rowL (n * fw m))] = multL n (m + 1) := by
  simp only [multL, List.range_succ, List.map_append, List.map_cons, List.map_nil]
def multR (ad : Rf → Addr) (n : Int) (l : Nat) : FR := if n * fw l < fw 100 then .new (multL n (l + 1)) else .exc (ad .tg)
def S_multiples (ad : Rf → Addr) (ds : List D) (r : FR) : Prop := ∃ (a : List Int) (l : Nat), ds = [tupI a, .int (l : Int)] ∧ Up a ∧ l ≤ 99 ∧ r = multR ad (worthL a) l
theorem fit_mul {n : Int} {i j : Nat} (h0 : 0 ≤ n) (h : i ≤ j) (hj : n * fw j < fw 100) : 0 ≤ n * fw i ∧ n * fw i < fw 100 := by
  have h1 := Int.mul_le_mul_of_nonneg_left (fw_mono h) h0
  exact ⟨Int.mul_nonneg h0 (Int.le_of_lt (fw_pos i)), Int.lt_of_le_of_lt h1 hj⟩
def S_times (ad : Rf → Addr) (ds : List D) (r : FR) : Prop := ∃ x y, ds = [x, y] ∧ x.wty = true ∧ y.wty = true ∧ ((∃ a b : List Int, x = tupI a ∧ y = tupI b ∧ Up a ∧ Up b ∧ r = rowR ad (worthL a * worthL b)) ∨ ((isRowD x = false ∨ isRowD y = false) ∧ r = .exc (ad .nr)))
theorem rowL_zero : rowL 0 = [] := (rowL_uniq (l := []) ⟨.nil, (fun x hx => nomatch hx)⟩).symm
theorem worth_take : ∀ (b : List Int) (i : Nat), worthL (b.take i) ≤ worthL b
  | [], i => by rw [List.take_nil]; exact Int.le_refl _
  | x :: b, 0 => worth_nn (x :: b)
  | x :: b, i + 1 => by
    have := worth_take b i
    rw [List.take_succ_cons, worthL_cons, worthL_cons]
    omega
theorem worth_last {b : List Int} {x : Int} (h : x ∈ b) : fw x.toNat ≤ worthL b := by
  have := worthL_erase h
  have := worth_nn (b.erase x)
  omega
theorem last_at2 {fs : List Int} (h : fs ≠ []) : ∃ x ∈ fs, atI (fs.map D.int) (-1) = some (.int x) := by
  have hl : 0 < fs.length := List.length_pos_iff.mpr h
  refine ⟨fs[fs.length - 1], List.getElem_mem _, ?_⟩
  unfold L2.atI L2.ixN
  rw [if_neg (by decide), if_pos (by rw [List.length_map]; omega), List.length_map]
  show ((fs.map D.int)[(-1 + (fs.length : Int)).toNat]?) = _
  rw [show (-1 + (fs.length : Int)).toNat = fs.length - 1 by omega, List.getElem?_map, List.getElem?_eq_getElem (by omega)]
  rfl
end
end DL
namespace DL
open PySem PySem.Spec PyProof.Rows L2
/-! ### moves, in plain Lean: true a join, false a part -/
def goingL (j : Bool) (k : Int) : List Int := if j = true then [k, k + 1] else [k, k]
def comingL (j : Bool) (k : Int) : List Int := if j = true then [k + 2] else comingP k
def topC (j : Bool) (k : Int) : Int := if j = true then k + 2 else k + 1
def hasL (ns g : List Int) : Bool := g.all fun one => decide (g.count one ≤ ns.count one)
def goneL (ns g : List Int) : List Int := g.foldl List.erase ns
def afterL (ns : List Int) (j : Bool) (k : Int) : List Int := srt (goneL ns (goingL j k) ++ comingL j k)
theorem count_gone : ∀ (g ns : List Int) (x : Int), (goneL ns g).count x = ns.count x - g.count x
  | [], ns, x => by simp [goneL]
  | a :: g, ns, x => by
    show (goneL (ns.erase a) g).count x = _
    rw [count_gone g (ns.erase a) x, List.count_erase, List.count_cons]
    split <;> omega
theorem gone_mem {ns g : List Int} (h : hasL ns g = true) {i : Nat} {x : Int} (hx : g[i]? = some x) : x ∈ goneL ns (g.take i) := by
  have hl : i < g.length := (List.getElem?_eq_some_iff.mp hx).1
  have hg : x ∈ g := List.mem_of_getElem? hx
  have h1 : g.count x ≤ ns.count x := of_decide_eq_true (List.all_eq_true.mp h x hg)
  have e : g = g.take i ++ x :: g.drop (i + 1) := by
    obtain ⟨_, ex⟩ := List.getElem?_eq_some_iff.mp hx
    rw [← ex, ← List.drop_eq_getElem_cons hl, List.take_append_drop]
  have h2 : g.count x = (g.take i).count x + ((g.drop (i + 1)).count x + 1) := by
    conv => lhs; rw [e]
    rw [List.count_append, List.count_cons_self]
  refine List.count_pos_iff.mp ?_
  rw [count_gone]
  omega
theorem gone_succ (ns g : List Int) {i : Nat} {x : Int} (hx : g[i]? = some x) : (goneL ns (g.take i)).erase x = goneL ns (g.take (i + 1)) := by
  rw [List.take_succ, hx]
  show _ = goneL ns (g.take i ++ [x])
  unfold goneL
  rw [List.foldl_append]
  rfl
theorem gone_perm {ns g : List Int} (h : hasL ns g = true) : ns.Perm (g ++ goneL ns g) := by
  refine List.perm_iff_count.mpr fun x => ?_
  rw [List.count_append, count_gone]
  by_cases hx : x ∈ g
  · have h1 : g.count x ≤ ns.count x := of_decide_eq_true (List.all_eq_true.mp h x hx)
    omega
  · rw [List.count_eq_zero_of_not_mem hx]
    omega
theorem gone_sub {ns g : List Int} {x : Int} (h : x ∈ goneL ns g) : x ∈ ns := by
  have h1 := List.count_pos_iff.mpr h
  rw [count_gone] at h1
  exact List.count_pos_iff.mp (by omega)
theorem gone_len : ∀ (g ns : List Int), (goneL ns g).length ≤ ns.length
  | [], ns => Nat.le_refl _
  | a :: g, ns => Nat.le_trans (gone_len g (ns.erase a)) (List.length_erase_le)
theorem eqD_x_str (d : D) (s : Str) : eqD d (.str s) = true ↔ d = .str s := by
  cases d with
  | str x => rw [eqD_str, decide_eq_true_eq]; exact ⟨fun h => by rw [h], fun h => by injection h⟩
  | _ =>
    refine ⟨fun h => ?_, fun h => by cases h⟩
    unfold eqD at h
    simp [D.py, PyData.eqv] at h
/-- what a thing tells -/
def moveD : D → Option (Bool × Int)
  | .tup [.str s, .int k] => if 0 ≤ k ∧ k ≤ 99 then (if s = "join" then some (true, k) else if s = "part" then some (false, k) else none) else none
  | _ => none
theorem moveD_tup (s : Str) (k : Int) : moveD (.tup [.str s, .int k]) = if 0 ≤ k ∧ k ≤ 99 then (if s = "join" then some (true, k) else if s = "part" then some (false, k) else none) else none := rfl
theorem moveD_no {x : D} {k : Int} (h1 : x ≠ .str "join") (h2 : x ≠ .str "part") : moveD (.tup [x, .int k]) = none := by
  cases x with
  | str s =>
    have e1 : ¬ s = "join" := fun z => h1 (by rw [z])
    have e2 : ¬ s = "part" := fun z => h2 (by rw [z])
    rw [moveD_tup, if_neg e1, if_neg e2]
    split <;> rfl
  | _ => rfl
section
variable {P : Program} {w : World} {K : PySem.W.Frag} {mg : Str → Option Value} {base : Heap} {f : Addr} {fd : FuncData} {ad : Rf → Addr} {A : Addr}
theorem place_no (k : Int) {m : Str} (h : (m == ("place" : Str)) = false) : ([(("place" : Str), V.int k)] : List (Str × V)).lookup m = none := by
  rw [List.lookup_cons, h]
  rfl
def S_going (C : Addr) (j : Bool) (ds : List D) (r : FR) : Prop := ∃ k : Int, ds = [insD C k] ∧ r = .new ((goingL j k).map D.int)
def S_coming (C : Addr) (j : Bool) (ds : List D) (r : FR) : Prop := ∃ k : Int, ds = [insD C k] ∧ r = .new ((comingL j k).map D.int)
theorem fn_join_going (F : Fun K "going" "Join.going" s_Join_going f fd) (c : L2.Cls K A) (n : NoAttr K A "place") : Fn P w K mg base f 1 1 (S_going A true) := by
  refine fn_def F sc_Join_going (F.binds fun _ _ _ _ _ _ us hl => match us, hl with | [_], _ => rfl) fun ds r hS hl X W O C => ?_
  obtain ⟨rfl, rfl, rfl, rfl, rfl⟩ := O
  obtain ⟨k, rfl, rfl⟩ := hS
  have C' := C.toCtx
  exact sw_retN <| en_lst <| aw_cons <| ew_place <| nv 0 rfl C' ⟨A, k, rfl, c, n, aw_cons <| ew_add <| ew_place <| nv 0 rfl C' ⟨A, k, rfl, c, n, ew_int ⟨_, _, rfl, rfl, aw_nil ⟨szl rfl, .inl rfl⟩⟩⟩⟩
theorem fn_join_coming (F : Fun K "coming" "Join.coming" s_Join_coming f fd) (c : L2.Cls K A) (n : NoAttr K A "place") : Fn P w K mg base f 1 1 (S_coming A true) := by
  refine fn_def F sc_Join_coming (F.binds fun _ _ _ _ _ _ us hl => match us, hl with | [_], _ => rfl) fun ds r hS hl X W O C => ?_
  obtain ⟨rfl, rfl, rfl, rfl, rfl⟩ := O
  obtain ⟨k, rfl, rfl⟩ := hS
  have C' := C.toCtx
  exact sw_retN <| en_lst <| aw_cons <| ew_add <| ew_place <| nv 0 rfl C' ⟨A, k, rfl, c, n, ew_int ⟨_, _, rfl, rfl, aw_nil ⟨szl rfl, .inl rfl⟩⟩⟩
theorem fn_part_going (F : Fun K "going" "Part.going" s_Part_going f fd) (c : L2.Cls K A) (n : NoAttr K A "place") : Fn P w K mg base f 1 1 (S_going A false) := by
  refine fn_def F sc_Part_going (F.binds fun _ _ _ _ _ _ us hl => match us, hl with | [_], _ => rfl) fun ds r hS hl X W O C => ?_
  obtain ⟨rfl, rfl, rfl, rfl, rfl⟩ := O
  obtain ⟨k, rfl, rfl⟩ := hS
  have C' := C.toCtx
  exact sw_retN <| en_lst <| aw_cons <| ew_place <| nv 0 rfl C' ⟨A, k, rfl, c, n, aw_cons <| ew_place <| nv 0 rfl C' ⟨A, k, rfl, c, n, aw_nil ⟨szl rfl, .inl rfl⟩⟩⟩
theorem fn_part_coming' (F : Fun K "coming" "Part.coming" s_Part_coming f fd) (B : Bt mg) (c : L2.Cls K A) (n : NoAttr K A "place") : Fn P w K mg base f 1 1 (S_coming A false) :=
  (fn_part_coming F B c n).imp fun _ _ h => h
def S_can_be (C : Addr) (j : Bool) (ds : List D) (r : FR) : Prop := ∃ (k : Int) (ns : List Int), ds = [insD C k, tupI ns] ∧ r = .ret (.bl (hasL ns (goingL j k)))
theorem going_len (j : Bool) (k : Int) : (goingL j k).length = 2 := by cases j <;> rfl
theorem fn_can_be {j : Bool} (F : Fun K "can_be" "Move.can_be" s_Move_can_be f fd) (B : Bt mg) (c : L2.Cls K A) (M : Mo P w K mg base A "going" 1 1 (S_going A j)) : Fn P w K mg base f 2 2 (S_can_be A j) := by
  refine fn_def F sc_Move_can_be (F.binds fun _ _ _ _ _ _ us hl => match us, hl with | [_, _], _ => rfl) fun ds r hS hl X W O C => ?_
  obtain ⟨rfl, rfl, rfl, rfl, rfl⟩ := O
  obtain ⟨k, ns, rfl, rfl⟩ := hS
  have C' := C.toCtx
  obtain ⟨fm, mt, Fm⟩ := M.ex
  refine sw_ret <| ew_all C' B.all <| es_new <| en_lcM (α := Int) (own := [("one", 2)]) D.int (fun x => .bl (decide ((goingL j k).count x ≤ ns.count x))) C' (TgB.name 2 rfl rfl (by simp)) (iw_list <| ew_new <| en_meth0 C' c mt Fm <| nv 0 rfl C' ⟨_, rfl, place_no k (by decide), _, ⟨k, rfl, rfl⟩, _, rfl, goingL j k, rfl, by rw [going_len]; decide, fun x hx => bi_plain rfl fun s H C0 cl fp Cb => ?_, rfl, (goingL j k).map fun x => decide ((goingL j k).count x ≤ ns.count x), by rw [List.map_map]; rfl, .inl ?_⟩) (blkOk_by (by decide +kernel))
  · refine ew_ge <| ew_tcount Cb (nv 1 rfl Cb ⟨ns, rfl, nv 2 rfl Cb ⟨_, rfl, ew_lcount Cb (es_new <| en_meth0 Cb c mt Fm <| nv 0 rfl Cb ⟨_, rfl, place_no k (by decide), _, ⟨k, rfl, rfl⟩, rfl, goingL j k, rfl, nv 2 rfl Cb ⟨_, rfl, _, _, rfl, rfl, ?_⟩⟩) pe_lcountW⟩⟩) rfl (pe_tcountW Cb.room.units)
    congr 1
    simp only [Int.ofNat_le]
  · rw [List.all_map]
    rfl
def S_after (C : Addr) (j : Bool) (ds : List D) (r : FR) : Prop := ∃ (k : Int) (ns : List Int), ds = [insD C k, tupI ns] ∧ ns.length ≤ 1000 ∧ hasL ns (goingL j k) = true ∧ r = .ret (tupI (afterL ns j k))
theorem fn_after {j : Bool} (F : Fun K "after" "Move.after" s_Move_after f fd) (B : Bt mg) (c : L2.Cls K A) (M : Mo P w K mg base A "going" 1 1 (S_going A j)) (M2 : Mo P w K mg base A "coming" 1 1 (S_coming A j)) : Fn P w K mg base f 2 2 (S_after A j) := by
  refine fn_def F sc_Move_after (F.binds fun _ _ _ _ _ _ us hl => match us, hl with | [_, _], _ => rfl) fun ds r hS hl X W O C => ?_
  obtain ⟨rfl, rfl, rfl, rfl, rfl⟩ := O
  obtain ⟨k, ns, rfl, hz, hh, rfl⟩ := hS
  have C' := C.toCtx
  obtain ⟨fm, mt, Fm⟩ := M.ex
  obtain ⟨fc, mc, Fc⟩ := M2.ex
  refine sw_setN C (i := 2) <| en_list C' B.list <| sv 1 rfl C' ?_
  refine sw_for C (Tg.name 3 rfl (.inl rfl)) <| iw_list <| ew_new <| en_meth0 C' c mt Fm <| nv 0 rfl C' ⟨_, rfl, place_no k (by decide), _, ⟨k, rfl, rfl⟩, _, rfl, fun i ρ' => ∃ s, ρ' = [.dat (insD A k), .dat (tupI ns), .own ((goneL ns ((goingL j k).take i)).map D.int), s], ⟨_, by rw [List.take_zero]; rfl⟩, ?_, ?_⟩
  · rintro i d ρ' hd ⟨s, rfl⟩
    rw [List.getElem?_map] at hd
    cases hx : (goingL j k)[i]? with
    | none => rw [hx] at hd; cases hd
    | some x =>
      rw [hx] at hd
      have hd : D.int x = d := Option.some.inj hd
      subst hd
      refine ⟨_, rfl, ?_⟩
      exact sw_removeI C' (i := 2) rfl <| nv 3 rfl C' ⟨x, rfl, gone_mem hh hx, sw_nil ⟨_, by rw [gone_succ _ _ hx]; rfl⟩⟩
  · rintro ρ' ⟨s, rfl⟩
    rw [List.length_map, List.take_length]
    have gl := gone_len (goingL j k) ns
    have cl : (comingL j k).length ≤ 2 := by
      unfold comingL comingP
      repeat' split
      all_goals simp
    refine sw_ret <| ew_tuple C' B.tuple <| es_new <| en_sorted C' B.sorted <| es_new <| en_cat <| ov 2 rfl C' ⟨rfl, es_new <| en_meth0 C' c mc Fc <| nv 0 rfl C' ⟨_, rfl, place_no k (by decide), _, ⟨k, rfl, rfl⟩, rfl, ?_, rfl, goneL ns (goingL j k) ++ comingL j k, List.map_append.symm, .inl rfl⟩⟩
    rw [List.length_map, List.length_map]
    exact szn (by omega)
/-! ### move_of -/
def movR (ad : Rf → Addr) (aJ aP : Addr) (d : D) : FR := match moveD d with
  | some (true, k) => .ret (insD aJ k)
  | some (false, k) => .ret (insD aP k)
  | none => .exc (ad .nm)
def S_move_of (ad : Rf → Addr) (aJ aP : Addr) (ds : List D) (r : FR) : Prop := ∃ d, ds = [d] ∧ d.wty = true ∧ d.pure = true ∧ d.dep ≤ 50 ∧ r = movR ad aJ aP d
theorem fn_move_of {aJ aP : Addr} (F : Fun K "move_of" "move_of" s_move_of f fd) (B : Bt mg) (L : Cl K mg ad) (F1 : Df P w K mg base "is_place" 1 1 S_is_place) (J : Ko P w K mg base "Join" aJ) (Q : Ko P w K mg base "Part" aP) : Fn P w K mg base f 3 1 (S_move_of ad aJ aP) := by
  refine fn_def F sc_move_of (F.binds fun _ _ _ _ _ _ us hl => match us, hl with | [_], _ => rfl) fun ds r hS hl X W O C => ?_
  obtain ⟨rfl, rfl, rfl, rfl, rfl⟩ := O
  obtain ⟨d, rfl, hw, hp, hdep, rfl⟩ := hS
  have C' := C.toCtx
  obtain ⟨fJ, fdJ, mkJ, okJ, bJ⟩ := J.mks
  obtain ⟨fP, fdP, mkP, okP, bP⟩ := Q.mks
  have no : (∀ s k, d = .tup [.str s, .int k] → ¬ (0 ≤ k ∧ k ≤ 99)) → movR ad aJ aP d = .exc (ad .nm) := fun h => by
    unfold movR
    have : moveD d = none := by
      unfold moveD
      split
      · rename_i s k
        rw [if_neg (h s k rfl)]
      · rfl
    rw [this]
  refine sw_if <| tw_bool <| bw_or <| tw_not <| tw_val <| ew_isTup C' B <| nv 0 rfl C' ⟨hw, _, rfl, fun h => ?_, fun h => ⟨fun _ => sw_raise C' (L.ex .nm) ?_, (fun z => nomatch z)⟩⟩
  · cases d with
    | tup xs =>
      refine bw_or <| tw_neI C' <| ew_len C' B.len <| sv 0 rfl C' <| ew_int ⟨_, _, rfl, rfl, fun h2 => ?_, fun h2 => ⟨fun _ => sw_raise C' (L.ex .nm) ?_, (fun z => nomatch z)⟩⟩
      · have h2 : (xs.length : Int) = 2 := by simpa using h2
        match xs, h2 with
        | [x, y], _ =>
          have hwy : y.wty = true := by simp only [D.wty, wtyAll, Bool.and_true, Bool.and_eq_true] at hw; exact hw.2
          have hpx : x.pure = true := by simp only [D.pure, pureAll, Bool.and_true, Bool.and_eq_true] at hp; exact hp.1
          have hdx : x.dep ≤ 60 := by simp only [D.dep, depAll] at hdep; omega
          refine bw_or1 <| tw_not <| tw_val <| ew_df C' F1 <| aw_cons <| ew_ix <| sv 0 rfl C' <| ew_int ⟨1, y, rfl, rfl, aw_nil ⟨rfl, _, ⟨y, rfl, hwy, rfl⟩, _, rfl, fun h3 => sw_raise C' (L.ex .nm) ?_, fun h3 => sw_nil ?_⟩⟩
          · refine no fun s k e => ?_
            injection e with e
            have e2 : y = .int k := by injection e with _ e; injection e
            subst e2
            have h3 : isPlaceD (.int k) = false := by simpa using h3
            simp only [isPlaceD, Bool.and_eq_false_iff, decide_eq_false_iff_not] at h3
            omega
          · have h3 : isPlaceD y = true := by simpa using h3
            cases y with
            | int k =>
              have hk : 0 ≤ k ∧ k ≤ 99 := by simpa only [isPlaceD, Bool.and_eq_true, decide_eq_true_eq] using h3
              refine sw_if <| tw_eq C' <| ew_ix <| sv 0 rfl C' <| ew_int ⟨0, x, rfl, rfl, ew_str ⟨eqok_r hpx rfl (by simp [D.dep]), fun h4 => ?_, fun h4 => sw_nil ?_⟩⟩
              · have h4 := (eqD_x_str _ _).mp h4
                subst h4
                refine sw_ret <| ew_make C' mkJ okJ bJ J.cl J.na J.g <| ew_ix <| sv 0 rfl C' <| ew_int ⟨1, .int k, rfl, rfl, .int k, at_int k, .inl ?_⟩
                rw [movR, moveD_tup, if_pos hk, if_pos rfl]
              · have n4 : x ≠ .str "join" := fun z => by rw [(eqD_x_str _ _).mpr z] at h4; cases h4
                refine sw_if <| tw_eq C' <| ew_ix <| sv 0 rfl C' <| ew_int ⟨0, x, rfl, rfl, ew_str ⟨eqok_r hpx rfl (by simp [D.dep]), fun h5 => ?_, fun h5 => sw_nil ?_⟩⟩
                · have h5 := (eqD_x_str _ _).mp h5
                  subst h5
                  refine sw_ret <| ew_make C' mkP okP bP Q.cl Q.na Q.g <| ew_ix <| sv 0 rfl C' <| ew_int ⟨1, .int k, rfl, rfl, .int k, at_int k, .inl ?_⟩
                  rw [movR, moveD_tup, if_pos hk, if_neg (by decide), if_pos rfl]
                · have n5 : x ≠ .str "part" := fun z => by rw [(eqD_x_str _ _).mpr z] at h5; cases h5
                  refine sw_raise C' (L.ex .nm) ?_
                  show movR ad aJ aP (.tup [x, .int k]) = _
                  rw [movR, moveD_no n4 n5]
            | _ => cases h3
        | [], h2 => simp at h2
        | [_], h2 => simp at h2
        | _ :: _ :: _ :: _, h2 => simp only [List.length_cons] at h2; omega
      · refine no fun s k e => ?_
        injection e with e
        subst e
        exact absurd h2 (by simp)
    | _ => cases h
  · refine no fun s k e => ?_
    subst e
    cases h
/-! ### done -/
def doneL (ad : Rf → Addr) (ns : List Int) (j : Bool) (k : Int) : FR := if hasL ns (goingL j k) = false then .exc (ad .nm) else if 99 < topC j k then .exc (ad .tg) else .ret (tupI (afterL ns j k))
def doneR (ad : Rf → Addr) (ns : List Int) (y : D) : FR := match moveD y with
  | none => .exc (ad .nm)
  | some (j, k) => doneL ad ns j k
def S_done (ad : Rf → Addr) (ds : List D) (r : FR) : Prop := ∃ x y, ds = [x, y] ∧ x.wty = true ∧ y.wty = true ∧ y.pure = true ∧ y.dep ≤ 50 ∧ ((isPileD x = false ∧ r = .exc (ad .np)) ∨ ∃ ns, x = tupI ns ∧ isPileD x = true ∧ r = doneR ad ns y)
/-- a class with all its methods -/
structure Mv (P : Program) (w : World) (K : PySem.W.Frag) (mg : Str → Option Value) (base : Heap) (A : Addr) (j : Bool) : Prop where
  cl : L2.Cls K A
  cb : Mo P w K mg base A "can_be" 2 2 (S_can_be A j)
  co : Mo P w K mg base A "coming" 1 1 (S_coming A j)
  af : Mo P w K mg base A "after" 2 2 (S_after A j)
theorem topC_ok (j : Bool) (k : Int) (h : 0 ≤ k) : topC j k ∈ comingL j k ∧ ∀ y ∈ comingL j k, y ≤ topC j k := by
  unfold topC comingL comingP
  cases j with
  | true => simp
  | false =>
    by_cases hk : k = 0
    · subst hk
      simp
    · simp only [Bool.false_eq_true, if_false, if_neg hk]
      refine ⟨by simp, fun y hy => ?_⟩
      simp only [List.mem_cons, List.not_mem_nil, or_false] at hy
      omega
theorem moveD_bd {d : D} {j : Bool} {k : Int} (h : moveD d = some (j, k)) : 0 ≤ k ∧ k ≤ 99 := by
  unfold moveD at h
  split at h
  · split at h
    · rename_i hk
      split at h
      · cases h; exact hk
      · split at h
        · cases h; exact hk
        · cases h
    · cases h
  · cases h
theorem fn_done {aJ aP : Addr} (F : Fun K "done" "done" s_done f fd) (B : Bt mg) (G : Gp mg) (L : Cl K mg ad) (F1 : Df P w K mg base "need_pile" 3 1 (S_need_pile (ad .np))) (F2 : Df P w K mg base "move_of" 3 1 (S_move_of ad aJ aP)) (MJ : Mv P w K mg base aJ true) (MP : Mv P w K mg base aP false) : Fn P w K mg base f 4 2 (S_done ad) := by
  refine fn_def F sc_done (F.binds fun _ _ _ _ _ _ us hl => match us, hl with | [_, _], _ => rfl) fun ds r hS hl X W O C => ?_
  obtain ⟨rfl, rfl, rfl, rfl, rfl⟩ := O
  obtain ⟨x, y, rfl, hx, hy, hyp, hyd, hS⟩ := hS
  have C' := C.toCtx
  obtain ⟨t, hT⟩ := G.last
  refine sw_expr <| ew_df C' F1 <| aw_cons <| nv 0 rfl C' <| aw_nil ⟨rfl, _, ⟨_, rfl, hx, rfl⟩, ?_⟩
  rcases hS with ⟨h, rfl⟩ | ⟨ns, rfl, h, rfl⟩
  · rw [if_neg (by rw [h]; exact Bool.false_ne_true)]
    exact rfl
  · rw [if_pos h]
    obtain ⟨hl1, hl2, hl3⟩ := isPile_tupI.mp h
    -- the walk behind the making
    have go : ∀ (A : Addr) (j : Bool) (k : Int), 0 ≤ k → Mv X.prog X.w X.K X.mg X.base A j → SW X W [.dat (tupI ns), .dat y, .dat (insD A k)] (defBody s_done |>.drop 2) (endF (doneL ad ns j k)) := fun A j k hk M => by
      obtain ⟨f1, m1, G1⟩ := M.cb.ex
      obtain ⟨f2, m2, G2⟩ := M.co.ex
      obtain ⟨f3, m3, G3⟩ := M.af.ex
      refine sw_if <| tw_not <| tw_val <| ew_meth C' M.cl m1 G1 <| nv 2 rfl C' ⟨_, rfl, place_no k (by decide), aw_cons <| nv 0 rfl C' <| aw_nil ⟨rfl, _, ⟨k, ns, rfl, rfl⟩, _, rfl, fun h1 => sw_raise C' (L.ex .nm) ?_, fun h1 => sw_nil ?_⟩⟩
      · show doneL ad ns j k = _
        rw [doneL, if_pos (by simpa using h1)]
      · have h1 : hasL ns (goingL j k) = true := by simpa using h1
        obtain ⟨t1, t2⟩ := topC_ok j k hk
        refine sw_if <| tw_gt <| ew_maxL C' B.max <| es_new <| en_meth0 C' M.cl m2 G2 <| nv 2 rfl C' ⟨_, rfl, place_no k (by decide), _, ⟨k, rfl, rfl⟩, rfl, comingL j k, topC j k, rfl, t1, t2, ew_globI C' rfl hT ⟨_, _, rfl, rfl, fun h2 => sw_raise C' (L.ex .tg) ?_, fun h2 => sw_nil ?_⟩⟩
        · have h2 := of_decide_eq_true h2
          show doneL ad ns j k = _
          rw [doneL, if_neg (by rw [h1]; decide), if_pos h2]
        · have h2 := of_decide_eq_false h2
          refine sw_ret <| ew_meth C' M.cl m3 G3 <| nv 2 rfl C' ⟨_, rfl, place_no k (by decide), aw_cons <| nv 0 rfl C' <| aw_nil ⟨rfl, _, ⟨k, ns, rfl, by omega, h1, rfl⟩, .inl ?_⟩⟩
          rw [doneL, if_neg (by rw [h1]; decide), if_neg h2]
    cases hm : moveD y with
    | none =>
      refine sw_set C (i := 2) <| ew_df C' F2 <| aw_cons <| nv 1 rfl C' <| aw_nil ⟨rfl, .exc (ad .nm), ⟨y, rfl, hy, hyp, hyd, by rw [movR, hm]⟩, ?_⟩
      show doneR ad ns y = _
      rw [doneR, hm]
    | some jk =>
      obtain ⟨j, k⟩ := jk
      have hk := moveD_bd hm
      have e : doneR ad ns y = doneL ad ns j k := by rw [doneR, hm]
      rw [e]
      cases j with
      | true => exact sw_set C (i := 2) <| ew_df C' F2 <| aw_cons <| nv 1 rfl C' <| aw_nil ⟨rfl, .ret (insD aJ k), ⟨y, rfl, hy, hyp, hyd, by rw [movR, hm]⟩, go aJ true k hk.1 MJ⟩
      | false => exact sw_set C (i := 2) <| ew_df C' F2 <| aw_cons <| nv 1 rfl C' <| aw_nil ⟨rfl, .ret (insD aP k), ⟨y, rfl, hy, hyp, hyd, by rw [movR, hm]⟩, go aP false k hk.1 MP⟩
end
end DL
namespace DL
open PySem PySem.Spec PyProof.Rows L2
/-! ### the moves that could be made, in plain Lean -/
theorem hasI_iff {l : List (Int × Int)} {n : Int} : hasI l n = true ↔ n ∈ l.map (·.1) := by
  unfold hasI
  rw [List.any_eq_true, List.mem_map]
  exact ⟨fun ⟨p, h, e⟩ => ⟨p, h, of_decide_eq_true e⟩, fun ⟨p, h, e⟩ => ⟨p, h, decide_eq_true e⟩⟩
structure TI (ms : List Int) (l : List (Int × Int)) : Prop where
  has : ∀ n, n ∈ l.map (·.1) ↔ n ∈ ms
  cnt : ∀ p ∈ l, p.2 = (ms.count p.1 : Nat)
  ord : ms.Pairwise (· ≤ ·) → (l.map (·.1)).Pairwise (· < ·)
theorem getI_of {ms : List Int} {l : List (Int × Int)} (h : TI ms l) (n : Int) : getI l n = (ms.count n : Nat) := by
  unfold getI
  cases e : l.find? fun p => decide (p.1 = n) with
  | none =>
    have : n ∉ ms := fun z => by
      obtain ⟨p, hp, ep⟩ := List.mem_map.mp ((h.has n).mpr z)
      have := List.find?_eq_none.mp e p hp
      exact this (decide_eq_true ep)
    rw [List.count_eq_zero_of_not_mem this]
    rfl
  | some p =>
    have h1 := List.mem_of_find?_eq_some e
    have h2 : p.1 = n := of_decide_eq_true (by simpa using List.find?_some e)
    show p.2 = _
    rw [h.cnt p h1, h2]
theorem ti_snoc {ms : List Int} {l : List (Int × Int)} (h : TI ms l) (n : Int) : TI (ms ++ [n]) (putI l n (getI l n + 1)) := by
  have g := getI_of h n
  have cn : ∀ m, (ms ++ [n]).count m = ms.count m + if n = m then 1 else 0 := fun m => by
    rw [List.count_append, List.count_singleton]
    simp only [beq_iff_eq]
  have ord1 : (ms ++ [n]).Pairwise (· ≤ ·) → ms.Pairwise (· ≤ ·) ∧ ∀ x ∈ ms, x ≤ n := fun z => by
    obtain ⟨z1, _, z2⟩ := List.pairwise_append.mp z
    exact ⟨z1, fun x hx => z2 x hx n List.mem_cons_self⟩
  unfold putI
  by_cases hh : hasI l n = true
  · rw [if_pos hh]
    have hk := hasI_iff.mp hh
    have ek : (l.map fun p => if p.1 = n then (p.1, getI l n + 1) else p).map (·.1) = l.map (·.1) := by
      rw [List.map_map]
      refine List.map_congr_left fun p _ => ?_
      show (if p.1 = n then (p.1, getI l n + 1) else p).1 = p.1
      split <;> rfl
    refine ⟨fun m => ?_, fun p hp => ?_, fun z => ?_⟩
    · rw [ek, h.has, List.mem_append, List.mem_singleton]
      refine ⟨.inl, fun z => z.elim id fun e => ?_⟩
      rw [e]
      exact (h.has n).mp hk
    · obtain ⟨q, hq, rfl⟩ := List.mem_map.mp hp
      have := h.cnt q hq
      by_cases e : q.1 = n
      · rw [if_pos e, cn, e, if_pos rfl, g]
        omega
      · rw [if_neg e, cn, if_neg (fun z => e z.symm), this]
        omega
    · rw [ek]
      exact h.ord (ord1 z).1
  · rw [if_neg hh]
    have hn : n ∉ ms := fun z => hh (hasI_iff.mpr ((h.has n).mpr z))
    have c0 : ms.count n = 0 := List.count_eq_zero_of_not_mem hn
    have ek : (l ++ [(n, getI l n + 1)]).map (·.1) = l.map (·.1) ++ [n] := by rw [List.map_append]; rfl
    refine ⟨fun m => ?_, fun p hp => ?_, fun z => ?_⟩
    · rw [ek, List.mem_append, List.mem_append, h.has]
    · rcases List.mem_append.mp hp with hp | hp
      · have e : ¬ n = p.1 := fun z => hn (by rw [z]; exact (h.has _).mp (List.mem_map.mpr ⟨p, hp, rfl⟩))
        rw [cn, if_neg e, h.cnt p hp]
        omega
      · rw [List.mem_singleton] at hp
        subst hp
        show getI l n + 1 = _
        rw [cn, if_pos rfl, g, c0]
        omega
    · obtain ⟨z1, z2⟩ := ord1 z
      rw [ek]
      refine List.pairwise_append.mpr ⟨h.ord z1, by simp, fun a ha b hb => ?_⟩
      rw [List.mem_singleton] at hb
      subst hb
      have ha := (h.has a).mp ha
      have := z2 a ha
      have : a ≠ b := fun e => hn (by rw [← e]; exact ha)
      omega
theorem ti_fold : ∀ (rest ms : List Int) (l : List (Int × Int)), TI ms l → TI (ms ++ rest) (rest.foldl (fun l n => putI l n (getI l n + 1)) l)
  | [], ms, l, h => by rw [List.append_nil]; exact h
  | n :: rest, ms, l, h => by
    have := ti_fold rest (ms ++ [n]) _ (ti_snoc h n)
    rw [List.append_assoc] at this
    exact this
theorem ti_tally (ns : List Int) : TI ns (tallyL ns) := ti_fold ns [] [] ⟨fun n => Iff.rfl, fun p hp => (by cases hp), fun _ => List.Pairwise.nil⟩
theorem strict_ext {a b : List Int} (ha : a.Pairwise (· < ·)) (hb : b.Pairwise (· < ·)) (h : ∀ x, x ∈ a ↔ x ∈ b) : a = b := by
  have na : a.Nodup := ha.imp fun h => by omega
  have nb : b.Nodup := hb.imp fun h => by omega
  have p : a.Perm b := List.perm_iff_count.mpr fun x => by
    rw [na.count, nb.count]
    simp only [h]
  exact PySem.W.ksm_same p (ha.imp fun h => by omega) (hb.imp fun h => by omega)
def upto (m : Nat) : List Int := (List.range m).map fun i : Nat => (i : Int)
theorem upto_ord (m : Nat) : (upto m).Pairwise (· < ·) := List.pairwise_map.mpr (List.pairwise_lt_range.imp fun h => by omega)
theorem mem_upto {m : Nat} {x : Int} : x ∈ upto m ↔ 0 ≤ x ∧ x < m := by
  unfold upto
  rw [List.mem_map]
  refine ⟨fun ⟨i, h, e⟩ => ?_, fun ⟨h0, h1⟩ => ⟨x.toNat, List.mem_range.mpr (by omega), by omega⟩⟩
  have := List.mem_range.mp h
  omega
def joinB (ns : List Int) (k : Int) : Bool := decide (k ∈ ns) && decide (k + 1 ∈ ns)
def partB (ns : List Int) (k : Int) : Bool := decide (1 < (ns.count k : Int))
def joinsL (ns : List Int) : List Int := (upto 99).filter (joinB ns)
def partsL (ns : List Int) : List Int := (upto 100).filter (partB ns)
def movesL (ns : List Int) : List (Bool × Int) := (joinsL ns).map (fun k => (true, k)) ++ (partsL ns).map (fun k => (false, k))
def mvD (m : Bool × Int) : D := .tup [.str (if m.1 = true then "join" else "part"), .int m.2]
theorem filt_map {α β : Type} (c : α → Bool) (g : α → β) (a : List α) : a.filterMap (fun x => if c x = true then some (g x) else none) = (a.filter c).map g := by
  induction a with
  | nil => rfl
  | cons x xs ih =>
    by_cases h : c x = true
    · rw [List.filterMap_cons_some (b := g x) (by rw [if_pos h]), List.filter_cons_of_pos h, List.map_cons, ih]
    · rw [List.filterMap_cons_none (by rw [if_neg h]), List.filter_cons_of_neg h, ih]
theorem joins_keys {ns : List Int} (hb : ∀ n ∈ ns, 0 ≤ n ∧ n ≤ 99) (hs : ns.Pairwise (· ≤ ·)) : ((tallyL ns).map (·.1)).filter (fun k => hasI (tallyL ns) (k + 1)) = joinsL ns := by
  have T := ti_tally ns
  unfold joinsL
  refine strict_ext ((T.ord hs).filter _) ((upto_ord _).filter _) fun x => ?_
  rw [List.mem_filter, List.mem_filter, T.has, hasI_iff, T.has, mem_upto, joinB, Bool.and_eq_true, decide_eq_true_eq, decide_eq_true_eq]
  refine ⟨fun h => ⟨?_, h⟩, fun h => h.2⟩
  have h1 := hb x h.1
  have h2 := hb _ h.2
  omega
theorem parts_items {ns : List Int} (hb : ∀ n ∈ ns, 0 ≤ n ∧ n ≤ 99) (hs : ns.Pairwise (· ≤ ·)) : ((tallyL ns).filter fun p => decide (1 < p.2)).map (·.1) = partsL ns := by
  have T := ti_tally ns
  unfold partsL
  refine strict_ext (List.Pairwise.sublist (List.filter_sublist.map _) (T.ord hs)) ((upto_ord _).filter _) fun x => ?_
  rw [List.mem_filter, mem_upto, List.mem_map, partB, decide_eq_true_eq]
  constructor
  · rintro ⟨p, hp, rfl⟩
    obtain ⟨hp, h1⟩ := List.mem_filter.mp hp
    have h1 := of_decide_eq_true h1
    rw [T.cnt p hp] at h1
    have := hb _ (List.count_pos_iff.mp (show 0 < ns.count p.1 by omega))
    exact ⟨by omega, h1⟩
  · rintro ⟨h0, h1⟩
    obtain ⟨p, hp, rfl⟩ := List.mem_map.mp ((T.has x).mpr (List.count_pos_iff.mp (show 0 < ns.count x by omega)))
    exact ⟨p, List.mem_filter.mpr ⟨hp, decide_eq_true (by rw [T.cnt p hp]; exact h1)⟩, rfl⟩
theorem moves_len (ns : List Int) : (movesL ns).length ≤ 199 := by
  unfold movesL joinsL partsL
  rw [List.length_append, List.length_map, List.length_map]
  have h1 := List.length_filter_le (joinB ns) (upto 99)
  have h2 := List.length_filter_le (partB ns) (upto 100)
  have e1 : (upto 99).length = 99 := by rw [upto, List.length_map, List.length_range]
  have e2 : (upto 100).length = 100 := by rw [upto, List.length_map, List.length_range]
  omega
theorem moves_D (ns : List Int) : (movesL ns).map mvD = (joinsL ns).map (fun k => D.tup [.str "join", .int k]) ++ (partsL ns).map (fun k => D.tup [.str "part", .int k]) := by
  unfold movesL
  rw [List.map_append, List.map_map, List.map_map]
  rfl
section
variable {P : Program} {w : World} {K : PySem.W.Frag} {mg : Str → Option Value} {base : Heap} {f : Addr} {fd : FuncData} {ad : Rf → Addr}
def movesR (ad : Rf → Addr) (x : D) (ns : List Int) : FR := if isPileD x = true then .new ((movesL ns).map mvD) else .exc (ad .np)
def S_moves_of (ad : Rf → Addr) (ds : List D) (r : FR) : Prop := ∃ x, ds = [x] ∧ x.wty = true ∧ ((isPileD x = false ∧ r = .exc (ad .np)) ∨ ∃ ns : List Int, x = tupI ns ∧ isPileD x = true ∧ r = .new ((movesL ns).map mvD))
theorem fn_moves_of (F : Fun K "moves_of" "moves_of" s_moves_of f fd) (B : Bt mg) (F1 : Df P w K mg base "need_pile" 3 1 (S_need_pile (ad .np))) : Fn P w K mg base f 4 1 (S_moves_of ad) := by
  refine fn_def F sc_moves_of (F.binds fun _ _ _ _ _ _ us hl => match us, hl with | [_], _ => rfl) fun ds r hS hl X W O C => ?_
  obtain ⟨rfl, rfl, rfl, rfl, rfl⟩ := O
  obtain ⟨x, rfl, hx, hS⟩ := hS
  have C' := C.toCtx
  refine sw_expr <| ew_df C' F1 <| aw_cons <| nv 0 rfl C' <| aw_nil ⟨rfl, _, ⟨_, rfl, hx, rfl⟩, ?_⟩
  rcases hS with ⟨h, rfl⟩ | ⟨ns, rfl, h, rfl⟩
  · rw [if_neg (by rw [h]; exact Bool.false_ne_true)]
    exact rfl
  · rw [if_pos h]
    obtain ⟨h1, h2, h3⟩ := isPile_tupI.mp h
    have tl := tally_len ns
    refine sw_tally C (i0 := 0) (i1 := 1) (i2 := 2) (ns := ns) rfl (by omega) (by decide) (by decide) (by decide) (show 1 < 5 by decide) (show 2 < 5 by decide) fun s0 => ?_
    refine sw_setLcF (α := Int) (own := [("place", 2)]) D.int (fun k => if hasI (tallyL ns) (k + 1) = true then some (D.tup [.str "join", .int k]) else none) C (i := 3) (TgB.name 2 rfl rfl (by simp)) (iw_keysZ <| nv 1 rfl C' ⟨_, rfl, (tallyL ns).map (·.1), by rw [List.map_map]; rfl, by rw [List.length_map]; omega, fun z hz => bi_if _ rfl (fun s H C0 cl fp Cb => tw_inZ Cb <| ew_add <| nv 2 rfl Cb <| ew_int ⟨_, _, rfl, rfl, nv 1 rfl Cb ⟨_, _, rfl, rfl, rfl⟩⟩) (fun h s H C0 cl fp Cb => ew_tup <| aw_cons <| ew_str <| aw_cons <| nv 2 rfl Cb <| aw_nil ⟨szl rfl, rfl⟩), ?_⟩) (blkOk_by (by decide +kernel))
    rw [filt_map, joins_keys h2 h3]
    refine sw_retN <| en_cat <| ov 3 rfl C' ⟨rfl, es_new <| en_lcF (α := Int × Int) (own := [("place", 2), ("many", 4)]) (fun p => .pr (.int p.1) (.int p.2)) (fun p => if decide (1 < p.2) = true then some (D.tup [.str "part", .int p.1]) else none) C' (TgB.pair 2 4 rfl rfl rfl rfl (by simp) (by simp)) (iw_itemsZ (nv 1 rfl C' ⟨_, rfl, tallyL ns, rfl, by omega, fun p hp => bi_if _ rfl (fun s H C0 cl fp Cb => tw_gt <| nv 4 rfl Cb <| ew_int ⟨_, _, rfl, rfl, rfl⟩) (fun h s H C0 cl fp Cb => ew_tup <| aw_cons <| ew_str <| aw_cons <| nv 2 rfl Cb <| aw_nil ⟨szl rfl, rfl⟩), rfl, ?_, .inl ?_⟩) (fun to h => pi_items h)) (blkOk_by (by decide +kernel))⟩
    · rw [filt_map, List.length_map, List.length_map]
      have e1 := List.length_filter_le (joinB ns) (upto 99)
      have e2 : (upto 99).length = 99 := by rw [upto, List.length_map, List.length_range]
      have e3 := List.length_filter_le (fun p : Int × Int => decide (1 < p.2)) (tallyL ns)
      unfold joinsL
      exact szn (by omega)
    · rw [filt_map, moves_D, ← parts_items h2 h3, List.map_map]
      rfl
end
end DL
namespace DL
open PySem PySem.Spec PyProof.Rows L2
section
variable {P : Program} {w : World} {K : PySem.W.Frag} {mg : Str → Option Value} {base : Heap} {f : Addr} {fd : FuncData} {ad : Rf → Addr}
def isIntD : D → Bool
  | .int _ => true
  | _ => false
def rowOf (ad : Rf → Addr) (n : Int) : FR := if n < 0 then .exc (ad .nr) else if n < fw 100 then .ret (tupI (rowL n)) else .exc (ad .tg)
def S_row_of (ad : Rf → Addr) (ds : List D) (r : FR) : Prop := ∃ d, ds = [d] ∧ d.wty = true ∧ ((∃ n, d = .int n ∧ r = rowOf ad n) ∨ (isIntD d = false ∧ r = .exc (ad .nr)))
def S_number_of (ad : Rf → Addr) (ds : List D) (r : FR) : Prop := ∃ d, ds = [d] ∧ d.wty = true ∧ ((∃ l, d = tupI l ∧ Up l ∧ r = .ret (.int (worthL l))) ∨ (isRowD d = false ∧ r = .exc (ad .nr)))
/-! ### _law_same -/
def S_same (ds : List D) (r : FR) : Prop := ∃ a b : List Int, ds = [tupI a, tupI b] ∧ a.length ≤ 100000 ∧ r = .ret (.bl (decide (a = b)))
end
end DL
namespace DL
open PySem PySem.Spec PyProof.Rows L2
/-! ### a move keeps the worth and lowers the weight -/
theorem worthL_app (a b : List Int) : worthL (a ++ b) = worthL a + worthL b := by
  unfold worthL
  rw [List.map_append, List.sum_append]
theorem coming_wtM (j : Bool) {k : Int} (h : 0 ≤ k) : wtL (comingL j k) < wtL (goingL j k) ∧ worthL (comingL j k) = worthL (goingL j k) ∧ (comingL j k).length ≤ 2 := by
  cases j with
  | true =>
    refine ⟨?_, ?_, Nat.le_succ 1⟩
    · show wt (k + 2) + 0 < wt k + (wt (k + 1) + 0)
      unfold wt
      repeat' split
      all_goals omega
    · show fw (k + 2).toNat + 0 = fw k.toNat + (fw (k + 1).toNat + 0)
      have := fw_join h
      omega
  | false =>
    have p : (comingP k).Perm (comingR k) := by
      rw [← comingP_rev]
      exact (List.reverse_perm _).symm
    have h1 := coming_wt h
    have h2 := coming_worth h
    show wtL (comingP k) < wt k + (wt k + 0) ∧ worthL (comingP k) = fw k.toNat + (fw k.toNat + 0) ∧ (comingP k).length ≤ 2
    rw [wtL_perm p, worthL_perm p, p.length_eq]
    exact ⟨by omega, by omega, h1.2.1⟩
theorem coming_bd (j : Bool) {k : Int} (h : 0 ≤ k) : ∀ x ∈ comingL j k, 0 ≤ x := by
  intro x hx
  cases j with
  | true =>
    have hx : x ∈ [k + 2] := hx
    rw [List.mem_singleton] at hx
    omega
  | false =>
    have hx : x ∈ comingP k := hx
    have : x ∈ comingR k := by rw [← comingP_rev]; exact List.mem_reverse.mpr hx
    exact ((coming_wt h).2.2 x this).1
structure Aft (ns : List Int) (j : Bool) (k : Int) : Prop where
  wt : wtL (afterL ns j k) < wtL ns
  worth : worthL (afterL ns j k) = worthL ns
  len : (afterL ns j k).length ≤ ns.length
  bd : ∀ x ∈ afterL ns j k, 0 ≤ x ∧ x ≤ max 99 (topC j k)
  top : topC j k ∈ afterL ns j k
  ord : (afterL ns j k).Pairwise (· ≤ ·)
theorem aft {ns : List Int} {j : Bool} {k : Int} (hb : ∀ n ∈ ns, 0 ≤ n ∧ n ≤ 99) (h0 : 0 ≤ k) (hh : hasL ns (goingL j k) = true) : Aft ns j k := by
  have pg := gone_perm hh
  have pa : (afterL ns j k).Perm (goneL ns (goingL j k) ++ comingL j k) := srt_perm _
  obtain ⟨c1, c2, c3⟩ := coming_wtM j h0
  obtain ⟨t1, t2⟩ := topC_ok j k h0
  have e1 := wtL_perm pg
  have e2 := wtL_perm pa
  have e3 := worthL_perm pg
  have e4 := worthL_perm pa
  have e5 := pg.length_eq
  have e6 := pa.length_eq
  rw [wtL_append] at e1 e2
  rw [worthL_app] at e3 e4
  rw [List.length_append] at e5 e6
  rw [going_len] at e5
  refine ⟨by omega, by omega, by omega, fun x hx => ?_, ?_, srt_ord _⟩
  · rcases List.mem_append.mp (pa.mem_iff.mp hx) with hx | hx
    · have := hb x (gone_sub hx)
      omega
    · have := t2 x hx
      have := coming_bd j h0 x hx
      omega
  · exact pa.mem_iff.mpr (List.mem_append_right _ t1)
section
variable {P : Program} {w : World} {K : PySem.W.Frag} {mg : Str → Option Value} {base : Heap} {f : Addr} {fd : FuncData} {ad : Rf → Addr}
def S_weight_at (ds : List D) (r : FR) : Prop := ∃ n : Int, ds = [.int n] ∧ r = .ret (.int (wt n))
theorem fn_weight_at (F : Fun K "weight_at" "weight_at" s_weight_at f fd) : Fn P w K mg base f 1 1 S_weight_at := by
  refine fn_def F sc_weight_at (F.binds fun _ _ _ _ _ _ us hl => match us, hl with | [_], _ => rfl) fun ds r hS hl X W O C => ?_
  obtain ⟨rfl, rfl, rfl, rfl, rfl⟩ := O
  obtain ⟨n, rfl, rfl⟩ := hS
  have C' := C.toCtx
  refine sw_if <| tw_lt <| nv 0 rfl C' <| ew_int ⟨_, _, rfl, rfl, fun h => ?_, fun h => sw_nil ?_⟩
  · have h := of_decide_eq_true h
    refine sw_ret <| ew_add <| ew_int <| ew_mul <| ew_int <| nv 0 rfl C' ⟨_, _, rfl, rfl, .inl ⟨by decide, by decide⟩, _, _, rfl, rfl, .inl ?_⟩
    rw [wt, if_pos h]
  · have h := of_decide_eq_false h
    refine sw_ret <| ew_add <| ew_mul <| ew_int <| nv 0 rfl C' ⟨_, _, rfl, rfl, .inl ⟨by decide, by decide⟩, ew_int ⟨_, _, rfl, rfl, .inl ?_⟩⟩
    rw [wt, if_neg h]
def S_weight (ad : Rf → Addr) (ds : List D) (r : FR) : Prop := ∃ x, ds = [x] ∧ x.wty = true ∧ ((isPileD x = false ∧ r = .exc (ad .np)) ∨ ∃ ns : List Int, x = tupI ns ∧ isPileD x = true ∧ r = .ret (.int (wtL ns)))
theorem fn_weight (F : Fun K "weight" "weight" s_weight f fd) (B : Bt mg) (F1 : Df P w K mg base "need_pile" 3 1 (S_need_pile (ad .np))) (F2 : Df P w K mg base "weight_at" 1 1 S_weight_at) : Fn P w K mg base f 4 1 (S_weight ad) := by
  refine fn_def F sc_weight (F.binds fun _ _ _ _ _ _ us hl => match us, hl with | [_], _ => rfl) fun ds r hS hl X W O C => ?_
  obtain ⟨rfl, rfl, rfl, rfl, rfl⟩ := O
  obtain ⟨x, rfl, hx, hS⟩ := hS
  have C' := C.toCtx
  refine sw_expr <| ew_df C' F1 <| aw_cons <| nv 0 rfl C' <| aw_nil ⟨rfl, _, ⟨_, rfl, hx, rfl⟩, ?_⟩
  rcases hS with ⟨h, rfl⟩ | ⟨ns, rfl, h, rfl⟩
  · rw [if_neg (by rw [h]; exact Bool.false_ne_true)]
    exact rfl
  · rw [if_pos h]
    obtain ⟨h1, h2, h3⟩ := isPile_tupI.mp h
    exact sw_ret <| ew_sum C' B.sum <| es_new <| en_lcM (α := Int) (own := [("place", 1)]) D.int (fun n => .int (wt n)) C' (TgB.name 1 rfl rfl (by simp)) (iw_tup <| nv 0 rfl C' ⟨_, rfl, ns, rfl, by omega, fun n hn => bi_plain rfl fun s H C0 cl fp Cb => ew_df Cb F2 <| aw_cons <| nv 1 rfl Cb <| aw_nil ⟨rfl, _, ⟨n, rfl, rfl⟩, rfl⟩, rfl, ns.map wt, by rw [List.map_map]; rfl, .inl rfl⟩) (blkOk_by (by decide +kernel))
end
end DL
namespace DL
open PySem PySem.Spec PyProof.Rows L2
/-! ### moves, plain -/
theorem mv_pure (m : Bool × Int) : (mvD m).pure = true := rfl
theorem mv_wty (m : Bool × Int) : (mvD m).wty = true := rfl
theorem mv_dep (m : Bool × Int) : (mvD m).dep ≤ 2 := by simp [mvD, D.dep, depAll]
theorem mvsAll_pure : ∀ l : List (Bool × Int), pureAll (l.map mvD) = true
  | [] => rfl
  | m :: l => by simp only [List.map_cons, pureAll, mv_pure, mvsAll_pure l, Bool.and_self]
theorem mvl_pure (l : List (Bool × Int)) : (D.lst (l.map mvD)).pure = true := by simp only [D.pure, mvsAll_pure]
theorem mvsAll_dep : ∀ l : List (Bool × Int), depAll (l.map mvD) ≤ 2
  | [] => by simp only [List.map_nil, depAll]; omega
  | m :: l => by
    simp only [List.map_cons, depAll]
    have := mv_dep m
    have := mvsAll_dep l
    omega
theorem mvl_dep (l : List (Bool × Int)) : (D.lst (l.map mvD)).dep ≤ 3 := by
  have := mvsAll_dep l
  simp only [D.dep]
  omega
theorem mv_moveD {m : Bool × Int} (h0 : 0 ≤ m.2) (h9 : m.2 ≤ 99) : moveD (mvD m) = some m := by
  obtain ⟨j, k⟩ := m
  cases j with
  | true => rw [mvD, moveD_tup, if_pos ⟨h0, h9⟩]; rfl
  | false => rw [mvD, moveD_tup, if_pos ⟨h0, h9⟩]; rfl
theorem has_join {ns : List Int} {k : Int} : hasL ns (goingL true k) = true ↔ k ∈ ns ∧ k + 1 ∈ ns := by
  have c1 : ([k, k + 1] : List Int).count k = 1 := by
    rw [List.count_cons_self, List.count_cons_of_ne (show k + 1 ≠ k by omega)]
    rfl
  have c2 : ([k, k + 1] : List Int).count (k + 1) = 1 := by
    rw [List.count_cons_of_ne (show k ≠ k + 1 by omega), List.count_cons_self]
    rfl
  show (([k, k + 1] : List Int).all fun one => decide (([k, k + 1] : List Int).count one ≤ ns.count one)) = true ↔ _
  simp only [List.all_cons, List.all_nil, Bool.and_true, Bool.and_eq_true, decide_eq_true_eq, c1, c2]
  rw [← List.count_pos_iff, ← List.count_pos_iff]
  exact Iff.rfl
theorem has_part {ns : List Int} {k : Int} : hasL ns (goingL false k) = true ↔ 1 < ns.count k := by
  have c1 : ([k, k] : List Int).count k = 2 := by
    rw [List.count_cons_self, List.count_cons_self]
    rfl
  show (([k, k] : List Int).all fun one => decide (([k, k] : List Int).count one ≤ ns.count one)) = true ↔ _
  simp only [List.all_cons, List.all_nil, Bool.and_true, Bool.and_self, decide_eq_true_eq, c1]
  omega
theorem mem_moves {ns : List Int} {m : Bool × Int} (hb : ∀ n ∈ ns, 0 ≤ n ∧ n ≤ 99) : m ∈ movesL ns ↔ 0 ≤ m.2 ∧ m.2 ≤ 99 ∧ hasL ns (goingL m.1 m.2) = true := by
  obtain ⟨j, k⟩ := m
  unfold movesL
  rw [List.mem_append, List.mem_map, List.mem_map]
  cases j with
  | true =>
    rw [has_join]
    constructor
    · rintro (⟨x, hx, e⟩ | ⟨x, hx, e⟩)
      · cases e
        obtain ⟨h1, h2⟩ := List.mem_filter.mp hx
        rw [joinB, Bool.and_eq_true, decide_eq_true_eq, decide_eq_true_eq] at h2
        have := mem_upto.mp h1
        exact ⟨by show 0 ≤ k; omega, by show k ≤ 99; omega, h2⟩
      · cases e
    · rintro ⟨h0, h9, h1, h2⟩
      refine .inl ⟨k, List.mem_filter.mpr ⟨mem_upto.mpr ⟨h0, ?_⟩, ?_⟩, rfl⟩
      · have := hb _ h2
        omega
      · rw [joinB, Bool.and_eq_true, decide_eq_true_eq, decide_eq_true_eq]
        exact ⟨h1, h2⟩
  | false =>
    rw [has_part]
    constructor
    · rintro (⟨x, hx, e⟩ | ⟨x, hx, e⟩)
      · cases e
      · cases e
        obtain ⟨h1, h2⟩ := List.mem_filter.mp hx
        have h2 := of_decide_eq_true h2
        have := mem_upto.mp h1
        exact ⟨by show 0 ≤ k; omega, by show k ≤ 99; omega, by show 1 < ns.count k; omega⟩
    · rintro ⟨h0, h9, h1⟩
      refine .inr ⟨k, List.mem_filter.mpr ⟨mem_upto.mpr ⟨h0, by have : k ≤ 99 := h9; omega⟩, decide_eq_true (by have : 1 < ns.count k := h1; omega)⟩, rfl⟩
theorem moves_nil {ns : List Int} (h : isPileD (tupI ns) = true) (he : movesL ns = []) : Up ns := by
  obtain ⟨h1, h2, h3⟩ := isPile_tupI.mp h
  have no : ∀ m : Bool × Int, 0 ≤ m.2 → m.2 ≤ 99 → ¬ hasL ns (goingL m.1 m.2) = true := fun m a b c => by
    have := (mem_moves h2).mpr ⟨a, b, c⟩
    rw [he] at this
    cases this
  refine ⟨?_, h2⟩
  have key : ∀ l : List Int, l.Sublist ns → l.Pairwise (· ≤ ·) → l.Pairwise (fun a b => a + 2 ≤ b) := by
    intro l
    induction l with
    | nil => intro _ _; exact .nil
    | cons x xs ih =>
      intro hs hp
      obtain ⟨p1, p2⟩ := List.pairwise_cons.mp hp
      have hs' : xs.Sublist ns := (List.sublist_cons_self x xs).trans hs
      refine List.pairwise_cons.mpr ⟨fun b hb => ?_, ih hs' p2⟩
      have le := p1 b hb
      have hx := hs.subset List.mem_cons_self
      have hb' := hs'.subset hb
      have bx := h2 x hx
      by_cases e1 : b = x
      · exfalso
        subst e1
        refine no (false, b) bx.1 bx.2 (has_part.mpr ?_)
        show 1 < ns.count b
        have := hs.count_le b
        rw [List.count_cons_self] at this
        have := List.count_pos_iff.mpr hb
        omega
      · by_cases e2 : b = x + 1
        · exfalso
          subst e2
          exact no (true, x) bx.1 bx.2 (has_join.mpr ⟨hx, hb'⟩)
        · omega
  exact (key ns (List.Sublist.refl _) h3).imp fun h => by omega
theorem up_nil {ns : List Int} (h : Up ns) : movesL ns = [] := by
  cases e : movesL ns with
  | nil => rfl
  | cons m ms =>
    exfalso
    have hm : m ∈ movesL ns := by rw [e]; exact List.mem_cons_self
    obtain ⟨h0, h9, hh⟩ := (mem_moves h.2).mp hm
    obtain ⟨j, k⟩ := m
    have nd : ns.Nodup := h.1.imp fun h => by omega
    cases j with
    | false =>
      have hh : 1 < ns.count k := has_part.mp hh
      have := List.nodup_iff_count.mp nd k
      omega
    | true =>
      obtain ⟨a, b⟩ := has_join.mp hh
      have a : k ∈ ns := a
      have b : k + 1 ∈ ns := b
      obtain ⟨i, hi⟩ := List.mem_iff_getElem.mp a
      obtain ⟨i', hi'⟩ := List.mem_iff_getElem.mp b
      obtain ⟨hi, e1⟩ := hi
      obtain ⟨hi', e2⟩ := hi'
      rcases Nat.lt_trichotomy i i' with z | z | z
      · have := List.pairwise_iff_getElem.mp h.1 i i' hi hi' z
        omega
      · subst z
        omega
      · have := List.pairwise_iff_getElem.mp h.1 i' i hi' hi z
        omega
/-- the pile behind a move that may be made -/
theorem aft_pile {ns : List Int} {m : Bool × Int} (h : isPileD (tupI ns) = true) (hm : m ∈ movesL ns) (ht : ¬ 99 < topC m.1 m.2) : isPileD (tupI (afterL ns m.1 m.2)) = true := by
  obtain ⟨h1, h2, h3⟩ := isPile_tupI.mp h
  obtain ⟨h0, h9, hh⟩ := (mem_moves h2).mp hm
  have a := aft h2 h0 hh
  refine isPile_tupI.mpr ⟨Nat.le_trans a.len h1, fun x hx => ?_, a.ord⟩
  have := a.bd x hx
  omega
theorem wt_pos3 (n : Int) (h : 0 ≤ n) : 3 ≤ wt n := by
  unfold wt
  split <;> omega
theorem wtL_pos {ns : List Int} (h : ∀ n ∈ ns, 0 ≤ n) : 0 ≤ wtL ns := by
  induction ns with
  | nil => exact Int.le_refl _
  | cons a l ih =>
    have := wt_pos3 a (h a List.mem_cons_self)
    have := ih fun n hn => h n (List.mem_cons_of_mem _ hn)
    show 0 ≤ wt a + wtL l
    omega
theorem wt_top (n : Int) (h : n ≤ 99) : wt n ≤ 200 := by
  unfold wt
  split <;> omega
theorem wtL_top {ns : List Int} (h : ∀ n ∈ ns, n ≤ 99) : wtL ns ≤ 200 * (ns.length : Int) := by
  induction ns with
  | nil => exact Int.le_refl _
  | cons a l ih =>
    have := wt_top a (h a List.mem_cons_self)
    have := ih fun n hn => h n (List.mem_cons_of_mem _ hn)
    show wt a + wtL l ≤ _
    rw [List.length_cons]
    omega
theorem pile_wt {ns : List Int} (h : isPileD (tupI ns) = true) : 0 ≤ wtL ns ∧ wtL ns ≤ 48000 := by
  obtain ⟨h1, h2, h3⟩ := isPile_tupI.mp h
  have := wtL_pos fun n hn => (h2 n hn).1
  have := wtL_top fun n hn => (h2 n hn).2
  omega
/-! ### gone on, plain -/
/-- by the choice ch from the n-th time on: the paper and the row, none where it grows too great -/
inductive Gone (ch : Nat → List Int → Nat) : Nat → List Int → Option (List (Bool × Int) × List Int) → Prop where
  | stop {n : Nat} {pl : List Int} : movesL pl = [] → Gone ch n pl (some ([], pl))
  | great {n : Nat} {pl : List Int} {m : Bool × Int} : (movesL pl)[ch n pl]? = some m → 99 < topC m.1 m.2 → Gone ch n pl none
  | step {n : Nat} {pl : List Int} {m : Bool × Int} {o : Option (List (Bool × Int) × List Int)} : (movesL pl)[ch n pl]? = some m → ¬ 99 < topC m.1 m.2 → Gone ch (n + 1) (afterL pl m.1 m.2) o → Gone ch n pl (o.map fun x => (m :: x.1, x.2))
/-- a choice among the moves -/
def Ch (ch : Nat → List Int → Nat) : Prop := ∀ n pl, movesL pl ≠ [] → ch n pl < (movesL pl).length
theorem Ch.at_ {ch : Nat → List Int → Nat} (c : Ch ch) {n : Nat} {pl : List Int} (h : movesL pl ≠ []) : ∃ m, (movesL pl)[ch n pl]? = some m ∧ m ∈ movesL pl := ⟨_, List.getElem?_eq_getElem (c n pl h), List.getElem_mem _⟩
theorem gone_ex {ch : Nat → List Int → Nat} (c : Ch ch) : ∀ (k n : Nat) (pl : List Int), isPileD (tupI pl) = true → wtL pl < k → ∃ o, Gone ch n pl o := by
  intro k
  induction k with
  | zero =>
    intro n pl h hk
    have := (pile_wt h).1
    omega
  | succ k ih =>
    intro n pl h hk
    by_cases hm : movesL pl = []
    · exact ⟨_, .stop hm⟩
    · obtain ⟨m, e, mem⟩ := c.at_ (n := n) hm
      by_cases ht : 99 < topC m.1 m.2
      · exact ⟨_, .great e ht⟩
      · obtain ⟨_, h2, _⟩ := isPile_tupI.mp h
        obtain ⟨h0, h9, hh⟩ := (mem_moves h2).mp mem
        have a := aft h2 h0 hh
        obtain ⟨o, ho⟩ := ih (n + 1) _ (aft_pile h mem ht) (by have := a.wt; omega)
        exact ⟨_, .step e ht ho⟩
theorem gone_any {ch : Nat → List Int → Nat} (c : Ch ch) (n : Nat) {pl : List Int} (h : isPileD (tupI pl) = true) : ∃ o, Gone ch n pl o := gone_ex c ((wtL pl).toNat + 1) n pl h (by have := (pile_wt h).1; omega)
structure GoneOk (pl : List Int) (ms : List (Bool × Int)) (e : List Int) : Prop where
  nil : movesL e = []
  pile : isPileD (tupI e) = true
  worth : worthL e = worthL pl
  len : (ms.length : Int) + wtL e ≤ wtL pl
theorem fw_mono2 : fw 98 + fw 99 = fw 100 := by decide +kernel
theorem worth_ge {ns : List Int} (hb : ∀ n ∈ ns, 0 ≤ n) {g : List Int} (h : hasL ns g = true) : worthL g ≤ worthL ns := by
  have p := gone_perm h
  rw [worthL_perm p, worthL_app]
  have : 0 ≤ worthL (goneL ns g) := by
    unfold worthL
    have key : ∀ l : List Int, 0 ≤ (l.map fun p => fw p.toNat).sum := by
      intro l
      induction l with
      | nil => exact Int.le_refl _
      | cons a l ih =>
        rw [List.map_cons, List.sum_cons]
        have := fw_pos a.toNat
        omega
    exact key _
  omega
theorem great_worth {pl : List Int} {m : Bool × Int} (h : isPileD (tupI pl) = true) (hm : m ∈ movesL pl) (ht : 99 < topC m.1 m.2) : fw 100 ≤ worthL pl := by
  obtain ⟨h1, h2, h3⟩ := isPile_tupI.mp h
  obtain ⟨h0, h9, hh⟩ := (mem_moves h2).mp hm
  have le := worth_ge (fun n hn => (h2 n hn).1) hh
  obtain ⟨j, k⟩ := m
  have f := fw_mono2
  cases j with
  | true =>
    have ht : 99 < k + 2 := ht
    obtain ⟨a, b⟩ := has_join.mp hh
    have := (h2 _ b).2
    have e : k = 98 := by have : k + 1 ≤ 99 := this; omega
    subst e
    have le : fw 98 + (fw 99 + 0) ≤ worthL pl := le
    omega
  | false =>
    have ht : 99 < k + 1 := ht
    have h9 : k ≤ 99 := h9
    have e : k = 99 := by omega
    subst e
    have le : fw 99 + (fw 99 + 0) ≤ worthL pl := le
    have : fw 98 ≤ fw 99 := by decide +kernel
    omega
theorem gone_ok {ch : Nat → List Int → Nat} {n : Nat} {pl : List Int} {o : Option (List (Bool × Int) × List Int)} (g : Gone ch n pl o) : isPileD (tupI pl) = true → (∀ x, o = some x → GoneOk pl x.1 x.2) ∧ (o = none → fw 100 ≤ worthL pl) := by
  induction g with
  | stop hm =>
    intro h
    refine ⟨fun x e => ?_, (fun z => nomatch z)⟩
    cases e
    exact ⟨hm, h, rfl, by simp⟩
  | great e ht =>
    intro h
    exact ⟨(fun x z => nomatch z), fun _ => great_worth h (List.mem_of_getElem? e) ht⟩
  | @step n pl m o e ht g ih =>
    intro h
    have mem := List.mem_of_getElem? e
    obtain ⟨_, h2, _⟩ := isPile_tupI.mp h
    obtain ⟨h0, h9, hh⟩ := (mem_moves h2).mp mem
    have a := aft h2 h0 hh
    obtain ⟨i1, i2⟩ := ih (aft_pile h mem ht)
    cases o with
    | none => exact ⟨(fun x z => nomatch z), fun _ => by rw [← a.worth]; exact i2 rfl⟩
    | some y =>
      refine ⟨fun x e => ?_, (fun z => nomatch z)⟩
      cases e
      obtain ⟨j1, j2, j3, j4⟩ := i1 y rfl
      refine ⟨j1, j2, by rw [j3, a.worth], ?_⟩
      have := a.wt
      rw [List.length_cons]
      show (y.1.length + 1 : Nat) + wtL y.2 ≤ wtL pl
      omega
theorem gone_row {ch : Nat → List Int → Nat} {n : Nat} {pl : List Int} {o : Option (List (Bool × Int) × List Int)} (g : Gone ch n pl o) (h : isPileD (tupI pl) = true) : (∃ ms, o = some (ms, rowL (worthL pl)) ∧ worthL pl < fw 100 ∧ GoneOk pl ms (rowL (worthL pl))) ∨ (o = none ∧ ¬ worthL pl < fw 100) := by
  obtain ⟨h1, h2⟩ := gone_ok g h
  cases o with
  | none => exact .inr ⟨rfl, by have := h2 rfl; omega⟩
  | some x =>
    have k := h1 x rfl
    have u := moves_nil k.pile k.nil
    have e := rowL_uniq u
    have lt := up_worth_lt u
    rw [k.worth] at e lt
    exact .inl ⟨x.1, by rw [← e], lt, by rw [← e]; exact k⟩
/-! ### what picks -/
/-- the pile behind the n-th choice -/
def stepL (ch : Nat → List Int → Nat) (n : Nat) (pl : List Int) : List Int := match (movesL pl)[ch n pl]? with
  | some m => afterL pl m.1 m.2
  | none => pl
theorem stepL_some {ch : Nat → List Int → Nat} {n : Nat} {pl : List Int} {m : Bool × Int} (h : (movesL pl)[ch n pl]? = some m) : stepL ch n pl = afterL pl m.1 m.2 := by rw [stepL, h]
/-- a function at f that picks by ch; it stands on own lists at as, which hold cont -/
structure Pik (P : Program) (w : World) (K : PySem.W.Frag) (mg : Str → Option Value) (base : Heap) (k : Nat) (f : Addr) (φ : Hp → Prop) (as : List Addr) (cont : Nat → List Int → List (List D)) (ch : Nat → List Int → Nat) (T : Int) : Prop where
  fn : ∀ (H : Hp) (h : Heap), K.In h → HOk P w H h → φ H → PySem.W.FnAt f h
  len : ∀ n pl, (cont n pl).length = as.length
  cho : Ch ch
  run : ∀ (A : Around) (outer : List Env) (s : Shared) (H : Hp) (Q : VK) (E : XK) (n : Nat) (pl : List Int) (p : Addr) (xs : List V) (Hb : Hp), Room k A → Env0 P w K mg base A outer s H → Same Hb H → φ H → (∀ H', Same Hb H' → φ H') → Hb p = none → H p = some (.lst xs) → AtAll K Hb xs ((movesL pl).map mvD) → p ∉ as → Gh K Hb H (as.zip (cont n pl)) → isPileD (tupI pl) = true → movesL pl ≠ [] → (n : Int) + wtL pl ≤ T →
    (∀ Hb' H', Back ⟨remL H (p :: as), Hb⟩ Hb' H' → Gh K Hb' H' (as.zip (cont (n + 1) (stepL ch n pl))) → Q (.int (ch n pl : Nat)) H') → codeAny (model P w) A (.call (.ref f) ⟨[.ref p], []⟩) (CR (L2.CX P w) outer P w H s Q E) s
/-- the same; it leaves the list that it is handed as it was -/
structure PikS (P : Program) (w : World) (K : PySem.W.Frag) (mg : Str → Option Value) (base : Heap) (k : Nat) (f : Addr) (φ : Hp → Prop) (as : List Addr) (cont : Nat → List Int → List (List D)) (ch : Nat → List Int → Nat) (T : Int) : Prop where
  fn : ∀ (H : Hp) (h : Heap), K.In h → HOk P w H h → φ H → PySem.W.FnAt f h
  len : ∀ n pl, (cont n pl).length = as.length
  cho : Ch ch
  run : ∀ (A : Around) (outer : List Env) (s : Shared) (H : Hp) (Q : VK) (E : XK) (n : Nat) (pl : List Int) (p : Addr) (xs : List V) (Hb : Hp), Room k A → Env0 P w K mg base A outer s H → Same Hb H → φ H → (∀ H', Same Hb H' → φ H') → Hb p = none → H p = some (.lst xs) → AtAll K Hb xs ((movesL pl).map mvD) → p ∉ as → Gh K Hb H (as.zip (cont n pl)) → isPileD (tupI pl) = true → movesL pl ≠ [] → (n : Int) + wtL pl ≤ T →
    (∀ Hb' H', Back ⟨remL H (p :: as), Hb⟩ Hb' H' → Gh K Hb' H' ((p, (movesL pl).map mvD) :: as.zip (cont (n + 1) (stepL ch n pl))) → Q (.int (ch n pl : Nat)) H') → codeAny (model P w) A (.call (.ref f) ⟨[.ref p], []⟩) (CR (L2.CX P w) outer P w H s Q E) s
theorem Gh.tail {K : PySem.W.Frag} {Hb H : Hp} {g : Addr × List D} {gs : GS} (G : Gh K Hb H (g :: gs)) : Gh K Hb H gs := ⟨(List.nodup_cons.mp G.nd).2, fun x hx => G.at_ x (List.mem_cons_of_mem _ hx)⟩
theorem PikS.pik {P : Program} {w : World} {K : PySem.W.Frag} {mg : Str → Option Value} {base : Heap} {k : Nat} {f : Addr} {φ : Hp → Prop} {as : List Addr} {cont : Nat → List Int → List (List D)} {ch : Nat → List Int → Nat} {T : Int} (p : PikS P w K mg base k f φ as cont ch T) : Pik P w K mg base k f φ as cont ch T :=
  ⟨p.fn, p.len, p.cho, fun A outer s H Q E n pl q xs Hb h1 h2 h3 h4 h5 h6 h7 h8 h9 h10 h11 h12 h13 fk => p.run A outer s H Q E n pl q xs Hb h1 h2 h3 h4 h5 h6 h7 h8 h9 h10 h11 h12 h13 fun Hb' H' B G => fk Hb' H' B G.tail⟩
theorem gsa_zip {as : List Addr} {c : List (List D)} (h : c.length = as.length) : gsa (as.zip c) = as := by
  unfold gsa
  rw [List.map_fst_zip (by omega)]
theorem gsv_zip {as : List Addr} {c : List (List D)} (h : c.length = as.length) : gsv (as.zip c) = as.map fun a => some (V.ref a) := by
  have : gsv (as.zip c) = (gsa (as.zip c)).map fun a => some (V.ref a) := by unfold gsv gsa; rw [List.map_map]; rfl
  rw [this, gsa_zip h]
section
variable {X : Cx} {W : WX} {ρ : List Sl} {Z : DZ} {N : List Str} {sc : Scope} {k j : Nat} {a b e : Expr} {pos p px : Pos} {Φ : D → Prop} {f : Addr} {φ : Hp → Prop} {as : List Addr} {cont : Nat → List Int → List (List D)} {ch : Nat → List Int → Nat} {T : Int} {x : Str}
/-- a call of it, with a list that is new -/
theorem kw_pik (C : Ctx X W N sc k) (pk : Pik X.prog X.w X.K X.mg X.base j f φ as cont ch T) {n : Nat} {pl : List Int} {i : Nat} (hρ : (ρ ++ gsl (as.zip (cont n pl)))[i]? = some (Sl.dat (.clo f φ))) (hp : isPileD (tupI pl) = true) (hm : movesL pl ≠ []) (hT : (n : Int) + wtL pl ≤ T)
    (h : EN X W (ρ ++ gsl (as.zip (cont n pl))) e (fun ds => ds = (movesL pl).map mvD) NoZ) (hΦ : Φ (.int (ch n pl : Nat))) (hj : j ≤ k := by omega) (hN : N[i]? = some x := by rfl) (hv : Vis sc x := by first | exact .inl rfl | exact .inr (.inl rfl) | exact .inr (.inr rfl)) (hd : (x == ("__debug__" : Str)) = false := by decide) (hcd : (x == ("__classdict__" : Str)) = false := by decide)
    (he : starEach [e] X.env = (false, eval e X.env) :: starEach [] X.env := by exact star_nst rfl) : KW X W (ρ ++ gsl (as.zip (cont n pl))) (ρ ++ gsl (as.zip (cont (n + 1) (stepL ch n pl)))) (.Call (.Name x px) [e] [] pos) Φ Z := fun H0 σ Hb H R z => by
  obtain ⟨v, ev, av⟩ := R.dat i _ hρ
  cases av with
  | clo hφ0 =>
  have hφ : ∀ H', Same Hb H' → φ H' := fun H' s => hφ0 H' (LamX.ExtN.of s)
  have l1 := pk.len n pl
  have l2 := pk.len (n + 1) (stepL ch n pl)
  refine ⟨fun pins s I => ?_⟩
  refine wpAny_Call_Name_kw (thn ((pe_var (pos := px) (C.at hN) (C.vis hv) hd hcd).run pins s σ H (fun v H1 => v = .ref f ∧ H1 = H) I ⟨.ref f, ev, rfl, rfl⟩) fun u s1 ⟨v, H1, I1, r1, q1⟩ => ?_)
  obtain ⟨rfl, rfl⟩ := q1
  cases r1
  have hw : WA X [e] σ H1 (fun vs H2 => ∃ p xs Hb2, vs = [.ref p] ∧ Rel X.K H0 (ρ ++ gsl (as.zip (cont n pl))) σ Hb2 H2 ∧ Gr Hb H1 Hb2 H2 ∧ Hb2 p = none ∧ H2 p = some (.lst xs) ∧ AtAll X.K Hb2 xs ((movesL pl).map mvD) ∧ H0.h p = none ∧ ∀ (j : Nat) (q : Option Addr) (es : List D), (ρ ++ gsl (as.zip (cont n pl)))[j]? = some (Sl.ow q es) → σ[j]? ≠ some (some (V.ref p))) :=
    WA.of (pa_one he) (h.run R rz_no fun ds p xs Hb2 H2 f2 R2 g2 n2 q2 A2 h02 fr2 _ => by
      subst f2
      exact ⟨p, xs, Hb2, rfl, R2, g2, n2, q2, A2, h02, fr2⟩)
  refine PySem.W.callWith_F (first := []) (pk.fn H1 _ I1.kIn I1.hok (hφ H1 R.b1)) (thn (hw.go pos pins s1 I1) fun us s2 ⟨vs, H2, I2, r, q⟩ => ?_) he rfl
  obtain ⟨pl0, xs, Hb2, rfl, R2, g2, n2, q2, A2, h02, fr2⟩ := q
  have φ2 : ∀ H', Same Hb2 H' → φ H' := fun H' s => hφ H' (L2.Same.trans g2.b s)
  refine ⟨pk.fn H2 _ I2.kIn I2.hok (φ2 H2 R2.b1), ?_⟩
  obtain ⟨u, rfl, rx⟩ := vals1 r
  cases rx
  obtain ⟨σ0, rfl, hl0⟩ := R2.sig
  obtain ⟨R3, G3, F3⟩ := R2.unghost
  have np : pl0 ∉ as := fun hm => by
    have hm : pl0 ∈ gsa (as.zip (cont n pl)) := by rw [gsa_zip l1]; exact hm
    obtain ⟨g, hg, e0⟩ := List.mem_map.mp hm
    obtain ⟨jx, hj⟩ := List.mem_iff_getElem?.mp hg
    refine fr2 (ρ.length + jx) (some g.1) g.2 ?_ ?_
    · rw [List.getElem?_append_right (by omega), Nat.add_sub_cancel_left, gsl, List.getElem?_map, hj]
      rfl
    · rw [List.getElem?_append_right (by omega), show ρ.length + jx - σ0.length = jx by omega, gsv_get hj, e0]
  have rl : ∀ {i : Nat} {u : Sl}, ρ[i]? = some u → (ρ ++ gsl (as.zip (cont n pl)))[i]? = some u ∧ (σ0 ++ gsv (as.zip (cont n pl)))[i]? = σ0[i]? := fun {i u} hh => by
    have := (List.getElem?_eq_some_iff.mp hh).1
    exact ⟨by rw [List.getElem?_append_left this]; exact hh, List.getElem?_append_left (by omega)⟩
  have asz : ∀ a ∈ as, ∃ g ∈ as.zip (cont n pl), g.1 = a := fun a ha => by
    have ha : a ∈ gsa (as.zip (cont n pl)) := by rw [gsa_zip l1]; exact ha
    obtain ⟨g, hg, e0⟩ := List.mem_map.mp ha
    exact ⟨g, hg, e0⟩
  refine wpAny_call (codeAny_mono (pk.run X.A X.stack s2 H2 (PostK X.K H0 (ρ ++ gsl (as.zip (cont (n + 1) (stepL ch n pl)))) (σ0 ++ gsv (as.zip (cont n pl))) Hb Φ) (fun _ _ _ => False) n pl pl0 xs Hb2 (C.room.mono hj) I2.env0 R3.b1 (φ2 H2 R2.b1) φ2 n2 q2 A2 np G3 hp hm hT fun Hb' H' B G' => ?_) fun r s' hq => ?_)
  · have R4 : Rel X.K H0 ρ σ0 Hb' H' := R3.calledL B (fun a ha => ?_) (fun a ha => ?_) (fun jx q es hh a ha => ?_) fun jx P q hh hP => ?_
    · refine ⟨.int (ch n pl : Nat), Hb', hΦ, ?_, L2.Same.trans g2.b B.b, .int _⟩
      have R5 := R4.ghost G' (fun g hg => ?_)
      · rw [show gsv (as.zip (cont n pl)) = gsv (as.zip (cont (n + 1) (stepL ch n pl))) by rw [gsv_zip l1, gsv_zip l2]]
        exact R5
      · have hm : g.1 ∈ as := by rw [← gsa_zip l2]; exact List.mem_map.mpr ⟨g, hg, rfl⟩
        obtain ⟨g0, hg0, e0⟩ := asz _ hm
        rw [← e0]
        exact F3 g0 hg0
    · rcases List.mem_cons.mp ha with rfl | ha
      · exact h02
      · obtain ⟨g0, hg0, e0⟩ := asz _ ha
        rw [← e0]
        exact (F3 g0 hg0).1
    · rcases List.mem_cons.mp ha with rfl | ha
      · exact ⟨_, q2, codeO_lst⟩
      · obtain ⟨g0, hg0, e0⟩ := asz _ ha
        obtain ⟨_, ys, e1, _⟩ := G3.at_ g0 hg0
        rw [← e0]
        exact ⟨_, e1, codeO_lst⟩
    · rcases List.mem_cons.mp ha with rfl | ha
      · have := fr2 jx q es (rl hh).1
        rw [(rl hh).2] at this
        exact this
      · obtain ⟨g0, hg0, e0⟩ := asz _ ha
        rw [← e0]
        exact (F3 g0 hg0).2 jx q es hh
    · obtain ⟨⟨ps, e1, _⟩, _⟩ := R3.tb jx P q hh
      rcases List.mem_cons.mp hP with rfl | hP
      · rw [q2] at e1
        cases e1
      · obtain ⟨g0, hg0, e0⟩ := asz _ hP
        obtain ⟨_, ys, e2, _⟩ := G3.at_ g0 hg0
        rw [e0, e1] at e2
        cases e2
  · cases r with
    | error e => obtain ⟨_, _, _, _, _, _, _, _, _, _, _, _, z⟩ := hq; exact z.elim
    | ok fl =>
      cases fl with
      | ret u => exact I2.after hq
      | next => exact hq.elim
      | brk => exact hq.elim
      | cont => exact hq.elim
/-- y[e], y a name that holds a list -/
theorem kw_ixL (C : Ctx X W N sc k) {ρ' : List Sl} {i : Nat} {ds : List D} (hρ : ρ[i]? = some (Sl.dat (.lst ds))) (h : KW X W ρ ρ' b (fun y => ∃ n d, y = .int n ∧ atI ds n = some d ∧ Φ d) Z) (hN : N[i]? = some x := by rfl) (hv : Vis sc x := by first | exact .inl rfl | exact .inr (.inl rfl) | exact .inr (.inr rfl)) (hd : (x == ("__debug__" : Str)) = false := by decide) (hcd : (x == ("__classdict__" : Str)) = false := by decide) (hs : PlainIx b := by exact fun _ _ => rfl) : KW X W ρ ρ' (.Subscript (.Name x px) b pos) Φ Z := fun H0 σ Hb H R z => by
  obtain ⟨v, ev, av⟩ := R.dat i _ hρ
  cases av with
  | @lst p xs _ q A =>
    refine WE.of (pe_ix ix_seq (pe_var (C.at hN) (C.vis hv) hd hcd) pe_w hs) ⟨.ref p, ev, (h H0 σ Hb H R z).mono fun u H2 ⟨y, Hb2, ⟨n, d, e0, e1, f⟩, R2, s2, a2⟩ => ?_⟩
    subst e0
    cases a2
    obtain ⟨v, e2, av⟩ := A.atI e1
    exact .inl ⟨p, xs, n, v, rfl, rfl, .inl (same_rd (L2.Same.trans s2 R2.b1) q), e2, ⟨d, Hb2, f, R2, s2, av.mono s2⟩⟩
end
end DL
namespace DL
open PySem PySem.Spec PyProof.Rows L2
/-! ### defs of the module that pick -/
theorem fun_look {K : PySem.W.Frag} {x qual : Str} {st : Stmt} {f : Addr} {fd : FuncData} (F : Fun K x qual st f fd) : ∃ oc od fd sl, K.lookup f = some ⟨oc, od, .func fd, sl⟩ := by
  obtain ⟨oc, od, kV, doc, pm, an, cdv, ct, osl, rfl, lk, hcd⟩ := F.ex
  exact ⟨oc, od, _, osl, lk⟩
/-- a def that is handed on as a function -/
abbrev Dpk (P : Program) (w : World) (K : PySem.W.Frag) (mg : Str → Option Value) (base : Heap) (x : Str) (k : Nat) (S : List D → FR → Prop) : Prop := ∃ f, mg x = some (.ref f) ∧ (∃ oc od fd sl, K.lookup f = some ⟨oc, od, .func fd, sl⟩) ∧ Fn P w K mg base f k 1 S
section
variable {P : Program} {w : World} {K : PySem.W.Frag} {mg : Str → Option Value} {base : Heap}
theorem pik_fn {g : Addr} {k : Nat} {S : List D → FR → Prop} {ch : Nat → List Int → Nat} {T : Int} (lk : ∃ oc od fd sl, K.lookup g = some ⟨oc, od, .func fd, sl⟩) (F : Fn P w K mg base g k 1 S) (c : Ch ch) (hS : ∀ n pl, movesL pl ≠ [] → S [.lst ((movesL pl).map mvD)] (.ret (.int (ch n pl : Nat)))) : Pik P w K mg base k g (fun _ => True) [] (fun _ _ => []) ch T := by
  obtain ⟨oc, od, fd0, sl, lk⟩ := lk
  refine ⟨fun H h X _ _ => ⟨oc, od, fd0, sl, X _ _ lk⟩, fun _ _ => rfl, c, fun A outer s H Q E n pl p xs Hb hr e0 sm _ _ nb hp AA _ _ _ hm _ q => ?_⟩
  obtain ⟨fd, ps, sp, ds, dvs, h1, h2, h3, h4, h5⟩ := F.ex
  have kin : K.In s.heap := e0.mod.kin.keeps fun b o e => (e0.bs b o e).1
  have sb : Same Hb (upd Hb p (.lst xs)) := same_upd nb
  have hsp : sp ([V.ref p] ++ dvs) H Q E := h5 [.ref p] H Q E ⟨[.lst ((movesL pl).map mvD)], .ret (.int (ch n pl : Nat)), upd Hb p (.lst xs), rfl, fun b x e => by
    by_cases hb : b = p
    · subst hb
      rw [upd_same] at e
      cases e
      exact hp
    · rw [upd_ne hb] at e
      exact sm _ _ e, .cons (.lst (Rd.of upd_same) (AA.mono sb)) .nil, hS n pl hm, fun v Hb' H' B a => by
        cases a
        exact q Hb H' ⟨L2.Same.trans remL_same B.h, L2.Same.refl _, fun b x e => B.h b x (sm _ _ e), fun a n _ => n⟩ gh_nil⟩
  exact h1.run A outer s H ⟨[.ref p], []⟩ ([.ref p] ++ ds) ([.ref p] ++ dvs) Q E hr e0 (h3 s [.ref p] kin (by
    have := h1.len _ _ _ _ hsp
    rw [List.length_append] at this ⊢
    rw [← h4.length]
    exact this)) (Paired.cons (show RelV (.ref p) (Value.ref p) from rfl) h4) hsp
end
section
variable {X : Cx} {W : WX} {ρ : List Sl} {Z : DZ} {N : List Str} {sc : Scope} {k j n m : Nat} {e : Expr} {es : List Expr} {pos p px pc : Pos} {x : Str} {kk : Nat}
/-- what the caller has of a tuple of an own list and a datum -/
def FRp (K : PySem.W.Frag) (Φ : List D → D → Prop) (Z : DZ) : FR → Prop
  | .exc C => Z C
  | .gen Ψ => ∃ ds d, Ψ = PsiP K ds d ∧ Φ ds d
  | _ => False
theorem used_fr {H0 : Ent} {σ0 : L2.St} {gs : GS} {Hb H : Hp} (R : Rel X.K H0 (ρ ++ gsl gs) (σ0 ++ gsv gs) Hb H) : Rel X.K H0 (ρ ++ ems gs) (σ0 ++ gsv gs) Hb H ∧ Gh X.K Hb H gs ∧ Fr H0 (ρ ++ ems gs) (σ0 ++ gsv gs) gs := by
  obtain ⟨R2, G2, F2⟩ := R.unghost
  have hl := R2.len
  refine ⟨R2.emt (by unfold gsv; rw [List.length_map]), G2, fun g hg => ⟨(F2 g hg).1, fun j q es hq => ?_⟩⟩
  rcases app_get hq with ⟨hi, hq⟩ | ⟨hi, hq⟩
  · rw [List.getElem?_append_left (by omega)]
    exact (F2 g hg).2 j q es hq
  · unfold ems at hq
    rw [List.getElem?_map] at hq
    cases e : gs[j - ρ.length]? with
    | none => rw [e] at hq; cases hq
    | some g => rw [e] at hq; cases hq
/-- f(..)[1] -/
theorem kw_pair1 {S : List D → GS → FR → Prop} {gs : GS} {Φ : D → Prop} (C : Ctx X W N sc k) (F : Dg X.prog X.w X.K X.mg X.base x j (spC X.K n m S)) (hgs : gs.length = m) (h : AW X W (ρ ++ gsl gs) (e :: es) (fun ds => ds.length = n ∧ ∃ r, S ds gs r ∧ FRp X.K (fun _ d => Φ d) Z r) NoZ) (hj : j ≤ k := by omega) (hg : GlN sc x := by rfl) (hdb : (x == ("__debug__" : Str)) = false := by decide)
    (he : starEach (e :: es) X.env = (false, eval e X.env) :: starEach es X.env := by exact star_nst rfl) (hpl : (backTo p (starEach es X.env)).any (·.1) = false := by rfl) (hs : PlainIx (.Constant (.int 1) kk pc) := by exact fun _ _ => rfl) : KW X W (ρ ++ gsl gs) (ρ ++ ems gs) (.Subscript (.Call (.Name x px) (e :: es) [] p) (.Constant (.int 1) kk pc) pos) Φ Z := fun H0 σ Hb H R z => by
  obtain ⟨g, hm, F⟩ := F
  refine WE.of (pe_ix ix_seq (pe_fnG C F hj hg hm hdb he hpl) pe_int hs) (h.run R rz_no fun ds vs Hb1 H1 f1 R1 s1 A1 _ => ?_)
  obtain ⟨hl, r, hS, fr⟩ := f1
  obtain ⟨σ0, rfl, hl0⟩ := R1.sig
  obtain ⟨R2, G2, F2⟩ := used_fr R1
  refine ⟨ds, gs, r, Hb1, by rw [A1.length]; exact hl, hgs, R1.b1, A1, G2, hS, ?_⟩
  cases r with
  | ret d => exact fr.elim
  | new ds => exact fr.elim
  | exc A => exact fun H' s' => z A Hb1 H' fr (R2.used G2 F2 (back_exc R2 G2 s'))
  | gen Ψ =>
    obtain ⟨ds', d, rfl, hΦ⟩ := fr
    rintro v H' ⟨Hb', B, tp, pl, xs, u, rfl, st, h0p, nb, hp, A, a⟩
    exact .inr (.inl ⟨tp, [.ref pl, u], 1, u, rfl, rfl, st, rfl, d, Hb', hΦ, R2.used G2 F2 B, L2.Same.trans s1.b B.b, a⟩)
/-- f(..)[0] -/
theorem kn_pair0 {S : List D → GS → FR → Prop} {gs : GS} {Φ : List D → Prop} (C : Ctx X W N sc k) (F : Dg X.prog X.w X.K X.mg X.base x j (spC X.K n m S)) (hgs : gs.length = m) (h : AW X W (ρ ++ gsl gs) (e :: es) (fun ds => ds.length = n ∧ ∃ r, S ds gs r ∧ FRp X.K (fun ds _ => Φ ds) Z r) NoZ) (hj : j ≤ k := by omega) (hg : GlN sc x := by rfl) (hdb : (x == ("__debug__" : Str)) = false := by decide)
    (he : starEach (e :: es) X.env = (false, eval e X.env) :: starEach es X.env := by exact star_nst rfl) (hpl : (backTo p (starEach es X.env)).any (·.1) = false := by rfl) (hs : PlainIx (.Constant (.int 0) kk pc) := by exact fun _ _ => rfl) : KN X W (ρ ++ gsl gs) (ρ ++ ems gs) (.Subscript (.Call (.Name x px) (e :: es) [] p) (.Constant (.int 0) kk pc) pos) Φ Z := fun H0 σ Hb H R z => by
  obtain ⟨g, hm, F⟩ := F
  refine WE.of (pe_ix ix_seq (pe_fnG C F hj hg hm hdb he hpl) pe_int hs) (h.run R rz_no fun ds vs Hb1 H1 f1 R1 s1 A1 _ => ?_)
  obtain ⟨hl, r, hS, fr⟩ := f1
  obtain ⟨σ0, rfl, hl0⟩ := R1.sig
  obtain ⟨R2, G2, F2⟩ := used_fr R1
  refine ⟨ds, gs, r, Hb1, by rw [A1.length]; exact hl, hgs, R1.b1, A1, G2, hS, ?_⟩
  cases r with
  | ret d => exact fr.elim
  | new ds => exact fr.elim
  | exc A => exact fun H' s' => z A Hb1 H' fr (R2.used G2 F2 (back_exc R2 G2 s'))
  | gen Ψ =>
    obtain ⟨ds', d, rfl, hΦ⟩ := fr
    rintro v H' ⟨Hb', B, tp, pl, xs, u, rfl, st, h0p, nb, hp, A, a⟩
    have h0p : remL H1 (gsa gs) pl = none := h0p
    refine .inr (.inl ⟨tp, [.ref pl, u], 0, .ref pl, rfl, rfl, st, rfl, ds', Hb', pl, xs, rfl, hΦ, R2.used G2 F2 B, L2.Same.trans s1.b B.b, nb, hp, A, ?_, fun jx q es hq e0 => ?_⟩)
    · by_cases hq : pl ∈ gsa gs
      · obtain ⟨g, hg, rfl⟩ := List.mem_map.mp hq
        exact (F2 g hg).1
      · rw [remL_ne hq] at h0p
        exact R2.b0.free h0p
    · obtain ⟨a, ys, e2, n2, q2, _⟩ := R2.own jx q es hq
      rw [e0] at e2
      cases e2
      by_cases hq2 : pl ∈ gsa gs
      · obtain ⟨g, hg, rfl⟩ := List.mem_map.mp hq2
        exact (F2 g hg).2 jx q es hq e0
      · rw [remL_ne hq2, q2] at h0p
        cases h0p
end
section
variable {P : Program} {w : World} {K : PySem.W.Frag} {mg : Str → Option Value} {base : Heap} {f : Addr} {fd : FuncData} {ad : Rf → Addr} {m : Nat}
def S_first (ds : List D) (r : FR) : Prop := ∃ d, ds = [d] ∧ r = .ret (.int 0)
theorem fn_first (F : Fun K "first_of" "first_of" s_first_of f fd) : Fn P w K mg base f 1 1 S_first := by
  refine fn_def F sc_first_of (F.binds fun _ _ _ _ _ _ us hl => match us, hl with | [_], _ => rfl) fun ds r hS hl X W O C => ?_
  obtain ⟨rfl, rfl, rfl, rfl, rfl⟩ := O
  obtain ⟨d, rfl, rfl⟩ := hS
  exact sw_ret <| ew_int <| .inl rfl
def ch0 : Nat → List Int → Nat := fun _ _ => 0
theorem ch0_ok : Ch ch0 := fun n pl h => List.length_pos_iff.mpr h
def resR (ad : Rf → Addr) (K : PySem.W.Frag) : Option (List (Bool × Int) × List Int) → FR
  | none => .exc (ad .tg)
  | some x => .gen (PsiP K (x.1.map mvD) (tupI x.2))
/-- a pile, what picks (or None), the own lists it stands on, how it goes on -/
structure Pk (P : Program) (w : World) (K : PySem.W.Frag) (mg : Str → Option Value) (base : Heap) (ns : List Int) (d : D) (gs : GS) (o : Option (List (Bool × Int) × List Int)) : Prop where
  pile : isPileD (tupI ns) = true
  ex : (d = .non ∧ gs = [] ∧ Gone ch0 0 ns o) ∨ ∃ (f : Addr) (φ : Hp → Prop) (as : List Addr) (cont : Nat → List Int → List (List D)) (ch : Nat → List Int → Nat) (T : Int), d = .clo f φ ∧ gs = as.zip (cont 0 ns) ∧ Pik P w K mg base 5 f φ as cont ch T ∧ wtL ns ≤ T ∧ T ≤ 900000 ∧ Gone ch 0 ns o
theorem Pik.up {k j : Nat} {f : Addr} {φ : Hp → Prop} {as : List Addr} {cont : Nat → List Int → List (List D)} {ch : Nat → List Int → Nat} {T : Int} (p : Pik P w K mg base j f φ as cont ch T) (h : j ≤ k) : Pik P w K mg base k f φ as cont ch T := ⟨p.fn, p.len, p.cho, fun A outer s H Q E n pl q xs Hb hr => p.run A outer s H Q E n pl q xs Hb (hr.mono h)⟩
def S_gone (P : Program) (w : World) (K : PySem.W.Frag) (mg : Str → Option Value) (base : Heap) (ad : Rf → Addr) (ds : List D) (gs : GS) (r : FR) : Prop := (∃ x, ds = [x, .non] ∧ gs = [] ∧ x.wty = true ∧ isPileD x = false ∧ r = .exc (ad .np)) ∨ ∃ ns d o, ds = [tupI ns, d] ∧ Pk P w K mg base ns d gs o ∧ r = resR ad K o
theorem eqD_mvs_nil (l : List (Bool × Int)) : eqD (.lst (l.map mvD)) (.lst []) = decide (l = []) := by
  unfold eqD
  cases l with
  | nil => simp [D.py, pyAll, PyData.eqv, PyData.eqvAll]
  | cons a l => simp [D.py, pyAll, PyData.eqv, PyData.eqvAll]
theorem doneR_mv {ns : List Int} {m : Bool × Int} (h : isPileD (tupI ns) = true) (hm : m ∈ movesL ns) : doneR ad ns (mvD m) = if 99 < topC m.1 m.2 then .exc (ad .tg) else .ret (tupI (afterL ns m.1 m.2)) := by
  obtain ⟨_, h2, _⟩ := isPile_tupI.mp h
  obtain ⟨h0, h9, hh⟩ := (mem_moves h2).mp hm
  rw [doneR, mv_moveD h0 h9]
  show doneL ad ns m.1 m.2 = _
  rw [doneL, if_neg (by rw [hh]; decide)]
theorem fn_gone_on (F : Fun K "gone_on" "gone_on" s_gone_on f fd) (B : Bt mg) (F0 : Dpk P w K mg base "first_of" 1 S_first) (F1 : Df P w K mg base "moves_of" 4 1 (S_moves_of ad)) (F2 : Df P w K mg base "done" 4 2 (S_done ad)) (hm3 : m ≤ 3) : FnC P w K mg base f 6 2 m (S_gone P w K mg base ad) := by
  refine fn_defC F sc_gone_on (F.binds fun _ _ _ _ _ _ us hl => match us, hl with | [_, _], _ => rfl) hm3 (by decide +kernel) fun ds gs r hS hl hgs X W O C => ?_
  obtain ⟨rfl, rfl, rfl, rfl, rfl⟩ := O
  have C' := C.toCtx
  obtain ⟨f0, m0, l0, G0⟩ := F0
  -- behind the choice
  have go : ∀ (ns : List Int) (d : D) (f : Addr) (φ : Hp → Prop) (as : List Addr) (cont : Nat → List Int → List (List D)) (ch : Nat → List Int → Nat) (T : Int) (o : Option (List (Bool × Int) × List Int)), isPileD (tupI ns) = true → Pik X.prog X.w X.K X.mg X.base 5 f φ as cont ch T → wtL ns ≤ T → T ≤ 900000 → Gone ch 0 ns o →
      SW X W ([.dat (tupI ns), .dat d, .dat (.clo f φ), .em, .em, .em] ++ gsl (as.zip (cont 0 ns))) (defBody s_gone_on |>.drop 1) (endF (resR ad X.K o)) := by
    intro ns d f φ as cont ch T o hp pk hT hT9 hG
    refine sw_setN C (i := 3) <| en_lst <| aw_nil ⟨szl rfl, ?_⟩
    refine sw_setN C (i := 4) <| en_df C' F1 <| aw_cons <| nv 0 rfl C' <| aw_nil ⟨rfl, _, ⟨_, rfl, wty_tupI _, .inr ⟨_, rfl, hp, rfl⟩⟩, ?_⟩
    refine sw_freeze (i := 4) rfl ?_
    refine sw_while C' (fun c ρ' => ∃ (n : Nat) (pl : List Int) (dn : List (Bool × Int)) (mv : Sl) (o' : Option (List (Bool × Int) × List Int)), c = (wtL pl).toNat ∧ isPileD (tupI pl) = true ∧ dn.length = n ∧ (n : Int) + wtL pl ≤ T ∧ Gone ch n pl o' ∧ o = o'.map (fun x => (dn ++ x.1, x.2)) ∧ ρ' = [.dat (tupI pl), .dat d, .dat (.clo f φ), .own (dn.map mvD), .dat (.lst ((movesL pl).map mvD)), mv] ++ gsl (as.zip (cont n pl))) (m0 := (wtL ns).toNat) ⟨0, ns, [], .em, o, rfl, hp, rfl, by omega, hG, by cases o <;> rfl, rfl⟩ ?_
    rintro c ρ' ⟨n, pl, dn, mv, o', rfl, hpl, hdn, hTn, hg, ho, rfl⟩
    obtain ⟨b1, b2, b3⟩ := isPile_tupI.mp hpl
    have bw := pile_wt hpl
    refine tw_ne C' <| nv 4 rfl C' <| ew_new <| en_lst <| aw_nil ⟨szl rfl, eqok_r (mvl_pure _) rfl (by decide), fun h => ?_, fun h => ?_⟩
    · rw [eqD_mvs_nil, Bool.not_eq_true', decide_eq_false_iff_not] at h
      obtain ⟨mm, em, mem⟩ := pk.cho.at_ (n := n) h
      obtain ⟨h0, h9, hh⟩ := (mem_moves b2).mp mem
      have af := aft b2 h0 hh
      refine sw_setK C (i := 5) <| kw_ixL C' (i := 4) rfl <| kw_pik C' pk (i := 2) (ρ := [.dat (tupI pl), .dat d, .dat (.clo f φ), .own (dn.map mvD), .dat (.lst ((movesL pl).map mvD)), mv]) rfl hpl h hTn (en_list C' B.list <| sv 4 rfl C' rfl) ⟨(ch n pl : Nat), mvD mm, rfl, atI_nat (by rw [List.getElem?_map, em]; rfl), ?_⟩
      refine sw_set C (i := 0) <| ew_df C' F2 <| aw_cons <| nv 0 rfl C' <| aw_cons <| nv 5 rfl C' <| aw_nil ⟨rfl, _, ⟨_, _, rfl, wty_tupI _, mv_wty mm, mv_pure mm, Nat.le_trans (mv_dep mm) (by decide), .inr ⟨pl, rfl, hpl, rfl⟩⟩, ?_⟩
      rw [doneR_mv hpl mem]
      cases hg with
      | stop e => exact absurd e h
      | great e ht =>
        rw [em] at e
        cases e
        rw [if_pos ht]
        show resR ad X.K o = _
        rw [ho]
        rfl
      | @step _ _ m2 o2 e ht g2 =>
        rw [em] at e
        cases e
        rw [if_neg ht]
        have hpa := aft_pile hpl mem ht
        have wp := (pile_wt hpa).1
        have wl := af.wt
        refine sw_append C' (i := 3) rfl <| nv 5 rfl C' ⟨?_, ?_⟩
        · rw [List.length_map]
          exact Nat.lt_of_lt_of_le (show dn.length < 1000000 by omega) (by decide)
        refine sw_setN C (i := 4) <| en_df C' F1 <| aw_cons <| nv 0 rfl C' <| aw_nil ⟨rfl, _, ⟨_, rfl, wty_tupI _, .inr ⟨_, rfl, hpa, rfl⟩⟩, ?_⟩
        refine sw_freeze (i := 4) rfl ?_
        refine sw_nil ⟨(wtL (afterL pl mm.1 mm.2)).toNat, by omega, n + 1, _, dn ++ [mm], .dat (mvD mm), o2, rfl, hpa, by rw [List.length_append, hdn]; rfl, by omega, g2, ?_, ?_⟩
        · rw [ho, Option.map_map]
          cases o2 with
          | none => rfl
          | some y => show some (dn ++ mm :: y.1, y.2) = some ((dn ++ [mm]) ++ y.1, y.2); rw [List.append_assoc]; rfl
        · rw [List.map_append, stepL_some em]
          rfl
    · rw [eqD_mvs_nil, Bool.not_eq_false', decide_eq_true_eq] at h
      have eo : o' = some ([], pl) := by
        cases hg with
        | stop _ => rfl
        | great e _ => rw [h] at e; cases e
        | step e _ _ => rw [h] at e; cases e
      subst eo
      refine sw_retP C' (i := 3) (ds := dn.map mvD) (d := tupI pl) rfl (.inl ?_) (nv 0 rfl C' rfl)
      rw [ho]
      show FR.gen _ = .gen (PsiP X.K ((dn ++ []).map mvD) (tupI pl))
      rw [List.append_nil]
  rcases hS with ⟨x, rfl, rfl, hx, h, rfl⟩ | ⟨ns, d, o, rfl, pk, rfl⟩
  · refine sw_set C (i := 2) <| ew_if <| tw_isN <| nv 1 rfl C' ⟨fun _ => ew_globC C' m0 ?_, (fun z => nomatch z)⟩
    refine sw_setN C (i := 3) <| en_lst <| aw_nil ⟨szl rfl, ?_⟩
    exact sw_setN C (i := 4) <| en_df C' F1 <| aw_cons <| nv 0 rfl C' <| aw_nil ⟨rfl, _, ⟨_, rfl, hx, .inl ⟨h, rfl⟩⟩, rfl⟩
  · have wp := pile_wt pk.pile
    rcases pk.ex with ⟨rfl, rfl, hG⟩ | ⟨f, φ, as, cont, ch, T, rfl, rfl, pk2, hT, hT9, hG⟩
    · refine sw_set C (i := 2) <| ew_if <| tw_isN <| nv 1 rfl C' ⟨fun _ => ew_globC C' m0 ?_, (fun z => nomatch z)⟩
      exact go ns .non f0 (fun _ => True) [] (fun _ _ => []) ch0 48000 o pk.pile ((pik_fn (ch := ch0) l0 G0 ch0_ok fun n pl _ => ⟨_, rfl, rfl⟩).up (by decide)) wp.2 (by decide) hG
    · refine sw_set C (i := 2) <| ew_if <| tw_isN <| nv 1 rfl C' ⟨(fun z => nomatch z), fun _ => nv 1 rfl C' ?_⟩
      exact go ns _ f φ as cont ch T o pk.pile pk2 hT hT9 hG
end
end DL
namespace DL
open PySem PySem.Spec PyProof.Rows L2
section
variable {P : Program} {w : World} {K : PySem.W.Frag} {mg : Str → Option Value} {base : Heap} {f : Addr} {fd : FuncData} {ad : Rf → Addr} {m : Nat}
theorem resR_row {ns : List Int} {d : D} {gs : GS} {o : Option (List (Bool × Int) × List Int)} (pk : Pk P w K mg base ns d gs o) {Φ : D → Prop} {Z : DZ} (h1 : worthL ns < fw 100 → Φ (tupI (rowL (worthL ns)))) (h2 : ¬ worthL ns < fw 100 → Z (ad .tg)) : FRp K (fun _ d => Φ d) Z (resR ad K o) := by
  have gr : ∀ {ch}, Gone ch 0 ns o → FRp K (fun _ d => Φ d) Z (resR ad K o) := fun {ch} g => by
    rcases gone_row g pk.pile with ⟨ms, rfl, lt, _⟩ | ⟨rfl, lt⟩
    · exact ⟨_, _, rfl, h1 lt⟩
    · exact h2 lt
  rcases pk.ex with ⟨_, _, g⟩ | ⟨_, _, _, _, _, _, _, _, _, _, _, g⟩
  · exact gr g
  · exact gr g
/-! ### settled, with a pick -/
def S_settledC (P : Program) (w : World) (K : PySem.W.Frag) (mg : Str → Option Value) (base : Heap) (ad : Rf → Addr) (ds : List D) (gs : GS) (r : FR) : Prop := ∃ ns f φ o, ds = [tupI ns, .clo f φ] ∧ Pk P w K mg base ns (.clo f φ) gs o ∧ r = rowR ad (worthL ns)
theorem fn_settledC (F : FunD K "settled" "settled" (defArgs s_settled) (defBody s_settled) (defScope s_settled) [.non] [] f fd) (F1 : Dg P w K mg base "gone_on" 6 (spC K 2 m (S_gone P w K mg base ad))) (hm3 : m ≤ 3) : FnC P w K mg base f 7 2 m (S_settledC P w K mg base ad) := by
  refine fn_defCD F sc_settled hm3 (by decide +kernel) (List.cons_ne_nil _ _) (fun T kV doc pm an cdv ct us its h1 h2 => match us, its, h1, h2 with | [_, _], [_], _, _ => ⟨_, rfl, rfl⟩) fun ds gs r hS hl hgs X W O C => ?_
  obtain ⟨rfl, rfl, rfl, rfl, rfl⟩ := O
  obtain ⟨ns, f, φ, o, rfl, pk, rfl⟩ := hS
  have C' := C.toCtx
  show SW X W ([.dat (tupI ns), .dat (.clo f φ), .em, .em] ++ gsl gs) _ _
  refine sw_if <| tw_notN <| nv 1 rfl C' ⟨fun _ => ?_, (fun z => nomatch z)⟩
  exact sw_retK <| kw_pair1 (ρ := [.dat (tupI ns), .dat (.clo f φ), .em, .em]) C' F1 hgs <| aw_cons <| nv 0 rfl C' <| aw_cons <| nv 1 rfl C' <| aw_nil ⟨rfl, _, .inr ⟨ns, _, o, rfl, pk, rfl⟩, resR_row pk (fun h => .inl (rowR_yes h).symm) fun h => rowR_no h⟩
/-! ### plus, with a pick -/
def S_plusC (P : Program) (w : World) (K : PySem.W.Frag) (mg : Str → Option Value) (base : Heap) (ad : Rf → Addr) (ds : List D) (gs : GS) (r : FR) : Prop := ∃ a b f φ o, ds = [tupI a, tupI b, .clo f φ] ∧ Up a ∧ Up b ∧ Pk P w K mg base (srt (a ++ b)) (.clo f φ) gs o ∧ r = rowR ad (worthL a + worthL b)
theorem rows_pile {a b : List Int} (ha : Up a) (hb : Up b) : isPileD (tupI (srt (a ++ b))) = true ∧ worthL (srt (a ++ b)) = worthL a + worthL b := by
  have la := up_le ha
  have lb := up_le hb
  refine ⟨isPile_tupI.mpr ⟨by rw [(srt_perm _).length_eq, List.length_append]; omega, fun n hn => ?_, srt_ord _⟩, by rw [worthL_perm (srt_perm _), worth_append]⟩
  rcases List.mem_append.mp ((srt_perm _).mem_iff.mp hn) with h | h
  · exact ha.2 n h
  · exact hb.2 n h
/-! ### the law's own trying, with a pick -/
def S_triedC (P : Program) (w : World) (K : PySem.W.Frag) (mg : Str → Option Value) (base : Heap) (ad : Rf → Addr) (m : Nat) (ds : List D) (gs : GS) (r : FR) : Prop :=
  ∃ (g : Addr) (j : Nat) (S : List D → GS → FR → Prop) (x y : D) (r0 : FR), ds = [.raw (.ref g), .lst [x, y]] ∧ FnC P w K mg base g j 2 m S ∧ j ≤ 30 ∧ S [x, y] gs r0 ∧ Told ad r0 r
theorem fn_triedC (F : Fun K "_law_tried" "_law_tried" s__law_tried f fd) (B : Bt mg) (L : Cl K mg ad) (F1 : Df P w K mg base "_law_word" 1 1 (S_word ad)) (hm3 : m ≤ 3) : FnC P w K mg base f 31 2 m (S_triedC P w K mg base ad m) := by
  refine fn_defC F sc__law_tried (F.binds fun _ _ _ _ _ _ us hl => match us, hl with | [_, _], _ => rfl) hm3 (by decide +kernel) fun ds gs r hS hl hgs X W O C => ?_
  obtain ⟨rfl, rfl, rfl, rfl, rfl⟩ := O
  obtain ⟨g, j, S, u, v, r0, rfl, G, hj, hs, ht⟩ := hS
  have C' := C.toCtx
  obtain ⟨me, hme, hx⟩ := L.me
  refine sw_set C (i := 2) (ew_non (sw_set C (i := 3) (ew_non (sw_tryKeep C (i := 4) (j := 3) hme (fun W' pn xe C2 => ?_) (by decide)))))
  have C2' := C2.toCtx
  -- what comes behind the suite
  have done : ∀ d, isExc d = false → r = .ret d → SW X W ([.dat (.raw (.ref g)), .dat (.lst [u, v]), .dat d, .dat .non, .em] ++ ems gs) (defBody s__law_tried |>.drop 3) (endF r) := fun d _ e => by
    subst e
    exact sw_if (tw_isN (nv 3 rfl C' ⟨fun _ => sw_ret (nv 2 rfl C' (.inl rfl)), (fun z => nomatch z)⟩))
  have fail : ∀ q : Rf, r = .ret (.str q.tx) → ∀ x, SW X W ([.dat (.raw (.ref g)), .dat (.lst [u, v]), x, .dat (.exc (ad q)), .em] ++ ems gs) (defBody s__law_tried |>.drop 3) (endF r) := fun q e x => by
    subst e
    exact sw_if (tw_isN (nv 3 rfl C' ⟨(fun z => nomatch z), fun _ => sw_nil (sw_ret (ew_df C' F1 (aw_cons (nv 3 rfl C' (aw_nil ⟨rfl, _, ⟨q, rfl, rfl⟩, .inl rfl⟩)))))⟩))
  have told : FRd (fun d => SW X W ([.dat (.raw (.ref g)), .dat (.lst [u, v]), .dat d, .dat .non, .em] ++ ems gs) (defBody s__law_tried |>.drop 3) (endF r)) (fun A => PySem.W.exmOne X.K (.ref A) (.ref me) = some true ∧ SW X W ([.dat (.raw (.ref g)), .dat (.lst [u, v]), .dat .non, .dat (.exc A), .em] ++ ems gs) (defBody s__law_tried |>.drop 3) (endF r)) r0 := by
    rcases ht with ⟨d, rfl, hd, e⟩ | ⟨ds, rfl, e⟩ | ⟨q, rfl, e⟩
    · exact done d hd e
    · exact done (.lst ds) rfl e
    · exact ⟨hx q, fail q e _⟩
  refine sw_if (tw_eqI C2' (ew_len C2' B.len (sv 1 rfl C2' (ew_int ⟨_, _, rfl, rfl, fun h => ?_, fun h => ?_⟩))))
  · have h : (2 : Int) = 1 := of_decide_eq_true h
    exact absurd h (by decide)
  · exact sw_setK C2 (i := 2) (kw_callPL (ρ := [.dat (.raw (.ref g)), .dat (.lst [u, v]), .dat .non, .dat .non, .em]) C2' G hgs (i := 0) rfl (aw_cons (ew_ix (sv 1 rfl C2' (ew_int ⟨_, _, rfl, rfl, aw_cons (ew_ix (sv 1 rfl C2' (ew_int ⟨_, _, rfl, rfl, aw_nil ⟨rfl, _, hs, FRd.mono told (fun d h => sw_nil (sw_nil h)) fun A h => h⟩⟩)))⟩)))))
end
end DL
namespace DL
open PySem PySem.Spec PyProof.Rows L2 NdefX
/-! ### what the law's own choice picks -/
def pickZ (cs : List Int) (n : Int) (len : Nat) : Int := mixZ (cs.getD ((n + 1) % (cs.length : Int)).toNat 0) (400 + (n + 1)) % (len : Int)
def chP (cs : List Int) : Nat → List Int → Nat := fun n pl => (pickZ cs (n : Int) (movesL pl).length).toNat
theorem pickZ_bd (cs : List Int) (n : Int) {len : Nat} (h : 0 < len) : 0 ≤ pickZ cs n len ∧ pickZ cs n len < len := ⟨Int.emod_nonneg _ (by omega), Int.emod_lt_of_pos _ (by omega)⟩
theorem chP_ok (cs : List Int) : Ch (chP cs) := fun n pl h => by
  have := pickZ_bd cs (n : Int) (List.length_pos_iff.mpr h)
  unfold chP
  omega
section
variable {P : Program} {w : World} {K : PySem.W.Frag} {mg : Str → Option Value} {base : Heap}
/-- how the made function's slots lie, what it tells -/
def S_pickI (K : PySem.W.Frag) (ρ : List Sl) (Ψ : Hp → Hp → Hp → V → Prop) : Prop := ∃ (cs : List Int) (n : Int) (mvs : List D) (p a : Addr), ρ = [.ow (some p) mvs, .dat (lstI cs), .ow (some a) [.int n]] ∧ 0 < mvs.length ∧ cs ≠ [] ∧ 0 ≤ n ∧ n ≤ 900000 ∧
  p ≠ a ∧ Ψ = fun _ Hb H v => v = .int (pickZ cs n mvs.length) ∧ Gh K Hb H [(p, mvs), (a, [.int (n + 1)])]
theorem ph_pick : phOk (defScope si__law_pick) Ni__law_pick = true := by decide +kernel
def pickF (cl : List (Str × Addr)) (c' : Addr) : NF := ⟨ni__law_pick, qi__law_pick, defArgs si__law_pick, defBody si__law_pick, defScope si__law_pick, cl, c'⟩
theorem atI_mod {cs : List Int} (hne : cs ≠ []) (n : Int) : L2.atI cs (n % (cs.length : Int)) = some (cs.getD (n % (cs.length : Int)).toNat 0) := by
  have hl : 0 < cs.length := List.length_pos_iff.mpr hne
  have h0 := Int.emod_nonneg n (show (cs.length : Int) ≠ 0 by omega)
  have h1 := Int.emod_lt_of_pos n (show (0 : Int) < cs.length by omega)
  obtain ⟨j, hj⟩ : ∃ j : Nat, n % (cs.length : Int) = j := ⟨(n % (cs.length : Int)).toNat, by omega⟩
  rw [hj, Int.toNat_natCast]
  refine atI_nat ?_
  rw [List.getD_eq_getElem?_getD, List.getElem?_eq_getElem (by omega)]
  rfl
theorem nok_pick (B : Bt mg) (F1 : Df P w K mg base "_law_mix" 1 2 S_mix) (f : Addr) (cl : List (Str × Addr)) (c' : Addr) : NOk P w K mg base (L2.CX P w) 2 f (pickF cl c') pi__law_pick fi__law_pick (spI K Ni__law_pick 1 0 (S_pickI K)) := by
  refine nok_I (F := pickF cl c') sci__law_pick (by decide) ph_pick (fun doc pm ctv us hl => match us, hl with | [_], _ => rfl) fun ρ Ψ hS X W O C => ?_
  obtain ⟨rfl, rfl, rfl, rfl, rfl⟩ := O
  obtain ⟨cs, n, mvs, p, a, rfl, hm, hc, h0, h9, hpa, rfl⟩ := hS
  have e1 : ([D.int n] : List D).set 0 (.int (n + 1)) = [.int (n + 1)] := rfl
  refine sw_stI C (i := 2) rfl <| ew_add <| ew_ix <| ov 2 rfl C (ew_int ⟨_, _, rfl, rfl, ew_int ⟨_, _, rfl, rfl, (by decide : 0 < 1), ?_⟩⟩)
  rw [e1]
  refine sw_retG rfl <| ew_mod <| ew_df C F1 <| aw_cons <| ew_ix <| sv 1 rfl C <| ew_mod <| ew_ix <| ov 2 rfl C <| ew_int ⟨_, _, rfl, rfl, ew_len C B.len <| sv 1 rfl C ⟨_, _, rfl, rfl, ?_, _, _, rfl, atI_ints (by rw [List.length_map]; exact atI_mod hc (n + 1)), aw_cons <| ew_add <| ew_int <| ew_ix <| ov 2 rfl C <| ew_int ⟨_, _, rfl, rfl, _, _, rfl, rfl, aw_nil ⟨rfl, _, ⟨_, _, rfl, by omega, by omega, rfl⟩, ew_len C B.len <| ov 0 rfl C ⟨_, _, rfl, rfl, by omega, fun H0 σ Hb H v R av => ?_⟩⟩⟩⟩⟩
  · rw [List.length_map]
    have := List.length_pos_iff.mpr hc
    omega
  · cases av
    refine ⟨?_, List.nodup_cons.mpr ⟨by simpa using hpa, List.nodup_cons.mpr ⟨by simp, List.nodup_nil⟩⟩, fun g hg => ?_⟩
    · rw [pickZ]
    · rcases List.mem_cons.mp hg with rfl | hg
      · obtain ⟨a', xs, _, nb, hp, A, _, hq⟩ := R.own 0 _ _ rfl
        have := hq _ rfl
        subst this
        exact ⟨nb, xs, hp, A⟩
      · rw [List.mem_singleton] at hg
        subst hg
        obtain ⟨a', xs, _, nb, hp, A, _, hq⟩ := R.own 2 _ _ rfl
        have := hq _ rfl
        subst this
        exact ⟨nb, xs, hp, A⟩
/-- the law's own choice picks -/
theorem pik_pick (B : Bt mg) (F1 : Df P w K mg base "_law_mix" 1 2 S_mix) {f a c' ca : Addr} {cl : List (Str × Addr)} {ob : Addr → Obj} {oca : HO} {cs : List Int} (hne : cs ≠ []) (hp : CellP cl fi__law_pick [.ref ca, .ref a] ob) (hca : oca = .lst (cs.map V.int) ∨ ∃ o, oca = .frz o (.lst (cs.map V.int))) :
    PikS P w K mg base 2 f (Sup (cloL f (pickF cl c') ob [(ca, oca)])) [a] (fun n _ => [[.int (n : Nat)]]) (chP cs) 800000 := by
  refine ⟨fun H h _ hok hφ => ?_, fun _ _ => rfl, chP_ok cs, fun A outer s H Q E n pl p xs Hb hr e0 sm hφ hφb nb hpx AA np G hpl hmv hT fk => ?_⟩
  · obtain ⟨od, sl, doc, pm, ctv, ho⟩ := fnO_at hok (cloL_at hφ).1
    exact ⟨_, od, _, sl, ho⟩
  obtain ⟨u1, u2, u3, u4⟩ := cloL_at hφ
  obtain ⟨v1, v2, v3, v4⟩ := cloL_at (hφb Hb (L2.Same.refl _))
  have hC : Cells H (csOf cl) := fun c hc => ⟨_, u3 c hc⟩
  have hCb : Cells Hb (csOf cl) := fun c hc => ⟨_, v3 c hc⟩
  have hK : ∀ a o, K.lookup a = some o → Hb a = none := fun a o e => L2.Same.free sm (e0.bs a o (e0.mod.kin a o e)).2
  have hG : Gh K Hb H [(a, [.int (n : Nat)])] := G
  obtain ⟨na, ys, ha, Aa⟩ := hG.at_ _ List.mem_cons_self
  have pne : p ≠ a := fun z => np (by rw [z]; exact List.mem_cons_self)
  have pc : p ∉ csOf cl := cell_not hC hpx ne_lst.2
  have ac : a ∉ csOf cl := cell_not hC ha ne_lst.2
  have cac : ca ∉ csOf cl := by
    have e := u4 (ca, oca) List.mem_cons_self
    rcases hca with rfl | ⟨o, rfl⟩
    · exact cell_not hC e ne_lst.2
    · exact cell_not hC e (fun ob z => by unfold cellO at z; cases z)
  have hml : 0 < ((movesL pl).map mvD).length := by rw [List.length_map]; exact List.length_pos_iff.mpr hmv
  have wp := pile_wt hpl
  refine clo_run (nok_pick B F1 f cl c') hr e0 u1 u2 (hp.k u3) (.cons (show RelV (.ref p) (Value.ref p) from rfl) .nil) ?_
  have nClo : ∀ l : List (Bool × Int), noCloAll (l.map mvD) = true := fun l => by
    induction l with
    | nil => rfl
    | cons m l ih => simp only [List.map_cons, noCloAll, mvD, noClo, ih, Bool.and_self]
  refine ⟨[.ow (some p) ((movesL pl).map mvD), .dat (lstI cs), .ow (some a) [.int (n : Nat)]], [], ⟨remL (remL H (csOf cl)) [p, a], remL Hb (csOf cl)⟩, remL Hb (csOf cl), _, rfl, rfl, ?_, ⟨cs, n, _, p, a, rfl, hml, hne, by omega, by omega, pne, rfl⟩, fun v H' q gone => ?_⟩
  · refine rel_slots (fun b x e => ?_) rfl (fun i s hi => ?_) fun i j q r ds es b h1 h2 h3 h4 => ?_
    · have hb : b ∉ csOf cl := fun z => by rw [remL_at z] at e; cases e
      rw [remL_ne hb] at e ⊢
      exact sm _ _ e
    · match i, hi with
      | 0, hi =>
        cases hi
        exact ⟨p, xs, rfl, List.mem_cons_self, by rw [remL_ne pc]; exact nb, by rw [remL_ne pc]; exact hpx, AtAll.noC hCb hK AA (nClo _), fun p' z => Option.some.inj z⟩
      | 1, hi =>
        cases hi
        refine ⟨.ref ca, rfl, .lst (xs := cs.map V.int) ?_ AtAll.of_ints⟩
        have e := v4 (ca, oca) List.mem_cons_self
        rcases hca with rfl | ⟨o, rfl⟩
        · exact .inl (by rw [remL_ne cac]; exact e)
        · exact .inr ⟨o, by rw [remL_ne cac]; exact e⟩
      | 2, hi =>
        cases hi
        refine ⟨a, ys, rfl, List.mem_cons_of_mem _ List.mem_cons_self, by rw [remL_ne ac]; exact na, by rw [remL_ne ac]; exact ha, ?_, fun p' z => Option.some.inj z⟩
        exact AtAll.noC hCb hK Aa rfl
      | i + 3, hi => cases hi
    · match i, j, h1, h2 with
      | 0, 0, _, _ => rfl
      | 2, 2, _, _ => rfl
      | 0, 2, _, _ => cases h3; cases h4; exact absurd rfl pne
      | 2, 0, _, _ => cases h3; cases h4; exact absurd rfl pne
      | 1, _, h1, _ => cases h1
      | _, 1, _, h2 => cases h2
      | i + 3, _, h1, _ => cases h1
      | _, j + 3, _, h2 => cases h2
  · obtain ⟨Hb2, Bk, ev, G2⟩ := q
    obtain ⟨b1, b2, b3, b4⟩ := clo_back (l := [p, a]) hC sm (fun x hx => by
      simp only [List.mem_cons, List.not_mem_nil, or_false] at hx
      rcases hx with rfl | rfl
      · exact ⟨_, hpx⟩
      · exact ⟨_, ha⟩) gone Bk
    have := pickZ_bd cs (n : Int) hml
    subst ev
    have e : (V.int (pickZ cs (n : Int) ((movesL pl).map mvD).length)) = .int (chP cs n pl : Nat) := by
      unfold chP
      rw [List.length_map] at this ⊢
      congr 1
      omega
    rw [e]
    refine fk _ _ b1 ?_
    refine (G2.mono b2 (fun g hg => b4 g.1 ?_ (G2.at_ g hg).1) (fun g hg o e => b3 _ _ e) : Gh K _ _ [(p, (movesL pl).map mvD), (a, [.int ((n : Int) + 1)])])
    simp only [List.mem_cons, List.not_mem_nil, or_false] at hg ⊢
    rcases hg with rfl | rfl
    · exact .inl rfl
    · exact .inr rfl
end
end DL
namespace DL
open PySem PySem.Spec PyProof.Rows L2 NdefX
/-- a def that makes a function: where its code object stands, and its table -/
structure FunM (K : PySem.W.Frag) (x : Str) (st : Stmt) (f c : Addr) (fd : FuncData) : Prop where
  ex : ∃ (oc : Value) (od : Option Addr) (kV doc pm : Value) (an : Option Addr) (ct : Value) (osl : Array (Option Value)),
    fd = PySem.W.fnOf x x (defArgs st) (defBody st) (defScope st) .none kV doc pm an (.ref c) ct ∧ K.lookup f = some ⟨oc, od, .func fd, osl⟩ ∧ PySem.W.codeIn K (.ref c) x = true
  kp : PySem.W.keepIn K (.ref f) = true
def tsN (Ts : TS2) : List NTab := Ts.map fun t => (t.1, fun _ _ => t.2)
theorem tsN_of {Ts : TS2} {Hb H : Hp} (T : TabsR Ts Hb H) {H' : Hp} (e : ∀ t ∈ Ts, LamX.TabS H t.1 t.2 → LamX.TabS H' t.1 t.2) : TabsN (tsN Ts) H' := fun p hp => by
  obtain ⟨t, ht, rfl⟩ := List.mem_map.mp hp
  exact TabN.of (e t ht (T t ht).1)
theorem tsN_to {Ts : TS2} {H : Hp} (T : TabsN (tsN Ts) H) : ∀ t ∈ Ts, LamX.TabS H t.1 t.2 := fun t ht => (T (t.1, fun _ _ => t.2) (List.mem_map.mpr ⟨t, ht, rfl⟩)).to
/-- the tables at a maker's end -/
theorem tabs_end {Ts : TS2} {H2 H3 Hb2 Hb3 : Hp} {f1 c1 : Addr} {F : NF} {q : Str} {cs : List Addr} (T : TabsN (tsN Ts) H2) (up : ∀ b o, H2 b = some o → H3 b = some o) (hb : ∀ t ∈ Ts, Hb2 t.1 = none) (f1e : H2 f1 = some (NdefX.FnO f1 F)) (c1e : H2 c1 = some (LamX.CodeO c1 q)) (hc : ∀ c ∈ cs, H2 c = none)
    (g : ∀ a, Hb2 a = none → a ≠ f1 → a ≠ c1 → a ∉ cs → Hb3 a = none) : TabsR Ts Hb3 H3 := fun t ht => by
  have tt := tsN_to T t ht
  obtain ⟨ps, e, _⟩ := id tt
  refine ⟨tt.ext up, g _ (hb t ht) (fun z => ?_) (fun z => ?_) fun z => ?_⟩
  · rw [z, f1e] at e
    exact noT_fn ps (Option.some.inj e)
  · rw [z, c1e] at e
    exact noT_code ps (Option.some.inj e)
  · rw [hc _ z] at e
    cases e
section
variable {P : Program} {w : World} {K : PySem.W.Frag} {mg : Str → Option Value} {base : Heap}
/-- what the maker of the law's own choice tells -/
def S_pickM (P : Program) (w : World) (K : PySem.W.Frag) (mg : Str → Option Value) (base : Heap) (ds : List D) (Ψ : D → GS → Prop) : Prop := ∃ cs : List Int, ds = [lstI cs] ∧ cs ≠ [] ∧
  Ψ = fun d gs => ∃ (f : Addr) (L : List (Addr × HO)) (a : Addr), d = .clo f (Sup L) ∧ NoTs L ∧ gs = [(a, [.int 0])] ∧ PikS P w K mg base 2 f (Sup L) [a] (fun n _ => [[.int (n : Nat)]]) (chP cs) 800000
theorem mk_pick {Ts : TS2} {f c Pt : Addr} {fd : FuncData} (FM : FunM K "_law_pick" s__law_pick f c fd) (TB : LamX.TabB base mg c Pt) (hP : (Pt, qi__law_pick) ∈ Ts) (hnd : ∀ t ∈ Ts, t.1 = Pt → t.2 = qi__law_pick) (B : Bt mg) (F1 : Df P w K mg base "_law_mix" 1 2 S_mix) : FnG P w K mg base f 3 (spM K 1 Ts (S_pickM P w K mg base)) := by
  obtain ⟨oc, od, kV, doc, pm, an, ct, osl, rfl, lk, hcd⟩ := FM.ex
  refine ⟨PySem.W.fnOf "_law_pick" "_law_pick" (defArgs s__law_pick) (defBody s__law_pick) (defScope s__law_pick) .none kV doc pm an (.ref c) ct, ["_law_cells"], spM K 1 Ts (S_pickM P w K mg base), [], [], ?_, FM.kp, .all fun us hl => match us, hl with | [_], _ => rfl, .nil, fun vs H Q E h => by rw [List.append_nil]; exact h⟩
  refine fn_maker lk hcd sc__law_pick (Ts.map Prod.fst) (fun vs H Q E h => by obtain ⟨_, _, _, e, _⟩ := h; exact e) fun A outer s H vs Q E hr e0 h => ?_
  obtain ⟨ds, Ψ, Hb, e, sm, nt, AA, T, ⟨cs, rfl, hne, rfl⟩, fk⟩ := h
  cases AA with
  | cons a1 A2 =>
  cases A2
  cases a1 with
  | @lst ca xs _ rd A3 =>
  have ex := A3.ints
  subst ex
  obtain ⟨oca, hca, eca⟩ : ∃ oca, Hb ca = some oca ∧ (oca = .lst (cs.map V.int) ∨ ∃ o, oca = .frz o (.lst (cs.map V.int))) := by
    rcases rd with z | ⟨o, z⟩
    · exact ⟨_, z, .inl rfl⟩
    · exact ⟨_, z, .inr ⟨o, rfl⟩⟩
  have smh : Same Hb (hideT H (Ts.map Prod.fst)) := fun b o e => hideT_keep (sm _ _ e) (.inl fun ps z => nt b ps (by rw [e, z]))
  have C : CtxD (cxOf (L2.CX P w) P w K mg base N__law_pick "_law_pick" (defScope s__law_pick) f (.ref c) A outer s (hideT H (Ts.map Prod.fst)) fun _ _ _ => False) (fun _ _ _ _ => False) N__law_pick (defScope s__law_pick) 2 :=
    { hN := rfl, nd := sc__law_pick.nd, hs := rfl, room := hr, calm := rfl, tk := takes_of rfl rfl rfl rfl, own := passes_of rfl, fnD := fun _ => rfl, stk := rfl, frm := rfl, exn := rfl }
  refine wm_cons (WS.of (ps_set (i := 1) C.ndX (C.at rfl) (C.loc (.inr rfl)) (pe_lst (pa_cons pe_int pa_nil (star_nst rfl))) rfl (.inl (C.fnD _))) ⟨by decide, fun p1 h1 => ?_⟩)
  have hfree : ∀ y ∈ (defScope si__law_pick).names, y.2 = .free → (defScope s__law_pick).names.lookup y.1 = some .cell ∨ (defScope s__law_pick).names.lookup y.1 = some .free := ndef_free (fr := fi__law_pick) (by decide +kernel)
  refine wm_cons (WS.of (ps_ndefM (T := tsN Ts) (nm := fun _ _ => qi__law_pick) (i := 2) TB rfl (List.mem_map.mpr ⟨_, hP, rfl⟩) rfl (fun p hp e1 => ?_) hfree rfl rfl rfl C.ndX (C.at rfl) (C.loc (.inl rfl)) (.inl rfl)) ⟨tsN_of T fun t ht tt => ?_, fun f1 c1 H2 eN nn T2 f0 f1e c1e => ?_⟩)
  · obtain ⟨t, ht, rfl⟩ := List.mem_map.mp hp
    show (fun _ _ => t.2) = _
    rw [hnd t ht e1]
  · obtain ⟨ps, e1, e2, e3⟩ := tt
    have up : ∀ {b o}, H b = some o → ((∀ ps, o ≠ .tbl ps) ∨ b ∈ Ts.map Prod.fst) → upd (hideT H (Ts.map Prod.fst)) p1 (.lst [.int 0]) b = some o := fun {b o} z zz => by
      have k := hideT_keep z zz
      rw [upd_ne (ne_of_none k h1)]
      exact k
    refine ⟨ps, up e1 (.inr (List.mem_map.mpr ⟨t, ht, rfl⟩)), e2, fun pos cv hc => ?_⟩
    obtain ⟨c0, z1, z2⟩ := e3 pos cv hc
    exact ⟨c0, z1, up z2 (.inl noT_code)⟩
  refine wm_ret C.toCtx (i := 2) (v := .ref f1) rfl ?_
  intro ob co em
  have f0h : hideT H (Ts.map Prod.fst) f1 = none := upd_none f0
  have e2 : ∀ b o, (∀ ps, o ≠ .tbl ps) → H b = some o → H2 b = some o := fun b o n z => by
    have k := hideT_keep (l := Ts.map Prod.fst) z (.inl n)
    exact eN b o (by rw [upd_ne (ne_of_none k h1)]; exact k) n
  have p1e : H2 p1 = some (.lst [.int 0]) := eN _ _ upd_same (fun ps z => nomatch z)
  obtain ⟨cp, sub⟩ := cellP_of (ws := [.ref ca, .ref p1]) sci__law_pick co em.inj (fun y h => L2.cell_has h) (fun y hy => by
    simp only [List.mem_cons, List.not_mem_nil, or_false] at hy
    rcases hy with rfl | rfl <;> rfl) rfl (fun i y hi => by
    match i, hi with
    | 0, hi => cases hi; exact ⟨0, _, rfl, rfl, rfl⟩
    | 1, hi => cases hi; exact ⟨1, _, rfl, rfl, rfl⟩
    | i + 2, hi => cases hi)
  obtain ⟨Hb3, Bk, s3, g1, g2, g3, g4⟩ := maker_end (ob := ob) em (fun b o n _ z => e2 b o n z) (L2.Same.refl Hb) (fun b o z => e2 b o (fun ps y => nt b ps (by rw [z, y])) (sm _ _ z)) (fun a o n _ _ => n) (fun o z => by rw [f0h] at z; cases z) f1e c1e
  have np1 : Hb p1 = none := L2.Same.free smh h1
  have hnd2 : NoTs [(ca, oca)] := fun q hq ps z => by
    rw [List.mem_singleton] at hq
    subst hq
    exact nt ca ps (by rw [hca]; exact congrArg some z)
  refine fk (.ref f1) Hb3 _ (.clo f1 (Sup (cloL f1 (pickF (cloFrom (cellsFrom (s.heap.objs.size + 1) (defScope s__law_pick).names []) (defScope si__law_pick).names []) c1) ob [(ca, oca)]))) [(p1, [.int 0])] Bk (tabs_end (cs := csOf (cellsFrom (s.heap.objs.size + 1) (defScope s__law_pick).names [])) T2 (fun b o z => em.up z) (fun t ht => (T t ht).2) f1e c1e (fun c hc => (em.cell c hc).2) g4) (at_clo ?_ (cloL_no hnd2)) ⟨f1, _, p1, rfl, cloL_no hnd2, rfl, pik_pick B F1 hne cp eca⟩ ⟨List.nodup_cons.mpr ⟨by simp, List.nodup_nil⟩, fun g hg => ?_⟩ fun g hg => ?_
  · exact cloL_mk g1 g2 (fun c hc => g3 c (sub c hc)) (fun q hq => by
      rw [List.mem_singleton] at hq
      subst hq
      exact s3 _ _ hca)
  · rw [List.mem_singleton] at hg
    subst hg
    refine ⟨g4 p1 np1 (fun z => ?_) (fun z => ?_) fun z => ?_, [.int 0], em.up p1e, .cons (.int 0) .nil⟩
    · rw [← z, upd_same] at f0
      cases f0
    · rw [← z, p1e] at c1e
      exact noTb_lst.c _ _ (Option.some.inj c1e)
    · rw [(em.cell p1 z).2] at p1e
      cases p1e
  · rw [List.mem_singleton] at hg
    subst hg
    have h1 : (if hidB H (Ts.map Prod.fst) p1 = true then none else H p1) = none := h1
    split at h1
    · rename_i hh
      rw [em.hid p1 hh] at p1e
      cases p1e
    · exact h1
end
end DL
namespace DL
open PySem PySem.Spec PyProof.Rows L2
/-! ### what the laws' own texts need again and again -/
abbrev rowT (x : Int) : D := tupI (rowL x)
def Fit (x : Int) : Prop := 0 ≤ x ∧ x < fw 100
theorem Fit.up {x : Int} (h : Fit x) : Up (rowL x) := rowL_up h.1 h.2
theorem Fit.worth {x : Int} (h : Fit x) : worthL (rowL x) = x := rowL_worth h.1 h.2
theorem eqD_refl (d : D) : eqD d d = true := PySem.SeqAt.eqv_refl_plain _ (plain_py d)
theorem mixZ_bd (c k : Int) : 0 ≤ mixZ c k ∧ mixZ c k < 2147483629 := ⟨Int.emod_nonneg _ (by decide), Int.emod_lt_of_pos _ (by decide)⟩
theorem fw100_bits : fw 100 < 2 ^ 90 := by decide +kernel
theorem fw100_big : (100000000000000000000 : Int) < fw 100 := by decide +kernel
theorem Fit.bits {x : Int} (h : Fit x) : x.natAbs < 2 ^ 100 := by
  have h1 := h.1
  have h2 := h.2
  have h3 := fw100_bits
  have h4 : (2 : Int) ^ 90 < 2 ^ 100 := by decide
  have h5 : ((2 ^ 100 : Nat) : Int) = 2 ^ 100 := by norm_cast
  omega
theorem small_bits {x : Int} (h0 : 0 ≤ x) (h : x < 1000000000000000000000000) : x.natAbs < 2 ^ 100 := by
  have h4 : (1000000000000000000000000 : Nat) < 2 ^ 100 := by decide
  omega
/-- the row, or the name of its refusal -/
def rowS (n : Int) : D := if n < fw 100 then rowT n else .str "TooGreat"
theorem rowS_yes {n : Int} (h : n < fw 100) : rowS n = rowT n := if_pos h
theorem rowS_no {n : Int} (h : ¬ n < fw 100) : rowS n = .str "TooGreat" := if_neg h
theorem told_row {ad : Rf → Addr} (n : Int) : Told ad (rowR ad n) (.ret (rowS n)) := by
  by_cases h : n < fw 100
  · rw [rowR_yes h, rowS_yes h]
    exact .inl ⟨_, rfl, rfl, rfl⟩
  · rw [rowR_no h, rowS_no h]
    exact .inr (.inr ⟨.tg, rfl, rfl⟩)
theorem told_exc {ad : Rf → Addr} (q : Rf) : Told ad (.exc (ad q)) (.ret (.str q.tx)) := .inr (.inr ⟨q, rfl, rfl⟩)
theorem told_ret {ad : Rf → Addr} {d : D} (h : isExc d = false) : Told ad (.ret d) (.ret d) := .inl ⟨d, rfl, h, rfl⟩
theorem rowS_pure (n : Int) : (rowS n).pure = true := by
  unfold rowS
  split
  · exact pure_tupI _
  · rfl
theorem rowS_dep (n : Int) : (rowS n).dep ≤ 1 := by
  unfold rowS
  split
  · rw [dep_tupI]; decide
  · decide
theorem up0 : Up [] := ⟨.nil, fun x hx => by cases hx⟩
theorem up1 {n : Int} (h0 : 0 ≤ n) (h : n ≤ 99) : Up [n] := ⟨by simp, fun x hx => by rw [List.mem_singleton] at hx; omega⟩
theorem eqok_rowT (x y : Int) : EqOk (rowT x) (rowT y) := eqok_r (pure_tupI _) (pure_tupI _) (by rw [dep_tupI]; decide)
theorem w100 : atI ((fws 101).map D.int) 100 = some (.int (fw 100)) := fws_get (by decide) (by decide)
theorem atM {α : Type} {xs : List α} (g : α → D) {i : Int} {j : Nat} {v : α} (e : i = (j : Int)) (h : xs[j]? = some v) : atI (xs.map g) i = some (g v) := atN e (by rw [List.getElem?_map, h]; rfl)
/-- the item of enumerate(list of ints) -/
theorem enum_at {cs : List Int} {i : Nat} {d : D} (h : (enumD 0 (cs.map D.int))[i]? = some d) : ∃ c, cs[i]? = some c ∧ i < cs.length ∧ d = .pr (.int (i : Int)) (.int c) := by
  rw [enumD_get, List.getElem?_map] at h
  cases hc : cs[i]? with
  | none => rw [hc] at h; cases h
  | some c =>
    rw [hc] at h
    have h : D.pr (.int ((0 + i : Nat) : Int)) (.int c) = d := Option.some.inj h
    rw [Nat.zero_add] at h
    exact ⟨c, rfl, (List.getElem?_eq_some_iff.mp hc).1, h.symm⟩
theorem map_at {α : Type} {g : α → D} {cs : List α} {i : Nat} {d : D} (h : (cs.map g)[i]? = some d) : ∃ c, cs[i]? = some c ∧ i < cs.length ∧ d = g c := by
  rw [List.getElem?_map] at h
  cases hc : cs[i]? with
  | none => rw [hc] at h; cases h
  | some c =>
    rw [hc] at h
    exact ⟨c, rfl, (List.getElem?_eq_some_iff.mp hc).1, (Option.some.inj h).symm⟩
theorem range_at {g : Nat → D} {n i : Nat} {d : D} (h : ((List.range n).map g)[i]? = some d) : i < n ∧ d = g i := by
  obtain ⟨c, h1, h2, rfl⟩ := map_at h
  rw [List.length_range] at h2
  rw [List.getElem?_range h2] at h1
  cases h1
  exact ⟨h2, rfl⟩
theorem cut_take {α : Type} (xs : List α) (a : Nat) : cutG xs none (some (a : Int)) = xs.take a := by
  unfold cutG
  show (xs.drop 0).take (HT.sIx xs.length xs.length (some (a : Int)) - 0) = _
  rw [show HT.sIx xs.length xs.length (some (a : Int)) = min a xs.length from HT.sIx_nat _ _ _, List.drop_zero, Nat.sub_zero, List.take_eq_take_iff]
  omega
theorem cut_drop {α : Type} (xs : List α) (a : Nat) (h : a ≤ xs.length) : cutG xs (some (a : Int)) none = xs.drop a := by
  unfold cutG
  rw [show HT.sIx xs.length 0 (some (a : Int)) = min a xs.length from HT.sIx_nat _ _ _]
  show (xs.drop (min a xs.length)).take (xs.length - min a xs.length) = _
  rw [Nat.min_eq_left h]
  exact List.take_of_length_le (by rw [List.length_drop]; omega)
end DL
namespace DL
open PySem PySem.Spec PyProof.Rows L2
/-! ### papers, plain -/
/-- an entry of a paper -/
def EnD (e : D) : Prop := e.wty = true ∧ e.pure = true ∧ e.dep ≤ 50
def nxtF (pl : List Int) (e : D) : Option (List Int) := match moveD e with
  | none => none
  | some (j, k) => if hasL pl (goingL j k) = true then (if 99 < topC j k then none else some (afterL pl j k)) else none
def wkF : List Int → List D → Nat × List Int
  | pl, [] => (0, pl)
  | pl, e :: es => match nxtF pl e with
    | none => (0, pl)
    | some q => ((wkF q es).1 + 1, (wkF q es).2)
theorem moveD_mv {e : D} {m : Bool × Int} (h : moveD e = some m) : e = mvD m ∧ 0 ≤ m.2 ∧ m.2 ≤ 99 := by
  unfold moveD at h
  split at h
  · rename_i s k
    split at h
    · rename_i hk
      split at h
      · rename_i hs
        cases h
        subst hs
        exact ⟨rfl, hk⟩
      · split at h
        · rename_i hs
          cases h
          subst hs
          exact ⟨rfl, hk⟩
        · cases h
    · cases h
  · cases h
theorem nxt_pile {pl q : List Int} {e : D} (h : isPileD (tupI pl) = true) (n : nxtF pl e = some q) : isPileD (tupI q) = true ∧ ∃ m : Bool × Int, e = mvD m ∧ m ∈ movesL pl ∧ ¬ 99 < topC m.1 m.2 ∧ q = afterL pl m.1 m.2 := by
  obtain ⟨_, b2, _⟩ := isPile_tupI.mp h
  unfold nxtF at n
  cases em : moveD e with
  | none => rw [em] at n; cases n
  | some m =>
    obtain ⟨j, k⟩ := m
    rw [em] at n
    obtain ⟨e1, h0, h9⟩ := moveD_mv em
    dsimp only at n
    by_cases hh : hasL pl (goingL j k) = true
    · rw [if_pos hh] at n
      by_cases ht : 99 < topC j k
      · rw [if_pos ht] at n
        cases n
      · rw [if_neg ht] at n
        cases n
        have mem := (mem_moves (m := (j, k)) b2).mpr ⟨h0, h9, hh⟩
        exact ⟨aft_pile (m := (j, k)) h mem ht, (j, k), e1, mem, ht, rfl⟩
    · rw [if_neg hh] at n
      cases n
theorem wk_pile : ∀ (es : List D) (pl : List Int), isPileD (tupI pl) = true → isPileD (tupI (wkF pl es).2) = true
  | [], pl, h => h
  | e :: es, pl, h => by
    unfold wkF
    cases n : nxtF pl e with
    | none => exact h
    | some q => exact wk_pile es q (nxt_pile h n).1
theorem wk_cons (pl : List Int) (e : D) (es : List D) : wkF pl (e :: es) = match nxtF pl e with
    | none => (0, pl)
    | some q => ((wkF q es).1 + 1, (wkF q es).2) := rfl
theorem wk_le : ∀ (es : List D) (pl : List Int), (wkF pl es).1 ≤ es.length
  | [], pl => Nat.le_refl _
  | e :: es, pl => by
    unfold wkF
    cases n : nxtF pl e with
    | none => exact Nat.zero_le _
    | some q => exact Nat.succ_le_succ (wk_le es q)
section
variable {P : Program} {w : World} {K : PySem.W.Frag} {mg : Str → Option Value} {base : Heap} {f : Addr} {fd : FuncData} {ad : Rf → Addr} {m : Nat}
/-- NoMove and TooGreat are caught by (NoMove, TooGreat) -/
def xmOk (K : PySem.W.Frag) (a b : Addr) : Bool := PySem.W.exmAny K (.ref a) [.ref a, .ref b] == some true && PySem.W.exmAny K (.ref b) [.ref a, .ref b] == some true
theorem doneR_nxt {pl : List Int} {e : D} {Φ : D → Prop} {Z : DZ} (h1 : ∀ q, nxtF pl e = some q → Φ (tupI q)) (h2 : nxtF pl e = none → Z (ad .nm) ∧ Z (ad .tg)) : FRd Φ Z (doneR ad pl e) := by
  unfold nxtF at h1 h2
  unfold doneR
  cases em : moveD e with
  | none =>
    rw [em] at h2
    exact (h2 rfl).1
  | some mm =>
    obtain ⟨j, k⟩ := mm
    rw [em] at h1 h2
    dsimp only at h1 h2 ⊢
    unfold doneL
    by_cases hh : hasL pl (goingL j k) = true
    · rw [if_pos hh] at h1 h2
      rw [if_neg (by rw [hh]; decide)]
      by_cases ht : 99 < topC j k
      · rw [if_pos ht] at h2 ⊢
        exact (h2 rfl).2
      · rw [if_neg ht] at h1 ⊢
        exact h1 _ rfl
    · rw [if_neg hh] at h2
      rw [if_pos (by simpa using hh)]
      exact (h2 rfl).1
def S_walked (ds : List D) (r : FR) : Prop := ∃ (pl : List Int) (es : List D), ds = [tupI pl, .lst es] ∧ isPileD (tupI pl) = true ∧ (∀ e ∈ es, EnD e) ∧ r = .ret (.tup [.int ((wkF pl es).1 : Nat), tupI (wkF pl es).2])
theorem fn_walked (F : Fun K "walked" "walked" s_walked f fd) (B : Bt mg) (L : Cl K mg ad) (xm : xmOk K (ad .nm) (ad .tg) = true) (F1 : Df P w K mg base "done" 4 2 (S_done ad)) : Fn P w K mg base f 5 2 S_walked := by
  refine fn_def F sc_walked (F.binds fun _ _ _ _ _ _ us hl => match us, hl with | [_, _], _ => rfl) fun ds r hS hl X W O C => ?_
  obtain ⟨rfl, rfl, rfl, rfl, rfl⟩ := O
  obtain ⟨pl, es, rfl, hp, he, rfl⟩ := hS
  have C' := C.toCtx
  simp only [xmOk, Bool.and_eq_true, beq_iff_eq] at xm
  refine sw_for C (Tg.pair 2 3 rfl rfl (.inl rfl) (.inl rfl)) <| iw_enum C' B.enum <| nv 1 rfl C' ⟨_, rfl, fun i ρ' => ∃ q s2 s3, isPileD (tupI q) = true ∧ wkF pl es = ((wkF q (es.drop i)).1 + i, (wkF q (es.drop i)).2) ∧ ρ' = [.dat (tupI q), .dat (.lst es), s2, s3], ⟨pl, .em, .em, hp, rfl, rfl⟩, ?_, ?_⟩
  · rintro i d ρ' hd ⟨q, s2, s3, hq, hw, rfl⟩
    rw [enumD_get] at hd
    cases hei : es[i]? with
    | none => rw [hei] at hd; cases hd
    | some e =>
      rw [hei] at hd
      have hd : D.pr (.int ((0 + i : Nat) : Int)) e = d := Option.some.inj hd
      rw [Nat.zero_add] at hd
      subst hd
      obtain ⟨hil, hie⟩ := List.getElem?_eq_some_iff.mp hei
      have edr : es.drop i = e :: es.drop (i + 1) := by rw [List.drop_eq_getElem_cons hil, hie]
      obtain ⟨w1, w2, w3⟩ := he e (List.mem_of_getElem? hei)
      rw [edr, wk_cons] at hw
      refine ⟨_, rfl, ?_⟩
      refine sw_tryT C (i := 2) (j := 0) (L.ex .nm).g (L.ex .tg).g fun W' pn xe C2 => ?_
      have C2' := C2.toCtx
      refine sw_set C2 (i := 0) <| ew_df C2' F1 <| aw_cons <| nv 0 rfl C2' <| aw_cons <| nv 3 rfl C2' <| aw_nil ⟨rfl, _, ⟨_, e, rfl, wty_tupI _, w1, w2, w3, .inr ⟨q, rfl, hq, rfl⟩⟩, doneR_nxt (fun q2 n => ?_) fun n => ?_⟩
      · rw [n] at hw
        refine sw_nil <| sw_nil ⟨q2, _, _, (nxt_pile hq n).1, ?_, rfl⟩
        rw [hw]
        show ((wkF q2 (es.drop (i + 1))).1 + 1 + i, _) = ((wkF q2 (es.drop (i + 1))).1 + (i + 1), _)
        rw [Nat.add_assoc, Nat.add_comm 1 i]
      · rw [n] at hw
        have eo : pl = pl := rfl
        have g : DL.FR.ret (D.tup [.int (i : Nat), tupI q]) = .ret (D.tup [.int ((wkF pl es).1 : Nat), tupI (wkF pl es).2]) := by
          rw [hw]
          show _ = FR.ret (D.tup [.int ((0 + i : Nat) : Int), tupI q])
          rw [Nat.zero_add]
        exact ⟨⟨xm.1, _, _, rfl, rfl, .inl g⟩, ⟨xm.2, _, _, rfl, rfl, .inl g⟩⟩
  · rintro ρ' ⟨q, s2, s3, hq, hw, rfl⟩
    have el : (DL.enumD 0 es).length = es.length := by
      have key : ∀ (n : Nat) (l : List D), (DL.enumD n l).length = l.length := fun n l => by
        induction l generalizing n with
        | nil => rfl
        | cons a l ih => simp only [DL.enumD, List.length_cons, ih]
      exact key 0 es
    rw [el, List.drop_length] at hw
    refine sw_ret <| ew_tup <| aw_cons <| ew_len C' B.len <| sv 1 rfl C' <| aw_cons <| nv 0 rfl C' <| aw_nil ⟨szl rfl, .inl ?_⟩
    rw [hw]
    show FR.ret (D.tup [.int (es.length : Nat), tupI q]) = FR.ret (D.tup [.int ((0 + es.length : Nat) : Int), tupI q])
    rw [Nat.zero_add]
def fmD (pl : List Int) (es : List D) : D := if (wkF pl es).1 = es.length then .non else .int ((wkF pl es).1 : Nat)
def S_fails (ad : Rf → Addr) (ds : List D) (r : FR) : Prop := ∃ (x : D) (es : List D), ds = [x, .lst es] ∧ x.wty = true ∧ (∀ e ∈ es, EnD e) ∧ ((isPileD x = false ∧ r = .exc (ad .np)) ∨ ∃ pl, x = tupI pl ∧ isPileD x = true ∧ r = .ret (fmD pl es))
theorem fn_fails (F : Fun K "fails_at" "fails_at" s_fails_at f fd) (B : Bt mg) (F1 : Df P w K mg base "need_pile" 3 1 (S_need_pile (ad .np))) (F2 : Df P w K mg base "walked" 5 2 S_walked) : Fn P w K mg base f 6 2 (S_fails ad) := by
  refine fn_def F sc_fails_at (F.binds fun _ _ _ _ _ _ us hl => match us, hl with | [_, _], _ => rfl) fun ds r hS hl X W O C => ?_
  obtain ⟨rfl, rfl, rfl, rfl, rfl⟩ := O
  obtain ⟨x, es, rfl, hx, he, hS⟩ := hS
  have C' := C.toCtx
  refine sw_expr <| ew_df C' F1 <| aw_cons <| nv 0 rfl C' <| aw_nil ⟨rfl, _, ⟨_, rfl, hx, rfl⟩, ?_⟩
  rcases hS with ⟨h, rfl⟩ | ⟨pl, rfl, h, rfl⟩
  · rw [if_neg (by rw [h]; exact Bool.false_ne_true)]
    rfl
  · rw [if_pos h]
    refine sw_set C (i := 2) <| ew_ix <| es_ew <| ew_df C' F2 <| aw_cons <| nv 0 rfl C' <| aw_cons <| nv 1 rfl C' <| aw_nil ⟨rfl, _, ⟨pl, es, rfl, h, he, rfl⟩, ?_⟩
    refine ew_int ⟨_, _, rfl, rfl, ?_⟩
    refine sw_ret <| ew_if <| tw_eqI C' <| nv 2 rfl C' <| ew_len C' B.len <| sv 1 rfl C' ⟨_, _, rfl, rfl, fun e => ew_non (.inl ?_), fun e => nv 2 rfl C' (.inl ?_)⟩
    · have e := of_decide_eq_true e
      rw [fmD, if_pos (by omega)]
    · have e := of_decide_eq_false e
      rw [fmD, if_neg (by omega)]
def rightB (pl : List Int) (es : List D) (rr : List Int) : Bool := decide ((wkF pl es).1 = es.length) && (decide (movesL (wkF pl es).2 = []) && decide ((wkF pl es).2 = rr))
def S_right (ad : Rf → Addr) (ds : List D) (r : FR) : Prop := ∃ x y z : D, ds = [x, y, z] ∧ x.wty = true ∧ y.wty = true ∧ z.wty = true ∧ ((isPileD x = false ∧ r = .exc (ad .np)) ∨ (isPileD x = true ∧ (isLst y = false ∨ isRowD z = false) ∧ r = .ret (.bl false)) ∨
  ∃ pl es rr, x = tupI pl ∧ y = .lst es ∧ z = tupI rr ∧ isPileD x = true ∧ isRowD z = true ∧ (∀ e ∈ es, EnD e) ∧ r = .ret (.bl (rightB pl es rr)))
theorem fn_right (F : Fun K "is_right" "is_right" s_is_right f fd) (B : Bt mg) (F1 : Df P w K mg base "need_pile" 3 1 (S_need_pile (ad .np))) (F2 : Df P w K mg base "is_row" 3 1 S_is_row) (F3 : Df P w K mg base "walked" 5 2 S_walked) (F4 : Df P w K mg base "moves_of" 4 1 (S_moves_of ad)) : Fn P w K mg base f 6 3 (S_right ad) := by
  refine fn_def F sc_is_right (F.binds fun _ _ _ _ _ _ us hl => match us, hl with | [_, _, _], _ => rfl) fun ds r hS hl X W O C => ?_
  obtain ⟨rfl, rfl, rfl, rfl, rfl⟩ := O
  obtain ⟨x, y, z, rfl, hx, hy, hz, hS⟩ := hS
  have C' := C.toCtx
  refine sw_expr <| ew_df C' F1 <| aw_cons <| nv 0 rfl C' <| aw_nil ⟨rfl, _, ⟨_, rfl, hx, rfl⟩, ?_⟩
  rcases hS with ⟨h, rfl⟩ | ⟨h, hb, rfl⟩ | ⟨pl, es, rr, rfl, rfl, rfl, h, hr, he, rfl⟩
  · rw [if_neg (by rw [h]; exact Bool.false_ne_true)]
    rfl
  · rw [if_pos h]
    refine sw_if <| tw_bool <| bw_or <| tw_not <| tw_val <| ew_isList C' B <| nv 1 rfl C' ⟨hy, _, rfl, fun h1 => ?_, fun _ => ⟨fun _ => sw_ret <| ew_bl <| .inl rfl, (fun z => nomatch z)⟩⟩
    refine bw_or1 <| tw_not <| tw_val <| ew_df C' F2 <| aw_cons <| nv 2 rfl C' <| aw_nil ⟨rfl, _, ⟨_, rfl, hz, rfl⟩, _, rfl, fun _ => sw_ret <| ew_bl <| .inl rfl, fun h2 => ?_⟩
    rcases hb with hb | hb
    · rw [hb] at h1
      cases h1
    · rw [hb] at h2
      cases h2
  · rw [if_pos h]
    have hp2 := wk_pile es pl h
    refine sw_if <| tw_bool <| bw_or <| tw_not <| tw_val <| ew_isList C' B <| nv 1 rfl C' ⟨hy, _, rfl, fun _ => ?_, (fun z => nomatch z)⟩
    refine bw_or1 <| tw_not <| tw_val <| ew_df C' F2 <| aw_cons <| nv 2 rfl C' <| aw_nil ⟨rfl, _, ⟨_, rfl, hz, rfl⟩, _, rfl, fun h2 => ?_, fun _ => sw_nil ?_⟩
    · rw [hr] at h2
      cases h2
    refine sw_unpack C (i := 3) (j := 4) <| ew_df C' F3 <| aw_cons <| nv 0 rfl C' <| aw_cons <| nv 1 rfl C' <| aw_nil ⟨rfl, _, ⟨pl, es, rfl, h, he, rfl⟩, _, _, rfl, ?_⟩
    refine sw_ret <| ew_and <| ew_eqI C' <| nv 3 rfl C' <| ew_len C' B.len <| sv 1 rfl C' ⟨_, _, rfl, rfl, _, rfl, fun e1 => ?_, fun e1 => .inl ?_⟩
    · have e1 : (wkF pl es).1 = es.length := by have := of_decide_eq_true e1; omega
      refine ew_and <| ew_eq C' <| ew_df C' F4 <| aw_cons <| nv 4 rfl C' <| aw_nil ⟨rfl, _, ⟨_, rfl, wty_tupI _, .inr ⟨_, rfl, hp2, rfl⟩⟩, ew_new <| en_lst <| aw_nil ⟨szl rfl, eqok_r (mvl_pure _) rfl (by decide), _, rfl, fun e2 => ?_, fun e2 => .inl ?_⟩⟩
      · rw [eqD_mvs_nil] at e2
        refine ew_one <| ew_eq C' <| nv 4 rfl C' <| nv 2 rfl C' ⟨eqok_r (pure_tupI _) (pure_tupI _) (by rw [dep_tupI]; decide), .inl ?_⟩
        rw [rightB, decide_eq_true e1, e2, eqD_tupI]
        rfl
      · rw [eqD_mvs_nil] at e2
        rw [rightB, e2, Bool.false_and, Bool.and_false]
    · have e1 : ¬ (wkF pl es).1 = es.length := by have := of_decide_eq_false e1; omega
      rw [rightB, decide_eq_false e1, Bool.false_and]
/-! ### paper_of -/
def papR (ad : Rf → Addr) : Option (List (Bool × Int) × List Int) → FR
  | none => .exc (ad .tg)
  | some x => .new (x.1.map mvD)
def S_paperC (P : Program) (w : World) (K : PySem.W.Frag) (mg : Str → Option Value) (base : Heap) (ad : Rf → Addr) (ds : List D) (gs : GS) (r : FR) : Prop := (∃ x, ds = [x, .non] ∧ gs = [] ∧ x.wty = true ∧ isPileD x = false ∧ r = .exc (ad .np)) ∨ ∃ ns d o, ds = [tupI ns, d] ∧ Pk P w K mg base ns d gs o ∧ r = papR ad o
theorem papR_fr {o : Option (List (Bool × Int) × List Int)} {r : FR} (h : r = papR ad o) : FRp K (fun ds _ => (endF r).rt (.new ds)) (fun A => (endF r).ex A []) (resR ad K o) := by
  subst h
  cases o with
  | none => exact rfl
  | some x => exact ⟨_, _, rfl, .inl rfl⟩
theorem fn_paperC (F : FunD K "paper_of" "paper_of" (defArgs s_paper_of) (defBody s_paper_of) (defScope s_paper_of) [.non] [] f fd) (F1 : Dg P w K mg base "gone_on" 6 (spC K 2 m (S_gone P w K mg base ad))) (hm3 : m ≤ 3) : FnC P w K mg base f 7 2 m (S_paperC P w K mg base ad) := by
  refine fn_defCD F sc_paper_of hm3 (by decide +kernel) (List.cons_ne_nil _ _) (fun T kV doc pm an cdv ct us its h1 h2 => match us, its, h1, h2 with | [_, _], [_], _, _ => ⟨_, rfl, rfl⟩) fun ds gs r hS hl hgs X W O C => ?_
  obtain ⟨rfl, rfl, rfl, rfl, rfl⟩ := O
  have C' := C.toCtx
  rcases hS with ⟨x, rfl, rfl, hx, hp, rfl⟩ | ⟨ns, d, o, rfl, pk, hr⟩
  · show SW X W ([.dat x, .dat .non] ++ gsl []) _ _
    exact sw_retKN <| kn_pair0 (gs := []) (ρ := [.dat x, .dat .non]) C' F1 hgs <| aw_cons <| nv 0 rfl C' <| aw_cons <| nv 1 rfl C' <| aw_nil ⟨rfl, _, .inl ⟨x, rfl, rfl, hx, hp, rfl⟩, rfl⟩
  · show SW X W ([.dat (tupI ns), .dat d] ++ gsl gs) _ _
    exact sw_retKN <| kn_pair0 (gs := gs) (ρ := [.dat (tupI ns), .dat d]) C' F1 hgs <| aw_cons <| nv 0 rfl C' <| aw_cons <| nv 1 rfl C' <| aw_nil ⟨rfl, _, .inr ⟨ns, d, o, rfl, pk, rfl⟩, papR_fr hr⟩
/-- without a pick -/
def S_paper1 (P : Program) (w : World) (K : PySem.W.Frag) (mg : Str → Option Value) (base : Heap) (ad : Rf → Addr) (ds : List D) (r : FR) : Prop := S_paperC P w K mg base ad (ds ++ [.non]) [] r
theorem fn_paper1 (F : FunD K "paper_of" "paper_of" (defArgs s_paper_of) (defBody s_paper_of) (defScope s_paper_of) [.non] [] f fd) (F1 : Dg P w K mg base "gone_on" 6 (spC K 2 0 (S_gone P w K mg base ad))) : Fn P w K mg base f 7 1 (S_paper1 P w K mg base ad) := by
  have ok : FnOk P w K mg base (L2.CX P w) 7 f fd ["pile", "pick"] (spF K 2 (fun ds r => S_paperC P w K mg base ad ds [] r)) := by
    refine fnOk_defD F sc_paper_of fun ds r hS hl X W O C => ?_
    obtain ⟨rfl, rfl, rfl, rfl, rfl⟩ := O
    have C' := C.toCtx
    rcases hS with ⟨x, rfl, _, hx, hp, rfl⟩ | ⟨ns, d, o, rfl, pk, hr⟩
    · show SW X W ([.dat x, .dat .non] ++ gsl []) _ _
      exact sw_retKN <| kn_pair0 (gs := []) (ρ := [.dat x, .dat .non]) C' F1 rfl <| aw_cons <| nv 0 rfl C' <| aw_cons <| nv 1 rfl C' <| aw_nil ⟨rfl, _, .inl ⟨x, rfl, rfl, hx, hp, rfl⟩, rfl⟩
    · show SW X W ([.dat (tupI ns), .dat d] ++ gsl []) _ _
      exact sw_retKN <| kn_pair0 (gs := []) (ρ := [.dat (tupI ns), .dat d]) C' F1 rfl <| aw_cons <| nv 0 rfl C' <| aw_cons <| nv 1 rfl C' <| aw_nil ⟨rfl, _, .inr ⟨ns, d, o, rfl, pk, rfl⟩, papR_fr hr⟩
  exact fn_fill F ok 1 0 [.non] non1 (List.cons_ne_nil _ _) rfl fun T kV doc pm an cdv ct us its h1 h2 => match us, its, h1, h2 with | [_], [_], _, _ => ⟨_, rfl, rfl⟩
end
end DL
namespace DL
open PySem PySem.Spec PyProof.Rows L2
section
variable {P : Program} {w : World} {K : PySem.W.Frag} {mg : Str → Option Value} {base : Heap} {f : Addr} {fd : FuncData} {ad : Rf → Addr}
def S_parts (ds : List D) (r : FR) : Prop := ∃ (j : Bool) (k : Int), ds = [mvD (j, k)] ∧ 0 ≤ k ∧ r = .new [lstI (goingL j k), lstI (comingL j k)]
theorem fn_parts (F : Fun K "_law_parts" "_law_parts" s__law_parts f fd) : Fn P w K mg base f 1 1 S_parts := by
  refine fn_def F sc__law_parts (F.binds fun _ _ _ _ _ _ us hl => match us, hl with | [_], _ => rfl) fun ds r hS hl X W O C => ?_
  obtain ⟨rfl, rfl, rfl, rfl, rfl⟩ := O
  obtain ⟨j, k, rfl, h0, rfl⟩ := hS
  have C' := C.toCtx
  refine sw_unpack C (i := 1) (j := 2) <| nv 0 rfl C' ⟨_, _, rfl, ?_⟩
  refine sw_if <| tw_eq C' <| nv 1 rfl C' <| ew_str ⟨eqL rfl rfl rfl, fun h => ?_, fun h => sw_nil ?_⟩
  · cases j with
    | false => cases h
    | true => exact sw_retN <| en_lst <| aw_cons <| ew_new <| en_lst <| aw_cons <| nv 2 rfl C' <| aw_cons <| ew_add <| nv 2 rfl C' <| ew_int ⟨_, _, rfl, rfl, aw_nil ⟨szl rfl, aw_cons <| ew_new <| en_lst <| aw_cons <| ew_add <| nv 2 rfl C' <| ew_int ⟨_, _, rfl, rfl, aw_nil ⟨szl rfl, aw_nil ⟨szl rfl, .inl rfl⟩⟩⟩⟩⟩
  · cases j with
    | true => rw [if_pos rfl, eqD_refl] at h; cases h
    | false =>
      refine sw_if <| tw_eqI C' <| nv 2 rfl C' <| ew_int ⟨_, _, rfl, rfl, fun h1 => ?_, fun h1 => sw_nil ?_⟩
      · have h1 : k = 0 := of_decide_eq_true h1
        subst h1
        exact sw_retN <| en_lst <| aw_cons <| ew_new <| en_lst <| aw_cons <| ew_int <| aw_cons <| ew_int <| aw_nil ⟨szl rfl, aw_cons <| ew_new <| en_lst <| aw_cons <| ew_int <| aw_nil ⟨szl rfl, aw_nil ⟨szl rfl, .inl rfl⟩⟩⟩
      · have h1 : ¬ k = 0 := of_decide_eq_false h1
        refine sw_if <| tw_eqI C' <| nv 2 rfl C' <| ew_int ⟨_, _, rfl, rfl, fun h2 => ?_, fun h2 => sw_nil ?_⟩
        · have h2 : k = 1 := of_decide_eq_true h2
          subst h2
          exact sw_retN <| en_lst <| aw_cons <| ew_new <| en_lst <| aw_cons <| ew_int <| aw_cons <| ew_int <| aw_nil ⟨szl rfl, aw_cons <| ew_new <| en_lst <| aw_cons <| ew_int <| aw_cons <| ew_int <| aw_nil ⟨szl rfl, aw_nil ⟨szl rfl, .inl rfl⟩⟩⟩
        · have h2 : ¬ k = 1 := of_decide_eq_false h2
          refine sw_retN <| en_lst <| aw_cons <| ew_new <| en_lst <| aw_cons <| nv 2 rfl C' <| aw_cons <| nv 2 rfl C' <| aw_nil ⟨szl rfl, aw_cons <| ew_new <| en_lst <| aw_cons <| ew_add <| nv 2 rfl C' <| ew_int ⟨_, _, rfl, rfl, aw_cons <| ew_sub <| nv 2 rfl C' <| ew_int ⟨_, _, rfl, rfl, aw_nil ⟨szl rfl, aw_nil ⟨szl rfl, .inl ?_⟩⟩⟩⟩⟩
          show FR.new [lstI [k, k], lstI [k + 1, k - 2]] = FR.new [lstI [k, k], lstI (comingP k)]
          rw [comingP, if_neg h1, show max (k - 2) 0 = k - 2 by omega]
def aftR (ns : List Int) (j : Bool) (k : Int) : FR := if hasL ns (goingL j k) = true then .ret (tupI (afterL ns j k)) else .ret .non
def S_after2 (ds : List D) (r : FR) : Prop := ∃ (ns : List Int) (j : Bool) (k : Int), ds = [tupI ns, mvD (j, k)] ∧ 0 ≤ k ∧ ns.length ≤ 1000 ∧ r = aftR ns j k
theorem fn_after2 (F : Fun K "_law_after" "_law_after" s__law_after f fd) (B : Bt mg) (F1 : Df P w K mg base "_law_parts" 1 1 S_parts) : Fn P w K mg base f 2 2 S_after2 := by
  refine fn_def F sc__law_after (F.binds fun _ _ _ _ _ _ us hl => match us, hl with | [_, _], _ => rfl) fun ds r hS hl X W O C => ?_
  obtain ⟨rfl, rfl, rfl, rfl, rfl⟩ := O
  obtain ⟨ns, j, k, rfl, h0, hz, rfl⟩ := hS
  have C' := C.toCtx
  refine sw_unpackL C (i := 2) (j := 3) <| ew_df C' F1 <| aw_cons <| nv 1 rfl C' <| aw_nil ⟨rfl, _, ⟨j, k, rfl, h0, rfl⟩, _, _, rfl, ?_⟩
  refine sw_setN C (i := 4) <| en_list C' B.list <| sv 0 rfl C' ?_
  refine sw_for C (Tg.name 5 rfl (.inl rfl)) <| iw_list <| nv 2 rfl C' ⟨_, rfl, fun i ρ' => ∃ s, (∀ x, ((goingL j k).take i).count x ≤ ns.count x) ∧ ρ' = [.dat (tupI ns), .dat (mvD (j, k)), .dat (lstI (goingL j k)), .dat (lstI (comingL j k)), .own ((goneL ns ((goingL j k).take i)).map D.int), s], ⟨_, fun x => by rw [List.take_zero]; exact Nat.zero_le _, by rw [List.take_zero]; rfl⟩, ?_, ?_⟩
  · rintro i d ρ' hd ⟨s, hc, rfl⟩
    rw [List.getElem?_map] at hd
    cases hx : (goingL j k)[i]? with
    | none => rw [hx] at hd; cases hd
    | some x =>
      rw [hx] at hd
      have hd : D.int x = d := Option.some.inj hd
      subst hd
      refine ⟨_, rfl, ?_⟩
      refine sw_if <| tw_froz <| tw_notIn C' <| nv 5 rfl C' <| sv 4 rfl C' ⟨inOk_int x _, fun h => ?_, fun h => sw_nil ?_⟩
      · rw [any_int] at h
        have h : x ∉ goneL ns ((goingL j k).take i) := by simpa using h
        refine sw_ret <| ew_non <| .inl ?_
        rw [aftR, if_neg fun z => h (gone_mem z hx)]
      · rw [any_int] at h
        have h : x ∈ goneL ns ((goingL j k).take i) := by simpa using h
        refine sw_removeI C' (i := 4) rfl <| nv 5 rfl C' ⟨x, rfl, h, sw_nil ⟨_, fun y => ?_, by rw [gone_succ _ _ hx]; rfl⟩⟩
        have c1 := List.count_pos_iff.mpr h
        rw [count_gone] at c1
        have c2 := hc y
        rw [List.take_succ, hx]
        show ((goingL j k).take i ++ [x]).count y ≤ _
        rw [List.count_append, List.count_singleton]
        by_cases e : x = y
        · subst e
          rw [if_pos (by simp)]
          omega
        · rw [if_neg (by simpa using e)]
          omega
  · rintro ρ' ⟨s, hc, rfl⟩
    rw [List.length_map, List.take_length] at *
    have hh : hasL ns (goingL j k) = true := List.all_eq_true.mpr fun x _ => decide_eq_true (hc x)
    have gl := gone_len (goingL j k) ns
    have cl := (coming_wtM j h0).2.2
    refine sw_ret <| ew_tuple C' B.tuple <| es_new <| en_sorted C' B.sorted <| es_new <| en_cat <| ov 4 rfl C' ⟨rfl, sv 3 rfl C' ⟨rfl, ?_, rfl, goneL ns (goingL j k) ++ comingL j k, List.map_append.symm, .inl ?_⟩⟩
    · rw [List.length_map, List.length_map]
      exact szn (by omega)
    · rw [aftR, if_pos hh]
      rfl
def S_lmoves (ds : List D) (r : FR) : Prop := ∃ ns : List Int, ds = [tupI ns] ∧ r = .new ((movesL ns).map mvD)
theorem fn_lmoves (F : Fun K "_law_moves" "_law_moves" s__law_moves f fd) (B : Bt mg) : Fn P w K mg base f 1 1 S_lmoves := by
  refine fn_def F sc__law_moves (F.binds fun _ _ _ _ _ _ us hl => match us, hl with | [_], _ => rfl) fun ds r hS hl X W O C => ?_
  obtain ⟨rfl, rfl, rfl, rfl, rfl⟩ := O
  obtain ⟨ns, rfl, rfl⟩ := hS
  have C' := C.toCtx
  have l1 : (upto 99).length = 99 := by rw [upto, List.length_map, List.length_range]
  have l2 : (upto 100).length = 100 := by rw [upto, List.length_map, List.length_range]
  refine sw_setLcF (α := Int) (own := [("_law_k", 2)]) D.int (fun k => if joinB ns k = true then some (D.tup [.str "join", .int k]) else none) C (i := 1) (TgB.name 2 rfl rfl (by simp)) (iw_range1 C' B.range <| ew_int ⟨_, rfl, by decide, by decide, upto 99, by rw [upto, List.map_map]; rfl, by omega, fun x hx => bi_if _ rfl (fun s H C0 cl fp Cb => tw_bool <| bw_and <| tw_in Cb <| nv 2 rfl Cb <| sv 0 rfl Cb ⟨inOk_int x ns, fun h => bw_and1 <| tw_in Cb <| ew_add <| nv 2 rfl Cb <| ew_int ⟨_, _, rfl, rfl, sv 0 rfl Cb ⟨inOk_int (x + 1) ns, ?_⟩⟩, fun h => ?_⟩) (fun h s H C0 cl fp Cb => ew_tup <| aw_cons <| ew_str <| aw_cons <| nv 2 rfl Cb <| aw_nil ⟨szl rfl, rfl⟩), ?_⟩) (blkOk_by (by decide +kernel))
  · rw [any_int] at h ⊢
    rw [joinB, h, Bool.true_and]
  · rw [any_int] at h
    rw [joinB, h, Bool.false_and]
  rw [filt_map]
  refine sw_retN <| en_cat <| ov 1 rfl C' ⟨rfl, es_new <| en_lcF (α := Int) (own := [("_law_k", 2)]) D.int (fun k => if partB ns k = true then some (D.tup [.str "part", .int k]) else none) C' (TgB.name 2 rfl rfl (by simp)) (iw_range1 C' B.range <| ew_int ⟨_, rfl, by decide, by decide, upto 100, by rw [upto, List.map_map]; rfl, by omega, fun x hx => bi_if _ rfl (fun s H C0 cl fp Cb => tw_gt <| ew_tcount Cb (nv 0 rfl Cb ⟨ns, rfl, nv 2 rfl Cb ⟨_, rfl, ew_int ⟨_, _, rfl, rfl, rfl⟩⟩⟩) rfl (pe_tcountW Cb.room.units)) (fun h s H C0 cl fp Cb => ew_tup <| aw_cons <| ew_str <| aw_cons <| nv 2 rfl Cb <| aw_nil ⟨szl rfl, rfl⟩), rfl, ?_, .inl ?_⟩) (blkOk_by (by decide +kernel))⟩
  · rw [filt_map, List.length_map, List.length_map]
    have e1 := List.length_filter_le (joinB ns) (upto 99)
    have e2 := List.length_filter_le (partB ns) (upto 100)
    exact szn (by omega)
  · rw [filt_map, moves_D]
    rfl
def S_lweight (ds : List D) (r : FR) : Prop := ∃ ns : List Int, ds = [tupI ns] ∧ ns.length ≤ 1000 ∧ r = .ret (.int (wtL ns))
end
end DL
namespace DL
open PySem PySem.Spec PyProof.Rows L2
theorem eqD_str_x (d : D) (s : Str) : eqD (.str s) d = true ↔ d = .str s := by
  cases d with
  | str x => rw [eqD_str, decide_eq_true_eq]; exact ⟨fun h => by rw [h], fun h => by injection h with h; rw [h]⟩
  | _ =>
    refine ⟨fun h => ?_, fun h => by cases h⟩
    unfold eqD at h
    simp [D.py, PyData.eqv] at h
theorem moveD_two {x y : D} (h1 : x ≠ .str "join") (h2 : x ≠ .str "part") : moveD (.tup [x, y]) = none := by
  cases y with
  | int k => exact moveD_no h1 h2
  | _ => cases x <;> rfl
theorem moveD_int {x y : D} (h : ∀ k, y = .int k → ¬ (0 ≤ k ∧ k ≤ 99)) : moveD (.tup [x, y]) = none := by
  cases y with
  | int k =>
    cases x with
    | str s => rw [moveD_tup, if_neg (h k rfl)]
    | _ => rfl
  | _ => cases x <;> rfl
theorem moveD_len {xs : List D} (h : xs.length ≠ 2) : moveD (.tup xs) = none := by
  match xs, h with
  | [], _ => rfl
  | [a], _ => cases a <;> rfl
  | [_, _], h => exact absurd rfl h
  | _ :: _ :: _ :: _, _ => unfold moveD; split <;> simp_all
theorem ex_max : ∀ l : List Int, l ≠ [] → ∃ m ∈ l, ∀ y ∈ l, y ≤ m
  | [], h => absurd rfl h
  | [a], _ => ⟨a, List.mem_cons_self, fun y hy => by rw [List.mem_singleton] at hy; omega⟩
  | a :: b :: l, _ => by
    obtain ⟨m, hm, hl⟩ := ex_max (b :: l) (List.cons_ne_nil _ _)
    by_cases h : a ≤ m
    · refine ⟨m, List.mem_cons_of_mem _ hm, fun y hy => ?_⟩
      rcases List.mem_cons.mp hy with rfl | hy
      · exact h
      · exact hl y hy
    · refine ⟨a, List.mem_cons_self, fun y hy => ?_⟩
      rcases List.mem_cons.mp hy with rfl | hy
      · exact Int.le_refl _
      · have := hl y hy
        omega
theorem max_after {pl : List Int} {m : Bool × Int} (hb : ∀ n ∈ pl, 0 ≤ n ∧ n ≤ 99) (h0 : 0 ≤ m.2) : ∃ x ∈ afterL pl m.1 m.2, (∀ y ∈ afterL pl m.1 m.2, y ≤ x) ∧ (99 < x ↔ 99 < topC m.1 m.2) := by
  obtain ⟨t1, t2⟩ := topC_ok m.1 m.2 h0
  have mem : ∀ y, y ∈ afterL pl m.1 m.2 ↔ y ∈ goneL pl (goingL m.1 m.2) ∨ y ∈ comingL m.1 m.2 := fun y => by
    rw [afterL, (srt_perm _).mem_iff, List.mem_append]
  have tm : topC m.1 m.2 ∈ afterL pl m.1 m.2 := (mem _).mpr (.inr t1)
  obtain ⟨x, hx, hl⟩ := ex_max (afterL pl m.1 m.2) (fun z => by rw [z] at tm; cases tm)
  refine ⟨x, hx, hl, fun h => ?_, fun h => ?_⟩
  · rcases (mem x).mp hx with g | g
    · have c1 := List.count_pos_iff.mpr g
      rw [count_gone] at c1
      have := (hb x (List.count_pos_iff.mp (by omega))).2
      omega
    · have := t2 x g
      omega
  · have := hl _ tm
    omega
section
variable {P : Program} {w : World} {K : PySem.W.Frag} {mg : Str → Option Value} {base : Heap} {f : Addr} {fd : FuncData} {ad : Rf → Addr} {m : Nat}
def S_is_move (ds : List D) (r : FR) : Prop := ∃ e, ds = [e] ∧ EnD e ∧ r = .ret (.bl (moveD e).isSome)
theorem fn_is_move (F : Fun K "_law_is_move" "_law_is_move" s__law_is_move f fd) (B : Bt mg) : Fn P w K mg base f 1 1 S_is_move := by
  refine fn_def F sc__law_is_move (F.binds fun _ _ _ _ _ _ us hl => match us, hl with | [_], _ => rfl) fun ds r hS hl X W O C => ?_
  obtain ⟨rfl, rfl, rfl, rfl, rfl⟩ := O
  obtain ⟨e, rfl, ⟨hw, hp, hdep⟩, rfl⟩ := hS
  have C' := C.toCtx
  refine sw_if <| tw_bool <| bw_or <| tw_not <| tw_val <| ew_isTup C' B <| nv 0 rfl C' ⟨hw, _, rfl, fun h => ?_, fun h => ⟨fun _ => sw_ret <| ew_bl <| .inl ?_, (fun z => nomatch z)⟩⟩
  · cases e with
    | tup xs =>
      refine bw_or <| tw_neI C' <| ew_len C' B.len <| sv 0 rfl C' <| ew_int ⟨_, _, rfl, rfl, fun h2 => ?_, fun h2 => ⟨fun _ => sw_ret <| ew_bl <| .inl ?_, (fun z => nomatch z)⟩⟩
      · have h2 : (xs.length : Int) = 2 := by simpa using h2
        match xs, h2 with
        | [x, y], _ =>
          have hwy : y.wty = true := by simp only [D.wty, wtyAll, Bool.and_true, Bool.and_eq_true] at hw; exact hw.2
          have hpx : x.pure = true := by simp only [D.pure, pureAll, Bool.and_true, Bool.and_eq_true] at hp; exact hp.1
          have hdx : x.dep ≤ 60 := by simp only [D.dep, depAll] at hdep; omega
          refine bw_or1 <| tw_notIn C' <| ew_ix <| sv 0 rfl C' <| ew_int ⟨0, x, rfl, rfl, es_ew <| ew_tup <| aw_cons <| ew_str <| aw_cons <| ew_str <| aw_nil ⟨szl rfl, ⟨hpx, rfl, .inl hdx⟩, fun h3 => sw_ret <| ew_bl <| .inl ?_, fun h3 => sw_nil ?_⟩⟩
          · rw [Bool.not_eq_true', List.any_eq_false] at h3
            rw [moveD_two (fun z => h3 (.str "join") (by simp) ((eqD_str_x _ _).mpr z)) (fun z => h3 (.str "part") (by simp) ((eqD_str_x _ _).mpr z))]
            rfl
          · rw [Bool.not_eq_false', List.any_eq_true] at h3
            obtain ⟨s, hs, es⟩ := h3
            have hx : x = .str "join" ∨ x = .str "part" := by
              simp only [List.mem_cons, List.not_mem_nil, or_false] at hs
              rcases hs with rfl | rfl
              · exact .inl ((eqD_str_x _ _).mp es)
              · exact .inr ((eqD_str_x _ _).mp es)
            refine sw_ret <| ew_and <| ew_isInt C' B <| ew_ix <| sv 0 rfl C' <| ew_int ⟨1, y, rfl, rfl, hwy, _, rfl, fun h4 => ?_, fun h4 => .inl ?_⟩
            · refine ew_and <| ew_not <| ew_isBool C' B <| ew_ix <| sv 0 rfl C' <| ew_int ⟨1, y, rfl, rfl, hwy, _, rfl, _, rfl, fun h5 => ?_, fun h5 => .inl ?_⟩
              · have h5 : isBl y = false := by simpa using h5
                cases y with
                | int k =>
                  have em : (moveD (.tup [x, .int k])).isSome = decide (0 ≤ k ∧ k ≤ 99) := by
                    rcases hx with rfl | rfl
                    · rw [moveD_tup]
                      by_cases hk : 0 ≤ k ∧ k ≤ 99
                      · rw [if_pos hk, if_pos rfl, decide_eq_true hk]; rfl
                      · rw [if_neg hk, decide_eq_false hk]; rfl
                    · rw [moveD_tup]
                      by_cases hk : 0 ≤ k ∧ k ≤ 99
                      · rw [if_pos hk, if_neg (by decide), if_pos rfl, decide_eq_true hk]; rfl
                      · rw [if_neg hk, decide_eq_false hk]; rfl
                  refine ew_one <| ew_chainI op_le op_le (by with_unfolding_all rfl) <| ew_int <| ew_ix <| sv 0 rfl C' <| ew_int ⟨1, .int k, rfl, rfl, _, _, rfl, rfl, fun h6 => ew_int ⟨_, rfl, .inl ?_⟩, fun h6 => .inl ?_⟩
                  · have h6 : 0 ≤ k := of_decide_eq_true h6
                    rw [em]
                    congr 2
                    simp [h6]
                  · have h6 : ¬ 0 ≤ k := of_decide_eq_false h6
                    rw [em, decide_eq_false (fun z => h6 z.1)]
                | bl b => cases h5
                | _ => cases h4
              · cases y with
                | bl b => rw [moveD_int (fun k z => by cases z)]; rfl
                | _ => cases h5
            · rw [moveD_int (fun k z => by rw [z] at h4; cases h4)]
              rfl
        | [], h2 => simp at h2
        | [_], h2 => simp at h2
        | _ :: _ :: _ :: _, h2 => simp only [List.length_cons] at h2; omega
      · have h2 : ¬ (xs.length : Int) = 2 := by simpa using h2
        rw [moveD_len (by omega)]
        rfl
    | _ => cases h
  · cases e with
    | tup xs => cases h
    | _ => rfl
end
end DL
namespace DL
open PySem PySem.Spec PyProof.Rows L2
theorem enumD_len : ∀ (n : Nat) (l : List D), (DL.enumD n l).length = l.length
  | _, [] => rfl
  | n, a :: l => by simp only [DL.enumD, List.length_cons, enumD_len (n + 1) l]
theorem en_pureAll : ∀ {es : List D}, (∀ e ∈ es, EnD e) → pureAll es = true
  | [], _ => rfl
  | e :: es, h => by
    simp only [pureAll, (h e List.mem_cons_self).2.1, en_pureAll fun x hx => h x (List.mem_cons_of_mem _ hx), Bool.and_self]
theorem en_wtyAll : ∀ {es : List D}, (∀ e ∈ es, EnD e) → wtyAll es = true
  | [], _ => rfl
  | e :: es, h => by
    simp only [wtyAll, (h e List.mem_cons_self).1, en_wtyAll fun x hx => h x (List.mem_cons_of_mem _ hx), Bool.and_self]
theorem en_depAll : ∀ {es : List D}, (∀ e ∈ es, EnD e) → depAll es ≤ 50
  | [], _ => by simp only [depAll]; omega
  | e :: es, h => by
    have h1 := (h e List.mem_cons_self).2.2
    have h2 := en_depAll fun x hx => h x (List.mem_cons_of_mem e hx)
    simp only [depAll]
    omega
theorem en_eqok {es : List D} (h : ∀ e ∈ es, EnD e) : EqOk (.lst es) (.lst es) := by
  have h1 := en_pureAll h
  have h2 := en_depAll h
  exact eqok_r (by simp only [D.pure, h1]) (by simp only [D.pure, h1]) (by simp only [D.dep]; omega)
theorem en_mv (m : Bool × Int) : EnD (mvD m) := ⟨mv_wty m, mv_pure m, Nat.le_trans (mv_dep m) (by decide)⟩
theorem en_mvs (l : List (Bool × Int)) : ∀ e ∈ l.map mvD, EnD e := fun e he => by
  obtain ⟨m, _, rfl⟩ := List.mem_map.mp he
  exact en_mv m
theorem atI_last {α : Type} (xs : List α) (x : α) : L2.atI (xs ++ [x]) (-1) = some x := by
  unfold L2.atI L2.ixN
  rw [if_neg (by decide), if_pos (by rw [List.length_append, List.length_singleton]; omega)]
  show (xs ++ [x])[((-1 : Int) + ((xs ++ [x]).length : Nat)).toNat]? = _
  rw [List.length_append, List.length_singleton, show ((-1 : Int) + ((xs.length + 1 : Nat) : Int)).toNat = xs.length by omega, List.getElem?_append_right (Nat.le_refl _), Nat.sub_self]
  rfl
section
variable {P : Program} {w : World} {K : PySem.W.Frag} {mg : Str → Option Value} {base : Heap} {f : Addr} {fd : FuncData} {ad : Rf → Addr} {m : Nat}
def S_lwalked (ds : List D) (r : FR) : Prop := ∃ (pl : List Int) (es : List D), ds = [tupI pl, .lst es] ∧ isPileD (tupI pl) = true ∧ (∀ e ∈ es, EnD e) ∧ r = .new [.int ((wkF pl es).1 : Nat), tupI (wkF pl es).2]
theorem fn_lwalked (F : Fun K "_law_walked" "_law_walked" s__law_walked f fd) (B : Bt mg) (F1 : Df P w K mg base "_law_is_move" 1 1 S_is_move) (F2 : Df P w K mg base "_law_after" 2 2 S_after2) : Fn P w K mg base f 3 2 S_lwalked := by
  refine fn_def F sc__law_walked (F.binds fun _ _ _ _ _ _ us hl => match us, hl with | [_, _], _ => rfl) fun ds r hS hl X W O C => ?_
  obtain ⟨rfl, rfl, rfl, rfl, rfl⟩ := O
  obtain ⟨pl, es, rfl, hp, he, rfl⟩ := hS
  have C' := C.toCtx
  refine sw_for C (Tg.pair 2 3 rfl rfl (.inl rfl) (.inl rfl)) <| iw_enum C' B.enum <| nv 1 rfl C' ⟨_, rfl, fun i ρ' => ∃ q s2 s3, isPileD (tupI q) = true ∧ wkF pl es = ((wkF q (es.drop i)).1 + i, (wkF q (es.drop i)).2) ∧ ρ' = [.dat (tupI q), .dat (.lst es), s2, s3], ⟨pl, .em, .em, hp, rfl, rfl⟩, ?_, ?_⟩
  · rintro i d ρ' hd ⟨q, s2, s3, hq, hw, rfl⟩
    rw [enumD_get] at hd
    cases hei : es[i]? with
    | none => rw [hei] at hd; cases hd
    | some e =>
      rw [hei] at hd
      have hd : D.pr (.int ((0 + i : Nat) : Int)) e = d := Option.some.inj hd
      rw [Nat.zero_add] at hd
      subst hd
      obtain ⟨hil, hie⟩ := List.getElem?_eq_some_iff.mp hei
      have edr : es.drop i = e :: es.drop (i + 1) := by rw [List.drop_eq_getElem_cons hil, hie]
      have en := he e (List.mem_of_getElem? hei)
      rw [edr, wk_cons] at hw
      obtain ⟨b1, b2, b3⟩ := isPile_tupI.mp hq
      refine ⟨_, rfl, ?_⟩
      -- where it can't be made
      have stop : nxtF q e = none → ∀ {E : DE} (hE : E.rt (.new [.int ((wkF pl es).1 : Nat), tupI (wkF pl es).2]) := by exact .inl rfl), SW X W [.dat (tupI q), .dat (.lst es), .dat (.int (i : Nat)), .dat e] (defBody s__law_walked |> fun b => match b with | .For _ _ (.If _ t _ _ :: _) _ _ :: _ => t | _ => []) E := fun n E hE => by
        rw [n] at hw
        refine sw_retN <| en_lst <| aw_cons <| nv 2 rfl C' <| aw_cons <| nv 0 rfl C' <| aw_nil ⟨szl rfl, ?_⟩
        rw [hw] at hE
        have e0 : ((0 + i : Nat) : Int) = (i : Nat) := by rw [Nat.zero_add]
        rw [← e0]
        exact hE
      refine sw_if <| tw_bool <| bw_or <| tw_not <| tw_val <| ew_df C' F1 <| aw_cons <| nv 3 rfl C' <| aw_nil ⟨rfl, _, ⟨e, rfl, en, rfl⟩, _, rfl, fun h1 => ?_, fun h1 => ⟨fun _ => stop ?_, (fun z => nomatch z)⟩⟩
      · have h1 : (moveD e).isSome = true := by simpa using h1
        obtain ⟨mm, em⟩ := Option.isSome_iff_exists.mp h1
        obtain ⟨rfl, h0, h9⟩ := moveD_mv em
        have nx : nxtF q (mvD mm) = if hasL q (goingL mm.1 mm.2) = true then (if 99 < topC mm.1 mm.2 then none else some (afterL q mm.1 mm.2)) else none := by
          unfold nxtF
          rw [em]
        refine bw_or <| tw_isN <| ew_df C' F2 <| aw_cons <| nv 0 rfl C' <| aw_cons <| nv 3 rfl C' <| aw_nil ⟨rfl, _, ⟨q, mm.1, mm.2, rfl, h0, by omega, rfl⟩, ?_⟩
        by_cases hh : hasL q (goingL mm.1 mm.2) = true
        · rw [aftR, if_pos hh]
          rw [if_pos hh] at nx
          refine ⟨fun _ => ?_, (fun z => nomatch z)⟩
          obtain ⟨x, hx, hxm, hx9⟩ := max_after (m := mm) b2 h0
          refine bw_or1 <| tw_gt <| ew_maxT C' B.max <| ew_df C' F2 <| aw_cons <| nv 0 rfl C' <| aw_cons <| nv 3 rfl C' <| aw_nil ⟨rfl, _, ⟨q, mm.1, mm.2, rfl, h0, by omega, rfl⟩, ?_⟩
          rw [aftR, if_pos hh]
          refine ⟨_, x, rfl, hx, hxm, ew_int ⟨_, _, rfl, rfl, fun h2 => stop ?_, fun h2 => sw_nil ?_⟩⟩
          · have h2 : 99 < x := of_decide_eq_true h2
            rw [nx, if_pos (hx9.mp h2)]
          · have h2 : ¬ 99 < x := of_decide_eq_false h2
            rw [if_neg (fun z => h2 (hx9.mpr z))] at nx
            rw [nx] at hw
            refine sw_set C (i := 0) <| ew_df C' F2 <| aw_cons <| nv 0 rfl C' <| aw_cons <| nv 3 rfl C' <| aw_nil ⟨rfl, _, ⟨q, mm.1, mm.2, rfl, h0, by omega, rfl⟩, ?_⟩
            rw [aftR, if_pos hh]
            refine sw_nil ⟨_, _, _, (nxt_pile hq nx).1, ?_, rfl⟩
            rw [hw]
            show ((wkF _ (es.drop (i + 1))).1 + 1 + i, _) = ((wkF _ (es.drop (i + 1))).1 + (i + 1), _)
            rw [Nat.add_assoc, Nat.add_comm 1 i]
        · rw [aftR, if_neg hh]
          rw [if_neg hh] at nx
          exact ⟨(fun z => nomatch z), fun _ => ⟨fun _ => stop nx, (fun z => nomatch z)⟩⟩
      · have h1 : (moveD e).isSome = false := by simpa using h1
        have em : moveD e = none := by
          cases hm : moveD e with
          | none => rfl
          | some _ => rw [hm] at h1; cases h1
        unfold nxtF
        rw [em]
  · rintro ρ' ⟨q, s2, s3, hq, hw, rfl⟩
    rw [enumD_len, List.drop_length] at hw
    refine sw_retN <| en_lst <| aw_cons <| ew_len C' B.len <| sv 1 rfl C' <| aw_cons <| nv 0 rfl C' <| aw_nil ⟨szl rfl, .inl ?_⟩
    rw [hw]
    show FR.new [.int (es.length : Nat), tupI q] = FR.new [.int ((0 + es.length : Nat) : Int), tupI q]
    rw [Nat.zero_add]
/-! ### the first move each time -/
def S_firsts (ds : List D) (r : FR) : Prop := ∃ (pl : List Int) (x : List (Bool × Int) × List Int), ds = [tupI pl] ∧ isPileD (tupI pl) = true ∧ Gone ch0 0 pl (some x) ∧ r = .new (x.1.map mvD)
theorem fn_firsts (F : Fun K "_law_by_firsts" "_law_by_firsts" s__law_by_firsts f fd) (B : Bt mg) (F1 : Df P w K mg base "_law_moves" 1 1 S_lmoves) (F2 : Df P w K mg base "_law_after" 2 2 S_after2) : Fn P w K mg base f 3 1 S_firsts := by
  refine fn_def F sc__law_by_firsts (F.binds fun _ _ _ _ _ _ us hl => match us, hl with | [_], _ => rfl) fun ds r hS hl X W O C => ?_
  obtain ⟨rfl, rfl, rfl, rfl, rfl⟩ := O
  obtain ⟨ns, x, rfl, hp, hG, rfl⟩ := hS
  have C' := C.toCtx
  have bw0 := pile_wt hp
  refine sw_setN C (i := 1) <| en_lst <| aw_nil ⟨szl rfl, ?_⟩
  refine sw_while C' (fun c ρ' => ∃ (n : Nat) (pl : List Int) (dn : List (Bool × Int)) (o' : Option (List (Bool × Int) × List Int)), c = (wtL pl).toNat ∧ isPileD (tupI pl) = true ∧ dn.length = n ∧ (n : Int) + wtL pl ≤ 48000 ∧ Gone ch0 n pl o' ∧ some x = o'.map (fun y => (dn ++ y.1, y.2)) ∧ ρ' = [.dat (tupI pl), .own (dn.map mvD)]) (m0 := (wtL ns).toNat) ⟨0, ns, [], some x, rfl, hp, rfl, by omega, hG, rfl, rfl⟩ ?_
  rintro c ρ' ⟨n, pl, dn, o', rfl, hpl, hdn, hTn, hg, ho, rfl⟩
  obtain ⟨b1, b2, b3⟩ := isPile_tupI.mp hpl
  have bw := pile_wt hpl
  refine tw_ne C' <| ew_df C' F1 <| aw_cons <| nv 0 rfl C' <| aw_nil ⟨rfl, _, ⟨pl, rfl, rfl⟩, ew_new <| en_lst <| aw_nil ⟨szl rfl, eqok_r (mvl_pure _) rfl (by decide), fun h => ?_, fun h => ?_⟩⟩
  · rw [eqD_mvs_nil, Bool.not_eq_true', decide_eq_false_iff_not] at h
    obtain ⟨mm, em, mem⟩ := ch0_ok.at_ (n := n) h
    obtain ⟨h0, h9, hh⟩ := (mem_moves b2).mp mem
    have af := aft b2 h0 hh
    cases hg with
    | stop e => exact absurd e h
    | great e ht => cases ho
    | @step _ _ m2 o2 e ht g2 =>
      rw [em] at e
      cases e
      have hpa := aft_pile hpl mem ht
      have wp := (pile_wt hpa).1
      have wl := af.wt
      refine sw_append C' (i := 1) rfl <| ew_ix <| es_ew <| ew_df C' F1 <| aw_cons <| nv 0 rfl C' <| aw_nil ⟨rfl, _, ⟨pl, rfl, rfl⟩, ew_int ⟨((0 : Nat) : Int), mvD mm, rfl, atI_nat (by rw [List.getElem?_map, show (movesL pl)[0]? = some mm from em]; rfl), ?_, ?_⟩⟩
      · rw [List.length_map]
        exact Nat.lt_of_lt_of_le (show dn.length < 1000000 by omega) (by decide)
      refine sw_set C (i := 0) <| ew_df C' F2 <| aw_cons <| nv 0 rfl C' <| aw_cons <| ew_ix <| ov 1 rfl C' <| ew_neg <| ew_int ⟨_, rfl, _, mvD mm, rfl, atI_last _ _, aw_nil ⟨rfl, _, ⟨pl, mm.1, mm.2, rfl, h0, by omega, rfl⟩, ?_⟩⟩
      rw [aftR, if_pos hh]
      refine sw_nil ⟨(wtL (afterL pl mm.1 mm.2)).toNat, by omega, n + 1, _, dn ++ [mm], o2, rfl, hpa, by rw [List.length_append, hdn]; rfl, by omega, g2, ?_, ?_⟩
      · rw [ho, Option.map_map]
        cases o2 with
        | none => rfl
        | some y => show some (dn ++ mm :: y.1, y.2) = some ((dn ++ [mm]) ++ y.1, y.2); rw [List.append_assoc]; rfl
      · rw [List.map_append]
        rfl
  · rw [eqD_mvs_nil, Bool.not_eq_false', decide_eq_true_eq] at h
    have eo : o' = some ([], pl) := by
      cases hg with
      | stop _ => rfl
      | great e _ => rw [h] at e; cases e
      | step e _ _ => rw [h] at e; cases e
    subst eo
    have ho : x = (dn ++ [], pl) := Option.some.inj ho
    refine sw_retO C' (i := 1) rfl (.inl ?_)
    rw [ho]
    show FR.new _ = FR.new ((dn ++ []).map mvD)
    rw [List.append_nil]
/-! ### _law_judged -/
def S_judged (ds : List D) (r : FR) : Prop := ∃ (pl : List Int) (es : List D) (rr : List Int), ds = [tupI pl, .lst es, tupI rr] ∧ isPileD (tupI pl) = true ∧ (∀ e ∈ es, EnD e) ∧ r = .ret (.bl true)
theorem fn_judged (F : Fun K "_law_judged" "_law_judged" s__law_judged f fd) (B : Bt mg) (F1 : Df P w K mg base "_law_walked" 3 2 S_lwalked) (F2 : Df P w K mg base "_law_moves" 1 1 S_lmoves) (F3 : Df P w K mg base "is_right" 6 3 (S_right ad)) (F4 : Df P w K mg base "fails_at" 6 2 (S_fails ad)) : Fn P w K mg base f 7 3 S_judged := by
  refine fn_def F sc__law_judged (F.binds fun _ _ _ _ _ _ us hl => match us, hl with | [_, _, _], _ => rfl) fun ds r hS hl X W O C => ?_
  obtain ⟨rfl, rfl, rfl, rfl, rfl⟩ := O
  obtain ⟨pl, es, rr, rfl, hp, he, rfl⟩ := hS
  have C' := C.toCtx
  have hp2 := wk_pile es pl hp
  have wl : (D.lst es).wty = true := by simp only [D.wty, en_wtyAll he]
  have ok := en_eqok he
  refine sw_unpackL C (i := 3) (j := 4) <| ew_df C' F1 <| aw_cons <| nv 0 rfl C' <| aw_cons <| nv 1 rfl C' <| aw_nil ⟨rfl, _, ⟨pl, es, rfl, hp, he, rfl⟩, _, _, rfl, ?_⟩
  -- what is due
  have tail : SW X W [.dat (tupI pl), .dat (.lst es), .dat (tupI rr), .dat (.int ((wkF pl es).1 : Nat)), .dat (tupI (wkF pl es).2), .dat (.bl (rightB pl es rr)), .em, .em, .em] (defBody s__law_judged |>.drop 2) (endF (.ret (.bl true))) := by
    refine sw_setN C (i := 6) <| en_list C' B.list <| sv 1 rfl C' ?_
    refine sw_freeze (i := 6) rfl ?_
    have fr : S_right ad [tupI pl, .lst es, tupI rr] (.ret (.bl (rightB pl es rr))) := by
      refine ⟨_, _, _, rfl, wty_tupI _, wl, wty_tupI _, ?_⟩
      by_cases hr : isRowD (tupI rr) = true
      · exact .inr (.inr ⟨pl, es, rr, rfl, rfl, rfl, hp, hr, he, rfl⟩)
      · refine .inr (.inl ⟨hp, .inr (by simpa using hr), ?_⟩)
        have : rightB pl es rr = false := by
          cases hb : rightB pl es rr with
          | false => rfl
          | true =>
            simp only [rightB, Bool.and_eq_true, decide_eq_true_eq] at hb
            obtain ⟨_, h2, h3⟩ := hb
            exact absurd (isRow_iff.mpr (h3 ▸ moves_nil hp2 h2)) hr
        rw [this]
    refine sw_set C (i := 7) <| ew_df C' F3 <| aw_cons <| nv 0 rfl C' <| aw_cons <| nv 6 rfl C' <| aw_cons <| nv 2 rfl C' <| aw_nil ⟨rfl, _, fr, ?_⟩
    refine sw_if <| tw_bool <| bw_or <| tw_not <| tw_val <| ew_isBool C' B <| nv 7 rfl C' ⟨rfl, _, rfl, fun _ => ?_, (fun z => nomatch z)⟩
    refine bw_or1 <| tw_ne C' <| nv 7 rfl C' <| nv 5 rfl C' ⟨eqok_r rfl rfl (by simp [D.dep]), fun h => ?_, fun _ => sw_nil ?_⟩
    · rw [eqD_refl] at h
      cases h
    refine sw_set C (i := 8) <| ew_df C' F4 <| aw_cons <| nv 0 rfl C' <| aw_cons <| nv 6 rfl C' <| aw_nil ⟨rfl, .ret (fmD pl es), ⟨_, es, rfl, wty_tupI _, he, .inr ⟨pl, rfl, hp, rfl⟩⟩, ?_⟩
    refine sw_if <| tw_eqI C' <| nv 3 rfl C' <| ew_len C' B.len <| sv 1 rfl C' ⟨_, _, rfl, rfl, fun h => ?_, fun h => sw_nil ?_⟩
    · have h : (wkF pl es).1 = es.length := by have := of_decide_eq_true h; omega
      have e : fmD pl es = .non := if_pos h
      rw [e]
      exact sw_ret <| ew_and <| ew_isN <| nv 8 rfl C' ⟨true, rfl, fun _ => ew_one <| ew_eq C' <| nv 6 rfl C' <| nv 1 rfl C' ⟨ok, .inl (by rw [eqD_refl])⟩, fun z => nomatch z⟩
    · have h : ¬ (wkF pl es).1 = es.length := by have := of_decide_eq_false h; omega
      have e : fmD pl es = .int ((wkF pl es).1 : Nat) := if_neg h
      rw [e]
      refine sw_ret <| ew_and <| ew_eqI C' <| nv 8 rfl C' <| nv 3 rfl C' ⟨_, _, rfl, rfl, _, rfl, fun _ => ?_, fun z => absurd rfl (of_decide_eq_false z)⟩
      exact ew_and <| ew_not <| ew_isBool C' B <| nv 8 rfl C' ⟨rfl, _, rfl, true, rfl, fun _ => ew_one <| ew_eq C' <| nv 6 rfl C' <| nv 1 rfl C' ⟨ok, .inl (by rw [eqD_refl])⟩, fun z => nomatch z⟩
  refine sw_set C (i := 5) <| ew_and <| ew_eqI C' <| nv 3 rfl C' <| ew_len C' B.len <| sv 1 rfl C' ⟨_, _, rfl, rfl, _, rfl, fun e1 => ?_, fun e1 => ?_⟩
  · have e1 : (wkF pl es).1 = es.length := by have := of_decide_eq_true e1; omega
    refine ew_and <| ew_eq C' <| ew_df C' F2 <| aw_cons <| nv 4 rfl C' <| aw_nil ⟨rfl, _, ⟨_, rfl, rfl⟩, ew_new <| en_lst <| aw_nil ⟨szl rfl, eqok_r (mvl_pure _) rfl (by decide), _, rfl, fun e2 => ?_, fun e2 => ?_⟩⟩
    · rw [eqD_mvs_nil] at e2
      refine ew_one <| ew_eq C' <| nv 4 rfl C' <| nv 2 rfl C' ⟨eqok_r (pure_tupI _) (pure_tupI _) (by rw [dep_tupI]; decide), ?_⟩
      have : eqD (tupI (wkF pl es).2) (tupI rr) = rightB pl es rr := by
        rw [rightB, decide_eq_true e1, e2, eqD_tupI]
        rfl
      rw [this]
      exact tail
    · rw [eqD_mvs_nil] at e2
      have : rightB pl es rr = false := by rw [rightB, e2, Bool.false_and, Bool.and_false]
      rw [this] at tail
      exact tail
  · have e1 : ¬ (wkF pl es).1 = es.length := by have := of_decide_eq_false e1; omega
    have : rightB pl es rr = false := by rw [rightB, decide_eq_false e1, Bool.false_and]
    rw [this] at tail
    exact tail
def S_right_of (ad : Rf → Addr) (ds : List D) (r : FR) : Prop := ∃ x : D, ds = [x] ∧ x.wty = true ∧ isPileD x = false ∧ r = .exc (ad .np)
theorem fn_right_of (F : Fun K "_law_right_of" "_law_right_of" s__law_right_of f fd) (F1 : Df P w K mg base "is_right" 6 3 (S_right ad)) : Fn P w K mg base f 7 1 (S_right_of ad) := by
  refine fn_def F sc__law_right_of (F.binds fun _ _ _ _ _ _ us hl => match us, hl with | [_], _ => rfl) fun ds r hS hl X W O C => ?_
  obtain ⟨rfl, rfl, rfl, rfl, rfl⟩ := O
  obtain ⟨x, rfl, hx, hp, rfl⟩ := hS
  have C' := C.toCtx
  exact sw_ret <| ew_df C' F1 <| aw_cons <| nv 0 rfl C' <| aw_cons <| ew_new <| en_lst <| aw_nil ⟨szl rfl, aw_tup <| aw_nil ⟨szl rfl, aw_nil ⟨rfl, .exc (ad .np), ⟨_, _, _, rfl, hx, rfl, rfl, .inl ⟨hp, rfl⟩⟩, rfl⟩⟩⟩
end
end DL
namespace DL
open PySem PySem.Spec PyProof.Rows L2
def oddL (n : Int) : List D := [.tup [.str "join", .int (n / 1600 % 14)], .tup [.str "part", .int (n / 1600 % 9)], .tup [.str "parts", .int 0], .tup [.str "part", .bl true], .non, .lst [.str "join", .int 0]]
def oddAt (n i : Int) : D := (oddL n).getD i.toNat .non
def spoF (es : List D) (n : Int) : List D :=
  if n % 8 = 0 then cutG es none (some (n / 16 % ((es.length : Int) + 1))) ++ cutG es (some (n / 16 % ((es.length : Int) + 1) + 1)) none
  else if n % 8 = 1 then (cutG es none (some (n / 16 % ((es.length : Int) + 1))) ++ (cutG es (some (n / 16 % ((es.length : Int) + 1))) (some (n / 16 % ((es.length : Int) + 1) + 2))).reverse) ++ cutG es (some (n / 16 % ((es.length : Int) + 1) + 2)) none
  else if n % 8 = 2 then cutG es none (some (n / 16 % ((es.length : Int) + 1)))
  else if n % 8 < 5 then (cutG es none (some (n / 16 % ((es.length : Int) + 1))) ++ [oddAt n (n / 128 % 6)]) ++ cutG es (some (n / 16 % ((es.length : Int) + 1))) none
  else (cutG es none (some (n / 16 % ((es.length : Int) + 1))) ++ [oddAt n (n / 128 % 2)]) ++ cutG es (some (n / 16 % ((es.length : Int) + 1) + 1)) none
theorem cutG_mem {α : Type} {xs : List α} {lo hi : Option Int} {x : α} (h : x ∈ cutG xs lo hi) : x ∈ xs := by
  unfold cutG at h
  exact List.mem_of_mem_drop (List.mem_of_mem_take h)
theorem oddL_en (n : Int) : ∀ e ∈ oddL n, EnD e := by
  intro e h
  simp only [oddL, List.mem_cons, List.not_mem_nil, or_false] at h
  rcases h with rfl | rfl | rfl | rfl | rfl | rfl <;> exact ⟨rfl, rfl, by simp [D.dep, depAll]⟩
theorem oddAt_en (n i : Int) : EnD (oddAt n i) := by
  unfold oddAt
  rw [List.getD_eq_getElem?_getD]
  cases e : (oddL n)[i.toNat]? with
  | none => exact ⟨rfl, rfl, by simp [D.dep]⟩
  | some x => exact oddL_en n x (List.mem_of_getElem? e)
theorem oddAt_at {n i : Int} (h0 : 0 ≤ i) (h : i < 6) : L2.atI (oddL n) i = some (oddAt n i) := by
  obtain ⟨j, rfl⟩ : ∃ j : Nat, i = j := ⟨i.toNat, by omega⟩
  refine atI_nat ?_
  unfold oddAt
  have hj : j < (oddL n).length := by show j < 6; omega
  rw [List.getD_eq_getElem?_getD, Int.toNat_natCast, List.getElem?_eq_getElem hj]
  rfl
theorem spoF_en {es : List D} (h : ∀ e ∈ es, EnD e) (n : Int) : ∀ e ∈ spoF es n, EnD e := by
  intro e he
  have odd := oddAt_en n
  unfold spoF at he
  split at he
  · rcases List.mem_append.mp he with g | g <;> exact h e (cutG_mem g)
  · split at he
    · rcases List.mem_append.mp he with g | g
      · rcases List.mem_append.mp g with g | g
        · exact h e (cutG_mem g)
        · exact h e (cutG_mem (List.mem_reverse.mp g))
      · exact h e (cutG_mem g)
    · split at he
      · exact h e (cutG_mem he)
      · split at he
        · rcases List.mem_append.mp he with g | g
          · rcases List.mem_append.mp g with g | g
            · exact h e (cutG_mem g)
            · rw [List.mem_singleton] at g
              rw [g]
              exact odd _
          · exact h e (cutG_mem g)
        · rcases List.mem_append.mp he with g | g
          · rcases List.mem_append.mp g with g | g
            · exact h e (cutG_mem g)
            · rw [List.mem_singleton] at g
              rw [g]
              exact odd _
          · exact h e (cutG_mem g)
section
variable {P : Program} {w : World} {K : PySem.W.Frag} {mg : Str → Option Value} {base : Heap} {f : Addr} {fd : FuncData} {ad : Rf → Addr} {m : Nat}
def S_spoilt (ds : List D) (r : FR) : Prop := ∃ (es : List D) (n : Int), ds = [.lst es, .int n] ∧ es.length ≤ 100000 ∧ r = .new (spoF es n)
theorem fn_spoilt (F : Fun K "_law_spoilt" "_law_spoilt" s__law_spoilt f fd) (B : Bt mg) : Fn P w K mg base f 1 2 S_spoilt := by
  refine fn_def F sc__law_spoilt (F.binds fun _ _ _ _ _ _ us hl => match us, hl with | [_, _], _ => rfl) fun ds r hS hl X W O C => ?_
  obtain ⟨rfl, rfl, rfl, rfl, rfl⟩ := O
  obtain ⟨es, n, rfl, hz, rfl⟩ := hS
  have C' := C.toCtx
  have cl : ∀ lo hi, (cutG es lo hi).length ≤ es.length := fun lo hi => cutG_le es lo hi
  refine sw_set C (i := 2) <| ew_mod <| ew_fdiv <| nv 1 rfl C' <| ew_int ⟨_, _, rfl, rfl, ⟨by decide, by decide⟩, ew_add <| ew_len C' B.len <| sv 0 rfl C' <| ew_int ⟨_, _, rfl, rfl, _, _, rfl, rfl, by omega, ?_⟩⟩
  refine sw_setN C (i := 3) <| en_lst <| aw_cons <| ew_tup <| aw_cons <| ew_str <| aw_cons <| ew_mod <| ew_fdiv <| nv 1 rfl C' <| ew_int ⟨_, _, rfl, rfl, ⟨by decide, by decide⟩, ew_int ⟨_, _, rfl, rfl, by decide, aw_nil ⟨szl rfl, ?_⟩⟩⟩
  refine aw_cons <| ew_tup <| aw_cons <| ew_str <| aw_cons <| ew_mod <| ew_fdiv <| nv 1 rfl C' <| ew_int ⟨_, _, rfl, rfl, ⟨by decide, by decide⟩, ew_int ⟨_, _, rfl, rfl, by decide, aw_nil ⟨szl rfl, ?_⟩⟩⟩
  refine aw_cons <| ew_tup <| aw_cons <| ew_str <| aw_cons <| ew_int <| aw_nil ⟨szl rfl, aw_cons <| ew_tup <| aw_cons <| ew_str <| aw_cons <| ew_bl <| aw_nil ⟨szl rfl, aw_nil ⟨szl rfl, ?_⟩⟩⟩
  refine sw_setN C (i := 3) <| en_cat <| ov 3 rfl C' ⟨rfl, es_new <| en_lst <| aw_cons <| ew_non <| aw_cons <| ew_new <| en_lst <| aw_cons <| ew_str <| aw_cons <| ew_int <| aw_nil ⟨szl rfl, aw_nil ⟨szl rfl, rfl, (show 4 + 2 ≤ sizeLine by decide), ?_⟩⟩⟩
  refine sw_freeze (i := 3) rfl ?_
  show SW X W [.dat (.lst es), .dat (.int n), .dat (.int (n / 16 % ((es.length : Int) + 1))), .dat (.lst (oddL n)), .em] _ _
  refine sw_set C (i := 4) <| ew_mod <| nv 1 rfl C' <| ew_int ⟨_, _, rfl, rfl, by decide, ?_⟩
  -- the ways
  refine sw_if <| tw_eqI C' <| nv 4 rfl C' <| ew_int ⟨_, _, rfl, rfl, fun h => ?_, fun h => sw_nil ?_⟩
  · have h : n % 8 = 0 := of_decide_eq_true h
    refine sw_retN <| en_cat <| es_new <| en_slice <| sv 0 rfl C' ⟨rfl, nv 2 rfl C' ⟨_, rfl, rfl, es_new <| en_slice <| sv 0 rfl C' ⟨rfl, ew_add <| nv 2 rfl C' <| ew_int ⟨_, _, rfl, rfl, _, rfl, rfl, ?_, .inl ?_⟩⟩⟩⟩
    · have := cl none (some (n / 16 % ((es.length : Int) + 1)))
      have := cl (some (n / 16 % ((es.length : Int) + 1) + 1)) none
      exact szn (by omega)
    · rw [spoF, if_pos h]
  have h0 : ¬ n % 8 = 0 := of_decide_eq_false h
  refine sw_if <| tw_eqI C' <| nv 4 rfl C' <| ew_int ⟨_, _, rfl, rfl, fun h => ?_, fun h => sw_nil ?_⟩
  · have h : n % 8 = 1 := of_decide_eq_true h
    refine sw_retN <| en_cat <| es_new <| en_cat <| es_new <| en_slice <| sv 0 rfl C' ⟨rfl, nv 2 rfl C' ⟨_, rfl, rfl, es_new <| en_revL <| es_new <| en_slice <| sv 0 rfl C' ⟨rfl, nv 2 rfl C' ⟨_, rfl, ew_add <| nv 2 rfl C' <| ew_int ⟨_, _, rfl, rfl, _, rfl, rfl, rfl, ?_, rfl, es_new <| en_slice <| sv 0 rfl C' ⟨rfl, ew_add <| nv 2 rfl C' <| ew_int ⟨_, _, rfl, rfl, _, rfl, rfl, ?_, .inl ?_⟩⟩⟩⟩⟩⟩⟩
    · have := cl none (some (n / 16 % ((es.length : Int) + 1)))
      have := cl (some (n / 16 % ((es.length : Int) + 1))) (some (n / 16 % ((es.length : Int) + 1) + 2))
      rw [List.length_reverse]
      exact szn (by omega)
    · have := cl none (some (n / 16 % ((es.length : Int) + 1)))
      have := cl (some (n / 16 % ((es.length : Int) + 1))) (some (n / 16 % ((es.length : Int) + 1) + 2))
      have := cl (some (n / 16 % ((es.length : Int) + 1) + 2)) none
      rw [List.length_append, List.length_reverse]
      exact szn (by omega)
    · rw [spoF, if_neg h0, if_pos h]
  have h1 : ¬ n % 8 = 1 := of_decide_eq_false h
  refine sw_if <| tw_eqI C' <| nv 4 rfl C' <| ew_int ⟨_, _, rfl, rfl, fun h => ?_, fun h => sw_nil ?_⟩
  · have h : n % 8 = 2 := of_decide_eq_true h
    refine sw_retN <| en_slice <| sv 0 rfl C' ⟨rfl, nv 2 rfl C' ⟨_, rfl, .inl ?_⟩⟩
    rw [spoF, if_neg h0, if_neg h1, if_pos h]
  have h2 : ¬ n % 8 = 2 := of_decide_eq_false h
  refine sw_if <| tw_lt <| nv 4 rfl C' <| ew_int ⟨_, _, rfl, rfl, fun h => ?_, fun h => sw_nil ?_⟩
  · have h : n % 8 < 5 := of_decide_eq_true h
    have o1 := Int.emod_nonneg (n / 128) (show (6 : Int) ≠ 0 by decide)
    have o2 := Int.emod_lt_of_pos (n / 128) (show (0 : Int) < 6 by decide)
    refine sw_retN <| en_cat <| es_new <| en_cat <| es_new <| en_slice <| sv 0 rfl C' ⟨rfl, nv 2 rfl C' ⟨_, rfl, rfl, es_new <| en_lst <| aw_cons <| ew_ix <| sv 3 rfl C' <| ew_mod <| ew_fdiv <| nv 1 rfl C' <| ew_int ⟨_, _, rfl, rfl, ⟨by decide, by decide⟩, ew_int ⟨_, _, rfl, rfl, by decide, _, _, rfl, oddAt_at o1 o2, aw_nil ⟨szl rfl, rfl, ?_, rfl, es_new <| en_slice <| sv 0 rfl C' ⟨rfl, nv 2 rfl C' ⟨_, rfl, rfl, ?_, .inl ?_⟩⟩⟩⟩⟩⟩⟩
    · have := cl none (some (n / 16 % ((es.length : Int) + 1)))
      rw [List.length_singleton]
      exact szn (by omega)
    · have := cl none (some (n / 16 % ((es.length : Int) + 1)))
      have := cl (some (n / 16 % ((es.length : Int) + 1))) none
      rw [List.length_append, List.length_singleton]
      exact szn (by omega)
    · rw [spoF, if_neg h0, if_neg h1, if_neg h2, if_pos h]
  have h5 : ¬ n % 8 < 5 := of_decide_eq_false h
  have o1 := Int.emod_nonneg (n / 128) (show (2 : Int) ≠ 0 by decide)
  have o2 := Int.emod_lt_of_pos (n / 128) (show (0 : Int) < 2 by decide)
  refine sw_retN <| en_cat <| es_new <| en_cat <| es_new <| en_slice <| sv 0 rfl C' ⟨rfl, nv 2 rfl C' ⟨_, rfl, rfl, es_new <| en_lst <| aw_cons <| ew_ix <| sv 3 rfl C' <| ew_mod <| ew_fdiv <| nv 1 rfl C' <| ew_int ⟨_, _, rfl, rfl, ⟨by decide, by decide⟩, ew_int ⟨_, _, rfl, rfl, by decide, _, _, rfl, oddAt_at o1 (by omega), aw_nil ⟨szl rfl, rfl, ?_, rfl, es_new <| en_slice <| sv 0 rfl C' ⟨rfl, ew_add <| nv 2 rfl C' <| ew_int ⟨_, _, rfl, rfl, _, rfl, rfl, ?_, .inl ?_⟩⟩⟩⟩⟩⟩⟩
  · have := cl none (some (n / 16 % ((es.length : Int) + 1)))
    rw [List.length_singleton]
    exact szn (by omega)
  · have := cl none (some (n / 16 % ((es.length : Int) + 1)))
    have := cl (some (n / 16 % ((es.length : Int) + 1) + 1)) none
    rw [List.length_append, List.length_singleton]
    exact szn (by omega)
  · rw [spoF, if_neg h0, if_neg h1, if_neg h2, if_neg h5]
end
end DL
namespace DL
open PySem PySem.Spec PyProof.Rows L2 NdefX
theorem noClo_mvs : ∀ l : List (Bool × Int), noCloAll (l.map mvD) = true
  | [] => rfl
  | m :: l => by simp only [List.map_cons, noCloAll, mvD, noClo, noClo_mvs l, Bool.and_self]
theorem noClo_tupI (ns : List Int) : noClo (tupI ns) = true := by
  have : ∀ ns : List Int, noCloAll (ns.map D.int) = true := fun ns => by
    induction ns with
    | nil => rfl
    | cons n ns ih => simp only [List.map_cons, noCloAll, noClo, ih, Bool.and_self]
  simp only [noClo, this]
section
variable {X : Cx} {W : WX} {ρ : List Sl} {Z : DZ} {N : List Str} {sc : Scope} {k j : Nat} {pos p px : Pos} {Φ : D → Prop} {f : Addr} {φ : Hp → Prop} {as : List Addr} {cont : Nat → List Int → List (List D)} {ch : Nat → List Int → Nat} {T : Int} {x y : Str}
/-- a call of what picks, with an own list that it leaves as it was -/
theorem kw_pikO (C : Ctx X W N sc k) (pk : PikS X.prog X.w X.K X.mg X.base j f φ as cont ch T) {n : Nat} {pl : List Int} {i l : Nat} {q0 : Option Addr} (hρ : (ρ ++ gsl (as.zip (cont n pl)))[i]? = some (Sl.dat (.clo f φ))) (hρl : ρ[l]? = some (.ow q0 ((movesL pl).map mvD))) (hp : isPileD (tupI pl) = true) (hm : movesL pl ≠ []) (hT : (n : Int) + wtL pl ≤ T)
    (hΦ : Φ (.int (ch n pl : Nat))) (hj : j ≤ k := by omega) (hN : N[i]? = some x := by rfl) (hv : Vis sc x := by first | exact .inl rfl | exact .inr (.inl rfl) | exact .inr (.inr rfl)) (hd : (x == ("__debug__" : Str)) = false := by decide) (hcd : (x == ("__classdict__" : Str)) = false := by decide)
    (hNl : N[l]? = some y := by rfl) (hvl : Vis sc y := by first | exact .inl rfl | exact .inr (.inl rfl) | exact .inr (.inr rfl)) (hdl : (y == ("__debug__" : Str)) = false := by decide) (hcdl : (y == ("__classdict__" : Str)) = false := by decide)
    (he : starEach [.Name y p] X.env = (false, eval (.Name y p) X.env) :: starEach [] X.env := by exact star_nst rfl) : KW X W (ρ ++ gsl (as.zip (cont n pl))) (ρ ++ gsl (as.zip (cont (n + 1) (stepL ch n pl)))) (.Call (.Name x px) [.Name y p] [] pos) Φ Z := fun H0 σ Hb H R z => by
  obtain ⟨v, ev, av⟩ := R.dat i _ hρ
  cases av with
  | clo hφ0 =>
  have hφ : ∀ H', Same Hb H' → φ H' := fun H' s => hφ0 H' (LamX.ExtN.of s)
  have l1 := pk.len n pl
  have l2 := pk.len (n + 1) (stepL ch n pl)
  obtain ⟨σ0, rfl, hl0⟩ := R.sig
  obtain ⟨R3, G3, F3⟩ := R.unghost
  have hll := (List.getElem?_eq_some_iff.mp hρl).1
  obtain ⟨pl0, xs, e1, n2, q2, A2, h02, hq0⟩ := R3.own l _ _ hρl
  have e1' : (σ0 ++ gsv (as.zip (cont n pl)))[l]? = some (some (V.ref pl0)) := by rw [List.getElem?_append_left (by omega)]; exact e1
  have asz : ∀ a ∈ as, ∃ g ∈ as.zip (cont n pl), g.1 = a := fun a ha => by
    have ha : a ∈ gsa (as.zip (cont n pl)) := by rw [gsa_zip l1]; exact ha
    obtain ⟨g, hg, e0⟩ := List.mem_map.mp ha
    exact ⟨g, hg, e0⟩
  have np : pl0 ∉ as := fun hm => by
    obtain ⟨g0, hg0, e0⟩ := asz _ hm
    exact (F3 g0 hg0).2 l _ _ hρl (by rw [e1, e0])
  refine ⟨fun pins s I => ?_⟩
  refine wpAny_Call_Name_kw (thn ((pe_var (pos := px) (C.at hN) (C.vis hv) hd hcd).run pins s _ H (fun v H1 => v = .ref f ∧ H1 = H) I ⟨.ref f, ev, rfl, rfl⟩) fun u s1 ⟨v, H1, I1, r1, q1⟩ => ?_)
  obtain ⟨rfl, rfl⟩ := q1
  cases r1
  have hw : WA X [.Name y p] (σ0 ++ gsv (as.zip (cont n pl))) H1 (fun vs H2 => vs = [.ref pl0] ∧ H2 = H1) := WA.of (pa_one' (pe_var (pos := p) (C.at hNl) (C.vis hvl) hdl hcdl) he) ⟨.ref pl0, e1', rfl, rfl⟩
  refine PySem.W.callWith_F (first := []) (pk.fn H1 _ I1.kIn I1.hok (hφ H1 R.b1)) (thn (hw.go pos pins s1 I1) fun us s2 ⟨vs, H2, I2, r, q⟩ => ?_) he rfl
  obtain ⟨rfl, rfl⟩ := q
  refine ⟨pk.fn H2 _ I2.kIn I2.hok (hφ H2 R.b1), ?_⟩
  obtain ⟨u, rfl, rx⟩ := vals1 r
  cases rx
  refine wpAny_call (codeAny_mono (pk.run X.A X.stack s2 H2 (PostK X.K H0 (ρ ++ gsl (as.zip (cont (n + 1) (stepL ch n pl)))) (σ0 ++ gsv (as.zip (cont n pl))) Hb Φ) (fun _ _ _ => False) n pl pl0 xs Hb (C.room.mono hj) I2.env0 R3.b1 (hφ H2 R3.b1) hφ n2 q2 A2 np G3 hp hm hT fun Hb' H' B G' => ?_) fun r s' hq => ?_)
  · -- the list at hand is as it was: all but the state is kept
    obtain ⟨np', ys, ep, Ap⟩ := G'.at_ _ List.mem_cons_self
    have ld : ρ.length = σ0.length := by omega
    have R4 : Rel X.K H0 (ρ.set l .em) (σ0.set l none) Hb' H' := (R3.setE l none).calledL B (fun a ha => ?_) (fun a ha => ?_) (fun jx q es hh a ha => ?_) fun jx P q hh hP => ?_
    · have R6 : Rel X.K H0 ((ρ.set l .em).set l (.ow q0 ((movesL pl).map mvD))) ((σ0.set l none).set l (some (.ref pl0))) Hb' H' := rel_ow R4 (by rw [List.length_set]; exact hll) np' ep Ap h02 hq0 fun jx q es hh e => ?_
      · rw [List.set_set, List.set_set, set_self hρl, set_self e1] at R6
        have R5 := R6.ghost G'.tail (fun g hg => ?_)
        · refine ⟨.int (ch n pl : Nat), Hb', hΦ, ?_, B.b, .int _⟩
          rw [show gsv (as.zip (cont n pl)) = gsv (as.zip (cont (n + 1) (stepL ch n pl))) by rw [gsv_zip l1, gsv_zip l2]]
          exact R5
        · have hm : g.1 ∈ as := by rw [← gsa_zip l2]; exact List.mem_map.mpr ⟨g, hg, rfl⟩
          obtain ⟨g0, hg0, e0⟩ := asz _ hm
          rw [← e0]
          exact F3 g0 hg0
      · have jl : jx ≠ l := fun z => by
          subst z
          rw [List.getElem?_set_self hll] at hh
          cases hh
        rw [List.getElem?_set_ne (Ne.symm jl)] at hh
        rw [List.getElem?_set_ne (Ne.symm jl)] at e
        exact jl (R3.sep jx l _ _ _ _ _ hh hρl e e1)
    · rcases List.mem_cons.mp ha with rfl | ha
      · exact h02
      · obtain ⟨g0, hg0, e0⟩ := asz _ ha
        rw [← e0]
        exact (F3 g0 hg0).1
    · rcases List.mem_cons.mp ha with rfl | ha
      · exact ⟨_, q2, codeO_lst⟩
      · obtain ⟨g0, hg0, e0⟩ := asz _ ha
        obtain ⟨_, ys, e1, _⟩ := G3.at_ g0 hg0
        rw [← e0]
        exact ⟨_, e1, codeO_lst⟩
    · have jl : l ≠ jx := fun z => by
        subst z
        rw [List.getElem?_set_self hll] at hh
        cases hh
      rw [List.getElem?_set_ne jl] at hh ⊢
      rcases List.mem_cons.mp ha with rfl | ha
      · exact fun e => jl (R3.sep jx l _ _ _ _ _ hh hρl e e1).symm
      · obtain ⟨g0, hg0, e0⟩ := asz _ ha
        rw [← e0]
        exact (F3 g0 hg0).2 jx q es hh
    · have hh := set_tb hh (by intro z; cases z)
      obtain ⟨⟨ps, e9, _⟩, _⟩ := R3.tb jx P q hh
      rcases List.mem_cons.mp hP with rfl | hP
      · rw [q2] at e9
        cases e9
      · obtain ⟨g0, hg0, e0⟩ := asz _ hP
        obtain ⟨_, ys, e2, _⟩ := G3.at_ g0 hg0
        rw [e0, e9] at e2
        cases e2
  · cases r with
    | error e => obtain ⟨_, _, _, _, _, _, _, _, _, _, _, _, z⟩ := hq; exact z.elim
    | ok fl =>
      cases fl with
      | ret u => exact I2.after hq
      | next => exact hq.elim
      | brk => exact hq.elim
      | cont => exact hq.elim
/-- x = e, x a name of a made function's own -/
theorem sw_setKL {e : Expr} {ρ' : List Sl} {rest : List Stmt} {E : DE} (C : Ctx X W N sc k) {i : Nat} (h : KW X W ρ ρ' e (fun d => SW X W (ρ'.set i (.dat d)) rest E) (fun A => E.ex A ρ')) (hi : N[i]? = some x := by rfl) (hx : sc.names.lookup x = some .local := by rfl)
    (hs : swapsWith e (some (.Name x px)) pos.line X.env = pure false := by rfl) : SW X W ρ (.Assign [.Name x px] e pos :: rest) E := sw_cons fun H0 σ Hb H R xx =>
  WS.of (ps_set C.ndX (C.at hi) (C.loc (.inl hx)) pe_w hs (.inr (by rw [C.hs]; exact hx))) ((h H0 σ Hb H R fun A Hb' H' z R' => xx A ρ' σ Hb' H' z R').mono fun v H' ⟨d, Hb', f, R', s, a⟩ => ⟨_, Hb', f, R'.setD i a⟩)
end
end DL
namespace DL
open PySem PySem.Spec PyProof.Rows L2 NdefX
section
variable {P : Program} {w : World} {K : PySem.W.Frag} {mg : Str → Option Value} {base : Heap}
def cntA (n : Nat) (_ : List Int) : List (List D) := [[.int (n : Nat)]]
/-- the clearing choice: its slots, what it tells -/
def S_clearI (P : Program) (w : World) (K : PySem.W.Frag) (mg : Str → Option Value) (base : Heap) (ρ : List Sl) (Ψ : Hp → Hp → Hp → V → Prop) : Prop := ∃ (n : Nat) (pl : List Int) (p a1 f1 : Addr) (φ1 : Hp → Prop) (ch : Nat → List Int → Nat),
  ρ = [.ow (some p) ((movesL pl).map mvD), .dat (.clo f1 φ1), .em, .ow (some a1) [.int (n : Nat)]] ∧ isPileD (tupI pl) = true ∧ movesL pl ≠ [] ∧ (n : Int) + wtL pl ≤ 800000 ∧ PikS P w K mg base 2 f1 φ1 [a1] cntA ch 800000 ∧ [p, a1].Nodup ∧
  Ψ = fun _ Hb H v => v = .int (ch n pl : Nat) ∧ Gh K Hb H [(p, []), (a1, [.int ((n + 1 : Nat) : Int)])]
theorem ph_clear : phOk (defScope si__law_clearing) Ni__law_clearing = true := by decide +kernel
def clearF (cl : List (Str × Addr)) (c' : Addr) : NF := ⟨ni__law_clearing, qi__law_clearing, defArgs si__law_clearing, defBody si__law_clearing, defScope si__law_clearing, cl, c'⟩
theorem nok_clear (f : Addr) (cl : List (Str × Addr)) (c' : Addr) : NOk P w K mg base (L2.CX P w) 3 f (clearF cl c') pi__law_clearing fi__law_clearing (spI K Ni__law_clearing 1 1 (S_clearI P w K mg base)) := by
  refine nok_I (F := clearF cl c') sci__law_clearing (by decide) ph_clear (fun doc pm ctv us hl => match us, hl with | [_], _ => rfl) fun ρ Ψ hS X W O C => ?_
  obtain ⟨rfl, rfl, rfl, rfl, rfl⟩ := O
  obtain ⟨n, pl, p, a1, f1, φ1, ch, rfl, hp, hm, hT, pk, nd, rfl⟩ := hS
  refine sw_setKL C (i := 2) <| kw_pikO C pk (ρ := [.ow (some p) ((movesL pl).map mvD), .dat (.clo f1 φ1), .em]) (i := 1) (l := 0) rfl rfl hp hm hT ?_
  show SW X W [.ow (some p) ((movesL pl).map mvD), .dat (.clo f1 φ1), .dat (.int (ch n pl : Nat)), .ow (some a1) [.int ((n + 1 : Nat) : Int)]] _ _
  refine sw_clear C (i := 0) rfl <| sw_retG rfl <| nv 2 rfl C fun H0 σ Hb H v R av => ?_
  cases av
  refine ⟨rfl, nd, fun g hg => ?_⟩
  have key : ∀ (i : Nat) (q : Addr) (ds : List D), ([.ow (some p) [], .dat (.clo f1 φ1), .dat (.int (ch n pl : Nat)), .ow (some a1) [.int ((n + 1 : Nat) : Int)]] : List Sl)[i]? = some (.ow (some q) ds) → Hb q = none ∧ ∃ xs, H q = some (.lst xs) ∧ AtAll X.K Hb xs ds := fun i q ds e => by
    obtain ⟨a', xs, _, nb, hp', A, _, hq⟩ := R.own i _ _ e
    have := hq _ rfl
    subst this
    exact ⟨nb, xs, hp', A⟩
  simp only [List.mem_cons, List.not_mem_nil, or_false] at hg
  rcases hg with rfl | rfl
  · exact key 0 _ _ rfl
  · exact key 3 _ _ rfl
theorem pik_clear {f c' a1 f1 : Addr} {cl : List (Str × Addr)} {ob : Addr → Obj} {ch : Nat → List Int → Nat} {L1 : List (Addr × HO)} (nt1 : NoTs L1) (pk : PikS P w K mg base 2 f1 (Sup L1) [a1] cntA ch 800000)
    (hp : CellP cl fi__law_clearing [.ref f1] ob) (hd : ∀ q ∈ L1, q.1 ∉ csOf cl) : Pik P w K mg base 3 f (Sup (cloL f (clearF cl c') ob L1)) [a1] cntA ch 800000 := by
  refine ⟨fun H h _ hok hφ => ?_, fun _ _ => rfl, pk.cho, fun A outer s H Q E n pl p xs Hb hr e0 sm hφ hφb nb hpx AA np G hpl hmv hT fk => ?_⟩
  · obtain ⟨od, sl, doc, pm, ctv, ho⟩ := fnO_at hok (cloL_at hφ).1
    exact ⟨_, od, _, sl, ho⟩
  obtain ⟨u1, u2, u3, u4⟩ := cloL_at hφ
  obtain ⟨v1, v2, v3, v4⟩ := cloL_at (hφb Hb (L2.Same.refl _))
  have hC : Cells H (csOf cl) := fun c hc => ⟨_, u3 c hc⟩
  have hCb : Cells Hb (csOf cl) := fun c hc => ⟨_, v3 c hc⟩
  have hK : ∀ a o, K.lookup a = some o → Hb a = none := fun a o e => L2.Same.free sm (e0.bs a o (e0.mod.kin a o e)).2
  have hG : Gh K Hb H [(a1, [.int (n : Nat)])] := G
  obtain ⟨n2, y2, h2, A2⟩ := hG.at_ _ List.mem_cons_self
  have p2 : p ≠ a1 := fun z => np (by rw [z]; exact List.mem_cons_self)
  have pc : p ∉ csOf cl := cell_not hC hpx ne_lst.2
  have c2 : a1 ∉ csOf cl := cell_not hC h2 ne_lst.2
  refine clo_run (nok_clear f cl c') hr e0 u1 u2 (hp.k u3) (.cons (show RelV (.ref p) (Value.ref p) from rfl) .nil) ?_
  refine ⟨[.ow (some p) ((movesL pl).map mvD), .dat (.clo f1 (Sup L1)), .em, .ow (some a1) [.int (n : Nat)]], [some (.ref a1)], ⟨remL (remL H (csOf cl)) [p, a1], remL Hb (csOf cl)⟩, remL Hb (csOf cl), _, rfl, rfl, ?_, ⟨n, pl, p, a1, f1, _, ch, rfl, hpl, hmv, hT, pk, by simp [p2], rfl⟩, fun v H' q gone => ?_⟩
  · refine rel_slots (fun b x e => ?_) rfl (fun i s hi => ?_) fun i j q r ds es b g1 g2 g3 g4 => ?_
    · have hb : b ∉ csOf cl := fun z => by rw [remL_at z] at e; cases e
      rw [remL_ne hb] at e ⊢
      exact sm _ _ e
    · match i, hi with
      | 0, hi =>
        cases hi
        exact ⟨p, xs, rfl, by simp, by rw [remL_ne pc]; exact nb, by rw [remL_ne pc]; exact hpx, AtAll.noC hCb hK AA (noClo_mvs _), fun p' z => Option.some.inj z⟩
      | 1, hi =>
        cases hi
        exact ⟨.ref f1, rfl, at_clo (Sup.remL v4 hd) nt1⟩
      | 2, hi =>
        cases hi
        trivial
      | 3, hi =>
        cases hi
        exact ⟨a1, y2, rfl, by simp, by rw [remL_ne c2]; exact n2, by rw [remL_ne c2]; exact h2, AtAll.noC hCb hK A2 rfl, fun p' z => Option.some.inj z⟩
      | i + 4, hi => cases hi
    · have own : ∀ (i : Nat) (q : Option Addr) (ds : List D) (b : Addr), ([.ow (some p) ((movesL pl).map mvD), .dat (.clo f1 (Sup L1)), .em, .ow (some a1) [.int (n : Nat)]] : List Sl)[i]? = some (Sl.ow q ds) → (startF Ni__law_clearing [V.ref p] ([.ref f1].map some) ++ [some (V.ref a1)])[i]? = some (some (V.ref b)) → (i = 0 ∧ b = p) ∨ (i = 3 ∧ b = a1) := fun i q ds b g1 g2 => by
        match i, g1, g2 with
        | 0, _, g2 => cases g2; exact .inl ⟨rfl, rfl⟩
        | 1, g1, _ => cases g1
        | 2, g1, _ => cases g1
        | 3, _, g2 => cases g2; exact .inr ⟨rfl, rfl⟩
        | i + 4, g1, _ => cases g1
      rcases own i _ _ _ g1 g3 with ⟨e1, e2⟩ | ⟨e1, e2⟩ <;> rcases own j _ _ _ g2 g4 with ⟨e3, e4⟩ | ⟨e3, e4⟩ <;> first | (rw [e1, e3]; done) | (exfalso; subst e2; first | exact p2 e4 | exact p2 e4.symm)
  · obtain ⟨Hb2, Bk, ev, G2⟩ := q
    obtain ⟨b1, b2, b3, b4⟩ := clo_back (l := [p, a1]) hC sm (fun x hx => by
      simp only [List.mem_cons, List.not_mem_nil, or_false] at hx
      rcases hx with rfl | rfl
      · exact ⟨_, hpx⟩
      · exact ⟨_, h2⟩) gone Bk
    subst ev
    refine fk _ _ b1 ?_
    refine (G2.tail.mono b2 (fun g hg => b4 g.1 ?_ (G2.tail.at_ g hg).1) (fun g hg o e => b3 _ _ e) : Gh K _ _ [(a1, [.int ((n + 1 : Nat) : Int)])])
    simp only [List.mem_cons, List.not_mem_nil, or_false] at hg ⊢
    rcases hg with rfl
    exact .inr rfl
/-- what the maker of the clearing choice tells -/
def S_clearM (P : Program) (w : World) (K : PySem.W.Frag) (mg : Str → Option Value) (base : Heap) (ds : List D) (Ψ : D → GS → Prop) : Prop := ∃ cs : List Int, ds = [lstI cs] ∧ cs ≠ [] ∧
  Ψ = fun d gs => ∃ (f : Addr) (L : List (Addr × HO)) (a1 : Addr), d = .clo f (Sup L) ∧ NoTs L ∧ gs = [(a1, [.int 0])] ∧ Pik P w K mg base 3 f (Sup L) [a1] cntA (chP cs) 800000
theorem mk_clear {Ts : TS2} {f c Pt : Addr} {fd : FuncData} (FM : FunM K "_law_clearing" s__law_clearing f c fd) (TB : LamX.TabB base mg c Pt) (hP : (Pt, qi__law_clearing) ∈ Ts) (hnd : ∀ t ∈ Ts, t.1 = Pt → t.2 = qi__law_clearing) (F3 : Dg P w K mg base "_law_pick" 3 (spM K 1 Ts (S_pickM P w K mg base))) : FnG P w K mg base f 4 (spM K 1 Ts (S_clearM P w K mg base)) := by
  obtain ⟨oc, od, kV, doc, pm, an, ct, osl, rfl, lk, hcd⟩ := FM.ex
  refine ⟨PySem.W.fnOf "_law_clearing" "_law_clearing" (defArgs s__law_clearing) (defBody s__law_clearing) (defScope s__law_clearing) .none kV doc pm an (.ref c) ct, ["_law_cells"], spM K 1 Ts (S_clearM P w K mg base), [], [], ?_, FM.kp, .all fun us hl => match us, hl with | [_], _ => rfl, .nil, fun vs H Q E h => by rw [List.append_nil]; exact h⟩
  refine fn_maker lk hcd sc__law_clearing (Ts.map Prod.fst) (fun vs H Q E h => by obtain ⟨_, _, _, e, _⟩ := h; exact e) fun A outer s H vs Q E hr e0 h => ?_
  obtain ⟨ds, Ψ, Hb, e, sm, nt, AA, T, ⟨cs, rfl, hne, rfl⟩, fk⟩ := h
  obtain ⟨g3, m3, G3⟩ := F3
  cases AA with
  | @cons v1 _ vs2 _ A1 AA2 =>
  cases AA2
  have tabl : ∀ {b}, b ∈ Ts.map Prod.fst → ∃ ps, H b = some (.tbl ps) := fun {b} z => by
    obtain ⟨t, ht, rfl⟩ := List.mem_map.mp z
    obtain ⟨⟨ps, e1, _⟩, _⟩ := T t ht
    exact ⟨ps, e1⟩
  have smh : Same Hb (hideT H (Ts.map Prod.fst)) := fun b o e => hideT_keep (sm _ _ e) (.inl fun ps z => nt b ps (by rw [e, z]))
  have C : CtxD (cxOf (L2.CX P w) P w K mg base N__law_clearing "_law_clearing" (defScope s__law_clearing) f (.ref c) A outer s (hideT H (Ts.map Prod.fst)) fun _ _ _ => False) (fun _ _ _ _ => False) N__law_clearing (defScope s__law_clearing) 3 :=
    { hN := rfl, nd := sc__law_clearing.nd, hs := rfl, room := hr, calm := rfl, tk := takes_of rfl rfl rfl rfl, own := passes_of rfl, fnD := fun _ => rfl, stk := rfl, frm := rfl, exn := rfl }
  have C' := C.toCtx
  have up1 : ∀ {b o}, H b = some o → ((∀ ps, o ≠ .tbl ps) ∨ b ∈ Ts.map Prod.fst) → hideT H (Ts.map Prod.fst) b = some o := fun {b o} z zz => hideT_keep z zz
  have T1 : TabsR Ts Hb (hideT H (Ts.map Prod.fst)) := fun t ht => by
    obtain ⟨⟨ps, e1, e2, e3⟩, n⟩ := T t ht
    refine ⟨⟨ps, up1 e1 (.inr (List.mem_map.mpr ⟨t, ht, rfl⟩)), e2, fun pos cv hc => ?_⟩, n⟩
    obtain ⟨c0, z1, z2⟩ := e3 pos cv hc
    exact ⟨c0, z1, up1 z2 (.inl noT_code)⟩
  refine wm_cons (WS.of (ps_set (i := 1) C.ndX (C.at rfl) (C.loc (.inr rfl)) (pe_fnG C' G3 (by decide) rfl m3 (by decide) (star_nst rfl) rfl) rfl (.inl (C.fnD _))) (WA.of (pa_one' (pe_var (C'.at (i := 0) rfl) (C'.vis (.inl rfl)) (by decide) (by decide)) (star_nst rfl)) ⟨v1, rfl, ?_⟩))
  refine ⟨[lstI cs], _, Hb, rfl, smh, nt, .cons A1 .nil, T1, ⟨cs, rfl, hne, rfl⟩, fun v Hb' H' d gs Bk TR a ψ G fg => ?_⟩
  obtain ⟨f0, L0, a0, rfl, nt0, rfl, pk⟩ := ψ
  have hφ0 : ∀ G, LamX.ExtN Hb' G → Sup L0 G := by
    cases a with
    | clo h => exact h
  have evl : v = .ref f0 := by
    cases a
    rfl
  subst evl
  obtain ⟨na0, y0, a0e, A0e⟩ := G.at_ _ List.mem_cons_self
  have upc : ∀ {b o}, H b = some o → (∀ ps, o ≠ .tbl ps) → (∀ c q, o ≠ LamX.CodeO c q) → H' b = some o := fun {b o} z n1 n2 => Bk.h _ _ (remC_iff.mpr ⟨fun hm => by
    obtain ⟨ps, e1⟩ := tabl hm
    rw [z] at e1
    exact n1 ps (Option.some.inj e1), up1 z (.inl n1), n2⟩)
  have hfree : ∀ y ∈ (defScope si__law_clearing).names, y.2 = .free → (defScope s__law_clearing).names.lookup y.1 = some .cell ∨ (defScope s__law_clearing).names.lookup y.1 = some .free := ndef_free (fr := fi__law_clearing) (by decide +kernel)
  refine wm_cons (WS.of (ps_ndefM (T := tsN Ts) (nm := fun _ _ => qi__law_clearing) (i := 2) TB rfl (List.mem_map.mpr ⟨_, hP, rfl⟩) rfl (fun p hp e1 => ?_) hfree rfl rfl rfl C.ndX (C.at rfl) (C.loc (.inl rfl)) (.inl rfl)) ⟨tsN_of TR fun t ht tt => tt, fun f1 c1 H2 eN nn T2 f0n f1e c1e => ?_⟩)
  · obtain ⟨t, ht, rfl⟩ := List.mem_map.mp hp
    show (fun _ _ => t.2) = _
    rw [hnd t ht e1]
  refine wm_ret C' (i := 2) (v := .ref f1) rfl ?_
  intro ob co em
  have s2 : Same (noT Hb') H2 := fun b o z => eN b o (Bk.s _ _ (noT_same _ _ z)) fun ps y => noT_no Hb' b ps (by rw [z, y])
  obtain ⟨cp, sub⟩ := cellP_of (ws := [.ref f0]) sci__law_clearing co em.inj (fun y h => L2.cell_has h) (fun y hy => by
    simp only [List.mem_cons, List.not_mem_nil, or_false] at hy
    rcases hy with rfl
    rfl) rfl (fun i y hi => by
    match i, hi with
    | 0, hi => cases hi; exact ⟨1, _, rfl, rfl, rfl⟩
    | i + 1, hi => cases hi)
  have nbT : ∀ {b}, Hb' b = none → noT Hb' b = none := fun {b} z => L2.Same.free noT_same z
  have hiddn : ∀ {b}, hideT H (Ts.map Prod.fst) b = none → H2 b ≠ none → H b = none := fun {b} z zz => by
    have z : (if hidB H (Ts.map Prod.fst) b = true then none else H b) = none := z
    split at z
    · rename_i hh
      exact absurd (em.hid b hh) zz
    · exact z
  obtain ⟨Hb3, Bk3, s3, g1, g2, g3, g4⟩ := maker_end (Hb := Hb) (Hb2 := noT Hb') (ob := ob) em (fun b o n n2 z => eN b o (upc z n n2) n) (fun b o z => noT_of (Bk.b _ _ z) fun ps y => nt b ps (by rw [z, y])) s2 (fun b o n z n2 => by
    cases hx : noT Hb' b with
    | none => rfl
    | some x =>
      exfalso
      have hx2 := s2 _ _ hx
      have hx1 := noT_same _ _ hx
      rcases Classical.em (∃ ps, o = .tbl ps) with ⟨ps, rfl⟩ | hn
      · rcases Classical.em (b ∈ Ts.map Prod.fst) with hm | hm
        · obtain ⟨t, ht, rfl⟩ := List.mem_map.mp hm
          rw [(TR t ht).2] at hx1
          cases hx1
        · rw [em.hid b (hidB_iff.mpr ⟨⟨ps, z⟩, hm⟩)] at hx2
          cases hx2
      · have : Hb' b = none := Bk.n b n (by
          show remC _ _ b ≠ none
          rw [remC_iff.mpr ⟨fun hm => by
            obtain ⟨ps, e1⟩ := tabl hm
            rw [z] at e1
            exact hn ⟨ps, Option.some.inj e1⟩, up1 z (.inl fun ps y => hn ⟨ps, y⟩), n2⟩]
          exact fun z => nomatch z)
        rw [this] at hx1
        cases hx1) (fun o z => by
    rcases Classical.em (∃ c q, o = LamX.CodeO c q) with y | y
    · exact y
    · exfalso
      have z1 : (if hidB H (Ts.map Prod.fst) f1 = true then none else H f1) = some o := z
      split at z1
      · cases z1
      · rename_i hh
        rcases Classical.em (∃ ps, o = .tbl ps) with ⟨ps, rfl⟩ | hn
        · have hm : f1 ∈ Ts.map Prod.fst := hideT_tbl z
          obtain ⟨t, ht, rfl⟩ := List.mem_map.mp hm
          obtain ⟨⟨ps2, e1, _⟩, _⟩ := TR t ht
          rw [e1] at f0n
          cases f0n
        · have := upc z1 (fun ps y => hn ⟨ps, y⟩) (fun c q w => y ⟨c, q, w⟩)
          rw [f0n] at this
          cases this) f1e c1e
  have ne3 : ∀ {b xs}, H' b = some (.lst xs) → H2 b = some (.lst xs) := fun {b xs} z => eN _ _ z (fun ps y => nomatch y)
  have fresh3 : ∀ {b xs}, H' b = some (.lst xs) → Hb' b = none → Hb3 b = none := fun {b xs} z n => g4 b (nbT n) (fun y => by rw [← y, z] at f0n; cases f0n) (fun y => by
    have := ne3 z
    rw [y, c1e] at this
    exact noTb_lst.c _ _ (Option.some.inj this).symm) fun y => by
    have := ne3 z
    rw [(em.cell b y).2] at this
    cases this
  have sup0 : Sup L0 (noT Hb') := hφ0 _ noT_ext
  have dj : ∀ q ∈ L0, q.1 ∉ csOf (cloFrom (cellsFrom (s.heap.objs.size + 1) (defScope s__law_clearing).names []) (defScope si__law_clearing).names []) := fun q hq z => by
    have := s2 _ _ (sup0 q hq)
    rw [(em.cell _ (sub _ z)).2] at this
    cases this
  refine fk (.ref f1) Hb3 _ (.clo f1 (Sup (cloL f1 (clearF (cloFrom (cellsFrom (s.heap.objs.size + 1) (defScope s__law_clearing).names []) (defScope si__law_clearing).names []) c1) ob L0))) [(a0, [.int 0])] Bk3 (tabs_end (cs := csOf (cellsFrom (s.heap.objs.size + 1) (defScope s__law_clearing).names [])) T2 (fun b o z => em.up z) (fun t ht => nbT (TR t ht).2) f1e c1e (fun c hc => (em.cell c hc).2) g4) (at_clo ?_ (cloL_no nt0)) ⟨f1, _, a0, rfl, cloL_no nt0, rfl, pik_clear nt0 pk cp dj⟩ ⟨by simp, fun g hg => ?_⟩ fun g hg => ?_
  · exact cloL_mk g1 g2 (fun c hc => g3 c (sub c hc)) (sup0.same s3)
  · simp only [List.mem_cons, List.not_mem_nil, or_false] at hg
    rcases hg with rfl
    refine ⟨fresh3 a0e na0, _, em.up (ne3 a0e), ?_⟩
    cases A0e with
    | cons i0 A0e =>
      cases A0e
      cases i0
      exact .cons (.int 0) .nil
  · simp only [List.mem_cons, List.not_mem_nil, or_false] at hg
    rcases hg with rfl
    exact hiddn (fg _ List.mem_cons_self) (by rw [ne3 a0e]; exact fun z => nomatch z)
end
end DL
namespace DL
open PySem PySem.Spec PyProof.Rows L2
/-! ### the one table -/
def noTbS : Sl → Bool
  | .tb _ _ => false
  | _ => true
theorem tbIn1 {ρ : List Sl} {Pt : Addr} {q : Str} (e : ρ = ρ.dropLast ++ [.tb Pt q]) (h : ρ.dropLast.all noTbS = true) : TbIn ρ [(Pt, q)] := by
  have key : ∀ {j : Nat} {s : Sl}, ρ[j]? = some s → s = .tb Pt q ∨ noTbS s = true := fun {j s} hj => by
    rw [e] at hj
    rcases List.mem_append.mp (List.mem_of_getElem? hj) with z | z
    · exact .inr (List.all_eq_true.mp h _ z)
    · exact .inl (List.mem_singleton.mp z)
  refine ⟨fun t ht => ?_, fun j P q' hj => ?_, List.cons_ne_nil _ _⟩
  · rw [List.mem_singleton] at ht
    subst ht
    refine ⟨ρ.dropLast.length, ?_⟩
    have : (ρ.dropLast ++ [Sl.tb Pt q])[ρ.dropLast.length]? = some (.tb Pt q) := by rw [List.getElem?_append_right (Nat.le_refl _), Nat.sub_self]; rfl
    rwa [← e] at this
  · rcases key hj with z | z
    · cases z
      exact List.mem_cons_self
    · cases z
theorem tbIn1' {ρ ρ0 : List Sl} {Pt : Addr} {q : Str} (e : ρ = ρ0 ++ [.tb Pt q]) (h : ∀ s ∈ ρ0, noTbS s = true) : TbIn ρ [(Pt, q)] := by
  have e2 : ρ.dropLast = ρ0 := by rw [e, List.dropLast_concat]
  exact tbIn1 (by rw [e2]; exact e) (by rw [e2]; exact List.all_eq_true.mpr h)
/-- a captured name takes a comprehension as any value -/
theorem noSwapC {X : Cx} {W : WX} {N : List Str} {sc scope : Scope} {k : Nat} {elt : Expr} {px pos : Pos} (C : Ctx X W N sc k) {y : Str} {ln : Nat} {gens : List Comprehension} (h : sc.names.lookup y = some .cell) : swapsWith (.ListComp elt gens scope pos) (some (.Name y px)) ln X.env = pure false := by
  have k1 : (X.env.kindOf y == some .local) = false := by
    unfold Env.kindOf
    rw [C.hs, h]
    rfl
  have e : (X.env.blockKind == .function && X.env.kindOf y == some .local && px.line == pos.line && !(scope.names.any fun (n, k) => n == y && (k == .local || k == .cell))) = false := by
    rw [k1, Bool.and_false, Bool.false_and, Bool.false_and]
  show (pure _ : Sem Bool) = pure false
  rw [← e]
  rfl
def S_lawT (ds : List D) (d : D) : Prop := ∃ ns : List Int, ds = [lstI ns] ∧ ns.length ≤ 63 ∧ d = .bl true
/-- more tables than one -/
theorem tbInN (n : Nat) {ρ : List Sl} {Ts : TS2} (e : ρ = ρ.take n ++ tbl Ts) (h : (ρ.take n).all noTbS = true) (ne : Ts ≠ []) : TbIn ρ Ts := by
  have key : ∀ {j : Nat} {s : Sl}, ρ[j]? = some s → (∃ t ∈ Ts, s = .tb t.1 t.2) ∨ noTbS s = true := fun {j s} hj => by
    rw [e] at hj
    rcases List.mem_append.mp (List.mem_of_getElem? hj) with z | z
    · exact .inr (List.all_eq_true.mp h _ z)
    · obtain ⟨t, ht, rfl⟩ := List.mem_map.mp z
      exact .inl ⟨t, ht, rfl⟩
  refine ⟨fun t ht => ?_, fun j P q' hj => ?_, ne⟩
  · have hm : Sl.tb t.1 t.2 ∈ ρ := by
      rw [e]
      exact List.mem_append_right _ (List.mem_map.mpr ⟨t, ht, rfl⟩)
    exact List.mem_iff_getElem?.mp hm
  · rcases key hj with ⟨t, ht, z⟩ | z
    · cases z
      exact ht
    · cases z
/-- [a, b], b a call that changes what stands apart -/
theorem kn_lst2 {X : Cx} {W : WX} {ρ : List Sl} {Z : DZ} {a b : Expr} {pos : Pos} {Φ : List D → Prop} (h : EW X W ρ a (fun d1 => KW X W ρ ρ b (fun d2 => Φ [d1, d2]) Z) Z) (hs : starEach [a, b] X.env = (false, eval a X.env) :: starEach [b] X.env := by exact star_nst rfl) (hs2 : starEach [b] X.env = (false, eval b X.env) :: starEach [] X.env := by exact star_nst rfl) : KN X W ρ ρ (.List [a, b] pos) Φ Z := fun H0 σ Hb H R z =>
  WE.of (pe_lst (pa_cons pe_w (pa_cons pe_w pa_nil hs2) hs)) (h.run R z.rz fun d1 v1 Hb1 H1 f1 R1 s1 a1 _ => (f1 H0 σ Hb1 H1 R1 z).mono fun v2 H2 ⟨d2, Hb2, f2, R2, s2, a2⟩ => ⟨(by decide : 2 ≤ sizeLine), fun p hp => ⟨[d1, d2], Hb2, p, [v1, v2], rfl, f2, R2.allocN hp, L2.Same.trans s1.b s2, R2.b1.free hp, upd_same, .cons (a1.mono s2) (.cons a2 .nil), R2.b0.free hp, fun j q es hq e => by
    obtain ⟨l, xs, e1, _, q1, _⟩ := R2.own j q es hq
    rw [e] at e1
    cases e1
    rw [hp] at q1
    cases q1⟩⟩)
theorem sw_retTE {X : Cx} {W : WX} {ρ : List Sl} {e : Expr} {pos : Pos} {rest : List Stmt} {E : DE} {Ts : TS2} {d : D} (hr : E.rt (.gen (PsiT X.K d Ts))) (ti : TbIn ρ Ts) (h : EW X W ρ e (fun d' => d' = d) NoZ) : SW X W ρ (.Return (some e) pos :: rest) E := sw_cons fun H0 σ Hb H R xx =>
  WS.of (ps_ret pe_w) (h.run R rz_no fun d' v Hb' H' f R' s a _ => by
    subst f
    exact ⟨.gen (PsiT X.K d' Ts), hr, Hb', R'.back, a, (tbs_of R' ti).1⟩)
end DL
namespace DL
open PySem PySem.Spec PyProof.Rows L2
/-! ### is False, is not False -/
section
variable {X : Cx} {W : WX} {ρ : List Sl} {Z : DZ} {N : List Str} {sc : Scope} {k j : Nat} {a b : Expr} {pos pos' : Pos} {Φ : D → Prop}
theorem rIsB_mono : R2mono rIsB := fun _ _ _ _ _ k ⟨a, b, e1, e2, q⟩ => ⟨a, b, e1, e2, k _ _ q⟩
theorem rNotB_mono : R2mono rNotB := fun _ _ _ _ _ k ⟨a, b, e1, e2, q⟩ => ⟨a, b, e1, e2, k _ _ q⟩
theorem ew_isB {c : Bool} (h : EW X W ρ a (fun x => ∃ t, x = .bl t ∧ Φ (.bl (decide (t = c)))) Z) : EW X W ρ (.Compare a [.Is] [.Constant (.bool c) j pos'] pos) Φ Z :=
  ew_cmp op_isBl rIsB_mono (nomark _) (h.mono fun x ⟨t, e, f⟩ => ew_bl fun H0 ρ σ Hb H v u R a b => by
    subst e
    cases a
    cases b
    exact ⟨_, _, rfl, rfl, endE f R Gr.refl (.bl _)⟩)
theorem tw_notB {Φ : Bool → Prop} {c : Bool} (h : EW X W ρ a (fun x => ∃ t, x = .bl t ∧ Φ (!decide (t = c))) Z) : TW X W ρ (.Compare a [.IsNot] [.Constant (.bool c) j pos'] pos) Φ Z :=
  tw_cmp op_notBl rNotB_mono (nomark _) (h.mono fun x ⟨t, e, f⟩ => ew_bl fun H0 ρ σ Hb H v u R a b => by
    subst e
    cases a
    cases b
    exact ⟨_, _, rfl, rfl, endE ⟨_, rfl, f⟩ R Gr.refl (.bl _)⟩)
end
/-! ### _law_too_great -/
def greatL : List (List Int) := [[99, 99], [98, 99], [97, 98, 99], [0, 1, 99, 99]]
theorem great_ok : ∀ pl ∈ greatL, isPileD (tupI pl) = true ∧ ¬ worthL pl < fw 100 := by
  have : greatL.all (fun pl => isPileD (tupI pl) && decide (¬ worthL pl < fw 100)) = true := by decide +kernel
  intro pl h
  have := List.all_eq_true.mp this pl h
  simpa using this
theorem great_gone {ch : Nat → List Int → Nat} (c : Ch ch) {pl : List Int} (h : isPileD (tupI pl) = true) (w : ¬ worthL pl < fw 100) : Gone ch 0 pl none := by
  obtain ⟨o, ho⟩ := gone_any c 0 h
  rcases gone_row ho h with ⟨_, _, lt, _⟩ | ⟨rfl, _⟩
  · exact absurd lt w
  · exact ho
theorem wk_none {pl : List Int} {e : D} {es : List D} (h : nxtF pl e = none) : wkF pl (e :: es) = (0, pl) := by rw [wk_cons, h]
theorem wk_some {pl q : List Int} {e : D} {es : List D} (h : nxtF pl e = some q) : wkF pl (e :: es) = ((wkF q es).1 + 1, (wkF q es).2) := by rw [wk_cons, h]
theorem nx_mv {pl : List Int} {m : Bool × Int} (h0 : 0 ≤ m.2) (h9 : m.2 ≤ 99) : nxtF pl (mvD m) = if hasL pl (goingL m.1 m.2) = true then (if 99 < topC m.1 m.2 then none else some (afterL pl m.1 m.2)) else none := by
  unfold nxtF
  rw [mv_moveD h0 h9]
theorem wk_a : wkF [98, 99] [mvD (true, 98)] = (0, [98, 99]) := wk_none (by rw [nx_mv (by decide) (by decide), if_pos (by decide), if_pos (by decide)])
theorem wk_b : (wkF [0, 0, 99, 99] [mvD (false, 0), mvD (false, 99)]).1 = 1 := by
  rw [wk_some (q := afterL [0, 0, 99, 99] false 0) (by rw [nx_mv (by decide) (by decide), if_pos (by decide), if_neg (by decide)])]
  have : nxtF (afterL [0, 0, 99, 99] false 0) (mvD (false, 99)) = none := by
    rw [nx_mv (by decide) (by decide)]
    by_cases hh : hasL (afterL [0, 0, 99, 99] false 0) (goingL false 99) = true
    · rw [if_pos hh, if_pos (by decide)]
    · rw [if_neg hh]
  rw [wk_none this]
theorem wk_c : wkF [99, 99] [mvD (false, 99)] = (0, [99, 99]) := wk_none (by rw [nx_mv (by decide) (by decide), if_pos (by decide), if_pos (by decide)])
section
variable {P : Program} {w : World} {K : PySem.W.Frag} {mg : Str → Option Value} {base : Heap} {f : Addr} {fd : FuncData} {ad : Rf → Addr}
def S_great (ds : List D) (d : D) : Prop := ∃ cs : List Int, ds = [lstI cs] ∧ cs ≠ [] ∧ d = .bl true
theorem fn_great {P1 P2 : Addr} (F : Fun K "_law_too_great" "_law_too_great" s__law_too_great f fd) (B : Bt mg) (F1 : Df P w K mg base "_law_tried" 31 2 (S_tried P w K mg base ad)) (F2 : Df P w K mg base "paper_of" 7 1 (S_paper1 P w K mg base ad)) (F3 : Dg P w K mg base "_law_tried" 31 (spC K 2 1 (S_triedC P w K mg base ad 1))) (F4 : Dg P w K mg base "paper_of" 7 (spC K 2 1 (S_paperC P w K mg base ad)))
    (F5 : Dg P w K mg base "_law_pick" 3 (spM K 1 [(P1, qi__law_pick), (P2, qi__law_clearing)] (S_pickM P w K mg base))) (F6 : Df P w K mg base "fails_at" 6 2 (S_fails ad)) (F7 : Df P w K mg base "is_right" 6 3 (S_right ad)) (F8 : Df P w K mg base "_law_right_of" 7 1 (S_right_of ad)) :
    FnG P w K mg base f 32 (spT K 1 [(P1, qi__law_pick), (P2, qi__law_clearing)] S_great) := by
  refine fn_defT (Ts := [(P1, qi__law_pick), (P2, qi__law_clearing)]) F sc__law_too_great (F.binds fun _ _ _ _ _ _ us hl => match us, hl with | [_], _ => rfl) (by show 2 ≤ 3; decide) (by decide +kernel) fun ds d hS hl X W O C0 => ?_
  obtain ⟨rfl, rfl, rfl, rfl, rfl⟩ := O
  obtain ⟨cs, rfl, hne, rfl⟩ := hS
  have C : CtxD X W (N__law_too_great ++ phs 2) (defScope s__law_too_great) 31 := C0
  have C' := C.toCtx
  obtain ⟨a1, m1, G1⟩ := F2
  obtain ⟨a2, m2, G2⟩ := F4
  obtain ⟨a3, m3, G3⟩ := F6
  obtain ⟨a4, m4, G4⟩ := F8
  have te : eqD (.str "TooGreat") (.str "TooGreat") = true := eqD_refl _
  have ne : eqD (.str "NoPile") (.str "NoPile") = true := eqD_refl _
  show SW X W [.dat (lstI cs), .em, .tb P1 qi__law_pick, .tb P2 qi__law_clearing] _ _
  refine sw_for C (Tg.name 1 rfl (.inl rfl)) <| iw_list <| ew_new <| en_lst <| aw_gen (greatL.map tupI) (fun Φ q => ?_) ⟨szl rfl, _, rfl, fun i ρ' => ∃ s1, noTbS s1 = true ∧ ρ' = [.dat (lstI cs), s1, .tb P1 qi__law_pick, .tb P2 qi__law_clearing], ⟨_, rfl, rfl⟩, ?_, ?_⟩
  · refine aw_tup <| aw_cons <| ew_int <| aw_cons <| ew_int <| aw_nil ⟨szl rfl, aw_tup <| aw_cons <| ew_int <| aw_cons <| ew_int <| aw_nil ⟨szl rfl, ?_⟩⟩
    exact aw_tup <| aw_cons <| ew_int <| aw_cons <| ew_int <| aw_cons <| ew_int <| aw_nil ⟨szl rfl, aw_tup <| aw_cons <| ew_int <| aw_cons <| ew_int <| aw_cons <| ew_int <| aw_cons <| ew_int <| aw_nil ⟨szl rfl, aw_nil q⟩⟩
  · rintro i d ρ' hd ⟨s1, n1, rfl⟩
    obtain ⟨pl, hpl, _, rfl⟩ := map_at hd
    obtain ⟨hp, hw⟩ := great_ok pl (List.mem_of_getElem? hpl)
    have bw := pile_wt hp
    refine ⟨_, rfl, ?_⟩
    refine sw_if <| tw_ne C' <| ew_df C' F1 <| aw_cons <| ew_globF C' rfl m1 <| aw_cons <| ew_new <| en_lst <| aw_cons <| nv 1 rfl C' <| aw_nil ⟨szl rfl, aw_nil ⟨rfl, .ret (.str "TooGreat"), ⟨a1, 7, 1, _, _, .exc (ad .tg), rfl, G1, by decide, rfl, .inl rfl, .inr ⟨pl, .non, none, rfl, ⟨hp, .inl ⟨rfl, rfl, great_gone ch0_ok hp hw⟩⟩, rfl⟩, told_exc .tg⟩, ew_str ⟨eqL rfl rfl rfl, fun h => ?_, fun _ => sw_nil ?_⟩⟩⟩
    · rw [te] at h
      cases h
    refine sw_ifK <| kt_ne C' <| kw_callC C' F3 <| ac_cons <| ew_globF C' rfl m2 <| ac_one <| cw_lst <| ac_cons <| nv 1 rfl C' <| ac_one <| cw_make C' F5 (tbInN 2 rfl rfl (List.cons_ne_nil _ _)) <| aw_cons <| nv 0 rfl C' <| aw_nil ⟨rfl, _, ⟨cs, rfl, hne, rfl⟩, ?_⟩
    rintro d gs ⟨f0, L, a, rfl, nL, rfl, pk⟩
    refine ⟨szl rfl, rfl, rfl, .ret (.str "TooGreat"), ⟨a2, 7, _, _, _, .exc (ad .tg), rfl, G2, by decide, .inr ⟨pl, _, none, rfl, ⟨hp, .inr ⟨f0, Sup L, [a], _, chP cs, 800000, rfl, rfl, pk.pik.up (by decide), by omega, by decide, great_gone (chP_ok cs) hp hw⟩⟩, rfl⟩, told_exc .tg⟩, ew_str ⟨eqL rfl rfl rfl, fun h => ?_, fun _ => sw_nil <| sw_nil ⟨_, rfl, rfl⟩⟩⟩
    rw [te] at h
    cases h
  · rintro ρ' ⟨s1, n1, rfl⟩
    have ti : TbIn [.dat (lstI cs), s1, .tb P1 qi__law_pick, .tb P2 qi__law_clearing] [(P1, qi__law_pick), (P2, qi__law_clearing)] := tbInN 2 rfl (by show (true && (noTbS s1 && true)) = true; rw [n1]; rfl) (List.cons_ne_nil _ _)
    have f1 : fmD [98, 99] [mvD (true, 98)] = .int 0 := by rw [fmD, wk_a]; rfl
    have f2 : fmD [0, 0, 99, 99] [mvD (false, 0), mvD (false, 99)] = .int 1 := by rw [fmD, wk_b]; rfl
    refine sw_if <| tw_neI C' <| ew_df C' F1 <| aw_cons <| ew_globF C' rfl m3 <| aw_cons <| ew_new <| en_lst <| aw_tup <| aw_cons <| ew_int <| aw_cons <| ew_int <| aw_nil ⟨szl rfl, aw_cons <| ew_new <| en_lst <| aw_tup <| aw_cons <| ew_str <| aw_cons <| ew_int <| aw_nil ⟨szl rfl, aw_nil ⟨szl rfl, aw_nil ⟨szl rfl, aw_nil ⟨rfl, .ret (.int 0), ⟨a3, 6, 2, _, _, .ret (fmD [98, 99] [mvD (true, 98)]), rfl, G3, by decide, rfl, .inr rfl, ⟨_, [mvD (true, 98)], rfl, rfl, en_mvs [(true, 98)], .inr ⟨[98, 99], rfl, by decide, rfl⟩⟩, by rw [f1]; exact told_ret rfl⟩, ew_int ⟨_, _, rfl, rfl, (fun h => nomatch h), fun _ => sw_nil ?_⟩⟩⟩⟩⟩⟩
    refine sw_if <| tw_neI C' <| ew_df C' F1 <| aw_cons <| ew_globF C' rfl m3 <| aw_cons <| ew_new <| en_lst <| aw_tup <| aw_cons <| ew_int <| aw_cons <| ew_int <| aw_cons <| ew_int <| aw_cons <| ew_int <| aw_nil ⟨szl rfl, aw_cons <| ew_new <| en_lst <| aw_tup <| aw_cons <| ew_str <| aw_cons <| ew_int <| aw_nil ⟨szl rfl, aw_tup <| aw_cons <| ew_str <| aw_cons <| ew_int <| aw_nil ⟨szl rfl, aw_nil ⟨szl rfl, aw_nil ⟨szl rfl, aw_nil ⟨rfl, .ret (.int 1), ⟨a3, 6, 2, _, _, .ret (fmD [0, 0, 99, 99] [mvD (false, 0), mvD (false, 99)]), rfl, G3, by decide, rfl, .inr rfl, ⟨_, [mvD (false, 0), mvD (false, 99)], rfl, rfl, en_mvs [(false, 0), (false, 99)], .inr ⟨[0, 0, 99, 99], rfl, by decide, rfl⟩⟩, by rw [f2]; exact told_ret rfl⟩, ew_int ⟨_, _, rfl, rfl, (fun h => nomatch h), fun _ => sw_nil ?_⟩⟩⟩⟩⟩⟩⟩
    refine sw_retT ti <| ew_and <| ew_isB <| ew_df C' F7 <| aw_tup <| aw_cons <| ew_int <| aw_cons <| ew_int <| aw_nil ⟨szl rfl, aw_cons <| ew_new <| en_lst <| aw_tup <| aw_cons <| ew_str <| aw_cons <| ew_int <| aw_nil ⟨szl rfl, aw_nil ⟨szl rfl, aw_tup <| aw_cons <| ew_int <| aw_nil ⟨szl rfl, aw_nil ⟨rfl, .ret (.bl false), ?_, false, rfl, true, rfl, fun _ => ?_, fun h => nomatch h⟩⟩⟩⟩⟩
    · refine ⟨_, _, _, rfl, rfl, rfl, rfl, .inr (.inr ⟨[99, 99], [mvD (false, 99)], [97], rfl, rfl, rfl, by decide, by decide, en_mvs [(false, 99)], ?_⟩)⟩
      rw [rightB, wk_c]
      rfl
    · exact ew_one <| ew_eq C' <| ew_df C' F1 <| aw_cons <| ew_globF C' rfl m4 <| aw_cons <| ew_new <| en_lst <| aw_tup <| aw_cons <| ew_int <| aw_cons <| ew_int <| aw_nil ⟨szl rfl, aw_nil ⟨szl rfl, aw_nil ⟨rfl, .ret (.str "NoPile"), ⟨a4, 7, 1, _, _, .exc (ad .np), rfl, G4, by decide, rfl, .inl rfl, ⟨_, rfl, rfl, by decide, rfl⟩, told_exc .np⟩, ew_str ⟨eqL rfl rfl rfl, by rw [ne]⟩⟩⟩⟩
end
end DL
namespace DL
open PySem PySem.Spec PyProof.Rows L2
theorem gone_wk {ch : Nat → List Int → Nat} {n : Nat} {pl : List Int} {o : Option (List (Bool × Int) × List Int)} (g : Gone ch n pl o) : isPileD (tupI pl) = true → ∀ x, o = some x → wkF pl (x.1.map mvD) = (x.1.length, x.2) := by
  induction g with
  | stop hm =>
    intro h x e
    cases e
    rfl
  | great e ht => intro h x z; cases z
  | @step n pl m o e ht g ih =>
    intro h x z
    have mem := List.mem_of_getElem? e
    obtain ⟨_, h2, _⟩ := isPile_tupI.mp h
    obtain ⟨h0, h9, hh⟩ := (mem_moves h2).mp mem
    cases o with
    | none => cases z
    | some y =>
      cases z
      have k := ih (aft_pile h mem ht) y rfl
      show wkF pl (mvD m :: y.1.map mvD) = _
      rw [wk_some (q := afterL pl m.1 m.2) (by rw [nx_mv h0 h9, if_pos hh, if_neg ht]), k]
      rfl
theorem small_worth : ∀ {pl : List Int}, (∀ n ∈ pl, 0 ≤ n ∧ n ≤ 40) → worthL pl ≤ (pl.length : Int) * fw 40
  | [], _ => by show (0 : Int) ≤ _; simp
  | a :: pl, h => by
    have h1 := small_worth fun n hn => h n (List.mem_cons_of_mem a hn)
    obtain ⟨h2, h3⟩ := h a List.mem_cons_self
    have h4 : fw a.toNat ≤ fw 40 := fw_mono (by omega)
    rw [worthL_cons, List.length_cons]
    push_cast
    rw [Int.add_mul, Int.one_mul]
    omega
theorem fw40_small : 63 * fw 40 < fw 100 := by decide +kernel
theorem pure_two {a : Int} {t : D} (h : t.pure = true) : (D.lst [.int a, t]).pure = true := by simp [D.pure, pureAll, h]
theorem dep_two {a : Int} {t : D} (h : t.dep ≤ 10) : (D.lst [.int a, t]).dep ≤ 60 := by
  simp only [D.dep, depAll]
  omega
def otherL (rr pl : List Int) : List (List Int) := [rr, rr ++ cutG (rr ++ [0]) (some (-1)) none, cutG rr (some 1) none, pl]
section
variable {P : Program} {w : World} {K : PySem.W.Frag} {mg : Str → Option Value} {base : Heap} {f : Addr} {fd : FuncData} {ad : Rf → Addr}
theorem ok_law {P1 P2 : Addr} (F : Fun K "law" "law" s_law f fd) (B : Bt mg) (F1 : Df P w K mg base "_law_pile" 2 3 S_pile) (F2 : Dg P w K mg base "_law_pick" 3 (spM K 1 [(P1, qi__law_pick), (P2, qi__law_clearing)] (S_pickM P w K mg base))) (F3 : Dg P w K mg base "_law_clearing" 4 (spM K 1 [(P1, qi__law_pick), (P2, qi__law_clearing)] (S_clearM P w K mg base)))
    (F4 : Dg P w K mg base "paper_of" 7 (spC K 2 1 (S_paperC P w K mg base ad))) (F5 : Dg P w K mg base "paper_of" 7 (spC K 2 0 (S_paperC P w K mg base ad))) (F6 : Df P w K mg base "paper_of" 7 1 (S_paper1 P w K mg base ad)) (F7 : Dg P w K mg base "settled" 7 (spC K 2 1 (S_settledC P w K mg base ad)))
    (F8 : Df P w K mg base "_law_worth" 2 1 S_lworth) (F9 : Df P w K mg base "_law_row" 2 1 S_lrow) (Fa : Df P w K mg base "weight" 4 1 (S_weight ad)) (Fb : Df P w K mg base "_law_walked" 3 2 S_lwalked) (Fc : Df P w K mg base "_law_judged" 7 3 S_judged) (Fd : Df P w K mg base "_law_by_firsts" 3 1 S_firsts) (Fe : Df P w K mg base "_law_mix" 1 2 S_mix)
    (Ff : Df P w K mg base "_law_spoilt" 1 2 S_spoilt) (Fg : Df P w K mg base "is_right" 6 3 (S_right ad)) (Fh : Dg P w K mg base "_law_too_great" 32 (spT K 1 [(P1, qi__law_pick), (P2, qi__law_clearing)] S_great)) (Fi : Df P w K mg base "_law_tried" 31 2 (S_tried P w K mg base ad)) (Fj : Df P w K mg base "fails_at" 6 2 (S_fails ad)) :
    FnOk P w K mg base (L2.CX P w) 40 f fd ["_law_script"] (spT K 1 [(P1, qi__law_pick), (P2, qi__law_clearing)] S_lawT) := by
  refine fnOk_defT F sc_law (Ts := [(P1, qi__law_pick), (P2, qi__law_clearing)]) (by show 2 ≤ 3; decide) (by decide +kernel) fun ds d hS hl X W O C0 => ?_
  obtain ⟨rfl, rfl, rfl, rfl, rfl⟩ := O
  obtain ⟨ns, rfl, hz, rfl⟩ := hS
  have C : CtxD X W (N_law ++ phs 2) (defScope s_law) 39 := C0
  have C' := C.toCtx
  obtain ⟨a5, m5, G5⟩ := F5
  have F5' : Df X.prog X.w X.K X.mg X.base "paper_of" 7 2 (fun ds r => S_paperC X.prog X.w X.K X.mg X.base ad ds [] r) := ⟨a5, m5, G5.c0⟩
  obtain ⟨a6, m6, G6⟩ := id F6
  obtain ⟨aj, mj, Gj⟩ := Fj
  have te : eqD (.str "NoPile") (.str "NoPile") = true := eqD_refl _
  show SW X W [.dat (lstI ns), .em, .em, .em, .em, .em, .em, .em, .em, .em, .em, .em, .em, .tb P1 qi__law_pick, .tb P2 qi__law_clearing] _ _
  obtain ⟨b1, b2, b3⟩ := pileL_bd (ns := ns) (a := 0) (m := 30)
  refine sw_set C (i := 1) <| ew_tuple C' B.tuple <| es_new <| en_lcM (α := Int) (own := [("_law_place_here", 12)]) D.int (fun n => .int (min n 40)) C' (TgB.name 12 rfl rfl (by simp)) (iw_tup <| ew_df C' F1 <| aw_cons <| nv 0 rfl C' <| aw_cons <| ew_int <| aw_cons <| ew_int <| aw_nil ⟨rfl, _, ⟨ns, 0, 30, rfl, by omega, rfl⟩, _, rfl, pileL ns 0 30, rfl, by omega, fun n hn => bi_plain rfl fun s H C0 cl fp Cb => ew_min2 Cb B.min <| nv 12 rfl Cb <| ew_int ⟨_, _, rfl, rfl, rfl⟩, ?_⟩) (blkOk_by (by decide +kernel))
  have epl : (pileL ns 0 30).map (fun n => D.int (min n 40)) = ((pileL ns 0 30).map fun n => min n 40).map D.int := by rw [List.map_map]; rfl
  rw [epl]
  have hp : isPileD (tupI ((pileL ns 0 30).map fun n => min n 40)) = true := by
    refine isPile_tupI.mpr ⟨by rw [List.length_map]; omega, fun n hn => ?_, List.pairwise_map.mpr (b3.imp fun {a b} h => by omega)⟩
    obtain ⟨x, hx, rfl⟩ := List.mem_map.mp hn
    have := b1 x hx
    omega
  have hs40 : ∀ n ∈ (pileL ns 0 30).map (fun n => min n 40), 0 ≤ n ∧ n ≤ 40 := fun n hn => by
    obtain ⟨x, hx, rfl⟩ := List.mem_map.mp hn
    have := b1 x hx
    omega
  have hl63 : ((pileL ns 0 30).map fun n => min n 40).length ≤ 63 := by rw [List.length_map]; omega
  generalize (pileL ns 0 30).map (fun n => min n 40) = pl at *
  have hw : worthL pl < fw 100 := by
    have h1 := small_worth hs40
    have h2 := fw40_small
    have h3 : (pl.length : Int) * fw 40 ≤ 63 * fw 40 := Int.mul_le_mul_of_nonneg_right (by omega) (Int.le_of_lt (fw_pos 40))
    omega
  have bw := pile_wt hp
  have wb : ∀ n ∈ pl, 0 ≤ n ∧ n ≤ 100 := fun n hn => by have := hs40 n hn; omega
  have ft : Fit (worthL pl) := ⟨worth_nn _, hw⟩
  have rle := up_le ft.up
  -- the script's numbers behind
  refine sw_setN C (i := 2) <| en_cat <| es_new <| en_slice <| sv 0 rfl C' ⟨rfl, ew_int ⟨_, rfl, rfl, es_new <| en_lst <| aw_cons <| ew_int <| aw_nil ⟨szl rfl, rfl, ?_, ?_⟩⟩⟩
  · have := cutG_le (ns.map D.int) (some 30) none
    rw [List.length_map] at this
    rw [List.length_singleton]
    exact szn (by omega)
  refine sw_freeze (i := 2) rfl ?_
  have ecs : cutG (ns.map D.int) (some 30) none ++ [D.int 7] = (cutG ns (some 30) none ++ [7]).map D.int := by rw [List.map_append, cutG_map]; rfl
  rw [ecs]
  have hne : cutG ns (some 30) none ++ [7] ≠ [] := by simp
  generalize cutG ns (some 30) none ++ [7] = cs at *
  obtain ⟨o, ho⟩ := gone_any (chP_ok cs) 0 hp
  obtain ⟨ms, rfl, _, gok⟩ : ∃ ms, o = some (ms, rowL (worthL pl)) ∧ worthL pl < fw 100 ∧ GoneOk pl ms (rowL (worthL pl)) := by
    rcases gone_row ho hp with h | ⟨_, h⟩
    · exact h
    · exact absurd hw h
  obtain ⟨o0, ho0⟩ := gone_any ch0_ok 0 hp
  obtain ⟨ms0, rfl, _, gok0⟩ : ∃ ms, o0 = some (ms, rowL (worthL pl)) ∧ worthL pl < fw 100 ∧ GoneOk pl ms (rowL (worthL pl)) := by
    rcases gone_row ho0 hp with h | ⟨_, h⟩
    · exact h
    · exact absurd hw h
  have ew1 := gone_wk ho hp _ rfl
  have hmz : ms.length ≤ 48000 := by
    have h1 := gok.len
    have h2 := (pile_wt gok.pile).1
    omega
  generalize hrr : rowL (worthL pl) = rr at *
  refine sw_setKN C (i := 3) <| kn_callC C' F4 <| ac_cons <| nv 1 rfl C' <| ac_one <| cw_make C' F2 (tbInN 13 rfl rfl (List.cons_ne_nil _ _)) <| aw_cons <| nv 2 rfl C' <| aw_nil ⟨rfl, _, ⟨cs, rfl, hne, rfl⟩, ?_⟩
  rintro d gs ⟨f0, L, a, rfl, nL, rfl, pk⟩
  refine ⟨rfl, rfl, .new (ms.map mvD), .inr ⟨pl, _, some (ms, rr), rfl, ⟨hp, .inr ⟨f0, Sup L, [a], _, chP cs, 800000, rfl, rfl, pk.pik.up (by decide), by omega, by decide, ho⟩⟩, rfl⟩, ?_⟩
  refine sw_set C (i := 4) <| ew_df C' F9 <| aw_cons <| ew_df C' F8 <| aw_cons <| nv 1 rfl C' <| aw_nil ⟨rfl, _, ⟨pl, rfl, wb, by omega, rfl⟩, aw_nil ⟨rfl, .ret (tupI rr), ⟨_, rfl, by rw [hrr]⟩, ?_⟩⟩
  have wm : (D.lst (ms.map mvD)).wty = true := by simp only [D.wty, en_wtyAll (en_mvs ms)]
  refine sw_if <| tw_froz <| tw_bool <| bw_or <| tw_not <| tw_val <| ew_isList C' B <| nv 3 rfl C' ⟨wm, _, rfl, fun _ => ?_, (fun z => nomatch z)⟩
  refine bw_or <| tw_gt <| ew_len C' B.len <| sv 3 rfl C' <| ew_df C' Fa <| aw_cons <| nv 1 rfl C' <| aw_nil ⟨rfl, _, ⟨_, rfl, wty_tupI _, .inr ⟨pl, rfl, hp, rfl⟩⟩, _, _, rfl, rfl, fun _ => ?_, fun h => ?_⟩
  rotate_left
  · have h := of_decide_eq_true h
    rw [List.length_map] at h
    have h1 := gok.len
    have h2 := (pile_wt gok.pile).1
    omega
  refine bw_or1 <| tw_ne C' <| ew_df C' Fb <| aw_cons <| nv 1 rfl C' <| aw_cons <| nv 3 rfl C' <| aw_nil ⟨rfl, _, ⟨pl, ms.map mvD, rfl, hp, en_mvs ms, rfl⟩, ew_new <| en_lst <| aw_cons <| ew_len C' B.len <| sv 3 rfl C' <| aw_cons <| nv 4 rfl C' <| aw_nil ⟨szl rfl, ?_, fun h => ?_, fun _ => sw_nil ?_⟩⟩
  · exact eqok_r (pure_two (pure_tupI _)) (pure_two (pure_tupI _)) (dep_two (by rw [dep_tupI]; decide))
  · rw [ew1, List.length_map, eqD_refl] at h
    cases h
  -- judged, and settled
  refine sw_ifK <| kt_bool <| kb_or <| kt_tw <| tw_froz <| tw_not <| tw_val <| ew_df C' Fc <| aw_cons <| nv 1 rfl C' <| aw_cons <| nv 3 rfl C' <| aw_cons <| nv 4 rfl C' <| aw_nil ⟨rfl, .ret (.bl true), ⟨pl, ms.map mvD, rr, rfl, hp, en_mvs ms, rfl⟩, true, rfl, fun _ => ?_, (fun h => nomatch h)⟩
  refine kb_or1 <| kt_ne C' <| kw_callC C' F7 <| ac_cons <| nv 1 rfl C' <| ac_one <| cw_make C' F2 (tbInN 13 rfl rfl (List.cons_ne_nil _ _)) <| aw_cons <| nv 2 rfl C' <| aw_nil ⟨rfl, _, ⟨cs, rfl, hne, rfl⟩, ?_⟩
  rintro d gs ⟨f0, L, a, rfl, nL, rfl, pk⟩
  refine ⟨rfl, rfl, .ret (tupI rr), ⟨pl, f0, Sup L, some (ms, rr), rfl, ⟨hp, .inr ⟨f0, Sup L, [a], _, chP cs, 800000, rfl, rfl, pk.pik.up (by decide), by omega, by decide, ho⟩⟩, by rw [rowR_yes hw, hrr]⟩, nv 4 rfl C' ⟨eqok_r (pure_tupI _) (pure_tupI _) (by rw [dep_tupI]; decide), fun h => ?_, fun _ => sw_nil ?_⟩⟩
  · rw [eqD_refl] at h
    cases h
  -- by the first moves
  refine sw_setN C (i := 5) <| en_df C' Fd <| aw_cons <| nv 1 rfl C' <| aw_nil ⟨rfl, _, ⟨pl, (ms0, rr), rfl, hp, ho0, rfl⟩, ?_⟩
  refine sw_freeze (i := 5) rfl ?_
  have ok0 : EqOk (.lst (ms0.map mvD)) (.lst (ms0.map mvD)) := en_eqok (en_mvs ms0)
  have p0 : S_paperC X.prog X.w X.K X.mg X.base ad [tupI pl, .non] [] (.new (ms0.map mvD)) := .inr ⟨pl, .non, some (ms0, rr), rfl, ⟨hp, .inl ⟨rfl, rfl, ho0⟩⟩, rfl⟩
  refine sw_if <| tw_bool <| bw_or <| tw_ne C' <| ew_df C' F6 <| aw_cons <| nv 1 rfl C' <| aw_nil ⟨rfl, .new (ms0.map mvD), p0, nv 5 rfl C' ⟨ok0, fun _ => ?_, fun h => ?_⟩⟩
  rotate_left
  · rw [eqD_refl] at h
    cases h
  refine bw_or <| tw_ne C' <| ew_df C' F5' <| aw_cons <| nv 1 rfl C' <| aw_cons <| ew_non <| aw_nil ⟨rfl, .new (ms0.map mvD), p0, nv 5 rfl C' ⟨ok0, fun _ => ?_, fun h => ?_⟩⟩
  rotate_left
  · rw [eqD_refl] at h
    cases h
  refine bw_or1 <| tw_not <| tw_val <| ew_df C' Fc <| aw_cons <| nv 1 rfl C' <| aw_cons <| nv 5 rfl C' <| aw_cons <| nv 4 rfl C' <| aw_nil ⟨rfl, .ret (.bl true), ⟨pl, ms0.map mvD, rr, rfl, hp, en_mvs ms0, rfl⟩, true, rfl, (fun h => nomatch h), fun _ => sw_nil ?_⟩
  refine sw_setN C (i := 6) <| en_list C' B.list <| ov 3 rfl C' ?_
  refine sw_freeze (i := 6) rfl ?_
  have c16 := cutG_le ns none (some 16)
  refine sw_for C (Tg.pair 7 8 rfl rfl (.inl rfl) (.inl rfl)) <| iw_enum C' B.enum <| ew_new <| en_slice <| sv 0 rfl C' ⟨rfl, ew_int ⟨_, rfl, _, rfl, fun i ρ' => ∃ s7 s8 s9 s10, noTbS s7 = true ∧ noTbS s8 = true ∧ noTbS s9 = true ∧ noTbS s10 = true ∧ ρ' = [.dat (lstI ns), .dat (tupI pl), .dat (lstI cs), .own (ms.map mvD), .dat (tupI rr), .dat (.lst (ms0.map mvD)), .dat (.lst (ms.map mvD)), s7, s8, s9, s10, .em, .em, .tb P1 qi__law_pick, .tb P2 qi__law_clearing], ⟨.em, .em, .em, .em, rfl, rfl, rfl, rfl, rfl⟩, ?_, ?_⟩⟩
  · rintro i d ρ' hd ⟨s7, s8, s9, s10, n7, n8, n9, n10, rfl⟩
    rw [cutG_map] at hd
    obtain ⟨c, hci, hil, rfl⟩ := enum_at hd
    refine ⟨_, rfl, ?_⟩
    refine sw_set C (i := 9) <| ew_df C' Fe <| aw_cons <| nv 8 rfl C' <| aw_cons <| ew_add <| ew_int <| nv 7 rfl C' ⟨_, _, rfl, rfl, aw_nil ⟨rfl, _, ⟨c, 90 + (i : Int), rfl, by omega, by omega, rfl⟩, ?_⟩⟩
    have o1 := Int.emod_nonneg (mixZ c (90 + (i : Int)) / 3) (show (4 : Int) ≠ 0 by decide)
    have o2 := Int.emod_lt_of_pos (mixZ c (90 + (i : Int)) / 3) (show (0 : Int) < 4 by decide)
    generalize mixZ c (90 + (i : Int)) = nn at *
    obtain ⟨j, hj⟩ : ∃ j : Nat, nn / 3 % 4 = j := ⟨(nn / 3 % 4).toNat, by omega⟩
    have hj4 : j < (otherL rr pl).length := by show j < 4; omega
    obtain ⟨ot, hot⟩ : ∃ ot, (otherL rr pl)[j]? = some ot := ⟨_, List.getElem?_eq_getElem hj4⟩
    have eo : [tupI rr, D.tup (rr.map D.int ++ cutG (rr.map D.int ++ [.int 0]) (some (-1)) none), .tup (cutG (rr.map D.int) (some 1) none), tupI pl] = (otherL rr pl).map tupI := by
      rw [show rr.map D.int ++ [D.int 0] = (rr ++ [0]).map D.int by rw [List.map_append]; rfl, cutG_map, cutG_map, ← List.map_append]
      rfl
    have sz1 : (rr.map D.int).length + 1 ≤ sizeLine := by rw [List.length_map]; exact szn (by omega)
    have sz2 : (rr.map D.int).length + (cutG (rr.map D.int ++ [.int 0]) (some (-1)) none).length ≤ sizeLine := by
      have := cutG_le (rr.map D.int ++ [.int 0]) (some (-1)) none
      rw [List.length_append, List.length_map, List.length_singleton] at this
      rw [List.length_map]
      exact szn (by omega)
    refine sw_set C (i := 10) <| ew_ix <| es_new <| en_lst <| aw_cons <| nv 4 rfl C' <| aw_cons <| ew_catT <| sv 4 rfl C' ⟨rfl, es_ew <| ew_sliceT <| es_ew <| ew_catT <| sv 4 rfl C' ⟨rfl, es_ew <| ew_tup <| aw_cons <| ew_int <| aw_nil ⟨szl rfl, rfl, sz1, rfl, ew_neg <| ew_int ⟨_, rfl, _, rfl, rfl, sz2, ?_⟩⟩⟩⟩
    refine aw_cons <| ew_sliceT <| sv 4 rfl C' ⟨rfl, ew_int ⟨_, rfl, aw_cons <| nv 1 rfl C' <| aw_nil ⟨szl rfl, ew_mod <| ew_fdiv <| nv 9 rfl C' <| ew_int ⟨_, _, rfl, rfl, ⟨by decide, by decide⟩, ew_int ⟨_, _, rfl, rfl, by decide, _, tupI ot, rfl, by rw [eo]; exact atM tupI hj hot, ?_⟩⟩⟩⟩⟩
    refine sw_if <| tw_froz <| tw_bool <| bw_or <| tw_not <| tw_val <| ew_df C' Fc <| aw_cons <| nv 1 rfl C' <| aw_cons <| ew_df C' Ff <| aw_cons <| nv 3 rfl C' <| aw_cons <| nv 9 rfl C' <| aw_nil ⟨rfl, _, ⟨ms.map mvD, nn, rfl, by rw [List.length_map]; omega, rfl⟩, aw_cons <| nv 10 rfl C' <| aw_nil ⟨rfl, .ret (.bl true), ⟨pl, spoF (ms.map mvD) nn, ot, rfl, hp, spoF_en (en_mvs ms) nn, rfl⟩, true, rfl, fun _ => ?_, (fun h => nomatch h)⟩⟩
    exact bw_or1 <| tw_not <| tw_val <| ew_df C' Fc <| aw_cons <| nv 1 rfl C' <| aw_cons <| nv 3 rfl C' <| aw_cons <| nv 10 rfl C' <| aw_nil ⟨rfl, .ret (.bl true), ⟨pl, ms.map mvD, ot, rfl, hp, en_mvs ms, rfl⟩, true, rfl, (fun h => nomatch h), fun _ => sw_nil <| sw_nil ⟨.dat (.int (i : Nat)), .dat (.int c), .dat (.int nn), .dat (tupI ot), rfl, rfl, rfl, rfl, rfl⟩⟩
  · rintro ρ' ⟨s7, s8, s9, s10, n7, n8, n9, n10, rfl⟩
    have ti : ∀ (x3 s11 : Sl), noTbS x3 = true → noTbS s11 = true → TbIn [.dat (lstI ns), .dat (tupI pl), .dat (lstI cs), x3, .dat (tupI rr), .dat (.lst (ms0.map mvD)), .dat (.lst (ms.map mvD)), s7, s8, s9, s10, s11, .em, .tb P1 qi__law_pick, .tb P2 qi__law_clearing] [(P1, qi__law_pick), (P2, qi__law_clearing)] := fun x3 s11 h3 h11 => tbInN 13 rfl (by
      show (true && (true && (true && (noTbS x3 && (true && (true && (true && (noTbS s7 && (noTbS s8 && (noTbS s9 && (noTbS s10 && (noTbS s11 && (true && true))))))))))))) = true
      rw [h3, h11, n7, n8, n9, n10]
      rfl) (List.cons_ne_nil _ _)
    refine sw_append C' (i := 3) rfl <| ew_str ⟨?_, ?_⟩
    · rw [List.length_map]
      exact Nat.lt_of_lt_of_le (show ms.length < 1000000 by omega) (by decide)
    show SW X W [.dat (lstI ns), .dat (tupI pl), .dat (lstI cs), .own (ms.map mvD ++ [.str "more"]), .dat (tupI rr), .dat (.lst (ms0.map mvD)), .dat (.lst (ms.map mvD)), s7, s8, s9, s10, .em, .em, .tb P1 qi__law_pick, .tb P2 qi__law_clearing] _ _
    refine sw_ifK <| kt_bool <| kb_or <| kt_ne C' <| kw_callC C' F4 <| ac_cons <| nv 1 rfl C' <| ac_one <| cw_make C' F3 (ti _ _ rfl rfl) <| aw_cons <| nv 2 rfl C' <| aw_nil ⟨rfl, _, ⟨cs, rfl, hne, rfl⟩, ?_⟩
    rintro d gs ⟨f0, L, a, rfl, nL, rfl, pk⟩
    refine ⟨rfl, rfl, .new (ms.map mvD), .inr ⟨pl, _, some (ms, rr), rfl, ⟨hp, .inr ⟨f0, Sup L, [a], _, chP cs, 800000, rfl, rfl, pk.up (by decide), by omega, by decide, ho⟩⟩, rfl⟩, nv 6 rfl C' ⟨en_eqok (en_mvs ms), fun _ => ?_, fun h => ?_⟩⟩
    rotate_left
    · rw [eqD_refl] at h
      cases h
    have pe : S_paperC X.prog X.w X.K X.mg X.base ad [tupI [], .non] [] (.new []) := .inr ⟨[], .non, some ([], []), rfl, ⟨by decide, .inl ⟨rfl, rfl, .stop (by decide +kernel)⟩⟩, rfl⟩
    refine kb_or <| kt_tw <| tw_ne C' <| ew_df C' F6 <| aw_tup <| aw_nil ⟨szl rfl, aw_nil ⟨rfl, .new [], pe, ew_new <| en_lst <| aw_nil ⟨szl rfl, eqok_r rfl rfl (by decide), fun _ => ?_, fun h => ?_⟩⟩⟩
    rotate_left
    · rw [eqD_refl] at h
      cases h
    refine kb_or1 <| kt_tw <| tw_not <| tw_val <| ew_df C' Fg <| aw_tup <| aw_nil ⟨szl rfl, aw_cons <| ew_new <| en_lst <| aw_nil ⟨szl rfl, aw_tup <| aw_nil ⟨szl rfl, aw_nil ⟨rfl, .ret (.bl true), ⟨_, _, _, rfl, rfl, rfl, rfl, .inr (.inr ⟨[], [], [], rfl, rfl, rfl, by decide, by decide, (fun e he => nomatch he), ?_⟩)⟩, true, rfl, (fun h => nomatch h), fun _ => sw_nil ?_⟩⟩⟩⟩
    · have : rightB [] [] [] = true := by
        rw [rightB, show movesL (wkF [] []).2 = [] by decide +kernel]
        rfl
      rw [this]
    -- bools for places
    have nb : ∀ (n : Int) (b : Bool), 0 ≤ n → n ≤ 99 → S_right ad [tupI [n], .lst [], .tup [.bl b]] (.ret (.bl false)) := fun n b h0 h9 => ⟨_, _, _, rfl, rfl, rfl, rfl, .inr (.inl ⟨isPile_tupI.mpr ⟨(show 1 ≤ 240 by decide), fun x hx => by rw [List.mem_singleton] at hx; omega, by simp⟩, .inr rfl, rfl⟩)⟩
    refine sw_if <| tw_bool <| bw_or <| tw_notB <| ew_df C' Fg <| aw_tup <| aw_cons <| ew_int <| aw_nil ⟨szl rfl, aw_cons <| ew_new <| en_lst <| aw_nil ⟨szl rfl, aw_tup <| aw_cons <| ew_bl <| aw_nil ⟨szl rfl, aw_nil ⟨rfl, _, nb 1 true (by decide) (by decide), false, rfl, fun _ => ?_, (fun h => nomatch h)⟩⟩⟩⟩
    refine bw_or1 <| tw_notB <| ew_df C' Fg <| aw_tup <| aw_cons <| ew_int <| aw_nil ⟨szl rfl, aw_cons <| ew_new <| en_lst <| aw_nil ⟨szl rfl, aw_tup <| aw_cons <| ew_bl <| aw_nil ⟨szl rfl, aw_nil ⟨rfl, _, nb 0 false (by decide) (by decide), false, rfl, (fun h => nomatch h), fun _ => sw_nil ?_⟩⟩⟩⟩
    refine sw_ifK <| kt_not <| kt_val <| kw_callT C' Fh (ti _ _ rfl rfl) <| aw_cons <| nv 2 rfl C' <| aw_nil ⟨rfl, _, ⟨cs, rfl, hne, rfl⟩, true, rfl, (fun h => nomatch h), fun _ => sw_nil ?_⟩
    have things : ∀ d ∈ ([.non, .tup [], .str "join", .int 5] : List D), S_right ad [tupI [0], d, tupI [0]] (.ret (.bl false)) ∧ S_right ad [tupI [0], .lst [], d] (.ret (.bl false)) := by
      intro d hd
      simp only [List.mem_cons, List.not_mem_nil, or_false] at hd
      rcases hd with rfl | rfl | rfl | rfl
      · exact ⟨⟨_, _, _, rfl, rfl, rfl, rfl, .inr (.inl ⟨by decide, .inl rfl, rfl⟩)⟩, ⟨_, _, _, rfl, rfl, rfl, rfl, .inr (.inl ⟨by decide, .inr rfl, rfl⟩)⟩⟩
      · refine ⟨⟨_, _, _, rfl, rfl, rfl, rfl, .inr (.inl ⟨by decide, .inl rfl, rfl⟩)⟩, ⟨_, _, _, rfl, rfl, rfl, rfl, .inr (.inr ⟨[0], [], [], rfl, rfl, rfl, by decide, by decide, (fun e he => nomatch he), ?_⟩)⟩⟩
        have : rightB [0] [] [] = false := by
          rw [rightB, show decide ((wkF [0] []).2 = []) = false from rfl, Bool.and_false, Bool.and_false]
        rw [this]
      · exact ⟨⟨_, _, _, rfl, rfl, rfl, rfl, .inr (.inl ⟨by decide, .inl rfl, rfl⟩)⟩, ⟨_, _, _, rfl, rfl, rfl, rfl, .inr (.inl ⟨by decide, .inr rfl, rfl⟩)⟩⟩
      · exact ⟨⟨_, _, _, rfl, rfl, rfl, rfl, .inr (.inl ⟨by decide, .inl rfl, rfl⟩)⟩, ⟨_, _, _, rfl, rfl, rfl, rfl, .inr (.inl ⟨by decide, .inr rfl, rfl⟩)⟩⟩
    refine sw_for C (Tg.name 11 rfl (.inl rfl)) <| iw_list <| ew_new <| en_lst <| aw_cons <| ew_non <| aw_tup <| aw_nil ⟨szl rfl, aw_cons <| ew_str <| aw_cons <| ew_int <| aw_nil ⟨szl rfl, _, rfl, fun i ρ' => ∃ s11, noTbS s11 = true ∧ ρ' = [.dat (lstI ns), .dat (tupI pl), .dat (lstI cs), .own (ms.map mvD ++ [.str "more"]), .dat (tupI rr), .dat (.lst (ms0.map mvD)), .dat (.lst (ms.map mvD)), s7, s8, s9, s10, s11, .em, .tb P1 qi__law_pick, .tb P2 qi__law_clearing], ⟨_, rfl, rfl⟩, ?_, ?_⟩⟩
    · rintro i d ρ' hd ⟨s11, n11, rfl⟩
      obtain ⟨t1, t2⟩ := things d (List.mem_of_getElem? hd)
      refine ⟨_, rfl, ?_⟩
      refine sw_if <| tw_bool <| bw_or <| tw_notB <| ew_df C' Fg <| aw_tup <| aw_cons <| ew_int <| aw_nil ⟨szl rfl, aw_cons <| nv 11 rfl C' <| aw_tup <| aw_cons <| ew_int <| aw_nil ⟨szl rfl, aw_nil ⟨rfl, _, t1, false, rfl, fun _ => ?_, (fun h => nomatch h)⟩⟩⟩
      exact bw_or1 <| tw_notB <| ew_df C' Fg <| aw_tup <| aw_cons <| ew_int <| aw_nil ⟨szl rfl, aw_cons <| ew_new <| en_lst <| aw_nil ⟨szl rfl, aw_cons <| nv 11 rfl C' <| aw_nil ⟨rfl, _, t2, false, rfl, (fun h => nomatch h), fun _ => sw_nil <| sw_nil ⟨_, rfl, rfl⟩⟩⟩⟩
    · rintro ρ' ⟨s11, n11, rfl⟩
      refine sw_retT (ti _ _ rfl n11) <| ew_and <| ew_eq C' <| ew_df C' Fi <| aw_cons <| ew_globF C' rfl m6 <| aw_cons <| ew_new <| en_lst <| aw_tup <| aw_cons <| ew_int <| aw_cons <| ew_int <| aw_nil ⟨szl rfl, aw_nil ⟨szl rfl, aw_nil ⟨rfl, .ret (.str "NoPile"), ⟨a6, 7, 1, _, _, .exc (ad .np), rfl, G6, by decide, rfl, .inl rfl, .inl ⟨_, rfl, rfl, rfl, by decide, rfl⟩, told_exc .np⟩, ew_str ⟨eqL rfl rfl rfl, true, by rw [te], fun _ => ?_, fun h => nomatch h⟩⟩⟩⟩
      exact ew_one <| ew_eq C' <| ew_df C' Fi <| aw_cons <| ew_globF C' rfl mj <| aw_cons <| ew_new <| en_lst <| aw_tup <| aw_cons <| ew_int <| aw_cons <| ew_int <| aw_nil ⟨szl rfl, aw_cons <| ew_new <| en_lst <| aw_nil ⟨szl rfl, aw_nil ⟨szl rfl, aw_nil ⟨rfl, .ret (.str "NoPile"), ⟨aj, 6, 2, _, _, .exc (ad .np), rfl, Gj, by decide, rfl, .inr rfl, ⟨_, [], rfl, rfl, (fun e he => nomatch he), .inl ⟨by decide, rfl⟩⟩, told_exc .np⟩, ew_str ⟨eqL rfl rfl rfl, by rw [te]⟩⟩⟩⟩⟩
end
end DL
namespace DL
open PySem PySem.Spec PyProof.Rows L2
/-! ### the end of a law whose text makes functions -/
abbrev Tm (K : PySem.W.Frag) (mg : Str → Option Value) (x : Str) (st : Stmt) (c Pt : Addr) : Prop := (∃ f fd, mg x = some (.ref f) ∧ FunM K x st f c fd) ∧ ∃ oc od vs osl, K.lookup c = some ⟨oc, od, .fields vs, osl⟩ ∧ vs[11]? = some (.ref Pt)
theorem nd_q {Ts : TS2} {t : Addr × Str} (nd : (Ts.map Prod.fst).Nodup) (ht : t ∈ Ts) : ∀ u ∈ Ts, u.1 = t.1 → u.2 = t.2 := fun u hu e => by
  induction Ts with
  | nil => cases ht
  | cons a l ih =>
    rw [List.map_cons, List.nodup_cons] at nd
    rcases List.mem_cons.mp ht with z1 | z1
    · rcases List.mem_cons.mp hu with z2 | z2
      · rw [z1, z2]
      · exact absurd (show a.1 ∈ l.map Prod.fst by rw [← z1, ← e]; exact List.mem_map.mpr ⟨u, z2, rfl⟩) nd.1
    · rcases List.mem_cons.mp hu with z2 | z2
      · exact absurd (show a.1 ∈ l.map Prod.fst by rw [← z2, e]; exact List.mem_map.mpr ⟨t, z1, rfl⟩) nd.1
      · exact ih nd.2 z1 z2
section
variable {K : PySem.W.Frag} {mg : Str → Option Value} {h : Heap}
theorem tm_mk {x : Str} {st : Stmt} {f cd : Addr} {oc : Value} {od an : Option Addr} {osl : Array (Option Value)} {kV doc pm ct : Value} (X : K.In h) (G : h.Ns mainGlobals mg) (a : PySem.W.nsIn K mainGlobals x = some (some (.ref f)))
    (l : K.lookup f = some ⟨oc, od, .func (PySem.W.fnOf x x (defArgs st) (defBody st) (defScope st) .none kV doc pm an (.ref cd) ct), osl⟩) (c : PySem.W.codeIn K (.ref cd) x = true) (k : PySem.W.keepIn K (.ref f) = true) {cc : Value} {cod : Option Addr} {vs : Array Value} {csl : Array (Option Value)} {Pt : Addr} (q : K.lookup cd = some ⟨cc, cod, .fields vs, csl⟩) (v : vs[11]? = some (.ref Pt)) : Tm K mg x st cd Pt :=
  ⟨⟨f, _, PySem.W.mg_of X G a, ⟨oc, od, kV, doc, pm, an, ct, osl, rfl, l, c⟩, k⟩, cc, cod, vs, csl, q, v⟩
/-- what the head asks of the law's promise -/
theorem lawAt_mk {l : PySem.W.OpenLaw} {w : World} {fa : Addr} {Ts : TS2} {cs : List (Addr × Addr)} {tl : List Addr} (KX : K.In h) (hT8 : ∀ b ∈ tl, h.get? b = some (PySem.W.tabObj #[])) (hc : cs.all (fun p => tl.contains p.2) = true) (nT : cs.all (fun p => (K.lookup p.2).isNone) = true) (hd : cs.all (fun p => PySem.W.codeHdIn K p.1 p.2) = true) (n : noLst K = true) (ts : Ts.all (fun t => (cs.map Prod.snd).contains t.1) = true)
    (A : ∃ fd : FuncData, (∀ (s : Shared) (v : Value), BindsTo s fd ⟨[v], []⟩ [("_law_script", v)]) ∧ ∀ base : Heap, K.In base → base.Ns mainGlobals mg → (∀ p ∈ cs, LamX.TabB base mg p.1 p.2) → FnOk l.prog w K mg base (L2.CX l.prog w) 40 fa fd ["_law_script"] (spT K 1 Ts S_lawT)) :
    LamX.LawAtS l w K (L2.CX l.prog w) 40 63 "_law_script" mg fa h := by
  obtain ⟨fd, hb, F⟩ := A
  have hT : ∀ p ∈ cs, h.get? p.2 = some { cls := .none, data := .fields #[] } := fun p hp => hT8 p.2 (List.contains_iff_mem.mp (List.all_eq_true.mp hc p hp))
  refine ⟨fd, cs, spT K 1 Ts S_lawT, hT, fun p hp => Option.isNone_iff_eq_none.mp (List.all_eq_true.mp nT p hp), fun p hp => PySem.W.codeHd_of_K KX (List.all_eq_true.mp hd p hp), hb, fun H a ns hl _ hH hS => ?_, F⟩
  have hr : Rd H a (.lst (ns.map V.int)) := by
    rcases hS with z | ⟨o, its, m, z1, z2, _⟩
    · exact z
    · exact absurd z2 (noLst_ok n z1)
  have tb : ∀ t ∈ Ts, H t.1 = some (.tbl #[]) := fun t ht => by
    obtain ⟨p, hp, e⟩ := List.mem_map.mp (List.contains_iff_mem.mp (List.all_eq_true.mp ts t ht))
    rw [← e]
    exact hH p hp
  have na : a ∉ Ts.map Prod.fst := fun z => by
    obtain ⟨t, ht, rfl⟩ := List.mem_map.mp z
    have e := tb t ht
    rcases hr with y | ⟨o, y⟩
    · rw [e] at y; cases y
    · rw [e] at y; cases y
  refine ⟨[lstI ns], .bl true, remL H (Ts.map Prod.fst), rfl, remL_same, .cons (.lst ?_ AtAll.of_ints) .nil, fun t ht => ⟨LamX.TabS.nil (tb t ht), remL_at (List.mem_map.mpr ⟨t, ht, rfl⟩)⟩, ⟨ns, rfl, hl, rfl⟩, fun v Hb' H' _ _ q => ?_⟩
  · rcases hr with y | ⟨o, y⟩
    · exact .inl (by rw [remL_ne na]; exact y)
    · exact .inr ⟨o, by rw [remL_ne na]; exact y⟩
  · cases q
    rfl
end
end DL
namespace DL
open PySem PySem.Spec PyProof.Rows L2
theorem all_mk {P : Program} {w : World} {K : PySem.W.Frag} {h : Heap} {mg : Str → Option Value} {fa : Addr} {ad : Rf → Addr} (X : K.In h) (G : h.Ns mainGlobals mg) (hfa : mg "law" = some (.ref fa)) (B : Bt mg)
    {t0 : Tok} (g0 : PySem.W.nsIn K mainGlobals "LAST" = some (some (.int 99 t0))) {t1 : Tok} (g1 : PySem.W.nsIn K mainGlobals "MOST_MARKS" = some (some (.int 240 t1))) (L : Cl K mg ad) (xm : xmOk K (ad .nm) (ad .tg) = true)
    (h1 : Tf K mg "_law_mix" s__law_mix)
    (h2 : Tf K mg "_law_place" s__law_place)
    (h3 : Tf K mg "_law_pile" s__law_pile)
    {c4 P4 : Addr} (h4 : Tm K mg "_law_pick" s__law_pick c4 P4)
    {c5 P5 : Addr} (h5 : Tm K mg "_law_clearing" s__law_clearing c5 P5)
    (h6 : Tf K mg "first_of" s_first_of)
    (h7 : Tf K mg "is_place" s_is_place)
    (h8 : Tf K mg "gaps" s_gaps)
    (h9 : Tf K mg "is_pile" s_is_pile)
    (h10 : Tf K mg "need_pile" s_need_pile)
    (h11 : Tf K mg "moves_of" s_moves_of)
    {A12 : Addr} (h12 : Kt K mg "Join" A12)
    {A13 : Addr} (h13 : Kt K mg "Part" A13)
    (h14 : Tf K mg "move_of" s_move_of)
    (h15 : Mq K A12 "going" "Join.going" s_Join_going)
    (h16 : Mq K A12 "can_be" "Move.can_be" s_Move_can_be)
    (h17 : Mq K A12 "coming" "Join.coming" s_Join_coming)
    (h18 : Mq K A12 "after" "Move.after" s_Move_after)
    (h19 : Mq K A13 "going" "Part.going" s_Part_going)
    (h20 : Mq K A13 "can_be" "Move.can_be" s_Move_can_be)
    (h21 : Mq K A13 "coming" "Part.coming" s_Part_coming)
    (h22 : Mq K A13 "after" "Move.after" s_Move_after)
    (h23 : Tf K mg "done" s_done)
    (h24 : Tf K mg "gone_on" s_gone_on)
    (h25 : Tg1 K mg "paper_of" s_paper_of [.non])
    (h26 : Tf K mg "gone_on" s_gone_on)
    (h27 : Tg1 K mg "paper_of" s_paper_of [.non])
    (h28 : Tg1 K mg "paper_of" s_paper_of [.non])
    (h29 : Tg1 K mg "settled" s_settled [.non])
    (h30 : Tf K mg "_law_worths" s__law_worths)
    (h31 : Tf K mg "_law_worth" s__law_worth)
    (h32 : Tf K mg "_law_row" s__law_row)
    (h33 : Tf K mg "weight_at" s_weight_at)
    (h34 : Tf K mg "weight" s_weight)
    (h35 : Tf K mg "_law_is_move" s__law_is_move)
    (h36 : Tf K mg "_law_parts" s__law_parts)
    (h37 : Tf K mg "_law_after" s__law_after)
    (h38 : Tf K mg "_law_walked" s__law_walked)
    (h39 : Tf K mg "_law_moves" s__law_moves)
    (h40 : Tf K mg "is_row" s_is_row)
    (h41 : Tf K mg "walked" s_walked)
    (h42 : Tf K mg "is_right" s_is_right)
    (h43 : Tf K mg "fails_at" s_fails_at)
    (h44 : Tf K mg "_law_judged" s__law_judged)
    (h45 : Tf K mg "_law_by_firsts" s__law_by_firsts)
    (h46 : Tf K mg "_law_spoilt" s__law_spoilt)
    (h47 : Tf K mg "_law_word" s__law_word)
    (h48 : Tf K mg "_law_tried" s__law_tried)
    (h49 : Tf K mg "_law_tried" s__law_tried)
    (h50 : Tf K mg "_law_right_of" s__law_right_of)
    (h51 : Tf K mg "_law_too_great" s__law_too_great)
    (nd : ([(P4, qi__law_pick), (P5, qi__law_clearing)].map Prod.fst).Nodup)
    {oc kV doc pm cdv ct : Value} {od an : Option Addr} {osl : Array (Option Value)} {f : Addr} (a : PySem.W.nsIn K mainGlobals "law" = some (some (.ref f)))
    (l : K.lookup f = some ⟨oc, od, .func (PySem.W.fnOf "law" "law" (defArgs s_law) (defBody s_law) (defScope s_law) .none kV doc pm an cdv ct), osl⟩) (c : PySem.W.codeIn K cdv "law" = true) (k : PySem.W.keepIn K (.ref f) = true) :
    ∃ fd : FuncData, (∀ (s : Shared) (v : Value), BindsTo s fd ⟨[v], []⟩ [("_law_script", v)]) ∧ ∀ base : Heap, K.In base → base.Ns mainGlobals mg → (∀ p ∈ [(c4, P4), (c5, P5)], LamX.TabB base mg p.1 p.2) → FnOk P w K mg base (L2.CX P w) 40 fa fd ["_law_script"] (spT K 1 [(P4, qi__law_pick), (P5, qi__law_clearing)] S_lawT) := by
  have e := hfa.symm.trans (PySem.W.mg_of X G a)
  cases e
  refine ⟨PySem.W.fnOf "law" "law" (defArgs s_law) (defBody s_law) (defScope s_law) .none kV doc pm an cdv ct, fun s v => .of_eq rfl, fun base _ _ TB => ?_⟩
  have Gg : Gp mg := ⟨⟨_, PySem.W.mg_of X G g0⟩, ⟨_, PySem.W.mg_of X G g1⟩⟩
  obtain ⟨f1, d1, m1, F1⟩ := h1
  have D1 : Df P w K mg base "_law_mix" 1 2 S_mix := ⟨f1, m1, fn_mix F1 ⟩
  obtain ⟨f2, d2, m2, F2⟩ := h2
  have D2 : Df P w K mg base "_law_place" 1 1 S_place := ⟨f2, m2, fn_place F2 ⟩
  obtain ⟨f3, d3, m3, F3⟩ := h3
  have D3 : Df P w K mg base "_law_pile" 2 3 S_pile := ⟨f3, m3, fn_pile F3 B D1 D2⟩
  obtain ⟨⟨f4, d4, m4, F4⟩, _⟩ := h4
  have D4 : Dg P w K mg base "_law_pick" 3 (spM K 1 [(P4, qi__law_pick), (P5, qi__law_clearing)] (S_pickM P w K mg base)) := ⟨f4, m4, mk_pick F4 (TB (c4, P4) (by simp)) (by simp) (nd_q (t := (P4, qi__law_pick)) nd (by simp)) B D1⟩
  obtain ⟨⟨f5, d5, m5, F5⟩, _⟩ := h5
  have D5 : Dg P w K mg base "_law_clearing" 4 (spM K 1 [(P4, qi__law_pick), (P5, qi__law_clearing)] (S_clearM P w K mg base)) := ⟨f5, m5, mk_clear F5 (TB (c5, P5) (by simp)) (by simp) (nd_q (t := (P5, qi__law_clearing)) nd (by simp)) D4⟩
  obtain ⟨f6, d6, m6, F6⟩ := h6
  have D6 : Dpk P w K mg base "first_of" 1 S_first := ⟨f6, m6, fun_look F6, fn_first F6 ⟩
  obtain ⟨f7, d7, m7, F7⟩ := h7
  have D7 : Df P w K mg base "is_place" 1 1 S_is_place := ⟨f7, m7, fn_is_place F7 B Gg⟩
  obtain ⟨f8, d8, m8, F8⟩ := h8
  have D8 : Df P w K mg base "gaps" 1 1 S_gaps := ⟨f8, m8, fn_gaps F8 B⟩
  obtain ⟨f9, d9, m9, F9⟩ := h9
  have D9 : Df P w K mg base "is_pile" 2 1 S_is_pile := ⟨f9, m9, fn_is_pile F9 B Gg D7 D8⟩
  obtain ⟨f10, d10, m10, F10⟩ := h10
  have D10 : Df P w K mg base "need_pile" 3 1 (S_need_pile (ad .np)) := ⟨f10, m10, fn_need_pile F10 (L.ex .np) D9⟩
  obtain ⟨f11, d11, m11, F11⟩ := h11
  have D11 : Df P w K mg base "moves_of" 4 1 (S_moves_of ad) := ⟨f11, m11, fn_moves_of F11 B D10⟩
  have D12 : Ko P w K mg base "Join" A12 := h12.ko
  have D13 : Ko P w K mg base "Part" A13 := h13.ko
  obtain ⟨f14, d14, m14, F14⟩ := h14
  have D14 : Df P w K mg base "move_of" 3 1 (S_move_of ad A12 A13) := ⟨f14, m14, fn_move_of F14 B L D7 D12 D13⟩
  obtain ⟨f15, d15, m15, F15⟩ := h15
  have D15 : Mo P w K mg base A12 "going" 1 1 (S_going A12 true) := ⟨⟨f15, m15, fn_join_going F15 h12.cls.1 h12.cls.2⟩⟩
  obtain ⟨f16, d16, m16, F16⟩ := h16
  have D16 : Mo P w K mg base A12 "can_be" 2 2 (S_can_be A12 true) := ⟨⟨f16, m16, fn_can_be F16 B h12.cls.1 D15⟩⟩
  obtain ⟨f17, d17, m17, F17⟩ := h17
  have D17 : Mo P w K mg base A12 "coming" 1 1 (S_coming A12 true) := ⟨⟨f17, m17, fn_join_coming F17 h12.cls.1 h12.cls.2⟩⟩
  obtain ⟨f18, d18, m18, F18⟩ := h18
  have D18 : Mo P w K mg base A12 "after" 2 2 (S_after A12 true) := ⟨⟨f18, m18, fn_after F18 B h12.cls.1 D15 D17⟩⟩
  obtain ⟨f19, d19, m19, F19⟩ := h19
  have D19 : Mo P w K mg base A13 "going" 1 1 (S_going A13 false) := ⟨⟨f19, m19, fn_part_going F19 h13.cls.1 h13.cls.2⟩⟩
  obtain ⟨f20, d20, m20, F20⟩ := h20
  have D20 : Mo P w K mg base A13 "can_be" 2 2 (S_can_be A13 false) := ⟨⟨f20, m20, fn_can_be F20 B h13.cls.1 D19⟩⟩
  obtain ⟨f21, d21, m21, F21⟩ := h21
  have D21 : Mo P w K mg base A13 "coming" 1 1 (S_coming A13 false) := ⟨⟨f21, m21, fn_part_coming' F21 B h13.cls.1 h13.cls.2⟩⟩
  obtain ⟨f22, d22, m22, F22⟩ := h22
  have D22 : Mo P w K mg base A13 "after" 2 2 (S_after A13 false) := ⟨⟨f22, m22, fn_after F22 B h13.cls.1 D19 D21⟩⟩
  obtain ⟨f23, d23, m23, F23⟩ := h23
  have D23 : Df P w K mg base "done" 4 2 (S_done ad) := ⟨f23, m23, fn_done F23 B Gg L D10 D14 ⟨h12.cls.1, D16, D17, D18⟩ ⟨h13.cls.1, D20, D21, D22⟩⟩
  obtain ⟨f24, d24, m24, F24⟩ := h24
  have D24 : Dg P w K mg base "gone_on" 6 (spC K 2 1 (S_gone P w K mg base ad)) := ⟨f24, m24, fn_gone_on (m := 1) F24 B D6 D11 D23 (by decide)⟩
  obtain ⟨f25, d25, m25, F25⟩ := h25
  have D25 : Dg P w K mg base "paper_of" 7 (spC K 2 1 (S_paperC P w K mg base ad)) := ⟨f25, m25, fn_paperC (m := 1) F25 D24 (by decide)⟩
  obtain ⟨f26, d26, m26, F26⟩ := h26
  have D26 : Dg P w K mg base "gone_on" 6 (spC K 2 0 (S_gone P w K mg base ad)) := ⟨f26, m26, fn_gone_on (m := 0) F26 B D6 D11 D23 (by decide)⟩
  obtain ⟨f27, d27, m27, F27⟩ := h27
  have D27 : Dg P w K mg base "paper_of" 7 (spC K 2 0 (S_paperC P w K mg base ad)) := ⟨f27, m27, fn_paperC (m := 0) F27 D26 (by decide)⟩
  obtain ⟨f28, d28, m28, F28⟩ := h28
  have D28 : Df P w K mg base "paper_of" 7 1 (S_paper1 P w K mg base ad) := ⟨f28, m28, fn_paper1 F28 D26⟩
  obtain ⟨f29, d29, m29, F29⟩ := h29
  have D29 : Dg P w K mg base "settled" 7 (spC K 2 1 (S_settledC P w K mg base ad)) := ⟨f29, m29, fn_settledC (m := 1) F29 D24 (by decide)⟩
  obtain ⟨f30, d30, m30, F30⟩ := h30
  have D30 : Df P w K mg base "_law_worths" 1 0 S_lworths := ⟨f30, m30, fn_lworths F30 B⟩
  obtain ⟨f31, d31, m31, F31⟩ := h31
  have D31 : Df P w K mg base "_law_worth" 2 1 S_lworth := ⟨f31, m31, fn_lworth F31 B D30⟩
  obtain ⟨f32, d32, m32, F32⟩ := h32
  have D32 : Df P w K mg base "_law_row" 2 1 S_lrow := ⟨f32, m32, fn_lrow F32 B D30⟩
  obtain ⟨f33, d33, m33, F33⟩ := h33
  have D33 : Df P w K mg base "weight_at" 1 1 S_weight_at := ⟨f33, m33, fn_weight_at F33 ⟩
  obtain ⟨f34, d34, m34, F34⟩ := h34
  have D34 : Df P w K mg base "weight" 4 1 (S_weight ad) := ⟨f34, m34, fn_weight F34 B D10 D33⟩
  obtain ⟨f35, d35, m35, F35⟩ := h35
  have D35 : Df P w K mg base "_law_is_move" 1 1 S_is_move := ⟨f35, m35, fn_is_move F35 B⟩
  obtain ⟨f36, d36, m36, F36⟩ := h36
  have D36 : Df P w K mg base "_law_parts" 1 1 S_parts := ⟨f36, m36, fn_parts F36 ⟩
  obtain ⟨f37, d37, m37, F37⟩ := h37
  have D37 : Df P w K mg base "_law_after" 2 2 S_after2 := ⟨f37, m37, fn_after2 F37 B D36⟩
  obtain ⟨f38, d38, m38, F38⟩ := h38
  have D38 : Df P w K mg base "_law_walked" 3 2 S_lwalked := ⟨f38, m38, fn_lwalked F38 B D35 D37⟩
  obtain ⟨f39, d39, m39, F39⟩ := h39
  have D39 : Df P w K mg base "_law_moves" 1 1 S_lmoves := ⟨f39, m39, fn_lmoves F39 B⟩
  obtain ⟨f40, d40, m40, F40⟩ := h40
  have D40 : Df P w K mg base "is_row" 3 1 S_is_row := ⟨f40, m40, fn_is_row F40 B D9 D8⟩
  obtain ⟨f41, d41, m41, F41⟩ := h41
  have D41 : Df P w K mg base "walked" 5 2 S_walked := ⟨f41, m41, fn_walked F41 B L xm D23⟩
  obtain ⟨f42, d42, m42, F42⟩ := h42
  have D42 : Df P w K mg base "is_right" 6 3 (S_right ad) := ⟨f42, m42, fn_right F42 B D10 D40 D41 D11⟩
  obtain ⟨f43, d43, m43, F43⟩ := h43
  have D43 : Df P w K mg base "fails_at" 6 2 (S_fails ad) := ⟨f43, m43, fn_fails F43 B D10 D41⟩
  obtain ⟨f44, d44, m44, F44⟩ := h44
  have D44 : Df P w K mg base "_law_judged" 7 3 S_judged := ⟨f44, m44, fn_judged F44 B D38 D39 D42 D43⟩
  obtain ⟨f45, d45, m45, F45⟩ := h45
  have D45 : Df P w K mg base "_law_by_firsts" 3 1 S_firsts := ⟨f45, m45, fn_firsts F45 B D39 D37⟩
  obtain ⟨f46, d46, m46, F46⟩ := h46
  have D46 : Df P w K mg base "_law_spoilt" 1 2 S_spoilt := ⟨f46, m46, fn_spoilt F46 B⟩
  obtain ⟨f47, d47, m47, F47⟩ := h47
  have D47 : Df P w K mg base "_law_word" 1 1 (S_word ad) := ⟨f47, m47, fn_word F47 B L⟩
  obtain ⟨f48, d48, m48, F48⟩ := h48
  have D48 : Df P w K mg base "_law_tried" 31 2 (S_tried P w K mg base ad) := ⟨f48, m48, fn_tried F48 B L D47⟩
  obtain ⟨f49, d49, m49, F49⟩ := h49
  have D49 : Dg P w K mg base "_law_tried" 31 (spC K 2 1 (S_triedC P w K mg base ad 1)) := ⟨f49, m49, fn_triedC (m := 1) F49 B L D47 (by decide)⟩
  obtain ⟨f50, d50, m50, F50⟩ := h50
  have D50 : Df P w K mg base "_law_right_of" 7 1 (S_right_of ad) := ⟨f50, m50, fn_right_of F50 D42⟩
  obtain ⟨f51, d51, m51, F51⟩ := h51
  have D51 : Dg P w K mg base "_law_too_great" 32 (spT K 1 [(P4, qi__law_pick), (P5, qi__law_clearing)] S_great) := ⟨f51, m51, fn_great F51 B D48 D28 D49 D25 D4 D43 D42 D50⟩
  exact ok_law (fun_mk l c k) B D3 D4 D5 D25 D27 D28 D29 D31 D32 D34 D38 D44 D45 D1 D46 D42 D51 D48 D43
end DL
open PySem PySem.W PyProof.Rows
set_option maxHeartbeats 0 in
theorem PySem.Challenge.cw_loosemarks_k06_papers_holds : PySem.Challenge.rw_loosemarks_k06_papers.Holds := by
  w_on; o_law; k_head; (case hw => w_witness2)
  k_fill
  refine LamX.walk_ofTs (l := PySem.Challenge.rw_loosemarks_k06_papers) (n := 63) (k := 40) (x := "_law_script") (CX := fun w => L2.CX PySem.Challenge.rw_loosemarks_k06_papers.prog w) rfl (by decide) rfl ⟨rfl, by decide, by decide⟩ (fun w h Y => PySem.W.km_in_of Y) ?F (fun _ _ _ _ _ h => DL.cx_end h)
  case F =>
    intro w mg fa h Y KX G hmg
    have hT8 := PySem.W.km_tabs_of Y
    refine' DL.lawAt_mk KX hT8 ?hcz ?nTz ?hdz ?nz ?tsz (DL.all_mk KX G hmg (DL.bt_mk KX G ?z) ?gv0 ?gv1 (DL.cl_mk KX G ?a0 ?a1 ?a2 ?a3 ?a4 ?a5 ?a6 ?e ?i) ?xm
      (DL.fun_top KX G ?na1 ?l1 ?c1 ?k1)
      (DL.fun_top KX G ?na2 ?l2 ?c2 ?k2)
      (DL.fun_top KX G ?na3 ?l3 ?c3 ?k3)
      (DL.tm_mk KX G ?na4 ?l4 ?c4 ?k4 ?q4 ?v4)
      (DL.tm_mk KX G ?na5 ?l5 ?c5 ?k5 ?q5 ?v5)
      (DL.fun_top KX G ?na6 ?l6 ?c6 ?k6)
      (DL.fun_top KX G ?na7 ?l7 ?c7 ?k7)
      (DL.fun_top KX G ?na8 ?l8 ?c8 ?k8)
      (DL.fun_top KX G ?na9 ?l9 ?c9 ?k9)
      (DL.fun_top KX G ?na10 ?l10 ?c10 ?k10)
      (DL.fun_top KX G ?na11 ?l11 ?c11 ?k11)
      (DL.kt_mk KX G ?na12 ?ok12 ?in12 ?fn12 ?l12 ?c12 ?k12)
      (DL.kt_mk KX G ?na13 ?ok13 ?in13 ?fn13 ?l13 ?c13 ?k13)
      (DL.fun_top KX G ?na14 ?l14 ?c14 ?k14)
      (DL.mq_mk ?in15 ?fn15 ?l15 ?c15 ?k15)
      (DL.mq_mk ?in16 ?fn16 ?l16 ?c16 ?k16)
      (DL.mq_mk ?in17 ?fn17 ?l17 ?c17 ?k17)
      (DL.mq_mk ?in18 ?fn18 ?l18 ?c18 ?k18)
      (DL.mq_mk ?in19 ?fn19 ?l19 ?c19 ?k19)
      (DL.mq_mk ?in20 ?fn20 ?l20 ?c20 ?k20)
      (DL.mq_mk ?in21 ?fn21 ?l21 ?c21 ?k21)
      (DL.mq_mk ?in22 ?fn22 ?l22 ?c22 ?k22)
      (DL.fun_top KX G ?na23 ?l23 ?c23 ?k23)
      (DL.fun_top KX G ?na24 ?l24 ?c24 ?k24)
      (DL.fun_topN KX G ?na25 ?l25 ?t25 ?c25 ?k25)
      (DL.fun_top KX G ?na26 ?l26 ?c26 ?k26)
      (DL.fun_topN KX G ?na27 ?l27 ?t27 ?c27 ?k27)
      (DL.fun_topN KX G ?na28 ?l28 ?t28 ?c28 ?k28)
      (DL.fun_topN KX G ?na29 ?l29 ?t29 ?c29 ?k29)
      (DL.fun_top KX G ?na30 ?l30 ?c30 ?k30)
      (DL.fun_top KX G ?na31 ?l31 ?c31 ?k31)
      (DL.fun_top KX G ?na32 ?l32 ?c32 ?k32)
      (DL.fun_top KX G ?na33 ?l33 ?c33 ?k33)
      (DL.fun_top KX G ?na34 ?l34 ?c34 ?k34)
      (DL.fun_top KX G ?na35 ?l35 ?c35 ?k35)
      (DL.fun_top KX G ?na36 ?l36 ?c36 ?k36)
      (DL.fun_top KX G ?na37 ?l37 ?c37 ?k37)
      (DL.fun_top KX G ?na38 ?l38 ?c38 ?k38)
      (DL.fun_top KX G ?na39 ?l39 ?c39 ?k39)
      (DL.fun_top KX G ?na40 ?l40 ?c40 ?k40)
      (DL.fun_top KX G ?na41 ?l41 ?c41 ?k41)
      (DL.fun_top KX G ?na42 ?l42 ?c42 ?k42)
      (DL.fun_top KX G ?na43 ?l43 ?c43 ?k43)
      (DL.fun_top KX G ?na44 ?l44 ?c44 ?k44)
      (DL.fun_top KX G ?na45 ?l45 ?c45 ?k45)
      (DL.fun_top KX G ?na46 ?l46 ?c46 ?k46)
      (DL.fun_top KX G ?na47 ?l47 ?c47 ?k47)
      (DL.fun_top KX G ?na48 ?l48 ?c48 ?k48)
      (DL.fun_top KX G ?na49 ?l49 ?c49 ?k49)
      (DL.fun_top KX G ?na50 ?l50 ?c50 ?k50)
      (DL.fun_top KX G ?na51 ?l51 ?c51 ?k51) ?ndz ?na ?l ?c ?k)
    (case z => kernel_rfl); (case gv0 => k_is); (case gv1 => k_is); (case a0 => k_is); (case a1 => k_is); (case a2 => k_is); (case a3 => k_is); (case a4 => k_is); (case a5 => k_is); (case a6 => k_is); (case e => kernel_rfl); (case i => kernel_rfl); (case xm => kernel_rfl)
    (case na1 => k_is); (case l1 => k_is); (case c1 => k_is); (case k1 => k_is)
    (case na2 => k_is); (case l2 => k_is); (case c2 => k_is); (case k2 => k_is)
    (case na3 => k_is); (case l3 => k_is); (case c3 => k_is); (case k3 => k_is)
    (case na4 => k_is); (case l4 => k_is); (case c4 => k_is); (case k4 => k_is); (case q4 => k_is); (case v4 => rfl)
    (case na5 => k_is); (case l5 => k_is); (case c5 => k_is); (case k5 => k_is); (case q5 => k_is); (case v5 => rfl)
    (case na6 => k_is); (case l6 => k_is); (case c6 => k_is); (case k6 => k_is)
    (case na7 => k_is); (case l7 => k_is); (case c7 => k_is); (case k7 => k_is)
    (case na8 => k_is); (case l8 => k_is); (case c8 => k_is); (case k8 => k_is)
    (case na9 => k_is); (case l9 => k_is); (case c9 => k_is); (case k9 => k_is)
    (case na10 => k_is); (case l10 => k_is); (case c10 => k_is); (case k10 => k_is)
    (case na11 => k_is); (case l11 => k_is); (case c11 => k_is); (case k11 => k_is)
    (case na12 => k_is); (case ok12 => kernel_rfl); (case in12 => k_is); (case fn12 => k_is); (case l12 => k_is); (case c12 => k_is); (case k12 => k_is)
    (case na13 => k_is); (case ok13 => kernel_rfl); (case in13 => k_is); (case fn13 => k_is); (case l13 => k_is); (case c13 => k_is); (case k13 => k_is)
    (case na14 => k_is); (case l14 => k_is); (case c14 => k_is); (case k14 => k_is)
    (case in15 => k_is); (case fn15 => k_is); (case l15 => k_is); (case c15 => k_is); (case k15 => k_is)
    (case in16 => k_is); (case fn16 => k_is); (case l16 => k_is); (case c16 => k_is); (case k16 => k_is)
    (case in17 => k_is); (case fn17 => k_is); (case l17 => k_is); (case c17 => k_is); (case k17 => k_is)
    (case in18 => k_is); (case fn18 => k_is); (case l18 => k_is); (case c18 => k_is); (case k18 => k_is)
    (case in19 => k_is); (case fn19 => k_is); (case l19 => k_is); (case c19 => k_is); (case k19 => k_is)
    (case in20 => k_is); (case fn20 => k_is); (case l20 => k_is); (case c20 => k_is); (case k20 => k_is)
    (case in21 => k_is); (case fn21 => k_is); (case l21 => k_is); (case c21 => k_is); (case k21 => k_is)
    (case in22 => k_is); (case fn22 => k_is); (case l22 => k_is); (case c22 => k_is); (case k22 => k_is)
    (case na23 => k_is); (case l23 => k_is); (case c23 => k_is); (case k23 => k_is)
    (case na24 => k_is); (case l24 => k_is); (case c24 => k_is); (case k24 => k_is)
    (case na25 => k_is); (case l25 => k_is); (case t25 => k_is); (case c25 => k_is); (case k25 => k_is)
    (case na26 => k_is); (case l26 => k_is); (case c26 => k_is); (case k26 => k_is)
    (case na27 => k_is); (case l27 => k_is); (case t27 => k_is); (case c27 => k_is); (case k27 => k_is)
    (case na28 => k_is); (case l28 => k_is); (case t28 => k_is); (case c28 => k_is); (case k28 => k_is)
    (case na29 => k_is); (case l29 => k_is); (case t29 => k_is); (case c29 => k_is); (case k29 => k_is)
    (case na30 => k_is); (case l30 => k_is); (case c30 => k_is); (case k30 => k_is)
    (case na31 => k_is); (case l31 => k_is); (case c31 => k_is); (case k31 => k_is)
    (case na32 => k_is); (case l32 => k_is); (case c32 => k_is); (case k32 => k_is)
    (case na33 => k_is); (case l33 => k_is); (case c33 => k_is); (case k33 => k_is)
    (case na34 => k_is); (case l34 => k_is); (case c34 => k_is); (case k34 => k_is)
    (case na35 => k_is); (case l35 => k_is); (case c35 => k_is); (case k35 => k_is)
    (case na36 => k_is); (case l36 => k_is); (case c36 => k_is); (case k36 => k_is)
    (case na37 => k_is); (case l37 => k_is); (case c37 => k_is); (case k37 => k_is)
    (case na38 => k_is); (case l38 => k_is); (case c38 => k_is); (case k38 => k_is)
    (case na39 => k_is); (case l39 => k_is); (case c39 => k_is); (case k39 => k_is)
    (case na40 => k_is); (case l40 => k_is); (case c40 => k_is); (case k40 => k_is)
    (case na41 => k_is); (case l41 => k_is); (case c41 => k_is); (case k41 => k_is)
    (case na42 => k_is); (case l42 => k_is); (case c42 => k_is); (case k42 => k_is)
    (case na43 => k_is); (case l43 => k_is); (case c43 => k_is); (case k43 => k_is)
    (case na44 => k_is); (case l44 => k_is); (case c44 => k_is); (case k44 => k_is)
    (case na45 => k_is); (case l45 => k_is); (case c45 => k_is); (case k45 => k_is)
    (case na46 => k_is); (case l46 => k_is); (case c46 => k_is); (case k46 => k_is)
    (case na47 => k_is); (case l47 => k_is); (case c47 => k_is); (case k47 => k_is)
    (case na48 => k_is); (case l48 => k_is); (case c48 => k_is); (case k48 => k_is)
    (case na49 => k_is); (case l49 => k_is); (case c49 => k_is); (case k49 => k_is)
    (case na50 => k_is); (case l50 => k_is); (case c50 => k_is); (case k50 => k_is)
    (case na51 => k_is); (case l51 => k_is); (case c51 => k_is); (case k51 => k_is)
    (case na => k_is); (case l => k_is); (case c => k_is); (case k => k_is)
    (case ndz => decide); (case hcz => kernel_rfl); (case nTz => kernel_rfl); (case hdz => kernel_rfl); (case nz => kernel_rfl); (case tsz => kernel_rfl)
