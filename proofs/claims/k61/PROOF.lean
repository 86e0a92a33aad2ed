import PyProof.Rows.All
import HandS.ForMost
import HandS.Zip
import KE.GoesNew
import KE.GoesMore
import Wide.All
import OpenK.AllK
import Wide.FinOn
import KE.SortData
import HandS.Text
import HandS.ForExc
import HandS.Lambda
import HandS.TupAny
import HandS.TupMul
import HandS.TupLe
import HandS.Deep
import HandS.Style
import HandS.IsInst
import HandS.Conv
import HandS.SortInts
import HandS.Wide
import HandS.HotCalls
import HandS.ExcCtx
import HandS.HeadHook1
import HandS.HeadEnd
import HandS.Head2
import KE.KRevSl
import HandS.ExcIs
import HandS.EndTab
import HandS.HeadWalk
import HandS.HeadHook4
import HandS.SetFor
import HandS.TupSets
import HandS.SetKeys
import HandS.ReplaceLit
import PySem.Challenge.RW_leaguechains_k61_texts_in_parts
set_option Elab.async false
set_option linter.all false
set_option maxRecDepth 100000
set_option maxHeartbeats 4000000
set_option autoImplicit false
/-! list + list, list.extend, where nothing is known of the slots of what is read -/
namespace DL
open PySem L2
open AutoSeq1 (wpAny_loadPart')
theorem meets_addG (l b : Addr) (its its2 : Array Value) (n n2 : Nat) (dl db : Option Addr) (sl sb : Array (Option Value)) (hz : its.size + its2.size ≤ sizeLine) :
    Meets (Builtin.«list.__add__» ⟨[.ref l, .ref b], []⟩) (fun _ R s => s.heap.get? l = some ⟨.type "list", dl, .seq its n, sl⟩ ∧ s.heap.get? b = some ⟨.type "list", db, .seq its2 n2, sb⟩ ∧
      R (.ok (.ret (.ref s.heap.objs.size))) { s with heap := s.heap.push ⟨.type "list", none, .seq (its ++ its2) 0, #[]⟩ }) :=
  .of_wp fun prog w A R s h => by
    obtain ⟨hp, g, d, tk, os⟩ := s
    obtain ⟨hl, hb, h⟩ := h
    have f3 := AutoSeq1.sub_list_list
    wp_walk using wpAny_loadPart' hl, wpAny_loadPart' hb
    exact ⟨_, rfl, h⟩
theorem meets_extL (l b : Addr) (its its2 : Array Value) (n n2 : Nat) (db : Option Addr) (sb : Array (Option Value)) (h0 : ¬(!its.isEmpty && Builtin.List.listTooLong (its.size + its2.size)) = true) (h1 : its.size ≤ sizeLine) (h2 : its.size + its2.size ≤ sizeLine) :
    Meets (Builtin.«list.extend» ⟨[.ref l, .ref b], []⟩) (fun _ R s => s.heap.get? l = some ⟨.type "list", none, .seq its n, #[]⟩ ∧ s.heap.get? b = some ⟨.type "list", db, .seq its2 n2, sb⟩ ∧
      R (.ok (.ret .none)) { s with heap := s.heap.update l (Obj.mapSeq fun x => x ++ its2) }) :=
  .of_wp fun prog w A R s h => by
    obtain ⟨hp, g, d, tk, os⟩ := s
    obtain ⟨hl, hb, h⟩ := h
    have f3 := AutoSeq1.sub_list_list
    have f4 := AutoSeq1.sub_tuple_list
    have hz' : (its ++ its2).size ≤ sizeLine + 1 := by rw [Array.size_append]; omega
    wp_walk using (wpAny_updateSeq hl rfl (hz := h1) (_hz' := hz')), wpAny_loadPart' hl, wpAny_loadPart' hb
    exact ⟨_, rfl, h⟩
theorem meets_extT (l b : Addr) (its its2 : Array Value) (n n2 : Nat) (db : Option Addr) (sb : Array (Option Value)) (h0 : ¬(!its.isEmpty && Builtin.List.listTooLong (its.size + its2.size)) = true) (h1 : its.size ≤ sizeLine) (h2 : its.size + its2.size ≤ sizeLine) :
    Meets (Builtin.«list.extend» ⟨[.ref l, .ref b], []⟩) (fun _ R s => s.heap.get? l = some ⟨.type "list", none, .seq its n, #[]⟩ ∧ s.heap.get? b = some ⟨.type "tuple", db, .seq its2 n2, sb⟩ ∧
      R (.ok (.ret .none)) { s with heap := s.heap.update l (Obj.mapSeq fun x => x ++ its2) }) :=
  .of_wp fun prog w A R s h => by
    obtain ⟨hp, g, d, tk, os⟩ := s
    obtain ⟨hl, hb, h⟩ := h
    have f2 := AutoSeq1.sub_tuple_tuple
    have f3 := AutoSeq1.sub_list_list
    have f4 := AutoSeq1.sub_tuple_list
    have f5 := AutoSeq1.sub_list_tuple
    have hz' : (its ++ its2).size ≤ sizeLine + 1 := by rw [Array.size_append]; omega
    wp_walk using (wpAny_updateSeq hl rfl (hz := h1) (_hz' := hz')), wpAny_loadPart' hl, wpAny_loadPart' hb
    exact ⟨_, rfl, h⟩
section
variable {X : Cx}
theorem op_catG : OpR X (binaryOp .Add) (fun x y H Q => ∃ l b xs zs, x = .ref l ∧ y = .ref b ∧ SqL X.K H l xs ∧ SqL X.K H b zs ∧ xs.length + zs.length ≤ sizeLine ∧ ∀ p, H p = none → Q (.ref p) (upd H p (.lst (xs ++ zs)))) := by
  intro pins s σ H x y v u Q I rx ry h
  obtain ⟨l, b, xs, zs, rfl, rfl, hH, hB, hz, q⟩ := h
  cases rx
  cases ry
  obtain ⟨its, r, ⟨⟨c1, d1, t1, s1⟩, n, e, hc, hd, ht⟩, z⟩ := I.list hH
  obtain ⟨its2, r2, ⟨⟨c2, d2, t2, s2⟩, n2, e2, hc2, hd2, ht2⟩, z2⟩ := I.list hB
  simp only at hc ht hc2 ht2
  subst hc ht hc2 ht2
  have l1 := r.length
  have l2 := r2.length
  refine concat_meets ⟨_, e, rfl⟩ ⟨_, e2, rfl⟩ PySem.noFill_list_add PySem.seq_list_add F.slot_list_add F.entry_list_add (F.args_list_add_2 _ _) (meets_addG l b its.toArray its2.toArray n n2 d1 d2 s1 s2 (by simp only [List.size_toArray]; omega)) ⟨e, e2, ?_⟩
  have ea : its.toArray ++ its2.toArray = (its ++ its2).toArray := by simp
  rw [ea]
  exact ⟨.ref _, _, I.lnew (t' := s.toks) (r.append r2) (by rw [List.length_append]; omega), rfl, q _ I.fresh⟩
theorem mt_extendG : MtM X "list.extend" (fun x vs H Q => ∃ l b xs zs, x = .ref l ∧ vs = [.ref b] ∧ H l = some (.lst xs) ∧ (SqL X.K H b zs ∨ SqT X.K H b zs) ∧ xs.length + zs.length ≤ sizeLine ∧ Q .non (upd H l (.lst (xs ++ zs)))) := by
  intro pins s σ H x vs v us Q I rx rv h
  obtain ⟨l, b, xs, zs, rfl, rfl, hH, hB, hz, q⟩ := h
  cases rx
  obtain ⟨u, rfl, ru⟩ := rv.one
  cases ru
  obtain ⟨z, its, n, r, hl, e⟩ := I.lstM hH
  rcases hB with hB | hB
  · obtain ⟨its2, r2, ⟨⟨c2, d2, t2, s2⟩, n2, e2, hc2, hd2, ht2⟩, z2⟩ := I.list hB
    simp only at hc2 ht2
    subst hc2 ht2
    have l2 := r2.length
    have hsz : its.toArray.size + its2.toArray.size ≤ sizeLine := by simp only [List.size_toArray]; omega
    have hlong : ¬ (!its.toArray.isEmpty && Builtin.List.listTooLong (its.toArray.size + its2.toArray.size)) = true := by
      rw [notLongL hsz]
      simp
    refine call_meets F.slot_list_extend ⟨_, e, rfl⟩ F.entry_list_extend (F.args_list_extend_2 _ _) (meets_extL l b its.toArray its2.toArray n n2 d2 s2 hlong (by simp only [List.size_toArray]; omega) hsz) ⟨e, e2, ?_⟩
    exact ⟨.non, _, I.lset (its' := its ++ its2) hH e (by simp) (r.append r2) (by rw [List.length_append]; omega), rfl, q⟩
  · obtain ⟨its2, r2, ⟨⟨c2, d2, t2, s2⟩, e2, hc2, n2, ht2⟩, z2⟩ := I.tuple hB
    simp only at hc2 ht2
    subst hc2 ht2
    have l2 := r2.length
    have hsz : its.toArray.size + its2.toArray.size ≤ sizeLine := by simp only [List.size_toArray]; omega
    have hlong : ¬ (!its.toArray.isEmpty && Builtin.List.listTooLong (its.toArray.size + its2.toArray.size)) = true := by
      rw [notLongL hsz]
      simp
    refine call_meets F.slot_list_extend ⟨_, e, rfl⟩ F.entry_list_extend (F.args_list_extend_2 _ _) (meets_extT l b its.toArray its2.toArray n n2 d2 s2 hlong (by simp only [List.size_toArray]; omega) hsz) ⟨e, e2, ?_⟩
    exact ⟨.non, _, I.lset (its' := its ++ its2) hH e (by simp) (r.append r2) (by rw [List.length_append]; omega), rfl, q⟩
end
end DL
set_option Elab.async false
set_option linter.all false
set_option maxRecDepth 100000
set_option maxHeartbeats 4000000
set_option autoImplicit false
/-! enumerate over a tuple -/
namespace DL
open PySem PySem.Spec L2
open PyProof.Rows (Call_ boot_enumerate)
open AutoSeq1 (wpAny_loadPart')
theorem meets_enumT (l : Addr) (items : Array Value) (n : Nat) (dct : Option Addr) (sl : Array (Option Value)) :
    Meets (Builtin.«enumerate.__new__» ⟨[.type "enumerate", .ref l], []⟩) (fun _ R s => s.heap.get? l = some ⟨.type "tuple", dct, .seq items n, sl⟩ ∧
      R (.ok (.ret (.ref (s.heap.push ⟨.type "tuple_iterator", none, .fields #[.ref l, .int 0 0], #[]⟩).objs.size)))
        { s with heap := (s.heap.push ⟨.type "tuple_iterator", none, .fields #[.ref l, .int 0 0], #[]⟩).push ⟨.type "enumerate", none, .fields #[.none, .bool false, .ref s.heap.objs.size, rawInt 0, .none, .none], #[]⟩ }) :=
  .of_wp fun prog w A R s h => by
    obtain ⟨hp, g, d, tk, os⟩ := s
    obtain ⟨hl, h⟩ := h
    have hsub := sub_enumerate
    have hL : Heap.IsTuple (Shared.heap ⟨hp, g, d, tk, os⟩) l items := ⟨_, hl, rfl, n, rfl⟩
    wp_walk using wpAny_loadPart' hl
    refine wpAny_stack_any fun st => wpAny_pure ?_
    split
    · rename_i c _ _ _ _ _
      cases (c == Value.type "enumerate")
      · wp_walk using wpAny_loadPart' hl, wpAny_pyIter_tuple hL
        exact ⟨_, rfl, h⟩
      · wp_walk using wpAny_loadPart' hl, wpAny_pyIter_tuple hL
        exact ⟨_, rfl, h⟩
    · wp_walk using wpAny_loadPart' hl, wpAny_pyIter_tuple hL
      exact ⟨_, rfl, h⟩
theorem call_enumT {prog : Program} {w : World} {A : Around} {E : Value → Shared → Prop} {s : Shared} {l : Addr} {items : Array Value} {Q : Value → Shared → Prop} (hL : s.heap.IsTuple l items)
    (h : ∀ h', IsEnum h' (s.heap.objs.size + 1) s.heap.objs.size 0 .none → h'.IsTupleIter s.heap.objs.size l 0 →
      (∀ b o, s.heap.get? b = some o → h'.get? b = some o) → Q (.ref (s.heap.objs.size + 1)) { s with heap := h' }) :
    wpAny (model prog w) A (call (.type "enumerate") [.ref l]) Q E s := by
  obtain ⟨⟨c, dct, dt, sl⟩, hl, hc, n, hd⟩ := hL
  replace hc : c = .type "tuple" := hc
  replace hd : dt = .seq items n := hd
  subst hc hd
  refine callType_new F.called_enumerate (by decide) (F.typeCall_enumerate_1 _) (F.newCall_enumerate_1 _) (fun obj => F.args_object_init_2 obj _) F.entry_enumerate_new (meets_enumT l items n dct sl) ⟨hl, ?_⟩
  generalize hI : (⟨.type "tuple_iterator", none, .fields #[.ref l, .int 0 0], #[]⟩ : Obj) = I
  have hz : (s.heap.push I).objs.size = s.heap.objs.size + 1 := Heap.size_push ..
  show _ ∧ _
  rw [hz]
  have he : IsEnum ((s.heap.push I).push ⟨.type "enumerate", none, .fields #[.none, .bool false, .ref s.heap.objs.size, rawInt 0, .none, .none], #[]⟩) (s.heap.objs.size + 1) s.heap.objs.size 0 .none := by
    have := Heap.get?_push_size (s.heap.push I) (o := ⟨.type "enumerate", none, .fields #[.none, .bool false, .ref s.heap.objs.size, rawInt 0, .none, .none], #[]⟩) rfl
    rw [hz] at this
    exact this
  refine ⟨⟨_, he, rfl⟩, h _ he ⟨I, Heap.get?_push_of_some _ (Heap.get?_push_size _ (by subst hI; rfl)), by subst hI; rfl, by subst hI; rfl⟩ fun b o x => Heap.get?_push_of_some _ (Heap.get?_push_of_some _ x)⟩
/-- the tuple at a, each item with its number in a new pair -/
def IteT (K : PySem.W.Frag) (a : Addr) : It :=
  ⟨fun i H => ∃ (xs : List V) (x : V), SqT K H a xs ∧ xs[i]? = some x, fun i H v H' => ∃ T x, v = .ref T ∧ H T = none ∧ H' = upd H T (.tup [.int (i : Nat), x]) ∧ ∀ xs, SqT K H a xs → xs[i]? = some x, fun i H => ∃ xs : List V, SqT K H a xs ∧ xs.length = i⟩
theorem turn_enumT {P : Program} {w : World} {K : PySem.W.Frag} {elts : List Expr} {kk : Nat} {tpos : Pos} (a e it : Addr) :
    Turn P w K (.Tuple elts kk tpos) (IteT K a) [e, it] e (fun i h => (∃ old, IsEnum h e it (0 + ((i : Nat) : Int)) old) ∧ h.IsTupleIter it a i ∧ e ≠ it) where
  mem := by simp
  obj := fun i h st b hb => by
    obtain ⟨⟨old, he⟩, ⟨o, ho, hc, hd⟩, _⟩ := st
    rcases List.mem_cons.mp hb with z | z
    · rw [z]; exact ⟨_, he, fun v q => nomatch q⟩
    · rw [List.mem_singleton.mp z]; exact ⟨o, ho, fun v q => by rw [hd] at q; cases q⟩
  keep := fun i h h' st k => ⟨st.1.imp fun old he => k e (by simp) _ he, st.2.1.at fun o q => k it (by simp) o q, st.2.2⟩
  item := by
    intro X hP hw hK hc i pins s σ H E I hf st hg
    subst hP hw hK
    obtain ⟨he, hit, hne⟩ := st
    obtain ⟨xs, x, hq, hx⟩ := hg
    obtain ⟨its, rv, p, hz⟩ := I.tuple hq
    have hai : a ≠ it := fun z => by
      obtain ⟨o1, h1, h2, _⟩ := id p
      obtain ⟨o2, h3, h4, _⟩ := id hit
      rw [z, h3] at h1
      cases h1
      rw [h2] at h4
      exact absurd h4 (by decide +kernel)
    have hea : e ∉ [it, a] := fun z => by
      rcases List.mem_cons.mp z with z | z
      · exact hne z
      · obtain ⟨o1, h1, h2, _⟩ := id p
        obtain ⟨old, h3⟩ := he
        rw [← List.mem_singleton.mp z, h3] at h1
        cases h1
        exact absurd h2 (by show ¬ Value.type "enumerate" = Value.type "tuple"; decide +kernel)
    have W := WalksT.enumFrom (prog := X.prog) (w := X.w) (A := X.A) 0 (Draws.tuple (A := X.A.in1) (I.ok.hd hc) it a hai its.toArray) e hne hea (by simp)
    have hi : i < its.toArray.size := by
      obtain ⟨u, hu, _⟩ := rv.get hx
      simpa using (List.getElem?_eq_some_iff.mp hu).1
    refine W.item i s _ _ hi ⟨he, hit, p⟩ fun T vals h' tk ⟨t, u, hu, ev⟩ hnew hT hm hk => ?_
    refine ⟨_, rfl, W.go elts kk tpos i T { s with heap := h', toks := tk } _ _ hm fun h'' st'' hk'' => ?_⟩
    have hT2 : h''.IsTuple T vals := hT.at fun o q => hk'' T o (W.apart i T h' hm) q
    have ru : RelV x u := by
      obtain ⟨u', hu', r'⟩ := rv.get hx
      have : its.toArray[i]? = some u := hu
      rw [List.getElem?_toArray, hu'] at this
      cases this
      exact r'
    have new : ObjOk X.prog X.w (upd H T (.tup [.int (i : Nat), x])) h'' T (.tup [.int (i : Nat), x]) := by
      refine ⟨by show 2 ≤ sizeLine; decide, [.int (i : Nat) t, u], .cons ⟨_, rfl⟩ (.cons ru .nil), ?_⟩
      have e1 : vals = ([.int (i : Nat) t, u] : List Value).toArray := by rw [ev, Int.zero_add]
      rw [← e1]
      exact hT2
    have I1 : Inv X pins σ (upd H T (.tup [.int (i : Nat), x])) { s with heap := h'', toks := tk } := I.turnedNew (ch := [e, it]) (fun b ob hb q => hk'' b ob hb (hk b ob hb q)) hf hnew new
    refine ⟨.ref T, _, I1, rfl, ⟨T, x, rfl, I.hok.fresh hnew, rfl, fun ys hy => by rw [I.tuple_inj hy hq]; exact hx⟩, ⟨st''.1, st''.2.1, hne⟩, fun b hb => ?_⟩
    obtain ⟨o, ho⟩ : ∃ o, s.heap.get? b = some o := by
      rcases List.mem_cons.mp hb with z | z
      · obtain ⟨old, h3⟩ := he
        exact ⟨_, z ▸ h3⟩
      · obtain ⟨o2, h3, _⟩ := id hit
        exact ⟨_, List.mem_singleton.mp z ▸ h3⟩
    rw [upd_ne (Nat.ne_of_lt (Nat.lt_of_lt_of_le (Heap.lt_size ho) hnew))]
    exact (hf b hb).1
  done := by
    intro X hP hw hK hc i pins s σ H E I hf st hg
    subst hP hw hK
    obtain ⟨he, hit, hne⟩ := st
    obtain ⟨xs, hq, hx⟩ := hg
    obtain ⟨its, rv, p, hz⟩ := I.tuple hq
    have hai : a ≠ it := fun z => by
      obtain ⟨o1, h1, h2, _⟩ := id p
      obtain ⟨o2, h3, h4, _⟩ := id hit
      rw [z, h3] at h1
      cases h1
      rw [h2] at h4
      exact absurd h4 (by decide +kernel)
    subst hx
    obtain ⟨old, he⟩ := he
    obtain ⟨f0, f1, f2, f3, f4, f5⟩ := hf it (by simp)
    have ez : xs.length = its.toArray.size := by rw [List.size_toArray]; exact rv.length
    rw [ez] at hit
    exact wpAny_pyNext_enum_endD (Draws.tuple (A := X.A.in1) (I.ok.hd hc) it a hai its.toArray) he ⟨hit, p⟩ fun h' eb => ⟨rfl, I.turned (t' := s.toks) (fun b o hb q => eb b o hb q) f0 f1 f3 f4 f5⟩
  self := fun A i s Q E st h => let ⟨⟨_, he⟩, _⟩ := st; wpAny_pyIter_enum he h
def iEnumT (K : PySem.W.Frag) (ta : TA) : TI := fun σ H R => ta σ H fun vs H1 => ∃ a xs, vs = [.ref a] ∧ SqT K H1 a xs ∧ R (IteT K a) H1
theorem pi_enumT {X : Cx} {e : Expr} {ta : TA} {p pos tpos : Pos} {elts : List Expr} {kk : Nat} (hg : Gl X "enumerate") (hm : X.mg "enumerate" = none) (ha : PA X [e] ta) (hs : starEach [e] X.env = [(false, eval e X.env)] := by rfl) :
    PI X (.Tuple elts kk tpos) (.Call (.Name "enumerate" p) [e] [] pos) (iEnumT X.K ta) := by
  refine ⟨fun pins s σ H R I h => Call_ (ld_blt I hg hm boot_enumerate (PyProof.Rows.callWith_type1 (thn (ha.run pos pins s σ H _ I h) fun us s1 ⟨vs, H1, I1, r1, a, xs, ex, hq, q⟩ => ?_) hs rfl))⟩
  subst ex
  obtain ⟨u, rfl, r⟩ := vals1 r1
  cases r
  obtain ⟨its, rv, p', hz⟩ := I1.tuple hq
  refine call_enumT p' fun h' he hit hk => wpAny_pyIter_enum he ?_
  have I2 : Inv X pins σ H1 { s1 with heap := h' } := I1.kept (t' := s1.toks) hk
  refine ⟨s1.heap.objs.size + 1, [s1.heap.objs.size + 1, s1.heap.objs.size], _, _, H1, rfl, I2, turn_enumT a (s1.heap.objs.size + 1) s1.heap.objs.size, ⟨⟨.none, he⟩, hit, Nat.succ_ne_self _⟩, fun b hb => ?_, q⟩
  have hle : s1.heap.objs.size ≤ b := by
    rcases List.mem_cons.mp hb with z | z
    · rw [z]; exact Nat.le_succ _
    · rw [List.mem_singleton.mp z]; exact Nat.le_refl _
  exact I1.fpOk hle (I1.hok.fresh hle)
end DL
set_option Elab.async false
set_option linter.all false
set_option autoImplicit false
/-! # The data layer: what the program's text computes, as plain functions of data -/
namespace DL
open PySem
abbrev D := PyData
/-- a key of a dict: an int or a text -/
abbrev DKey := Sum Int Str
inductive OD where
  | lst (ds : List D)
  | dct (kvs : List (DKey × D))
  | rows (dss : List (List D))
/-- a slot of a def's frame: nothing known, data, a list or dict that this def alone holds, an object by its place -/
inductive Sl where
  | no
  | dat (d : D)
  | own (o : OD)
  | raw (a : Nat)
abbrev DE := List Sl
def keyD : DKey → D
  | .inl i => .int i
  | .inr x => .str x
def OD.data : OD → D
  | .lst ds => .list ds
  | .dct kvs => .dict (kvs.map fun p => (keyD p.1, p.2))
  | .rows dss => .list (dss.map .list)
def isRows : OD → Bool
  | .rows _ => true
  | _ => false
/-- a value, or the number of the class of what is raised -/
inductive Rs (α : Type) where
  | ok (a : α)
  | ex (c : Nat)
/-- none: the text is not followed there -/
abbrev Pr (α : Type) := Option (Rs α)
def ret {α : Type} (a : α) : Pr α := some (.ok a)
def bnd {α β : Type} (x : Pr α) (f : α → Pr β) : Pr β := match x with
  | some (.ok a) => f a
  | some (.ex c) => some (.ex c)
  | none => none
@[simp] theorem bnd_ret {α β : Type} (a : α) (f : α → Pr β) : bnd (ret a) f = f a := id rfl
@[simp] theorem bnd_ok {α β : Type} (a : α) (f : α → Pr β) : bnd (some (.ok a)) f = f a := id rfl
@[simp] theorem bnd_ex {α β : Type} (c : Nat) (f : α → Pr β) : bnd (some (.ex c)) f = some (.ex c) := id rfl
@[simp] theorem bnd_none {α β : Type} (f : α → Pr β) : bnd (none : Pr α) f = none := id rfl
theorem bnd_of {α β : Type} {x : Pr α} {f : α → Pr β} {r : Rs β} (h : bnd x f = some r) : (∃ a, x = some (.ok a) ∧ f a = some r) ∨ ∃ c, x = some (.ex c) ∧ r = .ex c := by
  cases x with
  | none => cases h
  | some y =>
    cases y with
    | ok a => exact .inl ⟨a, rfl, h⟩
    | ex c => cases h; exact .inr ⟨c, rfl, rfl⟩
/-- what is partly told as a value -/
def lift {α : Type} : Option α → Pr α
  | some a => some (.ok a)
  | none => none
@[simp] theorem lift_some {α : Type} (a : α) : lift (some a) = ret a := id rfl
@[simp] theorem lift_none {α : Type} : lift (none : Option α) = none := id rfl
def sz : Nat := 16777216

/-! ### operations -/
def mulOk (i j : Int) : Bool := decide (i.natAbs < 2 ^ 64) || decide (j.natAbs < 2 ^ 64) || decide (i.natAbs.log2 + j.natAbs.log2 < 1000000)
def addD : D → D → Option D
  | .int i, .int j => some (.int (i + j))
  | .tuple xs, .tuple ys => if xs.length + ys.length ≤ sz then some (.tuple (xs ++ ys)) else none
  | .list xs, .list ys => if xs.length + ys.length ≤ sz then some (.list (xs ++ ys)) else none
  | .str x, .str y => if x.length + y.length ≤ sz then some (.str (x ++ y)) else none
  | _, _ => none
def subD : D → D → Option D
  | .int i, .int j => some (.int (i - j))
  | _, _ => none
def mulD : D → D → Option D
  | .int i, .int j => if mulOk i j = true then some (.int (i * j)) else none
  | .tuple xs, .int k => if xs ≠ [] ∧ 2 ≤ k ∧ k ≤ 1000 ∧ xs.length ≤ 1000 then some (.tuple (List.replicate k.toNat xs).flatten) else none
  | _, _ => none
def fdivD : D → D → Option D
  | .int i, .int j => if 0 < j ∧ j.natAbs.log2 < 9000 then some (.int (i / j)) else none
  | _, _ => none
def modD : D → D → Option D
  | .int i, .int j => if 0 < j then some (.int (i % j)) else none
  | _, _ => none
def negD : D → Option D
  | .int i => some (.int (-i))
  | _ => none
def intsOf : List D → Option (List Int)
  | [] => some []
  | .int i :: r => (intsOf r).map (i :: ·)
  | _ => none
def boolsOf : List D → Option (List Bool)
  | [] => some []
  | .bool i :: r => (boolsOf r).map (i :: ·)
  | _ => none
def strsOf : List D → Option (List Str)
  | [] => some []
  | .str i :: r => (strsOf r).map (i :: ·)
  | _ => none
def lexLt : List Int → List Int → Bool
  | [], [] => false
  | [], _ :: _ => true
  | _ :: _, [] => false
  | x :: xs, y :: ys => if x = y then lexLt xs ys else decide (x < y)
def lexLe : List Int → List Int → Bool
  | [], _ => true
  | _ :: _, [] => false
  | x :: xs, y :: ys => if x = y then lexLe xs ys else decide (x ≤ y)
def ltD : D → D → Option D
  | .int i, .int j => some (.bool (decide (i < j)))
  | .tuple xs, .tuple ys => (intsOf xs).bind fun a => (intsOf ys).map fun b => .bool (lexLt a b)
  | _, _ => none
def leD : D → D → Option D
  | .int i, .int j => some (.bool (decide (i ≤ j)))
  | .tuple xs, .tuple ys => (intsOf xs).bind fun a => (intsOf ys).map fun b => .bool (lexLe a b)
  | _, _ => none
def gtD : D → D → Option D
  | .int i, .int j => some (.bool (decide (j < i)))
  | _, _ => none
def geD : D → D → Option D
  | .int i, .int j => some (.bool (decide (j ≤ i)))
  | _, _ => none
def eqD (x y : D) : Option D := if SeqAt.shaped x = true ∧ SeqAt.shaped y = true then some (.bool (PyData.eqv x y)) else none
def neD (x y : D) : Option D := if SeqAt.shaped x = true ∧ SeqAt.shaped y = true then some (.bool (!PyData.eqv x y)) else none
/-- is the one sign x in the text y -/
def inStr (x y : Str) : Bool := !(Builtin.Str.occurrences y x 0 y.length 1).isEmpty
def inD (x : D) : D → Option D
  | .list ds => if SeqAt.shaped x = true ∧ SeqAt.shaped (.list ds) = true then some (.bool (ds.any fun z => PyData.eqv z x)) else none
  | .tuple ds => if SeqAt.shaped x = true ∧ SeqAt.shaped (.tuple ds) = true then some (.bool (ds.any fun z => PyData.eqv z x)) else none
  | .str y => match x with | .str z => some (.bool (inStr z y)) | _ => none
  | _ => none
def notinD (x y : D) : Option D := match inD x y with
  | some (.bool b) => some (.bool (!b))
  | _ => none
def isNone : D → Bool
  | .none => true
  | _ => false
def isND (x : D) : Option D := some (.bool (isNone x))
def notND (x : D) : Option D := some (.bool (!isNone x))
/-- is, is not: between bools -/
def isD2 : D → D → Option D
  | .bool a, .bool b => some (.bool (decide (a = b)))
  | _, _ => none
def isnotD2 : D → D → Option D
  | .bool a, .bool b => some (.bool (!decide (a = b)))
  | _, _ => none
def lenD : D → Option D
  | .list ds => some (.int ds.length)
  | .tuple ds => some (.int ds.length)
  | .str x => if x.length ≤ sz then some (.int x.length) else none
  | _ => none
def sumD : D → Option D
  | .list ds => (intsOf ds).map fun ns => .int ns.sum
  | .tuple ds => (intsOf ds).map fun ns => .int ns.sum
  | _ => none
def sumLD : D → Option D
  | .list ds => (intsOf ds).map fun ns => .int ns.sum
  | _ => none
def minL : List Int → Option Int
  | [] => none
  | x :: xs => some (xs.foldl (fun m y => if y < m then y else m) x)
def maxL : List Int → Option Int
  | [] => none
  | x :: xs => some (xs.foldl (fun m y => if m < y then y else m) x)
def minD : D → Option D
  | .list ds => (intsOf ds).bind fun ns => (minL ns).map .int
  | _ => none
def maxD : D → Option D
  | .list ds => (intsOf ds).bind fun ns => (maxL ns).map .int
  | _ => none
def min2D : D → D → Option D
  | .int i, .int j => some (.int (if j < i then j else i))
  | _, _ => none
def max2D : D → D → Option D
  | .int i, .int j => some (.int (if j > i then j else i))
  | _, _ => none
def allD : D → Option D
  | .list ds => (boolsOf ds).map fun bs => .bool (bs.all id)
  | _ => none
def anyD : D → Option D
  | .list ds => (boolsOf ds).map fun bs => .bool (bs.any id)
  | _ => none
/-- the items of a list or tuple -/
def itemsD : D → Option (List D)
  | .list ds => some ds
  | .tuple ds => some ds
  | _ => none
def listD : D → Option (List D) := itemsD
def tupleD (x : D) : Option D := (itemsD x).map .tuple
/-- the place of an index -/
def ixN (n : Nat) (i : Int) : Option Nat := if 0 ≤ i then (if i < n then some i.toNat else none) else if -(n : Int) ≤ i then some (i + n).toNat else none
def atI {α : Type} (xs : List α) (i : Int) : Option α := (ixN xs.length i).bind fun j => xs[j]?
def ixD : D → D → Option D
  | .list ds, .int i => atI ds i
  | .tuple ds, .int i => atI ds i
  | _, _ => none
/-- d[k] of a dict with int keys -/
def dgetD : D → D → Option D
  | .dict kvs, .int i => (kvs.find? fun p => match p.1 with | .int j => decide (j = i) | _ => false).map (·.2)
  | _, _ => none
def sIx (n d : Nat) : Option Int → Nat
  | none => d
  | some v => if v < 0 then (v + (n : Int)).toNat else min v.toNat n
def cut {α : Type} (xs : List α) (lo hi : Option Int) : List α := (xs.drop (sIx xs.length 0 lo)).take (sIx xs.length xs.length hi - sIx xs.length 0 lo)
def partD : Option D → Option (Option Int)
  | none => some none
  | some (.int i) => some (some i)
  | _ => none
def sliceD (x : D) (lo hi : Option Int) : Option D := match x with
  | .list ds => some (.list (cut ds lo hi))
  | .tuple ds => some (.tuple (cut ds lo hi))
  | _ => none
def powD : D → D → Option D
  | .int i, .int j => if 0 ≤ j ∧ j ≤ 1000000 ∧ i.natAbs < 2 ^ 64 then some (.int (i ^ j.toNat)) else none
  | _, _ => none
def insS (x : Int) : List Int → List Int
  | [] => [x]
  | y :: ys => if x < y then x :: y :: ys else if x = y then y :: ys else y :: insS x ys
/-- the ints of a list, each once, rising -/
def sset : List Int → List Int
  | [] => []
  | x :: xs => insS x (sset xs)
def ssetT : D → Option (List D)
  | .tuple ds => (intsOf ds).bind fun ns => if ns.length < 64 then some ((sset ns).map .int) else none
  | _ => none
def revT : D → Option D
  | .tuple ds => some (.tuple ds.reverse)
  | _ => none
def revD : D → Option (List D)
  | .list ds => some ds.reverse
  | _ => none
def intD : D → Option D
  | .int i => some (.int i)
  | .bool b => some (.int (if b then 1 else 0))
  | .str x => if x.length ≤ 640 then (PySem.intText? x).map .int else none
  | _ => none
def strD : D → Option D
  | .int i => if i.natAbs.log2 < 1920 then some (.str (toString i)) else none
  | .bool b => some (.str (if b then "True" else "False"))
  | _ => none
def absD : D → Option D
  | .int i => some (.int (if i < 0 then -i else i))
  | _ => none
def tyD : D → String
  | .none => "NoneType"
  | .bool _ => "bool"
  | .int _ => "int"
  | .str _ => "str"
  | .list _ => "list"
  | .tuple _ => "tuple"
  | .dict _ => "dict"
inductive Ty where
  | int | bool | str | list | tuple
def isi : Ty → D → Bool
  | .int, .int _ => true
  | .int, .bool _ => true
  | .bool, .bool _ => true
  | .str, .str _ => true
  | .list, .list _ => true
  | .tuple, .tuple _ => true
  | _, _ => false
def isiD (t : Ty) (x : D) : Option D := some (.bool (isi t x))
def rangeL (lo hi : Int) : List D := (List.range (hi - lo).toNat).map fun (i : Nat) => .int (lo + (i : Int))
def rangeD (lo hi : Int) : Option (List D) := if -(2 ^ 62) ≤ lo ∧ lo < 2 ^ 62 ∧ -(2 ^ 62) ≤ hi ∧ hi < 2 ^ 62 ∧ (hi - lo).toNat ≤ sz then some (rangeL lo hi) else none
def rangeDown (lo hi : Int) : Option (List D) := if -(2 ^ 62) ≤ lo ∧ lo < 2 ^ 62 ∧ -(2 ^ 62) ≤ hi ∧ hi < 2 ^ 62 ∧ (lo - hi).toNat ≤ sz then some ((List.range (lo - hi).toNat).map fun (i : Nat) => .int (lo - (i : Int))) else none
def enumL (ds : List D) : List D := (List.range ds.length).zipWith (fun (i : Nat) d => PyData.tuple [.int i, d]) ds
def zipL (xs ys : List D) : List D := xs.zipWith (fun x y => .tuple [x, y]) ys

/-- sorted -/
def isTup1 : D → Bool
  | .tuple (_ :: _) => true
  | _ => false
def notNT : D → Bool
  | .none => false
  | .tuple _ => false
  | _ => true
def sortOk (ds : List D) : Bool := (ds.all fun d => ds.all fun d' => PySem.W.alike d d') && (ds.all isTup1 || ds.all notNT) && ds.all fun d => SeqAt.shaped d
def sortL (ds : List D) : List D := ds.mergeSort (PySem.W.dataLe false id)
/-- ints, rising -/
def isort (ns : List Int) : List Int := ns.mergeSort fun a b => decide (a ≤ b)
def sortD : D → Option (List D)
  | .list ds => if sortOk ds = true then some (sortL ds) else none
  | .tuple ds => (intsOf ds).bind fun ns => if ns.length ≤ sz then some ((isort ns).map .int) else none
  | _ => none
/-! ### expressions over the frame's data -/
abbrev XE := DE → Pr D
abbrev XL := DE → Pr (List D)
abbrev XT := DE → Pr Bool
def xVar (i : Nat) : XE := fun δ => match δ[i]? with
  | some (.dat d) => ret d
  | _ => none
def xC (d : D) : XE := fun _ => ret d
def x1 (f : D → Option D) (A : XE) : XE := fun δ => bnd (A δ) fun x => lift (f x)
def x2 (f : D → D → Option D) (A B : XE) : XE := fun δ => bnd (A δ) fun x => bnd (B δ) fun y => lift (f x y)
def xNil : XL := fun _ => ret []
def xCons (A : XE) (B : XL) : XL := fun δ => bnd (A δ) fun x => bnd (B δ) fun xs => ret (x :: xs)
def xTup (A : XL) : XE := fun δ => bnd (A δ) fun xs => if xs.length ≤ sz then ret (.tuple xs) else none
def xLst (A : XL) : XL := fun δ => bnd (A δ) fun xs => if xs.length ≤ sz then ret xs else none
def xOfL (A : XL) : XE := fun δ => bnd (A δ) fun xs => ret (.list xs)
def xTupL (A : XL) : XE := fun δ => bnd (A δ) fun xs => ret (.tuple xs)
def xCall (F : List D → Pr D) (A : XL) : XE := fun δ => bnd (A δ) F
/-- [..] * n -/
def xRep (L : XL) (B : XE) : XL := fun δ => bnd (L δ) fun xs => bnd (B δ) fun k => match k with
  | .int k => if (-(2 ^ 63) ≤ k ∧ k < 2 ^ 63) ∧ xs.length * k.toNat ≤ sz then ret (List.replicate k.toNat xs).flatten else none
  | _ => none
def xF1 (f : D → Option (List D)) (A : XE) : XL := fun δ => bnd (A δ) fun x => lift (f x)
/-- a chain a op b op c -/
def xChain (f g : D → D → Option D) (A B C : XE) : XE := fun δ => bnd (A δ) fun x => bnd (B δ) fun y => match f x y with
  | some (.bool true) => bnd (C δ) fun z => lift (g y z)
  | some (.bool false) => ret (.bool false)
  | _ => none
def yV (A : XE) : XT := fun δ => bnd (A δ) fun x => match x with
  | .bool b => ret b
  | _ => none
def yAnd (t u : XT) : XT := fun δ => bnd (t δ) fun b => if b then u δ else ret false
def yOr (t u : XT) : XT := fun δ => bnd (t δ) fun b => if b then ret true else u δ
def yNot (t : XT) : XT := fun δ => bnd (t δ) fun b => ret (!b)
def yTrue : XT := fun _ => ret true
def xAnd (A B : XE) : XE := fun δ => bnd (A δ) fun x => match x with
  | .bool true => B δ
  | .bool false => ret (.bool false)
  | _ => none
def xOr (A B : XE) : XE := fun δ => bnd (A δ) fun x => match x with
  | .bool true => ret (.bool true)
  | .bool false => B δ
  | _ => none
def xNot (A : XE) : XE := fun δ => bnd (A δ) fun x => match x with
  | .bool b => ret (.bool (!b))
  | _ => none
def xIf (t : XT) (A B : XE) : XE := fun δ => bnd (t δ) fun b => if b then A δ else B δ
abbrev XO := DE → Pr (Option Int)
def xNoPart : XO := fun _ => ret none
def xPart (A : XE) : XO := fun δ => bnd (A δ) fun x => match x with
  | .int i => ret (some i)
  | _ => none
def xSlice (A : XE) (lo hi : XO) : XE := fun δ => bnd (A δ) fun x => bnd (lo δ) fun l => bnd (hi δ) fun h => lift (sliceD x l h)
def xRange1 (A : XE) : XL := fun δ => bnd (A δ) fun x => match x with
  | .int i => lift (rangeD 0 i)
  | _ => none
def xRange2 (A B : XE) : XL := fun δ => bnd (A δ) fun x => bnd (B δ) fun y => match x, y with
  | .int i, .int j => lift (rangeD i j)
  | _, _ => none
def xRangeD (A B : XE) : XL := fun δ => bnd (A δ) fun x => bnd (B δ) fun y => match x, y with
  | .int i, .int j => lift (rangeDown i j)
  | _, _ => none
/-- what a for walks: a list or tuple; enumerate; zip of two lists, of two tuples, of a list and a tuple -/
def xIter (A : XE) : XL := xF1 itemsD A
/-- isinstance of the object at a, which slot i holds -/
def xIsE (i a : Nat) (b : Bool) : XE := fun δ => match δ[i]? with
  | some (.raw a') => if a' = a then ret (.bool b) else none
  | _ => none
/-- what a deed tells, or the word for what it raises -/
def xTold (word : Nat → Option D) (B : XE) : XE := fun δ => match B δ with
  | some (.ok d) => ret d
  | some (.ex c) => lift (word c)
  | none => none
def wordX (cls : List Str) : Nat → Option D := fun i => (cls[i]?).map .str
/-- a list and a list: a new one -/
def xCat (A B : XE) : XL := fun δ => bnd (A δ) fun x => bnd (B δ) fun y => match x, y with
  | .list xs, .list ys => if xs.length + ys.length ≤ sz then ret (xs ++ ys) else none
  | _, _ => none
/-- xs.index(b) of a list of truths -/
def xIndexB (A B : XE) : XE := fun δ => bnd (A δ) fun x => match x with
  | .list ds => bnd (B δ) fun y => (match y with
    | .bool b => lift ((boolsOf ds).bind fun bs => (bs.findIdx? fun x => decide (x = b)).map fun j => .int (j : Nat))
    | _ => none)
  | _ => none
/-- xs.index(y), y there -/
def xIndexD (A B : XE) : XE := fun δ => bnd (A δ) fun x => match x with
  | .list ds => bnd (B δ) fun y => if SeqAt.shaped y = true ∧ SeqAt.shaped (.list ds) = true then lift ((ds.findIdx? fun z => PyData.eqv z y).map fun j => .int (j : Nat)) else none
  | _ => none
def xIterL (A : XE) : XL := xF1 (fun d => match d with | .list ds => some ds | _ => none) A
def xEnum (A : XE) : XL := fun δ => bnd (A δ) fun x => bnd (lift (itemsD x)) fun ds => ret (enumL ds)
/-- of two tuples alone -/
def xZipT (A B : XE) : XL := fun δ => bnd (A δ) fun x => bnd (B δ) fun y => match x, y with
  | .tuple xs, .tuple ys => ret (zipL xs ys)
  | _, _ => none
def xZip (A B : XE) : XL := fun δ => bnd (A δ) fun x => bnd (B δ) fun y => match x, y with
  | .list xs, .list ys => ret (zipL xs ys)
  | .tuple xs, .tuple ys => ret (zipL xs ys)
  | .list xs, .tuple ys => ret (zipL xs ys)
  | _, _ => none

/-- xs[::k], k = 1 or -1 -/
def xStep (A B : XE) : XL := fun δ => bnd (A δ) fun x => match x with
  | .list ds => bnd (B δ) fun k => (match k with
    | .int k => if k = 1 then ret ds else if k = -1 then ret ds.reverse else none
    | _ => none)
  | _ => none

/-! ### targets -/
abbrev XG := D → DE → Option DE
abbrev XGs := List D → DE → Option DE
def gN (i : Nat) : XG := fun d δ => if i < δ.length then some (δ.set i (.dat d)) else none
def gsNil : XGs := fun ds δ => match ds with
  | [] => some δ
  | _ => none
def gsCons (g : XG) (gs : XGs) : XGs := fun ds δ => match ds with
  | d :: r => (g d δ).bind (gs r)
  | [] => none
def gT (n : Nat) (gs : XGs) : XG := fun d δ => match d with
  | .tuple ds => if ds.length = n then gs ds δ else none
  | .list ds => if ds.length = n then gs ds δ else none
  | _ => none

/-! ### comprehensions -/
def unOwn : Sl → Sl
  | .own _ => .no
  | s => s
def wipeD (δ : DE) : List Nat → DE
  | [] => δ.map unOwn
  | v :: vs => (wipeD δ vs).set v .no
def lcGo (g : XG) (t : XT) (e : XE) (δ : DE) : List D → Option (List D)
  | [] => some []
  | x :: xs => (g x δ).bind fun δ1 => match t δ1 with
    | some (.ok true) => (match e δ1 with
      | some (.ok y) => (lcGo g t e δ xs).map (y :: ·)
      | _ => none)
    | some (.ok false) => lcGo g t e δ xs
    | _ => none
def xLc (it : XL) (g : XG) (t : XT) (e : XE) (vs : List Nat) : XL := fun δ => bnd (it δ) fun xs => lift (lcGo g t e (wipeD δ vs) xs)

/-! ### statements -/
inductive Out where
  | nx (δ : DE)
  | rt (d : D)
  | bk (δ : DE)
  | ct (δ : DE)
  | ex (c : Nat)
abbrev XS := DE → Option Out
def sNext : XS := fun δ => some (.nx δ)
def sSeq (s t : XS) : XS := fun δ => match s δ with
  | some (.nx δ') => t δ'
  | o => o
def sBreak : XS := fun δ => some (.bk δ)
def sCont : XS := fun δ => some (.ct δ)
/-- a value for a statement -/
def onE {α : Type} (x : Pr α) (f : α → Option Out) : Option Out := match x with
  | some (.ok a) => f a
  | some (.ex c) => some (.ex c)
  | none => none
@[simp] theorem onE_ret {α : Type} (a : α) (f : α → Option Out) : onE (ret a) f = f a := id rfl
@[simp] theorem onE_ok {α : Type} (a : α) (f : α → Option Out) : onE (some (.ok a)) f = f a := id rfl
@[simp] theorem onE_ex {α : Type} (c : Nat) (f : α → Option Out) : onE (some (.ex c)) f = some (.ex c) := id rfl
@[simp] theorem onE_none {α : Type} (f : α → Option Out) : onE (none : Pr α) f = none := id rfl
def sRet (A : XE) : XS := fun δ => onE (A δ) fun d => some (.rt d)
def sRetN : XS := fun _ => some (.rt .none)
def sDrop (A : XE) : XS := fun δ => onE (A δ) fun _ => some (.nx δ)
def sIf (t : XT) (a b : XS) : XS := fun δ => onE (t δ) fun c => if c then a δ else b δ
/-- target = value -/
def sAsg (A : XE) (g : XG) : XS := fun δ => onE (A δ) fun d => (g d δ).map .nx
/-- name = a new list, held by this def alone -/
def sNew (i : Nat) (A : XL) : XS := fun δ => onE (A δ) fun ds => if i < δ.length then some (.nx (δ.set i (.own (.lst ds)))) else none
def sNewD (i : Nat) : XS := fun δ => if i < δ.length then some (.nx (δ.set i (.own (.dct [])))) else none
def sPar (i j : Nat) (A B : XE) : XS := fun δ => onE (A δ) fun x => onE (B δ) fun y => if i < δ.length ∧ j < δ.length then some (.nx ((δ.set i (.dat x)).set j (.dat y))) else none
def sParN (i j : Nat) (A : XE) (B : XL) : XS := fun δ => onE (A δ) fun x => onE (B δ) fun ys => if i < δ.length ∧ j < δ.length then some (.nx ((δ.set i (.dat x)).set j (.own (.lst ys)))) else none
/-- x, y = a new list, [] -/
def sParE (i j : Nat) (A : XL) : XS := fun δ => onE (A δ) fun ds => if i < δ.length ∧ j < δ.length then some (.nx ((δ.set i (.own (.lst ds))).set j (.own (.lst [])))) else none
def frz (i : Nat) (δ : DE) : DE := match δ[i]? with
  | some (.own (.lst ds)) => δ.set i (.dat (.list ds))
  | _ => δ
/-- a scalar told of an own list that stays own -/
def scal : D → Option D
  | .int i => some (.int i)
  | .bool b => some (.bool b)
  | .none => some .none
  | _ => none
def xKeep (i : Nat) (A : XE) : XE := fun δ => bnd (A (frz i δ)) fun x => lift (scal x)
/-- ahead of it the i-th slot's own list becomes data -/
def sFrz (i : Nat) (s : XS) : XS := fun δ => s (frz i δ)
def sApp (i : Nat) (A : XE) : XS := fun δ => match δ[i]? with
  | some (.own (.lst ds)) => onE (A δ) fun d => if ds.length < sz then some (.nx (δ.set i (.own (.lst (ds ++ [d]))))) else none
  | _ => none
def sExtend (i : Nat) (A : XE) : XS := fun δ => match δ[i]? with
  | some (.own (.lst ds)) => onE (A δ) fun d => match itemsD d with
    | some es => if ds.length + es.length ≤ sz then some (.nx (δ.set i (.own (.lst (ds ++ es))))) else none
    | none => none
  | _ => none
/-- xs[k] = e, xs an own list -/
def sSetIx (i : Nat) (B A : XE) : XS := fun δ => match δ[i]? with
  | some (.own (.lst ds)) => onE (A δ) fun d => onE (B δ) fun k => match k with
    | .int k => (match ixN ds.length k with
      | some j => some (.nx (δ.set i (.own (.lst (ds.set j d)))))
      | none => none)
    | _ => none
  | _ => none
/-- reading an own list without giving it away: xs[k], len(xs) -/
def xOwnIx (i : Nat) (B : XE) : XE := fun δ => match δ[i]? with
  | some (.own (.lst ds)) => bnd (B δ) fun k => match k with
    | .int k => lift (atI ds k)
    | _ => none
  | _ => none
def xOwnLen (i : Nat) : XE := fun δ => match δ[i]? with
  | some (.own (.lst ds)) => ret (.int ds.length)
  | _ => none
/-- ys.append(xs.pop(k)) -/
def sAppPop (i j : Nat) (B : XE) : XS := fun δ => match δ[i]?, δ[j]? with
  | some (.own (.lst ds)), some (.own (.lst es)) => onE (B δ) fun k => match k with
    | .int k => (match ixN es.length k with
      | some m => (match es[m]? with
        | some d => if i ≠ j ∧ (-(2 ^ 63) ≤ k ∧ k < 2 ^ 63) ∧ ds.length < sz then some (.nx ((δ.set j (.own (.lst (es.eraseIdx m)))).set i (.own (.lst (ds ++ [d]))))) else none
        | none => none)
      | none => none)
    | _ => none
  | _, _ => none
def putKey (k : DKey) (d : D) : List (DKey × D) → List (DKey × D)
  | [] => [(k, d)]
  | (k', d') :: r => if k' = k then (k', d) :: r else (k', d') :: putKey k d r
def keyOf : D → Option DKey
  | .int i => some (.inl i)
  | .str x => some (.inr x)
  | _ => none
/-- d[k] = e, d an own dict -/
def sPut (i : Nat) (B A : XE) : XS := fun δ => match δ[i]? with
  | some (.own (.dct kvs)) => onE (A δ) fun d => onE (B δ) fun k => match keyOf k with
    | some k => if kvs.length < sz then some (.nx (δ.set i (.own (.dct (putKey k d kvs))))) else none
    | none => none
  | _ => none
def xOwnHas (i : Nat) (B : XE) : XT := fun δ => match δ[i]? with
  | some (.own (.dct kvs)) => bnd (B δ) fun k => match keyOf k with
    | some k => ret (kvs.any fun p => p.1 = k)
    | none => none
  | _ => none
def forGo (g : XG) (body : XS) : List D → XS
  | [], δ => some (.nx δ)
  | d :: ds, δ => (g d δ).bind fun δ1 => match body δ1 with
    | some (.nx δ2) => forGo g body ds δ2
    | some (.ct δ2) => forGo g body ds δ2
    | some (.bk δ2) => some (.nx δ2)
    | o => o
def sFor (it : XL) (g : XG) (body : XS) : XS := fun δ => onE (it δ) fun ds => forGo g body ds δ
def whGo (t : XT) (body : XS) : Nat → XS
  | 0, _ => none
  | n + 1, δ => onE (t δ) fun b => if b then (match body δ with
    | some (.nx δ2) => whGo t body n δ2
    | some (.ct δ2) => whGo t body n δ2
    | some (.bk δ2) => some (.nx δ2)
    | o => o) else some (.nx δ)
def sWhile (n : Nat) (t : XT) (body : XS) : XS := whGo t body n
def sRaise (c : Nat) : XS := fun _ => some (.ex c)
def sNever : XS := fun _ => none

/-- a def of n slots -/
def start (n : Nat) (ds : List D) : DE := ds.map .dat ++ List.replicate (n - ds.length) .no
def fnD (p n : Nat) (body : XS) : List D → Pr D := fun ds => if ds.length = p then (match body (start n ds) with
  | some (.rt d) => some (.ok d)
  | some (.nx _) => some (.ok .none)
  | some (.ex c) => some (.ex c)
  | _ => none) else none
end DL
set_option Elab.async false
set_option linter.all false
set_option autoImplicit false
/-! further plain functions: dicts -/
namespace DL
open PySem
/-- in its place, or at the end -/
def putD (kvs : List (DKey × D)) (k : DKey) (d : D) : List (DKey × D) :=
  if (kvs.any fun kv => decide (kv.1 = k)) = true then kvs.map (fun kv => if kv.1 = k then (kv.1, d) else kv) else kvs ++ [(k, d)]
/-- d[k] = e, d an own dict -/
def sPutD (i : Nat) (B A : XE) : XS := fun δ => match δ[i]? with
  | some (.own (.dct kvs)) => onE (A δ) fun d => onE (B δ) fun k => match keyOf k with
    | some k => if kvs.length < sz then some (.nx (δ.set i (.own (.dct (putD kvs k d))))) else none
    | none => none
  | _ => none
/-- ahead of it the i-th slot's own dict becomes data -/
def sLck (i : Nat) (s : XS) : XS := fun δ => match δ[i]? with
  | some (.own (.dct kvs)) => s (δ.set i (.dat (.dict (kvs.map fun p => (keyD p.1, p.2)))))
  | _ => s δ
/-- for k in d, d a dict as data -/
def xKeys (A : XE) : XL := fun δ => bnd (A δ) fun x => match x with
  | .dict kvs => if kvs.length ≤ sz then ret (kvs.map (·.1)) else none
  | _ => none
/-- the value at a key -/
def kvGet (kvs : List (D × D)) (k : DKey) : Option D := (kvs.find? fun p => decide (keyOf p.1 = some k)).map (·.2)
/-- d[k] of a dict as data -/
def dgX : D → D → Option D
  | .dict kvs, k => (keyOf k).bind (kvGet kvs)
  | _, _ => none
/-- sorted(set(xs)) of a list of ints -/
def ssetL : D → Option (List D)
  | .list ds => (intsOf ds).bind fun ns => if ns.length < 64 then some ((sset ns).map .int) else none
  | _ => none
def keysOf : List D → Option (List DKey)
  | [] => some []
  | d :: r => (keyOf d).bind fun k => (keysOf r).map (k :: ·)
/-- the keys of a list, each once -/
def dd2 (ks : List DKey) : List DKey := ks.foldl (fun acc k => if (acc.any fun j => decide (j = k)) = true then acc else acc ++ [k]) []
/-- len(set(xs)) of a list of ints or texts -/
def lenSetD : D → Option D
  | .list ds => (keysOf ds).bind fun ks => if ks.length < 64 then some (.int (dd2 ks).length) else none
  | _ => none
/-! rows: a list of lists that this def alone holds -/
abbrev XR := DE → Pr (List (List D))
def lcGoF (g : XG) (t : XT) (e : XL) (δ : DE) : List D → Option (List (List D))
  | [] => some []
  | x :: xs => (g x δ).bind fun δ1 => match t δ1 with
    | some (.ok true) => (match e δ1 with
      | some (.ok y) => (lcGoF g t e δ xs).map (y :: ·)
      | _ => none)
    | some (.ok false) => lcGoF g t e δ xs
    | _ => none
def xLcF (it : XL) (g : XG) (t : XT) (e : XL) (vs : List Nat) : XR := fun δ => bnd (it δ) fun xs => lift (lcGoF g t e (wipeD δ vs) xs)
def noRows (δ : DE) : Bool := δ.all fun s => match s with
  | .own o => !isRows o
  | _ => true
def sNewR (i : Nat) (A : XR) : XS := fun δ => onE (A δ) fun dss => if i < δ.length ∧ noRows δ = true then some (.nx (δ.set i (.own (.rows dss)))) else none
/-- ahead of it the i-th slot's rows become data -/
def sFrzR (i : Nat) (s : XS) : XS := fun δ => match δ[i]? with
  | some (.own (.rows dss)) => s (δ.set i (.dat (.list (dss.map .list))))
  | _ => s δ
/-- xs[k][l] -/
def xRowIx (i : Nat) (B C : XE) : XE := fun δ => match δ[i]? with
  | some (.own (.rows dss)) => bnd (B δ) fun k => match k with
    | .int k => (match atI dss k with
      | some ds => bnd (C δ) fun l => (match l with
        | .int l => lift (atI ds l)
        | _ => none)
      | none => none)
    | _ => none
  | _ => none
/-- xs[k][l] = e -/
def sSetRow (i : Nat) (B C A : XE) : XS := fun δ => match δ[i]? with
  | some (.own (.rows dss)) => onE (A δ) fun d => onE (B δ) fun k => match k with
    | .int k => (match ixN dss.length k with
      | some m => (match dss[m]? with
        | some ds => onE (C δ) fun l => (match l with
          | .int l => (match ixN ds.length l with
            | some n => some (.nx (δ.set i (.own (.rows (dss.set m (ds.set n d))))))
            | none => none)
          | _ => none)
        | none => none)
      | none => none)
    | _ => none
  | _ => none
end DL
set_option Elab.async false
set_option linter.all false
set_option autoImplicit false
/-! dict(xs) of a list of pairs -/
namespace DL
open PySem
/-- one pair -/
def pairOf : D → Option (DKey × D)
  | .tuple [k, v] => (keyOf k).map fun k => (k, v)
  | _ => none
def pairsOf : List D → Option (List (DKey × D))
  | [] => some []
  | d :: r => (pairOf d).bind fun p => (pairsOf r).map (p :: ·)
def mergeD (acc more : List (DKey × D)) : List (DKey × D) := more.foldl (fun acc kv => putD acc kv.1 kv.2) acc
/-- x = dict(xs) -/
def sNewDL (i : Nat) (A : XE) : XS := fun δ => onE (A δ) fun d => match d with
  | .list ds => (match pairsOf ds with
    | some kvs => if i < δ.length then some (.nx (δ.set i (.own (.dct (mergeD [] kvs))))) else none
    | none => none)
  | _ => none
end DL
set_option Elab.async false
set_option linter.all false
set_option autoImplicit false
namespace DL
open PySem
/-! texts; a comprehension that an exception may leave -/
def lcGoX (g : XG) (t : XT) (e : XE) (δ : DE) : List D → Pr (List D)
  | [] => ret []
  | x :: xs => match g x δ with
    | none => none
    | some δ1 => (match t δ1 with
      | some (.ok true) => bnd (e δ1) fun y => bnd (lcGoX g t e δ xs) fun ys => ret (y :: ys)
      | some (.ok false) => lcGoX g t e δ xs
      | _ => none)
def xLcX (it : XL) (g : XG) (t : XT) (e : XE) (vs : List Nat) : XL := fun δ => bnd (it δ) fun xs => lcGoX g t e (wipeD δ vs) xs
/-- a method of a text -/
def xM (f : Str → D → Option D) (A B : XE) : XE := fun δ => bnd (A δ) fun x => match x with
  | .str a => bnd (B δ) fun y => lift (f a y)
  | _ => none
def xMF (f : Str → D → Option (List D)) (A B : XE) : XL := fun δ => bnd (A δ) fun x => match x with
  | .str a => bnd (B δ) fun y => lift (f a y)
  | _ => none
/-- a.split(b) -/
def splitD (a : Str) : D → Option (List D)
  | .str b => if (b.length == 0) = false ∧ a.length + 2 ≤ sz then some ((PySem.Txt.split a b).map .str) else none
  | _ => none
/-- a.partition(b) -/
def partiD (a : Str) : D → Option D
  | .str b => if (b.length == 0) = false ∧ a.length ≤ sz then some (.tuple [.str (PySem.Txt.partition a b).1, .str (PySem.Txt.partition a b).2.1, .str (PySem.Txt.partition a b).2.2]) else none
  | _ => none
/-- a.join(list) -/
def joinD (a : Str) : D → Option D
  | .list ds => (strsOf ds).bind fun ys => if (ys.map (·.length)).sum + ys.length * a.length ≤ 16777216 then some (.str (PySem.Txt.join a ys)) else none
  | _ => none
/-- a sign of a text -/
def ixS : D → D → Option D
  | .str z, .int i => if z.length ≤ sz then (atI z.cps.toList i).map fun c => .str ⟨#[c]⟩ else none
  | _, _ => none
def sliceS (x : D) (lo hi : Option Int) : Option D := match x with
  | .str z => if z.length ≤ sz then some (.str (L2.cutS z lo hi)) else none
  | _ => none
def xSliceS (A : XE) (Lo Hi : XO) : XE := fun δ => bnd (A δ) fun x => bnd (Lo δ) fun lo => bnd (Hi δ) fun hi => lift (sliceS x lo hi)
def signsD : D → Option (List D)
  | .str z => if z.length ≤ sz then some (z.cps.toList.map fun c => .str ⟨#[c]⟩) else none
  | _ => none
def xIterS (A : XE) : XL := fun δ => bnd (A δ) fun x => lift (signsD x)
/-- x.replace(y, z, 1) -/
def repl1 (x y z : Str) : Str := if ((Builtin.Str.occurrences x y 0 x.length 1).isEmpty || (y.length == 0 && z.length == 0)) = true then x else Builtin.Str.glued z (Builtin.Str.partsBetween x (Builtin.Str.occurrences x y 0 x.length 1) y.length)
def xRepl (A : XE) (y z : Str) : XE := fun δ => bnd (A δ) fun x => match x with
  | .str a => if a.length + z.length ≤ 1000000 then ret (.str (repl1 a y z)) else none
  | _ => none
/-- xs[:0:-1] -/
def backD : D → Option (List D)
  | .list ds => some (ds.drop 1).reverse
  | _ => none
end DL
set_option Elab.async false
set_option linter.all false
set_option maxRecDepth 100000
set_option maxHeartbeats 4000000
set_option autoImplicit false
namespace DL
open PySem L2
open LamX (ExtN Tabs TabS CodeO)

mutual
/-- the value v stands for the data d -/
inductive Dv (K : PySem.W.Frag) (G : Hp) : V → D → Prop
  | non : Dv K G .non .none
  | bl (b : Bool) : Dv K G (.bl b) (.bool b)
  | int (i : Int) : Dv K G (.int i) (.int i)
  | str (x : Str) : Dv K G (.str x) (.str x)
  | lst {a : Addr} {xs : List V} {ds : List D} : SqL K G a xs → DvAll K G xs ds → Dv K G (.ref a) (.list ds)
  | tup {a : Addr} {xs : List V} {ds : List D} : SqT K G a xs → DvAll K G xs ds → Dv K G (.ref a) (.tuple ds)
  | dct {a : Addr} {ob : Obj} {kvs : List (Key × V)} {kds : List (D × D)} : G a = some (.frz ob (.dK kvs)) → DvKV K G kvs kds → Dv K G (.ref a) (.dict kds)
inductive DvAll (K : PySem.W.Frag) (G : Hp) : List V → List D → Prop
  | nil : DvAll K G [] []
  | cons {v : V} {vs : List V} {d : D} {ds : List D} : Dv K G v d → DvAll K G vs ds → DvAll K G (v :: vs) (d :: ds)
inductive DvKV (K : PySem.W.Frag) (G : Hp) : List (Key × V) → List (D × D) → Prop
  | nil : DvKV K G [] []
  | cons {k : Key} {v : V} {vs : List (Key × V)} {d : D} {ds : List (D × D)} : Dv K G v d → DvKV K G vs ds → DvKV K G ((k, v) :: vs) ((keyD k, d) :: ds)
end

def NT (o : HO) : Prop := ∀ ps, o ≠ .tbl ps
theorem nt_lst (xs : List V) : NT (.lst xs) := fun _ z => nomatch z
theorem nt_tup (xs : List V) : NT (.tup xs) := fun _ z => nomatch z
theorem nt_dK (xs : List (Key × V)) : NT (.dK xs) := fun _ z => nomatch z
theorem nt_frz (o : Obj) (u : HO) : NT (.frz o u) := fun _ z => nomatch z

open Classical in
noncomputable def mask (H : Hp) (M : Addr → Prop) : Hp := fun a => if M a then none else H a
theorem mask_in {H : Hp} {M : Addr → Prop} {a : Addr} (h : M a) : mask H M a = none := by unfold mask; rw [if_pos h]
theorem mask_out {H : Hp} {M : Addr → Prop} {a : Addr} (h : ¬ M a) : mask H M a = H a := by unfold mask; rw [if_neg h]
theorem of_mask {H : Hp} {M : Addr → Prop} {a : Addr} {o : HO} (h : mask H M a = some o) : ¬ M a ∧ H a = some o := by
  by_cases m : M a
  · rw [mask_in m] at h; cases h
  · rw [mask_out m] at h; exact ⟨m, h⟩
theorem mask_ext {H H' : Hp} {M M' : Addr → Prop} (hm : ∀ a o, H a = some o → NT o → ¬ M a → ¬ M' a) (h : ExtN H H') : ExtN (mask H M) (mask H' M') := fun a o e n => by
  obtain ⟨na, e'⟩ := of_mask e
  rw [mask_out (hm a o e' n na)]
  exact h a o e' n
theorem mask_le {H H' : Hp} {M M' : Addr → Prop} (hm : ∀ a, M' a → M a) (h : ExtN H H') : ExtN (mask H M) (mask H' M') := mask_ext (fun a _ _ _ na z => na (hm a z)) h
theorem mask_sub (H : Hp) (M : Addr → Prop) : ExtN (mask H M) H := fun a o e _ => (of_mask e).2

theorem sqL_ext {K : PySem.W.Frag} {G G' : Hp} {a : Addr} {xs : List V} (h : ExtN G G') (q : SqL K G a xs) : SqL K G' a xs := by
  rcases q with (q | ⟨o, q⟩) | q
  · exact .inl (.inl (h a _ q (nt_lst xs)))
  · exact .inl (.inr ⟨o, h a _ q (nt_frz o _)⟩)
  · exact .inr q
theorem rdD_ext {G G' : Hp} {a : Addr} {xs : List (Key × V)} (h : ExtN G G') (q : Rd G a (.dK xs)) : Rd G' a (.dK xs) := by
  rcases q with q | ⟨o, q⟩
  · exact .inl (h a _ q (nt_dK xs))
  · exact .inr ⟨o, h a _ q (nt_frz o _)⟩
theorem sqT_ext {K : PySem.W.Frag} {G G' : Hp} {a : Addr} {xs : List V} (h : ExtN G G') (q : SqT K G a xs) : SqT K G' a xs := by
  rcases q with (q | ⟨o, q⟩) | q
  · exact .inl (.inl (h a _ q (nt_tup xs)))
  · exact .inl (.inr ⟨o, h a _ q (nt_frz o _)⟩)
  · exact .inr q
theorem dp_ext {K : PySem.W.Frag} {G G' : Hp} (h : ExtN G G') {v : V} {d : D} (q : Dv K G v d) : Dv K G' v d :=
  Dv.rec (motive_1 := fun v d _ => Dv K G' v d) (motive_2 := fun vs ds _ => DvAll K G' vs ds) (motive_3 := fun vs ds _ => DvKV K G' vs ds) .non .bl .int .str
    (fun s _ ih => .lst (sqL_ext h s) ih) (fun s _ ih => .tup (sqT_ext h s) ih) (fun {_ ob _ _} s _ ih => .dct (h _ _ s (nt_frz ob _)) ih) .nil (fun _ _ i j => .cons i j) .nil (fun _ _ i j => .cons i j) q
theorem dpKV_ext {K : PySem.W.Frag} {G G' : Hp} (h : ExtN G G') : ∀ {vs : List (Key × V)} {ds : List (D × D)}, DvKV K G vs ds → DvKV K G' vs ds
  | _, _, .nil => .nil
  | _, _, .cons a b => .cons (dp_ext h a) (dpKV_ext h b)
theorem dpAll_ext {K : PySem.W.Frag} {G G' : Hp} (h : ExtN G G') : ∀ {vs : List V} {ds : List D}, DvAll K G vs ds → DvAll K G' vs ds
  | _, _, .nil => .nil
  | _, _, .cons a b => .cons (dp_ext h a) (dpAll_ext h b)
theorem dpAll_len {K : PySem.W.Frag} {G : Hp} : ∀ {vs : List V} {ds : List D}, DvAll K G vs ds → vs.length = ds.length
  | _, _, .nil => rfl
  | _, _, .cons _ b => by simp [dpAll_len b]
theorem dpAll_get {K : PySem.W.Frag} {G : Hp} : ∀ {vs : List V} {ds : List D} {i : Nat} {v : V}, DvAll K G vs ds → vs[i]? = some v → ∃ d, ds[i]? = some d ∧ Dv K G v d
  | _, _, _, _, .nil, e => by simp at e
  | _, _, 0, _, .cons a _, e => by simp at e; subst e; exact ⟨_, rfl, a⟩
  | _, _, i + 1, _, .cons _ b, e => by
    obtain ⟨d, h1, h2⟩ := dpAll_get (i := i) b (by simpa using e)
    exact ⟨d, by simpa using h1, h2⟩
theorem dpAll_get' {K : PySem.W.Frag} {G : Hp} : ∀ {vs : List V} {ds : List D} {i : Nat} {d : D}, DvAll K G vs ds → ds[i]? = some d → ∃ v, vs[i]? = some v ∧ Dv K G v d
  | _, _, _, _, .nil, e => by simp at e
  | _, _, 0, _, .cons a _, e => by simp at e; subst e; exact ⟨_, rfl, a⟩
  | _, _, i + 1, _, .cons _ b, e => by
    obtain ⟨d, h1, h2⟩ := dpAll_get' (i := i) b (by simpa using e)
    exact ⟨d, by simpa using h1, h2⟩
theorem dpAll_app {K : PySem.W.Frag} {G : Hp} : ∀ {vs ws : List V} {ds es : List D}, DvAll K G vs ds → DvAll K G ws es → DvAll K G (vs ++ ws) (ds ++ es)
  | _, _, _, _, .nil, h => h
  | _, _, _, _, .cons a b, h => .cons a (dpAll_app b h)
theorem dpAll_take {K : PySem.W.Frag} {G : Hp} : ∀ {vs : List V} {ds : List D} (n : Nat), DvAll K G vs ds → DvAll K G (vs.take n) (ds.take n)
  | _, _, 0, _ => .nil
  | _, _, _ + 1, .nil => .nil
  | _, _, n + 1, .cons a b => .cons a (dpAll_take n b)
theorem dpAll_drop {K : PySem.W.Frag} {G : Hp} : ∀ {vs : List V} {ds : List D} (n : Nat), DvAll K G vs ds → DvAll K G (vs.drop n) (ds.drop n)
  | _, _, 0, h => h
  | _, _, _ + 1, .nil => .nil
  | _, _, n + 1, .cons _ b => dpAll_drop n b
theorem dpAll_rev {K : PySem.W.Frag} {G : Hp} : ∀ {vs : List V} {ds : List D}, DvAll K G vs ds → DvAll K G vs.reverse ds.reverse
  | _, _, .nil => .nil
  | _, _, .cons a b => by
    rw [List.reverse_cons, List.reverse_cons]
    exact dpAll_app (dpAll_rev b) (.cons a .nil)
theorem dpAll_set {K : PySem.W.Frag} {G : Hp} {v : V} {d : D} (h : Dv K G v d) : ∀ {vs : List V} {ds : List D} (n : Nat), DvAll K G vs ds → DvAll K G (vs.set n v) (ds.set n d)
  | _, _, _, .nil => .nil
  | _, _, 0, .cons _ b => .cons h b
  | _, _, n + 1, .cons a b => .cons a (dpAll_set h n b)
theorem dpAll_erase {K : PySem.W.Frag} {G : Hp} : ∀ {vs : List V} {ds : List D} (n : Nat), DvAll K G vs ds → DvAll K G (vs.eraseIdx n) (ds.eraseIdx n)
  | _, _, _, .nil => .nil
  | _, _, 0, .cons _ b => b
  | _, _, n + 1, .cons a b => .cons a (dpAll_erase n b)

/-- the heap has grown: all stands that stood -/
structure Ext (T : List (Addr × Str)) (H H' : Hp) : Prop where
  keep : ExtN H H'
  tabs : Tabs T H → Tabs T H'
theorem Ext.refl (T : List (Addr × Str)) (H : Hp) : Ext T H H := ⟨ExtN.refl H, id⟩
theorem Ext.trans {T : List (Addr × Str)} {H H1 H2 : Hp} (a : Ext T H H1) (b : Ext T H1 H2) : Ext T H H2 := ⟨a.keep.trans b.keep, fun t => b.tabs (a.tabs t)⟩
theorem Ext.of {T : List (Addr × Str)} {H H' : Hp} (e : ∀ b o, H b = some o → H' b = some o) : Ext T H H' := ⟨ExtN.of e, fun t => t.ext e⟩
theorem Ext.fresh {T : List (Addr × Str)} {H : Hp} {p : Addr} (o : HO) (h : H p = none) : Ext T H (upd H p o) := .of fun b u e => by
  rw [upd_ne (ne_of_none e h)]; exact e
def NX (o : HO) : Prop := NT o ∧ ∀ c q, o ≠ CodeO c q
theorem nx_lst (xs : List V) : NX (.lst xs) := ⟨nt_lst xs, fun _ _ => by unfold CodeO; intro z; cases z⟩
theorem nx_dK (xs : List (Key × V)) : NX (.dK xs) := ⟨nt_dK xs, fun _ _ => by unfold CodeO; intro z; cases z⟩
theorem tabs_write {T : List (Addr × Str)} {H : Hp} {a : Addr} {o o' : HO} (h : H a = some o) (n : NX o) (t : Tabs T H) : Tabs T (upd H a o') := fun p hp => by
  obtain ⟨ps, h1, h2, h3⟩ := t p hp
  refine ⟨ps, ?_, h2, fun pos cv hc => ?_⟩
  · rw [upd_ne (ne_of h1 h (fun z => n.1 ps z.symm))]; exact h1
  · obtain ⟨c, e, h4⟩ := h3 pos cv hc
    refine ⟨c, e, ?_⟩
    rw [upd_ne (ne_of h4 h (fun z => n.2 _ _ z.symm))]; exact h4

/-- an own object: what it holds -/
inductive OwnR (K : PySem.W.Frag) (G : Hp) : HO → OD → Prop
  | lst {vs : List V} {ds : List D} : DvAll K G vs ds → OwnR K G (.lst vs) (.lst ds)
  | dct {vs : List (Key × V)} {ds : List (Key × D)} : Paired (fun (p : Key × V) (q : Key × D) => p.1 = q.1 ∧ Dv K G p.2 q.2) vs ds → OwnR K G (.dK vs) (.dct ds)
  | rows {as : List Addr} {dss : List (List D)} : OwnR K G (.lst (as.map V.ref)) (.rows dss)
theorem OwnR.nx {K : PySem.W.Frag} {G : Hp} {o : HO} {d : OD} (h : OwnR K G o d) : NX o := by
  cases h
  · exact nx_lst _
  · exact nx_dK _
  · exact nx_lst _
theorem OwnR.nt {K : PySem.W.Frag} {G : Hp} {o : HO} {d : OD} (h : OwnR K G o d) : NT o := h.nx.1
theorem own_ext {K : PySem.W.Frag} {G G' : Hp} (x : ExtN G G') {o : HO} {d : OD} (h : OwnR K G o d) : OwnR K G' o d := by
  cases h with
  | lst h => exact .lst (dpAll_ext x h)
  | dct h => exact .dct (Paired.mapP h fun p q z => ⟨z.1, dp_ext x z.2⟩)
  | rows => exact .rows
theorem kv_of {K : PySem.W.Frag} {G : Hp} : ∀ {vs : List (Key × V)} {ds : List (Key × D)}, Paired (fun (p : Key × V) (q : Key × D) => p.1 = q.1 ∧ Dv K G p.2 q.2) vs ds → DvKV K G vs (ds.map fun p => (keyD p.1, p.2))
  | _, _, .nil => .nil
  | (k, v) :: _, (k', d) :: _, .cons ⟨e, h⟩ r => by
    have e' : k = k' := e
    subst e'
    exact .cons h (kv_of r)
/-- the rows at the addresses as -/
structure RowsR (K : PySem.W.Frag) (M : Addr → Prop) (H0 H G : Hp) (as : List Addr) (dss : List (List D)) : Prop where
  nd : as.Nodup
  new : ∀ b ∈ as, M b ∧ ∀ o, H0 b = some o → ¬ NT o
  at' : Paired (fun b ds => ∃ vs, H b = some (.lst vs) ∧ DvAll K G vs ds) as dss
theorem RowsR.ext {K : PySem.W.Frag} {M M' : Addr → Prop} {H0 H0' H H' G G' : Hp} {as : List Addr} {dss : List (List D)} (r : RowsR K M H0 H G as dss) (hm : ∀ b ∈ as, M b → M' b) (h0 : ∀ b ∈ as, (∀ o, H0 b = some o → ¬ NT o) → ∀ o, H0' b = some o → ¬ NT o) (x : ∀ b ∈ as, ∀ vs, H b = some (.lst vs) → H' b = some (.lst vs)) (g : ExtN G G') : RowsR K M' H0' H' G' as dss := by
  refine ⟨r.nd, fun b hb => ⟨hm b hb (r.new b hb).1, h0 b hb (r.new b hb).2⟩, ?_⟩
  have key : ∀ {as : List Addr} {dss : List (List D)}, Paired (fun b ds => ∃ vs, H b = some (.lst vs) ∧ DvAll K G vs ds) as dss → (∀ b ∈ as, ∀ vs, H b = some (.lst vs) → H' b = some (.lst vs)) → Paired (fun b ds => ∃ vs, H' b = some (.lst vs) ∧ DvAll K G' vs ds) as dss := by
    intro as dss p
    induction p with
    | nil => intro _; exact .nil
    | cons h _ ih =>
      intro x
      obtain ⟨vs, h1, h2⟩ := h
      exact .cons ⟨vs, x _ (by simp) vs h1, dpAll_ext g h2⟩ (ih fun b hb => x b (by simp [hb]))
  exact key r.at' x
/-- nothing but a table may stand at p -/
def Fr (H : Hp) (p : Addr) : Prop := ∀ o, H p = some o → ¬ NT o
theorem Fr.of {H : Hp} {p : Addr} (h : H p = none) : Fr H p := fun o e _ => by rw [h] at e; cases e
theorem Fr.back {T : List (Addr × Str)} {H H' : Hp} {p : Addr} (x : Ext T H H') (h : Fr H' p) : Fr H p := fun o e n => h o (x.keep p o e n) n
/-! ### the state -/
def ows (σ : St) (δ : DE) : Addr → Prop := fun a => ∃ (i : Nat) (ds : OD), δ[i]? = some (.own ds) ∧ σ[i]? = some (some (.ref a))
def MM (M : Addr → Prop) (σ : St) (δ : DE) : Addr → Prop := fun a => M a ∨ ows σ δ a
structure Rp (K : PySem.W.Frag) (T : List (Addr × Str)) (M : Addr → Prop) (H0 : Hp) (σ : St) (H : Hp) (δ : DE) : Prop where
  ext : Ext T H0 H
  tab : Tabs T H
  base : ∀ a, M a → ∃ o, H a = some o ∧ NT o ∧ ((∃ o', H0 a = some o' ∧ NT o') ∨ NX o)
  dat : ∀ (i : Nat) (d : D), δ[i]? = some (.dat d) → ∃ v, σ[i]? = some (some v) ∧ Dv K (mask H (MM M σ δ)) v d
  own : ∀ (i : Nat) (ds : OD), δ[i]? = some (.own ds) → ∃ a vs, σ[i]? = some (some (.ref a)) ∧ H a = some vs ∧ (∀ o, H0 a = some o → ¬ NT o) ∧ OwnR K (mask H (MM M σ δ)) vs ds
  inj : ∀ (i j : Nat) (ds es : OD) (a : Addr), δ[i]? = some (.own ds) → δ[j]? = some (.own es) → σ[i]? = some (some (.ref a)) → σ[j]? = some (some (.ref a)) → i = j
  len : δ.length = σ.length
  raw : ∀ (i : Nat) (a : Addr), δ[i]? = some (.raw a) → σ[i]? = some (some (.ref a))
  disj : ∀ (i : Nat) (ds : OD) (a : Addr), δ[i]? = some (.own ds) → σ[i]? = some (some (.ref a)) → ¬ M a
  rows : ∀ (i : Nat) (dss : List (List D)), δ[i]? = some (.own (.rows dss)) → ∃ a as, σ[i]? = some (some (.ref a)) ∧ H a = some (.lst (as.map V.ref)) ∧ RowsR K M H0 H (mask H (MM M σ δ)) as dss
  one : ∀ (i j : Nat) (d d' : List (List D)), δ[i]? = some (.own (.rows d)) → δ[j]? = some (.own (.rows d')) → i = j
theorem raw_set {σ : St} {δ : DE} {i : Nat} {v : Option V} {s : Sl} (h : ∀ (i : Nat) (a : Addr), δ[i]? = some (.raw a) → σ[i]? = some (some (.ref a))) (hs : ∀ a, s ≠ .raw a) : ∀ (j : Nat) (a : Addr), (δ.set i s)[j]? = some (.raw a) → (σ.set i v)[j]? = some (some (.ref a)) := fun j a e => by
  by_cases hj : j = i
  · subst hj
    rw [List.getElem?_set] at e
    simp only [if_true] at e
    split at e
    · cases e; exact absurd rfl (hs a)
    · cases e
  · rw [List.getElem?_set_ne (Ne.symm hj)] at e ⊢
    exact h j a e
theorem raw_set1 {σ : St} {δ : DE} {i : Nat} {s : Sl} (h : ∀ (i : Nat) (a : Addr), δ[i]? = some (.raw a) → σ[i]? = some (some (.ref a))) (hs : ∀ a, s ≠ .raw a) : ∀ (j : Nat) (a : Addr), (δ.set i s)[j]? = some (.raw a) → σ[j]? = some (some (.ref a)) := fun j a e => by
  by_cases hj : j = i
  · subst hj
    rw [List.getElem?_set] at e
    simp only [if_true] at e
    split at e
    · cases e; exact absurd rfl (hs a)
    · cases e
  · rw [List.getElem?_set_ne (Ne.symm hj)] at e
    exact h j a e
section
variable {K : PySem.W.Frag} {T : List (Addr × Str)} {M : Addr → Prop} {H0 H H' : Hp} {σ : St} {δ : DE}
theorem Rp.ows_lst (R : Rp K T M H0 σ H δ) {a : Addr} (h : ows σ δ a) : (∃ vs, H a = some vs ∧ NT vs) ∧ ∀ o, H0 a = some o → ¬ NT o := by
  obtain ⟨i, ds, h1, h2⟩ := h
  obtain ⟨b, vs, e1, e2, e3, e4⟩ := R.own i ds h1
  rw [h2] at e1
  cases e1
  exact ⟨⟨vs, e2, e4.nt⟩, e3⟩
theorem Rp.mm (R : Rp K T M H0 σ H δ) {a : Addr} (h : MM M σ δ a) : ∃ o, H a = some o ∧ NT o := by
  rcases h with h | h
  · obtain ⟨o, e, n, _⟩ := R.base a h
    exact ⟨o, e, n⟩
  · obtain ⟨⟨vs, e, n⟩, _⟩ := R.ows_lst h
    exact ⟨_, e, n⟩
theorem Rp.fresh_mm (R : Rp K T M H0 σ H δ) {p : Addr} (h : Fr H p) : ¬ MM M σ δ p := fun z => by
  obtain ⟨o, e, n⟩ := R.mm z
  exact h o e n
theorem Rp.fresh0 (R : Rp K T M H0 σ H δ) {p : Addr} (h : Fr H p) : ∀ o, H0 p = some o → ¬ NT o := fun o e n => h o (R.ext.keep p o e n) n
theorem Rp.grow (R : Rp K T M H0 σ H δ) (x : Ext T H H') : Rp K T M H0 σ H' δ where
  ext := R.ext.trans x
  tab := x.tabs R.tab
  base := fun a z => by
    obtain ⟨o, e, n, w⟩ := R.base a z
    exact ⟨o, x.keep a o e n, n, w⟩
  dat := fun i d h => by
    obtain ⟨v, h1, h2⟩ := R.dat i d h
    exact ⟨v, h1, dp_ext (mask_le (fun _ z => z) x.keep) h2⟩
  own := fun i ds h => by
    obtain ⟨a, vs, h1, h2, h3, h4⟩ := R.own i ds h
    exact ⟨a, vs, h1, x.keep a _ h2 h4.nt, h3, own_ext (mask_le (fun _ z => z) x.keep) h4⟩
  inj := R.inj
  len := R.len
  raw := R.raw
  disj := R.disj
  rows := fun i dss h => by
    obtain ⟨a, as, h1, h2, h3⟩ := R.rows i dss h
    exact ⟨a, as, h1, x.keep a _ h2 (nt_lst _), h3.ext (fun _ _ z => z) (fun _ _ z => z) (fun b _ vs e => x.keep b _ e (nt_lst _)) (mask_le (fun _ z => z) x.keep)⟩
  one := R.one
theorem Rp.setDat (R : Rp K T M H0 σ H δ) {i : Nat} {v : V} {d : D} (hi : i < δ.length) (h : Dv K (mask H (MM M σ δ)) v d) : Rp K T M H0 (σ.set i (some v)) H (δ.set i (.dat d)) := by
  have key : ∀ (j : Nat) (ds : OD), (δ.set i (.dat d))[j]? = some (.own ds) → j ≠ i ∧ δ[j]? = some (.own ds) := fun j ds e => by
    by_cases hj : j = i
    · subst hj; rw [List.getElem?_set_self hi] at e; cases e
    · rw [List.getElem?_set_ne (Ne.symm hj)] at e; exact ⟨hj, e⟩
  have le : ∀ a, MM M (σ.set i (some v)) (δ.set i (.dat d)) a → MM M σ δ a := fun a z => by
    rcases z with z | ⟨j, ds, e1, e2⟩
    · exact .inl z
    · obtain ⟨hj, e⟩ := key j ds e1
      rw [List.getElem?_set_ne (Ne.symm hj)] at e2
      exact .inr ⟨j, ds, e, e2⟩
  refine ⟨R.ext, R.tab, R.base, fun j e hj => ?_, fun j ds hj => ?_, fun j l ds es a h1 h2 h3 h4 => ?_, by simp [R.len], raw_set R.raw (fun _ z => nomatch z), fun j ds a h1 h2 => ?_, fun j dss hj => ?_, fun j l d1 d2 h1 h2 => R.one j l d1 d2 (key j _ h1).2 (key l _ h2).2⟩
  rotate_left 3
  · obtain ⟨n1, e1⟩ := key j ds h1
    rw [List.getElem?_set_ne (Ne.symm n1)] at h2
    exact R.disj j ds a e1 h2
  · obtain ⟨n1, e1⟩ := key j _ hj
    obtain ⟨a, as, g1, g2, g3⟩ := R.rows j dss e1
    exact ⟨a, as, by rw [List.getElem?_set_ne (Ne.symm n1)]; exact g1, g2, g3.ext (fun _ _ z => z) (fun _ _ z => z) (fun _ _ _ z => z) (mask_le le (ExtN.refl H))⟩
  · by_cases hji : j = i
    · subst hji
      rw [List.getElem?_set_self hi] at hj
      cases hj
      exact ⟨v, List.getElem?_set_self (by rw [← R.len]; exact hi), dp_ext (mask_le le (ExtN.refl H)) h⟩
    · rw [List.getElem?_set_ne (Ne.symm hji)] at hj ⊢
      obtain ⟨w, h1, h2⟩ := R.dat j e hj
      exact ⟨w, h1, dp_ext (mask_le le (ExtN.refl H)) h2⟩
  · obtain ⟨hn, e⟩ := key j ds hj
    rw [List.getElem?_set_ne (Ne.symm hn)]
    obtain ⟨a, vs, h1, h2, h3, h4⟩ := R.own j ds e
    exact ⟨a, vs, h1, h2, h3, own_ext (mask_le le (ExtN.refl H)) h4⟩
  · obtain ⟨n1, e1⟩ := key j ds h1
    obtain ⟨n2, e2⟩ := key l es h2
    rw [List.getElem?_set_ne (Ne.symm n1)] at h3
    rw [List.getElem?_set_ne (Ne.symm n2)] at h4
    exact R.inj j l ds es a e1 e2 h3 h4
theorem Rp.setOwn (R : Rp K T M H0 σ H δ) {i : Nat} {p : Addr} {vs : HO} {ds : OD} (hr : isRows ds = false) (hi : i < δ.length) (hp : H p = some vs) (h0 : ∀ o, H0 p = some o → ¬ NT o) (hn : ¬ MM M σ δ p)
    (h : OwnR K (mask H (fun a => MM M σ δ a ∨ a = p)) vs ds)
    (hd : ∀ (j : Nat) (d : D), j ≠ i → δ[j]? = some (.dat d) → ∃ v, σ[j]? = some (some v) ∧ Dv K (mask H (fun a => MM M σ δ a ∨ a = p)) v d)
    (ho : ∀ (j : Nat) (es : OD) (a : Addr) (us : HO), j ≠ i → δ[j]? = some (.own es) → σ[j]? = some (some (.ref a)) → H a = some us → OwnR K (mask H (fun a => MM M σ δ a ∨ a = p)) us es)
    (hw : ∀ (j : Nat) (dss : List (List D)), j ≠ i → δ[j]? = some (.own (.rows dss)) → ∃ a as, σ[j]? = some (some (.ref a)) ∧ H a = some (.lst (as.map V.ref)) ∧ RowsR K M H0 H (mask H (fun a => MM M σ δ a ∨ a = p)) as dss) :
    Rp K T M H0 (σ.set i (some (.ref p))) H (δ.set i (.own ds)) := by
  have hi' : i < σ.length := by rw [← R.len]; exact hi
  have le : ∀ a, MM M (σ.set i (some (.ref p))) (δ.set i (.own ds)) a → MM M σ δ a ∨ a = p := fun a z => by
    rcases z with z | ⟨j, es, e1, e2⟩
    · exact .inl (.inl z)
    · by_cases hj : j = i
      · subst hj
        rw [List.getElem?_set_self hi'] at e2
        cases e2
        exact .inr rfl
      · rw [List.getElem?_set_ne (Ne.symm hj)] at e1 e2
        exact .inl (.inr ⟨j, es, e1, e2⟩)
  have mx := mask_le (H := H) (H' := H) le (ExtN.refl H)
  have nr : ∀ (j : Nat) (dss : List (List D)), (δ.set i (.own ds))[j]? = some (.own (.rows dss)) → j ≠ i ∧ δ[j]? = some (.own (.rows dss)) := fun j dss e => by
    by_cases hj : j = i
    · subst hj; rw [List.getElem?_set_self hi] at e; cases e; cases hr
    · rw [List.getElem?_set_ne (Ne.symm hj)] at e; exact ⟨hj, e⟩
  refine ⟨R.ext, R.tab, R.base, fun j d hj => ?_, fun j es hj => ?_, fun j l es fs a h1 h2 h3 h4 => ?_, by simp [R.len], raw_set R.raw (fun _ z => nomatch z), fun j es a h1 h2 => ?_, fun j dss hj => ?_, fun j l d1 d2 h1 h2 => R.one j l d1 d2 (nr j _ h1).2 (nr l _ h2).2⟩
  rotate_left 3
  · by_cases hj : j = i
    · subst hj
      rw [List.getElem?_set_self hi'] at h2
      cases h2
      exact fun z => hn (.inl z)
    · rw [List.getElem?_set_ne (Ne.symm hj)] at h1 h2
      exact R.disj j es a h1 h2
  · obtain ⟨n1, e1⟩ := nr j _ hj
    obtain ⟨a, as, g1, g2, g3⟩ := hw j dss n1 e1
    exact ⟨a, as, by rw [List.getElem?_set_ne (Ne.symm n1)]; exact g1, g2, g3.ext (fun _ _ z => z) (fun _ _ z => z) (fun _ _ _ z => z) mx⟩
  · by_cases hji : j = i
    · subst hji; rw [List.getElem?_set_self hi] at hj; cases hj
    · rw [List.getElem?_set_ne (Ne.symm hji)] at hj ⊢
      obtain ⟨w, h1, h2⟩ := hd j d hji hj
      exact ⟨w, h1, dp_ext mx h2⟩
  · by_cases hji : j = i
    · subst hji
      rw [List.getElem?_set_self hi] at hj
      cases hj
      exact ⟨p, vs, List.getElem?_set_self hi', hp, h0, own_ext mx h⟩
    · rw [List.getElem?_set_ne (Ne.symm hji)] at hj ⊢
      obtain ⟨a, us, h1, h2, h3, _⟩ := R.own j es hj
      exact ⟨a, us, h1, h2, h3, own_ext mx (ho j es a us hji hj h1 h2)⟩
  · by_cases hj : j = i
    · subst hj
      by_cases hl : l = j
      · exact hl.symm
      · rw [List.getElem?_set_self hi'] at h3
        cases h3
        rw [List.getElem?_set_ne (Ne.symm hl)] at h2 h4
        exact absurd (.inr ⟨l, fs, h2, h4⟩) hn
    · by_cases hl : l = i
      · subst hl
        rw [List.getElem?_set_self hi'] at h4
        cases h4
        rw [List.getElem?_set_ne (Ne.symm hj)] at h1 h3
        exact absurd (.inr ⟨j, es, h1, h3⟩) hn
      · rw [List.getElem?_set_ne (Ne.symm hj)] at h1 h3
        rw [List.getElem?_set_ne (Ne.symm hl)] at h2 h4
        exact R.inj j l es fs a h1 h2 h3 h4
/-- a new list at p, put into slot i as an own one; R speaks of the heap ahead of it -/
theorem Rp.newOwn (R : Rp K T M H0 σ H δ) {i : Nat} {p : Addr} {vs : HO} {ds : OD} (hi : i < δ.length) (x : Ext T H H') (hn : Fr H p) (hp : H' p = some vs)
    (h : OwnR K (mask H' (fun a => MM M σ δ a ∨ a = p)) vs ds) (hr : isRows ds = false := by rfl) : Rp K T M H0 (σ.set i (some (.ref p))) H' (δ.set i (.own ds)) := by
  have mx : ExtN (mask H (MM M σ δ)) (mask H' (fun a => MM M σ δ a ∨ a = p)) := mask_ext (fun a o e n na z => by
    rcases z with z | z
    · exact na z
    · subst z; exact hn o e n) x.keep
  refine (R.grow x).setOwn hr hi hp (R.fresh0 hn) (R.fresh_mm hn) h (fun j d _ hj => ?_) (fun j es a us _ hj h1 h2 => ?_) (fun j dss _ hj => ?_)
  rotate_left 2
  · obtain ⟨a, as, g1, g2, g3⟩ := R.rows j dss hj
    exact ⟨a, as, g1, x.keep a _ g2 (nt_lst _), g3.ext (fun _ _ z => z) (fun _ _ z => z) (fun b _ vs e => x.keep b _ e (nt_lst _)) mx⟩
  · obtain ⟨w, h1, h2⟩ := R.dat j d hj
    exact ⟨w, h1, dp_ext mx h2⟩
  · obtain ⟨b, ws, e1, e2, _, e4⟩ := R.own j es hj
    rw [h1] at e1
    cases e1
    have := x.keep a _ e2 e4.nt
    rw [h2] at this
    cases this
    exact own_ext mx e4
theorem Rp.freeze (R : Rp K T M H0 σ H δ) {i : Nat} {es0 : List D} (hd : δ[i]? = some (.own (.lst es0))) : Rp K T M H0 σ H (δ.set i (.dat (.list es0))) := by
  have hi : i < δ.length := by
    have := List.getElem?_eq_some_iff.mp hd
    exact this.1
  have key : ∀ (j : Nat) (es : OD), (δ.set i (.dat (.list es0)))[j]? = some (.own es) → j ≠ i ∧ δ[j]? = some (.own es) := fun j es e => by
    by_cases hj : j = i
    · subst hj; rw [List.getElem?_set_self hi] at e; cases e
    · rw [List.getElem?_set_ne (Ne.symm hj)] at e; exact ⟨hj, e⟩
  have le : ∀ a, MM M σ (δ.set i (.dat (.list es0))) a → MM M σ δ a := fun a z => by
    rcases z with z | ⟨j, es, e1, e2⟩
    · exact .inl z
    · obtain ⟨hj, e⟩ := key j es e1
      exact .inr ⟨j, es, e, e2⟩
  have mx := mask_le (H := H) (H' := H) le (ExtN.refl H)
  refine ⟨R.ext, R.tab, R.base, fun j e hj => ?_, fun j es hj => ?_, fun j l es fs a h1 h2 h3 h4 => ?_, by simp [R.len], raw_set1 R.raw (fun _ z => nomatch z), fun j es a h1 h2 => R.disj j es a (key j es h1).2 h2, fun j dss hj => ?_, fun j l d1 d2 h1 h2 => R.one j l d1 d2 (key j _ h1).2 (key l _ h2).2⟩
  rotate_left 3
  · obtain ⟨a, as, g1, g2, g3⟩ := R.rows j dss (key j _ hj).2
    exact ⟨a, as, g1, g2, g3.ext (fun _ _ z => z) (fun _ _ z => z) (fun _ _ _ z => z) mx⟩
  · by_cases hji : j = i
    · subst hji
      rw [List.getElem?_set_self hi] at hj
      cases hj
      obtain ⟨a, vs, h1, h2, h3, h4⟩ := R.own j _ hd
      cases h4 with
      | lst h4 =>
        refine ⟨.ref a, h1, .lst (SqL.of ?_) (dpAll_ext mx h4)⟩
        rw [mask_out]
        · exact h2
        · rintro (z | ⟨l, es, e1, e2⟩)
          · exact R.disj j _ a hd h1 z
          · obtain ⟨hl, e⟩ := key l es e1
            exact hl (R.inj l j es _ a e hd e2 h1)
    · rw [List.getElem?_set_ne (Ne.symm hji)] at hj
      obtain ⟨w, h1, h2⟩ := R.dat j e hj
      exact ⟨w, h1, dp_ext mx h2⟩
  · obtain ⟨hn, e⟩ := key j es hj
    obtain ⟨a, vs, h1, h2, h3, h4⟩ := R.own j es e
    exact ⟨a, vs, h1, h2, h3, own_ext mx h4⟩
  · obtain ⟨_, e1⟩ := key j es h1
    obtain ⟨_, e2⟩ := key l fs h2
    exact R.inj j l es fs a e1 e2 h3 h4
/-- an own list is written -/
theorem Rp.write (R : Rp K T M H0 σ H δ) {i : Nat} {ds ds' : OD} {a : Addr} {vs vs' : HO} (hd : δ[i]? = some (.own ds)) (ha : σ[i]? = some (some (.ref a))) (hv : H a = some vs)
    (h : OwnR K (mask H (MM M σ δ)) vs' ds') (hr : isRows ds = false := by rfl) (hr' : isRows ds' = false := by rfl) : Rp K T M H0 σ (upd H a vs') (δ.set i (.own ds')) := by
  have hi : i < δ.length := (List.getElem?_eq_some_iff.mp hd).1
  have key : ∀ (j : Nat) (es : OD), (δ.set i (.own ds'))[j]? = some (.own es) → (j = i ∧ es = ds') ∨ (j ≠ i ∧ δ[j]? = some (.own es)) := fun j es e => by
    by_cases hj : j = i
    · subst hj; rw [List.getElem?_set_self hi] at e; cases e; exact .inl ⟨rfl, rfl⟩
    · rw [List.getElem?_set_ne (Ne.symm hj)] at e; exact .inr ⟨hj, e⟩
  have key' : ∀ (j : Nat) (es : OD), (δ.set i (.own ds'))[j]? = some (.own es) → ∃ fs, δ[j]? = some (.own fs) := fun j es e => by
    rcases key j es e with ⟨rfl, _⟩ | ⟨_, e'⟩
    · exact ⟨ds, hd⟩
    · exact ⟨es, e'⟩
  have le : ∀ b, MM M σ (δ.set i (.own ds')) b → MM M σ δ b := fun b z => by
    rcases z with z | ⟨j, es, e1, e2⟩
    · exact .inl z
    · obtain ⟨fs, e⟩ := key' j es e1
      exact .inr ⟨j, fs, e, e2⟩
  have am : MM M σ δ a := .inr ⟨i, ds, hd, ha⟩
  obtain ⟨a', _, z1, z2, hf, z3⟩ := R.own i ds hd
  rw [ha] at z1
  cases z1
  rw [hv] at z2
  cases z2
  have mx : ExtN (mask H (MM M σ δ)) (mask (upd H a vs') (MM M σ (δ.set i (.own ds')))) := fun b o e n => by
    obtain ⟨nb, e'⟩ := of_mask e
    have hb : b ≠ a := fun z => nb (z ▸ am)
    rw [mask_out (fun z => nb (le b z)), upd_ne hb]
    exact e'
  refine ⟨⟨fun b o e n => ?_, fun t => tabs_write hv z3.nx (R.ext.tabs t)⟩, tabs_write hv z3.nx R.tab, fun b z => ?_, fun j e hj => ?_, fun j es hj => ?_, fun j l es fs b h1 h2 h3 h4 => ?_, by simp [R.len], raw_set1 R.raw (fun _ z => nomatch z), fun j es b h1 h2 => ?_, fun j dss hj => ?_, fun j l d1 d2 h1 h2 => ?_⟩
  rotate_left 5
  · obtain ⟨fs, e⟩ := key' j es h1
    exact R.disj j fs b e h2
  · rcases key j _ hj with ⟨rfl, rfl⟩ | ⟨hji, e⟩
    · cases hr'
    · obtain ⟨b, as, g1, g2, g3⟩ := R.rows j dss e
      have na : ¬ M a := R.disj i ds a hd ha
      refine ⟨b, as, g1, ?_, g3.ext (fun _ _ z => z) (fun _ _ z => z) (fun c hc vs e2 => ?_) mx⟩
      · have hb : b ≠ a := fun z => hji (R.inj j i _ ds a e hd (z ▸ g1) ha)
        rw [upd_ne hb]; exact g2
      · have hb : c ≠ a := fun z => na (z ▸ (g3.new c hc).1)
        rw [upd_ne hb]; exact e2
  · rcases key j _ h1 with ⟨rfl, rfl⟩ | ⟨_, e1⟩
    · cases hr'
    · rcases key l _ h2 with ⟨rfl, rfl⟩ | ⟨_, e2⟩
      · cases hr'
      · exact R.one j l d1 d2 e1 e2
  · have hb : b ≠ a := fun z => by subst z; exact hf o e n
    rw [upd_ne hb]
    exact R.ext.keep b o e n
  · have hb : b ≠ a := fun q => R.disj i ds a hd ha (q ▸ z)
    rw [upd_ne hb]
    exact R.base b z
  · have hji : j ≠ i := fun z => by subst z; rw [List.getElem?_set_self hi] at hj; cases hj
    rw [List.getElem?_set_ne (Ne.symm hji)] at hj
    obtain ⟨w, h1, h2⟩ := R.dat j e hj
    exact ⟨w, h1, dp_ext mx h2⟩
  · rcases key j es hj with ⟨rfl, rfl⟩ | ⟨hji, e⟩
    · exact ⟨a, vs', ha, upd_same, hf, own_ext mx h⟩
    · obtain ⟨b, us, h1, h2, h3, h4⟩ := R.own j es e
      have hb : b ≠ a := fun z => hji (R.inj j i es ds a e hd (z ▸ h1) ha)
      exact ⟨b, us, h1, by rw [upd_ne hb]; exact h2, h3, own_ext mx h4⟩
  · obtain ⟨fs1, e1⟩ := key' j es h1
    obtain ⟨fs2, e2⟩ := key' l fs h2
    exact R.inj j l fs1 fs2 b e1 e2 h3 h4
end
end DL
set_option Elab.async false
set_option linter.all false
set_option maxRecDepth 100000
set_option maxHeartbeats 4000000
set_option autoImplicit false
namespace DL
open PySem L2
open LamX (ExtN Tabs TabS CodeO)

/-! ### readings -/
/-- what is wanted of an answer -/
def Ans {α : Type} (T : List (Addr × Str)) (cm : Nat → Value) (E : XK) (H : Hp) (r : Rs α) (k : α → Hp → Prop) : Prop := match r with
  | .ok a => ∀ H', Ext T H H' → k a H'
  | .ex c => ∀ H', Ext T H H' → E (cm c) none H'
theorem Ans.ex {α β : Type} {T : List (Addr × Str)} {cm : Nat → Value} {E : XK} {H : Hp} {c : Nat} {k : α → Hp → Prop} {k' : β → Hp → Prop} (a : Ans T cm E H (.ex c) k) : Ans T cm E H (.ex c) k' := a
theorem Ans.grow {α : Type} {T : List (Addr × Str)} {cm : Nat → Value} {E : XK} {H H1 : Hp} {r : Rs α} {k : α → Hp → Prop} (a : Ans T cm E H r k) (x : Ext T H H1) : Ans T cm E H1 r k := by
  cases r with
  | ok y => exact fun H' z => a H' (x.trans z)
  | ex c => exact fun H' z => a H' (x.trans z)
def tD (K : PySem.W.Frag) (T : List (Addr × Str)) (cm : Nat → Value) (E : XK) (f : XE) : TE := fun σ H Q =>
  ∃ M H0 δ r, Rp K T M H0 σ H δ ∧ f δ = some r ∧ Ans T cm E H r fun d H' => ∀ v, Dv K (mask H' (MM M σ δ)) v d → Q v H'
def tF (K : PySem.W.Frag) (T : List (Addr × Str)) (cm : Nat → Value) (E : XK) (f : XL) : TE := fun σ H Q =>
  ∃ M H0 δ r, Rp K T M H0 σ H δ ∧ f δ = some r ∧ Ans T cm E H r fun ds H' => ∀ p vs, Fr H p → H' p = some (.lst vs) → DvAll K (mask H' (fun a => MM M σ δ a ∨ a = p)) vs ds → Q (.ref p) H'
def tT (K : PySem.W.Frag) (T : List (Addr × Str)) (cm : Nat → Value) (E : XK) (f : XT) : TT := fun σ H Q =>
  ∃ M H0 δ r, Rp K T M H0 σ H δ ∧ f δ = some r ∧ Ans T cm E H r fun b H' => Q b H'
def tL (K : PySem.W.Frag) (T : List (Addr × Str)) (cm : Nat → Value) (E : XK) (f : XL) : TA := fun σ H Q =>
  ∃ M H0 δ r, Rp K T M H0 σ H δ ∧ f δ = some r ∧ Ans T cm E H r fun ds H' => ∀ vs, DvAll K (mask H' (MM M σ δ)) vs ds → Q vs H'
def tP (K : PySem.W.Frag) (T : List (Addr × Str)) (cm : Nat → Value) (E : XK) (f : XO) : TO := fun σ H Q =>
  ∃ M H0 δ r, Rp K T M H0 σ H δ ∧ f δ = some r ∧ Ans T cm E H r fun o H' => Q o H'
/-- what is masked stands -/
def Msk (M : Addr → Prop) (H : Hp) : Prop := ∀ a, M a → ∃ o, H a = some o ∧ NT o
theorem Msk.grow {T : List (Addr × Str)} {M : Addr → Prop} {H H' : Hp} (m : Msk M H) (x : Ext T H H') : Msk M H' := fun a z => by
  obtain ⟨o, e, n⟩ := m a z
  exact ⟨o, x.keep a o e n, n⟩
theorem Msk.no {M : Addr → Prop} {H : Hp} {p : Addr} (m : Msk M H) (h : Fr H p) : ¬ M p := fun z => by
  obtain ⟨o, e, n⟩ := m p z
  exact h o e n
theorem Rp.msk {K : PySem.W.Frag} {T : List (Addr × Str)} {M : Addr → Prop} {H0 H : Hp} {σ : St} {δ : DE} (R : Rp K T M H0 σ H δ) : Msk (MM M σ δ) H := fun _ z => R.mm z
/-- values in the masked heap, behind a growth -/
theorem Ext.dv {K : PySem.W.Frag} {T : List (Addr × Str)} {M : Addr → Prop} {H H' : Hp} {v : V} {d : D} (x : Ext T H H') (h : Dv K (mask H M) v d) : Dv K (mask H' M) v d := dp_ext (mask_le (fun _ z => z) x.keep) h
theorem Ext.dvs {K : PySem.W.Frag} {T : List (Addr × Str)} {M : Addr → Prop} {H H' : Hp} {v : List V} {d : List D} (x : Ext T H H') (h : DvAll K (mask H M) v d) : DvAll K (mask H' M) v d := dpAll_ext (mask_le (fun _ z => z) x.keep) h
theorem Dv.un {K : PySem.W.Frag} {M : Addr → Prop} {H : Hp} {v : V} {d : D} (h : Dv K (mask H M) v d) : Dv K H v d := dp_ext (mask_sub H M) h
theorem DvAll.un {K : PySem.W.Frag} {M : Addr → Prop} {H : Hp} {v : List V} {d : List D} (h : DvAll K (mask H M) v d) : DvAll K H v d := dpAll_ext (mask_sub H M) h
/-- a new tuple, a new list -/
theorem dv_newT {K : PySem.W.Frag} {M : Addr → Prop} {H : Hp} {p : Addr} {vs : List V} {ds : List D} (m : Msk M H) (hp : H p = none) (h : DvAll K (mask H M) vs ds) : Dv K (mask (upd H p (.tup vs)) M) (.ref p) (.tuple ds) := by
  refine .tup (SqT.of (xs := vs) ?_) (dpAll_ext (mask_le (fun _ z => z) (Ext.fresh (T := []) _ hp).keep) h)
  rw [mask_out (m.no (.of hp))]
  exact upd_same
theorem dv_newL {K : PySem.W.Frag} {M : Addr → Prop} {H : Hp} {p : Addr} {vs : List V} {ds : List D} (m : Msk M H) (hp : H p = none) (h : DvAll K (mask H M) vs ds) : Dv K (mask (upd H p (.lst vs)) M) (.ref p) (.list ds) := by
  refine .lst (SqL.of (xs := vs) ?_) (dpAll_ext (mask_le (fun _ z => z) (Ext.fresh (T := []) _ hp).keep) h)
  rw [mask_out (m.no (.of hp))]
  exact upd_same
/-- a list that lies at p, new since H, as data -/
theorem dv_ofF {K : PySem.W.Frag} {M : Addr → Prop} {H H' : Hp} {p : Addr} {vs : List V} {ds : List D} (m : Msk M H) (hp : Fr H p) (e : H' p = some (.lst vs)) (h : DvAll K (mask H' (fun a => M a ∨ a = p)) vs ds) : Dv K (mask H' M) (.ref p) (.list ds) := by
  refine .lst (SqL.of (xs := vs) ?_) (dpAll_ext (mask_le (fun _ z => .inl z) (ExtN.refl H')) h)
  rw [mask_out (m.no hp)]
  exact e

section
variable {X : Cx} {T : List (Addr × Str)} {cm : Nat → Value} {E : XK}
theorem PEimp {e : Expr} {t t' : TE} (h : PE X e t) (w : ∀ σ H Q, t' σ H Q → t σ H Q) : PE X e t' := ⟨fun pins s σ H Q I q => h.run pins s σ H Q I (w σ H Q q)⟩
theorem PTimp {e : Expr} {t t' : TT} (h : PT X e t) (w : ∀ σ H Q, t' σ H Q → t σ H Q) : PT X e t' := ⟨fun pins s σ H Q I q => h.run pins s σ H Q I (w σ H Q q)⟩
theorem PWimp {e : Expr} {t t' : TT} (h : PW X e t) (w : ∀ σ H Q, t' σ H Q → t σ H Q) : PW X e t' := ⟨fun wh pins s σ H Q I q => h.run wh pins s σ H Q I (w σ H Q q)⟩
theorem PAimp {e : List Expr} {t t' : TA} (h : PA X e t) (w : ∀ σ H Q, t' σ H Q → t σ H Q) : PA X e t' := ⟨fun pos pins s σ H Q I q => h.run pos pins s σ H Q I (w σ H Q q)⟩
theorem POimp {e : Option Expr} {t t' : TO} (h : PO X e t) (w : ∀ σ H Q, t' σ H Q → t σ H Q) : PO X e t' := ⟨fun pins s σ H Q I q => h.run pins s σ H Q I (w σ H Q q)⟩

/-! ### operations by values -/
def rD1 (K : PySem.W.Frag) (T : List (Addr × Str)) (f : D → Option D) : V → Hp → VK → Prop := fun x H Q => ∃ M dx d, Msk M H ∧ Dv K (mask H M) x dx ∧ f dx = some d ∧ ∀ v H', Ext T H H' → Dv K (mask H' M) v d → Q v H'
def rD2 (K : PySem.W.Frag) (T : List (Addr × Str)) (f : D → D → Option D) : R2 := fun x y H Q => ∃ M dx dy d, Msk M H ∧ Dv K (mask H M) x dx ∧ Dv K (mask H M) y dy ∧ f dx dy = some d ∧ ∀ v H', Ext T H H' → Dv K (mask H' M) v d → Q v H'
/-- one argument in a list -/
def rL1 (r : V → Hp → VK → Prop) : List V → Hp → VK → Prop := fun xs H Q => ∃ x, xs = [x] ∧ r x H Q
def rL2 (r : R2) : List V → Hp → VK → Prop := fun xs H Q => ∃ x y, xs = [x, y] ∧ r x y H Q
/-- a new list comes of it -/
def rF1 (K : PySem.W.Frag) (T : List (Addr × Str)) (f : D → Option (List D)) : V → Hp → VK → Prop := fun x H Q => ∃ M dx ds, Msk M H ∧ Dv K (mask H M) x dx ∧ f dx = some ds ∧ ∀ p vs H', Ext T H H' → Fr H p → H' p = some (.lst vs) → DvAll K (mask H' (fun a => M a ∨ a = p)) vs ds → Q (.ref p) H'

section
variable {A B C : XE} {σ : St} {H : Hp} {Q : VK}
theorem one_imp {f : D → Option D} {r : V → Hp → VK → Prop} (hr : ∀ x H Q, rD1 X.K T f x H Q → r x H Q) (h : tD X.K T cm E (x1 f A) σ H Q) : tD X.K T cm E A σ H (fun x H1 => r x H1 Q) := by
  obtain ⟨M, H0, δ, r, R, e, a⟩ := h
  rcases bnd_of e with ⟨x, ex, e⟩ | ⟨c, ex, rfl⟩
  · refine ⟨M, H0, δ, .ok x, R, ex, fun H1 x1 v hv => hr _ _ _ ?_⟩
    cases q : f x with
    | none => rw [q] at e; cases e
    | some d =>
      rw [q] at e
      cases e
      exact ⟨MM M σ δ, x, d, (R.grow x1).msk, hv, q, fun v H3 x3 hd => a H3 (x1.trans x3) v hd⟩
  · exact ⟨M, H0, δ, .ex c, R, ex, a⟩
theorem two_imp {f : D → D → Option D} {r : R2} (hr : ∀ x y H Q, rD2 X.K T f x y H Q → r x y H Q) (h : tD X.K T cm E (x2 f A B) σ H Q) : tOp r (tD X.K T cm E A) (tD X.K T cm E B) σ H Q := by
  obtain ⟨M, H0, δ, r, R, e, a⟩ := h
  rcases bnd_of e with ⟨x, ex, e⟩ | ⟨c, ex, rfl⟩
  · refine ⟨M, H0, δ, .ok x, R, ex, fun H1 x1 v hv => ?_⟩
    rcases bnd_of e with ⟨y, ey, e⟩ | ⟨c, ey, rfl⟩
    · refine ⟨M, H0, δ, .ok y, R.grow x1, ey, fun H2 x2 u hu => hr _ _ _ _ ?_⟩
      cases q : f x y with
      | none => rw [q] at e; cases e
      | some d =>
        rw [q] at e
        cases e
        exact ⟨MM M σ δ, x, y, d, ((R.grow x1).grow x2).msk, x2.dv hv, hu, q, fun v H3 x3 hd => a H3 (x1.trans (x2.trans x3)) v hd⟩
    · exact ⟨M, H0, δ, .ex c, R.grow x1, ey, a.grow x1⟩
  · exact ⟨M, H0, δ, .ex c, R, ex, a⟩
theorem fr1_imp {f : D → Option (List D)} {r : V → Hp → VK → Prop} (hr : ∀ x H Q, rF1 X.K T f x H Q → r x H Q) (h : tF X.K T cm E (xF1 f A) σ H Q) : tD X.K T cm E A σ H (fun x H1 => r x H1 Q) := by
  obtain ⟨M, H0, δ, r, R, e, a⟩ := h
  rcases bnd_of e with ⟨x, ex, e⟩ | ⟨c, ex, rfl⟩
  · refine ⟨M, H0, δ, .ok x, R, ex, fun H1 x1 v hv => hr _ _ _ ?_⟩
    cases q : f x with
    | none => rw [q] at e; cases e
    | some d =>
      rw [q] at e
      cases e
      exact ⟨MM M σ δ, x, d, (R.grow x1).msk, hv, q, fun p vs H3 x3 hn hp hd => a H3 (x1.trans x3) p vs (hn.back x1) hp hd⟩
  · exact ⟨M, H0, δ, .ex c, R, ex, a⟩
end
end
end DL
set_option Elab.async false
set_option linter.all false
set_option maxRecDepth 100000
set_option maxHeartbeats 4000000
set_option autoImplicit false
namespace DL
open PySem L2 PyProof.Rows
open LamX (ExtN Tabs TabS CodeO)
section
variable {X : Cx} {T : List (Addr × Str)}
theorem szLine : sz = sizeLine := by rw [sizeLine_eq]; rfl
theorem sl_un {K : PySem.W.Frag} {G : Hp} {M : Addr → Prop} {a : Addr} {xs : List V} (h : SqL K (mask G M) a xs) : SqL K G a xs := sqL_ext (mask_sub G M) h
theorem st_un {K : PySem.W.Frag} {G : Hp} {M : Addr → Prop} {a : Addr} {xs : List V} (h : SqT K (mask G M) a xs) : SqT K G a xs := sqT_ext (mask_sub G M) h
theorem op_addD : OpR X (binaryOp .Add) (rD2 X.K T addD) := by
  intro pins s σ H x y v u Q I rx ry h
  obtain ⟨M, dx, dy, d, m, hx, hy, e, q⟩ := h
  cases hx with
  | int i =>
    cases hy with
    | int j => cases e; exact op_add pins s σ H _ _ v u Q I rx ry ⟨i, j, rfl, rfl, q _ H (Ext.refl T H) (.int _)⟩
    | _ => cases e
  | str i =>
    cases hy with
    | str j =>
      have e : (if i.length + j.length ≤ sz then some (PyData.str (i ++ j)) else none) = some d := e
      by_cases hz : i.length + j.length ≤ sz
      · rw [if_pos hz] at e
        cases e
        exact op_add_str pins s σ H _ _ v u Q I rx ry ⟨i, j, rfl, rfl, by rw [← szLine]; exact hz, q _ H (Ext.refl T H) (.str _)⟩
      · rw [if_neg hz] at e; cases e
    | _ => cases e
  | @lst a xs ds ha hds =>
    cases hy with
    | @lst b ys es hb hes =>
      have e : (if ds.length + es.length ≤ sz then some (PyData.list (ds ++ es)) else none) = some d := e
      by_cases hz : ds.length + es.length ≤ sz
      · rw [if_pos hz] at e
        cases e
        refine op_catG pins s σ H _ _ v u Q I rx ry ⟨a, b, xs, ys, rfl, rfl, sl_un ha, sl_un hb, by rw [← szLine, dpAll_len hds, dpAll_len hes]; exact hz, fun p hp => ?_⟩
        exact q _ _ (Ext.fresh _ hp) (dv_newL m hp (dpAll_app hds hes))
      · rw [if_neg hz] at e; cases e
    | _ => cases e
  | @tup a xs ds ha hds =>
    cases hy with
    | @tup b ys es hb hes =>
      have e : (if ds.length + es.length ≤ sz then some (PyData.tuple (ds ++ es)) else none) = some d := e
      by_cases hz : ds.length + es.length ≤ sz
      · rw [if_pos hz] at e
        cases e
        refine op_catA pins s σ H _ _ v u Q I rx ry ⟨a, b, xs, ys, rfl, rfl, st_un ha, st_un hb, by rw [← szLine, dpAll_len hds, dpAll_len hes]; exact hz, fun z => ?_, fun _ z => ?_, fun _ _ p hp => ?_⟩
        · subst z
          cases hds
          exact q _ H (Ext.refl T H) (.tup hb hes)
        · subst z
          cases hes
          rw [List.append_nil] at q
          exact q _ H (Ext.refl T H) (.tup ha hds)
        · exact q _ _ (Ext.fresh _ hp) (dv_newT m hp (dpAll_app hds hes))
      · rw [if_neg hz] at e; cases e
    | _ => cases e
  | non => cases e
  | bl b => cases e
  | dct => cases e
theorem op_subD : OpR X (binaryOp .Sub) (rD2 X.K T subD) := by
  intro pins s σ H x y v u Q I rx ry h
  obtain ⟨M, dx, dy, d, m, hx, hy, e, q⟩ := h
  cases hx with
  | int i =>
    cases hy with
    | int j => cases e; exact op_sub pins s σ H _ _ v u Q I rx ry ⟨i, j, rfl, rfl, q _ H (Ext.refl T H) (.int _)⟩
    | _ => cases e
  | _ => cases e
theorem dpAll_rep {K : PySem.W.Frag} {G : Hp} {vs : List V} {ds : List D} (h : DvAll K G vs ds) : ∀ k : Nat, DvAll K G (List.replicate k vs).flatten (List.replicate k ds).flatten
  | 0 => .nil
  | k + 1 => by
    rw [List.replicate_succ, List.replicate_succ, List.flatten_cons, List.flatten_cons]
    exact dpAll_app h (dpAll_rep h k)
theorem op_mulD : OpR X (binaryOp .Mult) (rD2 X.K T mulD) := by
  intro pins s σ H x y v u Q I rx ry h
  obtain ⟨M, dx, dy, d, m, hx, hy, e, q⟩ := h
  cases hx with
  | int i =>
    cases hy with
    | int j =>
      have e : (if mulOk i j = true then some (PyData.int (i * j)) else none) = some d := e
      by_cases hz : mulOk i j = true
      · rw [if_pos hz] at e
        cases e
        have q' := q _ H (Ext.refl T H) (.int (i * j))
        unfold mulOk at hz
        rw [Bool.or_eq_true, Bool.or_eq_true, decide_eq_true_eq, decide_eq_true_eq, decide_eq_true_eq] at hz
        rcases hz with (hz | hz) | hz
        · exact op_mul pins s σ H _ _ v u Q I rx ry ⟨i, j, rfl, rfl, .inl ⟨by omega, by omega⟩, q'⟩
        · exact op_mul pins s σ H _ _ v u Q I rx ry ⟨i, j, rfl, rfl, .inr ⟨by omega, by omega⟩, q'⟩
        · exact op_mulW pins s σ H _ _ v u Q I rx ry ⟨i, j, rfl, rfl, hz, q'⟩
      · rw [if_neg hz] at e; cases e
    | _ => cases e
  | @tup a xs ds ha hds =>
    cases hy with
    | int k =>
      have e : (if ds ≠ [] ∧ 2 ≤ k ∧ k ≤ 1000 ∧ ds.length ≤ 1000 then some (PyData.tuple (List.replicate k.toNat ds).flatten) else none) = some d := e
      by_cases hz : ds ≠ [] ∧ 2 ≤ k ∧ k ≤ 1000 ∧ ds.length ≤ 1000
      · rw [if_pos hz] at e
        cases e
        obtain ⟨z1, z2, z3, z4⟩ := hz
        have hl := dpAll_len hds
        refine op_repT pins s σ H _ _ v u Q I rx ry ⟨a, k, xs, rfl, rfl, st_un ha, fun z => z1 ?_, z2, z3, by omega, fun p hp => q _ _ (Ext.fresh _ hp) (dv_newT m hp (dpAll_rep hds k.toNat))⟩
        subst z
        exact List.length_eq_zero_iff.mp hl.symm
      · rw [if_neg hz] at e; cases e
    | _ => cases e
  | _ => cases e
theorem op_fdivD : OpR X (binaryOp .FloorDiv) (rD2 X.K T fdivD) := by
  intro pins s σ H x y v u Q I rx ry h
  obtain ⟨M, dx, dy, d, m, hx, hy, e, q⟩ := h
  cases hx with
  | int i =>
    cases hy with
    | int j =>
      have e : (if 0 < j ∧ j.natAbs.log2 < 9000 then some (PyData.int (i / j)) else none) = some d := e
      by_cases hz : 0 < j ∧ j.natAbs.log2 < 9000
      · rw [if_pos hz] at e
        cases e
        exact op_fdivW pins s σ H _ _ v u Q I rx ry ⟨i, j, rfl, rfl, hz, q _ H (Ext.refl T H) (.int _)⟩
      · rw [if_neg hz] at e; cases e
    | _ => cases e
  | _ => cases e
theorem op_modD : OpR X (binaryOp .Mod) (rD2 X.K T modD) := by
  intro pins s σ H x y v u Q I rx ry h
  obtain ⟨M, dx, dy, d, m, hx, hy, e, q⟩ := h
  cases hx with
  | int i =>
    cases hy with
    | int j =>
      have e : (if 0 < j then some (PyData.int (i % j)) else none) = some d := e
      by_cases hz : 0 < j
      · rw [if_pos hz] at e
        cases e
        exact op_mod pins s σ H _ _ v u Q I rx ry ⟨i, j, rfl, rfl, hz, q _ H (Ext.refl T H) (.int _)⟩
      · rw [if_neg hz] at e; cases e
    | _ => cases e
  | _ => cases e
theorem un_negD : UnR X (unaryOp .USub) (rD1 X.K T negD) := by
  intro pins s σ H x v Q I rx h
  obtain ⟨M, dx, d, m, hx, e, q⟩ := h
  cases hx with
  | int i => cases e; exact un_neg pins s σ H _ v Q I rx ⟨i, rfl, q _ H (Ext.refl T H) (.int _)⟩
  | _ => cases e
/-! ### comparisons -/
theorem dv_dp {K : PySem.W.Frag} {G : Hp} : ∀ {d : D} {v : V}, Dv K G v d → d.canLay0 = true → Dp K G v d := fun {d v} q =>
  Dv.rec (motive_1 := fun v d _ => d.canLay0 = true → Dp K G v d) (motive_2 := fun vs ds _ => PyData.canLayAll0 ds = true → DpAll K G vs ds) (motive_3 := fun _ _ _ => True)
    (fun _ => .non) (fun b _ => .bl b) (fun i _ => .int i) (fun x _ => .str x)
    (fun s _ ih h => .lst s (ih (by simpa [PyData.canLay0] using h))) (fun s _ ih h => .tup s (ih (by simpa [PyData.canLay0] using h))) (fun _ _ _ h => by simp [PyData.canLay0] at h)
    (fun _ => .nil) (fun _ _ i j h => by
      have h' := h
      rw [PyData.canLayAll0, Bool.and_eq_true] at h'
      exact .cons (i h'.1) (j h'.2)) trivial (fun _ _ _ _ => trivial) q
theorem dv_dpS {K : PySem.W.Frag} {G : Hp} {d : D} {v : V} (h : Dv K G v d) (s : SeqAt.shaped d = true) : Dp K G v d := dv_dp h (SeqAt.canLay_of_shaped s)
theorem op_eqDD (hu : X.A.units + 64 < cLine) : OpR X (compareOp .Eq) (rD2 X.K T eqD) := by
  intro pins s σ H x y v u Q I rx ry h
  obtain ⟨M, dx, dy, d, m, hx, hy, e, q⟩ := h
  unfold eqD at e
  by_cases hz : SeqAt.shaped dx = true ∧ SeqAt.shaped dy = true
  · rw [if_pos hz] at e
    cases e
    exact op_eqD hu pins s σ H x y v u Q I rx ry ⟨dx, dy, dv_dpS hx.un hz.1, dv_dpS hy.un hz.2, hz.1, hz.2, q _ H (Ext.refl T H) (.bl _)⟩
  · rw [if_neg hz] at e; cases e
theorem op_neDD (hu : X.A.units + 64 < cLine) : OpR X (compareOp .NotEq) (rD2 X.K T neD) := by
  intro pins s σ H x y v u Q I rx ry h
  obtain ⟨M, dx, dy, d, m, hx, hy, e, q⟩ := h
  unfold neD at e
  by_cases hz : SeqAt.shaped dx = true ∧ SeqAt.shaped dy = true
  · rw [if_pos hz] at e
    cases e
    exact op_neD hu pins s σ H x y v u Q I rx ry ⟨dx, dy, dv_dpS hx.un hz.1, dv_dpS hy.un hz.2, hz.1, hz.2, q _ H (Ext.refl T H) (.bl _)⟩
  · rw [if_neg hz] at e; cases e
theorem ints_dv {K : PySem.W.Frag} {G : Hp} : ∀ {vs : List V} {ds : List D} {ns : List Int}, DvAll K G vs ds → intsOf ds = some ns → vs = ns.map V.int
  | _, _, _, .nil, e => by cases e; rfl
  | _, _, _, .cons (d := d) (ds := ds) a b, e => by
    cases a with
    | int i =>
      have e : (intsOf ds).map (i :: ·) = some _ := e
      cases q : intsOf ds with
      | none => rw [q] at e; cases e
      | some ms =>
        rw [q] at e
        cases e
        rw [ints_dv b q]
        rfl
    | _ => cases e
theorem bools_dv {K : PySem.W.Frag} {G : Hp} : ∀ {vs : List V} {ds : List D} {ns : List Bool}, DvAll K G vs ds → boolsOf ds = some ns → vs = ns.map V.bl
  | _, _, _, .nil, e => by cases e; rfl
  | _, _, _, .cons (d := d) (ds := ds) a b, e => by
    cases a with
    | bl i =>
      have e : (boolsOf ds).map (i :: ·) = some _ := e
      cases q : boolsOf ds with
      | none => rw [q] at e; cases e
      | some ms =>
        rw [q] at e
        cases e
        rw [bools_dv b q]
        rfl
    | _ => cases e
theorem strs_dv {K : PySem.W.Frag} {G : Hp} : ∀ {vs : List V} {ds : List D} {ns : List Str}, DvAll K G vs ds → strsOf ds = some ns → vs = ns.map V.str
  | _, _, _, .nil, e => by cases e; rfl
  | _, _, _, .cons (d := d) (ds := ds) a b, e => by
    cases a with
    | str i =>
      have e : (strsOf ds).map (i :: ·) = some _ := e
      cases q : strsOf ds with
      | none => rw [q] at e; cases e
      | some ms =>
        rw [q] at e
        cases e
        rw [strs_dv b q]
        rfl
    | _ => cases e
theorem lexLt_eq : ∀ a b : List Int, HT.lexLt a b = lexLt a b
  | [], [] => rfl
  | [], _ :: _ => rfl
  | _ :: _, [] => rfl
  | x :: xs, y :: ys => by rw [HT.lexLt_cons, lexLt, lexLt_eq xs ys]
theorem op_ltD (hu : X.A.units < cLine) : OpR X (compareOp .Lt) (rD2 X.K T ltD) := by
  intro pins s σ H x y v u Q I rx ry h
  obtain ⟨M, dx, dy, d, m, hx, hy, e, q⟩ := h
  cases hx with
  | int i =>
    cases hy with
    | int j => cases e; exact op_lt pins s σ H _ _ v u Q I rx ry ⟨i, j, rfl, rfl, q _ H (Ext.refl T H) (.bl _)⟩
    | _ => cases e
  | @tup a xs ds ha hds =>
    cases hy with
    | @tup b ys es hb hes =>
      have e : ((intsOf ds).bind fun a => (intsOf es).map fun b => PyData.bool (lexLt a b)) = some d := e
      cases q1 : intsOf ds with
      | none => rw [q1] at e; cases e
      | some ns =>
        cases q2 : intsOf es with
        | none => rw [q1, q2] at e; cases e
        | some ms =>
          rw [q1, q2] at e
          cases e
          have e1 := ints_dv hds q1
          have e2 := ints_dv hes q2
          subst e1
          subst e2
          refine op_ltT hu pins s σ H _ _ v u Q I rx ry ⟨a, b, ns, ms, rfl, rfl, st_un ha, st_un hb, ?_⟩
          rw [lexLt_eq]
          exact q _ H (Ext.refl T H) (.bl _)
    | _ => cases e
  | _ => cases e
theorem lexAt_shift {e r : Nat → Bool} {z : Bool} : ∀ (k i : Nat), Ob.lexAt e r z (i + 1) k = Ob.lexAt (fun j => e (j + 1)) (fun j => r (j + 1)) z i k
  | 0, _ => rfl
  | k + 1, i => by rw [Ob.lexAt_succ, Ob.lexAt_succ, lexAt_shift k (i + 1)]
theorem lexAt_le : ∀ ns ms : List Int, Ob.lexAt (fun j => decide (ns.getD j 0 = ms.getD j 0)) (fun j => decide (ns.getD j 0 ≤ ms.getD j 0)) (decide (ns.length ≤ ms.length)) 0 (min ns.length ms.length) = lexLe ns ms
  | [], ms => by simp [Ob.lexAt_zero, lexLe]
  | _ :: _, [] => by simp [Ob.lexAt_zero, lexLe]
  | x :: xs, y :: ys => by
    have ih := lexAt_le xs ys
    rw [show min (x :: xs).length (y :: ys).length = min xs.length ys.length + 1 by simp only [List.length_cons]; omega, Ob.lexAt_succ, lexAt_shift]
    have z : decide ((x :: xs).length ≤ (y :: ys).length) = decide (xs.length ≤ ys.length) := by simp
    rw [z]
    have e1 : (fun j => decide ((x :: xs).getD (j + 1) 0 = (y :: ys).getD (j + 1) 0)) = fun j => decide (xs.getD j 0 = ys.getD j 0) := by funext j; simp
    have e2 : (fun j => decide ((x :: xs).getD (j + 1) 0 ≤ (y :: ys).getD (j + 1) 0)) = fun j => decide (xs.getD j 0 ≤ ys.getD j 0) := by funext j; simp
    rw [e1, e2, ih, lexLe]
    simp
theorem op_leD (hu : X.A.units < cLine) : OpR X (compareOp .LtE) (rD2 X.K T leD) := by
  intro pins s σ H x y v u Q I rx ry h
  obtain ⟨M, dx, dy, d, m, hx, hy, e, q⟩ := h
  cases hx with
  | int i =>
    cases hy with
    | int j => cases e; exact op_le pins s σ H _ _ v u Q I rx ry ⟨i, j, rfl, rfl, q _ H (Ext.refl T H) (.bl _)⟩
    | _ => cases e
  | @tup a xs ds ha hds =>
    cases hy with
    | @tup b ys es hb hes =>
      have e : ((intsOf ds).bind fun a => (intsOf es).map fun b => PyData.bool (lexLe a b)) = some d := e
      cases q1 : intsOf ds with
      | none => rw [q1] at e; cases e
      | some ns =>
        cases q2 : intsOf es with
        | none => rw [q1, q2] at e; cases e
        | some ms =>
          rw [q1, q2] at e
          cases e
          have e1 := ints_dv hds q1
          have e2 := ints_dv hes q2
          subst e1
          subst e2
          refine op_leT hu pins s σ H _ _ v u Q I rx ry ⟨a, b, ns, ms, rfl, rfl, st_un ha, st_un hb, ?_⟩
          rw [lexAt_le]
          exact q _ H (Ext.refl T H) (.bl _)
    | _ => cases e
  | _ => cases e
theorem op_gtD : OpR X (compareOp .Gt) (rD2 X.K T gtD) := by
  intro pins s σ H x y v u Q I rx ry h
  obtain ⟨M, dx, dy, d, m, hx, hy, e, q⟩ := h
  cases hx with
  | int i =>
    cases hy with
    | int j => cases e; exact op_gt pins s σ H _ _ v u Q I rx ry ⟨i, j, rfl, rfl, q _ H (Ext.refl T H) (.bl _)⟩
    | _ => cases e
  | _ => cases e
theorem op_geD : OpR X (compareOp .GtE) (rD2 X.K T geD) := by
  intro pins s σ H x y v u Q I rx ry h
  obtain ⟨M, dx, dy, d, m, hx, hy, e, q⟩ := h
  cases hx with
  | int i =>
    cases hy with
    | int j => cases e; exact op_ge pins s σ H _ _ v u Q I rx ry ⟨i, j, rfl, rfl, q _ H (Ext.refl T H) (.bl _)⟩
    | _ => cases e
  | _ => cases e
end
end DL
set_option Elab.async false
set_option linter.all false
set_option maxRecDepth 100000
set_option maxHeartbeats 4000000
set_option autoImplicit false
namespace DL
open PySem L2 PyProof.Rows
open LamX (ExtN Tabs TabS CodeO)
section
variable {X : Cx} {T : List (Addr × Str)}
theorem op_inDD (hu : X.A.units + 65 < cLine) : OpR X (compareOp .In) (rD2 X.K T inD) := by
  intro pins s σ H x y v u Q I rx ry h
  obtain ⟨M, dx, dy, d, m, hx, hy, e, q⟩ := h
  cases hy with
  | @lst b ys es hb hes =>
    have e : (if SeqAt.shaped dx = true ∧ SeqAt.shaped (.list es) = true then some (PyData.bool (es.any fun z => PyData.eqv z dx)) else none) = some d := e
    by_cases hz : SeqAt.shaped dx = true ∧ SeqAt.shaped (.list es) = true
    · rw [if_pos hz] at e
      cases e
      exact op_inD hu pins s σ H _ _ v u Q I rx ry ⟨dx, es, dv_dpS hx.un hz.1, dv_dpS (Dv.lst hb hes).un hz.2, hz.1, hz.2, q _ H (Ext.refl T H) (.bl _)⟩
    · rw [if_neg hz] at e; cases e
  | @tup b ys es hb hes =>
    have e : (if SeqAt.shaped dx = true ∧ SeqAt.shaped (.tuple es) = true then some (PyData.bool (es.any fun z => PyData.eqv z dx)) else none) = some d := e
    by_cases hz : SeqAt.shaped dx = true ∧ SeqAt.shaped (.tuple es) = true
    · rw [if_pos hz] at e
      cases e
      obtain ⟨as, r1⟩ := Dp.reads I dx x v (dv_dpS hx.un hz.1) rx
      obtain ⟨bs, r2⟩ := Dp.reads I (.tuple es) _ u (dv_dpS (Dv.tup hb hes).un hz.2) ry
      exact SeqAt.in_tuple_reads r2 r1 (SeqAt.canLay_of_shaped hz.2) (SeqAt.canLay_of_shaped hz.1) (room_in_shaped hz.1 hu) ⟨.bl _, H, I, rfl, q _ H (Ext.refl T H) (.bl _)⟩
    · rw [if_neg hz] at e; cases e
  | str y =>
    cases hx with
    | str z =>
      cases e
      exact op_in_str pins s σ H _ _ v u Q I rx ry ⟨z, y, rfl, rfl, q _ H (Ext.refl T H) (.bl _)⟩
    | _ => cases e
  | _ => cases e
theorem op_notinDD (hu : X.A.units + 65 < cLine) : OpR X (compareOp .NotIn) (rD2 X.K T notinD) := by
  intro pins s σ H x y v u Q I rx ry h
  obtain ⟨M, dx, dy, d, m, hx, hy, e, q⟩ := h
  unfold notinD at e
  cases hy with
  | @lst b ys es hb hes =>
    have e : (match (if SeqAt.shaped dx = true ∧ SeqAt.shaped (.list es) = true then some (PyData.bool (es.any fun z => PyData.eqv z dx)) else none) with | some (.bool b) => some (PyData.bool (!b)) | _ => none) = some d := e
    by_cases hz : SeqAt.shaped dx = true ∧ SeqAt.shaped (.list es) = true
    · rw [if_pos hz] at e
      cases e
      exact op_notInD hu pins s σ H _ _ v u Q I rx ry ⟨dx, es, dv_dpS hx.un hz.1, dv_dpS (Dv.lst hb hes).un hz.2, hz.1, hz.2, q _ H (Ext.refl T H) (.bl _)⟩
    · rw [if_neg hz] at e; cases e
  | @tup b ys es hb hes =>
    have e : (match (if SeqAt.shaped dx = true ∧ SeqAt.shaped (.tuple es) = true then some (PyData.bool (es.any fun z => PyData.eqv z dx)) else none) with | some (.bool b) => some (PyData.bool (!b)) | _ => none) = some d := e
    by_cases hz : SeqAt.shaped dx = true ∧ SeqAt.shaped (.tuple es) = true
    · rw [if_pos hz] at e
      cases e
      obtain ⟨as, r1⟩ := Dp.reads I dx x v (dv_dpS hx.un hz.1) rx
      obtain ⟨bs, r2⟩ := Dp.reads I (.tuple es) _ u (dv_dpS (Dv.tup hb hes).un hz.2) ry
      exact SeqAt.notIn_tuple_reads r2 r1 (SeqAt.canLay_of_shaped hz.2) (SeqAt.canLay_of_shaped hz.1) (room_in_shaped hz.1 hu) ⟨.bl _, H, I, rfl, q _ H (Ext.refl T H) (.bl _)⟩
    · rw [if_neg hz] at e; cases e
  | str y =>
    cases hx with
    | str z =>
      cases e
      exact op_notin_str pins s σ H _ _ v u Q I rx ry ⟨z, y, rfl, rfl, q _ H (Ext.refl T H) (.bl _)⟩
    | _ => cases e
  | _ => cases e
theorem isNone_iff {K : PySem.W.Frag} {G : Hp} {v : V} {d : D} (h : Dv K G v d) : decide (v = .non) = isNone d := by
  cases h <;> simp [isNone]
/-! ### calls of built-ins by values -/
theorem call_lenDD : CallR X (.builtin "len") (rL1 (rD1 X.K T lenD)) := by
  intro pins s σ H xs us Q I r h
  obtain ⟨x, rfl, M, dx, d, m, hx, e, q⟩ := h
  cases hx with
  | @lst a xs ds ha hds => cases e; exact call_len pins s σ H _ us Q I r ⟨_, xs.length, rfl, .inl ⟨xs, (sl_un ha), rfl⟩, by rw [dpAll_len hds]; exact q _ H (Ext.refl T H) (.int _)⟩
  | @tup a xs ds ha hds => cases e; exact call_len pins s σ H _ us Q I r ⟨_, xs.length, rfl, .inr ⟨xs, st_un ha, rfl⟩, by rw [dpAll_len hds]; exact q _ H (Ext.refl T H) (.int _)⟩
  | str x =>
    have e : (if x.length ≤ sz then some (PyData.int x.length) else none) = some d := e
    by_cases hz : x.length ≤ sz
    · rw [if_pos hz] at e
      cases e
      exact call_len pins s σ H _ us Q I r ⟨_, x.length, rfl, ⟨by rw [← szLine]; exact hz, rfl⟩, q _ H (Ext.refl T H) (.int _)⟩
    · rw [if_neg hz] at e; cases e
  | _ => cases e
theorem sum_tup_raw {prog : Program} {w : World} {A : Around} {E : Value → Shared → Prop} {s : Shared} {l : Addr} {its : List Value} {ns : List Int} {Q : Value → Shared → Prop} (hh : A.handled = none) (hl : s.heap.IsTuple l its.toArray) (hi : IntsAre its ns)
    (h : ∀ h' tk t', (∀ b o, s.heap.get? b = some o → h'.get? b = some o) → Q (.int ns.sum t') { s with heap := h', toks := tk }) : wpAny (model prog w) A (call (.builtin "sum") [.ref l]) Q E s := by
  obtain ⟨xs, e⟩ := hi.allInts.items
  have hn : numsOf (intItems xs).toList = ns := by rw [← e]; exact hi.numsOf
  rw [nums_intItems] at hn
  rw [e] at hl
  have hlt : l < s.heap.objs.size := by obtain ⟨o, ho, _⟩ := hl; exact Heap.lt_size ho
  refine call_sum_walkG (wpAny_pyIter_tuple hl ?_)
  refine ⟨_, _, _, _, _, _, numAt xs, rfl, Walks.tuple (A := A.in1) hh _ l (Nat.ne_of_lt hlt) (intItems xs), ⟨⟨_, Heap.get?_push_size _ rfl, rfl, rfl⟩, hl.push _⟩, fun b hb => ?_, (fun _ _ => intItems_at), fun h' tk t' hk => ?_⟩
  · simp at hb; show b < (s.heap.push _).objs.size
    have hp : (s.heap.push { cls := Value.type "tuple_iterator", data := Data.fields #[Value.ref l, Value.int 0 0] }).objs.size = s.heap.objs.size + 1 := by simp [Heap.push]
    rcases hb with rfl | rfl
    · rw [hp]; exact Nat.lt_succ_self _
    · rw [hp]; exact Nat.lt_succ_of_lt hlt
  · have := h h' tk t' (fun b o e => hk b o (by simp; exact Nat.ne_of_lt (Heap.lt_size e)) (Heap.get?_push_of_some _ e))
    have e1 : (intItems xs).size = xs.size := by simp [intItems]
    rw [e1, preSum_eq, List.take_of_length_le (by simp), hn]; exact this
theorem call_sumD (hc : X.calm = true) : CallR X (.builtin "sum") (rL1 (rD1 X.K T sumD)) := by
  intro pins s σ H xs us Q I r h
  obtain ⟨x, rfl, M, dx, d, m, hx, e, q⟩ := h
  cases hx with
  | @lst a xs ds ha hds =>
    have e : (intsOf ds).map (fun ns => PyData.int ns.sum) = some d := e
    cases q1 : intsOf ds with
    | none => rw [q1] at e; cases e
    | some ns =>
      rw [q1] at e
      cases e
      have e1 := ints_dv hds q1
      subst e1
      exact cr_sum hc pins s σ H _ us Q I r ⟨a, ns, rfl, (sl_un ha), q _ H (Ext.refl T H) (.int _)⟩
  | @tup a xs ds ha hds =>
    have e : (intsOf ds).map (fun ns => PyData.int ns.sum) = some d := e
    cases q1 : intsOf ds with
    | none => rw [q1] at e; cases e
    | some ns =>
      rw [q1] at e
      cases e
      have e1 := ints_dv hds q1
      subst e1
      obtain ⟨its, rv, hl, _⟩ := I.tuple (st_un ha)
      rw [Vals.ref1 r]
      exact sum_tup_raw (I.ok.hd hc) hl rv.ints fun h' tk t' hk => ⟨.int _, H, I.kept hk, ⟨_, rfl⟩, q _ H (Ext.refl T H) (.int _)⟩
  | _ => cases e
theorem foldl_min (xs : List Int) : ∀ x : Int, (xs.foldl (fun m y => if y < m then y else m) x ∈ x :: xs) ∧ ∀ y ∈ x :: xs, xs.foldl (fun m y => if y < m then y else m) x ≤ y := by
  induction xs with
  | nil => intro x; simp
  | cons z zs ih =>
    intro x
    rw [List.foldl_cons]
    obtain ⟨h1, h2⟩ := ih (if z < x then z else x)
    constructor
    · rcases List.mem_cons.mp h1 with h | h
      · rw [h]; split <;> simp
      · simp [h]
    · intro y hy
      have hh := h2 (if z < x then z else x) List.mem_cons_self
      have hm : (if z < x then z else x) ≤ x ∧ (if z < x then z else x) ≤ z := by split <;> omega
      rcases List.mem_cons.mp hy with h | h
      · rw [h]; exact Int.le_trans hh hm.1
      · rcases List.mem_cons.mp h with h | h
        · rw [h]; exact Int.le_trans hh hm.2
        · exact h2 y (List.mem_cons_of_mem _ h)
theorem foldl_max (xs : List Int) : ∀ x : Int, (xs.foldl (fun m y => if m < y then y else m) x ∈ x :: xs) ∧ ∀ y ∈ x :: xs, y ≤ xs.foldl (fun m y => if m < y then y else m) x := by
  induction xs with
  | nil => intro x; simp
  | cons z zs ih =>
    intro x
    rw [List.foldl_cons]
    obtain ⟨h1, h2⟩ := ih (if x < z then z else x)
    constructor
    · rcases List.mem_cons.mp h1 with h | h
      · rw [h]; split <;> simp
      · simp [h]
    · intro y hy
      have hh := h2 (if x < z then z else x) List.mem_cons_self
      have hm : x ≤ (if x < z then z else x) ∧ z ≤ (if x < z then z else x) := by split <;> omega
      rcases List.mem_cons.mp hy with h | h
      · rw [h]; exact Int.le_trans hm.1 hh
      · rcases List.mem_cons.mp h with h | h
        · rw [h]; exact Int.le_trans hm.2 hh
        · exact h2 y (List.mem_cons_of_mem _ h)
theorem minL_spec {ns : List Int} {m : Int} (h : minL ns = some m) : m ∈ ns ∧ ∀ y ∈ ns, m ≤ y := by
  cases ns with
  | nil => cases h
  | cons x xs => cases h; exact foldl_min xs x
theorem maxL_spec {ns : List Int} {m : Int} (h : maxL ns = some m) : m ∈ ns ∧ ∀ y ∈ ns, y ≤ m := by
  cases ns with
  | nil => cases h
  | cons x xs => cases h; exact foldl_max xs x
theorem call_minD (hc : X.calm = true) : CallR X (.builtin "min") (rL1 (rD1 X.K T minD)) := by
  intro pins s σ H xs us Q I r h
  obtain ⟨x, rfl, M, dx, d, m, hx, e, q⟩ := h
  cases hx with
  | @lst a xs ds ha hds =>
    have e : ((intsOf ds).bind fun ns => (minL ns).map PyData.int) = some d := e
    cases q1 : intsOf ds with
    | none => rw [q1] at e; cases e
    | some ns =>
      rw [q1] at e
      have e : (minL ns).map PyData.int = some d := e
      cases q2 : minL ns with
      | none => rw [q2] at e; cases e
      | some k =>
        rw [q2] at e
        cases e
        have e1 := ints_dv hds q1
        subst e1
        obtain ⟨h1, h2⟩ := minL_spec q2
        refine cr_min hc pins s σ H _ us Q I r ⟨a, ns, rfl, (sl_un ha), List.length_pos_of_mem h1, fun k' h3 h4 => ?_⟩
        have : k' = k := Int.le_antisymm (h4 k h1) (h2 k' h3)
        subst this
        exact q _ H (Ext.refl T H) (.int _)
  | _ => cases e
theorem call_maxD (hc : X.calm = true) : CallR X (.builtin "max") (rL1 (rD1 X.K T maxD)) := by
  intro pins s σ H xs us Q I r h
  obtain ⟨x, rfl, M, dx, d, m, hx, e, q⟩ := h
  cases hx with
  | @lst a xs ds ha hds =>
    have e : ((intsOf ds).bind fun ns => (maxL ns).map PyData.int) = some d := e
    cases q1 : intsOf ds with
    | none => rw [q1] at e; cases e
    | some ns =>
      rw [q1] at e
      have e : (maxL ns).map PyData.int = some d := e
      cases q2 : maxL ns with
      | none => rw [q2] at e; cases e
      | some k =>
        rw [q2] at e
        cases e
        have e1 := ints_dv hds q1
        subst e1
        obtain ⟨h1, h2⟩ := maxL_spec q2
        refine cr_max hc pins s σ H _ us Q I r ⟨a, ns, rfl, (sl_un ha), List.length_pos_of_mem h1, fun k' h3 h4 => ?_⟩
        have : k' = k := Int.le_antisymm (h2 k' h3) (h4 k h1)
        subst this
        exact q _ H (Ext.refl T H) (.int _)
  | _ => cases e
theorem call_min2D (hc : X.calm = true) : CallR X (.builtin "min") (rL2 (rD2 X.K T min2D)) := by
  intro pins s σ H xs us Q I r h
  obtain ⟨x, y, rfl, M, dx, dy, d, m, hx, hy, e, q⟩ := h
  cases hx with
  | int i =>
    cases hy with
    | int j => cases e; exact call_min2 hc pins s σ H _ us Q I r ⟨i, j, rfl, q _ H (Ext.refl T H) (.int _)⟩
    | _ => cases e
  | _ => cases e
theorem call_max2D (hc : X.calm = true) : CallR X (.builtin "max") (rL2 (rD2 X.K T max2D)) := by
  intro pins s σ H xs us Q I r h
  obtain ⟨x, y, rfl, M, dx, dy, d, m, hx, hy, e, q⟩ := h
  cases hx with
  | int i =>
    cases hy with
    | int j => cases e; exact call_max2 hc pins s σ H _ us Q I r ⟨i, j, rfl, q _ H (Ext.refl T H) (.int _)⟩
    | _ => cases e
  | _ => cases e
theorem call_allD (hc : X.calm = true) : CallR X (.builtin "all") (rL1 (rD1 X.K T allD)) := by
  intro pins s σ H xs us Q I r h
  obtain ⟨x, rfl, M, dx, d, m, hx, e, q⟩ := h
  cases hx with
  | @lst a xs ds ha hds =>
    have e : (boolsOf ds).map (fun ns => PyData.bool (ns.all id)) = some d := e
    cases q1 : boolsOf ds with
    | none => rw [q1] at e; cases e
    | some ns =>
      rw [q1] at e
      cases e
      have e1 := bools_dv hds q1
      subst e1
      exact cr_all hc pins s σ H _ us Q I r ⟨a, ns, rfl, (sl_un ha), q _ H (Ext.refl T H) (.bl _)⟩
  | _ => cases e
theorem call_anyD (hc : X.calm = true) : CallR X (.builtin "any") (rL1 (rD1 X.K T anyD)) := by
  intro pins s σ H xs us Q I r h
  obtain ⟨x, rfl, M, dx, d, m, hx, e, q⟩ := h
  cases hx with
  | @lst a xs ds ha hds =>
    have e : (boolsOf ds).map (fun ns => PyData.bool (ns.any id)) = some d := e
    cases q1 : boolsOf ds with
    | none => rw [q1] at e; cases e
    | some ns =>
      rw [q1] at e
      cases e
      have e1 := bools_dv hds q1
      subst e1
      exact cr_any hc pins s σ H _ us Q I r ⟨a, ns, rfl, (sl_un ha), q _ H (Ext.refl T H) (.bl _)⟩
  | _ => cases e
theorem call_tupleD : CallR X (.type "tuple") (rL1 (rD1 X.K T tupleD)) := by
  intro pins s σ H xs us Q I r h
  obtain ⟨x, rfl, M, dx, d, m, hx, e, q⟩ := h
  cases hx with
  | @lst a xs ds ha hds =>
    cases e
    exact call_tuple_of pins s σ H _ us Q I r ⟨a, xs, rfl, .inl ⟨(sl_un ha), fun l hl => q _ _ (Ext.fresh _ hl) (dv_newT m hl hds)⟩⟩
  | @tup a xs ds ha hds =>
    cases e
    exact call_tuple_of pins s σ H _ us Q I r ⟨a, xs, rfl, .inr ⟨st_un ha, q _ H (Ext.refl T H) (.tup ha hds)⟩⟩
  | _ => cases e
theorem fresh_all {K : PySem.W.Frag} {M : Addr → Prop} {H : Hp} {p : Addr} {o : HO} {vs : List V} {ds : List D} (hp : H p = none) (h : DvAll K (mask H M) vs ds) : DvAll K (mask (upd H p o) (fun a => M a ∨ a = p)) vs ds :=
  dpAll_ext (mask_ext (fun a u e _ na z => by
    rcases z with z | z
    · exact na z
    · subst z; rw [hp] at e; cases e) (Ext.fresh (T := []) _ hp).keep) h
theorem call_listD : CallR X (.type "list") (rL1 (rF1 X.K T listD)) := by
  intro pins s σ H xs us Q I r h
  obtain ⟨x, rfl, M, dx, d, m, hx, e, q⟩ := h
  cases hx with
  | @lst a xs ds ha hds =>
    cases e
    exact call_list_of pins s σ H _ us Q I r ⟨a, xs, rfl, .inl (sl_un ha), fun l hl => q l xs _ (Ext.fresh _ hl) (.of hl) upd_same (fresh_all hl hds)⟩
  | @tup a xs ds ha hds =>
    cases e
    exact call_list_of pins s σ H _ us Q I r ⟨a, xs, rfl, .inr (st_un ha), fun l hl => q l xs _ (Ext.fresh _ hl) (.of hl) upd_same (fresh_all hl hds)⟩
  | _ => cases e
theorem call_intD : CallR X (.type "int") (rL1 (rD1 X.K T intD)) := by
  intro pins s σ H xs us Q I r h
  obtain ⟨x, rfl, M, dx, d, m, hx, e, q⟩ := h
  cases hx with
  | int i => cases e; exact call_int1 pins s σ H _ us Q I r (.inl ⟨i, rfl, q _ H (Ext.refl T H) (.int _)⟩)
  | bl b => cases e; exact call_int1 pins s σ H _ us Q I r (.inr ⟨b, rfl, q _ H (Ext.refl T H) (.int _)⟩)
  | str x =>
    have e : (if x.length ≤ 640 then (PySem.intText? x).map PyData.int else none) = some d := e
    by_cases hz : x.length ≤ 640
    · rw [if_pos hz] at e
      cases q1 : PySem.intText? x with
      | none => rw [q1] at e; cases e
      | some n =>
        rw [q1] at e
        cases e
        exact call_int_str pins s σ H _ us Q I r ⟨x, n, rfl, q1, hz, q _ H (Ext.refl T H) (.int _)⟩
    · rw [if_neg hz] at e; cases e
  | _ => cases e
theorem call_strD : CallR X (.type "str") (rL1 (rD1 X.K T strD)) := by
  intro pins s σ H xs us Q I r h
  obtain ⟨x, rfl, M, dx, d, m, hx, e, q⟩ := h
  cases hx with
  | int i =>
    have e : (if i.natAbs.log2 < 1920 then some (PyData.str (toString i)) else none) = some d := e
    by_cases hz : i.natAbs.log2 < 1920
    · rw [if_pos hz] at e
      cases e
      exact call_str_int pins s σ H _ us Q I r ⟨i, rfl, hz, q _ H (Ext.refl T H) (.str _)⟩
    · rw [if_neg hz] at e; cases e
  | bl b =>
    cases e
    obtain ⟨u, rfl, rfl⟩ := vals1 r
    exact PySem.P.str_of_bool ⟨.str _, H, I.tok _, ⟨_, rfl⟩, q _ H (Ext.refl T H) (.str _)⟩
  | _ => cases e
theorem call_absD : CallR X (.builtin "abs") (rL1 (rD1 X.K T absD)) := by
  intro pins s σ H xs us Q I r h
  obtain ⟨x, rfl, M, dx, d, m, hx, e, q⟩ := h
  cases hx with
  | int i => cases e; exact call_abs pins s σ H _ us Q I r ⟨i, rfl, q _ H (Ext.refl T H) (.int _)⟩
  | _ => cases e
/-! ### isinstance -/
def tyN : Ty → String
  | .int => "int" | .bool => "bool" | .str => "str" | .list => "list" | .tuple => "tuple"
theorem kit_all (t : Ty) (d : D) : kitB (tyD d) (tyN t) = some (isi t d) := by
  cases t <;> cases d <;> first | rfl | decide +kernel
theorem dv_ty {K : PySem.W.Frag} {H : Hp} {v : V} {d : D} (h : Dv K H v d) : TyX K H v (.type (tyD d)) := by
  cases h with
  | non => exact .base .non
  | bl b => exact .base (.bl b)
  | int i => exact .base (.int i)
  | str x => exact .base (.str x)
  | lst ha _ =>
    rcases ha with (ha | ⟨o, ha⟩) | ⟨o, its, n, h1, h2, _⟩
    · exact .base (.lst ha)
    · exact .base (.frz ha)
    · exact .kList h1 h2
  | tup ha _ =>
    rcases ha with (ha | ⟨o, ha⟩) | ⟨o, its, n, h1, h2, _⟩
    · exact .base (.tup ha)
    · exact .fTuple ha
    · exact .kTuple h1 h2
  | dct ha _ => exact .fDict ha
theorem call_isiD (t : Ty) {x : V} {H : Hp} {Q : VK} (h : rD1 X.K T (isiD t) x H Q) : rIsi X.K [x, .ty (tyN t)] H Q := by
  obtain ⟨M, dx, d, m, hx, e, q⟩ := h
  cases e
  exact ⟨x, .ty (tyN t), _, _, isi t dx, rfl, .ty _, dv_ty hx.un, kit_ty (kit_all t dx), q _ H (Ext.refl T H) (.bl _)⟩
/-! ### items, slices -/
theorem ixN_eq (n : Nat) (i : Int) : L2.ixN n i = ixN n i := rfl
theorem atI_dv {K : PySem.W.Frag} {G : Hp} {vs : List V} {ds : List D} {i : Int} {d : D} (h : DvAll K G vs ds) (e : atI ds i = some d) : ∃ v, L2.atI vs i = some v ∧ Dv K G v d := by
  unfold atI at e
  unfold L2.atI
  rw [dpAll_len h, ixN_eq]
  cases q : ixN ds.length i with
  | none => rw [q] at e; cases e
  | some j =>
    rw [q] at e
    exact dpAll_get' h e
theorem ix_D : IxR X (rD2 X.K T ixD) := by
  intro value slice pins s σ H x y v u Q I rx ry h hs
  obtain ⟨M, dx, dy, d, m, hx, hy, e, q⟩ := h
  cases hx with
  | @lst a xs ds ha hds =>
    cases hy with
    | int i =>
      obtain ⟨w, h1, h2⟩ := atI_dv hds (show atI ds i = some d from e)
      exact ix_list value slice pins s σ H _ _ v u Q I rx ry ⟨a, xs, i, w, rfl, rfl, (sl_un ha), h1, q _ H (Ext.refl T H) h2⟩ hs
    | _ => cases e
  | @tup a xs ds ha hds =>
    cases hy with
    | int i =>
      obtain ⟨w, h1, h2⟩ := atI_dv hds (show atI ds i = some d from e)
      exact ix_tup value slice pins s σ H _ _ v u Q I rx ry ⟨a, xs, i, w, rfl, rfl, st_un ha, h1, q _ H (Ext.refl T H) h2⟩ hs
    | _ => cases e
  | _ => cases e
theorem sIx_eq (n d : Nat) (o : Option Int) : HT.sIx n d o = sIx n d o := by cases o <;> rfl
theorem cut_dv {K : PySem.W.Frag} {G : Hp} {vs : List V} {ds : List D} {lo hi : Option Int} (h : DvAll K G vs ds) : DvAll K G (cutV vs lo hi) (cut ds lo hi) := by
  unfold cutV cut
  rw [dpAll_len h, sIx_eq, sIx_eq]
  exact dpAll_take _ (dpAll_drop _ h)
def rSlD (K : PySem.W.Frag) (T : List (Addr × Str)) : V → Option Int → Option Int → Hp → VK → Prop := fun x lo hi H Q => ∃ M dx d, Msk M H ∧ Dv K (mask H M) x dx ∧ sliceD dx lo hi = some d ∧ ∀ v H', Ext T H H' → Dv K (mask H' M) v d → Q v H'
theorem sl_D : SlR X (rSlD X.K T) := by
  intro pins s σ H x v vl vu lo hi sl Q I rx hs pl pu h
  obtain ⟨M, dx, d, m, hx, e, q⟩ := h
  cases hx with
  | @lst a xs ds ha hds =>
    cases e
    exact sl_list pins s σ H _ v vl vu lo hi sl Q I rx hs pl pu ⟨a, xs, rfl, (sl_un ha), fun p hp => q _ _ (Ext.fresh _ hp) (dv_newL m hp (cut_dv hds))⟩
  | @tup a xs ds ha hds =>
    cases e
    refine sl_tupA pins s σ H _ v vl vu lo hi sl Q I rx hs pl pu ⟨a, xs, rfl, st_un ha, fun z => ?_, fun _ p hp => q _ _ (Ext.fresh _ hp) (dv_newT m hp (cut_dv hds))⟩
    have e1 : cut ds lo hi = ds := by
      unfold cut
      rw [← dpAll_len hds, ← sIx_eq, ← sIx_eq, z.1, z.2, dpAll_len hds]
      simp
    rw [e1] at q
    exact q _ H (Ext.refl T H) (.tup ha hds)
  | _ => cases e
end
end DL
set_option Elab.async false
set_option linter.all false
set_option maxRecDepth 100000
set_option maxHeartbeats 4000000
set_option autoImplicit false
namespace DL
open PySem L2
open LamX (ExtN Tabs TabS CodeO)
section
variable {X : Cx} {T : List (Addr × Str)} {cm : Nat → Value} {E : XK} {A B C : XE} {a b c e : Expr} {pos p : Pos}
/-! ### expressions -/
theorem de_var (i : Nat) {x : Str} (hN : X.N[i]? = some x := by rfl) (hv : Vis X.env.scope x := by first | exact Or.inl rfl | exact Or.inr (Or.inl rfl) | exact Or.inr (Or.inr rfl)) (hd : (x == ("__debug__" : Str)) = false := by decide)
    (hcd : (x == ("__classdict__" : Str)) = false := by decide) : PE X (.Name x pos) (tD X.K T cm E (xVar i)) := PEimp (pe_var hN hv hd hcd) fun σ H Q h => by
  obtain ⟨M, H0, δ, r, R, e, a⟩ := h
  unfold xVar at e
  cases q : δ[i]? with
  | none => rw [q] at e; cases e
  | some sl =>
    rw [q] at e
    cases sl with
    | dat d =>
      cases e
      obtain ⟨v, h1, h2⟩ := R.dat i d q
      exact ⟨v, h1, a H (Ext.refl T H) v h2⟩
    | no => cases e
    | own o => cases e
    | raw o => cases e
theorem de_c {v : V} {d : D} (h : PE X e (tC v)) (hv : ∀ G, Dv X.K G v d) : PE X e (tD X.K T cm E (xC d)) := PEimp h fun σ H Q h => by
  obtain ⟨M, H0, δ, r, R, e, a⟩ := h
  cases e
  exact a H (Ext.refl T H) v (hv _)
theorem de_int {i : Int} {j : Nat} : PE X (.Constant (.int i) j pos) (tD X.K T cm E (xC (.int i))) := de_c pe_int fun _ => .int i
theorem de_str {x : Str} {j : Nat} : PE X (.Constant (.str x) j pos) (tD X.K T cm E (xC (.str x))) := de_c pe_str fun _ => .str x
theorem de_bl {x : Bool} {j : Nat} : PE X (.Constant (.bool x) j pos) (tD X.K T cm E (xC (.bool x))) := de_c pe_bl fun _ => .bl x
theorem de_non {j : Nat} : PE X (.Constant .none j pos) (tD X.K T cm E (xC .none)) := de_c pe_non fun _ => .non
/-- a constant of the module -/
theorem de_glob {x : Str} {v : V} {u : Value} {d : D} (hg : Gl X x) (hm : X.mg x = some u) (r : RelV v u) (hv : ∀ G, Dv X.K G v d) (hd : (x == ("__debug__" : Str)) = false := by decide) : PE X (.Name x pos) (tD X.K T cm E (xC d)) := de_c (pe_glob hg hm r hd) hv
theorem de_op {op : Operator} {f : D → D → Option D} (ho : OpR X (binaryOp op) (rD2 X.K T f)) (ha : PE X a (tD X.K T cm E A)) (hb : PE X b (tD X.K T cm E B)) : PE X (.BinOp a op b pos) (tD X.K T cm E (x2 f A B)) :=
  PEimp (pe_op ho ha hb) fun σ H Q h => two_imp (fun _ _ _ _ z => z) h
theorem de_un {op : UnaryOp} {f : D → Option D} (ho : UnR X (unaryOp op) (rD1 X.K T f)) (ha : PE X a (tD X.K T cm E A)) : PE X (.UnaryOp op a pos) (tD X.K T cm E (x1 f A)) :=
  PEimp (pe_un ho ha) fun σ H Q h => one_imp (fun _ _ _ z => z) h
theorem de_cmp {op : CmpOp} {f : D → D → Option D} (ho : OpR X (compareOp op) (rD2 X.K T f)) (ha : PE X a (tD X.K T cm E A)) (hb : PE X b (tD X.K T cm E B)) (hm : behindInMarks op b = false) : PE X (.Compare a [op] [b] pos) (tD X.K T cm E (x2 f A B)) :=
  PEimp (pe_cmpR ho ha hb hm) fun σ H Q h => two_imp (fun _ _ _ _ z => z) h
theorem de_isN {j : Nat} {p' : Pos} (ha : PE X a (tD X.K T cm E A)) : PE X (.Compare a [.Is] [.Constant .none j p'] pos) (tD X.K T cm E (x1 isND A)) :=
  PEimp (pe_cmp (pc_isN ha) rfl) fun σ H Q h => one_imp (r := fun x H Q => Q (.bl (decide (x = .non))) H) (fun x H Q z => by
    obtain ⟨M, dx, d, m, hx, e, q⟩ := z
    cases e
    rw [isNone_iff hx]
    exact q _ H (Ext.refl T H) (.bl _)) h
theorem de_notN {j : Nat} {p' : Pos} (ha : PE X a (tD X.K T cm E A)) : PE X (.Compare a [.IsNot] [.Constant .none j p'] pos) (tD X.K T cm E (x1 notND A)) :=
  PEimp (pe_cmp (pc_notN ha) rfl) fun σ H Q h => one_imp (r := fun x H Q => Q (.bl (!decide (x = .non))) H) (fun x H Q z => by
    obtain ⟨M, dx, d, m, hx, e, q⟩ := z
    cases e
    rw [isNone_iff hx]
    exact q _ H (Ext.refl T H) (.bl _)) h
/-- chains -/
theorem chain_imp {f g : D → D → Option D} {σ : St} {H : Hp} {Q : VK} (h : tD X.K T cm E (xChain f g A B C) σ H Q) : tChain (rD2 X.K T f) (rD2 X.K T g) (tD X.K T cm E A) (tD X.K T cm E B) (tD X.K T cm E C) σ H Q := by
  obtain ⟨M, H0, δ, r, R, e, a⟩ := h
  rcases bnd_of e with ⟨x, ex, e⟩ | ⟨c, ex, rfl⟩
  · refine ⟨M, H0, δ, .ok x, R, ex, fun H1 x1 v hv => ?_⟩
    rcases bnd_of e with ⟨y, ey, e⟩ | ⟨c, ey, rfl⟩
    · refine ⟨M, H0, δ, .ok y, R.grow x1, ey, fun H2 x2 u hu => ?_⟩
      have R2 := (R.grow x1).grow x2
      cases q : f x y with
      | none => rw [q] at e; cases e
      | some d =>
        rw [q] at e
        refine ⟨MM M σ δ, x, y, d, R2.msk, x2.dv hv, hu, q, fun w H3 x3 hw => ?_⟩
        cases d with
        | bool k =>
          cases hw
          refine ⟨k, rfl, ?_⟩
          cases k with
          | false =>
            cases e
            exact a H3 (x1.trans (x2.trans x3)) _ (.bl _)
          | true =>
            rcases bnd_of e with ⟨z, ez, e⟩ | ⟨c, ez, rfl⟩
            · refine ⟨M, H0, δ, .ok z, R2.grow x3, ez, fun H4 x4 w hw => ?_⟩
              cases q2 : g y z with
              | none => rw [q2] at e; cases e
              | some d =>
                rw [q2] at e
                cases e
                exact ⟨MM M σ δ, y, z, d, ((R2.grow x3).grow x4).msk, (x3.trans x4).dv hu, hw, q2, fun v H5 x5 hd => a H5 (x1.trans (x2.trans (x3.trans (x4.trans x5)))) v hd⟩
            · exact ⟨M, H0, δ, .ex c, R2.grow x3, ez, ((a.grow x1).grow x2).grow x3⟩
        | _ => cases e
    · exact ⟨M, H0, δ, .ex c, R.grow x1, ey, a.grow x1⟩
  · exact ⟨M, H0, δ, .ex c, R, ex, a⟩
theorem de_chain {op op' : CmpOp} {f g : D → D → Option D} (ho : OpR X (compareOp op) (rD2 X.K T f)) (ho' : OpR X (compareOp op') (rD2 X.K T g)) (ha : PE X a (tD X.K T cm E A)) (hb : PE X b (tD X.K T cm E B)) (hc : PE X c (tD X.K T cm E C))
    (hm : lastMarks [op, op'] [b, c] = false := by with_unfolding_all rfl) : PE X (.Compare a [op, op'] [b, c] pos) (tD X.K T cm E (xChain f g A B C)) := PEimp (pe_chain ho ho' ha hb hc hm) fun _ _ _ h => chain_imp h

/-! ### tests -/
theorem val_imp {σ : St} {H : Hp} {Q : Bool → Hp → Prop} (h : tT X.K T cm E (yV A) σ H Q) : tD X.K T cm E A σ H (fun x H1 => ∃ c, x = .bl c ∧ Q c H1) := by
  obtain ⟨M, H0, δ, r, R, e, a⟩ := h
  rcases bnd_of e with ⟨x, ex, e⟩ | ⟨c, ex, rfl⟩
  · refine ⟨M, H0, δ, .ok x, R, ex, fun H1 x1 v hv => ?_⟩
    cases x with
    | bool k =>
      cases hv
      cases e
      exact ⟨k, rfl, a H1 x1⟩
    | _ => cases e
  · exact ⟨M, H0, δ, .ex c, R, ex, a⟩
theorem dt_val (ha : PE X e (tD X.K T cm E A)) (he : ∀ whole, isTrue e X.env whole = (do let v ← whole; standAt e.pos; holding [v] (truthy v)) := by intro _; rfl) : PT X e (tT X.K T cm E (yV A)) :=
  PTimp (pt_val ha he) fun _ _ _ h => val_imp h
theorem dt_cmp {op : CmpOp} {f : D → D → Option D} (ho : OpR X (compareOp op) (rD2 X.K T f)) (ha : PE X a (tD X.K T cm E A)) (hb : PE X b (tD X.K T cm E B)) (hm : behindInMarks op b = false) : PT X (.Compare a [op] [b] pos) (tT X.K T cm E (yV (x2 f A B))) :=
  PTimp (pt_cmpR ho ha hb hm) fun σ H Q h => two_imp (fun _ _ _ _ z => z) (val_imp h)
theorem dt_isN {j : Nat} {p' : Pos} (ha : PE X a (tD X.K T cm E A)) : PT X (.Compare a [.Is] [.Constant .none j p'] pos) (tT X.K T cm E (yV (x1 isND A))) :=
  PTimp (pt_cmp (pc_isN ha) rfl) fun σ H Q h => one_imp (r := fun x H Q => Q (.bl (decide (x = .non))) H) (fun x H Q z => by
    obtain ⟨M, dx, d, m, hx, e, q⟩ := z
    cases e
    rw [isNone_iff hx]
    exact q _ H (Ext.refl T H) (.bl _)) (val_imp h)
theorem dt_notN {j : Nat} {p' : Pos} (ha : PE X a (tD X.K T cm E A)) : PT X (.Compare a [.IsNot] [.Constant .none j p'] pos) (tT X.K T cm E (yV (x1 notND A))) :=
  PTimp (pt_cmp (pc_notN ha) rfl) fun σ H Q h => one_imp (r := fun x H Q => Q (.bl (!decide (x = .non))) H) (fun x H Q z => by
    obtain ⟨M, dx, d, m, hx, e, q⟩ := z
    cases e
    rw [isNone_iff hx]
    exact q _ H (Ext.refl T H) (.bl _)) (val_imp h)
theorem dt_chain {op op' : CmpOp} {f g : D → D → Option D} (ho : OpR X (compareOp op) (rD2 X.K T f)) (ho' : OpR X (compareOp op') (rD2 X.K T g)) (ha : PE X a (tD X.K T cm E A)) (hb : PE X b (tD X.K T cm E B)) (hc : PE X c (tD X.K T cm E C))
    (hm : lastMarks [op, op'] [b, c] = false := by with_unfolding_all rfl) : PT X (.Compare a [op, op'] [b, c] pos) (tT X.K T cm E (yV (xChain f g A B C))) := PTimp (pt_chain ho ho' ha hb hc hm) fun _ _ _ h => chain_imp (val_imp h)
variable {t u : XT} {rest : List Expr}
theorem tand_imp {σ : St} {H : Hp} {Q : Bool → Hp → Prop} (h : tT X.K T cm E (yAnd t u) σ H Q) : tAnd (tT X.K T cm E t) (tT X.K T cm E u) σ H Q := by
  obtain ⟨M, H0, δ, r, R, e, a⟩ := h
  rcases bnd_of e with ⟨x, ex, e⟩ | ⟨c, ex, rfl⟩
  · refine ⟨M, H0, δ, .ok x, R, ex, fun H1 x1 => ?_⟩
    cases x with
    | true => exact ⟨M, H0, δ, r, R.grow x1, e, a.grow x1⟩
    | false => cases e; exact a H1 x1
  · exact ⟨M, H0, δ, .ex c, R, ex, a⟩
theorem tor_imp {σ : St} {H : Hp} {Q : Bool → Hp → Prop} (h : tT X.K T cm E (yOr t u) σ H Q) : tOr (tT X.K T cm E t) (tT X.K T cm E u) σ H Q := by
  obtain ⟨M, H0, δ, r, R, e, a⟩ := h
  rcases bnd_of e with ⟨x, ex, e⟩ | ⟨c, ex, rfl⟩
  · refine ⟨M, H0, δ, .ok x, R, ex, fun H1 x1 => ?_⟩
    cases x with
    | false => exact ⟨M, H0, δ, r, R.grow x1, e, a.grow x1⟩
    | true => cases e; exact a H1 x1
  · exact ⟨M, H0, δ, .ex c, R, ex, a⟩
theorem dw_and1 (ha : PT X a (tT X.K T cm E t)) : PW X (.BoolOp .And [a] pos) (tT X.K T cm E t) := pw_and1 ha
theorem dw_or1 (ha : PT X a (tT X.K T cm E t)) : PW X (.BoolOp .Or [a] pos) (tT X.K T cm E t) := pw_or1 ha
theorem dw_and (ha : PT X a (tT X.K T cm E t)) (hb : PW X (.BoolOp .And (b :: rest) pos) (tT X.K T cm E u)) : PW X (.BoolOp .And (a :: b :: rest) pos) (tT X.K T cm E (yAnd t u)) := PWimp (pw_and ha hb) fun _ _ _ h => tand_imp h
theorem dw_or (ha : PT X a (tT X.K T cm E t)) (hb : PW X (.BoolOp .Or (b :: rest) pos) (tT X.K T cm E u)) : PW X (.BoolOp .Or (a :: b :: rest) pos) (tT X.K T cm E (yOr t u)) := PWimp (pw_or ha hb) fun _ _ _ h => tor_imp h
theorem dt_not (ha : PT X a (tT X.K T cm E t)) : PT X (.UnaryOp .Not a pos) (tT X.K T cm E (yNot t)) := PTimp (pt_not ha) fun σ H Q h => by
  obtain ⟨M, H0, δ, r, R, e, a⟩ := h
  rcases bnd_of e with ⟨x, ex, e⟩ | ⟨c, ex, rfl⟩
  · cases e
    exact ⟨M, H0, δ, .ok x, R, ex, fun H1 x1 => a H1 x1⟩
  · exact ⟨M, H0, δ, .ex c, R, ex, a⟩
/-! ### and, or, not as values -/
theorem de_one {op : BoolOp} (h : PE X a (tD X.K T cm E A)) : PE X (.BoolOp op [a] pos) (tD X.K T cm E A) := pe_one h
theorem de_and (ha : PE X a (tD X.K T cm E A)) (hb : PE X (.BoolOp .And (b :: rest) pos) (tD X.K T cm E B)) : PE X (.BoolOp .And (a :: b :: rest) pos) (tD X.K T cm E (xAnd A B)) := PEimp (pe_and ha hb) fun σ H Q h => by
  obtain ⟨M, H0, δ, r, R, e, a⟩ := h
  rcases bnd_of e with ⟨x, ex, e⟩ | ⟨c, ex, rfl⟩
  · refine ⟨M, H0, δ, .ok x, R, ex, fun H1 x1 v hv => ?_⟩
    cases x with
    | bool k =>
      cases hv
      refine ⟨k, rfl, ?_⟩
      cases k with
      | true => exact ⟨M, H0, δ, r, R.grow x1, e, a.grow x1⟩
      | false => cases e; exact a H1 x1 _ (.bl _)
    | _ => cases e
  · exact ⟨M, H0, δ, .ex c, R, ex, a⟩
theorem de_or (ha : PE X a (tD X.K T cm E A)) (hb : PE X (.BoolOp .Or (b :: rest) pos) (tD X.K T cm E B)) : PE X (.BoolOp .Or (a :: b :: rest) pos) (tD X.K T cm E (xOr A B)) := PEimp (pe_or ha hb) fun σ H Q h => by
  obtain ⟨M, H0, δ, r, R, e, a⟩ := h
  rcases bnd_of e with ⟨x, ex, e⟩ | ⟨c, ex, rfl⟩
  · refine ⟨M, H0, δ, .ok x, R, ex, fun H1 x1 v hv => ?_⟩
    cases x with
    | bool k =>
      cases hv
      refine ⟨k, rfl, ?_⟩
      cases k with
      | false => exact ⟨M, H0, δ, r, R.grow x1, e, a.grow x1⟩
      | true => cases e; exact a H1 x1 _ (.bl _)
    | _ => cases e
  · exact ⟨M, H0, δ, .ex c, R, ex, a⟩
theorem de_not (ha : PE X a (tD X.K T cm E A)) : PE X (.UnaryOp .Not a pos) (tD X.K T cm E (xNot A)) := PEimp (pe_not ha) fun σ H Q h => by
  obtain ⟨M, H0, δ, r, R, e, a⟩ := h
  rcases bnd_of e with ⟨x, ex, e⟩ | ⟨c, ex, rfl⟩
  · refine ⟨M, H0, δ, .ok x, R, ex, fun H1 x1 v hv => ?_⟩
    cases x with
    | bool k =>
      cases hv
      cases e
      exact ⟨k, rfl, a H1 x1 _ (.bl _)⟩
    | _ => cases e
  · exact ⟨M, H0, δ, .ex c, R, ex, a⟩
theorem de_if (hc : PT X c (tT X.K T cm E t)) (ha : PE X a (tD X.K T cm E A)) (hb : PE X b (tD X.K T cm E B)) : PE X (.IfExp c a b pos) (tD X.K T cm E (xIf t A B)) := PEimp (pe_ifExp hc ha hb) fun σ H Q h => by
  obtain ⟨M, H0, δ, r, R, e, a⟩ := h
  rcases bnd_of e with ⟨x, ex, e⟩ | ⟨c, ex, rfl⟩
  · refine ⟨M, H0, δ, .ok x, R, ex, fun H1 x1 => ?_⟩
    cases x with
    | true => exact ⟨M, H0, δ, r, R.grow x1, e, a.grow x1⟩
    | false => exact ⟨M, H0, δ, r, R.grow x1, e, a.grow x1⟩
  · exact ⟨M, H0, δ, .ex c, R, ex, a⟩
/-! ### argument lists, displays -/
variable {es : List Expr} {L : XL}
theorem da_nil : PA X [] (tL X.K T cm E xNil) := PAimp pa_nil fun σ H Q h => by
  obtain ⟨M, H0, δ, r, R, e, a⟩ := h
  cases e
  exact a H (Ext.refl T H) [] .nil
theorem da_cons (ha : PE X e (tD X.K T cm E A)) (hr : PA X es (tL X.K T cm E L)) (hs : starEach (e :: es) X.env = (false, eval e X.env) :: starEach es X.env := by rfl) : PA X (e :: es) (tL X.K T cm E (xCons A L)) := PAimp (pa_cons ha hr hs) fun σ H Q h => by
  obtain ⟨M, H0, δ, r, R, e, a⟩ := h
  rcases bnd_of e with ⟨x, ex, e⟩ | ⟨c, ex, rfl⟩
  · refine ⟨M, H0, δ, .ok x, R, ex, fun H1 x1 v hv => ?_⟩
    rcases bnd_of e with ⟨y, ey, e⟩ | ⟨c, ey, rfl⟩
    · cases e
      exact ⟨M, H0, δ, .ok y, R.grow x1, ey, fun H2 x2 u hu => a H2 (x1.trans x2) _ (.cons (x2.dv hv) hu)⟩
    · exact ⟨M, H0, δ, .ex c, R.grow x1, ey, a.grow x1⟩
  · exact ⟨M, H0, δ, .ex c, R, ex, a⟩
theorem de_tup {k : Nat} (h : PA X es (tL X.K T cm E L)) : PE X (.Tuple es k pos) (tD X.K T cm E (xTup L)) := PEimp (pe_tup h) fun σ H Q h => by
  obtain ⟨M, H0, δ, r, R, e, a⟩ := h
  rcases bnd_of e with ⟨x, ex, e⟩ | ⟨c, ex, rfl⟩
  · refine ⟨M, H0, δ, .ok x, R, ex, fun H1 x1 vs hv => ?_⟩
    have e : (if x.length ≤ sz then ret (PyData.tuple x) else none) = some r := e
    by_cases hz : x.length ≤ sz
    · rw [if_pos hz] at e
      cases e
      exact ⟨by rw [dpAll_len hv, ← szLine]; exact hz, fun p hp => a _ (x1.trans (Ext.fresh _ hp)) _ (dv_newT (R.grow x1).msk hp hv)⟩
    · rw [if_neg hz] at e; cases e
  · exact ⟨M, H0, δ, .ex c, R, ex, a⟩
/-- a list display: a new list -/
theorem df_lst (h : PA X es (tL X.K T cm E L)) : PE X (.List es pos) (tF X.K T cm E (xLst L)) := PEimp (pe_lst h) fun σ H Q h => by
  obtain ⟨M, H0, δ, r, R, e, a⟩ := h
  rcases bnd_of e with ⟨x, ex, e⟩ | ⟨c, ex, rfl⟩
  · refine ⟨M, H0, δ, .ok x, R, ex, fun H1 x1 vs hv => ?_⟩
    have e : (if x.length ≤ sz then ret x else none) = some r := e
    by_cases hz : x.length ≤ sz
    · rw [if_pos hz] at e
      cases e
      exact ⟨by rw [dpAll_len hv, ← szLine]; exact hz, fun p hp => a _ (x1.trans (Ext.fresh _ hp)) p vs (Fr.back x1 (.of hp)) upd_same (fresh_all hp hv)⟩
    · rw [if_neg hz] at e; cases e
  · exact ⟨M, H0, δ, .ex c, R, ex, a⟩
/-- a new list as data -/
theorem de_ofF (h : PE X e (tF X.K T cm E L)) : PE X e (tD X.K T cm E (xOfL L)) := PEimp h fun σ H Q h => by
  obtain ⟨M, H0, δ, r, R, e, a⟩ := h
  rcases bnd_of e with ⟨x, ex, e⟩ | ⟨c, ex, rfl⟩
  · cases e
    exact ⟨M, H0, δ, .ok x, R, ex, fun H1 x1 p vs hn hp hv => a H1 x1 _ (dv_ofF R.msk hn hp hv)⟩
  · exact ⟨M, H0, δ, .ex c, R, ex, a⟩
/-! ### built-ins called -/
variable {x : Str} {id : String}
theorem arg1 {σ : St} {H : Hp} {Q : VK} {r : V → Hp → VK → Prop} (h : tD X.K T cm E A σ H (fun y H1 => r y H1 Q)) : tCB (rL1 r) (tCons (tD X.K T cm E A) tNil) σ H Q := by
  obtain ⟨M, H0, δ, r', R, e, a⟩ := h
  refine ⟨M, H0, δ, r', R, e, ?_⟩
  cases r' with
  | ok d => exact fun H1 x1 v hv => ⟨v, rfl, a H1 x1 v hv⟩
  | ex c => exact a
theorem de_b1 {f : D → Option D} (hc : CallR X (.builtin id) (rL1 (rD1 X.K T f))) (hg : Gl X x) (hm : X.mg x = none) (hv : bootBuiltins x = some (.builtin id)) (ha : PE X e (tD X.K T cm E A)) (hn : x ≠ "__name__" := by decide) (hdb : (x == ("__debug__" : Str)) = false := by decide)
    (he : starEach (e :: []) X.env = (false, eval e X.env) :: starEach [] X.env := by rfl) (hpl : (backTo pos (starEach [] X.env)).any (·.1) = false := by rfl) : PE X (.Call (.Name x p) (e :: []) [] pos) (tD X.K T cm E (x1 f A)) :=
  PEimp (pe_callB hc hg hm hv (pa_cons ha pa_nil he) hn hdb he hpl) fun σ H Q h => arg1 (one_imp (fun _ _ _ z => z) h)
theorem de_t1 {f : D → Option D} (hc : CallR X (.type id) (rL1 (rD1 X.K T f))) (hg : Gl X x) (hm : X.mg x = none) (hv : bootBuiltins x = some (.type id)) (ha : PE X e (tD X.K T cm E A)) (hn : x ≠ "__name__" := by decide) (hdb : (x == ("__debug__" : Str)) = false := by decide)
    (he : starEach (e :: []) X.env = (false, eval e X.env) :: starEach [] X.env := by rfl) (hpl : (backTo pos (starEach [] X.env)).any (·.1) = false := by rfl) : PE X (.Call (.Name x p) (e :: []) [] pos) (tD X.K T cm E (x1 f A)) :=
  PEimp (pe_callTy hc hg hm hv (pa_cons ha pa_nil he) hn hdb he hpl) fun σ H Q h => arg1 (one_imp (fun _ _ _ z => z) h)
theorem df_t1 {f : D → Option (List D)} (hc : CallR X (.type id) (rL1 (rF1 X.K T f))) (hg : Gl X x) (hm : X.mg x = none) (hv : bootBuiltins x = some (.type id)) (ha : PE X e (tD X.K T cm E A)) (hn : x ≠ "__name__" := by decide) (hdb : (x == ("__debug__" : Str)) = false := by decide)
    (he : starEach (e :: []) X.env = (false, eval e X.env) :: starEach [] X.env := by rfl) (hpl : (backTo pos (starEach [] X.env)).any (·.1) = false := by rfl) : PE X (.Call (.Name x p) (e :: []) [] pos) (tF X.K T cm E (xF1 f A)) :=
  PEimp (pe_callTy hc hg hm hv (pa_cons ha pa_nil he) hn hdb he hpl) fun σ H Q h => arg1 (fr1_imp (fun _ _ _ z => z) h)
theorem df_b1 {f : D → Option (List D)} (hc : CallR X (.builtin id) (rL1 (rF1 X.K T f))) (hg : Gl X x) (hm : X.mg x = none) (hv : bootBuiltins x = some (.builtin id)) (ha : PE X e (tD X.K T cm E A)) (hn : x ≠ "__name__" := by decide) (hdb : (x == ("__debug__" : Str)) = false := by decide)
    (he : starEach (e :: []) X.env = (false, eval e X.env) :: starEach [] X.env := by rfl) (hpl : (backTo pos (starEach [] X.env)).any (·.1) = false := by rfl) : PE X (.Call (.Name x p) (e :: []) [] pos) (tF X.K T cm E (xF1 f A)) :=
  PEimp (pe_callB hc hg hm hv (pa_cons ha pa_nil he) hn hdb he hpl) fun σ H Q h => arg1 (fr1_imp (fun _ _ _ z => z) h)
theorem de_b2 {f : D → D → Option D} (hc : CallR X (.builtin id) (rL2 (rD2 X.K T f))) (hg : Gl X x) (hm : X.mg x = none) (hv : bootBuiltins x = some (.builtin id)) (ha : PE X a (tD X.K T cm E A)) (hb : PE X b (tD X.K T cm E B)) (hn : x ≠ "__name__" := by decide) (hdb : (x == ("__debug__" : Str)) = false := by decide)
    (he : starEach (a :: [b]) X.env = (false, eval a X.env) :: starEach [b] X.env := by rfl) (he2 : starEach (b :: []) X.env = (false, eval b X.env) :: starEach [] X.env := by rfl) (hpl : (backTo pos (starEach [b] X.env)).any (·.1) = false := by rfl) : PE X (.Call (.Name x p) (a :: [b]) [] pos) (tD X.K T cm E (x2 f A B)) :=
  PEimp (pe_callB hc hg hm hv (pa_cons ha (pa_cons hb pa_nil he2) he) hn hdb he hpl) fun σ H Q h => by
    have z := two_imp (X := X) (cm := cm) (E := E) (r := rD2 X.K T f) (fun _ _ _ _ z => z) h
    obtain ⟨M, H0, δ, r', R, e, a⟩ := z
    refine ⟨M, H0, δ, r', R, e, ?_⟩
    cases r' with
    | ok d =>
      refine fun H1 x1 v hv => ?_
      obtain ⟨M2, H02, δ2, r2, R2, e2, a2⟩ := a H1 x1 v hv
      refine ⟨M2, H02, δ2, r2, R2, e2, ?_⟩
      cases r2 with
      | ok d => exact fun H2 x2 u hu => ⟨v, u, rfl, a2 H2 x2 u hu⟩
      | ex c => exact a2
    | ex c => exact a
/-- isinstance(e, T) -/
theorem de_isi (t : Ty) {y : Str} {p2 : Pos} (hg : Gl X "isinstance") (hm : X.mg "isinstance" = none) (hg2 : Gl X y) (hm2 : X.mg y = none) (hv2 : bootBuiltins y = some (.type (tyN t))) (ha : PE X e (tD X.K T cm E A)) (hn : y ≠ "__name__" := by decide) (hdb : (y == ("__debug__" : Str)) = false := by decide)
    (he : starEach (e :: [.Name y p2]) X.env = (false, eval e X.env) :: starEach [.Name y p2] X.env := by rfl) : PE X (.Call (.Name "isinstance" p) (e :: [.Name y p2]) [] pos) (tD X.K T cm E (x1 (isiD t) A)) :=
  PEimp (pe_callB call_isi hg hm (by decide +kernel) (pa_cons ha (pa_cons (pe_bltn (v := .ty (tyN t)) hg2 hm2 hv2 rfl hn hdb) pa_nil) he) (by decide) (by decide) he) fun σ H Q h => by
    obtain ⟨M, H0, δ, r', R, e, a⟩ := one_imp (X := X) (cm := cm) (E := E) (r := rD1 X.K T (isiD t)) (fun _ _ _ z => z) h
    refine ⟨M, H0, δ, r', R, e, ?_⟩
    cases r' with
    | ok d => exact fun H1 x1 v hv => call_isiD t (a H1 x1 v hv)
    | ex c => exact a
/-! ### items, slices -/
theorem de_ix (ha : PE X a (tD X.K T cm E A)) (hb : PE X b (tD X.K T cm E B)) (hs : PlainIx b) : PE X (.Subscript a b pos) (tD X.K T cm E (x2 ixD A B)) :=
  PEimp (pe_ix ix_D ha hb hs) fun σ H Q h => two_imp (fun _ _ _ _ z => z) h
variable {lo hi : Option Expr} {Lo Hi : XO}
theorem dpo_none : PO X none (tP X.K T cm E xNoPart) := POimp po_none fun σ H Q h => by
  obtain ⟨M, H0, δ, r, R, e, a⟩ := h
  cases e
  exact a H (Ext.refl T H)
theorem dpo_some (h : PE X e (tD X.K T cm E A)) : PO X (some e) (tP X.K T cm E (xPart A)) := POimp (po_some h) fun σ H Q h => by
  obtain ⟨M, H0, δ, r, R, e, a⟩ := h
  rcases bnd_of e with ⟨x, ex, e⟩ | ⟨c, ex, rfl⟩
  · refine ⟨M, H0, δ, .ok x, R, ex, fun H1 x1 v hv => ?_⟩
    cases x with
    | int i =>
      cases hv
      cases e
      exact ⟨i, rfl, a H1 x1⟩
    | _ => cases e
  · exact ⟨M, H0, δ, .ex c, R, ex, a⟩
theorem de_slice {p2 : Pos} (he : PE X e (tD X.K T cm E A)) (hl : PO X lo (tP X.K T cm E Lo)) (hu : PO X hi (tP X.K T cm E Hi)) : PE X (.Subscript e (.Slice lo hi none p2) pos) (tD X.K T cm E (xSlice A Lo Hi)) :=
  PEimp (pe_slice sl_D he hl hu) fun σ H Q h => by
    obtain ⟨M, H0, δ, r, R, e, a⟩ := h
    rcases bnd_of e with ⟨x, ex, e⟩ | ⟨c, ex, rfl⟩
    · refine ⟨M, H0, δ, .ok x, R, ex, fun H1 x1 v hv => ?_⟩
      rcases bnd_of e with ⟨y, ey, e⟩ | ⟨c, ey, rfl⟩
      · refine ⟨M, H0, δ, .ok y, R.grow x1, ey, fun H2 x2 => ?_⟩
        rcases bnd_of e with ⟨z, ez, e⟩ | ⟨c, ez, rfl⟩
        · refine ⟨M, H0, δ, .ok z, (R.grow x1).grow x2, ez, fun H3 x3 => ?_⟩
          cases q : sliceD x y z with
          | none => rw [q] at e; cases e
          | some d =>
            rw [q] at e
            cases e
            exact ⟨MM M σ δ, x, d, (((R.grow x1).grow x2).grow x3).msk, (x2.trans x3).dv hv, q, fun w H4 x4 hw => a H4 (x1.trans (x2.trans (x3.trans x4))) w hw⟩
        · exact ⟨M, H0, δ, .ex c, (R.grow x1).grow x2, ez, (a.grow x1).grow x2⟩
      · exact ⟨M, H0, δ, .ex c, R.grow x1, ey, a.grow x1⟩
    · exact ⟨M, H0, δ, .ex c, R, ex, a⟩
/-- e[::-1], a list -/
theorem df_rev {k : Nat} {p1 p2 p3 : Pos} (he : PE X e (tD X.K T cm E A)) : PE X (.Subscript e (.Slice none none (some (.UnaryOp .USub (.Constant (.int 1) k p1) p2)) p3) pos) (tF X.K T cm E (xF1 revD A)) :=
  PEimp (pe_revL he) fun σ H Q h => fr1_imp (r := fun x H1 Q => ∃ a xs, x = .ref a ∧ SqL X.K H1 a xs ∧ ∀ p, H1 p = none → Q (.ref p) (upd H1 p (.lst xs.reverse))) (fun x H Q z => by
    obtain ⟨M, dx, ds, m, hx, e, q⟩ := z
    cases hx with
    | @lst a xs es ha hes =>
      cases e
      exact ⟨a, xs, rfl, (sl_un ha), fun p hp => q p _ _ (Ext.fresh _ hp) (.of hp) upd_same (fresh_all hp (dpAll_rev hes))⟩
    | _ => cases e) h
/-! ### a def called -/
def spD (K : PySem.W.Frag) (T : List (Addr × Str)) (cm : Nat → Value) (n : Nat) (F : List D → Pr D) : Sp := fun vs H Q E => ∃ M ds r, Msk M H ∧ Tabs T H ∧ DvAll K (mask H M) vs ds ∧ vs.length = n ∧ F ds = some r ∧ Ans T cm E H r fun d H' => ∀ v, Dv K (mask H' M) v d → Q v H'
variable {k : Nat} {f : Addr} {fd : FuncData} {ps : List Str} {n : Nat} {F : List D → Pr D}
theorem takesN0 {X : Cx} : L2N.Takes X (fun _ _ _ _ => False) := fun _ _ x => by
  obtain ⟨_, _, _, _, _, _, _, _, _, _, _, _, _, _, _, _, z⟩ := x
  exact z.elim
theorem call_imp {σ : St} {H : Hp} {Q : VK} (hl : ∀ vs H Q E, spD X.K T cm n F vs H Q E → vs.length = ps.length) (hn : ps.length = n) (hL : ∀ δ ds, L δ = some (.ok ds) → ds.length = n) (h : tD X.K T cm E (xCall F L) σ H Q) : tCall (spD X.K T cm n F) [] E (tL X.K T cm E L) σ H Q := by
  obtain ⟨M, H0, δ, r, R, e, a⟩ := h
  rcases bnd_of e with ⟨x, ex, e⟩ | ⟨c, ex, rfl⟩
  · refine ⟨M, H0, δ, .ok x, R, ex, fun H1 x1 vs hv => ?_⟩
    show spD X.K T cm n F (vs ++ []) H1 Q E
    rw [List.append_nil]
    exact ⟨MM M σ δ, x, r, (R.grow x1).msk, (R.grow x1).tab, hv, by rw [dpAll_len hv]; exact hL δ x ex, e, a.grow x1⟩
  · exact ⟨M, H0, δ, .ex c, R, ex, a⟩
/-- the number of arguments -/
def xLen (L : XL) (n : Nat) : Prop := ∀ δ ds, L δ = some (.ok ds) → ds.length = n
theorem xlen_nil : xLen xNil 0 := fun δ ds e => by cases e; rfl
theorem xlen_cons {A : XE} {L : XL} {n : Nat} (h : xLen L n) : xLen (xCons A L) (n + 1) := fun δ ds e => by
  rcases bnd_of e with ⟨x, ex, e⟩ | ⟨c, ex, z⟩
  · rcases bnd_of e with ⟨y, ey, e⟩ | ⟨c, ey, z⟩
    · cases e
      simp [h δ y ey]
    · cases z
  · cases z
theorem de_call (G : FnOk X.prog X.w X.K X.mg X.base (L2N.CX X.prog X.w) k f fd ps (spD X.K T cm n F)) (hn : ps.length = n) (hr : Room k X.A) (hg : Gl X x) (hm : X.mg x = some (.ref f)) (hk : PySem.W.keepIn X.K (.ref f) = true) (hb : Binds X.K fd ps [])
    (tk : L2N.Takes X (fun c d _ H => E c d H)) (ha : PA X (e :: es) (tL X.K T cm E L)) (hL : xLen L n) (hdb : (x == ("__debug__" : Str)) = false := by decide) (he : starEach (e :: es) X.env = (false, eval e X.env) :: starEach es X.env := by rfl) (hpl : (backTo pos (starEach es X.env)).any (·.1) = false := by rfl) :
    PE X (.Call (.Name x p) (e :: es) [] pos) (tD X.K T cm E (xCall F L)) :=
  PEimp (pe_call (E := E) G hr hg hm hk hb .nil (L2N.passes_call tk fun _ _ _ _ z => z) ha hdb he hpl) fun σ H Q h => call_imp (ps := ps) G.len hn hL h
end
end DL
set_option Elab.async false
set_option linter.all false
set_option maxRecDepth 100000
set_option maxHeartbeats 4000000
set_option autoImplicit false
namespace DL
open PySem L2
open LamX (ExtN Tabs TabS CodeO)
/-! ### what is walked -/
/-- J yields the data ds, one by one, whatever else changes in a heap that has grown out of H0 -/
def ItOk (K : PySem.W.Frag) (T : List (Addr × Str)) (M : Addr → Prop) (H0 : Hp) (J : It) (ds : List D) : Prop := ∀ (i : Nat) (H2 : Hp) (M2 : Addr → Prop), Ext T H0 H2 → Msk M2 H2 → (∀ a, M2 a → M a ∨ Fr H0 a) →
  (i < ds.length → J.go i H2 ∧ ∀ x H3, J.yld i H2 x H3 → Ext T H2 H3 ∧ ∃ d, ds[i]? = some d ∧ Dv K (mask H3 M2) x d) ∧ (i = ds.length → J.stop i H2)
def tI (K : PySem.W.Frag) (T : List (Addr × Str)) (cm : Nat → Value) (E : XK) (f : XL) : TI := fun σ H R =>
  ∃ M H0 δ r, Rp K T M H0 σ H δ ∧ f δ = some r ∧ Ans T cm E H r fun ds H' => ∀ J, ds.length ≤ sz → ItOk K T M (mask H' (MM M σ δ)) J ds → R J H'
/-- all lists and tuples that can be read are within the line -/
def Lens (K : PySem.W.Frag) (H : Hp) : Prop := ∀ a xs, SqL K H a xs ∨ SqT K H a xs → xs.length ≤ sz
section
variable {X : Cx} {T : List (Addr × Str)} {cm : Nat → Value} {E : XK} {A B C : XE} {a b c e tg iter : Expr} {pos p : Pos}
theorem lens_of {pins : List (Addr × Obj)} {σ : St} {H : Hp} {s : Shared} (I : Inv X pins σ H s) : Lens X.K H := fun a xs h => by
  rw [szLine]
  rcases h with h | h
  · obtain ⟨_, _, _, z⟩ := I.list h
    exact z
  · obtain ⟨_, _, _, z⟩ := I.tuple h
    exact z
theorem PIlens {wi : TI} (h : PI X tg iter wi) : PI X tg iter (fun σ H R => wi σ H fun J H' => Lens X.K H' → R J H') := ⟨fun pins s σ H R I hw => by
  refine thn (h.run pins s σ H _ I hw) fun v s1 h1 => thn h1 fun itv s2 h2 => ?_
  obtain ⟨it, fp, tn, J, H', e, I2, Tn, st, hf, q⟩ := h2
  exact ⟨it, fp, tn, J, H', e, I2, Tn, st, hf, q (lens_of I2)⟩⟩
theorem PIimp {t t' : TI} (h : PI X tg iter t) (w : ∀ σ H Q, t' σ H Q → t σ H Q) : PI X tg iter t' := ⟨fun pins s σ H Q I q => h.run pins s σ H Q I (w σ H Q q)⟩
theorem mask2 {H : Hp} {M : Addr → Prop} {σ : St} {δ : DE} : ExtN (mask H (MM M σ δ)) (mask (mask H (MM M σ δ)) M) := fun a o e n => by
  obtain ⟨na, e'⟩ := of_mask e
  rw [mask_out (fun z => na (.inl z)), mask_out na]
  exact e'
theorem seen {K : PySem.W.Frag} {M M2 : Addr → Prop} {H0 H2 : Hp} (x : Ext T H0 H2) (h : ∀ a, M2 a → M a ∨ Fr H0 a) : ExtN (mask H0 M) (mask H2 M2) := fun a o e n => by
  obtain ⟨na, e'⟩ := of_mask e
  rw [mask_out (fun z => (h a z).elim na fun f => f o e' n)]
  exact x.keep a o e' n
theorem it_list {K : PySem.W.Frag} {M : Addr → Prop} {H0 : Hp} {l : Addr} {xs : List V} {ds : List D} (h : SqL K (mask H0 M) l xs) (hd : DvAll K (mask H0 M) xs ds) : ItOk K T M H0 (Itl K l) ds := fun i H2 M2 x m hm => by
  have z := seen (K := K) x hm
  have hq : SqL K H2 l xs := (sl_un (sqL_ext z h))
  have hl := dpAll_len hd
  refine ⟨fun hi => ?_, fun hi => ⟨xs, hq, by omega⟩⟩
  have hi' : i < xs.length := by omega
  obtain ⟨d, e1, e2⟩ := dpAll_get hd (List.getElem?_eq_getElem hi')
  refine ⟨⟨xs, xs[i], hq, List.getElem?_eq_getElem hi'⟩, fun y H3 hy => ?_⟩
  obtain ⟨rfl, hy⟩ := hy
  have := hy xs hq
  rw [List.getElem?_eq_getElem hi'] at this
  cases this
  exact ⟨Ext.refl T _, d, e1, dp_ext z e2⟩
theorem it_tup {K : PySem.W.Frag} {M : Addr → Prop} {H0 : Hp} {l : Addr} {xs : List V} {ds : List D} (h : SqT K (mask H0 M) l xs) (hd : DvAll K (mask H0 M) xs ds) : ItOk K T M H0 (Itt K l) ds := fun i H2 M2 x m hm => by
  have z := seen (K := K) x hm
  have hq : SqT K H2 l xs := st_un (sqT_ext z h)
  have hl := dpAll_len hd
  refine ⟨fun hi => ?_, fun hi => ⟨xs, hq, by omega⟩⟩
  have hi' : i < xs.length := by omega
  obtain ⟨d, e1, e2⟩ := dpAll_get hd (List.getElem?_eq_getElem hi')
  refine ⟨⟨xs, xs[i], hq, List.getElem?_eq_getElem hi'⟩, fun y H3 hy => ?_⟩
  obtain ⟨rfl, hy⟩ := hy
  have := hy xs hq
  rw [List.getElem?_eq_getElem hi'] at this
  cases this
  exact ⟨Ext.refl T _, d, e1, dp_ext z e2⟩
theorem di_list (hl : PE X iter (tD X.K T cm E A)) : PI X tg iter (tI X.K T cm E (xIter A)) := by
  refine ⟨fun pins s σ H R I h => ?_⟩
  obtain ⟨M, H0, δ, r, Rr, e, a⟩ := h
  rcases bnd_of e with ⟨x, ex, e⟩ | ⟨c, ex, rfl⟩
  · cases x with
    | list ds =>
      cases e
      refine (PIlens (pi_list (tg := tg) hl)).run pins s σ H R I ⟨M, H0, δ, .ok _, Rr, ex, fun H1 x1 v hv => ?_⟩
      cases hv with
      | @lst l xs _ ha hds =>
        refine ⟨l, rfl, ⟨xs, (sl_un ha)⟩, fun ln => a H1 x1 _ ?_ (it_list (sqL_ext mask2 ha) (dpAll_ext mask2 hds))⟩
        rw [← dpAll_len hds]
        exact ln l xs (.inl (sl_un ha))
    | tuple ds =>
      cases e
      refine (PIlens (pi_tup (tg := tg) hl)).run pins s σ H R I ⟨M, H0, δ, .ok _, Rr, ex, fun H1 x1 v hv => ?_⟩
      cases hv with
      | @tup l xs _ ha hds =>
        refine ⟨l, rfl, ⟨xs, st_un ha⟩, fun ln => a H1 x1 _ ?_ (it_tup (sqT_ext mask2 ha) (dpAll_ext mask2 hds))⟩
        rw [← dpAll_len hds]
        exact ln l xs (.inr (st_un ha))
    | _ => cases e
  · exact (pi_list (tg := tg) hl).run pins s σ H R I ⟨M, H0, δ, .ex c, Rr, ex, a⟩
theorem rangeL_get {lo : Int} {n i : Nat} (h : i < n) : ((List.range n).map fun (i : Nat) => PyData.int (lo + (i : Int)))[i]? = some (.int (lo + i)) := by
  rw [List.getElem?_map, List.getElem?_range h]
  rfl
theorem it_range {K : PySem.W.Frag} {M : Addr → Prop} {H0 : Hp} {lo hi : Int} : ItOk K T M H0 (Itr lo (hi - lo).toNat) (rangeL lo hi) := fun i H2 M2 x m hm => by
  unfold rangeL
  rw [List.length_map, List.length_range]
  refine ⟨fun h => ⟨h, fun y H3 hy => ?_⟩, fun h => Nat.le_of_eq h.symm⟩
  obtain ⟨rfl, rfl⟩ := hy
  exact ⟨Ext.refl T _, _, rangeL_get h, .int _⟩
theorem rangeL_len (lo hi : Int) : (rangeL lo hi).length = (hi - lo).toNat := by unfold rangeL; rw [List.length_map, List.length_range]
theorem di_range1 (hg : Gl X "range") (hm : X.mg "range" = none) (ha : PE X a (tD X.K T cm E A)) (hs : starEach [a] X.env = [(false, eval a X.env)] := by rfl) : PI X tg (.Call (.Name "range" p) [a] [] pos) (tI X.K T cm E (xRange1 A)) :=
  PIimp (pi_range1 hg hm (pa_cons ha pa_nil hs) hs) fun σ H R h => by
    obtain ⟨M, H0, δ, r, Rr, e, a⟩ := h
    rcases bnd_of e with ⟨x, ex, e⟩ | ⟨c, ex, rfl⟩
    · refine ⟨M, H0, δ, .ok x, Rr, ex, fun H1 x1 v hv => ?_⟩
      cases x with
      | int i =>
        cases hv
        have e : lift (rangeD 0 i) = some r := e
        unfold rangeD at e
        split at e
        · rename_i hz
          cases e
          refine ⟨i, rfl, hz.2.2.1, hz.2.2.2.1, a H1 x1 _ ?_ ?_⟩
          · rw [rangeL_len]; exact hz.2.2.2.2
          · have := it_range (K := X.K) (T := T) (M := M) (H0 := mask H1 (MM M σ δ)) (lo := 0) (hi := i)
            rw [Int.sub_zero] at this
            exact this
        · cases e
      | _ => cases e
    · exact ⟨M, H0, δ, .ex c, Rr, ex, a⟩
theorem di_range2 (hg : Gl X "range") (hm : X.mg "range" = none) (ha : PE X a (tD X.K T cm E A)) (hb : PE X b (tD X.K T cm E B)) (hs : starEach [a, b] X.env = [(false, eval a X.env), (false, eval b X.env)] := by rfl) (hs2 : starEach [b] X.env = [(false, eval b X.env)] := by rfl) : PI X tg (.Call (.Name "range" p) [a, b] [] pos) (tI X.K T cm E (xRange2 A B)) :=
  PIimp (pi_range2 hg hm (pa_cons ha (pa_cons hb pa_nil hs2) (by rw [hs, hs2])) hs hs2) fun σ H R h => by
    obtain ⟨M, H0, δ, r, Rr, e, a⟩ := h
    rcases bnd_of e with ⟨x, ex, e⟩ | ⟨c, ex, rfl⟩
    · refine ⟨M, H0, δ, .ok x, Rr, ex, fun H1 x1 v hv => ?_⟩
      rcases bnd_of e with ⟨y, ey, e⟩ | ⟨c, ey, rfl⟩
      · refine ⟨M, H0, δ, .ok y, Rr.grow x1, ey, fun H2 x2 u hu => ?_⟩
        cases x with
        | int i =>
          cases y with
          | int j =>
            cases hv
            cases hu
            have e : lift (rangeD i j) = some r := e
            unfold rangeD at e
            split at e
            · rename_i hz
              cases e
              refine ⟨i, j, rfl, ⟨hz.1, hz.2.1, hz.2.2.1, hz.2.2.2.1⟩, a H2 (x1.trans x2) _ ?_ it_range⟩
              rw [rangeL_len]; exact hz.2.2.2.2
            · cases e
          | _ => cases e
        | _ => cases e
      · exact ⟨M, H0, δ, .ex c, Rr.grow x1, ey, a.grow x1⟩
    · exact ⟨M, H0, δ, .ex c, Rr, ex, a⟩
/-- range(a, b, -1) -/
theorem di_down {k : Nat} {p1 p2 : Pos} (hg : Gl X "range") (hm : X.mg "range" = none) (ha : PE X a (tD X.K T cm E A)) (hb : PE X b (tD X.K T cm E B))
    (hs : starEach [a, b, .UnaryOp .USub (.Constant (.int 1) k p1) p2] X.env = (false, eval a X.env) :: starEach [b, .UnaryOp .USub (.Constant (.int 1) k p1) p2] X.env := by rfl) (hs2 : starEach [b, .UnaryOp .USub (.Constant (.int 1) k p1) p2] X.env = (false, eval b X.env) :: starEach [.UnaryOp .USub (.Constant (.int 1) k p1) p2] X.env := by rfl)
    (hpl : (backTo pos (starEach [b, .UnaryOp .USub (.Constant (.int 1) k p1) p2] X.env)).any (·.1) = false := by rfl) :
    PI X tg (.Call (.Name "range" p) [a, b, .UnaryOp .USub (.Constant (.int 1) k p1) p2] [] pos) (tI X.K T cm E (xRangeD A B)) :=
  PIimp (pi_range3 hg hm (pa_cons ha (pa_cons hb (pa_cons (pe_un un_neg pe_int) pa_nil) hs2) hs) hs hpl) fun σ H R h => by
    obtain ⟨M, H0, δ, r, Rr, e, a⟩ := h
    rcases bnd_of e with ⟨x, ex, e⟩ | ⟨c, ex, rfl⟩
    · refine ⟨M, H0, δ, .ok x, Rr, ex, fun H1 x1 v hv => ?_⟩
      rcases bnd_of e with ⟨y, ey, e⟩ | ⟨c, ey, rfl⟩
      · refine ⟨M, H0, δ, .ok y, Rr.grow x1, ey, fun H2 x2 u hu => ?_⟩
        cases x with
        | int i =>
          cases y with
          | int j =>
            cases hv
            cases hu
            have e : lift (rangeDown i j) = some r := e
            unfold rangeDown at e
            split at e
            · rename_i hz
              cases e
              refine ⟨1, rfl, i, j, -1, (i - j).toNat, rfl, RgC.neg hz.1 hz.2.1 hz.2.2.1 hz.2.2.2.1, a H2 (x1.trans x2) _ ?_ fun n H3 M3 x3 m3 hm3 => ?_⟩
              · rw [List.length_map, List.length_range]; exact hz.2.2.2.2
              · rw [List.length_map, List.length_range]
                refine ⟨fun h => ⟨h, fun z H4 hz4 => ?_⟩, fun h => Nat.le_of_eq h.symm⟩
                obtain ⟨rfl, rfl⟩ := hz4
                refine ⟨Ext.refl T _, .int (i - n), ?_, ?_⟩
                · rw [List.getElem?_map, List.getElem?_range h]; rfl
                · rw [show i + (n : Int) * -1 = i - n by omega]; exact .int _
            · cases e
          | _ => cases e
        | _ => cases e
      · exact ⟨M, H0, δ, .ex c, Rr.grow x1, ey, a.grow x1⟩
    · exact ⟨M, H0, δ, .ex c, Rr, ex, a⟩
/-- a new pair -/
theorem dv_pair {K : PySem.W.Frag} {M2 : Addr → Prop} {H2 : Hp} {q : Addr} {x y : V} {dx dy : D} (m : Msk M2 H2) (hq : H2 q = none) (hx : Dv K (mask H2 M2) x dx) (hy : Dv K (mask H2 M2) y dy) : Dv K (mask (upd H2 q (.tup [x, y])) M2) (.ref q) (.tuple [dx, dy]) :=
  dv_newT m hq (.cons hx (.cons hy .nil))
theorem enumL_get {ds : List D} {i : Nat} {d : D} (h : ds[i]? = some d) : (enumL ds)[i]? = some (.tuple [.int i, d]) := by
  have hi := (List.getElem?_eq_some_iff.mp h).1
  unfold enumL
  rw [List.getElem?_zipWith, List.getElem?_range hi, h]
theorem enumL_len (ds : List D) : (enumL ds).length = ds.length := by unfold enumL; rw [List.length_zipWith, List.length_range]; omega
theorem it_enum {K : PySem.W.Frag} {M : Addr → Prop} {H0 : Hp} {l : Addr} {xs : List V} {ds : List D} (h : SqL K (mask H0 M) l xs) (hd : DvAll K (mask H0 M) xs ds) : ItOk K T M H0 (Ite K l) (enumL ds) := fun i H2 M2 x m hm => by
  have z := seen (K := K) x hm
  have hq : SqL K H2 l xs := (sl_un (sqL_ext z h))
  have hl := dpAll_len hd
  rw [enumL_len]
  refine ⟨fun hi => ?_, fun hi => ⟨xs, hq, by omega⟩⟩
  have hi' : i < xs.length := by omega
  obtain ⟨d, e1, e2⟩ := dpAll_get hd (List.getElem?_eq_getElem hi')
  refine ⟨⟨xs, xs[i], hq, List.getElem?_eq_getElem hi'⟩, fun y H3 hy => ?_⟩
  obtain ⟨q, w, rfl, hn, rfl, hy⟩ := hy
  have := hy xs hq
  rw [List.getElem?_eq_getElem hi'] at this
  cases this
  exact ⟨Ext.fresh _ hn, _, enumL_get e1, dv_pair m hn (.int _) (dp_ext z e2)⟩
theorem it_enumT {K : PySem.W.Frag} {M : Addr → Prop} {H0 : Hp} {l : Addr} {xs : List V} {ds : List D} (h : SqT K (mask H0 M) l xs) (hd : DvAll K (mask H0 M) xs ds) : ItOk K T M H0 (IteT K l) (enumL ds) := fun i H2 M2 x m hm => by
  have z := seen (K := K) x hm
  have hq : SqT K H2 l xs := st_un (sqT_ext z h)
  have hl := dpAll_len hd
  rw [enumL_len]
  refine ⟨fun hi => ?_, fun hi => ⟨xs, hq, by omega⟩⟩
  have hi' : i < xs.length := by omega
  obtain ⟨d, e1, e2⟩ := dpAll_get hd (List.getElem?_eq_getElem hi')
  refine ⟨⟨xs, xs[i], hq, List.getElem?_eq_getElem hi'⟩, fun y H3 hy => ?_⟩
  obtain ⟨q, w, rfl, hn, rfl, hy⟩ := hy
  have := hy xs hq
  rw [List.getElem?_eq_getElem hi'] at this
  cases this
  exact ⟨Ext.fresh _ hn, _, enumL_get e1, dv_pair m hn (.int _) (dp_ext z e2)⟩
theorem di_enum {es : List Expr} {kk : Nat} {tpos : Pos} (hg : Gl X "enumerate") (hm : X.mg "enumerate" = none) (ha : PE X e (tD X.K T cm E A)) (hs : starEach [e] X.env = [(false, eval e X.env)] := by rfl) :
    PI X (.Tuple es kk tpos) (.Call (.Name "enumerate" p) [e] [] pos) (tI X.K T cm E (xEnum A)) := by
  refine ⟨fun pins s σ H R I h => ?_⟩
  obtain ⟨M, H0, δ, r, Rr, e, a⟩ := h
  rcases bnd_of e with ⟨x, ex, e⟩ | ⟨c, ex, rfl⟩
  · cases x with
    | list ds =>
      cases e
      refine (PIlens (pi_enum hg hm (pa_cons ha pa_nil hs) hs)).run pins s σ H R I ⟨M, H0, δ, .ok _, Rr, ex, fun H1 x1 v hv => ?_⟩
      cases hv with
      | @lst l xs _ hl hds =>
        refine ⟨l, xs, rfl, (sl_un hl), fun ln => a H1 x1 _ ?_ (it_enum (sqL_ext mask2 hl) (dpAll_ext mask2 hds))⟩
        rw [enumL_len, ← dpAll_len hds]
        exact ln l xs (.inl (sl_un hl))
    | tuple ds =>
      cases e
      refine (PIlens (pi_enumT hg hm (pa_cons ha pa_nil hs) hs)).run pins s σ H R I ⟨M, H0, δ, .ok _, Rr, ex, fun H1 x1 v hv => ?_⟩
      cases hv with
      | @tup l xs _ hl hds =>
        refine ⟨l, xs, rfl, st_un hl, fun ln => a H1 x1 _ ?_ (it_enumT (sqT_ext mask2 hl) (dpAll_ext mask2 hds))⟩
        rw [enumL_len, ← dpAll_len hds]
        exact ln l xs (.inr (st_un hl))
    | _ => cases e
  · exact (pi_enum hg hm (pa_cons ha pa_nil hs) hs).run pins s σ H R I ⟨M, H0, δ, .ex c, Rr, ex, a⟩
theorem zipL_get {ds es : List D} {i : Nat} {d e : D} (h : ds[i]? = some d) (h' : es[i]? = some e) : (zipL ds es)[i]? = some (.tuple [d, e]) := by
  unfold zipL
  rw [List.getElem?_zipWith, h, h']
theorem zipL_len (ds es : List D) : (zipL ds es).length = min ds.length es.length := by unfold zipL; rw [List.length_zipWith]
end
end DL
set_option Elab.async false
set_option linter.all false
set_option maxRecDepth 100000
set_option maxHeartbeats 4000000
set_option autoImplicit false
/-! zip of a list with a tuple -/
namespace DL
open PySem PySem.Spec L2
open PyProof.Rows (Call_)
/-- one of the two that a zip walks: its iterator at a place, what it walks, and how it goes on -/
structure Src (prog : Program) (w : World) (it l : Addr) (xs : Array Value) (At : Nat → Heap → Prop) (Co : Heap → Prop) : Prop where
  atK : ∀ {k h h'}, At k h → (∀ o, h.get? it = some o → h'.get? it = some o) → At k h'
  coK : ∀ {h h'}, Co h → (∀ o, h.get? l = some o → h'.get? l = some o) → Co h'
  obj : ∀ {k h}, At k h → ∃ o, h.get? it = some o ∧ ∀ v, o.data ≠ .cell v
  item : ∀ {A : Around} {E : Value → Shared → Prop} {Q : Value → Shared → Prop} {s : Shared} {k : Nat} {x : Value}, At k s.heap → Co s.heap → xs[k]? = some x →
    (∀ h', At (k + 1) h' → Heap.SameBut it s.heap h' → Q x { s with heap := h' }) → wpAny (model prog w) A (Builtin.SmallTypes.nextOf (.ref it)) Q E s
  stop : ∀ {A : Around} {E : Value → Shared → Prop} {Q : Value → Shared → Prop} {s : Shared} {k : Nat}, A.handled = none → At k s.heap → Co s.heap → xs[k]? = none →
    (∀ h' e, Heap.ExtBut it s.heap h' → (∃ o, h'.get? e = some o ∧ o.cls = .type "StopIteration") → E (.ref e) { s with heap := h' }) → wpAny (model prog w) A (Builtin.SmallTypes.nextOf (.ref it)) Q E s
theorem srcL {prog : Program} {w : World} (it l : Addr) (xs : Array Value) : Src prog w it l xs (fun k h => h.IsListIter it l k) (fun h => h.IsList l xs) where
  atK := fun a e => a.at e
  coK := fun a e => a.at e
  obj := fun a => by obtain ⟨o, h1, _, d⟩ := a; exact ⟨o, h1, fun v q => by rw [d] at q; cases q⟩
  item := fun a c hx q => wpAny_nextOf_list_item a c hx q
  stop := fun hh a c hx q => wpAny_nextOf_list_end hh a c hx q
theorem srcT {prog : Program} {w : World} (it l : Addr) (xs : Array Value) : Src prog w it l xs (fun k h => h.IsTupleIter it l k) (fun h => h.IsTuple l xs) where
  atK := fun a e => a.at e
  coK := fun a e => a.at e
  obj := fun a => by obtain ⟨o, h1, _, d⟩ := a; exact ⟨o, h1, fun v q => by rw [d] at q; cases q⟩
  item := fun a c hx q => RZ.nextOf_tuple_item a c hx q
  stop := fun hh a c hx q => RZ.nextOf_tuple_end hh a c hx q
section
variable {prog : Program} {w : World} {A : Around} {E : Value → Shared → Prop} {s : Shared} {z TI TO i1 i2 l1 l2 : Addr} {xs ys : Array Value} {At1 At2 : Nat → Heap → Prop} {Co1 Co2 : Heap → Prop}
theorem znext_item {k1 k2 : Nat} {x y a b : Value} {Q : Value → Shared → Prop} (S1 : Src prog w i1 l1 xs At1 Co1) (S2 : Src prog w i2 l2 ys At2 Co2) (D : ZipApart z TI TO i1 i2 l1 l2)
    (hz : IsZip s.heap z TI TO .none) (hTI : IsPair s.heap TI (.ref i1) (.ref i2)) (hTO : IsPair s.heap TO a b) (a1 : At1 k1 s.heap) (a2 : At2 k2 s.heap) (c1 : Co1 s.heap) (c2 : Co2 s.heap) (hx : xs[k1]? = some x) (hy : ys[k2]? = some y)
    (hQ : ∀ h', IsZip h' z TI TO (rawInt s.heap.objs.size) → IsPair h' TO x y → At1 (k1 + 1) h' → At2 (k2 + 1) h' → IsPair h' s.heap.objs.size x y →
      (∀ c o, c ≠ z → c ≠ TO → c ≠ i1 → c ≠ i2 → s.heap.get? c = some o → h'.get? c = some o) → Q (.ref s.heap.objs.size) { s with heap := h' }) :
    wpAny (model prog w) A (Builtin.«zip.__next__» ⟨[.ref z], []⟩) (fun fin s' => ∃ v, fin = .done (.ret v) ∧ Q v s') E s := by
  show wpAny _ _ (field (.ref z) 2 >>= _) _ _ _
  refine wpAny_bind (wpAny_field hz rfl (x := .bool false) rfl ?_)
  show wpAny _ _ (field (.ref z) 3 >>= _) _ _ _
  refine wpAny_bind (wpAny_field hz rfl (x := .ref TI) rfl (wpAny_bind (wpAny_seqItems hTI rfl ?_)))
  show wpAny _ _ (Builtin.SmallTypes.ownedTupleIsFree (.ref z) >>= _) _ _ _
  refine wpAny_bind ?_
  unfold Builtin.SmallTypes.ownedTupleIsFree
  refine wpAny_bind (wpAny_field hz rfl (x := .none) rfl (wpAny_pure ?_))
  simp only [if_true]
  refine wpAny_bind (wpAny_rule (wpAny_bind (wpAny_field hz rfl (x := .ref TO) rfl (wpAny_bind (wpAny_setField_rec hz (by simp) fun g1 hz1 m1 => wpAny_bind ?_)))))
  have hz1 : IsZip g1 z TI TO .ellipsis := hz1
  have e1 : ∀ c o, c ≠ z → s.heap.get? c = some o → g1.get? c = some o := fun c o n e => m1.extBut _ _ n e
  simp only [List.zipIdx_cons, List.zipIdx_nil, List.forIn_cons, List.forIn_nil]
  refine wpAny_bind (wpAny_bind (wpAny_onRaise ?_))
  show wpAny _ _ (Builtin.SmallTypes.nextOf (.ref i1) >>= _) _ _ _
  refine wpAny_bind (S1.item (S1.atK a1 fun o => e1 _ o D.i1z) (S1.coK c1 fun o => e1 _ o D.l1z) hx fun g2 b1 m2 => wpAny_pure ?_)
  have e2 : ∀ c o, c ≠ z → c ≠ i1 → s.heap.get? c = some o → g2.get? c = some o := fun c o n n' e => m2.extBut _ _ n' (e1 c o n e)
  have t2 : IsPair g2 TO a b := e2 _ _ D.TOz D.TOi1 hTO
  refine wpAny_bind (wpAny_seqItems t2 rfl (wpAny_bind (wpAny_updateSeq_pair t2 fun g3 t3 m3 => wpAny_bind (wpAny_letGo (wpAny_pure ?_)))))
  have t3 : IsPair g3 TO x b := t3
  have e3 : ∀ c o, c ≠ z → c ≠ i1 → c ≠ TO → s.heap.get? c = some o → g3.get? c = some o := fun c o n n' n2 e => m3.extBut _ _ n2 (e2 c o n n' e)
  refine wpAny_bind (wpAny_bind (wpAny_onRaise ?_))
  show wpAny _ _ (Builtin.SmallTypes.nextOf (.ref i2) >>= _) _ _ _
  refine wpAny_bind (S2.item (S2.atK a2 fun o => e3 _ o D.i2z D.i12.symm D.TOi2.symm) (S2.coK c2 fun o => e3 _ o D.l2z D.l2i1 D.l2TO) hy fun g4 b2 m4 => wpAny_pure ?_)
  have t4 : IsPair g4 TO x b := m4.extBut _ _ D.TOi2 t3
  refine wpAny_bind (wpAny_seqItems t4 rfl (wpAny_bind (wpAny_updateSeq_pair t4 fun g5 t5 m5 => wpAny_bind (wpAny_letGo (wpAny_pure (wpAny_pure ?_))))))
  have t5 : IsPair g5 TO x y := t5
  have e5 : ∀ c o, c ≠ z → c ≠ i1 → c ≠ TO → c ≠ i2 → s.heap.get? c = some o → g5.get? c = some o := fun c o n n' n2 n3 e => m5.extBut _ _ n2 (m4.extBut _ _ n3 (e3 c o n n' n2 e))
  have hsz : g5.objs.size = s.heap.objs.size := by rw [m5.1, m4.1, m3.1, m2.1, m1.1]
  have z5 : IsZip g5 z TI TO .ellipsis := m5.extBut _ _ D.TOz.symm (m4.extBut _ _ D.i2z.symm (m3.extBut _ _ D.TOz.symm (m2.extBut _ _ D.i1z.symm hz1)))
  have p1 : At1 (k1 + 1) g5 := S1.atK b1 fun o e => m5.extBut _ _ D.TOi1.symm (m4.extBut _ _ D.i12 (m3.extBut _ _ D.TOi1.symm e))
  have p2 : At2 (k2 + 1) g5 := S2.atK b2 fun o e => m5.extBut _ _ D.TOi2.symm e
  have zl : z < g5.objs.size := Heap.lt_size z5
  refine wpAny_bind (wpAny_seqItems t5 rfl (wpAny_bind (wpAny_newTuple ?_)))
  show wpAny _ _ (Builtin.SmallTypes.ownedTupleHandOut (.ref z) (.ref g5.objs.size) >>= _) _ _ _
  refine wpAny_bind ?_
  unfold Builtin.SmallTypes.ownedTupleHandOut
  have z6 : IsZip (g5.push { cls := .type "tuple", data := .seq #[x, y] }) z TI TO .ellipsis := Heap.get?_push_of_some _ z5
  refine wpAny_bind (wpAny_setField_rec z6 (by simp) fun g7 z7 m7 => ?_)
  have z7 : IsZip g7 z TI TO (rawInt g5.objs.size) := z7
  refine wpAny_setField_rec z7 (by simp) fun g8 z8 m8 => ?_
  have z8 : IsZip g8 z TI TO (rawInt g5.objs.size) := z8
  have up : ∀ c o, c ≠ z → g5.get? c = some o → g8.get? c = some o := fun c o n e => m8.extBut _ _ n (m7.extBut _ _ n (Heap.get?_push_of_some _ e))
  have tt : IsPair g8 g5.objs.size x y := m8.extBut _ _ (Nat.ne_of_gt zl) (m7.extBut _ _ (Nat.ne_of_gt zl) (Heap.get?_push_size _ rfl))
  rw [hsz] at z8 tt
  refine wpAny_pure ⟨_, rfl, ?_⟩
  show Q (.ref g5.objs.size) _
  rw [hsz]
  exact hQ g8 z8 (up _ _ D.TOz t5) (S1.atK p1 fun o e => up _ o D.i1z e) (S2.atK p2 fun o e => up _ o D.i2z e) tt fun c o n1 n2 n3 n4 e => up c o n1 (e5 c o n1 n3 n2 n4 e)
theorem znext_stop {k1 k2 : Nat} {a b : Value} {Q : Fin → Shared → Prop} (hh : A.handled = none) (S1 : Src prog w i1 l1 xs At1 Co1) (S2 : Src prog w i2 l2 ys At2 Co2) (D : ZipApart z TI TO i1 i2 l1 l2)
    (hz : IsZip s.heap z TI TO .none) (hTI : IsPair s.heap TI (.ref i1) (.ref i2)) (hTO : IsPair s.heap TO a b) (a1 : At1 k1 s.heap) (a2 : At2 k2 s.heap) (c1 : Co1 s.heap) (c2 : Co2 s.heap) (hend : xs[k1]? = none ∨ ys[k2]? = none)
    (hE : ∀ h' e, (∀ c o, c ≠ z → c ≠ TO → c ≠ i1 → c ≠ i2 → s.heap.get? c = some o → h'.get? c = some o) → (∃ o, h'.get? e = some o ∧ o.cls = .type "StopIteration") → E (.ref e) { s with heap := h' }) :
    wpAny (model prog w) A (Builtin.«zip.__next__» ⟨[.ref z], []⟩) Q E s := by
  show wpAny _ _ (field (.ref z) 2 >>= _) _ _ _
  refine wpAny_bind (wpAny_field hz rfl (x := .bool false) rfl ?_)
  show wpAny _ _ (field (.ref z) 3 >>= _) _ _ _
  refine wpAny_bind (wpAny_field hz rfl (x := .ref TI) rfl (wpAny_bind (wpAny_seqItems hTI rfl ?_)))
  show wpAny _ _ (Builtin.SmallTypes.ownedTupleIsFree (.ref z) >>= _) _ _ _
  refine wpAny_bind ?_
  unfold Builtin.SmallTypes.ownedTupleIsFree
  refine wpAny_bind (wpAny_field hz rfl (x := .none) rfl (wpAny_pure ?_))
  simp only [if_true]
  refine wpAny_bind (wpAny_rule (wpAny_bind (wpAny_field hz rfl (x := .ref TO) rfl (wpAny_bind (wpAny_setField_rec hz (by simp) fun g1 hz1 m1 => wpAny_bind ?_)))))
  have hz1 : IsZip g1 z TI TO .ellipsis := hz1
  have e1 : ∀ c o, c ≠ z → s.heap.get? c = some o → g1.get? c = some o := fun c o n e => m1.extBut _ _ n e
  have last : ∀ (g : Heap) (e : Addr), IsZip g z TI TO .ellipsis → (∀ c o, c ≠ z → c ≠ TO → c ≠ i1 → c ≠ i2 → s.heap.get? c = some o → g.get? c = some o) → (∃ o, g.get? e = some o ∧ o.cls = .type "StopIteration") →
      wpAny (model prog w) A (setField (.ref z) 0 .none) (fun _ s' => E (.ref e) s') E { s with heap := g } := by
    intro g e hg hk he
    obtain ⟨oe, h1, h2⟩ := he
    have hez : e ≠ z := fun q => by subst q; rw [hg] at h1; cases h1; simp at h2
    exact wpAny_setField_rec hg (by simp) fun g' _ m => hE g' e (fun c o n n2 n3 n4 q => m.extBut _ _ n (hk c o n n2 n3 n4 q)) ⟨oe, m.extBut _ _ hez h1, h2⟩
  simp only [List.zipIdx_cons, List.zipIdx_nil, List.forIn_cons, List.forIn_nil]
  refine wpAny_bind (wpAny_bind (wpAny_onRaise ?_))
  show wpAny _ _ (Builtin.SmallTypes.nextOf (.ref i1) >>= _) _ _ _
  cases hx : xs[k1]? with
  | none =>
    refine wpAny_bind (S1.stop hh (S1.atK a1 fun o => e1 _ o D.i1z) (S1.coK c1 fun o => e1 _ o D.l1z) hx fun g2 e m2 he => ?_)
    exact last g2 e (m2 _ _ D.i1z.symm hz1) (fun c o n _ n3 _ q => m2 _ _ n3 (e1 c o n q)) he
  | some x =>
    have hy : ys[k2]? = none := by
      rcases hend with h | h
      · rw [hx] at h; cases h
      · exact h
    refine wpAny_bind (S1.item (S1.atK a1 fun o => e1 _ o D.i1z) (S1.coK c1 fun o => e1 _ o D.l1z) hx fun g2 b1 m2 => wpAny_pure ?_)
    have e2 : ∀ c o, c ≠ z → c ≠ i1 → s.heap.get? c = some o → g2.get? c = some o := fun c o n n' e => m2.extBut _ _ n' (e1 c o n e)
    have t2 : IsPair g2 TO a b := e2 _ _ D.TOz D.TOi1 hTO
    refine wpAny_bind (wpAny_seqItems t2 rfl (wpAny_bind (wpAny_updateSeq_pair t2 fun g3 t3 m3 => wpAny_bind (wpAny_letGo (wpAny_pure ?_)))))
    have e3 : ∀ c o, c ≠ z → c ≠ i1 → c ≠ TO → s.heap.get? c = some o → g3.get? c = some o := fun c o n n' n2 e => m3.extBut _ _ n2 (e2 c o n n' e)
    refine wpAny_bind (wpAny_bind (wpAny_onRaise ?_))
    show wpAny _ _ (Builtin.SmallTypes.nextOf (.ref i2) >>= _) _ _ _
    refine wpAny_bind (S2.stop hh (S2.atK a2 fun o => e3 _ o D.i2z D.i12.symm D.TOi2.symm) (S2.coK c2 fun o => e3 _ o D.l2z D.l2i1 D.l2TO) hy fun g4 e m4 he => ?_)
    exact last g4 e (m4 _ _ D.i2z.symm (m3.extBut _ _ D.TOz.symm (m2.extBut _ _ D.i1z.symm hz1))) (fun c o n n2 n3 n4 q => m4 _ _ n4 (e3 c o n n3 n2 q)) he
theorem zpy_item {k1 k2 : Nat} {x y a b : Value} {Q : Option Value → Shared → Prop} (S1 : Src prog w i1 l1 xs At1 Co1) (S2 : Src prog w i2 l2 ys At2 Co2) (D : ZipApart z TI TO i1 i2 l1 l2)
    (hz : IsZip s.heap z TI TO .none) (hTI : IsPair s.heap TI (.ref i1) (.ref i2)) (hTO : IsPair s.heap TO a b) (a1 : At1 k1 s.heap) (a2 : At2 k2 s.heap) (c1 : Co1 s.heap) (c2 : Co2 s.heap) (hx : xs[k1]? = some x) (hy : ys[k2]? = some y)
    (hQ : ∀ h', IsZip h' z TI TO (rawInt s.heap.objs.size) → IsPair h' TO x y → At1 (k1 + 1) h' → At2 (k2 + 1) h' → IsPair h' s.heap.objs.size x y →
      (∀ c o, c ≠ z → c ≠ TO → c ≠ i1 → c ≠ i2 → s.heap.get? c = some o → h'.get? c = some o) → Q (some (.ref s.heap.objs.size)) { s with heap := h' }) :
    wpAny (model prog w) A (pyNext (.ref z)) Q E s := by
  have hT : s.TypeIs (.ref z) "zip" := ⟨_, hz, rfl⟩
  unfold pyNext
  refine wpAny_bind (wpAny_attempt (wpAny_callSpecial?_slot (name := Str.ofString "__next__") hT F.slot_zip_next (wpAny_call_entry F.slot_zip_next hT F.entry_zip_next ?_ (F.args_zip_next_1 _))))
  exact znext_item S1 S2 D hz hTI hTO a1 a2 c1 c2 hx hy fun h' q1 q2 q3 q4 q5 q6 => wpAny_pure (hQ h' q1 q2 q3 q4 q5 q6)
theorem zpy_stop {k1 k2 : Nat} {a b : Value} {Q : Option Value → Shared → Prop} (hh : A.handled = none) (S1 : Src prog w i1 l1 xs At1 Co1) (S2 : Src prog w i2 l2 ys At2 Co2) (D : ZipApart z TI TO i1 i2 l1 l2)
    (hz : IsZip s.heap z TI TO .none) (hTI : IsPair s.heap TI (.ref i1) (.ref i2)) (hTO : IsPair s.heap TO a b) (a1 : At1 k1 s.heap) (a2 : At2 k2 s.heap) (c1 : Co1 s.heap) (c2 : Co2 s.heap) (hend : xs[k1]? = none ∨ ys[k2]? = none)
    (hQ : ∀ h', (∀ c o, c ≠ z → c ≠ TO → c ≠ i1 → c ≠ i2 → s.heap.get? c = some o → h'.get? c = some o) → Q none { s with heap := h' }) : wpAny (model prog w) A (pyNext (.ref z)) Q E s := by
  have hT : s.TypeIs (.ref z) "zip" := ⟨_, hz, rfl⟩
  unfold pyNext
  refine wpAny_bind (wpAny_attempt (wpAny_callSpecial?_slot (name := Str.ofString "__next__") hT F.slot_zip_next (wpAny_call_entry F.slot_zip_next hT F.entry_zip_next (znext_stop hh S1 S2 D hz hTI hTO a1 a2 c1 c2 hend fun h' e hk he => ?_) (F.args_zip_next_1 _))))
  obtain ⟨o, ho, hc⟩ := he
  exact wpAny_bind (wpAny_isInstance (T := "StopIteration") (b := true) ⟨o, ho, hc⟩ isSubtype_stop (wpAny_pure (hQ _ hk)))
end
abbrev zg1 (h : Heap) (l1 : Addr) : Heap := h.push { cls := .type "list_iterator", data := .fields #[.ref l1, .int 0 0] }
abbrev zg2 (h : Heap) (l1 l2 : Addr) : Heap := (zg1 h l1).push { cls := .type "tuple_iterator", data := .fields #[.ref l2, .int 0 0] }
abbrev zg3 (h : Heap) (l1 l2 : Addr) : Heap := (zg2 h l1 l2).push { cls := .type "tuple", data := .seq #[.ref h.objs.size, .ref (zg1 h l1).objs.size] }
abbrev zg4 (h : Heap) (l1 l2 : Addr) : Heap := (zg3 h l1 l2).push { cls := .type "tuple", data := .seq #[.none, .none] }
abbrev zg5 (h : Heap) (l1 l2 : Addr) : Heap := (zg4 h l1 l2).push { cls := .type "zip", data := .fields #[.none, .bool false, .bool false, .ref (zg2 h l1 l2).objs.size, .ref (zg3 h l1 l2).objs.size] }
theorem meets_zipM (l1 l2 : Addr) (xs ys : Array Value) : Meets (Builtin.«zip.__new__» ⟨[.type "zip", .ref l1, .ref l2], []⟩) (fun _ R s => s.heap.IsList l1 xs ∧ s.heap.IsTuple l2 ys ∧ R (.ok (.ret (.ref (zg4 s.heap l1 l2).objs.size))) { s with heap := zg5 s.heap l1 l2 }) :=
  .of_wp fun prog w A R s h => by
    obtain ⟨hp, g, d, tk, os⟩ := s
    obtain ⟨q1, q2, h⟩ := h
    have hsub := sub_zip
    have r1 : Heap.IsList (Shared.heap ⟨hp, g, d, tk, os⟩) l1 xs := q1
    have r2 : Heap.IsTuple (Shared.heap ⟨hp.push { cls := .type "list_iterator", data := .fields #[.ref l1, .int 0 0] }, g, d, tk, os⟩) l2 ys := Heap.IsTuple.push q2 _
    wp_walk using wpAny_pyIter_list r1, wpAny_pyIter_tuple r2
    exact ⟨_, rfl, h⟩
theorem call_zipM {prog : Program} {w : World} {A : Around} {E : Value → Shared → Prop} {s : Shared} {l1 l2 : Addr} {xs ys : Array Value} {Q : Value → Shared → Prop} (q1 : s.heap.IsList l1 xs) (q2 : s.heap.IsTuple l2 ys)
    (h : ∀ h', IsZip h' (s.heap.objs.size + 4) (s.heap.objs.size + 2) (s.heap.objs.size + 3) .none → IsPair h' (s.heap.objs.size + 2) (.ref s.heap.objs.size) (.ref (s.heap.objs.size + 1)) →
      IsPair h' (s.heap.objs.size + 3) .none .none → h'.IsListIter s.heap.objs.size l1 0 → h'.IsTupleIter (s.heap.objs.size + 1) l2 0 →
      (∀ c o, s.heap.get? c = some o → h'.get? c = some o) → Q (.ref (s.heap.objs.size + 4)) { s with heap := h' }) :
    wpAny (model prog w) A (call (.type "zip") [.ref l1, .ref l2]) Q E s := by
  refine callType_new F.called_zip (by decide) (F.typeCall_zip_2 _ _) (F.newCall_zip_2 _ _) (fun obj => F.args_object_init_3 obj _ _) F.entry_zip_new (meets_zipM l1 l2 xs ys) ⟨q1, q2, ?_⟩
  have s1 : (zg1 s.heap l1).objs.size = s.heap.objs.size + 1 := Heap.size_push ..
  have s2 : (zg2 s.heap l1 l2).objs.size = s.heap.objs.size + 2 := by rw [Heap.size_push, s1]
  have s3 : (zg3 s.heap l1 l2).objs.size = s.heap.objs.size + 3 := by rw [Heap.size_push, s2]
  have s4 : (zg4 s.heap l1 l2).objs.size = s.heap.objs.size + 4 := by rw [Heap.size_push, s3]
  have up4 : ∀ c o, (zg4 s.heap l1 l2).get? c = some o → (zg5 s.heap l1 l2).get? c = some o := fun c o e => Heap.get?_push_of_some _ e
  have up3 : ∀ c o, (zg3 s.heap l1 l2).get? c = some o → (zg5 s.heap l1 l2).get? c = some o := fun c o e => up4 c o (Heap.get?_push_of_some _ e)
  have up2 : ∀ c o, (zg2 s.heap l1 l2).get? c = some o → (zg5 s.heap l1 l2).get? c = some o := fun c o e => up3 c o (Heap.get?_push_of_some _ e)
  have up1 : ∀ c o, (zg1 s.heap l1).get? c = some o → (zg5 s.heap l1 l2).get? c = some o := fun c o e => up2 c o (Heap.get?_push_of_some _ e)
  have g5 : (zg5 s.heap l1 l2).get? (zg4 s.heap l1 l2).objs.size = some _ := Heap.get?_push_size _ rfl
  have g4 : (zg5 s.heap l1 l2).get? (zg3 s.heap l1 l2).objs.size = some _ := up4 _ _ (Heap.get?_push_size _ rfl)
  have g3 : (zg5 s.heap l1 l2).get? (zg2 s.heap l1 l2).objs.size = some _ := up3 _ _ (Heap.get?_push_size _ rfl)
  have g2 : (zg5 s.heap l1 l2).get? (zg1 s.heap l1).objs.size = some _ := up2 _ _ (Heap.get?_push_size _ rfl)
  have g1 : (zg5 s.heap l1 l2).get? s.heap.objs.size = some _ := up1 _ _ (Heap.get?_push_size _ rfl)
  show _ ∧ _
  rw [s2, s3, s4] at g5
  rw [s1, s2] at g3
  rw [s3] at g4
  rw [s1] at g2
  rw [s4]
  exact ⟨⟨_, g5, rfl⟩, h _ g5 g3 g4 ⟨_, g1, rfl, rfl⟩ ⟨_, g2, rfl, rfl⟩ fun c o e => up1 c o (Heap.get?_push_of_some _ e)⟩
/-- the list at a and the tuple at b, the items in new pairs -/
def ItzM (K : PySem.W.Frag) (a b : Addr) : It :=
  ⟨fun i H => ∃ (xs ys : List V) (x y : V), SqL K H a xs ∧ SqT K H b ys ∧ xs[i]? = some x ∧ ys[i]? = some y,
    fun i H v H' => ∃ T x y, v = .ref T ∧ H T = none ∧ H' = upd H T (.tup [x, y]) ∧ (∀ xs, SqL K H a xs → xs[i]? = some x) ∧ ∀ ys, SqT K H b ys → ys[i]? = some y,
    fun i H => ∃ xs ys : List V, SqL K H a xs ∧ SqT K H b ys ∧ (xs.length ≤ i ∨ ys.length ≤ i)⟩
theorem turn_zipM {P : Program} {w : World} {K : PySem.W.Frag} {elts : List Expr} {kk : Nat} {tpos : Pos} {a b z TI TO i1 i2 : Addr} (D : ZipApart z TI TO i1 i2 a b) :
    Turn P w K (.Tuple elts kk tpos) (ItzM K a b) [z, TI, TO, i1, i2] z (fun i h => IsZip h z TI TO .none ∧ IsPair h TI (.ref i1) (.ref i2) ∧ (∃ x y, IsPair h TO x y) ∧ h.IsListIter i1 a i ∧ h.IsTupleIter i2 b i) where
  mem := by simp
  obj := fun i h st c hc => by
    obtain ⟨hz, hTI, ⟨x, y, hTO⟩, q1, q2⟩ := st
    have e' : c = z ∨ c = TI ∨ c = TO ∨ c = i1 ∨ c = i2 := by simpa using hc
    rcases e' with rfl | rfl | rfl | rfl | rfl
    · exact ⟨_, hz, fun v q => nomatch q⟩
    · exact ⟨_, hTI, fun v q => nomatch q⟩
    · exact ⟨_, hTO, fun v q => nomatch q⟩
    · exact (srcL (prog := P) (w := w) c a #[]).obj q1
    · exact (srcT (prog := P) (w := w) c b #[]).obj q2
  keep := fun i h h' st k => by
    obtain ⟨hz, hTI, ⟨x, y, hTO⟩, q1, q2⟩ := st
    exact ⟨k z (by simp) _ hz, k TI (by simp) _ hTI, ⟨x, y, k TO (by simp) _ hTO⟩, q1.at fun o q => k i1 (by simp) o q, q2.at fun o q => k i2 (by simp) o q⟩
  item := by
    intro X hP hw hK hc i pins s σ H E I hf st hg
    subst hP hw hK
    obtain ⟨hz, hTI, ⟨x0, y0, hTO⟩, q1, q2⟩ := st
    obtain ⟨xs, ys, x, y, sx, sy, hx, hy⟩ := hg
    obtain ⟨its, rv, p, _⟩ := I.list sx
    obtain ⟨its2, rv2, p2, _⟩ := I.tuple sy
    obtain ⟨u, hu, ru⟩ := rv.get hx
    obtain ⟨u2, hu2, ru2⟩ := rv2.get hy
    have zl : z < s.heap.objs.size := Heap.lt_size hz
    refine zpy_item (srcL i1 a its.toArray) (srcT i2 b its2.toArray) D hz hTI hTO q1 q2 p.isList p2 (x := u) (y := u2) (by simpa using hu) (by simpa using hu2) fun g z' t' n1 n2 hT hk => ?_
    refine ⟨_, rfl, wpAny_letOwnedTupleGo_zip (s := { s with heap := g }) z' fun g2 z2 sb => ?_⟩
    have hT2 : g2.get? s.heap.objs.size = some { cls := .type "tuple", data := .seq #[u, u2] } := (sb.2 _ (Nat.ne_of_gt zl)).trans hT
    have new : ObjOk X.prog X.w (upd H s.heap.objs.size (.tup [x, y])) g2 s.heap.objs.size (.tup [x, y]) := ⟨by show 2 ≤ sizeLine; decide, [u, u2], .cons ru (.cons ru2 .nil), ⟨_, hT2, rfl, _, rfl⟩⟩
    have I1 : Inv X pins σ (upd H s.heap.objs.size (.tup [x, y])) { s with heap := g2 } := I.turnedNew (t' := s.toks) (ch := [z, TI, TO, i1, i2]) (fun c o hb q => by
      have hb' : c ≠ z ∧ c ≠ TO ∧ c ≠ i1 ∧ c ≠ i2 := by
        simp only [List.mem_cons, List.not_mem_nil, not_or] at hb
        exact ⟨hb.1, hb.2.2.1, hb.2.2.2.1, hb.2.2.2.2.1⟩
      exact (sb.2 c hb'.1).trans (hk c o hb'.1 hb'.2.1 hb'.2.2.1 hb'.2.2.2 q)) hf (Nat.le_refl _) new
    refine ⟨.ref s.heap.objs.size, _, I1, rfl, ⟨_, x, y, rfl, I.hok.fresh (Nat.le_refl _), rfl, fun l hl => by rw [I.list_inj hl sx]; exact hx, fun l hl => by rw [I.tuple_inj hl sy]; exact hy⟩, ⟨z2, ?_, ⟨u, u2, ?_⟩, ?_, ?_⟩, fun c hcm => ?_⟩
    · exact (sb.2 _ D.TIz).trans (hk _ _ D.TIz D.TITO D.TIi1 D.TIi2 hTI)
    · exact (sb.2 _ D.TOz).trans t'
    · exact n1.at fun o q => (sb.2 _ D.i1z).trans q
    · exact n2.at fun o q => (sb.2 _ D.i2z).trans q
    · have hlt : c < s.heap.objs.size := by
        have e' : c = z ∨ c = TI ∨ c = TO ∨ c = i1 ∨ c = i2 := by simpa using hcm
        rcases e' with rfl | rfl | rfl | rfl | rfl
        · exact zl
        · exact Heap.lt_size hTI
        · exact Heap.lt_size hTO
        · obtain ⟨_, e1, _⟩ := q1; exact Heap.lt_size e1
        · obtain ⟨_, e2, _⟩ := q2; exact Heap.lt_size e2
      rw [upd_ne (Nat.ne_of_lt hlt)]
      exact (hf c hcm).1
  done := by
    intro X hP hw hK hc i pins s σ H E I hf st hg
    subst hP hw hK
    obtain ⟨hz, hTI, ⟨x0, y0, hTO⟩, q1, q2⟩ := st
    obtain ⟨xs, ys, sx, sy, hend⟩ := hg
    obtain ⟨its, rv, p, _⟩ := I.list sx
    obtain ⟨its2, rv2, p2, _⟩ := I.tuple sy
    have n1 := rv.length
    have n2 := rv2.length
    have he : its.toArray[i]? = none ∨ its2.toArray[i]? = none := by
      rcases hend with q | q
      · exact .inl (by simp; omega)
      · exact .inr (by simp; omega)
    refine zpy_stop (I.ok.hd hc) (srcL i1 a its.toArray) (srcT i2 b its2.toArray) D hz hTI hTO q1 q2 p.isList p2 he fun g hk => ⟨rfl, I.turnedL (t' := s.toks) (ch := [z, TI, TO, i1, i2]) (fun c o hb q => ?_) hf⟩
    simp only [List.mem_cons, List.not_mem_nil, not_or] at hb
    exact hk c o hb.1 hb.2.2.1 hb.2.2.2.1 hb.2.2.2.2.1 q
  self := fun A i s Q E st h => wpAny_pyIter_zip st.1 h
def iZipB (K : PySem.W.Frag) (ta : TA) : TI := fun σ H R => ta σ H fun vs H1 => ∃ a b xs ys, vs = [.ref a, .ref b] ∧ ((SqL K H1 a xs ∧ SqL K H1 b ys ∧ R (Itz K a b) H1) ∨ (SqT K H1 a xs ∧ SqT K H1 b ys ∧ R (RZ.ItzT K a b) H1) ∨ (SqL K H1 a xs ∧ SqT K H1 b ys ∧ R (ItzM K a b) H1))
theorem pi_zipB {X : Cx} {e e2 : Expr} {ta : TA} {p pos tpos : Pos} {elts : List Expr} {kk : Nat} (hg : Gl X "zip") (hm : X.mg "zip" = none) (ha : PA X [e, e2] ta)
    (hs : starEach [e, e2] X.env = (false, eval e X.env) :: starEach [e2] X.env := by rfl) (hpl : (backTo pos (starEach [e2] X.env)).any (·.1) = false := by rfl) :
    PI X (.Tuple elts kk tpos) (.Call (.Name "zip" p) [e, e2] [] pos) (iZipB X.K ta) := by
  refine ⟨fun pins s σ H R I h => ?_⟩
  refine Call_ (ld_blt I hg hm PyProof.Rows.boot_zip (PyProof.Rows.callWith_type1 (thn (ha.run pos pins s σ H _ I h) fun us s1 ⟨vs, H1, I1, r1, qq⟩ => ?_) hs hpl))
  obtain ⟨a, b, xs, ys, ex, qq⟩ := qq
  subst ex
  cases r1 with
  | cons r rr =>
    cases rr with
    | cons r' rr =>
      cases rr; cases r; cases r'
      generalize hn : s1.heap.objs.size = n
      have fresh5 : ∀ c, c ∈ [n + 4, n + 2, n + 3, n, n + 1] → FpOk X pins H1 c := fun c hcm => by
        have hle : s1.heap.objs.size ≤ c := by
          simp only [List.mem_cons, List.not_mem_nil, or_false] at hcm
          omega
        exact I1.fpOk hle (I1.hok.fresh hle)
      subst hn
      rcases qq with ⟨sx, sy, q⟩ | ⟨sx, sy, q⟩ | ⟨sx, sy, q⟩
      · obtain ⟨its, rv, p1, _⟩ := I1.list sx
        obtain ⟨its2, rv2, p2, _⟩ := I1.list sy
        refine call_zip_2 p1.isList p2.isList fun h' hz hTI hTO n1 n2 hsz hk => wpAny_pyIter_zip hz ?_
        have I2 : Inv X pins σ H1 { s1 with heap := h' } := I1.kept (t' := s1.toks) hk
        exact ⟨_, _, _, _, H1, rfl, I2, turn_zip (PySem.W.ktu_apart s1.heap.objs.size a b p1.lt p2.lt), ⟨hz, hTI, ⟨_, _, hTO⟩, n1, n2⟩, fresh5, q⟩
      · obtain ⟨its, rv, p1, _⟩ := I1.tuple sx
        obtain ⟨its2, rv2, p2, _⟩ := I1.tuple sy
        obtain ⟨o1, ho1, _⟩ := id p1
        obtain ⟨o2, ho2, _⟩ := id p2
        refine RZ.call_zipT p1 p2 fun h' hz hTI hTO n1 n2 hsz hk => wpAny_pyIter_zip hz ?_
        have I2 : Inv X pins σ H1 { s1 with heap := h' } := I1.kept (t' := s1.toks) hk
        exact ⟨_, _, _, _, H1, rfl, I2, RZ.turn_zipT (PySem.W.ktu_apart s1.heap.objs.size a b (Heap.lt_size ho1) (Heap.lt_size ho2)), ⟨hz, hTI, ⟨_, _, hTO⟩, n1, n2⟩, fresh5, q⟩
      · obtain ⟨its, rv, p1, _⟩ := I1.list sx
        obtain ⟨its2, rv2, p2, _⟩ := I1.tuple sy
        obtain ⟨o2, ho2, _⟩ := id p2
        refine call_zipM p1.isList p2 fun h' hz hTI hTO n1 n2 hk => wpAny_pyIter_zip hz ?_
        have I2 : Inv X pins σ H1 { s1 with heap := h' } := I1.kept (t' := s1.toks) hk
        exact ⟨_, _, _, _, H1, rfl, I2, turn_zipM (PySem.W.ktu_apart s1.heap.objs.size a b p1.lt (Heap.lt_size ho2)), ⟨hz, hTI, ⟨_, _, hTO⟩, n1, n2⟩, fresh5, q⟩
section
variable {X : Cx} {T : List (Addr × Str)} {cm : Nat → Value} {E : XK} {A B C : XE} {a b c e tg iter : Expr} {pos p : Pos}
theorem di_zip {es : List Expr} {kk : Nat} {tpos : Pos} (hg : Gl X "zip") (hm : X.mg "zip" = none) (ha : PE X a (tD X.K T cm E A)) (hb : PE X b (tD X.K T cm E B)) (hs : starEach [a, b] X.env = (false, eval a X.env) :: starEach [b] X.env := by rfl) (hs2 : starEach [b] X.env = (false, eval b X.env) :: starEach [] X.env := by rfl)
    (hpl : (backTo pos (starEach [b] X.env)).any (·.1) = false := by rfl) :
    PI X (.Tuple es kk tpos) (.Call (.Name "zip" p) [a, b] [] pos) (tI X.K T cm E (xZip A B)) :=
  PIimp (PIlens (pi_zipB hg hm (pa_cons ha (pa_cons hb pa_nil hs2) hs) hs hpl)) fun σ H R h => by
    obtain ⟨M, H0, δ, r, Rr, e, a⟩ := h
    rcases bnd_of e with ⟨x, ex, e⟩ | ⟨c, ex, rfl⟩
    · refine ⟨M, H0, δ, .ok x, Rr, ex, fun H1 x1 v hv => ?_⟩
      rcases bnd_of e with ⟨y, ey, e⟩ | ⟨c, ey, rfl⟩
      · refine ⟨M, H0, δ, .ok y, Rr.grow x1, ey, fun H2 x2 u hu => ?_⟩
        have hv := x2.dv hv
        cases hv with
        | @lst l xs ds hl hds =>
          cases hu with
          | @lst l2 ys es hl2 hes =>
            cases e
            refine ⟨l, l2, xs, ys, rfl, .inl ⟨(sl_un hl), (sl_un hl2), fun ln => a H2 (x1.trans x2) _ ?_ fun i H3 M3 x3 m3 hm3 => ?_⟩⟩
            · rw [zipL_len, ← dpAll_len hds]
              have := ln l xs (.inl (sl_un hl))
              omega
            · have z := seen (K := X.K) x3 hm3
              have q1 : SqL X.K H3 l xs := (sl_un (sqL_ext z (sqL_ext mask2 hl)))
              have q2 : SqL X.K H3 l2 ys := (sl_un (sqL_ext z (sqL_ext mask2 hl2)))
              have l1 := dpAll_len hds
              have l2 := dpAll_len hes
              rw [zipL_len]
              refine ⟨fun hi => ?_, fun hi => ⟨xs, ys, q1, q2, by omega⟩⟩
              have hi1 : i < xs.length := by omega
              have hi2 : i < ys.length := by omega
              obtain ⟨d, e1, e2⟩ := dpAll_get hds (List.getElem?_eq_getElem hi1)
              obtain ⟨d', e1', e2'⟩ := dpAll_get hes (List.getElem?_eq_getElem hi2)
              refine ⟨⟨xs, ys, xs[i], ys[i], q1, q2, List.getElem?_eq_getElem hi1, List.getElem?_eq_getElem hi2⟩, fun y H4 hy => ?_⟩
              obtain ⟨q, w, w', rfl, hn, rfl, hy1, hy2⟩ := hy
              have t1 := hy1 xs q1
              have t2 := hy2 ys q2
              rw [List.getElem?_eq_getElem hi1] at t1
              rw [List.getElem?_eq_getElem hi2] at t2
              cases t1
              cases t2
              exact ⟨Ext.fresh _ hn, _, zipL_get e1 e1', dv_pair m3 hn (dp_ext z (dp_ext mask2 e2)) (dp_ext z (dp_ext mask2 e2'))⟩
          | @tup l2 ys es hl2 hes =>
            cases e
            refine ⟨l, l2, xs, ys, rfl, .inr (.inr ⟨(sl_un hl), st_un hl2, fun ln => a H2 (x1.trans x2) _ ?_ fun i H3 M3 x3 m3 hm3 => ?_⟩)⟩
            · rw [zipL_len, ← dpAll_len hds]
              have := ln l xs (.inl (sl_un hl))
              omega
            · have z := seen (K := X.K) x3 hm3
              have q1 : SqL X.K H3 l xs := (sl_un (sqL_ext z (sqL_ext mask2 hl)))
              have q2 : SqT X.K H3 l2 ys := st_un (sqT_ext z (sqT_ext mask2 hl2))
              have l1 := dpAll_len hds
              have l2 := dpAll_len hes
              rw [zipL_len]
              refine ⟨fun hi => ?_, fun hi => ⟨xs, ys, q1, q2, by omega⟩⟩
              have hi1 : i < xs.length := by omega
              have hi2 : i < ys.length := by omega
              obtain ⟨d, e1, e2⟩ := dpAll_get hds (List.getElem?_eq_getElem hi1)
              obtain ⟨d', e1', e2'⟩ := dpAll_get hes (List.getElem?_eq_getElem hi2)
              refine ⟨⟨xs, ys, xs[i], ys[i], q1, q2, List.getElem?_eq_getElem hi1, List.getElem?_eq_getElem hi2⟩, fun y H4 hy => ?_⟩
              obtain ⟨q, w, w', rfl, hn, rfl, hy1, hy2⟩ := hy
              have t1 := hy1 xs q1
              have t2 := hy2 ys q2
              rw [List.getElem?_eq_getElem hi1] at t1
              rw [List.getElem?_eq_getElem hi2] at t2
              cases t1
              cases t2
              exact ⟨Ext.fresh _ hn, _, zipL_get e1 e1', dv_pair m3 hn (dp_ext z (dp_ext mask2 e2)) (dp_ext z (dp_ext mask2 e2'))⟩
          | _ => cases e
        | @tup l xs ds hl hds =>
          cases hu with
          | @tup l2 ys es hl2 hes =>
            cases e
            refine ⟨l, l2, xs, ys, rfl, .inr (.inl ⟨st_un hl, st_un hl2, fun ln => a H2 (x1.trans x2) _ ?_ fun i H3 M3 x3 m3 hm3 => ?_⟩)⟩
            · rw [zipL_len, ← dpAll_len hds]
              have := ln l xs (.inr (st_un hl))
              omega
            · have z := seen (K := X.K) x3 hm3
              have q1 : SqT X.K H3 l xs := st_un (sqT_ext z (sqT_ext mask2 hl))
              have q2 : SqT X.K H3 l2 ys := st_un (sqT_ext z (sqT_ext mask2 hl2))
              have l1 := dpAll_len hds
              have l2 := dpAll_len hes
              rw [zipL_len]
              refine ⟨fun hi => ?_, fun hi => ⟨xs, ys, q1, q2, by omega⟩⟩
              have hi1 : i < xs.length := by omega
              have hi2 : i < ys.length := by omega
              obtain ⟨d, e1, e2⟩ := dpAll_get hds (List.getElem?_eq_getElem hi1)
              obtain ⟨d', e1', e2'⟩ := dpAll_get hes (List.getElem?_eq_getElem hi2)
              refine ⟨⟨xs, ys, xs[i], ys[i], q1, q2, List.getElem?_eq_getElem hi1, List.getElem?_eq_getElem hi2⟩, fun y H4 hy => ?_⟩
              obtain ⟨q, w, w', rfl, hn, rfl, hy1, hy2⟩ := hy
              have t1 := hy1 xs q1
              have t2 := hy2 ys q2
              rw [List.getElem?_eq_getElem hi1] at t1
              rw [List.getElem?_eq_getElem hi2] at t2
              cases t1
              cases t2
              exact ⟨Ext.fresh _ hn, _, zipL_get e1 e1', dv_pair m3 hn (dp_ext z (dp_ext mask2 e2)) (dp_ext z (dp_ext mask2 e2'))⟩
          | _ => cases e
        | _ => cases e
      · exact ⟨M, H0, δ, .ex c, Rr.grow x1, ey, a.grow x1⟩
    · exact ⟨M, H0, δ, .ex c, Rr, ex, a⟩
end
end DL
set_option Elab.async false
set_option linter.all false
set_option maxRecDepth 100000
set_option maxHeartbeats 4000000
set_option autoImplicit false
namespace DL
open PySem L2
open LamX (ExtN Tabs TabS CodeO)
/-! ### targets -/
/-- vs: the slots that the target may change -/
def tG (K : PySem.W.Frag) (T : List (Addr × Str)) (vs : List Nat) (g : XG) : TG := fun v σ H Q => ∃ M H0 δ d δ', Rp K T M H0 σ H δ ∧ Dv K (mask H (MM M σ δ)) v d ∧ g d δ = some δ' ∧ ∀ σ' H', Rp K T M H0 σ' H' δ' → Ext T H H' → wipe σ' vs = wipe σ vs → ExtN (mask H (MM M σ δ)) (mask H' (MM M σ' δ')) → Q σ' H'
def tGs (K : PySem.W.Frag) (T : List (Addr × Str)) (vs : List Nat) (g : XGs) : TGs := fun v σ H Q => ∃ M H0 δ d δ', Rp K T M H0 σ H δ ∧ DvAll K (mask H (MM M σ δ)) v d ∧ g d δ = some δ' ∧ ∀ σ' H', Rp K T M H0 σ' H' δ' → Ext T H H' → wipe σ' vs = wipe σ vs → ExtN (mask H (MM M σ δ)) (mask H' (MM M σ' δ')) → Q σ' H'
theorem wipe_set {σ : St} {i : Nat} {v : Option V} : ∀ {vs : List Nat}, i ∈ vs → wipe (σ.set i v) vs = wipe σ vs
  | [], h => by cases h
  | w :: vs, h => by
    unfold wipe
    by_cases hi : i ∈ vs
    · rw [wipe_set hi]
    · have e : i = w := by
        rcases List.mem_cons.mp h with z | z
        · exact z
        · exact absurd z hi
      subst e
      have : ∀ (vs : List Nat), i ∉ vs → wipe (σ.set i v) vs = (wipe σ vs).set i v := fun vs => by
        induction vs with
        | nil => intro _; rfl
        | cons u us ih =>
          intro hu
          unfold wipe
          rw [ih (fun z => hu (List.mem_cons_of_mem _ z)), List.set_comm _ _ (fun z => hu (by rw [z]; exact List.mem_cons_self))]
      rw [this vs hi, List.set_set]
theorem mm_setDat {M : Addr → Prop} {σ : St} {δ : DE} {i : Nat} {v : V} {d : D} (hi : i < δ.length) : ∀ a, MM M (σ.set i (some v)) (δ.set i (.dat d)) a → MM M σ δ a := fun a z => by
  rcases z with z | ⟨j, ds, e1, e2⟩
  · exact .inl z
  · by_cases hj : j = i
    · subst hj; rw [List.getElem?_set_self hi] at e1; cases e1
    · rw [List.getElem?_set_ne (Ne.symm hj)] at e1 e2
      exact .inr ⟨j, ds, e1, e2⟩
section
variable {X : Cx} {T : List (Addr × Str)} {cm : Nat → Value} {E : XK} {A B C : XE} {a b c e tg iter : Expr} {pos p : Pos} {vs : List Nat} {es : List Expr}
theorem PGimp {t t' : TG} (h : PG X tg t) (w : ∀ v σ H Q, t' v σ H Q → t v σ H Q) : PG X tg t' := ⟨fun pins s σ H v u Q I r q => h.run pins s σ H v u Q I r (w v σ H Q q)⟩
theorem PGsimp {t t' : TGs} (h : PGs X es t) (w : ∀ v σ H Q, t' v σ H Q → t v σ H Q) : PGs X es t' := ⟨fun pins s σ H v u Q I r q => h.run pins s σ H v u Q I r (w v σ H Q q)⟩
theorem dg_name (i : Nat) {x : Str} (hN : X.N.Nodup) (hv : i ∈ vs) (hi : X.N[i]? = some x := by rfl) (hx : Loc X.env.scope x := by first | exact Or.inl rfl | exact Or.inr rfl) (hf : X.fn x = true ∨ X.env.scope.names.lookup x = some .local := by first | exact .inl rfl | exact .inr rfl | assumption) : PG X (.Name x pos) (tG X.K T vs (gN i)) :=
  PGimp (pg_name hN hi hx hf) fun v σ H Q h => by
    obtain ⟨M, H0, δ, d, δ', R, hd, e, k⟩ := h
    unfold gN at e
    split at e
    · rename_i hl
      cases e
      exact k _ H (R.setDat hl hd) (Ext.refl T H) (wipe_set hv) (mask_le (mm_setDat hl) (ExtN.refl H))
    · cases e
theorem dgs_nil : PGs X [] (tGs X.K T vs gsNil) := PGsimp pgs_nil fun v σ H Q h => by
  obtain ⟨M, H0, δ, d, δ', R, hd, e, k⟩ := h
  cases hd with
  | nil =>
    cases e
    exact ⟨rfl, k σ H R (Ext.refl T H) rfl (ExtN.refl _)⟩
  | cons _ _ => cases e
theorem dgs_cons {g : XG} {gs : XGs} (h1 : PG X e (tG X.K T vs g)) (h2 : PGs X es (tGs X.K T vs gs)) (hs : (assignEach (e :: es) X.env).map (·.2) = assign e X.env :: (assignEach es X.env).map (·.2) := by rfl) : PGs X (e :: es) (tGs X.K T vs (gsCons g gs)) :=
  PGsimp (pgs_cons h1 h2 hs) fun v σ H Q h => by
    obtain ⟨M, H0, δ, d, δ', R, hd, e, k⟩ := h
    cases hd with
    | nil => cases e
    | @cons v vr d dr h1 h2 =>
      have e : (g d δ).bind (gs dr) = some δ' := e
      cases q : g d δ with
      | none => rw [q] at e; cases e
      | some δ1 =>
        rw [q] at e
        refine ⟨v, vr, rfl, M, H0, δ, d, δ1, R, h1, q, fun σ1 H1 R1 x1 w1 z1 => ?_⟩
        exact ⟨M, H0, δ1, dr, δ', R1, dpAll_ext z1 h2, e, fun σ2 H2 R2 x2 w2 z2 => k σ2 H2 R2 (x1.trans x2) (w2.trans w1) (z1.trans z2)⟩
theorem dg_tup {k : Nat} {gs : XGs} {n : Nat} (hc : X.calm = true) (h : PGs X es (tGs X.K T vs gs)) (hn : (assignEach es X.env).length = n := by rfl) (hst : (assignEach es X.env).findIdx? (·.1) = none := by rfl) : PG X (.Tuple es k pos) (tG X.K T vs (gT n gs)) :=
  ⟨fun pins s σ H v u Q I r z => by
    obtain ⟨M, H0, δ, d, δ', R, hd, e, k⟩ := z
    cases hd with
    | @tup a xs ds ha hds =>
      have e : (if ds.length = n then gs ds δ else none) = some δ' := e
      by_cases hz : ds.length = n
      · rw [if_pos hz] at e
        exact (pg_tup hc h hn hst).run pins s σ H _ u Q I r ⟨a, xs, rfl, st_un ha, by rw [dpAll_len hds]; exact hz, M, H0, δ, ds, δ', R, hds, e, k⟩
      · rw [if_neg hz] at e; cases e
    | @lst a xs ds ha hds =>
      have e : (if ds.length = n then gs ds δ else none) = some δ' := e
      by_cases hz : ds.length = n
      · rw [if_pos hz] at e
        exact (pg_lst hc h hn hst).run pins s σ H _ u Q I r ⟨a, xs, rfl, sl_un ha, by rw [dpAll_len hds]; exact hz, M, H0, δ, ds, δ', R, hds, e, k⟩
      · rw [if_neg hz] at e; cases e
    | _ => cases e⟩
/-! ### comprehensions -/
theorem unOwn_len (δ : DE) : ∀ vs : List Nat, (wipeD δ vs).length = δ.length
  | [] => by unfold wipeD; rw [List.length_map]
  | v :: vs => by unfold wipeD; rw [List.length_set, unOwn_len δ vs]
theorem wipeD_dat {δ : DE} {i : Nat} {d : D} : ∀ {vs : List Nat}, (wipeD δ vs)[i]? = some (.dat d) → δ[i]? = some (.dat d) ∧ i ∉ vs
  | [], h => by
    unfold wipeD at h
    rw [List.getElem?_map] at h
    cases q : δ[i]? with
    | none => rw [q] at h; cases h
    | some s =>
      rw [q] at h
      cases s with
      | dat d' => exact ⟨by simpa [unOwn] using h, by simp⟩
      | no => simp [unOwn] at h
      | own o => simp [unOwn] at h
      | raw a => simp [unOwn] at h
  | v :: vs, h => by
    unfold wipeD at h
    by_cases hi : v = i
    · subst hi
      by_cases hv : v < (wipeD δ vs).length
      · rw [List.getElem?_set_self hv] at h; cases h
      · rw [List.getElem?_eq_none (by simpa using hv)] at h; cases h
    · rw [List.getElem?_set_ne hi] at h
      obtain ⟨h1, h2⟩ := wipeD_dat h
      exact ⟨h1, by simp only [List.mem_cons, not_or]; exact ⟨fun e => hi e.symm, h2⟩⟩
theorem wipeD_raw {δ : DE} {i : Nat} {d : Nat} : ∀ {vs : List Nat}, (wipeD δ vs)[i]? = some (.raw d) → δ[i]? = some (.raw d) ∧ i ∉ vs
  | [], h => by
    unfold wipeD at h
    rw [List.getElem?_map] at h
    cases q : δ[i]? with
    | none => rw [q] at h; cases h
    | some s =>
      rw [q] at h
      cases s with
      | raw d' => exact ⟨by simpa [unOwn] using h, by simp⟩
      | no => simp [unOwn] at h
      | own o => simp [unOwn] at h
      | dat a => simp [unOwn] at h
  | v :: vs, h => by
    unfold wipeD at h
    by_cases hi : v = i
    · subst hi
      by_cases hv : v < (wipeD δ vs).length
      · rw [List.getElem?_set_self hv] at h; cases h
      · rw [List.getElem?_eq_none (by simpa using hv)] at h; cases h
    · rw [List.getElem?_set_ne hi] at h
      obtain ⟨h1, h2⟩ := wipeD_raw h
      exact ⟨h1, by simp only [List.mem_cons, not_or]; exact ⟨fun e => hi e.symm, h2⟩⟩
theorem wipeD_own {δ : DE} {i : Nat} {o : OD} : ∀ {vs : List Nat}, (wipeD δ vs)[i]? ≠ some (.own o)
  | [], h => by
    unfold wipeD at h
    rw [List.getElem?_map] at h
    cases q : δ[i]? with
    | none => rw [q] at h; cases h
    | some s =>
      rw [q] at h
      cases s <;> simp [unOwn] at h
  | v :: vs, h => by
    unfold wipeD at h
    by_cases hi : v = i
    · subst hi
      by_cases hv : v < (wipeD δ vs).length
      · rw [List.getElem?_set_self hv] at h; cases h
      · rw [List.getElem?_eq_none (by simpa using hv)] at h; cases h
    · rw [List.getElem?_set_ne hi] at h
      exact wipeD_own h
theorem wipe_get {σ : St} {i : Nat} {v : V} (h : σ[i]? = some (some v)) : ∀ {vs : List Nat}, i ∉ vs → (wipe σ vs)[i]? = some (some v)
  | [], _ => h
  | w :: vs, hi => by
    unfold wipe
    rw [List.getElem?_set_ne (fun e => hi (by rw [e]; exact List.mem_cons_self))]
    exact wipe_get h fun z => hi (List.mem_cons_of_mem _ z)
theorem ows_wipe {σ : St} {δ : DE} {vs : List Nat} {a : Addr} : ¬ ows σ (wipeD δ vs) a := fun ⟨_, _, h, _⟩ => wipeD_own h
/-- the block of a comprehension: N is what it makes -/
theorem Rp.blockN {K : PySem.W.Frag} {M : Addr → Prop} {H0 H1 H2 : Hp} {σ : St} {δ : DE} (R : Rp K T M H0 σ H1 δ) {N : Addr → Prop} (hn : ∀ a, N a → Fr H1 a) (x : Ext T H1 H2) (hN : ∀ a, N a → ∃ o, H2 a = some o ∧ NT o) (vs : List Nat) :
    Rp K T (fun a => MM M σ δ a ∨ N a) H2 (wipe σ vs) H2 (wipeD δ vs) := by
  have mx : ExtN (mask H1 (MM M σ δ)) (mask H2 (MM (fun a => MM M σ δ a ∨ N a) (wipe σ vs) (wipeD δ vs))) := mask_ext (fun a o e n na z => by
    rcases z with (z | z) | z
    · exact na z
    · exact hn a z o e n
    · exact ows_wipe z) x.keep
  refine ⟨Ext.refl T H2, x.tabs R.tab, fun a z => ?_, fun i d h => ?_, fun i o h => absurd h wipeD_own, fun i j o _ _ h => absurd h wipeD_own, by rw [unOwn_len, wipe_length, R.len], fun i a h => ?_, fun i o a h => absurd h wipeD_own, fun i o h => absurd h wipeD_own, fun i j o _ h => absurd h wipeD_own⟩
  · rcases z with z | z
    · obtain ⟨o, e, n⟩ := R.mm z
      exact ⟨o, x.keep a o e n, n, .inl ⟨o, x.keep a o e n, n⟩⟩
    · obtain ⟨o, e, n⟩ := hN a z
      exact ⟨o, e, n, .inl ⟨o, e, n⟩⟩
  · obtain ⟨h1, h2⟩ := wipeD_dat h
    obtain ⟨v, e1, e2⟩ := R.dat i d h1
    exact ⟨v, wipe_get e1 h2, dp_ext mx e2⟩
  · obtain ⟨h1, h2⟩ := wipeD_raw h
    exact wipe_get (R.raw i a h1) h2
theorem Rp.block {K : PySem.W.Frag} {M : Addr → Prop} {H0 H1 H2 : Hp} {σ : St} {δ : DE} (R : Rp K T M H0 σ H1 δ) {D : Addr} {acc : List V} (hn : H1 D = none) (x : Ext T H1 H2) (hD : H2 D = some (.lst acc)) (vs : List Nat) :
    Rp K T (fun a => MM M σ δ a ∨ a = D) H2 (wipe σ vs) H2 (wipeD δ vs) := R.blockN (N := fun a => a = D) (fun a z => z ▸ .of hn) x (fun a z => ⟨_, z ▸ hD, nt_lst acc⟩) vs
theorem wipe_wipe (σ : St) (vs : List Nat) : wipe (wipe σ vs) vs = wipe σ vs := by
  apply List.ext_getElem?
  intro i
  have key : ∀ (τ : St) (us : List Nat), (wipe τ us)[i]? = if i ∈ us ∧ i < τ.length then some none else τ[i]? := fun τ us => by
    induction us with
    | nil => simp [wipe]
    | cons u us ih =>
      unfold wipe
      by_cases hu : u = i
      · subst hu
        by_cases hl : u < τ.length
        · rw [List.getElem?_set_self (by rw [wipe_length]; exact hl), if_pos ⟨List.mem_cons_self, hl⟩]
        · rw [List.getElem?_eq_none (by rw [List.length_set, wipe_length]; omega), if_neg (fun z => hl z.2), List.getElem?_eq_none (by omega)]
      · rw [List.getElem?_set_ne hu, ih]
        simp [List.mem_cons, Ne.symm hu]
  rw [key, key, wipe_length]
  split
  · rfl
  · rename_i h
    rfl
theorem lcGo_cons {g : XG} {t : XT} {f : XE} {δ : DE} {x : D} {xs ys : List D} (h : lcGo g t f δ (x :: xs) = some ys) : ∃ δ1, g x δ = some δ1 ∧
    ((t δ1 = some (.ok true) ∧ ∃ y zs, f δ1 = some (.ok y) ∧ lcGo g t f δ xs = some zs ∧ ys = y :: zs) ∨ (t δ1 = some (.ok false) ∧ lcGo g t f δ xs = some ys)) := by
  unfold lcGo at h
  cases q : g x δ with
  | none => rw [q] at h; cases h
  | some δ1 =>
    rw [q] at h
    refine ⟨δ1, rfl, ?_⟩
    dsimp only [Option.bind_some] at h
    split at h
    · rename_i q1
      split at h
      · rename_i y q2
        cases q3 : lcGo g t f δ xs with
        | none => rw [q3] at h; cases h
        | some zs =>
          rw [q3] at h
          cases h
          exact .inl ⟨q1, y, zs, q2, rfl, rfl⟩
      · cases h
    · rename_i q1
      exact .inr ⟨q1, h⟩
    · cases h
theorem lc_imp {it : XL} {g : XG} {t : XT} {f : XE} {σ : St} {H : Hp} {Q : VK} (h : tF X.K T cm E (xLc it g t f vs) σ H Q) : tLc (tI X.K T cm E it) (tG X.K T vs g) (tT X.K T cm E0 t) (tD X.K T cm E0 f) vs σ H Q := by
  obtain ⟨M, H0, δ, r, R, e, a⟩ := h
  rcases bnd_of e with ⟨xs, ex, e⟩ | ⟨c, ex, rfl⟩
  · cases q : lcGo g t f (wipeD δ vs) xs with
    | none => rw [q] at e; cases e
    | some ys =>
      rw [q] at e
      cases e
      refine ⟨M, H0, δ, .ok xs, R, ex, fun H1 x1 J hlen hJ D hD => ?_⟩
      have R1 := R.grow x1
      have t1 := R1.tab
      refine ⟨fun i m H2 => m = xs.length - i ∧ i ≤ xs.length ∧ Ext T H1 H2 ∧ ∃ acc ysi zs, H2 D = some (.lst acc) ∧ DvAll X.K (mask H2 (fun b => MM M σ δ b ∨ b = D)) acc ysi ∧ lcGo g t f (wipeD δ vs) (xs.drop i) = some zs ∧ ys = ysi ++ zs ∧ acc.length ≤ i,
        ⟨xs.length, by simp, Nat.zero_le _, Ext.fresh _ hD, [], [], ys, upd_same, .nil, q, rfl, Nat.le_refl _⟩, ?_⟩
      rintro i m H2 ⟨rfl, hi, x2, acc, ysi, zs, hacc, hdv, hgo, hys, hal⟩
      have mM : Msk (fun b => MM M σ δ b ∨ b = D) H2 := fun b z => by
        rcases z with z | z
        · obtain ⟨o, e, n⟩ := R1.mm z
          exact ⟨o, x2.keep b o e n, n⟩
        · subst z
          exact ⟨_, hacc, nt_lst _⟩
      obtain ⟨j1, j2⟩ := hJ i H2 (fun b => MM M σ δ b ∨ b = D) ⟨(mask_sub H1 _).trans x2.keep, fun _ => x2.tabs t1⟩ mM (fun b z => by
        rcases z with z | z
        · exact .inr fun o e _ => by rw [mask_in z] at e; cases e
        · refine .inr fun o e _ => ?_
          subst z
          have := (of_mask e).2
          rw [hD] at this; cases this)
      by_cases hlt : i < xs.length
      · refine .inr ⟨(j1 hlt).1, fun H3 => ∃ m', m' < xs.length - i ∧ m' = xs.length - (i + 1) ∧ i + 1 ≤ xs.length ∧ Ext T H1 H3 ∧ ∃ acc ysi zs, H3 D = some (.lst acc) ∧ DvAll X.K (mask H3 (fun b => MM M σ δ b ∨ b = D)) acc ysi ∧ lcGo g t f (wipeD δ vs) (xs.drop (i + 1)) = some zs ∧ ys = ysi ++ zs ∧ acc.length ≤ i + 1, fun H3 h => h, fun x H3 hy => ?_⟩
        obtain ⟨x3, d, ed, hd⟩ := (j1 hlt).2 x H3 hy
        have edrop : xs.drop i = d :: xs.drop (i + 1) := by
          rw [List.drop_eq_getElem_cons hlt]
          rw [List.getElem?_eq_getElem hlt] at ed
          cases ed
          rfl
        rw [edrop] at hgo
        obtain ⟨δ1, eg, hh⟩ := lcGo_cons hgo
        have hacc3 : H3 D = some (.lst acc) := x3.keep D _ hacc (nt_lst _)
        have RB := R1.block hD (x2.trans x3) hacc3 vs
        have mmB : ∀ b, MM (fun b => MM M σ δ b ∨ b = D) (wipe σ vs) (wipeD δ vs) b → MM M σ δ b ∨ b = D := fun b z => by
          rcases z with z | z
          · exact z
          · exact absurd z ows_wipe
        refine ⟨_, H3, wipeD δ vs, d, δ1, RB, dp_ext (mask_le mmB (ExtN.refl H3)) hd, eg, fun σ4 H4 R4 x4 w4 z4 => ⟨w4.trans (wipe_wipe σ vs), ?_⟩⟩
        rcases hh with ⟨et, y, zs', ef, hgo', rfl⟩ | ⟨et, hgo'⟩
        · refine ⟨_, H3, δ1, .ok true, R4, et, fun H5 x5 => ?_⟩
          show tD X.K T cm E0 f σ4 H5 _
          refine ⟨_, H3, δ1, .ok y, R4.grow x5, ef, fun H6 x6 v hv => ?_⟩
          have xx : Ext T H2 H6 := x3.trans (x4.trans (x5.trans x6))
          have hacc6 : H6 D = some (.lst acc) := xx.keep D _ hacc (nt_lst _)
          have mw : ExtN (mask H6 (fun b => MM M σ δ b ∨ b = D)) (mask (upd H6 D (.lst (acc ++ [v]))) (fun b => MM M σ δ b ∨ b = D)) := fun b o e n => by
            obtain ⟨nb, e'⟩ := of_mask e
            rw [mask_out nb, upd_ne (fun z => nb (.inr z))]
            exact e'
          refine ⟨acc, hacc6, by rw [← szLine]; omega, xs.length - (i + 1), by omega, rfl, by omega, ⟨fun b o e n => ?_, fun _ => tabs_write hacc6 (nx_lst acc) (xx.tabs (x2.tabs t1))⟩, acc ++ [v], ysi ++ [y], zs', upd_same, ?_, hgo', by rw [hys, List.append_assoc]; rfl, by rw [List.length_append]; simp; omega⟩
          · have hb : b ≠ D := fun z => by subst z; rw [hD] at e; cases e
            rw [upd_ne hb]
            exact xx.keep b o (x2.keep b o e n) n
          · exact dpAll_app (dpAll_ext mw (xx.dvs hdv)) (.cons (dp_ext mw (dp_ext (mask_le (fun b z => .inl z) (ExtN.refl H6)) hv)) .nil)
        · refine ⟨_, H3, δ1, .ok false, R4, et, fun H5 x5 => ?_⟩
          have xx : Ext T H2 H5 := x3.trans (x4.trans x5)
          show ∃ m', _
          exact ⟨xs.length - (i + 1), by omega, rfl, by omega, x2.trans xx, acc, ysi, zs, xx.keep D _ hacc (nt_lst _), xx.dvs hdv, hgo', hys, by omega⟩
      · have ei : i = xs.length := by omega
        refine .inl ⟨j2 ei, ?_⟩
        rw [ei, List.drop_length] at hgo
        cases hgo
        rw [List.append_nil] at hys
        subst hys
        exact a H2 (x1.trans x2) D acc (Fr.back x1 (.of hD)) hacc hdv
  · exact ⟨M, H0, δ, .ex c, R, ex, a⟩
theorem PTsimp {ifs : List Expr} {t t' : TT} (h : PTs X ifs t) (w : ∀ σ H Q, t' σ H Q → t σ H Q) : PTs X ifs t' := ⟨fun pins s σ H Q I q => h.run pins s σ H Q I (w σ H Q q)⟩
theorem dts_nil : PTs X [] (tT X.K T cm E yTrue) := PTsimp pts_nil fun σ H Q h => by
  obtain ⟨M, H0, δ, r, R, e, a⟩ := h
  cases e
  exact a H (Ext.refl T H)
theorem dts_one {t : XT} (h : PT X e (tT X.K T cm E t)) : PTs X [e] (tT X.K T cm E t) := pts_one h
theorem df_lc {elt : Expr} {ifs : List Expr} {scope : Scope} {own : List (Str × Nat)} {it : XL} {g : XG} {t : XT} {f : XE} (hc : X.calm = true) (hN : X.N.Nodup) (hi : PI X tg iter (tI X.K T cm E it)) (ok : BlkOk X.N X.env.scope scope own)
    (hg : ∀ (s : Shared) (H : Hp) (C : Addr) (cl : List (Str × Addr)) (fp : List Addr), PG (X.blk s H scope (compEnvC scope cl C X.env) fp) tg (tG X.K T (own.map (·.2)) g)) (ht : ∀ (s : Shared) (H : Hp) (C : Addr) (cl : List (Str × Addr)) (fp : List Addr), PTs (X.blk s H scope (compEnvC scope cl C X.env) fp) ifs (tT X.K T cm E0 t))
    (he : ∀ (s : Shared) (H : Hp) (C : Addr) (cl : List (Str × Addr)) (fp : List Addr), PE (X.blk s H scope (compEnvC scope cl C X.env) fp) elt (tD X.K T cm E0 f)) (hs : ∀ x, foldedSetIterable iter X.env x = pure x := by intro _; rfl) :
    PE X (.ListComp elt [⟨tg, iter, ifs, 0⟩] scope pos) (tF X.K T cm E (xLc it g t f (own.map (·.2)))) := PEimp (pe_lc hc hN hi ok hg ht he hs) fun _ _ _ h => lc_imp h
end
end DL
set_option Elab.async false
set_option linter.all false
set_option maxRecDepth 100000
set_option maxHeartbeats 4000000
set_option autoImplicit false
namespace DL
open PySem L2
open LamX (ExtN Tabs TabS CodeO)
/-! ### statements -/
/-- M holds M0, and beyond it what is new since H0 -/
structure Sub (M0 M : Addr → Prop) (H0 : Hp) : Prop where
  at0 : ∀ a, M0 a → ∃ o, H0 a = some o ∧ NT o
  le : ∀ a, M0 a → M a
  new : ∀ a, M a → M0 a ∨ ∀ o, H0 a = some o → ¬ NT o
theorem Sub.refl {M : Addr → Prop} {H : Hp} (m : Msk M H) : Sub M M H := ⟨m, fun _ z => z, fun _ z => .inl z⟩
def StP (K : PySem.W.Frag) (T : List (Addr × Str)) (cm : Nat → Value) (E : XK) (M0 : Addr → Prop) (H0 : Hp) (En : Ends) (o : Out) : Prop := match o with
  | .nx δ => ∀ M σ H, Sub M0 M H0 → Rp K T M H0 σ H δ → En.nx σ H
  | .bk δ => ∀ M σ H, Sub M0 M H0 → Rp K T M H0 σ H δ → En.bk σ H
  | .ct δ => ∀ M σ H, Sub M0 M H0 → Rp K T M H0 σ H δ → En.ct σ H
  | .rt d => ∀ v H, Ext T H0 H → Dv K (mask H M0) v d → En.rt v H
  | .ex c => ∀ H, Ext T H0 H → E (cm c) none H
def tSt (K : PySem.W.Frag) (T : List (Addr × Str)) (cm : Nat → Value) (E : XK) (g : XS) : TS := fun En σ H => ∃ M0 M H0 δ o, Sub M0 M H0 ∧ Rp K T M H0 σ H δ ∧ g δ = some o ∧ StP K T cm E M0 H0 En o
/-- the same with M as it is -/
def StPo (K : PySem.W.Frag) (T : List (Addr × Str)) (cm : Nat → Value) (E : XK) (M : Addr → Prop) (H0 : Hp) (En : Ends) (o : Out) : Prop := match o with
  | .nx δ => ∀ σ H, Rp K T M H0 σ H δ → En.nx σ H
  | .bk δ => ∀ σ H, Rp K T M H0 σ H δ → En.bk σ H
  | .ct δ => ∀ σ H, Rp K T M H0 σ H δ → En.ct σ H
  | .rt d => ∀ v H, Ext T H0 H → Dv K (mask H M) v d → En.rt v H
  | .ex c => ∀ H, Ext T H0 H → E (cm c) none H
theorem StP.old {K : PySem.W.Frag} {T : List (Addr × Str)} {cm : Nat → Value} {E : XK} {M0 M : Addr → Prop} {H0 : Hp} {En : Ends} {o : Out} (S : Sub M0 M H0) (k : StP K T cm E M0 H0 En o) : StPo K T cm E M H0 En o := by
  cases o with
  | nx δ => exact fun σ H R => k M σ H S R
  | bk δ => exact fun σ H R => k M σ H S R
  | ct δ => exact fun σ H R => k M σ H S R
  | rt d => exact fun v H x h => k v H x (dp_ext (mask_le S.le (ExtN.refl H)) h)
  | ex c => exact k
theorem tSt.old {K : PySem.W.Frag} {T : List (Addr × Str)} {cm : Nat → Value} {E : XK} {g : XS} {En : Ends} {σ : St} {H : Hp} (h : tSt K T cm E g En σ H) : ∃ M H0 δ o, Rp K T M H0 σ H δ ∧ g δ = some o ∧ StPo K T cm E M H0 En o := by
  obtain ⟨M0, M, H0, δ, o, S, R, e, k⟩ := h
  exact ⟨M, H0, δ, o, R, e, k.old S⟩
theorem onE_of {α : Type} {x : Pr α} {f : α → Option Out} {o : Out} (h : onE x f = some o) : (∃ a, x = some (.ok a) ∧ f a = some o) ∨ ∃ c, x = some (.ex c) ∧ o = .ex c := by
  cases x with
  | none => cases h
  | some y =>
    cases y with
    | ok a => exact .inl ⟨a, rfl, h⟩
    | ex c => cases h; exact .inr ⟨c, rfl, rfl⟩
section
variable {X : Cx} {T : List (Addr × Str)} {cm : Nat → Value} {E : XK} {A B C : XE} {L : XL} {a b c e tg iter : Expr} {pos p : Pos} {vs : List Nat} {es : List Expr} {st : Stmt} {rest : List Stmt} {s t : XS} {σ : St} {H : Hp} {En : Ends}
theorem PSimp {t t' : TS} (h : PS X st t) (w : ∀ D σ H, t' D σ H → t D σ H) : PS X st t' := ⟨fun pins s σ H D I q => h.run pins s σ H D I (w D σ H q)⟩
theorem PSsimp {t t' : TS} (h : PSs X rest t) (w : ∀ D σ H, t' D σ H → t D σ H) : PSs X rest t' := ⟨fun pins s σ H D I q => h.run pins s σ H D I (w D σ H q)⟩
theorem StP.ex' {M M0 : Addr → Prop} {H0 H1 : Hp} {δ : DE} {c : Nat} {α : Type} {k : α → Hp → Prop} (h : StP X.K T cm E M0 H0 En (.ex c)) (R : Rp X.K T M H0 σ H1 δ) : Ans T cm E H1 (.ex c) k := fun H' x => h H' (R.ext.trans x)
theorem StPo.ex' {M : Addr → Prop} {H0 H1 : Hp} {δ : DE} {c : Nat} {α : Type} {k : α → Hp → Prop} (h : StPo X.K T cm E M H0 En (.ex c)) (R : Rp X.K T M H0 σ H1 δ) : Ans T cm E H1 (.ex c) k := fun H' x => h H' (R.ext.trans x)
theorem dss_nil : PSs X [] (tSt X.K T cm E sNext) := PSsimp pss_nil fun En σ H h => by
  obtain ⟨M, H0, δ, o, R, e, k⟩ := h.old
  cases e
  exact k σ H R
theorem dss_cons (h1 : PS X st (tSt X.K T cm E s)) (h2 : PSs X rest (tSt X.K T cm E t)) : PSs X (st :: rest) (tSt X.K T cm E (sSeq s t)) := PSsimp (pss_cons h1 h2) fun En σ H h => by
  obtain ⟨M0, M, H0, δ, o, S, R, e, k⟩ := h
  unfold sSeq at e
  cases q : s δ with
  | none => rw [q] at e; cases e
  | some o1 =>
    rw [q] at e
    refine ⟨M0, M, H0, δ, o1, S, R, q, ?_⟩
    cases o1 with
    | nx δ1 => exact fun M1 σ1 H1 S1 R1 => ⟨M0, M1, H0, δ1, o, S1, R1, e, k⟩
    | bk δ1 => cases e; exact k
    | ct δ1 => cases e; exact k
    | rt d => cases e; exact k
    | ex c => cases e; exact k
theorem dss_one (h1 : PS X st (tSt X.K T cm E s)) : PSs X [st] (tSt X.K T cm E s) := pss_one h1
theorem ds_pass : PS X (.Pass pos) (tSt X.K T cm E sNext) := PSimp ps_pass fun En σ H h => by
  obtain ⟨M, H0, δ, o, R, e, k⟩ := h.old
  cases e
  exact k σ H R
theorem ds_break : PS X (.Break pos) (tSt X.K T cm E sBreak) := PSimp ps_break fun En σ H h => by
  obtain ⟨M, H0, δ, o, R, e, k⟩ := h.old
  cases e
  exact k σ H R
theorem ds_cont : PS X (.Continue pos) (tSt X.K T cm E sCont) := PSimp ps_continue fun En σ H h => by
  obtain ⟨M, H0, δ, o, R, e, k⟩ := h.old
  cases e
  exact k σ H R
theorem ds_never : PS X st (tSt X.K T cm E sNever) := PSimp ps_never fun En σ H h => by
  obtain ⟨M, H0, δ, o, R, e, k⟩ := h.old
  cases e
theorem ds_ret (he : PE X e (tD X.K T cm E A)) : PS X (.Return (some e) pos) (tSt X.K T cm E (sRet A)) := PSimp (ps_ret he) fun En σ H h => by
  obtain ⟨M, H0, δ, o, R, e, k⟩ := h.old
  rcases onE_of e with ⟨x, ex, e⟩ | ⟨c, ex, rfl⟩
  · cases e
    exact ⟨M, H0, δ, .ok x, R, ex, fun H1 x1 v hv => k v H1 (R.ext.trans x1) (dp_ext (mask_le (fun _ z => .inl z) (ExtN.refl H1)) hv)⟩
  · exact ⟨M, H0, δ, .ex c, R, ex, k.ex' R⟩
theorem ds_retN : PS X (.Return none pos) (tSt X.K T cm E sRetN) := PSimp ps_retN fun En σ H h => by
  obtain ⟨M, H0, δ, o, R, e, k⟩ := h.old
  cases e
  exact k _ H R.ext .non
theorem ds_drop (he : PE X e (tD X.K T cm E A)) (hs : swapsWith e none pos.line X.env = pure false := by rfl) : PS X (.Expr e pos) (tSt X.K T cm E (sDrop A)) := PSimp (ps_expr he hs) fun En σ H h => by
  obtain ⟨M, H0, δ, o, R, e, k⟩ := h.old
  rcases onE_of e with ⟨x, ex, e⟩ | ⟨c, ex, rfl⟩
  · cases e
    exact ⟨M, H0, δ, .ok x, R, ex, fun H1 x1 v hv => k σ H1 (R.grow x1)⟩
  · exact ⟨M, H0, δ, .ex c, R, ex, k.ex' R⟩
theorem ds_if {u : XT} {as bs : List Stmt} (hc : PT X c (tT X.K T cm E u)) (ha : PSs X as (tSt X.K T cm E s)) (hb : PSs X bs (tSt X.K T cm E t)) : PS X (.If c as bs pos) (tSt X.K T cm E (sIf u s t)) := PSimp (ps_if hc ha hb) fun En σ H h => by
  obtain ⟨M0, M, H0, δ, o, S, R, e, k⟩ := h
  rcases onE_of e with ⟨x, ex, e⟩ | ⟨c, ex, rfl⟩
  · refine ⟨M, H0, δ, .ok x, R, ex, fun H1 x1 => ?_⟩
    cases x with
    | true => exact ⟨M0, M, H0, δ, o, S, R.grow x1, e, k⟩
    | false => exact ⟨M0, M, H0, δ, o, S, R.grow x1, e, k⟩
  · exact ⟨M, H0, δ, .ex c, R, ex, k.ex' R⟩
/-! ### assignments -/
theorem asgD_imp {i : Nat} (h : tSt X.K T cm E (sAsg A (gN i)) En σ H) : tAsg (tD X.K T cm E A) (gName i) En σ H := by
  obtain ⟨M, H0, δ, o, R, e, k⟩ := h.old
  rcases onE_of e with ⟨x, ex, e⟩ | ⟨c, ex, rfl⟩
  · refine ⟨M, H0, δ, .ok x, R, ex, fun H1 x1 v hv => ?_⟩
    unfold gN at e
    split at e
    · rename_i hl
      cases e
      exact k _ H1 ((R.grow x1).setDat hl hv)
    · cases e
  · exact ⟨M, H0, δ, .ex c, R, ex, k.ex' R⟩
theorem asgN_imp {i : Nat} (h : tSt X.K T cm E (sNew i L) En σ H) : tAsg (tF X.K T cm E L) (gName i) En σ H := by
  obtain ⟨M, H0, δ, o, R, e, k⟩ := h.old
  rcases onE_of e with ⟨x, ex, e⟩ | ⟨c, ex, rfl⟩
  · refine ⟨M, H0, δ, .ok x, R, ex, fun H1 x1 q vs hn hp hv => ?_⟩
    have e : (if i < δ.length then some (Out.nx (δ.set i (.own (.lst x)))) else none) = some o := e
    split at e
    · rename_i hl
      cases e
      exact k _ H1 (R.newOwn hl x1 hn hp (.lst hv))
    · cases e
  · exact ⟨M, H0, δ, .ex c, R, ex, k.ex' R⟩
theorem asgF_imp {i : Nat} (h : tSt X.K T cm E (sAsg (xOfL L) (gN i)) En σ H) : tAsg (tF X.K T cm E L) (gName i) En σ H := by
  obtain ⟨M, H0, δ, o, R, e, k⟩ := h.old
  rcases onE_of e with ⟨y, ey, e⟩ | ⟨c, ex, rfl⟩
  · rcases bnd_of ey with ⟨x, ex, ey⟩ | ⟨c, ex, z⟩
    · cases ey
      refine ⟨M, H0, δ, .ok x, R, ex, fun H1 x1 q vs hn hp hv => ?_⟩
      unfold gN at e
      split at e
      · rename_i hl
        cases e
        exact k _ H1 ((R.grow x1).setDat hl (dv_ofF R.msk hn hp hv))
      · cases e
    · cases z
  · rcases bnd_of ex with ⟨x, ex', ey⟩ | ⟨c', ex', z⟩
    · cases ey
    · cases z
      exact ⟨M, H0, δ, .ex _, R, ex', k.ex' R⟩
theorem ds_set (i : Nat) {x : Str} {pos' : Pos} (hN : X.N.Nodup) (he : PE X e (tD X.K T cm E A)) (hi : X.N[i]? = some x := by rfl) (hx : Loc X.env.scope x := by first | exact Or.inl rfl | exact Or.inr rfl) (hs : swapsWith e (some (.Name x pos')) pos.line X.env = pure false := by rfl) (hf : X.fn x = true ∨ X.env.scope.names.lookup x = some .local := by first | exact .inl rfl | exact .inr rfl | assumption) :
    PS X (.Assign [.Name x pos'] e pos) (tSt X.K T cm E (sAsg A (gN i))) := PSimp (ps_set hN hi hx he hs hf) fun _ _ _ h => asgD_imp h
theorem ds_new (i : Nat) {x : Str} {pos' : Pos} (hN : X.N.Nodup) (he : PE X e (tF X.K T cm E L)) (hi : X.N[i]? = some x := by rfl) (hx : Loc X.env.scope x := by first | exact Or.inl rfl | exact Or.inr rfl) (hs : swapsWith e (some (.Name x pos')) pos.line X.env = pure false := by rfl) (hf : X.fn x = true ∨ X.env.scope.names.lookup x = some .local := by first | exact .inl rfl | exact .inr rfl | assumption) :
    PS X (.Assign [.Name x pos'] e pos) (tSt X.K T cm E (sNew i L)) := PSimp (ps_set hN hi hx he hs hf) fun _ _ _ h => asgN_imp h
/-- x = [.. for ..] on one line, x a plain local: as an own list, as data -/
theorem ds_newLc (i : Nat) {x : Str} {pos' : Pos} {elt : Expr} {ifs : List Expr} {scope : Scope} {own : List (Str × Nat)} {it : XL} {g : XG} {u : XT} {f : XE} {cpos : Pos} (hc : X.calm = true) (hN : X.N.Nodup) (hy : X.N[i]? = some x) (hyl : X.env.scope.names.lookup x = some .local)
    (hsw : swapsWith (.ListComp elt [⟨tg, iter, ifs, 0⟩] scope cpos) (some (.Name x pos')) pos.line X.env = pure true) (hi : PI X tg iter (tI X.K T cm E it)) (ok : BlkOk X.N X.env.scope scope own)
    (hg : ∀ (s : Shared) (H : Hp) (C : Addr) (cl : List (Str × Addr)) (fp : List Addr), PG (X.blk s H scope (compEnvC scope cl C X.env) fp) tg (tG X.K T (own.map (·.2)) g)) (ht : ∀ (s : Shared) (H : Hp) (C : Addr) (cl : List (Str × Addr)) (fp : List Addr), PTs (X.blk s H scope (compEnvC scope cl C X.env) fp) ifs (tT X.K T cm E0 u))
    (he : ∀ (s : Shared) (H : Hp) (C : Addr) (cl : List (Str × Addr)) (fp : List Addr), PE (X.blk s H scope (compEnvC scope cl C X.env) fp) elt (tD X.K T cm E0 f)) (hs : ∀ x, foldedSetIterable iter X.env x = pure x := by intro _; rfl) :
    PS X (.Assign [.Name x pos'] (.ListComp elt [⟨tg, iter, ifs, 0⟩] scope cpos) pos) (tSt X.K T cm E (sNew i (xLc it g u f (own.map (·.2))))) := PSimp (ps_setLc hc hN hy hyl hsw hi ok hg ht he hs) fun _ _ _ h => lc_imp (asgN_imp h)
theorem ds_setLc (i : Nat) {x : Str} {pos' : Pos} {elt : Expr} {ifs : List Expr} {scope : Scope} {own : List (Str × Nat)} {it : XL} {g : XG} {u : XT} {f : XE} {cpos : Pos} (hc : X.calm = true) (hN : X.N.Nodup) (hy : X.N[i]? = some x) (hyl : X.env.scope.names.lookup x = some .local)
    (hsw : swapsWith (.ListComp elt [⟨tg, iter, ifs, 0⟩] scope cpos) (some (.Name x pos')) pos.line X.env = pure true) (hi : PI X tg iter (tI X.K T cm E it)) (ok : BlkOk X.N X.env.scope scope own)
    (hg : ∀ (s : Shared) (H : Hp) (C : Addr) (cl : List (Str × Addr)) (fp : List Addr), PG (X.blk s H scope (compEnvC scope cl C X.env) fp) tg (tG X.K T (own.map (·.2)) g)) (ht : ∀ (s : Shared) (H : Hp) (C : Addr) (cl : List (Str × Addr)) (fp : List Addr), PTs (X.blk s H scope (compEnvC scope cl C X.env) fp) ifs (tT X.K T cm E0 u))
    (he : ∀ (s : Shared) (H : Hp) (C : Addr) (cl : List (Str × Addr)) (fp : List Addr), PE (X.blk s H scope (compEnvC scope cl C X.env) fp) elt (tD X.K T cm E0 f)) (hs : ∀ x, foldedSetIterable iter X.env x = pure x := by intro _; rfl) :
    PS X (.Assign [.Name x pos'] (.ListComp elt [⟨tg, iter, ifs, 0⟩] scope cpos) pos) (tSt X.K T cm E (sAsg (xOfL (xLc it g u f (own.map (·.2)))) (gN i))) := PSimp (ps_setLc hc hN hy hyl hsw hi ok hg ht he hs) fun _ _ _ h => lc_imp (asgF_imp h)
/-- target = value, any target -/
theorem ds_asg {g : XG} (he : PE X e (tD X.K T cm E A)) (hg : PG X tg (tG X.K T vs g)) (hs : swapsWithSole [tg] e pos.line X.env = pure false := by rfl) (hw : swappedStores [tg] e X.env = pure none := by rfl)
    (h1 : (assignEach [tg] X.env).map (·.2) = [assign tg X.env] := by rfl) : PS X (.Assign [tg] e pos) (tSt X.K T cm E (sAsg A g)) := PSimp (ps_asg he hg hs hw h1) fun En σ H h => by
  obtain ⟨M, H0, δ, o, R, e, k⟩ := h.old
  rcases onE_of e with ⟨x, ex, e⟩ | ⟨c, ex, rfl⟩
  · refine ⟨M, H0, δ, .ok x, R, ex, fun H1 x1 v hv => ?_⟩
    cases q : g x δ with
    | none => rw [q] at e; cases e
    | some δ1 =>
      rw [q] at e
      cases e
      exact ⟨M, H0, δ, x, δ1, R.grow x1, hv, q, fun σ' H' R' _ _ _ => k σ' H' R'⟩
  · exact ⟨M, H0, δ, .ex c, R, ex, k.ex' R⟩
/-- a, b = x, y with plain local names -/
theorem ds_par (i j : Nat) {x y : Str} {px py pt : Pos} {kt k2 : Nat} {pt2 : Pos} (hc : X.calm = true) (hN : X.N.Nodup) (hij : i ≠ j) (ha : PE X a (tD X.K T cm E A)) (hb : PE X b (tD X.K T cm E B)) (hi : X.N[i]? = some x := by rfl) (hj : X.N[j]? = some y := by rfl)
    (hx : X.env.scope.names.lookup x = some .local := by rfl) (hy : X.env.scope.names.lookup y = some .local := by rfl)
    (hw : swappedStores [.Tuple [.Name x px, .Name y py] kt pt] (.Tuple [a, b] k2 pt2) X.env = pure (some [x, y]) := by rfl)
    (hs : swapsWithSole [.Tuple [.Name x px, .Name y py] kt pt] (.Tuple [a, b] k2 pt2) pos.line X.env = pure false := by rfl)
    (h1 : starEach [a, b] X.env = (false, eval a X.env) :: starEach [b] X.env := by rfl) (h2 : starEach [b] X.env = (false, eval b X.env) :: starEach [] X.env := by rfl) :
    PS X (.Assign [.Tuple [.Name x px, .Name y py] kt pt] (.Tuple [a, b] k2 pt2) pos) (tSt X.K T cm E (sPar i j A B)) := PSimp (ps_par hc hN hi hj hij hx hy (pa_cons ha (pa_cons hb pa_nil h2) h1) hw hs) fun En σ H h => by
  obtain ⟨M, H0, δ, o, R, e, k⟩ := h.old
  rcases onE_of e with ⟨x, ex, e⟩ | ⟨c, ex, rfl⟩
  · refine ⟨M, H0, δ, .ok x, R, ex, fun H1 x1 v hv => ?_⟩
    rcases onE_of e with ⟨y, ey, e⟩ | ⟨c, ey, rfl⟩
    · refine ⟨M, H0, δ, .ok y, R.grow x1, ey, fun H2 x2 u hu => ⟨v, u, rfl, ?_⟩⟩
      have e : (if i < δ.length ∧ j < δ.length then some (Out.nx ((δ.set i (.dat x)).set j (.dat y))) else none) = some o := e
      split at e
      · rename_i hl
        cases e
        exact k _ H2 ((((R.grow x1).grow x2).setDat hl.1 (x2.dv hv)).setDat (by rw [List.length_set]; exact hl.2) (dp_ext (mask_le (mm_setDat hl.1) (ExtN.refl H2)) hu))
      · cases e
    · exact ⟨M, H0, δ, .ex c, R.grow x1, ey, k.ex' (R.grow x1)⟩
  · exact ⟨M, H0, δ, .ex c, R, ex, k.ex' R⟩
/-! ### own lists -/
theorem Rp.frz {K : PySem.W.Frag} {M : Addr → Prop} {H0 : Hp} {δ : DE} (R : Rp K T M H0 σ H δ) (i : Nat) : Rp K T M H0 σ H (frz i δ) := by
  unfold DL.frz
  split
  · rename_i o q
    exact R.freeze q
  · exact R
theorem ds_frz (i : Nat) (h : PS X st (tSt X.K T cm E s)) : PS X st (tSt X.K T cm E (sFrz i s)) := PSimp h fun En σ H h => by
  obtain ⟨M0, M, H0, δ, o, S, R, e, k⟩ := h
  exact ⟨M0, M, H0, frz i δ, o, S, R.frz i, e, k⟩
theorem own_lst {K : PySem.W.Frag} {M : Addr → Prop} {H0 : Hp} {δ : DE} {i : Nat} {ds : List D} (R : Rp K T M H0 σ H δ) (q : δ[i]? = some (.own (.lst ds))) : ∃ a vs, σ[i]? = some (some (.ref a)) ∧ H a = some (.lst vs) ∧ DvAll K (mask H (MM M σ δ)) vs ds := by
  obtain ⟨a, o, h1, h2, _, h4⟩ := R.own i _ q
  cases h4 with
  | lst h => exact ⟨a, _, h1, h2, h⟩
theorem ds_app (i : Nat) {x : Str} {px apos cpos : Pos} (he : PE X e (tD X.K T cm E A)) (hN : X.N[i]? = some x := by rfl) (hv : Vis X.env.scope x := by first | exact Or.inl rfl | exact Or.inr (Or.inl rfl)) (hd : (x == ("__debug__" : Str)) = false := by decide) (hcd : (x == ("__classdict__" : Str)) = false := by decide)
    (hb : attributeBase (.Name x px) "append" X.env (eval (.Name x px) X.env) = eval (.Name x px) X.env := by rfl) (hl : (apos.endLine == cpos.line) = true := by rfl) (hs : swapsWith (.Call (.Attribute (.Name x px) "append" apos) [e] [] cpos) none pos.line X.env = pure false := by rfl)
    (hst : starEach (e :: []) X.env = (false, eval e X.env) :: starEach [] X.env := by rfl)
    (hfew : ((backTo cpos (starEach (e :: []) X.env)).all (fun x => !x.1) && (backToKw cpos (keywordEach [] X.env)).all (fun x => x.1.isSome) && decide ((e :: ([] : List Expr)).length + ([] : List Keyword).length + (if ([] : List Keyword).isEmpty then 0 else 1) < 30)) = true := by rfl) (hpl : (backTo cpos (starEach [] X.env)).any (·.1) = false := by rfl) :
    PS X (.Expr (.Call (.Attribute (.Name x px) "append" apos) [e] [] cpos) pos) (tSt X.K T cm E (sApp i A)) :=
  PSimp (ps_expr (pe_bm PySem.F.plainAttrs_list PySem.F.slot_list_append PySem.F.type_list_append mt_append (pe_var hN hv hd hcd) (pa_cons he pa_nil hst) hb hfew hl hst hpl) hs) fun En σ H h => by
    obtain ⟨M, H0, δ, o, R, e, k⟩ := h.old
    unfold sApp at e
    split at e
    · rename_i ds q
      obtain ⟨a, vs, h1, h2, h3⟩ := own_lst R q
      refine ⟨.ref a, h1, .inl ⟨rfl, vs, SqL.of h2⟩, ?_⟩
      rcases onE_of e with ⟨y, ey, e⟩ | ⟨c, ey, rfl⟩
      · refine ⟨M, H0, δ, .ok y, R, ey, fun H1 x1 v hv => ?_⟩
        have e : (if ds.length < sz then some (Out.nx (δ.set i (.own (.lst (ds ++ [y]))))) else none) = some o := e
        split at e
        · rename_i hz
          cases e
          have h21 : H1 a = some (.lst vs) := x1.keep a _ h2 (nt_lst _)
          refine ⟨a, vs, v, rfl, rfl, h21, by rw [← szLine, dpAll_len h3]; exact hz, ?_⟩
          exact k σ _ ((R.grow x1).write q h1 h21 (.lst (dpAll_app (x1.dvs h3) (.cons hv .nil))))
        · cases e
      · exact ⟨M, H0, δ, .ex c, R, ey, k.ex' R⟩
    · cases e
/-! ### loops -/
/-- the heap ahead of a loop without what the def alone holds -/
noncomputable def hB (H : Hp) (M0 M : Addr → Prop) (σ : St) (δ : DE) : Hp := mask H fun a => ows σ δ a ∨ (M a ∧ ¬ M0 a)
theorem Rp.rebase {K : PySem.W.Frag} {M0 M : Addr → Prop} {H0 : Hp} {δ : DE} (S : Sub M0 M H0) (R : Rp K T M H0 σ H δ) : Rp K T M (hB H M0 M σ δ) σ H δ where
  ext := ⟨mask_sub H _, fun _ => R.tab⟩
  tab := R.tab
  base := fun a z => by
    obtain ⟨o, e, n, w⟩ := R.base a z
    refine ⟨o, e, n, w.imp (fun ⟨o', e', n'⟩ => ⟨o', ?_, n'⟩) id⟩
    unfold hB
    rw [mask_out]
    · exact R.ext.keep a o' e' n'
    · rintro (q | ⟨q1, q2⟩)
      · exact (R.ows_lst q).2 o' e' n'
      · rcases S.new a q1 with v | v
        · exact q2 v
        · exact v o' e' n'
  dat := R.dat
  own := fun i o h => by
    obtain ⟨a, v, h1, h2, h3, h4⟩ := R.own i o h
    exact ⟨a, v, h1, h2, fun o' e _ => (by unfold hB at e; rw [mask_in (.inl ⟨i, o, h, h1⟩)] at e; cases e), h4⟩
  inj := R.inj
  len := R.len
  raw := R.raw
  disj := R.disj
  rows := fun i dss h => by
    obtain ⟨a, as, h1, h2, h3⟩ := R.rows i dss h
    refine ⟨a, as, h1, h2, h3.ext (fun _ _ z => z) (fun b hb z o e n => ?_) (fun _ _ _ z => z) (ExtN.refl _)⟩
    have nb : ¬ M0 b := fun w => by
      obtain ⟨o, e, n⟩ := S.at0 b w
      exact z o e n
    unfold hB at e
    rw [mask_in (.inr ⟨(h3.new b hb).1, nb⟩)] at e
    cases e
  one := R.one
theorem Rp.ext0 {K : PySem.W.Frag} {M0 M : Addr → Prop} {H0 : Hp} {δ : DE} (S : Sub M0 M H0) (R : Rp K T M H0 σ H δ) : ExtN H0 (hB H M0 M σ δ) := fun a o e n => by
  unfold hB
  rw [mask_out]
  · exact R.ext.keep a o e n
  · rintro (w | ⟨w1, w2⟩)
    · exact (R.ows_lst w).2 o e n
    · rcases S.new a w1 with z | z
      · exact w2 z
      · exact z o e n
theorem Rp.subB {K : PySem.W.Frag} {M0 M : Addr → Prop} {H0 : Hp} {δ : DE} (S : Sub M0 M H0) (R : Rp K T M H0 σ H δ) : Sub M0 M (hB H M0 M σ δ) := by
  refine ⟨fun a z => ?_, S.le, fun a z => ?_⟩
  · obtain ⟨o, e, n⟩ := S.at0 a z
    exact ⟨o, R.ext0 S a o e n, n⟩
  · by_cases w : M0 a
    · exact .inl w
    · exact .inr fun o e _ => by unfold hB at e; rw [mask_in (.inr ⟨z, w⟩)] at e; cases e
theorem Rp.back {K : PySem.W.Frag} {M0 M M' : Addr → Prop} {H0 H' : Hp} {δ δ' : DE} {σ' : St} (S : Sub M0 M H0) (R : Rp K T M H0 σ H δ) (S' : Sub M0 M' (hB H M0 M σ δ)) (R' : Rp K T M' (hB H M0 M σ δ) σ' H' δ') : Rp K T M' H0 σ' H' δ' where
  ext := ⟨(R.ext0 S).trans R'.ext.keep, fun _ => R'.tab⟩
  tab := R'.tab
  base := fun a z => by
    obtain ⟨o, e, n, w⟩ := R'.base a z
    by_cases h0 : ∃ o', H0 a = some o' ∧ NT o'
    · exact ⟨o, e, n, .inl h0⟩
    · rcases w with ⟨o', e', n'⟩ | w
      · refine ⟨o, e, n, .inr ?_⟩
        have hne := R'.ext.keep a o' e' n'
        rw [e] at hne
        cases hne
        rcases S'.new a z with w | w
        · exact absurd (S.at0 a w) h0
        · exact absurd n' (w o e')
      · exact ⟨o, e, n, .inr w⟩
  dat := R'.dat
  own := fun i o h => by
    obtain ⟨a, v, h1, h2, h3, h4⟩ := R'.own i o h
    exact ⟨a, v, h1, h2, fun o' e n => h3 o' (R.ext0 S a o' e n) n, h4⟩
  inj := R'.inj
  len := R'.len
  raw := R'.raw
  disj := R'.disj
  rows := fun i dss h => by
    obtain ⟨a, as, h1, h2, h3⟩ := R'.rows i dss h
    exact ⟨a, as, h1, h2, h3.ext (fun _ _ z => z) (fun b _ z o e n => z o (R.ext0 S b o e n) n) (fun _ _ _ z => z) (ExtN.refl _)⟩
  one := R'.one
theorem Sub.back {K : PySem.W.Frag} {M0 M M' : Addr → Prop} {H0 : Hp} {δ : DE} (S : Sub M0 M H0) (R : Rp K T M H0 σ H δ) (S' : Sub M0 M' (hB H M0 M σ δ)) : Sub M0 M' H0 :=
  ⟨S.at0, S'.le, fun a z => (S'.new a z).imp id fun w o e n => w o (R.ext0 S a o e n) n⟩
theorem Rp.tab0 {K : PySem.W.Frag} {M0 M : Addr → Prop} {H0 : Hp} {δ : DE} (S : Sub M0 M H0) (R : Rp K T M H0 σ H δ) : Tabs T (hB H M0 M σ δ) := fun p hp => by
  have nx : ∀ a o, H a = some o → (ows σ δ a ∨ (M a ∧ ¬ M0 a)) → NX o := fun a o e z => by
    rcases z with ⟨i, d, h1, h2⟩ | ⟨z1, z2⟩
    · obtain ⟨b, v, e1, e2, _, e4⟩ := R.own i d h1
      rw [h2] at e1
      cases e1
      rw [e] at e2
      cases e2
      exact e4.nx
    · obtain ⟨o', e', n, w⟩ := R.base a z1
      rw [e] at e'
      cases e'
      rcases w with ⟨o2, e2, n2⟩ | w
      · rcases S.new a z1 with q | q
        · exact absurd q z2
        · exact absurd n2 (q o2 e2)
      · exact w
  obtain ⟨ps, h1, h2, h3⟩ := R.tab p hp
  unfold hB
  refine ⟨ps, ?_, h2, fun pos cv hc => ?_⟩
  · rw [mask_out (fun z => (nx _ _ h1 z).1 ps rfl)]; exact h1
  · obtain ⟨c, e, h4⟩ := h3 pos cv hc
    exact ⟨c, e, by rw [mask_out (fun z => (nx _ _ h4 z).2 _ _ rfl)]; exact h4⟩
theorem StP.base {K : PySem.W.Frag} {M0 M : Addr → Prop} {H0 : Hp} {δ : DE} {o : Out} (S : Sub M0 M H0) (R : Rp K T M H0 σ H δ) (k : StP K T cm E M0 H0 En o) (tb : Tabs T (hB H M0 M σ δ)) : StP K T cm E M0 (hB H M0 M σ δ) En o := by
  have x : ∀ H', Ext T (hB H M0 M σ δ) H' → Ext T H0 H' := fun H' y => ⟨(R.ext0 S).trans y.keep, fun _ => y.tabs tb⟩
  cases o with
  | nx δ1 => exact fun M1 σ1 H1 S1 R1 => k M1 σ1 H1 (S.back R S1) (R.back S S1 R1)
  | bk δ1 => exact fun M1 σ1 H1 S1 R1 => k M1 σ1 H1 (S.back R S1) (R.back S S1 R1)
  | ct δ1 => exact fun M1 σ1 H1 S1 R1 => k M1 σ1 H1 (S.back R S1) (R.back S S1 R1)
  | rt d => exact fun v H1 y => k v H1 (x H1 y)
  | ex c => exact fun H1 y => k H1 (x H1 y)
theorem for_imp {it : XL} {g : XG} {body : XS} (h : tSt X.K T cm E (sFor it g body) En σ H) : tFor (tI X.K T cm E it) (tG X.K T vs g) (tSt X.K T cm E body) En σ H := by
  obtain ⟨M0, M, H0, δ, o, S, R, e, k⟩ := h
  rcases onE_of e with ⟨ds, ex, e⟩ | ⟨c, ex, rfl⟩
  · refine ⟨M, H0, δ, .ok ds, R, ex, fun H1 x1 J hlen hJ => ?_⟩
    have R1 := R.grow x1
    have kB := StP.base S R1 k (R1.tab0 S)
    have RB := R1.rebase S
    have SB := R1.subB S
    refine ⟨fun i m σ2 H2 => m = ds.length - i ∧ i ≤ ds.length ∧ ∃ M2 δ2, Sub M0 M2 (hB H1 M0 M σ δ) ∧ Rp X.K T M2 (hB H1 M0 M σ δ) σ2 H2 δ2 ∧ forGo g body (ds.drop i) δ2 = some o, ⟨ds.length, by simp, Nat.zero_le _, M, δ, SB, RB, by simpa using e⟩, ?_⟩
    rintro i m σ2 H2 ⟨rfl, hi, M2, δ2, S2, R2, hgo⟩
    have xm : ExtN (mask H1 (MM M σ δ)) (hB H1 M0 M σ δ) := fun a o e n => by
      obtain ⟨na, e'⟩ := of_mask e
      unfold hB
      rw [mask_out (fun z => na (z.elim .inr fun w => .inl w.1))]
      exact e'
    obtain ⟨j1, j2⟩ := hJ i H2 (MM M2 σ2 δ2) ⟨xm.trans R2.ext.keep, fun _ => R2.tab⟩ R2.msk (fun b z => by
      rcases z with z | z
      · rcases S2.new b z with w | w
        · exact .inl (S.le b w)
        · exact .inr fun o e n => w o (xm b o e n) n
      · exact .inr fun o e n => (R2.ows_lst z).2 o (xm b o e n) n)
    by_cases hlt : i < ds.length
    · refine .inr ⟨(j1 hlt).1, fun σ' H' => ∃ m', m' < ds.length - i ∧ m' = ds.length - (i + 1) ∧ i + 1 ≤ ds.length ∧ ∃ M2 δ2, Sub M0 M2 (hB H1 M0 M σ δ) ∧ Rp X.K T M2 (hB H1 M0 M σ δ) σ' H' δ2 ∧ forGo g body (ds.drop (i + 1)) δ2 = some o, fun _ _ h => h, fun x H3 hy => ?_⟩
      obtain ⟨x3, d, ed, hd⟩ := (j1 hlt).2 x H3 hy
      have edrop : ds.drop i = d :: ds.drop (i + 1) := by
        rw [List.drop_eq_getElem_cons hlt]
        rw [List.getElem?_eq_getElem hlt] at ed
        cases ed
        rfl
      rw [edrop, forGo] at hgo
      cases q : g d δ2 with
      | none => rw [q] at hgo; cases hgo
      | some δ3 =>
        rw [q] at hgo
        dsimp only [Option.bind_some] at hgo
        refine ⟨M2, _, δ2, d, δ3, R2.grow x3, hd, q, fun σ4 H4 R4 _ _ _ => ?_⟩
        cases qb : body δ3 with
        | none => rw [qb] at hgo; cases hgo
        | some ob =>
          rw [qb] at hgo
          refine ⟨M0, M2, _, δ3, ob, S2, R4, qb, ?_⟩
          cases ob with
          | nx δ5 => exact fun M5 σ5 H5 S5 R5 => ⟨ds.length - (i + 1), by omega, rfl, by omega, M5, δ5, S5, R5, hgo⟩
          | ct δ5 => exact fun M5 σ5 H5 S5 R5 => ⟨ds.length - (i + 1), by omega, rfl, by omega, M5, δ5, S5, R5, hgo⟩
          | bk δ5 => cases hgo; exact kB
          | rt d => cases hgo; exact kB
          | ex c => cases hgo; exact kB
    · have ei : i = ds.length := by omega
      refine .inl ⟨j2 ei, ?_⟩
      rw [ei, List.drop_length] at hgo
      cases hgo
      exact kB M2 σ2 H2 S2 R2
  · exact ⟨M, H0, δ, .ex c, R, ex, k.ex' R⟩
theorem ds_for {it : XL} {g : XG} {body : XS} {bs : List Stmt} (hp : PassesOwn (model X.prog X.w) X.A X.env X.xe) (hc : X.calm = true) (hi : PI X tg iter (tI X.K T cm E it)) (hg : PG X tg (tG X.K T vs g)) (hb : PSs X bs (tSt X.K T cm E body))
    (hs : ∀ x, foldedSetIterable iter X.env x = pure x := by intro _; rfl) : PS X (.For tg iter bs [] pos) (tSt X.K T cm E (sFor it g body)) := PSimp (ps_for hp hc hi hg hb hs) fun _ _ _ h => for_imp h
/-- a while, at most n turns -/
theorem while_imp {u : XT} {body : XS} {n : Nat} (h : tSt X.K T cm E (sWhile n u body) En σ H) : tWhile (tT X.K T cm E u) (tSt X.K T cm E body) En σ H := by
  obtain ⟨M0, M, H0, δ, o, S, R, e, k⟩ := h
  refine ⟨fun m σ2 H2 => ∃ M2 δ2, Sub M0 M2 H0 ∧ Rp X.K T M2 H0 σ2 H2 δ2 ∧ whGo u body m δ2 = some o, ⟨n, M, δ, S, R, e⟩, ?_⟩
  rintro m σ2 H2 ⟨M2, δ2, S2, R2, hgo⟩
  cases m with
  | zero => cases hgo
  | succ m =>
    rw [whGo] at hgo
    rcases onE_of hgo with ⟨x, ex, e⟩ | ⟨c, ex, rfl⟩
    · refine ⟨M2, H0, δ2, .ok x, R2, ex, fun H3 x3 => ?_⟩
      cases x with
      | false =>
        cases e
        exact k M2 σ2 H3 S2 (R2.grow x3)
      | true =>
        rw [if_pos rfl] at e
        refine ⟨fun σ' H' => ∃ m', m' < m + 1 ∧ ∃ M2 δ2, Sub M0 M2 H0 ∧ Rp X.K T M2 H0 σ' H' δ2 ∧ whGo u body m' δ2 = some o, fun _ _ h => h, ?_⟩
        cases qb : body δ2 with
        | none => rw [qb] at e; cases e
        | some ob =>
          rw [qb] at e
          refine ⟨M0, M2, H0, δ2, ob, S2, R2.grow x3, qb, ?_⟩
          cases ob with
          | nx δ5 => exact fun M5 σ5 H5 S5 R5 => ⟨m, Nat.lt_succ_self _, M5, δ5, S5, R5, e⟩
          | ct δ5 => exact fun M5 σ5 H5 S5 R5 => ⟨m, Nat.lt_succ_self _, M5, δ5, S5, R5, e⟩
          | bk δ5 => cases e; exact k
          | rt d => cases e; exact k
          | ex c => cases e; exact k
    · exact ⟨M2, H0, δ2, .ex c, R2, ex, k.ex' R2⟩
theorem ds_while (n : Nat) {u : XT} {body : XS} {bs : List Stmt} (hp : PassesOwn (model X.prog X.w) X.A X.env X.xe) (hc : PT X c (tT X.K T cm E u)) (hb : PSs X bs (tSt X.K T cm E body)) : PS X (.While c bs [] pos) (tSt X.K T cm E (sWhile n u body)) :=
  PSimp (ps_while hp hc hb) fun _ _ _ h => while_imp h
end
/-! ### a def -/
section
variable {P : Program} {w : World} {K : PySem.W.Frag} {mg : Str → Option Value} {base : Heap} {T : List (Addr × Str)} {cm : Nat → Value}
theorem start_get {n i : Nat} {ds : List D} {d : D} (h : (start n ds)[i]? = some (.dat d)) : ds[i]? = some d := by
  unfold start at h
  by_cases hi : i < ds.length
  · rw [List.getElem?_append_left (by simpa using hi), List.getElem?_map] at h
    cases q : ds[i]? with
    | none => rw [q] at h; cases h
    | some x => rw [q] at h; cases h; rfl
  · rw [List.getElem?_append_right (by simpa using hi), List.getElem?_replicate] at h
    split at h <;> cases h
theorem start_own {n i : Nat} {ds : List D} {o : OD} : (start n ds)[i]? ≠ some (.own o) := fun h => by
  unfold start at h
  by_cases hi : i < ds.length
  · rw [List.getElem?_append_left (by simpa using hi), List.getElem?_map] at h
    cases q : ds[i]? with
    | none => rw [q] at h; cases h
    | some x => rw [q] at h; cases h
  · rw [List.getElem?_append_right (by simpa using hi), List.getElem?_replicate] at h
    split at h <;> cases h
theorem start_raw {n i : Nat} {ds : List D} {o : Nat} : (start n ds)[i]? ≠ some (.raw o) := fun h => by
  unfold start at h
  by_cases hi : i < ds.length
  · rw [List.getElem?_append_left (by simpa using hi), List.getElem?_map] at h
    cases q : ds[i]? with
    | none => rw [q] at h; cases h
    | some x => rw [q] at h; cases h
  · rw [List.getElem?_append_right (by simpa using hi), List.getElem?_replicate] at h
    split at h <;> cases h
theorem rp_start {M : Addr → Prop} {H : Hp} {N : List Str} {vs : List V} {ds : List D} (m : Msk M H) (t : Tabs T H) (h : DvAll K (mask H M) vs ds) (hl : ds.length ≤ N.length) : Rp K T M H (L2.start N vs) H (start N.length ds) := by
  have no : ∀ a, MM M (L2.start N vs) (start N.length ds) a → M a := fun a z => by
    rcases z with z | ⟨_, _, z, _⟩
    · exact z
    · exact absurd z start_own
  have hlen := dpAll_len h
  refine ⟨Ext.refl T H, t, fun a z => by obtain ⟨o, e, n⟩ := m a z; exact ⟨o, e, n, .inl ⟨o, e, n⟩⟩, fun i d hd => ?_, fun i o hd => absurd hd start_own, fun i j o _ _ hd => absurd hd start_own, ?_, fun i a hd => absurd hd start_raw, fun i o a hd => absurd hd start_own, fun i o hd => absurd hd start_own, fun i j o _ hd => absurd hd start_own⟩
  · have e := start_get hd
    obtain ⟨v, e1, e2⟩ := dpAll_get' h e
    refine ⟨v, ?_, dp_ext (mask_le no (ExtN.refl H)) e2⟩
    unfold L2.start
    rw [List.getElem?_append_left (by have := (List.getElem?_eq_some_iff.mp e1).1; simpa using this), List.getElem?_map, e1]
    rfl
  · unfold start L2.start
    simp only [List.length_append, List.length_map, List.length_replicate]
    omega
/-- THE RULE for a def: its body as a term of these rules -/
theorem fn_D {x qual : Str} {st : Stmt} {f : Addr} {fd : FuncData} {N ps : List Str} {k : Nat} {g : XS} (F : Fun K x qual st f fd) (S : FnScope N ps (defScope st))
    (hbody : ∀ (cdv : Value) (_ : fd.code = cdv) (A : Around) (outer : List Env) (s : Shared) (H : Hp) (E : XK), Room k (A.deeper (PyProof.Rows.envOfC qual (defScope st) s.heap.objs.size f cdv)) →
      PSs (cxOf (L2N.CX P w) P w K mg base N qual (defScope st) f cdv A outer s H E) (defBody st) (tSt K T cm E g)) : FnOk P w K mg base (L2N.CX P w) (k + 1) f fd ps (spD K T cm ps.length (fnD ps.length N.length g)) := by
  obtain ⟨oc, od, kV, doc, pm, an, cdv, ct, osl, rfl, lk, hcd⟩ := F.ex
  refine fn_of lk hcd S (fun vs H Q E h => ?_) (fun A outer s H vs Q E hr h => ⟨_, hbody cdv rfl A outer s H E hr, ?_⟩)
  · obtain ⟨M, ds, r, _, _, _, hl, _⟩ := h
    exact hl
  · obtain ⟨M, ds, r, m, t, hd, hl, e, a⟩ := h
    have hpl : ps.length ≤ N.length := by
      have := congrArg List.length S.pre
      rw [List.length_take] at this
      omega
    have hdl := dpAll_len hd
    have R := rp_start (N := N) m t hd (by omega)
    unfold fnD at e
    rw [if_pos (by omega)] at e
    cases q : g (start N.length ds) with
    | none => rw [q] at e; cases e
    | some o =>
      rw [q] at e
      refine ⟨M, M, H, _, o, Sub.refl m, R, q, ?_⟩
      cases o with
      | nx δ => cases e; exact fun _ σ' H' _ R' => a H' R'.ext .non .non
      | rt d => cases e; exact fun v H' x hv => a H' x v hv
      | ex c => cases e; exact a
      | bk δ => cases e
      | ct δ => cases e
end
end DL
set_option Elab.async false
set_option linter.all false
set_option maxRecDepth 100000
set_option maxHeartbeats 4000000
set_option autoImplicit false
namespace DL
open PySem L2
open LamX (ExtN Tabs TabS CodeO)
section
variable {X : Cx} {T : List (Addr × Str)} {cm : Nat → Value} {E : XK} {A B C : XE} {L : XL} {a b c e tg iter : Expr} {pos p : Pos} {vs : List Nat} {es : List Expr} {st : Stmt} {rest : List Stmt} {s t : XS} {σ : St} {H : Hp} {En : Ends}
/-! ### more of own lists -/
/-- [..] * n -/
theorem df_rep (ha : PE X a (tF X.K T cm E L)) (hb : PE X b (tD X.K T cm E B)) : PE X (.BinOp a .Mult b pos) (tF X.K T cm E (xRep L B)) := PEimp (pe_op op_rep ha hb) fun σ H Q h => by
  obtain ⟨M, H0, δ, r, R, e, a⟩ := h
  rcases bnd_of e with ⟨x, ex, e⟩ | ⟨c, ex, rfl⟩
  · refine ⟨M, H0, δ, .ok x, R, ex, fun H1 x1 q vs hn hp hv => ?_⟩
    rcases bnd_of e with ⟨y, ey, e⟩ | ⟨c, ey, rfl⟩
    · refine ⟨M, H0, δ, .ok y, R.grow x1, ey, fun H2 x2 u hu => ?_⟩
      cases y with
      | int k =>
        cases hu
        have e : (if (-(2 ^ 63) ≤ k ∧ k < 2 ^ 63) ∧ x.length * k.toNat ≤ sz then ret (List.replicate k.toNat x).flatten else none) = some r := e
        split at e
        · rename_i hz
          cases e
          refine ⟨q, k, vs, rfl, rfl, x2.keep q _ hp (nt_lst _), hz.1.1, hz.1.2, by rw [← szLine, dpAll_len hv]; exact hz.2, fun l hl => ?_⟩
          have hl0 : Fr H l := Fr.back x1 (Fr.back x2 (.of hl))
          refine a _ (x1.trans (x2.trans (Ext.fresh _ hl))) l _ hl0 upd_same ?_
          have h3 : DvAll X.K (mask H2 (MM M σ δ)) (List.replicate k.toNat vs).flatten (List.replicate k.toNat x).flatten := dpAll_rep (x2.dvs (dpAll_ext (mask_le (fun _ z => .inl z) (ExtN.refl H1)) hv)) _
          exact fresh_all hl h3
        · cases e
      | _ => cases e
    · exact ⟨M, H0, δ, .ex c, R.grow x1, ey, a.grow x1⟩
  · exact ⟨M, H0, δ, .ex c, R, ex, a⟩
theorem de_ownIx (i : Nat) {x : Str} {px : Pos} (hb : PE X b (tD X.K T cm E B)) (hs : PlainIx b) (hN : X.N[i]? = some x := by rfl) (hv : Vis X.env.scope x := by first | exact Or.inl rfl | exact Or.inr (Or.inl rfl)) (hd : (x == ("__debug__" : Str)) = false := by decide) (hcd : (x == ("__classdict__" : Str)) = false := by decide) :
    PE X (.Subscript (.Name x px) b pos) (tD X.K T cm E (xOwnIx i B)) := PEimp (pe_ix ix_list (pe_var hN hv hd hcd) hb hs) fun σ H Q h => by
  obtain ⟨M, H0, δ, r, R, e, a⟩ := h
  unfold xOwnIx at e
  split at e
  · rename_i ds q
    obtain ⟨l, vs, h1, h2, h3⟩ := own_lst R q
    refine ⟨.ref l, h1, ?_⟩
    rcases bnd_of e with ⟨y, ey, e⟩ | ⟨c, ey, rfl⟩
    · refine ⟨M, H0, δ, .ok y, R, ey, fun H1 x1 u hu => ?_⟩
      cases y with
      | int k =>
        cases hu
        have e : lift (atI ds k) = some r := e
        cases q2 : atI ds k with
        | none => rw [q2] at e; cases e
        | some d =>
          rw [q2] at e
          cases e
          obtain ⟨w, w1, w2⟩ := atI_dv (x1.dvs h3) q2
          exact ⟨l, vs, k, w, rfl, rfl, SqL.of (x1.keep l _ h2 (nt_lst _)), w1, a H1 x1 w w2⟩
      | _ => cases e
    · exact ⟨M, H0, δ, .ex c, R, ey, a⟩
  · cases e
theorem de_ownLen (i : Nat) {x : Str} {px : Pos} (hg : Gl X "len") (hm : X.mg "len" = none) (hN : X.N[i]? = some x := by rfl) (hv : Vis X.env.scope x := by first | exact Or.inl rfl | exact Or.inr (Or.inl rfl)) (hd : (x == ("__debug__" : Str)) = false := by decide) (hcd : (x == ("__classdict__" : Str)) = false := by decide)
    (he : starEach (.Name x px :: []) X.env = (false, eval (.Name x px) X.env) :: starEach [] X.env := by rfl) : PE X (.Call (.Name "len" p) [.Name x px] [] pos) (tD X.K T cm E (xOwnLen i)) := PEimp (pe_callB call_len hg hm PySem.boot_len (pa_cons (pe_var hN hv hd hcd) pa_nil he) (by decide) (by decide) he) fun σ H Q h => by
  obtain ⟨M, H0, δ, r, R, e, a⟩ := h
  unfold xOwnLen at e
  split at e
  · rename_i ds q
    cases e
    obtain ⟨l, vs, h1, h2, h3⟩ := own_lst R q
    refine ⟨.ref l, h1, .ref l, vs.length, rfl, .inl ⟨vs, SqL.of h2, rfl⟩, ?_⟩
    rw [dpAll_len h3]
    exact a H (Ext.refl T H) _ (.int _)
  · cases e
/-- xs[k] = e -/
theorem ds_setIx (i : Nat) {x : Str} {px tpos : Pos} (he : PE X e (tD X.K T cm E A)) (hb : PE X b (tD X.K T cm E B)) (hN : X.N[i]? = some x := by rfl) (hv : Vis X.env.scope x := by first | exact Or.inl rfl | exact Or.inr (Or.inl rfl)) (hd : (x == ("__debug__" : Str)) = false := by decide) (hcd : (x == ("__classdict__" : Str)) = false := by decide)
    (ha : ∀ v, assign (.Subscript (.Name x px) b tpos) X.env v = (do
      let ov ← holding [v] (eval (.Name x px) X.env)
      let iv ← holding [v, ov] (eval b X.env)
      standAt tpos
      holding [v, ov, iv] (setItem ov iv v)
      release [v, ov, iv] []) := by intro _; rfl)
    (hs : swapsWithSole [.Subscript (.Name x px) b tpos] e pos.line X.env = pure false := by rfl) (hw : swappedStores [.Subscript (.Name x px) b tpos] e X.env = pure none := by rfl)
    (h1 : (assignEach [.Subscript (.Name x px) b tpos] X.env).map (·.2) = [assign (.Subscript (.Name x px) b tpos) X.env] := by rfl) :
    PS X (.Assign [.Subscript (.Name x px) b tpos] e pos) (tSt X.K T cm E (sSetIx i B A)) := PSimp (ps_asg he (pg_sub (pe_var hN hv hd hcd) hb set_list ha) hs hw h1) fun En σ H h => by
  obtain ⟨M, H0, δ, o, R, e, k⟩ := h.old
  unfold sSetIx at e
  split at e
  · rename_i ds q
    obtain ⟨l, vs, h1, h2, h3⟩ := own_lst R q
    rcases onE_of e with ⟨y, ey, e⟩ | ⟨c, ey, rfl⟩
    · refine ⟨M, H0, δ, .ok y, R, ey, fun H1 x1 v hv => ⟨.ref l, h1, ?_⟩⟩
      rcases onE_of e with ⟨z, ez, e⟩ | ⟨c, ez, rfl⟩
      · refine ⟨M, H0, δ, .ok z, R.grow x1, ez, fun H2 x2 u hu => ?_⟩
        cases z with
        | int n =>
          cases hu
          have e : (match ixN ds.length n with | some j => some (Out.nx (δ.set i (.own (.lst (ds.set j y))))) | none => none) = some o := e
          cases q2 : ixN ds.length n with
          | none => rw [q2] at e; cases e
          | some j =>
            rw [q2] at e
            cases e
            have h22 : H2 l = some (.lst vs) := (x1.trans x2).keep l _ h2 (nt_lst _)
            refine ⟨l, vs, n, j, rfl, rfl, h22, by rw [dpAll_len h3, ixN_eq]; exact q2, ?_⟩
            exact k σ _ (((R.grow x1).grow x2).write q h1 h22 (.lst (dpAll_set (x2.dv hv) j ((x1.trans x2).dvs h3))))
        | _ => cases e
      · exact ⟨M, H0, δ, .ex c, R.grow x1, ez, k.ex' (R.grow x1)⟩
    · exact ⟨M, H0, δ, .ex c, R, ey, k.ex' R⟩
  · cases e
/-! ### extend -/
/-- xs.extend(a list or tuple) -/
theorem ds_extend (i : Nat) {x : Str} {px apos cpos : Pos} (he : PE X e (tD X.K T cm E A)) (hN : X.N[i]? = some x := by rfl) (hv : Vis X.env.scope x := by first | exact Or.inl rfl | exact Or.inr (Or.inl rfl)) (hd : (x == ("__debug__" : Str)) = false := by decide) (hcd : (x == ("__classdict__" : Str)) = false := by decide)
    (hb : attributeBase (.Name x px) "extend" X.env (eval (.Name x px) X.env) = eval (.Name x px) X.env := by rfl) (hl : (apos.endLine == cpos.line) = true := by rfl) (hs : swapsWith (.Call (.Attribute (.Name x px) "extend" apos) [e] [] cpos) none pos.line X.env = pure false := by rfl)
    (hst : starEach (e :: []) X.env = (false, eval e X.env) :: starEach [] X.env := by rfl)
    (hfew : ((backTo cpos (starEach (e :: []) X.env)).all (fun x => !x.1) && (backToKw cpos (keywordEach [] X.env)).all (fun x => x.1.isSome) && decide ((e :: ([] : List Expr)).length + ([] : List Keyword).length + (if ([] : List Keyword).isEmpty then 0 else 1) < 30)) = true := by rfl) (hpl : (backTo cpos (starEach [] X.env)).any (·.1) = false := by rfl) :
    PS X (.Expr (.Call (.Attribute (.Name x px) "extend" apos) [e] [] cpos) pos) (tSt X.K T cm E (sExtend i A)) :=
  PSimp (ps_expr (pe_bm PySem.F.plainAttrs_list PySem.F.slot_list_extend PySem.F.type_list_extend mt_extendG (pe_var hN hv hd hcd) (pa_cons he pa_nil hst) hb hfew hl hst hpl) hs) fun En σ H h => by
    obtain ⟨M, H0, δ, o, R, e, k⟩ := h.old
    unfold sExtend at e
    split at e
    · rename_i ds q
      obtain ⟨a, vs, h1, h2, h3⟩ := own_lst R q
      refine ⟨.ref a, h1, .inl ⟨rfl, vs, SqL.of h2⟩, ?_⟩
      rcases onE_of e with ⟨y, ey, e⟩ | ⟨c, ey, rfl⟩
      · refine ⟨M, H0, δ, .ok _, R, ey, fun H1 x1 v hv => ?_⟩
        have h21 : H1 a = some (.lst vs) := x1.keep a _ h2 (nt_lst _)
        cases hv with
        | @lst b zs es hb hzs =>
          have e : (if ds.length + es.length ≤ sz then some (Out.nx (δ.set i (.own (.lst (ds ++ es))))) else none) = some o := e
          split at e
          · rename_i hz
            cases e
            refine ⟨a, b, vs, zs, rfl, rfl, h21, .inl (sl_un hb), by rw [← szLine, dpAll_len h3, dpAll_len hzs]; exact hz, ?_⟩
            exact k σ _ ((R.grow x1).write q h1 h21 (.lst (dpAll_app (x1.dvs h3) hzs)))
          · cases e
        | @tup b zs es hb hzs =>
          have e : (if ds.length + es.length ≤ sz then some (Out.nx (δ.set i (.own (.lst (ds ++ es))))) else none) = some o := e
          split at e
          · rename_i hz
            cases e
            refine ⟨a, b, vs, zs, rfl, rfl, h21, .inr (st_un hb), by rw [← szLine, dpAll_len h3, dpAll_len hzs]; exact hz, ?_⟩
            exact k σ _ ((R.grow x1).write q h1 h21 (.lst (dpAll_app (x1.dvs h3) hzs)))
          · cases e
        | _ => cases e
      · exact ⟨M, H0, δ, .ex c, R, ey, k.ex' R⟩
    · cases e
/-! ### sorted -/
theorem each_of {K : PySem.W.Frag} {G : Hp} : ∀ {vs : List V} {us : List Value} {ds : List D}, Vals vs us → DvAll K G vs ds → PySem.W.EachIs (fun u d => ∃ x, RelV x u ∧ Dv K G x d) us ds
  | _, _, _, .nil, .nil => .nil
  | _, _, _, .cons r rs, .cons h hs => .cons ⟨_, r, h⟩ (each_of rs hs)
theorem of_each {K : PySem.W.Frag} {G : Hp} : ∀ {us : List Value} {ds : List D}, PySem.W.EachIs (fun u d => ∃ x, RelV x u ∧ Dv K G x d) us ds → ∃ vs, Vals vs us ∧ DvAll K G vs ds
  | _, _, .nil => ⟨[], .nil, .nil⟩
  | _, _, .cons ⟨x, r, h⟩ t => by
    obtain ⟨vs, rs, hs⟩ := of_each t
    exact ⟨x :: vs, .cons r rs, .cons h hs⟩
theorem each_reads {pins : List (Addr × Obj)} {sh : Shared} {G : Hp} {M : Addr → Prop} (I : Inv X pins σ H sh) (hG : G = mask H M) : ∀ {vs : List V} {us : List Value} {ds : List D}, Vals vs us → DvAll X.K G vs ds → (∀ d ∈ ds, SeqAt.shaped d = true) → PySem.W.EachIs (fun u d => ∃ as, Reads sh.heap u (id d) as) us ds
  | _, _, _, .nil, .nil, _ => .nil
  | _, _, _, .cons r rs, .cons h hs, hz => by
    subst hG
    exact .cons (Dp.reads I _ _ _ (dv_dpS h.un (hz _ List.mem_cons_self)) r) (each_reads I rfl rs hs fun d hd => hz d (List.mem_cons_of_mem _ hd))
theorem perm_sorted : ∀ {a b : List Int}, a.Perm b → a.Pairwise (· ≤ ·) → b.Pairwise (· ≤ ·) → a = b
  | [], b, h, _, _ => by rw [List.nil_perm.mp h]
  | x :: a, [], h, _, _ => by have := h.length_eq; simp at this
  | x :: a, y :: b, h, ha, hb => by
    obtain ⟨a1, a2⟩ := List.pairwise_cons.mp ha
    obtain ⟨b1, b2⟩ := List.pairwise_cons.mp hb
    have e : x = y := by
      have h1 : x ∈ y :: b := h.mem_iff.mp (by simp)
      have h2 : y ∈ x :: a := h.mem_iff.mpr (by simp)
      rcases List.mem_cons.mp h1 with e | e
      · exact e
      · rcases List.mem_cons.mp h2 with e2 | e2
        · exact e2.symm
        · have := b1 x e; have := a1 y e2; omega
    subst e
    rw [perm_sorted (List.Perm.cons_inv h) a2 b2]
theorem isort_sp (ns : List Int) : (isort ns).Perm ns ∧ (isort ns).Pairwise (· ≤ ·) := by
  refine ⟨List.mergeSort_perm _ _, ?_⟩
  have := List.pairwise_mergeSort (le := fun a b : Int => decide (a ≤ b)) (fun a b c h1 h2 => by simp at *; omega) (fun a b => by simp; omega) ns
  exact this.imp fun h => by simpa using h
/-- what a tuple is collected into -/
abbrev gotL (h : Heap) (vs : List Value) : Heap := (h.push (PyProof.Rows.seqObj "list" #[] 0)).update h.objs.size (Obj.mapSeq (· ++ vs.toArray))
theorem collect_tup {P : Program} {w : World} {A : Around} {E : Value → Shared → Prop} {s : Shared} {l : Addr} {o : Obj} {vs : List Value} {n : Nat} {Q : List Value → Shared → Prop} (ho : s.heap.get? l = some o) (hc : o.cls = .type "tuple") (hd : o.data = .seq vs.toArray n) (hz : vs.length ≤ sizeLine) (q : Q vs { s with heap := gotL s.heap vs }) : wpAny (model P w) A (collect (.ref l)) Q E s := by
  unfold collect; refine wpAny_bind (wpAny_runValue (codeAny_builtin PyProof.Rows.entry_proto_collect' ?_))
  show wpAny _ _ (do again (.builtin "list.__iadd__" ⟨[← newList [], .ref l], []⟩)) _ _ s; refine wpAny_bind (wpAny_newList (wpAny_pure ⟨Code.quiet_builtin _ (by decide +kernel), codeAny_builtin PyProof.Rows.entry_list_iadd' ?_⟩))
  show wpAny _ _ (Builtin.List.listExtendWith (.ref s.heap.objs.size) (.ref l) (.ref s.heap.objs.size)) _ _ { s with heap := s.heap.push (PyProof.Rows.seqObj "list" #[] 0) }; unfold Builtin.List.listExtendWith
  have lo : (s.heap.push (PyProof.Rows.seqObj "list" #[] 0)).get? l = some o := Heap.get?_push_of_some _ ho
  have new0 : (s.heap.push (PyProof.Rows.seqObj "list" #[] 0)).get? s.heap.objs.size = some (PyProof.Rows.seqObj "list" #[] 0) := Heap.get?_push_size _ rfl
  refine wpAny_bind (wpAny_typeOf (T := "tuple") ⟨o, lo, hc⟩ ?_)
  have t1 : (Value.type "tuple" == Value.type "list") = false := by decide
  have t2 : (Value.type "tuple" == Value.type "tuple") = true := by decide
  rw [if_pos (by rw [t1, t2]; simp)]
  refine wpAny_bind (PyProof.Rows.listItems_at lo hd (wpAny_bind (PyProof.Rows.listItems_at (xs := #[]) (n := 0) new0 rfl ?_))); rw [if_neg (by simp)]
  refine wpAny_bind (PyProof.Rows.listUpdate_at (xs := #[]) (n := 0) new0 rfl ?_ (Nat.zero_le _) (by show (#[] ++ vs.toArray).size ≤ sizeLine + 1; simp only [Array.size_append, List.size_toArray, List.length_nil]; omega))
  refine wpAny_pure ?_
  show wpAny (model P w) A (load s.heap.objs.size >>= _) Q E { s with heap := gotL s.heap vs }
  refine wpAny_bind (wpAny_load (PyProof.Rows.get?_update_seq new0 _) ?_)
  show wpAny _ _ (pure ((#[] : Array Value) ++ vs.toArray).toList) Q E _
  have e : ((#[] : Array Value) ++ vs.toArray).toList = vs := by simp
  rw [e]; exact wpAny_pure q
/-- sorted(t), t a tuple of ints -/
theorem sorted_tup {P : Program} {w : World} {A : Around} {E : Value → Shared → Prop} {s : Shared} {l : Addr} {o : Obj} {vs : List Value} {n : Nat} {ns : List Int} {Q : Value → Shared → Prop} (ho : s.heap.get? l = some o) (hc : o.cls = .type "tuple") (hd : o.data = .seq vs.toArray n) (hz : vs.length ≤ sizeLine) (hI : PyProof.Rows.IntsAre vs ns)
    (h : ∀ (g : Heap) (p : Addr) (out : List Value) (ep : Nat), (∀ b u, s.heap.get? b = some u → g.get? b = some u) → s.heap.objs.size ≤ p → g.get? p = some (PyProof.Rows.seqObj "list" out.toArray ep) → PyProof.Rows.IntsAre out (isort ns) → Q (.ref p) { s with heap := g }) : wpAny (model P w) A (call (.builtin "sorted") [.ref l]) Q E s := by
  refine Calls.call_function_entry PyProof.Rows.kind_sorted PyProof.Rows.plain_sorted PyProof.Rows.entry_sorted (PyProof.Rows.args_sorted1 _) ?_
  unfold Builtin.«sorted»
  refine wpAny_bind (m := checkCount "sorted" 1 1 _) (wpAny_pure (wpAny_bind (collect_tup ho hc hd hz ?_)))
  refine wpAny_bind (wpAny_newList ?_ hz)
  have zs : (gotL s.heap vs).objs.size = s.heap.objs.size + 1 := by unfold gotL; rw [Heap.size_update]; exact Heap.size_push ..
  have kp : ∀ b u, s.heap.get? b = some u → (gotL s.heap vs).get? b = some u := fun b u q => by
    unfold gotL
    rw [Heap.get?_update_ne _ _ _ _ (Nat.ne_of_lt (Heap.lt_size q))]
    exact Heap.get?_push_of_some _ q
  show wpAny _ _ _ _ _ { s with heap := (gotL s.heap vs).push (PyProof.Rows.seqObj "list" vs.toArray 0) }
  generalize gotL s.heap vs = g at zs kp
  have hob : (g.push (PyProof.Rows.seqObj "list" vs.toArray 0)).get? g.objs.size = some (PyProof.Rows.seqObj "list" vs.toArray 0) := Heap.get?_push_size _ rfl
  refine wpAny_bind (wpAny_holding (wpAny_call_entry (s := { s with heap := g.push (PyProof.Rows.seqObj "list" vs.toArray 0) }) PyProof.Rows.slot_list_sort ⟨_, hob, rfl⟩ PyProof.Rows.entry_list_sort (SrtO.list_sort_ord SrtO.swo_int hob hz (fun h2 => SrtO.ints_sortable hI h2) fun out h1 h2 => ⟨_, rfl, ?_⟩) (PyProof.Rows.args_list_sort _)))
  obtain ⟨k1, k2, k3⟩ := SrtO.ints_out hI h1 h2
  obtain ⟨ep, he⟩ := PyProof.Rows.sortedHeap_at (vs := vs) (out := out.toArray) hob
  have e : out.map SrtO.iv = isort ns := perm_sorted (k2.trans (isort_sp ns).1.symm) k3 (isort_sp ns).2
  have le : s.heap.objs.size ≤ g.objs.size := by rw [zs]; exact Nat.le_succ _
  refine wpAny_pure ⟨_, rfl, h _ _ out ep (fun b u q => ?_) le he (e ▸ k1)⟩
  have hb : b ≠ g.objs.size := fun z => absurd (z ▸ Heap.lt_size q) (Nat.not_lt_of_le le)
  rw [PyProof.Rows.sortedHeap_old hb (Heap.lt_size (Heap.get?_push_of_some _ (kp b u q)))]
  exact Heap.get?_push_of_some _ (kp b u q)
theorem call_sortedD (hu : X.A.units + 200 < cLine) : CallR X (.builtin "sorted") (rL1 (rF1 X.K T sortD)) := by
  intro pins s σ H xs us Q I r h
  obtain ⟨x, rfl, M, dx, d, m, hx, e, q⟩ := h
  cases hx with
  | @lst a xs ds ha hds =>
    have e : (if sortOk ds = true then some (sortL ds) else none) = some d := e
    split at e
    · rename_i hz
      cases e
      unfold sortOk at hz
      rw [Bool.and_eq_true, Bool.and_eq_true, Bool.or_eq_true, List.all_eq_true, List.all_eq_true, List.all_eq_true, List.all_eq_true] at hz
      obtain ⟨⟨z1, z2⟩, z3⟩ := hz
      obtain ⟨its, rv, hl, hlen⟩ := I.list (sl_un ha)
      rw [Vals.ref1 r]
      have hal : PySem.W.AllAlike (ds.map id) := by
        rw [List.map_id]
        exact fun d hd d' hd' => List.all_eq_true.mp (z1 d hd) d' hd'
      have hk : PySem.W.Sortable (ds.map id) := by
        rw [List.map_id]
        rcases z2 with z | z
        · refine .inl fun d hd => ?_
          have := z d hd
          cases d with
          | tuple ys =>
            cases ys with
            | nil => cases this
            | cons y ys => exact ⟨y, ys, rfl⟩
          | _ => cases this
        · refine .inr fun d hd => ?_
          have := z d hd
          cases d with
          | none => cases this
          | tuple ys => cases this
          | _ => exact ⟨fun h => PyData.noConfusion h, fun _ h => PyData.noConfusion h⟩
      have hn := dpAll_len hds
      refine PySem.W.sorted_data (enc := id) (R := fun u d => ∃ x, RelV x u ∧ Dv X.K (mask H M) x d) hl.isList (each_of rv hds) (each_reads I rfl rv hds z3) hal hk (by omega) (fun b hb => ?_) fun out hout ho => ?_
      · have := SeqAt.depth_of_shaped (z3 b hb)
        show X.A.units + 2 + PyData.depth b < cLine
        omega
      · obtain ⟨vs', r1, h1⟩ := of_each ho
        obtain ⟨ep, he'⟩ := PyProof.Rows.sortedAll_at s.heap its out.toArray
        have hf := I.hok.fresh (Nat.le_succ s.heap.objs.size)
        refine ⟨.ref _, upd H (s.heap.objs.size + 1) (.lst vs'), I.laid (t' := s.toks) (fun _ _ => PyProof.Rows.sortedAll_old) (Nat.le_succ _) ⟨?_, out, ep, r1, he'⟩, rfl, ?_⟩
        · rw [r1.length, hout]; omega
        · exact q _ _ _ (Ext.fresh _ hf) (.of hf) upd_same (fresh_all hf h1)
    · cases e
  | @tup a xs ds ha hds =>
    have e : ((intsOf ds).bind fun ns => if ns.length ≤ sz then some ((isort ns).map PyData.int) else none) = some d := e
    cases q1 : intsOf ds with
    | none => rw [q1] at e; cases e
    | some ns =>
      rw [q1] at e
      have e : (if ns.length ≤ sz then some ((isort ns).map PyData.int) else none) = some d := e
      split at e
      · rename_i hz
        cases e
        have e1 := ints_dv hds q1
        subst e1
        obtain ⟨its, rv, ⟨o, ho, hc, n, hd⟩, hlen⟩ := I.tuple (st_un ha)
        have hi := rv.ints
        rw [Vals.ref1 r]
        refine sorted_tup ho hc hd (by rw [← rv.length]; exact hlen) hi fun g p out ep kp le he ho2 => ?_
        have hl2 : ((isort ns).map V.int).length ≤ sizeLine := by rw [List.length_map, (isort_sp ns).1.length_eq, ← szLine]; exact hz
        have hn : H p = none := I.hok.fresh le
        refine ⟨.ref p, upd H p (.lst ((isort ns).map V.int)), I.laid (t' := s.toks) kp le ⟨hl2, out, ep, vals_of_ints ho2, he⟩, rfl, q p _ _ (Ext.fresh _ hn) (.of hn) upd_same ?_⟩
        have all : ∀ (G : Hp) (ms : List Int), DvAll X.K G (ms.map V.int) (ms.map PyData.int) := fun G ms => by
          induction ms with
          | nil => exact .nil
          | cons m ms ih => exact .cons (.int m) ih
        exact all _ _
      · cases e
  | _ => cases e
/-! ### a def by its name -/
end
/-- the def named x keeps what F tells, over every base -/
def OkD (P : Program) (w : World) (K : PySem.W.Frag) (mg : Str → Option Value) (T : List (Addr × Str)) (cm : Nat → Value) (k : Nat) (x : Str) (ps : List Str) (F : List D → Pr D) : Prop :=
  ∃ (f : Addr) (fd : FuncData), mg x = some (.ref f) ∧ PySem.W.keepIn K (.ref f) = true ∧ (∀ (s : Shared) (us : List Value), us.length = ps.length → BindsTo s fd ⟨us, []⟩ (ps.zip us)) ∧ ∀ base, FnOk P w K mg base (L2N.CX P w) k f fd ps (spD K T cm ps.length F)
section
variable {P : Program} {w : World} {K : PySem.W.Frag} {mg : Str → Option Value} {T : List (Addr × Str)} {cm : Nat → Value}
theorem OkD.imp {k : Nat} {x : Str} {ps : List Str} {F G : List D → Pr D} (h : OkD P w K mg T cm k x ps F) (e : ∀ ds r, G ds = some r → F ds = some r) : OkD P w K mg T cm k x ps G := by
  obtain ⟨f, fd, h1, h2, h3, h5⟩ := h
  exact ⟨f, fd, h1, h2, h3, fun base => (h5 base).imp fun vs H Q E z => by
    obtain ⟨M, ds, r, a1, a2, a3, a4, a5, a6⟩ := z
    exact ⟨M, ds, r, a1, a2, a3, a4, e ds r a5, a6⟩⟩
theorem OkD.mono {j k : Nat} {x : Str} {ps : List Str} {F : List D → Pr D} (h : OkD P w K mg T cm j x ps F) (e : j ≤ k) : OkD P w K mg T cm k x ps F := by
  obtain ⟨f, fd, h1, h2, h3, h5⟩ := h
  exact ⟨f, fd, h1, h2, h3, fun base => (h5 base).mono e⟩
end
section
variable {X : Cx} {T : List (Addr × Str)} {cm : Nat → Value} {E : XK} {L : XL} {e : Expr} {es : List Expr} {pos p : Pos} {k j : Nat} {x : Str} {ps : List Str} {F : List D → Pr D}
theorem de_fn (G : OkD X.prog X.w X.K X.mg T cm j x ps F) (hr : Room k X.A) (hj : j ≤ k) (hg : Gl X x) (tk : L2N.Takes X (fun c d _ H => E c d H)) (ha : PA X (e :: es) (tL X.K T cm E L)) (hL : xLen L ps.length) (hdb : (x == ("__debug__" : Str)) = false := by decide)
    (he : starEach (e :: es) X.env = (false, eval e X.env) :: starEach es X.env := by rfl) (hpl : (backTo pos (starEach es X.env)).any (·.1) = false := by rfl) :
    PE X (.Call (.Name x p) (e :: es) [] pos) (tD X.K T cm E (xCall F L)) := by
  obtain ⟨f, fd, h1, h2, h3, h5⟩ := G
  exact de_call (h5 X.base) rfl (hr.mono hj) hg h1 h2 (fun s us _ hl => by
    rw [List.append_nil] at hl ⊢
    exact h3 s us hl) tk ha hL hdb he hpl
end
/-- from the head's facts -/
theorem okD_mk {P : Program} {w : World} {K : PySem.W.Frag} {mg : Str → Option Value} {T : List (Addr × Str)} {cm : Nat → Value} {k : Nat} {x : Str} {st : Stmt} {N ps : List Str} {g : XS} {h : Heap} (KX : K.In h) (G : h.Ns mainGlobals mg) {fa : List He.Fa} {fn : List He.FnD} (c : He.SaysE fa fn K) (i j l : Nat)
    (hi : fn[i]? = some ⟨(x, none), x, x, defArgs st, defBody st, defScope st⟩) (hj : fa[j]? = some (.glo x)) (hl : fa[l]? = some (.keep x)) (S : FnScope N ps (defScope st))
    (hb : ∀ (kV doc pm : Value) (an : Option Addr) (cdv ct : Value) (us : List Value), us.length = ps.length → bindArgs (PySem.W.fnOf x x (defArgs st) (defBody st) (defScope st) .none kV doc pm an cdv ct) ⟨us, []⟩ = pure (ps.zip us))
    (hbody : ∀ (base : Heap) (f : Addr) (cdv : Value) (A : Around) (outer : List Env) (s : Shared) (H : Hp) (E : XK), Room k (A.deeper (PyProof.Rows.envOfC x (defScope st) s.heap.objs.size f cdv)) →
      PSs (cxOf (L2N.CX P w) P w K mg base N x (defScope st) f cdv A outer s H E) (defBody st) (tSt K T cm E g)) : OkD P w K mg T cm (k + 1) x ps (fnD ps.length N.length g) := by
  obtain ⟨oc, od, osl, kV, doc, pm, an, cdv, ct, hlk, hcd⟩ := c.def_ i hi
  have F := fun_mk (st := st) hlk hcd (He.keep_ok (c.fact l hl))
  exact ⟨He.ga K x, _, He.glo_ok KX G (c.fact j hj), He.keep_ok (c.fact l hl), fun s us hu => .of_eq (hb kV doc pm an cdv ct us hu), fun base => fn_D F S fun cdv _ A outer s H E hr => hbody base _ cdv A outer s H E hr⟩
end DL
set_option Elab.async false
set_option linter.all false
set_option maxRecDepth 100000
set_option maxHeartbeats 4000000
set_option autoImplicit false
namespace DL
open PySem L2
open LamX (ExtN Tabs TabS CodeO)
theorem hu65 {k : Nat} {A : Around} (hr : Room k A) : A.units + 65 < cLine := by have := hr.un; omega
theorem hu200 {k : Nat} {A : Around} (hr : Room k A) : A.units + 200 < cLine := by have := hr.un; omega
section
variable {X : Cx} {T : List (Addr × Str)} {cm : Nat → Value} {E : XK} {A B C : XE} {L : XL} {a b c e tg iter : Expr} {pos p : Pos}
theorem de_globI {x : Str} {i : Int} {t : Tok} (hg : Gl X x) (hm : X.mg x = some (.int i t)) (hd : (x == ("__debug__" : Str)) = false := by decide) : PE X (.Name x pos) (tD X.K T cm E (xC (.int i))) := de_glob (v := .int i) hg hm ⟨t, rfl⟩ (fun _ => .int i) hd
theorem de_globS {x z : Str} {t : Tok} (hg : Gl X x) (hm : X.mg x = some (.str z t)) (hd : (x == ("__debug__" : Str)) = false := by decide) : PE X (.Name x pos) (tD X.K T cm E (xC (.str z))) := de_glob (v := .str z) hg hm ⟨t, rfl⟩ (fun _ => .str z) hd
/-! ### list(range(..)), tuple(range(..)) -/
def tR (K : PySem.W.Frag) (T : List (Addr × Str)) (cm : Nat → Value) (E : XK) (f : XL) : St → Hp → (Int → Int → Hp → Prop) → Prop := fun σ H Q =>
  ∃ M H0 δ r, Rp K T M H0 σ H δ ∧ f δ = some r ∧ Ans T cm E H r fun ds H' => ∀ i j, RgOk i j → ds = rangeL i j → Q i j H'
theorem rgV_dv {K : PySem.W.Frag} {G : Hp} (i j : Int) : DvAll K G (rgV i j) (rangeL i j) := by
  unfold rgV rangeL
  generalize List.range (j - i).toNat = l
  induction l with
  | nil => exact .nil
  | cons x xs ih => exact .cons (.int _) ih
theorem PRgimp {t t' : St → Hp → (Int → Int → Hp → Prop) → Prop} (h : PRg X e t) (w : ∀ σ H Q, t' σ H Q → t σ H Q) : PRg X e t' := fun pins s σ H Q I q => h pins s σ H Q I (w σ H Q q)
theorem dr_1 (hg : Gl X "range") (hm : X.mg "range" = none) (ha : PE X a (tD X.K T cm E A)) (na : starEach [a] X.env = (false, eval a X.env) :: starEach [] X.env := by rfl) : PRg X (.Call (.Name "range" p) [a] [] pos) (tR X.K T cm E (xRange1 A)) := PRgimp (prg_1 hg hm ha na) fun σ H Q h => by
  obtain ⟨M, H0, δ, r, R, e, k⟩ := h
  rcases bnd_of e with ⟨x, ex, e⟩ | ⟨c, ex, rfl⟩
  · refine ⟨M, H0, δ, .ok x, R, ex, fun H1 x1 v hv => ?_⟩
    cases x with
    | int i =>
      cases hv
      have e : lift (rangeD 0 i) = some r := e
      unfold rangeD at e
      split at e
      · rename_i hz
        cases e
        exact ⟨i, rfl, k H1 x1 0 i hz rfl⟩
      · cases e
    | _ => cases e
  · exact ⟨M, H0, δ, .ex c, R, ex, k⟩
theorem dr_2 (hg : Gl X "range") (hm : X.mg "range" = none) (ha : PE X a (tD X.K T cm E A)) (hb : PE X b (tD X.K T cm E B)) (na : starEach [a, b] X.env = (false, eval a X.env) :: starEach [b] X.env := by rfl) (nb : starEach [b] X.env = (false, eval b X.env) :: starEach [] X.env := by rfl)
    (hpl : (backTo pos (starEach [b] X.env)).any (·.1) = false := by rfl) : PRg X (.Call (.Name "range" p) [a, b] [] pos) (tR X.K T cm E (xRange2 A B)) := PRgimp (prg_2 hg hm ha hb na nb hpl) fun σ H Q h => by
  obtain ⟨M, H0, δ, r, R, e, k⟩ := h
  rcases bnd_of e with ⟨x, ex, e⟩ | ⟨c, ex, rfl⟩
  · refine ⟨M, H0, δ, .ok x, R, ex, fun H1 x1 v hv => ?_⟩
    rcases bnd_of e with ⟨y, ey, e⟩ | ⟨c, ey, rfl⟩
    · refine ⟨M, H0, δ, .ok y, R.grow x1, ey, fun H2 x2 u hu => ?_⟩
      cases x with
      | int i =>
        cases y with
        | int j =>
          cases hv
          cases hu
          have e : lift (rangeD i j) = some r := e
          unfold rangeD at e
          split at e
          · rename_i hz
            cases e
            exact ⟨i, j, rfl, rfl, k H2 (x1.trans x2) i j hz rfl⟩
          · cases e
        | _ => cases e
      | _ => cases e
    · exact ⟨M, H0, δ, .ex c, R.grow x1, ey, k.grow x1⟩
  · exact ⟨M, H0, δ, .ex c, R, ex, k⟩
theorem df_listRg (hc : X.calm = true) (hg : Gl X "list") (hm : X.mg "list" = none) (he : PRg X e (tR X.K T cm E L)) (na : starEach [e] X.env = (false, eval e X.env) :: starEach [] X.env := by rfl) : PE X (.Call (.Name "list" p) [e] [] pos) (tF X.K T cm E L) := PEimp (pe_listRg hc hg hm he na) fun σ H Q h => by
  obtain ⟨M, H0, δ, r, R, e, k⟩ := h
  refine ⟨M, H0, δ, r, R, e, ?_⟩
  cases r with
  | ok ds =>
    intro H1 x1 i j ok ed
    subst ed
    exact ⟨ok, fun q hq => k _ (x1.trans (Ext.fresh _ hq)) q _ (Fr.back x1 (.of hq)) upd_same (fresh_all hq (rgV_dv i j))⟩
  | ex c => exact k
theorem de_tupRg (hc : X.calm = true) (hg : Gl X "tuple") (hm : X.mg "tuple" = none) (he : PRg X e (tR X.K T cm E L)) (na : starEach [e] X.env = (false, eval e X.env) :: starEach [] X.env := by rfl) : PE X (.Call (.Name "tuple" p) [e] [] pos) (tD X.K T cm E (xTupL L)) := PEimp (pe_tupRg hc hg hm he na) fun σ H Q h => by
  obtain ⟨M, H0, δ, r, R, e, k⟩ := h
  rcases bnd_of e with ⟨x, ex, e⟩ | ⟨c, ex, rfl⟩
  · cases e
    refine ⟨M, H0, δ, .ok x, R, ex, fun H1 x1 i j ok ed => ?_⟩
    subst ed
    exact ⟨ok, fun q hq => k _ (x1.trans (Ext.fresh _ hq)) _ (dv_newT (R.grow x1).msk hq (rgV_dv i j))⟩
  · exact ⟨M, H0, δ, .ex c, R, ex, k⟩
end
end DL
namespace DL
open PySem L2
theorem fnok0 {P : Program} {w : World} {K : PySem.W.Frag} {mg : Str → Option Value} {base : Heap} {k : Nat} {f : Addr} {fd : FuncData} {ps : List Str} {sp : Sp} (F : FnOk P w K mg base (L2N.CX P w) k f fd ps sp) : FnOk P w K mg base CX0 k f fd ps (fun vs H Q _ => sp vs H Q E0) :=
  ⟨fun vs H Q _ h => F.len vs H Q E0 h, fun A outer s H args us vs Q _ hr he hb hv hs => codeAny_mono (F.run A outer s H args us vs Q E0 hr he hb hv hs) fun r s' h => by
    cases r with
    | ok fl => cases fl <;> exact h
    | error e =>
      obtain ⟨_, _, _, _, _, _, _, _, _, _, _, _, z⟩ := (show L2N.CX P w outer H s E0 e s' from h)
      exact z.elim⟩
/-- the law answers True at a script of these numbers -/
theorem law_says {K : PySem.W.Frag} {cm : Nat → Value} {F : List D → Pr D} {H : Hp} {a : Addr} {ns : List Int} (hS : SqL K H a (ns.map V.int)) (e : F [.list (ns.map PyData.int)] = some (.ok (.bool true))) :
    spD K [] cm 1 F [.ref a] H (fun v _ => v = .bl true) E0 := by
  have hd : ∀ l : List Int, DvAll K (mask H (fun _ => False)) (l.map V.int) (l.map PyData.int) := fun l => by
    induction l with
    | nil => exact .nil
    | cons x xs ih => exact .cons (.int x) ih
  have hm : SqL K (mask H (fun _ => False)) a (ns.map V.int) := sqL_ext (fun b o q _ => by rw [mask_out (fun z => z)]; exact q) hS
  exact ⟨fun _ => False, _, _, (fun a z => z.elim), (fun p hp => by cases hp), .cons (.lst hm (hd ns)) .nil, rfl, e, fun H' _ v hv => by cases hv; rfl⟩
end DL
set_option Elab.async false
set_option linter.all false
set_option maxRecDepth 100000
set_option maxHeartbeats 4000000
set_option autoImplicit false
namespace DL
open PySem L2
open LamX (ExtN Tabs TabS CodeO)
section
variable {X : Cx} {T : List (Addr × Str)} {cm : Nat → Value} {E : XK} {A B C : XE} {L : XL} {a b c e tg iter : Expr} {pos p : Pos} {vs : List Nat} {es : List Expr} {st : Stmt} {rest : List Stmt} {s t : XS} {σ : St} {H : Hp} {En : Ends}
theorem op_isDD : OpR X (compareOp .Is) (rD2 X.K T isD2) := by
  intro pins s σ H x y v u Q I rx ry h
  obtain ⟨M, dx, dy, d, m, hx, hy, e, q⟩ := h
  cases hx with
  | bl a =>
    cases hy with
    | bl b => cases e; exact op_is_bl pins s σ H _ _ v u Q I rx ry ⟨a, b, rfl, rfl, q _ H (Ext.refl T H) (.bl _)⟩
    | _ => cases e
  | _ => cases e
theorem op_isnotDD : OpR X (compareOp .IsNot) (rD2 X.K T isnotD2) := by
  intro pins s σ H x y v u Q I rx ry h
  obtain ⟨M, dx, dy, d, m, hx, hy, e, q⟩ := h
  cases hx with
  | bl a =>
    cases hy with
    | bl b => cases e; exact op_isnot_bl pins s σ H _ _ v u Q I rx ry ⟨a, b, rfl, rfl, q _ H (Ext.refl T H) (.bl _)⟩
    | _ => cases e
  | _ => cases e
/-- x, y = a new list, [] -/
theorem ds_parE (i j : Nat) {x y : Str} {px py pt : Pos} {kt k2 : Nat} {pt2 : Pos} (hc : X.calm = true) (hN : X.N.Nodup) (hij : i ≠ j) (ha : PE X a (tF X.K T cm E L)) (hb : PE X b (tF X.K T cm E (xLst xNil))) (hi : X.N[i]? = some x := by rfl) (hj : X.N[j]? = some y := by rfl)
    (hx : X.env.scope.names.lookup x = some .local := by rfl) (hy : X.env.scope.names.lookup y = some .local := by rfl)
    (hw : swappedStores [.Tuple [.Name x px, .Name y py] kt pt] (.Tuple [a, b] k2 pt2) X.env = pure (some [x, y]) := by rfl)
    (hs : swapsWithSole [.Tuple [.Name x px, .Name y py] kt pt] (.Tuple [a, b] k2 pt2) pos.line X.env = pure false := by rfl)
    (h1 : starEach [a, b] X.env = (false, eval a X.env) :: starEach [b] X.env := by rfl) (h2 : starEach [b] X.env = (false, eval b X.env) :: starEach [] X.env := by rfl) :
    PS X (.Assign [.Tuple [.Name x px, .Name y py] kt pt] (.Tuple [a, b] k2 pt2) pos) (tSt X.K T cm E (sParE i j L)) := PSimp (ps_par hc hN hi hj hij hx hy (pa_cons ha (pa_cons hb pa_nil h2) h1) hw hs) fun En σ H h => by
  obtain ⟨M, H0, δ, o, R, e, k⟩ := h.old
  rcases onE_of e with ⟨x, ex, e⟩ | ⟨c, ex, rfl⟩
  · refine ⟨M, H0, δ, .ok x, R, ex, fun H1 x1 q vs hn hp hv => ?_⟩
    refine ⟨M, H0, δ, .ok [], R.grow x1, rfl, fun H2 x2 q2 vs2 hn2 hp2 hv2 => ⟨.ref q, .ref q2, rfl, ?_⟩⟩
    have e : (if i < δ.length ∧ j < δ.length then some (Out.nx ((δ.set i (.own (.lst x))).set j (.own (.lst [])))) else none) = some o := e
    split at e
    · rename_i hl
      cases e
      cases hv2
      have R1 := R.newOwn hl.1 x1 hn hp (.lst hv)
      exact k _ H2 (R1.newOwn (by rw [List.length_set]; exact hl.2) x2 hn2 hp2 (.lst .nil))
    · cases e
  · exact ⟨M, H0, δ, .ex c, R, ex, k.ex' R⟩
/-- the same by way of a tuple: a name that a comprehension captures -/
theorem ds_parC (i j : Nat) {x y : Str} {px py pt : Pos} {kt k2 : Nat} {pt2 : Pos} (hc : X.calm = true) (hN : X.N.Nodup) (hij : i ≠ j) (ha : PE X a (tF X.K T cm E L)) (hb : PE X b (tF X.K T cm E (xLst xNil))) (hi : X.N[i]? = some x := by rfl) (hj : X.N[j]? = some y := by rfl)
    (hx : Loc X.env.scope x := by first | exact Or.inl rfl | exact Or.inr rfl) (hy : Loc X.env.scope y := by first | exact Or.inl rfl | exact Or.inr rfl) (hfx : X.fn x = true ∨ X.env.scope.names.lookup x = some .local := by first | exact .inl rfl | exact .inr rfl | assumption) (hfy : X.fn y = true ∨ X.env.scope.names.lookup y = some .local := by first | exact .inl rfl | exact .inr rfl | assumption)
    (hw : swappedStores [.Tuple [.Name x px, .Name y py] kt pt] (.Tuple [a, b] k2 pt2) X.env = pure none := by rfl)
    (hs : swapsWithSole [.Tuple [.Name x px, .Name y py] kt pt] (.Tuple [a, b] k2 pt2) pos.line X.env = pure false := by rfl)
    (h0 : (assignEach [.Tuple [.Name x px, .Name y py] kt pt] X.env).map (·.2) = [assign (.Tuple [.Name x px, .Name y py] kt pt) X.env] := by rfl)
    (hn : (assignEach [.Name x px, .Name y py] X.env).length = 2 := by rfl) (hst : (assignEach [.Name x px, .Name y py] X.env).findIdx? (·.1) = none := by rfl)
    (hm1 : (assignEach [.Name x px, .Name y py] X.env).map (·.2) = assign (.Name x px) X.env :: (assignEach [.Name y py] X.env).map (·.2) := by rfl) (hm2 : (assignEach [.Name y py] X.env).map (·.2) = assign (.Name y py) X.env :: (assignEach [] X.env).map (·.2) := by rfl)
    (h1 : starEach [a, b] X.env = (false, eval a X.env) :: starEach [b] X.env := by rfl) (h2 : starEach [b] X.env = (false, eval b X.env) :: starEach [] X.env := by rfl) :
    PS X (.Assign [.Tuple [.Name x px, .Name y py] kt pt] (.Tuple [a, b] k2 pt2) pos) (tSt X.K T cm E (sParE i j L)) := PSimp (ps_asg (pe_tup (pa_cons ha (pa_cons hb pa_nil h2) h1)) (pg_tup hc (pgs_cons (pg_name hN hi hx hfx) (pgs_cons (pg_name hN hj hy hfy) pgs_nil hm2) hm1) hn hst) hs hw h0) fun En σ H h => by
  obtain ⟨M, H0, δ, o, R, e, k⟩ := h.old
  rcases onE_of e with ⟨x, ex, e⟩ | ⟨c, ex, rfl⟩
  · refine ⟨M, H0, δ, .ok x, R, ex, fun H1 x1 q vs hn hp hv => ?_⟩
    refine ⟨M, H0, δ, .ok [], R.grow x1, rfl, fun H2 x2 q2 vs2 hn2 hp2 hv2 => ⟨by simp [sizeLine], fun r hr => ⟨r, _, rfl, SqT.of upd_same, rfl, .ref q, _, rfl, .ref q2, _, rfl, rfl, ?_⟩⟩⟩
    have e : (if i < δ.length ∧ j < δ.length then some (Out.nx ((δ.set i (.own (.lst x))).set j (.own (.lst [])))) else none) = some o := e
    split at e
    · rename_i hl
      cases e
      cases hv2
      have R1 := R.newOwn hl.1 x1 hn hp (.lst hv)
      exact k _ _ ((R1.newOwn (by rw [List.length_set]; exact hl.2) x2 hn2 hp2 (.lst .nil)).grow (Ext.fresh _ hr))
    · cases e
  · exact ⟨M, H0, δ, .ex c, R, ex, k.ex' R⟩
theorem Rp.write_ext {K : PySem.W.Frag} {M : Addr → Prop} {σ : St} {H : Hp} {δ : DE} {i : Nat} {ds ds' : OD} {a : Addr} {vs' : HO} (hd : δ[i]? = some (.own ds)) (ha : σ[i]? = some (some (.ref a))) :
    ExtN (mask H (MM M σ δ)) (mask (upd H a vs') (MM M σ (δ.set i (.own ds')))) := by
  have hi : i < δ.length := (List.getElem?_eq_some_iff.mp hd).1
  have key' : ∀ (j : Nat) (es : OD), (δ.set i (.own ds'))[j]? = some (.own es) → ∃ fs, δ[j]? = some (.own fs) := fun j es e => by
    by_cases hj : j = i
    · subst hj; exact ⟨ds, hd⟩
    · rw [List.getElem?_set_ne (Ne.symm hj)] at e; exact ⟨es, e⟩
  have le : ∀ b, MM M σ (δ.set i (.own ds')) b → MM M σ δ b := fun b z => by
    rcases z with z | ⟨j, es, e1, e2⟩
    · exact .inl z
    · obtain ⟨fs, e⟩ := key' j es e1
      exact .inr ⟨j, fs, e, e2⟩
  have am : MM M σ δ a := .inr ⟨i, ds, hd, ha⟩
  intro b o e n
  obtain ⟨nb, e'⟩ := of_mask e
  have hb : b ≠ a := fun z => nb (z ▸ am)
  rw [mask_out (fun z => nb (le b z)), upd_ne hb]
  exact e'
theorem dpAll_getR {K : PySem.W.Frag} {G : Hp} : ∀ {vs : List V} {ds : List D} {m : Nat} {d : D}, DvAll K G vs ds → ds[m]? = some d → ∃ v, vs[m]? = some v ∧ Dv K G v d
  | _, _, _, _, .nil, e => by simp at e
  | _, _, 0, _, .cons h _, e => by simp at e; subst e; exact ⟨_, rfl, h⟩
  | _, _, m + 1, _, .cons _ hs, e => by
    obtain ⟨v, h1, h2⟩ := dpAll_getR hs (m := m) (by simpa using e)
    exact ⟨v, by simpa using h1, h2⟩
theorem dpAll_eraseR {K : PySem.W.Frag} {G : Hp} : ∀ {vs : List V} {ds : List D} (m : Nat), DvAll K G vs ds → DvAll K G (vs.eraseIdx m) (ds.eraseIdx m)
  | _, _, _, .nil => .nil
  | _, _, 0, .cons _ hs => hs
  | _, _, m + 1, .cons h hs => .cons h (dpAll_eraseR m hs)
/-- ys.append(xs.pop(k)) -/
theorem ds_appPop (i j : Nat) {x y : Str} {px py apos cpos qpos dpos : Pos} (hb : PE X b (tD X.K T cm E B)) (hN : X.N[i]? = some x := by rfl) (hM : X.N[j]? = some y := by rfl) (hv : Vis X.env.scope x := by first | exact Or.inl rfl | exact Or.inr (Or.inl rfl)) (hv' : Vis X.env.scope y := by first | exact Or.inl rfl | exact Or.inr (Or.inl rfl))
    (hd : (x == ("__debug__" : Str)) = false := by decide) (hcd : (x == ("__classdict__" : Str)) = false := by decide) (hd' : (y == ("__debug__" : Str)) = false := by decide) (hcd' : (y == ("__classdict__" : Str)) = false := by decide)
    (hab : attributeBase (.Name x px) "append" X.env (eval (.Name x px) X.env) = eval (.Name x px) X.env := by rfl) (hl : (apos.endLine == cpos.line) = true := by rfl)
    (hab' : attributeBase (.Name y py) "pop" X.env (eval (.Name y py) X.env) = eval (.Name y py) X.env := by rfl) (hl' : (qpos.endLine == dpos.line) = true := by rfl)
    (hs : swapsWith (.Call (.Attribute (.Name x px) "append" apos) [.Call (.Attribute (.Name y py) "pop" qpos) [b] [] dpos] [] cpos) none pos.line X.env = pure false := by rfl)
    (hst : starEach (.Call (.Attribute (.Name y py) "pop" qpos) [b] [] dpos :: []) X.env = (false, eval (.Call (.Attribute (.Name y py) "pop" qpos) [b] [] dpos) X.env) :: starEach [] X.env := by rfl)
    (hst' : starEach (b :: []) X.env = (false, eval b X.env) :: starEach [] X.env := by rfl)
    (hfew : ((backTo cpos (starEach (.Call (.Attribute (.Name y py) "pop" qpos) [b] [] dpos :: []) X.env)).all (fun x => !x.1) && (backToKw cpos (keywordEach [] X.env)).all (fun x => x.1.isSome) && decide ((.Call (.Attribute (.Name y py) "pop" qpos) [b] [] dpos :: ([] : List Expr)).length + ([] : List Keyword).length + (if ([] : List Keyword).isEmpty then 0 else 1) < 30)) = true := by rfl) (hpl : (backTo cpos (starEach [] X.env)).any (·.1) = false := by rfl)
    (hfew' : ((backTo dpos (starEach (b :: []) X.env)).all (fun x => !x.1) && (backToKw dpos (keywordEach [] X.env)).all (fun x => x.1.isSome) && decide ((b :: ([] : List Expr)).length + ([] : List Keyword).length + (if ([] : List Keyword).isEmpty then 0 else 1) < 30)) = true := by rfl) (hpl' : (backTo dpos (starEach [] X.env)).any (·.1) = false := by rfl) :
    PS X (.Expr (.Call (.Attribute (.Name x px) "append" apos) [.Call (.Attribute (.Name y py) "pop" qpos) [b] [] dpos] [] cpos) pos) (tSt X.K T cm E (sAppPop i j B)) :=
  PSimp (ps_expr (pe_bm PySem.F.plainAttrs_list PySem.F.slot_list_append PySem.F.type_list_append mt_append (pe_var hN hv hd hcd) (pa_cons (pe_bm PySem.F.plainAttrs_list PySem.F.slot_list_pop PySem.F.type_list_pop mt_popAt (pe_var hM hv' hd' hcd') (pa_cons hb pa_nil hst') hab' hfew' hl' hst' hpl') pa_nil hst) hab hfew hl hst hpl) hs) fun En σ H h => by
    obtain ⟨M, H0, δ, o, R, e, k⟩ := h.old
    unfold sAppPop at e
    split at e
    · rename_i ds es q qj
      obtain ⟨la, vs, h1, h2, h3⟩ := own_lst R q
      obtain ⟨lb, ws, g1, g2, g3⟩ := own_lst R qj
      refine ⟨.ref la, h1, .inl ⟨rfl, vs, SqL.of h2⟩, .ref lb, g1, .inl ⟨rfl, ws, SqL.of g2⟩, ?_⟩
      rcases onE_of e with ⟨z, ez, e⟩ | ⟨c, ez, rfl⟩
      · refine ⟨M, H0, δ, .ok z, R, ez, fun H1 x1 u hu => ?_⟩
        cases z with
        | int n =>
          cases hu
          have e : (match ixN es.length n with
            | some m => (match es[m]? with
              | some d => if i ≠ j ∧ (-(2 ^ 63) ≤ n ∧ n < 2 ^ 63) ∧ ds.length < sz then some (Out.nx ((δ.set j (.own (.lst (es.eraseIdx m)))).set i (.own (.lst (ds ++ [d]))))) else none
              | none => none)
            | none => none) = some o := e
          cases q2 : ixN es.length n with
          | none => rw [q2] at e; cases e
          | some m =>
            rw [q2] at e
            simp only [] at e
            cases q3 : es[m]? with
            | none => rw [q3] at e; cases e
            | some d =>
              rw [q3] at e
              simp only [] at e
              split at e
              · rename_i hz
                cases e
                have R1 := R.grow x1
                have h21 : H1 la = some (.lst vs) := x1.keep la _ h2 (nt_lst _)
                have g21 : H1 lb = some (.lst ws) := x1.keep lb _ g2 (nt_lst _)
                have hne : la ≠ lb := fun z => hz.1 (R.inj i j _ _ la q qj h1 (z ▸ g1))
                obtain ⟨v, w1, w2⟩ := dpAll_getR (x1.dvs g3) q3
                have R2 := R1.write qj g1 g21 (.lst (dpAll_eraseR m (x1.dvs g3)))
                have q' : (δ.set j (.own (.lst (es.eraseIdx m))))[i]? = some (.own (.lst ds)) := by rw [List.getElem?_set_ne (Ne.symm hz.1)]; exact q
                have h22 : (upd H1 lb (.lst (ws.eraseIdx m))) la = some (.lst vs) := by rw [upd_ne hne]; exact h21
                have mx := Rp.write_ext (K := X.K) (M := M) (H := H1) (vs' := .lst (ws.eraseIdx m)) (ds' := .lst (es.eraseIdx m)) qj g1
                refine ⟨lb, ws, n, m, v, rfl, rfl, g21, hz.2.1.1, hz.2.1.2, by rw [dpAll_len g3]; exact (L2.ixN_seq ((ixN_eq _ _).trans q2)).1, w1, ?_⟩
                refine ⟨la, vs, v, rfl, rfl, h22, by rw [← szLine, dpAll_len h3]; exact hz.2.2, ?_⟩
                exact k σ _ (R2.write q' h1 h22 (.lst (dpAll_app (dpAll_ext mx (x1.dvs h3)) (.cons (dp_ext mx w2) .nil))))
              · cases e
        | _ => cases e
      · exact ⟨M, H0, δ, .ex c, R, ez, k.ex' R⟩
    · cases e
end
end DL
set_option Elab.async false
set_option linter.all false
set_option maxRecDepth 100000
set_option maxHeartbeats 4000000
set_option autoImplicit false
namespace DL
open PySem PySem.Spec PyProof.Rows L2
open LamX (ExtN Tabs TabS CodeO)
section
variable {X : Cx} {T : List (Addr × Str)} {cm : Nat → Value} {E : XK} {A B C : XE} {L : XL} {a b c e tg iter : Expr} {pos p : Pos} {vs : List Nat} {es : List Expr} {st : Stmt} {rest : List Stmt} {s t : XS} {σ : L2.St} {H : Hp} {En : Ends}
def tStepL (K : PySem.W.Frag) (te tb : TE) : TE := fun σ H Q => te σ H fun x H1 => ∃ a xs, x = .ref a ∧ tPart tb σ H1 fun o H2 => ∃ k, o = some k ∧ SqL K H2 a xs ∧ ((k = 1 ∧ ∀ p, H2 p = none → Q (.ref p) (upd H2 p (.lst xs))) ∨ (k = -1 ∧ ∀ p, H2 p = none → Q (.ref p) (upd H2 p (.lst xs.reverse))))
theorem pick_one (items : Array Value) : slicePick items none none (some 1) = items := (show slicePick items none none (some 1) = slicePick items none none none from rfl).trans (slicePick_all items)
theorem pe_stepL {te tb : TE} {p3 : Pos} (he : PE X e te) (hb : PE X b tb) : PE X (.Subscript e (.Slice none none (some b) p3) pos) (tStepL X.K te tb) := by
  refine ⟨fun pins s σ H Q I h => ?_⟩
  refine Subscript_ (thn (he.run pins s σ H _ I h) fun v s1 ⟨x, H1, I1, r1, q1⟩ => ?_)
  obtain ⟨a, xs, ex, q1⟩ := q1
  subst ex
  cases r1
  have hst : PO X (some b) (tPart tb) := po_some hb
  refine wpAny_Slice (thn (po_none.run pins s1 σ H1 (fun o H2 => o = none ∧ H2 = H1) I1 ⟨rfl, rfl⟩) fun vl s2 ⟨l, H2, I2, pl, el, e2⟩ => ?_)
  subst el e2
  refine thn (po_none.run pins s2 σ H2 (fun o H3 => o = none ∧ H3 = H2) I2 ⟨rfl, rfl⟩) fun vu s3 ⟨u, H3, I3, pu, eu, e3⟩ => ?_
  subst eu e3
  refine thn (hst.run pins s3 σ H3 (fun o H4 => ∃ k, o = some k ∧ SqL X.K H4 a xs ∧ ((k = 1 ∧ ∀ p, H4 p = none → Q (.ref p) (upd H4 p (.lst xs))) ∨ (k = -1 ∧ ∀ p, H4 p = none → Q (.ref p) (upd H4 p (.lst xs.reverse))))) I3 ?_) fun vs s4 ⟨o, H4, I4, ps, k, eo, hx, q⟩ => ?_
  · exact q1
  subst eo
  have I5 : Inv X pins σ H4 { s4 with heap := s4.heap.push { cls := .type "slice", data := .fields #[vl, vu, vs] } } := I4.kept (t' := s4.toks) fun b ob q => Heap.get?_push_of_some _ q
  obtain ⟨its, r, ht, hz⟩ := I5.list hx
  have hlen := r.length
  show wpAny (model X.prog X.w) X.A (subscriptTail e (.Slice none none (some b) p3) (.ref a) (.ref s4.heap.objs.size)) (EP X pins σ Q) X.xe { s4 with heap := s4.heap.push { cls := .type "slice", data := .fields #[vl, vu, vs] } }
  refine tail_any (ops := [.ref a, .ref s4.heap.objs.size]) ht.isList.typeIs (PySem.slot_list_getitem.lookup) ?_ (by with_unfolding_all rfl)
  rcases q with ⟨rfl, q⟩ | ⟨rfl, q⟩
  · refine wpAny_getItem_list_slice ht.isList (Heap.IsSliceOf.new _ vl vu vs) pl pu ps (by decide) ?_ (by rw [List.size_toArray]; omega)
    rw [pick_one]
    refine ⟨.ref _, _, I5.laid (t' := s4.toks) (o := .lst xs) (fun b ob q => Heap.get?_push_of_some _ q) (Nat.le_refl _) ?_, rfl, q _ (I5.hok.fresh (Nat.le_refl _))⟩
    exact ⟨hz, _, 0, r, Heap.get?_push_size _ rfl⟩
  · refine wpAny_getItem_list_slice ht.isList (Heap.IsSliceOf.new _ vl vu vs) pl pu ps (by decide) ?_ (by rw [List.size_toArray]; omega)
    rw [PySem.W.krv_pick]
    refine ⟨.ref _, _, I5.laid (t' := s4.toks) (o := .lst xs.reverse) (fun b ob q => Heap.get?_push_of_some _ q) (Nat.le_refl _) ?_, rfl, q _ (I5.hok.fresh (Nat.le_refl _))⟩
    exact ⟨by rw [List.length_reverse]; exact hz, _, 0, r.reverse, Heap.get?_push_size _ rfl⟩
theorem dpAll_revR {K : PySem.W.Frag} {G : Hp} : ∀ {vs : List V} {ds : List D}, DvAll K G vs ds → DvAll K G vs.reverse ds.reverse
  | _, _, .nil => .nil
  | _, _, .cons h hs => by
    rw [List.reverse_cons, List.reverse_cons]
    exact dpAll_app (dpAll_revR hs) (.cons h .nil)
theorem df_step {p3 : Pos} (ha : PE X e (tD X.K T cm E A)) (hb : PE X b (tD X.K T cm E B)) : PE X (.Subscript e (.Slice none none (some b) p3) pos) (tF X.K T cm E (xStep A B)) := PEimp (pe_stepL ha hb) fun σ H Q h => by
  obtain ⟨M, H0, δ, r, R, e, a⟩ := h
  rcases bnd_of e with ⟨x, ex, e⟩ | ⟨c, ex, rfl⟩
  · refine ⟨M, H0, δ, .ok x, R, ex, fun H1 x1 v hv => ?_⟩
    cases hv with
    | @lst l zs ds hl hds =>
      refine ⟨l, zs, rfl, ?_⟩
      have e : bnd (B δ) (fun k => (match k with
        | .int k => if k = 1 then ret ds else if k = -1 then ret ds.reverse else none
        | _ => none)) = some r := e
      rcases bnd_of e with ⟨y, ey, e⟩ | ⟨c, ey, rfl⟩
      · refine ⟨M, H0, δ, .ok y, R.grow x1, ey, fun H2 x2 u hu => ?_⟩
        cases y with
        | int k =>
          cases hu
          have e : (if k = 1 then ret ds else if k = -1 then ret ds.reverse else none) = some r := e
          have hs := sl_un (sqL_ext (mask_le (fun _ z => z) x2.keep) hl)
          have hd2 := x2.dvs hds
          refine ⟨k, rfl, k, rfl, hs, ?_⟩
          split at e
          · rename_i h1
            cases e
            exact .inl ⟨h1, fun p hp => a _ (x1.trans (x2.trans (Ext.fresh _ hp))) p _ (Fr.back x1 (Fr.back x2 (.of hp))) upd_same (fresh_all hp hd2)⟩
          · split at e
            · rename_i h1
              cases e
              exact .inr ⟨h1, fun p hp => a _ (x1.trans (x2.trans (Ext.fresh _ hp))) p _ (Fr.back x1 (Fr.back x2 (.of hp))) upd_same (fresh_all hp (dpAll_revR hd2))⟩
            · cases e
        | _ => cases e
      · exact ⟨M, H0, δ, .ex c, R.grow x1, ey, a.grow x1⟩
    | _ => cases e
  · exact ⟨M, H0, δ, .ex c, R, ex, a⟩
theorem de_keep (i : Nat) (ha : PE X e (tD X.K T cm E A)) : PE X e (tD X.K T cm E (xKeep i A)) := PEimp ha fun σ H Q h => by
  obtain ⟨M, H0, δ, r, R, e, a⟩ := h
  rcases bnd_of e with ⟨x, ex, e⟩ | ⟨c, ex, rfl⟩
  · refine ⟨M, H0, frz i δ, .ok x, R.frz i, ex, fun H1 x1 v hv => ?_⟩
    cases x with
    | int n => cases e; cases hv; exact a H1 x1 _ (.int _)
    | bool n => cases e; cases hv; exact a H1 x1 _ (.bl _)
    | none => cases e; cases hv; exact a H1 x1 _ .non
    | _ => cases e
  · exact ⟨M, H0, frz i δ, .ex c, R.frz i, ex, a⟩
end
end DL
set_option Elab.async false
set_option linter.all false
set_option maxRecDepth 100000
set_option maxHeartbeats 4000000
set_option autoImplicit false
/-! lists walked while an exception is handled -/
namespace DL
open PySem PySem.Spec PyProof.Rows L2 HotX L2H
section
variable {prog : Program} {w : World} {A : Around} {E : Value → Shared → Prop} {s : Shared}
theorem list_stop_hot {it l x1 : Addr} {i : Nat} {items : Array Value} {Q : Option Value → Shared → Prop} (hot : HotAt A x1 s.heap) (hne : x1 ≠ it) (hit : s.heap.IsListIter it l i) (hl : s.heap.IsList l items) (hx : items[i]? = none)
    (hQ : ∀ h', Heap.ExtBut it s.heap h' → Q none { s with heap := h' }) : wpAny (model prog w) A (pyNext (.ref it)) Q E s := by
  obtain ⟨o, ho, hc, hd⟩ := id hit
  obtain ⟨ol, hol, _, nl, hdl⟩ := hl
  obtain ⟨hh, o1, vs1, h1, d1, c1⟩ := hot
  unfold pyNext
  refine wpAny_bind (wpAny_attempt (wpAny_callSpecial?_slot (name := Str.ofString "__next__") hit.typeIs slot_listiter_next (wpAny_call_entry slot_listiter_next hit.typeIs entry_listiter_next ?_ (args_listiter_next _))))
  show wpAny _ _ (field (.ref it) 0 >>= _) _ _ s
  refine wpAny_bind (wpAny_field ho hd (x := .ref l) rfl ?_)
  show wpAny _ _ (if (Value.ref l == Value.none) = true then _ else _) _ _ s
  rw [if_neg (show ¬ ((Value.ref l == Value.none) = true) from Bool.false_ne_true)]
  show wpAny _ _ (field (.ref it) 1 >>= _) _ _ s
  refine wpAny_bind (wpAny_field ho hd (x := .int i 0) rfl ?_)
  show wpAny _ _ (seqItems? (.ref l) >>= _) _ _ s
  refine wpAny_bind (wpAny_seqItems hol hdl ?_)
  simp only [Int.toNat_natCast, hx]
  refine wpAny_bind (wpAny_rule (wpAny_bind (wpAny_setField ho hd (by simp) ?_)))
  show wpAny _ _ (newExc (.type "StopIteration") [] >>= _) _ _ _
  refine wpAny_bind ?_
  simp only [newExc, newTuple]
  refine wpAny_bind (wpAny_newObj_type ?_ (by size_fits))
  refine wpAny_bind (m := firstArgMember _ _) (wpAny_of_eq (a := Value.none) (by first | rfl | (simp only [firstArgMember]; rfl)) ?_)
  refine wpAny_newObj_type ?_ (by size_fits)
  have k1 := (Heap.SameBut.update s.heap it (Obj.mapFields fun f => f.setIfInBounds 0 Value.none)).extBut x1 o1 hne h1
  refine raiseNew_hot ⟨hh, o1, vs1, Heap.get?_push_of_some _ (Heap.get?_push_of_some _ k1), d1, c1⟩ (Nat.ne_of_lt (Heap.lt_size (Heap.get?_push_of_some _ k1))) (Heap.get?_push_size _ rfl) rfl (by first | (simp; done) | (simp; omega)) ?_
  refine wpAny_bind (wpAny_isInstance (T := "StopIteration") (b := true) ⟨_, Heap.get?_update_self _ (Heap.get?_push_size _ rfl) rfl, rfl⟩ isSubtype_stop ?_)
  refine wpAny_pure (hQ _ fun b u hb e => ?_)
  have e2 := Heap.get?_push_of_some { cls := Value.type "tuple", data := Data.seq #[] } ((Heap.SameBut.update s.heap it (Obj.mapFields fun f => f.setIfInBounds 0 Value.none)).extBut b u hb e)
  rw [Heap.get?_update_other _ _ (Nat.ne_of_gt (Heap.lt_size e2))]
  exact Heap.get?_push_of_some _ e2
end
/-! ### what is walked there -/
structure TurnQ (P : Program) (w : World) (K : PySem.W.Frag) (tg : Expr) (J : It) (fp : List Addr) (it : Addr) (tn : Nat → Heap → Prop) : Prop where
  obj : ∀ i h, tn i h → ∀ b ∈ fp, ∃ o, h.get? b = some o ∧ ∀ v, o.data ≠ .cell v
  keep : ∀ i h h', tn i h → (∀ b ∈ fp, ∀ o, h.get? b = some o → h'.get? b = some o) → tn i h'
  item : ∀ (X : Cx), X.prog = P → X.w = w → X.K = K → ∀ (i : Nat) (pins : List (Addr × Obj)) (s : Shared) (σ : L2.St) (H : Hp) (E : Value → Shared → Prop), Inv X pins σ H s → (∀ b ∈ fp, FpOk X pins H b) → tn i s.heap → J.go i H →
    wpAny (model P w) X.A (pyNext (.ref it)) (fun r s1 => ∃ u, r = some u ∧ wpAny (model P w) X.A (letOwnedTupleGo tg (.ref it) u) (fun _ s2 => ∃ x H', Inv X pins σ H' s2 ∧ RelV x u ∧ J.yld i H x H' ∧ tn (i + 1) s2.heap ∧ ∀ b ∈ fp, H' b = none) E s1) E s
  done : ∀ (X : Cx), X.prog = P → X.w = w → X.K = K → ∀ (i : Nat) (pins : List (Addr × Obj)) (s : Shared) (σ : L2.St) (H : Hp) (E : Value → Shared → Prop), Inv X pins σ H s → (∀ b ∈ fp, FpOk X pins H b) → (∃ x1, HotAt X.A x1 s.heap ∧ x1 ∉ fp) → tn i s.heap → J.stop i H →
    wpAny (model P w) X.A (pyNext (.ref it)) (fun r s1 => r = none ∧ Inv X pins σ H s1) E s
  self : ∀ (A : Around) (i : Nat) (s : Shared) (Q : Value → Shared → Prop) (E : Value → Shared → Prop), tn i s.heap → Q (.ref it) s → wpAny (model P w) A (pyIter (.ref it)) Q E s
theorem turn_listQ {P : Program} {w : World} {K : PySem.W.Frag} {tg : Expr} (a it : Addr) : TurnQ P w K tg (Itl K a) [it] it (fun i h => h.IsListIter it a i) where
  obj := (turn_list (P := P) (w := w) (K := K) (tg := tg) a it).obj
  keep := (turn_list (P := P) (w := w) (K := K) (tg := tg) a it).keep
  item := by
    intro X hP hw hK i pins s σ H E I hf st hg
    subst hP hw hK
    obtain ⟨xs, x, hq, hx⟩ := hg
    obtain ⟨its, rv, p, hz⟩ := I.list hq
    obtain ⟨u, hu, ru⟩ := rv.get hx
    obtain ⟨f0, f1, f2, f3, f4, f5⟩ := hf it (by simp)
    refine wpAny_pyNext_list_item st p.isList (x := u) (by simpa using hu) fun h' st' sb => ?_
    have I1 : Inv X pins σ H { s with heap := h' } := I.turned (t' := s.toks) (fun b o hb e => (sb.2 b hb).trans e) f0 f1 f3 f4 f5
    obtain ⟨o, e, c, d⟩ := id st'
    exact ⟨u, rfl, go_of (s := { s with heap := h' }) e c d (by decide) ⟨x, H, I1, ru, ⟨rfl, fun ys hy => by rw [I.list_inj hy hq]; exact hx⟩, st', fun b hb => (hf b hb).1⟩⟩
  done := by
    intro X hP hw hK i pins s σ H E I hf hot st hg
    subst hP hw hK
    obtain ⟨x1, hot, hn⟩ := hot
    obtain ⟨xs, hq, hx⟩ := hg
    obtain ⟨its, rv, p, hz⟩ := I.list hq
    obtain ⟨f0, f1, f2, f3, f4, f5⟩ := hf it (by simp)
    have hl := rv.length
    exact list_stop_hot hot (by simpa using hn) st p.isList (by simp; omega) fun h' eb => ⟨rfl, I.turned (t' := s.toks) (fun b o hb e => eb b o hb e) f0 f1 f3 f4 f5⟩
  self := fun _ _ _ _ _ st h => wpAny_pyIter_listiter st h
structure PIQ (X : Cx) (tg iter : Expr) (wi : TI) : Prop where
  run : ∀ (pins : List (Addr × Obj)) (s : Shared) (σ : L2.St) (H : Hp) (R : It → Hp → Prop), Inv X pins σ H s → wi σ H R →
    wpAny (model X.prog X.w) X.A (eval iter X.env) (fun v s1 => wpAny (model X.prog X.w) X.A (pyIter v) (fun itv s2 => ∃ (it : Addr) (fp : List Addr) (tn : Nat → Heap → Prop) (J : It) (H' : Hp), itv = .ref it ∧ Inv X pins σ H' s2 ∧ TurnQ X.prog X.w X.K tg J fp it tn ∧ tn 0 s2.heap ∧ (∀ b ∈ fp, FpOk X pins H' b) ∧ R J H') X.xe s1) X.xe s
section
variable {X : Cx} {tg iter : Expr}
theorem pi_listQ {tl : TE} (hl : PE X iter tl) : PIQ X tg iter (iList X.K tl) := by
  refine ⟨fun pins s σ H R I h => ?_⟩
  refine thn (hl.run pins s σ H _ I h) fun v s1 ⟨x, H1, I1, r1, q1⟩ => ?_
  obtain ⟨a, e, ⟨xs, hq⟩, q⟩ := q1
  subst e
  cases r1
  obtain ⟨its, rv, p, hz⟩ := I1.list hq
  refine wpAny_pyIter_list p.isList ?_
  refine ⟨s1.heap.objs.size, [s1.heap.objs.size], _, _, H1, rfl, I1.kept (t' := s1.toks) fun b o e => Heap.get?_push_of_some _ e, turn_listQ a _, ⟨_, Heap.get?_push_size _ rfl, rfl, rfl⟩, fun b hb => ?_, q⟩
  have e : b = s1.heap.objs.size := by simpa using hb
  subst e
  exact I1.fpOk (Nat.le_refl _) (I1.hok.fresh (Nat.le_refl _))
theorem PIQimp {t t' : TI} (h : PIQ X tg iter t) (w : ∀ σ H Q, t' σ H Q → t σ H Q) : PIQ X tg iter t' := ⟨fun pins s σ H Q I q => h.run pins s σ H Q I (w σ H Q q)⟩
theorem PIQlens {wi : TI} (h : PIQ X tg iter wi) : PIQ X tg iter (fun σ H R => wi σ H fun J H' => Lens X.K H' → R J H') := ⟨fun pins s σ H R I hw => by
  refine thn (h.run pins s σ H _ I hw) fun v s1 h1 => thn h1 fun itv s2 h2 => ?_
  obtain ⟨it, fp, tn, J, H', e, I2, Tn, st, hf, q⟩ := h2
  exact ⟨it, fp, tn, J, H', e, I2, Tn, st, hf, q (lens_of I2)⟩⟩
theorem di_listQ {T : List (Addr × Str)} {cm : Nat → Value} {E : XK} {A : XE} (hl : PE X iter (tD X.K T cm E A)) : PIQ X tg iter (fun σ H R => ∃ M H0 δ r, Rp X.K T M H0 σ H δ ∧ (xIter A) δ = some r ∧ (∀ ds, A δ ≠ some (.ok (.tuple ds))) ∧ Ans T cm E H r fun ds H' => ∀ J, ds.length ≤ sz → ItOk X.K T M (mask H' (MM M σ δ)) J ds → R J H') := by
  refine ⟨fun pins s σ H R I h => ?_⟩
  obtain ⟨M, H0, δ, r, Rr, e, nt, a⟩ := h
  rcases bnd_of e with ⟨x, ex, e⟩ | ⟨c, ex, rfl⟩
  · cases x with
    | list ds =>
      cases e
      refine (PIQlens (pi_listQ (tg := tg) hl)).run pins s σ H R I ⟨M, H0, δ, .ok _, Rr, ex, fun H1 x1 v hv => ?_⟩
      cases hv with
      | @lst l xs _ ha hds =>
        refine ⟨l, rfl, ⟨xs, (sl_un ha)⟩, fun ln => a H1 x1 _ ?_ (it_list (sqL_ext mask2 ha) (dpAll_ext mask2 hds))⟩
        rw [← dpAll_len hds]
        exact ln l xs (.inl (sl_un ha))
    | tuple ds => exact absurd ex (nt ds)
    | _ => cases e
  · exact (pi_listQ (tg := tg) hl).run pins s σ H R I ⟨M, H0, δ, .ex c, Rr, ex, a⟩
end
/-! ### a comprehension there -/
section
variable {X : Cx}
theorem hot_in {pins : List (Addr × Obj)} {s s5 : Shared} {σ σ5 : L2.St} {H H5 : Hp} {scope : Scope} {ce : Env} {fp : List Addr} (hot : HotC X) (I : Inv X pins σ H s) (hf : ∀ b ∈ fp, FpOk X pins H b) (I5 : Inv (X.blk s H scope ce fp) [] σ5 H5 s5) : ∃ x1, HotAt X.A x1 s5.heap ∧ x1 ∉ fp := by
  obtain ⟨p, ⟨hh, v1, e1, c1⟩, hp⟩ := hot
  obtain ⟨g1, g2, g3, g4, g5⟩ := I.pin p (List.mem_append_left _ hp)
  have nfp : p.1 ∉ fp := fun hb => (hf p.1 hb).2.2.2.2.2 p (List.mem_append_left _ hp) rfl
  have nst : p.1 ∉ frs X.stack := fun hm => (List.mem_cons.mp (I.stkSub p.1 hm)).elim g3 g4
  exact ⟨p.1, ⟨hh, p.2, v1, I5.base.keep p.1 p.2 g1 g2 nst nfp, e1, c1⟩, nfp⟩
theorem pe_lcQ {elt tg iter : Expr} {ifs : List Expr} {scope : Scope} {own : List (Str × Nat)} {pos : Pos} {wi : TI} {g : TG} {tt : TT} {te : TE} (hot : HotC X) (hN : X.N.Nodup) (hi : PIQ X tg iter wi) (ok : BlkOk X.N X.env.scope scope own)
    (hg : ∀ (s : Shared) (H : Hp) (C : Addr) (cl : List (Str × Addr)) (fp : List Addr), PG (X.blk s H scope (compEnvC scope cl C X.env) fp) tg g) (ht : ∀ (s : Shared) (H : Hp) (C : Addr) (cl : List (Str × Addr)) (fp : List Addr), PTs (X.blk s H scope (compEnvC scope cl C X.env) fp) ifs tt)
    (he : ∀ (s : Shared) (H : Hp) (C : Addr) (cl : List (Str × Addr)) (fp : List Addr), PE (X.blk s H scope (compEnvC scope cl C X.env) fp) elt te) (hs : ∀ x, foldedSetIterable iter X.env x = pure x := by intro _; rfl) :
    PE X (.ListComp elt [⟨tg, iter, ifs, 0⟩] scope pos) (tLc wi g tt te (own.map (·.2))) := by
  refine ⟨fun pins s σ H Q I h => ?_⟩
  rw [eval_ListComp]
  have hfree : ∀ y ∈ scope.names, y.2 = .free → ∃ c, X.env.cells.lookup y.1 = some c := fun y hy e => (ok.free y hy e).elim (fun k => I.ok.has _ (.inl k)) (fun k => I.ok.has _ (.inr k))
  refine wpAny_comprehension_free (use := none) rfl hs (closure_ok hfree) ok.kind (fun y hy e => by rw [ok.uniq y hy, e]) (thn (hi.run pins s σ H _ I h) fun xv s1 hx => thn hx fun itv s2 h2 => ?_)
  obtain ⟨it, fp, tn, J, H2, e, I2, Tn, st2, f2, q⟩ := h2
  subst e
  refine wpAny_newObj_type (newEnv_comp ?_) (by show 0 ≤ sizeLine; decide)
  generalize hD : s2.heap.objs.size = D
  have hDn : H2 D = none := I2.hok.fresh (Nat.le_of_eq hD)
  obtain ⟨W, ⟨m0, w0⟩, turn⟩ := q D hDn
  generalize hs3 : ({ s2 with heap := s2.heap.push { cls := .type "list", data := .seq ([] : List Value).toArray } } : Shared) = s3
  have I3 : Inv X pins σ (upd H2 D (.lst [])) s3 := by
    rw [← hs3]
    refine I2.laid (t' := s2.toks) (fun b o e => Heap.get?_push_of_some _ e) (Nat.le_of_eq hD) ⟨Nat.zero_le _, [], 0, .nil, ?_⟩
    rw [← hD]
    exact Heap.get?_push_size _ rfl
  have h3 : s3.heap = s2.heap.push { cls := .type "list", data := .seq ([] : List Value).toArray } := by rw [← hs3]
  have f3 : ∀ b ∈ fp, FpOk X pins (upd H2 D (.lst [])) b ∧ b < s3.heap.objs.size := fun b hb => by
    obtain ⟨o, e, _⟩ := Tn.obj _ _ st2 b hb
    have hlt := Heap.lt_size e
    refine ⟨⟨?_, (f2 b hb).2⟩, by rw [h3, Heap.size_push]; exact Nat.lt_succ_of_lt hlt⟩
    rw [upd_ne (by rw [← hD]; exact Nat.ne_of_lt hlt)]
    exact (f2 b hb).1
  have st3 : tn 0 s3.heap := Tn.keep _ _ _ st2 fun b _ o e => by rw [h3]; exact Heap.get?_push_of_some _ e
  have I4 := block_start I3 ok hN f3
  have pg := hg s3 (upd H2 D (.lst [])) s3.heap.objs.size (cellsFrom (s3.heap.objs.size + 1) scope.names (cloFrom X.env.cells scope.names [])) fp
  have pt := ht s3 (upd H2 D (.lst [])) s3.heap.objs.size (cellsFrom (s3.heap.objs.size + 1) scope.names (cloFrom X.env.cells scope.names [])) fp
  have pe := he s3 (upd H2 D (.lst [])) s3.heap.objs.size (cellsFrom (s3.heap.objs.size + 1) scope.names (cloFrom X.env.cells scope.names [])) fp
  show codeAny _ _ (.compStart (.ListComp elt [⟨tg, iter, ifs, 0⟩] scope pos) 0 (.ref it) (.ref D) (compEnvC scope (cellsFrom (s3.heap.objs.size + 1) scope.names (cloFrom X.env.cells scope.names [])) s3.heap.objs.size X.env)) (compPost (model X.prog X.w) X.A X.xe none (EP X pins σ Q) (.ref D) s3.heap.objs.size) { s3 with heap := pushCells (s3.heap.push { cls := .type "dict", data := .dict #[] }) scope.names }
  have nfp : ∀ b ∈ fp, (upd H2 D (.lst [])) b = none := fun b hb => (f3 b hb).1.1
  generalize hce : compEnvC scope (cellsFrom (s3.heap.objs.size + 1) scope.names (cloFrom X.env.cells scope.names [])) s3.heap.objs.size X.env = ce at I4 pg pt pe ⊢
  have cL : ce.locals = s3.heap.objs.size := by subst hce; rfl
  generalize hH3 : upd H2 D (.lst []) = H3 at I3 I4 pg pt pe w0 nfp f3
  generalize hs4 : ({ s3 with heap := pushCells (s3.heap.push { cls := .type "dict", data := .dict #[] }) scope.names } : Shared) = s4 at I4 ⊢
  have st4 : tn 0 s4.heap := Tn.keep _ _ _ st3 fun b _ o e => by rw [← hs4]; exact pushCells_keeps _ _ _ _ (Heap.get?_push_of_some _ e)
  have stat : ∀ {σ' : L2.St} {H' : Hp} {s' : Shared}, Inv (X.blk s3 H3 scope ce fp) [] σ' H' s' → (∀ b ∈ fp, H' b = none) → ∀ b ∈ fp, FpOk (X.blk s3 H3 scope ce fp) [] H' b := fun {σ' H' s'} I' hn b hb =>
    ⟨hn b hb, (I'.ok.exf b hb).1, I'.ok.exfs b hb, .inl hb, fun x c e => (I'.ok.exf b hb).2 x c e, fun p hp => absurd (show p ∈ ([] : List (Addr × Obj)) ++ [] from hp) (by simp)⟩
  have loop : codeAny (model X.prog X.w) X.A (.compLoop (.ListComp elt [⟨tg, iter, ifs, 0⟩] scope pos) 0 (.ref it) (.ref D) ce) (compPost (model X.prog X.w) X.A X.xe none (EP X pins σ Q) (.ref D) s3.heap.objs.size) s4 := by
    refine compLoop_any (fun n s' => ∃ i H', Inv (X.blk s3 H3 scope ce fp) [] (wipe σ (own.map (·.2))) H' s' ∧ tn i s'.heap ∧ (∀ b ∈ fp, H' b = none) ∧ W i n H') ?_ m0 ⟨0, H3, I4, st4, nfp, w0⟩
    rintro n s5 ⟨i, H5, I5, st5, n5, w5⟩
    rcases turn i n H5 w5 with ⟨stop, qq⟩ | ⟨go, Nx, hNx, step⟩
    · have td := Tn.done (X.blk s3 H3 scope ce fp) rfl rfl rfl i [] s5 _ H5 (fun _ _ => False) I5 (stat I5 n5) (hot_in (X := X) (ce := ce) (scope := scope) hot I3 (fun b hb => (f3 b hb).1) I5) st5 stop
      refine thnF td fun r s6 ⟨hr, I6⟩ => ?_
      subst hr
      have I7 : Inv X pins σ H5 s6 := I3.call' (ch := fp) I6.os I6.base I6.hok I6.bare fun b hb => ⟨(f3 b hb).1.2.2.2.1, (f3 b hb).1.2.1, (f3 b hb).1.2.2.2.2.1, (f3 b hb).1.2.2.2.2.2⟩
      have nC : H5 s3.heap.objs.size = none := by
        have z : H5 ce.locals = none := I6.free
        rw [cL] at z
        exact z
      obtain ⟨m, hn, _⟩ := I6.loc
      have hn : s6.heap.Ns ce.locals m := hn
      rw [cL] at hn
      obtain ⟨k0, k1, k2, k3, k4, k5⟩ := I3.fpOk (Nat.le_refl _) nC
      exact ⟨m, hn, fun h'' sb => ⟨.ref D, H5, I7.turned (t' := s6.toks) (fun b o hb e => (sb.2 b hb).trans e) k0 k1 k3 k4 k5, rfl, qq⟩⟩
    · have ti := Tn.item (X.blk s3 H3 scope ce fp) rfl rfl rfl i [] s5 _ H5 (fun _ _ => False) I5 (stat I5 n5) st5 go
      refine thnF ti fun r s6 ⟨u, hr, h6⟩ => ?_
      subst hr
      refine thnF h6 fun _ s7 ⟨x, H7, I7, r7, y7, st7, n7⟩ => ?_
      have I7' := I7.pinned (stat I7 n7) (Tn.obj _ _ st7)
      refine thnF (pg.run _ s7 _ H7 x u _ I7' r7 (step x H7 y7)) fun _ s8 ⟨σ8, H8, I8, hw8, q8⟩ => ?_
      refine thnF (pt.run _ s8 σ8 H8 _ I8 q8) fun b s9 ⟨H9, I9, q9⟩ => ?_
      have fin : ∀ {s' : Shared} {H' : Hp}, Inv (X.blk s3 H3 scope ce fp) ([] ++ pinsAt fp s7.heap) σ8 H' s' → Nx H' → ∃ m, m < n ∧ ∃ i H', Inv (X.blk s3 H3 scope ce fp) [] (wipe σ (own.map (·.2))) H' s' ∧ tn i s'.heap ∧ (∀ b ∈ fp, H' b = none) ∧ W i m H' := fun {s' H'} I' nx => by
        obtain ⟨m', hm, w'⟩ := hNx H' nx
        have pin' : ∀ b ∈ fp, ∀ o, s7.heap.get? b = some o → s'.heap.get? b = some o ∧ H' b = none := fun b hb o e =>
          let z := I'.pin (b, o) (List.mem_append_right _ (List.mem_append_right _ (mem_pinsAt hb e)))
          ⟨z.1, z.2.1⟩
        have hl : (wipe σ (own.map (·.2))).length = σ8.length := by rw [← hw8, wipe_length]
        refine ⟨m', hm, i + 1, H', (I'.unpinned (pins := [])).weak hl (fun j v e => ?_), Tn.keep _ _ _ st7 fun b hb o e => (pin' b hb o e).1, fun b hb => ?_, w'⟩
        · rw [← hw8] at e
          exact (wipe_some e).1
        · obtain ⟨o, e, _⟩ := Tn.obj _ _ st7 b hb
          exact (pin' b hb o e).2
      cases b with
      | false =>
        simp only [Bool.false_eq_true, if_false] at q9 ⊢
        exact fin I9 q9
      | true =>
        simp only [if_true] at q9 ⊢
        refine thnF (pe.run _ s9 σ8 H9 _ I9 q9) fun z s10 ⟨yv, H10, I10, r10, acc, hD10, hz10, nx⟩ => ?_
        exact app_ok (X := X.blk s3 H3 scope ce fp) I10 hD10 hz10 r10 fun s11 I11 => fin I11 nx
  exact codeAny_compStart_list loop (Tn.self X.A 0 _ _ _ st4 loop)
end
end DL
set_option Elab.async false
set_option linter.all false
set_option maxRecDepth 100000
set_option maxHeartbeats 4000000
set_option autoImplicit false
/-! exceptions: raised, caught, asked for their class; lambdas handed to a def -/
namespace DL
open PySem PySem.Spec PyProof.Rows L2 HotX L2H
open LamX (ExtN Tabs TabS CodeO TabB LamS lamEnv lamCx)
/-! ### sum of a list while an exception is handled -/
theorem walks_hot {prog : Program} {w : World} {A : Around} (I ax x1 : Addr) (hne : ax ≠ I) (hx1 : x1 ≠ I) (items : Array Value) :
    Walks prog w A I [I, ax, x1] [I] items.size (fun i v => items[i]? = some v) (fun i h => h.IsListIter I ax i ∧ h.IsList ax items ∧ HotAt A x1 h) where
  sub := fun b hb => by simp at hb; simp [hb]
  frame := fun _ _ _ st hk => ⟨st.1.at fun o e => hk I (by simp) o e, st.2.1.at fun o e => hk ax (by simp) o e, by
    obtain ⟨hh, o, vs, e, r⟩ := st.2.2
    exact ⟨hh, o, vs, hk x1 (by simp) o e, r⟩⟩
  item := fun i s Q E hi st hQ => by
    refine wpAny_pyNext_list_item st.1 st.2.1 (x := items[i]) (by simp [hi]) fun h' hit' hs' => ?_
    refine hQ _ h' s.toks (by simp [hi]) ⟨hit', st.2.1.extBut hs'.extBut hne, ?_⟩ fun b o hb e => hs'.extBut b o (fun h => hb (by simp [h])) e
    obtain ⟨hh, o, vs, e, r⟩ := st.2.2
    exact ⟨hh, o, vs, hs'.extBut x1 o hx1 e, r⟩
  done := fun s Q E st hQ => list_stop_hot st.2.2 hx1 st.1 st.2.1 (by simp) fun h' he' => hQ h' s.toks fun b o hb e => he' b o (fun h => hb (by simp [h])) e
  self := fun _ _ _ _ st hQ => wpAny_pyIter_listiter st.1 hQ
theorem sum_hot {prog : Program} {w : World} {A : Around} {E : Value → Shared → Prop} {s : Shared} {l x1 : Addr} {its : List Value} {ns : List Int} {Q : Value → Shared → Prop} (hot : HotAt A x1 s.heap) (hl : s.heap.IsList l its.toArray) (hi : IntsAre its ns)
    (h : ∀ h' tk t', (∀ b o, s.heap.get? b = some o → h'.get? b = some o) → Q (.int ns.sum t') { s with heap := h', toks := tk }) : wpAny (model prog w) A (call (.builtin "sum") [.ref l]) Q E s := by
  obtain ⟨xs, e⟩ := hi.allInts.items
  have hn : numsOf (intItems xs).toList = ns := by rw [← e]; exact hi.numsOf
  rw [nums_intItems] at hn
  rw [e] at hl
  have hlt : l < s.heap.objs.size := by obtain ⟨o, ho, _⟩ := hl; exact Heap.lt_size ho
  obtain ⟨hh, o1, v1, g1, d1, c1⟩ := hot
  have hlt1 := Heap.lt_size g1
  refine call_sum_walkG (wpAny_pyIter_list hl ?_)
  refine ⟨_, _, _, _, _, _, numAt xs, rfl, walks_hot (A := A.in1) _ l x1 (Nat.ne_of_lt hlt) (Nat.ne_of_lt hlt1) (intItems xs), ⟨⟨_, Heap.get?_push_size _ rfl, rfl, rfl⟩, hl.push _, hh, o1, v1, Heap.get?_push_of_some _ g1, d1, c1⟩, fun b hb => ?_, (fun _ _ => intItems_at), fun h' tk t' hk => ?_⟩
  · simp at hb; show b < (s.heap.push _).objs.size
    rw [Heap.size_push]
    rcases hb with rfl | rfl | rfl
    · exact Nat.lt_succ_self _
    · exact Nat.lt_succ_of_lt hlt
    · exact Nat.lt_succ_of_lt hlt1
  · have := h h' tk t' (fun b o e => hk b o (by simp; exact Nat.ne_of_lt (Heap.lt_size e)) (Heap.get?_push_of_some _ e))
    have e1 : (intItems xs).size = xs.size := by simp [intItems]
    rw [e1, preSum_eq, List.take_of_length_le (by simp), hn]; exact this
section
variable {X : Cx} {T : List (Addr × Str)} {cm : Nat → Value} {E : XK} {A B C : XE} {a b c e tg iter : Expr} {pos p : Pos}
theorem call_sumQ (hot : HotC X) : CallR X (.builtin "sum") (rL1 (rD1 X.K T sumLD)) := by
  intro pins s σ H xs us Q I r h
  obtain ⟨x, rfl, M, dx, d, m, hx, e, q⟩ := h
  cases hx with
  | @lst a xs ds ha hds =>
    have e : (intsOf ds).map (fun ns => PyData.int ns.sum) = some d := e
    cases q1 : intsOf ds with
    | none => rw [q1] at e; cases e
    | some ns =>
      rw [q1] at e
      cases e
      have e1 := ints_dv hds q1
      subst e1
      obtain ⟨its, rv, hl, _⟩ := I.list (sl_un ha)
      rw [Vals.ref1 r]
      obtain ⟨x1, hx1⟩ := hot.at I
      exact sum_hot hx1 hl.isList rv.ints fun h' tk t' hk => ⟨.int _, H, I.kept hk, ⟨_, rfl⟩, q _ H (Ext.refl T H) (.int _)⟩
  | _ => cases e
/-- [elt for target in a list] there -/
theorem df_lcQ {elt : Expr} {ifs : List Expr} {scope : Scope} {own : List (Str × Nat)} {g : XG} {t : XT} {f : XE} (hot : HotC X) (hN : X.N.Nodup) (hl : PE X iter (tD X.K T cm E A)) (ok : BlkOk X.N X.env.scope scope own)
    (hg : ∀ (s : Shared) (H : Hp) (C : Addr) (cl : List (Str × Addr)) (fp : List Addr), PG (X.blk s H scope (compEnvC scope cl C X.env) fp) tg (tG X.K T (own.map (·.2)) g)) (ht : ∀ (s : Shared) (H : Hp) (C : Addr) (cl : List (Str × Addr)) (fp : List Addr), PTs (X.blk s H scope (compEnvC scope cl C X.env) fp) ifs (tT X.K T cm E0 t))
    (he : ∀ (s : Shared) (H : Hp) (C : Addr) (cl : List (Str × Addr)) (fp : List Addr), PE (X.blk s H scope (compEnvC scope cl C X.env) fp) elt (tD X.K T cm E0 f)) (hs : ∀ x, foldedSetIterable iter X.env x = pure x := by intro _; rfl) :
    PE X (.ListComp elt [⟨tg, iter, ifs, 0⟩] scope pos) (tF X.K T cm E (xLc (xIterL A) g t f (own.map (·.2)))) := PEimp (pe_lcQ (wi := tI X.K T cm E (xIterL A)) hot hN (PIQimp (di_listQ hl) fun σ H R h => by
  obtain ⟨M, H0, δ, r, Rr, e, a⟩ := h
  rcases bnd_of e with ⟨x, ex, e⟩ | ⟨c, ex, rfl⟩
  · cases x with
    | list ds =>
      cases e
      exact ⟨M, H0, δ, .ok ds, Rr, (by show bnd (A δ) _ = _; rw [ex]; rfl), (fun ds' z => by rw [ex] at z; cases z), a⟩
    | _ => cases e
  · exact ⟨M, H0, δ, .ex c, Rr, (by show bnd (A δ) _ = _; rw [ex]; rfl), (fun ds' z => by rw [ex] at z; cases z), a⟩) ok hg ht he hs) fun _ _ _ h => lc_imp h
/-! ### index of a truth in a list of truths -/
theorem flat_bls (bs : List Bool) : (bs.map V.bl).all flatV = true := by
  rw [List.all_eq_true]
  intro v hv
  obtain ⟨b, _, rfl⟩ := List.mem_map.mp hv
  rfl
theorem findIdx_sp (bs : List Bool) (b : Bool) (j : Nat) (h : bs.findIdx? (fun x => decide (x = b)) = some j) : bs[j]? = some b ∧ ∀ m z, m < j → bs[m]? = some z → z ≠ b := by
  obtain ⟨h1, h2, h3⟩ := List.findIdx?_eq_some_iff_getElem.mp h
  refine ⟨?_, fun m z hm hz e => ?_⟩
  · rw [List.getElem?_eq_getElem h1]; simpa using h2
  · have := h3 m hm
    rw [List.getElem?_eq_getElem (by omega)] at hz
    cases hz
    simp [e] at this
theorem de_indexB {o : Expr} {apos : Pos} (ho : PE X o (tD X.K T cm E A)) (hb : PE X b (tD X.K T cm E B)) (hat : attributeBase o "index" X.env (eval o X.env) = eval o X.env := by rfl) (hl : (apos.endLine == pos.line) = true := by rfl)
    (hst : starEach (b :: []) X.env = (false, eval b X.env) :: starEach [] X.env := by rfl)
    (hfew : ((backTo pos (starEach (b :: []) X.env)).all (fun x => !x.1) && (backToKw pos (keywordEach [] X.env)).all (fun x => x.1.isSome) && decide ((b :: ([] : List Expr)).length + ([] : List Keyword).length + (if ([] : List Keyword).isEmpty then 0 else 1) < 30)) = true := by rfl) (hpl : (backTo pos (starEach [] X.env)).any (·.1) = false := by rfl) :
    PE X (.Call (.Attribute o "index" apos) [b] [] pos) (tD X.K T cm E (xIndexB A B)) :=
  PEimp (pe_bm PySem.F.plainAttrs_list PySem.F.slot_list_index PySem.F.type_list_index mt_index ho (pa_cons hb pa_nil hst) hat hfew hl hst hpl) fun σ H Q h => by
    obtain ⟨M, H0, δ, r, R, e, a⟩ := h
    rcases bnd_of e with ⟨x, ex, e⟩ | ⟨c, ex, rfl⟩
    · refine ⟨M, H0, δ, .ok x, R, ex, fun H1 x1 v hv => ?_⟩
      cases hv with
      | @lst l vs ds hl hds =>
        have e : bnd (B δ) (fun y => match y with
          | .bool b => lift ((boolsOf ds).bind fun bs => (bs.findIdx? fun x => decide (x = b)).map fun j => PyData.int (j : Nat))
          | _ => none) = some r := e
        refine ⟨.inl ⟨rfl, vs, sl_un hl⟩, ?_⟩
        rcases bnd_of e with ⟨y, ey, e⟩ | ⟨c, ey, rfl⟩
        · refine ⟨M, H0, δ, .ok y, R.grow x1, ey, fun H2 x2 u hu => ?_⟩
          cases y with
          | bool b =>
            cases hu
            have e : lift ((boolsOf ds).bind fun bs => (bs.findIdx? fun x => decide (x = b)).map fun j => PyData.int (j : Nat)) = some r := e
            cases q1 : boolsOf ds with
            | none => rw [q1] at e; cases e
            | some bs =>
              rw [q1] at e
              cases q2 : bs.findIdx? (fun x => decide (x = b)) with
              | none => rw [Option.bind_some, q2] at e; cases e
              | some j =>
                rw [Option.bind_some, q2] at e
                cases e
                have e1 := bools_dv hds q1
                subst e1
                obtain ⟨h1, h2⟩ := findIdx_sp bs b j q2
                refine ⟨l, _, .bl b, j, .bl b, rfl, rfl, sqL_ext x2.keep (sl_un hl), rfl, flat_bls bs, by rw [List.getElem?_map, h1]; rfl, by cases b <;> rfl, fun m z hm hz => ?_, a H2 (x1.trans x2) _ (.int _)⟩
                rw [List.getElem?_map] at hz
                cases q3 : bs[m]? with
                | none => rw [q3] at hz; cases hz
                | some z' =>
                  rw [q3] at hz
                  cases hz
                  have := h2 m z' hm q3
                  cases z' <;> cases b <;> first | rfl | exact absurd rfl this
          | _ => cases e
        · exact ⟨M, H0, δ, .ex c, R.grow x1, ey, a.grow x1⟩
      | _ => cases e
    · exact ⟨M, H0, δ, .ex c, R, ex, a⟩
end
end DL
set_option Elab.async false
set_option linter.all false
set_option maxRecDepth 100000
set_option maxHeartbeats 4000000
set_option autoImplicit false
namespace DL
open PySem PySem.Spec PyProof.Rows L2 HotX L2H
open LamX (ExtN Tabs TabS CodeO TabB LamS lamEnv lamCx)
section
variable {X : Cx} {T : List (Addr × Str)} {cm : Nat → Value} {E : XK} {A B C : XE} {a b c e tg iter : Expr} {pos p : Pos}
/-! ### isinstance of the caught exception -/
theorem call_isP {ea D : Addr} {oe : Obj} (C : ExcC X.K D) (hz : L2N.Zn (.ref D) none oe) (hf : ∃ vs, oe.data = .fields vs) (hp : (ea, oe) ∈ X.pn) : CallR X (.builtin "isinstance") (rIsE X.K D ea) := by
  intro pins s σ H xs us Q I r h
  obtain ⟨c, cv, b, rfl, hcv, e, q⟩ := h
  cases r with
  | cons rx rr =>
    cases rr with
    | cons rt rr =>
      cases rr
      cases rx
      have ec := hcv _ rt
      subst ec
      obtain ⟨hget, _⟩ := I.pin (ea, oe) (List.mem_append_left _ hp)
      obtain ⟨vs, hv⟩ := hf
      have J : PySem.W.InstAt s.heap ea oe D none := by
        obtain ⟨oc, od, oda, osl⟩ := oe
        obtain ⟨h1, h2, _⟩ := hz
        dsimp only at h1 h2 hv
        subst h1 h2 hv
        exact ⟨hget, rfl, rfl, trivial⟩
      exact PySem.W.kia_one (PySem.W.handS_kitx_exc C.hg C.hk C.hs C.hd C.ha C.hn C.ht C.hm) I.kIn J e (fun z => nomatch z) fun tk => ⟨.bl b, H, I.kept (t' := tk) fun _ _ z => z, rfl, q⟩
theorem isE_imp {ea D : Addr} {cv : V} {u0 : Value} {i : Nat} {b : Bool} {σ : L2.St} {H : Hp} {Q : VK} (hr : ∀ u, RelV cv u → u = u0) (hk : PySem.W.kitOne X.K (.ref D) u0 = some b) (h : tD X.K T cm E (xIsE i ea b) σ H Q) :
    ∃ v, σ[i]? = some (some v) ∧ rIsE X.K D ea [v, cv] H Q := by
  obtain ⟨M, H0, δ, r, R, e, a⟩ := h
  unfold xIsE at e
  cases q : δ[i]? with
  | none => rw [q] at e; cases e
  | some s =>
    rw [q] at e
    cases s with
    | raw a' =>
      have e9 : (if a' = ea then ret (PyData.bool b) else none) = some r := e
      clear e
      by_cases hae : a' = ea
      · rw [if_pos hae] at e9
        subst hae
        cases e9
        exact ⟨.ref a', R.raw i a' q, cv, u0, b, rfl, hr, hk, a H (Ext.refl T H) _ (.bl b)⟩
      · rw [if_neg hae] at e9; cases e9
    | _ => cases e
/-- isinstance(e, an own class) -/
theorem de_isEo (i : Nat) {x y : Str} {px p2 : Pos} {ea D CY : Addr} {oe : Obj} {b : Bool} (C : ExcC X.K D) (hz : L2N.Zn (.ref D) none oe) (hf : ∃ vs, oe.data = .fields vs) (hp : (ea, oe) ∈ X.pn) (hk : PySem.W.kitOne X.K (.ref D) (.ref CY) = some b)
    (hg : Gl X "isinstance") (hm : X.mg "isinstance" = none) (hg2 : Gl X y) (hm2 : X.mg y = some (.ref CY)) (hN : X.N[i]? = some x := by rfl) (hv : Vis X.env.scope x := by first | exact Or.inl rfl | exact Or.inr (Or.inl rfl)) (hd : (x == ("__debug__" : Str)) = false := by decide) (hcd : (x == ("__classdict__" : Str)) = false := by decide) (hdb : (y == ("__debug__" : Str)) = false := by decide)
    (he : starEach (.Name x px :: [.Name y p2]) X.env = (false, eval (.Name x px) X.env) :: starEach [.Name y p2] X.env := by rfl) (he2 : starEach [.Name y p2] X.env = (false, eval (.Name y p2) X.env) :: starEach [] X.env := by rfl) (hpl : (backTo pos (starEach [.Name y p2] X.env)).any (·.1) = false := by rfl) :
    PE X (.Call (.Name "isinstance" p) [.Name x px, .Name y p2] [] pos) (tD X.K T cm E (xIsE i ea b)) :=
  PEimp (pe_callB (call_isP C hz hf hp) hg hm (by decide +kernel) (pa_cons (pe_var (i := i) hN hv hd hcd) (pa_cons (pe_glob (v := .ref CY) hg2 hm2 rfl hdb) pa_nil he2) he) (by decide) (by decide) he) fun σ H Q h => isE_imp (fun u r => r) hk h
/-- isinstance(e, ValueError) -/
theorem de_isEb (i : Nat) {x y : Str} {px p2 : Pos} {ea D : Addr} {oe : Obj} {b : Bool} {ty : String} (C : ExcC X.K D) (hz : L2N.Zn (.ref D) none oe) (hf : ∃ vs, oe.data = .fields vs) (hp : (ea, oe) ∈ X.pn) (hk : PySem.W.kitOne X.K (.ref D) (.type ty) = some b)
    (hg : Gl X "isinstance") (hm : X.mg "isinstance" = none) (hg2 : Gl X y) (hm2 : X.mg y = none) (hv2 : bootBuiltins y = some (.type ty)) (hN : X.N[i]? = some x := by rfl) (hv : Vis X.env.scope x := by first | exact Or.inl rfl | exact Or.inr (Or.inl rfl)) (hd : (x == ("__debug__" : Str)) = false := by decide) (hcd : (x == ("__classdict__" : Str)) = false := by decide) (hn : y ≠ "__name__" := by decide) (hdb : (y == ("__debug__" : Str)) = false := by decide)
    (he : starEach (.Name x px :: [.Name y p2]) X.env = (false, eval (.Name x px) X.env) :: starEach [.Name y p2] X.env := by rfl) (he2 : starEach [.Name y p2] X.env = (false, eval (.Name y p2) X.env) :: starEach [] X.env := by rfl) (hpl : (backTo pos (starEach [.Name y p2] X.env)).any (·.1) = false := by rfl) :
    PE X (.Call (.Name "isinstance" p) [.Name x px, .Name y p2] [] pos) (tD X.K T cm E (xIsE i ea b)) :=
  PEimp (pe_callB (call_isP C hz hf hp) hg hm (by decide +kernel) (pa_cons (pe_var (i := i) hN hv hd hcd) (pa_cons (pe_bltn (v := .ty ty) hg2 hm2 hv2 rfl hn hdb) pa_nil he2) he) (by decide) (by decide) he) fun σ H Q h => isE_imp (fun u r => r) hk h
/-! ### raise -/
theorem ds_raise {x m : Str} {j c : Nat} {C : Addr} {p2 pos' : Pos} (hc : X.calm = true) (tk : L2N.Takes X (fun c d _ H => E c d H)) (q : PySem.W.excIn X.K C He.veBase "ValueError.__new__" = true) (gC : X.mg x = some (.ref C)) (kC : PySem.W.keepIn X.K (.ref C) = true) (r : Raises X (.ref C)) (hcm : cm c = .ref C) (hg : Gl X x) (hdb : (x == ("__debug__" : Str)) = false := by decide) :
    PS X (.Raise (some (.Call (.Name x p) [.Constant (.str m) j p2] [] pos)) none pos') (tSt X.K T cm E (sRaise c)) :=
  PSimp (L2N.ps_raise hc tk (L2N.pmk_own PySem.F.excBase_ValueError q gC kC r hg hdb)) fun En σ H h => by
    obtain ⟨M, H0, δ, o, R, e, k⟩ := h.old
    cases e
    have := k H R.ext
    rw [hcm] at this
    exact this
end
end DL
set_option Elab.async false
set_option linter.all false
set_option maxRecDepth 100000
set_option maxHeartbeats 4000000
set_option autoImplicit false
namespace DL
open PySem PySem.Spec PyProof.Rows L2 HotX L2H
open LamX (ExtN Tabs TabS CodeO TabB LamS lamEnv lamCx lam_make2 run_ofS)
/-! ### the def that names what was raised -/
def WordOk (P : Program) (w : World) (K : PySem.W.Frag) (mg : Str → Option Value) (T : List (Addr × Str)) (k : Nat) (x : Str) (D : Addr) (wd : Str) : Prop :=
  ∃ f : Addr, mg x = some (.ref f) ∧ PySem.W.keepIn K (.ref f) = true ∧ ∀ (base : Heap) (A : Around) (outer : List Env) (s : Shared) (H : Hp) (Q : VK) (ea : Addr) (oe : Obj), RoomH k A → Hot1 A (ea, oe) → PinOk outer H s (ea, oe) → L2N.Zn (.ref D) none oe → (∃ vs, oe.data = .fields vs) →
    Env0 P w K mg base A outer s H → Tabs T H → (∀ H', Ext T H H' → Q (.str wd) H') → codeAny (model P w) A (.call (.ref f) ⟨[.ref ea], []⟩) (CR L2.CX0 outer P w H s Q L2.E0) s
theorem rp_raw {K : PySem.W.Frag} {T : List (Addr × Str)} {H : Hp} {N : List Str} {ea : Addr} (t : Tabs T H) (hN : 0 < N.length) : Rp K T (fun _ => False) H (L2.start N [V.ref ea]) H (.raw ea :: List.replicate (N.length - 1) .no) := by
  have no : ∀ (i : Nat) (s : Sl), (Sl.raw ea :: List.replicate (N.length - 1) Sl.no)[i]? = some s → s = .raw ea ∨ s = .no := fun i s h => by
    cases i with
    | zero => simp at h; exact .inl h.symm
    | succ i =>
      rw [List.getElem?_cons_succ, List.getElem?_replicate] at h
      split at h
      · cases h; exact .inr rfl
      · cases h
  refine ⟨Ext.refl T H, t, fun a z => z.elim, fun i d h => ?_, fun i o h => ?_, fun i j o _ _ h => ?_, ?_, fun i a h => ?_, fun i o a h => ?_, fun i o h => ?_, fun i j o _ h => ?_⟩
  rotate_left 5
  · rcases no i _ h with z | z <;> cases z
  · rcases no i _ h with z | z <;> cases z
  · rcases no i _ h with z | z <;> cases z
  · rcases no i _ h with z | z <;> cases z
  · rcases no i _ h with z | z <;> cases z
  · rcases no i _ h with z | z <;> cases z
  · unfold L2.start
    simp only [List.length_cons, List.length_append, List.length_map, List.length_replicate, List.length_nil]
    omega
  · cases i with
    | zero => simp at h; subst h; rfl
    | succ i =>
      rw [List.getElem?_cons_succ, List.getElem?_replicate] at h
      split at h
      · cases h
      · cases h
theorem word_mk {P : Program} {w : World} {K : PySem.W.Frag} {mg : Str → Option Value} {T : List (Addr × Str)} {cm : Nat → Value} {k : Nat} {x en : Str} {st : Stmt} {N : List Str} {D : Addr} {wd : Str} {gw : Nat → XS} {h : Heap} (KX : K.In h) (G : h.Ns mainGlobals mg) {fa : List He.Fa} {fn : List He.FnD} (c : He.SaysE fa fn K) (i j l : Nat)
    (hi : fn[i]? = some ⟨(x, none), x, x, defArgs st, defBody st, defScope st⟩) (hj : fa[j]? = some (.glo x)) (hl : fa[l]? = some (.keep x)) (S : FnScope N [en] (defScope st))
    (hb : ∀ (kV doc pm : Value) (an : Option Addr) (cdv ct : Value) (u : Value), bindArgs (PySem.W.fnOf x x (defArgs st) (defBody st) (defScope st) .none kV doc pm an cdv ct) ⟨[u], []⟩ = pure [(en, u)])
    (hg : ∀ ea, gw ea (.raw ea :: List.replicate (N.length - 1) .no) = some (.rt (.str wd)))
    (hbody : ∀ (base : Heap) (f : Addr) (cdv : Value) (A : Around) (outer : List Env) (s : Shared) (H : Hp) (ea : Addr) (oe : Obj), RoomH k (A.deeper (envOfC x (defScope st) s.heap.objs.size f cdv)) → Hot1 A (ea, oe) → L2N.Zn (.ref D) none oe → (∃ vs, oe.data = .fields vs) →
      PSs (cxH L2.CX0 P w K mg base N x (defScope st) f cdv A outer s H L2.E0 (ea, oe)) (defBody st) (tSt K T cm L2.E0 (gw ea))) : WordOk P w K mg T (k + 1) x D wd := by
  obtain ⟨oc, od, osl, kV, doc, pm, an, cdv, ct, hlk, hcd⟩ := c.def_ i hi
  refine ⟨He.ga K x, He.glo_ok KX G (c.fact j hj), He.keep_ok (c.fact l hl), fun base A outer s H Q ea oe hr hot hpin hz hf e0 hT hQ => ?_⟩
  have KX' : K.In s.heap := e0.mod.kin.keeps fun b o e => (e0.bs b o e).1
  have lim : s.heap.NoLimit := e0.mod.nolimit.keeps fun b o e => (e0.bs b o e).1
  have bt : BindsTo s (PySem.W.fnOf x x (defArgs st) (defBody st) (defScope st) .none kV doc pm an cdv ct) ⟨[.ref ea], []⟩ ([en].zip [Value.ref ea]) := .of_eq (hb kV doc pm an cdv ct (.ref ea))
  have hkind : ∀ y ∈ [en].zip [Value.ref ea], (defScope st).names.lookup y.1 = some .local ∨ ((defScope st).names.lookup y.1 = some .cell ∧ ((cellsFrom (s.heap.objs.size + 1) (defScope st).names []).lookup y.1).isSome = true) := fun ⟨n, v⟩ hy =>
    (S.par n (List.of_mem_zip hy).1).elim .inl fun q => .inr ⟨q, PySem.W.cellsFrom_some _ _ _ (.inl q)⟩
  have hNl : 0 < N.length := by
    have := congrArg List.length S.pre
    simp at this
    omega
  refine codeAny_call_function hr.depth (KX' _ _ hlk) rfl S.co S.gen rfl (PySem.W.codeRec_of KX' hcd) (bt _ _ _ _ ?_)
  refine wpAny_newFunctionEnv_cells S.kind hkind fun env he s1 xx => ?_
  subst he
  refine ⟨lim.keeps xx.toInCall.keep, codeAny_func ?_⟩
  have I : Inv (cxH L2.CX0 P w K mg base N x (defScope st) (He.ga K x) cdv A outer s H L2.E0 (ea, oe)) [] (L2.start N [.ref ea]) H s1 := inv_startH S hpin e0 rfl (.cons rfl .nil) xx
  refine wpAny_mono ((hbody base (He.ga K x) cdv A outer s H ea oe (hr.deeper _) hot hz hf).run [] s1 _ H { nx := fun _ H' => Q .non H', rt := Q } I ⟨_, _, H, _, _, Sub.refl (fun a z => z.elim), rp_raw hT hNl, hg ea, fun v H' e hv => ?_⟩) (fun fl s' hs => ?_) fun e s' hs => hs
  · cases hv
    exact hQ H' e
  have fin : ∀ {σ' : L2.St} {H' : Hp} {v : V} {u : Value}, Inv (cxH L2.CX0 P w K mg base N x (defScope st) (He.ga K x) cdv A outer s H L2.E0 (ea, oe)) [] σ' H' s' → RelV v u → Q v H' → CE outer P w H s Q u s' := fun {σ' H' v u} J rv q => ⟨v, H', J.os, J.bare, J.base, J.hok, rv, q⟩
  cases fl with
  | ret u =>
    obtain ⟨v, σ', H', J, rv, q⟩ := hs
    exact fin J rv q
  | next =>
    obtain ⟨σ', H', J, q⟩ := hs
    exact fin (v := V.non) (u := Value.none) J rfl q
  | brk =>
    obtain ⟨_, _, _, q⟩ := hs
    exact False.elim q
  | cont =>
    obtain ⟨_, _, _, q⟩ := hs
    exact False.elim q
section
variable {X : Cx} {T : List (Addr × Str)}
theorem pe_word {k i : Nat} {x e : Str} {D ea : Addr} {oe : Obj} {wd : Str} {p px pos : Pos} (Wd : WordOk X.prog X.w X.K X.mg T k x D wd) (hr : RoomH k X.A) (hot : Hot1 X.A (ea, oe)) (hp : (ea, oe) ∈ X.pn) (hz : L2N.Zn (.ref D) none oe) (hf : ∃ vs, oe.data = .fields vs) (hg : Gl X x) (hN : X.N[i]? = some e) (hv : Vis X.env.scope e) (hd : (e == ("__debug__" : Str)) = false := by decide) (hcd : (e == ("__classdict__" : Str)) = false := by decide) (hdb : (x == ("__debug__" : Str)) = false := by decide)
    (he : starEach [.Name e px] X.env = (false, eval (.Name e px) X.env) :: starEach [] X.env := by rfl) (hpl : (backTo pos (starEach [] X.env)).any (·.1) = false := by rfl) :
    PE X (.Call (.Name x p) [.Name e px] [] pos) (fun σ H Q => σ[i]? = some (some (.ref ea)) ∧ Tabs T H ∧ ∀ H', Ext T H H' → Q (.str wd) H') := by
  obtain ⟨f, hm, hk, run⟩ := Wd
  refine ⟨fun pins s σ H Q I h => ?_⟩
  obtain ⟨hs, hT, hQ⟩ := h
  refine wpAny_Call_Name_kw (ld_glob I hg hm ?_ hdb)
  refine PySem.W.callWith_K (h₀ := X.base) I.ok.mod.kin hk (thn ((pa_cons (pe_var (pos := px) (i := i) hN hv hd hcd) pa_nil he).run pos pins s σ H (fun vs H1 => vs = [V.ref ea] ∧ H1 = H) I ⟨.ref ea, hs, rfl, rfl⟩) fun us s1 ⟨vs, H1, I1, r, ev, eH⟩ => ⟨I1.kIn, ?_⟩) he hpl
  subst ev
  rw [eH] at I1
  rw [Vals.ref1 r]
  have P1 := I1.pin (ea, oe) (List.mem_append_left _ hp)
  have hpin : PinOk X.stack H s1 (ea, oe) := ⟨P1.1, P1.2.1, fun hm => (List.mem_cons.mp (I1.stkSub ea hm)).elim P1.2.2.1 P1.2.2.2.1, P1.2.2.2.2⟩
  refine wpAny_call (codeAny_mono (run X.base X.A X.stack s1 H Q ea oe hr hot hpin hz hf I1.env0 hT hQ) fun r s' hq => ?_)
  cases r with
  | error e => exact (show False from hq).elim
  | ok fl =>
    cases fl with
    | ret u => exact I1.after hq
    | next => exact False.elim hq
    | brk => exact False.elim hq
    | cont => exact False.elim hq
end
end DL
set_option Elab.async false
set_option linter.all false
set_option maxRecDepth 100000
set_option maxHeartbeats 4000000
set_option autoImplicit false
namespace DL
open PySem PySem.Spec PyProof.Rows L2 HotX L2H
open LamX (ExtN Tabs TabS CodeO TabB LamS lamEnv lamCx lam_make2 run_ofS lam_start2)
/-! ### a lambda handed to a def, what it raises kept with its context -/
abbrev lamXe (X : Cx) (A : Around) (outer : List Env) (s : Shared) (H : Hp) (E : XK) (scope : Scope) (f c' : Addr) : Value → Shared → Prop := fun e s' =>
  wpAny (model X.prog X.w) (A.deeper (lamEnv X scope s.heap.objs.size f c')) (leaving (lamEnv X scope s.heap.objs.size f c') e) (fun _ s'' => L2N.CX X.prog X.w outer H s E e s'') (fun e' s'' => L2N.CX X.prog X.w outer H s E e' s'') s'
abbrev lamN (X : Cx) (A : Around) (outer : List Env) (s : Shared) (H : Hp) (E : XK) (scope : Scope) (f c' : Addr) : Cx := (lamCx X A outer s H E scope f c').wish (lamXe X A outer s H E scope f c')
section
variable {X : Cx} {pins : List (Addr × Obj)} {σ : L2.St} {H : Hp} {s : Shared}
theorem lam_takes {A : Around} {outer : List Env} {s : Shared} {H : Hp} {E : XK} {scope : Scope} {f c' : Addr} : L2N.Takes (lamN X A outer s H E scope f c') (fun cls d _ H => E cls d H) := L2N.takes_of rfl rfl rfl rfl
theorem pe_actN {CXg : CXT} {Eg : XK} {Ng : List Str} {qg : Str} {sg : Scope} {g f c' : Addr} {cdg pm ctv : Value} {params : Arguments} {body : Expr} {scope : Scope} {k i : Nat} {a : Str} {pn : List (Addr × Obj)} {xe : Value → Shared → Prop} {W : WX} {E : XK} {tb : TE} {p1 p2 : Pos}
    (I : Inv X pins σ H s) (L : LamS X.env.scope scope) (hf : s.heap.get? f = some (PySem.W.kla_obj "<lambda>" (X.env.qual ++ "<lambda>") params body scope (cloFrom X.env.cells scope.names []) pm c' ctv)) (hfn : H f = none) (hfr : f ∉ frs X.stack)
    (hbind : bindArgs (PySem.W.kla_fn "<lambda>" (X.env.qual ++ "<lambda>") params body scope (cloFrom X.env.cells scope.names []) pm (.ref c') ctv) ⟨[], []⟩ = pure [])
    (tk : L2N.Takes ((cxOf CXg X.prog X.w X.K X.mg X.base Ng qg sg g cdg X.A X.stack s H Eg).tr pn xe) W) (hW : ∀ cls d σ' H', E cls d H' → W cls d σ' H') (hr : Room (k + 1) (X.A.deeper (envOfC qg sg s.heap.objs.size g cdg)))
    (hbody : ∀ (A : Around) (outer : List Env) (s : Shared) (H : Hp), Room k (A.deeper (lamEnv X scope s.heap.objs.size f c')) → PE (lamN X A outer s H E scope f c') body tb)
    (hN : Ng[i]? = some a) (hv : Vis sg a) (hd : (a == ("__debug__" : Str)) = false := by decide) (hcd : (a == ("__classdict__" : Str)) = false := by decide) :
    PE ((cxOf CXg X.prog X.w X.K X.mg X.base Ng qg sg g cdg X.A X.stack s H Eg).tr pn xe) (.Call (.Name a p1) [] [] p2)
      (fun σZ HZ Q => σZ[i]? = some (some (.ref f)) ∧ HZ c' = some (CodeO c' (X.env.qual ++ "<lambda>")) ∧ tb σ HZ Q) := by
  refine ⟨fun pinsZ sZ σZ HZ Q IZ h => ?_⟩
  obtain ⟨hs, hc, ht⟩ := h
  refine wpAny_Call_Name_kw (thn ((pe_var (pos := p1) (i := i) hN hv hd hcd).run pinsZ sZ σZ HZ (fun v H1 => v = .ref f ∧ H1 = HZ) IZ ⟨.ref f, hs, rfl, rfl⟩) fun u s1 ⟨v, H1, I1, r1, ev, eH⟩ => ?_)
  subst ev
  rw [eH] at I1
  obtain rfl : u = Value.ref f := r1
  have of1 : s1.heap.get? f = some (PySem.W.kla_obj "<lambda>" (X.env.qual ++ "<lambda>") params body scope (cloFrom X.env.cells scope.names []) pm c' ctv) := I1.base.keep f _ hf hfn hfr (fun z => nomatch (show f ∈ ([] : List Addr) from z))
  refine PySem.W.callWith_F0 ⟨_, _, _, _, of1⟩ ?_
  have un : Un (frs X.stack) [] H HZ s.heap s1.heap := I1.base
  obtain ⟨⟨oc, vs, t, hoc, hdc, hvc⟩, _, _⟩ := I1.hok c' _ hc
  have rc : codeAny (model X.prog X.w) (X.A.deeper (envOfC qg sg s.heap.objs.size g cdg)) (.call (.ref f) ⟨[], []⟩) (CR (L2N.CX X.prog X.w) (envOfC qg sg s.heap.objs.size g cdg :: X.stack) X.prog X.w HZ s1 Q E) s1 := by
    refine PySem.W.kla_callFunE hr.depth of1 rfl L.co L.gen rfl ⟨c', oc, vs, t, rfl, hoc, hdc, hvc⟩ ?_
    rw [hbind]
    refine wpAny_pure (wpAny_newFunctionEnv (fun y hy => (L.own y hy).2) (fun y hy => absurd hy (by simp)) (fun h₁ hns hsb => ⟨I1.nolimit.fresh _ hsb, ?_⟩) L.kind)
    show codeAny _ _ (.expr body (lamEnv X scope s1.heap.objs.size f c')) _ _
    have kp : ∀ b o, s1.heap.get? b = some o → h₁.get? b = some o := fun b o e => hsb.extBut b o (Nat.ne_of_lt (Heap.lt_size e)) (Heap.get?_push_of_some _ e)
    have J := (lam_start2 (E := E) (f := f) (c' := c') (tk := s1.toks + ([] : List (Str × Value)).length) I L I1.env0 hr.hd un hns kp).wish (lamXe X (X.A.deeper (envOfC qg sg s.heap.objs.size g cdg)) (envOfC qg sg s.heap.objs.size g cdg :: X.stack) s1 HZ E scope f c')
    refine PySem.W.kla_codeExpr (wpAny_mono ((hbody _ _ s1 HZ (hr.deeper _)).run [] _ _ HZ Q J ht) (fun v s' hq => ?_) fun e s' hq => hq)
    obtain ⟨w', H', J', rv, q⟩ := hq
    exact ⟨w', H', J'.os, J'.bare, J'.base, J'.hok, rv, q⟩
  have hx : Passes (L2N.CX X.prog X.w) ((cxOf CXg X.prog X.w X.K X.mg X.base Ng qg sg g cdg X.A X.stack s H Eg).tr pn xe) E := L2N.passes_call tk hW
  refine wpAny_call (codeAny_mono rc fun r s' hq => ?_)
  cases r with
  | error e => exact hx pinsZ σZ HZ s1 e s' I1 hq
  | ok fl =>
    cases fl with
    | ret u => exact I1.after hq
    | next => exact False.elim hq
    | brk => exact False.elim hq
    | cont => exact False.elim hq
end
/-- the def that calls what it got; TT: what it makes of the lambda's reading -/
def GivesN (X : Cx) (Ng : List Str) (x : Str) (sg : Scope) (g : Addr) (cdg : Value) (bg : List Stmt) (a : Str) (q : Str) (k : Nat) (TT : (XK → Hp → VK → Prop) → Hp → VK → Prop) : Prop :=
  ∀ (f c' : Addr) (s : Shared) (H : Hp) (Q : VK) (tl : XK → Hp → VK → Prop), Room (k + 1) (X.A.deeper (envOfC x sg s.heap.objs.size g cdg)) →
    (∀ (W : WX) (pn : List (Addr × Obj)) (xe : Value → Shared → Prop) (E : XK) (p1 p2 : Pos), L2N.Takes ((cxOf L2.CX0 X.prog X.w X.K X.mg X.base Ng x sg g cdg X.A X.stack s H L2.E0).tr pn xe) W → (∀ cls d σ' H', E cls d H' → W cls d σ' H') →
      PE ((cxOf L2.CX0 X.prog X.w X.K X.mg X.base Ng x sg g cdg X.A X.stack s H L2.E0).tr pn xe) (.Call (.Name a p1) [] [] p2) (fun σZ HZ Q => σZ[0]? = some (some (.ref f)) ∧ HZ c' = some (CodeO c' q) ∧ tl E HZ Q)) →
    H c' = some (CodeO c' q) → TT tl H Q →
    ∃ t, PSs (cxOf L2.CX0 X.prog X.w X.K X.mg X.base Ng x sg g cdg X.A X.stack s H L2.E0).nox bg t ∧ t { nx := fun _ H' => Q .non H', rt := Q } (L2.start Ng [.ref f]) H
section
variable {X : Cx}
theorem pe_lamN {T : List (Addr × Str)} {TT : (XK → Hp → VK → Prop) → Hp → VK → Prop} {x a : Str} {g c P : Addr} {k : Nat} {pg : Arguments} {bg : List Stmt} {sg : Scope} {dV kV doc pm cdv ct oc : Value} {an od : Option Addr} {osl : Array (Option Value)} {Ng : List Str}
    {params : Arguments} {body : Expr} {scope : Scope} {t : XK → TE} {p lpos pos : Pos} (hg : Gl X x) (hm : X.mg x = some (.ref g)) (hk : PySem.W.keepIn X.K (.ref g) = true)
    (lk : X.K.lookup g = some ⟨oc, od, .func (PySem.W.fnOf x x pg bg sg dV kV doc pm an cdv ct), osl⟩) (hcg : PySem.W.codeIn X.K cdv x = true) (hb : ∀ (s : Shared) (u : Value), BindsTo s (PySem.W.fnOf x x pg bg sg dV kV doc pm an cdv ct) ⟨[u], []⟩ [(a, u)]) (Sg : FnScope Ng [a] sg) (hNg : Ng[0]? = some a) (hva : Vis sg a)
    (hG : GivesN X Ng x sg g cdv bg a (X.env.qual ++ "<lambda>") k TT)
    (TB : ∀ base, X.K.In base → TabB base X.mg c P) (hcode : X.env.code = .ref c) (hmT : (P, X.env.qual ++ "<lambda>") ∈ T) (hu : ∀ p ∈ T, p.1 = P → p.2 = X.env.qual ++ "<lambda>") (hr : Room (k + 2) X.A) (L : LamS X.env.scope scope) (hdef : defaultsOf params X.env = ([], []))
    (hbind : ∀ (q : Str) (cl : List (Str × Addr)) (pm cv ctv : Value), bindArgs (PySem.W.kla_fn "<lambda>" q params body scope cl pm cv ctv) ⟨[], []⟩ = pure [])
    (hbody : ∀ (A : Around) (outer : List Env) (s : Shared) (H : Hp) (E : XK) (f c' : Addr), Room k (A.deeper (lamEnv X scope s.heap.objs.size f c')) → PE (lamN X A outer s H E scope f c') body (t E))
    (hdb : (x == ("__debug__" : Str)) = false := by decide) (hd : (a == ("__debug__" : Str)) = false := by decide) (hcd : (a == ("__classdict__" : Str)) = false := by decide) :
    PE X (.Call (.Name x p) [.Lambda params body scope lpos] [] pos) (LamX.tLam T TT t) := by
  refine ⟨fun pins s σ H Q I h => ?_⟩
  obtain ⟨hT, h⟩ := h
  refine wpAny_Call_Name_kw (ld_glob I hg hm ?_ hdb)
  refine PySem.W.callWith_K (h₀ := X.base) I.ok.mod.kin hk ?_ (by rfl) (by rfl)
  show wpAny _ _ (spliced ((false, eval (.Lambda params body scope lpos) X.env) :: backTo pos (starEach [] X.env))) _ _ s
  refine Calls.spliced_cons (lam_make2 I (TB _ I.ok.mod.kin) hcode hmT hu hT hdef (L.has I.ok) fun f c' pm' ctv H1 s' I1 eN T1 hf hfn hfr hco => ?_)
  refine Calls.spliced_nil ⟨I1.kIn, ?_⟩
  have rc : codeAny (model X.prog X.w) X.A (.call (.ref g) ⟨[.ref f], []⟩) (CR L2.CX0 X.stack X.prog X.w H1 s' Q L2.E0) s' := by
    refine run_ofS (N := Ng) (ps := [a]) (us := [.ref f]) (vs := [.ref f]) lk hcg Sg hr I1.env0 (hb s' (.ref f)) (.cons rfl .nil) rfl fun hr' => ?_
    obtain ⟨t', ht', hq'⟩ := hG f c' s' H1 Q (fun E H' Q' => t E σ H' Q') hr' (fun W pn xe E p1 p2 tk hW => pe_actN (i := 0) I1 L hf hfn hfr (hbind _ _ _ _ _) tk hW hr' (fun A outer s H hr2 => hbody A outer s H E f c' hr2) hNg hva hd hcd) hco (h H1 eN T1)
    exact ⟨t', ht'.nox, hq'⟩
  refine wpAny_call (codeAny_mono rc fun r s2 hq => ?_)
  cases r with
  | error e => exact (show False from hq).elim
  | ok fl =>
    cases fl with
    | ret u => exact I1.after hq
    | next => exact False.elim hq
    | brk => exact False.elim hq
    | cont => exact False.elim hq
/-- told: try: return a() / except x as e: return word(e) -/
def TTw (K : PySem.W.Frag) (T : List (Addr × Str)) (CS : Addr) (words : List (Addr × Str)) : (XK → Hp → VK → Prop) → Hp → VK → Prop := fun tl H Q =>
  Tabs T H ∧ tl (fun cls d H' => d = none ∧ Tabs T H' ∧ ∃ p ∈ words, cls = .ref p.1 ∧ ∀ H'', Ext T H' H'' → Q (.str p.2) H'') H Q
theorem told_givesN {T : List (Addr × Str)} {Ng : List Str} {x a e q xw xl : Str} {sg : Scope} {g CS : Addr} {cdg : Value} {k kw i : Nat} {words : List (Addr × Str)} {p1 p2 p3 p4 p5 p6 p7 p8 p9 p10 : Pos} (hge : sg.names.lookup xl = some .globalImplicit) (hme : X.mg xl = some (.ref CS)) (hde : (xl == ("__debug__" : Str)) = false)
    (hgw : sg.names.lookup xw = some .globalImplicit) (hdw : (xw == ("__debug__" : Str)) = false) (hw : ∀ p ∈ words, WordOk X.prog X.w X.K X.mg T kw xw p.1 p.2) (hx : ∀ p ∈ words, PySem.W.exmOne X.K (.ref p.1) (.ref CS) = some true) (hkw : kw ≤ k)
    (hNd : Ng.Nodup) (hNi : Ng[i]? = some e) (hln : sg.names.lookup e = some .local) (h0 : ∀ f : Addr, (L2.start Ng [V.ref f])[0]? = some (some (V.ref f))) (hd : (e == ("__debug__" : Str)) = false) (hcd : (e == ("__classdict__" : Str)) = false) (hi : i < Ng.length) :
    GivesN X Ng x sg g cdg [.Try [.Return (some (.Call (.Name a p1) [] [] p2)) p3] [.ExceptHandler (some (.Name xl p4)) (some e) [.Return (some (.Call (.Name xw p5) [.Name e p6] [] p7)) p8] p9] [] [] p10] a q k (TTw X.K T CS words) := by
  intro f c' s H Q tl hr act hc h
  obtain ⟨hT, h⟩ := h
  have hgl : Gl (cxOf L2.CX0 X.prog X.w X.K X.mg X.base Ng x sg g cdg X.A X.stack s H L2.E0).nox xl := hge
  refine ⟨_, pss_one (L2N.ps_try_as (X := (cxOf L2.CX0 X.prog X.w X.K X.mg X.base Ng x sg g cdg X.A X.stack s H L2.E0).nox) (c := .ref CS) (i := i)
      (tb := fun W D σ H => ∃ Ech : XK, (∀ cls d σ' H', Ech cls d H' → W cls d σ' H') ∧ σ[0]? = some (some (.ref f)) ∧ H c' = some (CodeO c' q) ∧ tl Ech H D.rt)
      (ts := fun ea cls d D σ H => d = none ∧ Tabs T H ∧ (∃ σ0 : L2.St, σ = σ0.set i (some (.ref ea))) ∧ ∃ p ∈ words, cls = .ref p.1 ∧ ∀ H'', Ext T H H'' → D.rt (.str p.2) H'')
      rfl rfl hNd hNi hln ⟨hgl, hde, .inl hme⟩ takesN0 (fun W pn xe tk _ => ?_) (fun ea oe cls d pn hz hf => ?_)), ?_⟩
  · refine ⟨fun pins s' σ H' D I h' => ?_⟩
    obtain ⟨Ech, hW, h1, h2, h3⟩ := h'
    have hp := act W pn xe Ech p1 p2 tk hW
    have hq := pss_one (ps_ret (pos := p3) hp)
    exact hq.run pins s' σ H' D I ⟨h1, h2, h3⟩
  · refine ⟨fun pins s' σ H' D I h' => ?_⟩
    obtain ⟨hdn, hT', ⟨σ0, hσ0⟩, p, hp, hcls, hQ⟩ := h'
    have hlen := I.len
    have hσ : σ[i]? = some (some (.ref ea)) := by
      rw [hσ0] at hlen ⊢
      rw [List.length_set] at hlen
      exact List.getElem?_set_self (by rw [hlen]; exact hi)
    subst hdn hcls
    obtain ⟨vs, hv⟩ := id hf
    have hot : Hot1 ((cxOf L2.CX0 X.prog X.w X.K X.mg X.base Ng x sg g cdg X.A X.stack s H L2.E0).nox.suite ea ((ea, oe) :: pn)).A (ea, oe) := ⟨rfl, vs, hv, hz.2.2 vs hv⟩
    have rH : RoomH kw ((cxOf L2.CX0 X.prog X.w X.K X.mg X.base Ng x sg g cdg X.A X.stack s H L2.E0).nox.suite ea ((ea, oe) :: pn)).A := by
      have := roomH_of hr
      exact ⟨by have := this.dp; show (X.A.deeper (envOfC x sg s.heap.objs.size g cdg)).depth + 3 * kw + 5 < _; omega, by have := this.un; show (X.A.deeper (envOfC x sg s.heap.objs.size g cdg)).units + 16 * kw + 200 < _; omega⟩
    have hw' := pe_word (X := (cxOf L2.CX0 X.prog X.w X.K X.mg X.base Ng x sg g cdg X.A X.stack s H L2.E0).nox.suite ea ((ea, oe) :: pn)) (i := i) (p := p5) (px := p6) (pos := p7) (hw p hp) rH hot List.mem_cons_self hz hf hgw hNi (.inl hln) hd hcd hdw
    exact (pss_one (ps_ret (pos := p8) hw')).run pins s' σ H' D I ⟨hσ, hT', hQ⟩
  · refine ⟨fun cls d H' => d = none ∧ Tabs T H' ∧ ∃ p ∈ words, cls = .ref p.1 ∧ ∀ H'', Ext T H' H'' → Q (.str p.2) H'', fun cls d σ' H' ⟨e1, e2, p, hp, e3, e4⟩ => ?_, h0 f, hc, h⟩
    subst e1 e3
    refine ⟨true, hx p hp, fun _ ea hea => ⟨rfl, e2, ⟨_, rfl⟩, p, hp, rfl, e4⟩, fun z => nomatch z⟩
end
end DL
set_option Elab.async false
set_option linter.all false
set_option maxRecDepth 100000
set_option maxHeartbeats 4000000
set_option autoImplicit false
namespace DL
open PySem PySem.Spec PyProof.Rows L2 HotX L2H
open LamX (ExtN Tabs TabS CodeO TabB LamS lamEnv lamCx)
/-! ### told -/
def ToldOk (P : Program) (w : World) (K : PySem.W.Frag) (mg : Str → Option Value) (T : List (Addr × Str)) (k : Nat) (x : Str) (words : List (Addr × Str)) : Prop :=
  ∃ (a : Str) (g CS : Addr) (pg : Arguments) (bg : List Stmt) (sg : Scope) (kV doc pm cdv ct oc : Value) (an od : Option Addr) (osl : Array (Option Value)) (Ng : List Str), mg x = some (.ref g) ∧ PySem.W.keepIn K (.ref g) = true ∧ K.lookup g = some ⟨oc, od, .func (PySem.W.fnOf x x pg bg sg .none kV doc pm an cdv ct), osl⟩ ∧ PySem.W.codeIn K cdv x = true ∧
    (∀ (s : Shared) (u : Value), BindsTo s (PySem.W.fnOf x x pg bg sg .none kV doc pm an cdv ct) ⟨[u], []⟩ [(a, u)]) ∧ FnScope Ng [a] sg ∧ Ng[0]? = some a ∧ Vis sg a ∧ (a == ("__debug__" : Str)) = false ∧ (a == ("__classdict__" : Str)) = false ∧
    ∀ (X : Cx), X.prog = P → X.w = w → X.K = K → X.mg = mg → ∀ q, GivesN X Ng x sg g cdv bg a q k (TTw K T CS words)
theorem de_told {X : Cx} {T : List (Addr × Str)} {cm : Nat → Value} {E : XK} {B : XE} {word : Nat → Option D} {k : Nat} {x : Str} {words : List (Addr × Str)} {c P : Addr} {params : Arguments} {body : Expr} {scope : Scope} {p lpos pos : Pos} (Tk : ToldOk X.prog X.w X.K X.mg T k x words) (hg : Gl X x)
    (TB : ∀ base, X.K.In base → TabB base X.mg c P) (hcode : X.env.code = .ref c) (hmT : (P, X.env.qual ++ "<lambda>") ∈ T) (hu : ∀ p ∈ T, p.1 = P → p.2 = X.env.qual ++ "<lambda>") (hw : ∀ c d, word c = some d → ∃ p ∈ words, cm c = .ref p.1 ∧ d = .str p.2) (hr : Room (k + 2) X.A)
    (hbody : ∀ (A : Around) (outer : List Env) (s : Shared) (H : Hp) (E : XK) (f c' : Addr), Room k (A.deeper (lamEnv X scope s.heap.objs.size f c')) → PE (lamN X A outer s H E scope f c') body (tD X.K T cm E B))
    (hL : LamX.lamSB X.env.scope scope = true := by decide +kernel) (hdef : defaultsOf params X.env = ([], []) := by rfl)
    (hbind : ∀ (q : Str) (cl : List (Str × Addr)) (pm cv ctv : Value), bindArgs (PySem.W.kla_fn "<lambda>" q params body scope cl pm cv ctv) ⟨[], []⟩ = pure [] := by intros; rfl)
    (hdb : (x == ("__debug__" : Str)) = false := by decide) : PE X (.Call (.Name x p) [.Lambda params body scope lpos] [] pos) (tD X.K T cm E (xTold word B)) := by
  obtain ⟨a, g, CS, pg, bg, sg, kV, doc, pm, cdv, ct, oc, an, od, osl, Ng, h1, h2, h3, h4, h5, h6, h7, h8, h9, h10, h11⟩ := Tk
  refine PEimp (pe_lamN hg h1 h2 h3 h4 h5 h6 h7 h8 (h11 X rfl rfl rfl rfl _) TB hcode hmT hu hr (LamX.lamS_by hL) hdef hbind hbody hdb h9 h10) fun σ H Q h => ?_
  obtain ⟨M, H0, δ, r, R, e, ak⟩ := h
  refine ⟨R.tab, fun H1 eN T1 => ⟨T1, ?_⟩⟩
  have x01 : Ext T H H1 := ⟨eN, fun _ => T1⟩
  unfold xTold at e
  cases q : B δ with
  | none => rw [q] at e; cases e
  | some rb =>
    rw [q] at e
    cases rb with
    | ok d =>
      cases e
      exact ⟨M, H0, δ, .ok d, R.grow x01, q, fun H2 x2 v hv => ak H2 (x01.trans x2) v hv⟩
    | ex c =>
      have e : lift (word c) = some r := e
      cases q2 : word c with
      | none => rw [q2] at e; cases e
      | some dd =>
        rw [q2] at e
        cases e
        obtain ⟨pw, hp, hcm, hdd⟩ := hw c dd q2
        subst hdd
        exact ⟨M, H0, δ, .ex c, R.grow x01, q, fun H2 x2 => ⟨rfl, x2.tabs T1, pw, hp, hcm, fun H3 x3 => ak H3 (x01.trans (x2.trans x3)) _ (.str _)⟩⟩
theorem told_mk {P : Program} {w : World} {K : PySem.W.Frag} {mg : Str → Option Value} {T : List (Addr × Str)} {k kw ie : Nat} {x a en xl xw : Str} {st : Stmt} {Ng : List Str} {CS : Addr} {words : List (Addr × Str)} {h : Heap} (KX : K.In h) (G : h.Ns mainGlobals mg) {fa : List He.Fa} {fn : List He.FnD} (c : He.SaysE fa fn K) (i j l : Nat)
    {p1 p2 p3 p4 p5 p6 p7 p8 p9 p10 : Pos}
    (hi : fn[i]? = some ⟨(x, none), x, x, defArgs st, defBody st, defScope st⟩) (hj : fa[j]? = some (.glo x)) (hl : fa[l]? = some (.keep x)) (S : FnScope Ng [a] (defScope st))
    (hb : ∀ (kV doc pm : Value) (an : Option Addr) (cdv ct : Value) (u : Value), bindArgs (PySem.W.fnOf x x (defArgs st) (defBody st) (defScope st) .none kV doc pm an cdv ct) ⟨[u], []⟩ = pure [(a, u)])
    (hbd : defBody st = [.Try [.Return (some (.Call (.Name a p1) [] [] p2)) p3] [.ExceptHandler (some (.Name xl p4)) (some en) [.Return (some (.Call (.Name xw p5) [.Name en p6] [] p7)) p8] p9] [] [] p10])
    (hm : mg xl = some (.ref CS)) (hw : ∀ p ∈ words, WordOk P w K mg T kw xw p.1 p.2) (hx : ∀ p ∈ words, PySem.W.exmOne K (.ref p.1) (.ref CS) = some true) (hkw : kw ≤ k)
    (hge : (defScope st).names.lookup xl = some .globalImplicit) (hgw : (defScope st).names.lookup xw = some .globalImplicit) (hln : (defScope st).names.lookup en = some .local) (hNi : Ng[ie]? = some en) (h0 : ∀ f : Addr, (L2.start Ng [V.ref f])[0]? = some (some (V.ref f))) (hie : ie < Ng.length) (hN0 : Ng[0]? = some a) (hva : Vis (defScope st) a)
    (d1 : (xl == ("__debug__" : Str)) = false := by decide) (d2 : (xw == ("__debug__" : Str)) = false := by decide) (d3 : (en == ("__debug__" : Str)) = false := by decide) (d4 : (en == ("__classdict__" : Str)) = false := by decide) (d5 : (a == ("__debug__" : Str)) = false := by decide) (d6 : (a == ("__classdict__" : Str)) = false := by decide) :
    ToldOk P w K mg T k x words := by
  obtain ⟨oc, od, osl, kV, doc, pm, an, cdv, ct, hlk, hcd⟩ := c.def_ i hi
  refine ⟨a, He.ga K x, CS, _, _, _, kV, doc, pm, cdv, ct, oc, an, od, osl, Ng, He.glo_ok KX G (c.fact j hj), He.keep_ok (c.fact l hl), hlk, hcd, fun s u => .of_eq (hb kV doc pm an cdv ct u), S, hN0, hva, d5, d6, fun X e1 e2 e3 e4 q => ?_⟩
  subst e1 e2 e3 e4
  show GivesN X Ng x (defScope st) (He.ga X.K x) cdv (defBody st) a q k (TTw X.K T CS words)
  rw [hbd]
  exact told_givesN hge hm d1 hgw d2 hw hx hkw S.nd hNi hln h0 d3 d4 hie
/-! ### classes -/
/-- what isinstance asks of the class of an exception -/
def excB (K : PySem.W.Frag) (D : Addr) : Bool :=
  He.eqO (PySem.W.findIn K (.ref D) "__getattribute__") (some (some (.builtin "BaseException.__getattribute__"))) && (He.eqO (PySem.W.findIn K (.ref D) "__getattr__") (some none) && (decide (PySem.W.subIn K (.ref D) (.type "BaseException") = some true) && (PySem.W.hasDictIn K D &&
    (He.eqO (PySem.W.findIn K (.ref D) "__class__") (some (some (.builtin "object.__class__"))) && (He.eqO (PySem.W.specialIn K (.builtin "object.__class__") "__get__") (some (some (.builtin "getset_descriptor.__get__"))) && (decide (PySem.W.takesIn K (.builtin "object.__class__") = some true) && decide (PySem.W.mroIn K D (.type "object") = some true)))))))
theorem excB_ok {K : PySem.W.Frag} {D : Addr} (h : excB K D = true) : ExcC K D := by
  obtain ⟨h1, h⟩ := He.ba h
  obtain ⟨h2, h⟩ := He.ba h
  obtain ⟨h3, h⟩ := He.ba h
  obtain ⟨h4, h⟩ := He.ba h
  obtain ⟨h5, h⟩ := He.ba h
  obtain ⟨h6, h⟩ := He.ba h
  obtain ⟨h7, h8⟩ := He.ba h
  exact ⟨He.eqO_ok h1, He.eqO_ok h2, of_decide_eq_true h3, h4, He.eqO_ok h5, He.eqO_ok h6, of_decide_eq_true h7, of_decide_eq_true h8⟩
/-- the classes x, asked for those of ys: alike just if they are one; all are under ValueError -/
def clsB (K : PySem.W.Frag) (xs ys : List Str) : Bool := xs.all fun x => excB K (He.ga K x) && (decide (PySem.W.kitOne K (.ref (He.ga K x)) (.type "ValueError") = some true) && ys.all fun y => decide (PySem.W.kitOne K (.ref (He.ga K x)) (.ref (He.ga K y)) = some (decide (x = y))))
theorem clsB_ok {K : PySem.W.Frag} {xs ys : List Str} (h : clsB K xs ys = true) {x : Str} (hx : x ∈ xs) : ExcC K (He.ga K x) ∧ PySem.W.kitOne K (.ref (He.ga K x)) (.type "ValueError") = some true ∧ ∀ y ∈ ys, PySem.W.kitOne K (.ref (He.ga K x)) (.ref (He.ga K y)) = some (decide (x = y)) := by
  obtain ⟨h1, h⟩ := He.ba (List.all_eq_true.mp h x hx)
  obtain ⟨h2, h3⟩ := He.ba h
  exact ⟨excB_ok h1, of_decide_eq_true h2, fun y hy => of_decide_eq_true (List.all_eq_true.mp h3 y hy)⟩
/-! ### the builtins' module, the main one's names -/
def bmB (K : PySem.W.Frag) : Bool := (K.lookup mainGlobals).isSome && match PySem.W.nsIn K mainGlobals "__builtins__" with
  | some (some (.ref bm)) => (match K.lookup bm with
    | some ⟨.type c, some d, .plain, _⟩ => decide (c = "module") && (decide (d = builtinsNs) && (decide (bm ≠ builtinsNs) && decide (bm ≠ mainGlobals)))
    | _ => false)
  | _ => false
theorem bmB_ok {K : PySem.W.Frag} {h : Heap} {mg : Str → Option Value} (X : K.In h) (G : h.Ns mainGlobals mg) (hb : bmB K = true) {P : Addr} (hP : K.lookup P = none) : mainGlobals ≠ P ∧ ∀ base : Heap, K.In base → base.BuiltinsAt mg P := by
  obtain ⟨h1, h2⟩ := He.ba hb
  refine ⟨(fun e => by rw [e, hP] at h1; cases h1), fun base KB => ?_⟩
  cases q : PySem.W.nsIn K mainGlobals "__builtins__" with
  | none => rw [q] at h2; cases h2
  | some o =>
    rw [q] at h2
    cases o with
    | none => cases h2
    | some v =>
      cases v with
      | ref bm =>
        have h3 : (match K.lookup bm with
          | some ⟨.type c, some d, .plain, _⟩ => decide (c = "module") && (decide (d = builtinsNs) && (decide (bm ≠ builtinsNs) && decide (bm ≠ mainGlobals)))
          | _ => false) = true := h2
        cases q2 : K.lookup bm with
        | none => rw [q2] at h3; cases h3
        | some ob =>
          rw [q2] at h3
          obtain ⟨oc, od, dt, sl⟩ := ob
          cases oc with
          | type cc =>
            cases od with
            | none => cases dt <;> cases h3
            | some dd =>
              cases dt with
              | plain =>
                obtain ⟨a1, h3⟩ := He.ba h3
                obtain ⟨a2, h3⟩ := He.ba h3
                obtain ⟨a3, a4⟩ := He.ba h3
                have a1 := of_decide_eq_true a1
                have a2 := of_decide_eq_true a2
                subst a1 a2
                refine ⟨bm, _, PySem.W.mg_of X G q, of_decide_eq_true a3, of_decide_eq_true a4, fun e => ?_, KB bm _ q2, rfl, rfl, rfl⟩
                rw [e, hP] at q2
                cases q2
              | _ => cases h3
          | _ => cases od <;> cases dt <;> cases h3
      | _ => cases h2
/-! ### the head's facts: the defs', one more Bool, the tables of those that make lambdas -/
structure SaysY (fa : List He.Fa) (fn : List He.FnD) (tf : List Str) (ex : PySem.W.Frag → Bool) (h : Heap) (K : PySem.W.Frag) : Prop where
  t : He.SaysE fa fn K
  more : ex K = true
  hd : ∀ p ∈ tf, PySem.W.codeHdIn K (He.cT K (p, none)).1 (He.cT K (p, none)).2 = true
  out : ∀ p ∈ tf, K.lookup (He.cT K (p, none)).2 = none
  empty : ∀ p ∈ tf, h.get? (He.cT K (p, none)).2 = some { cls := .none, data := .fields #[] }
def obsY (n : Nat) (fa : List He.Fa) (fn : List He.FnD) (tf : List Str) (ex : PySem.W.Frag → Bool) (g : Addr → Option Obj) : He.Al × Bool := (He.obsE fa fn (He.frT g (He.asG g n)), ex (He.frT g (He.asG g n)) && He.tabsB g (tf.map fun p => (p, none)) (He.frT g (He.asG g n)))
theorem saysY_of {n : Nat} {fa : List He.Fa} {fn : List He.FnD} {tf : List Str} {ex : PySem.W.Frag → Bool} {h : Heap} (e : obsY n fa fn tf ex h.get? = (He.valE fn, true)) : SaysY fa fn tf ex h (He.frT h.get? (He.asG h.get? n)) := by
  have e1 : He.obsE fa fn (He.frT h.get? (He.asG h.get? n)) = He.valE fn := congrArg Prod.fst e
  have e2 : (ex (He.frT h.get? (He.asG h.get? n)) && He.tabsB h.get? (tf.map fun p => (p, none)) (He.frT h.get? (He.asG h.get? n))) = true := congrArg Prod.snd e
  generalize hK : He.frT h.get? (He.asG h.get? n) = K at *
  obtain ⟨h1, h2⟩ := He.ba e2
  have key : ∀ p ∈ tf, PySem.W.codeHdIn K (He.cT K (p, none)).1 (He.cT K (p, none)).2 = true ∧ ∃ o, h.get? (He.cT K (p, none)).2 = some o ∧ He.emptyTab o = true := fun p hp => by
    obtain ⟨h3, h4⟩ := He.ba (List.all_eq_true.mp h2 (p, none) (List.mem_map.mpr ⟨p, hp, rfl⟩))
    refine ⟨h3, ?_⟩
    cases q : h.get? (He.cT K (p, none)).2 with
    | none => rw [q] at h4; cases h4
    | some o => rw [q] at h4; exact ⟨o, rfl, h4⟩
  refine ⟨e1, h1, fun p hp => (key p hp).1, fun p hp => ?_, fun p hp => ?_⟩
  · obtain ⟨_, o, q, z⟩ := key p hp
    rw [← hK] at q ⊢
    exact He.frT_none q z
  · obtain ⟨_, o, q, z⟩ := key p hp
    rw [q, He.emptyTab_eq z]
def hookY (n : Nat) (fa : List He.Fa) (fn : List He.FnD) (tf : List Str) (ex : PySem.W.Frag → Bool) : PySem.W.Hook where
  α := He.Al × Bool
  obs := fun s => obsY n fa fn tf ex s.heap.get?
  val := fun _ => (He.valE fn, true)
  says := fun _ h => ∃ K : PySem.W.Frag, K.In h ∧ SaysY fa fn tf ex h K
  of := fun _ _ e => ⟨_, He.frT_in, saysY_of e⟩
  keeps := fun _ _ _ ⟨K, hK, c⟩ k => ⟨K, PySem.W.Frag.In.keeps hK k, ⟨c.t, c.more, c.hd, c.out, fun p hp => k _ _ (c.empty p hp)⟩⟩
theorem obsY_eq {n : Nat} {fa : List He.Fa} {fn : List He.FnD} {tf : List Str} {ex : PySem.W.Frag → Bool} {g : Addr → Option Obj} {s : Shared} (h : ∀ a, g a = s.heap.get? a) : obsY n fa fn tf ex g = (hookY n fa fn tf ex).obs s := by
  have e : g = s.heap.get? := funext h
  rw [e] <;> rfl
/-- the tables and the names of their lambdas -/
def tabY (K : PySem.W.Frag) (tf : List Str) : List (Addr × Str) := tf.map fun x => ((He.cT K (x, none)).2, (x ++ ".<locals>." : Str) ++ "<lambda>")
theorem tb_of {K : PySem.W.Frag} {h : Heap} {mg : Str → Option Value} (KX : K.In h) (G : h.Ns mainGlobals mg) (hb : bmB K = true) {x : Str} (hd : PySem.W.codeHdIn K (He.cT K (x, none)).1 (He.cT K (x, none)).2 = true) (hP : K.lookup (He.cT K (x, none)).2 = none) :
    ∀ base, K.In base → TabB base mg (He.cT K (x, none)).1 (He.cT K (x, none)).2 := fun base KB => ⟨PySem.W.codeHd_of_K KB hd, (bmB_ok KX G hb hP).2 base KB, (bmB_ok KX G hb hP).1⟩
/-- as okD_mk, the def's code object told -/
theorem okD_mkC {P : Program} {w : World} {K : PySem.W.Frag} {mg : Str → Option Value} {T : List (Addr × Str)} {cm : Nat → Value} {k : Nat} {x : Str} {st : Stmt} {N ps : List Str} {g : XS} {h : Heap} (KX : K.In h) (G : h.Ns mainGlobals mg) {fa : List He.Fa} {fn : List He.FnD} (c : He.SaysE fa fn K) (i j l : Nat)
    (hi : fn[i]? = some ⟨(x, none), x, x, defArgs st, defBody st, defScope st⟩) (hj : fa[j]? = some (.glo x)) (hl : fa[l]? = some (.keep x)) (S : FnScope N ps (defScope st))
    (hb : ∀ (kV doc pm : Value) (an : Option Addr) (cdv ct : Value) (us : List Value), us.length = ps.length → bindArgs (PySem.W.fnOf x x (defArgs st) (defBody st) (defScope st) .none kV doc pm an cdv ct) ⟨us, []⟩ = pure (ps.zip us))
    (hbody : ∀ (base : Heap) (f : Addr) (cdv : Value) (A : Around) (outer : List Env) (s : Shared) (H : Hp) (E : XK), cdv = .ref (He.cT K (x, none)).1 → Room k (A.deeper (PyProof.Rows.envOfC x (defScope st) s.heap.objs.size f cdv)) →
      PSs (cxOf (L2N.CX P w) P w K mg base N x (defScope st) f cdv A outer s H E) (defBody st) (tSt K T cm E g)) : OkD P w K mg T cm (k + 1) x ps (fnD ps.length N.length g) := by
  obtain ⟨oc, od, osl, kV, doc, pm, an, cdv, ct, hlk, hcd⟩ := c.def_ i hi
  have F := fun_mk (st := st) hlk hcd (He.keep_ok (c.fact l hl))
  obtain ⟨cc, hcc⟩ := He.codeIn_ref hcd
  have e : cdv = .ref (He.cT K (x, none)).1 := by
    rw [hcc]
    congr 1
    exact (He.codeOf_eq hlk hcc).symm
  refine ⟨He.ga K x, _, He.glo_ok KX G (c.fact j hj), He.keep_ok (c.fact l hl), fun s us hu => .of_eq (hb kV doc pm an cdv ct us hu), fun base => fn_D F S fun cdv' hc' A outer s H E hr => ?_⟩
  have e2 : cdv = cdv' := hc'
  subst e2
  exact hbody base _ cdv A outer s H E e hr
end DL
namespace DL
open PySem PySem.Spec PyProof.Rows L2 HotX L2H
open LamX (ExtN Tabs TabS CodeO TabB LamS lamEnv lamCx)
/-! ### as the printed texts use them -/
/-- the exceptions' classes by their numbers -/
def cmX (K : PySem.W.Frag) (cls : List Str) : Nat → Value := fun i => match cls[i]? with
  | some x => .ref (He.ga K x)
  | none => .none
def wordsX (K : PySem.W.Frag) (cls : List Str) : List (Addr × Str) := cls.map fun x => (He.ga K x, x)
theorem words_ok {K : PySem.W.Frag} {cls : List Str} (c : Nat) (d : D) (h : wordX cls c = some d) : ∃ p ∈ wordsX K cls, cmX K cls c = .ref p.1 ∧ d = .str p.2 := by
  unfold wordX at h
  unfold cmX wordsX
  cases q : cls[c]? with
  | none => rw [q] at h; cases h
  | some x =>
    rw [q] at h
    cases h
    exact ⟨(He.ga K x, x), List.mem_map.mpr ⟨x, List.mem_of_getElem? q, rfl⟩, rfl, rfl⟩
/-- facts of one class -/
structure ExF (K : PySem.W.Frag) (mg : Str → Option Value) (x : Str) : Prop where
  g : mg x = some (.ref (He.ga K x))
  q : PySem.W.excIn K (He.ga K x) He.veBase "ValueError.__new__" = true
  k : PySem.W.keepIn K (.ref (He.ga K x)) = true
  b : PySem.W.subIn K (.ref (He.ga K x)) (.type "BaseException") = some true
  t : PySem.W.typeIn K (.ref (He.ga K x)) = some (.type "type")
theorem exf_of {K : PySem.W.Frag} {mg : Str → Option Value} {h : Heap} {x : Str} (KX : K.In h) (G : h.Ns mainGlobals mg) (c1 : (He.Fa.glo x).ok K = true) (c2 : (He.Fa.exc x).ok K = true) : ExF K mg x := by
  obtain ⟨a, b, c, d⟩ := He.exc_ok c2
  exact ⟨He.glo_ok KX G c1, a, b, c, d⟩
theorem ds_raiseX {X : Cx} {T : List (Addr × Str)} {E : XK} {cls : List Str} (c : Nat) {x m : Str} {j : Nat} {p p2 pos pos' : Pos} (F : ExF X.K X.mg x) (tk : L2N.Takes X (fun c d _ H => E c d H)) (hc : X.calm = true := by rfl) (hx : cls[c]? = some x := by rfl) (hg : Gl X x := by rfl) (hdb : (x == ("__debug__" : Str)) = false := by decide) :
    PS X (.Raise (some (.Call (.Name x p) [.Constant (.str m) j p2] [] pos)) none pos') (tSt X.K T (cmX X.K cls) E (sRaise c)) :=
  ds_raise hc tk F.q F.g F.k (raises_own F.b F.t) (by unfold cmX; rw [hx]) hg hdb
/-- what a def that makes lambdas leans on -/
structure LamF (K : PySem.W.Frag) (mg : Str → Option Value) (T : List (Addr × Str)) (x : Str) : Prop where
  tb : ∀ base, K.In base → TabB base mg (He.cT K (x, none)).1 (He.cT K (x, none)).2
  mem : ((He.cT K (x, none)).2, (x ++ ".<locals>." : Str) ++ "<lambda>") ∈ T
  uniq : ∀ p ∈ T, p.1 = (He.cT K (x, none)).2 → p.2 = (x ++ ".<locals>." : Str) ++ "<lambda>"
theorem de_toldX {X : Cx} {T : List (Addr × Str)} {E : XK} {B : XE} {cls : List Str} {k : Nat} {x y : Str} {params : Arguments} {body : Expr} {scope : Scope} {p lpos pos : Pos} (Tk : ToldOk X.prog X.w X.K X.mg T k x (wordsX X.K cls)) (LF : LamF X.K X.mg T y) (hcode : X.env.code = .ref (He.cT X.K (y, none)).1) (hr : Room (k + 2) X.A)
    (hbody : ∀ (A : Around) (outer : List Env) (s : Shared) (H : Hp) (E : XK) (f c' : Addr), Room k (A.deeper (lamEnv X scope s.heap.objs.size f c')) → PE (lamN X A outer s H E scope f c') body (tD X.K T (cmX X.K cls) E B))
    (hq : X.env.qual = (y ++ ".<locals>." : Str) := by rfl) (hg : Gl X x := by rfl) (hL : LamX.lamSB X.env.scope scope = true := by rfl) (hdef : defaultsOf params X.env = ([], []) := by rfl)
    (hbind : ∀ (q : Str) (cl : List (Str × Addr)) (pm cv ctv : Value), bindArgs (PySem.W.kla_fn "<lambda>" q params body scope cl pm cv ctv) ⟨[], []⟩ = pure [] := by intros; rfl)
    (hdb : (x == ("__debug__" : Str)) = false := by decide) : PE X (.Call (.Name x p) [.Lambda params body scope lpos] [] pos) (tD X.K T (cmX X.K cls) E (xTold (wordX cls) B)) :=
  de_told Tk hg LF.tb hcode (by rw [hq]; exact LF.mem) (by rw [hq]; exact LF.uniq) words_ok hr hbody hL hdef hbind hdb
theorem dss_never {X : Cx} {T : List (Addr × Str)} {cm : Nat → Value} {E : XK} {ss : List Stmt} : PSs X ss (tSt X.K T cm E sNever) := ⟨fun pins s σ H D I h => by
  obtain ⟨M, H0, δ, o, R, e, k⟩ := h.old
  cases e⟩
theorem df_cat {X : Cx} {T : List (Addr × Str)} {cm : Nat → Value} {E : XK} {A B : XE} {a b : Expr} {pos : Pos} (ha : PE X a (tD X.K T cm E A)) (hb : PE X b (tD X.K T cm E B)) : PE X (.BinOp a .Add b pos) (tF X.K T cm E (xCat A B)) := PEimp (pe_op op_catG ha hb) fun σ H Q h => by
  obtain ⟨M, H0, δ, r, R, e, k⟩ := h
  rcases bnd_of e with ⟨x, ex, e⟩ | ⟨c, ex, rfl⟩
  · refine ⟨M, H0, δ, .ok x, R, ex, fun H1 x1 v hv => ?_⟩
    rcases bnd_of e with ⟨y, ey, e⟩ | ⟨c, ey, rfl⟩
    · refine ⟨M, H0, δ, .ok y, R.grow x1, ey, fun H2 x2 u hu => ?_⟩
      have hv := x2.dv hv
      cases hv with
      | @lst l xs ds hl hds =>
        cases hu with
        | @lst l2 ys es hl2 hes =>
          have e : (if ds.length + es.length ≤ sz then ret (ds ++ es) else none) = some r := e
          by_cases hz : ds.length + es.length ≤ sz
          · rw [if_pos hz] at e
            cases e
            refine ⟨l, l2, xs, ys, rfl, rfl, sl_un hl, sl_un hl2, by rw [← szLine, dpAll_len hds, dpAll_len hes]; exact hz, fun p hp => ?_⟩
            exact k _ (x1.trans (x2.trans (Ext.fresh _ hp))) p _ (Fr.back x1 (Fr.back x2 (.of hp))) upd_same (fresh_all hp (dpAll_app hds hes))
          · rw [if_neg hz] at e; cases e
        | _ => cases e
      | _ => cases e
    · exact ⟨M, H0, δ, .ex c, R.grow x1, ey, k.grow x1⟩
  · exact ⟨M, H0, δ, .ex c, R, ex, k⟩
theorem huH {k : Nat} {A : Around} (hr : RoomH k A) : A.units + 64 < cLine := by have := hr.un; omega
theorem lamF_of {K : PySem.W.Frag} {h : Heap} {mg : Str → Option Value} (KX : K.In h) (G : h.Ns mainGlobals mg) (hb : bmB K = true) {tf : List Str} (hd : ∀ p ∈ tf, PySem.W.codeHdIn K (He.cT K (p, none)).1 (He.cT K (p, none)).2 = true) (hP : ∀ p ∈ tf, K.lookup (He.cT K (p, none)).2 = none) (hn : (tf.map fun x => (He.cT K (x, none)).2).Nodup) {x : Str} (hx : x ∈ tf) : LamF K mg (tabY K tf) x := by
  refine ⟨tb_of KX G hb (hd x hx) (hP x hx), List.mem_map.mpr ⟨x, hx, rfl⟩, fun p hp e => ?_⟩
  obtain ⟨y, hy, rfl⟩ := List.mem_map.mp hp
  have : y = x := by
    obtain ⟨i, hi, rfl⟩ := List.mem_iff_getElem.mp hy
    obtain ⟨j, hj, rfl⟩ := List.mem_iff_getElem.mp hx
    have hij : i = j := by
      apply Classical.byContradiction
      intro hne
      rw [List.nodup_iff_pairwise_ne, List.pairwise_iff_getElem] at hn
      rcases Nat.lt_or_gt_of_ne hne with hlt | hlt
      · exact hn i j (by simpa using hi) (by simpa using hj) hlt (by simpa using e)
      · exact hn j i (by simpa using hj) (by simpa using hi) hlt (by simpa using e.symm)
    subst hij; rfl
  subst this; rfl
/-- the end of a law with tables -/
theorem law_saysT {K : PySem.W.Frag} {cm : Nat → Value} {F : List D → Pr D} {H : Hp} {a : Addr} {ns : List Int} {tf : List Str} (hT : ∀ p ∈ tf.map (fun x => He.cT K (x, none)), H p.2 = some (.tbl #[])) (hS : SqL K H a (ns.map V.int)) (e : F [.list (ns.map PyData.int)] = some (.ok (.bool true))) :
    spD K (tabY K tf) cm 1 F [.ref a] H (fun v _ => v = .bl true) E0 := by
  have hd : ∀ l : List Int, DvAll K (mask H (fun _ => False)) (l.map V.int) (l.map PyData.int) := fun l => by
    induction l with
    | nil => exact .nil
    | cons x xs ih => exact .cons (.int x) ih
  have hm : SqL K (mask H (fun _ => False)) a (ns.map V.int) := sqL_ext (fun b o q _ => by rw [mask_out (fun z => z)]; exact q) hS
  refine ⟨fun _ => False, _, _, (fun a z => z.elim), (fun p hp => ?_), .cons (.lst hm (hd ns)) .nil, rfl, e, fun H' _ v hv => by cases hv; rfl⟩
  obtain ⟨x, hx, rfl⟩ := List.mem_map.mp hp
  exact LamX.TabS.nil (hT _ (List.mem_map.mpr ⟨x, hx, rfl⟩))
end DL
set_option Elab.async false
set_option linter.all false
set_option maxRecDepth 100000
set_option maxHeartbeats 4000000
set_option autoImplicit false
/-! more of lists -/
namespace DL
open PySem L2
open LamX (ExtN Tabs TabS CodeO)
section
variable {X : Cx} {T : List (Addr × Str)} {cm : Nat → Value} {E : XK} {A B C : XE} {L : XL} {a b c e tg iter : Expr} {pos p : Pos}
theorem findIdxD_sp (ds : List D) (y : D) (j : Nat) (h : ds.findIdx? (fun z => PyData.eqv z y) = some j) : ∃ z, ds[j]? = some z ∧ PyData.eqv z y = true ∧ ∀ m z', m < j → ds[m]? = some z' → PyData.eqv z' y = false := by
  obtain ⟨h1, h2, h3⟩ := List.findIdx?_eq_some_iff_getElem.mp h
  refine ⟨ds[j], List.getElem?_eq_getElem h1, h2, fun m z' hm hz => ?_⟩
  have := h3 m hm
  rw [List.getElem?_eq_getElem (by omega)] at hz
  cases hz
  simpa using this
/-- xs.index(y) -/
theorem de_indexD {o : Expr} {apos : Pos} (hu : X.A.units + 65 < cLine) (ho : PE X o (tD X.K T cm E A)) (hb : PE X b (tD X.K T cm E B)) (hat : attributeBase o "index" X.env (eval o X.env) = eval o X.env := by rfl) (hl : (apos.endLine == pos.line) = true := by rfl)
    (hst : starEach (b :: []) X.env = (false, eval b X.env) :: starEach [] X.env := by rfl)
    (hfew : ((backTo pos (starEach (b :: []) X.env)).all (fun x => !x.1) && (backToKw pos (keywordEach [] X.env)).all (fun x => x.1.isSome) && decide ((b :: ([] : List Expr)).length + ([] : List Keyword).length + (if ([] : List Keyword).isEmpty then 0 else 1) < 30)) = true := by rfl) (hpl : (backTo pos (starEach [] X.env)).any (·.1) = false := by rfl) :
    PE X (.Call (.Attribute o "index" apos) [b] [] pos) (tD X.K T cm E (xIndexD A B)) :=
  PEimp (pe_bm PySem.F.plainAttrs_list PySem.F.slot_list_index PySem.F.type_list_index (mt_indexD hu) ho (pa_cons hb pa_nil hst) hat hfew hl hst hpl) fun σ H Q h => by
    obtain ⟨M, H0, δ, r, R, e, a⟩ := h
    rcases bnd_of e with ⟨x, ex, e⟩ | ⟨c, ex, rfl⟩
    · refine ⟨M, H0, δ, .ok x, R, ex, fun H1 x1 v hv => ?_⟩
      cases x with
      | list ds =>
        have e : bnd (B δ) (fun y => if SeqAt.shaped y = true ∧ SeqAt.shaped (.list ds) = true then lift ((ds.findIdx? fun z => PyData.eqv z y).map fun j => PyData.int (j : Nat)) else none) = some r := e
        have hv0 := hv
        cases hv with
        | @lst l vs _ hl hds =>
          refine ⟨.inl ⟨rfl, vs, sl_un hl⟩, ?_⟩
          rcases bnd_of e with ⟨y, ey, e⟩ | ⟨c, ey, rfl⟩
          · refine ⟨M, H0, δ, .ok y, R.grow x1, ey, fun H2 x2 u hu => ?_⟩
            by_cases hz : SeqAt.shaped y = true ∧ SeqAt.shaped (.list ds) = true
            · rw [if_pos hz] at e
              cases q2 : ds.findIdx? (fun z => PyData.eqv z y) with
              | none => rw [q2] at e; cases e
              | some j =>
                rw [q2] at e
                cases e
                obtain ⟨z, h1, h2, h3⟩ := findIdxD_sp ds y j q2
                exact ⟨l, u, y, ds, j, z, rfl, rfl, dv_dpS (x2.dv hv0).un hz.2, dv_dpS hu.un hz.1, hz.2, hz.1, h1, h2, h3, a H2 (x1.trans x2) _ (.int _)⟩
            · rw [if_neg hz] at e; cases e
          · exact ⟨M, H0, δ, .ex c, R.grow x1, ey, a.grow x1⟩
      | _ => cases e
    · exact ⟨M, H0, δ, .ex c, R, ex, a⟩
end
end DL
set_option Elab.async false
set_option linter.all false
set_option maxRecDepth 100000
set_option maxHeartbeats 4000000
set_option autoImplicit false
/-! zip of two tuples, its pairs kept under a name -/
namespace DL
open PySem PySem.Spec L2
open PyProof.Rows (Call_)
abbrev IsZipG (h : Heap) (z TI TO : Addr) (a0 : Value) (f : Bool) : Prop :=
  h.get? z = some { cls := .type "zip", dict := none, data := .fields #[a0, .bool f, .bool false, .ref TI, .ref TO], slots := #[] }
/-- what a zip may keep of the tuple that it gave -/
def Kept (a0 : Value) : Prop := a0 = .none ∨ ∃ T : Addr, a0 = rawInt (T : Nat)
section
variable {prog : Program} {w : World} {A : Around} {E : Value → Shared → Prop} {s : Shared} {z TI TO i1 i2 l1 l2 : Addr} {xs ys : Array Value} {At1 At2 : Nat → Heap → Prop} {Co1 Co2 : Heap → Prop} {a0 : Value} {f : Bool}
theorem zk_free {Q : Bool → Shared → Prop} (hz : IsZipG s.heap z TI TO a0 f) (ha : Kept a0) (hT : Q true s) (hF : ∀ h' f', IsZipG h' z TI TO a0 f' → Heap.SameBut z s.heap h' → Q false { s with heap := h' }) :
    wpAny (model prog w) A (Builtin.SmallTypes.ownedTupleIsFree (.ref z)) Q E s := by
  unfold Builtin.SmallTypes.ownedTupleIsFree
  rcases ha with rfl | ⟨T, rfl⟩
  · exact wpAny_bind (wpAny_field hz rfl (x := .none) rfl (wpAny_pure hT))
  · refine wpAny_bind (wpAny_field hz rfl (x := rawInt (T : Nat)) rfl ?_)
    show wpAny _ _ (loadIfAlive ((T : Int).toNat) >>= _) _ _ _
    rw [Int.toNat_natCast]
    have alive : ∀ {R : Option Obj → Shared → Prop}, R (s.heap.get? T) s → wpAny (model prog w) A (loadIfAlive T) R E s := fun h' => fun _ _ _ => h'
    refine wpAny_bind (alive ?_)
    cases hg : s.heap.get? T with
    | none =>
      simp only [Option.isNone_none, if_true]
      exact wpAny_pure hT
    | some oT =>
      simp only [Option.isNone_some, Bool.false_eq_true, if_false]
      refine wpAny_bind (wpAny_field hz rfl (x := .bool f) rfl ?_)
      cases f with
      | true =>
        rw [if_neg (show ¬ ((Value.bool true != Value.bool true) = true) from Bool.false_ne_true)]
        exact wpAny_pure (hF s.heap true hz (Heap.SameBut.refl _ _))
      | false =>
        rw [if_pos (show (Value.bool false != Value.bool true) = true from rfl)]
        exact wpAny_bind (wpAny_setField_rec hz (by simp) fun h₁ hz₁ hs₁ => wpAny_pure (hF h₁ true hz₁ hs₁))
theorem zk_item {k1 k2 : Nat} {x y a b : Value} {Q : Value → Shared → Prop} (S1 : Src prog w i1 l1 xs At1 Co1) (S2 : Src prog w i2 l2 ys At2 Co2) (D : ZipApart z TI TO i1 i2 l1 l2)
    (hz : IsZipG s.heap z TI TO a0 f) (ha : Kept a0) (hTI : IsPair s.heap TI (.ref i1) (.ref i2)) (hTO : IsPair s.heap TO a b) (a1 : At1 k1 s.heap) (a2 : At2 k2 s.heap) (c1 : Co1 s.heap) (c2 : Co2 s.heap) (hx : xs[k1]? = some x) (hy : ys[k2]? = some y)
    (hQ : ∀ h' a0' f', IsZipG h' z TI TO a0' f' → Kept a0' → (∃ a b, IsPair h' TO a b) → At1 (k1 + 1) h' → At2 (k2 + 1) h' → IsPair h' s.heap.objs.size x y →
      (∀ c o, c ≠ z → c ≠ TO → c ≠ i1 → c ≠ i2 → s.heap.get? c = some o → h'.get? c = some o) → Q (.ref s.heap.objs.size) { s with heap := h' }) :
    wpAny (model prog w) A (Builtin.«zip.__next__» ⟨[.ref z], []⟩) (fun fin s' => ∃ v, fin = .done (.ret v) ∧ Q v s') E s := by
  show wpAny _ _ (field (.ref z) 2 >>= _) _ _ _
  refine wpAny_bind (wpAny_field hz rfl (x := .bool false) rfl ?_)
  show wpAny _ _ (field (.ref z) 3 >>= _) _ _ _
  refine wpAny_bind (wpAny_field hz rfl (x := .ref TI) rfl (wpAny_bind (wpAny_seqItems hTI rfl ?_)))
  show wpAny _ _ (Builtin.SmallTypes.ownedTupleIsFree (.ref z) >>= _) _ _ _
  refine wpAny_bind (zk_free hz ha ?_ fun h₁ f' hz₁ hs₁ => ?_)
  · simp only [if_true]
    refine wpAny_bind (wpAny_rule (wpAny_bind (wpAny_field hz rfl (x := .ref TO) rfl (wpAny_bind (wpAny_setField_rec hz (by simp) fun g1 hz1 m1 => wpAny_bind ?_)))))
    have hz1 : IsZipG g1 z TI TO .ellipsis f := hz1
    have e1 : ∀ c o, c ≠ z → s.heap.get? c = some o → g1.get? c = some o := fun c o n e => m1.extBut _ _ n e
    simp only [List.zipIdx_cons, List.zipIdx_nil, List.forIn_cons, List.forIn_nil]
    refine wpAny_bind (wpAny_bind (wpAny_onRaise ?_))
    show wpAny _ _ (Builtin.SmallTypes.nextOf (.ref i1) >>= _) _ _ _
    refine wpAny_bind (S1.item (S1.atK a1 fun o => e1 _ o D.i1z) (S1.coK c1 fun o => e1 _ o D.l1z) hx fun g2 b1 m2 => wpAny_pure ?_)
    have e2 : ∀ c o, c ≠ z → c ≠ i1 → s.heap.get? c = some o → g2.get? c = some o := fun c o n n' e => m2.extBut _ _ n' (e1 c o n e)
    have t2 : IsPair g2 TO a b := e2 _ _ D.TOz D.TOi1 hTO
    refine wpAny_bind (wpAny_seqItems t2 rfl (wpAny_bind (wpAny_updateSeq_pair t2 fun g3 t3 m3 => wpAny_bind (wpAny_letGo (wpAny_pure ?_)))))
    have t3 : IsPair g3 TO x b := t3
    have e3 : ∀ c o, c ≠ z → c ≠ i1 → c ≠ TO → s.heap.get? c = some o → g3.get? c = some o := fun c o n n' n2 e => m3.extBut _ _ n2 (e2 c o n n' e)
    refine wpAny_bind (wpAny_bind (wpAny_onRaise ?_))
    show wpAny _ _ (Builtin.SmallTypes.nextOf (.ref i2) >>= _) _ _ _
    refine wpAny_bind (S2.item (S2.atK a2 fun o => e3 _ o D.i2z D.i12.symm D.TOi2.symm) (S2.coK c2 fun o => e3 _ o D.l2z D.l2i1 D.l2TO) hy fun g4 b2 m4 => wpAny_pure ?_)
    have t4 : IsPair g4 TO x b := m4.extBut _ _ D.TOi2 t3
    refine wpAny_bind (wpAny_seqItems t4 rfl (wpAny_bind (wpAny_updateSeq_pair t4 fun g5 t5 m5 => wpAny_bind (wpAny_letGo (wpAny_pure (wpAny_pure ?_))))))
    have t5 : IsPair g5 TO x y := t5
    have e5 : ∀ c o, c ≠ z → c ≠ i1 → c ≠ TO → c ≠ i2 → s.heap.get? c = some o → g5.get? c = some o := fun c o n n' n2 n3 e => m5.extBut _ _ n2 (m4.extBut _ _ n3 (e3 c o n n' n2 e))
    have hsz : g5.objs.size = s.heap.objs.size := by rw [m5.1, m4.1, m3.1, m2.1, m1.1]
    have z5 : IsZipG g5 z TI TO .ellipsis f := m5.extBut _ _ D.TOz.symm (m4.extBut _ _ D.i2z.symm (m3.extBut _ _ D.TOz.symm (m2.extBut _ _ D.i1z.symm hz1)))
    have p1 : At1 (k1 + 1) g5 := S1.atK b1 fun o e => m5.extBut _ _ D.TOi1.symm (m4.extBut _ _ D.i12 (m3.extBut _ _ D.TOi1.symm e))
    have p2 : At2 (k2 + 1) g5 := S2.atK b2 fun o e => m5.extBut _ _ D.TOi2.symm e
    have zl : z < g5.objs.size := Heap.lt_size z5
    refine wpAny_bind (wpAny_seqItems t5 rfl (wpAny_bind (wpAny_newTuple ?_)))
    show wpAny _ _ (Builtin.SmallTypes.ownedTupleHandOut (.ref z) (.ref g5.objs.size) >>= _) _ _ _
    refine wpAny_bind ?_
    unfold Builtin.SmallTypes.ownedTupleHandOut
    have z6 : IsZipG (g5.push { cls := .type "tuple", data := .seq #[x, y] }) z TI TO .ellipsis f := Heap.get?_push_of_some _ z5
    refine wpAny_bind (wpAny_setField_rec z6 (by simp) fun g7 z7 m7 => ?_)
    have z7 : IsZipG g7 z TI TO (rawInt g5.objs.size) f := z7
    refine wpAny_setField_rec z7 (by simp) fun g8 z8 m8 => ?_
    have z8 : IsZipG g8 z TI TO (rawInt g5.objs.size) false := z8
    have up : ∀ c o, c ≠ z → g5.get? c = some o → g8.get? c = some o := fun c o n e => m8.extBut _ _ n (m7.extBut _ _ n (Heap.get?_push_of_some _ e))
    have tt : IsPair g8 g5.objs.size x y := m8.extBut _ _ (Nat.ne_of_gt zl) (m7.extBut _ _ (Nat.ne_of_gt zl) (Heap.get?_push_size _ rfl))
    rw [hsz] at z8 tt
    refine wpAny_pure ⟨_, rfl, ?_⟩
    show Q (.ref g5.objs.size) _
    rw [hsz]
    exact hQ g8 _ _ z8 (.inr ⟨_, rfl⟩) ⟨_, _, up _ _ D.TOz t5⟩ (S1.atK p1 fun o e => up _ o D.i1z e) (S2.atK p2 fun o e => up _ o D.i2z e) tt fun c o n1 n2 n3 n4 e => up c o n1 (e5 c o n1 n3 n2 n4 e)
  · simp only [Bool.false_eq_true, if_false]
    have e1 : ∀ c o, c ≠ z → s.heap.get? c = some o → h₁.get? c = some o := fun c o n e => hs₁.extBut _ _ n e
    refine wpAny_bind ?_
    rw [← Array.forIn_toList]
    simp only [List.forIn_cons, List.forIn_nil]
    refine wpAny_bind (wpAny_bind (wpAny_holding ?_))
    show wpAny _ _ (Builtin.SmallTypes.nextOf (.ref i1) >>= _) _ _ _
    refine wpAny_bind (S1.item (s := { s with heap := h₁ }) (S1.atK a1 fun o => e1 _ o D.i1z) (S1.coK c1 fun o => e1 _ o D.l1z) hx fun h₂ b1 m2 => wpAny_pure ?_)
    have e2 : ∀ c o, c ≠ z → c ≠ i1 → s.heap.get? c = some o → h₂.get? c = some o := fun c o n n' e => m2.extBut _ _ n' (e1 c o n e)
    refine wpAny_pure ?_
    refine wpAny_bind (wpAny_bind (wpAny_holding ?_))
    show wpAny _ _ (Builtin.SmallTypes.nextOf (.ref i2) >>= _) _ _ _
    refine wpAny_bind (S2.item (s := { s with heap := h₂ }) (S2.atK a2 fun o => e2 _ o D.i2z D.i12.symm) (S2.coK c2 fun o => e2 _ o D.l2z D.l2i1) hy fun h₃ b2 m3 => wpAny_pure ?_)
    refine wpAny_pure (wpAny_pure ?_)
    show wpAny _ _ (newTuple [x, y] >>= _) _ _ _
    refine wpAny_bind (wpAny_newTuple ?_)
    have hsz : h₃.objs.size = s.heap.objs.size := by rw [m3.1, m2.1, hs₁.1]
    have z3 : IsZipG h₃ z TI TO a0 f' := m3.extBut _ _ D.i2z.symm (m2.extBut _ _ D.i1z.symm hz₁)
    have e3 : ∀ c o, c ≠ z → c ≠ i1 → c ≠ i2 → s.heap.get? c = some o → h₃.get? c = some o := fun c o n n' n2 e => m3.extBut _ _ n2 (e2 c o n n' e)
    refine wpAny_pure ⟨_, rfl, ?_⟩
    show Q (.ref h₃.objs.size) _
    have hp : IsPair (h₃.push { cls := .type "tuple", data := .seq #[x, y] }) h₃.objs.size x y := Heap.get?_push_size _ rfl
    rw [hsz] at hp ⊢
    exact hQ _ _ _ (Heap.get?_push_of_some _ z3) ha ⟨a, b, Heap.get?_push_of_some _ (e3 _ _ D.TOz D.TOi1 D.TOi2 hTO)⟩ (S1.atK b1 fun o e => Heap.get?_push_of_some _ (m3.extBut _ _ D.i12 e)) (S2.atK b2 fun o e => Heap.get?_push_of_some _ e) hp fun c o n1 n2 n3 n4 e => Heap.get?_push_of_some _ (e3 c o n1 n3 n4 e)
theorem zk_stop {k1 k2 : Nat} {a b : Value} {Q : Fin → Shared → Prop} (hh : A.handled = none) (S1 : Src prog w i1 l1 xs At1 Co1) (S2 : Src prog w i2 l2 ys At2 Co2) (D : ZipApart z TI TO i1 i2 l1 l2)
    (hz : IsZipG s.heap z TI TO a0 f) (ha : Kept a0) (hTI : IsPair s.heap TI (.ref i1) (.ref i2)) (hTO : IsPair s.heap TO a b) (a1 : At1 k1 s.heap) (a2 : At2 k2 s.heap) (c1 : Co1 s.heap) (c2 : Co2 s.heap) (hend : xs[k1]? = none ∨ ys[k2]? = none)
    (hE : ∀ h' e, (∀ c o, c ≠ z → c ≠ TO → c ≠ i1 → c ≠ i2 → s.heap.get? c = some o → h'.get? c = some o) → (∃ o, h'.get? e = some o ∧ o.cls = .type "StopIteration") → E (.ref e) { s with heap := h' }) :
    wpAny (model prog w) A (Builtin.«zip.__next__» ⟨[.ref z], []⟩) Q E s := by
  show wpAny _ _ (field (.ref z) 2 >>= _) _ _ _
  refine wpAny_bind (wpAny_field hz rfl (x := .bool false) rfl ?_)
  show wpAny _ _ (field (.ref z) 3 >>= _) _ _ _
  refine wpAny_bind (wpAny_field hz rfl (x := .ref TI) rfl (wpAny_bind (wpAny_seqItems hTI rfl ?_)))
  show wpAny _ _ (Builtin.SmallTypes.ownedTupleIsFree (.ref z) >>= _) _ _ _
  refine wpAny_bind (zk_free hz ha ?_ fun h₁ f' hz₁ hs₁ => ?_)
  · simp only [if_true]
    refine wpAny_bind (wpAny_rule (wpAny_bind (wpAny_field hz rfl (x := .ref TO) rfl (wpAny_bind (wpAny_setField_rec hz (by simp) fun g1 hz1 m1 => wpAny_bind ?_)))))
    have hz1 : IsZipG g1 z TI TO .ellipsis f := hz1
    have e1 : ∀ c o, c ≠ z → s.heap.get? c = some o → g1.get? c = some o := fun c o n e => m1.extBut _ _ n e
    have last : ∀ (g : Heap) (e : Addr), IsZipG g z TI TO .ellipsis f → (∀ c o, c ≠ z → c ≠ TO → c ≠ i1 → c ≠ i2 → s.heap.get? c = some o → g.get? c = some o) → (∃ o, g.get? e = some o ∧ o.cls = .type "StopIteration") →
        wpAny (model prog w) A (setField (.ref z) 0 .none) (fun _ s' => E (.ref e) s') E { s with heap := g } := by
      intro g e hg hk he
      obtain ⟨oe, h1, h2⟩ := he
      have hez : e ≠ z := fun q => by subst q; rw [hg] at h1; cases h1; simp at h2
      exact wpAny_setField_rec hg (by simp) fun g' _ m => hE g' e (fun c o n n2 n3 n4 q => m.extBut _ _ n (hk c o n n2 n3 n4 q)) ⟨oe, m.extBut _ _ hez h1, h2⟩
    simp only [List.zipIdx_cons, List.zipIdx_nil, List.forIn_cons, List.forIn_nil]
    refine wpAny_bind (wpAny_bind (wpAny_onRaise ?_))
    show wpAny _ _ (Builtin.SmallTypes.nextOf (.ref i1) >>= _) _ _ _
    cases hx : xs[k1]? with
    | none =>
      refine wpAny_bind (S1.stop hh (S1.atK a1 fun o => e1 _ o D.i1z) (S1.coK c1 fun o => e1 _ o D.l1z) hx fun g2 e m2 he => ?_)
      exact last g2 e (m2 _ _ D.i1z.symm hz1) (fun c o n _ n3 _ q => m2 _ _ n3 (e1 c o n q)) he
    | some x =>
      have hy : ys[k2]? = none := by
        rcases hend with h | h
        · rw [hx] at h; cases h
        · exact h
      refine wpAny_bind (S1.item (S1.atK a1 fun o => e1 _ o D.i1z) (S1.coK c1 fun o => e1 _ o D.l1z) hx fun g2 b1 m2 => wpAny_pure ?_)
      have e2 : ∀ c o, c ≠ z → c ≠ i1 → s.heap.get? c = some o → g2.get? c = some o := fun c o n n' e => m2.extBut _ _ n' (e1 c o n e)
      have t2 : IsPair g2 TO a b := e2 _ _ D.TOz D.TOi1 hTO
      refine wpAny_bind (wpAny_seqItems t2 rfl (wpAny_bind (wpAny_updateSeq_pair t2 fun g3 t3 m3 => wpAny_bind (wpAny_letGo (wpAny_pure ?_)))))
      have e3 : ∀ c o, c ≠ z → c ≠ i1 → c ≠ TO → s.heap.get? c = some o → g3.get? c = some o := fun c o n n' n2 e => m3.extBut _ _ n2 (e2 c o n n' e)
      refine wpAny_bind (wpAny_bind (wpAny_onRaise ?_))
      show wpAny _ _ (Builtin.SmallTypes.nextOf (.ref i2) >>= _) _ _ _
      refine wpAny_bind (S2.stop hh (S2.atK a2 fun o => e3 _ o D.i2z D.i12.symm D.TOi2.symm) (S2.coK c2 fun o => e3 _ o D.l2z D.l2i1 D.l2TO) hy fun g4 e m4 he => ?_)
      exact last g4 e (m4 _ _ D.i2z.symm (m3.extBut _ _ D.TOz.symm (m2.extBut _ _ D.i1z.symm hz1))) (fun c o n n2 n3 n4 q => m4 _ _ n4 (e3 c o n n3 n2 q)) he
  · simp only [Bool.false_eq_true, if_false]
    have e1 : ∀ c o, c ≠ z → s.heap.get? c = some o → h₁.get? c = some o := fun c o n e => hs₁.extBut _ _ n e
    refine wpAny_bind ?_
    rw [← Array.forIn_toList]
    simp only [List.forIn_cons, List.forIn_nil]
    refine wpAny_bind (wpAny_bind (wpAny_holding ?_))
    show wpAny _ _ (Builtin.SmallTypes.nextOf (.ref i1) >>= _) _ _ _
    cases hx : xs[k1]? with
    | none =>
      refine wpAny_bind (S1.stop (s := { s with heap := h₁ }) hh (S1.atK a1 fun o => e1 _ o D.i1z) (S1.coK c1 fun o => e1 _ o D.l1z) hx fun h₂ e m2 he => ?_)
      exact hE h₂ e (fun c o n1 _ n3 _ q => m2 _ _ n3 (e1 c o n1 q)) he
    | some x =>
      have hy : ys[k2]? = none := by
        rcases hend with h | h
        · rw [hx] at h; cases h
        · exact h
      refine wpAny_bind (S1.item (s := { s with heap := h₁ }) (S1.atK a1 fun o => e1 _ o D.i1z) (S1.coK c1 fun o => e1 _ o D.l1z) hx fun h₂ b1 m2 => wpAny_pure ?_)
      have e2 : ∀ c o, c ≠ z → c ≠ i1 → s.heap.get? c = some o → h₂.get? c = some o := fun c o n n' e => m2.extBut _ _ n' (e1 c o n e)
      refine wpAny_pure ?_
      refine wpAny_bind (wpAny_bind (wpAny_holding ?_))
      show wpAny _ _ (Builtin.SmallTypes.nextOf (.ref i2) >>= _) _ _ _
      refine wpAny_bind (S2.stop (s := { s with heap := h₂ }) hh (S2.atK a2 fun o => e2 _ o D.i2z D.i12.symm) (S2.coK c2 fun o => e2 _ o D.l2z D.l2i1) hy fun h₃ e m3 he => ?_)
      exact hE h₃ e (fun c o n1 _ n3 n4 q => m3 _ _ n4 (e2 c o n1 n3 q)) he
theorem zkpy_item {k1 k2 : Nat} {x y a b : Value} {Q : Option Value → Shared → Prop} (S1 : Src prog w i1 l1 xs At1 Co1) (S2 : Src prog w i2 l2 ys At2 Co2) (D : ZipApart z TI TO i1 i2 l1 l2)
    (hz : IsZipG s.heap z TI TO a0 f) (ha : Kept a0) (hTI : IsPair s.heap TI (.ref i1) (.ref i2)) (hTO : IsPair s.heap TO a b) (a1 : At1 k1 s.heap) (a2 : At2 k2 s.heap) (c1 : Co1 s.heap) (c2 : Co2 s.heap) (hx : xs[k1]? = some x) (hy : ys[k2]? = some y)
    (hQ : ∀ h' a0' f', IsZipG h' z TI TO a0' f' → Kept a0' → (∃ a b, IsPair h' TO a b) → At1 (k1 + 1) h' → At2 (k2 + 1) h' → IsPair h' s.heap.objs.size x y →
      (∀ c o, c ≠ z → c ≠ TO → c ≠ i1 → c ≠ i2 → s.heap.get? c = some o → h'.get? c = some o) → Q (some (.ref s.heap.objs.size)) { s with heap := h' }) :
    wpAny (model prog w) A (pyNext (.ref z)) Q E s := by
  have hT : s.TypeIs (.ref z) "zip" := ⟨_, hz, rfl⟩
  unfold pyNext
  refine wpAny_bind (wpAny_attempt (wpAny_callSpecial?_slot (name := Str.ofString "__next__") hT F.slot_zip_next (wpAny_call_entry F.slot_zip_next hT F.entry_zip_next ?_ (F.args_zip_next_1 _))))
  exact zk_item S1 S2 D hz ha hTI hTO a1 a2 c1 c2 hx hy fun h' a0' f' q1 q0 q2 q3 q4 q5 q6 => wpAny_pure (hQ h' a0' f' q1 q0 q2 q3 q4 q5 q6)
theorem zkpy_stop {k1 k2 : Nat} {a b : Value} {Q : Option Value → Shared → Prop} (hh : A.handled = none) (S1 : Src prog w i1 l1 xs At1 Co1) (S2 : Src prog w i2 l2 ys At2 Co2) (D : ZipApart z TI TO i1 i2 l1 l2)
    (hz : IsZipG s.heap z TI TO a0 f) (ha : Kept a0) (hTI : IsPair s.heap TI (.ref i1) (.ref i2)) (hTO : IsPair s.heap TO a b) (a1 : At1 k1 s.heap) (a2 : At2 k2 s.heap) (c1 : Co1 s.heap) (c2 : Co2 s.heap) (hend : xs[k1]? = none ∨ ys[k2]? = none)
    (hQ : ∀ h', (∀ c o, c ≠ z → c ≠ TO → c ≠ i1 → c ≠ i2 → s.heap.get? c = some o → h'.get? c = some o) → Q none { s with heap := h' }) : wpAny (model prog w) A (pyNext (.ref z)) Q E s := by
  have hT : s.TypeIs (.ref z) "zip" := ⟨_, hz, rfl⟩
  unfold pyNext
  refine wpAny_bind (wpAny_attempt (wpAny_callSpecial?_slot (name := Str.ofString "__next__") hT F.slot_zip_next (wpAny_call_entry F.slot_zip_next hT F.entry_zip_next (zk_stop hh S1 S2 D hz ha hTI hTO a1 a2 c1 c2 hend fun h' e hk he => ?_) (F.args_zip_next_1 _))))
  obtain ⟨o, ho, hc⟩ := he
  exact wpAny_bind (wpAny_isInstance (T := "StopIteration") (b := true) ⟨o, ho, hc⟩ isSubtype_stop (wpAny_pure (hQ _ hk)))
end
theorem turn_zipK {P : Program} {w : World} {K : PySem.W.Frag} {nm : Str} {npos : Pos} {a b z TI TO i1 i2 : Addr} (D : ZipApart z TI TO i1 i2 a b) :
    Turn P w K (.Name nm npos) (RZ.ItzT K a b) [z, TI, TO, i1, i2] z (fun i h => (∃ a0 f, IsZipG h z TI TO a0 f ∧ Kept a0) ∧ IsPair h TI (.ref i1) (.ref i2) ∧ (∃ x y, IsPair h TO x y) ∧ h.IsTupleIter i1 a i ∧ h.IsTupleIter i2 b i) where
  mem := by simp
  obj := fun i h st c hc => by
    obtain ⟨⟨a0, f, hz, _⟩, hTI, ⟨x, y, hTO⟩, q1, q2⟩ := st
    have e' : c = z ∨ c = TI ∨ c = TO ∨ c = i1 ∨ c = i2 := by simpa using hc
    rcases e' with rfl | rfl | rfl | rfl | rfl
    · exact ⟨_, hz, fun v q => nomatch q⟩
    · exact ⟨_, hTI, fun v q => nomatch q⟩
    · exact ⟨_, hTO, fun v q => nomatch q⟩
    · exact (srcT (prog := P) (w := w) c a #[]).obj q1
    · exact (srcT (prog := P) (w := w) c b #[]).obj q2
  keep := fun i h h' st k => by
    obtain ⟨⟨a0, f, hz, ha⟩, hTI, ⟨x, y, hTO⟩, q1, q2⟩ := st
    exact ⟨⟨a0, f, k z (by simp) _ hz, ha⟩, k TI (by simp) _ hTI, ⟨x, y, k TO (by simp) _ hTO⟩, q1.at fun o q => k i1 (by simp) o q, q2.at fun o q => k i2 (by simp) o q⟩
  item := by
    intro X hP hw hK hc i pins s σ H E I hf st hg
    subst hP hw hK
    obtain ⟨⟨a0, f, hz, ha⟩, hTI, ⟨x0, y0, hTO⟩, q1, q2⟩ := st
    obtain ⟨xs, ys, x, y, sx, sy, hx, hy⟩ := hg
    obtain ⟨its, rv, p, _⟩ := I.tuple sx
    obtain ⟨its2, rv2, p2, _⟩ := I.tuple sy
    obtain ⟨u, hu, ru⟩ := rv.get hx
    obtain ⟨u2, hu2, ru2⟩ := rv2.get hy
    have zl : z < s.heap.objs.size := Heap.lt_size hz
    refine zkpy_item (srcT i1 a its.toArray) (srcT i2 b its2.toArray) D hz ha hTI hTO q1 q2 p p2 (x := u) (y := u2) (by simpa using hu) (by simpa using hu2) fun g a0' f' z' ha' t' n1 n2 hT hk => ?_
    refine ⟨_, rfl, wpAny_pure ?_⟩
    have new : ObjOk X.prog X.w (upd H s.heap.objs.size (.tup [x, y])) g s.heap.objs.size (.tup [x, y]) := ⟨by show 2 ≤ sizeLine; decide, [u, u2], .cons ru (.cons ru2 .nil), ⟨_, hT, rfl, _, rfl⟩⟩
    have I1 : Inv X pins σ (upd H s.heap.objs.size (.tup [x, y])) { s with heap := g } := I.turnedNew (t' := s.toks) (ch := [z, TI, TO, i1, i2]) (fun c o hb q => by
      have hb' : c ≠ z ∧ c ≠ TO ∧ c ≠ i1 ∧ c ≠ i2 := by
        simp only [List.mem_cons, List.not_mem_nil, not_or] at hb
        exact ⟨hb.1, hb.2.2.1, hb.2.2.2.1, hb.2.2.2.2.1⟩
      exact hk c o hb'.1 hb'.2.1 hb'.2.2.1 hb'.2.2.2 q) hf (Nat.le_refl _) new
    refine ⟨.ref s.heap.objs.size, _, I1, rfl, ⟨_, x, y, rfl, I.hok.fresh (Nat.le_refl _), rfl, fun l hl => by rw [I.tuple_inj hl sx]; exact hx, fun l hl => by rw [I.tuple_inj hl sy]; exact hy⟩, ⟨⟨a0', f', z', ha'⟩, ?_, t', n1, n2⟩, fun c hcm => ?_⟩
    · exact hk _ _ D.TIz D.TITO D.TIi1 D.TIi2 hTI
    · have hlt : c < s.heap.objs.size := by
        have e' : c = z ∨ c = TI ∨ c = TO ∨ c = i1 ∨ c = i2 := by simpa using hcm
        rcases e' with rfl | rfl | rfl | rfl | rfl
        · exact zl
        · exact Heap.lt_size hTI
        · exact Heap.lt_size hTO
        · obtain ⟨_, e1, _⟩ := q1; exact Heap.lt_size e1
        · obtain ⟨_, e2, _⟩ := q2; exact Heap.lt_size e2
      rw [upd_ne (Nat.ne_of_lt hlt)]
      exact (hf c hcm).1
  done := by
    intro X hP hw hK hc i pins s σ H E I hf st hg
    subst hP hw hK
    obtain ⟨⟨a0, f, hz, ha⟩, hTI, ⟨x0, y0, hTO⟩, q1, q2⟩ := st
    obtain ⟨xs, ys, sx, sy, hend⟩ := hg
    obtain ⟨its, rv, p, _⟩ := I.tuple sx
    obtain ⟨its2, rv2, p2, _⟩ := I.tuple sy
    have n1 := rv.length
    have n2 := rv2.length
    have he : its.toArray[i]? = none ∨ its2.toArray[i]? = none := by
      rcases hend with q | q
      · exact .inl (by simp; omega)
      · exact .inr (by simp; omega)
    refine zkpy_stop (I.ok.hd hc) (srcT i1 a its.toArray) (srcT i2 b its2.toArray) D hz ha hTI hTO q1 q2 p p2 he fun g hk => ⟨rfl, I.turnedL (t' := s.toks) (ch := [z, TI, TO, i1, i2]) (fun c o hb q => ?_) hf⟩
    simp only [List.mem_cons, List.not_mem_nil, not_or] at hb
    exact hk c o hb.1 hb.2.2.1 hb.2.2.2.1 hb.2.2.2.2.1 q
  self := fun A i s Q E st h => by
    obtain ⟨⟨a0, f, hz, _⟩, _⟩ := st
    have hT : s.TypeIs (.ref z) "zip" := ⟨_, hz, rfl⟩
    refine wpAny_pyIter_slot hT F.slot_zip_iter (wpAny_call_entry F.slot_zip_iter hT F.entry_zip_iter ?_ (F.args_zip_iter_1 _))
    show wpAny _ _ (PySem.ret (Value.ref z)) _ _ s
    exact wpAny_pure ⟨_, rfl, "zip", _, hT, F.slot_zip_next.lookup, h⟩
def iZipT (K : PySem.W.Frag) (ta : TA) : TI := fun σ H R => ta σ H fun vs H1 => ∃ a b xs ys, vs = [.ref a, .ref b] ∧ SqT K H1 a xs ∧ SqT K H1 b ys ∧ R (RZ.ItzT K a b) H1
theorem pi_zipK {X : Cx} {e e2 : Expr} {ta : TA} {p pos npos : Pos} {nm : Str} (hg : Gl X "zip") (hm : X.mg "zip" = none) (ha : PA X [e, e2] ta)
    (hs : starEach [e, e2] X.env = (false, eval e X.env) :: starEach [e2] X.env := by rfl) (hpl : (backTo pos (starEach [e2] X.env)).any (·.1) = false := by rfl) :
    PI X (.Name nm npos) (.Call (.Name "zip" p) [e, e2] [] pos) (iZipT X.K ta) := by
  refine ⟨fun pins s σ H R I h => ?_⟩
  refine Call_ (ld_blt I hg hm PyProof.Rows.boot_zip (PyProof.Rows.callWith_type1 (thn (ha.run pos pins s σ H _ I h) fun us s1 ⟨vs, H1, I1, r1, qq⟩ => ?_) hs hpl))
  obtain ⟨a, b, xs, ys, ex, sx, sy, q⟩ := qq
  subst ex
  cases r1 with
  | cons r rr =>
    cases rr with
    | cons r' rr =>
      cases rr; cases r; cases r'
      generalize hn : s1.heap.objs.size = n
      have fresh5 : ∀ c, c ∈ [n + 4, n + 2, n + 3, n, n + 1] → FpOk X pins H1 c := fun c hcm => by
        have hle : s1.heap.objs.size ≤ c := by
          simp only [List.mem_cons, List.not_mem_nil, or_false] at hcm
          omega
        exact I1.fpOk hle (I1.hok.fresh hle)
      subst hn
      obtain ⟨its, rv, p1, _⟩ := I1.tuple sx
      obtain ⟨its2, rv2, p2, _⟩ := I1.tuple sy
      obtain ⟨o1, ho1, _⟩ := id p1
      obtain ⟨o2, ho2, _⟩ := id p2
      refine RZ.call_zipT p1 p2 fun h' hz hTI hTO n1 n2 hsz hk => wpAny_pyIter_zip hz ?_
      have I2 : Inv X pins σ H1 { s1 with heap := h' } := I1.kept (t' := s1.toks) hk
      exact ⟨_, _, _, _, H1, rfl, I2, turn_zipK (PySem.W.ktu_apart s1.heap.objs.size a b (Heap.lt_size ho1) (Heap.lt_size ho2)), ⟨⟨_, _, hz, .inl rfl⟩, hTI, ⟨_, _, hTO⟩, n1, n2⟩, fresh5, q⟩
section
variable {X : Cx} {T : List (Addr × Str)} {cm : Nat → Value} {E : XK} {A B C : XE} {a b c e tg iter : Expr} {pos p : Pos}
theorem di_zipK {nm : Str} {npos : Pos} (hg : Gl X "zip") (hm : X.mg "zip" = none) (ha : PE X a (tD X.K T cm E A)) (hb : PE X b (tD X.K T cm E B)) (hs : starEach [a, b] X.env = (false, eval a X.env) :: starEach [b] X.env := by rfl) (hs2 : starEach [b] X.env = (false, eval b X.env) :: starEach [] X.env := by rfl)
    (hpl : (backTo pos (starEach [b] X.env)).any (·.1) = false := by rfl) :
    PI X (.Name nm npos) (.Call (.Name "zip" p) [a, b] [] pos) (tI X.K T cm E (xZipT A B)) :=
  PIimp (PIlens (pi_zipK hg hm (pa_cons ha (pa_cons hb pa_nil hs2) hs) hs hpl)) fun σ H R h => by
    obtain ⟨M, H0, δ, r, Rr, e, a⟩ := h
    rcases bnd_of e with ⟨x, ex, e⟩ | ⟨c, ex, rfl⟩
    · refine ⟨M, H0, δ, .ok x, Rr, ex, fun H1 x1 v hv => ?_⟩
      rcases bnd_of e with ⟨y, ey, e⟩ | ⟨c, ey, rfl⟩
      · refine ⟨M, H0, δ, .ok y, Rr.grow x1, ey, fun H2 x2 u hu => ?_⟩
        have hv := x2.dv hv
        cases hv with
        | @tup l xs ds hl hds =>
          cases hu with
          | @tup l2 ys es hl2 hes =>
            cases e
            refine ⟨l, l2, xs, ys, rfl, st_un hl, st_un hl2, fun ln => a H2 (x1.trans x2) _ ?_ fun i H3 M3 x3 m3 hm3 => ?_⟩
            · rw [zipL_len, ← dpAll_len hds]
              have := ln l xs (.inr (st_un hl))
              omega
            · have z := seen (K := X.K) x3 hm3
              have q1 : SqT X.K H3 l xs := st_un (sqT_ext z (sqT_ext mask2 hl))
              have q2 : SqT X.K H3 l2 ys := st_un (sqT_ext z (sqT_ext mask2 hl2))
              have l1 := dpAll_len hds
              have l2 := dpAll_len hes
              rw [zipL_len]
              refine ⟨fun hi => ?_, fun hi => ⟨xs, ys, q1, q2, by omega⟩⟩
              have hi1 : i < xs.length := by omega
              have hi2 : i < ys.length := by omega
              obtain ⟨d, e1, e2⟩ := dpAll_get hds (List.getElem?_eq_getElem hi1)
              obtain ⟨d', e1', e2'⟩ := dpAll_get hes (List.getElem?_eq_getElem hi2)
              refine ⟨⟨xs, ys, xs[i], ys[i], q1, q2, List.getElem?_eq_getElem hi1, List.getElem?_eq_getElem hi2⟩, fun y H4 hy => ?_⟩
              obtain ⟨q, w, w', rfl, hn, rfl, hy1, hy2⟩ := hy
              have t1 := hy1 xs q1
              have t2 := hy2 ys q2
              rw [List.getElem?_eq_getElem hi1] at t1
              rw [List.getElem?_eq_getElem hi2] at t2
              cases t1
              cases t2
              exact ⟨Ext.fresh _ hn, _, zipL_get e1 e1', dv_pair m3 hn (dp_ext z (dp_ext mask2 e2)) (dp_ext z (dp_ext mask2 e2'))⟩
          | _ => cases e
        | _ => cases e
      · exact ⟨M, H0, δ, .ex c, Rr.grow x1, ey, a.grow x1⟩
    · exact ⟨M, H0, δ, .ex c, Rr, ex, a⟩
end
end DL
set_option Elab.async false
set_option linter.all false
set_option maxRecDepth 100000
set_option maxHeartbeats 4000000
set_option autoImplicit false
/-! x[::-1] of a tuple -/
namespace DL
open PySem PySem.Spec PyProof.Rows L2
open LamX (ExtN Tabs TabS CodeO)
section
variable {prog : Program} {w : World} {A : Around} {E : Value → Shared → Prop} {s : Shared}
theorem rt_adjust (n : Nat) : Builtin.Slice.sliceAdjust none none (-1) (n : Int) = ((n : Int) - 1, -1) := by
  unfold Builtin.Slice.sliceAdjust
  rfl
theorem rt_places (n : Nat) : Builtin.Slice.slicePlaces ((n : Int) - 1) (-1) (-1) = n := by
  unfold Builtin.Slice.slicePlaces
  have h1 : ¬ ((-1 : Int) > 0) := by decide
  simp only [h1, if_false]
  split
  · rw [show (- -1 : Int) = 1 by decide, Int.ediv_one]; omega
  · omega
theorem rt_applied {sl : Addr} {vs : Value} {n : Nat} {Q : Int × Int × Nat → Shared → Prop} (hs : s.heap.IsSliceOf sl .none .none vs) (ps : IsPart vs (some (-1)))
    (h : Q ((n : Int) - 1, -1, n) s) : wpAny (model prog w) A (Builtin.Slice.sliceApplied (.ref sl) (pure (n : Int))) Q E s := by
  obtain ⟨os, hos, hcs, hds⟩ := id hs
  unfold Builtin.Slice.sliceApplied Builtin.Slice.sliceFields
  refine wpAny_bind (wpAny_bind (wpAny_field hos hds (x := .none) rfl (wpAny_bind (wpAny_field hos hds (x := .none) rfl (wpAny_bind (wpAny_field hos hds (x := vs) rfl (wpAny_pure ?_)))))))
  refine wpAny_bind (HT.slicePart_ ps ?_)
  show wpAny _ _ (if ((-1 : Int) == 0) = true then _ else _) _ _ s
  rw [if_neg (by decide)]
  refine wpAny_bind (HT.slicePart_ .none (wpAny_bind (HT.slicePart_ .none (wpAny_bind (wpAny_pure ?_)))))
  show wpAny _ _ (match Builtin.Slice.sliceAdjust none none (-1) (n : Int) with | (lo, hi) => pure (lo, (-1 : Int), Builtin.Slice.slicePlaces lo hi (-1))) _ _ s
  rw [rt_adjust n]
  show wpAny _ _ (pure ((n : Int) - 1, (-1 : Int), Builtin.Slice.slicePlaces ((n : Int) - 1) (-1) (-1))) _ _ s
  rw [rt_places]
  exact wpAny_pure h
theorem fm_congr {α β : Type} {f g : α → Option β} : ∀ {xs : List α}, (∀ x ∈ xs, f x = g x) → xs.filterMap f = xs.filterMap g
  | [], _ => rfl
  | x :: xs, h => by
    rw [List.filterMap_cons, List.filterMap_cons, h x (by simp), fm_congr (xs := xs) fun y hy => h y (by simp [hy])]
theorem rt_pick (xs : Array Value) : ((List.range xs.size).filterMap fun (m : Nat) => xs[(((xs.size : Int) - 1) + (m : Int) * -1).toNat]?).toArray = xs.toList.reverse.toArray := by
  have e : (List.range xs.size).filterMap (fun (m : Nat) => xs[(((xs.size : Int) - 1) + (m : Int) * -1).toNat]?) = ((List.range xs.size).map fun k => xs.size - 1 - k).filterMap (xs[·]?) := by
    rw [List.filterMap_map]
    apply fm_congr
    intro m hm
    have := List.mem_range.mp hm
    have : ((((xs.size : Int) - 1) + (m : Int) * -1).toNat) = xs.size - 1 - m := by omega
    show xs[_]? = xs[_]?
    rw [this]
  rw [e, PySem.W.krv_range, List.filterMap_reverse, PySem.W.krv_all]
theorem rt_get {t sl : Addr} {items : Array Value} {vs : Value} {Q : Value → Shared → Prop} (ht : IsTup s.heap t items) (hs : s.heap.IsSliceOf sl .none .none vs) (ps : IsPart vs (some (-1)))
    (h : Q (.ref s.heap.objs.size) { s with heap := s.heap.push { cls := .type "tuple", data := .seq items.toList.reverse.toArray } })
    (hsz : items.size ≤ sizeLine) : wpAny (model prog w) A (getItem (.ref t) (.ref sl)) Q E s := by
  have htake : sizeOk (.seq items.toList.reverse.toArray) := by
    show items.toList.reverse.toArray.size ≤ sizeLine
    rw [List.size_toArray, List.length_reverse, Array.length_toList]
    omega
  obtain ⟨os, hos, hcs, hds⟩ := id hs
  have hTs : s.TypeIs (.ref sl) "slice" := ⟨os, hos, hcs⟩
  unfold getItem
  try with_reducible refine wpAny_holding ?_
  first | refine wpAny_bind (wpAny_pure ?_) | skip
  refine wpAny_bind (wpAny_sequenceKey ht.typeIs (by decide) ?_)
  refine wpAny_bind (wpAny_callSpecial?_slot (name := Str.ofString "__getitem__") ht.typeIs PyProof.Rows.slot_tuple_getitem
    (wpAny_call_entry PyProof.Rows.slot_tuple_getitem ht.typeIs entry_tuple_getitem ?_ (args_tuple_getitem _ _)))
  show wpAny _ _ (Builtin.Tuple.tupleItemsOf (.ref t) >>= _) _ _ s
  refine wpAny_bind (tupleItemsOf_ ht ?_)
  refine wpAny_bind (wpAny_typeOf hTs ?_)
  rw [if_pos (by decide)]
  refine wpAny_bind (rt_applied hs ps ?_)
  have hno : ¬ ((((items.size : Int) - 1) == 0 && (-1 : Int) == 1 && items.size == items.size) = true) := by
    intro q
    rw [Bool.and_eq_true, Bool.and_eq_true] at q
    exact absurd q.1.2 (by decide)
  show wpAny _ _ (if (((items.size : Int) - 1) == 0 && (-1 : Int) == 1 && items.size == items.size) = true then _ else _) _ _ s
  rw [if_neg hno, rt_pick]
  first
    | exact wpAny_bind (m := Builtin.Tuple.tupleExact _) (wpAny_newObj_type (wpAny_pure ⟨_, rfl, wpAny_pure h⟩) htake)
    | exact wpAny_bind (m := Builtin.Tuple.tupleExact _) (wpAny_newObj_type (wpAny_bind (wpAny_pure (wpAny_pure ⟨_, rfl, wpAny_pure h⟩))) htake)
    | exact wpAny_bind (wpAny_bind (m := Builtin.Tuple.tupleExact _) (wpAny_newObj_type (wpAny_pure (wpAny_pure ⟨_, rfl, wpAny_pure h⟩)) htake))
    | exact wpAny_bind (wpAny_bind (m := Builtin.Tuple.tupleExact _) (wpAny_newObj_type (wpAny_pure ⟨_, rfl, wpAny_pure h⟩) htake))
end
section
variable {X : Cx} {T : List (Addr × Str)} {cm : Nat → Value} {E : XK} {A B C : XE} {L : XL} {a b c e tg iter : Expr} {pos p : Pos}
def tRevT (K : PySem.W.Frag) (te : TE) : TE := fun σ H Q => te σ H fun x H1 => ∃ a xs, x = .ref a ∧ SqT K H1 a xs ∧ ∀ p, H1 p = none → Q (.ref p) (upd H1 p (.tup xs.reverse))
theorem pe_revT {te : TE} {k : Nat} {p1 p2 p3 : Pos} (he : PE X e te) : PE X (.Subscript e (.Slice none none (some (.UnaryOp .USub (.Constant (.int 1) k p1) p2)) p3) pos) (tRevT X.K te) := by
  refine ⟨fun pins s σ H Q I h => ?_⟩
  refine Subscript_ (thn (he.run pins s σ H _ I h) fun v s1 ⟨x, H1, I1, r1, q1⟩ => ?_)
  obtain ⟨a, xs, ex, hx, q⟩ := q1
  subst ex
  cases r1
  have hst : PO X (some (.UnaryOp .USub (.Constant (.int 1) k p1) p2)) (tPart (tUn (rU fun i => .int (-i)) (tC (.int 1)))) := po_some (pe_un un_neg pe_int)
  refine wpAny_Slice (thn (po_none.run pins s1 σ H1 (fun o H2 => o = none ∧ H2 = H1) I1 ⟨rfl, rfl⟩) fun vl s2 ⟨l, H2, I2, pl, el, e2⟩ => ?_)
  subst el e2
  refine thn (po_none.run pins s2 σ H2 (fun o H3 => o = none ∧ H3 = H2) I2 ⟨rfl, rfl⟩) fun vu s3 ⟨u, H3, I3, pu, eu, e3⟩ => ?_
  subst eu e3
  refine thn (hst.run pins s3 σ H3 (fun o H4 => o = some (-1) ∧ H4 = H3) I3 ⟨1, rfl, -1, rfl, rfl, rfl⟩) fun vs s4 ⟨o, H4, I4, ps, eo, e4⟩ => ?_
  subst eo e4
  cases pl
  cases pu
  have I5 : Inv X pins σ H4 { s4 with heap := s4.heap.push { cls := .type "slice", data := .fields #[.none, .none, vs] } } := I4.kept (t' := s4.toks) fun b ob q => Heap.get?_push_of_some _ q
  obtain ⟨its, r, ht, hz⟩ := I5.tuple hx
  have hlen := r.length
  show wpAny (model X.prog X.w) X.A (subscriptTail e (.Slice none none (some (.UnaryOp .USub (.Constant (.int 1) k p1) p2)) p3) (.ref a) (.ref s4.heap.objs.size)) (EP X pins σ Q) X.xe { s4 with heap := s4.heap.push { cls := .type "slice", data := .fields #[.none, .none, vs] } }
  refine tail_any (ops := [.ref a, .ref s4.heap.objs.size]) ht.typeIs (PyProof.Rows.slot_tuple_getitem.lookup) ?_ (by with_unfolding_all rfl)
  refine rt_get ht (Heap.IsSliceOf.new _ .none .none vs) ps ?_ (by rw [List.size_toArray]; omega)
  refine ⟨.ref _, _, I5.laid (t' := s4.toks) (o := .tup xs.reverse) (fun b ob q => Heap.get?_push_of_some _ q) (Nat.le_refl _) ?_, rfl, q _ (I5.hok.fresh (Nat.le_refl _))⟩
  exact ⟨by rw [List.length_reverse]; exact hz, _, r.reverse, IsTup.new _ _⟩
/-- e[::-1], a tuple -/
theorem de_revT {k : Nat} {p1 p2 p3 : Pos} (he : PE X e (tD X.K T cm E A)) : PE X (.Subscript e (.Slice none none (some (.UnaryOp .USub (.Constant (.int 1) k p1) p2)) p3) pos) (tD X.K T cm E (x1 revT A)) :=
  PEimp (pe_revT he) fun σ H Q h => one_imp (r := fun x H1 Q => ∃ a xs, x = .ref a ∧ SqT X.K H1 a xs ∧ ∀ p, H1 p = none → Q (.ref p) (upd H1 p (.tup xs.reverse))) (fun x H Q z => by
    obtain ⟨M, dx, ds, m, hx, e, q⟩ := z
    cases hx with
    | @tup a xs es ha hes =>
      cases e
      exact ⟨a, xs, rfl, st_un ha, fun p hp => q _ _ (Ext.fresh _ hp) (dv_newT m hp (dpAll_revR hes))⟩
    | _ => cases e) h
end
end DL
set_option Elab.async false
set_option linter.all false
set_option maxRecDepth 100000
set_option maxHeartbeats 4000000
set_option autoImplicit false
/-! sorted(set(t)), t a tuple of ints -/
namespace DL
open PySem PySem.Spec PyProof.Rows L2
open LamX (ExtN Tabs TabS CodeO)
theorem insS_mem (x y : Int) : ∀ ys : List Int, y ∈ insS x ys ↔ y = x ∨ y ∈ ys
  | [] => by simp [insS]
  | z :: ys => by
    unfold insS
    split
    · simp
    · split
      · rename_i h; subst h; simp
      · simp only [List.mem_cons, insS_mem x y ys]
        constructor
        · rintro (h | h | h)
          · exact .inr (.inl h)
          · exact .inl h
          · exact .inr (.inr h)
        · rintro (h | h | h)
          · exact .inr (.inl h)
          · exact .inl h
          · exact .inr (.inr h)
theorem insS_sorted (x : Int) : ∀ ys : List Int, ys.Pairwise (· < ·) → (insS x ys).Pairwise (· < ·)
  | [], _ => by simp [insS]
  | z :: ys, h => by
    obtain ⟨h1, h2⟩ := List.pairwise_cons.mp h
    unfold insS
    split
    · refine List.pairwise_cons.mpr ⟨fun y hy => ?_, h⟩
      rcases List.mem_cons.mp hy with rfl | hy
      · assumption
      · have := h1 y hy; omega
    · split
      · exact h
      · refine List.pairwise_cons.mpr ⟨fun y hy => ?_, insS_sorted x ys h2⟩
        rcases (insS_mem x y ys).mp hy with rfl | hy
        · omega
        · exact h1 y hy
theorem sset_mem (y : Int) : ∀ ns : List Int, y ∈ sset ns ↔ y ∈ ns
  | [] => by simp [sset]
  | x :: ns => by
    show y ∈ insS x (sset ns) ↔ _
    rw [insS_mem, sset_mem y ns]; simp
theorem sset_sorted : ∀ ns : List Int, (sset ns).Pairwise (· < ·)
  | [] => .nil
  | x :: ns => insS_sorted x _ (sset_sorted ns)
theorem int_sorted_ext : ∀ {a b : List Int}, a.Pairwise (· < ·) → b.Pairwise (· < ·) → (∀ x, x ∈ a ↔ x ∈ b) → a = b
  | [], [], _, _, _ => rfl
  | [], y :: b, _, _, h => by have := (h y).mpr (by simp); cases this
  | x :: a, [], _, _, h => by have := (h x).mp (by simp); cases this
  | x :: a, y :: b, ha, hb, h => by
    obtain ⟨a1, a2⟩ := List.pairwise_cons.mp ha
    obtain ⟨b1, b2⟩ := List.pairwise_cons.mp hb
    have e : x = y := by
      rcases List.mem_cons.mp ((h x).mp (by simp)) with e | e
      · exact e
      · rcases List.mem_cons.mp ((h y).mpr (by simp)) with e' | e'
        · exact e'.symm
        · have := b1 x e; have := a1 y e'; omega
    subst e
    congr 1
    refine int_sorted_ext a2 b2 fun z => ?_
    constructor
    · intro hz
      rcases List.mem_cons.mp ((h z).mp (by simp [hz])) with e | e
      · have := a1 z hz; omega
      · exact e
    · intro hz
      rcases List.mem_cons.mp ((h z).mpr (by simp [hz])) with e | e
      · have := b1 z hz; omega
      · exact e
theorem ints_all {K : PySem.W.Frag} {G : Hp} : ∀ ns : List Int, DvAll K G (ns.map V.int) (ns.map PyData.int)
  | [] => .nil
  | i :: ns => .cons (.int i) (ints_all ns)
section
variable {X : Cx} {T : List (Addr × Str)} {cm : Nat → Value} {E : XK} {A B C : XE} {L : XL} {a b c e tg iter : Expr} {pos p p2 q : Pos}
def tSSetT (K : PySem.W.Frag) (ta : TE) : TE := fun σ H Q => ta σ H fun x H1 => ∃ (l : Addr) (ns : List Int), x = V.ref l ∧ SqT K H1 l (ns.map V.int) ∧ ns.length < 64 ∧ ∀ p, H1 p = none → Q (.ref p) (upd H1 p (.lst ((sset ns).map V.int)))
theorem pe_ssetT {ta : TE} (hc : X.calm = true) (hg : Gl X "sorted") (hm : X.mg "sorted" = none) (hg2 : Gl X "set") (hm2 : X.mg "set" = none) (ha : PE X a ta)
    (na : starEach [a] X.env = (false, eval a X.env) :: starEach [] X.env := by rfl) : PE X (.Call (.Name "sorted" p) [.Call (.Name "set" p2) [a] [] q] [] pos) (tSSetT X.K ta) := by
  refine ⟨fun pins s σ H Q I h => ?_⟩
  refine Call_ (ld_blt I hg hm PyProof.Rows.boot_sorted ?_)
  refine PyProof.Rows.callWith_builtin1 (PyProof.Rows.args_cons ?_ rfl) rfl rfl
  refine Call_ (ld_blt I hg2 hm2 PyProof.Rows.boot_set ?_)
  refine PyProof.Rows.callWith_type1 (PyProof.Rows.args_cons (thn (ha.run pins s σ H _ I h) fun v s1 ⟨x, H1, I1, r1, q1⟩ => PyProof.Rows.args_nil ?_) na) na rfl
  obtain ⟨l, ns, rfl, hq, h1, q1⟩ := q1
  cases r1
  obtain ⟨its, rv, pt, hz⟩ := I1.tuple hq
  have hi : IntsAre its.toArray.toList ns := ints_of_vals rv
  refine call_set_tupI ns (I1.ok.hd hc) (show s1.heap.IsTuple l its.toArray from pt) hi (by unfold scanBound; omega) fun h' tk c R1 hcn k => ?_
  refine PyProof.Rows.args_nil ?_
  have I2 : Inv X pins σ H1 { s1 with heap := h', toks := tk } := I1.kept k
  have R2 : SetR X.w ({ s1 with heap := h', toks := tk } : Shared).heap s1.heap.objs.size (fun j => decide (j ∈ ns)) c := R1
  generalize hs2 : ({ s1 with heap := h', toks := tk } : Shared) = s2 at I2 R2 ⊢
  refine sorted_set R2 (I1.ok.hd hc) (by omega) fun s' p out c2 ns' k2 g o hp hg hi hs hm hl => ?_
  have hlen : (ns'.map V.int).length ≤ sizeLine := by rw [List.length_map, hl, sizeLine_eq]; omega
  have hn : H1 p = none := I2.hok.fresh hp
  have J : Inv X pins σ (upd H1 p (.lst (ns'.map V.int))) { s2 with heap := s'.heap, gens := s'.gens, drawn := s'.drawn, toks := s'.toks } :=
    I2.call (ch := []) (Un.laid k2 hp hn) (I2.hok.laid k2 hp ⟨hlen, out.toList, c2, vals_of_ints hi, hg⟩) (by rw [g]; exact I2.bare) (fun _ z => nomatch z)
  have e : s' = { s2 with heap := s'.heap, gens := s'.gens, drawn := s'.drawn, toks := s'.toks } := by
    cases s'
    cases s2
    cases o
    rfl
  have en : ns' = sset ns := int_sorted_ext hs (sset_sorted ns) fun z => by rw [hm, sset_mem]; simp
  rw [e]
  subst en
  exact ⟨.ref p, _, J, rfl, q1 p hn⟩
theorem df_ssetT (hc : X.calm = true) (hg : Gl X "sorted") (hm : X.mg "sorted" = none) (hg2 : Gl X "set") (hm2 : X.mg "set" = none) (ha : PE X a (tD X.K T cm E A))
    (na : starEach [a] X.env = (false, eval a X.env) :: starEach [] X.env := by rfl) : PE X (.Call (.Name "sorted" p) [.Call (.Name "set" p2) [a] [] q] [] pos) (tF X.K T cm E (xF1 ssetT A)) :=
  PEimp (pe_ssetT hc hg hm hg2 hm2 ha na) fun σ H Q h => fr1_imp (r := fun x H1 Q => ∃ (l : Addr) (ns : List Int), x = V.ref l ∧ SqT X.K H1 l (ns.map V.int) ∧ ns.length < 64 ∧ ∀ p, H1 p = none → Q (.ref p) (upd H1 p (.lst ((sset ns).map V.int)))) (fun x H Q z => by
    obtain ⟨M, dx, ds, m, hx, e, q⟩ := z
    cases hx with
    | @tup a xs es ha hes =>
      have e : ((intsOf es).bind fun ns => if ns.length < 64 then some ((sset ns).map PyData.int) else none) = some ds := e
      cases q1 : intsOf es with
      | none => rw [q1] at e; cases e
      | some ns =>
        rw [q1] at e
        have e : (if ns.length < 64 then some ((sset ns).map PyData.int) else none) = some ds := e
        split at e
        · cases e
          have e1 := ints_dv hes q1
          subst e1
          refine ⟨a, ns, rfl, st_un ha, by assumption, fun p hp => q p _ _ (Ext.fresh _ hp) (.of hp) upd_same ?_⟩
          exact ints_all _
        · cases e
    | _ => cases e) h
theorem op_powD : OpR X (binaryOp .Pow) (rD2 X.K T powD) := by
  intro pins s σ H x y v u Q I rx ry h
  obtain ⟨M, dx, dy, d, m, hx, hy, e, q⟩ := h
  cases hx with
  | int i =>
    cases hy with
    | int j =>
      have e : (if 0 ≤ j ∧ j ≤ 1000000 ∧ i.natAbs < 2 ^ 64 then some (PyData.int (i ^ j.toNat)) else none) = some d := e
      by_cases hz : 0 ≤ j ∧ j ≤ 1000000 ∧ i.natAbs < 2 ^ 64
      · rw [if_pos hz] at e
        cases e
        exact op_pow pins s σ H _ _ v u Q I rx ry ⟨i, j, rfl, rfl, hz, q _ H (Ext.refl T H) (.int _)⟩
      · rw [if_neg hz] at e; cases e
    | _ => cases e
  | _ => cases e
end
end DL
set_option Elab.async false
set_option linter.all false
set_option maxRecDepth 100000
set_option maxHeartbeats 4000000
set_option autoImplicit false
/-! dicts with ints or texts as keys: own ones that are filled, and such as are data -/
namespace DL
open PySem L2
open LamX (ExtN Tabs TabS CodeO)
abbrev KvR (K : PySem.W.Frag) (G : Hp) : List (Key × V) → List (Key × D) → Prop := Paired fun p q => p.1 = q.1 ∧ Dv K G p.2 q.2
theorem kvr_len {K : PySem.W.Frag} {G : Hp} {vs : List (Key × V)} {ds : List (Key × D)} (r : KvR K G vs ds) : vs.length = ds.length := Paired.length r
theorem kvr_any {K : PySem.W.Frag} {G : Hp} (k : Key) : ∀ {vs : List (Key × V)} {ds : List (Key × D)}, KvR K G vs ds → (vs.any fun kv => decide (kv.1 = k)) = ds.any fun kv => decide (kv.1 = k)
  | _, _, .nil => rfl
  | _, _, .cons ⟨e, _⟩ r => by rw [List.any_cons, List.any_cons, e, kvr_any k r]
theorem kvr_map {K : PySem.W.Frag} {G : Hp} (k : Key) {v : V} {d : D} (h : Dv K G v d) : ∀ {vs : List (Key × V)} {ds : List (Key × D)}, KvR K G vs ds → KvR K G (vs.map fun kv => if kv.1 = k then (kv.1, v) else kv) (ds.map fun kv => if kv.1 = k then (kv.1, d) else kv)
  | _, _, .nil => .nil
  | (a, x) :: _, (b, y) :: _, .cons ⟨e, q⟩ r => by
    have e : a = b := e
    subst e
    rw [List.map_cons, List.map_cons]
    refine .cons ?_ (kvr_map k h r)
    by_cases z : a = k
    · rw [if_pos z, if_pos z]; exact ⟨rfl, h⟩
    · rw [if_neg z, if_neg z]; exact ⟨rfl, q⟩
theorem kvr_snoc {K : PySem.W.Frag} {G : Hp} (k : Key) {v : V} {d : D} (h : Dv K G v d) : ∀ {vs : List (Key × V)} {ds : List (Key × D)}, KvR K G vs ds → KvR K G (vs ++ [(k, v)]) (ds ++ [(k, d)])
  | _, _, .nil => .cons ⟨rfl, h⟩ .nil
  | _, _, .cons q r => .cons q (kvr_snoc k h r)
theorem kvr_put {K : PySem.W.Frag} {G : Hp} (k : Key) {v : V} {d : D} (h : Dv K G v d) {vs : List (Key × V)} {ds : List (Key × D)} (r : KvR K G vs ds) : KvR K G (putK vs k v) (putD ds k d) := by
  unfold putK putD
  rw [kvr_any k r]
  split
  · exact kvr_map k h r
  · exact kvr_snoc k h r
theorem kvr_ext {K : PySem.W.Frag} {G G' : Hp} (x : ExtN G G') {vs : List (Key × V)} {ds : List (Key × D)} (r : KvR K G vs ds) : KvR K G' vs ds := Paired.mapP r fun p q z => ⟨z.1, dp_ext x z.2⟩
theorem keyOf_D (k : Key) : keyOf (keyD k) = some k := by cases k <;> rfl
theorem keyOf_dv {K : PySem.W.Frag} {G : Hp} {v : V} {d : D} {k : Key} (h : Dv K G v d) (e : keyOf d = some k) : v = kV k := by
  cases h with
  | int i => cases e; rfl
  | str x => cases e; rfl
  | _ => cases e
theorem kv_get {K : PySem.W.Frag} {G : Hp} (k : Key) {d : D} : ∀ {vs : List (Key × V)} {ds : List (D × D)}, DvKV K G vs ds → kvGet ds k = some d → ∃ v, valV vs k = some v ∧ Dv K G v d
  | _, _, .nil, e => by cases e
  | _, _, .cons (k := k0) (v := v0) (d := d0) (ds := ds0) q r, e => by
    unfold kvGet at e
    rw [List.find?_cons] at e
    by_cases z : k0 = k
    · subst z
      rw [show decide (keyOf (keyD k0, d0).1 = some k0) = true from decide_eq_true (keyOf_D k0)] at e
      cases e
      exact ⟨v0, valV_pos rfl, q⟩
    · rw [show decide (keyOf (keyD k0, d0).1 = some k) = false from decide_eq_false (fun w => z (by rw [keyOf_D] at w; exact Option.some.inj w))] at e
      obtain ⟨v, h1, h2⟩ := kv_get k r e
      exact ⟨v, by rw [valV_neg z]; exact h1, h2⟩
theorem hu1 {k : Nat} {A : Around} (hr : Room k A) : A.units + 1 < cLine := by have := hr.un; omega
section
variable {X : Cx} {T : List (Addr × Str)} {cm : Nat → Value} {E : XK} {A B C : XE} {L : XL} {a b c e tg iter : Expr} {pos p : Pos} {σ : St} {H : Hp}
theorem own_dct {K : PySem.W.Frag} {M : Addr → Prop} {H0 : Hp} {δ : DE} {i : Nat} {ds : List (DKey × D)} (R : Rp K T M H0 σ H δ) (q : δ[i]? = some (.own (.dct ds))) : ∃ a vs, σ[i]? = some (some (.ref a)) ∧ H a = some (.dK vs) ∧ KvR K (mask H (MM M σ δ)) vs ds := by
  obtain ⟨a, o, h1, h2, _, h4⟩ := R.own i _ q
  cases h4 with
  | dct h => exact ⟨a, _, h1, h2, h⟩
theorem ds_newD (i : Nat) {x : Str} {pos' dp : Pos} (hN : X.N.Nodup) (hi : X.N[i]? = some x := by rfl) (hx : Loc X.env.scope x := by first | exact Or.inl rfl | exact Or.inr rfl) (hs : swapsWith (.Dict [] [] dp) (some (.Name x pos')) pos.line X.env = pure false := by rfl) (hf : X.fn x = true ∨ X.env.scope.names.lookup x = some .local := by first | exact .inl rfl | exact .inr rfl | assumption) :
    PS X (.Assign [.Name x pos'] (.Dict [] [] dp) pos) (tSt X.K T cm E (sNewD i)) := PSimp (ps_set hN hi hx pe_dnewK hs hf) fun En σ H h => by
  obtain ⟨M, H0, δ, o, R, e, k⟩ := h.old
  unfold sNewD at e
  split at e
  · rename_i hl
    cases e
    intro p hp
    exact k _ _ (R.newOwn hl (Ext.fresh _ hp) (.of hp) upd_same (.dct .nil))
  · cases e
theorem ds_putD (i : Nat) {x : Str} {px tpos : Pos} (hu : X.A.units + 1 < cLine) (he : PE X e (tD X.K T cm E A)) (hb : PE X b (tD X.K T cm E B)) (hN : X.N[i]? = some x := by rfl) (hv : Vis X.env.scope x := by first | exact Or.inl rfl | exact Or.inr (Or.inl rfl)) (hd : (x == ("__debug__" : Str)) = false := by decide) (hcd : (x == ("__classdict__" : Str)) = false := by decide)
    (hs : swapsWith e (some (.Subscript (.Name x px) b tpos)) pos.line X.env = pure false := by rfl) :
    PS X (.Assign [.Subscript (.Name x px) b tpos] e pos) (tSt X.K T cm E (sPutD i B A)) := PSimp (ps_dput hu (pe_var hN hv hd hcd) hb he hs) fun En σ H h => by
  obtain ⟨M, H0, δ, o, R, e, k⟩ := h.old
  unfold sPutD at e
  split at e
  · rename_i ds q
    obtain ⟨l, vs, h1, h2, h3⟩ := own_dct R q
    rcases onE_of e with ⟨y, ey, e⟩ | ⟨c, ey, rfl⟩
    · refine ⟨M, H0, δ, .ok y, R, ey, fun H1 x1 v hv => ⟨.ref l, h1, ?_⟩⟩
      rcases onE_of e with ⟨z, ez, e⟩ | ⟨c, ez, rfl⟩
      · refine ⟨M, H0, δ, .ok z, R.grow x1, ez, fun H2 x2 u hu => ?_⟩
        have e : (match keyOf z with | some k => if ds.length < sz then some (Out.nx (δ.set i (.own (.dct (putD ds k y))))) else none | none => none) = some o := e
        cases q2 : keyOf z with
        | none => rw [q2] at e; cases e
        | some kk =>
          rw [q2] at e
          have e : (if ds.length < sz then some (Out.nx (δ.set i (.own (.dct (putD ds kk y))))) else none) = some o := e
          split at e
          · rename_i hz
            cases e
            have ek := keyOf_dv hu q2
            subst ek
            have h22 : H2 l = some (.dK vs) := (x1.trans x2).keep l _ h2 (nt_dK _)
            have h33 := kvr_ext (mask_le (fun _ z => z) (x1.trans x2).keep) h3
            refine ⟨l, _, rfl, DPut.k h22 (by rw [← szLine, kvr_len h3]; exact hz), ?_⟩
            exact k σ _ (((R.grow x1).grow x2).write q h1 h22 (.dct (kvr_put kk (x2.dv hv) h33)))
          · cases e
      · exact ⟨M, H0, δ, .ex c, R.grow x1, ez, k.ex' (R.grow x1)⟩
    · exact ⟨M, H0, δ, .ex c, R, ey, k.ex' R⟩
  · cases e
theorem de_dget (hu : X.A.units + 1 < cLine) (ha : PE X a (tD X.K T cm E A)) (hb : PE X b (tD X.K T cm E B)) (hs : NoSl b) : PE X (.Subscript a b pos) (tD X.K T cm E (x2 dgX A B)) :=
  PEimp (pe_dget hu ha hb hs) fun σ H Q h => two_imp (r := fun x y H2 Q => ∃ a v, x = .ref a ∧ DGet H2 a y (some v) ∧ Q v H2) (fun x y H Q z => by
    obtain ⟨M, dx, dy, d, m, hx, hy, e, q⟩ := z
    cases hx with
    | @dct a ob kvs kds ha hk =>
      have e : ((keyOf dy).bind (kvGet kds)) = some d := e
      cases q2 : keyOf dy with
      | none => rw [q2] at e; cases e
      | some kk =>
        rw [q2] at e
        obtain ⟨v, e1, e2⟩ := kv_get kk hk e
        have ek := keyOf_dv hy q2
        subst ek
        exact ⟨a, v, rfl, .inl ⟨kvs, kk, .inr ⟨_, mask_sub H M _ _ ha (nt_frz _ _)⟩, rfl, e1.symm⟩, q v H (Ext.refl T H) e2⟩
    | _ => cases e) h
/-! ### an own dict becomes data: it is locked -/
theorem Rp.lock {K : PySem.W.Frag} {M : Addr → Prop} {H0 : Hp} {δ : DE} {i : Nat} {ds : List (DKey × D)} {a : Addr} {vs : List (Key × V)} (ob : Obj) (R : Rp K T M H0 σ H δ) (hd : δ[i]? = some (.own (.dct ds))) (ha : σ[i]? = some (some (.ref a))) (hv : H a = some (.dK vs)) (h : KvR K (mask H (MM M σ δ)) vs ds) :
    Rp K T M H0 σ (upd H a (.frz ob (.dK vs))) (δ.set i (.dat (.dict (ds.map fun p => (keyD p.1, p.2))))) := by
  have hi : i < δ.length := (List.getElem?_eq_some_iff.mp hd).1
  have key : ∀ (j : Nat) (es : OD), (δ.set i (.dat (.dict (ds.map fun p => (keyD p.1, p.2)))))[j]? = some (.own es) → j ≠ i ∧ δ[j]? = some (.own es) := fun j es e => by
    by_cases hj : j = i
    · subst hj; rw [List.getElem?_set_self hi] at e; cases e
    · rw [List.getElem?_set_ne (Ne.symm hj)] at e; exact ⟨hj, e⟩
  have le : ∀ b, MM M σ (δ.set i (.dat (.dict (ds.map fun p => (keyD p.1, p.2))))) b → MM M σ δ b := fun b z => by
    rcases z with z | ⟨j, es, e1, e2⟩
    · exact .inl z
    · obtain ⟨hj, e⟩ := key j es e1
      exact .inr ⟨j, es, e, e2⟩
  have am : MM M σ δ a := .inr ⟨i, _, hd, ha⟩
  have na : ¬ M a := R.disj i _ a hd ha
  obtain ⟨a', _, z1, z2, hf, z3⟩ := R.own i _ hd
  rw [ha] at z1
  cases z1
  rw [hv] at z2
  cases z2
  have nm : ¬ MM M σ (δ.set i (.dat (.dict (ds.map fun p => (keyD p.1, p.2))))) a := fun z => by
    rcases z with z | ⟨j, es, e1, e2⟩
    · exact na z
    · obtain ⟨hj, e⟩ := key j es e1
      exact hj (R.inj j i es _ a e hd e2 ha)
  have mx : ExtN (mask H (MM M σ δ)) (mask (upd H a (.frz ob (.dK vs))) (MM M σ (δ.set i (.dat (.dict (ds.map fun p => (keyD p.1, p.2))))))) := fun b o e n => by
    obtain ⟨nb, e'⟩ := of_mask e
    have hb : b ≠ a := fun z => nb (z ▸ am)
    rw [mask_out (fun z => nb (le b z)), upd_ne hb]
    exact e'
  refine ⟨⟨fun b o e n => ?_, fun t => tabs_write hv z3.nx (R.ext.tabs t)⟩, tabs_write hv z3.nx R.tab, fun b z => ?_, fun j e hj => ?_, fun j es hj => ?_, fun j l es fs b h1 h2 h3 h4 => R.inj j l es fs b (key j es h1).2 (key l fs h2).2 h3 h4, by simp [R.len], raw_set1 R.raw (fun _ z => nomatch z), fun j es b h1 h2 => R.disj j es b (key j es h1).2 h2, fun j dss hj => ?_, fun j l d1 d2 h1 h2 => R.one j l d1 d2 (key j _ h1).2 (key l _ h2).2⟩
  · have hb : b ≠ a := fun z => by subst z; exact hf o e n
    rw [upd_ne hb]
    exact R.ext.keep b o e n
  · have hb : b ≠ a := fun q => na (q ▸ z)
    rw [upd_ne hb]
    exact R.base b z
  · by_cases hji : j = i
    · subst hji
      rw [List.getElem?_set_self hi] at hj
      cases hj
      refine ⟨.ref a, ha, .dct (ob := ob) (kvs := vs) ?_ (dpKV_ext mx (kv_of h))⟩
      rw [mask_out nm]
      exact upd_same
    · rw [List.getElem?_set_ne (Ne.symm hji)] at hj
      obtain ⟨w, h1, h2⟩ := R.dat j e hj
      exact ⟨w, h1, dp_ext mx h2⟩
  · obtain ⟨hji, e⟩ := key j es hj
    obtain ⟨b, us, h1, h2, h3, h4⟩ := R.own j es e
    have hb : b ≠ a := fun z => hji (R.inj j i es _ a e hd (z ▸ h1) ha)
    exact ⟨b, us, h1, by rw [upd_ne hb]; exact h2, h3, own_ext mx h4⟩
  · obtain ⟨hji, e⟩ := key j _ hj
    obtain ⟨b, as, g1, g2, g3⟩ := R.rows j dss e
    refine ⟨b, as, g1, ?_, g3.ext (fun _ _ z => z) (fun _ _ z => z) (fun c hc us e2 => ?_) mx⟩
    · have hb : b ≠ a := fun z => hji (R.inj j i _ _ a e hd (z ▸ g1) ha)
      rw [upd_ne hb]; exact g2
    · have hb : c ≠ a := fun z => na (z ▸ (g3.new c hc).1)
      rw [upd_ne hb]; exact e2
variable {st : Stmt} {s : XS}
theorem ds_lck (i : Nat) (h : PS X st (tSt X.K T cm E s)) : PS X st (tSt X.K T cm E (sLck i s)) := ⟨fun pins sh σ H En I q => by
  obtain ⟨M0, M, H0, δ, o, S, R, e, k⟩ := q
  unfold sLck at e
  split at e
  · rename_i ds q
    obtain ⟨a, vs, h1, h2, h3⟩ := own_dct R q
    obtain ⟨ob, I2⟩ := I.lock h2 trivial
    exact h.run pins sh σ _ En I2 ⟨M0, M, H0, _, o, S, R.lock ob q h1 h2 h3, e, k⟩
  · exact h.run pins sh σ H En I ⟨M0, M, H0, δ, o, S, R, e, k⟩⟩
/-! ### for k in d -/
theorem it_keys {K : PySem.W.Frag} {M : Addr → Prop} {H0 : Hp} {d : Addr} {ob : Obj} {kvs : List (Key × V)} {kds : List (D × D)} (h : mask H0 M d = some (.frz ob (.dK kvs))) (hd : DvKV K (mask H0 M) kvs kds) : ItOk K T M H0 (Itk d ob kvs) (kds.map (·.1)) := fun i H2 M2 x m hm => by
  have z := seen (K := K) x hm
  have hq : H2 d = some (.frz ob (.dK kvs)) := mask_sub H2 M2 _ _ (z d _ h (nt_frz _ _)) (nt_frz _ _)
  have hl : ∀ {kvs : List (Key × V)} {kds : List (D × D)}, DvKV K (mask H0 M) kvs kds → kvs.length = kds.length ∧ kds.map (·.1) = kvs.map fun p => keyD p.1 := by
    intro kvs kds r
    induction kvs generalizing kds with
    | nil => cases r; exact ⟨rfl, rfl⟩
    | cons p kvs ih =>
      cases r with
      | cons h1 h2 =>
        obtain ⟨a, b⟩ := ih h2
        exact ⟨by simp [a], by simp [b]⟩
  obtain ⟨l1, l2⟩ := hl hd
  rw [l2]
  refine ⟨fun hi => ⟨⟨hq, by simpa using hi⟩, fun y H3 hy => ?_⟩, fun hi => ⟨hq, by rw [hi]; simp⟩⟩
  obtain ⟨rfl, k, v, e1, rfl⟩ := hy
  refine ⟨Ext.refl T _, keyD k, by rw [List.getElem?_map, e1]; rfl, ?_⟩
  cases k
  · exact .int _
  · exact .str _
theorem di_keys (hl : PE X iter (tD X.K T cm E A)) : PI X tg iter (tI X.K T cm E (xKeys A)) := by
  refine ⟨fun pins s σ H R I h => ?_⟩
  obtain ⟨M, H0, δ, r, Rr, e, a⟩ := h
  rcases bnd_of e with ⟨x, ex, e⟩ | ⟨c, ex, rfl⟩
  · cases x with
    | dict kds =>
      have e : (if kds.length ≤ sz then ret (kds.map (·.1)) else none) = some r := e
      split at e
      · rename_i hz
        cases e
        refine (pi_keys (tg := tg) hl).run pins s σ H R I ⟨M, H0, δ, .ok _, Rr, ex, fun H1 x1 v hv => ?_⟩
        cases hv with
        | @dct d ob kvs _ ha hk =>
          refine ⟨d, ob, rfl, .inl ⟨kvs, mask_sub _ _ _ _ ha (nt_frz _ _), a H1 x1 _ (by simpa using hz) (it_keys (mask2 d _ ha (nt_frz _ _)) (dpKV_ext mask2 hk))⟩⟩
      · cases e
    | _ => cases e
  · exact (pi_keys (tg := tg) hl).run pins s σ H R I ⟨M, H0, δ, .ex c, Rr, ex, a⟩
end
end DL
set_option Elab.async false
set_option linter.all false
set_option maxRecDepth 100000
set_option maxHeartbeats 4000000
set_option autoImplicit false
/-! sorted(set(xs)), xs a list of ints -/
namespace DL
open PySem PySem.Spec PyProof.Rows L2
open LamX (ExtN Tabs TabS CodeO)
/-- the empty set as it is made -/
abbrev ob0 (w : World) : Obj := { cls := .type "set", dict := none, data := .set #[] 0 (.fresh 0 0 (!w.params.followText "set-order")) }
section
variable {P : Program} {w : World} {A : Around} {E : Value → Shared → Prop} {s : Shared}
/-- what set.update's walk over the items leaves at S -/
def Loops (P : Program) (w : World) (xs : Array Value) (Φ : Heap → Addr → Prop) : Prop := ∀ (B : Around) (I : Addr) (fp wr : List Addr) (G : Array GenState → Array GenState → Prop) (St : Nat → Shared → Prop) (_ : WalksS P w B.in1 I fp wr G xs.size (fun i v => xs[i]? = some v) St) (S : Addr) (_ : S ∉ fp) (s0 : Shared) (R : Result → Shared → Prop),
  St 0 s0 → s0.heap.get? S = some (ob0 w) → (∀ s', Moved (S :: wr) G s0 s' → Φ s'.heap S → R (.ok (.ret .none)) s') → codeAny (model P w) B (.builtin "set.update.loop" ⟨[.ref S, .ref I], []⟩) R s0
/-- set(xs) -/
theorem set_lst {l : Addr} {xs : Array Value} {Φ : Heap → Addr → Prop} {Q : Value → Shared → Prop} (nh : A.handled = none) (hx : s.heap.IsList l xs) (lp : Loops P w xs Φ)
    (goal : ∀ (g : Heap) (tk : Nat), Φ g s.heap.objs.size → (∀ b o, s.heap.get? b = some o → g.get? b = some o) → Q (.ref s.heap.objs.size) { s with heap := g, toks := tk }) :
    wpAny (model P w) A (call (.type "set") [.ref l]) Q E s := by
  have cs := F.called_set
  obtain ⟨_, _, mro⟩ := cs.mro
  have a1 := cs.made; have a2 := cs.sub; have a3 := cs.notType; have a4 := cs.canCreate; have a5 := F.typeCall_set_1 (.ref l)
  refine wpAny_call (codeAny_of_tree ?_); show wpAny _ _ (callAny (.type "set") _) _ _ _
  refine wpAny_pure ⟨Code.quiet_builtin _ (by decide +kernel), codeAny_builtin F.entry_type_call ?_⟩; rw [Around.under_plain (weight_type_call_type "set" [.ref l] []) rfl]
  repeat (any_goals (first | assumption | wp_step))
  refine codeAny_mono (code_set_led1 (.ref l) (E := E) (Q₁ := fun v s1 => v = .ref s.heap.objs.size ∧ s1 = { s with heap := s.heap.push (ob0 w) }) ⟨rfl, rfl⟩) fun r1 s1 k1 => ?_
  cases r1 with
  | error e => exact k1
  | ok f1 =>
    cases f1 with
    | ret v =>
      obtain ⟨rfl, rfl⟩ := k1
      have at0 : (s.heap.push (ob0 w)).get? s.heap.objs.size = some (ob0 w) := Heap.get?_push_size _ rfl
      have ty0 : Shared.TypeIs { s with heap := s.heap.push (ob0 w) } (.ref s.heap.objs.size) "set" := ⟨_, at0, rfl⟩
      have b1 := cs.init.lookup; have b2 := cs.init.bind (.ref s.heap.objs.size)
      repeat (any_goals (first | assumption | wp_step))
      refine codeAny_mono (codeAny_call_builtin (R := wants (fun r s2 => r = .none ∧ ∃ g tk, s2 = { s with heap := g, toks := tk } ∧ Φ g s.heap.objs.size ∧ ∀ b o, s.heap.get? b = some o → g.get? b = some o) E) cs.init.plain F.entry_set_init (check_set_init_1 ty0 ?_)) fun r2 s2 k2 => ?_
      · obtain ⟨⟨ocl, odi, oda, osl⟩, lo, hcl, nl, hda⟩ := hx
        have hcl : ocl = .type "list" := hcl
        have hda : oda = .seq xs nl := hda
        subst hcl hda
        have lo2 : (s.heap.push (ob0 w)).get? l = some { cls := .type "list", dict := odi, data := .seq xs nl, slots := osl } := Heap.get?_push_of_some _ lo
        have x1 := F.sub_list_set; have x2 := F.sub_list_frozenset
        have x3 : (Value.type "list" == Value.type "dict") = false := by decide
        have isl : (s.heap.push (ob0 w)).IsList l xs := ⟨_, lo2, rfl, nl, rfl⟩
        unfold Builtin.«set.__init__» noKeywords Builtin.Frozenset.updateFrom; generalize qI : pyIter = PI; wp_walk; subst qI
        refine wpAny_pyIter_list isl (wpAny_bind (wpAny_runValue ?_))
        have llt : l < s.heap.objs.size := Heap.lt_size lo
        have zp : (s.heap.push (ob0 w)).objs.size = s.heap.objs.size + 1 := Heap.size_push ..
        have ne1 : l ≠ (s.heap.push (ob0 w)).objs.size := by rw [zp]; exact fun z => absurd (z ▸ llt) (Nat.not_lt_of_le (Nat.le_succ _))
        have nf : s.heap.objs.size ∉ [(s.heap.push (ob0 w)).objs.size, l] := by
          rw [zp]; intro z
          rcases List.mem_cons.mp z with z | z
          · exact Nat.lt_irrefl _ (Nat.lt_of_lt_of_le (Nat.lt_succ_self _) (Nat.le_of_eq z.symm))
          · exact Nat.lt_irrefl _ (Nat.lt_of_lt_of_le llt (Nat.le_of_eq (List.mem_singleton.mp z)))
        refine lp _ _ _ _ _ _ ((Walks.list (by simp [nh]) _ l ne1 xs).toS) s.heap.objs.size nf _ _ ⟨⟨_, Heap.get?_push_size _ rfl, rfl, rfl⟩, isl.push _⟩ (Heap.get?_push_of_some _ at0) ?_
        rintro ⟨g, gg, gd, gt, go⟩ mv hS
        obtain rfl : gg = s.gens := mv.gens
        obtain rfl : gd = s.drawn := mv.drawn
        obtain rfl : go = s.os := mv.os
        show wpAny _ _ _ _ _ _
        refine wpAny_pure ?_
        show wpAny _ _ (PySem.ret Value.none) _ _ _
        refine wpAny_pure ⟨rfl, g, gt, rfl, hS, fun b o e => mv.heap b o (fun z => ?_) (Heap.get?_push_of_some _ (Heap.get?_push_of_some _ e))⟩
        have bl : b < s.heap.objs.size := Heap.lt_size e
        rcases List.mem_cons.mp z with z | z
        · exact Nat.lt_irrefl _ (Nat.lt_of_lt_of_le bl (Nat.le_of_eq z.symm))
        · have z := List.mem_singleton.mp z
          rw [zp] at z
          exact Nat.lt_irrefl _ (Nat.lt_of_lt_of_le bl (Nat.le_trans (Nat.le_succ _) (Nat.le_of_eq z.symm)))
      · cases r2 with
        | error e => exact k2
        | ok f2 =>
          cases f2 with
          | ret r =>
            obtain ⟨rfl, g, tk, rfl, hS, kp⟩ := k2
            repeat (any_goals (first | assumption | wp_step))
            exact goal _ _ hS kp
          | _ => exact k2.elim
    | _ => exact k1.elim
theorem loops_ints {xs : Array Value} (ns : List Int) (hn : IntsAre xs.toList ns) (lim : ns.length + 1 < scanBound) : Loops P w xs (fun g S => ∃ c, SetR w g S (fun j => decide (j ∈ ns)) c ∧ c ≤ ns.length) := by
  have zs : xs.size = ns.length := by have q := hn.length; rwa [Array.length_toList] at q
  intro B I fp wr G St W S nf s0 R h0 hS hR
  have vals : ∀ (i : Nat) (v : Value), xs[i]? = some v → ∃ k t, ns[i]? = some k ∧ v = .int k t := fun i v hv => by
    have il : i < ns.length := by rw [← zs]; exact (Array.getElem?_eq_some_iff.mp hv).1
    obtain ⟨t, e⟩ := IntsAre.int_at hn i v (by rw [Array.getElem?_toList]; exact hv)
    exact ⟨ns[i], t, List.getElem?_eq_getElem il, by rw [e, List.getD_eq_getElem?_getD, List.getElem?_eq_getElem il]; rfl⟩
  exact set_update_ints W S nf ns zs lim vals (xs.size - 0) 0 s0 (by omega) (Nat.zero_le _) h0 ⟨0, Nat.le_refl 0, setR_new_at hS⟩ fun s' c mv hc hS' => hR s' mv ⟨c, hS', by omega⟩
theorem set_lstI {l : Addr} {xs : Array Value} (ns : List Int) {Q : Value → Shared → Prop} (nh : A.handled = none) (hx : s.heap.IsList l xs) (hn : IntsAre xs.toList ns) (lim : ns.length + 1 < scanBound)
    (goal : ∀ (g : Heap) (tk c : Nat), SetR w g s.heap.objs.size (fun j => decide (j ∈ ns)) c → c ≤ ns.length → (∀ b o, s.heap.get? b = some o → g.get? b = some o) → Q (.ref s.heap.objs.size) { s with heap := g, toks := tk }) :
    wpAny (model P w) A (call (.type "set") [.ref l]) Q E s := set_lst nh hx (loops_ints ns hn lim) fun g tk ⟨c, hS, hc⟩ kp => goal g tk c hS hc kp
/-! keys: ints or texts -/
def hasK (acc : List Key) (k : Key) : Bool := acc.any fun j => decide (j = k)
def ddS (acc : List Key) (k : Key) : List Key := if hasK acc k = true then acc else acc ++ [k]
def dd (ks : List Key) : List Key := ks.foldl ddS []
theorem dd_snoc (ks : List Key) (k : Key) : dd (ks ++ [k]) = ddS (dd ks) k := by simp [dd]
theorem dd_len : ∀ ks : List Key, (dd ks).length ≤ ks.length := by
  have key : ∀ (ks acc : List Key), (ks.foldl ddS acc).length ≤ acc.length + ks.length := by
    intro ks
    induction ks with
    | nil => intro acc; simp
    | cons k ks ih =>
      intro acc
      have := ih (ddS acc k)
      have h2 : (ddS acc k).length ≤ acc.length + 1 := by unfold ddS; split <;> simp
      simp only [List.foldl_cons, List.length_cons]; omega
  intro ks
  have := key ks []
  simpa [dd] using this
theorem loops_keys {xs : Array Value} (ks : List Key) (hv : ∀ (i : Nat) (v : Value), xs[i]? = some v → ∃ k, ks[i]? = some k ∧ RelV (kV k) v) (zs : xs.size = ks.length) (lim : ks.length + 1 < scanBound) : Loops P w xs (fun g S => g.SetOf (mixKind P w) S (hasK (dd ks)) (dd ks).length) := by
  intro B I fp wr G St W S nf s0 R h0 hS hR
  have nw : S ∉ wr := fun z => nf (W.sub _ z)
  have up : ∀ b ∈ wr, b ∈ S :: wr := fun b hb => List.mem_cons_of_mem _ hb
  have key : ∀ (n i : Nat) (s : Shared), xs.size - i = n → i ≤ xs.size → St i s → s.heap.SetOf (mixKind P w) S (hasK (dd (ks.take i))) (dd (ks.take i)).length →
      (∀ s', Moved (S :: wr) G s s' → s'.heap.SetOf (mixKind P w) S (hasK (dd ks)) (dd ks).length → R (.ok (.ret .none)) s') → codeAny (model P w) B (.builtin "set.update.loop" ⟨[.ref S, .ref I], []⟩) R s := by
    intro n
    induction n with
    | zero =>
      intro i s hn hi hst h1 h2
      obtain rfl : i = xs.size := by omega
      rw [zs, List.take_length] at h1
      refine codeAny_builtin PyProof.Rows.F.entry_set_update_loop ?_; rw [Around.under_plainId PyProof.Rows.F.plain_set_update_loop _]
      show wpAny _ B.in1 (pyNext (.ref I) >>= _) _ _ s
      refine wpAny_bind (W.done s _ _ hst fun s' mv => ?_)
      show wpAny _ B.in1 (PySem.ret Value.none) _ _ s'
      exact wpAny_pure (h2 s' (mv.mono up) (setOf_at h1 fun o e => mv.heap S o nw e))
    | succ n ih =>
      intro i s hn hi hst h1 h2
      have il : i < xs.size := by omega
      refine codeAny_builtin PyProof.Rows.F.entry_set_update_loop ?_; rw [Around.under_plainId PyProof.Rows.F.plain_set_update_loop _]
      show wpAny _ B.in1 (pyNext (.ref I) >>= _) _ _ s
      refine wpAny_bind (W.item i s _ _ il hst fun v s' hP hst' mv => ?_)
      obtain ⟨k, ek, rk⟩ := hv i v hP
      have h1' := setOf_at (h' := s'.heap) h1 fun o e => mv.heap S o nw e
      show wpAny _ B.in1 (holding [v] (setAdd S v) >>= _) _ _ s'
      refine wpAny_bind (wpAny_holding ?_); unfold setAdd
      refine wpAny_holding (wpAny_bind ((mixKind P w).pyHash (k := k) (kV_is rk) ?_))
      have lt1 : (dd (ks.take i)).length + 1 < scanBound := by have := dd_len (ks.take i); rw [List.length_take] at this; omega
      refine wpAny_setAddHashed_of (knd := mixKind P w) (s := { s' with toks := s'.toks + 1 }) (kV_is rk) (key_scan rk) h1' lt1 fun g sb hS2 => ?_
      have et : ks.take (i + 1) = ks.take i ++ [k] := by rw [List.take_add_one, ek]; rfl
      have h3 : g.SetOf (mixKind P w) S (hasK (dd (ks.take (i + 1)))) (dd (ks.take (i + 1))).length := by
        have e1 : (fun j => hasK (dd (ks.take i)) j || decide (j = k)) = hasK (dd (ks.take (i + 1))) := by
          funext j
          rw [et, dd_snoc]
          unfold ddS
          by_cases z : hasK (dd (ks.take i)) k = true
          · rw [if_pos z]
            by_cases q : j = k
            · subst q; rw [z]; rfl
            · rw [decide_eq_false q, Bool.or_false]
          · rw [if_neg z]
            unfold hasK
            rw [List.any_append]
            by_cases q : j = k
            · subst q; simp
            · have q2 : ¬ k = j := fun z => q z.symm
              simp [q, q2]
        have e2 : (if hasK (dd (ks.take i)) k = true then (dd (ks.take i)).length else (dd (ks.take i)).length + 1) = (dd (ks.take (i + 1))).length := by
          rw [et, dd_snoc]
          unfold ddS
          split <;> simp
        rw [← e1, ← e2]
        exact hS2
      refine wpAny_pure ⟨plainId_quiet PyProof.Rows.F.plain_set_update_loop _, ih (i + 1) _ (by omega) (by omega) (W.frame _ s' _ _ hst' (Nat.le_succ _) fun b hb o e => ?_) h3 fun s2 mv2 h4 => ?_⟩
      · rw [sb.2 b (fun z => nf (z ▸ hb))]; exact e
      · refine h2 s2 (Moved.trans W.gtrans ((mv.mono up).then_heap (Nat.le_succ _) fun b o hb e => ?_) mv2) h4
        rw [sb.2 b (fun z => hb (z ▸ List.mem_cons_self))]; exact e
  refine key (xs.size - 0) 0 s0 rfl (Nat.zero_le _) h0 ⟨_, #[], 0, _, hS, ⟨rfl, rfl, rfl⟩, rfl, (fun e he => by simp at he), (fun k => by simp [dd, hasK]), (by decide), (by rfl), rfl⟩ hR
end
section
variable {X : Cx} {T : List (Addr × Str)} {cm : Nat → Value} {E : XK} {A B C : XE} {L : XL} {a b c e tg iter : Expr} {pos p p2 q : Pos}
def rSSL (K : PySem.W.Frag) : V → Hp → VK → Prop := fun x H1 Q => ∃ (l : Addr) (ns : List Int), x = V.ref l ∧ SqL K H1 l (ns.map V.int) ∧ ns.length < 64 ∧ ∀ p, H1 p = none → Q (.ref p) (upd H1 p (.lst ((sset ns).map V.int)))
theorem pe_ssetL {ta : TE} (hc : X.calm = true) (hg : Gl X "sorted") (hm : X.mg "sorted" = none) (hg2 : Gl X "set") (hm2 : X.mg "set" = none) (ha : PE X a ta)
    (na : starEach [a] X.env = (false, eval a X.env) :: starEach [] X.env := by rfl) : PE X (.Call (.Name "sorted" p) [.Call (.Name "set" p2) [a] [] q] [] pos) (fun σ H Q => ta σ H fun x H1 => rSSL X.K x H1 Q) := by
  refine ⟨fun pins s σ H Q I h => ?_⟩
  refine Call_ (ld_blt I hg hm PyProof.Rows.boot_sorted ?_)
  refine PyProof.Rows.callWith_builtin1 (PyProof.Rows.args_cons ?_ rfl) rfl rfl
  refine Call_ (ld_blt I hg2 hm2 PyProof.Rows.boot_set ?_)
  refine PyProof.Rows.callWith_type1 (PyProof.Rows.args_cons (thn (ha.run pins s σ H _ I h) fun v s1 ⟨x, H1, I1, r1, q1⟩ => PyProof.Rows.args_nil ?_) na) na rfl
  obtain ⟨l, ns, rfl, hq, h1, q1⟩ := q1
  cases r1
  obtain ⟨its, rv, pt, hz⟩ := I1.list hq
  have hi : IntsAre its.toArray.toList ns := ints_of_vals rv
  have isl : s1.heap.IsList l its.toArray := by
    obtain ⟨o, n, e, hc1, hd1, ht1⟩ := pt
    exact ⟨o, e, hc1, n, ht1⟩
  refine set_lstI ns (I1.ok.hd hc) isl hi (by unfold scanBound; omega) fun h' tk c R1 hcn k => ?_
  refine PyProof.Rows.args_nil ?_
  have I2 : Inv X pins σ H1 { s1 with heap := h', toks := tk } := I1.kept k
  have R2 : SetR X.w ({ s1 with heap := h', toks := tk } : Shared).heap s1.heap.objs.size (fun j => decide (j ∈ ns)) c := R1
  generalize hs2 : ({ s1 with heap := h', toks := tk } : Shared) = s2 at I2 R2 ⊢
  refine sorted_set R2 (I1.ok.hd hc) (by omega) fun s' p out c2 ns' k2 g o hp hg hi hs hm hl => ?_
  have hlen : (ns'.map V.int).length ≤ sizeLine := by rw [List.length_map, hl, sizeLine_eq]; omega
  have hn : H1 p = none := I2.hok.fresh hp
  have J : Inv X pins σ (upd H1 p (.lst (ns'.map V.int))) { s2 with heap := s'.heap, gens := s'.gens, drawn := s'.drawn, toks := s'.toks } :=
    I2.call (ch := []) (Un.laid k2 hp hn) (I2.hok.laid k2 hp ⟨hlen, out.toList, c2, vals_of_ints hi, hg⟩) (by rw [g]; exact I2.bare) (fun _ z => nomatch z)
  have e : s' = { s2 with heap := s'.heap, gens := s'.gens, drawn := s'.drawn, toks := s'.toks } := by cases s'; cases s2; cases o; rfl
  have en : ns' = sset ns := int_sorted_ext hs (sset_sorted ns) fun z => by rw [hm, sset_mem]; simp
  rw [e]
  subst en
  exact ⟨.ref p, _, J, rfl, q1 p hn⟩
theorem df_ssetL (hc : X.calm = true) (hg : Gl X "sorted") (hm : X.mg "sorted" = none) (hg2 : Gl X "set") (hm2 : X.mg "set" = none) (ha : PE X a (tD X.K T cm E A))
    (na : starEach [a] X.env = (false, eval a X.env) :: starEach [] X.env := by rfl) : PE X (.Call (.Name "sorted" p) [.Call (.Name "set" p2) [a] [] q] [] pos) (tF X.K T cm E (xF1 ssetL A)) :=
  PEimp (pe_ssetL hc hg hm hg2 hm2 ha na) fun σ H Q h => fr1_imp (r := rSSL X.K) (fun x H Q z => by
    obtain ⟨M, dx, ds, m, hx, e, q⟩ := z
    cases hx with
    | @lst a xs es ha hes =>
      have e : ((intsOf es).bind fun ns => if ns.length < 64 then some ((sset ns).map PyData.int) else none) = some ds := e
      cases q1 : intsOf es with
      | none => rw [q1] at e; cases e
      | some ns =>
        rw [q1] at e
        have e : (if ns.length < 64 then some ((sset ns).map PyData.int) else none) = some ds := e
        split at e
        · cases e
          have e1 := ints_dv hes q1
          subst e1
          exact ⟨a, ns, rfl, sl_un ha, by assumption, fun p hp => q p _ _ (Ext.fresh _ hp) (.of hp) upd_same (ints_all _)⟩
        · cases e
    | _ => cases e) h
/-- len(set(xs)), xs a list of ints or texts -/
def rLenSet (K : PySem.W.Frag) : V → Hp → VK → Prop := fun x H1 Q => ∃ (l : Addr) (ks : List Key), x = V.ref l ∧ SqL K H1 l (ks.map kV) ∧ ks.length < 64 ∧ Q (.int (dd ks).length) H1
theorem pe_lenSetK {ta : TE} (hc : X.calm = true) (hg : Gl X "len") (hm : X.mg "len" = none) (hg2 : Gl X "set") (hm2 : X.mg "set" = none) (ha : PE X a ta)
    (na : starEach [a] X.env = (false, eval a X.env) :: starEach [] X.env := by rfl) : PE X (.Call (.Name "len" p) [.Call (.Name "set" p2) [a] [] q] [] pos) (fun σ H Q => ta σ H fun x H1 => rLenSet X.K x H1 Q) := by
  refine ⟨fun pins s σ H Q I h => Call_ (ld_blt I hg hm PySem.boot_len (PyProof.Rows.callWith_builtin1 (PyProof.Rows.args_cons (Call_ (ld_blt I hg2 hm2 PyProof.Rows.boot_set ?_)) rfl) rfl rfl))⟩
  refine PyProof.Rows.callWith_type1 (PyProof.Rows.args_cons (thn (ha.run pins s σ H _ I h) fun v s1 ⟨x, H1, I1, r1, q1⟩ => PyProof.Rows.args_nil ?_) na) na rfl
  obtain ⟨l, ks, rfl, hq, h1, q1⟩ := q1
  cases r1
  obtain ⟨its, rv, pt, hz⟩ := I1.list hq
  have zl : its.toArray.size = ks.length := by rw [List.size_toArray, ← rv.length, List.length_map]
  have hv : ∀ (i : Nat) (v : Value), its.toArray[i]? = some v → ∃ k, ks[i]? = some k ∧ RelV (kV k) v := fun i v e => by
    have il : i < ks.length := by rw [← zl]; exact (Array.getElem?_eq_some_iff.mp e).1
    obtain ⟨u, e1, e2⟩ := rv.get (i := i) (x := kV ks[i]) (by simp [il])
    have : u = v := by
      have e' : its[i]? = some v := by simpa using e
      rw [e1] at e'; exact Option.some.inj e'
    exact ⟨ks[i], List.getElem?_eq_getElem il, this ▸ e2⟩
  have isl : s1.heap.IsList l its.toArray := by
    obtain ⟨o, n, e, hc1, hd1, ht1⟩ := pt
    exact ⟨o, e, hc1, n, ht1⟩
  refine set_lst (I1.ok.hd hc) isl (loops_keys (P := X.prog) (w := X.w) ks hv zl (by unfold scanBound; omega)) fun g tk hS kp => PyProof.Rows.args_nil ?_
  obtain ⟨o, es, ep, t, ho, hex, hd, _, _, _, hf, hn⟩ := hS
  have I2 : Inv X pins σ H1 { s1 with heap := g, toks := tk } := I1.kept kp
  have := dd_len ks
  refine call_len_set ho hex hd hf (by rw [hn]; omega) ⟨.int (dd ks).length, H1, I2.tok _, ⟨_, by rw [hn]⟩, q1⟩
theorem keys_dv {K : PySem.W.Frag} {G : Hp} : ∀ {vs : List V} {ds : List D} {ks : List Key}, DvAll K G vs ds → keysOf ds = some ks → vs = ks.map kV
  | _, _, _, .nil, e => by cases e; rfl
  | _, _, _, .cons (d := d) (ds := ds) a b, e => by
    have e : ((keyOf d).bind fun k => (keysOf ds).map (k :: ·)) = some _ := e
    cases q1 : keyOf d with
    | none => rw [q1] at e; cases e
    | some k =>
      rw [q1] at e
      cases q2 : keysOf ds with
      | none => rw [q2] at e; cases e
      | some ks =>
        rw [q2] at e
        cases e
        rw [keyOf_dv a q1, keys_dv b q2]
        rfl
theorem de_lenSet (hc : X.calm = true) (hg : Gl X "len") (hm : X.mg "len" = none) (hg2 : Gl X "set") (hm2 : X.mg "set" = none) (ha : PE X a (tD X.K T cm E A))
    (na : starEach [a] X.env = (false, eval a X.env) :: starEach [] X.env := by rfl) : PE X (.Call (.Name "len" p) [.Call (.Name "set" p2) [a] [] q] [] pos) (tD X.K T cm E (x1 lenSetD A)) :=
  PEimp (pe_lenSetK hc hg hm hg2 hm2 ha na) fun σ H Q h => one_imp (r := rLenSet X.K) (fun x H Q z => by
    obtain ⟨M, dx, d, m, hx, e, q⟩ := z
    cases hx with
    | @lst a xs es ha hes =>
      have e : ((keysOf es).bind fun ks => if ks.length < 64 then some (PyData.int (dd2 ks).length) else none) = some d := e
      cases q1 : keysOf es with
      | none => rw [q1] at e; cases e
      | some ks =>
        rw [q1] at e
        have e : (if ks.length < 64 then some (PyData.int (dd2 ks).length) else none) = some d := e
        split at e
        · cases e
          have e1 := keys_dv hes q1
          subst e1
          exact ⟨a, ks, rfl, sl_un ha, by assumption, q _ H (Ext.refl T H) (.int _)⟩
        · cases e
    | _ => cases e) h
end
end DL
set_option Elab.async false
set_option linter.all false
set_option maxRecDepth 100000
set_option maxHeartbeats 4000000
set_option autoImplicit false
/-! rows: a list of lists that a def alone holds, written in place -/
namespace DL
open PySem L2
open LamX (ExtN Tabs TabS CodeO)
abbrev RowAt (K : PySem.W.Frag) (H G : Hp) : List Addr → List (List D) → Prop := Paired fun b ds => ∃ vs, H b = some (.lst vs) ∧ DvAll K G vs ds
theorem rowAt_len {K : PySem.W.Frag} {H G : Hp} {as : List Addr} {dss : List (List D)} (r : RowAt K H G as dss) : as.length = dss.length := Paired.length r
theorem rowAt_get {K : PySem.W.Frag} {H G : Hp} : ∀ {as : List Addr} {dss : List (List D)} {m : Nat} {ds : List D}, RowAt K H G as dss → dss[m]? = some ds → ∃ b vs, as[m]? = some b ∧ H b = some (.lst vs) ∧ DvAll K G vs ds
  | _, _, _, _, .nil, e => by simp at e
  | _, _, 0, _, .cons ⟨vs, h1, h2⟩ _, e => by simp at e; subst e; exact ⟨_, vs, rfl, h1, h2⟩
  | _, _, m + 1, _, .cons _ r, e => by
    obtain ⟨b, vs, h1, h2, h3⟩ := rowAt_get r (m := m) (by simpa using e)
    exact ⟨b, vs, by simpa using h1, h2, h3⟩
theorem rowAt_ext {K : PySem.W.Frag} {H H' G G' : Hp} (g : ExtN G G') : ∀ {as : List Addr} {dss : List (List D)}, RowAt K H G as dss → (∀ b ∈ as, ∀ vs, H b = some (.lst vs) → H' b = some (.lst vs)) → RowAt K H' G' as dss
  | _, _, .nil, _ => .nil
  | _, _, .cons ⟨vs, h1, h2⟩ r, x => .cons ⟨vs, x _ (by simp) vs h1, dpAll_ext g h2⟩ (rowAt_ext g r fun b hb => x b (by simp [hb]))
theorem rowAt_snoc {K : PySem.W.Frag} {H G : Hp} {b : Addr} {ds : List D} (h : ∃ vs, H b = some (.lst vs) ∧ DvAll K G vs ds) : ∀ {as : List Addr} {dss : List (List D)}, RowAt K H G as dss → RowAt K H G (as ++ [b]) (dss ++ [ds])
  | _, _, .nil => .cons h .nil
  | _, _, .cons q r => .cons q (rowAt_snoc h r)
/-- the row at place m written -/
theorem rowAt_set {K : PySem.W.Frag} {H G : Hp} {b : Addr} {vs' : List V} {ds' : List D} (h : DvAll K G vs' ds') : ∀ {as : List Addr} {dss : List (List D)} {m : Nat}, as.Nodup → as[m]? = some b → RowAt K H G as dss → RowAt K (upd H b (.lst vs')) G as (dss.set m ds')
  | _, _, _, _, e, .nil => by simp at e
  | a0 :: as0, _, 0, nd, e, .cons _ r => by
    simp at e
    subst e
    refine .cons ⟨vs', upd_same, h⟩ (rowAt_ext (ExtN.refl G) r fun c hc vs q => ?_)
    have hb : c ≠ a0 := fun z => (List.nodup_cons.mp nd).1 (z ▸ hc)
    rw [upd_ne hb]; exact q
  | a0 :: as0, _, m + 1, nd, e, .cons ⟨vs, h1, h2⟩ r => by
    have e' := (List.getElem?_cons_succ ..).symm.trans e
    refine .cons ⟨vs, ?_, h2⟩ (rowAt_set h (List.nodup_cons.mp nd).2 e' r)
    have hb : a0 ≠ b := fun z => (List.nodup_cons.mp nd).1 (z ▸ List.mem_of_getElem? e')
    rw [upd_ne hb]; exact h1
section
variable {X : Cx} {T : List (Addr × Str)} {cm : Nat → Value} {E : XK} {A B C : XE} {L : XL} {a b c e tg iter : Expr} {pos p : Pos} {σ : St} {H : Hp} {vs : List Nat} {st : Stmt} {s : XS} {En : Ends}
theorem noRows_of {δ : DE} (h : noRows δ = true) (i : Nat) (d : List (List D)) : δ[i]? ≠ some (.own (.rows d)) := fun e => by
  have := List.all_eq_true.mp h _ (List.mem_of_getElem? e)
  simp [isRows] at this
theorem Rp.newRows {K : PySem.W.Frag} {M : Addr → Prop} {H0 H' : Hp} {δ : DE} (R : Rp K T M H0 σ H δ) {i : Nat} {p : Addr} {as : List Addr} {dss : List (List D)} (hnr : noRows δ = true) (hi : i < δ.length) (x : Ext T H H') (hn : Fr H p) (hp : H' p = some (.lst (as.map V.ref))) (nd : as.Nodup) (pa : p ∉ as) (ha : ∀ b ∈ as, Fr H b)
    (h : RowAt K H' (mask H' (fun a => MM M σ δ a ∨ a = p ∨ a ∈ as)) as dss) : Rp K T (fun a => M a ∨ a ∈ as) H0 (σ.set i (some (.ref p))) H' (δ.set i (.own (.rows dss))) := by
  have hi' : i < σ.length := by rw [← R.len]; exact hi
  have nm : ¬ MM M σ δ p := R.fresh_mm hn
  have nma : ∀ b ∈ as, ¬ MM M σ δ b := fun b hb => R.fresh_mm (ha b hb)
  have le : ∀ a, MM (fun a => M a ∨ a ∈ as) (σ.set i (some (.ref p))) (δ.set i (.own (.rows dss))) a → MM M σ δ a ∨ a = p ∨ a ∈ as := fun a z => by
    rcases z with (z | z) | ⟨j, es, e1, e2⟩
    · exact .inl (.inl z)
    · exact .inr (.inr z)
    · by_cases hj : j = i
      · subst hj
        rw [List.getElem?_set_self hi'] at e2
        cases e2
        exact .inr (.inl rfl)
      · rw [List.getElem?_set_ne (Ne.symm hj)] at e1 e2
        exact .inl (.inr ⟨j, es, e1, e2⟩)
  have mx0 : ExtN (mask H' (fun a => MM M σ δ a ∨ a = p ∨ a ∈ as)) (mask H' (MM (fun a => M a ∨ a ∈ as) (σ.set i (some (.ref p))) (δ.set i (.own (.rows dss))))) := mask_le le (ExtN.refl H')
  have mx1 : ExtN (mask H (MM M σ δ)) (mask H' (fun a => MM M σ δ a ∨ a = p ∨ a ∈ as)) := mask_ext (fun a o e n na z => by
    rcases z with z | z | z
    · exact na z
    · subst z; exact hn o e n
    · exact ha a z o e n) x.keep
  have mx := mx1.trans mx0
  have old : ∀ (j : Nat) (es : OD), j ≠ i → (δ.set i (.own (.rows dss)))[j]? = some (.own es) → δ[j]? = some (.own es) := fun j es hj e => by
    rw [List.getElem?_set_ne (Ne.symm hj)] at e; exact e
  have mem_of : ∀ {as : List Addr} {dss : List (List D)}, RowAt K H' (mask H' (fun a => MM M σ δ a ∨ a = p ∨ a ∈ as)) as dss → ∀ b ∈ as, ∃ vs, H' b = some (.lst vs) := by
    intro as dss r
    generalize (mask H' (fun a => MM M σ δ a ∨ a = p ∨ a ∈ as)) = G at r
    induction r with
    | nil => intro b hb; cases hb
    | cons q _ ih =>
      intro b hb
      rcases List.mem_cons.mp hb with z | z
      · subst z; obtain ⟨vs, h1, _⟩ := q; exact ⟨vs, h1⟩
      · exact ih b z
  refine ⟨R.ext.trans x, x.tabs R.tab, fun a z => ?_, fun j d hj => ?_, fun j es hj => ?_, fun j l es fs a h1 h2 h3 h4 => ?_, by simp [R.len], raw_set R.raw (fun _ z => nomatch z), fun j es a h1 h2 => ?_, fun j d2 hj => ?_, fun j l d1 d2 h1 h2 => ?_⟩
  · rcases z with z | z
    · obtain ⟨o, e, n, w⟩ := R.base a z
      exact ⟨o, x.keep a o e n, n, w⟩
    · obtain ⟨us, e⟩ := mem_of h a z
      exact ⟨_, e, nt_lst _, .inr (nx_lst _)⟩
  · have hji : j ≠ i := fun z => by subst z; rw [List.getElem?_set_self hi] at hj; cases hj
    rw [List.getElem?_set_ne (Ne.symm hji)] at hj ⊢
    obtain ⟨w, h1, h2⟩ := R.dat j d hj
    exact ⟨w, h1, dp_ext mx h2⟩
  · by_cases hji : j = i
    · subst hji
      rw [List.getElem?_set_self hi] at hj
      cases hj
      exact ⟨p, _, List.getElem?_set_self hi', hp, R.fresh0 hn, .rows⟩
    · rw [List.getElem?_set_ne (Ne.symm hji)] at hj ⊢
      obtain ⟨a, us, h1, h2, h3, h4⟩ := R.own j es hj
      exact ⟨a, us, h1, x.keep a _ h2 h4.nt, h3, own_ext mx h4⟩
  · by_cases hj : j = i
    · subst hj
      by_cases hl : l = j
      · exact hl.symm
      · rw [List.getElem?_set_self hi'] at h3
        cases h3
        rw [List.getElem?_set_ne (Ne.symm hl)] at h2 h4
        exact absurd (.inr ⟨l, fs, h2, h4⟩) nm
    · by_cases hl : l = i
      · subst hl
        rw [List.getElem?_set_self hi'] at h4
        cases h4
        rw [List.getElem?_set_ne (Ne.symm hj)] at h1 h3
        exact absurd (.inr ⟨j, es, h1, h3⟩) nm
      · rw [List.getElem?_set_ne (Ne.symm hj)] at h1 h3
        rw [List.getElem?_set_ne (Ne.symm hl)] at h2 h4
        exact R.inj j l es fs a h1 h2 h3 h4
  · rintro (z | z)
    · by_cases hj : j = i
      · subst hj
        rw [List.getElem?_set_self hi'] at h2
        cases h2
        exact nm (.inl z)
      · rw [List.getElem?_set_ne (Ne.symm hj)] at h1 h2
        exact R.disj j es a h1 h2 z
    · by_cases hj : j = i
      · subst hj
        rw [List.getElem?_set_self hi'] at h2
        cases h2
        exact pa z
      · rw [List.getElem?_set_ne (Ne.symm hj)] at h1 h2
        exact nma a z (.inr ⟨j, es, h1, h2⟩)
  · by_cases hj2 : j = i
    · subst hj2
      rw [List.getElem?_set_self hi] at hj
      cases hj
      exact ⟨p, as, List.getElem?_set_self hi', hp, nd, fun b hb => ⟨.inr hb, R.fresh0 (ha b hb)⟩, rowAt_ext mx0 h fun _ _ _ z => z⟩
    · exact absurd (old j _ hj2 hj) (noRows_of hnr j d2)
  · by_cases hj : j = i
    · by_cases hl : l = i
      · rw [hj, hl]
      · exact absurd (old l _ hl h2) (noRows_of hnr l d2)
    · exact absurd (old j _ hj h1) (noRows_of hnr j d1)
theorem Rp.writeRow {K : PySem.W.Frag} {M : Addr → Prop} {H0 : Hp} {δ : DE} (R : Rp K T M H0 σ H δ) {i m : Nat} {dss : List (List D)} {a b : Addr} {as : List Addr} {vs' : List V} {ds' : List D} (hd : δ[i]? = some (.own (.rows dss))) (ha : σ[i]? = some (some (.ref a))) (hA : H a = some (.lst (as.map V.ref))) (r : RowsR K M H0 H (mask H (MM M σ δ)) as dss) (hb : as[m]? = some b)
    (h : DvAll K (mask H (MM M σ δ)) vs' ds') : Rp K T M H0 σ (upd H b (.lst vs')) (δ.set i (.own (.rows (dss.set m ds')))) := by
  have hi : i < δ.length := (List.getElem?_eq_some_iff.mp hd).1
  have mb : b ∈ as := List.mem_of_getElem? hb
  obtain ⟨Mb, fb⟩ := r.new b mb
  have key : ∀ (j : Nat) (es : OD), (δ.set i (.own (.rows (dss.set m ds'))))[j]? = some (.own es) → ∃ fs, δ[j]? = some (.own fs) ∧ (j ≠ i → fs = es) := fun j es e => by
    by_cases hj : j = i
    · subst hj; exact ⟨_, hd, fun z => absurd rfl z⟩
    · rw [List.getElem?_set_ne (Ne.symm hj)] at e; exact ⟨es, e, fun _ => rfl⟩
  have le : ∀ c, MM M σ (δ.set i (.own (.rows (dss.set m ds')))) c → MM M σ δ c := fun c z => by
    rcases z with z | ⟨j, es, e1, e2⟩
    · exact .inl z
    · obtain ⟨fs, e, _⟩ := key j es e1
      exact .inr ⟨j, fs, e, e2⟩
  have nr : ∀ (j : Nat) (es : OD) (c : Addr), δ[j]? = some (.own es) → σ[j]? = some (some (.ref c)) → c ≠ b := fun j es c h1 h2 z => R.disj j es c h1 h2 (z ▸ Mb)
  obtain ⟨vb, wb, w1, w2⟩ : ∃ o, H b = some o ∧ NX o ∧ True := by
    obtain ⟨o, e, n, w⟩ := R.base b Mb
    rcases w with ⟨o', e', n'⟩ | w
    · exact absurd n' (fb o' e')
    · exact ⟨o, e, w, trivial⟩
  have mx : ExtN (mask H (MM M σ δ)) (mask (upd H b (.lst vs')) (MM M σ (δ.set i (.own (.rows (dss.set m ds')))))) := fun c o e n => by
    obtain ⟨nc, e'⟩ := of_mask e
    have hc : c ≠ b := fun z => nc (.inl (z ▸ Mb))
    rw [mask_out (fun z => nc (le c z)), upd_ne hc]
    exact e'
  refine ⟨⟨fun c o e n => ?_, fun t => tabs_write wb w1 (R.ext.tabs t)⟩, tabs_write wb w1 R.tab, fun c z => ?_, fun j e hj => ?_, fun j es hj => ?_, fun j l es fs c h1 h2 h3 h4 => ?_, by simp [R.len], raw_set1 R.raw (fun _ z => nomatch z), fun j es c h1 h2 => ?_, fun j d2 hj => ?_, fun j l d1 d2 h1 h2 => ?_⟩
  · have hc : c ≠ b := fun z => by subst z; exact fb o e n
    rw [upd_ne hc]
    exact R.ext.keep c o e n
  · by_cases hc : c = b
    · subst hc; exact ⟨_, upd_same, nt_lst _, .inr (nx_lst _)⟩
    · rw [upd_ne hc]; exact R.base c z
  · have hji : j ≠ i := fun z => by subst z; rw [List.getElem?_set_self hi] at hj; cases hj
    rw [List.getElem?_set_ne (Ne.symm hji)] at hj
    obtain ⟨w, h1, h2⟩ := R.dat j e hj
    exact ⟨w, h1, dp_ext mx h2⟩
  · by_cases hji : j = i
    · subst hji
      rw [List.getElem?_set_self hi] at hj
      cases hj
      obtain ⟨c, us, h1, h2, h3, _⟩ := R.own j _ hd
      rw [ha] at h1
      cases h1
      exact ⟨a, _, ha, by rw [upd_ne (nr j _ a hd ha)]; exact hA, h3, .rows⟩
    · rw [List.getElem?_set_ne (Ne.symm hji)] at hj
      obtain ⟨c, us, h1, h2, h3, h4⟩ := R.own j es hj
      exact ⟨c, us, h1, by rw [upd_ne (nr j _ c hj h1)]; exact h2, h3, own_ext mx h4⟩
  · obtain ⟨f1, e1, _⟩ := key j es h1
    obtain ⟨f2, e2, _⟩ := key l fs h2
    exact R.inj j l f1 f2 c e1 e2 h3 h4
  · obtain ⟨f1, e1, _⟩ := key j es h1
    exact R.disj j f1 c e1 h2
  · by_cases hji : j = i
    · subst hji
      rw [List.getElem?_set_self hi] at hj
      cases hj
      exact ⟨a, as, ha, by rw [upd_ne (nr j _ a hd ha)]; exact hA, r.nd, r.new, rowAt_ext mx (rowAt_set h r.nd hb r.at') fun _ _ _ z => z⟩
    · rw [List.getElem?_set_ne (Ne.symm hji)] at hj
      exact absurd (R.one j i _ _ hj hd) hji
  · by_cases hj : j = i
    · by_cases hl : l = i
      · rw [hj, hl]
      · rw [List.getElem?_set_ne (Ne.symm hl)] at h2
        exact absurd (R.one l i _ _ h2 hd) hl
    · rw [List.getElem?_set_ne (Ne.symm hj)] at h1
      exact absurd (R.one j i _ _ h1 hd) hj
theorem rowAt_data {K : PySem.W.Frag} {H G G' : Hp} (g : ExtN G G') : ∀ {as : List Addr} {dss : List (List D)}, RowAt K H G as dss → (∀ b ∈ as, ∀ vs, H b = some (.lst vs) → G' b = some (.lst vs)) → DvAll K G' (as.map V.ref) (dss.map .list)
  | _, _, .nil, _ => .nil
  | _, _, .cons ⟨vs, h1, h2⟩ r, x => .cons (.lst (SqL.of (x _ (by simp) vs h1)) (dpAll_ext g h2)) (rowAt_data g r fun b hb => x b (by simp [hb]))
theorem Rp.freezeRows {K : PySem.W.Frag} {M0 M : Addr → Prop} {H0 : Hp} {δ : DE} (S : Sub M0 M H0) (R : Rp K T M H0 σ H δ) {i : Nat} {dss : List (List D)} (hd : δ[i]? = some (.own (.rows dss))) : ∃ M', Sub M0 M' H0 ∧ Rp K T M' H0 σ H (δ.set i (.dat (.list (dss.map .list)))) := by
  obtain ⟨a, as, ha, hA, r⟩ := R.rows i dss hd
  have hi : i < δ.length := (List.getElem?_eq_some_iff.mp hd).1
  have key : ∀ (j : Nat) (es : OD), (δ.set i (.dat (.list (dss.map .list))))[j]? = some (.own es) → j ≠ i ∧ δ[j]? = some (.own es) := fun j es e => by
    by_cases hj : j = i
    · subst hj; rw [List.getElem?_set_self hi] at e; cases e
    · rw [List.getElem?_set_ne (Ne.symm hj)] at e; exact ⟨hj, e⟩
  have le : ∀ c, MM (fun c => M c ∧ c ∉ as) σ (δ.set i (.dat (.list (dss.map .list)))) c → MM M σ δ c := fun c z => by
    rcases z with z | ⟨j, es, e1, e2⟩
    · exact .inl z.1
    · obtain ⟨hj, e⟩ := key j es e1
      exact .inr ⟨j, es, e, e2⟩
  have mx := mask_le (H := H) (H' := H) le (ExtN.refl H)
  have na : ¬ M a := R.disj i _ a hd ha
  have fa : ¬ MM (fun c => M c ∧ c ∉ as) σ (δ.set i (.dat (.list (dss.map .list)))) a := by
    rintro (z | ⟨j, es, e1, e2⟩)
    · exact na z.1
    · obtain ⟨hj, e⟩ := key j es e1
      exact hj (R.inj j i es _ a e hd e2 ha)
  have fb : ∀ b ∈ as, ¬ MM (fun c => M c ∧ c ∉ as) σ (δ.set i (.dat (.list (dss.map .list)))) b := by
    rintro b hb (z | ⟨j, es, e1, e2⟩)
    · exact z.2 hb
    · obtain ⟨hj, e⟩ := key j es e1
      exact R.disj j es b e e2 (r.new b hb).1
  refine ⟨fun c => M c ∧ c ∉ as, ⟨S.at0, fun c z => ⟨S.le c z, fun hc => ?_⟩, fun c z => S.new c z.1⟩, R.ext, R.tab, fun c z => R.base c z.1, fun j e hj => ?_, fun j es hj => ?_, fun j l es fs c h1 h2 h3 h4 => R.inj j l es fs c (key j es h1).2 (key l fs h2).2 h3 h4, by simp [R.len], raw_set1 R.raw (fun _ z => nomatch z), fun j es c h1 h2 z => R.disj j es c (key j es h1).2 h2 z.1, fun j d2 hj => ?_, fun j l d1 d2 h1 h2 => R.one j l d1 d2 (key j _ h1).2 (key l _ h2).2⟩
  · obtain ⟨o, e, n⟩ := S.at0 c z
    exact (r.new c hc).2 o e n
  · by_cases hji : j = i
    · subst hji
      rw [List.getElem?_set_self hi] at hj
      cases hj
      refine ⟨.ref a, ha, .lst (SqL.of (xs := as.map V.ref) ?_) (rowAt_data mx r.at' fun b hb us e => ?_)⟩
      · rw [mask_out fa]; exact hA
      · rw [mask_out (fb b hb)]; exact e
    · rw [List.getElem?_set_ne (Ne.symm hji)] at hj
      obtain ⟨w, h1, h2⟩ := R.dat j e hj
      exact ⟨w, h1, dp_ext mx h2⟩
  · obtain ⟨hji, e⟩ := key j es hj
    obtain ⟨c, us, h1, h2, h3, h4⟩ := R.own j es e
    exact ⟨c, us, h1, h2, h3, own_ext mx h4⟩
  · obtain ⟨hji, e⟩ := key j _ hj
    exact absurd (R.one j i _ _ e hd) hji
theorem ds_frzR (i : Nat) (h : PS X st (tSt X.K T cm E s)) : PS X st (tSt X.K T cm E (sFrzR i s)) := PSimp h fun En σ H h => by
  obtain ⟨M0, M, H0, δ, o, S, R, e, k⟩ := h
  unfold sFrzR at e
  split at e
  · rename_i dss q
    obtain ⟨M', S', R'⟩ := R.freezeRows S q
    exact ⟨M0, M', H0, _, o, S', R', e, k⟩
  · exact ⟨M0, M, H0, δ, o, S, R, e, k⟩
/-! ### a comprehension of new lists -/
def tR2 (K : PySem.W.Frag) (T : List (Addr × Str)) (cm : Nat → Value) (E : XK) (f : XR) : TE := fun σ H Q =>
  ∃ M H0 δ r, Rp K T M H0 σ H δ ∧ f δ = some r ∧ Ans T cm E H r fun dss H' => ∀ p as, Fr H p → H' p = some (.lst (as.map V.ref)) → as.Nodup → p ∉ as → (∀ b ∈ as, Fr H b) → RowAt K H' (mask H' (fun a => MM M σ δ a ∨ a = p ∨ a ∈ as)) as dss → Q (.ref p) H'
theorem lcGoF_cons {g : XG} {t : XT} {f : XL} {δ : DE} {x : D} {xs : List D} {ys : List (List D)} (h : lcGoF g t f δ (x :: xs) = some ys) : ∃ δ1, g x δ = some δ1 ∧
    ((t δ1 = some (.ok true) ∧ ∃ y zs, f δ1 = some (.ok y) ∧ lcGoF g t f δ xs = some zs ∧ ys = y :: zs) ∨ (t δ1 = some (.ok false) ∧ lcGoF g t f δ xs = some ys)) := by
  unfold lcGoF at h
  cases q : g x δ with
  | none => rw [q] at h; cases h
  | some δ1 =>
    rw [q] at h
    refine ⟨δ1, rfl, ?_⟩
    dsimp only [Option.bind_some] at h
    split at h
    · rename_i q1
      split at h
      · rename_i y q2
        cases q3 : lcGoF g t f δ xs with
        | none => rw [q3] at h; cases h
        | some zs =>
          rw [q3] at h
          cases h
          exact .inl ⟨q1, y, zs, q2, rfl, rfl⟩
      · cases h
    · rename_i q1
      exact .inr ⟨q1, h⟩
    · cases h
theorem lcF_imp {it : XL} {g : XG} {t : XT} {f : XL} {σ : St} {H : Hp} {Q : VK} (h : tR2 X.K T cm E (xLcF it g t f vs) σ H Q) : tLc (tI X.K T cm E it) (tG X.K T vs g) (tT X.K T cm E0 t) (tF X.K T cm E0 f) vs σ H Q := by
  obtain ⟨M, H0, δ, r, R, e, a⟩ := h
  rcases bnd_of e with ⟨xs, ex, e⟩ | ⟨c, ex, rfl⟩
  · cases q : lcGoF g t f (wipeD δ vs) xs with
    | none => rw [q] at e; cases e
    | some ys =>
      rw [q] at e
      cases e
      refine ⟨M, H0, δ, .ok xs, R, ex, fun H1 x1 J hlen hJ D hD => ?_⟩
      have R1 := R.grow x1
      have t1 := R1.tab
      refine ⟨fun i m H2 => m = xs.length - i ∧ i ≤ xs.length ∧ Ext T H1 H2 ∧ ∃ as ysi zs, H2 D = some (.lst (as.map V.ref)) ∧ as.Nodup ∧ D ∉ as ∧ (∀ b ∈ as, Fr H1 b) ∧ RowAt X.K H2 (mask H2 (fun b => MM M σ δ b ∨ b = D ∨ b ∈ as)) as ysi ∧ lcGoF g t f (wipeD δ vs) (xs.drop i) = some zs ∧ ys = ysi ++ zs ∧ as.length ≤ i,
        ⟨xs.length, by simp, Nat.zero_le _, Ext.fresh _ hD, [], [], ys, upd_same, .nil, by simp, by simp, .nil, q, rfl, Nat.le_refl _⟩, ?_⟩
      rintro i m H2 ⟨rfl, hi, x2, as, ysi, zs, hacc, hnd, hDa, hfr, hrow, hgo, hys, hal⟩
      have rmem : ∀ {as : List Addr} {ysi : List (List DL.D)} {G : Hp}, RowAt X.K H2 G as ysi → ∀ b ∈ as, ∃ vs, H2 b = some (.lst vs) := by
        intro as ysi G r
        induction r with
        | nil => intro b hb; cases hb
        | cons q _ ih =>
          intro b hb
          rcases List.mem_cons.mp hb with z | z
          · subst z; obtain ⟨us, h1, _⟩ := q; exact ⟨us, h1⟩
          · exact ih b z
      have frD : Fr H1 D := .of hD
      have frN : ∀ b, (b = D ∨ b ∈ as) → Fr H1 b := fun b z => z.elim (fun e => e ▸ frD) (hfr b)
      have atN : ∀ b, (b = D ∨ b ∈ as) → ∃ o, H2 b = some o ∧ NT o := fun b z => z.elim (fun e => ⟨_, e ▸ hacc, nt_lst _⟩) fun z => by
        obtain ⟨us, e⟩ := rmem hrow b z
        exact ⟨_, e, nt_lst _⟩
      have mM : Msk (fun b => MM M σ δ b ∨ b = D ∨ b ∈ as) H2 := fun b z => by
        rcases z with z | z
        · obtain ⟨o, e, n⟩ := R1.mm z
          exact ⟨o, x2.keep b o e n, n⟩
        · exact atN b z
      obtain ⟨j1, j2⟩ := hJ i H2 (fun b => MM M σ δ b ∨ b = D ∨ b ∈ as) ⟨(mask_sub H1 _).trans x2.keep, fun _ => x2.tabs t1⟩ mM (fun b z => by
        rcases z with z | z
        · exact .inr fun o e _ => by rw [mask_in z] at e; cases e
        · exact .inr fun o e n => frN b z o (of_mask e).2 n)
      by_cases hlt : i < xs.length
      · refine .inr ⟨(j1 hlt).1, fun H3 => ∃ m', m' < xs.length - i ∧ m' = xs.length - (i + 1) ∧ i + 1 ≤ xs.length ∧ Ext T H1 H3 ∧ ∃ as ysi zs, H3 D = some (.lst (as.map V.ref)) ∧ as.Nodup ∧ D ∉ as ∧ (∀ b ∈ as, Fr H1 b) ∧ RowAt X.K H3 (mask H3 (fun b => MM M σ δ b ∨ b = D ∨ b ∈ as)) as ysi ∧ lcGoF g t f (wipeD δ vs) (xs.drop (i + 1)) = some zs ∧ ys = ysi ++ zs ∧ as.length ≤ i + 1, fun H3 h => h, fun x H3 hy => ?_⟩
        obtain ⟨x3, d, ed, hd⟩ := (j1 hlt).2 x H3 hy
        have edrop : xs.drop i = d :: xs.drop (i + 1) := by
          rw [List.drop_eq_getElem_cons hlt]
          rw [List.getElem?_eq_getElem hlt] at ed
          cases ed
          rfl
        rw [edrop] at hgo
        obtain ⟨δ1, eg, hh⟩ := lcGoF_cons hgo
        have RB := R1.blockN (N := fun b => b = D ∨ b ∈ as) frN (x2.trans x3) (fun b z => by
          obtain ⟨o, e, n⟩ := atN b z
          exact ⟨o, x3.keep b o e n, n⟩) vs
        have mmB : ∀ b, MM (fun b => MM M σ δ b ∨ b = D ∨ b ∈ as) (wipe σ vs) (wipeD δ vs) b → MM M σ δ b ∨ b = D ∨ b ∈ as := fun b z => by
          rcases z with z | z
          · exact z
          · exact absurd z ows_wipe
        refine ⟨_, H3, wipeD δ vs, d, δ1, RB, dp_ext (mask_le mmB (ExtN.refl H3)) hd, eg, fun σ4 H4 R4 x4 w4 z4 => ⟨w4.trans (wipe_wipe σ vs), ?_⟩⟩
        rcases hh with ⟨et, y, zs', ef, hgo', rfl⟩ | ⟨et, hgo'⟩
        · refine ⟨_, H3, δ1, .ok true, R4, et, fun H5 x5 => ?_⟩
          refine (if_pos (c := true = true) rfl).mpr ?_
          refine ⟨_, H3, δ1, .ok y, R4.grow x5, ef, fun H6 x6 pr us hpr hpu hdv => ?_⟩
          have xx : Ext T H2 H6 := x3.trans (x4.trans (x5.trans x6))
          have x25 : Ext T H2 H5 := x3.trans (x4.trans x5)
          have hacc6 : H6 D = some (.lst (as.map V.ref)) := xx.keep D _ hacc (nt_lst _)
          have hprD : pr ≠ D := fun z => hpr _ (z ▸ x25.keep D _ hacc (nt_lst _)) (nt_lst _)
          have hpra : pr ∉ as := fun z => by
            obtain ⟨vs', e⟩ := rmem hrow pr z
            exact hpr _ (x25.keep pr _ e (nt_lst _)) (nt_lst _)
          have hpr2 : Fr H2 pr := hpr.back x25
          have mw : ExtN (mask H2 (fun b => MM M σ δ b ∨ b = D ∨ b ∈ as)) (mask (upd H6 D (.lst ((as ++ [pr]).map V.ref))) (fun b => MM M σ δ b ∨ b = D ∨ b ∈ as ++ [pr])) := fun b o e n => by
            obtain ⟨nb, e'⟩ := of_mask e
            have hb : b ≠ D := fun z => nb (.inr (.inl z))
            have hbp : b ≠ pr := fun z => hpr2 o (z ▸ e') n
            rw [mask_out (fun z => by
              rcases z with z | z | z
              · exact nb (.inl z)
              · exact nb (.inr (.inl z))
              · rcases List.mem_append.mp z with z | z
                · exact nb (.inr (.inr z))
                · exact hbp (List.mem_singleton.mp z)), upd_ne hb]
            exact xx.keep b o e' n
          have mv : ExtN (mask H6 (fun b => MM (fun b => MM M σ δ b ∨ b = D ∨ b ∈ as) σ4 δ1 b ∨ b = pr)) (mask (upd H6 D (.lst ((as ++ [pr]).map V.ref))) (fun b => MM M σ δ b ∨ b = D ∨ b ∈ as ++ [pr])) := fun b o e n => by
            obtain ⟨nb, e'⟩ := of_mask e
            have hb : b ≠ D := fun z => nb (.inl (.inl (.inr (.inl z))))
            rw [mask_out (fun z => by
              rcases z with z | z | z
              · exact nb (.inl (.inl (.inl z)))
              · exact hb z
              · rcases List.mem_append.mp z with z | z
                · exact nb (.inl (.inl (.inr (.inr z))))
                · exact nb (.inr (List.mem_singleton.mp z))), upd_ne hb]
            exact e'
          refine ⟨as.map V.ref, hacc6, by rw [← szLine, List.length_map]; omega, xs.length - (i + 1), by omega, rfl, by omega, ⟨fun b o e n => ?_, fun _ => tabs_write hacc6 (nx_lst _) (xx.tabs (x2.tabs t1))⟩, as ++ [pr], ysi ++ [y], zs', ?_, ?_, ?_, ?_, ?_, hgo', by rw [hys, List.append_assoc]; rfl, by rw [List.length_append]; simp; omega⟩
          · have hb : b ≠ D := fun z => by subst z; rw [hD] at e; cases e
            rw [upd_ne hb]
            exact xx.keep b o (x2.keep b o e n) n
          · rw [List.map_append]; exact upd_same
          · rw [List.nodup_append]
            refine ⟨hnd, by simp, fun u hu v hv z => ?_⟩
            rw [List.mem_singleton.mp hv] at z
            exact hpra (z ▸ hu)
          · intro z
            rcases List.mem_append.mp z with z | z
            · exact hDa z
            · exact hprD (List.mem_singleton.mp z).symm
          · intro b hb
            rcases List.mem_append.mp hb with z | z
            · exact hfr b z
            · rw [List.mem_singleton.mp z]; exact hpr2.back x2
          · have e1 : upd H6 D (.lst (as.map V.ref ++ [.ref pr])) = upd H6 D (.lst ((as ++ [pr]).map V.ref)) := by rw [List.map_append]; rfl
            rw [e1]
            refine rowAt_snoc ⟨us, ?_, dpAll_ext mv hdv⟩ (rowAt_ext mw hrow fun b hb vs' e => ?_)
            · rw [upd_ne hprD]; exact hpu
            · have hb2 : b ≠ D := fun z => hDa (z ▸ hb)
              rw [upd_ne hb2]; exact xx.keep b _ e (nt_lst _)
        · refine ⟨_, H3, δ1, .ok false, R4, et, fun H5 x5 => ?_⟩
          have xx : Ext T H2 H5 := x3.trans (x4.trans x5)
          show ∃ m', _
          exact ⟨xs.length - (i + 1), by omega, rfl, by omega, x2.trans xx, as, ysi, zs, xx.keep D _ hacc (nt_lst _), hnd, hDa, hfr, rowAt_ext (mask_le (fun _ z => z) xx.keep) hrow (fun b _ vs' e => xx.keep b _ e (nt_lst _)), hgo', hys, by omega⟩
      · have ei : i = xs.length := by omega
        refine .inl ⟨j2 ei, ?_⟩
        rw [ei, List.drop_length] at hgo
        cases hgo
        rw [List.append_nil] at hys
        subst hys
        exact a H2 (x1.trans x2) D as (Fr.back x1 frD) hacc hnd hDa (fun b hb => Fr.back x1 (hfr b hb)) hrow
  · exact ⟨M, H0, δ, .ex c, R, ex, a⟩
theorem asgR_imp {i : Nat} {F : XR} (h : tSt X.K T cm E (sNewR i F) En σ H) : tAsg (tR2 X.K T cm E F) (gName i) En σ H := by
  obtain ⟨M0, M, H0, δ, o, S, R, e, k⟩ := h
  rcases onE_of e with ⟨x, ex, e⟩ | ⟨c, ex, rfl⟩
  · refine ⟨M, H0, δ, .ok x, R, ex, fun H1 x1 p as hn hp nd pa ha hr => ?_⟩
    have e : (if i < δ.length ∧ noRows δ = true then some (Out.nx (δ.set i (.own (.rows x)))) else none) = some o := e
    split at e
    · rename_i hl
      cases e
      refine k _ _ H1 ⟨S.at0, fun a z => .inl (S.le a z), fun a z => ?_⟩ (R.newRows hl.2 hl.1 x1 hn hp nd pa ha hr)
      rcases z with z | z
      · exact S.new a z
      · exact .inr (R.fresh0 (ha a z))
    · cases e
  · exact ⟨M, H0, δ, .ex c, R, ex, k.ex' R⟩
theorem ds_newRLc (i : Nat) {x : Str} {pos' : Pos} {elt : Expr} {ifs : List Expr} {scope : Scope} {own : List (Str × Nat)} {it : XL} {g : XG} {u : XT} {f : XL} {cpos : Pos} (hc : X.calm = true) (hN : X.N.Nodup) (hy : X.N[i]? = some x) (hyl : X.env.scope.names.lookup x = some .local)
    (hsw : swapsWith (.ListComp elt [⟨tg, iter, ifs, 0⟩] scope cpos) (some (.Name x pos')) pos.line X.env = pure true) (hi : PI X tg iter (tI X.K T cm E it)) (ok : BlkOk X.N X.env.scope scope own)
    (hg : ∀ (s : Shared) (H : Hp) (C : Addr) (cl : List (Str × Addr)) (fp : List Addr), PG (X.blk s H scope (compEnvC scope cl C X.env) fp) tg (tG X.K T (own.map (·.2)) g)) (ht : ∀ (s : Shared) (H : Hp) (C : Addr) (cl : List (Str × Addr)) (fp : List Addr), PTs (X.blk s H scope (compEnvC scope cl C X.env) fp) ifs (tT X.K T cm E0 u))
    (he : ∀ (s : Shared) (H : Hp) (C : Addr) (cl : List (Str × Addr)) (fp : List Addr), PE (X.blk s H scope (compEnvC scope cl C X.env) fp) elt (tF X.K T cm E0 f)) (hs : ∀ x, foldedSetIterable iter X.env x = pure x := by intro _; rfl) :
    PS X (.Assign [.Name x pos'] (.ListComp elt [⟨tg, iter, ifs, 0⟩] scope cpos) pos) (tSt X.K T cm E (sNewR i (xLcF it g u f (own.map (·.2))))) := PSimp (ps_setLc hc hN hy hyl hsw hi ok hg ht he hs) fun _ _ _ h => lcF_imp (asgR_imp h)
/-! ### reading and writing -/
theorem getR {α : Type} {xs : List α} {k : Int} {x : α} (e : atI xs k = some x) : ∃ m, ixN xs.length k = some m ∧ xs[m]? = some x := by
  unfold atI at e
  cases q : ixN xs.length k with
  | none => rw [q] at e; cases e
  | some m => rw [q] at e; exact ⟨m, rfl, e⟩
theorem atRefs {as : List Addr} {k : Int} {m : Nat} {b : Addr} (q : ixN as.length k = some m) (e : as[m]? = some b) : L2.atI (as.map V.ref) k = some (.ref b) := by
  unfold L2.atI
  rw [ixN_eq, List.length_map, q]
  show (as.map V.ref)[m]? = _
  rw [List.getElem?_map, e]
  rfl
theorem de_rowIx (i : Nat) {x : Str} {px p1 : Pos} (hb : PE X b (tD X.K T cm E B)) (hs : PlainIx b) (hc : PE X c (tD X.K T cm E C)) (hs2 : PlainIx c) (hN : X.N[i]? = some x := by rfl) (hv : Vis X.env.scope x := by first | exact Or.inl rfl | exact Or.inr (Or.inl rfl)) (hd : (x == ("__debug__" : Str)) = false := by decide) (hcd : (x == ("__classdict__" : Str)) = false := by decide) :
    PE X (.Subscript (.Subscript (.Name x px) b p1) c pos) (tD X.K T cm E (xRowIx i B C)) := PEimp (pe_ix ix_list (pe_ix ix_list (pe_var hN hv hd hcd) hb hs) hc hs2) fun σ H Q h => by
  obtain ⟨M, H0, δ, r, R, e, a⟩ := h
  unfold xRowIx at e
  split at e
  · rename_i dss q
    obtain ⟨l, as, h1, h2, h3⟩ := R.rows i dss q
    refine ⟨.ref l, h1, ?_⟩
    rcases bnd_of e with ⟨y, ey, e⟩ | ⟨c, ey, rfl⟩
    · refine ⟨M, H0, δ, .ok y, R, ey, fun H1 x1 u hu => ?_⟩
      cases y with
      | int k =>
        cases hu
        have e : (match atI dss k with | some ds => bnd (C δ) fun l => (match l with | .int l => lift (atI ds l) | _ => none) | none => none) = some r := e
        cases q2 : atI dss k with
        | none => rw [q2] at e; cases e
        | some ds =>
          rw [q2] at e
          have e : (bnd (C δ) fun l => (match l with | .int l => lift (atI ds l) | _ => none)) = some r := e
          obtain ⟨m, m1, m2⟩ := getR q2
          obtain ⟨bb, us, g1, g2, g3⟩ := rowAt_get h3.at' m2
          have lA := rowAt_len h3.at'
          refine ⟨l, as.map V.ref, k, .ref bb, rfl, rfl, SqL.of (x1.keep l _ h2 (nt_lst _)), atRefs (by rw [lA]; exact m1) g1, ?_⟩
          rcases bnd_of e with ⟨z, ez, e⟩ | ⟨c, ez, rfl⟩
          · refine ⟨M, H0, δ, .ok z, R.grow x1, ez, fun H2 x2 w hw => ?_⟩
            cases z with
            | int k2 =>
              cases hw
              have e : lift (atI ds k2) = some r := e
              cases q3 : atI ds k2 with
              | none => rw [q3] at e; cases e
              | some d =>
                rw [q3] at e
                cases e
                obtain ⟨w, w1, w2⟩ := atI_dv ((x1.trans x2).dvs g3) q3
                exact ⟨bb, us, k2, w, rfl, rfl, SqL.of ((x1.trans x2).keep bb _ g2 (nt_lst _)), w1, a H2 (x1.trans x2) w w2⟩
            | _ => cases e
          · exact ⟨M, H0, δ, .ex c, R.grow x1, ez, a.grow x1⟩
      | _ => cases e
    · exact ⟨M, H0, δ, .ex c, R, ey, a⟩
  · cases e
theorem ds_setRow (i : Nat) {x : Str} {px p1 tpos : Pos} (he : PE X e (tD X.K T cm E A)) (hb : PE X b (tD X.K T cm E B)) (hs0 : PlainIx b) (hc : PE X c (tD X.K T cm E C)) (hN : X.N[i]? = some x := by rfl) (hv : Vis X.env.scope x := by first | exact Or.inl rfl | exact Or.inr (Or.inl rfl)) (hd : (x == ("__debug__" : Str)) = false := by decide) (hcd : (x == ("__classdict__" : Str)) = false := by decide)
    (ha : ∀ v, assign (.Subscript (.Subscript (.Name x px) b p1) c tpos) X.env v = (do
      let ov ← holding [v] (eval (.Subscript (.Name x px) b p1) X.env)
      let iv ← holding [v, ov] (eval c X.env)
      standAt tpos
      holding [v, ov, iv] (setItem ov iv v)
      release [v, ov, iv] []) := by intro _; rfl)
    (hs : swapsWithSole [.Subscript (.Subscript (.Name x px) b p1) c tpos] e pos.line X.env = pure false := by rfl) (hw : swappedStores [.Subscript (.Subscript (.Name x px) b p1) c tpos] e X.env = pure none := by rfl)
    (h1 : (assignEach [.Subscript (.Subscript (.Name x px) b p1) c tpos] X.env).map (·.2) = [assign (.Subscript (.Subscript (.Name x px) b p1) c tpos) X.env] := by rfl) :
    PS X (.Assign [.Subscript (.Subscript (.Name x px) b p1) c tpos] e pos) (tSt X.K T cm E (sSetRow i B C A)) := PSimp (ps_asg he (pg_sub (pe_ix ix_list (pe_var hN hv hd hcd) hb hs0) hc set_list ha) hs hw h1) fun En σ H h => by
  obtain ⟨M, H0, δ, o, R, e, k⟩ := h.old
  unfold sSetRow at e
  split at e
  · rename_i dss q
    rcases onE_of e with ⟨y, ey, e⟩ | ⟨c, ey, rfl⟩
    · refine ⟨M, H0, δ, .ok y, R, ey, fun H1 x1 v hv => ?_⟩
      have R1 := R.grow x1
      obtain ⟨l, as, h1, h2, h3⟩ := R1.rows i dss q
      refine ⟨.ref l, h1, ?_⟩
      rcases onE_of e with ⟨z, ez, e⟩ | ⟨c, ez, rfl⟩
      · refine ⟨M, H0, δ, .ok z, R1, ez, fun H2 x2 u hu => ?_⟩
        cases z with
        | int kk =>
          cases hu
          have e : (match ixN dss.length kk with | some m => (match dss[m]? with | some ds => onE (C δ) fun l => (match l with | .int l => (match ixN ds.length l with | some n => some (Out.nx (δ.set i (.own (.rows (dss.set m (ds.set n y)))))) | none => none) | _ => none) | none => none) | none => none) = some o := e
          cases m1 : ixN dss.length kk with
          | none => rw [m1] at e; cases e
          | some m =>
            rw [m1] at e
            have e : (match dss[m]? with | some ds => onE (C δ) fun l => (match l with | .int l => (match ixN ds.length l with | some n => some (Out.nx (δ.set i (.own (.rows (dss.set m (ds.set n y)))))) | none => none) | _ => none) | none => none) = some o := e
            cases m2 : dss[m]? with
            | none => rw [m2] at e; cases e
            | some ds =>
              rw [m2] at e
              have e : (onE (C δ) fun l => (match l with | .int l => (match ixN ds.length l with | some n => some (Out.nx (δ.set i (.own (.rows (dss.set m (ds.set n y)))))) | none => none) | _ => none)) = some o := e
              obtain ⟨bb, us, g1, g2, g3⟩ := rowAt_get h3.at' m2
              have lA := rowAt_len h3.at'
              refine ⟨l, as.map V.ref, kk, .ref bb, rfl, rfl, SqL.of (x2.keep l _ h2 (nt_lst _)), atRefs (by rw [lA]; exact m1) g1, ?_⟩
              rcases onE_of e with ⟨z2, ez2, e⟩ | ⟨c, ez2, rfl⟩
              · refine ⟨M, H0, δ, .ok z2, R1.grow x2, ez2, fun H3 x3 u2 hu2 => ?_⟩
                cases z2 with
                | int k2 =>
                  cases hu2
                  have e : (match ixN ds.length k2 with | some n => some (Out.nx (δ.set i (.own (.rows (dss.set m (ds.set n y)))))) | none => none) = some o := e
                  cases n1 : ixN ds.length k2 with
                  | none => rw [n1] at e; cases e
                  | some n =>
                    rw [n1] at e
                    cases e
                    have x23 := x2.trans x3
                    have R3 := R1.grow x23
                    have h23 : H3 bb = some (.lst us) := x23.keep bb _ g2 (nt_lst _)
                    have hA3 : H3 l = some (.lst (as.map V.ref)) := x23.keep l _ h2 (nt_lst _)
                    have r3 : RowsR X.K M H0 H3 (mask H3 (MM M σ δ)) as dss := h3.ext (fun _ _ z => z) (fun _ _ z => z) (fun b _ vs e => x23.keep b _ e (nt_lst _)) (mask_le (fun _ z => z) x23.keep)
                    refine ⟨bb, us, k2, n, rfl, rfl, h23, by rw [dpAll_len g3, ixN_eq]; exact n1, ?_⟩
                    exact k σ _ (R3.writeRow q h1 hA3 r3 g1 (dpAll_set (x23.dv hv) n (x23.dvs g3)))
                | _ => cases e
              · exact ⟨M, H0, δ, .ex c, R1.grow x2, ez2, k.ex' (R1.grow x2)⟩
        | _ => cases e
      · exact ⟨M, H0, δ, .ex c, R1, ez, k.ex' R1⟩
    · exact ⟨M, H0, δ, .ex c, R, ey, k.ex' R⟩
  · cases e
end
end DL
set_option Elab.async false
set_option linter.all false
set_option maxRecDepth 100000
set_option maxHeartbeats 4000000
set_option autoImplicit false
/-! a module's tuple of texts -/
namespace DL
open PySem L2
def strsB : List Value → List Str → Bool
  | [], [] => true
  | .str y _ :: r, z :: s => decide (y = z) && strsB r s
  | _, _ => false
def tupOB (o : Option Obj) (zs : List Str) : Bool := match o with
  | some ⟨.type c, _, .seq its _, _⟩ => decide (c = "tuple") && (decide (its.size ≤ 1000) && strsB its.toList zs)
  | _ => false
def tupB (K : PySem.W.Frag) (x : Str) (zs : List Str) : Bool := match PySem.W.nsIn K mainGlobals x with
  | some (some (.ref a)) => tupOB (K.lookup a) zs
  | _ => false
theorem strsB_vals : ∀ {us : List Value} {zs : List Str}, strsB us zs = true → Vals (zs.map V.str) us
  | [], [], _ => .nil
  | u :: us, z :: zs, h => by
    cases u with
    | str y t =>
      obtain ⟨h1, h2⟩ := He.ba (show (decide (y = z) && strsB us zs) = true from h)
      have e : y = z := of_decide_eq_true h1
      subst e
      exact .cons ⟨t, rfl⟩ (strsB_vals h2)
    | _ => cases h
  | [], _ :: _, h => by cases h
  | u :: _, [], h => by cases u <;> cases h
theorem dvAll_strs {K : PySem.W.Frag} {G : Hp} : ∀ zs : List Str, DvAll K G (zs.map V.str) (zs.map PyData.str)
  | [] => .nil
  | z :: zs => .cons (.str z) (dvAll_strs zs)
theorem tupB_ok {K : PySem.W.Frag} {h : Heap} {mg : Str → Option Value} (KX : K.In h) (G : h.Ns mainGlobals mg) {x : Str} {zs : List Str} (hb : tupB K x zs = true) : ∃ a, mg x = some (.ref a) ∧ ∀ G, Dv K G (.ref a) (.tuple (zs.map PyData.str)) := by
  unfold tupB at hb
  cases q : PySem.W.nsIn K mainGlobals x with
  | none => rw [q] at hb; cases hb
  | some o =>
    rw [q] at hb
    cases o with
    | none => cases hb
    | some v =>
      cases v with
      | ref a =>
        replace hb : tupOB (K.lookup a) zs = true := hb
        refine ⟨a, PySem.W.mg_of KX G q, fun G => ?_⟩
        cases q2 : K.lookup a with
        | none => rw [q2] at hb; cases hb
        | some o =>
          rw [q2] at hb
          obtain ⟨oc, od, dt, os⟩ := o
          cases oc with
          | type c =>
            cases dt with
            | seq its n =>
              obtain ⟨h1, h2⟩ := He.ba (show (decide (c = "tuple") && (decide (its.size ≤ 1000) && strsB its.toList zs)) = true from hb)
              obtain ⟨h3, h4⟩ := He.ba h2
              have e : c = "tuple" := of_decide_eq_true h1
              subst e
              have h5 : its.size ≤ 1000 := of_decide_eq_true h3
              exact .tup (.inr ⟨_, its, n, q2, rfl, rfl, Nat.le_trans h5 (by decide), strsB_vals h4⟩) (dvAll_strs zs)
            | _ => cases hb
          | _ => cases dt <;> cases hb
      | _ => cases hb
section
variable {X : Cx} {T : List (Addr × Str)} {cm : Nat → Value} {E : XK} {pos : Pos}
theorem de_globT {x : Str} {a : Addr} {d : D} (hg : Gl X x) (hm : X.mg x = some (.ref a)) (hv : ∀ G, Dv X.K G (.ref a) d) (hd : (x == ("__debug__" : Str)) = false := by decide) : PE X (.Name x pos) (tD X.K T cm E (xC d)) := de_glob (v := .ref a) hg hm rfl hv hd
end
end DL
set_option Elab.async false
set_option linter.all false
set_option maxRecDepth 100000
set_option maxHeartbeats 4000000
set_option autoImplicit false
/-! dict(xs) of a list of pairs: an own dict -/
namespace DL
open PySem L2
open LamX (ExtN Tabs TabS CodeO)
theorem kvr_merge {K : PySem.W.Frag} {G : Hp} {vs : List (Key × V)} {ds : List (Key × D)} (r : KvR K G vs ds) : ∀ {va : List (Key × V)} {da : List (Key × D)}, KvR K G va da → KvR K G (mergeK va vs) (mergeD da ds) := by
  induction r with
  | nil => intro va da h; exact h
  | @cons p q ps qs h t ih =>
    intro va da hh
    obtain ⟨a, x⟩ := p
    obtain ⟨b, y⟩ := q
    obtain ⟨e, z⟩ := h
    have e : a = b := e
    subst e
    exact ih (kvr_put a z hh)
theorem pairsOf_cons (d : D) (ds : List D) : pairsOf (d :: ds) = (pairOf d).bind fun p => (pairsOf ds).map (p :: ·) := rfl
theorem pair_dv {K : PySem.W.Frag} {G : Hp} {d : D} {v : V} {kd : DKey × D} (h : Dv K G v d) (e : pairOf d = some kd) : ∃ (p : Addr) (x : V), v = .ref p ∧ SqT K G p [kV kd.1, x] ∧ Dv K G x kd.2 := by
  unfold pairOf at e
  split at e
  · rename_i dk dv
    cases h with
    | @tup p xs es hs hes =>
      cases hes with
      | cons hk h2 =>
        cases h2 with
        | cons hv h3 =>
          cases h3
          cases q1 : keyOf dk with
          | none => rw [q1] at e; cases e
          | some k =>
            rw [q1] at e
            cases e
            have ek := keyOf_dv hk q1
            subst ek
            exact ⟨p, _, rfl, hs, hv⟩
  · cases e
theorem pairs_dv {K : PySem.W.Frag} {G : Hp} : ∀ (ds : List D) {vs : List V} {kds : List (DKey × D)}, DvAll K G vs ds → pairsOf ds = some kds → ∃ (ps : List Addr) (kvs : List (Key × V)), vs = ps.map V.ref ∧ Paired (fun p kv => SqT K G p [kV kv.1, kv.2]) ps kvs ∧ KvR K G kvs kds := by
  intro ds
  induction ds with
  | nil =>
    intro vs kds h e
    cases h
    cases e
    exact ⟨[], [], rfl, .nil, .nil⟩
  | cons d ds ih =>
    intro vs kds h e
    cases h with
    | cons h1 h2 =>
      rw [pairsOf_cons] at e
      cases q1 : pairOf d with
      | none => rw [q1] at e; cases e
      | some kd =>
        rw [q1, Option.bind_some] at e
        cases q2 : pairsOf ds with
        | none => rw [q2] at e; cases e
        | some kr =>
          rw [q2] at e
          cases e
          obtain ⟨ps, kvs, g1, g2, g3⟩ := ih h2 q2
          obtain ⟨p, x, rfl, g4, g5⟩ := pair_dv h1 q1
          exact ⟨p :: ps, (kd.1, x) :: kvs, by rw [g1]; rfl, .cons g4 g2, .cons ⟨rfl, g5⟩ g3⟩
section
variable {X : Cx} {T : List (Addr × Str)} {cm : Nat → Value} {E : XK} {A B C : XE} {L : XL} {a b c e tg iter : Expr} {pos p : Pos} {σ : St} {H : Hp}
def rDP (K : PySem.W.Frag) : V → Hp → VK → Prop := fun x H Q => ∃ (a : Addr) (ps : List Addr) (kvs : List (Key × V)), x = .ref a ∧ SqL K H a (ps.map V.ref) ∧ Paired (fun p kv => SqT K H p [kV kv.1, kv.2]) ps kvs ∧ ∀ p, H p = none → Q (.ref p) (upd H p (.dK (mergeK [] kvs)))
theorem call_dictD (hc : X.calm = true) : CallR X (.type "dict") (rL1 (rDP X.K)) := fun pins s σ H xs us Q I r q => call_dictP hc pins s σ H xs us Q I r (by
  obtain ⟨x, rfl, a, ps, kvs, rfl, h1, h2, h3⟩ := q
  exact ⟨a, ps, kvs, rfl, h1, h2, h3⟩)
theorem ds_newDL (i : Nat) {x : Str} {pos' cp : Pos} (hc : X.calm = true) (hg : Gl X "dict") (hm : X.mg "dict" = none) (hN : X.N.Nodup) (ha : PE X e (tD X.K T cm E A)) (hi : X.N[i]? = some x := by rfl) (hx : Loc X.env.scope x := by first | exact Or.inl rfl | exact Or.inr rfl) (hs : swapsWith (.Call (.Name "dict" p) [e] [] cp) (some (.Name x pos')) pos.line X.env = pure false := by rfl) (hf : X.fn x = true ∨ X.env.scope.names.lookup x = some .local := by first | exact .inl rfl | exact .inr rfl | assumption)
    (hv : bootBuiltins "dict" = some (.type "dict") := by decide +kernel) (he : starEach (e :: []) X.env = (false, eval e X.env) :: starEach [] X.env := by rfl) (hpl : (backTo cp (starEach [] X.env)).any (·.1) = false := by rfl) :
    PS X (.Assign [.Name x pos'] (.Call (.Name "dict" p) [e] [] cp) pos) (tSt X.K T cm E (sNewDL i A)) := PSimp (ps_set hN hi hx (pe_callTy (call_dictD hc) hg hm hv (pa_cons ha pa_nil he) (by decide) (by decide) he hpl) hs hf) fun En σ H h => by
  obtain ⟨M, H0, δ, o, R, e, k⟩ := h.old
  rcases onE_of e with ⟨y, ey, e⟩ | ⟨c, ey, rfl⟩
  · refine arg1 ⟨M, H0, δ, .ok y, R, ey, fun H1 x1 v hv => ?_⟩
    cases y with
    | list ds =>
      replace e : (match pairsOf ds with
        | some kvs => if i < δ.length then some (Out.nx (δ.set i (.own (.dct (mergeD [] kvs))))) else none
        | none => none) = some o := e
      cases q : pairsOf ds with
      | none => rw [q] at e; cases e
      | some kds =>
        rw [q] at e
        have e : (if i < δ.length then some (Out.nx (δ.set i (.own (.dct (mergeD [] kds))))) else none) = some o := e
        split at e
        · rename_i hl
          cases e
          cases hv with
          | @lst l xs es hs hes =>
            obtain ⟨ps, kvs, h1, h2, h3⟩ := pairs_dv ds hes q
            subst h1
            refine ⟨l, ps, kvs, rfl, sl_un hs, Paired.mapP h2 fun p kv z => st_un z, fun p hp => ?_⟩
            refine k _ _ ((R.grow x1).newOwn hl (Ext.fresh _ hp) (.of hp) upd_same (.dct ?_))
            have h4 := kvr_merge h3 (va := []) (da := []) .nil
            refine kvr_ext ?_ h4
            exact mask_ext (fun a o e n na z => by
              rcases z with z | z
              · exact na z
              · subst z; rw [hp] at e; cases e) (Ext.fresh (T := T) _ hp).keep
        · cases e
    | _ => cases e
  · exact arg1 ⟨M, H0, δ, .ex c, R, ey, k.ex' R⟩
end
end DL
set_option Elab.async false
set_option linter.all false
set_option maxRecDepth 100000
set_option maxHeartbeats 4000000
set_option autoImplicit false
/-! a comprehension that an exception may leave -/
namespace DL
open PySem PySem.Spec PyProof.Rows L2
section
variable {M : Model} {A : Around} {E : Value → Shared → Prop} {s : Shared} {env : Env}
/-- what is wanted behind the block ce -/
def cpX (M : Model) (A : Around) (E : Value → Shared → Prop) (Q : Value → Shared → Prop) (acc : Value) (ce : Env) (r : Result) (s' : Shared) : Prop := match r with
  | .ok _ => ∃ m, s'.heap.Ns ce.locals m ∧ ∀ hz, Heap.SameBut ce.locals s'.heap hz → Q acc { s' with heap := hz }
  | .error x => ∃ m, s'.heap.Ns ce.locals m ∧ ∀ hz, Heap.SameBut ce.locals s'.heap hz → wpAny M A (passOn "comprehension.variables-let-go" x ce : Sem Value) (fun _ _ => False) E { s' with heap := hz }
theorem compX_free {e : Expr} {scope : Scope} {pos : Pos} {mk fst : Sem Value} {g : Comprehension} {gs : List Comprehension} {cl : List (Str × Addr)} {Q : Value → Shared → Prop}
    (hcl : clausesOf e = g :: gs) (hfs : ∀ x, foldedSetIterable g.iter env x = pure x) (hclo : closureFor scope env = pure cl) (hki : scope.kind = .function) (hnm : ∀ x ∈ scope.names, x.2 = .local → scope.names.lookup x.1 = some .local)
    (h : wpAny M A fst (fun x s1 => wpAny M A (pyIter x) (fun it s2 => wpAny M A mk (fun acc s3 => wpAny M A (newFunctionEnv scope env.globals cl [] env.qual none .none (some env)) (fun cv s4 =>
        codeAny M A (.compStart e 0 it acc { cv with scope := relabel scope env }) (cpX M A E Q acc { cv with scope := relabel scope env }) s4) E s3) E s2) E s1) E s) :
    wpAny M A (comprehension e scope env pos mk false fst none) Q E s := by
  unfold comprehension
  rw [hclo, hcl]
  refine wpAny_bind (wpAny_mono h (fun x s1 g1 => wpAny_bind (wpAny_standAt (wpAny_bind (wpAny_of_eq (hfs x) (wpAny_bind (wpAny_holding (wpAny_mono g1 (fun it s2 g2 => ?_) fun _ _ z => z))))))) fun _ _ z => z)
  refine wpAny_standIf (wpAny_bind (wpAny_mono g2 (fun acc s3 g3 => wpAny_bind (wpAny_pure (wpAny_bind (wpAny_mono g3 (fun cv s4 g4 => ?_) fun _ _ z => z)))) fun _ _ z => z))
  dsimp only
  have vv : ∀ x ∈ (scope.names.filter fun x => (x.2 == .local || x.2 == .cell) && x.1 != (".0" : Str)).reverse, x.2 = .local → Env.kindOf { cv with scope := relabel scope env } x.1 = some .local := fun x hx hl => lookup_relabel_local (hnm x (List.mem_filter.mp (List.mem_reverse.mp hx)).1 hl)
  refine wpAny_holding (wpAny_bind (wpAny_attempt (wpAny_holding (wpAny_run (codeAny_mono g4 fun r sq hr => ?_)))))
  cases r with
  | ok f =>
    obtain ⟨m, hn, hr⟩ := hr
    exact wpAny_bind (wpAny_holding (wpAny_comp_letGo (cenv := { cv with scope := relabel scope env }) hki _ sq m vv hn fun hz _ _ sb => wpAny_pure (hr hz sb)))
  | error x =>
    obtain ⟨m, hn, hr⟩ := hr
    exact wpAny_bind (wpAny_holding (wpAny_comp_letGo (cenv := { cv with scope := relabel scope env }) hki _ sq m vv hn fun hz _ _ sb => wpAny_mono (hr hz sb) (fun _ _ f => f.elim) fun _ _ y => y))
end
end DL
set_option Elab.async false
set_option linter.all false
set_option maxRecDepth 100000
set_option maxHeartbeats 4000000
set_option autoImplicit false
namespace DL
open PySem PySem.Spec PyProof.Rows L2
open LamX (ExtN Tabs TabS CodeO)
theorem funFrames_off {base h h' : Heap} : ∀ {l : List Env}, h.FunFrames base l → (∀ b ∈ frs l, ∀ o, h.get? b = some o → (∀ vs, o.data ≠ .fields vs) → ∃ o', h'.get? b = some o' ∧ o'.data = o.data) → h'.FunFrames base l
  | [], _, _ => trivial
  | env :: l, hl, k => by
    obtain ⟨hk, ⟨L, o, hf, hb, ho, hd⟩, hr⟩ := hl
    have fm : frs (env :: l) = L :: frs l := by unfold frs; rw [List.filterMap_cons, hf]
    obtain ⟨o', e1, e2⟩ := k L (by rw [fm]; exact List.mem_cons_self) o ho hd
    exact ⟨hk, ⟨L, o', hf, hb, e1, by rw [e2]; exact hd⟩, funFrames_off hr fun b hb => k b (by rw [fm]; exact List.mem_cons_of_mem _ hb)⟩
theorem noteFrame_of {x : Value} {e1 e2 : Env} (h : e1.frame = e2.frame) : noteFrame x e1 = noteFrame x e2 := by
  unfold noteFrame PySem.frameOf
  rw [h]
section
variable {X : Cx}
abbrev blkX (X : Cx) (s : Shared) (H : Hp) (scope : Scope) (ce : Env) (fp : List Addr) (xe : Value → Shared → Prop) : Cx := (X.blk s H scope ce fp).tr [] xe
/-- what a callee lets out is taken -/
def PassN (X : Cx) (E : XK) : Prop := ∀ (pins : List (Addr × Obj)) (σ : L2.St) (H : Hp) (s : Shared) (e : Value) (s' : Shared), Inv X pins σ H s → L2N.CX X.prog X.w X.stack H s E e s' → X.xe e s'
theorem pass_out {pins pins' : List (Addr × Obj)} {σ σ' : L2.St} {H3 H5 : Hp} {s3 s5 s' : Shared} {scope : Scope} {ce : Env} {fp : List Addr} {xe : Value → Shared → Prop} {E : XK} {Q : Value → Shared → Prop} {acc u : Value}
    (hs : X.stack = X.env :: X.outer) (hf : X.env.frame = some X.env.locals) (tk : L2N.Takes X (fun c d _ H => E c d H)) (I3 : Inv X pins σ H3 s3) (cL : ce.locals = s3.heap.objs.size) (cf : ce.frame = X.env.frame)
    (f3 : ∀ b ∈ fp, FpOk X pins H3 b ∧ b < s3.heap.objs.size) (I5 : Inv (blkX X s3 H3 scope ce fp xe) pins' σ' H5 s5) (c : L2N.CX X.prog X.w X.stack H5 s5 E u s') :
    notedBy (model X.prog X.w) X.A ce (fun e s'' => cpX (model X.prog X.w) X.A X.xe Q acc ce (.error e) s'') u s' := by
  have x := L2N.XE.of_call (W := fun c d _ H => E c d H) I5 (fun _ _ _ h => h) c
  obtain ⟨a, B, sI, pins2, σ2, H', cls, d, rfl, I', nb, up, sky, na, os, ag, w⟩ := x
  obtain ⟨a2, B2, H2, cls2, d2, e2, fl2, _⟩ := c
  cases e2
  obtain ⟨_, _, _, oe0, vs0, T0, oT0, ts0, he0, _, hd0, h10, _, _, hT0, hdT0, h30⟩ := fl2
  have fl : HandSPX.FlyingZ B X.stack a (L2N.Zn cls d) s'.heap := by
    rcases sky with ⟨_, _, _, oe, vs, he, _, hd, h1⟩ | fl | ⟨_, _, _, oe, vs, T, oT, ts, he, _, hd, h1, _, _, hT, hdT, h3⟩
    · rw [he0] at he; cases he
      rw [hd0] at hd; cases hd
      rw [h10] at h1; cases h1
    · exact fl
    · rw [he0] at he; cases he
      rw [hd0] at hd; cases hd
      rw [h10] at h1; cases h1
      rw [hT0] at hT; cases hT
      rw [hdT0] at hdT; cases hdT
      rw [h30] at h3; cases h3
  have hfr : X.A.frames = some (X.env :: X.outer) := by rw [I3.ok.frames, hs]
  show wpAny (model X.prog X.w) X.A (noteFrame (.ref a) ce) _ _ s'
  rw [noteFrame_of cf]
  rw [hs] at fl
  refine PXN.looks_onZ L2N.Zn.steady hfr hf fl fun h1 held up1 => ?_
  have upI : sI.heap.UpToSlots h1 := up.trans up1
  obtain ⟨m, hn, _⟩ := I'.loc
  have hn : sI.heap.Ns ce.locals m := hn
  refine ⟨m, upI.ns hn, fun hz sb => ?_⟩
  obtain ⟨hB, hna, hfun, oe, vs, Tt, oT, ts, he, hZ, hd, hv1, hnT, hTe, hT, hdT, hv3⟩ := held
  obtain ⟨oC, es, ep, hC, hdC, _⟩ := hn
  have nC : H' ce.locals = none := I'.free
  have cst : ce.locals ∉ frs X.stack := fun hm => by
    rcases List.mem_cons.mp (I3.stkSub _ hm) with z | z
    · have := I3.lt
      rw [← z, cL] at this
      exact Nat.lt_irrefl _ this
    · exact I3.nofs (Nat.le_of_eq cL.symm) z
  have bC : B.get? ce.locals = some oC := nb _ _ hC cst
  have aC : a ≠ ce.locals := fun z => by rw [z, bC] at hna; cases hna
  have TC : Tt ≠ ce.locals := fun z => by rw [z, bC] at hnT; cases hnT
  have he' : hz.get? a = some oe := (sb.2 a aC).trans he
  have hT' : hz.get? Tt = some oT := (sb.2 Tt TC).trans hT
  unfold PySem.passOn
  refine wpAny_bind (wpAny_field (s := { s' with heap := hz }) he' hd hv1 ?_)
  rw [if_neg (show ¬ ((Value.ref Tt == Value.none) = true) from Bool.false_ne_true)]
  refine wpAny_bind ?_
  unfold setFlight
  refine wpAny_bind (wpAny_field (s := { s' with heap := hz }) he' hd hv1 ?_)
  rw [if_pos (show (Value.ref Tt != Value.none) = true from rfl)]
  refine wpAny_setField (s := { s' with heap := hz }) hT' hdT (Array.getElem?_eq_some_iff.mp hv3).1 ?_
  refine wpAny_throw ?_
  rw [cf, hf]
  have I7 : Inv X pins σ H' sI := I3.call' (ch := fp) I'.os I'.base I'.hok I'.bare fun b hb => ⟨(f3 b hb).1.2.2.2.1, (f3 b hb).1.2.1, (f3 b hb).1.2.2.2.2.1, (f3 b hb).1.2.2.2.2.2⟩
  rw [cL] at nC
  obtain ⟨k0, k1, k2, k3, k4, k5⟩ := I3.fpOk (Nat.le_refl _) nC
  have I8 : Inv X pins σ H' { sI with heap := PySem.W.hideAll sI.heap [ce.locals], toks := sI.toks } := I7.turned (it := s3.heap.objs.size) (fun b o hb e => PySem.W.hideAll_get _ e (by rw [cL]; simpa using hb)) k0 k1 k3 k4 k5
  have keepT : ∀ (b : Addr) (o : Obj), b ≠ Tt → hz.get? b = some o → (hz.update Tt (Obj.mapFields fun q => q.setIfInBounds 3 (rawInt X.env.locals))).get? b = some o := fun b o hb e => by
    rw [Heap.get?_update_other _ _ (Ne.symm hb)]; exact e
  have hdT2 := Obj.data_mapFields hdT (fun q => q.setIfInBounds 3 (rawInt X.env.locals))
  refine tk _ _ ⟨a, PySem.W.hideAll B [ce.locals], _, pins, σ, H', cls, d, rfl, I8, fun b o e hb => ?_, fun b o e hnf => ?_, .inr (.inr ⟨fun b o e => ?_, ?_, ?_, oe, vs, Tt, _, _, keepT a oe (Ne.symm hTe) he', hZ, hd, hv1, ?_, hTe, Heap.get?_update_self _ hT' (Obj.isFreed_of_fields hdT2), hdT2, ?_⟩), na, os, ag, w⟩
  · have e' : (PySem.W.hideAll sI.heap [ce.locals]).get? b = some o := e
    have hbC : b ≠ ce.locals := fun z => by
      subst z
      rw [PySem.W.hideAll_none _ (List.mem_singleton.mpr rfl)] at e'; cases e'
    exact PySem.W.hideAll_get _ (nb b o (PySem.W.of_hideAll _ e') hb) (by simpa using hbC)
  · have e' : (PySem.W.hideAll sI.heap [ce.locals]).get? b = some o := e
    have hbC : b ≠ ce.locals := fun z => by
      subst z
      rw [PySem.W.hideAll_none _ (List.mem_singleton.mpr rfl)] at e'; cases e'
    obtain ⟨sl, q⟩ := upI b o (PySem.W.of_hideAll _ e') hnf
    have hbT : b ≠ Tt := fun z => by
      subst z
      rw [hT] at q; cases q
      exact hnf ts hdT
    exact ⟨sl, keepT b _ hbT ((sb.2 b hbC).trans q)⟩
  · have e' := PySem.W.of_hideAll _ e
    have hbC : b ≠ ce.locals := fun z => by
      subst z
      rw [PySem.W.hideAll_none _ (List.mem_singleton.mpr rfl)] at e; cases e
    have hbT : b ≠ Tt := fun z => by subst z; rw [hnT] at e'; cases e'
    exact keepT b o hbT ((sb.2 b hbC).trans (hB b o e'))
  · cases q : (PySem.W.hideAll B [ce.locals]).get? a with
    | none => rfl
    | some o => rw [PySem.W.of_hideAll _ q] at hna; cases hna
  · rw [hs]
    refine funFrames_off (funFrames_none hfun fun L hL => ?_) fun b hb o e hnf => ?_
    · cases q : (PySem.W.hideAll B [ce.locals]).get? L with
      | none => rfl
      | some o =>
        have z := (hfun.mem hL).1
        rw [PySem.W.of_hideAll _ q] at z; cases z
    · have hbC : b ≠ ce.locals := fun z => cst (by rw [hs, ← z]; exact hb)
      have hbT : b ≠ Tt := fun z => by
        subst z
        rw [hT] at e; cases e
        exact hnf ts hdT
      exact ⟨o, keepT b o hbT ((sb.2 b hbC).trans e), rfl⟩
  · cases q : (PySem.W.hideAll B [ce.locals]).get? Tt with
    | none => rfl
    | some o => rw [PySem.W.of_hideAll _ q] at hnT; cases hnT
  · have := (Array.getElem?_eq_some_iff.mp hv3).1
    simp [this]
end
end DL
set_option Elab.async false
set_option linter.all false
set_option maxRecDepth 100000
set_option maxHeartbeats 4000000
set_option autoImplicit false
namespace DL
open PySem PySem.Spec PyProof.Rows L2
open LamX (ExtN Tabs TabS CodeO)
section
variable {X : Cx}
theorem pe_lcX {elt tg iter : Expr} {ifs : List Expr} {scope : Scope} {own : List (Str × Nat)} {pos : Pos} {wi : TI} {g : TG} {tt : TT} {te : TE} {E : XK} (hc : X.calm = true) (hst : X.stack = X.env :: X.outer) (hfr : X.env.frame = some X.env.locals) (tk : L2N.Takes X (fun c d _ H => E c d H)) (hN : X.N.Nodup) (hi : PI X tg iter wi) (ok : BlkOk X.N X.env.scope scope own)
    (hg : ∀ (s : Shared) (H : Hp) (C : Addr) (cl : List (Str × Addr)) (fp : List Addr) (xe : Value → Shared → Prop), PG (blkX X s H scope (compEnvC scope cl C X.env) fp xe) tg g) (ht : ∀ (s : Shared) (H : Hp) (C : Addr) (cl : List (Str × Addr)) (fp : List Addr) (xe : Value → Shared → Prop), PTs (blkX X s H scope (compEnvC scope cl C X.env) fp xe) ifs tt)
    (he : ∀ (s : Shared) (H : Hp) (C : Addr) (cl : List (Str × Addr)) (fp : List Addr) (xe : Value → Shared → Prop), PassN (blkX X s H scope (compEnvC scope cl C X.env) fp xe) E → PE (blkX X s H scope (compEnvC scope cl C X.env) fp xe) elt te) (hs : ∀ x, foldedSetIterable iter X.env x = pure x := by intro _; rfl) :
    PE X (.ListComp elt [⟨tg, iter, ifs, 0⟩] scope pos) (tLc wi g tt te (own.map (·.2))) := by
  refine ⟨fun pins s σ H Q I h => ?_⟩
  rw [eval_ListComp]
  have hfree : ∀ y ∈ scope.names, y.2 = .free → ∃ c, X.env.cells.lookup y.1 = some c := fun y hy e => (ok.free y hy e).elim (fun k => I.ok.has _ (.inl k)) (fun k => I.ok.has _ (.inr k))
  refine compX_free rfl hs (closure_ok hfree) ok.kind (fun y hy e => by rw [ok.uniq y hy, e]) (thn (hi.run pins s σ H _ I h) fun xv s1 hx => thn hx fun itv s2 h2 => ?_)
  obtain ⟨it, fp, tn, J, H2, e, I2, Tn, st2, f2, q⟩ := h2
  subst e
  refine wpAny_newObj_type (newEnv_comp ?_) (by show 0 ≤ sizeLine; decide)
  generalize hD : s2.heap.objs.size = D
  have hDn : H2 D = none := I2.hok.fresh (Nat.le_of_eq hD)
  obtain ⟨W, ⟨m0, w0⟩, turn⟩ := q D hDn
  generalize hs3 : ({ s2 with heap := s2.heap.push { cls := .type "list", data := .seq ([] : List Value).toArray } } : Shared) = s3
  have I3 : Inv X pins σ (upd H2 D (.lst [])) s3 := by
    rw [← hs3]
    refine I2.laid (t' := s2.toks) (fun b o e => Heap.get?_push_of_some _ e) (Nat.le_of_eq hD) ⟨Nat.zero_le _, [], 0, .nil, ?_⟩
    rw [← hD]
    exact Heap.get?_push_size _ rfl
  have h3 : s3.heap = s2.heap.push { cls := .type "list", data := .seq ([] : List Value).toArray } := by rw [← hs3]
  have f3 : ∀ b ∈ fp, FpOk X pins (upd H2 D (.lst [])) b ∧ b < s3.heap.objs.size := fun b hb => by
    obtain ⟨o, e, _⟩ := Tn.obj _ _ st2 b hb
    have hlt := Heap.lt_size e
    refine ⟨⟨?_, (f2 b hb).2⟩, by rw [h3, Heap.size_push]; exact Nat.lt_succ_of_lt hlt⟩
    rw [upd_ne (by rw [← hD]; exact Nat.ne_of_lt hlt)]
    exact (f2 b hb).1
  have st3 : tn 0 s3.heap := Tn.keep _ _ _ st2 fun b _ o e => by rw [h3]; exact Heap.get?_push_of_some _ e
  have I4 := block_start I3 ok hN f3
  have pg := hg s3 (upd H2 D (.lst [])) s3.heap.objs.size (cellsFrom (s3.heap.objs.size + 1) scope.names (cloFrom X.env.cells scope.names [])) fp
  have pt := ht s3 (upd H2 D (.lst [])) s3.heap.objs.size (cellsFrom (s3.heap.objs.size + 1) scope.names (cloFrom X.env.cells scope.names [])) fp
  have pe := he s3 (upd H2 D (.lst [])) s3.heap.objs.size (cellsFrom (s3.heap.objs.size + 1) scope.names (cloFrom X.env.cells scope.names [])) fp
  show codeAny _ _ (.compStart (.ListComp elt [⟨tg, iter, ifs, 0⟩] scope pos) 0 (.ref it) (.ref D) (compEnvC scope (cellsFrom (s3.heap.objs.size + 1) scope.names (cloFrom X.env.cells scope.names [])) s3.heap.objs.size X.env)) (cpX (model X.prog X.w) X.A X.xe (EP X pins σ Q) (.ref D) (compEnvC scope (cellsFrom (s3.heap.objs.size + 1) scope.names (cloFrom X.env.cells scope.names [])) s3.heap.objs.size X.env)) { s3 with heap := pushCells (s3.heap.push { cls := .type "dict", data := .dict #[] }) scope.names }
  have nfp : ∀ b ∈ fp, (upd H2 D (.lst [])) b = none := fun b hb => (f3 b hb).1.1
  generalize hce : compEnvC scope (cellsFrom (s3.heap.objs.size + 1) scope.names (cloFrom X.env.cells scope.names [])) s3.heap.objs.size X.env = ce at I4 pg pt pe ⊢
  have cL : ce.locals = s3.heap.objs.size := by subst hce; rfl
  have cF : ce.frame = X.env.frame := by subst hce; rfl
  generalize hH3 : upd H2 D (.lst []) = H3 at I3 I4 pg pt pe w0 nfp f3
  generalize hs4 : ({ s3 with heap := pushCells (s3.heap.push { cls := .type "dict", data := .dict #[] }) scope.names } : Shared) = s4 at I4 ⊢
  have st4 : tn 0 s4.heap := Tn.keep _ _ _ st3 fun b _ o e => by rw [← hs4]; exact pushCells_keeps _ _ _ _ (Heap.get?_push_of_some _ e)
  generalize hxe : notedBy (model X.prog X.w) X.A ce (fun e s' => cpX (model X.prog X.w) X.A X.xe (EP X pins σ Q) (.ref D) ce (.error e) s') = xe
  have I4 : Inv (blkX X s3 H3 scope ce fp xe) [] (wipe σ (own.map (·.2))) H3 s4 := I4.toTry xe
  have pg := pg xe
  have pt := pt xe
  have pe := pe xe fun pins' σ' H' s' u su I' c => by
    show xe u su
    rw [← hxe]
    exact pass_out hst hfr tk I3 cL cF f3 I' c
  have stat : ∀ {σ' : L2.St} {H' : Hp} {s' : Shared}, Inv (blkX X s3 H3 scope ce fp xe) [] σ' H' s' → (∀ b ∈ fp, H' b = none) → ∀ b ∈ fp, FpOk (blkX X s3 H3 scope ce fp xe) [] H' b := fun {σ' H' s'} I' hn b hb =>
    ⟨hn b hb, (I'.ok.exf b hb).1, I'.ok.exfs b hb, .inl hb, fun x c e => (I'.ok.exf b hb).2 x c e, fun p hp => absurd (show p ∈ ([] : List (Addr × Obj)) ++ [] from hp) (by simp)⟩
  have loop : codeAny (model X.prog X.w) X.A (.compLoop (.ListComp elt [⟨tg, iter, ifs, 0⟩] scope pos) 0 (.ref it) (.ref D) ce) (cpX (model X.prog X.w) X.A X.xe (EP X pins σ Q) (.ref D) ce) s4 := by
    refine compLoop_any (fun n s' => ∃ i H', Inv (blkX X s3 H3 scope ce fp xe) [] (wipe σ (own.map (·.2))) H' s' ∧ tn i s'.heap ∧ (∀ b ∈ fp, H' b = none) ∧ W i n H') ?_ m0 ⟨0, H3, I4, st4, nfp, w0⟩
    rintro n s5 ⟨i, H5, I5, st5, n5, w5⟩
    rw [hxe]
    rcases turn i n H5 w5 with ⟨stop, qq⟩ | ⟨go, Nx, hNx, step⟩
    · have td := Tn.done (blkX X s3 H3 scope ce fp xe) rfl rfl rfl hc i [] s5 _ H5 xe I5 (stat I5 n5) st5 stop
      refine thn td fun r s6 ⟨hr, I6⟩ => ?_
      subst hr
      have I7 : Inv X pins σ H5 s6 := I3.call' (ch := fp) I6.os I6.base I6.hok I6.bare fun b hb => ⟨(f3 b hb).1.2.2.2.1, (f3 b hb).1.2.1, (f3 b hb).1.2.2.2.2.1, (f3 b hb).1.2.2.2.2.2⟩
      have nC : H5 s3.heap.objs.size = none := by
        have z : H5 ce.locals = none := I6.free
        rw [cL] at z
        exact z
      obtain ⟨m, hn, _⟩ := I6.loc
      have hn : s6.heap.Ns ce.locals m := hn
      obtain ⟨k0, k1, k2, k3, k4, k5⟩ := I3.fpOk (Nat.le_refl _) nC
      exact ⟨m, hn, fun hz sb => ⟨.ref D, H5, I7.turned (t' := s6.toks) (fun b o hb e => (sb.2 b (by rw [cL]; exact hb)).trans e) k0 k1 k3 k4 k5, rfl, qq⟩⟩
    · have ti := Tn.item (blkX X s3 H3 scope ce fp xe) rfl rfl rfl hc i [] s5 _ H5 xe I5 (stat I5 n5) st5 go
      refine thn ti fun r s6 ⟨u, hr, h6⟩ => ?_
      subst hr
      refine thn h6 fun _ s7 ⟨x, H7, I7, r7, y7, st7, n7⟩ => ?_
      have I7' := I7.pinned (stat I7 n7) (Tn.obj _ _ st7)
      refine thn (pg.run _ s7 _ H7 x u _ I7' r7 (step x H7 y7)) fun _ s8 ⟨σ8, H8, I8, hw8, q8⟩ => ?_
      refine thn (pt.run _ s8 σ8 H8 _ I8 q8) fun b s9 ⟨H9, I9, q9⟩ => ?_
      have fin : ∀ {s' : Shared} {H' : Hp}, Inv (blkX X s3 H3 scope ce fp xe) ([] ++ pinsAt fp s7.heap) σ8 H' s' → Nx H' → ∃ m, m < n ∧ ∃ i H', Inv (blkX X s3 H3 scope ce fp xe) [] (wipe σ (own.map (·.2))) H' s' ∧ tn i s'.heap ∧ (∀ b ∈ fp, H' b = none) ∧ W i m H' := fun {s' H'} I' nx => by
        obtain ⟨m', hm, w'⟩ := hNx H' nx
        have pin' : ∀ b ∈ fp, ∀ o, s7.heap.get? b = some o → s'.heap.get? b = some o ∧ H' b = none := fun b hb o e =>
          let z := I'.pin (b, o) (List.mem_append_right _ (List.mem_append_right _ (mem_pinsAt hb e)))
          ⟨z.1, z.2.1⟩
        have hl : (wipe σ (own.map (·.2))).length = σ8.length := by rw [← hw8, wipe_length]
        refine ⟨m', hm, i + 1, H', (I'.unpinned (pins := [])).weak hl (fun j v e => ?_), Tn.keep _ _ _ st7 fun b hb o e => (pin' b hb o e).1, fun b hb => ?_, w'⟩
        · rw [← hw8] at e
          exact (wipe_some e).1
        · obtain ⟨o, e, _⟩ := Tn.obj _ _ st7 b hb
          exact (pin' b hb o e).2
      cases b with
      | false =>
        simp only [Bool.false_eq_true, if_false] at q9 ⊢
        exact fin I9 q9
      | true =>
        simp only [if_true] at q9 ⊢
        refine thn (pe.run _ s9 σ8 H9 _ I9 q9) fun z s10 ⟨yv, H10, I10, r10, acc, hD10, hz10, nx⟩ => ?_
        exact app_ok (X := blkX X s3 H3 scope ce fp xe) I10 hD10 hz10 r10 fun s11 I11 => fin I11 nx
  exact codeAny_compStart_list loop (Tn.self X.A 0 _ _ _ st4 loop)
end
end DL
set_option Elab.async false
set_option linter.all false
set_option maxRecDepth 100000
set_option maxHeartbeats 4000000
set_option autoImplicit false
/-! texts -/
namespace DL
open PySem L2
open LamX (ExtN Tabs TabS CodeO)
section
variable {X : Cx} {T : List (Addr × Str)} {cm : Nat → Value} {E : XK} {A B C : XE} {a b c e o tg iter : Expr} {pos apos p : Pos} {vs : List Nat} {σ : St} {H : Hp} {Q : VK}
theorem m1_imp {f : Str → D → Option D} {r : V → List V → Hp → VK → Prop} (hr : ∀ (z : Str) (y : V) (H1 : Hp) (M : Addr → Prop) (dy d : D), Msk M H1 → Dv X.K (mask H1 M) y dy → f z dy = some d → (∀ v H', Ext T H1 H' → Dv X.K (mask H' M) v d → Q v H') → r (.str z) [y] H1 Q)
    (h : tD X.K T cm E (xM f A B) σ H Q) : tM1 r (tD X.K T cm E A) (tD X.K T cm E B) σ H Q := by
  obtain ⟨M, H0, δ, rr, R, e, a⟩ := h
  rcases bnd_of e with ⟨x, ex, e⟩ | ⟨c, ex, rfl⟩
  · refine ⟨M, H0, δ, .ok x, R, ex, fun H1 x1 v hv => ?_⟩
    cases x with
    | str z =>
      cases hv
      have e : (bnd (B δ) fun y => lift (f z y)) = some rr := e
      refine ⟨⟨z, rfl⟩, ?_⟩
      rcases bnd_of e with ⟨y, ey, e⟩ | ⟨c, ey, rfl⟩
      · refine ⟨M, H0, δ, .ok y, R.grow x1, ey, fun H2 x2 u hu => ?_⟩
        cases q : f z y with
        | none => rw [q] at e; cases e
        | some d =>
          rw [q] at e
          cases e
          exact hr z u H2 (MM M σ δ) y d ((R.grow x1).grow x2).msk hu q fun w H3 x3 hw => a H3 (x1.trans (x2.trans x3)) w hw
      · exact ⟨M, H0, δ, .ex c, R.grow x1, ey, a.grow x1⟩
    | _ => cases e
  · exact ⟨M, H0, δ, .ex c, R, ex, a⟩
theorem mF_imp {f : Str → D → Option (List D)} {r : V → List V → Hp → VK → Prop} (hr : ∀ (z : Str) (y : V) (H1 : Hp) (M : Addr → Prop) (dy : D) (ds : List D), Msk M H1 → Dv X.K (mask H1 M) y dy → f z dy = some ds → (∀ p vs H', Ext T H1 H' → Fr H1 p → H' p = some (.lst vs) → DvAll X.K (mask H' (fun a => M a ∨ a = p)) vs ds → Q (.ref p) H') → r (.str z) [y] H1 Q)
    (h : tF X.K T cm E (xMF f A B) σ H Q) : tM1 r (tD X.K T cm E A) (tD X.K T cm E B) σ H Q := by
  obtain ⟨M, H0, δ, rr, R, e, a⟩ := h
  rcases bnd_of e with ⟨x, ex, e⟩ | ⟨c, ex, rfl⟩
  · refine ⟨M, H0, δ, .ok x, R, ex, fun H1 x1 v hv => ?_⟩
    cases x with
    | str z =>
      cases hv
      have e : (bnd (B δ) fun y => lift (f z y)) = some rr := e
      refine ⟨⟨z, rfl⟩, ?_⟩
      rcases bnd_of e with ⟨y, ey, e⟩ | ⟨c, ey, rfl⟩
      · refine ⟨M, H0, δ, .ok y, R.grow x1, ey, fun H2 x2 u hu => ?_⟩
        cases q : f z y with
        | none => rw [q] at e; cases e
        | some d =>
          rw [q] at e
          cases e
          exact hr z u H2 (MM M σ δ) y d ((R.grow x1).grow x2).msk hu q fun p ws H3 x3 hp he hw => a H3 (x1.trans (x2.trans x3)) p ws (Fr.back (x1.trans x2) hp) he hw
      · exact ⟨M, H0, δ, .ex c, R.grow x1, ey, a.grow x1⟩
    | _ => cases e
  · exact ⟨M, H0, δ, .ex c, R, ex, a⟩
theorem strs_all {K : PySem.W.Frag} {G : Hp} : ∀ (ys : List Str), DvAll K G (ys.map V.str) (ys.map PyData.str)
  | [] => .nil
  | y :: ys => .cons (.str y) (strs_all ys)
theorem df_split (ho : PE X o (tD X.K T cm E A)) (he : PE X e (tD X.K T cm E B)) (hs : starEach [e] X.env = [(false, eval e X.env)] := by rfl) (hbase : attributeBase o "split" X.env (eval o X.env) = eval o X.env := by rfl) (hline : (apos.endLine == pos.line) = true := by rfl) :
    PE X (.Call (.Attribute o "split" apos) [e] [] pos) (tF X.K T cm E (xMF splitD A B)) := PEimp (pe_split ho he hs hbase hline) fun σ H Q h => mF_imp (fun z y H1 M dy ds m hy q k => by
  cases hy with
  | str w =>
    have q : (if (w.length == 0) = false ∧ z.length + 2 ≤ sz then some ((PySem.Txt.split z w).map PyData.str) else none) = some ds := q
    split at q
    · rename_i hz
      cases q
      exact ⟨z, w, rfl, rfl, hz.1, by rw [← szLine]; exact hz.2, fun p hp => k p _ _ (Ext.fresh _ hp) (.of hp) upd_same (strs_all _)⟩
    · cases q
  | _ => cases q) h
theorem de_parti (ho : PE X o (tD X.K T cm E A)) (he : PE X e (tD X.K T cm E B)) (hs : starEach [e] X.env = [(false, eval e X.env)] := by rfl) (hbase : attributeBase o "partition" X.env (eval o X.env) = eval o X.env := by rfl) (hline : (apos.endLine == pos.line) = true := by rfl) :
    PE X (.Call (.Attribute o "partition" apos) [e] [] pos) (tD X.K T cm E (xM partiD A B)) := PEimp (pe_partition ho he hs hbase hline) fun σ H Q h => m1_imp (fun z y H1 M dy d m hy q k => by
  cases hy with
  | str w =>
    have q : (if (w.length == 0) = false ∧ z.length ≤ sz then some (PyData.tuple [.str (PySem.Txt.partition z w).1, .str (PySem.Txt.partition z w).2.1, .str (PySem.Txt.partition z w).2.2]) else none) = some d := q
    split at q
    · rename_i hz
      cases q
      exact ⟨z, w, rfl, rfl, hz.1, by rw [← szLine]; exact hz.2, fun p hp => k _ _ (Ext.fresh _ hp) (dv_newT m hp (.cons (.str _) (.cons (.str _) (.cons (.str _) .nil))))⟩
    · cases q
  | _ => cases q) h
theorem strs_of {K : PySem.W.Frag} {G : Hp} : ∀ {vs : List V} {ds : List D} {ys : List Str}, DvAll K G vs ds → strsOf ds = some ys → vs = ys.map V.str
  | _, _, _, .nil, e => by cases e; rfl
  | v :: vs, d :: ds, ys, .cons h r, e => by
    cases h with
    | str x =>
      have e : (strsOf ds).map (x :: ·) = some ys := e
      cases q : strsOf ds with
      | none => rw [q] at e; cases e
      | some zs =>
        rw [q] at e
        cases e
        rw [strs_of r q]
        rfl
    | _ => cases e
theorem de_join (ho : PE X o (tD X.K T cm E A)) (he : PE X e (tD X.K T cm E B)) (hs : starEach [e] X.env = [(false, eval e X.env)] := by rfl) (hbase : attributeBase o "join" X.env (eval o X.env) = eval o X.env := by rfl) (hline : (apos.endLine == pos.line) = true := by rfl) :
    PE X (.Call (.Attribute o "join" apos) [e] [] pos) (tD X.K T cm E (xM joinD A B)) := PEimp (pe_join ho he hs hbase hline) fun σ H Q h => m1_imp (fun z y H1 M dy d m hy q k => by
  cases hy with
  | @lst l xs ds hl hds =>
    have q : ((strsOf ds).bind fun ys => if (ys.map (·.length)).sum + ys.length * z.length ≤ 16777216 then some (PyData.str (PySem.Txt.join z ys)) else none) = some d := q
    cases q2 : strsOf ds with
    | none => rw [q2] at q; cases q
    | some ys =>
      rw [q2] at q
      have q : (if (ys.map (·.length)).sum + ys.length * z.length ≤ 16777216 then some (PyData.str (PySem.Txt.join z ys)) else none) = some d := q
      split at q
      · rename_i hz
        cases q
        exact ⟨z, l, ys, rfl, rfl, .inl (by rw [← strs_of hds q2]; exact sl_un hl), hz, k _ _ (Ext.refl T _) (.str _)⟩
      · cases q
  | _ => cases q) h
theorem de_ixS (ha : PE X a (tD X.K T cm E A)) (hb : PE X b (tD X.K T cm E B)) (hs : PlainIx b) : PE X (.Subscript a b pos) (tD X.K T cm E (x2 ixS A B)) :=
  PEimp (pe_ix ix_str ha hb hs) fun σ H Q h => two_imp (fun x y H Q z => by
    obtain ⟨M, dx, dy, d, m, hx, hy, q, k⟩ := z
    cases hx with
    | str z =>
      cases hy with
      | int i =>
        have q : (if z.length ≤ sz then (atI z.cps.toList i).map fun c => PyData.str ⟨#[c]⟩ else none) = some d := q
        split at q
        · rename_i hz
          cases q2 : atI z.cps.toList i with
          | none => rw [q2] at q; cases q
          | some c =>
            rw [q2] at q
            cases q
            exact ⟨z, i, c, rfl, rfl, by rw [← szLine]; exact hz, q2, k _ _ (Ext.refl T _) (.str _)⟩
        · cases q
      | _ => cases q
    | _ => cases q) h
variable {lo hi : Option Expr} {Lo Hi : XO}
theorem de_sliceS {p2 : Pos} (he : PE X e (tD X.K T cm E A)) (hl : PO X lo (tP X.K T cm E Lo)) (hu : PO X hi (tP X.K T cm E Hi)) : PE X (.Subscript e (.Slice lo hi none p2) pos) (tD X.K T cm E (xSliceS A Lo Hi)) :=
  PEimp (pe_slice sl_str he hl hu) fun σ H Q h => by
    obtain ⟨M, H0, δ, r, R, e, a⟩ := h
    rcases bnd_of e with ⟨x, ex, e⟩ | ⟨c, ex, rfl⟩
    · refine ⟨M, H0, δ, .ok x, R, ex, fun H1 x1 v hv => ?_⟩
      rcases bnd_of e with ⟨y, ey, e⟩ | ⟨c, ey, rfl⟩
      · refine ⟨M, H0, δ, .ok y, R.grow x1, ey, fun H2 x2 => ?_⟩
        rcases bnd_of e with ⟨z, ez, e⟩ | ⟨c, ez, rfl⟩
        · refine ⟨M, H0, δ, .ok z, (R.grow x1).grow x2, ez, fun H3 x3 => ?_⟩
          cases x with
          | str w =>
            cases hv
            have e : lift (if w.length ≤ sz then some (PyData.str (L2.cutS w y z)) else none) = some r := e
            split at e
            · rename_i hz
              cases e
              exact ⟨w, rfl, by rw [← szLine]; exact hz, a H3 (x1.trans (x2.trans x3)) _ (.str _)⟩
            · cases e
          | _ => cases e
        · exact ⟨M, H0, δ, .ex c, (R.grow x1).grow x2, ez, (a.grow x1).grow x2⟩
      · exact ⟨M, H0, δ, .ex c, R.grow x1, ey, a.grow x1⟩
    · exact ⟨M, H0, δ, .ex c, R, ex, a⟩
theorem it_str {K : PySem.W.Frag} {M : Addr → Prop} {H0 : Hp} {z : Str} : ItOk K T M H0 (Its z) (z.cps.toList.map fun c => PyData.str ⟨#[c]⟩) := fun i H2 M2 x m hm => by
  rw [List.length_map]
  refine ⟨fun h => ⟨show i < z.cps.size from by simpa using h, fun y H3 hy => ?_⟩, fun h => show z.cps.size ≤ i from by simp at h; omega⟩
  obtain ⟨rfl, c, hc, rfl⟩ := hy
  refine ⟨Ext.refl T _, .str ⟨#[c]⟩, ?_, .str _⟩
  rw [List.getElem?_map, Array.getElem?_toList, hc]
  rfl
theorem di_str (hl : PE X iter (tD X.K T cm E A)) : PI X tg iter (tI X.K T cm E (xIterS A)) := PIimp (pi_str (tg := tg) hl) fun σ H R h => by
  obtain ⟨M, H0, δ, r, Rr, e, a⟩ := h
  rcases bnd_of e with ⟨x, ex, e⟩ | ⟨c, ex, rfl⟩
  · refine ⟨M, H0, δ, .ok x, Rr, ex, fun H1 x1 v hv => ?_⟩
    cases x with
    | str z =>
      cases hv
      have e : lift (if z.length ≤ sz then some (z.cps.toList.map fun c => PyData.str ⟨#[c]⟩) else none) = some r := e
      split at e
      · rename_i hz
        cases e
        refine ⟨z, rfl, a H1 x1 _ ?_ it_str⟩
        rw [List.length_map]
        exact hz
      · cases e
    | _ => cases e
  · exact ⟨M, H0, δ, .ex c, Rr, ex, a⟩
/-! ### comprehensions that an exception may leave -/
def joinR (ys : List D) : Rs (List D) → Rs (List D)
  | .ok zs => .ok (ys ++ zs)
  | .ex c => .ex c
theorem joinR_join (ys zs : List D) (r : Rs (List D)) : joinR ys (joinR zs r) = joinR (ys ++ zs) r := by
  cases r with
  | ok ws => show Rs.ok _ = Rs.ok _; rw [List.append_assoc]
  | ex c => rfl
theorem lcGoX_cons {g : XG} {t : XT} {f : XE} {δ : DE} {x : D} {xs : List D} {r : Rs (List D)} (h : lcGoX g t f δ (x :: xs) = some r) : ∃ δ1, g x δ = some δ1 ∧
    ((t δ1 = some (.ok true) ∧ ((∃ y r', f δ1 = some (.ok y) ∧ lcGoX g t f δ xs = some r' ∧ r = joinR [y] r') ∨ ∃ c, f δ1 = some (.ex c) ∧ r = .ex c)) ∨ (t δ1 = some (.ok false) ∧ lcGoX g t f δ xs = some r)) := by
  unfold lcGoX at h
  split at h
  · cases h
  · rename_i δ1 q
    refine ⟨δ1, q, ?_⟩
    split at h
    · rename_i q1
      refine .inl ⟨q1, ?_⟩
      rcases bnd_of h with ⟨y, ey, h⟩ | ⟨c, ey, rfl⟩
      · refine .inl ⟨y, ?_⟩
        rcases bnd_of h with ⟨ys, e2, h⟩ | ⟨c, e2, rfl⟩
        · cases h; exact ⟨.ok ys, ey, e2, rfl⟩
        · exact ⟨.ex c, ey, e2, rfl⟩
      · exact .inr ⟨c, ey, rfl⟩
    · rename_i q1
      exact .inr ⟨q1, h⟩
    · cases h
theorem lcX_imp {it : XL} {g : XG} {t : XT} {f : XE} {σ : St} {H : Hp} {Q : VK} (h : tF X.K T cm E (xLcX it g t f vs) σ H Q) : tLc (tI X.K T cm E it) (tG X.K T vs g) (tT X.K T cm E0 t) (tD X.K T cm E f) vs σ H Q := by
  obtain ⟨M, H0, δ, r, R, e, a⟩ := h
  rcases bnd_of e with ⟨xs, ex, q⟩ | ⟨c, ex, rfl⟩
  · refine ⟨M, H0, δ, .ok xs, R, ex, fun H1 x1 J hlen hJ D hD => ?_⟩
    have R1 := R.grow x1
    have t1 := R1.tab
    refine ⟨fun i m H2 => m = xs.length - i ∧ i ≤ xs.length ∧ Ext T H1 H2 ∧ ∃ acc ysi ri, H2 D = some (.lst acc) ∧ DvAll X.K (mask H2 (fun b => MM M σ δ b ∨ b = D)) acc ysi ∧ lcGoX g t f (wipeD δ vs) (xs.drop i) = some ri ∧ r = joinR ysi ri ∧ acc.length ≤ i,
      ⟨xs.length, by simp, Nat.zero_le _, Ext.fresh _ hD, [], [], r, upd_same, .nil, q, by cases r <;> rfl, Nat.le_refl _⟩, ?_⟩
    rintro i m H2 ⟨rfl, hi, x2, acc, ysi, ri, hacc, hdv, hgo, hys, hal⟩
    have mM : Msk (fun b => MM M σ δ b ∨ b = D) H2 := fun b z => by
      rcases z with z | z
      · obtain ⟨o, e, n⟩ := R1.mm z
        exact ⟨o, x2.keep b o e n, n⟩
      · subst z
        exact ⟨_, hacc, nt_lst _⟩
    obtain ⟨j1, j2⟩ := hJ i H2 (fun b => MM M σ δ b ∨ b = D) ⟨(mask_sub H1 _).trans x2.keep, fun _ => x2.tabs t1⟩ mM (fun b z => by
      rcases z with z | z
      · exact .inr fun o e _ => by rw [mask_in z] at e; cases e
      · refine .inr fun o e _ => ?_
        subst z
        have := (of_mask e).2
        rw [hD] at this; cases this)
    by_cases hlt : i < xs.length
    · refine .inr ⟨(j1 hlt).1, fun H3 => ∃ m', m' < xs.length - i ∧ m' = xs.length - (i + 1) ∧ i + 1 ≤ xs.length ∧ Ext T H1 H3 ∧ ∃ acc ysi ri, H3 D = some (.lst acc) ∧ DvAll X.K (mask H3 (fun b => MM M σ δ b ∨ b = D)) acc ysi ∧ lcGoX g t f (wipeD δ vs) (xs.drop (i + 1)) = some ri ∧ r = joinR ysi ri ∧ acc.length ≤ i + 1, fun H3 h => h, fun x H3 hy => ?_⟩
      obtain ⟨x3, d, ed, hd⟩ := (j1 hlt).2 x H3 hy
      have edrop : xs.drop i = d :: xs.drop (i + 1) := by
        rw [List.drop_eq_getElem_cons hlt]
        rw [List.getElem?_eq_getElem hlt] at ed
        cases ed
        rfl
      rw [edrop] at hgo
      obtain ⟨δ1, eg, hh⟩ := lcGoX_cons hgo
      have hacc3 : H3 D = some (.lst acc) := x3.keep D _ hacc (nt_lst _)
      have RB := R1.block hD (x2.trans x3) hacc3 vs
      have mmB : ∀ b, MM (fun b => MM M σ δ b ∨ b = D) (wipe σ vs) (wipeD δ vs) b → MM M σ δ b ∨ b = D := fun b z => by
        rcases z with z | z
        · exact z
        · exact absurd z ows_wipe
      refine ⟨_, H3, wipeD δ vs, d, δ1, RB, dp_ext (mask_le mmB (ExtN.refl H3)) hd, eg, fun σ4 H4 R4 x4 w4 z4 => ⟨w4.trans (wipe_wipe σ vs), ?_⟩⟩
      rcases hh with ⟨et, hh⟩ | ⟨et, hgo'⟩
      · refine ⟨_, H3, δ1, .ok true, R4, et, fun H5 x5 => ?_⟩
        show tD X.K T cm E f σ4 H5 _
        rcases hh with ⟨y, ri', ef, hgo', rfl⟩ | ⟨c, ef, rfl⟩
        · refine ⟨_, H3, δ1, .ok y, R4.grow x5, ef, fun H6 x6 v hv => ?_⟩
          have xx : Ext T H2 H6 := x3.trans (x4.trans (x5.trans x6))
          have hacc6 : H6 D = some (.lst acc) := xx.keep D _ hacc (nt_lst _)
          have mw : ExtN (mask H6 (fun b => MM M σ δ b ∨ b = D)) (mask (upd H6 D (.lst (acc ++ [v]))) (fun b => MM M σ δ b ∨ b = D)) := fun b o e n => by
            obtain ⟨nb, e'⟩ := of_mask e
            rw [mask_out nb, upd_ne (fun z => nb (.inr z))]
            exact e'
          refine ⟨acc, hacc6, by rw [← szLine]; omega, xs.length - (i + 1), by omega, rfl, by omega, ⟨fun b o e n => ?_, fun _ => tabs_write hacc6 (nx_lst acc) (xx.tabs (x2.tabs t1))⟩, acc ++ [v], ysi ++ [y], ri', upd_same, ?_, hgo', by rw [hys, joinR_join], by rw [List.length_append]; simp; omega⟩
          · have hb : b ≠ D := fun z => by subst z; rw [hD] at e; cases e
            rw [upd_ne hb]
            exact xx.keep b o (x2.keep b o e n) n
          · exact dpAll_app (dpAll_ext mw (xx.dvs hdv)) (.cons (dp_ext mw (dp_ext (mask_le (fun b z => .inl z) (ExtN.refl H6)) hv)) .nil)
        · have hys : r = .ex c := hys
          subst hys
          exact ⟨_, H3, δ1, .ex c, R4.grow x5, ef, fun H6 x6 => a H6 (x1.trans (x2.trans (x3.trans (x4.trans (x5.trans x6)))))⟩
      · refine ⟨_, H3, δ1, .ok false, R4, et, fun H5 x5 => ?_⟩
        have xx : Ext T H2 H5 := x3.trans (x4.trans x5)
        show ∃ m', _
        exact ⟨xs.length - (i + 1), by omega, rfl, by omega, x2.trans xx, acc, ysi, ri, xx.keep D _ hacc (nt_lst _), xx.dvs hdv, hgo', hys, by omega⟩
    · have ei : i = xs.length := by omega
      refine .inl ⟨j2 ei, ?_⟩
      rw [ei, List.drop_length] at hgo
      cases hgo
      have hys : r = .ok (ysi ++ []) := hys
      rw [List.append_nil] at hys
      subst hys
      exact a H2 (x1.trans x2) D acc (Fr.back x1 (.of hD)) hacc hdv
  · exact ⟨M, H0, δ, .ex c, R, ex, a⟩
theorem df_lcX {elt : Expr} {ifs : List Expr} {scope : Scope} {own : List (Str × Nat)} {it : XL} {g : XG} {t : XT} {f : XE} (hc : X.calm = true) (hst : X.stack = X.env :: X.outer) (hfr : X.env.frame = some X.env.locals) (tk : L2N.Takes X (fun c d _ H => E c d H)) (hN : X.N.Nodup) (hi : PI X tg iter (tI X.K T cm E it)) (ok : BlkOk X.N X.env.scope scope own)
    (hg : ∀ (s : Shared) (H : Hp) (C : Addr) (cl : List (Str × Addr)) (fp : List Addr) (xe : Value → Shared → Prop), PG (blkX X s H scope (compEnvC scope cl C X.env) fp xe) tg (tG X.K T (own.map (·.2)) g)) (ht : ∀ (s : Shared) (H : Hp) (C : Addr) (cl : List (Str × Addr)) (fp : List Addr) (xe : Value → Shared → Prop), PTs (blkX X s H scope (compEnvC scope cl C X.env) fp xe) ifs (tT X.K T cm E0 t))
    (he : ∀ (s : Shared) (H : Hp) (C : Addr) (cl : List (Str × Addr)) (fp : List Addr) (xe : Value → Shared → Prop), PassN (blkX X s H scope (compEnvC scope cl C X.env) fp xe) E → PE (blkX X s H scope (compEnvC scope cl C X.env) fp xe) elt (tD X.K T cm E f)) (hs : ∀ x, foldedSetIterable iter X.env x = pure x := by intro _; rfl) :
    PE X (.ListComp elt [⟨tg, iter, ifs, 0⟩] scope pos) (tF X.K T cm E (xLcX it g t f (own.map (·.2)))) := PEimp (pe_lcX hc hst hfr tk hN hi ok hg ht he hs) fun _ _ _ h => lcX_imp h
/-- a def called in such a block -/
theorem de_fnP {L : XL} {es : List Expr} {k j : Nat} {x : Str} {ps : List Str} {F : List D → Pr D} (G : OkD X.prog X.w X.K X.mg T cm j x ps F) (hr : Room k X.A) (hj : j ≤ k) (hg : Gl X x) (tk : PassN X E) (ha : PA X (e :: es) (tL X.K T cm E L)) (hL : xLen L ps.length) (hdb : (x == ("__debug__" : Str)) = false := by decide)
    (he : starEach (e :: es) X.env = (false, eval e X.env) :: starEach es X.env := by rfl) (hpl : (backTo pos (starEach es X.env)).any (·.1) = false := by rfl) :
    PE X (.Call (.Name x p) (e :: es) [] pos) (tD X.K T cm E (xCall F L)) := by
  obtain ⟨f, fd, h1, h2, h3, h5⟩ := G
  exact PEimp (pe_call (E := E) (h5 X.base) (hr.mono hj) hg h1 h2 (fun s us _ hl => by
    rw [List.append_nil] at hl ⊢
    exact h3 s us hl) .nil tk ha hdb he hpl) fun σ H Q h => call_imp (ps := ps) (h5 X.base).len rfl hL h
end
end DL
set_option Elab.async false
set_option linter.all false
set_option maxRecDepth 100000
set_option maxHeartbeats 4000000
set_option autoImplicit false
/-! xs[:0:-1]; text.replace(y, z, 1) in a list behind a written text -/
namespace DL
open PySem PySem.Spec PyProof.Rows L2
open LamX (ExtN Tabs TabS CodeO)
theorem pick_back (items : Array Value) : slicePick items none (some 0) (some (-1)) = (items.toList.drop 1).reverse.toArray := by
  unfold slicePick
  by_cases h : items.size = 0
  · have e : items = #[] := Array.eq_empty_of_size_eq_zero h
    subst e
    rfl
  · obtain ⟨n, hn⟩ := Nat.exists_eq_succ_of_ne_zero h
    have hb : sliceBounds none (some 0) (some (-1)) items.size = ((n : Int), 0, -1) := by
      rw [hn]
      simp [sliceBounds]
      omega
    rw [hb]
    show ((sliceRange (n : Int) 0 (-1)).filterMap (items[·]?)).toArray = _
    have hr : sliceRange (n : Int) 0 (-1) = ((List.range n).map (1 + ·)).reverse := by
      unfold sliceRange
      have h1 : ¬ ((-1 : Int) > 0) := by decide
      by_cases h2 : (n : Int) > 0
      · have e : ((n : Int) - 0 - -1 - 1) / (- -1) = (n : Int) := by
          rw [show (- -1 : Int) = 1 by decide, Int.ediv_one]
          omega
        simp only [h1, if_false, h2, if_true, e, Int.toNat_natCast]
        apply List.ext_getElem
        · simp
        · intro i a b
          simp at a b
          simp
          omega
      · have e : n = 0 := by omega
        subst e
        simp
    rw [hr, List.filterMap_reverse, pick_run]
    congr 2
    rw [List.take_of_length_le]
    rw [List.length_drop, Array.length_toList]
    omega
section
variable {X : Cx} {T : List (Addr × Str)} {cm : Nat → Value} {E : XK} {A B : XE} {L : XL} {e o : Expr} {es : List Expr} {pos : Pos}
theorem pe_backL {te : TE} {k k0 : Nat} {p0 p1 p2 p3 : Pos} (he : PE X e te) : PE X (.Subscript e (.Slice none (some (.Constant (.int 0) k0 p0)) (some (.UnaryOp .USub (.Constant (.int 1) k p1) p2)) p3) pos) (fun σ H Q => te σ H fun x H1 => ∃ a xs, x = .ref a ∧ SqL X.K H1 a xs ∧ ∀ p, H1 p = none → Q (.ref p) (upd H1 p (.lst (xs.drop 1).reverse))) := by
  refine ⟨fun pins s σ H Q I h => ?_⟩
  refine Subscript_ (thn (he.run pins s σ H _ I h) fun v s1 ⟨x, H1, I1, r1, q1⟩ => ?_)
  obtain ⟨a, xs, ex, hx, q⟩ := q1
  subst ex
  cases r1
  have hst : PO X (some (.UnaryOp .USub (.Constant (.int 1) k p1) p2)) (tPart (tUn (rU fun i => .int (-i)) (tC (.int 1)))) := po_some (pe_un un_neg pe_int)
  have hup : PO X (some (.Constant (.int 0) k0 p0)) (tPart (tC (.int 0))) := po_some pe_int
  refine wpAny_Slice (thn (po_none.run pins s1 σ H1 (fun o H2 => o = none ∧ H2 = H1) I1 ⟨rfl, rfl⟩) fun vl s2 ⟨l, H2, I2, pl, el, e2⟩ => ?_)
  subst el e2
  refine thn (hup.run pins s2 σ H2 (fun o H3 => o = some 0 ∧ H3 = H2) I2 ⟨0, rfl, rfl, rfl⟩) fun vu s3 ⟨u, H3, I3, pu, eu, e3⟩ => ?_
  subst eu e3
  refine thn (hst.run pins s3 σ H3 (fun o H4 => o = some (-1) ∧ H4 = H3) I3 ⟨1, rfl, -1, rfl, rfl, rfl⟩) fun vs s4 ⟨oo, H4, I4, ps, eo, e4⟩ => ?_
  subst eo e4
  have I5 : Inv X pins σ H4 { s4 with heap := s4.heap.push { cls := .type "slice", data := .fields #[vl, vu, vs] } } := I4.kept (t' := s4.toks) fun b ob q => Heap.get?_push_of_some _ q
  obtain ⟨its, r, ht, hz⟩ := I5.list hx
  have hlen := r.length
  show wpAny (model X.prog X.w) X.A (subscriptTail e (.Slice none (some (.Constant (.int 0) k0 p0)) (some (.UnaryOp .USub (.Constant (.int 1) k p1) p2)) p3) (.ref a) (.ref s4.heap.objs.size)) (EP X pins σ Q) X.xe { s4 with heap := s4.heap.push { cls := .type "slice", data := .fields #[vl, vu, vs] } }
  refine tail_any (ops := [.ref a, .ref s4.heap.objs.size]) ht.isList.typeIs (PySem.slot_list_getitem.lookup) ?_ (by with_unfolding_all rfl)
  refine wpAny_getItem_list_slice ht.isList (Heap.IsSliceOf.new _ vl vu vs) pl pu ps (by decide) ?_ (by rw [List.size_toArray]; omega)
  rw [pick_back]
  refine ⟨.ref _, _, I5.laid (t' := s4.toks) (o := .lst (xs.drop 1).reverse) (fun b ob q => Heap.get?_push_of_some _ q) (Nat.le_refl _) ?_, rfl, q _ (I5.hok.fresh (Nat.le_refl _))⟩
  exact ⟨by rw [List.length_reverse, List.length_drop]; omega, _, 0, (r.drop 1).reverse, Heap.get?_push_size _ rfl⟩
theorem df_back {k k0 : Nat} {p0 p1 p2 p3 : Pos} (he : PE X e (tD X.K T cm E A)) : PE X (.Subscript e (.Slice none (some (.Constant (.int 0) k0 p0)) (some (.UnaryOp .USub (.Constant (.int 1) k p1) p2)) p3) pos) (tF X.K T cm E (xF1 backD A)) :=
  PEimp (pe_backL he) fun σ H Q h => fr1_imp (r := fun x H1 Q => ∃ a xs, x = .ref a ∧ SqL X.K H1 a xs ∧ ∀ p, H1 p = none → Q (.ref p) (upd H1 p (.lst (xs.drop 1).reverse))) (fun x H Q z => by
    obtain ⟨M, dx, ds, m, hx, e, q⟩ := z
    cases hx with
    | @lst a xs es ha hes =>
      cases e
      exact ⟨a, xs, rfl, (sl_un ha), fun p hp => q p _ _ (Ext.fresh _ hp) (.of hp) upd_same (fresh_all hp (dpAll_rev (dpAll_drop 1 hes)))⟩
    | _ => cases e) h
end
/-! ### replace -/
section
open PySem.Builtin.Str
theorem gives_repl1 (x y z : Str) (t u v wt : Tok) (h0 : (u == 0 || v == 0) = false) (huv : (u == v) = false) (hyz : (y == z) = false) (hl : tooLong (x.length + (occurrences x y 0 x.length 1).length * z.length) = false) :
    Gives (Builtin.«str.replace» ⟨[.str x t, .str y u, .str z v, .int 1 wt], []⟩) (if ((occurrences x y 0 x.length 1).isEmpty || (y.length == 0 && z.length == 0)) = true then .val (.str x t) else .str (glued z (partsBetween x (occurrences x y 0 x.length 1) y.length))) := by
  show Gives (if ((occurrences x y 0 x.length 1).isEmpty || (y.length == 0 && z.length == 0)) = true then (do rule "str.replace.nothing"; PySem.ret (Value.str x t)) else (do
    let same ← isSame (.str y u) (.str z v)
    if same = true then (do rule "str.replace.old-is-new"; PySem.ret (Value.str x t)) else
      if tooLong (x.length + (occurrences x y 0 x.length 1).length * z.length) = true then unsupported "str.replace:memory" else retStr (glued z (partsBetween x (occurrences x y 0 x.length 1) y.length)))) _
  cases hc : ((occurrences x y 0 x.length 1).isEmpty || (y.length == 0 && z.length == 0))
  · rw [isSame_str_other y z u v h0 huv hyz, hl]
    exact .of_eq rfl
  · exact .rule (.of_eq rfl)
theorem occ_one (x y : Str) : occurrences x y 0 x.length 1 = [] ∨ ∃ i, occurrences x y 0 x.length 1 = [i] := by
  have h := StrLaws.occ_length_le x y 0 x.length 1
  cases q : occurrences x y 0 x.length 1 with
  | nil => exact .inl rfl
  | cons i r =>
    rw [q] at h
    cases r with
    | nil => exact .inr ⟨i, rfl⟩
    | cons j r => simp at h
theorem glued_two (z a b : Str) : glued z [a, b] = a ++ z ++ b := rfl
theorem repl1_len (x y z : Str) : (glued z (partsBetween x (occurrences x y 0 x.length 1) y.length)).length ≤ x.length + x.length + z.length := by
  rcases occ_one x y with e | ⟨i, e⟩
  · rw [e]
    show (strSub x 0 x.length).length ≤ _
    rw [TL.len_tl, TL.tl_strSub, TL.len_tl x]
    simp
    omega
  · rw [e]
    show (glued z [strSub x 0 i, strSub x (i + y.length) x.length]).length ≤ _
    rw [glued_two, TL.len_tl, TL.tl_append, TL.tl_append, TL.tl_strSub, TL.tl_strSub, TL.len_tl x, TL.len_tl z]
    simp only [List.length_append, List.length_take, List.length_drop]
    omega
end
section
variable {X : Cx} {T : List (Addr × Str)} {cm : Nat → Value} {E : XK} {A B : XE} {L : XL} {e o a : Expr} {es : List Expr} {pos apos : Pos}
theorem pet_repl1 {to : TE} {y z : Str} {j k l : Nat} {c0 c1 c2 : Pos} (ho : PE X o to) (hyz : (y == z) = false := by decide)
    (hst : starEach [.Constant (.str y) j c0, .Constant (.str z) k c1, .Constant (.int 1) l c2] X.env = [(false, eval (.Constant (.str y) j c0) X.env), (false, eval (.Constant (.str z) k c1) X.env), (false, eval (.Constant (.int 1) l c2) X.env)] := by rfl)
    (hbase : attributeBase o "replace" X.env (eval o X.env) = eval o X.env := by rfl) (hline : (apos.endLine == pos.line) = true := by rfl) :
    PET X (.Call (.Attribute o "replace" apos) [.Constant (.str y) j c0, .Constant (.str z) k c1, .Constant (.int 1) l c2] [] pos) (fun σ H Q => to σ H fun v H1 => ∃ x, v = .str x ∧ x.length + z.length ≤ 1000000 ∧ Q (.str (repl1 x y z)) H1) := by
  intro pins s σ H Q h0 I h
  refine wpAny_Call_method_lateS hbase (by rw [hst]; rfl) hline ?_
  rw [hst]
  refine wpAny_mono (PySem.wpAny_toks (ho.run pins s σ H _ I h)) (fun v s1 q => ?_) fun _ _ z => z.2
  obtain ⟨hk, v', H1, I1, r1, x, e1, hb, q⟩ := q
  subst e1
  obtain ⟨tx, e2⟩ := r1
  subst e2
  refine ⟨"str", _, PySem.F.plainAttrs_str, PySem.F.slot_str_replace, PySem.F.type_str_replace, typeIs_str _ _ _, (fun _ e => nomatch e), Calls.callWith_builtin rfl (Calls.evalArgs_plain (Calls.spliced_cons ?_))⟩
  refine Calls.Constant_str (k := j) (pos := c0) (Calls.spliced_cons (Calls.Constant_str (k := k) (pos := c1) (Calls.spliced_cons (wpAny_Constant_int (k := l) (pos := c2) (Calls.spliced_nil ?_)))))
  have hoc : (Builtin.Str.occurrences x y 0 x.length 1).length ≤ 1 := StrLaws.occ_length_le x y 0 x.length 1
  have hl : Builtin.Str.tooLong (x.length + (Builtin.Str.occurrences x y 0 x.length 1).length * z.length) = false := by
    have h2 : (Builtin.Str.occurrences x y 0 x.length 1).length * z.length ≤ 1 * z.length := Nat.mul_le_mul_right _ hoc
    unfold Builtin.Str.tooLong sizeLine
    exact decide_eq_false (by omega)
  have n1 : (s1.toks == 0) = false := by
    have : s1.toks ≠ 0 := by omega
    simpa using this
  have n2 : (s1.toks + 1 == 0) = false := by simp
  refine call_gives F.slot_str_replace (typeIs_str _ _ _) F.entry_str_replace (F.args_str_replace_4 _ _ _ _) (gives_repl1 x y z tx s1.toks (s1.toks + 1) _ (by rw [n1, n2]; rfl) (by simp) hyz hl) ?_
  have q' : ∀ (t' : Tok) (k' : Nat), EP X pins σ Q (.str (repl1 x y z) t') { s1 with toks := k' } := fun t' k' => ⟨.str (repl1 x y z), H1, I1.tok k', ⟨t', rfl⟩, q⟩
  unfold repl1 at q'
  cases hc : ((Builtin.Str.occurrences x y 0 x.length 1).isEmpty || (y.length == 0 && z.length == 0))
  · rw [hc] at q'
    simp only [Bool.false_eq_true, if_false] at q' ⊢
    refine ⟨?_, q' _ _⟩
    have := repl1_len x y z
    rw [sizeLine_eq]
    omega
  · rw [hc] at q'
    simp only [if_true] at q' ⊢
    exact q' _ _
theorem det_repl1 {y z : Str} {j k l : Nat} {c0 c1 c2 : Pos} (ho : PE X o (tD X.K T cm E A)) (hyz : (y == z) = false := by decide)
    (hst : starEach [.Constant (.str y) j c0, .Constant (.str z) k c1, .Constant (.int 1) l c2] X.env = [(false, eval (.Constant (.str y) j c0) X.env), (false, eval (.Constant (.str z) k c1) X.env), (false, eval (.Constant (.int 1) l c2) X.env)] := by rfl)
    (hbase : attributeBase o "replace" X.env (eval o X.env) = eval o X.env := by rfl) (hline : (apos.endLine == pos.line) = true := by rfl) :
    PET X (.Call (.Attribute o "replace" apos) [.Constant (.str y) j c0, .Constant (.str z) k c1, .Constant (.int 1) l c2] [] pos) (tD X.K T cm E (xRepl A y z)) := fun pins s σ H Q h0 I h => by
  refine pet_repl1 ho hyz hst hbase hline pins s σ H Q h0 I ?_
  obtain ⟨M, H0, δ, r, R, e, a⟩ := h
  rcases bnd_of e with ⟨x, ex, e⟩ | ⟨c, ex, rfl⟩
  · refine ⟨M, H0, δ, .ok x, R, ex, fun H1 x1 v hv => ?_⟩
    cases x with
    | str w =>
      cases hv
      have e : (if w.length + z.length ≤ 1000000 then ret (PyData.str (repl1 w y z)) else none) = some r := e
      split at e
      · rename_i hz
        cases e
        exact ⟨w, rfl, hz, a H1 x1 _ (.str _)⟩
      · cases e
    | _ => cases e
  · exact ⟨M, H0, δ, .ex c, R, ex, a⟩
theorem det_of {te : TE} (h : PE X e te) : PET X e te := fun pins s σ H Q _ I q => h.run pins s σ H Q I q
theorem dat_of {t : TA} (h : PA X es t) : PAT X es t := fun p pins s σ H Q _ I q => h.run p pins s σ H Q I q
theorem tcons_imp {σ : L2.St} {H : Hp} {Q : List V → Hp → Prop} (h : tL X.K T cm E (xCons A L) σ H Q) : tCons (tD X.K T cm E A) (tL X.K T cm E L) σ H Q := by
  obtain ⟨M, H0, δ, r, R, e, a⟩ := h
  rcases bnd_of e with ⟨x, ex, e⟩ | ⟨c, ex, rfl⟩
  · refine ⟨M, H0, δ, .ok x, R, ex, fun H1 x1 v hv => ?_⟩
    rcases bnd_of e with ⟨y, ey, e⟩ | ⟨c, ey, rfl⟩
    · cases e
      exact ⟨M, H0, δ, .ok y, R.grow x1, ey, fun H2 x2 u hu => a H2 (x1.trans x2) _ (.cons (x2.dv hv) hu)⟩
    · exact ⟨M, H0, δ, .ex c, R.grow x1, ey, a.grow x1⟩
  · exact ⟨M, H0, δ, .ex c, R, ex, a⟩
theorem dat_cons (ha : PET X e (tD X.K T cm E A)) (hr : PAT X es (tL X.K T cm E L)) (hs : starEach (e :: es) X.env = (false, eval e X.env) :: starEach es X.env := by rfl) : PAT X (e :: es) (tL X.K T cm E (xCons A L)) := fun p pins s σ H Q h0 I h => pat_cons ha hr hs p pins s σ H Q h0 I (tcons_imp h)
/-- behind a + "text" a token is out -/
theorem da_consP {op : Operator} {f : D → D → Option D} {c : Str} {j : Nat} {cp bp : Pos} (ho : OpR X (binaryOp op) (rD2 X.K T f)) (ha : PE X a (tD X.K T cm E A)) (hr : PAT X es (tL X.K T cm E L))
    (hs : starEach (.BinOp a op (.Constant (.str c) j cp) bp :: es) X.env = (false, eval (.BinOp a op (.Constant (.str c) j cp) bp) X.env) :: starEach es X.env := by rfl) : PA X (.BinOp a op (.Constant (.str c) j cp) bp :: es) (tL X.K T cm E (xCons (x2 f A (xC (.str c))) L)) := by
  refine ⟨fun p pins s σ H Q I h => ?_⟩
  have h := tcons_imp h
  rw [hs]
  show wpAny _ _ (spliced ((false, eval (.BinOp a op (.Constant (.str c) j cp) bp) X.env) :: backTo p (starEach es X.env))) _ _ s
  have h := two_imp (X := X) (B := xC (.str c)) (r := rD2 X.K T f) (fun _ _ _ _ z => z) h
  refine Calls.spliced_cons (wpAny_BinOp (thn (ha.run pins s σ H _ I h) fun v s1 ⟨x, H1, I1, r1, q1⟩ => ?_))
  obtain ⟨M, H0, δ, r, R, e, aa⟩ := q1
  cases e
  have q2 := aa H1 (Ext.refl T H1) (.str c) (.str c)
  refine Calls.Constant_str (k := j) (pos := cp) ?_
  refine wpAny_mono (PySem.wpAny_toks (ho pins _ σ H1 x (.str c) v (.str c s1.toks) _ (I1.tok (s1.toks + 1)) r1 ⟨_, rfl⟩ q2)) (fun w s2 q => ?_) fun _ _ z => z.2
  obtain ⟨hk, y, H2, I2, r2, q3⟩ := q
  have hk : s1.toks + 1 ≤ s2.toks := hk
  exact thn (hr p pins s2 σ H2 _ (by omega) I2 q3) fun us s3 ⟨xs, H3, I3, r3, q4⟩ => ⟨y :: xs, H3, I3, .cons r2 r3, q4⟩
end
end DL
set_option maxRecDepth 100000
set_option autoImplicit false
namespace K61
open PySem DL
def cls : List Str := ["BadChain", "BadLeague", "BadMatch", "BadPlace", "BadRules", "BadSide", "BadText", "Nothing", "TooMany"]
/-- _law_word: slots e, flags, names, flag -/
def g__law_word (c ea : Nat) : XS := (sSeq (sNew 1 (xLst (xCons (xIsE 0 ea (decide (c = 0))) (xCons (xIsE 0 ea (decide (c = 1))) (xCons (xIsE 0 ea (decide (c = 2))) (xCons (xIsE 0 ea (decide (c = 3))) xNil))))))
  (sSeq (sFrz 1 (sNew 1 (xCat (xVar 1) (xOfL (xLst (xCons (xIsE 0 ea (decide (c = 4))) (xCons (xIsE 0 ea (decide (c = 5))) (xCons (xIsE 0 ea (decide (c = 6))) (xCons (xIsE 0 ea (decide (c = 7))) xNil)))))))))
  (sSeq (sApp 1 (xIsE 0 ea (decide (c = 8))))
  (sSeq (sIf (yOr (yV (x2 neD (xKeep 1 (x1 sumLD (xOfL (xLc (xIterL (xVar 1)) (gN 3) yTrue (x1 intD (xVar 3)) [3])))) (xC (.int 1)))) (yNot (yV (xIsE 0 ea true)))) (sRet (xC (.str "other")))
  sNext)
  (sSeq (sAsg (xOfL (xLst (xCons (xC (.str "BadChain")) (xCons (xC (.str "BadLeague")) (xCons (xC (.str "BadMatch")) (xCons (xC (.str "BadPlace")) (xCons (xC (.str "BadRules")) (xCons (xC (.str "BadSide")) (xCons (xC (.str "BadText")) (xCons (xC (.str "Nothing")) (xCons (xC (.str "TooMany")) xNil))))))))))) (gN 2))
  (sFrz 1 (sRet (x2 ixD (xVar 2) (xIndexB (xVar 1) (xC (.bool true)))))))))))
/-- is_count: slots thing, low, high -/
def g_is_count : XS := (sRet (xAnd (x1 (isiD .int) (xVar 0)) (xAnd (xNot (x1 (isiD .bool) (xVar 0))) (xChain leD leD (xVar 1) (xVar 0) (xVar 2)))))
def F_is_count : List D → Pr D := fnD 3 3 g_is_count
/-- is_left: slots thing, sides, side -/
def g_is_left : XS := (sSeq (sIf (yOr (yNot (yV (x1 (isiD .tuple) (xVar 0)))) (yOr (yV (x2 neD (x1 lenD (xVar 0)) (xC (.int 3)))) (yNot (yV (xCall F_is_count (xCons (x2 ixD (xVar 0) (xC (.int 2))) (xCons (xC (.int 1)) (xCons (xC (.int 9)) xNil)))))))) (sRet (xC (.bool false)))
  sNext)
  (sRet (xAnd (x1 allD (xOfL (xLc (xIter (xSlice (xVar 0) xNoPart (xPart (xC (.int 2))))) (gN 2) yTrue (xCall F_is_count (xCons (xVar 2) (xCons (xC (.int 0)) (xCons (x2 subD (xVar 1) (xC (.int 1))) xNil)))) [2]))) (x2 ltD (x2 ixD (xVar 0) (xC (.int 0))) (x2 ixD (xVar 0) (xC (.int 1)))))))
def F_is_left : List D → Pr D := fnD 2 3 g_is_left
/-- is_league: slots thing, wins, left, one, other -/
def g_is_league : XS := (sSeq (sIf (yOr (yNot (yV (x1 (isiD .tuple) (xVar 0)))) (yOr (yV (x2 neD (x1 lenD (xVar 0)) (xC (.int 2)))) (yNot (yV (x1 allD (xOfL (xLc (xIter (xVar 0)) (gN 3) yTrue (x1 (isiD .tuple) (xVar 3)) [3]))))))) (sRet (xC (.bool false)))
  sNext)
  (sSeq (sAsg (xVar 0) (gT 2 (gsCons (gN 1) (gsCons (gN 2) gsNil))))
  (sSeq (sIf (yOr (yNot (yV (xChain leD leD (xC (.int 2)) (x1 lenD (xVar 1)) (xC (.int 6))))) (yNot (yV (x1 allD (xOfL (xLc (xIter (xVar 1)) (gN 3) yTrue (xCall F_is_count (xCons (xVar 3) (xCons (xC (.int 0)) (xCons (xC (.int 60)) xNil)))) [3])))))) (sRet (xC (.bool false)))
  sNext)
  (sSeq (sIf (yNot (yV (x1 allD (xOfL (xLc (xIter (xVar 2)) (gN 3) yTrue (xCall F_is_left (xCons (xVar 3) (xCons (x1 lenD (xVar 1)) xNil))) [3]))))) (sRet (xC (.bool false)))
  sNext)
  (sRet (x1 allD (xOfL (xLc (xZip (xSlice (xVar 2) xNoPart (xPart (x1 negD (xC (.int 1))))) (xSlice (xVar 2) (xPart (xC (.int 1))) xNoPart)) (gT 2 (gsCons (gN 3) (gsCons (gN 4) gsNil))) yTrue (x2 ltD (xSlice (xVar 3) xNoPart (xPart (xC (.int 2)))) (xSlice (xVar 4) xNoPart (xPart (xC (.int 2))))) [3, 4]))))))))
def F_is_league : List D → Pr D := fnD 1 5 g_is_league
/-- need_league: slots league -/
def g_need_league : XS := (sIf (yNot (yV (xCall F_is_league (xCons (xVar 0) xNil)))) (sRaise 1)
  sNext)
def F_need_league : List D → Pr D := fnD 1 1 g_need_league
/-- need: slots good -/
def g_need : XS := (sIf (yNot (yV (xVar 0))) (sRaise 6)
  sNext)
def F_need : List D → Pr D := fnD 1 1 g_need
/-- league_text: slots league, words, one, other, many -/
def g_league_text : XS := (sSeq (sNew 1 (xLst (xCons (xM joinD (xC (.str " ")) (xOfL (xLc (xIter (x2 ixD (xVar 0) (xC (.int 0)))) (gN 2) yTrue (x1 strD (xVar 2)) [2]))) xNil)))
  (sSeq (sExtend 1 (xOfL (xLc (xIter (x2 ixD (xVar 0) (xC (.int 1)))) (gT 3 (gsCons (gN 2) (gsCons (gN 3) (gsCons (gN 4) gsNil)))) yTrue (x2 addD (x2 addD (x2 addD (x2 addD (x1 strD (xVar 2)) (xC (.str "-"))) (x1 strD (xVar 3))) (xC (.str ":"))) (x1 strD (xVar 4))) [2, 3, 4])))
  (sFrz 1 (sRet (xM joinD (xC (.str ", ")) (xVar 1))))))
def F_league_text : List D → Pr D := fnD 1 5 g_league_text
/-- written: slots league -/
def g_written : XS := (sSeq (sDrop (xCall F_need_league (xCons (xVar 0) xNil)))
  (sRet (xCall F_league_text (xCons (xVar 0) xNil))))
def F_written : List D → Pr D := fnD 1 1 g_written
/-- number_in: slots word, sign -/
def g_number_in : XS := (sSeq (sDrop (xCall F_need (xCons (xAnd (xChain leD leD (xC (.int 1)) (x1 lenD (xVar 0)) (xC (.int 2))) (x1 allD (xOfL (xLc (xIterS (xVar 0)) (gN 1) yTrue (x2 inD (xVar 1) (xC (.str "0123456789"))) [1])))) xNil)))
  (sRet (x1 intD (xVar 0))))
def F_number_in : List D → Pr D := fnD 1 2 g_number_in
/-- left_in: slots word, pair, colon, many, one, line, other -/
def g_left_in : XS := (sSeq (sAsg (xM partiD (xVar 0) (xC (.str ":"))) (gT 3 (gsCons (gN 1) (gsCons (gN 2) (gsCons (gN 3) gsNil)))))
  (sSeq (sAsg (xM partiD (xVar 1) (xC (.str "-"))) (gT 3 (gsCons (gN 4) (gsCons (gN 5) (gsCons (gN 6) gsNil)))))
  (sRet (xTup (xCons (xCall F_number_in (xCons (xVar 4) xNil)) (xCons (xCall F_number_in (xCons (xVar 6) xNil)) (xCons (xCall F_number_in (xCons (xVar 3) xNil)) xNil)))))))
def F_left_in : List D → Pr D := fnD 1 7 g_left_in
/-- read: slots text, words, found, word -/
def g_read : XS := (sSeq (sDrop (xCall F_need (xCons (x1 (isiD .str) (xVar 0)) xNil)))
  (sSeq (sAsg (xOfL (xMF splitD (xVar 0) (xC (.str ", ")))) (gN 1))
  (sSeq (sAsg (xTup (xCons (x1 tupleD (xOfL (xLcX (xIter (xOfL (xMF splitD (x2 ixD (xVar 1) (xC (.int 0))) (xC (.str " "))))) (gN 3) yTrue (xCall F_number_in (xCons (xVar 3) xNil)) [3]))) (xCons (x1 tupleD (xOfL (xLcX (xIter (xSlice (xVar 1) (xPart (xC (.int 1))) xNoPart)) (gN 3) yTrue (xCall F_left_in (xCons (xVar 3) xNil)) [3]))) xNil))) (gN 2))
  (sSeq (sDrop (xCall F_need (xCons (xAnd (xCall F_is_league (xCons (xVar 2) xNil)) (x2 eqD (xCall F_league_text (xCons (xVar 2) xNil)) (xVar 0))) xNil)))
  (sRet (xVar 2))))))
def F_read : List D → Pr D := fnD 1 4 g_read
/-- _law_cell: slots script, k -/
def g__law_cell : XS := (sSeq (sIf (yV (x2 eqD (xVar 0) (xOfL (xLst xNil)))) (sRet (x2 mulD (xVar 1) (xC (.int 7919))))
  sNext)
  (sRet (x2 addD (x2 ixD (xVar 0) (x2 modD (xVar 1) (x1 lenD (xVar 0)))) (x2 mulD (x2 fdivD (xVar 1) (x1 lenD (xVar 0))) (xC (.int 104729))))))
def F__law_cell : List D → Pr D := fnD 2 2 g__law_cell
/-- _law_drawn: slots cell, k, more -/
def g__law_drawn : XS := (sSeq (sAsg (x2 modD (x2 addD (x2 mulD (xVar 0) (xC (.int 6364136223846793005))) (x2 mulD (x2 addD (xVar 1) (xC (.int 1))) (xC (.int 1442695040888963407)))) (xC (.int 340282366920938463463374607431768211507))) (gN 2))
  (sSeq (sAsg (x2 modD (x2 mulD (xVar 2) (xVar 2)) (xC (.int 340282366920938463463374607431768211297))) (gN 2))
  (sSeq (sAsg (x2 mulD (x2 mulD (x2 addD (x2 modD (xVar 2) (xC (.int 18446744073709551557))) (xC (.int 1))) (x2 addD (x2 fdivD (xVar 2) (xC (.int 18446744073709551557))) (xC (.int 1)))) (xVar 2)) (gN 2))
  (sRet (x2 modD (xVar 2) (xC (.int 340282366920938463463374607431768211507)))))))
def F__law_drawn : List D → Pr D := fnD 2 3 g__law_drawn
/-- _law_league: slots more, most, sides, wins, left, one, other, here, j -/
def g__law_league : XS := (sSeq (sAsg (x2 addD (xC (.int 2)) (x2 modD (xVar 0) (x2 subD (xVar 1) (xC (.int 1))))) (gN 2))
  (sSeq (sAsg (x1 tupleD (xOfL (xLc (xRange1 (xVar 2)) (gN 8) yTrue (x2 modD (xCall F__law_drawn (xCons (xVar 0) (xCons (xVar 8) xNil))) (x2 ixD (xOfL (xLst (xCons (xC (.int 3)) (xCons (xC (.int 6)) (xCons (xC (.int 61)) xNil))))) (x2 modD (x2 fdivD (xVar 0) (xC (.int 8))) (xC (.int 3))))) [8]))) (gN 3))
  (sSeq (sNew 4 (xLst xNil))
  (sSeq (sFor (xRange1 (xVar 2)) (gN 5)
  (sFor (xRange2 (x2 addD (xVar 5) (xC (.int 1))) (xVar 2)) (gN 6)
  (sSeq (sAsg (xCall F__law_drawn (xCons (xVar 0) (xCons (x2 addD (x2 addD (xC (.int 10)) (x2 mulD (xC (.int 6)) (xVar 5))) (xVar 6)) xNil))) (gN 7))
  (sIf (yV (x2 gtD (x2 modD (xVar 7) (xC (.int 3))) (xC (.int 0)))) (sApp 4 (xTup (xCons (xVar 5) (xCons (xVar 6) (xCons (x2 addD (xC (.int 1)) (x2 modD (x2 fdivD (xVar 7) (xC (.int 8))) (x2 ixD (xOfL (xLst (xCons (xC (.int 1)) (xCons (xC (.int 2)) (xCons (xC (.int 3)) (xCons (xC (.int 9)) xNil)))))) (x2 modD (x2 fdivD (xVar 7) (xC (.int 64))) (xC (.int 4)))))) xNil)))))
  sNext))))
  (sFrz 4 (sRet (xTup (xCons (xVar 3) (xCons (x1 tupleD (xVar 4)) xNil)))))))))
def F__law_league : List D → Pr D := fnD 2 9 g__law_league
/-- law: slots script, k, more, league, text, parts, due, many, bad, turned, one, other -/
def g_law : XS := (sSeq (sFor (xRange1 (x2 max2D (xC (.int 1)) (x2 min2D (xC (.int 4)) (x1 lenD (xVar 0))))) (gN 1)
  (sSeq (sAsg (xCall F__law_drawn (xCons (xCall F__law_cell (xCons (xVar 0) (xCons (xVar 1) xNil))) (xCons (xVar 1) xNil))) (gN 2))
  (sSeq (sAsg (xCall F__law_league (xCons (x2 fdivD (xVar 2) (xC (.int 8))) (xCons (xC (.int 6)) xNil))) (gN 3))
  (sSeq (sAsg (xTold (wordX cls) (xCall F_written (xCons (xVar 3) xNil))) (gN 4))
  (sSeq (sAsg (xOfL (xMF splitD (xVar 4) (xC (.str ", ")))) (gN 5))
  (sSeq (sAsg (xOfL (xLst (xCons (xM joinD (xC (.str " ")) (xOfL (xLc (xIter (x2 ixD (xVar 3) (xC (.int 0)))) (gN 10) yTrue (x1 strD (xVar 10)) [10]))) xNil))) (gN 6))
  (sSeq (sAsg (x2 addD (xVar 6) (xOfL (xLc (xIter (x2 ixD (xVar 3) (xC (.int 1)))) (gT 3 (gsCons (gN 10) (gsCons (gN 11) (gsCons (gN 7) gsNil)))) yTrue (x2 addD (x2 addD (x2 addD (x2 addD (x1 strD (xVar 10)) (xC (.str "-"))) (x1 strD (xVar 11))) (xC (.str ":"))) (x1 strD (xVar 7))) [10, 11, 7]))) (gN 6))
  (sSeq (sIf (yOr (yV (x2 neD (xVar 5) (xVar 6))) (yV (x2 neD (xTold (wordX cls) (xCall F_read (xCons (xVar 4) xNil))) (xVar 3)))) (sRet (xC (.bool false)))
  sNext)
  (sSeq (sFor (xRange1 (x1 lenD (x2 ixD (xVar 3) (xC (.int 1))))) (gN 7)
  (sIf (yV (x2 neD (xTold (wordX cls) (xCall F_read (xCons (xM joinD (xC (.str ", ")) (xSlice (xVar 5) xNoPart (xPart (x2 addD (xVar 7) (xC (.int 1)))))) xNil))) (xTup (xCons (x2 ixD (xVar 3) (xC (.int 0))) (xCons (xSlice (x2 ixD (xVar 3) (xC (.int 1))) xNoPart (xPart (xVar 7))) xNil))))) (sRet (xC (.bool false)))
  sNext))
  (sSeq (sIf (yV (x2 gtD (x1 lenD (xVar 5)) (xC (.int 2)))) (sSeq (sAsg (xOfL (xLst (xCons (xM joinD (xC (.str ", ")) (x2 addD (xOfL (xLst (xCons (x2 ixD (xVar 5) (xC (.int 0))) xNil))) (xOfL (xF1 backD (xVar 5))))) (xCons (xM joinD (xC (.str ", ")) (x2 addD (xVar 5) (xSlice (xVar 5) (xPart (x1 negD (xC (.int 1)))) xNoPart))) (xCons (xM joinD (xC (.str ", ")) (xSlice (xVar 5) (xPart (xC (.int 1))) xNoPart)) xNil))))) (gN 9))
  (sSeq (sIf (yV (x2 neD (xOfL (xLst (xCons (xTold (wordX cls) (xCall F_read (xCons (x2 ixD (xVar 9) (xC (.int 0))) xNil))) (xCons (xTold (wordX cls) (xCall F_read (xCons (x2 ixD (xVar 9) (xC (.int 1))) xNil))) xNil)))) (xOfL (xRep (xLst (xCons (xC (.str "BadText")) xNil)) (xC (.int 2)))))) (sRet (xC (.bool false)))
  sNext)
  (sIf (yV (x2 neD (xTold (wordX cls) (xCall F_read (xCons (x2 ixD (xVar 9) (xC (.int 2))) xNil))) (xC (.str "BadText")))) (sRet (xC (.bool false)))
  sNext)))
  sNext)
  (sSeq (sFor (xIter (xOfL (xLst (xCons (x2 addD (xVar 4) (xC (.str ","))) (xCons (x2 addD (xVar 4) (xC (.str " "))) (xCons (x2 addD (xC (.str ", ")) (xVar 4)) (xCons (xRepl (xVar 4) " " "  ") (xCons (x2 addD (xC (.str "0")) (xVar 4)) (xCons (x2 addD (xC (.str "-")) (xVar 4)) (xCons (xC (.str "")) xNil)))))))))) (gN 8)
  (sIf (yV (x2 neD (xTold (wordX cls) (xCall F_read (xCons (xVar 8) xNil))) (xC (.str "BadText")))) (sRet (xC (.bool false)))
  sNext))
  (sSeq (sIf (yV (x2 neD (xTold (wordX cls) (xCall F_written (xCons (xTup (xCons (x2 ixD (xVar 3) (xC (.int 0))) (xCons (xC .none) xNil))) xNil))) (xC (.str "BadLeague")))) (sRet (xC (.bool false)))
  sNext)
  (sIf (yV (x2 neD (xTold (wordX cls) (xCall F_written (xCons (xC .none) xNil))) (xC (.str "BadLeague")))) (sRet (xC (.bool false)))
  sNext)))))))))))))
  (sRet (xC (.bool true))))
def F_law : List D → Pr D := fnD 1 12 g_law
end K61
set_option Elab.async false
set_option linter.all false
set_option maxRecDepth 100000
set_option maxHeartbeats 4000000
set_option autoImplicit false
namespace K61
open PySem L2 DL
def topS (i : Nat) : Stmt := PySem.Challenge.pw_leaguechains_k61_texts_in_parts.main.body.getD i (.Pass ⟨0, 0, 0, 0⟩)
abbrev s__law_word : Stmt := topS 30
abbrev s__law_told : Stmt := topS 31
abbrev s_is_count : Stmt := topS 15
abbrev s_is_left : Stmt := topS 16
abbrev s_is_league : Stmt := topS 17
abbrev s_need_league : Stmt := topS 18
abbrev s_need : Stmt := topS 21
abbrev s_league_text : Stmt := topS 22
abbrev s_written : Stmt := topS 23
abbrev s_number_in : Stmt := topS 24
abbrev s_left_in : Stmt := topS 25
abbrev s_read : Stmt := topS 26
abbrev s__law_cell : Stmt := topS 28
abbrev s__law_drawn : Stmt := topS 29
abbrev s__law_league : Stmt := topS 32
abbrev s_law : Stmt := topS 33
def fa : List He.Fa := [.glo "_law_word", .glo "_law_told", .glo "is_count", .glo "is_left", .glo "is_league", .glo "need_league", .glo "need", .glo "league_text", .glo "written", .glo "number_in", .glo "left_in", .glo "read", .glo "_law_cell", .glo "_law_drawn", .glo "_law_league", .glo "law", .keep "_law_word", .keep "_law_told", .keep "is_count", .keep "is_left", .keep "is_league", .keep "need_league", .keep "need", .keep "league_text", .keep "written", .keep "number_in", .keep "left_in", .keep "read", .keep "_law_cell", .keep "_law_drawn", .keep "_law_league", .keep "law", .free "ValueError", .free "all", .free "bool", .free "int", .free "isinstance", .free "len", .free "max", .free "min", .free "range", .free "str", .free "sum", .free "tuple", .free "zip", .str "FIGURES" "0123456789", .int "MOST_LEFT" 9, .int "MOST_SIDES" 6, .int "MOST_WINS" 60, .glo "BadChain", .glo "BadLeague", .glo "BadMatch", .glo "BadPlace", .glo "BadRules", .glo "BadSide", .glo "BadText", .glo "Nothing", .glo "TooMany", .exc "BadChain", .exc "BadLeague", .exc "BadMatch", .exc "BadPlace", .exc "BadRules", .exc "BadSide", .exc "BadText", .exc "Nothing", .exc "TooMany", .exm "BadChain" "LeagueError" true, .exm "BadLeague" "LeagueError" true, .exm "BadMatch" "LeagueError" true, .exm "BadPlace" "LeagueError" true, .exm "BadRules" "LeagueError" true, .exm "BadSide" "LeagueError" true, .exm "BadText" "LeagueError" true, .exm "Nothing" "LeagueError" true, .exm "TooMany" "LeagueError" true, .glo "LeagueError"]
def fn : List He.FnD := [⟨("_law_word", none), "_law_word", "_law_word", defArgs s__law_word, defBody s__law_word, defScope s__law_word⟩, ⟨("_law_told", none), "_law_told", "_law_told", defArgs s__law_told, defBody s__law_told, defScope s__law_told⟩, ⟨("is_count", none), "is_count", "is_count", defArgs s_is_count, defBody s_is_count, defScope s_is_count⟩, ⟨("is_left", none), "is_left", "is_left", defArgs s_is_left, defBody s_is_left, defScope s_is_left⟩, ⟨("is_league", none), "is_league", "is_league", defArgs s_is_league, defBody s_is_league, defScope s_is_league⟩, ⟨("need_league", none), "need_league", "need_league", defArgs s_need_league, defBody s_need_league, defScope s_need_league⟩, ⟨("need", none), "need", "need", defArgs s_need, defBody s_need, defScope s_need⟩, ⟨("league_text", none), "league_text", "league_text", defArgs s_league_text, defBody s_league_text, defScope s_league_text⟩, ⟨("written", none), "written", "written", defArgs s_written, defBody s_written, defScope s_written⟩, ⟨("number_in", none), "number_in", "number_in", defArgs s_number_in, defBody s_number_in, defScope s_number_in⟩, ⟨("left_in", none), "left_in", "left_in", defArgs s_left_in, defBody s_left_in, defScope s_left_in⟩, ⟨("read", none), "read", "read", defArgs s_read, defBody s_read, defScope s_read⟩, ⟨("_law_cell", none), "_law_cell", "_law_cell", defArgs s__law_cell, defBody s__law_cell, defScope s__law_cell⟩, ⟨("_law_drawn", none), "_law_drawn", "_law_drawn", defArgs s__law_drawn, defBody s__law_drawn, defScope s__law_drawn⟩, ⟨("_law_league", none), "_law_league", "_law_league", defArgs s__law_league, defBody s__law_league, defScope s__law_league⟩, ⟨("law", none), "law", "law", defArgs s_law, defBody s_law, defScope s_law⟩]
section
variable {P : Program} {w : World} {K : PySem.W.Frag} {mg : Str → Option Value} {h : Heap} {T : List (Addr × Str)} {cm : Nat → Value}
def exB (K : PySem.W.Frag) : Bool := clsB K cls cls && (bmB K && decide (((["law"] : List Str).map fun x => (He.cT K (x, none)).2).Nodup))
theorem exf (KX : K.In h) (G : h.Ns mainGlobals mg) (c : He.SaysE fa fn K) (i : Nat) (x : Str) (h1 : fa[49 + i]? = some (.glo x) := by rfl) (h2 : fa[58 + i]? = some (.exc x) := by rfl) : ExF K mg x := exf_of KX G (c.fact (49 + i) h1) (c.fact (58 + i) h2)
theorem sc__law_word : FnScope ["e", "flags", "names", "flag"] ["e"] (defScope s__law_word) := ⟨rfl, rfl, rfl, by decide +kernel, rfl, by decide +kernel, by decide +kernel⟩
theorem wd_inj {c : Nat} {x : Str} (hx : cls[c]? = some x) : ∀ (k : Nat) (y : Str), cls[k]? = some y → decide (x = y) = decide (c = k) := by
  have hc : c < 9 := (List.getElem?_eq_some_iff.mp hx).1
  intro k y hy
  have hk : k < 9 := (List.getElem?_eq_some_iff.mp hy).1
  have key : ∀ c < 9, ∀ k < 9, decide (cls[c]? = cls[k]?) = decide (c = k) := by decide +kernel
  have := key c hc k hk
  rw [hx, hy] at this
  rw [← this]
  by_cases e : x = y <;> simp [e]
abbrev WdVal : Prop := ∀ (c : Nat) (x : Str), cls[c]? = some x → ∀ ea, g__law_word c ea (.raw ea :: List.replicate ((["e", "flags", "names", "flag"] : List Str).length - 1) .no) = some (.rt (.str x))
theorem wd_ok (KX : K.In h) (G : h.Ns mainGlobals mg) (c' : He.SaysE fa fn K) (hB : clsB K cls cls = true) (hval : WdVal) (c : Nat) (x : Str) (hx : cls[c]? = some x) : WordOk P w K mg T 1 "_law_word" (He.ga K x) x := by

  have m_ValueError : mg "ValueError" = none := He.free_ok KX G (c'.fact 32 (f := .free "ValueError") rfl)
  have m_int : mg "int" = none := He.free_ok KX G (c'.fact 35 (f := .free "int") rfl)
  have m_isinstance : mg "isinstance" = none := He.free_ok KX G (c'.fact 36 (f := .free "isinstance") rfl)
  have m_sum : mg "sum" = none := He.free_ok KX G (c'.fact 42 (f := .free "sum") rfl)
  have ex_BadChain : ExF K mg "BadChain" := exf KX G c' 0 "BadChain"
  have ex_BadLeague : ExF K mg "BadLeague" := exf KX G c' 1 "BadLeague"
  have ex_BadMatch : ExF K mg "BadMatch" := exf KX G c' 2 "BadMatch"
  have ex_BadPlace : ExF K mg "BadPlace" := exf KX G c' 3 "BadPlace"
  have ex_BadRules : ExF K mg "BadRules" := exf KX G c' 4 "BadRules"
  have ex_BadSide : ExF K mg "BadSide" := exf KX G c' 5 "BadSide"
  have ex_BadText : ExF K mg "BadText" := exf KX G c' 6 "BadText"
  have ex_Nothing : ExF K mg "Nothing" := exf KX G c' 7 "Nothing"
  have ex_TooMany : ExF K mg "TooMany" := exf KX G c' 8 "TooMany"
  have nd := sc__law_word.nd
  obtain ⟨XC, XV, XY⟩ := clsB_ok hB (List.mem_of_getElem? hx)
  have inj : ∀ (k : Nat) (y : Str), cls[k]? = some y → decide (x = y) = decide (c = k) := wd_inj hx
  have XK : ∀ (k : Nat) {y : Str}, cls[k]? = some y → PySem.W.kitOne K (.ref (He.ga K x)) (.ref (He.ga K y)) = some (decide (c = k)) := fun k y hy => by rw [← inj k y hy]; exact XY y (List.mem_of_getElem? hy)
  refine word_mk (k := 0) (cm := fun _ => .none) (x := "_law_word") (en := "e") (N := ["e", "flags", "names", "flag"]) (st := s__law_word) (gw := fun ea => g__law_word c ea) KX G c' 0 0 16 rfl rfl rfl sc__law_word (fun _ _ _ _ _ _ u => rfl) (hval c x hx) (fun base f cdv A outer s H ea oe hr hot1 hz hf => ?_)
  have hot : L2H.HotC (L2H.cxH L2.CX0 P w K mg base ["e", "flags", "names", "flag"] "_law_word" (defScope s__law_word) f cdv A outer s H L2.E0 (ea, oe)) := ⟨(ea, oe), hot1, List.mem_cons_self⟩
  exact (dss_cons (ds_new 1 nd (df_lst (da_cons (de_isEo 0 XC hz hf List.mem_cons_self (XK 0 rfl) rfl m_isinstance rfl ex_BadChain.g) (da_cons (de_isEo 0 XC hz hf List.mem_cons_self (XK 1 rfl) rfl m_isinstance rfl ex_BadLeague.g) (da_cons (de_isEo 0 XC hz hf List.mem_cons_self (XK 2 rfl) rfl m_isinstance rfl ex_BadMatch.g) (da_cons (de_isEo 0 XC hz hf List.mem_cons_self (XK 3 rfl) rfl m_isinstance rfl ex_BadPlace.g) da_nil))))))
  (dss_cons (ds_frz 1 (ds_new 1 nd (df_cat (de_var 1) (de_ofF (df_lst (da_cons (de_isEo 0 XC hz hf List.mem_cons_self (XK 4 rfl) rfl m_isinstance rfl ex_BadRules.g) (da_cons (de_isEo 0 XC hz hf List.mem_cons_self (XK 5 rfl) rfl m_isinstance rfl ex_BadSide.g) (da_cons (de_isEo 0 XC hz hf List.mem_cons_self (XK 6 rfl) rfl m_isinstance rfl ex_BadText.g) (da_cons (de_isEo 0 XC hz hf List.mem_cons_self (XK 7 rfl) rfl m_isinstance rfl ex_Nothing.g) da_nil)))))))))
  (dss_cons (ds_app 1 (de_isEo 0 XC hz hf List.mem_cons_self (XK 8 rfl) rfl m_isinstance rfl ex_TooMany.g))
  (dss_cons (ds_if (PW.pt (dw_or (dt_cmp (op_neDD (huH hr)) (de_keep 1 (de_b1 (call_sumQ hot) rfl m_sum (by decide +kernel) (de_ofF (df_lcQ (own := [("flag", 3)]) hot nd (de_var 1) (blkOk_by (by rfl)) (fun _ _ _ _ _ => (dg_name 3 nd (by decide))) (fun _ _ _ _ _ => dts_nil) (fun _ _ _ _ _ => (de_t1 call_intD rfl m_int (by decide +kernel) (de_var 3))))))) de_int (nomark _)) (dw_or1 (dt_not (dt_val (de_isEb 0 XC hz hf List.mem_cons_self XV rfl m_isinstance rfl m_ValueError (by decide +kernel))))))) (dss_one (ds_ret de_str))
  dss_nil)
  (dss_cons (ds_set 2 nd (de_ofF (df_lst (da_cons de_str (da_cons de_str (da_cons de_str (da_cons de_str (da_cons de_str (da_cons de_str (da_cons de_str (da_cons de_str (da_cons de_str da_nil))))))))))))
  (dss_one (ds_frz 1 (ds_ret (de_ix (de_var 2) (de_indexB (de_var 1) de_bl) (fun _ _ => rfl))))))))))
theorem sc__law_told : FnScope ["deed", "e"] ["deed"] (defScope s__law_told) := ⟨rfl, rfl, rfl, by decide +kernel, rfl, by decide +kernel, by decide +kernel⟩
theorem to_ok (KX : K.In h) (G : h.Ns mainGlobals mg) (c : He.SaysE fa fn K) (hB : clsB K cls cls = true) (hval : WdVal) : ToldOk P w K mg T 5 "_law_told" (wordsX K cls) := by
  refine told_mk (x := "_law_told") (a := "deed") (en := "e") (xl := "LeagueError") (xw := "_law_word") (st := s__law_told) (Ng := ["deed", "e"]) (ie := 1) (kw := 1) KX G c 1 1 17 rfl rfl rfl sc__law_told (fun _ _ _ _ _ _ u => rfl) rfl (He.glo_ok KX G (c.fact 76 (f := .glo "LeagueError") rfl)) (fun p hp => ?_) (fun p hp => ?_) (by decide) rfl rfl rfl rfl (fun _ => rfl) (by decide) rfl (Or.inl rfl)
  · obtain ⟨x, hx, rfl⟩ := List.mem_map.mp hp
    obtain ⟨j, hj, rfl⟩ := List.mem_iff_getElem.mp hx
    exact wd_ok KX G c hB hval j _ (List.getElem?_eq_getElem hj)
  · obtain ⟨x, hx, rfl⟩ := List.mem_map.mp hp
    obtain ⟨j, hj, rfl⟩ := List.mem_iff_getElem.mp hx
    have hj' : j < 9 := hj
    have key : ∀ j (hj : j < cls.length), fa[67 + j]? = some (.exm cls[j] "LeagueError" true) := fun j hj => by
      have hj' : j < 9 := hj
      match j, hj' with
      | 0, _ => rfl
      | 1, _ => rfl
      | 2, _ => rfl
      | 3, _ => rfl
      | 4, _ => rfl
      | 5, _ => rfl
      | 6, _ => rfl
      | 7, _ => rfl
      | 8, _ => rfl
    exact He.exm_ok (c.fact (67 + j) (key j hj))
theorem sc_is_count : FnScope ["thing", "low", "high"] ["thing", "low", "high"] (defScope s_is_count) := ⟨rfl, rfl, rfl, by decide +kernel, rfl, by decide +kernel, by decide +kernel⟩
theorem ok_is_count (KX : K.In h) (G : h.Ns mainGlobals mg) (c : He.SaysE fa fn K)  : OkD P w K mg T (cmX K cls) (1) "is_count" ["thing", "low", "high"] (F_is_count) := by
  have m_bool : mg "bool" = none := He.free_ok KX G (c.fact 34 (f := .free "bool") rfl)
  have m_int : mg "int" = none := He.free_ok KX G (c.fact 35 (f := .free "int") rfl)
  have m_isinstance : mg "isinstance" = none := He.free_ok KX G (c.fact 36 (f := .free "isinstance") rfl)
  have nd := sc_is_count.nd
  refine okD_mk (k := 0) (x := "is_count") (N := ["thing", "low", "high"]) (ps := ["thing", "low", "high"]) (st := s_is_count) (g := g_is_count) KX G c 2 2 18 rfl rfl rfl sc_is_count (fun _ _ _ _ _ _ us hl => match us, hl with | [_, _, _], _ => rfl) (fun base f cdv A outer s H E hr => ?_)
  have tk : L2N.Takes (cxOf (L2N.CX P w) P w K mg base ["thing", "low", "high"] "is_count" (defScope s_is_count) f cdv A outer s H E) (fun c d _ H => E c d H) := L2N.takes_of rfl rfl rfl rfl
  have hp := passes_of (X := cxOf (L2N.CX P w) P w K mg base ["thing", "low", "high"] "is_count" (defScope s_is_count) f cdv A outer s H E) rfl
  exact (dss_one (ds_ret (de_and (de_isi .int rfl m_isinstance rfl m_int (by decide +kernel) (de_var 0)) (de_and (de_not (de_isi .bool rfl m_isinstance rfl m_bool (by decide +kernel) (de_var 0))) (de_one (de_chain (op_leD hr.units0) (op_leD hr.units0) (de_var 1) (de_var 0) (de_var 2)))))))
theorem sc_is_left : FnScope ["thing", "sides", "side"] ["thing", "sides"] (defScope s_is_left) := ⟨rfl, rfl, rfl, by decide +kernel, rfl, by decide +kernel, by decide +kernel⟩
theorem ok_is_left (KX : K.In h) (G : h.Ns mainGlobals mg) (c : He.SaysE fa fn K) (ok_is_count : OkD P w K mg T (cmX K cls) 1 "is_count" ["thing", "low", "high"] F_is_count) : OkD P w K mg T (cmX K cls) (2) "is_left" ["thing", "sides"] (F_is_left) := by
  have m_all : mg "all" = none := He.free_ok KX G (c.fact 33 (f := .free "all") rfl)
  have m_isinstance : mg "isinstance" = none := He.free_ok KX G (c.fact 36 (f := .free "isinstance") rfl)
  have m_len : mg "len" = none := He.free_ok KX G (c.fact 37 (f := .free "len") rfl)
  have m_tuple : mg "tuple" = none := He.free_ok KX G (c.fact 43 (f := .free "tuple") rfl)
  obtain ⟨t_MOST_LEFT, m_MOST_LEFT⟩ := He.int_ok KX G (c.fact 46 (f := .int "MOST_LEFT" 9) rfl)
  have nd := sc_is_left.nd
  refine okD_mk (k := 1) (x := "is_left") (N := ["thing", "sides", "side"]) (ps := ["thing", "sides"]) (st := s_is_left) (g := g_is_left) KX G c 3 3 19 rfl rfl rfl sc_is_left (fun _ _ _ _ _ _ us hl => match us, hl with | [_, _], _ => rfl) (fun base f cdv A outer s H E hr => ?_)
  have tk : L2N.Takes (cxOf (L2N.CX P w) P w K mg base ["thing", "sides", "side"] "is_left" (defScope s_is_left) f cdv A outer s H E) (fun c d _ H => E c d H) := L2N.takes_of rfl rfl rfl rfl
  have hp := passes_of (X := cxOf (L2N.CX P w) P w K mg base ["thing", "sides", "side"] "is_left" (defScope s_is_left) f cdv A outer s H E) rfl
  exact (dss_cons (ds_if (PW.pt (dw_or (dt_not (dt_val (de_isi .tuple rfl m_isinstance rfl m_tuple (by decide +kernel) (de_var 0)))) (dw_or (dt_cmp (op_neDD hr.units) (de_b1 call_lenDD rfl m_len (by decide +kernel) (de_var 0)) de_int (nomark _)) (dw_or1 (dt_not (dt_val (de_fn ok_is_count hr (by decide) rfl tk (da_cons (de_ix (de_var 0) de_int (fun _ _ => rfl)) (da_cons de_int (da_cons (de_globI rfl m_MOST_LEFT) da_nil))) (xlen_cons (xlen_cons (xlen_cons xlen_nil)))))))))) (dss_one (ds_ret de_bl))
  dss_nil)
  (dss_one (ds_ret (de_and (de_b1 (call_allD rfl) rfl m_all (by decide +kernel) (de_ofF (df_lc (own := [("side", 2)]) rfl nd (di_list (de_slice (de_var 0) dpo_none (dpo_some de_int))) (blkOk_by (by rfl)) (fun _ _ _ _ _ => (dg_name 2 nd (by decide))) (fun _ _ _ _ _ => dts_nil) (fun _ _ _ _ _ => (de_fn ok_is_count hr (by decide) rfl takesN0 (da_cons (de_var 2) (da_cons de_int (da_cons (de_op op_subD (de_var 1) de_int) da_nil))) (xlen_cons (xlen_cons (xlen_cons xlen_nil)))))))) (de_one (de_cmp (op_ltD hr.units0) (de_ix (de_var 0) de_int (fun _ _ => rfl)) (de_ix (de_var 0) de_int (fun _ _ => rfl)) (nomark _)))))))
theorem sc_is_league : FnScope ["thing", "wins", "left", "one", "other"] ["thing"] (defScope s_is_league) := ⟨rfl, rfl, rfl, by decide +kernel, rfl, by decide +kernel, by decide +kernel⟩
theorem ok_is_league (KX : K.In h) (G : h.Ns mainGlobals mg) (c : He.SaysE fa fn K) (ok_is_count : OkD P w K mg T (cmX K cls) 1 "is_count" ["thing", "low", "high"] F_is_count) (ok_is_left : OkD P w K mg T (cmX K cls) 2 "is_left" ["thing", "sides"] F_is_left) : OkD P w K mg T (cmX K cls) (3) "is_league" ["thing"] (F_is_league) := by
  have m_all : mg "all" = none := He.free_ok KX G (c.fact 33 (f := .free "all") rfl)
  have m_isinstance : mg "isinstance" = none := He.free_ok KX G (c.fact 36 (f := .free "isinstance") rfl)
  have m_len : mg "len" = none := He.free_ok KX G (c.fact 37 (f := .free "len") rfl)
  have m_tuple : mg "tuple" = none := He.free_ok KX G (c.fact 43 (f := .free "tuple") rfl)
  have m_zip : mg "zip" = none := He.free_ok KX G (c.fact 44 (f := .free "zip") rfl)
  obtain ⟨t_MOST_SIDES, m_MOST_SIDES⟩ := He.int_ok KX G (c.fact 47 (f := .int "MOST_SIDES" 6) rfl)
  obtain ⟨t_MOST_WINS, m_MOST_WINS⟩ := He.int_ok KX G (c.fact 48 (f := .int "MOST_WINS" 60) rfl)
  have nd := sc_is_league.nd
  refine okD_mk (k := 2) (x := "is_league") (N := ["thing", "wins", "left", "one", "other"]) (ps := ["thing"]) (st := s_is_league) (g := g_is_league) KX G c 4 4 20 rfl rfl rfl sc_is_league (fun _ _ _ _ _ _ us hl => match us, hl with | [_], _ => rfl) (fun base f cdv A outer s H E hr => ?_)
  have tk : L2N.Takes (cxOf (L2N.CX P w) P w K mg base ["thing", "wins", "left", "one", "other"] "is_league" (defScope s_is_league) f cdv A outer s H E) (fun c d _ H => E c d H) := L2N.takes_of rfl rfl rfl rfl
  have hp := passes_of (X := cxOf (L2N.CX P w) P w K mg base ["thing", "wins", "left", "one", "other"] "is_league" (defScope s_is_league) f cdv A outer s H E) rfl
  exact (dss_cons (ds_if (PW.pt (dw_or (dt_not (dt_val (de_isi .tuple rfl m_isinstance rfl m_tuple (by decide +kernel) (de_var 0)))) (dw_or (dt_cmp (op_neDD hr.units) (de_b1 call_lenDD rfl m_len (by decide +kernel) (de_var 0)) de_int (nomark _)) (dw_or1 (dt_not (dt_val (de_b1 (call_allD rfl) rfl m_all (by decide +kernel) (de_ofF (df_lc (own := [("one", 3)]) rfl nd (di_list (de_var 0)) (blkOk_by (by rfl)) (fun _ _ _ _ _ => (dg_name 3 nd (by decide))) (fun _ _ _ _ _ => dts_nil) (fun _ _ _ _ _ => (de_isi .tuple rfl m_isinstance rfl m_tuple (by decide +kernel) (de_var 3)))))))))))) (dss_one (ds_ret de_bl))
  dss_nil)
  (dss_cons (ds_asg (vs := [1, 2]) (de_var 0) (dg_tup rfl (dgs_cons (dg_name 1 nd (by decide)) (dgs_cons (dg_name 2 nd (by decide)) dgs_nil))))
  (dss_cons (ds_if (PW.pt (dw_or (dt_not (dt_chain (op_leD hr.units0) (op_leD hr.units0) de_int (de_b1 call_lenDD rfl m_len (by decide +kernel) (de_var 1)) (de_globI rfl m_MOST_SIDES))) (dw_or1 (dt_not (dt_val (de_b1 (call_allD rfl) rfl m_all (by decide +kernel) (de_ofF (df_lc (own := [("one", 3)]) rfl nd (di_list (de_var 1)) (blkOk_by (by rfl)) (fun _ _ _ _ _ => (dg_name 3 nd (by decide))) (fun _ _ _ _ _ => dts_nil) (fun _ _ _ _ _ => (de_fn ok_is_count hr (by decide) rfl takesN0 (da_cons (de_var 3) (da_cons de_int (da_cons (de_globI rfl m_MOST_WINS) da_nil))) (xlen_cons (xlen_cons (xlen_cons xlen_nil))))))))))))) (dss_one (ds_ret de_bl))
  dss_nil)
  (dss_cons (ds_if (dt_not (dt_val (de_b1 (call_allD rfl) rfl m_all (by decide +kernel) (de_ofF (df_lc (own := [("one", 3)]) rfl nd (di_list (de_var 2)) (blkOk_by (by rfl)) (fun _ _ _ _ _ => (dg_name 3 nd (by decide))) (fun _ _ _ _ _ => dts_nil) (fun _ _ _ _ _ => (de_fn ok_is_left hr (by decide) rfl takesN0 (da_cons (de_var 3) (da_cons (de_b1 call_lenDD rfl m_len (by decide +kernel) (de_var 1)) da_nil)) (xlen_cons (xlen_cons xlen_nil))))))))) (dss_one (ds_ret de_bl))
  dss_nil)
  (dss_one (ds_ret (de_b1 (call_allD rfl) rfl m_all (by decide +kernel) (de_ofF (df_lc (own := [("one", 3), ("other", 4)]) rfl nd (di_zip rfl m_zip (de_slice (de_var 2) dpo_none (dpo_some (de_un un_negD de_int))) (de_slice (de_var 2) (dpo_some de_int) dpo_none)) (blkOk_by (by rfl)) (fun _ _ _ _ _ => (dg_tup rfl (dgs_cons (dg_name 3 nd (by decide)) (dgs_cons (dg_name 4 nd (by decide)) dgs_nil)))) (fun _ _ _ _ _ => dts_nil) (fun _ _ _ _ _ => (de_cmp (op_ltD hr.units0) (de_slice (de_var 3) dpo_none (dpo_some de_int)) (de_slice (de_var 4) dpo_none (dpo_some de_int)) (nomark _))))))))))))
theorem sc_need_league : FnScope ["league"] ["league"] (defScope s_need_league) := ⟨rfl, rfl, rfl, by decide +kernel, rfl, by decide +kernel, by decide +kernel⟩
theorem ok_need_league (KX : K.In h) (G : h.Ns mainGlobals mg) (c : He.SaysE fa fn K) (ok_is_league : OkD P w K mg T (cmX K cls) 3 "is_league" ["thing"] F_is_league) : OkD P w K mg T (cmX K cls) (4) "need_league" ["league"] (F_need_league) := by
  have ex_BadLeague : ExF K mg "BadLeague" := exf KX G c 1 "BadLeague"
  have nd := sc_need_league.nd
  refine okD_mk (k := 3) (x := "need_league") (N := ["league"]) (ps := ["league"]) (st := s_need_league) (g := g_need_league) KX G c 5 5 21 rfl rfl rfl sc_need_league (fun _ _ _ _ _ _ us hl => match us, hl with | [_], _ => rfl) (fun base f cdv A outer s H E hr => ?_)
  have tk : L2N.Takes (cxOf (L2N.CX P w) P w K mg base ["league"] "need_league" (defScope s_need_league) f cdv A outer s H E) (fun c d _ H => E c d H) := L2N.takes_of rfl rfl rfl rfl
  have hp := passes_of (X := cxOf (L2N.CX P w) P w K mg base ["league"] "need_league" (defScope s_need_league) f cdv A outer s H E) rfl
  exact (dss_one (ds_if (dt_not (dt_val (de_fn ok_is_league hr (by decide) rfl tk (da_cons (de_var 0) da_nil) (xlen_cons xlen_nil)))) (dss_one (ds_raiseX 1 ex_BadLeague tk))
  dss_nil))
theorem sc_need : FnScope ["good"] ["good"] (defScope s_need) := ⟨rfl, rfl, rfl, by decide +kernel, rfl, by decide +kernel, by decide +kernel⟩
theorem ok_need (KX : K.In h) (G : h.Ns mainGlobals mg) (c : He.SaysE fa fn K)  : OkD P w K mg T (cmX K cls) (1) "need" ["good"] (F_need) := by
  have ex_BadText : ExF K mg "BadText" := exf KX G c 6 "BadText"
  have nd := sc_need.nd
  refine okD_mk (k := 0) (x := "need") (N := ["good"]) (ps := ["good"]) (st := s_need) (g := g_need) KX G c 6 6 22 rfl rfl rfl sc_need (fun _ _ _ _ _ _ us hl => match us, hl with | [_], _ => rfl) (fun base f cdv A outer s H E hr => ?_)
  have tk : L2N.Takes (cxOf (L2N.CX P w) P w K mg base ["good"] "need" (defScope s_need) f cdv A outer s H E) (fun c d _ H => E c d H) := L2N.takes_of rfl rfl rfl rfl
  have hp := passes_of (X := cxOf (L2N.CX P w) P w K mg base ["good"] "need" (defScope s_need) f cdv A outer s H E) rfl
  exact (dss_one (ds_if (dt_not (dt_val (de_var 0))) (dss_one (ds_raiseX 6 ex_BadText tk))
  dss_nil))
theorem sc_league_text : FnScope ["league", "words", "one", "other", "many"] ["league"] (defScope s_league_text) := ⟨rfl, rfl, rfl, by decide +kernel, rfl, by decide +kernel, by decide +kernel⟩
theorem ok_league_text (KX : K.In h) (G : h.Ns mainGlobals mg) (c : He.SaysE fa fn K)  : OkD P w K mg T (cmX K cls) (1) "league_text" ["league"] (F_league_text) := by
  have m_str : mg "str" = none := He.free_ok KX G (c.fact 41 (f := .free "str") rfl)
  have nd := sc_league_text.nd
  refine okD_mk (k := 0) (x := "league_text") (N := ["league", "words", "one", "other", "many"]) (ps := ["league"]) (st := s_league_text) (g := g_league_text) KX G c 7 7 23 rfl rfl rfl sc_league_text (fun _ _ _ _ _ _ us hl => match us, hl with | [_], _ => rfl) (fun base f cdv A outer s H E hr => ?_)
  have tk : L2N.Takes (cxOf (L2N.CX P w) P w K mg base ["league", "words", "one", "other", "many"] "league_text" (defScope s_league_text) f cdv A outer s H E) (fun c d _ H => E c d H) := L2N.takes_of rfl rfl rfl rfl
  have hp := passes_of (X := cxOf (L2N.CX P w) P w K mg base ["league", "words", "one", "other", "many"] "league_text" (defScope s_league_text) f cdv A outer s H E) rfl
  exact (dss_cons (ds_new 1 nd (df_lst (da_cons (de_join de_str (de_ofF (df_lc (own := [("one", 2)]) rfl nd (di_list (de_ix (de_var 0) de_int (fun _ _ => rfl))) (blkOk_by (by rfl)) (fun _ _ _ _ _ => (dg_name 2 nd (by decide))) (fun _ _ _ _ _ => dts_nil) (fun _ _ _ _ _ => (de_t1 call_strD rfl m_str (by decide +kernel) (de_var 2)))))) da_nil)))
  (dss_cons (ds_extend 1 (de_ofF (df_lc (own := [("one", 2), ("other", 3), ("many", 4)]) rfl nd (di_list (de_ix (de_var 0) de_int (fun _ _ => rfl))) (blkOk_by (by rfl)) (fun _ _ _ _ _ => (dg_tup rfl (dgs_cons (dg_name 2 nd (by decide)) (dgs_cons (dg_name 3 nd (by decide)) (dgs_cons (dg_name 4 nd (by decide)) dgs_nil))))) (fun _ _ _ _ _ => dts_nil) (fun _ _ _ _ _ => (de_op op_addD (de_op op_addD (de_op op_addD (de_op op_addD (de_t1 call_strD rfl m_str (by decide +kernel) (de_var 2)) de_str) (de_t1 call_strD rfl m_str (by decide +kernel) (de_var 3))) de_str) (de_t1 call_strD rfl m_str (by decide +kernel) (de_var 4)))))))
  (dss_one (ds_frz 1 (ds_ret (de_join de_str (de_var 1)))))))
theorem sc_written : FnScope ["league"] ["league"] (defScope s_written) := ⟨rfl, rfl, rfl, by decide +kernel, rfl, by decide +kernel, by decide +kernel⟩
theorem ok_written (KX : K.In h) (G : h.Ns mainGlobals mg) (c : He.SaysE fa fn K) (ok_league_text : OkD P w K mg T (cmX K cls) 1 "league_text" ["league"] F_league_text) (ok_need_league : OkD P w K mg T (cmX K cls) 4 "need_league" ["league"] F_need_league) : OkD P w K mg T (cmX K cls) (5) "written" ["league"] (F_written) := by
  have nd := sc_written.nd
  refine okD_mk (k := 4) (x := "written") (N := ["league"]) (ps := ["league"]) (st := s_written) (g := g_written) KX G c 8 8 24 rfl rfl rfl sc_written (fun _ _ _ _ _ _ us hl => match us, hl with | [_], _ => rfl) (fun base f cdv A outer s H E hr => ?_)
  have tk : L2N.Takes (cxOf (L2N.CX P w) P w K mg base ["league"] "written" (defScope s_written) f cdv A outer s H E) (fun c d _ H => E c d H) := L2N.takes_of rfl rfl rfl rfl
  have hp := passes_of (X := cxOf (L2N.CX P w) P w K mg base ["league"] "written" (defScope s_written) f cdv A outer s H E) rfl
  exact (dss_cons (ds_drop (de_fn ok_need_league hr (by decide) rfl tk (da_cons (de_var 0) da_nil) (xlen_cons xlen_nil)))
  (dss_one (ds_ret (de_fn ok_league_text hr (by decide) rfl tk (da_cons (de_var 0) da_nil) (xlen_cons xlen_nil)))))
theorem sc_number_in : FnScope ["word", "sign"] ["word"] (defScope s_number_in) := ⟨rfl, rfl, rfl, by decide +kernel, rfl, by decide +kernel, by decide +kernel⟩
theorem ok_number_in (KX : K.In h) (G : h.Ns mainGlobals mg) (c : He.SaysE fa fn K) (ok_need : OkD P w K mg T (cmX K cls) 1 "need" ["good"] F_need) : OkD P w K mg T (cmX K cls) (2) "number_in" ["word"] (F_number_in) := by
  have m_all : mg "all" = none := He.free_ok KX G (c.fact 33 (f := .free "all") rfl)
  have m_int : mg "int" = none := He.free_ok KX G (c.fact 35 (f := .free "int") rfl)
  have m_len : mg "len" = none := He.free_ok KX G (c.fact 37 (f := .free "len") rfl)
  obtain ⟨t_FIGURES, m_FIGURES⟩ := He.str_ok KX G (c.fact 45 (f := .str "FIGURES" "0123456789") rfl)
  have nd := sc_number_in.nd
  refine okD_mk (k := 1) (x := "number_in") (N := ["word", "sign"]) (ps := ["word"]) (st := s_number_in) (g := g_number_in) KX G c 9 9 25 rfl rfl rfl sc_number_in (fun _ _ _ _ _ _ us hl => match us, hl with | [_], _ => rfl) (fun base f cdv A outer s H E hr => ?_)
  have tk : L2N.Takes (cxOf (L2N.CX P w) P w K mg base ["word", "sign"] "number_in" (defScope s_number_in) f cdv A outer s H E) (fun c d _ H => E c d H) := L2N.takes_of rfl rfl rfl rfl
  have hp := passes_of (X := cxOf (L2N.CX P w) P w K mg base ["word", "sign"] "number_in" (defScope s_number_in) f cdv A outer s H E) rfl
  exact (dss_cons (ds_drop (de_fn ok_need hr (by decide) rfl tk (da_cons (de_and (de_chain (op_leD hr.units0) (op_leD hr.units0) de_int (de_b1 call_lenDD rfl m_len (by decide +kernel) (de_var 0)) de_int) (de_one (de_b1 (call_allD rfl) rfl m_all (by decide +kernel) (de_ofF (df_lc (own := [("sign", 1)]) rfl nd (di_str (de_var 0)) (blkOk_by (by rfl)) (fun _ _ _ _ _ => (dg_name 1 nd (by decide))) (fun _ _ _ _ _ => dts_nil) (fun _ _ _ _ _ => (de_cmp (op_inDD (hu65 hr)) (de_var 1) (de_globS rfl m_FIGURES) (by rfl)))))))) da_nil) (xlen_cons xlen_nil)))
  (dss_one (ds_ret (de_t1 call_intD rfl m_int (by decide +kernel) (de_var 0)))))
theorem sc_left_in : FnScope ["word", "pair", "colon", "many", "one", "line", "other"] ["word"] (defScope s_left_in) := ⟨rfl, rfl, rfl, by decide +kernel, rfl, by decide +kernel, by decide +kernel⟩
theorem ok_left_in (KX : K.In h) (G : h.Ns mainGlobals mg) (c : He.SaysE fa fn K) (ok_number_in : OkD P w K mg T (cmX K cls) 2 "number_in" ["word"] F_number_in) : OkD P w K mg T (cmX K cls) (3) "left_in" ["word"] (F_left_in) := by
  have nd := sc_left_in.nd
  refine okD_mk (k := 2) (x := "left_in") (N := ["word", "pair", "colon", "many", "one", "line", "other"]) (ps := ["word"]) (st := s_left_in) (g := g_left_in) KX G c 10 10 26 rfl rfl rfl sc_left_in (fun _ _ _ _ _ _ us hl => match us, hl with | [_], _ => rfl) (fun base f cdv A outer s H E hr => ?_)
  have tk : L2N.Takes (cxOf (L2N.CX P w) P w K mg base ["word", "pair", "colon", "many", "one", "line", "other"] "left_in" (defScope s_left_in) f cdv A outer s H E) (fun c d _ H => E c d H) := L2N.takes_of rfl rfl rfl rfl
  have hp := passes_of (X := cxOf (L2N.CX P w) P w K mg base ["word", "pair", "colon", "many", "one", "line", "other"] "left_in" (defScope s_left_in) f cdv A outer s H E) rfl
  exact (dss_cons (ds_asg (vs := [1, 2, 3]) (de_parti (de_var 0) de_str) (dg_tup rfl (dgs_cons (dg_name 1 nd (by decide)) (dgs_cons (dg_name 2 nd (by decide)) (dgs_cons (dg_name 3 nd (by decide)) dgs_nil)))))
  (dss_cons (ds_asg (vs := [4, 5, 6]) (de_parti (de_var 1) de_str) (dg_tup rfl (dgs_cons (dg_name 4 nd (by decide)) (dgs_cons (dg_name 5 nd (by decide)) (dgs_cons (dg_name 6 nd (by decide)) dgs_nil)))))
  (dss_one (ds_ret (de_tup (da_cons (de_fn ok_number_in hr (by decide) rfl tk (da_cons (de_var 4) da_nil) (xlen_cons xlen_nil)) (da_cons (de_fn ok_number_in hr (by decide) rfl tk (da_cons (de_var 6) da_nil) (xlen_cons xlen_nil)) (da_cons (de_fn ok_number_in hr (by decide) rfl tk (da_cons (de_var 3) da_nil) (xlen_cons xlen_nil)) da_nil))))))))
theorem sc_read : FnScope ["text", "words", "found", "word"] ["text"] (defScope s_read) := ⟨rfl, rfl, rfl, by decide +kernel, rfl, by decide +kernel, by decide +kernel⟩
theorem ok_read (KX : K.In h) (G : h.Ns mainGlobals mg) (c : He.SaysE fa fn K) (ok_is_league : OkD P w K mg T (cmX K cls) 3 "is_league" ["thing"] F_is_league) (ok_league_text : OkD P w K mg T (cmX K cls) 1 "league_text" ["league"] F_league_text) (ok_left_in : OkD P w K mg T (cmX K cls) 3 "left_in" ["word"] F_left_in) (ok_need : OkD P w K mg T (cmX K cls) 1 "need" ["good"] F_need) (ok_number_in : OkD P w K mg T (cmX K cls) 2 "number_in" ["word"] F_number_in) : OkD P w K mg T (cmX K cls) (4) "read" ["text"] (F_read) := by
  have m_isinstance : mg "isinstance" = none := He.free_ok KX G (c.fact 36 (f := .free "isinstance") rfl)
  have m_str : mg "str" = none := He.free_ok KX G (c.fact 41 (f := .free "str") rfl)
  have m_tuple : mg "tuple" = none := He.free_ok KX G (c.fact 43 (f := .free "tuple") rfl)
  have nd := sc_read.nd
  refine okD_mk (k := 3) (x := "read") (N := ["text", "words", "found", "word"]) (ps := ["text"]) (st := s_read) (g := g_read) KX G c 11 11 27 rfl rfl rfl sc_read (fun _ _ _ _ _ _ us hl => match us, hl with | [_], _ => rfl) (fun base f cdv A outer s H E hr => ?_)
  have tk : L2N.Takes (cxOf (L2N.CX P w) P w K mg base ["text", "words", "found", "word"] "read" (defScope s_read) f cdv A outer s H E) (fun c d _ H => E c d H) := L2N.takes_of rfl rfl rfl rfl
  have hp := passes_of (X := cxOf (L2N.CX P w) P w K mg base ["text", "words", "found", "word"] "read" (defScope s_read) f cdv A outer s H E) rfl
  exact (dss_cons (ds_drop (de_fn ok_need hr (by decide) rfl tk (da_cons (de_isi .str rfl m_isinstance rfl m_str (by decide +kernel) (de_var 0)) da_nil) (xlen_cons xlen_nil)))
  (dss_cons (ds_set 1 nd (de_ofF (df_split (de_var 0) de_str)))
  (dss_cons (ds_set 2 nd (de_tup (da_cons (de_t1 call_tupleD rfl m_tuple (by decide +kernel) (de_ofF (df_lcX (own := [("word", 3)]) rfl rfl rfl tk nd (di_list (de_ofF (df_split (de_ix (de_var 1) de_int (fun _ _ => rfl)) de_str))) (blkOk_by (by rfl)) (fun _ _ _ _ _ _ => (dg_name 3 nd (by decide))) (fun _ _ _ _ _ _ => dts_nil) (fun _ _ _ _ _ _ pn => (de_fnP ok_number_in hr (by decide) rfl pn (da_cons (de_var 3) da_nil) (xlen_cons xlen_nil)))))) (da_cons (de_t1 call_tupleD rfl m_tuple (by decide +kernel) (de_ofF (df_lcX (own := [("word", 3)]) rfl rfl rfl tk nd (di_list (de_slice (de_var 1) (dpo_some de_int) dpo_none)) (blkOk_by (by rfl)) (fun _ _ _ _ _ _ => (dg_name 3 nd (by decide))) (fun _ _ _ _ _ _ => dts_nil) (fun _ _ _ _ _ _ pn => (de_fnP ok_left_in hr (by decide) rfl pn (da_cons (de_var 3) da_nil) (xlen_cons xlen_nil)))))) da_nil))))
  (dss_cons (ds_drop (de_fn ok_need hr (by decide) rfl tk (da_cons (de_and (de_fn ok_is_league hr (by decide) rfl tk (da_cons (de_var 2) da_nil) (xlen_cons xlen_nil)) (de_one (de_cmp (op_eqDD hr.units) (de_fn ok_league_text hr (by decide) rfl tk (da_cons (de_var 2) da_nil) (xlen_cons xlen_nil)) (de_var 0) (nomark _)))) da_nil) (xlen_cons xlen_nil)))
  (dss_one (ds_ret (de_var 2)))))))
theorem sc__law_cell : FnScope ["script", "k"] ["script", "k"] (defScope s__law_cell) := ⟨rfl, rfl, rfl, by decide +kernel, rfl, by decide +kernel, by decide +kernel⟩
theorem ok__law_cell (KX : K.In h) (G : h.Ns mainGlobals mg) (c : He.SaysE fa fn K)  : OkD P w K mg T (cmX K cls) (1) "_law_cell" ["script", "k"] (F__law_cell) := by
  have m_len : mg "len" = none := He.free_ok KX G (c.fact 37 (f := .free "len") rfl)
  have nd := sc__law_cell.nd
  refine okD_mk (k := 0) (x := "_law_cell") (N := ["script", "k"]) (ps := ["script", "k"]) (st := s__law_cell) (g := g__law_cell) KX G c 12 12 28 rfl rfl rfl sc__law_cell (fun _ _ _ _ _ _ us hl => match us, hl with | [_, _], _ => rfl) (fun base f cdv A outer s H E hr => ?_)
  have tk : L2N.Takes (cxOf (L2N.CX P w) P w K mg base ["script", "k"] "_law_cell" (defScope s__law_cell) f cdv A outer s H E) (fun c d _ H => E c d H) := L2N.takes_of rfl rfl rfl rfl
  have hp := passes_of (X := cxOf (L2N.CX P w) P w K mg base ["script", "k"] "_law_cell" (defScope s__law_cell) f cdv A outer s H E) rfl
  exact (dss_cons (ds_if (dt_cmp (op_eqDD hr.units) (de_var 0) (de_ofF (df_lst da_nil)) (nomark _)) (dss_one (ds_ret (de_op op_mulD (de_var 1) de_int)))
  dss_nil)
  (dss_one (ds_ret (de_op op_addD (de_ix (de_var 0) (de_op op_modD (de_var 1) (de_b1 call_lenDD rfl m_len (by decide +kernel) (de_var 0))) (fun _ _ => rfl)) (de_op op_mulD (de_op op_fdivD (de_var 1) (de_b1 call_lenDD rfl m_len (by decide +kernel) (de_var 0))) de_int)))))
theorem sc__law_drawn : FnScope ["cell", "k", "more"] ["cell", "k"] (defScope s__law_drawn) := ⟨rfl, rfl, rfl, by decide +kernel, rfl, by decide +kernel, by decide +kernel⟩
theorem ok__law_drawn (KX : K.In h) (G : h.Ns mainGlobals mg) (c : He.SaysE fa fn K)  : OkD P w K mg T (cmX K cls) (1) "_law_drawn" ["cell", "k"] (F__law_drawn) := by
  have nd := sc__law_drawn.nd
  refine okD_mk (k := 0) (x := "_law_drawn") (N := ["cell", "k", "more"]) (ps := ["cell", "k"]) (st := s__law_drawn) (g := g__law_drawn) KX G c 13 13 29 rfl rfl rfl sc__law_drawn (fun _ _ _ _ _ _ us hl => match us, hl with | [_, _], _ => rfl) (fun base f cdv A outer s H E hr => ?_)
  have tk : L2N.Takes (cxOf (L2N.CX P w) P w K mg base ["cell", "k", "more"] "_law_drawn" (defScope s__law_drawn) f cdv A outer s H E) (fun c d _ H => E c d H) := L2N.takes_of rfl rfl rfl rfl
  have hp := passes_of (X := cxOf (L2N.CX P w) P w K mg base ["cell", "k", "more"] "_law_drawn" (defScope s__law_drawn) f cdv A outer s H E) rfl
  exact (dss_cons (ds_set 2 nd (de_op op_modD (de_op op_addD (de_op op_mulD (de_var 0) de_int) (de_op op_mulD (de_op op_addD (de_var 1) de_int) de_int)) de_int))
  (dss_cons (ds_set 2 nd (de_op op_modD (de_op op_mulD (de_var 2) (de_var 2)) de_int))
  (dss_cons (ds_set 2 nd (de_op op_mulD (de_op op_mulD (de_op op_addD (de_op op_modD (de_var 2) de_int) de_int) (de_op op_addD (de_op op_fdivD (de_var 2) de_int) de_int)) (de_var 2)))
  (dss_one (ds_ret (de_op op_modD (de_var 2) de_int))))))
theorem sc__law_league : FnScope ["more", "most", "sides", "wins", "left", "one", "other", "here", "j"] ["more", "most"] (defScope s__law_league) := ⟨rfl, rfl, rfl, by decide +kernel, rfl, by decide +kernel, by decide +kernel⟩
theorem ok__law_league (KX : K.In h) (G : h.Ns mainGlobals mg) (c : He.SaysE fa fn K) (ok__law_drawn : OkD P w K mg T (cmX K cls) 1 "_law_drawn" ["cell", "k"] F__law_drawn) : OkD P w K mg T (cmX K cls) (2) "_law_league" ["more", "most"] (F__law_league) := by
  have m_range : mg "range" = none := He.free_ok KX G (c.fact 40 (f := .free "range") rfl)
  have m_tuple : mg "tuple" = none := He.free_ok KX G (c.fact 43 (f := .free "tuple") rfl)
  have nd := sc__law_league.nd
  refine okD_mk (k := 1) (x := "_law_league") (N := ["more", "most", "sides", "wins", "left", "one", "other", "here", "j"]) (ps := ["more", "most"]) (st := s__law_league) (g := g__law_league) KX G c 14 14 30 rfl rfl rfl sc__law_league (fun _ _ _ _ _ _ us hl => match us, hl with | [_, _], _ => rfl) (fun base f cdv A outer s H E hr => ?_)
  have tk : L2N.Takes (cxOf (L2N.CX P w) P w K mg base ["more", "most", "sides", "wins", "left", "one", "other", "here", "j"] "_law_league" (defScope s__law_league) f cdv A outer s H E) (fun c d _ H => E c d H) := L2N.takes_of rfl rfl rfl rfl
  have hp := passes_of (X := cxOf (L2N.CX P w) P w K mg base ["more", "most", "sides", "wins", "left", "one", "other", "here", "j"] "_law_league" (defScope s__law_league) f cdv A outer s H E) rfl
  exact (dss_cons (ds_set 2 nd (de_op op_addD de_int (de_op op_modD (de_var 0) (de_op op_subD (de_var 1) de_int))))
  (dss_cons (ds_set 3 nd (de_t1 call_tupleD rfl m_tuple (by decide +kernel) (de_ofF (df_lc (own := [("j", 8)]) rfl nd (di_range1 rfl m_range (de_var 2)) (blkOk_by (by rfl)) (fun _ _ _ _ _ => (dg_name 8 nd (by decide))) (fun _ _ _ _ _ => dts_nil) (fun _ _ _ _ _ => (de_op op_modD (de_fn ok__law_drawn hr (by decide) rfl takesN0 (da_cons (de_var 0) (da_cons (de_var 8) da_nil)) (xlen_cons (xlen_cons xlen_nil))) (de_ix (de_ofF (df_lst (da_cons de_int (da_cons de_int (da_cons de_int da_nil))))) (de_op op_modD (de_op op_fdivD (de_var 0) de_int) de_int) (fun _ _ => rfl))))))))
  (dss_cons (ds_new 4 nd (df_lst da_nil))
  (dss_cons (ds_for (vs := [5]) hp rfl (di_range1 rfl m_range (de_var 2)) (dg_name 5 nd (by decide))
  (dss_one (ds_for (vs := [6]) hp rfl (di_range2 rfl m_range (de_op op_addD (de_var 5) de_int) (de_var 2)) (dg_name 6 nd (by decide))
  (dss_cons (ds_set 7 nd (de_fn ok__law_drawn hr (by decide) rfl tk (da_cons (de_var 0) (da_cons (de_op op_addD (de_op op_addD de_int (de_op op_mulD de_int (de_var 5))) (de_var 6)) da_nil)) (xlen_cons (xlen_cons xlen_nil))))
  (dss_one (ds_if (dt_cmp op_gtD (de_op op_modD (de_var 7) de_int) de_int (nomark _)) (dss_one (ds_app 4 (de_tup (da_cons (de_var 5) (da_cons (de_var 6) (da_cons (de_op op_addD de_int (de_op op_modD (de_op op_fdivD (de_var 7) de_int) (de_ix (de_ofF (df_lst (da_cons de_int (da_cons de_int (da_cons de_int (da_cons de_int da_nil)))))) (de_op op_modD (de_op op_fdivD (de_var 7) de_int) de_int) (fun _ _ => rfl)))) da_nil))))))
  dss_nil))))))
  (dss_one (ds_frz 4 (ds_ret (de_tup (da_cons (de_var 3) (da_cons (de_t1 call_tupleD rfl m_tuple (by decide +kernel) (de_var 4)) da_nil))))))))))
theorem sc_law : FnScope ["script", "k", "more", "league", "text", "parts", "due", "many", "bad", "turned", "one", "other"] ["script"] (defScope s_law) := ⟨rfl, rfl, rfl, by decide +kernel, rfl, by decide +kernel, by decide +kernel⟩
theorem ok_law (KX : K.In h) (G : h.Ns mainGlobals mg) (c : He.SaysE fa fn K) (ok__law_cell : OkD P w K mg T (cmX K cls) 1 "_law_cell" ["script", "k"] F__law_cell) (ok__law_drawn : OkD P w K mg T (cmX K cls) 1 "_law_drawn" ["cell", "k"] F__law_drawn) (ok__law_league : OkD P w K mg T (cmX K cls) 2 "_law_league" ["more", "most"] F__law_league) (ok_read : OkD P w K mg T (cmX K cls) 4 "read" ["text"] F_read) (ok_written : OkD P w K mg T (cmX K cls) 5 "written" ["league"] F_written) (TO : ToldOk P w K mg T 5 "_law_told" (wordsX K cls)) (LF : LamF K mg T "law") : OkD P w K mg T (cmX K cls) (8) "law" ["script"] (F_law) := by
  have m_len : mg "len" = none := He.free_ok KX G (c.fact 37 (f := .free "len") rfl)
  have m_max : mg "max" = none := He.free_ok KX G (c.fact 38 (f := .free "max") rfl)
  have m_min : mg "min" = none := He.free_ok KX G (c.fact 39 (f := .free "min") rfl)
  have m_range : mg "range" = none := He.free_ok KX G (c.fact 40 (f := .free "range") rfl)
  have m_str : mg "str" = none := He.free_ok KX G (c.fact 41 (f := .free "str") rfl)
  have nd := sc_law.nd
  refine okD_mkC (k := 7) (x := "law") (N := ["script", "k", "more", "league", "text", "parts", "due", "many", "bad", "turned", "one", "other"]) (ps := ["script"]) (st := s_law) (g := g_law) KX G c 15 15 31 rfl rfl rfl sc_law (fun _ _ _ _ _ _ us hl => match us, hl with | [_], _ => rfl) (fun base f cdv A outer s H E hcd hr => ?_)
  have tk : L2N.Takes (cxOf (L2N.CX P w) P w K mg base ["script", "k", "more", "league", "text", "parts", "due", "many", "bad", "turned", "one", "other"] "law" (defScope s_law) f cdv A outer s H E) (fun c d _ H => E c d H) := L2N.takes_of rfl rfl rfl rfl
  have hp := passes_of (X := cxOf (L2N.CX P w) P w K mg base ["script", "k", "more", "league", "text", "parts", "due", "many", "bad", "turned", "one", "other"] "law" (defScope s_law) f cdv A outer s H E) rfl
  exact (dss_cons (ds_for (vs := [1]) hp rfl (di_range1 rfl m_range (de_b2 (call_max2D rfl) rfl m_max (by decide +kernel) de_int (de_b2 (call_min2D rfl) rfl m_min (by decide +kernel) de_int (de_b1 call_lenDD rfl m_len (by decide +kernel) (de_var 0))))) (dg_name 1 nd (by decide))
  (dss_cons (ds_set 2 nd (de_fn ok__law_drawn hr (by decide) rfl tk (da_cons (de_fn ok__law_cell hr (by decide) rfl tk (da_cons (de_var 0) (da_cons (de_var 1) da_nil)) (xlen_cons (xlen_cons xlen_nil))) (da_cons (de_var 1) da_nil)) (xlen_cons (xlen_cons xlen_nil))))
  (dss_cons (ds_set 3 nd (de_fn ok__law_league hr (by decide) rfl tk (da_cons (de_op op_fdivD (de_var 2) de_int) (da_cons de_int da_nil)) (xlen_cons (xlen_cons xlen_nil))))
  (dss_cons (ds_set 4 nd (de_toldX (cls := cls) TO LF hcd (hr.mono (by decide)) (fun _ _ _ _ _ _ _ hr => (de_fn ok_written hr (by decide) rfl lam_takes (da_cons (de_var 3) da_nil) (xlen_cons xlen_nil)))))
  (dss_cons (ds_set 5 nd (de_ofF (df_split (de_var 4) de_str)))
  (dss_cons (ds_set 6 nd (de_ofF (df_lst (da_cons (de_join de_str (de_ofF (df_lc (own := [("one", 10)]) rfl nd (di_list (de_ix (de_var 3) de_int (fun _ _ => rfl))) (blkOk_by (by rfl)) (fun _ _ _ _ _ => (dg_name 10 nd (by decide))) (fun _ _ _ _ _ => dts_nil) (fun _ _ _ _ _ => (de_t1 call_strD rfl m_str (by decide +kernel) (de_var 10)))))) da_nil))))
  (dss_cons (ds_set 6 nd (de_op op_addD (de_var 6) (de_ofF (df_lc (own := [("one", 10), ("other", 11), ("many", 7)]) rfl nd (di_list (de_ix (de_var 3) de_int (fun _ _ => rfl))) (blkOk_by (by rfl)) (fun _ _ _ _ _ => (dg_tup rfl (dgs_cons (dg_name 10 nd (by decide)) (dgs_cons (dg_name 11 nd (by decide)) (dgs_cons (dg_name 7 nd (by decide)) dgs_nil))))) (fun _ _ _ _ _ => dts_nil) (fun _ _ _ _ _ => (de_op op_addD (de_op op_addD (de_op op_addD (de_op op_addD (de_t1 call_strD rfl m_str (by decide +kernel) (de_var 10)) de_str) (de_t1 call_strD rfl m_str (by decide +kernel) (de_var 11))) de_str) (de_t1 call_strD rfl m_str (by decide +kernel) (de_var 7))))))))
  (dss_cons (ds_if (PW.pt (dw_or (dt_cmp (op_neDD hr.units) (de_var 5) (de_var 6) (nomark _)) (dw_or1 (dt_cmp (op_neDD hr.units) (de_toldX (cls := cls) TO LF hcd (hr.mono (by decide)) (fun _ _ _ _ _ _ _ hr => (de_fn ok_read hr (by decide) rfl lam_takes (da_cons (de_var 4) da_nil) (xlen_cons xlen_nil)))) (de_var 3) (nomark _))))) (dss_one (ds_ret de_bl))
  dss_nil)
  (dss_cons (ds_for (vs := [7]) hp rfl (di_range1 rfl m_range (de_b1 call_lenDD rfl m_len (by decide +kernel) (de_ix (de_var 3) de_int (fun _ _ => rfl)))) (dg_name 7 nd (by decide))
  (dss_one (ds_if (dt_cmp (op_neDD hr.units) (de_toldX (cls := cls) TO LF hcd (hr.mono (by decide)) (fun _ _ _ _ _ _ _ hr => (de_fn ok_read hr (by decide) rfl lam_takes (da_cons (de_join de_str (de_slice (de_var 5) dpo_none (dpo_some (de_op op_addD (de_var 7) de_int)))) da_nil) (xlen_cons xlen_nil)))) (de_tup (da_cons (de_ix (de_var 3) de_int (fun _ _ => rfl)) (da_cons (de_slice (de_ix (de_var 3) de_int (fun _ _ => rfl)) dpo_none (dpo_some (de_var 7))) da_nil))) (nomark _)) (dss_one (ds_ret de_bl))
  dss_nil)))
  (dss_cons (ds_if (dt_cmp op_gtD (de_b1 call_lenDD rfl m_len (by decide +kernel) (de_var 5)) de_int (nomark _)) (dss_cons (ds_set 9 nd (de_ofF (df_lst (da_cons (de_join de_str (de_op op_addD (de_ofF (df_lst (da_cons (de_ix (de_var 5) de_int (fun _ _ => rfl)) da_nil))) (de_ofF (df_back (de_var 5))))) (da_cons (de_join de_str (de_op op_addD (de_var 5) (de_slice (de_var 5) (dpo_some (de_un un_negD de_int)) dpo_none))) (da_cons (de_join de_str (de_slice (de_var 5) (dpo_some de_int) dpo_none)) da_nil))))))
  (dss_cons (ds_if (dt_cmp (op_neDD hr.units) (de_ofF (df_lst (da_cons (de_toldX (cls := cls) TO LF hcd (hr.mono (by decide)) (fun _ _ _ _ _ _ _ hr => (de_fn ok_read hr (by decide) rfl lam_takes (da_cons (de_ix (de_var 9) de_int (fun _ _ => rfl)) da_nil) (xlen_cons xlen_nil)))) (da_cons (de_toldX (cls := cls) TO LF hcd (hr.mono (by decide)) (fun _ _ _ _ _ _ _ hr => (de_fn ok_read hr (by decide) rfl lam_takes (da_cons (de_ix (de_var 9) de_int (fun _ _ => rfl)) da_nil) (xlen_cons xlen_nil)))) da_nil)))) (de_ofF (df_rep (df_lst (da_cons de_str da_nil)) de_int)) (nomark _)) (dss_one (ds_ret de_bl))
  dss_nil)
  (dss_one (ds_if (dt_cmp (op_neDD hr.units) (de_toldX (cls := cls) TO LF hcd (hr.mono (by decide)) (fun _ _ _ _ _ _ _ hr => (de_fn ok_read hr (by decide) rfl lam_takes (da_cons (de_ix (de_var 9) de_int (fun _ _ => rfl)) da_nil) (xlen_cons xlen_nil)))) de_str (nomark _)) (dss_one (ds_ret de_bl))
  dss_nil))))
  dss_nil)
  (dss_cons (ds_for (vs := [8]) hp rfl (di_list (de_ofF (df_lst (da_consP op_addD (de_var 4) (dat_cons (det_of (de_op op_addD (de_var 4) de_str)) (dat_cons (det_of (de_op op_addD de_str (de_var 4))) (dat_cons (det_repl1 (de_var 4)) (dat_cons (det_of (de_op op_addD de_str (de_var 4))) (dat_cons (det_of (de_op op_addD de_str (de_var 4))) (dat_cons (det_of de_str) (dat_of da_nil))))))))))) (dg_name 8 nd (by decide))
  (dss_one (ds_if (dt_cmp (op_neDD hr.units) (de_toldX (cls := cls) TO LF hcd (hr.mono (by decide)) (fun _ _ _ _ _ _ _ hr => (de_fn ok_read hr (by decide) rfl lam_takes (da_cons (de_var 8) da_nil) (xlen_cons xlen_nil)))) de_str (nomark _)) (dss_one (ds_ret de_bl))
  dss_nil)))
  (dss_cons (ds_if (dt_cmp (op_neDD hr.units) (de_toldX (cls := cls) TO LF hcd (hr.mono (by decide)) (fun _ _ _ _ _ _ _ hr => (de_fn ok_written hr (by decide) rfl lam_takes (da_cons (de_tup (da_cons (de_ix (de_var 3) de_int (fun _ _ => rfl)) (da_cons de_non da_nil))) da_nil) (xlen_cons xlen_nil)))) de_str (nomark _)) (dss_one (ds_ret de_bl))
  dss_nil)
  (dss_one (ds_if (dt_cmp (op_neDD hr.units) (de_toldX (cls := cls) TO LF hcd (hr.mono (by decide)) (fun _ _ _ _ _ _ _ hr => (de_fn ok_written hr (by decide) rfl lam_takes (da_cons de_non da_nil) (xlen_cons xlen_nil)))) de_str (nomark _)) (dss_one (ds_ret de_bl))
  dss_nil))))))))))))))
  (dss_one (ds_ret de_bl)))
end
end K61
set_option Elab.async false
set_option linter.all false
set_option maxRecDepth 100000
set_option autoImplicit false
/-! # plain facts of the data layer -/
namespace DL
open PySem
section
variable {α β : Type}
@[simp] theorem q_ret (a : α) : ret a = some (.ok a) := id rfl
@[simp] theorem q_lift (a : α) : lift (some a) = some (.ok a) := id rfl
variable (A B C : XE) (L M : XL) (t u : XT) (δ : DE) (f g : D → D → Option D) (lo hi : XO)
@[simp] theorem q_xC (d : D) : xC d δ = some (.ok d) := id rfl
theorem q_xVar (i : Nat) (d : D) (h : δ[i]? = some (.dat d)) : xVar i δ = some (.ok d) := by unfold xVar; rw [h]; rfl
@[simp] theorem q_xVar0 (d : D) (r : DE) : xVar 0 (.dat d :: r) = some (.ok d) := id rfl
@[simp] theorem q_xVarS (i : Nat) (s : Sl) (r : DE) : xVar (i + 1) (s :: r) = xVar i r := by simp [xVar]
@[simp] theorem q_x1 (f : D → Option D) : x1 f A δ = bnd (A δ) fun x => lift (f x) := id rfl
@[simp] theorem q_x2 : x2 f A B δ = bnd (A δ) fun x => bnd (B δ) fun y => lift (f x y) := id rfl
@[simp] theorem q_xNil : xNil δ = some (.ok []) := id rfl
@[simp] theorem q_xCons : xCons A L δ = bnd (A δ) fun x => bnd (L δ) fun xs => some (.ok (x :: xs)) := id rfl
@[simp] theorem q_xTup0 : xTup xNil δ = some (.ok (.tuple [])) := id rfl
@[simp] theorem q_xTup1 : xTup (xCons A xNil) δ = bnd (A δ) fun x => some (.ok (.tuple [x])) := by
  unfold xTup xCons xNil; cases A δ with
  | none => rfl
  | some r => cases r <;> rfl
@[simp] theorem q_xTup2 : xTup (xCons A (xCons B xNil)) δ = bnd (A δ) fun x => bnd (B δ) fun y => some (.ok (.tuple [x, y])) := by
  unfold xTup xCons xNil; cases A δ with
  | none => rfl
  | some r =>
    cases r with
    | ex c => rfl
    | ok x => cases B δ with
      | none => rfl
      | some r => cases r <;> rfl
@[simp] theorem q_xTup3 : xTup (xCons A (xCons B (xCons C xNil))) δ = bnd (A δ) fun x => bnd (B δ) fun y => bnd (C δ) fun z => some (.ok (.tuple [x, y, z])) := by
  unfold xTup xCons xNil; cases A δ with
  | none => rfl
  | some r =>
    cases r with
    | ex c => rfl
    | ok x => cases B δ with
      | none => rfl
      | some r =>
        cases r with
        | ex c => rfl
        | ok x => cases C δ with
          | none => rfl
          | some r => cases r <;> rfl
@[simp] theorem q_xLst0 : xLst xNil δ = some (.ok []) := id rfl
@[simp] theorem q_xLst1 : xLst (xCons A xNil) δ = bnd (A δ) fun x => some (.ok [x]) := by
  unfold xLst xCons xNil; cases A δ with
  | none => rfl
  | some r => cases r <;> rfl
theorem q_xLst (xs : List D) (h : L δ = some (.ok xs)) (hz : xs.length ≤ sz) : xLst L δ = some (.ok xs) := by unfold xLst; rw [h, bnd_ok, if_pos hz]; rfl
@[simp] theorem q_xOfL : xOfL L δ = bnd (L δ) fun xs => some (.ok (.list xs)) := id rfl
@[simp] theorem q_xTupL : xTupL L δ = bnd (L δ) fun xs => some (.ok (.tuple xs)) := id rfl
@[simp] theorem q_xCall (F : List D → Pr D) : xCall F L δ = bnd (L δ) F := id rfl
@[simp] theorem q_xF1 (f : D → Option (List D)) : xF1 f A δ = bnd (A δ) fun x => lift (f x) := id rfl
@[simp] theorem q_xChain : xChain f g A B C δ = bnd (A δ) fun x => bnd (B δ) fun y => match f x y with
  | some (.bool true) => bnd (C δ) fun z => lift (g y z)
  | some (.bool false) => some (.ok (.bool false))
  | _ => none := id rfl
@[simp] theorem q_yV : yV A δ = bnd (A δ) fun x => match x with
  | .bool b => some (.ok b)
  | _ => none := id rfl
@[simp] theorem q_yAnd : yAnd t u δ = bnd (t δ) fun b => if b then u δ else some (.ok false) := id rfl
@[simp] theorem q_yOr : yOr t u δ = bnd (t δ) fun b => if b then some (.ok true) else u δ := id rfl
@[simp] theorem q_yNot : yNot t δ = bnd (t δ) fun b => some (.ok (!b)) := id rfl
@[simp] theorem q_yTrue : yTrue δ = some (.ok true) := id rfl
@[simp] theorem q_xAnd : xAnd A B δ = bnd (A δ) fun x => match x with
  | .bool true => B δ
  | .bool false => some (.ok (.bool false))
  | _ => none := id rfl
@[simp] theorem q_xOr : xOr A B δ = bnd (A δ) fun x => match x with
  | .bool true => some (.ok (.bool true))
  | .bool false => B δ
  | _ => none := id rfl
@[simp] theorem q_xNot : xNot A δ = bnd (A δ) fun x => match x with
  | .bool b => some (.ok (.bool (!b)))
  | _ => none := id rfl
@[simp] theorem q_xIf : xIf t A B δ = bnd (t δ) fun b => if b then A δ else B δ := id rfl
@[simp] theorem q_xNoPart : xNoPart δ = some (.ok none) := id rfl
@[simp] theorem q_xPart : xPart A δ = bnd (A δ) fun x => match x with
  | .int i => some (.ok (some i))
  | _ => none := id rfl
@[simp] theorem q_xSlice : xSlice A lo hi δ = bnd (A δ) fun x => bnd (lo δ) fun l => bnd (hi δ) fun h => lift (sliceD x l h) := id rfl
theorem q_xRange1 : xRange1 A δ = bnd (A δ) fun x => match x with
  | .int i => lift (rangeD 0 i)
  | _ => none := id rfl
theorem q_xRange2 : xRange2 A B δ = bnd (A δ) fun x => bnd (B δ) fun y => match x, y with
  | .int i, .int j => lift (rangeD i j)
  | _, _ => none := id rfl
theorem q_xRangeD : xRangeD A B δ = bnd (A δ) fun x => bnd (B δ) fun y => match x, y with
  | .int i, .int j => lift (rangeDown i j)
  | _, _ => none := id rfl
@[simp] theorem q_xIter : xIter A δ = bnd (A δ) fun x => lift (itemsD x) := id rfl
@[simp] theorem q_xEnum : xEnum A δ = bnd (A δ) fun x => bnd (lift (itemsD x)) fun ds => some (.ok (enumL ds)) := id rfl
@[simp] theorem q_xZip : xZip A B δ = bnd (A δ) fun x => bnd (B δ) fun y => match x, y with
  | .list xs, .list ys => some (.ok (zipL xs ys))
  | .tuple xs, .tuple ys => some (.ok (zipL xs ys))
  | .list xs, .tuple ys => some (.ok (zipL xs ys))
  | _, _ => none := id rfl
theorem q_xLc (it : XL) (g : XG) (e : XE) (vs : List Nat) : xLc it g t e vs δ = bnd (it δ) fun xs => lift (lcGo g t e (wipeD δ vs) xs) := rfl
@[simp] theorem q_gN (i : Nat) (d : D) : gN i d δ = if i < δ.length then some (δ.set i (.dat d)) else none := id rfl
@[simp] theorem q_gsNil : gsNil [] δ = some δ := id rfl
@[simp] theorem q_gsCons (g : XG) (gs : XGs) (d : D) (r : List D) : gsCons g gs (d :: r) δ = (g d δ).bind (gs r) := id rfl
@[simp] theorem q_gT2 (gs : XGs) (x y : D) : gT 2 gs (.tuple [x, y]) δ = gs [x, y] δ := id rfl
@[simp] theorem q_gT3 (gs : XGs) (x y z : D) : gT 3 gs (.tuple [x, y, z]) δ = gs [x, y, z] δ := id rfl
@[simp] theorem q_xOwnLen0 (ds : List D) (r : DE) : xOwnLen 0 (.own (.lst ds) :: r) = some (.ok (.int ds.length)) := id rfl
@[simp] theorem q_xOwnLenS (i : Nat) (s : Sl) (r : DE) : xOwnLen (i + 1) (s :: r) = xOwnLen i r := by simp [xOwnLen]
theorem q_xOwnIx (i : Nat) (ds : List D) (h : δ[i]? = some (.own (.lst ds))) : xOwnIx i B δ = bnd (B δ) fun k => match k with
    | .int k => lift (atI ds k)
    | _ => none := by unfold xOwnIx; rw [h] <;> rfl
end
/-! operations on ints -/
@[simp] theorem q_addI (i j : Int) : addD (.int i) (.int j) = some (.int (i + j)) := id rfl
@[simp] theorem q_subI (i j : Int) : subD (.int i) (.int j) = some (.int (i - j)) := id rfl
theorem q_mulI {i j : Int} (h : mulOk i j = true) : mulD (.int i) (.int j) = some (.int (i * j)) := if_pos h
@[simp] theorem q_negI (i : Int) : negD (.int i) = some (.int (-i)) := id rfl
@[simp] theorem q_ltI (i j : Int) : ltD (.int i) (.int j) = some (.bool (decide (i < j))) := id rfl
@[simp] theorem q_leI (i j : Int) : leD (.int i) (.int j) = some (.bool (decide (i ≤ j))) := id rfl
@[simp] theorem q_gtI (i j : Int) : gtD (.int i) (.int j) = some (.bool (decide (j < i))) := id rfl
@[simp] theorem q_geI (i j : Int) : geD (.int i) (.int j) = some (.bool (decide (j ≤ i))) := id rfl
theorem q_modI {i j : Int} (h : 0 < j) : modD (.int i) (.int j) = some (.int (i % j)) := if_pos h
theorem q_fdivI {i j : Int} (h : 0 < j) (h2 : j.natAbs.log2 < 9000) : fdivD (.int i) (.int j) = some (.int (i / j)) := if_pos ⟨h, h2⟩
@[simp] theorem q_min2 (i j : Int) : min2D (.int i) (.int j) = some (.int (min i j)) := by
  show some (PyData.int (if j < i then j else i)) = _; congr 2; rw [Int.min_def]; split <;> split <;> omega
@[simp] theorem q_max2 (i j : Int) : max2D (.int i) (.int j) = some (.int (max i j)) := by
  show some (PyData.int (if j > i then j else i)) = _; congr 2; rw [Int.max_def]; split <;> split <;> omega
@[simp] theorem q_intI (i : Int) : intD (.int i) = some (.int i) := id rfl
@[simp] theorem q_intB (b : Bool) : intD (.bool b) = some (.int (if b then 1 else 0)) := id rfl
@[simp] theorem q_lenL (ds : List D) : lenD (.list ds) = some (.int ds.length) := id rfl
@[simp] theorem q_lenT (ds : List D) : lenD (.tuple ds) = some (.int ds.length) := id rfl
@[simp] theorem q_isi (t : Ty) (x : D) : isiD t x = some (.bool (isi t x)) := id rfl
@[simp] theorem q_isND (x : D) : isND x = some (.bool (isNone x)) := id rfl
@[simp] theorem q_notND (x : D) : notND x = some (.bool (!isNone x)) := id rfl
@[simp] theorem q_itemsL (ds : List D) : itemsD (.list ds) = some ds := id rfl
@[simp] theorem q_itemsT (ds : List D) : itemsD (.tuple ds) = some ds := id rfl
@[simp] theorem q_tupleL (ds : List D) : tupleD (.list ds) = some (.tuple ds) := id rfl
@[simp] theorem q_tupleT (ds : List D) : tupleD (.tuple ds) = some (.tuple ds) := id rfl
@[simp] theorem q_listL (ds : List D) : listD (.list ds) = some ds := id rfl
@[simp] theorem q_listT (ds : List D) : listD (.tuple ds) = some ds := id rfl
@[simp] theorem q_sliceL (ds : List D) (l h : Option Int) : sliceD (.list ds) l h = some (.list (cut ds l h)) := id rfl
@[simp] theorem q_sliceT (ds : List D) (l h : Option Int) : sliceD (.tuple ds) l h = some (.tuple (cut ds l h)) := id rfl
@[simp] theorem q_ixL (ds : List D) (i : Int) : ixD (.list ds) (.int i) = atI ds i := id rfl
@[simp] theorem q_ixT (ds : List D) (i : Int) : ixD (.tuple ds) (.int i) = atI ds i := id rfl
theorem q_addT {xs ys : List D} (h : xs.length + ys.length ≤ sz) : addD (.tuple xs) (.tuple ys) = some (.tuple (xs ++ ys)) := if_pos h
theorem q_addL {xs ys : List D} (h : xs.length + ys.length ≤ sz) : addD (.list xs) (.list ys) = some (.list (xs ++ ys)) := if_pos h
@[simp] theorem intsOf_map (ns : List Int) : intsOf (ns.map PyData.int) = some ns := by
  induction ns with
  | nil => rfl
  | cons x xs ih => simp [intsOf, ih]
@[simp] theorem boolsOf_map (ns : List Bool) : boolsOf (ns.map PyData.bool) = some ns := by
  induction ns with
  | nil => rfl
  | cons x xs ih => simp [boolsOf, ih]
theorem intsOf_mapf {ι : Type} (f : ι → Int) (xs : List ι) : intsOf (xs.map fun i => PyData.int (f i)) = some (xs.map f) := by
  rw [← intsOf_map, List.map_map]; rfl
theorem boolsOf_mapf {ι : Type} (f : ι → Bool) (xs : List ι) : boolsOf (xs.map fun i => PyData.bool (f i)) = some (xs.map f) := by
  rw [← boolsOf_map, List.map_map]; rfl
theorem q_sumL (ns : List Int) : sumD (.list (ns.map .int)) = some (.int ns.sum) := by simp [sumD]
theorem q_sumT (ns : List Int) : sumD (.tuple (ns.map .int)) = some (.int ns.sum) := by simp [sumD]
theorem q_allL (ns : List Bool) : allD (.list (ns.map .bool)) = some (.bool (ns.all id)) := by simp [allD]
theorem q_anyL (ns : List Bool) : anyD (.list (ns.map .bool)) = some (.bool (ns.any id)) := by simp [anyD]
theorem q_allF {ι : Type} (f : ι → Bool) (xs : List ι) : allD (.list (xs.map fun i => .bool (f i))) = some (.bool (xs.all f)) := by
  show (boolsOf _).map _ = _; rw [boolsOf_mapf]; simp [List.all_map]
theorem q_anyF {ι : Type} (f : ι → Bool) (xs : List ι) : anyD (.list (xs.map fun i => .bool (f i))) = some (.bool (xs.any f)) := by
  show (boolsOf _).map _ = _; rw [boolsOf_mapf]; simp [List.any_map]
/-! places -/
theorem atI_nat {α : Type} {xs : List α} {i : Nat} (h : i < xs.length) : atI xs (i : Int) = some xs[i] := by
  simp [atI, ixN, h]
theorem atI_lt {α : Type} {xs : List α} {i : Int} (h0 : 0 ≤ i) (h : i < xs.length) : atI xs i = some (xs[i.toNat]'(by omega)) := by
  have h2 : i.toNat < xs.length := by omega
  simp [atI, ixN, h, h0, h2]
@[simp] theorem atI_0 {α : Type} (x : α) (xs : List α) : atI (x :: xs) 0 = some x := by
  simp [atI, ixN]
theorem atI_1 {α : Type} (x y : α) (xs : List α) : atI (x :: y :: xs) 1 = some y := by
  exact atI_nat (xs := x :: y :: xs) (i := 1) (by simp)
theorem atI_2 {α : Type} (x y z : α) (xs : List α) : atI (x :: y :: z :: xs) 2 = some z := by
  exact atI_nat (xs := x :: y :: z :: xs) (i := 2) (by simp)
theorem ixN_nat {n i : Nat} (h : i < n) : ixN n (i : Int) = some i := by simp [ixN, h]
theorem cut_all {α : Type} (xs : List α) : cut xs none none = xs := by simp [cut, sIx]
theorem cut_to {α : Type} (xs : List α) (n : Nat) : cut xs none (some (n : Int)) = xs.take n := by
  have : ¬ ((n : Int) < 0) := by omega
  simp [cut, sIx, this, List.take_eq_take_iff]
theorem cut_from {α : Type} (xs : List α) (n : Nat) : cut xs (some (n : Int)) none = xs.drop n := by
  have : ¬ ((n : Int) < 0) := by omega
  simp only [cut, sIx, this, if_false, Int.toNat_natCast]
  by_cases h : n ≤ xs.length
  · rw [Nat.min_eq_left h, List.take_of_length_le (by simp)]
  · rw [Nat.min_eq_right (by omega)]; simp; omega
theorem cut_last {α : Type} (xs : List α) : cut xs none (some (-1)) = xs.take (xs.length - 1) := by
  simp only [cut, sIx]
  rw [if_pos (by omega)]
  have : ((-1 : Int) + (xs.length : Int)).toNat = xs.length - 1 := by omega
  rw [this]; simp
theorem cut_tup2 {α : Type} (x y z : α) : cut [x, y, z] none (some 2) = [x, y] := by
  have := cut_to [x, y, z] 2; exact this
/-! equality -/
theorem eqvAll_map {ι : Type} (enc : ι → D) [DecidableEq ι] (h : ∀ x y, PyData.eqv (enc x) (enc y) = decide (x = y)) : ∀ xs ys : List ι, PyData.eqvAll (xs.map enc) (ys.map enc) = decide (xs = ys)
  | [], [] => by simp [PyData.eqvAll]
  | [], _ :: _ => by simp [PyData.eqvAll]
  | _ :: _, [] => by simp [PyData.eqvAll]
  | x :: xs, y :: ys => by
    simp only [List.map_cons, PyData.eqvAll, h, eqvAll_map enc h xs ys, List.cons.injEq]
    by_cases h1 : x = y <;> by_cases h2 : xs = ys <;> simp [h1, h2]
@[simp] theorem eqv_int (x y : Int) : PyData.eqv (.int x) (.int y) = decide (x = y) := by
  simp only [PyData.eqv]; by_cases h : x = y <;> simp [h]
@[simp] theorem eqv_nat (x y : Nat) : PyData.eqv (.int x) (.int y) = decide (x = y) := by
  rw [eqv_int]; simp only [Int.natCast_inj]
mutual
theorem eqv_self : ∀ d : D, d.canLay0 = true → PyData.eqv d d = true
  | .none, _ => by simp [PyData.eqv]
  | .bool _, _ => by simp [PyData.eqv]
  | .int _, _ => by simp [PyData.eqv]
  | .str _, _ => by simp [PyData.eqv]
  | .list xs, h => by
    rw [PyData.eqv]; exact eqv_selfAll xs (by simpa [PyData.canLay0] using h)
  | .tuple xs, h => by
    rw [PyData.eqv]; exact eqv_selfAll xs (by simpa [PyData.canLay0] using h)
  | .dict _, h => by simp [PyData.canLay0] at h
theorem eqv_selfAll : ∀ ds : List D, PyData.canLayAll0 ds = true → PyData.eqvAll ds ds = true
  | [], _ => by simp [PyData.eqvAll]
  | x :: xs, h => by
    have h' : x.canLay0 = true ∧ PyData.canLayAll0 xs = true := by simpa [PyData.canLayAll0] using h
    rw [PyData.eqvAll, eqv_self x h'.1, eqv_selfAll xs h'.2]; rfl
end
/-- data of at most n levels, without dicts -/
def shp (n : Nat) (d : D) : Prop := d.canLay0 = true ∧ d.depth ≤ n
theorem shp_int (n : Nat) (i : Int) : shp n (.int i) := ⟨by simp [PyData.canLay0], by simp [PyData.depth]⟩
theorem shp_bool (n : Nat) (i : Bool) : shp n (.bool i) := ⟨by simp [PyData.canLay0], by simp [PyData.depth]⟩
theorem shp_none (n : Nat) : shp n .none := ⟨by simp [PyData.canLay0], by simp [PyData.depth]⟩
theorem shp_all {n : Nat} : ∀ {ds : List D}, (∀ d ∈ ds, shp n d) → PyData.canLayAll0 ds = true ∧ PyData.depthAll ds ≤ n
  | [], _ => by simp [PyData.canLayAll0, PyData.depthAll]
  | x :: xs, h => by
    have h1 := h x (by simp)
    have h2 := shp_all (ds := xs) fun d hd => h d (by simp [hd])
    simp only [PyData.canLayAll0, PyData.depthAll, h1.1, h2.1]
    exact ⟨rfl, Nat.max_le.mpr ⟨h1.2, h2.2⟩⟩
theorem shp_tup {n : Nat} {ds : List D} (h : ∀ d ∈ ds, shp n d) : shp (n + 1) (.tuple ds) := ⟨by simp [PyData.canLay0, (shp_all h).1], by simp only [PyData.depth]; exact Nat.succ_le_succ (shp_all h).2⟩
theorem shp_lst {n : Nat} {ds : List D} (h : ∀ d ∈ ds, shp n d) : shp (n + 1) (.list ds) := ⟨by simp [PyData.canLay0, (shp_all h).1], by simp only [PyData.depth]; exact Nat.succ_le_succ (shp_all h).2⟩
theorem shp.shaped {n : Nat} {d : D} (h : shp n d) (hn : n ≤ 64) : SeqAt.shaped d = true := by
  unfold SeqAt.shaped; rw [h.1]; simpa using Nat.le_trans h.2 hn
theorem shp.mono {n m : Nat} {d : D} (h : shp n d) (hn : n ≤ m) : shp m d := ⟨h.1, Nat.le_trans h.2 hn⟩
theorem q_eqD {n : Nat} {x y : D} (hx : shp n x) (hy : shp n y) (hn : n ≤ 64) : eqD x y = some (.bool (PyData.eqv x y)) := if_pos ⟨hx.shaped hn, hy.shaped hn⟩
theorem q_neD {n : Nat} {x y : D} (hx : shp n x) (hy : shp n y) (hn : n ≤ 64) : neD x y = some (.bool (!PyData.eqv x y)) := if_pos ⟨hx.shaped hn, hy.shaped hn⟩
theorem q_neD_self {n : Nat} {x y : D} (e : x = y) (hx : shp n x) (hn : n ≤ 64) : neD x y = some (.bool false) := by
  subst e; rw [q_neD hx hx hn, eqv_self x hx.1]; rfl
@[simp] theorem q_eqI (i j : Int) : eqD (.int i) (.int j) = some (.bool (decide (i = j))) := by rw [q_eqD (shp_int 0 i) (shp_int 0 j) (by omega), eqv_int]
@[simp] theorem q_neI (i j : Int) : neD (.int i) (.int j) = some (.bool (!decide (i = j))) := by rw [q_neD (shp_int 0 i) (shp_int 0 j) (by omega), eqv_int]
theorem q_inL {n : Nat} {x : D} {ds : List D} (hx : shp n x) (hy : ∀ d ∈ ds, shp n d) (hn : n < 64) : inD x (.list ds) = some (.bool (ds.any fun z => PyData.eqv z x)) := if_pos ⟨hx.shaped (by omega), (shp_lst hy).shaped (by omega)⟩
theorem q_inT {n : Nat} {x : D} {ds : List D} (hx : shp n x) (hy : ∀ d ∈ ds, shp n d) (hn : n < 64) : inD x (.tuple ds) = some (.bool (ds.any fun z => PyData.eqv z x)) := if_pos ⟨hx.shaped (by omega), (shp_tup hy).shaped (by omega)⟩
theorem q_notin {x y : D} {b : Bool} (h : inD x y = some (.bool b)) : notinD x y = some (.bool (!b)) := by unfold notinD; rw [h]
/-! comprehensions -/
theorem lcGo_of {ι : Type} (enc : ι → D) (p : ι → Bool) (f : ι → D) {g : XG} {t : XT} {e : XE} {δ : DE} : ∀ (xs : List ι),
    (∀ i ∈ xs, ∃ δ1, g (enc i) δ = some δ1 ∧ t δ1 = some (.ok (p i)) ∧ (p i = true → e δ1 = some (.ok (f i)))) → lcGo g t e δ (xs.map enc) = some ((xs.filter p).map f)
  | [], _ => rfl
  | x :: xs, h => by
    obtain ⟨δ1, h1, h2, h3⟩ := h x (by simp)
    have ih := lcGo_of enc p f xs fun i hi => h i (by simp [hi])
    simp only [List.map_cons, lcGo, h1, Option.bind_some, h2]
    cases hp : p x with
    | false => simp [hp, ih]
    | true => simp [hp, ih, h3 hp]
theorem lcGo_map {ι : Type} (enc : ι → D) (f : ι → D) {g : XG} {e : XE} {δ : DE} (xs : List ι)
    (h : ∀ i ∈ xs, ∃ δ1, g (enc i) δ = some δ1 ∧ e δ1 = some (.ok (f i))) : lcGo g yTrue e δ (xs.map enc) = some (xs.map f) := by
  have := lcGo_of enc (fun _ => true) f (g := g) (t := yTrue) (e := e) (δ := δ) xs fun i hi => by
    obtain ⟨δ1, h1, h2⟩ := h i hi
    exact ⟨δ1, h1, rfl, fun _ => h2⟩
  rwa [List.filter_eq_self.mpr (by simp)] at this
/-! ranges -/
theorem rangeL_nat (n : Nat) : rangeL 0 (n : Int) = (List.range n).map fun (i : Nat) => PyData.int i := by simp [rangeL]
theorem q_range0 {n : Nat} (h : n ≤ sz) : rangeD 0 (n : Int) = some ((List.range n).map fun (i : Nat) => PyData.int i) := by
  unfold sz at h
  rw [← rangeL_nat]; exact if_pos ⟨by omega, by omega, by omega, by omega, by unfold sz; omega⟩
theorem q_range {m n : Nat} (h : n ≤ sz) (h2 : m ≤ sz) : rangeD (m : Int) (n : Int) = some ((List.range' m (n - m)).map fun (i : Nat) => PyData.int i) := by
  unfold sz at h h2
  have e : rangeL (m : Int) (n : Int) = (List.range' m (n - m)).map fun (i : Nat) => PyData.int i := by
    unfold rangeL
    have e1 : ((n : Int) - (m : Int)).toNat = n - m := by omega
    rw [e1, List.range'_eq_map_range, List.map_map]
    apply List.map_congr_left
    intro a _
    simp
  rw [← e]; exact if_pos ⟨by omega, by omega, by omega, by omega, by unfold sz; omega⟩
theorem enumL_map {ι : Type} (enc : ι → D) (xs : List ι) : enumL (xs.map enc) = (xs.zipIdx).map fun p => PyData.tuple [.int (p.2 : Nat), enc p.1] := by
  unfold enumL
  rw [List.length_map]
  apply List.ext_getElem
  · simp
  · intro i h1 h2; simp
theorem zipL_map {ι κ : Type} (e1 : ι → D) (e2 : κ → D) (xs : List ι) (ys : List κ) : zipL (xs.map e1) (ys.map e2) = (xs.zip ys).map fun p => PyData.tuple [e1 p.1, e2 p.2] := by
  unfold zipL
  apply List.ext_getElem
  · simp
  · intro i h1 h2; simp
/-! statements: what a text ends in -/
def wp (s : XS) (δ : DE) (P : Out → Prop) : Prop := ∃ o, s δ = some o ∧ P o
theorem wp_of {s : XS} {δ : DE} {P : Out → Prop} {o : Out} (h : s δ = some o) (p : P o) : wp s δ P := ⟨o, h, p⟩
theorem wp_seq {s t : XS} {δ : DE} {P : Out → Prop} (h : wp s δ fun o => match o with | .nx δ' => wp t δ' P | o => P o) : wp (sSeq s t) δ P := by
  obtain ⟨o, h1, h2⟩ := h
  cases o with
  | nx δ' => obtain ⟨o, h3, h4⟩ := h2; exact ⟨o, by unfold sSeq; rw [h1]; exact h3, h4⟩
  | _ => exact ⟨_, by unfold sSeq; rw [h1], h2⟩
theorem wp_asg {A : XE} {g : XG} {δ δ1 : DE} {P : Out → Prop} {d : D} (h : A δ = some (.ok d)) (h1 : g d δ = some δ1) (p : P (.nx δ1)) : wp (sAsg A g) δ P := ⟨_, by unfold sAsg; rw [h, onE_ok, h1]; rfl, p⟩
theorem wp_ret {A : XE} {δ : DE} {P : Out → Prop} {d : D} (h : A δ = some (.ok d)) (p : P (.rt d)) : wp (sRet A) δ P := ⟨_, by unfold sRet; rw [h]; rfl, p⟩
theorem wp_drop {A : XE} {δ : DE} {P : Out → Prop} {d : D} (h : A δ = some (.ok d)) (p : P (.nx δ)) : wp (sDrop A) δ P := ⟨_, by unfold sDrop; rw [h]; rfl, p⟩
theorem wp_next {δ : DE} {P : Out → Prop} (p : P (.nx δ)) : wp sNext δ P := ⟨_, rfl, p⟩
theorem wp_if {t : XT} {a b : XS} {δ : DE} {P : Out → Prop} (c : Bool) (h : t δ = some (.ok c)) (p : if c = true then wp a δ P else wp b δ P) : wp (sIf t a b) δ P := by
  cases c with
  | true => obtain ⟨o, h1, h2⟩ := p; exact ⟨o, by unfold sIf; rw [h, onE_ok]; exact h1, h2⟩
  | false => obtain ⟨o, h1, h2⟩ := p; exact ⟨o, by unfold sIf; rw [h, onE_ok]; exact h1, h2⟩
theorem wp_ifF {t : XT} {a b : XS} {δ : DE} {P : Out → Prop} (h : t δ = some (.ok false)) (p : wp b δ P) : wp (sIf t a b) δ P := wp_if false h p
theorem wp_ifT {t : XT} {a b : XS} {δ : DE} {P : Out → Prop} (h : t δ = some (.ok true)) (p : wp a δ P) : wp (sIf t a b) δ P := wp_if true h p
theorem wp_new {i : Nat} {A : XL} {δ : DE} {P : Out → Prop} {ds : List D} (h : A δ = some (.ok ds)) (hi : i < δ.length) (p : P (.nx (δ.set i (.own (.lst ds))))) : wp (sNew i A) δ P := ⟨_, by unfold sNew; rw [h, onE_ok, if_pos hi], p⟩
theorem wp_par {i j : Nat} {A B : XE} {δ : DE} {P : Out → Prop} {x y : D} (h : A δ = some (.ok x)) (h2 : B δ = some (.ok y)) (hi : i < δ.length) (hj : j < δ.length) (p : P (.nx ((δ.set i (.dat x)).set j (.dat y)))) : wp (sPar i j A B) δ P := ⟨_, by unfold sPar; rw [h, onE_ok, h2, onE_ok, if_pos ⟨hi, hj⟩], p⟩
theorem wp_app {i : Nat} {A : XE} {δ : DE} {P : Out → Prop} {ds : List D} {d : D} (h0 : δ[i]? = some (.own (.lst ds))) (h : A δ = some (.ok d)) (hz : ds.length < sz) (p : P (.nx (δ.set i (.own (.lst (ds ++ [d])))))) : wp (sApp i A) δ P := ⟨_, by unfold sApp; rw [h0]; show onE (A δ) _ = _; rw [h, onE_ok, if_pos hz], p⟩
theorem wp_extend {i : Nat} {A : XE} {δ : DE} {P : Out → Prop} {ds es : List D} {d : D} (h0 : δ[i]? = some (.own (.lst ds))) (h : A δ = some (.ok d)) (he : itemsD d = some es) (hz : ds.length + es.length ≤ sz) (p : P (.nx (δ.set i (.own (.lst (ds ++ es)))))) : wp (sExtend i A) δ P := ⟨_, by unfold sExtend; rw [h0]; show onE (A δ) _ = _; rw [h, onE_ok, he]; exact if_pos hz, p⟩
theorem wp_setIx {i : Nat} {B A : XE} {δ : DE} {P : Out → Prop} {ds : List D} {d : D} {k : Nat} (h0 : δ[i]? = some (.own (.lst ds))) (h : A δ = some (.ok d)) (hk : B δ = some (.ok (.int k))) (hz : k < ds.length) (p : P (.nx (δ.set i (.own (.lst (ds.set k d)))))) : wp (sSetIx i B A) δ P := ⟨_, by unfold sSetIx; rw [h0]; show onE (A δ) _ = _; rw [h, onE_ok, hk, onE_ok]; show (match ixN ds.length (k : Int) with | some j => _ | none => _) = _; rw [ixN_nat hz], p⟩
theorem wp_frz {i : Nat} {s : XS} {δ : DE} {P : Out → Prop} {ds : List D} (h0 : δ[i]? = some (.own (.lst ds))) (p : wp s (δ.set i (.dat (.list ds))) P) : wp (sFrz i s) δ P := by
  obtain ⟨o, h1, h2⟩ := p
  refine ⟨o, ?_, h2⟩
  unfold sFrz frz; rw [h0]; exact h1
/-- what a turn of a for may end in -/
def turn (I : DE → Prop) (P : Out → Prop) : Out → Prop
  | .nx δ => I δ
  | .ct δ => I δ
  | .bk δ => P (.nx δ)
  | .rt d => P (.rt d)
  | .ex c => P (.ex c)
theorem wp_forGo {ι : Type} (enc : ι → D) (I : List ι → DE → Prop) {g : XG} {body : XS} {P : Out → Prop} : ∀ (xs pre : List ι) (δ : DE), I pre δ →
    (∀ p i q δ, pre ++ xs = p ++ i :: q → I p δ → ∃ δ1, g (enc i) δ = some δ1 ∧ wp body δ1 (turn (I (p ++ [i])) P)) → (∀ δ, I (pre ++ xs) δ → P (.nx δ)) → wp (forGo g body (xs.map enc)) δ P
  | [], pre, δ, h0, _, h2 => ⟨_, rfl, h2 δ (by simpa using h0)⟩
  | x :: xs, pre, δ, h0, h1, h2 => by
    obtain ⟨δ1, e1, o, e2, h3⟩ := h1 pre x xs δ rfl h0
    have ih := fun δ h => wp_forGo enc I (g := g) (body := body) (P := P) xs (pre ++ [x]) δ h (fun p i q δ e => h1 p i q δ (by simpa using e)) (fun δ h => h2 δ (by simpa using h))
    show ∃ o', ((g (enc x) δ).bind _) = some o' ∧ P o'
    rw [e1, Option.bind_some, e2]
    cases o with
    | nx δ2 => exact ih δ2 h3
    | ct δ2 => exact ih δ2 h3
    | bk δ2 => exact ⟨_, rfl, h3⟩
    | rt d => exact ⟨_, rfl, h3⟩
    | ex c => exact ⟨_, rfl, h3⟩
theorem wp_for {ι : Type} (enc : ι → D) (xs : List ι) (I : List ι → DE → Prop) {it : XL} {g : XG} {body : XS} {δ : DE} {P : Out → Prop} (hit : it δ = some (.ok (xs.map enc))) (h0 : I [] δ)
    (h1 : ∀ p i q δ, xs = p ++ i :: q → I p δ → ∃ δ1, g (enc i) δ = some δ1 ∧ wp body δ1 (turn (I (p ++ [i])) P)) (h2 : ∀ δ, I xs δ → P (.nx δ)) : wp (sFor it g body) δ P := by
  obtain ⟨o, e, p⟩ := wp_forGo enc I (g := g) (body := body) (P := P) xs [] δ h0 (fun p i q δ e => h1 p i q δ e) h2
  exact ⟨o, by unfold sFor; rw [hit]; exact e, p⟩
theorem fnD_of {p n : Nat} {body : XS} {ds : List D} {d : D} (hp : ds.length = p) (h : wp body (start n ds) fun o => o = .rt d) : fnD p n body ds = some (.ok d) := by
  obtain ⟨o, e, rfl⟩ := h
  unfold fnD; rw [if_pos hp, e]
theorem fnD_none {p n : Nat} {body : XS} {ds : List D} (hp : ds.length = p) (h : wp body (start n ds) fun o => ∃ δ, o = .nx δ) : fnD p n body ds = some (.ok .none) := by
  obtain ⟨o, e, δ, rfl⟩ := h
  unfold fnD; rw [if_pos hp, e]
/-! codecs -/
abbrev Mt := Nat × Nat × Int
def tyI (ns : List Int) : D := .tuple (ns.map .int)
def lI (ns : List Int) : D := .list (ns.map .int)
def m3 (m : Mt) : D := .tuple [.int m.1, .int m.2.1, .int m.2.2]
def lg (wins : List Int) (left : List Mt) : D := .tuple [tyI wins, .tuple (left.map m3)]
def p2 (p : Nat × Nat) : D := .tuple [.int p.1, .int p.2]
theorem shp_tyI (ns : List Int) : shp 1 (tyI ns) := shp_tup fun d hd => by
  obtain ⟨i, _, rfl⟩ := List.mem_map.mp hd; exact shp_int _ _
theorem shp_lI (ns : List Int) : shp 1 (lI ns) := shp_lst fun d hd => by
  obtain ⟨i, _, rfl⟩ := List.mem_map.mp hd; exact shp_int _ _
theorem shp_m3 (m : Mt) : shp 1 (m3 m) := shp_tup fun d hd => by
  simp at hd; rcases hd with rfl | rfl | rfl <;> exact shp_int _ _
theorem shp_p2 (m : Nat × Nat) : shp 1 (p2 m) := shp_tup fun d hd => by
  simp at hd; rcases hd with rfl | rfl <;> exact shp_int _ _
theorem shp_lg (wins : List Int) (left : List Mt) : shp 3 (lg wins left) := shp_tup fun d hd => by
  simp at hd
  rcases hd with rfl | rfl
  · exact (shp_tyI wins).mono (by omega)
  · exact shp_tup fun d hd => by
      obtain ⟨i, _, rfl⟩ := List.mem_map.mp hd; exact shp_m3 _
theorem eqv_p2 (x y : Nat × Nat) : PyData.eqv (p2 x) (p2 y) = decide (x = y) := by
  obtain ⟨a, b⟩ := x; obtain ⟨c, d⟩ := y
  have e : PyData.eqv (p2 (a, b)) (p2 (c, d)) = (PyData.eqv (.int a) (.int c) && (PyData.eqv (.int b) (.int d) && true)) := by
    simp only [p2, PyData.eqv, PyData.eqvAll]
  rw [e, eqv_nat, eqv_nat, Bool.and_true, ← Bool.decide_and]
  simp only [Prod.mk.injEq]
/-! the guards of products -/
theorem mulOk_r {i j : Int} (h : j.natAbs < 2 ^ 64) : mulOk i j = true := by unfold mulOk; simp [h]
theorem mulOk_l {i j : Int} (h : i.natAbs < 2 ^ 64) : mulOk i j = true := by unfold mulOk; simp [h]
theorem mulOk_s {i j : Int} (h : i.natAbs < 2 ^ 2000) (h2 : j.natAbs < 2 ^ 2000) : mulOk i j = true := by
  have l1 : i.natAbs.log2 ≤ 2000 := by
    by_cases h0 : i.natAbs = 0
    · rw [h0]; decide
    · have := (Nat.log2_lt h0).mpr h; omega
  have l2 : j.natAbs.log2 ≤ 2000 := by
    by_cases h0 : j.natAbs = 0
    · rw [h0]; decide
    · have := (Nat.log2_lt h0).mpr h2; omega
  unfold mulOk; simp; right; omega
/-! values step by step -/
@[simp] theorem q_start (n : Nat) (ds : List D) : DL.start n ds = ds.map .dat ++ List.replicate (n - ds.length) .no := id rfl
section
variable {A B C : XE} {L M : XL} {t u : XT} {δ : DE} {x y z d : D} {xs : List D} {b : Bool}
theorem e1 {f : D → Option D} (h : A δ = some (.ok x)) (h2 : f x = some d) : x1 f A δ = some (.ok d) := by rw [q_x1, h, bnd_ok, h2]; rfl
theorem e2 {f : D → D → Option D} (h : A δ = some (.ok x)) (h1 : B δ = some (.ok y)) (h2 : f x y = some d) : x2 f A B δ = some (.ok d) := by rw [q_x2, h, bnd_ok, h1, bnd_ok, h2]; rfl
theorem eOfL (h : L δ = some (.ok xs)) : xOfL L δ = some (.ok (.list xs)) := by rw [q_xOfL, h]; rfl
theorem eTupL (h : L δ = some (.ok xs)) : xTupL L δ = some (.ok (.tuple xs)) := by rw [q_xTupL, h]; rfl
theorem eCons (h : A δ = some (.ok x)) (h2 : L δ = some (.ok xs)) : xCons A L δ = some (.ok (x :: xs)) := by rw [q_xCons, h, bnd_ok, h2]; rfl
theorem eNil : xNil δ = some (.ok []) := rfl
theorem eCall {F : List D → Pr D} (h : L δ = some (.ok xs)) (h2 : F xs = some (.ok d)) : xCall F L δ = some (.ok d) := by rw [q_xCall, h]; exact h2
theorem eF1 {f : D → Option (List D)} (h : A δ = some (.ok x)) (h2 : f x = some xs) : xF1 f A δ = some (.ok xs) := by rw [q_xF1, h, bnd_ok, h2]; rfl
theorem eIter (h : A δ = some (.ok x)) (h2 : itemsD x = some xs) : xIter A δ = some (.ok xs) := eF1 h h2
theorem eAnd (b1 b2 : Bool) (h : A δ = some (.ok (.bool b1))) (h2 : b1 = true → B δ = some (.ok (.bool b2))) : xAnd A B δ = some (.ok (.bool (b1 && b2))) := by
  rw [q_xAnd, h]; cases b1 with
  | true => exact h2 rfl
  | false => rfl
theorem eNot (h : A δ = some (.ok (.bool b))) : xNot A δ = some (.ok (.bool (!b))) := by rw [q_xNot, h]; rfl
theorem eV (h : A δ = some (.ok (.bool b))) : yV A δ = some (.ok b) := by rw [q_yV, h]; rfl
theorem eYnot (h : t δ = some (.ok b)) : yNot t δ = some (.ok (!b)) := by rw [q_yNot, h]; rfl
theorem eYor (h : t δ = some (.ok false)) (h2 : u δ = some (.ok b)) : yOr t u δ = some (.ok b) := by rw [q_yOr, h]; exact h2
theorem eYand (h : t δ = some (.ok true)) (h2 : u δ = some (.ok b)) : yAnd t u δ = some (.ok b) := by rw [q_yAnd, h]; exact h2
theorem eTup1 (h : A δ = some (.ok x)) : xTup (xCons A xNil) δ = some (.ok (.tuple [x])) := by rw [q_xTup1, h]; rfl
theorem eTup2 (h : A δ = some (.ok x)) (h2 : B δ = some (.ok y)) : xTup (xCons A (xCons B xNil)) δ = some (.ok (.tuple [x, y])) := by rw [q_xTup2, h, bnd_ok, h2]; rfl
theorem eTup3 (h : A δ = some (.ok x)) (h2 : B δ = some (.ok y)) (h3 : C δ = some (.ok z)) : xTup (xCons A (xCons B (xCons C xNil))) δ = some (.ok (.tuple [x, y, z])) := by rw [q_xTup3, h, bnd_ok, h2, bnd_ok, h3]; rfl
theorem eRange1' {i : Int} {ys : List D} (h : A δ = some (.ok (.int i))) (hr : rangeD 0 i = some ys) : xRange1 A δ = some (.ok ys) := by simp only [q_xRange1, h, bnd_ok, hr, q_lift]
theorem eRange2' {i j : Int} {ys : List D} (h : A δ = some (.ok (.int i))) (h2 : B δ = some (.ok (.int j))) (hr : rangeD i j = some ys) : xRange2 A B δ = some (.ok ys) := by simp only [q_xRange2, h, h2, bnd_ok, hr, q_lift]
theorem eRange1 {n : Nat} (h : A δ = some (.ok (.int n))) (hn : n ≤ sz) : xRange1 A δ = some (.ok ((List.range n).map fun (i : Nat) => PyData.int i)) := eRange1' h (q_range0 hn)
theorem eRange2 {m n : Nat} (h : A δ = some (.ok (.int m))) (h2 : B δ = some (.ok (.int n))) (hn : n ≤ sz) (hm : m ≤ sz) : xRange2 A B δ = some (.ok ((List.range' m (n - m)).map fun (i : Nat) => PyData.int i)) := eRange2' h h2 (q_range hn hm)
theorem eZip {ι κ : Type} (f : ι → D) (g : κ → D) (xs : List ι) (ys : List κ) (h : A δ = some (.ok (.tuple (xs.map f)))) (h2 : B δ = some (.ok (.tuple (ys.map g)))) : xZip A B δ = some (.ok ((xs.zip ys).map fun p => PyData.tuple [f p.1, g p.2])) := by
  rw [q_xZip, h, bnd_ok, h2, ← zipL_map]; rfl
theorem eZipLT {ι κ : Type} (f : ι → D) (g : κ → D) (xs : List ι) (ys : List κ) (h : A δ = some (.ok (.list (xs.map f)))) (h2 : B δ = some (.ok (.tuple (ys.map g)))) : xZip A B δ = some (.ok ((xs.zip ys).map fun p => PyData.tuple [f p.1, g p.2])) := by
  rw [q_xZip, h, bnd_ok, h2, ← zipL_map]; rfl
theorem eZipLL {ι κ : Type} (f : ι → D) (g : κ → D) (xs : List ι) (ys : List κ) (h : A δ = some (.ok (.list (xs.map f)))) (h2 : B δ = some (.ok (.list (ys.map g)))) : xZip A B δ = some (.ok ((xs.zip ys).map fun p => PyData.tuple [f p.1, g p.2])) := by
  rw [q_xZip, h, bnd_ok, h2, ← zipL_map]; rfl
theorem eEnumL {ι : Type} (f : ι → D) (xs : List ι) (h : A δ = some (.ok (.list (xs.map f)))) : xEnum A δ = some (.ok ((xs.zipIdx).map fun p => PyData.tuple [.int (p.2 : Nat), f p.1])) := by
  rw [q_xEnum, h, ← enumL_map]; rfl
theorem eEnumT {ι : Type} (f : ι → D) (xs : List ι) (h : A δ = some (.ok (.tuple (xs.map f)))) : xEnum A δ = some (.ok ((xs.zipIdx).map fun p => PyData.tuple [.int (p.2 : Nat), f p.1])) := by
  rw [q_xEnum, h, ← enumL_map]; rfl
theorem eLc {ι : Type} (enc : ι → D) (p : ι → Bool) (f : ι → D) (xs : List ι) {it : XL} {g : XG} {e : XE} {vs : List Nat} (hit : it δ = some (.ok (xs.map enc)))
    (h : ∀ i ∈ xs, ∃ δ1, g (enc i) (wipeD δ vs) = some δ1 ∧ t δ1 = some (.ok (p i)) ∧ (p i = true → e δ1 = some (.ok (f i)))) : xLc it g t e vs δ = some (.ok ((xs.filter p).map f)) := by
  rw [q_xLc, hit, bnd_ok, lcGo_of enc p f xs h]; rfl
theorem eLcM {ι : Type} (enc : ι → D) (f : ι → D) (xs : List ι) {it : XL} {g : XG} {e : XE} {vs : List Nat} (hit : it δ = some (.ok (xs.map enc)))
    (h : ∀ i ∈ xs, ∃ δ1, g (enc i) (wipeD δ vs) = some δ1 ∧ e δ1 = some (.ok (f i))) : xLc it g yTrue e vs δ = some (.ok (xs.map f)) := by
  rw [q_xLc, hit, bnd_ok, lcGo_map enc f xs h]; rfl
end
end DL
set_option Elab.async false
set_option linter.all false
set_option maxRecDepth 100000
set_option autoImplicit false
namespace DL
open PySem
theorem list_sz {xs : List Nat} {N : Nat} (h : xs.Pairwise (· < ·)) (hb : ∀ x ∈ xs, x < N) : xs.length ≤ N := by
  have h1 : ∀ (xs : List Nat) (k : Nat), xs.Pairwise (· < ·) → (∀ x ∈ xs, k ≤ x ∧ x < N) → k ≤ N → xs.length + k ≤ N := by
    intro xs
    induction xs with
    | nil => intro k _ _ hk; simpa using hk
    | cons x xs ih =>
      intro k hp hb hk
      have hx := hb x (by simp)
      have := ih (x + 1) (List.pairwise_cons.mp hp).2 (fun y hy => ⟨(List.pairwise_cons.mp hp).1 y hy, (hb y (by simp [hy])).2⟩) (by omega)
      simp; omega
  have := h1 xs 0 h (fun x hx => ⟨Nat.zero_le _, hb x hx⟩) (Nat.zero_le _)
  omega
/-- the pair of one ahead of that of the other -/
def plt (a b : Mt) : Prop := a.1 < b.1 ∨ (a.1 = b.1 ∧ a.2.1 < b.2.1)
structure Lg (wins : List Int) (left : List Mt) : Prop where
  n2 : 2 ≤ wins.length
  n6 : wins.length ≤ 6
  w : ∀ x ∈ wins, 0 ≤ x ∧ x ≤ 60
  l : ∀ m ∈ left, m.1 < m.2.1 ∧ m.2.1 < wins.length ∧ 1 ≤ m.2.2 ∧ m.2.2 ≤ 9
  o : left.Pairwise plt
theorem Lg.few {wins : List Int} {left : List Mt} (h : Lg wins left) : left.length ≤ 36 := by
  have := list_sz (xs := left.map fun m => 6 * m.1 + m.2.1) (N := 36) ?_ ?_
  · simpa using this
  · rw [List.pairwise_map]
    refine h.o.imp_of_mem fun {a b} ha hb hab => ?_
    have h1 := h.l a ha; have h2 := h.l b hb; have h3 := h.n6
    rcases hab with h | ⟨h, h'⟩ <;> omega
  · intro x hx
    obtain ⟨m, hm, rfl⟩ := List.mem_map.mp hx
    have h1 := h.l m hm; have h3 := h.n6
    omega
@[simp] theorem ixD_lg0 (w : List Int) (l : List Mt) : ixD (lg w l) (.int 0) = some (tyI w) := by simp [lg]
@[simp] theorem ixD_lg1 (w : List Int) (l : List Mt) : ixD (lg w l) (.int 1) = some (.tuple (l.map m3)) := by simp [lg, atI_1]
theorem pairs_rel {left : List Mt} (h : left.Pairwise plt) : ∀ p ∈ (left.take (left.length - 1)).zip (left.drop 1), plt p.1 p.2 := by
  intro p hp
  obtain ⟨i, hi, e⟩ := List.mem_iff_getElem.mp hp
  subst e
  simp at hi
  simp only [List.getElem_zip, List.getElem_take, List.getElem_drop]
  exact (List.pairwise_iff_getElem.mp h) i (1 + i) (by omega) (by omega) (by omega)
def leftOf (l : List Mt) (s : Nat) : Int := ((l.filter fun m => decide (m.1 = s) || decide (m.2.1 = s)).map (·.2.2)).sum
def placesOf (w : List Int) : List Int := w.map fun own => 1 + ((w.filter fun x => decide (own < x)).length : Int)
def wb (w : List Int) (s : Nat) (b : Int) : List Int := w.set s (w.getD s 0 + b)
@[simp] theorem wb_length (w : List Int) (s : Nat) (b : Int) : (wb w s b).length = w.length := by simp [wb]
theorem wb_getD (w : List Int) (s : Nat) (b : Int) (hs : s < w.length) (i : Nat) : (wb w s b).getD i 0 = w.getD i 0 + if i = s then b else 0 := by
  unfold wb
  by_cases h : i = s
  · subst h; simp [List.getD_eq_getElem?_getD, hs]
  · have h' : s ≠ i := fun e => h e.symm
    simp [List.getD_eq_getElem?_getD, h, List.getElem?_set_ne h']
theorem wb_cut (w : List Int) (s : Nat) (b : Int) (hs : s < w.length) : w.take s ++ (w.getD s 0 + b) :: w.drop (s + 1) = wb w s b := by
  unfold wb; rw [List.set_eq_take_append_cons_drop, if_pos hs]
/-- the matches left behind one more of a and b -/
def lessOne (a b : Nat) (m : Mt) : Mt := (m.1, m.2.1, m.2.2 - if (m.1, m.2.1) = (a, b) then 1 else 0)
def playL (a b : Nat) (l : List Mt) : List Mt := (l.map (lessOne a b)).filter fun m => decide (0 < m.2.2)
/-- wins behind a season -/
def endW (w : List Int) (ms : List (Mt × Int)) : List Int := ms.foldl (fun w p => wb (wb w p.1.1 p.2) p.1.2.1 (p.1.2.2 - p.2)) w
theorem endW_length (ms : List (Mt × Int)) : ∀ w, (endW w ms).length = w.length := by
  induction ms with
  | nil => intro w; rfl
  | cons p ms ih => intro w; show (endW _ ms).length = _; rw [ih]; simp
theorem getD_int (w : List Int) (s : Nat) (h : s < w.length) : w[s]'h = w.getD s 0 := by simp [List.getD_eq_getElem?_getD, h]
theorem atI_ints {w : List Int} {s : Nat} (h : s < w.length) : atI (w.map PyData.int) (s : Int) = some (.int (w.getD s 0)) := by
  rw [atI_nat (by simpa using h)]; simp [getD_int w s h]
end DL
set_option Elab.async false
set_option linter.all false
set_option maxRecDepth 100000
set_option autoImplicit false
/-! matches played one by one -/
namespace DL
open PySem
abbrev Pl := Nat × Nat
def pr (i : Pl) : Nat × Nat := (min i.1 i.2, max i.1 i.2)
def mp (m : Mt) : Nat × Nat := (m.1, m.2.1)
def winD (w : List Int) (p : List Pl) : List Int := p.foldl (fun w m => wb w m.1 1) w
def leftD (l : List Mt) (p : List Pl) : List Mt := p.foldl (fun l m => playL (min m.1 m.2) (max m.1 m.2) l) l
def cnt (p : List Pl) (q : Nat × Nat) : Int := ((p.countP fun i => decide (pr i = q)) : Nat)
def cntW (p : List Pl) (s : Nat) : Int := ((p.countP fun i => decide (i.1 = s)) : Nat)
def mts (ms : List (Mt × Int)) : List Pl := ms.flatMap fun x => List.replicate x.2.toNat (x.1.1, x.1.2.1) ++ List.replicate (x.1.2.2 - x.2).toNat (x.1.2.1, x.1.1)
theorem winD_length (p : List Pl) : ∀ w, (winD w p).length = w.length := by
  induction p with
  | nil => intro w; rfl
  | cons i p ih => intro w; show (winD _ p).length = _; rw [ih]; simp
theorem winD_snoc (w : List Int) (p : List Pl) (i : Pl) : winD w (p ++ [i]) = wb (winD w p) i.1 1 := by simp [winD]
theorem leftD_snoc (l : List Mt) (p : List Pl) (i : Pl) : leftD l (p ++ [i]) = playL (min i.1 i.2) (max i.1 i.2) (leftD l p) := by simp [leftD]
theorem cnt_cons (p : List Pl) (i : Pl) (q : Nat × Nat) : cnt (i :: p) q = cnt p q + if pr i = q then 1 else 0 := by
  unfold cnt; rw [List.countP_cons]; by_cases h : pr i = q <;> simp [h]
theorem cnt_app (p q : List Pl) (r : Nat × Nat) : cnt (p ++ q) r = cnt p r + cnt q r := by unfold cnt; rw [List.countP_append]; omega
theorem cntW_cons (p : List Pl) (i : Pl) (q : Nat) : cntW (i :: p) q = cntW p q + if i.1 = q then 1 else 0 := by
  unfold cntW; rw [List.countP_cons]; by_cases h : i.1 = q <;> simp [h]
theorem cntW_app (p q : List Pl) (r : Nat) : cntW (p ++ q) r = cntW p r + cntW q r := by unfold cntW; rw [List.countP_append]; omega
theorem cnt_nn (p : List Pl) (q : Nat × Nat) : 0 ≤ cnt p q := by unfold cnt; omega
theorem cntW_nn (p : List Pl) (q : Nat) : 0 ≤ cntW p q := by unfold cntW; omega
theorem winD_getD (p : List Pl) : ∀ (w : List Int), (∀ i ∈ p, i.1 < w.length) → ∀ s, (winD w p).getD s 0 = w.getD s 0 + cntW p s := by
  induction p with
  | nil => intro w _ s; simp [winD, cntW]
  | cons i p ih =>
    intro w h s
    show (winD (wb w i.1 1) p).getD s 0 = _
    rw [ih _ (fun j hj => by rw [wb_length]; exact h j (by simp [hj])), wb_getD w i.1 1 (h i (by simp)), cntW_cons]
    by_cases e : i.1 = s
    · have e' : s = i.1 := e.symm
      simp only [e, if_true]; omega
    · have e' : ¬ s = i.1 := fun x => e x.symm
      simp only [e, e', if_false]; omega
def dec (p : List Pl) (m : Mt) : Mt := (m.1, m.2.1, m.2.2 - cnt p (mp m))
theorem filter_map_pos (l : List Mt) (f g : Mt → Mt) (h : ∀ m, ¬ 0 < (f m).2.2 → ¬ 0 < (g (f m)).2.2) : (((l.map f).filter fun m => decide (0 < m.2.2)).map g).filter (fun m => decide (0 < m.2.2)) = (l.map fun m => g (f m)).filter fun m => decide (0 < m.2.2) := by
  induction l with
  | nil => rfl
  | cons m l ih =>
    by_cases h1 : 0 < (f m).2.2
    · simp only [List.map_cons, List.filter_cons, h1, decide_true, if_true]
      rw [ih]
    · have h2 := h m h1
      simp only [List.map_cons, List.filter_cons, h1, h2, decide_false, Bool.false_eq_true, if_false]
      exact ih
theorem leftD_eq (l : List Mt) (hl : ∀ m ∈ l, 1 ≤ m.2.2) (p : List Pl) : leftD l p = (l.map (dec p)).filter fun m => decide (0 < m.2.2) := by
  have key : ∀ (r p : List Pl), leftD ((l.map (dec p)).filter fun m => decide (0 < m.2.2)) r = (l.map (dec (p ++ r))).filter fun m => decide (0 < m.2.2) := by
    intro r
    induction r with
    | nil => intro p; simp [leftD]
    | cons i r ih =>
      intro p
      show leftD (playL (min i.1 i.2) (max i.1 i.2) _) r = _
      have e : playL (min i.1 i.2) (max i.1 i.2) ((l.map (dec p)).filter fun m => decide (0 < m.2.2)) = (l.map (dec (p ++ [i]))).filter fun m => decide (0 < m.2.2) := by
        unfold playL
        rw [filter_map_pos]
        · congr 1
          apply List.map_congr_left
          intro m _
          have hc : cnt [i] (m.1, m.2.1) = if pr i = (m.1, m.2.1) then 1 else 0 := by rw [cnt_cons]; simp [cnt]
          have he : (if (m.1, m.2.1) = (min i.1 i.2, max i.1 i.2) then (1 : Int) else 0) = cnt [i] (m.1, m.2.1) := by
            rw [hc]; unfold pr
            by_cases h : (m.1, m.2.1) = (min i.1 i.2, max i.1 i.2)
            · rw [if_pos h, if_pos h.symm]
            · rw [if_neg h, if_neg (fun x => h x.symm)]
          show (m.1, m.2.1, m.2.2 - cnt p (m.1, m.2.1) - _) = (m.1, m.2.1, m.2.2 - cnt (p ++ [i]) (m.1, m.2.1))
          rw [cnt_app, ← he, Int.sub_sub]
          rfl
        · intro m h
          simp only [lessOne]
          split <;> omega
      rw [e, ih (p ++ [i])]
      simp
  have h0 : (l.map (dec [])).filter (fun m => decide (0 < m.2.2)) = l := by
    have : l.map (dec []) = l := by
      conv => rhs; rw [← List.map_id l]
      apply List.map_congr_left
      intro m _
      simp [dec, cnt]
    rw [this]
    apply List.filter_eq_self.mpr
    intro m hm
    have := hl m hm
    simp; omega
  have := key p []
  rw [h0] at this
  simpa using this
/-- the counts of all matches -/
theorem cnt_rep (n : Nat) (i : Pl) (q : Nat × Nat) : cnt (List.replicate n i) q = if pr i = q then (n : Int) else 0 := by
  unfold cnt; rw [List.countP_replicate]; by_cases h : pr i = q <;> simp [h]
theorem cntW_rep (n : Nat) (i : Pl) (q : Nat) : cntW (List.replicate n i) q = if i.1 = q then (n : Int) else 0 := by
  unfold cntW; rw [List.countP_replicate]; by_cases h : i.1 = q <;> simp [h]
theorem plt_mp {a b : Mt} (h : plt a b) : mp a ≠ mp b := by
  intro e; simp only [mp, Prod.mk.injEq] at e; rcases h with h | ⟨h, h'⟩ <;> omega
theorem cnt_mts_none (ms : List (Mt × Int)) (q : Nat × Nat) (hk : ∀ x ∈ ms, x.1.1 < x.1.2.1) (h : ∀ x ∈ ms, mp x.1 ≠ q) : cnt (mts ms) q = 0 := by
  induction ms with
  | nil => rfl
  | cons x ms ih =>
    show cnt ((_ ++ _) ++ mts ms) q = 0
    have h1 := hk x (by simp)
    have h2 := h x (by simp)
    have e1 : pr (x.1.1, x.1.2.1) = mp x.1 := by simp only [pr, mp, Prod.mk.injEq]; omega
    have e2 : pr (x.1.2.1, x.1.1) = mp x.1 := by simp only [pr, mp, Prod.mk.injEq]; omega
    rw [cnt_app, cnt_app, cnt_rep, cnt_rep, e1, e2, if_neg h2, if_neg h2, ih (fun y hy => hk y (by simp [hy])) (fun y hy => h y (by simp [hy]))]
    rfl
theorem cnt_mts (ms : List (Mt × Int)) (hp : ms.Pairwise fun x y => plt x.1 y.1) (hk : ∀ x ∈ ms, x.1.1 < x.1.2.1) (hf : ∀ x ∈ ms, 0 ≤ x.2 ∧ x.2 ≤ x.1.2.2) : ∀ x ∈ ms, cnt (mts ms) (mp x.1) = x.1.2.2 := by
  induction ms with
  | nil => intro x hx; cases hx
  | cons y ms ih =>
    intro x hx
    rw [List.pairwise_cons] at hp
    have h1 := hk y (by simp)
    have h2 := hf y (by simp)
    show cnt ((_ ++ _) ++ mts ms) _ = _
    have e1 : pr (y.1.1, y.1.2.1) = mp y.1 := by simp only [pr, mp, Prod.mk.injEq]; omega
    have e2 : pr (y.1.2.1, y.1.1) = mp y.1 := by simp only [pr, mp, Prod.mk.injEq]; omega
    rw [cnt_app, cnt_app, cnt_rep, cnt_rep, e1, e2]
    rcases List.mem_cons.mp hx with rfl | hx
    · rw [if_pos rfl, if_pos rfl, cnt_mts_none ms _ (fun z hz => hk z (by simp [hz])) (fun z hz => fun e => plt_mp (hp.1 z hz) e.symm)]
      omega
    · have hn := plt_mp (hp.1 x hx)
      rw [if_neg hn, if_neg hn, ih hp.2 (fun z hz => hk z (by simp [hz])) (fun z hz => hf z (by simp [hz])) x hx]
      omega
theorem endW_getD (ms : List (Mt × Int)) (hf : ∀ x ∈ ms, 0 ≤ x.2 ∧ x.2 ≤ x.1.2.2) : ∀ (w : List Int), (∀ x ∈ ms, x.1.1 < w.length ∧ x.1.2.1 < w.length) → ∀ s, (endW w ms).getD s 0 = w.getD s 0 + cntW (mts ms) s := by
  induction ms with
  | nil => intro w _ s; simp [endW, mts, cntW]
  | cons x ms ih =>
    intro w h s
    have h1 := h x (by simp)
    have h2 := hf x (by simp)
    show (endW (wb (wb w x.1.1 x.2) x.1.2.1 (x.1.2.2 - x.2)) ms).getD s 0 = _
    rw [ih (fun y hy => hf y (by simp [hy])) _ (fun y hy => by rw [wb_length, wb_length]; exact h y (by simp [hy])), wb_getD _ _ _ (by rw [wb_length]; exact h1.2), wb_getD _ _ _ h1.1]
    show _ = _ + cntW ((_ ++ _) ++ mts ms) s
    rw [cntW_app, cntW_app, cntW_rep, cntW_rep]
    have c1 : (if (x.1.1, x.1.2.1).1 = s then ((x.2.toNat : Nat) : Int) else 0) = if s = x.1.1 then x.2 else 0 := by
      by_cases e : s = x.1.1
      · rw [if_pos e.symm, if_pos e]; omega
      · rw [if_neg (fun z => e z.symm), if_neg e]
    have c2 : (if (x.1.2.1, x.1.1).1 = s then (((x.1.2.2 - x.2).toNat : Nat) : Int) else 0) = if s = x.1.2.1 then x.1.2.2 - x.2 else 0 := by
      by_cases e : s = x.1.2.1
      · rw [if_pos e.symm, if_pos e]; omega
      · rw [if_neg (fun z => e z.symm), if_neg e]
    rw [c1, c2]; omega
theorem ext_getD {w v : List Int} (hl : w.length = v.length) (h : ∀ s, w.getD s 0 = v.getD s 0) : w = v := by
  apply List.ext_getElem hl
  intro i h1 h2
  have := h i
  rw [← getD_int w i h1, ← getD_int v i h2] at this
  exact this
/-- no side has more than 54 matches left -/
theorem cntW_le (ms : List (Mt × Int)) (hf : ∀ x ∈ ms, 0 ≤ x.2 ∧ x.2 ≤ x.1.2.2 ∧ x.1.2.2 ≤ 9) (hk : ∀ x ∈ ms, x.1.1 < x.1.2.1) (s : Nat) : cntW (mts ms) s ≤ 9 * (ms.countP fun x => decide (x.1.1 = s) || decide (x.1.2.1 = s) : Nat) := by
  induction ms with
  | nil => simp [mts, cntW]
  | cons x ms ih =>
    have h1 := hf x (by simp)
    have h2 := hk x (by simp)
    have ih := ih (fun y hy => hf y (by simp [hy])) (fun y hy => hk y (by simp [hy]))
    show cntW ((_ ++ _) ++ mts ms) s ≤ _
    rw [cntW_app, cntW_app, cntW_rep, cntW_rep, List.countP_cons]
    show (if x.1.1 = s then ((x.2.toNat : Nat) : Int) else 0) + (if x.1.2.1 = s then (((x.1.2.2 - x.2).toNat : Nat) : Int) else 0) + _ ≤ _
    by_cases e1 : x.1.1 = s
    · have e2 : ¬ x.1.2.1 = s := by omega
      simp [e1, e2]; omega
    · by_cases e2 : x.1.2.1 = s
      · simp [e1, e2]; omega
      · simp [e1, e2]; omega
theorem few_opp (l : List Mt) (hp : l.Pairwise plt) (hl : ∀ m ∈ l, m.1 < m.2.1 ∧ m.2.1 < 6) (s : Nat) : (l.countP fun m => decide (m.1 = s) || decide (m.2.1 = s)) ≤ 6 := by
  rw [List.countP_eq_length_filter]
  have := list_sz (xs := (l.filter fun m => decide (m.1 = s) || decide (m.2.1 = s)).map fun m => m.1 + m.2.1 - s) (N := 6) ?_ ?_
  · simpa using this
  · rw [List.pairwise_map]
    refine (hp.filter _).imp_of_mem fun {a b} ha hb hab => ?_
    simp at ha hb
    have h1 := hl a ha.1; have h2 := hl b hb.1
    have ha2 := ha.2; have hb2 := hb.2
    rcases hab with h | ⟨h, h'⟩ <;> omega
  · intro x hx
    obtain ⟨m, hm, rfl⟩ := List.mem_map.mp hx
    simp at hm
    have h1 := hl m hm.1
    have := hm.2
    omega
theorem sum_wb (w : List Int) (s : Nat) (b : Int) (h : s < w.length) : (wb w s b).sum = w.sum + b := by
  rw [← wb_cut w s b h]
  conv => rhs; rw [← List.take_append_drop s w, List.drop_eq_getElem_cons h]
  simp [List.sum_append, getD_int w s h]
  omega
theorem playL_id (a b : Nat) (l : List Mt) (h : ∀ m ∈ l, mp m ≠ (a, b)) (hp : ∀ m ∈ l, 1 ≤ m.2.2) : playL a b l = l := by
  unfold playL
  have e : l.map (lessOne a b) = l := by
    conv => rhs; rw [← List.map_id l]
    apply List.map_congr_left
    intro m hm
    have := h m hm
    unfold mp at this
    simp [lessOne, this]
  rw [e]
  apply List.filter_eq_self.mpr
  intro m hm
  have := hp m hm
  simp; omega
theorem leftOf_play (a b : Nat) (s : Nat) (hs : s = a ∨ s = b) : ∀ (l : List Mt), l.Pairwise plt → (∀ m ∈ l, 1 ≤ m.2.2) → (a, b) ∈ l.map mp → leftOf (playL a b l) s = leftOf l s - 1 := by
  intro l
  induction l with
  | nil => intro _ _ h; simp at h
  | cons m l ih =>
    intro hp hc hm
    rw [List.pairwise_cons] at hp
    have h1 := hc m (by simp)
    have cons_eq : ∀ (x : Mt) (y : List Mt), leftOf (x :: y) s = leftOf y s + if (x.1 = s ∨ x.2.1 = s) then x.2.2 else 0 := by
      intro x y
      unfold leftOf
      rw [List.filter_cons]
      by_cases e : x.1 = s ∨ x.2.1 = s
      · have e' : (decide (x.1 = s) || decide (x.2.1 = s)) = true := by simpa using e
        rw [if_pos e', if_pos e]; simp; omega
      · have e' : ¬ (decide (x.1 = s) || decide (x.2.1 = s)) = true := by simpa using e
        rw [if_neg e', if_neg e]; simp
    by_cases hq : mp m = (a, b)
    · have hid : playL a b l = l := playL_id a b l (fun z hz e => plt_mp (hp.1 z hz) (hq.trans e.symm)) (fun z hz => hc z (by simp [hz]))
      have e0 : playL a b (m :: l) = if 0 < m.2.2 - 1 then (m.1, m.2.1, m.2.2 - 1) :: l else l := by
        have : playL a b (m :: l) = if 0 < (lessOne a b m).2.2 then lessOne a b m :: playL a b l else playL a b l := by
          simp only [playL, List.map_cons, List.filter_cons]
          by_cases h : 0 < (lessOne a b m).2.2 <;> simp [h]
        rw [this, hid]
        unfold mp at hq
        simp only [lessOne, hq, if_true]
      have hm' : m.1 = s ∨ m.2.1 = s := by
        simp only [mp, Prod.mk.injEq] at hq
        rcases hs with e | e
        · left; omega
        · right; omega
      rw [e0, cons_eq m l, if_pos hm']
      split
      · rw [cons_eq]; rw [if_pos (show (m.1 = s ∨ m.2.1 = s) from hm')]; show _ + (m.2.2 - 1) = _; omega
      · omega
    · have e0 : playL a b (m :: l) = m :: playL a b l := by
        have : lessOne a b m = m := by
          unfold mp at hq
          simp [lessOne, hq]
        simp only [playL, List.map_cons, List.filter_cons, this]
        rw [if_pos (by simp; omega)]
      have hm2 : (a, b) ∈ l.map mp := by
        rcases List.mem_cons.mp (by simpa using hm : (a, b) ∈ mp m :: l.map mp) with h | h
        · exact absurd h.symm hq
        · exact h
      rw [e0, cons_eq, cons_eq m l, ih hp.2 (fun z hz => hc z (by simp [hz])) hm2]
      omega
theorem minL_sp (xs : List Int) : ∀ x : Int, (xs.foldl (fun m y => if y < m then y else m) x ∈ x :: xs) ∧ ∀ y ∈ x :: xs, xs.foldl (fun m y => if y < m then y else m) x ≤ y := by
  induction xs with
  | nil => intro x; simp
  | cons z zs ih =>
    intro x
    rw [List.foldl_cons]
    obtain ⟨h1, h2⟩ := ih (if z < x then z else x)
    constructor
    · rcases List.mem_cons.mp h1 with h | h
      · rw [h]; split <;> simp
      · simp [h]
    · intro y hy
      have h3 := h2 (if z < x then z else x) (by simp)
      have h4 : (if z < x then z else x) ≤ x ∧ (if z < x then z else x) ≤ z := by split <;> omega
      rcases List.mem_cons.mp hy with rfl | hy
      · exact Int.le_trans h3 h4.1
      · rcases List.mem_cons.mp hy with rfl | hy
        · exact Int.le_trans h3 h4.2
        · exact h2 y (by simp [hy])
theorem minL_eq {xs : List Int} {m : Int} (hm : m ∈ xs) (h : ∀ y ∈ xs, m ≤ y) : minL xs = some m := by
  cases xs with
  | nil => cases hm
  | cons x xs =>
    obtain ⟨h1, h2⟩ := minL_sp xs x
    show some _ = some m
    congr 1
    have a1 := h _ h1
    have a2 := h2 m hm
    omega
theorem exists_max : ∀ {xs : List Int}, xs ≠ [] → ∃ m ∈ xs, ∀ y ∈ xs, y ≤ m
  | [], h => absurd rfl h
  | [x], _ => ⟨x, by simp, by simp⟩
  | x :: z :: xs, _ => by
    obtain ⟨m, hm, h⟩ := exists_max (xs := z :: xs) (by simp)
    by_cases hx : x ≤ m
    · exact ⟨m, by simp [hm], fun y hy => by
        rcases List.mem_cons.mp hy with rfl | hy
        · exact hx
        · exact h y hy⟩
    · exact ⟨x, by simp, fun y hy => by
        rcases List.mem_cons.mp hy with rfl | hy
        · omega
        · have := h y hy; omega⟩
theorem min_places {w : List Int} (h : w ≠ []) : minL (placesOf w) = some 1 := by
  obtain ⟨m, hm, hx⟩ := exists_max h
  refine minL_eq ?_ ?_
  · refine List.mem_map.mpr ⟨m, hm, ?_⟩
    have : w.filter (fun x => decide (m < x)) = [] := by
      apply List.filter_eq_nil_iff.mpr
      intro y hy
      have := hx y hy
      simp; omega
    rw [this]; simp
  · intro y hy
    obtain ⟨o, _, rfl⟩ := List.mem_map.mp hy
    omega
/-- in the middle of playing all matches -/
theorem mid {w : List Int} {ms : List (Mt × Int)} (hw : ∀ x ∈ w, 0 ≤ x ∧ x ≤ 6) (h : Lg w (ms.map (·.1))) (hf : ∀ x ∈ ms, 0 ≤ x.2 ∧ x.2 ≤ x.1.2.2) {p q : List Pl} {i : Pl} (hP : (p ++ i :: q).Perm (mts ms)) :
    i.1 < w.length ∧ i.2 < w.length ∧ pr i ∈ (leftD (ms.map (·.1)) p).map mp ∧ (winD w p).getD i.1 0 ≠ 60 := by
  have hord : ms.Pairwise fun x y => plt x.1 y.1 := by have := h.o; rwa [List.pairwise_map] at this
  have hk : ∀ x ∈ ms, x.1.1 < x.1.2.1 := fun x hx => (h.l x.1 (List.mem_map.mpr ⟨x, hx, rfl⟩)).1
  have hi : i ∈ mts ms := hP.mem_iff.mp (by simp)
  have all : ∀ j ∈ p ++ i :: q, j.1 < w.length := by
    intro j hj
    obtain ⟨x, hx, hj⟩ := List.mem_flatMap.mp (hP.mem_iff.mp hj)
    have h1 := h.l x.1 (List.mem_map.mpr ⟨x, hx, rfl⟩)
    rcases List.mem_append.mp hj with e | e
    · rw [(List.mem_replicate.mp e).2]; show x.1.1 < _; omega
    · rw [(List.mem_replicate.mp e).2]; show x.1.2.1 < _; omega
  obtain ⟨x, hx, hj⟩ := List.mem_flatMap.mp hi
  have h1 := h.l x.1 (List.mem_map.mpr ⟨x, hx, rfl⟩)
  have hpr : pr i = mp x.1 ∧ i.1 < w.length ∧ i.2 < w.length := by
    rcases List.mem_append.mp hj with e | e
    · rw [(List.mem_replicate.mp e).2]; simp only [pr, mp, Prod.mk.injEq]; omega
    · rw [(List.mem_replicate.mp e).2]; simp only [pr, mp, Prod.mk.injEq]; omega
  refine ⟨hpr.2.1, hpr.2.2, ?_, ?_⟩
  · rw [leftD_eq _ (fun m hm => (h.l m hm).2.2.1)]
    refine List.mem_map.mpr ⟨dec p x.1, List.mem_filter.mpr ⟨List.mem_map.mpr ⟨x.1, List.mem_map.mpr ⟨x, hx, rfl⟩, rfl⟩, ?_⟩, ?_⟩
    · have c1 := cnt_mts ms hord hk hf x hx
      have c2 : cnt (p ++ i :: q) (mp x.1) = cnt (mts ms) (mp x.1) := by unfold cnt; rw [hP.countP_eq]
      rw [cnt_app, cnt_cons, if_pos hpr.1, c1] at c2
      have := cnt_nn q (mp x.1)
      simp [dec]; omega
    · rw [hpr.1]; rfl
  · rw [winD_getD _ _ (fun j hj => all j (by simp [hj]))]
    have c2 : cntW (p ++ i :: q) i.1 = cntW (mts ms) i.1 := by unfold cntW; rw [hP.countP_eq]
    rw [cntW_app, cntW_cons, if_pos rfl] at c2
    have c3 := cntW_le ms (fun x hx => ⟨(hf x hx).1, (hf x hx).2, (h.l x.1 (List.mem_map.mpr ⟨x, hx, rfl⟩)).2.2.2⟩) hk i.1
    have c4 := few_opp (ms.map (·.1)) h.o (fun m hm => by have := h.l m hm; have := h.n6; omega) i.1
    rw [List.countP_map] at c4
    have c5 : (ms.countP fun x => decide (x.1.1 = i.1) || decide (x.1.2.1 = i.1)) ≤ 6 := c4
    have := cntW_nn q i.1
    have h0 : w.getD i.1 0 ≤ 6 := by rw [← getD_int w i.1 hpr.2.1]; exact (hw _ (List.getElem_mem _)).2
    omega
theorem mid_lg {w : List Int} {ms : List (Mt × Int)} (hw : ∀ x ∈ w, 0 ≤ x ∧ x ≤ 6) (h : Lg w (ms.map (·.1))) (hf : ∀ x ∈ ms, 0 ≤ x.2 ∧ x.2 ≤ x.1.2.2) {p q : List Pl} (hP : (p ++ q).Perm (mts ms)) : Lg (winD w p) (leftD (ms.map (·.1)) p) := by
  have hk : ∀ x ∈ ms, x.1.1 < x.1.2.1 := fun x hx => (h.l x.1 (List.mem_map.mpr ⟨x, hx, rfl⟩)).1
  have all : ∀ j ∈ p ++ q, j.1 < w.length := by
    intro j hj
    obtain ⟨x, hx, hj⟩ := List.mem_flatMap.mp (hP.mem_iff.mp hj)
    have h1 := h.l x.1 (List.mem_map.mpr ⟨x, hx, rfl⟩)
    rcases List.mem_append.mp hj with e | e
    · rw [(List.mem_replicate.mp e).2]; show x.1.1 < _; omega
    · rw [(List.mem_replicate.mp e).2]; show x.1.2.1 < _; omega
  refine ⟨by rw [winD_length]; exact h.n2, by rw [winD_length]; exact h.n6, ?_, ?_, ?_⟩
  · intro x hx
    obtain ⟨s, hs, rfl⟩ := List.mem_iff_getElem.mp hx
    rw [getD_int _ s hs, winD_getD _ _ (fun j hj => all j (by simp [hj]))]
    rw [winD_length] at hs
    have c2 : cntW (p ++ q) s = cntW (mts ms) s := by unfold cntW; rw [hP.countP_eq]
    rw [cntW_app] at c2
    have c3 := cntW_le ms (fun x hx => ⟨(hf x hx).1, (hf x hx).2, (h.l x.1 (List.mem_map.mpr ⟨x, hx, rfl⟩)).2.2.2⟩) hk s
    have c4 := few_opp (ms.map (·.1)) h.o (fun m hm => by have := h.l m hm; have := h.n6; omega) s
    rw [List.countP_map] at c4
    have c5 : (ms.countP fun x => decide (x.1.1 = s) || decide (x.1.2.1 = s)) ≤ 6 := c4
    have := cntW_nn q s
    have := cntW_nn p s
    have h0 := hw _ (List.getElem_mem hs)
    rw [getD_int w s hs] at h0
    omega
  · intro m hm
    rw [leftD_eq _ (fun m hm => (h.l m hm).2.2.1)] at hm
    obtain ⟨hm, hpos⟩ := List.mem_filter.mp hm
    obtain ⟨m', hm', rfl⟩ := List.mem_map.mp hm
    have h1 := h.l m' hm'
    have := cnt_nn p (mp m')
    simp [dec] at hpos ⊢
    rw [winD_length]; omega
  · rw [leftD_eq _ (fun m hm => (h.l m hm).2.2.1)]
    refine List.Pairwise.filter _ ?_
    rw [List.pairwise_map]
    exact h.o.imp fun hab => hab
theorem at_end {w : List Int} {ms : List (Mt × Int)} (h : Lg w (ms.map (·.1))) (hf : ∀ x ∈ ms, 0 ≤ x.2 ∧ x.2 ≤ x.1.2.2) {p : List Pl} (hP : p.Perm (mts ms)) : winD w p = endW w ms ∧ leftD (ms.map (·.1)) p = [] := by
  have hord : ms.Pairwise fun x y => plt x.1 y.1 := by have := h.o; rwa [List.pairwise_map] at this
  have hk : ∀ x ∈ ms, x.1.1 < x.1.2.1 := fun x hx => (h.l x.1 (List.mem_map.mpr ⟨x, hx, rfl⟩)).1
  have all : ∀ j ∈ p, j.1 < w.length := by
    intro j hj
    obtain ⟨x, hx, hj⟩ := List.mem_flatMap.mp (hP.mem_iff.mp hj)
    have h1 := h.l x.1 (List.mem_map.mpr ⟨x, hx, rfl⟩)
    rcases List.mem_append.mp hj with e | e
    · rw [(List.mem_replicate.mp e).2]; show x.1.1 < _; omega
    · rw [(List.mem_replicate.mp e).2]; show x.1.2.1 < _; omega
  constructor
  · refine ext_getD (by rw [winD_length, endW_length]) fun s => ?_
    rw [winD_getD _ _ all, endW_getD _ hf _ (fun x hx => by have := h.l x.1 (List.mem_map.mpr ⟨x, hx, rfl⟩); omega)]
    congr 1
    unfold cntW; rw [hP.countP_eq]
  · rw [leftD_eq _ (fun m hm => (h.l m hm).2.2.1)]
    apply List.filter_eq_nil_iff.mpr
    intro m hm
    obtain ⟨m', hm', rfl⟩ := List.mem_map.mp hm
    obtain ⟨x, hx, rfl⟩ := List.mem_map.mp hm'
    have c1 := cnt_mts ms hord hk hf x hx
    have c2 : cnt p (mp x.1) = cnt (mts ms) (mp x.1) := by unfold cnt; rw [hP.countP_eq]
    simp [dec]; omega
end DL
set_option Elab.async false
set_option linter.all false
set_option maxRecDepth 100000
set_option autoImplicit false
/-! sorting -/
namespace DL
open PySem
theorem perm_pre {ι : Type} (enc : ι → D) (dec : D → ι) (h : ∀ x, dec (enc x) = x) {ys : List D} {xs : List ι} (hp : ys.Perm (xs.map enc)) : ∃ zs : List ι, zs.Perm xs ∧ ys = zs.map enc := by
  refine ⟨ys.map dec, ?_, ?_⟩
  · have := hp.map dec
    rw [List.map_map] at this
    have e : xs.map (dec ∘ enc) = xs := by
      conv => rhs; rw [← List.map_id xs]
      apply List.map_congr_left
      intro x _; exact h x
    rwa [e] at this
  · rw [List.map_map]
    conv => lhs; rw [← List.map_id ys]
    apply List.map_congr_left
    intro y hy
    obtain ⟨x, _, rfl⟩ := List.mem_map.mp (hp.mem_iff.mp hy)
    simp [Function.comp, h]
def kE (x : Int × (Nat × Nat)) : D := .tuple [.int x.1, p2 x.2]
def kDec : D → Int × (Nat × Nat)
  | .tuple [.int i, .tuple [.int a, .int b]] => (i, a.toNat, b.toNat)
  | _ => (0, 0, 0)
theorem kDec_kE (x : Int × (Nat × Nat)) : kDec (kE x) = x := by
  obtain ⟨i, a, b⟩ := x; simp [kE, kDec, p2]
theorem shp_kE (x : Int × (Nat × Nat)) : shp 2 (kE x) := shp_tup fun d hd => by
  simp at hd
  rcases hd with rfl | rfl
  · exact shp_int _ _
  · exact shp_p2 _
theorem sort_kE (xs : List (Int × (Nat × Nat))) : ∃ zs : List (Int × (Nat × Nat)), zs.Perm xs ∧ sortD (.list (xs.map kE)) = some (zs.map kE) := by
  have hok : sortOk (xs.map kE) = true := by
    unfold sortOk
    simp only [Bool.and_eq_true, Bool.or_eq_true, List.all_eq_true]
    refine ⟨⟨?_, .inl ?_⟩, ?_⟩
    · intro d hd d' hd'
      obtain ⟨x, _, rfl⟩ := List.mem_map.mp hd
      obtain ⟨y, _, rfl⟩ := List.mem_map.mp hd'
      simp [kE, p2, PySem.W.alike, PySem.W.alikeAll]
    · intro d hd
      obtain ⟨x, _, rfl⟩ := List.mem_map.mp hd
      rfl
    · intro d hd
      obtain ⟨x, _, rfl⟩ := List.mem_map.mp hd
      exact (shp_kE x).shaped (by omega)
  obtain ⟨zs, h1, h2⟩ := perm_pre kE kDec kDec_kE (List.mergeSort_perm (xs.map kE) (PySem.W.dataLe false id))
  exact ⟨zs, h1, by unfold sortD; simp only []; rw [if_pos hok, sortL, h2]⟩
end DL
set_option Elab.async false
set_option linter.all false
set_option maxRecDepth 100000
set_option maxHeartbeats 2000000
set_option autoImplicit false
/-! drawn leagues and seasons -/
namespace DL
open PySem
theorem int_le_min (a b : Nat) : min (a : Int) (b : Int) = ((min a b : Nat) : Int) := by omega
theorem int_le_max (a b : Nat) : max (a : Int) (b : Int) = ((max a b : Nat) : Int) := by omega
def drA (c k : Int) : Int := (c * 6364136223846793005 + (k + 1) * 1442695040888963407) % 340282366920938463463374607431768211507
def drB (c k : Int) : Int := drA c k * drA c k % 340282366920938463463374607431768211297
def dr (c k : Int) : Int := (drB c k % 18446744073709551557 + 1) * (drB c k / 18446744073709551557 + 1) * drB c k % 340282366920938463463374607431768211507
theorem dr_nn (c k : Int) : 0 ≤ dr c k := Int.emod_nonneg _ (by omega)
def lcell (ns : List Int) (k : Nat) : Int := if ns = [] then (k : Int) * 7919 else ns.getD (k % ns.length) 0 + (k : Int) / ns.length * 104729
/-- the drawn leagues -/
def lSides (more most : Int) : Nat := 2 + (more % (most - 1)).toNat
def lMod (more : Int) : Int := [3, 6, 61].getD (more / 8 % 3).toNat 3
def lWins (more most : Int) : List Int := (List.range (lSides more most)).map fun (j : Nat) => dr more j % lMod more
def lHere (more : Int) (a b : Nat) : Int := dr more (10 + 6 * a + b)
def lMany (h : Int) : Int := 1 + h / 8 % [1, 2, 3, 9].getD (h / 64 % 4).toNat 1
def lRow (more : Int) (a : Nat) (bs : List Nat) : List Mt := bs.filterMap fun b => if 0 < lHere more a b % 3 then some (a, b, lMany (lHere more a b)) else none
def lLeft (more : Int) (n : Nat) (as : List Nat) : List Mt := as.flatMap fun a => lRow more a (List.range' (a + 1) (n - (a + 1)))
theorem lMod_pos (more : Int) : 1 ≤ lMod more ∧ lMod more ≤ 61 := by
  unfold lMod
  have h1 := Int.emod_nonneg (more / 8) (show (3 : Int) ≠ 0 by omega)
  have h2 := Int.emod_lt_of_pos (more / 8) (show (0 : Int) < 3 by omega)
  have : (more / 8 % 3).toNat = 0 ∨ (more / 8 % 3).toNat = 1 ∨ (more / 8 % 3).toNat = 2 := by omega
  rcases this with e | e | e <;> rw [e] <;> decide
theorem lMany_pos (h : Int) : 1 ≤ lMany h ∧ lMany h ≤ 9 := by
  unfold lMany
  have h1 := Int.emod_nonneg (h / 64) (show (4 : Int) ≠ 0 by omega)
  have h2 := Int.emod_lt_of_pos (h / 64) (show (0 : Int) < 4 by omega)
  have : (h / 64 % 4).toNat = 0 ∨ (h / 64 % 4).toNat = 1 ∨ (h / 64 % 4).toNat = 2 ∨ (h / 64 % 4).toNat = 3 := by omega
  rcases this with e | e | e | e <;> rw [e] <;> simp <;> omega
theorem lSides_le {more most : Int} (h2 : 2 ≤ most) (h6 : most ≤ 6) : 2 ≤ lSides more most ∧ (lSides more most : Int) ≤ most := by
  unfold lSides
  have h1 := Int.emod_nonneg more (show (most - 1 : Int) ≠ 0 by omega)
  have h2 := Int.emod_lt_of_pos more (show (0 : Int) < most - 1 by omega)
  omega
theorem lRow_mem {more : Int} {a : Nat} {bs : List Nat} {m : Mt} (h : m ∈ lRow more a bs) : m.1 = a ∧ m.2.1 ∈ bs ∧ m.2.2 = lMany (lHere more a m.2.1) := by
  obtain ⟨b, hb, e⟩ := List.mem_filterMap.mp h
  split at e
  · cases e; exact ⟨rfl, hb, rfl⟩
  · cases e
theorem lLeft_ok (more : Int) (n : Nat) (m : Mt) (h : m ∈ lLeft more n (List.range n)) : m.1 < m.2.1 ∧ m.2.1 < n ∧ 1 ≤ m.2.2 ∧ m.2.2 ≤ 9 := by
  obtain ⟨a, ha, hm⟩ := List.mem_flatMap.mp h
  obtain ⟨e1, e2, e3⟩ := lRow_mem hm
  have := lMany_pos (lHere more a m.2.1)
  simp [List.mem_range'_1] at e2 ha
  omega
theorem lLeft_sorted (more : Int) (n : Nat) : (lLeft more n (List.range n)).Pairwise plt := by
  unfold lLeft
  rw [List.pairwise_flatMap]
  constructor
  · intro a ha
    unfold lRow
    rw [List.pairwise_filterMap]
    refine (List.pairwise_lt_range' (s := a + 1) (n := n - (a + 1)) (step := 1) (by omega)).imp ?_
    intro b c hbc x hx y hy
    split at hx
    · cases hx; split at hy
      · cases hy; exact .inr ⟨rfl, hbc⟩
      · cases hy
    · cases hx
  · refine (List.pairwise_lt_range (n := n)).imp ?_
    intro a b hab x hx y hy
    exact .inl (by rw [(lRow_mem hx).1, (lRow_mem hy).1]; exact hab)
theorem lg_drawn {more most : Int} (h2 : 2 ≤ most) (h6 : most ≤ 6) : Lg (lWins more most) (lLeft more (lSides more most) (List.range (lSides more most))) := by
  have hs := lSides_le (more := more) h2 h6
  refine ⟨by simp [lWins]; omega, by simp [lWins]; omega, ?_, ?_, lLeft_sorted _ _⟩
  · intro x hx
    obtain ⟨j, _, rfl⟩ := List.mem_map.mp hx
    have := lMod_pos more
    have h1 := Int.emod_nonneg (dr more j) (show lMod more ≠ 0 by omega)
    have h2 := Int.emod_lt_of_pos (dr more j) (show (0 : Int) < lMod more by omega)
    omega
  · intro m hm
    have := lLeft_ok _ _ m hm
    simpa [lWins] using this
theorem lRow_len (more : Int) (a : Nat) (bs : List Nat) : (lRow more a bs).length ≤ bs.length := List.length_filterMap_le _ _
theorem lLeft_len (more : Int) (n : Nat) (as : List Nat) : (lLeft more n as).length ≤ n * as.length := by
  unfold lLeft
  induction as with
  | nil => simp
  | cons a as ih =>
    rw [List.flatMap_cons, List.length_append, List.length_cons, Nat.mul_succ]
    have := lRow_len more a (List.range' (a + 1) (n - (a + 1)))
    simp at this
    omega
theorem atI_const {α : Type} {xs : List α} {i : Int} {d : α} (h0 : 0 ≤ i) (h : i < xs.length) : atI xs i = some (xs.getD i.toNat d) := by
  have h2 : i.toNat < xs.length := by omega
  rw [atI_lt h0 h]; simp [List.getD_eq_getElem?_getD, h2]
theorem range_split {n : Nat} {p q : List Nat} {i : Nat} (e : List.range n = p ++ i :: q) : i = p.length ∧ i < n := by
  have h1 : (List.range n)[p.length]? = some i := by rw [e]; simp
  have h2 := List.getElem?_eq_some_iff.mp h1
  obtain ⟨h, h3⟩ := h2
  simp at h h3
  omega
theorem eRep1 {L : XL} {B : XE} {δ : DE} {x : D} {k : Int} (h : L δ = some (.ok [x])) (h2 : B δ = some (.ok (.int k))) (h0 : 0 ≤ k) (h1 : k ≤ 1000) : xRep L B δ = some (.ok (List.replicate k.toNat x)) := by
  unfold xRep
  rw [h, bnd_ok, h2, bnd_ok]
  show (if _ then _ else _) = _
  rw [if_pos ⟨⟨by omega, by omega⟩, by simp [sz]; omega⟩]
  simp
theorem mts_len (ms : List (Mt × Int)) (hf : ∀ x ∈ ms, 0 ≤ x.2 ∧ x.2 ≤ x.1.2.2 ∧ x.1.2.2 ≤ 9) : (mts ms).length ≤ 9 * ms.length := by
  induction ms with
  | nil => simp [mts]
  | cons x ms ih =>
    have := ih fun y hy => hf y (by simp [hy])
    have h1 := hf x (by simp)
    show ((_ ++ _) ++ mts ms).length ≤ _
    simp; omega
theorem mts_snoc (ms : List (Mt × Int)) (x : Mt × Int) : mts (ms ++ [x]) = mts ms ++ (List.replicate x.2.toNat (x.1.1, x.1.2.1) ++ List.replicate (x.1.2.2 - x.2).toNat (x.1.2.1, x.1.1)) := by simp [mts]
/-- a drawn season -/
def seas (M : Int) (L : List Mt) : List Int := L.zipIdx.map fun x => dr M (20 + (x.2 : Int)) % (x.1.2.2 + 1)
theorem seas_length (M : Int) (L : List Mt) : (seas M L).length = L.length := by simp [seas]
theorem seas_get (M : Int) (L : List Mt) (i : Nat) (h : i < L.length) : (seas M L)[i]'(by rw [seas_length]; exact h) = dr M (20 + (i : Int)) % (L[i].2.2 + 1) := by simp [seas]
theorem seas_ok (M : Int) (L : List Mt) (hc : ∀ m ∈ L, 1 ≤ m.2.2 ∧ m.2.2 ≤ 9) : ∀ x ∈ L.zip (seas M L), 0 ≤ x.2 ∧ x.2 ≤ x.1.2.2 ∧ x.1.2.2 ≤ 9 := by
  intro x hx
  obtain ⟨i, hi, e⟩ := List.mem_iff_getElem.mp hx
  have hi' : i < L.length := by simp [seas_length] at hi; omega
  rw [List.getElem_zip, seas_get M L i hi'] at e
  subst e
  have := hc L[i] (List.getElem_mem _)
  have h1 := Int.emod_nonneg (dr M (20 + (i : Int))) (show L[i].2.2 + 1 ≠ 0 by omega)
  have h2 := Int.emod_lt_of_pos (dr M (20 + (i : Int))) (show 0 < L[i].2.2 + 1 by omega)
  exact ⟨h1, Int.lt_add_one_iff.mp h2, this.2⟩
end DL
set_option Elab.async false
set_option linter.all false
set_option maxRecDepth 100000
set_option maxHeartbeats 2000000
set_option autoImplicit false
/-! who can come where: groups that weigh, seasons that fit -/
namespace DL
open PySem
def tN (g : List Nat) : D := .tuple (g.map fun (x : Nat) => PyData.int x)
theorem shp_tN (g : List Nat) : shp 1 (tN g) := shp_tup fun d hd => by
  obtain ⟨i, _, rfl⟩ := List.mem_map.mp hd; exact shp_int _ _
/-! ### choices -/
def ch (row : List Nat) : Nat → List (List Nat)
  | 0 => [[]]
  | k + 1 => (ch row k).flatMap fun g => (row.filter fun x => decide (g = []) || decide (g.getLastD 0 < x)).map fun x => g ++ [x]
theorem lastD_eq {g : List Nat} (h : g ≠ []) : g.getLastD 0 = g.getLast h := by
  cases g with
  | nil => exact absurd rfl h
  | cons a g => simp [List.getLastD, List.getLast?_eq_getLast]
theorem last_lt {g : List Nat} {x : Nat} (hp : g.Pairwise (· < ·)) (hx : g = [] ∨ g.getLastD 0 < x) : ∀ y ∈ g, y < x := by
  intro y hy
  rcases hx with rfl | hx
  · cases hy
  · have hne : g ≠ [] := fun e => by rw [e] at hy; cases hy
    have e : g.getLastD 0 = g.getLast hne := lastD_eq hne
    rw [e] at hx
    have h2 : g.dropLast ++ [g.getLast hne] = g := List.dropLast_concat_getLast hne
    rw [← h2] at hy hp
    rcases List.mem_append.mp hy with h | h
    · have := (List.pairwise_append.mp hp).2.2 y h (g.getLast hne) (by simp)
      omega
    · simp at h; omega
theorem mem_ch (row : List Nat) : ∀ (k : Nat) (g : List Nat), g ∈ ch row k ↔ g.length = k ∧ g.Pairwise (· < ·) ∧ ∀ x ∈ g, x ∈ row
  | 0, g => by
    constructor
    · intro h; simp [ch] at h; subst h; simp
    · intro ⟨h, _⟩; simp [ch]; exact List.length_eq_zero_iff.mp h
  | k + 1, g => by
    simp only [ch, List.mem_flatMap, List.mem_map, List.mem_filter]
    constructor
    · rintro ⟨h, hh, x, ⟨hx, hc⟩, rfl⟩
      obtain ⟨h1, h2, h3⟩ := (mem_ch row k h).mp hh
      have hlt := last_lt (x := x) h2 (by simpa using hc)
      refine ⟨by simp [h1], ?_, ?_⟩
      · rw [List.pairwise_append]
        exact ⟨h2, by simp, fun a ha b hb => by simp at hb; rw [hb]; exact hlt a ha⟩
      · intro y hy
        rcases List.mem_append.mp hy with h | h
        · exact h3 y h
        · simp at h; rw [h]; exact hx
    · rintro ⟨h1, h2, h3⟩
      have hne : g ≠ [] := fun e => by rw [e] at h1; simp at h1
      have e2 : g.dropLast ++ [g.getLast hne] = g := List.dropLast_concat_getLast hne
      have h2' := h2
      rw [← e2] at h2'
      have h4 := List.pairwise_append.mp h2'
      refine ⟨g.dropLast, (mem_ch row k _).mpr ⟨by simp [h1], h4.1, fun x hx => h3 x (List.dropLast_subset _ hx)⟩, g.getLast hne, ⟨h3 _ (List.getLast_mem hne), ?_⟩, e2⟩
      by_cases he : g.dropLast = []
      · simp [he]
      · have e3 : g.dropLast.getLastD 0 = g.dropLast.getLast he := lastD_eq he
        rw [e3]
        have := h4.2.2 _ (List.getLast_mem he) (g.getLast hne) (by simp)
        simp [this]
theorem ch_len (row : List Nat) : ∀ k, (ch row k).length ≤ row.length ^ k
  | 0 => by simp [ch]
  | k + 1 => by
    have ih := ch_len row k
    have key : ∀ gs : List (List Nat), (gs.flatMap fun g => (row.filter fun x => decide (g = []) || decide (g.getLastD 0 < x)).map fun x => g ++ [x]).length ≤ gs.length * row.length := by
      intro gs
      induction gs with
      | nil => simp
      | cons g gs ih2 =>
        rw [List.flatMap_cons, List.length_append, List.length_cons, Nat.succ_mul, List.length_map]
        have := List.length_filter_le (fun x => decide (g = []) || decide (g.getLastD 0 < x)) row
        omega
    rw [Nat.pow_succ]
    exact Nat.le_trans (key _) (Nat.mul_le_mul_right _ ih)
/-! ### weights -/
def oth (n s : Nat) : List Nat := (List.range n).filter fun x => !decide (x = s)
def rst (n s : Nat) (F : List Nat) : List Nat := (oth n s).filter fun x => !decide (x ∈ F)
def top (w : List Int) (l : List Mt) (s : Nat) : Int := w.getD s 0 + leftOf l s
def ins (l : List Mt) (g : List Nat) : Int := ((l.filter fun m => decide (m.1 ∈ g) && decide (m.2.1 ∈ g)).map (·.2.2)).sum
def wsum (w : List Int) (g : List Nat) : Int := (g.map fun x => w.getD x 0).sum
def wgh (w : List Int) (l : List Mt) (t : Int) (g : List Nat) : Bool := decide ((g.length : Int) * t < wsum w g + ins l g)
def grps (R : List Nat) : List (List Nat) := (List.range' 1 R.length).flatMap fun k => ch R k
def wa (w : List Int) (l : List Mt) (s : Nat) (F : List Nat) : Option (List Nat) := (grps (rst w.length s F)).find? (wgh w l (top w l s))
theorem mem_grps (R : List Nat) (hR : R.Pairwise (· < ·)) (g : List Nat) : g ∈ grps R ↔ g ≠ [] ∧ g.Pairwise (· < ·) ∧ ∀ x ∈ g, x ∈ R := by
  unfold grps
  simp only [List.mem_flatMap, mem_ch]
  constructor
  · rintro ⟨k, hk, h1, h2, h3⟩
    refine ⟨?_, h2, h3⟩
    intro e; subst e
    simp [List.mem_range'_1] at hk h1
    omega
  · rintro ⟨h1, h2, h3⟩
    refine ⟨g.length, ?_, rfl, h2, h3⟩
    have : g.length ≤ R.length := by
      have n1 : g.Nodup := h2.imp fun h => Nat.ne_of_lt h
      exact List.Nodup.length_le_of_subset n1 h3
    have := List.length_pos_iff.mpr h1
    simp [List.mem_range'_1]; omega
theorem oth_sorted (n s : Nat) : (oth n s).Pairwise (· < ·) := List.Pairwise.filter _ List.pairwise_lt_range
theorem rst_sorted (n s : Nat) (F : List Nat) : (rst n s F).Pairwise (· < ·) := List.Pairwise.filter _ (oth_sorted n s)
theorem mem_oth (n s x : Nat) : x ∈ oth n s ↔ x < n ∧ x ≠ s := by simp [oth]
theorem mem_rst (n s : Nat) (F : List Nat) (x : Nat) : x ∈ rst n s F ↔ x < n ∧ x ≠ s ∧ x ∉ F := by simp [rst, mem_oth, and_assoc]
theorem oth_len (n s : Nat) : (oth n s).length ≤ n := by
  have := List.length_filter_le (fun x => !decide (x = s)) (List.range n)
  simpa [oth] using this
theorem rst_len (n s : Nat) (F : List Nat) : (rst n s F).length ≤ n := Nat.le_trans (List.length_filter_le _ _) (oth_len n s)
/-! ### the same by predicates -/
def SS (R : List Nat) (v : Nat → Int) (P : Nat → Bool) : Int := (R.map fun x => if P x then v x else 0).sum
def II (l : List Mt) (P : Nat → Bool) : Int := (l.map fun m => if P m.1 && P m.2.1 then m.2.2 else 0).sum
theorem SS_mod (R : List Nat) (v : Nat → Int) (P Q : Nat → Bool) : SS R v P + SS R v Q = SS R v (fun x => P x || Q x) + SS R v (fun x => P x && Q x) := by
  induction R with
  | nil => rfl
  | cons x R ih =>
    have c : ∀ (P : Nat → Bool), SS (x :: R) v P = (if P x then v x else 0) + SS R v P := fun P => by simp [SS]
    rw [c, c, c, c]
    by_cases h1 : P x = true <;> by_cases h2 : Q x = true <;> simp only [h1, h2, if_true, if_false, Bool.or_true, Bool.true_or, Bool.and_true, Bool.or_self, Bool.and_self, Bool.or_false, Bool.and_false, Bool.false_eq_true] <;> omega
theorem II_cons (m : Mt) (l : List Mt) (P : Nat → Bool) : II (m :: l) P = (if P m.1 && P m.2.1 then m.2.2 else 0) + II l P := by simp [II]
theorem II_sup (l : List Mt) (hl : ∀ m ∈ l, 0 ≤ m.2.2) (P Q : Nat → Bool) : II l P + II l Q ≤ II l (fun x => P x || Q x) + II l (fun x => P x && Q x) := by
  induction l with
  | nil => simp [II]
  | cons m l ih =>
    have h1 := hl m (by simp)
    have ih := ih fun m hm => hl m (by simp [hm])
    rw [II_cons, II_cons, II_cons, II_cons]
    by_cases h1 : P m.1 = true <;> by_cases h2 : Q m.1 = true <;> by_cases h3 : P m.2.1 = true <;> by_cases h4 : Q m.2.1 = true <;> simp [h1, h2, h3, h4] <;> omega
/-- no group weighs -/
def Okk (R : List Nat) (v : Nat → Int) (l : List Mt) : Prop := ∀ P : Nat → Bool, (∀ x, P x = true → x ∈ R) → SS R v P + II l P ≤ 0
theorem SS_add (R : List Nat) (hR : R.Pairwise (· < ·)) (v v' : Nat → Int) (a b : Nat) (f h : Int) (hv : ∀ x, v' x = v x + (if x = a then f else 0) + (if x = b then h else 0)) (P : Nat → Bool) (hP : ∀ x, P x = true → x ∈ R) :
    SS R v' P = SS R v P + (if P a then f else 0) + (if P b then h else 0) := by
  have one : ∀ (R : List Nat), R.Pairwise (· < ·) → ∀ (c : Nat) (e : Int), (R.map fun x => if P x then (if x = c then e else 0) else 0).sum = if (P c = true ∧ c ∈ R) then e else 0 := by
    intro R hR c e
    induction R with
    | nil => simp
    | cons y R ih =>
      rw [List.pairwise_cons] at hR
      have ih := ih hR.2
      simp only [List.map_cons, List.sum_cons, ih, List.mem_cons]
      by_cases hy : y = c
      · subst hy
        have hn : y ∉ R := fun h => Nat.lt_irrefl _ (hR.1 y h)
        by_cases hp : P y = true <;> simp [hp, hn]
      · have hy' : ¬ c = y := fun e => hy e.symm
        by_cases hp : P y = true <;> simp [hp, hy, hy']
  have sum3 : ∀ R : List Nat, SS R v' P = SS R v P + (R.map fun x => if P x then (if x = a then f else 0) else 0).sum + (R.map fun x => if P x then (if x = b then h else 0) else 0).sum := by
    intro R
    induction R with
    | nil => simp [SS]
    | cons y R ih =>
      unfold SS at *
      simp only [List.map_cons, List.sum_cons, ih]
      by_cases hp : P y = true
      · simp only [hp, if_true, hv y]; omega
      · simp only [hp, if_false]; simp
  rw [sum3, one R hR, one R hR]
  have e1 : (if (P a = true ∧ a ∈ R) then f else 0) = if P a then f else 0 := by
    by_cases h : P a = true
    · rw [if_pos ⟨h, hP a h⟩, if_pos h]
    · rw [if_neg (fun z => h z.1), if_neg h]
  have e2 : (if (P b = true ∧ b ∈ R) then h else 0) = if P b then h else 0 := by
    by_cases h : P b = true
    · rw [if_pos ⟨h, hP b h⟩, if_pos h]
    · rw [if_neg (fun z => h z.1), if_neg h]
  rw [e1, e2]
/-- a match more can be fixed -/
theorem okk_step (R : List Nat) (hR : R.Pairwise (· < ·)) (v : Nat → Int) (m : Mt) (l : List Mt) (hl : ∀ m ∈ l, 0 ≤ m.2.2) (hc : 0 ≤ m.2.2) (ok : Okk R v (m :: l)) :
    ∃ f : Int, 0 ≤ f ∧ f ≤ m.2.2 ∧ ∀ v' : Nat → Int, (∀ x, v' x = v x + (if x = m.1 then f else 0) + (if x = m.2.1 then m.2.2 - f else 0)) → Okk R v' l := by
  obtain ⟨c, hcn⟩ : ∃ c : Nat, m.2.2 = c := ⟨m.2.2.toNat, by omega⟩
  have good : ∃ f : Nat, f ≤ c ∧ (∀ P : Nat → Bool, (∀ x, P x = true → x ∈ R) → P m.1 = true → P m.2.1 = false → SS R v P + f + II l P ≤ 0) ∧ (f < c → ∃ P : Nat → Bool, (∀ x, P x = true → x ∈ R) ∧ P m.1 = true ∧ P m.2.1 = false ∧ 0 < SS R v P + (f + 1) + II l P) := by
    have h0 : ∀ P : Nat → Bool, (∀ x, P x = true → x ∈ R) → P m.1 = true → P m.2.1 = false → SS R v P + (0 : Nat) + II l P ≤ 0 := by
      intro P hP h1 h2
      have := ok P hP
      rw [II_cons, h2] at this
      simp at this; simpa using this
    have key : ∀ k : Nat, ∀ f : Nat, f + k = c → (∀ P : Nat → Bool, (∀ x, P x = true → x ∈ R) → P m.1 = true → P m.2.1 = false → SS R v P + f + II l P ≤ 0) → ∃ f : Nat, f ≤ c ∧ (∀ P : Nat → Bool, (∀ x, P x = true → x ∈ R) → P m.1 = true → P m.2.1 = false → SS R v P + f + II l P ≤ 0) ∧ (f < c → ∃ P : Nat → Bool, (∀ x, P x = true → x ∈ R) ∧ P m.1 = true ∧ P m.2.1 = false ∧ 0 < SS R v P + (f + 1) + II l P) := by
      intro k
      induction k with
      | zero => intro f hf h; exact ⟨f, by omega, h, fun h2 => by omega⟩
      | succ k ih =>
        intro f hf h
        by_cases hg : ∀ P : Nat → Bool, (∀ x, P x = true → x ∈ R) → P m.1 = true → P m.2.1 = false → SS R v P + ((f + 1 : Nat) : Int) + II l P ≤ 0
        · exact ih (f + 1) (by omega) hg
        · refine ⟨f, by omega, h, fun _ => ?_⟩
          simp only [Classical.not_forall] at hg
          obtain ⟨P, h1, h2, h3, h4⟩ := hg
          exact ⟨P, h1, h2, h3, by push_cast at h4; omega⟩
    exact key c 0 (by omega) h0
  obtain ⟨f, hf, g1, g2⟩ := good
  refine ⟨f, by omega, by omega, fun v' hv P hP => ?_⟩
  rw [SS_add R hR v v' m.1 m.2.1 f (m.2.2 - f) hv P hP]
  have hok := ok P hP
  rw [II_cons] at hok
  cases h1 : P m.1 with
  | true =>
    cases h2 : P m.2.1 with
    | true => rw [h1, h2] at hok; simp at hok ⊢; omega
    | false => have := g1 P hP h1 h2; simp; omega
  | false =>
    cases h2 : P m.2.1 with
    | false => rw [h1, h2] at hok; simp at hok ⊢; omega
    | true =>
      rw [h1] at hok
      simp at hok ⊢
      by_cases hfc : f < c
      · obtain ⟨Q, q1, q2, q3, q4⟩ := g2 hfc
        have s1 := SS_mod R v P Q
        have s2 := II_sup l hl P Q
        have o1 := ok (fun x => P x || Q x) (fun x hx => by
          rcases Bool.or_eq_true_iff.mp hx with h | h
          · exact hP x h
          · exact q1 x h)
        have o2 := ok (fun x => P x && Q x) (fun x hx => hP x (Bool.and_eq_true_iff.mp hx).1)
        rw [II_cons] at o1 o2
        simp [h1, h2, q2, q3] at o1 o2
        omega
      · have : f = c := by omega
        omega
/-! ### from lists to predicates -/
theorem sorted_ext : ∀ {a b : List Nat}, a.Pairwise (· < ·) → b.Pairwise (· < ·) → (∀ x, x ∈ a ↔ x ∈ b) → a = b
  | [], [], _, _, _ => rfl
  | [], y :: b, _, _, h => absurd ((h y).mpr (by simp)) (by simp)
  | x :: a, [], _, _, h => absurd ((h x).mp (by simp)) (by simp)
  | x :: a, y :: b, ha, hb, h => by
    rw [List.pairwise_cons] at ha hb
    have hxy : x = y := by
      rcases List.mem_cons.mp ((h x).mp (by simp)) with e | e
      · exact e
      · rcases List.mem_cons.mp ((h y).mpr (by simp)) with e2 | e2
        · exact e2.symm
        · have h1 := hb.1 x e; have h2 := ha.1 y e2; omega
    subst hxy
    congr 1
    refine sorted_ext ha.2 hb.2 fun z => ?_
    constructor
    · intro hz
      rcases List.mem_cons.mp ((h z).mp (by simp [hz])) with e | e
      · subst e; exact absurd (ha.1 z hz) (Nat.lt_irrefl _)
      · exact e
    · intro hz
      rcases List.mem_cons.mp ((h z).mpr (by simp [hz])) with e | e
      · subst e; exact absurd (hb.1 z hz) (Nat.lt_irrefl _)
      · exact e
theorem SS_filter (R : List Nat) (w : List Int) (t : Int) (P : Nat → Bool) : SS R (fun x => w.getD x 0 - t) P = wsum w (R.filter P) - (R.filter P).length * t := by
  induction R with
  | nil => simp [SS, wsum]
  | cons x R ih =>
    have c : SS (x :: R) (fun x => w.getD x 0 - t) P = (if P x then w.getD x 0 - t else 0) + SS R (fun x => w.getD x 0 - t) P := by simp [SS]
    rw [c, ih]
    by_cases h : P x = true
    · rw [if_pos h, List.filter_cons, if_pos h]
      have e1 : wsum w (x :: R.filter P) = w.getD x 0 + wsum w (R.filter P) := by simp [wsum]
      have e2 : ((x :: R.filter P).length : Int) * t = (R.filter P).length * t + t := by rw [List.length_cons]; push_cast; rw [Int.add_mul]; omega
      rw [e1, e2]; omega
    · rw [if_neg h, List.filter_cons, if_neg h]; omega
theorem II_ins (l : List Mt) (P : Nat → Bool) (g : List Nat) (h : ∀ x, P x = decide (x ∈ g)) : II l P = ins l g := by
  induction l with
  | nil => rfl
  | cons m l ih =>
    rw [II_cons, ih]
    unfold ins
    rw [List.filter_cons, h, h]
    by_cases e : (decide (m.1 ∈ g) && decide (m.2.1 ∈ g)) = true
    · rw [if_pos e, if_pos e]; simp
    · rw [if_neg e, if_neg e]; omega
theorem okk_iff (R : List Nat) (hR : R.Pairwise (· < ·)) (w : List Int) (l : List Mt) (t : Int) : Okk R (fun x => w.getD x 0 - t) l ↔ ∀ g ∈ grps R, wgh w l t g = false := by
  constructor
  · intro ok g hg
    obtain ⟨h1, h2, h3⟩ := (mem_grps R hR g).mp hg
    have := ok (fun x => decide (x ∈ g)) (fun x hx => h3 x (by simpa using hx))
    rw [SS_filter, II_ins l _ g (fun _ => rfl)] at this
    have e : R.filter (fun x => decide (x ∈ g)) = g := sorted_ext (List.Pairwise.filter _ hR) h2 fun x => by
      simp; exact fun hx => h3 x hx
    rw [e] at this
    unfold wgh; simp; omega
  · intro h P hP
    rw [SS_filter]
    have e : ∀ x, P x = decide (x ∈ R.filter P) := by
      intro x
      cases hp : P x with
      | true => have := hP x hp; simp [this, hp]
      | false => simp [hp]
    rw [II_ins l P _ e]
    by_cases hne : R.filter P = []
    · rw [hne]
      have : ins l [] = 0 := by unfold ins; rw [List.filter_eq_nil_iff.mpr (by simp)]; rfl
      rw [this]; simp [wsum]
    · have := h _ ((mem_grps R hR _).mpr ⟨hne, List.Pairwise.filter _ hR, fun x hx => (List.mem_filter.mp hx).1⟩)
      unfold wgh at this; simp at this; omega
theorem wa_none (w : List Int) (l : List Mt) (s : Nat) (F : List Nat) : wa w l s F = none ↔ Okk (rst w.length s F) (fun x => w.getD x 0 - top w l s) l := by
  rw [okk_iff _ (rst_sorted _ _ _)]
  unfold wa
  rw [List.find?_eq_none]
  simp
/-! ### what is fixed, what is left -/
def con (p : Mt × Int) (x : Nat) : Int := (if x = p.1.1 then p.2 else 0) + (if x = p.1.2.1 then p.1.2.2 - p.2 else 0)
def conS (ms : List (Mt × Int)) (x : Nat) : Int := (ms.map fun p => con p x).sum
theorem endW_con (ms : List (Mt × Int)) : ∀ (w : List Int), (∀ p ∈ ms, p.1.1 < w.length ∧ p.1.2.1 < w.length) → ∀ x, (endW w ms).getD x 0 = w.getD x 0 + conS ms x := by
  induction ms with
  | nil => intro w _ x; simp [endW, conS]
  | cons p ms ih =>
    intro w h x
    have h1 := h p (by simp)
    show (endW (wb (wb w p.1.1 p.2) p.1.2.1 (p.1.2.2 - p.2)) ms).getD x 0 = _
    rw [ih _ (fun q hq => by rw [wb_length, wb_length]; exact h q (by simp [hq])), wb_getD _ _ _ (by rw [wb_length]; exact h1.2), wb_getD _ _ _ h1.1]
    simp only [conS, List.map_cons, List.sum_cons, con]
    omega
theorem conS_app (a b : List (Mt × Int)) (x : Nat) : conS (a ++ b) x = conS a x + conS b x := by simp [conS, List.sum_append]
def has (s : Nat) (m : Mt) : Bool := decide (m.1 = s) || decide (m.2.1 = s)
def decO (s : Nat) (m : Mt) : Int := if m.1 = s then m.2.2 else 0
def fm (s : Nat) (l : List Mt) : List (Mt × Int) := (l.filter (has s)).map fun m => (m, decO s m)
def dcd (l : List Mt) (s : Nat) (fx : List Int) : List (Mt × Int) := l.zip fx ++ fm s (l.drop fx.length)
def und (l : List Mt) (s : Nat) (fx : List Int) : List Mt := (l.drop fx.length).filter fun m => !has s m
def fit (w : List Int) (l : List Mt) (s : Nat) (F : List Nat) (fx : List Int) : Bool :=
  !decide ((endW w (dcd l s fx)).getD s 0 + leftOf (und l s fx) s < top w l s) && (grps (rst w.length s F)).all fun g => !wgh (endW w (dcd l s fx)) (und l s fx) (top w l s) g
def Fit (w : List Int) (l : List Mt) (s : Nat) (F : List Nat) (fx : List Int) : Prop :=
  (endW w (dcd l s fx)).getD s 0 = top w l s ∧ Okk (rst w.length s F) (fun x => (endW w (dcd l s fx)).getD x 0 - top w l s) (und l s fx)
theorem leftOf_und (l : List Mt) (s : Nat) (fx : List Int) : leftOf (und l s fx) s = 0 := by
  unfold leftOf und
  rw [List.filter_filter]
  have : (l.drop fx.length).filter (fun a => (decide (a.1 = s) || decide (a.2.1 = s)) && !has s a) = [] := by
    apply List.filter_eq_nil_iff.mpr
    intro m _
    simp [has]; omega
  rw [this]; rfl
theorem fit_of {w : List Int} {l : List Mt} {s : Nat} {F : List Nat} {fx : List Int} (h : Fit w l s F fx) : fit w l s F fx = true := by
  unfold fit
  rw [leftOf_und, h.1]
  have := (okk_iff _ (rst_sorted _ _ _) _ _ _).mp h.2
  simp
  intro g hg
  exact this g hg
theorem of_fit {w : List Int} {l : List Mt} {s : Nat} {F : List Nat} {fx : List Int} (h : fit w l s F fx = true) : top w l s ≤ (endW w (dcd l s fx)).getD s 0 ∧ Okk (rst w.length s F) (fun x => (endW w (dcd l s fx)).getD x 0 - top w l s) (und l s fx) := by
  unfold fit at h
  rw [leftOf_und] at h
  rw [Bool.and_eq_true] at h
  refine ⟨by have := h.1; simp at this; simpa using this, (okk_iff _ (rst_sorted _ _ _) _ _ _).mpr fun g hg => ?_⟩
  have := List.all_eq_true.mp h.2 g hg
  simpa using this
theorem dcd_in {w : List Int} {l : List Mt} (hl : ∀ m ∈ l, m.1 < w.length ∧ m.2.1 < w.length) (s : Nat) (fx : List Int) : ∀ p ∈ dcd l s fx, p.1.1 < w.length ∧ p.1.2.1 < w.length := by
  intro p hp
  rcases List.mem_append.mp hp with h | h
  · exact hl _ (List.of_mem_zip h).1
  · obtain ⟨m, hm, rfl⟩ := List.mem_map.mp h
    exact hl m (List.mem_of_mem_drop (List.mem_filter.mp hm).1)
theorem conS_fm (s : Nat) (l : List Mt) (hl : ∀ m ∈ l, m.1 < m.2.1) (x : Nat) : conS (fm s l) x = if x = s then leftOf l s else 0 := by
  induction l with
  | nil => simp [fm, conS, leftOf]
  | cons m l ih =>
    have h1 := hl m (by simp)
    have ih := ih fun m hm => hl m (by simp [hm])
    unfold fm leftOf at *
    rw [List.filter_cons, List.filter_cons]
    by_cases e : has s m = true
    · have e' : (decide (m.1 = s) || decide (m.2.1 = s)) = true := e
      rw [if_pos e, if_pos e']
      simp only [conS, List.map_cons, List.sum_cons] at ih ⊢
      rw [ih]
      simp only [con, decO]
      simp only [has, Bool.or_eq_true, decide_eq_true_eq] at e
      by_cases hx : x = s
      · subst hx
        rcases e with e | e
        · have e2 : ¬ x = m.2.1 := by omega
          simp [e, e2]
        · have e2 : ¬ x = m.1 := by omega
          have e3 : ¬ m.1 = x := by omega
          simp [e, e2, e3]
      · rcases e with e | e
        · have e2 : ¬ x = m.1 := by omega
          simp [e, hx]
        · have e2 : ¬ m.1 = s := by omega
          simp [e, hx, e2]
    · have e' : ¬ (decide (m.1 = s) || decide (m.2.1 = s)) = true := e
      rw [if_neg e, if_neg e']
      exact ih
theorem II_und (l : List Mt) (s : Nat) (P : Nat → Bool) (hP : P s = false) : II (l.filter fun m => !has s m) P = II l P := by
  induction l with
  | nil => rfl
  | cons m l ih =>
    rw [List.filter_cons, II_cons]
    by_cases e : has s m = true
    · rw [if_neg (by simp [e]), ih]
      simp only [has, Bool.or_eq_true, decide_eq_true_eq] at e
      rcases e with e | e <;> simp [e, hP]
    · rw [if_pos (by simp [e]), II_cons, ih]
/-- at first -/
theorem fit_start {w : List Int} {l : List Mt} (hlg : Lg w l) {s : Nat} (hs : s < w.length) {F : List Nat} (h : wa w l s F = none) : Fit w l s F [] := by
  have hl : ∀ m ∈ l, m.1 < w.length ∧ m.2.1 < w.length := fun m hm => by have := hlg.l m hm; omega
  have e : ∀ x, (endW w (dcd l s [])).getD x 0 = w.getD x 0 + if x = s then leftOf l s else 0 := by
    intro x
    rw [endW_con _ _ (dcd_in hl s []), dcd]
    rw [conS_app]
    have : conS (l.zip ([] : List Int)) x = 0 := by simp [conS]
    rw [this]
    show _ + (0 + conS (fm s l) x) = _
    rw [conS_fm s l (fun m hm => (hlg.l m hm).1)]
    omega
  constructor
  · rw [e]; simp [top]
  · have ok := (wa_none w l s F).mp h
    intro P hP
    have := ok P hP
    have hPs : P s = false := by
      cases h : P s with
      | false => rfl
      | true => exact absurd rfl ((mem_rst _ _ _ _).mp (hP s h)).2.1
    have e2 : SS (rst w.length s F) (fun x => (endW w (dcd l s [])).getD x 0 - top w l s) P = SS (rst w.length s F) (fun x => w.getD x 0 - top w l s) P := by
      unfold SS
      congr 1
      apply List.map_congr_left
      intro x hx
      have hx := ((mem_rst _ _ _ _).mp hx).2.1
      simp only [e, if_neg hx]
      simp
    rw [e2]
    show _ + II ((l.drop 0).filter _) P ≤ 0
    rw [List.drop_zero, II_und l s P hPs]
    exact this
def pick (s : Nat) (m : Mt) : List Int := if m.1 = s then [m.2.2] else if m.2.1 = s then [0] else (List.range (m.2.2 + 1).toNat).map fun (i : Nat) => (i : Int)
/-- one match more -/
theorem fit_next {w : List Int} {l l1 l2 : List Mt} {m : Mt} (hlg : Lg w l) (hl : l = l1 ++ m :: l2) {s : Nat} {F : List Nat} {fx : List Int} (hfx : fx.length = l1.length) (h : Fit w l s F fx) : ∃ f ∈ pick s m, Fit w l s F (fx ++ [f]) := by
  have hin : ∀ m ∈ l, m.1 < w.length ∧ m.2.1 < w.length := fun m hm => by have := hlg.l m hm; omega
  have d0 : l.drop fx.length = m :: l2 := by rw [hfx, hl]; simp
  have d1 : ∀ f : Int, l.drop (fx ++ [f]).length = l2 := by intro f; rw [List.length_append, hfx, hl]; simp
  have z0 : l.zip fx = l1.zip fx := by
    rw [hl, ← List.append_nil fx, List.zip_append (by omega)]; simp
  have z1 : ∀ f : Int, l.zip (fx ++ [f]) = l1.zip fx ++ [(m, f)] := by intro f; rw [hl, List.zip_append (by omega)]; simp
  have hm := hlg.l m (by rw [hl]; simp)
  by_cases hsm : has s m = true
  · refine ⟨decO s m, ?_, ?_⟩
    · unfold pick decO
      simp only [has, Bool.or_eq_true, decide_eq_true_eq] at hsm
      by_cases e : m.1 = s
      · simp [e]
      · have e2 : m.2.1 = s := by omega
        simp [e, e2]
    · have e1 : dcd l s (fx ++ [decO s m]) = dcd l s fx := by
        unfold dcd; rw [d0, d1, z0, z1]
        simp [fm, hsm]
      have e2 : und l s (fx ++ [decO s m]) = und l s fx := by
        unfold und; rw [d0, d1]; simp [hsm]
      unfold Fit; rw [e1, e2]; exact h
  · have hu : und l s fx = m :: und l s (fx ++ [0]) := by
      unfold und; rw [d0, d1]; simp [hsm]
    have hu' : ∀ f : Int, und l s (fx ++ [f]) = und l s (fx ++ [0]) := by intro f; unfold und; rw [d1, d1]
    obtain ⟨h1, h2⟩ := h
    rw [hu] at h2
    have hpos : ∀ m' ∈ und l s (fx ++ [0]), 0 ≤ m'.2.2 := by
      intro m' hm'
      have := hlg.l m' (List.mem_of_mem_drop (List.mem_filter.mp hm').1)
      omega
    obtain ⟨f, f0, f1, hf⟩ := okk_step _ (rst_sorted _ _ _) _ m _ hpos (by omega) h2
    have ge : ∀ x, (endW w (dcd l s (fx ++ [f]))).getD x 0 = (endW w (dcd l s fx)).getD x 0 + con (m, f) x := by
      intro x
      rw [endW_con _ _ (dcd_in hin s _), endW_con _ _ (dcd_in hin s _)]
      unfold dcd
      rw [d0, d1, z0, z1]
      have : fm s (m :: l2) = fm s l2 := by unfold fm; rw [List.filter_cons, if_neg hsm]
      rw [this, conS_app, conS_app, conS_app]
      have : conS [(m, f)] x = con (m, f) x := by simp [conS]
      rw [this]; omega
    refine ⟨f, ?_, ?_, ?_⟩
    · simp only [has, Bool.or_eq_true, decide_eq_true_eq] at hsm
      unfold pick
      rw [if_neg (by omega), if_neg (by omega)]
      refine List.mem_map.mpr ⟨f.toNat, ?_, by omega⟩
      simp; omega
    · rw [ge, h1]
      simp only [has, Bool.or_eq_true, decide_eq_true_eq] at hsm
      have e1 : ¬ s = m.1 := by omega
      have e2 : ¬ s = m.2.1 := by omega
      simp [con, e1, e2]
    · rw [hu']
      refine hf _ fun x => ?_
      rw [ge]
      simp only [con]
      omega
/-! ### places -/
def reach (w : List Int) (l : List Mt) (s p : Nat) : Bool := (ch (oth w.length s) (p - 1)).any fun F => (wa w l s F).isNone
theorem reach_iff (w : List Int) (l : List Mt) (s p : Nat) : reach w l s p = true ↔ ∃ F, F.length = p - 1 ∧ F.Pairwise (· < ·) ∧ (∀ x ∈ F, x < w.length ∧ x ≠ s) ∧ wa w l s F = none := by
  unfold reach
  rw [List.any_eq_true]
  constructor
  · rintro ⟨F, h1, h2⟩
    obtain ⟨a, b, c⟩ := (mem_ch _ _ _).mp h1
    exact ⟨F, a, b, fun x hx => (mem_oth _ _ _).mp (c x hx), by simpa using h2⟩
  · rintro ⟨F, a, b, c, d⟩
    exact ⟨F, (mem_ch _ _ _).mpr ⟨a, b, fun x hx => (mem_oth _ _ _).mpr (c x hx)⟩, by simpa using d⟩
theorem oth_length (n s : Nat) (hs : s < n) : (oth n s).length = n - 1 := by
  have h1 : (oth n s).length + ((List.range n).filter fun x => decide (x = s)).length = n := by
    have := List.length_eq_countP_add_countP (fun x => decide (x = s)) (l := List.range n)
    rw [List.countP_eq_length_filter, List.countP_eq_length_filter, List.length_range] at this
    have e : (List.range n).filter (fun x => !decide (x = s)) = (List.range n).filter (fun a => decide ¬ (decide (a = s) = true)) := by
      apply List.filter_congr; intro x _; simp
    unfold oth
    rw [e]; omega
  have h2 : ((List.range n).filter fun x => decide (x = s)).length = 1 := by
    have : (List.range n).filter (fun x => decide (x = s)) = [s] := sorted_ext (List.Pairwise.filter _ List.pairwise_lt_range) (by simp) fun x => by simp; omega
    rw [this]; rfl
  omega
theorem reach_last (w : List Int) (l : List Mt) (s : Nat) (hs : s < w.length) : reach w l s w.length = true := by
  refine (reach_iff _ _ _ _).mpr ⟨oth w.length s, oth_length _ _ hs, oth_sorted _ _, fun x hx => (mem_oth _ _ _).mp hx, ?_⟩
  have e : rst w.length s (oth w.length s) = [] := by
    apply List.filter_eq_nil_iff.mpr
    intro x hx
    simp [hx]
  unfold wa
  rw [e]; rfl
theorem wa_mono {w : List Int} {l : List Mt} {s : Nat} {F F' : List Nat} (h : ∀ x ∈ F, x ∈ F') (h0 : wa w l s F = none) : wa w l s F' = none := by
  unfold wa at *
  rw [List.find?_eq_none] at *
  intro g hg
  obtain ⟨a, b, c⟩ := (mem_grps _ (rst_sorted _ _ _) g).mp hg
  refine h0 g ((mem_grps _ (rst_sorted _ _ _) g).mpr ⟨a, b, fun x hx => ?_⟩)
  have := (mem_rst _ _ _ _).mp (c x hx)
  exact (mem_rst _ _ _ _).mpr ⟨this.1, this.2.1, fun z => this.2.2 (h x z)⟩
theorem reach_succ {w : List Int} {l : List Mt} {s p : Nat} (hs : s < w.length) (hp : 1 ≤ p) (hpn : p < w.length) (h : reach w l s p = true) : reach w l s (p + 1) = true := by
  obtain ⟨F, a, b, c, d⟩ := (reach_iff _ _ _ _).mp h
  have : ∃ y, y ∈ oth w.length s ∧ y ∉ F := by
    apply Classical.byContradiction
    intro hn
    have sub : ∀ y ∈ oth w.length s, y ∈ F := fun y hy => Classical.byContradiction fun z => hn ⟨y, hy, z⟩
    have n1 : (oth w.length s).Nodup := (oth_sorted _ _).imp fun h => Nat.ne_of_lt h
    have := List.Nodup.length_le_of_subset n1 sub
    rw [oth_length _ _ hs] at this
    omega
  obtain ⟨y, hy, hyF⟩ := this
  refine (reach_iff _ _ _ _).mpr ⟨(List.range w.length).filter fun x => decide (x ∈ F) || decide (x = y), ?_, List.Pairwise.filter _ List.pairwise_lt_range, ?_, ?_⟩
  · have n1 : F.Nodup := b.imp fun h => Nat.ne_of_lt h
    have n2 : (y :: F).Nodup := List.nodup_cons.mpr ⟨hyF, n1⟩
    have n3 : ((List.range w.length).filter fun x => decide (x ∈ F) || decide (x = y)).Nodup := List.Nodup.sublist List.filter_sublist List.nodup_range
    have hy' := (mem_oth _ _ _).mp hy
    have p1 : ((List.range w.length).filter fun x => decide (x ∈ F) || decide (x = y)).length ≤ (y :: F).length := List.Nodup.length_le_of_subset n3 (fun x hx => by
      simp at hx ⊢
      rcases hx.2 with h | h
      · exact .inr h
      · exact .inl h)
    have p2 : (y :: F).length ≤ ((List.range w.length).filter fun x => decide (x ∈ F) || decide (x = y)).length := List.Nodup.length_le_of_subset n2 (fun x hx => by
      simp at hx ⊢
      rcases hx with rfl | h
      · exact ⟨hy'.1, .inr rfl⟩
      · exact ⟨(c x h).1, .inl h⟩)
    simp at p1 p2 ⊢
    omega
  · intro x hx
    simp at hx
    rcases hx.2 with h | h
    · exact c x h
    · rw [h]; exact (mem_oth _ _ _).mp hy
  · refine wa_mono (fun x hx => ?_) d
    simp; exact ⟨(c x hx).1, .inl hx⟩
theorem reach_mono {w : List Int} {l : List Mt} {s p q : Nat} (hs : s < w.length) (hp : 1 ≤ p) (hpq : p ≤ q) (hq : q ≤ w.length) (h : reach w l s p = true) : reach w l s q = true := by
  induction q with
  | zero => omega
  | succ q ih =>
    by_cases e : p = q + 1
    · rw [← e]; exact h
    · exact reach_succ hs (by omega) (by omega) (ih (by omega) (by omega))
/-- the best place -/
def bst (w : List Int) (l : List Mt) (s : Nat) : Nat := ((List.range' 1 w.length).find? fun p => reach w l s p).getD 0
theorem bst_ok {w : List Int} {l : List Mt} {s : Nat} (hs : s < w.length) : 1 ≤ bst w l s ∧ bst w l s ≤ w.length ∧ ∀ p, 1 ≤ p → p ≤ w.length → (reach w l s p = true ↔ bst w l s ≤ p) := by
  have hn : 0 < w.length := by omega
  obtain ⟨b, hb⟩ : ∃ b, (List.range' 1 w.length).find? (fun p => reach w l s p) = some b := by
    apply Option.ne_none_iff_exists'.mp
    intro e
    rw [List.find?_eq_none] at e
    exact e w.length (by simp [List.mem_range'_1]; omega) (reach_last w l s hs)
  have e : bst w l s = b := by unfold bst; rw [hb]; rfl
  have m := List.mem_of_find?_eq_some hb
  have r := List.find?_some hb
  simp [List.mem_range'_1] at m r
  rw [e]
  refine ⟨by omega, by omega, fun p hp1 hp2 => ⟨fun h => ?_, fun h => reach_mono hs (by omega) h hp2 r⟩⟩
  apply Classical.byContradiction
  intro hlt
  obtain ⟨_, as, bs, e1, e2⟩ := List.find?_eq_some_iff_append.mp hb
  have hmem : p ∈ List.range' 1 w.length := by simp [List.mem_range'_1]; omega
  rw [e1] at hmem
  rcases List.mem_append.mp hmem with h1 | h1
  · have := e2 p h1
    simp [h] at this
  · have hs2 := (List.pairwise_lt_range' (s := 1) (n := w.length) (step := 1) (by omega))
    rw [e1] at hs2
    have h3 := (List.pairwise_append.mp hs2).2.1
    rw [List.pairwise_cons] at h3
    rcases List.mem_cons.mp h1 with h4 | h4
    · omega
    · have := h3.1 p h4
      omega
end DL
set_option Elab.async false
set_option linter.all false
set_option maxRecDepth 100000
set_option maxHeartbeats 2000000
set_option autoImplicit false
/-! facts for the texts of reach -/
namespace DL
open PySem
def lN (g : List Nat) : D := .list (g.map fun (x : Nat) => PyData.int x)
def oN : Option (List Nat) → D
  | none => .none
  | some g => tN g
theorem shp_lN (g : List Nat) : shp 1 (lN g) := shp_lst fun d hd => by
  obtain ⟨i, _, rfl⟩ := List.mem_map.mp hd; exact shp_int _ _
theorem q_neN (x y : Nat) : neD (.int (x : Nat)) (.int (y : Nat)) = some (.bool (!decide (x = y))) := by rw [q_neD (shp_int 0 _) (shp_int 0 _) (by omega), eqv_nat]
theorem q_eqN (x y : Nat) : eqD (.int (x : Nat)) (.int (y : Nat)) = some (.bool (decide (x = y))) := by rw [q_eqD (shp_int 0 _) (shp_int 0 _) (by omega), eqv_nat]
theorem any_eqv (g : List Nat) (x : Nat) : (g.map fun (y : Nat) => PyData.int y).any (fun z => PyData.eqv z (.int (x : Nat))) = decide (x ∈ g) := by
  rw [List.any_map]
  have : (g.any ((fun z => PyData.eqv z (.int (x : Nat))) ∘ fun (y : Nat) => PyData.int y)) = g.any fun y => decide (y = x) := by
    congr 1; funext y; simp only [Function.comp]; exact eqv_nat y x
  rw [this]
  by_cases h : x ∈ g
  · rw [decide_eq_true h, List.any_eq_true]; exact ⟨x, h, by simp⟩
  · rw [decide_eq_false h, List.any_eq_false]; intro y hy e; simp at e; subst e; exact h hy
theorem q_inN (x : Nat) (g : List Nat) : inD (.int (x : Nat)) (tN g) = some (.bool (decide (x ∈ g))) := by
  rw [tN, q_inT (n := 0) (shp_int _ _) (by intro d hd; obtain ⟨i, _, rfl⟩ := List.mem_map.mp hd; exact shp_int _ _) (by omega), any_eqv]
theorem q_inLN (x : Nat) (g : List Nat) : inD (.int (x : Nat)) (lN g) = some (.bool (decide (x ∈ g))) := by
  rw [lN, q_inL (n := 0) (shp_int _ _) (by intro d hd; obtain ⟨i, _, rfl⟩ := List.mem_map.mp hd; exact shp_int _ _) (by omega), any_eqv]
theorem q_notinN (x : Nat) (g : List Nat) : notinD (.int (x : Nat)) (tN g) = some (.bool (!decide (x ∈ g))) := q_notin (q_inN x g)
theorem q_inP (s : Nat) (m : Mt) : inD (.int (s : Nat)) (.tuple [.int (m.1 : Nat), .int (m.2.1 : Nat)]) = some (.bool (has s m)) := by
  rw [q_inT (n := 0) (shp_int _ _) (by intro d hd; simp at hd; rcases hd with rfl | rfl <;> exact shp_int _ _) (by omega)]
  simp only [List.any_cons, List.any_nil, eqv_nat, Bool.or_false, has]
theorem atI_m1 {α : Type} (xs : List α) (h : xs ≠ []) : atI xs (-1) = some (xs.getLast h) := by
  have hl := List.length_pos_iff.mpr h
  unfold atI ixN
  rw [if_neg (by omega), if_pos (by omega)]
  have : ((-1 : Int) + (xs.length : Int)).toNat = xs.length - 1 := by omega
  rw [this, Option.bind_some, List.getLast_eq_getElem]
  simp [hl]
theorem q_eqNil (g : List Nat) : eqD (tN g) (.tuple []) = some (.bool (decide (g = []))) := by
  rw [q_eqD (n := 1) (shp_tN g) (shp_tup (by simp)) (by omega)]
  cases g with
  | nil => simp [tN, PyData.eqv, PyData.eqvAll]
  | cons => simp [tN, PyData.eqv, PyData.eqvAll]
theorem chStep_len (row : List Nat) (gs : List (List Nat)) : (gs.flatMap fun g => (row.filter fun x => decide (g = []) || decide (g.getLastD 0 < x)).map fun x => g ++ [x]).length ≤ gs.length * row.length := by
  induction gs with
  | nil => simp
  | cons g gs ih2 =>
    rw [List.flatMap_cons, List.length_append, List.length_cons, Nat.succ_mul, List.length_map]
    have := List.length_filter_le (fun x => decide (g = []) || decide (g.getLastD 0 < x)) row
    omega
theorem ch_small {row : List Nat} {k : Nat} (hr : row.length ≤ 5) (hk : k ≤ 5) : (ch row k).length ≤ 3125 :=
  Nat.le_trans (ch_len row k) (Nat.le_trans (Nat.pow_le_pow_left hr k) (Nat.pow_le_pow_right (by omega) hk))
theorem zipIdx_split {α : Type} {l : List α} {p q : List (α × Nat)} {i : α × Nat} (e : l.zipIdx = p ++ i :: q) : i.2 = p.length ∧ (p ++ [i]).map (·.1) = l.take (p.length + 1) ∧ i.2 < l.length ∧ l[i.2]? = some i.1 := by
  have h1 : l.zipIdx[p.length]? = some i := by rw [e]; simp
  rw [List.getElem?_zipIdx] at h1
  have hlt : p.length < l.length := by
    have := congrArg List.length e
    simp at this; omega
  rw [List.getElem?_eq_getElem hlt] at h1
  simp at h1
  subst h1
  refine ⟨by simp, ?_, by simpa using hlt, by simp [hlt]⟩
  have h2 : (l.zipIdx.map (·.1)).take (p.length + 1) = l.take (p.length + 1) := by
    have : l.zipIdx.map (·.1) = l := List.zipIdx_map_fst 0 l
    rw [this]
  rw [← h2, e]
  simp [List.take_append]
  exact (List.take_of_length_le (by simp)).symm
theorem dcd_snoc (p : List Mt) (m : Mt) (s : Nat) (fx : List Int) : dcd (p ++ [m]) s fx = dcd p s fx ++ (if p.length < fx.length then [(m, fx.getD p.length 0)] else if has s m then [(m, decO s m)] else []) := by
  unfold dcd
  by_cases h : p.length < fx.length
  · rw [if_pos h, List.drop_eq_nil_of_le (by simp; omega), List.drop_eq_nil_of_le (by omega)]
    have e : fx = fx.take p.length ++ (fx[p.length]'h) :: fx.drop (p.length + 1) := by
      rw [← List.drop_eq_getElem_cons h, List.take_append_drop]
    have z1 : (p ++ [m]).zip fx = p.zip fx ++ [(m, fx[p.length]'h)] := by
      apply List.ext_getElem
      · simp; omega
      · intro i h1 h2
        simp at h1
        by_cases hi : i < p.length
        · rw [List.getElem_append_left (by simp; omega)]
          simp [List.getElem_append_left hi]
        · have hi2 : i = p.length := by omega
          subst hi2
          rw [List.getElem_append_right (by simp; omega)]
          simp
    rw [z1]
    simp [fm, h]
  · rw [if_neg h]
    have z1 : (p ++ [m]).zip fx = p.zip fx := by
      apply List.ext_getElem
      · simp; omega
      · intro i h1 h2
        simp at h1 h2
        simp [List.getElem_append_left (show i < p.length by omega)]
    rw [z1, List.drop_append_of_le_length (by omega)]
    unfold fm
    rw [List.filter_append, List.map_append, ← List.append_assoc]
    congr 1
    by_cases hh : has s m = true <;> simp [hh]
theorem und_snoc (p : List Mt) (m : Mt) (s : Nat) (fx : List Int) : und (p ++ [m]) s fx = und p s fx ++ (if p.length < fx.length then [] else if has s m then [] else [m]) := by
  unfold und
  by_cases h : p.length < fx.length
  · rw [if_pos h, List.drop_eq_nil_of_le (by simp; omega), List.drop_eq_nil_of_le (by omega)]; simp
  · rw [if_neg h, List.drop_append_of_le_length (by omega), List.filter_append]
    congr 1
    by_cases hh : has s m = true <;> simp [hh]
theorem und_len (p : List Mt) (s : Nat) (fx : List Int) : (und p s fx).length ≤ p.length := by
  unfold und
  exact Nat.le_trans (List.length_filter_le _ _) (by simp)
theorem cut_one {α : Type} (xs : List α) (k : Nat) (h : k < xs.length) : cut xs (some (k : Int)) (some ((k : Int) + 1)) = [xs[k]] := by
  have h0 : ¬ ((k : Int) < 0) := by omega
  have h1 : ¬ ((k : Int) + 1 < 0) := by omega
  have h2 : ((k : Int) + 1).toNat = k + 1 := by omega
  simp only [cut, sIx, h0, h1, if_false, Int.toNat_natCast, h2]
  rw [Nat.min_eq_left (by omega), Nat.min_eq_left (by omega)]
  have : k + 1 - k = 1 := by omega
  rw [this, List.drop_eq_getElem_cons h]
  rfl
theorem endW_snoc (w : List Int) (a b : List (Mt × Int)) : endW w (a ++ b) = endW (endW w a) b := by simp [endW]
theorem fit_keep {w : List Int} {l l1 l2 : List Mt} {m : Mt} (hlg : Lg w l) (hl : l = l1 ++ m :: l2) {s : Nat} {F : List Nat} {fx : List Int} (hfx : fx.length = l1.length) (h : Fit w l s F fx) {f : Int} (hf : f ∈ pick s m) (h2 : fit w l s F (fx ++ [f]) = true) : Fit w l s F (fx ++ [f]) := by
  refine ⟨?_, (of_fit h2).2⟩
  have hin : ∀ m ∈ l, m.1 < w.length ∧ m.2.1 < w.length := fun m hm => by have := hlg.l m hm; omega
  have d0 : l.drop fx.length = m :: l2 := by rw [hfx, hl]; simp
  have d1 : ∀ f : Int, l.drop (fx ++ [f]).length = l2 := by intro f; rw [List.length_append, hfx, hl]; simp
  have z0 : l.zip fx = l1.zip fx := by
    rw [hl, ← List.append_nil fx, List.zip_append (by omega)]; simp
  have z1 : ∀ f : Int, l.zip (fx ++ [f]) = l1.zip fx ++ [(m, f)] := by intro f; rw [hl, List.zip_append (by omega)]; simp
  by_cases hsm : has s m = true
  · have e : f = decO s m := by
      unfold pick at hf
      unfold decO
      simp only [has, Bool.or_eq_true, decide_eq_true_eq] at hsm
      by_cases e : m.1 = s
      · rw [if_pos e] at hf; rw [if_pos e]; simpa using hf
      · rw [if_neg e, if_pos (by omega)] at hf; rw [if_neg e]; simpa using hf
    subst e
    have e1 : dcd l s (fx ++ [decO s m]) = dcd l s fx := by
      unfold dcd; rw [d0, d1, z0, z1]
      simp [fm, hsm]
    rw [e1]; exact h.1
  · rw [← h.1, endW_con _ _ (dcd_in hin s _), endW_con _ _ (dcd_in hin s _)]
    unfold dcd
    rw [d0, d1, z0, z1]
    have : fm s (m :: l2) = fm s l2 := by unfold fm; rw [List.filter_cons, if_neg hsm]
    rw [this, conS_app, conS_app, conS_app]
    have : conS [(m, f)] s = 0 := by
      simp only [has, Bool.or_eq_true, decide_eq_true_eq] at hsm
      have e1 : ¬ s = m.1 := by omega
      have e2 : ¬ s = m.2.1 := by omega
      simp [conS, con, e1, e2]
    rw [this]; omega
theorem q_rangeP {n : Nat} (hn : n < sz) : rangeD 1 ((n : Int) + 1) = some ((List.range' 1 n).map fun (i : Nat) => PyData.int i) := by
  have h := q_range (m := 1) (n := n + 1) (by omega) (by unfold sz; omega)
  rw [Nat.add_sub_cancel] at h
  have e : ((n + 1 : Nat) : Int) = (n : Int) + 1 := by omega
  have e1 : ((1 : Nat) : Int) = 1 := rfl
  rw [e, e1] at h
  exact h
theorem eRangeP {A B : XE} {δ : DE} {n : Nat} (h : A δ = some (.ok (.int 1))) (h2 : B δ = some (.ok (.int ((n : Int) + 1)))) (hn : n < sz) : xRange2 A B δ = some (.ok ((List.range' 1 n).map fun (i : Nat) => PyData.int i)) := eRange2' h h2 (q_rangeP hn)
theorem shp_str {n : Nat} {x : Str} (h : PyData.canLay0 (.str x) = true) : shp n (.str x) := ⟨h, by simp [PyData.depth]⟩
theorem head_filter {xs : List Int} {p : Int → Bool} (h : ∃ x ∈ xs, p x = true) : ∃ f, atI ((xs.filter p).map PyData.int) 0 = some (.int f) ∧ f ∈ xs ∧ p f = true := by
  cases e : xs.filter p with
  | nil =>
    obtain ⟨x, hx, hp⟩ := h
    exact absurd hp (List.filter_eq_nil_iff.mp e x hx)
  | cons f r =>
    have : f ∈ xs.filter p := by rw [e]; simp
    exact ⟨f, by simp, (List.mem_filter.mp this).1, (List.mem_filter.mp this).2⟩
end DL
set_option Elab.async false
set_option linter.all false
set_option maxRecDepth 100000
set_option maxHeartbeats 2000000
set_option autoImplicit false
/-! sorted lists; sides numbered otherwise; a match played -/
namespace DL
open PySem
theorem sum_perm {a b : List Int} (h : a.Perm b) : a.sum = b.sum := by
  induction h with
  | nil => rfl
  | cons x _ ih => simp [ih]
  | swap x y l => simp; omega
  | trans _ _ h1 h2 => exact h1.trans h2
theorem erase_perm {α : Type} : ∀ (l : List α) (i : Nat) (h : i < l.length), (l[i] :: l.eraseIdx i).Perm l
  | x :: l, 0, _ => by simp
  | x :: l, i + 1, h => by
    have ih := erase_perm l i (by simpa using h)
    simp only [List.getElem_cons_succ, List.eraseIdx_cons_succ]
    exact (List.Perm.swap _ _ _).trans (ih.cons x)
theorem dle_trans (a b c : D) : PySem.W.dataLe false id a b = true → PySem.W.dataLe false id b c = true → PySem.W.dataLe false id a c = true := (PySem.W.sortLe_total _ _ _).trans a b c
theorem dle_total (a b : D) : (PySem.W.dataLe false id a b || PySem.W.dataLe false id b a) = true := by
  rcases (PySem.W.sortLe_total (PyProof.Rows.listOrd PyProof.Rows.itemOrd) false fun b : D => PySem.W.keyToks (id b)).total a b with h | h
  · exact Bool.or_eq_true_iff.mpr (.inl h)
  · exact Bool.or_eq_true_iff.mpr (.inr h)
theorem dle_int (a b : Int) : PySem.W.dataLe false id (PyData.int a) (PyData.int b) = decide (a ≤ b) := by
  rw [PySem.W.dataLe_eq]
  show (!PySem.W.dataLt (.int b) (.int a)) = _
  rw [PySem.W.dataLt_int]
  by_cases h : b < a
  · simp [h]
  · simp [h]; omega
theorem sort_lN (g : List Nat) (hnd : g.Nodup) : ∃ g' : List Nat, g'.Perm g ∧ g'.Pairwise (· < ·) ∧ sortD (lN g) = some (g'.map fun (x : Nat) => PyData.int x) := by
  have hok : sortOk (g.map fun (x : Nat) => PyData.int x) = true := by
    unfold sortOk
    simp only [Bool.and_eq_true, Bool.or_eq_true, List.all_eq_true]
    refine ⟨⟨?_, .inr ?_⟩, ?_⟩
    · intro d hd d' hd'
      obtain ⟨x, _, rfl⟩ := List.mem_map.mp hd
      obtain ⟨y, _, rfl⟩ := List.mem_map.mp hd'
      simp [PySem.W.alike]
    · intro d hd
      obtain ⟨x, _, rfl⟩ := List.mem_map.mp hd
      rfl
    · intro d hd
      obtain ⟨x, _, rfl⟩ := List.mem_map.mp hd
      exact (shp_int 0 _).shaped (by omega)
  obtain ⟨zs, h1, h2⟩ := perm_pre (fun (x : Nat) => PyData.int x) (fun d => match d with | .int i => i.toNat | _ => 0) (fun x => by simp) (List.mergeSort_perm (g.map fun (x : Nat) => PyData.int x) (PySem.W.dataLe false id))
  refine ⟨zs, h1, ?_, by unfold sortD lN; simp only []; rw [if_pos hok, sortL, h2]⟩
  have hs := List.pairwise_mergeSort (le := PySem.W.dataLe false id) dle_trans dle_total (g.map fun (x : Nat) => PyData.int x)
  rw [h2, List.pairwise_map] at hs
  have hn : zs.Nodup := h1.symm.nodup hnd
  refine (hs.and hn).imp fun {a b} h => ?_
  have := h.1
  rw [dle_int] at this
  simp at this
  have := h.2
  omega
theorem dlt_m3 {x y : Mt} (h : plt x y) : PySem.W.dataLt (m3 x) (m3 y) = true := by
  unfold m3
  rw [PySem.W.dataLt_tuple]
  rcases h with h | ⟨h, h'⟩
  · rw [PySem.W.dataLt_all_no (by simp [PySem.W.alike]) (by rw [eqv_nat]; simp; omega), PySem.W.dataLt_int]
    simp; omega
  · rw [PySem.W.dataLt_all_yes (by simp [PySem.W.alike]) (by rw [eqv_nat]; simp [h]), PySem.W.dataLt_all_no (by simp [PySem.W.alike]) (by rw [eqv_nat]; simp; omega), PySem.W.dataLt_int]
    simp; omega
def m3Dec : D → Mt
  | .tuple [.int a, .int b, .int c] => (a.toNat, b.toNat, c)
  | _ => (0, 0, 0)
theorem sort_m3 (l : List Mt) (hd : l.Pairwise fun a b => mp a ≠ mp b) : ∃ l' : List Mt, l'.Perm l ∧ l'.Pairwise plt ∧ sortD (.list (l.map m3)) = some (l'.map m3) := by
  have hok : sortOk (l.map m3) = true := by
    unfold sortOk
    simp only [Bool.and_eq_true, Bool.or_eq_true, List.all_eq_true]
    refine ⟨⟨?_, .inl ?_⟩, ?_⟩
    · intro d hd d' hd'
      obtain ⟨x, _, rfl⟩ := List.mem_map.mp hd
      obtain ⟨y, _, rfl⟩ := List.mem_map.mp hd'
      simp [m3, PySem.W.alike, PySem.W.alikeAll]
    · intro d hd
      obtain ⟨x, _, rfl⟩ := List.mem_map.mp hd
      rfl
    · intro d hd
      obtain ⟨x, _, rfl⟩ := List.mem_map.mp hd
      exact (shp_m3 x).shaped (by omega)
  obtain ⟨zs, h1, h2⟩ := perm_pre m3 m3Dec (fun x => by obtain ⟨a, b, c⟩ := x; simp [m3, m3Dec]) (List.mergeSort_perm (l.map m3) (PySem.W.dataLe false id))
  refine ⟨zs, h1, ?_, by unfold sortD; simp only []; rw [if_pos hok, sortL, h2]⟩
  have hs := List.pairwise_mergeSort (le := PySem.W.dataLe false id) dle_trans dle_total (l.map m3)
  rw [h2, List.pairwise_map] at hs
  have hn : zs.Pairwise fun a b => mp a ≠ mp b := (List.Perm.pairwise_iff (fun h => Ne.symm h) h1).mpr hd
  refine (hs.and hn).imp fun {a b} h => ?_
  have h3 := h.1
  rw [PySem.W.dataLe_eq] at h3
  have h3 : (!PySem.W.dataLt (m3 b) (m3 a)) = true := h3
  have h4 := h.2
  unfold mp at h4
  unfold plt
  apply Classical.byContradiction
  intro hn
  have : plt b a := by
    unfold plt
    simp only [ne_eq, Prod.mk.injEq] at h4
    omega
  rw [dlt_m3 this] at h3
  cases h3
/-! ### sums -/
theorem leftOf_sum (l : List Mt) (s : Nat) : leftOf l s = (l.map fun m => if has s m then m.2.2 else 0).sum := by
  induction l with
  | nil => rfl
  | cons m l ih =>
    unfold leftOf at *
    rw [List.filter_cons, List.map_cons, List.sum_cons, ← ih]
    by_cases e : has s m = true
    · have e' : (decide (m.1 = s) || decide (m.2.1 = s)) = true := e
      rw [if_pos e', if_pos e]; simp
    · have e' : ¬ (decide (m.1 = s) || decide (m.2.1 = s)) = true := e
      rw [if_neg e', if_neg e]; simp
theorem bst_ext {w w' : List Int} {l l' : List Mt} {s s' : Nat} (hl : w'.length = w.length) (h : ∀ p, reach w' l' s' p = reach w l s p) : bst w' l' s' = bst w l s := by
  unfold bst
  rw [hl]
  have : (fun p => reach w' l' s' p) = fun p => reach w l s p := funext h
  rw [this]
theorem bool_iff {a b : Bool} (h : a = true ↔ b = true) : a = b := by
  cases a <;> cases b <;> simp_all
/-- the same free sides, other numbers -/
theorem reach_of {w w' : List Int} {l l' : List Mt} {s p : Nat} (hl : w'.length = w.length) (h : ∀ F, Okk (rst w.length s F) (fun x => w.getD x 0 - top w l s) l → Okk (rst w.length s F) (fun x => w'.getD x 0 - top w' l' s) l') (hr : reach w l s p = true) : reach w' l' s p = true := by
  obtain ⟨F, a, b, c, d⟩ := (reach_iff _ _ _ _).mp hr
  refine (reach_iff _ _ _ _).mpr ⟨F, a, b, by rw [hl]; exact c, (wa_none _ _ _ _).mpr ?_⟩
  rw [hl]
  exact h F ((wa_none _ _ _ _).mp d)
theorem SS_congr {R : List Nat} {v v' : Nat → Int} (h : ∀ x ∈ R, v' x = v x) (P : Nat → Bool) : SS R v' P = SS R v P := by
  unfold SS
  congr 1
  apply List.map_congr_left
  intro x hx
  rw [h x hx]
/-! ### all with wins more -/
theorem reach_raised {w : List Int} {l : List Mt} {s p : Nat} (hs : s < w.length) (k : Int) : reach (w.map fun x => x + k) l s p = reach w l s p := by
  have g : ∀ x, x < w.length → (w.map fun x => x + k).getD x 0 = w.getD x 0 + k := by
    intro x hx
    simp [List.getD_eq_getElem?_getD, hx]
  have e : ∀ F, ∀ P : Nat → Bool, SS (rst w.length s F) (fun x => (w.map fun x => x + k).getD x 0 - top (w.map fun x => x + k) l s) P = SS (rst w.length s F) (fun x => w.getD x 0 - top w l s) P := fun F P => SS_congr (fun x hx => by
    have := ((mem_rst _ _ _ _).mp hx).1
    show (w.map fun x => x + k).getD x 0 - top (w.map fun x => x + k) l s = w.getD x 0 - top w l s
    unfold top
    rw [g x this, g s hs]; omega) P
  refine bool_iff ⟨reach_of (by simp) fun F ok P hP => ?_, reach_of (by simp) fun F ok P hP => ?_⟩
  · rw [List.length_map] at ok hP ⊢
    have := ok P hP
    rw [e] at this
    exact this
  · rw [e]; exact ok P hP
/-! ### a match played -/
theorem II_play (a b : Nat) (P : Nat → Bool) : ∀ (l : List Mt), l.Pairwise plt → (∀ m ∈ l, 1 ≤ m.2.2) → (a, b) ∈ l.map mp → II (playL a b l) P = II l P - if P a && P b then 1 else 0 := by
  intro l
  induction l with
  | nil => intro _ _ h; simp at h
  | cons m l ih =>
    intro hp hc hm
    rw [List.pairwise_cons] at hp
    have h1 := hc m (by simp)
    by_cases hq : mp m = (a, b)
    · have hid : playL a b l = l := playL_id a b l (fun z hz e => plt_mp (hp.1 z hz) (hq.trans e.symm)) (fun z hz => hc z (by simp [hz]))
      have e0 : playL a b (m :: l) = if 0 < m.2.2 - 1 then (m.1, m.2.1, m.2.2 - 1) :: l else l := by
        have : playL a b (m :: l) = if 0 < (lessOne a b m).2.2 then lessOne a b m :: playL a b l else playL a b l := by
          simp only [playL, List.map_cons, List.filter_cons]
          by_cases h : 0 < (lessOne a b m).2.2 <;> simp [h]
        rw [this, hid]
        unfold mp at hq
        simp only [lessOne, hq, if_true]
      simp only [mp, Prod.mk.injEq] at hq
      rw [e0, II_cons, hq.1, hq.2]
      split
      · rw [II_cons]
        show (if P a && P b then m.2.2 - 1 else 0) + II l P = _
        split <;> omega
      · split <;> omega
    · have e0 : playL a b (m :: l) = m :: playL a b l := by
        have : lessOne a b m = m := by
          unfold mp at hq
          simp [lessOne, hq]
        simp only [playL, List.map_cons, List.filter_cons, this]
        rw [if_pos (by simp; omega)]
      have hm2 : (a, b) ∈ l.map mp := by
        rcases List.mem_cons.mp (by simpa using hm : (a, b) ∈ mp m :: l.map mp) with h | h
        · exact absurd h.symm hq
        · exact h
      rw [e0, II_cons, II_cons, ih hp.2 (fun z hz => hc z (by simp [hz])) hm2]
      omega
theorem II_strict (a b : Nat) (P Q : Nat → Bool) (h1 : P a = true) (h2 : P b = false) (h3 : Q b = true) (h4 : Q a = false) : ∀ (l : List Mt), (∀ m ∈ l, 1 ≤ m.2.2) → (a, b) ∈ l.map mp → II l P + II l Q + 1 ≤ II l (fun x => P x || Q x) + II l (fun x => P x && Q x) := by
  intro l
  induction l with
  | nil => intro _ h; simp at h
  | cons m l ih =>
    intro hc hm
    have hm1 := hc m (by simp)
    have sup := II_sup l (fun m hm => by have := hc m (by simp [hm]); omega) P Q
    rw [II_cons, II_cons, II_cons, II_cons]
    by_cases hq : mp m = (a, b)
    · simp only [mp, Prod.mk.injEq] at hq
      rw [hq.1, hq.2]
      simp [h1, h2, h3, h4]
      omega
    · have hm2 : (a, b) ∈ l.map mp := by
        rcases List.mem_cons.mp (by simpa using hm : (a, b) ∈ mp m :: l.map mp) with h | h
        · exact absurd h.symm hq
        · exact h
      have ih := ih (fun z hz => hc z (by simp [hz])) hm2
      by_cases c1 : P m.1 = true <;> by_cases c2 : Q m.1 = true <;> by_cases c3 : P m.2.1 = true <;> by_cases c4 : Q m.2.1 = true <;> simp [c1, c2, c3, c4] <;> omega
section
variable {w : List Int} {l : List Mt} {a b : Nat} (hlg : Lg w l) (hm : (a, b) ∈ l.map mp)
include hlg hm
theorem pl_lt : a < b ∧ b < w.length := by
  obtain ⟨m, h, e⟩ := List.mem_map.mp hm
  have := hlg.l m h
  simp only [mp, Prod.mk.injEq] at e
  omega
theorem lg_played {c : Nat} (hc : c = a ∨ c = b) (h59 : ∀ x ∈ w, x ≤ 59) : Lg (wb w c 1) (playL a b l) := by
  have hab := pl_lt hlg hm
  refine ⟨by rw [wb_length]; exact hlg.n2, by rw [wb_length]; exact hlg.n6, ?_, ?_, ?_⟩
  · intro x hx
    rcases List.mem_or_eq_of_mem_set hx with h | h
    · exact hlg.w x h
    · have hcl : c < w.length := by omega
      have h0 := hlg.w _ (List.getElem_mem hcl)
      have h1 := h59 _ (List.getElem_mem hcl)
      rw [getD_int] at h0 h1
      rw [h]; omega
  · intro m h
    obtain ⟨h, hpos⟩ := List.mem_filter.mp h
    obtain ⟨m', h', rfl⟩ := List.mem_map.mp h
    have := hlg.l m' h'
    have h1 : 0 < (lessOne a b m').2.2 := of_decide_eq_true hpos
    have h2 : (lessOne a b m').2.2 ≤ m'.2.2 := by
      show m'.2.2 - (if (m'.1, m'.2.1) = (a, b) then 1 else 0) ≤ m'.2.2
      split <;> omega
    rw [wb_length]
    exact ⟨this.1, this.2.1, by omega, by omega⟩
  · refine List.Pairwise.filter _ ?_
    rw [List.pairwise_map]
    exact hlg.o.imp fun hab => hab
/-- the winner's own best place -/
theorem reach_won {c : Nat} (hc : c = a ∨ c = b) (p : Nat) : reach (wb w c 1) (playL a b l) c p = reach w l c p := by
  have hab := pl_lt hlg hm
  have hcl : c < w.length := by omega
  have hpos : ∀ m ∈ l, 1 ≤ m.2.2 := fun m h => (hlg.l m h).2.2.1
  have ht : top (wb w c 1) (playL a b l) c = top w l c := by
    unfold top
    rw [leftOf_play a b c hc l hlg.o hpos hm, wb_getD _ _ _ hcl, if_pos rfl]; omega
  have hPc : ∀ F, ∀ P : Nat → Bool, (∀ x, P x = true → x ∈ rst w.length c F) → P c = false := fun F P hP => by
    cases h : P c with
    | false => rfl
    | true => exact absurd rfl ((mem_rst _ _ _ _).mp (hP c h)).2.1
  have e1 : ∀ F, ∀ P : Nat → Bool, SS (rst w.length c F) (fun x => (wb w c 1).getD x 0 - top (wb w c 1) (playL a b l) c) P = SS (rst w.length c F) (fun x => w.getD x 0 - top w l c) P := fun F P => SS_congr (fun x hx => by
    have := ((mem_rst _ _ _ _).mp hx).2.1
    show (wb w c 1).getD x 0 - top (wb w c 1) (playL a b l) c = w.getD x 0 - top w l c
    rw [ht, wb_getD _ _ _ hcl, if_neg this]; omega) P
  have e2 : ∀ P : Nat → Bool, P c = false → II (playL a b l) P = II l P := fun P h => by
    rw [II_play a b P l hlg.o hpos hm]
    have : (P a && P b) = false := by rcases hc with e | e <;> subst e <;> simp [h]
    rw [this]; simp
  refine bool_iff ⟨reach_of (by simp) fun F ok P hP => ?_, reach_of (by simp) fun F ok P hP => ?_⟩
  · rw [wb_length] at ok hP ⊢
    have := ok P hP
    rw [e1, e2 P (hPc F P hP)] at this
    exact this
  · rw [e1, e2 P (hPc F P hP)]; exact ok P hP
/-- a third side -/
theorem reach_third {s : Nat} (ha : s ≠ a) (hb : s ≠ b) (p : Nat) : reach w l s p = (reach (wb w a 1) (playL a b l) s p || reach (wb w b 1) (playL a b l) s p) := by
  have hab := pl_lt hlg hm
  have hal : a < w.length := by omega
  have hpos : ∀ m ∈ l, 1 ≤ m.2.2 := fun m h => (hlg.l m h).2.2.1
  have hlo : leftOf (playL a b l) s = leftOf l s := by
    have key : ∀ l : List Mt, (∀ m ∈ l, 1 ≤ m.2.2) → leftOf (playL a b l) s = leftOf l s := by
      intro l
      induction l with
      | nil => intro _; rfl
      | cons m l ih =>
        intro hc
        have ih := ih fun z hz => hc z (by simp [hz])
        have : playL a b (m :: l) = if 0 < (lessOne a b m).2.2 then lessOne a b m :: playL a b l else playL a b l := by
          simp only [playL, List.map_cons, List.filter_cons]
          by_cases h : 0 < (lessOne a b m).2.2 <;> simp [h]
        have h1 := hc m (by simp)
        rw [this, leftOf_sum (m :: l), List.map_cons, List.sum_cons, ← leftOf_sum]
        have hh : has s (lessOne a b m) = has s m := rfl
        by_cases hq : (m.1, m.2.1) = (a, b)
        · have hns : has s m = false := by
            simp only [Prod.mk.injEq] at hq
            simp [has, hq.1, hq.2]; omega
          rw [hns]
          split
          · rw [leftOf_sum, List.map_cons, List.sum_cons, ← leftOf_sum, hh, hns, ih]; simp
          · rw [ih]; simp
        · have : lessOne a b m = m := by simp [lessOne, hq]
          rw [this, if_pos (by omega), leftOf_sum, List.map_cons, List.sum_cons, ← leftOf_sum, ih]
    exact key l hpos
  have htc : ∀ c, c < w.length → s ≠ c → top (wb w c 1) (playL a b l) s = top w l s := by
    intro c hc hne
    unfold top
    rw [hlo, wb_getD _ _ _ hc, if_neg hne]; omega
  have ssa : ∀ c, c < w.length → s ≠ c → ∀ F, ∀ P : Nat → Bool, (∀ x, P x = true → x ∈ rst w.length s F) → SS (rst w.length s F) (fun x => (wb w c 1).getD x 0 - top (wb w c 1) (playL a b l) s) P = SS (rst w.length s F) (fun x => w.getD x 0 - top w l s) P + if P c then 1 else 0 := by
    intro c hc hne F P hP
    rw [htc c hc hne]
    rw [SS_add (rst w.length s F) (rst_sorted _ _ _) (fun x => w.getD x 0 - top w l s) (fun x => (wb w c 1).getD x 0 - top w l s) c c 1 0 (fun x => by
      show (wb w c 1).getD x 0 - top w l s = w.getD x 0 - top w l s + (if x = c then 1 else 0) + (if x = c then 0 else 0)
      rw [wb_getD _ _ _ hc]; split <;> omega) P hP]
    simp
  refine bool_iff ⟨fun h => ?_, fun h => ?_⟩
  · obtain ⟨F, f1, f2, f3, f4⟩ := (reach_iff _ _ _ _).mp h
    have ok := (wa_none _ _ _ _).mp f4
    rw [Bool.or_eq_true]
    apply Classical.byContradiction
    intro hn
    rw [not_or] at hn
    have mk : ∀ c, reach (wb w c 1) (playL a b l) s p ≠ true → ¬ Okk (rst w.length s F) (fun x => (wb w c 1).getD x 0 - top (wb w c 1) (playL a b l) s) (playL a b l) := by
      intro c hr ok
      refine hr ((reach_iff _ _ _ _).mpr ⟨F, f1, f2, by rw [wb_length]; exact f3, (wa_none _ _ _ _).mpr ?_⟩)
      rw [wb_length]; exact ok
    have n1 := mk a hn.1
    have n2 := mk b hn.2
    unfold Okk at n1 n2
    simp only [Classical.not_forall] at n1 n2
    obtain ⟨P, hP, p1⟩ := n1
    obtain ⟨Q, hQ, q1⟩ := n2
    rw [ssa a hal ha F P hP, II_play a b P l hlg.o hpos hm] at p1
    rw [ssa b hab.2 hb F Q hQ, II_play a b Q l hlg.o hpos hm] at q1
    have okP := ok P hP
    have okQ := ok Q hQ
    have s1 := SS_mod (rst w.length s F) (fun x => w.getD x 0 - top w l s) P Q
    have o1 := ok (fun x => P x || Q x) (fun x hx => by
      rcases Bool.or_eq_true_iff.mp hx with h | h
      · exact hP x h
      · exact hQ x h)
    have o2 := ok (fun x => P x && Q x) (fun x hx => hP x (Bool.and_eq_true_iff.mp hx).1)
    generalize SS (rst w.length s F) (fun x => w.getD x 0 - top w l s) P = sP at *
    generalize SS (rst w.length s F) (fun x => w.getD x 0 - top w l s) Q = sQ at *
    generalize SS (rst w.length s F) (fun x => w.getD x 0 - top w l s) (fun x => P x || Q x) = sU at *
    generalize SS (rst w.length s F) (fun x => w.getD x 0 - top w l s) (fun x => P x && Q x) = sN at *
    have pa : P a = true := by
      cases h : P a with
      | true => rfl
      | false => rw [h] at p1; simp at p1; omega
    have pb : P b = false := by
      cases h : P b with
      | false => rfl
      | true => rw [pa, h] at p1; simp at p1; omega
    have qb : Q b = true := by
      cases h : Q b with
      | true => rfl
      | false => rw [h] at q1; simp at q1; omega
    have qa : Q a = false := by
      cases h : Q a with
      | false => rfl
      | true => rw [qb, h] at q1; simp at q1; omega
    rw [pa, pb] at p1
    rw [qb, qa] at q1
    simp at p1 q1
    have s2 := II_strict a b P Q pa pb qb qa l hpos hm
    omega
  · have back : ∀ c, (c = a ∨ c = b) → reach (wb w c 1) (playL a b l) s p = true → reach w l s p = true := by
      intro c hc hr
      have hcl : c < w.length := by omega
      have hne : s ≠ c := by rcases hc with e | e <;> subst e <;> assumption
      refine reach_of (by simp) (fun F ok P hP => ?_) hr
      rw [wb_length] at ok hP ⊢
      have := ok P hP
      rw [ssa c hcl hne F P hP, II_play a b P l hlg.o hpos hm] at this
      generalize SS (rst w.length s F) (fun x => w.getD x 0 - top w l s) P = sP at *
      cases h1 : P a <;> cases h2 : P b <;> rcases hc with e | e <;> subst e <;> simp [h1, h2] at this <;> omega
    rcases Bool.or_eq_true_iff.mp h with h | h
    · exact back a (.inl rfl) h
    · exact back b (.inr rfl) h
end
/-! ### sides numbered otherwise -/
theorem reach_ren {w w' : List Int} {l l' : List Mt} {n : Nat} (hw : w.length = n) (hw' : w'.length = n) (hl : ∀ m ∈ l, m.1 < n ∧ m.2.1 < n) (f g : Nat → Nat) (hf : ∀ x, x < n → f x < n ∧ g (f x) = x) (hg : ∀ x, x < n → g x < n ∧ f (g x) = x)
    (hv : ∀ x, x < n → w'.getD (f x) 0 = w.getD x 0) (hI : ∀ P : Nat → Bool, II l' P = II l fun x => P (f x)) {s p : Nat} (hs : s < n) (ht : top w' l' (f s) = top w l s) (hr : reach w l s p = true) : reach w' l' (f s) p = true := by
  obtain ⟨F, a, b, c, d⟩ := (reach_iff _ _ _ _).mp hr
  rw [hw] at c
  have nF : F.Nodup := b.imp fun h => Nat.ne_of_lt h
  have inj : ∀ x y, x < n → y < n → f x = f y → x = y := fun x y hx hy e => by rw [← (hf x hx).2, ← (hf y hy).2, e]
  have mapNodup : ∀ R : List Nat, R.Nodup → (∀ x ∈ R, x < n) → (R.map f).Nodup := by
    intro R
    induction R with
    | nil => intro _ _; simp
    | cons x R ih =>
      intro h1 h2
      rw [List.nodup_cons] at h1
      rw [List.map_cons, List.nodup_cons]
      refine ⟨fun hm => ?_, ih h1.2 fun y hy => h2 y (by simp [hy])⟩
      obtain ⟨y, hy, e⟩ := List.mem_map.mp hm
      have := inj y x (h2 y (by simp [hy])) (h2 x (by simp)) e
      subst this
      exact h1.1 hy
  have memF : ∀ y, y ∈ (List.range n).filter (fun y => decide (g y ∈ F)) ↔ y < n ∧ g y ∈ F := fun y => by simp
  have nF' : ((List.range n).filter fun y => decide (g y ∈ F)).Nodup := List.Nodup.sublist List.filter_sublist List.nodup_range
  have pF : ((List.range n).filter fun y => decide (g y ∈ F)).Perm (F.map f) := by
    refine (List.perm_ext_iff_of_nodup nF' (mapNodup F nF fun x hx => (c x hx).1)).mpr fun y => ?_
    rw [memF, List.mem_map]
    constructor
    · rintro ⟨h1, h2⟩; exact ⟨g y, h2, (hg y h1).2⟩
    · rintro ⟨x, h1, rfl⟩
      have hx := (c x h1).1
      exact ⟨(hf x hx).1, by rw [(hf x hx).2]; exact h1⟩
  refine (reach_iff _ _ _ _).mpr ⟨(List.range n).filter fun y => decide (g y ∈ F), by rw [pF.length_eq, List.length_map]; exact a, List.Pairwise.filter _ List.pairwise_lt_range, ?_, ?_⟩
  · intro y hy
    obtain ⟨h1, h2⟩ := (memF y).mp hy
    refine ⟨by rw [hw']; exact h1, fun e => ?_⟩
    subst e
    rw [(hf s hs).2] at h2
    exact (c s h2).2 rfl
  · rw [wa_none, hw', ht]
    have ok := (wa_none _ _ _ _).mp d
    rw [hw] at ok
    intro P hP
    have hsub : ∀ x, (decide (x < n) && P (f x)) = true → x ∈ rst n s F := fun x hx => by
      rw [Bool.and_eq_true] at hx
      have hxn : x < n := of_decide_eq_true hx.1
      obtain ⟨h1, h2, h3⟩ := (mem_rst _ _ _ _).mp (hP (f x) hx.2)
      refine (mem_rst _ _ _ _).mpr ⟨hxn, fun e => h2 (by rw [e]), fun hF => h3 ?_⟩
      rw [memF]
      exact ⟨h1, by rw [(hf x hxn).2]; exact hF⟩
    have o := ok _ hsub
    have pR : (rst n (f s) ((List.range n).filter fun y => decide (g y ∈ F))).Perm ((rst n s F).map f) := by
      have n1 : (rst n (f s) ((List.range n).filter fun y => decide (g y ∈ F))).Nodup := (rst_sorted _ _ _).imp fun h => Nat.ne_of_lt h
      have n2 : (rst n s F).Nodup := (rst_sorted _ _ _).imp fun h => Nat.ne_of_lt h
      refine (List.perm_ext_iff_of_nodup n1 (mapNodup _ n2 fun x hx => ((mem_rst _ _ _ _).mp hx).1)).mpr fun y => ?_
      rw [mem_rst, memF, List.mem_map]
      constructor
      · rintro ⟨h1, h2, h3⟩
        refine ⟨g y, (mem_rst _ _ _ _).mpr ⟨(hg y h1).1, fun e => h2 (by rw [← e, (hg y h1).2]), fun hF => h3 ⟨h1, hF⟩⟩, (hg y h1).2⟩
      · rintro ⟨x, hx, rfl⟩
        obtain ⟨h1, h2, h3⟩ := (mem_rst _ _ _ _).mp hx
        exact ⟨(hf x h1).1, fun e => h2 (inj x s h1 hs e), fun hh => h3 (by rw [(hf x h1).2] at hh; exact hh.2)⟩
    have e1 : SS (rst n (f s) ((List.range n).filter fun y => decide (g y ∈ F))) (fun x => w'.getD x 0 - top w l s) P = SS (rst n s F) (fun x => w.getD x 0 - top w l s) fun x => decide (x < n) && P (f x) := by
      unfold SS
      rw [sum_perm (pR.map _), List.map_map]
      congr 1
      apply List.map_congr_left
      intro x hx
      have hxn := ((mem_rst _ _ _ _).mp hx).1
      simp only [Function.comp, hv x hxn, decide_eq_true hxn, Bool.true_and]
    have e2 : II l' P = II l fun x => decide (x < n) && P (f x) := by
      rw [hI]
      unfold II
      congr 1
      apply List.map_congr_left
      intro m hm
      have := hl m hm
      simp only [decide_eq_true this.1, decide_eq_true this.2, Bool.true_and]
    rw [e1, e2]
    exact o
end DL
set_option Elab.async false
set_option linter.all false
set_option maxRecDepth 100000
set_option maxHeartbeats 2000000
set_option autoImplicit false
/-! papers: the first season, bars; matches played one by one -/
namespace DL
open PySem
theorem SS_le {R : List Nat} {v v' : Nat → Int} (h : ∀ x ∈ R, v' x ≤ v x) (P : Nat → Bool) : SS R v' P ≤ SS R v P := by
  induction R with
  | nil => exact Int.le_refl _
  | cons x R ih =>
    have c : ∀ v : Nat → Int, SS (x :: R) v P = (if P x then v x else 0) + SS R v P := fun v => by simp [SS]
    have h1 := h x (by simp)
    have h2 := ih fun y hy => h y (by simp [hy])
    rw [c, c]
    by_cases hp : P x = true
    · rw [if_pos hp, if_pos hp]; omega
    · rw [if_neg hp, if_neg hp]; omega
def sumM (l : List Mt) : Int := (l.map (·.2.2)).sum
theorem eKeep {i : Nat} {A : XE} {δ : DE} {ds : List D} {x d : D} (h0 : δ[i]? = some (.own (.lst ds))) (h : A (δ.set i (.dat (.list ds))) = some (.ok x)) (hs : scal x = some d) : xKeep i A δ = some (.ok d) := by
  unfold xKeep frz
  rw [h0]
  show bnd (A (δ.set i (.dat (.list ds)))) _ = _
  rw [h, bnd_ok, hs]; rfl
theorem eStep {A B : XE} {δ : DE} {ds xs : List D} {k : Int} (h : A δ = some (.ok (.list ds))) (h2 : B δ = some (.ok (.int k))) (e : (if k = 1 then ret ds else if k = -1 then ret ds.reverse else none) = some (.ok xs)) : xStep A B δ = some (.ok xs) := by
  unfold xStep
  rw [h, bnd_ok]
  show bnd (B δ) _ = _
  rw [h2, bnd_ok]; exact e
theorem eIndexB {A B : XE} {δ : DE} {bs : List Bool} {b : Bool} {j : Nat} (h : A δ = some (.ok (.list (bs.map .bool)))) (h2 : B δ = some (.ok (.bool b))) (hj : bs.findIdx? (fun x => decide (x = b)) = some j) : xIndexB A B δ = some (.ok (.int j)) := by
  unfold xIndexB
  rw [h, bnd_ok]
  show bnd (B δ) _ = _
  rw [h2, bnd_ok]
  show lift ((boolsOf (bs.map PyData.bool)).bind _) = _
  rw [boolsOf_map, Option.bind_some, hj]
  rfl
theorem eCat {A B : XE} {δ : DE} {xs ys : List D} (h : A δ = some (.ok (.list xs))) (h2 : B δ = some (.ok (.list ys))) (hz : xs.length + ys.length ≤ sz) : xCat A B δ = some (.ok (xs ++ ys)) := by
  unfold xCat
  rw [h, bnd_ok, h2, bnd_ok]
  show (if _ then _ else _) = _
  rw [if_pos hz]; rfl
theorem isE_raw (ea : Nat) (b : Bool) (r : DE) : xIsE 0 ea b (.raw ea :: r) = some (.ok (.bool b)) := by
  unfold xIsE; simp
theorem eIterL {A : XE} {δ : DE} {xs : List D} (h : A δ = some (.ok (.list xs))) : xIterL A δ = some (.ok xs) := by
  unfold xIterL; exact eF1 h rfl
/-- a whole number between two bounds -/
def icD (d : D) (lo hi : Int) : Bool := match d with
  | .int i => decide (lo ≤ i) && decide (i ≤ hi)
  | _ => false
theorem fnD_ex {p n : Nat} {body : XS} {ds : List D} {c : Nat} (hp : ds.length = p) (h : wp body (start n ds) fun o => o = .ex c) : fnD p n body ds = some (.ex c) := by
  obtain ⟨o, e, rfl⟩ := h
  unfold fnD; rw [if_pos hp, e]
theorem wp_raise {c : Nat} {δ : DE} {P : Out → Prop} (p : P (.ex c)) : wp (sRaise c) δ P := ⟨_, rfl, p⟩
theorem wp_dropX {A : XE} {δ : DE} {P : Out → Prop} {c : Nat} (h : A δ = some (.ex c)) (p : P (.ex c)) : wp (sDrop A) δ P := ⟨_, by unfold sDrop; rw [h]; rfl, p⟩
theorem wp_asgX {A : XE} {g : XG} {δ : DE} {P : Out → Prop} {c : Nat} (h : A δ = some (.ex c)) (p : P (.ex c)) : wp (sAsg A g) δ P := ⟨_, by unfold sAsg; rw [h]; rfl, p⟩
theorem wp_retX {A : XE} {δ : DE} {P : Out → Prop} {c : Nat} (h : A δ = some (.ex c)) (p : P (.ex c)) : wp (sRet A) δ P := ⟨_, by unfold sRet; rw [h]; rfl, p⟩
theorem eCallX {L : XL} {δ : DE} {xs : List D} {c : Nat} {F : List D → Pr D} (h : L δ = some (.ok xs)) (h2 : F xs = some (.ex c)) : xCall F L δ = some (.ex c) := by rw [q_xCall, h]; exact h2
theorem eToldX {cls : List Str} {B : XE} {δ : DE} {c : Nat} {x : Str} (h : B δ = some (.ex c)) (hx : cls[c]? = some x) : xTold (wordX cls) B δ = some (.ok (.str x)) := by
  unfold xTold wordX; rw [h]; show lift (Option.map _ cls[c]?) = _; rw [hx]; rfl
theorem eTold {word : Nat → Option D} {B : XE} {δ : DE} {d : D} (h : B δ = some (.ok d)) : xTold word B δ = some (.ok d) := by
  unfold xTold; rw [h]; rfl
theorem eYorT {t u : XT} {δ : DE} (h : t δ = some (.ok true)) : yOr t u δ = some (.ok true) := by rw [q_yOr, h]; rfl
def fsStep (w : List Int) (l : List Mt) (s : Nat) (F : List Nat) (fx : List Int) (m : Mt) : List Int := fx ++ [((pick s m).find? fun f => fit w l s F (fx ++ [f])).getD 0]
/-- the first season by which a side comes there -/
def fsP (w : List Int) (l : List Mt) (s : Nat) (F : List Nat) (p : List Mt) : List Int := p.foldl (fsStep w l s F) []
def fs (w : List Int) (l : List Mt) (s : Nat) (F : List Nat) : List Int := fsP w l s F l
theorem fsP_snoc (w : List Int) (l : List Mt) (s : Nat) (F : List Nat) (p : List Mt) (m : Mt) : fsP w l s F (p ++ [m]) = fsP w l s F p ++ [((pick s m).find? fun f => fit w l s F (fsP w l s F p ++ [f])).getD 0] := by simp [fsP, fsStep]
theorem find_sp {α : Type} {xs : List α} {p : α → Bool} (h : ∃ x ∈ xs, p x = true) (d : α) : (xs.find? p).getD d ∈ xs ∧ p ((xs.find? p).getD d) = true := by
  cases e : xs.find? p with
  | none =>
    obtain ⟨x, hx, hp⟩ := h
    exact absurd hp (List.find?_eq_none.mp e x hx)
  | some f => exact ⟨List.mem_of_find?_eq_some e, List.find?_some e⟩
theorem head_find {xs : List Int} {p : Int → Bool} (h : ∃ x ∈ xs, p x = true) : atI ((xs.filter p).map PyData.int) 0 = some (.int ((xs.find? p).getD 0)) := by
  have e : (xs.filter p).head? = xs.find? p := List.head?_filter
  obtain ⟨f, hf⟩ : ∃ f, xs.find? p = some f := by
    apply Option.ne_none_iff_exists'.mp
    intro e
    obtain ⟨x, hx, hp⟩ := h
    exact absurd hp (List.find?_eq_none.mp e x hx)
  rw [hf] at e
  cases hx : xs.filter p with
  | nil => rw [hx] at e; cases e
  | cons y r => rw [hx] at e; cases e; rw [hf]; simp
theorem pick_bd {s : Nat} {m : Mt} (h0 : 0 ≤ m.2.2) {f : Int} (h : f ∈ pick s m) : 0 ≤ f ∧ f ≤ m.2.2 := by
  unfold pick at h
  split at h
  · simp at h; omega
  · split at h
    · simp at h; omega
    · obtain ⟨i, hi, rfl⟩ := List.mem_map.mp h
      simp at hi
      show 0 ≤ (i : Int) ∧ (i : Int) ≤ m.2.2
      omega
theorem fsP_length (w : List Int) (l : List Mt) (s : Nat) (F : List Nat) (p : List Mt) : (fsP w l s F p).length = p.length := by
  have : ∀ (p : List Mt) (fx : List Int), (p.foldl (fsStep w l s F) fx).length = fx.length + p.length := by
    intro p
    induction p with
    | nil => intro fx; simp
    | cons m p ih => intro fx; rw [List.foldl_cons, ih]; simp [fsStep]; omega
  have := this p []
  rw [List.length_nil, Nat.zero_add] at this
  exact this
/-- a walk along a list from the front -/
theorem snoc_ind {α : Type} {motive : List α → Prop} (h0 : motive []) (h1 : ∀ p x, motive p → motive (p ++ [x])) : ∀ l, motive l := by
  intro l
  have : ∀ (q p : List α), motive p → motive (p ++ q) := by
    intro q
    induction q with
    | nil => intro p h; simpa using h
    | cons x q ih => intro p h; have := ih (p ++ [x]) (h1 p x h); simpa using this
  simpa using this l [] h0
theorem fsP_ok {w : List Int} {l : List Mt} (hlg : Lg w l) {s : Nat} (hs : s < w.length) {F : List Nat} (h0 : wa w l s F = none) : ∀ (p q : List Mt), l = p ++ q → Fit w l s F (fsP w l s F p) ∧ ∀ x ∈ p.zip (fsP w l s F p), x.2 ∈ pick s x.1 := by
  intro p
  induction p using snoc_ind with
  | h0 => intro q _; exact ⟨fit_start hlg hs h0, by simp⟩
  | h1 p m ih =>
    intro q e
    obtain ⟨hF, hp⟩ := ih (m :: q) (by simpa using e)
    have hl := fsP_length w l s F p
    have e' : l = p ++ m :: q := by simpa using e
    obtain ⟨f0, hf0, hF0⟩ := fit_next hlg e' hl hF
    obtain ⟨h1, h2⟩ := find_sp (xs := pick s m) (p := fun f => fit w l s F (fsP w l s F p ++ [f])) ⟨f0, hf0, fit_of hF0⟩ 0
    rw [fsP_snoc]
    refine ⟨fit_keep hlg e' hl hF h1 h2, ?_⟩
    rw [List.zip_append (by omega)]
    intro x hx
    rcases List.mem_append.mp hx with h | h
    · exact hp x h
    · simp at h; rw [h]; exact h1
theorem fs_ok {w : List Int} {l : List Mt} (hlg : Lg w l) {s : Nat} (hs : s < w.length) {F : List Nat} (h0 : wa w l s F = none) : (fs w l s F).length = l.length ∧ Fit w l s F (fs w l s F) ∧ ∀ x ∈ l.zip (fs w l s F), 0 ≤ x.2 ∧ x.2 ≤ x.1.2.2 := by
  obtain ⟨h1, h2⟩ := fsP_ok hlg hs h0 l [] (by simp)
  refine ⟨fsP_length _ _ _ _ _, h1, fun x hx => pick_bd ?_ (h2 x hx)⟩
  have := hlg.l x.1 (List.of_mem_zip hx).1
  omega
/-- a whole season that fits -/
theorem fit_whole {w : List Int} {l : List Mt} {s : Nat} {F : List Nat} {fx : List Int} (hlen : fx.length = l.length) (h : Fit w l s F fx) : (endW w (l.zip fx)).getD s 0 = top w l s ∧ ∀ x, x < w.length → x ≠ s → x ∉ F → (endW w (l.zip fx)).getD x 0 ≤ top w l s := by
  obtain ⟨h1, h2⟩ := h
  have hd : l.drop fx.length = [] := List.drop_eq_nil_of_le (by omega)
  have e1 : dcd l s fx = l.zip fx := by unfold dcd; rw [hd]; simp [fm]
  have e2 : und l s fx = [] := by unfold und; rw [hd]; rfl
  rw [e1] at h1 h2
  rw [e2] at h2
  refine ⟨h1, fun x hx hne hF => ?_⟩
  have hR : x ∈ rst w.length s F := (mem_rst _ _ _ _).mpr ⟨hx, hne, hF⟩
  rw [okk_iff _ (rst_sorted _ _ _)] at h2
  have := h2 [x] ((mem_grps _ (rst_sorted _ _ _) _).mpr ⟨by simp, by simp, by simpa using hR⟩)
  simp [wgh, wsum, ins] at this
  simpa using this
theorem range_getD (W : List Int) : (List.range W.length).map (fun i => W.getD i 0) = W := by
  apply List.ext_getElem
  · simp
  · intro i h1 h2; simp; rw [getD_int W i h2]; simp
theorem filt_idx (W : List Int) (p : Int → Bool) : (W.filter p).length = ((List.range W.length).filter fun i => p (W.getD i 0)).length := by
  conv => lhs; rw [← range_getD W, List.filter_map, List.length_map]
  rfl
theorem placesOf_get {W : List Int} {s : Nat} (hs : s < W.length) : (placesOf W).getD s 0 = 1 + (((List.range W.length).filter fun i => decide (W.getD s 0 < W.getD i 0)).length : Int) := by
  unfold placesOf
  rw [List.getD_eq_getElem?_getD, List.getElem?_map, List.getElem?_eq_getElem hs]
  show 1 + ((W.filter _).length : Int) = _
  rw [getD_int W s hs, filt_idx]
theorem place_le {W : List Int} {s p : Nat} {F : List Nat} (hs : s < W.length) (hp : 1 ≤ p) (hF : F.length = p - 1) (h : ∀ x, x < W.length → x ≠ s → x ∉ F → W.getD x 0 ≤ W.getD s 0) : (placesOf W).getD s 0 ≤ p := by
  rw [placesOf_get hs]
  have : ((List.range W.length).filter fun i => decide (W.getD s 0 < W.getD i 0)).length ≤ F.length := by
    refine List.Nodup.length_le_of_subset (List.Nodup.sublist List.filter_sublist List.nodup_range) fun x hx => ?_
    obtain ⟨h1, h2⟩ := List.mem_filter.mp hx
    have h2 := of_decide_eq_true h2
    apply Classical.byContradiction
    intro hn
    have := h x (by simpa using h1) (fun e => by subst e; omega) hn
    omega
  omega
/-! ### papers -/
def fre (w : List Int) (s p : Nat) : List (List Nat) := ch (oth w.length s) (p - 1)
def pap (w : List Int) (l : List Mt) (s p : Nat) : D := match (fre w s p).find? fun F => (wa w l s F).isNone with
  | some F => .tuple [.str "season", tyI (fs w l s F)]
  | none => .tuple [.str "barred", .tuple ((fre w s p).map fun F => oN (wa w l s F))]
theorem pap_cases (w : List Int) (l : List Mt) (s p : Nat) : (∃ F ∈ fre w s p, wa w l s F = none ∧ reach w l s p = true ∧ pap w l s p = .tuple [.str "season", tyI (fs w l s F)]) ∨ (reach w l s p = false ∧ (∀ F ∈ fre w s p, wa w l s F ≠ none) ∧ pap w l s p = .tuple [.str "barred", .tuple ((fre w s p).map fun F => oN (wa w l s F))]) := by
  unfold pap
  cases e : (fre w s p).find? fun F => (wa w l s F).isNone with
  | some F =>
    refine .inl ⟨F, List.mem_of_find?_eq_some e, by have h := List.find?_some (p := fun F => (wa w l s F).isNone) e; simpa using h, ?_, rfl⟩
    unfold reach
    rw [List.any_eq_true]
    exact ⟨F, List.mem_of_find?_eq_some e, List.find?_some (p := fun F => (wa w l s F).isNone) e⟩
  | none =>
    rw [List.find?_eq_none] at e
    refine .inr ⟨?_, fun F hF h => e F hF (by rw [h]; rfl), rfl⟩
    unfold reach
    rw [List.any_eq_false]
    exact e
theorem pap_word (w : List Int) (l : List Mt) (s p : Nat) : ∃ d, pap w l s p = .tuple [.str (if reach w l s p then "season" else "barred"), d] := by
  rcases pap_cases w l s p with ⟨F, _, _, h, e⟩ | ⟨h, _, e⟩
  · exact ⟨_, by rw [e, h]; rfl⟩
  · exact ⟨_, by rw [e, h]; rfl⟩
theorem eqv_tN (a b : List Nat) : PyData.eqv (tN a) (tN b) = decide (a = b) := by
  unfold tN
  rw [PyData.eqv]
  exact eqvAll_map (fun (x : Nat) => PyData.int x) eqv_nat a b
/-! ### a match taken back -/
theorem reach_back {w : List Int} {l : List Mt} {a b : Nat} (hlg : Lg w l) (hm : (a, b) ∈ l.map mp) {c : Nat} (hc : c = a ∨ c = b) {s p : Nat} (hr : reach (wb w c 1) (playL a b l) s p = true) : reach w l s p = true := by
  have hab := pl_lt hlg hm
  have hcl : c < w.length := by omega
  by_cases e : s = c
  · subst e; rwa [reach_won hlg hm hc p] at hr
  by_cases e2 : s = a ∨ s = b
  · have hpos : ∀ m ∈ l, 1 ≤ m.2.2 := fun m h => (hlg.l m h).2.2.1
    have ht : top (wb w c 1) (playL a b l) s = top w l s - 1 := by
      unfold top
      rw [leftOf_play a b s e2 l hlg.o hpos hm, wb_getD _ _ _ hcl, if_neg e]; omega
    refine reach_of (by simp) (fun F ok P hP => ?_) hr
    rw [wb_length] at ok hP ⊢
    have h1 := ok P hP
    have hPs : P s = false := by
      cases h : P s with
      | false => rfl
      | true => exact absurd rfl ((mem_rst _ _ _ _).mp (hP s h)).2.1
    have h2 : II (playL a b l) P = II l P := by
      rw [II_play a b P l hlg.o hpos hm]
      have : (P a && P b) = false := by rcases e2 with e2 | e2 <;> subst e2 <;> simp [hPs]
      rw [this]; simp
    have h3 := SS_le (R := rst w.length s F) (v := fun x => (wb w c 1).getD x 0 - top (wb w c 1) (playL a b l) s) (v' := fun x => w.getD x 0 - top w l s) (fun x _ => by
      show w.getD x 0 - top w l s ≤ (wb w c 1).getD x 0 - top (wb w c 1) (playL a b l) s
      rw [ht, wb_getD _ _ _ hcl]; split <;> omega) P
    rw [h2] at h1
    omega
  · rw [not_or] at e2
    rw [reach_third hlg hm e2.1 e2.2]
    rcases hc with rfl | rfl
    · rw [hr]; rfl
    · rw [hr]; simp
theorem reach_end {W : List Int} {s p : Nat} {F : List Nat} (hF : F.length = p - 1) (hF2 : F.Pairwise (· < ·)) (hF3 : ∀ x ∈ F, x < W.length ∧ x ≠ s) (h : ∀ x, x < W.length → x ≠ s → x ∉ F → W.getD x 0 ≤ W.getD s 0) : reach W [] s p = true := by
  refine (reach_iff _ _ _ _).mpr ⟨F, hF, hF2, hF3, (wa_none _ _ _ _).mpr fun P hP => ?_⟩
  have e : II [] P = 0 := rfl
  have ht : top W [] s = W.getD s 0 := by simp [top, leftOf]
  rw [e, ht]
  have : SS (rst W.length s F) (fun x => W.getD x 0 - W.getD s 0) P ≤ SS (rst W.length s F) (fun _ => 0) P := SS_le (fun x hx => by
    obtain ⟨h1, h2, h3⟩ := (mem_rst _ _ _ _).mp hx
    have := h x h1 h2 h3
    show W.getD x 0 - W.getD s 0 ≤ 0
    omega) P
  have e0 : SS (rst W.length s F) (fun _ => 0) P = 0 := by
    unfold SS
    generalize rst W.length s F = R
    induction R with
    | nil => rfl
    | cons x R ih =>
      rw [List.map_cons, List.sum_cons, ih]; simp
  omega
theorem cntW_le3 (ms : List (Mt × Int)) (hf : ∀ x ∈ ms, 0 ≤ x.2 ∧ x.2 ≤ x.1.2.2 ∧ x.1.2.2 ≤ 3) (hk : ∀ x ∈ ms, x.1.1 < x.1.2.1) (s : Nat) : cntW (mts ms) s ≤ 3 * (ms.countP fun x => decide (x.1.1 = s) || decide (x.1.2.1 = s) : Nat) := by
  induction ms with
  | nil => simp [mts, cntW]
  | cons x ms ih =>
    have h1 := hf x (by simp)
    have h2 := hk x (by simp)
    have ih := ih (fun y hy => hf y (by simp [hy])) (fun y hy => hk y (by simp [hy]))
    show cntW ((_ ++ _) ++ mts ms) s ≤ _
    rw [cntW_app, cntW_app, cntW_rep, cntW_rep, List.countP_cons]
    show (if x.1.1 = s then ((x.2.toNat : Nat) : Int) else 0) + (if x.1.2.1 = s then (((x.1.2.2 - x.2).toNat : Nat) : Int) else 0) + _ ≤ _
    by_cases e1 : x.1.1 = s
    · have e2 : ¬ x.1.2.1 = s := by omega
      simp [e1, e2]; omega
    · by_cases e2 : x.1.2.1 = s
      · simp [e1, e2]; omega
      · simp [e1, e2]; omega
theorem mid3 {w : List Int} {ms : List (Mt × Int)} (hw : ∀ x ∈ w, 0 ≤ x ∧ x ≤ 40) (h : Lg w (ms.map (·.1))) (h3 : ∀ x ∈ ms, x.1.2.2 ≤ 3) (hf : ∀ x ∈ ms, 0 ≤ x.2 ∧ x.2 ≤ x.1.2.2) {p q : List Pl} {i : Pl} (hP : (p ++ i :: q).Perm (mts ms)) :
    i.1 < w.length ∧ i.2 < w.length ∧ pr i ∈ (leftD (ms.map (·.1)) p).map mp ∧ (winD w p).getD i.1 0 ≠ 60 := by
  have hord : ms.Pairwise fun x y => plt x.1 y.1 := by have := h.o; rwa [List.pairwise_map] at this
  have hk : ∀ x ∈ ms, x.1.1 < x.1.2.1 := fun x hx => (h.l x.1 (List.mem_map.mpr ⟨x, hx, rfl⟩)).1
  have hi : i ∈ mts ms := hP.mem_iff.mp (by simp)
  have all : ∀ j ∈ p ++ i :: q, j.1 < w.length := by
    intro j hj
    obtain ⟨x, hx, hj⟩ := List.mem_flatMap.mp (hP.mem_iff.mp hj)
    have h1 := h.l x.1 (List.mem_map.mpr ⟨x, hx, rfl⟩)
    rcases List.mem_append.mp hj with e | e
    · rw [(List.mem_replicate.mp e).2]; show x.1.1 < _; omega
    · rw [(List.mem_replicate.mp e).2]; show x.1.2.1 < _; omega
  obtain ⟨x, hx, hj⟩ := List.mem_flatMap.mp hi
  have h1 := h.l x.1 (List.mem_map.mpr ⟨x, hx, rfl⟩)
  have hpr : pr i = mp x.1 ∧ i.1 < w.length ∧ i.2 < w.length := by
    rcases List.mem_append.mp hj with e | e
    · rw [(List.mem_replicate.mp e).2]; simp only [pr, mp, Prod.mk.injEq]; omega
    · rw [(List.mem_replicate.mp e).2]; simp only [pr, mp, Prod.mk.injEq]; omega
  refine ⟨hpr.2.1, hpr.2.2, ?_, ?_⟩
  · rw [leftD_eq _ (fun m hm => (h.l m hm).2.2.1)]
    refine List.mem_map.mpr ⟨dec p x.1, List.mem_filter.mpr ⟨List.mem_map.mpr ⟨x.1, List.mem_map.mpr ⟨x, hx, rfl⟩, rfl⟩, ?_⟩, ?_⟩
    · have c1 := cnt_mts ms hord hk hf x hx
      have c2 : cnt (p ++ i :: q) (mp x.1) = cnt (mts ms) (mp x.1) := by unfold cnt; rw [hP.countP_eq]
      rw [cnt_app, cnt_cons, if_pos hpr.1, c1] at c2
      have := cnt_nn q (mp x.1)
      simp [dec]; omega
    · rw [hpr.1]; rfl
  · rw [winD_getD _ _ (fun j hj => all j (by simp [hj]))]
    have c2 : cntW (p ++ i :: q) i.1 = cntW (mts ms) i.1 := by unfold cntW; rw [hP.countP_eq]
    rw [cntW_app, cntW_cons, if_pos rfl] at c2
    have c3 := cntW_le3 ms (fun x hx => ⟨(hf x hx).1, (hf x hx).2, h3 x hx⟩) hk i.1
    have c4 := few_opp (ms.map (·.1)) h.o (fun m hm => by have := h.l m hm; have := h.n6; omega) i.1
    rw [List.countP_map] at c4
    have c5 : (ms.countP fun x => decide (x.1.1 = i.1) || decide (x.1.2.1 = i.1)) ≤ 6 := c4
    have := cntW_nn q i.1
    have h0 : w.getD i.1 0 ≤ 40 := by rw [← getD_int w i.1 hpr.2.1]; exact (hw _ (List.getElem_mem _)).2
    omega
theorem mid_lg3 {w : List Int} {ms : List (Mt × Int)} (hw : ∀ x ∈ w, 0 ≤ x ∧ x ≤ 40) (h : Lg w (ms.map (·.1))) (h3 : ∀ x ∈ ms, x.1.2.2 ≤ 3) (hf : ∀ x ∈ ms, 0 ≤ x.2 ∧ x.2 ≤ x.1.2.2) {p q : List Pl} (hP : (p ++ q).Perm (mts ms)) : Lg (winD w p) (leftD (ms.map (·.1)) p) := by
  have hk : ∀ x ∈ ms, x.1.1 < x.1.2.1 := fun x hx => (h.l x.1 (List.mem_map.mpr ⟨x, hx, rfl⟩)).1
  have all : ∀ j ∈ p ++ q, j.1 < w.length := by
    intro j hj
    obtain ⟨x, hx, hj⟩ := List.mem_flatMap.mp (hP.mem_iff.mp hj)
    have h1 := h.l x.1 (List.mem_map.mpr ⟨x, hx, rfl⟩)
    rcases List.mem_append.mp hj with e | e
    · rw [(List.mem_replicate.mp e).2]; show x.1.1 < _; omega
    · rw [(List.mem_replicate.mp e).2]; show x.1.2.1 < _; omega
  refine ⟨by rw [winD_length]; exact h.n2, by rw [winD_length]; exact h.n6, ?_, ?_, ?_⟩
  · intro x hx
    obtain ⟨s, hs, rfl⟩ := List.mem_iff_getElem.mp hx
    rw [getD_int _ s hs, winD_getD _ _ (fun j hj => all j (by simp [hj]))]
    rw [winD_length] at hs
    have c2 : cntW (p ++ q) s = cntW (mts ms) s := by unfold cntW; rw [hP.countP_eq]
    rw [cntW_app] at c2
    have c3 := cntW_le3 ms (fun x hx => ⟨(hf x hx).1, (hf x hx).2, h3 x hx⟩) hk s
    have c4 := few_opp (ms.map (·.1)) h.o (fun m hm => by have := h.l m hm; have := h.n6; omega) s
    rw [List.countP_map] at c4
    have c5 : (ms.countP fun x => decide (x.1.1 = s) || decide (x.1.2.1 = s)) ≤ 6 := c4
    have := cntW_nn q s
    have := cntW_nn p s
    have h0 := hw _ (List.getElem_mem hs)
    rw [getD_int w s hs] at h0
    omega
  · intro m hm
    rw [leftD_eq _ (fun m hm => (h.l m hm).2.2.1)] at hm
    obtain ⟨hm, hpos⟩ := List.mem_filter.mp hm
    obtain ⟨m', hm', rfl⟩ := List.mem_map.mp hm
    have h1 := h.l m' hm'
    have := cnt_nn p (mp m')
    simp [dec] at hpos ⊢
    rw [winD_length]; omega
  · rw [leftD_eq _ (fun m hm => (h.l m hm).2.2.1)]
    refine List.Pairwise.filter _ ?_
    rw [List.pairwise_map]
    exact h.o.imp fun hab => hab
/-- what can be reached at the end can all the way -/
theorem reach_mid {w : List Int} {ms : List (Mt × Int)} (hw : ∀ x ∈ w, 0 ≤ x ∧ x ≤ 40) (h : Lg w (ms.map (·.1))) (h3 : ∀ x ∈ ms, x.1.2.2 ≤ 3) (hf : ∀ x ∈ ms, 0 ≤ x.2 ∧ x.2 ≤ x.1.2.2) {s pl : Nat} (hr : reach (endW w ms) [] s pl = true) : ∀ (q p : List Pl), (p ++ q).Perm (mts ms) → reach (winD w p) (leftD (ms.map (·.1)) p) s pl = true := by
  intro q
  induction q with
  | nil =>
    intro p hP
    rw [List.append_nil] at hP
    obtain ⟨h1, h2⟩ := at_end h hf hP
    rw [h1, h2]; exact hr
  | cons i q ih =>
    intro p hP
    have h1 := ih (p ++ [i]) (by simpa using hP)
    obtain ⟨m1, m2, m4, m5⟩ := mid3 hw h h3 hf hP
    have hlg := mid_lg3 hw h h3 hf (q := i :: q) hP
    rw [winD_snoc, leftD_snoc] at h1
    refine reach_back hlg (a := min i.1 i.2) (b := max i.1 i.2) m4 ?_ h1
    omega
end DL
set_option Elab.async false
set_option linter.all false
set_option maxRecDepth 100000
set_option maxHeartbeats 2000000
set_option autoImplicit false
/-! all seasons; rivals -/
namespace DL
open PySem
def wStep (rows : List (List Int)) (m : Mt) : List (List Int) := rows.flatMap fun r => (List.range (m.2.2 + 1).toNat).map fun (f : Nat) => r ++ [(f : Int)]
def allW (l : List Mt) : List (List Int) := l.foldl wStep [[]]
theorem allW_snoc (l : List Mt) (m : Mt) : allW (l ++ [m]) = wStep (allW l) m := by simp [allW]
/-- a season of the matches l -/
def Sea (l : List Mt) (se : List Int) : Prop := se.length = l.length ∧ ∀ x ∈ l.zip se, 0 ≤ x.2 ∧ x.2 ≤ x.1.2.2
theorem mem_allW (l : List Mt) (hc : ∀ m ∈ l, 0 ≤ m.2.2) : ∀ se, se ∈ allW l ↔ Sea l se := by
  induction l using snoc_ind with
  | h0 =>
    intro se
    simp [allW, Sea]
  | h1 l m ih =>
    have ih := ih fun x hx => hc x (by simp [hx])
    have hm := hc m (by simp)
    intro se
    rw [allW_snoc]
    unfold wStep
    simp only [List.mem_flatMap, List.mem_map, List.mem_range]
    constructor
    · rintro ⟨r, hr, f, hf, rfl⟩
      obtain ⟨h1, h2⟩ := (ih r).mp hr
      refine ⟨by simp [h1], fun x hx => ?_⟩
      rw [List.zip_append (by omega)] at hx
      rcases List.mem_append.mp hx with h | h
      · exact h2 x h
      · have : x = (m, (f : Int)) := by simpa using h
        rw [this]; show 0 ≤ (f : Int) ∧ (f : Int) ≤ m.2.2; omega
    · rintro ⟨h1, h2⟩
      rw [List.length_append] at h1
      have hne : se ≠ [] := fun e => by rw [e] at h1; simp at h1
      have e2 : se.dropLast ++ [se.getLast hne] = se := List.dropLast_concat_getLast hne
      have hl : l.length = se.dropLast.length := by simp [h1]
      have hz : (l ++ [m]).zip se = l.zip se.dropLast ++ [(m, se.getLast hne)] := by
        conv => lhs; rw [← e2]
        rw [List.zip_append hl]; rfl
      rw [hz] at h2
      have h3 := h2 (m, se.getLast hne) (by simp)
      refine ⟨se.dropLast, (ih _).mpr ⟨hl.symm, fun x hx => h2 x (by simp [hx])⟩, (se.getLast hne).toNat, ?_, ?_⟩
      · have : se.getLast hne ≤ m.2.2 := h3.2
        have : 0 ≤ se.getLast hne := h3.1
        omega
      · have h0 : 0 ≤ se.getLast hne := h3.1
        rw [Int.toNat_of_nonneg h0]
        exact e2
def prodM (l : List Mt) : Int := l.foldl (fun p m => p * (m.2.2 + 1)) 1
theorem prodM_snoc (l : List Mt) (m : Mt) : prodM (l ++ [m]) = prodM l * (m.2.2 + 1) := by simp [prodM]
theorem wStep_len (rows : List (List Int)) (m : Mt) : (wStep rows m).length = rows.length * (m.2.2 + 1).toNat := by
  unfold wStep
  induction rows with
  | nil => simp
  | cons r rows ih =>
    rw [List.flatMap_cons, List.length_append, ih, List.length_map, List.length_range, List.length_cons, Nat.succ_mul]
    omega
theorem allW_len (l : List Mt) (hc : ∀ m ∈ l, 0 ≤ m.2.2) : ((allW l).length : Int) = prodM l := by
  induction l using snoc_ind with
  | h0 => rfl
  | h1 l m ih =>
    have ih := ih fun x hx => hc x (by simp [hx])
    have hm := hc m (by simp)
    rw [allW_snoc, wStep_len, prodM_snoc, ← ih]
    push_cast
    rw [Int.toNat_of_nonneg (by omega)]
theorem prodM_le (l q : List Mt) (hc : ∀ m ∈ l ++ q, 0 ≤ m.2.2) : prodM l ≤ prodM (l ++ q) := by
  induction q using snoc_ind with
  | h0 => simp
  | h1 q m ih =>
    have ih := ih fun x hx => hc x (by
      rcases List.mem_append.mp hx with h | h
      · simp [h]
      · simp [h])
    have hm := hc m (by simp)
    have h1 : 0 ≤ prodM (l ++ q) := by
      have := allW_len (l ++ q) fun x hx => hc x (by
        rcases List.mem_append.mp hx with h | h
        · simp [h]
        · simp [h])
      omega
    rw [← List.append_assoc, prodM_snoc]
    have : prodM (l ++ q) * 1 ≤ prodM (l ++ q) * (m.2.2 + 1) := Int.mul_le_mul_of_nonneg_left (by omega) h1
    omega
theorem ended_getD {w : List Int} {l : List Mt} (hl : ∀ m ∈ l, m.1 < w.length ∧ m.2.1 < w.length) (se : List Int) (x : Nat) : (endW w (l.zip se)).getD x 0 = w.getD x 0 + conS (l.zip se) x := endW_con _ _ (fun p hp => hl _ (List.of_mem_zip hp).1) x
/-! ### rivals -/
def btw (l : List Mt) (a b : Nat) : Int := ((l.filter fun m => decide (mp m = (min a b, max a b))).map (·.2.2)).headD 0
/-- matches of both -/
def bth (l : List Mt) (s o : Nat) : Int := (l.map fun m => if has s m && has o m then m.2.2 else 0).sum
theorem both_iff {s o : Nat} (hso : s ≠ o) {m : Mt} (hm : m.1 < m.2.1) : (has s m && has o m) = decide (mp m = (min s o, max s o)) := by
  by_cases h : mp m = (min s o, max s o)
  · rw [decide_eq_true h]
    simp only [mp, Prod.mk.injEq] at h
    simp only [has, Bool.and_eq_true, Bool.or_eq_true, decide_eq_true_eq]
    omega
  · rw [decide_eq_false h]
    simp only [mp, Prod.mk.injEq] at h
    rw [Bool.and_eq_false_iff]
    simp only [has, Bool.or_eq_false_iff, decide_eq_false_iff_not]
    omega
theorem btw_eq {s o : Nat} (hso : s ≠ o) : ∀ l : List Mt, (∀ m ∈ l, m.1 < m.2.1) → l.Pairwise plt → btw l s o = bth l s o := by
  intro l
  induction l with
  | nil => intro _ _; rfl
  | cons m l ih =>
    intro hl hp
    rw [List.pairwise_cons] at hp
    have ih := ih (fun x hx => hl x (by simp [hx])) hp.2
    have hb := both_iff hso (hl m (by simp))
    unfold btw bth at *
    rw [List.filter_cons, List.map_cons, List.sum_cons, hb]
    by_cases h : mp m = (min s o, max s o)
    · rw [if_pos (by simpa using h), if_pos (by simpa using h)]
      have z : (l.map fun m => if has s m && has o m then m.2.2 else 0).sum = 0 := by
        have : ∀ q : List Mt, (∀ x ∈ q, mp x ≠ (min s o, max s o) ∧ x.1 < x.2.1) → (q.map fun m => if has s m && has o m then m.2.2 else 0).sum = 0 := by
          intro q
          induction q with
          | nil => intro _; rfl
          | cons x q ihq =>
            intro hq
            rw [List.map_cons, List.sum_cons, ihq fun y hy => hq y (by simp [hy]), both_iff hso (hq x (by simp)).2, decide_eq_false (hq x (by simp)).1]
            simp
        exact this l fun x hx => ⟨fun e => plt_mp (hp.1 x hx) (h.trans e.symm), hl x (by simp [hx])⟩
      rw [z]; simp
    · rw [if_neg (by simpa using h), if_neg (by simpa using h), ih]; simp
def riv (w : List Int) (l : List Mt) (s : Nat) (k : Int) (o : Nat) : Bool := decide (w.getD s 0 + k < w.getD o 0 + leftOf l o - btw l s o + min (btw l s o) (leftOf l s - k))
def abv (w : List Int) (l : List Mt) (s : Nat) (k : Int) : List Nat := (oth w.length s).filter (riv w l s k)
/-- no more than that -/
theorem riv_up {s o : Nat} (hso : s ≠ o) : ∀ ms : List (Mt × Int), (∀ x ∈ ms, x.1.1 < x.1.2.1 ∧ 0 ≤ x.2 ∧ x.2 ≤ x.1.2.2) →
    ∃ X : Int, conS ms o ≤ leftOf (ms.map (·.1)) o - bth (ms.map (·.1)) s o + X ∧ X ≤ bth (ms.map (·.1)) s o ∧ X + conS ms s ≤ leftOf (ms.map (·.1)) s := by
  intro ms
  induction ms with
  | nil => intro _; exact ⟨0, by simp [conS, leftOf, bth], by simp [bth], by simp [conS, leftOf]⟩
  | cons p ms ih =>
    intro h
    obtain ⟨X, h1, h2, h3⟩ := ih fun x hx => h x (by simp [hx])
    have hp := h p (by simp)
    have c1 : ∀ x, conS (p :: ms) x = con p x + conS ms x := fun x => by simp [conS]
    have c2 : ∀ x, leftOf ((p :: ms).map (·.1)) x = (if has x p.1 then p.1.2.2 else 0) + leftOf (ms.map (·.1)) x := fun x => by rw [leftOf_sum, leftOf_sum]; simp
    have c3 : bth ((p :: ms).map (·.1)) s o = (if has s p.1 && has o p.1 then p.1.2.2 else 0) + bth (ms.map (·.1)) s o := by simp [bth]
    refine ⟨X + (if has s p.1 && has o p.1 then con p o else 0), ?_, ?_, ?_⟩
    · rw [c1, c2, c3]
      by_cases a : has s p.1 = true <;> by_cases b : has o p.1 = true <;> (have ha := a; have hb := b; simp only [has, Bool.or_eq_true, decide_eq_true_eq] at ha hb; simp only [a, b, if_true, if_false, Bool.and_true, Bool.and_false, Bool.and_self, Bool.false_eq_true]; (try simp only [con]); (repeat' split) <;> omega)
    · rw [c3]
      by_cases a : has s p.1 = true <;> by_cases b : has o p.1 = true <;> (have ha := a; have hb := b; simp only [has, Bool.or_eq_true, decide_eq_true_eq] at ha hb; simp only [a, b, if_true, if_false, Bool.and_true, Bool.and_false, Bool.and_self, Bool.false_eq_true]; (try simp only [con]); (repeat' split) <;> omega)
    · rw [c1, c2]
      by_cases a : has s p.1 = true <;> by_cases b : has o p.1 = true <;> (have ha := a; have hb := b; simp only [has, Bool.or_eq_true, decide_eq_true_eq] at ha hb; simp only [a, b, if_true, if_false, Bool.and_true, Bool.and_false, Bool.and_self, Bool.false_eq_true]; (try simp only [con]); (repeat' split) <;> omega)
/-- a season in which o has as many as can be, s just so many -/
def alloc (s o : Nat) (t : Int) : List Mt → Int → List Int
  | [], _ => []
  | m :: l, r =>
    if has s m && has o m then (if m.1 = s then t else m.2.2 - t) :: alloc s o t l r
    else if has s m then (if m.1 = s then min r m.2.2 else m.2.2 - min r m.2.2) :: alloc s o t l (r - min r m.2.2)
    else if has o m then (if m.1 = o then m.2.2 else 0) :: alloc s o t l r
    else 0 :: alloc s o t l r
def nbth (l : List Mt) (s o : Nat) : Int := (l.map fun m => if has s m && has o m then (1 : Int) else 0).sum
theorem alloc_ok {s o : Nat} (hso : s ≠ o) (t : Int) (ht : 0 ≤ t) : ∀ (l : List Mt) (r : Int), (∀ m ∈ l, m.1 < m.2.1 ∧ 0 ≤ m.2.2) → (∀ m ∈ l, (has s m && has o m) = true → t ≤ m.2.2) → 0 ≤ r → r ≤ leftOf l s - bth l s o →
    Sea l (alloc s o t l r) ∧ conS (l.zip (alloc s o t l r)) s = r + t * nbth l s o ∧ conS (l.zip (alloc s o t l r)) o = leftOf l o - t * nbth l s o := by
  intro l
  induction l with
  | nil => intro r _ _ h0 h1; simp [leftOf, bth] at h1; exact ⟨⟨rfl, by simp⟩, by simp [conS, nbth]; omega, by simp [conS, leftOf, nbth]⟩
  | cons m l ih =>
    intro r hl ht2 h0 h1
    have hm := hl m (by simp)
    have hl' := fun x (hx : x ∈ l) => hl x (by simp [hx])
    have ht' := fun x (hx : x ∈ l) => ht2 x (by simp [hx])
    have c2 : ∀ x, leftOf (m :: l) x = (if has x m then m.2.2 else 0) + leftOf l x := fun x => by rw [leftOf_sum, leftOf_sum]; simp
    have c3 : bth (m :: l) s o = (if has s m && has o m then m.2.2 else 0) + bth l s o := by simp [bth]
    have c4 : nbth (m :: l) s o = (if has s m && has o m then 1 else 0) + nbth l s o := by simp [nbth]
    have sub : bth l s o ≤ leftOf l s := by
      have : ∀ q : List Mt, (∀ x ∈ q, 0 ≤ x.2.2) → bth q s o ≤ leftOf q s := by
        intro q
        induction q with
        | nil => intro _; simp [bth, leftOf]
        | cons x q ihq =>
          intro hq
          have h1 := ihq fun y hy => hq y (by simp [hy])
          have h2 := hq x (by simp)
          rw [leftOf_sum] at h1 ⊢
          unfold bth at h1 ⊢
          simp only [List.map_cons, List.sum_cons]
          by_cases a : has s x = true <;> by_cases b : has o x = true <;> simp [a, b] at h1 ⊢ <;> omega
      exact this l fun x hx => (hl' x hx).2
    have key : ∀ (f : Int) (r' : Int), 0 ≤ r' → r' ≤ leftOf l s - bth l s o → alloc s o t (m :: l) r = f :: alloc s o t l r' → 0 ≤ f → f ≤ m.2.2 → con (m, f) s + r' = r + t * (if has s m && has o m then 1 else 0) → con (m, f) o = (if has o m then m.2.2 else 0) - t * (if has s m && has o m then 1 else 0) →
        Sea (m :: l) (alloc s o t (m :: l) r) ∧ conS ((m :: l).zip (alloc s o t (m :: l) r)) s = r + t * nbth (m :: l) s o ∧ conS ((m :: l).zip (alloc s o t (m :: l) r)) o = leftOf (m :: l) o - t * nbth (m :: l) s o := by
      intro f r' g0 g1 e f0 f1 es eo
      obtain ⟨⟨i1, i2⟩, i3, i4⟩ := ih r' hl' ht' g0 g1
      rw [e, c4, c2 o]
      refine ⟨⟨by simp [i1], fun x hx => ?_⟩, ?_, ?_⟩
      · rw [List.zip_cons_cons] at hx
        rcases List.mem_cons.mp hx with h | h
        · rw [h]; exact ⟨f0, f1⟩
        · exact i2 x h
      · have : conS ((m :: l).zip (f :: alloc s o t l r')) s = con (m, f) s + conS (l.zip (alloc s o t l r')) s := by simp [conS]
        rw [this, i3, Int.mul_add]; omega
      · have : conS ((m :: l).zip (f :: alloc s o t l r')) o = con (m, f) o + conS (l.zip (alloc s o t l r')) o := by simp [conS]
        rw [this, i4, Int.mul_add]; omega
    rw [c2, c3] at h1
    have hpa : ∀ x, has x m = true → m.1 = x ∨ m.2.1 = x := fun x h => by simpa [has] using h
    have hna : ∀ x, has x m = false → m.1 ≠ x ∧ m.2.1 ≠ x := fun x h => by simpa [has] using h
    cases a : has s m with
    | true =>
      have ha := hpa s a
      cases b : has o m with
      | true =>
        have hb := hpa o b
        have htm := ht2 m (by simp) (by rw [a, b]; rfl)
        simp only [a, b, if_true, Bool.and_true] at h1
        refine key (if m.1 = s then t else m.2.2 - t) r h0 (by omega) (by simp [alloc, a, b]) (by split <;> omega) (by split <;> omega) ?_ ?_
        · simp only [a, b, Bool.and_true, Bool.and_false, Bool.false_and, Bool.and_self, if_true, if_false, Bool.false_eq_true, Int.mul_one, Int.mul_zero, con]; (repeat' split) <;> omega
        · simp only [a, b, Bool.and_true, Bool.and_false, Bool.false_and, Bool.and_self, if_true, if_false, Bool.false_eq_true, Int.mul_one, Int.mul_zero, con]; (repeat' split) <;> omega
      | false =>
        have hb := hna o b
        simp only [a, b, if_true, if_false, Bool.and_false, Bool.false_eq_true] at h1
        refine key (if m.1 = s then min r m.2.2 else m.2.2 - min r m.2.2) (r - min r m.2.2) (by omega) (by omega) (by simp [alloc, a, b]) (by split <;> omega) (by split <;> omega) ?_ ?_
        · simp only [a, b, Bool.and_true, Bool.and_false, Bool.false_and, Bool.and_self, if_true, if_false, Bool.false_eq_true, Int.mul_one, Int.mul_zero, con]; (repeat' split) <;> omega
        · simp only [a, b, Bool.and_true, Bool.and_false, Bool.false_and, Bool.and_self, if_true, if_false, Bool.false_eq_true, Int.mul_one, Int.mul_zero, con]; (repeat' split) <;> omega
    | false =>
      have ha := hna s a
      cases b : has o m with
      | true =>
        have hb := hpa o b
        simp only [a, b, if_true, if_false, Bool.false_and, Bool.false_eq_true] at h1
        refine key (if m.1 = o then m.2.2 else 0) r h0 (by omega) (by simp [alloc, a, b]) (by split <;> omega) (by split <;> omega) ?_ ?_
        · simp only [a, b, Bool.and_true, Bool.and_false, Bool.false_and, Bool.and_self, if_true, if_false, Bool.false_eq_true, Int.mul_one, Int.mul_zero, con]; (repeat' split) <;> omega
        · simp only [a, b, Bool.and_true, Bool.and_false, Bool.false_and, Bool.and_self, if_true, if_false, Bool.false_eq_true, Int.mul_one, Int.mul_zero, con]; (repeat' split) <;> omega
      | false =>
        have hb := hna o b
        simp only [a, b, if_false, Bool.false_and, Bool.false_eq_true] at h1
        refine key 0 r h0 (by omega) (by simp [alloc, a, b]) (by omega) (by omega) ?_ ?_
        · simp only [a, b, Bool.and_true, Bool.and_false, Bool.false_and, Bool.and_self, if_true, if_false, Bool.false_eq_true, Int.mul_one, Int.mul_zero, con]; (repeat' split) <;> omega
        · simp only [a, b, Bool.and_true, Bool.and_false, Bool.false_and, Bool.and_self, if_true, if_false, Bool.false_eq_true, Int.mul_one, Int.mul_zero, con]; (repeat' split) <;> omega
theorem nb_cases {s o : Nat} (hso : s ≠ o) : ∀ l : List Mt, (∀ m ∈ l, m.1 < m.2.1) → l.Pairwise plt → (nbth l s o = 0 ∧ bth l s o = 0 ∧ ∀ m ∈ l, (has s m && has o m) = false) ∨ (nbth l s o = 1 ∧ ∀ m ∈ l, (has s m && has o m) = true → bth l s o = m.2.2) := by
  intro l
  induction l with
  | nil => intro _ _; exact .inl ⟨rfl, rfl, by simp⟩
  | cons m l ih =>
    intro hl hp
    rw [List.pairwise_cons] at hp
    have ih := ih (fun x hx => hl x (by simp [hx])) hp.2
    have c3 : bth (m :: l) s o = (if has s m && has o m then m.2.2 else 0) + bth l s o := by simp [bth]
    have c4 : nbth (m :: l) s o = (if has s m && has o m then 1 else 0) + nbth l s o := by simp [nbth]
    cases hb : (has s m && has o m) with
    | false =>
      rw [c3, c4, hb]
      simp only [Bool.false_eq_true, if_false, Int.zero_add]
      rcases ih with ⟨h1, h2, h3⟩ | ⟨h1, h2⟩
      · refine .inl ⟨h1, h2, fun x hx => ?_⟩
        rcases List.mem_cons.mp hx with h | h
        · rw [h]; exact hb
        · exact h3 x h
      · refine .inr ⟨h1, fun x hx hx2 => ?_⟩
        rcases List.mem_cons.mp hx with h | h
        · rw [h, hb] at hx2; cases hx2
        · exact h2 x h hx2
    | true =>
      have no : ∀ x ∈ l, (has s x && has o x) = false := fun x hx => by
        rw [both_iff hso (hl x (by simp [hx]))]
        rw [both_iff hso (hl m (by simp))] at hb
        exact decide_eq_false fun e => plt_mp (hp.1 x hx) ((of_decide_eq_true hb).trans e.symm)
      have z : nbth l s o = 0 ∧ bth l s o = 0 := by
        rcases ih with ⟨h1, h2, _⟩ | ⟨h1, h2⟩
        · exact ⟨h1, h2⟩
        · exfalso
          have : ∀ q : List Mt, (∀ x ∈ q, (has s x && has o x) = false) → nbth q s o = 0 := by
            intro q
            induction q with
            | nil => intro _; rfl
            | cons x q ihq =>
              intro hq
              have e : nbth (x :: q) s o = (if has s x && has o x then 1 else 0) + nbth q s o := by simp [nbth]
              rw [e, ihq fun y hy => hq y (by simp [hy]), hq x (by simp)]; simp
          rw [this l no] at h1; cases h1
      rw [c3, c4, hb, z.1, z.2]
      refine .inr ⟨by simp, fun x hx hx2 => ?_⟩
      rcases List.mem_cons.mp hx with h | h
      · rw [h]; simp
      · rw [no x h] at hx2; cases hx2
theorem bth_le {s o : Nat} : ∀ q : List Mt, (∀ x ∈ q, 0 ≤ x.2.2) → 0 ≤ bth q s o ∧ bth q s o ≤ leftOf q s := by
  intro q
  induction q with
  | nil => intro _; simp [bth, leftOf]
  | cons x q ihq =>
    intro hq
    have h1 := ihq fun y hy => hq y (by simp [hy])
    have h2 := hq x (by simp)
    rw [leftOf_sum] at h1 ⊢
    unfold bth at h1 ⊢
    simp only [List.map_cons, List.sum_cons]
    cases a : has s x <;> cases b : has o x <;> simp [a, b] at h1 ⊢ <;> omega
theorem zip_fst {l : List Mt} {se : List Int} (h : se.length = l.length) : (l.zip se).map (·.1) = l := by
  have := List.map_fst_zip (l₁ := l) (l₂ := se) (by omega)
  simpa using this
theorem riv_iff {w : List Int} {l : List Mt} (hlg : Lg w l) {s o : Nat} (hso : s ≠ o) {k : Int} (h0 : 0 ≤ k) (h1 : k ≤ leftOf l s) :
    riv w l s k o = true ↔ ∃ se, Sea l se ∧ conS (l.zip se) s = k ∧ w.getD s 0 + k < w.getD o 0 + conS (l.zip se) o := by
  have hlt : ∀ m ∈ l, m.1 < m.2.1 := fun m hm => (hlg.l m hm).1
  have hpos : ∀ m ∈ l, 0 ≤ m.2.2 := fun m hm => by have := hlg.l m hm; omega
  have hB := btw_eq hso l hlt hlg.o
  obtain ⟨b0, b1⟩ := bth_le (s := s) (o := o) l hpos
  unfold riv
  rw [hB, decide_eq_true_eq]
  constructor
  · intro h
    generalize ht : bth l s o - min (bth l s o) (leftOf l s - k) = t
    have nb := nb_cases hso l hlt hlg.o
    have t0 : 0 ≤ t := by omega
    have tl : t ≤ bth l s o := by omega
    obtain ⟨a1, a2, a3⟩ := alloc_ok hso t t0 l (k - t) (fun m hm => ⟨hlt m hm, hpos m hm⟩) (fun m hm hb => by
      rcases nb with ⟨_, _, n3⟩ | ⟨_, n2⟩
      · rw [n3 m hm] at hb; cases hb
      · rw [← n2 m hm hb]; exact tl) (by omega) (by omega)
    have tn : t * nbth l s o = t := by
      rcases nb with ⟨n1, n2, _⟩ | ⟨n1, _⟩
      · have : t = 0 := by omega
        rw [this]; simp
      · rw [n1]; simp
    refine ⟨_, a1, by rw [a2, tn]; omega, ?_⟩
    rw [a3, tn]; omega
  · rintro ⟨se, hse, hk, hgt⟩
    obtain ⟨X, x1, x2, x3⟩ := riv_up hso (l.zip se) (fun x hx => ⟨hlt _ (List.of_mem_zip hx).1, hse.2 x hx⟩)
    rw [zip_fst hse.1] at x1 x2 x3
    omega
theorem leftOf_le (l : List Mt) (h9 : ∀ m ∈ l, m.2.2 ≤ 9) (h0 : ∀ m ∈ l, 0 ≤ m.2.2) (s : Nat) : leftOf l s ≤ 9 * l.length := by
  induction l with
  | nil => simp [leftOf]
  | cons m l ih =>
    have := ih (fun x hx => h9 x (by simp [hx])) (fun x hx => h0 x (by simp [hx]))
    have h1 := h9 m (by simp)
    have h2 := h0 m (by simp)
    rw [leftOf_sum] at this ⊢
    simp only [List.map_cons, List.sum_cons, List.length_cons]
    cases has s m <;> simp <;> omega
theorem riv_anti {w : List Int} {l : List Mt} {s o : Nat} {k : Int} (h : riv w l s (k + 1) o = true) : riv w l s k o = true := by
  unfold riv at *
  rw [decide_eq_true_eq] at *
  omega
theorem leftOf_nn (l : List Mt) (h : ∀ m ∈ l, 0 ≤ m.2.2) (s : Nat) : 0 ≤ leftOf l s := by
  have := bth_le (s := s) (o := s) l h
  omega
end DL
set_option Elab.async false
set_option linter.all false
set_option maxRecDepth 100000
set_option maxHeartbeats 2000000
set_option autoImplicit false
/-! choices by the first; the first season of all -/
namespace DL
open PySem
def lsts : Nat → List Nat → List (List Nat)
  | 0, _ => [[]]
  | k + 1, row => (List.range row.length).flatMap fun a => (lsts k (row.drop (a + 1))).map fun r => row.getD a 0 :: r
theorem lsts_nil (k : Nat) : lsts (k + 1) [] = [] := rfl
theorem lsts_cons (k x : Nat) (r : List Nat) : lsts (k + 1) (x :: r) = (lsts k r).map (fun g => x :: g) ++ lsts (k + 1) r := by
  show (List.range (r.length + 1)).flatMap _ = _
  rw [List.range_succ_eq_map, List.flatMap_cons, List.flatMap_map]
  rfl
theorem ch_nil (k : Nat) : ch [] (k + 1) = [] := by
  cases h : ch [] (k + 1) with
  | nil => rfl
  | cons g t =>
    have := (mem_ch [] (k + 1) g).mp (by rw [h]; simp)
    cases g with
    | nil => simp at this
    | cons a g => have := this.2.2 a (by simp); cases this
theorem flatMap_congr' {α β : Type} {xs : List α} {f g : α → List β} (h : ∀ x ∈ xs, f x = g x) : xs.flatMap f = xs.flatMap g := by
  induction xs with
  | nil => rfl
  | cons a xs ih => rw [List.flatMap_cons, List.flatMap_cons, h a (by simp), ih fun x hx => h x (by simp [hx])]
theorem ch_cons {x : Nat} {r : List Nat} (hx : ∀ y ∈ r, x < y) (hr : r.Pairwise (· < ·)) : ∀ k, ch (x :: r) (k + 1) = (ch r k).map (fun g => x :: g) ++ ch r (k + 1)
  | 0 => by simp [ch]
  | k + 1 => by
    have ih := ch_cons hx hr k
    show (ch (x :: r) (k + 1)).flatMap _ = (ch r (k + 1)).map _ ++ (ch r (k + 1)).flatMap _
    rw [ih, List.flatMap_append]
    congr 1
    · rw [List.flatMap_map]
      show _ = ((ch r k).flatMap _).map _
      rw [List.map_flatMap]
      apply flatMap_congr'
      intro g hg
      obtain ⟨_, g2, g3⟩ := (mem_ch _ _ _).mp hg
      rw [List.map_map]
      have hl : ∀ y, (decide ((x :: g) = []) || decide ((x :: g).getLastD 0 < y)) = decide ((x :: g).getLast (by simp) < y) := by
        intro y
        rw [lastD_eq (by simp)]; simp
      have e1 : (x :: r).filter (fun y => decide ((x :: g) = []) || decide ((x :: g).getLastD 0 < y)) = r.filter fun y => decide (g = []) || decide (g.getLastD 0 < y) := by
        rw [List.filter_cons, hl x]
        have hx0 : ¬ (x :: g).getLast (by simp) < x := by
          cases g with
          | nil => simp
          | cons a g =>
            have hm : (x :: a :: g).getLast (by simp) ∈ (a :: g) := by
              rw [List.getLast_cons (by simp)]; exact List.getLast_mem _
            have := hx _ (g3 _ hm)
            omega
        rw [if_neg (by simpa using hx0)]
        apply List.filter_congr
        intro y hy
        rw [hl y]
        cases g with
        | nil => simp [hx y hy]
        | cons a g =>
          rw [lastD_eq (by simp), List.getLast_cons (by simp)]
          simp
      rw [e1]
      rfl
    · apply flatMap_congr'
      intro g hg
      obtain ⟨g1, g2, g3⟩ := (mem_ch _ _ _).mp hg
      have hne : g ≠ [] := fun e => by rw [e] at g1; simp at g1
      congr 1
      rw [List.filter_cons, if_neg]
      have := hx _ (g3 _ (List.getLast_mem hne))
      rw [lastD_eq hne]
      simp [hne]
      omega
theorem lsts_ch : ∀ (k : Nat) (row : List Nat), row.Pairwise (· < ·) → lsts k row = ch row k
  | 0, _, _ => rfl
  | k + 1, row, h => by
    induction row with
    | nil => rw [lsts_nil, ch_nil]
    | cons x r ih =>
      obtain ⟨h1, h2⟩ := List.pairwise_cons.mp h
      rw [lsts_cons, ch_cons h1 h2, lsts_ch k r h2, ih h2]
/-! ### the first season -/
theorem fit_back {w : List Int} {l l1 l2 : List Mt} {m : Mt} (hlg : Lg w l) (hl : l = l1 ++ m :: l2) {s : Nat} {F : List Nat} {fx : List Int} (hfx : fx.length = l1.length) {f : Int} (f0 : 0 ≤ f) (f1 : f ≤ m.2.2) (hf : has s m = true → f = decO s m) (h : Fit w l s F (fx ++ [f])) : Fit w l s F fx := by
  have hin : ∀ m ∈ l, m.1 < w.length ∧ m.2.1 < w.length := fun m hm => by have := hlg.l m hm; omega
  have d0 : l.drop fx.length = m :: l2 := by rw [hfx, hl]; simp
  have d1 : ∀ f : Int, l.drop (fx ++ [f]).length = l2 := by intro f; rw [List.length_append, hfx, hl]; simp
  have z0 : l.zip fx = l1.zip fx := by
    rw [hl, ← List.append_nil fx, List.zip_append (by omega)]; simp
  have z1 : ∀ f : Int, l.zip (fx ++ [f]) = l1.zip fx ++ [(m, f)] := by intro f; rw [hl, List.zip_append (by omega)]; simp
  by_cases hsm : has s m = true
  · have e1 : dcd l s (fx ++ [decO s m]) = dcd l s fx := by
      unfold dcd; rw [d0, d1, z0, z1]
      simp [fm, hsm]
    have e2 : und l s (fx ++ [decO s m]) = und l s fx := by
      unfold und; rw [d0, d1]; simp [hsm]
    rw [hf hsm] at h
    unfold Fit at h
    rw [e1, e2] at h
    exact h
  · have hu : und l s fx = m :: und l s (fx ++ [f]) := by
      unfold und; rw [d0, d1]; simp [hsm]
    have ge : ∀ x, (endW w (dcd l s (fx ++ [f]))).getD x 0 = (endW w (dcd l s fx)).getD x 0 + con (m, f) x := by
      intro x
      rw [endW_con _ _ (dcd_in hin s _), endW_con _ _ (dcd_in hin s _)]
      unfold dcd
      rw [d0, d1, z0, z1]
      have : fm s (m :: l2) = fm s l2 := by unfold fm; rw [List.filter_cons, if_neg hsm]
      rw [this, conS_app, conS_app, conS_app]
      have : conS [(m, f)] x = con (m, f) x := by simp [conS]
      rw [this]; omega
    obtain ⟨h1, h2⟩ := h
    simp only [has, Bool.or_eq_true, decide_eq_true_eq] at hsm
    refine ⟨?_, fun P hP => ?_⟩
    · rw [ge] at h1
      have e1 : ¬ s = m.1 := by omega
      have e2 : ¬ s = m.2.1 := by omega
      simp [con, e1, e2] at h1
      exact h1
    · have h3 := h2 P hP
      rw [hu, II_cons]
      have h4 := SS_add _ (rst_sorted w.length s F) (fun x => (endW w (dcd l s fx)).getD x 0 - top w l s) (fun x => (endW w (dcd l s (fx ++ [f]))).getD x 0 - top w l s) m.1 m.2.1 f (m.2.2 - f) (fun x => by
        show _ - _ = _ - _ + _ + _
        rw [ge]; simp only [con]; omega) P hP
      rw [h4] at h3
      generalize P m.1 = b1 at h3 ⊢
      generalize P m.2.1 = b2 at h3 ⊢
      cases b1 <;> cases b2 <;> simp at h3 ⊢ <;> omega
theorem find_flat {α β : Type} {xs : List α} {g : α → List β} {P : β → Bool} {Q : α → Bool} {x : α} {y : β} (hx : xs.find? Q = some x) (hn : ∀ x' ∈ xs, Q x' = false → ∀ y ∈ g x', P y = false) (hy : (g x).find? P = some y) : (xs.flatMap g).find? P = some y := by
  obtain ⟨h1, as, bs, rfl, h3⟩ := List.find?_eq_some_iff_append.mp hx
  rw [List.flatMap_append, List.flatMap_cons, List.find?_append, List.find?_append, hy]
  have : (as.flatMap g).find? P = none := by
    rw [List.find?_eq_none]
    intro y' hy'
    obtain ⟨x', hx', hm⟩ := List.mem_flatMap.mp hy'
    have := hn x' (by simp [hx']) (by simpa using h3 x' hx') y' hm
    simp [this]
  rw [this]; rfl
noncomputable def hpB (w : List Int) (l : List Mt) (s : Nat) (F : List Nat) (p : List Mt) (fx : List Int) : Bool := @decide ((∀ x ∈ p.zip fx, x.2 ∈ pick s x.1) ∧ Fit w l s F fx) (Classical.propDecidable _)
theorem hpB_iff (w : List Int) (l : List Mt) (s : Nat) (F : List Nat) (p : List Mt) (fx : List Int) : hpB w l s F p fx = true ↔ (∀ x ∈ p.zip fx, x.2 ∈ pick s x.1) ∧ Fit w l s F fx := by
  unfold hpB; exact @decide_eq_true_iff _ (Classical.propDecidable _)
theorem pick_has {s : Nat} {m : Mt} (hm : m.1 < m.2.1) {f : Int} (h : f ∈ pick s m) (hs : has s m = true) : f = decO s m := by
  simp only [has, Bool.or_eq_true, decide_eq_true_eq] at hs
  unfold pick at h
  unfold decO
  by_cases e : m.1 = s
  · rw [if_pos e] at h ⊢; simpa using h
  · rw [if_neg e] at h ⊢
    rw [if_pos (by omega)] at h
    simpa using h
theorem first_pre {w : List Int} {l : List Mt} (hlg : Lg w l) {s : Nat} (hs : s < w.length) {F : List Nat} (h0 : wa w l s F = none) : ∀ (p q : List Mt), l = p ++ q → (allW p).find? (hpB w l s F p) = some (fsP w l s F p) := by
  intro p
  induction p using snoc_ind with
  | h0 =>
    intro q e
    have : hpB w l s F [] [] = true := (hpB_iff _ _ _ _ _ _).mpr ⟨by simp, fit_start hlg hs h0⟩
    show [[]].find? _ = some []
    rw [List.find?_cons, this]
  | h1 p m ih =>
    intro q e
    have e' : l = p ++ m :: q := by simpa using e
    have ih := ih (m :: q) e'
    have hm := hlg.l m (by rw [e']; simp)
    have hpp : ∀ x ∈ p, 0 ≤ x.2.2 := fun x hx => by have := hlg.l x (by rw [e']; simp [hx]); omega
    obtain ⟨hF, hp⟩ := fsP_ok hlg hs h0 p (m :: q) e'
    have hl := fsP_length w l s F p
    obtain ⟨f0, hf0, hF0⟩ := fit_next hlg e' hl hF
    obtain ⟨h1, h2⟩ := find_sp (xs := pick s m) (p := fun f => fit w l s F (fsP w l s F p ++ [f])) ⟨f0, hf0, fit_of hF0⟩ 0
    rw [fsP_snoc, allW_snoc]
    refine find_flat ih (fun r hr hrf y hy => ?_) ?_
    · obtain ⟨f, hf, rfl⟩ := List.mem_map.mp hy
      have hrl := ((mem_allW p hpp r).mp hr).1
      cases hc : hpB w l s F (p ++ [m]) (r ++ [(f : Int)]) with
      | false => rfl
      | true =>
        obtain ⟨c1, c2⟩ := (hpB_iff _ _ _ _ _ _).mp hc
        rw [List.zip_append (by omega)] at c1
        have c3 : (f : Int) ∈ pick s m := c1 (m, (f : Int)) (by simp)
        have hb := pick_bd (by omega) c3
        have : hpB w l s F p r = true := (hpB_iff _ _ _ _ _ _).mpr ⟨fun x hx => c1 x (by simp [hx]), fit_back hlg e' hrl hb.1 hb.2 (fun hh => pick_has hm.1 c3 hh) c2⟩
        rw [this] at hrf; cases hrf
    · generalize hfs : ((pick s m).find? fun f => fit w l s F (fsP w l s F p ++ [f])).getD 0 = fm at h1 h2 ⊢
      have hb := pick_bd (by omega) h1
      have hk := fit_keep hlg e' hl hF h1 h2
      obtain ⟨fn, hfn⟩ : ∃ fn : Nat, fm = (fn : Int) := ⟨fm.toNat, by omega⟩
      have zp : (p ++ [m]).zip (fsP w l s F p ++ [fm]) = p.zip (fsP w l s F p) ++ [(m, fm)] := by rw [List.zip_append (by omega)]; rfl
      rw [List.find?_eq_some_iff_append]
      refine ⟨(hpB_iff _ _ _ _ _ _).mpr ⟨fun x hx => ?_, hk⟩, (List.range fn).map (fun (f : Nat) => fsP w l s F p ++ [(f : Int)]), (List.range' (fn + 1) ((m.2.2 + 1).toNat - (fn + 1))).map (fun (f : Nat) => fsP w l s F p ++ [(f : Int)]), ?_, ?_⟩
      · rw [zp] at hx
        rcases List.mem_append.mp hx with h | h
        · exact hp x h
        · have : x = (m, fm) := by simpa using h
          rw [this]; exact h1
      · have : List.range (m.2.2 + 1).toNat = List.range fn ++ fn :: List.range' (fn + 1) ((m.2.2 + 1).toNat - (fn + 1)) := by
          have h3 : (m.2.2 + 1).toNat = fn + (1 + ((m.2.2 + 1).toNat - (fn + 1))) := by omega
          conv => lhs; rw [h3]
          rw [List.range_eq_range', List.range_eq_range', ← List.range'_append_1, Nat.zero_add]
          congr 1
          rw [Nat.add_comm 1, List.range'_succ]
        rw [this, hfn]; simp
      · intro y hy
        obtain ⟨f, hf, rfl⟩ := List.mem_map.mp hy
        have hf : f < fn := by simpa using hf
        cases hc : hpB w l s F (p ++ [m]) (fsP w l s F p ++ [(f : Int)]) with
        | false => rfl
        | true =>
          exfalso
          obtain ⟨c1, c2⟩ := (hpB_iff _ _ _ _ _ _).mp hc
          rw [List.zip_append (by omega)] at c1
          have c3 := c1 (m, (f : Int)) (by simp)
          have c3 : (f : Int) ∈ pick s m := c3
          have c4 := fit_of c2
          by_cases hh : has s m = true
          · have a1 := pick_has hm.1 c3 hh
            have a2 := pick_has hm.1 h1 hh
            omega
          · simp only [has, Bool.or_eq_true, decide_eq_true_eq] at hh
            have hpk : pick s m = (List.range (m.2.2 + 1).toNat).map fun (i : Nat) => (i : Int) := by
              unfold pick; rw [if_neg (by omega), if_neg (by omega)]
            cases hfd : (pick s m).find? fun f => fit w l s F (fsP w l s F p ++ [f]) with
            | none =>
              have := List.find?_eq_none.mp hfd _ c3
              simp [c4] at this
            | some g =>
              rw [hfd] at hfs
              have hg : g = fm := hfs
              obtain ⟨_, as, bs, e1, e2⟩ := List.find?_eq_some_iff_append.mp hfd
              have hle : (pick s m)[f]? = some (f : Int) := by
                rw [hpk, List.getElem?_map, List.getElem?_range (by omega)]; rfl
              have hgl : (pick s m)[as.length]? = some g := by rw [e1]; simp
              have hal : as.length = fn := by
                have := List.getElem?_eq_some_iff.mp hgl
                obtain ⟨hlt, hv⟩ := this
                simp only [hpk, List.getElem_map, List.getElem_range] at hv
                omega
              rw [e1, List.getElem?_append_left (by omega)] at hle
              have := e2 _ (List.mem_of_getElem? hle)
              simp [c4] at this
def gd (w : List Int) (l : List Mt) (s : Nat) (F : List Nat) (se : List Int) : Bool :=
  ((l.zip se).all fun x => !has s x.1 || decide (x.2 = decO s x.1)) && (List.range w.length).all fun o => !(decide ((endW w (l.zip se)).getD s 0 < (endW w (l.zip se)).getD o 0) && !decide (o ∈ F))
theorem own_top {s : Nat} : ∀ (ms : List (Mt × Int)), (∀ x ∈ ms, x.1.1 < x.1.2.1) → (∀ x ∈ ms, has s x.1 = true → x.2 = decO s x.1) → conS ms s = leftOf (ms.map (·.1)) s := by
  intro ms
  induction ms with
  | nil => intro _ _; rfl
  | cons x ms ih =>
    intro h1 h2
    have ih := ih (fun y hy => h1 y (by simp [hy])) fun y hy => h2 y (by simp [hy])
    have hx := h1 x (by simp)
    have hx2 := h2 x (by simp)
    rw [leftOf_sum] at ih ⊢
    have e1 : conS (x :: ms) s = con x s + conS ms s := by simp [conS]
    rw [e1, ih]
    simp only [List.map_cons, List.sum_cons]
    congr 1
    unfold con
    by_cases a : x.1.1 = s
    · have hh : has s x.1 = true := by simp [has, a]
      have := hx2 hh
      rw [if_pos hh, this]
      unfold decO
      rw [if_pos a, if_pos a.symm, if_neg (by omega)]
      omega
    · by_cases b : x.1.2.1 = s
      · have hh : has s x.1 = true := by simp [has, b]
        have := hx2 hh
        rw [if_pos hh, this]
        unfold decO
        rw [if_neg a, if_neg (fun e => a e.symm), if_pos b.symm]
        omega
      · have hh : ¬ has s x.1 = true := by simp [has, a, b]
        rw [if_neg hh, if_neg (fun e => a e.symm), if_neg (fun e => b e.symm)]
        rfl
theorem gd_iff {w : List Int} {l : List Mt} (hlg : Lg w l) {s : Nat} (hs : s < w.length) {F : List Nat} {se : List Int} (hse : Sea l se) : gd w l s F se = hpB w l s F l se := by
  have hin : ∀ m ∈ l, m.1 < w.length ∧ m.2.1 < w.length := fun m hm => by have := hlg.l m hm; omega
  obtain ⟨s1, s2⟩ := hse
  have hz : (l.zip se).map (·.1) = l := zip_fst s1
  apply bool_iff
  rw [hpB_iff]
  unfold gd
  rw [Bool.and_eq_true, List.all_eq_true, List.all_eq_true]
  constructor
  · rintro ⟨h1, h2⟩
    have h1' : ∀ x ∈ l.zip se, has s x.1 = true → x.2 = decO s x.1 := fun x hx hh => by
      have := h1 x hx
      rw [hh] at this; simpa using this
    have htop : (endW w (l.zip se)).getD s 0 = top w l s := by
      rw [ended_getD hin, own_top _ (fun x hx => (hlg.l x.1 (List.of_mem_zip hx).1).1) h1', hz]; rfl
    refine ⟨fun x hx => ?_, ?_⟩
    · have hb := s2 x hx
      by_cases hh : has s x.1 = true
      · rw [h1' x hx hh]
        unfold pick decO
        simp only [has, Bool.or_eq_true, decide_eq_true_eq] at hh
        by_cases e : x.1.1 = s
        · simp [e]
        · have : x.1.2.1 = s := by omega
          simp [e, this]
      · simp only [has, Bool.or_eq_true, decide_eq_true_eq] at hh
        unfold pick
        rw [if_neg (by omega), if_neg (by omega)]
        exact List.mem_map.mpr ⟨x.2.toNat, by simp; omega, by omega⟩
    · have hd : l.drop se.length = [] := List.drop_eq_nil_of_le (by omega)
      have e1 : dcd l s se = l.zip se := by unfold dcd; rw [hd]; simp [fm]
      have e2 : und l s se = [] := by unfold und; rw [hd]; rfl
      unfold Fit
      rw [e1, e2]
      refine ⟨htop, fun P hP => ?_⟩
      have : II [] P = 0 := rfl
      rw [this, Int.add_zero]
      unfold SS
      have key : ∀ R : List Nat, (∀ x ∈ R, x < w.length ∧ x ∉ F) → (R.map fun x => if P x then (endW w (l.zip se)).getD x 0 - top w l s else 0).sum ≤ 0 := by
        intro R
        induction R with
        | nil => intro _; simp
        | cons a R ih =>
          intro hR
          have ih := ih fun x hx => hR x (by simp [hx])
          obtain ⟨a1, a2⟩ := hR a (by simp)
          have := h2 a (by simpa using a1)
          have hle : ¬ ((endW w (l.zip se)).getD s 0 < (endW w (l.zip se)).getD a 0) := fun hlt => by
            rw [decide_eq_true hlt, decide_eq_false a2] at this; cases this
          rw [htop] at hle
          simp only [List.map_cons, List.sum_cons]
          split <;> omega
      exact key _ fun x hx => by have := (mem_rst _ _ _ _).mp hx; exact ⟨this.1, this.2.2⟩
  · rintro ⟨h1, h2⟩
    obtain ⟨k1, k2⟩ := fit_whole s1 h2
    refine ⟨fun x hx => ?_, fun o ho => ?_⟩
    · by_cases hh : has s x.1 = true
      · rw [pick_has (hlg.l x.1 (List.of_mem_zip hx).1).1 (h1 x hx) hh]; simp
      · simp [hh]
    · have ho : o < w.length := by simpa using ho
      by_cases hF : o ∈ F
      · simp [hF]
      · by_cases e : o = s
        · subst e; simp
        · have := k2 o ho e hF
          rw [k1, decide_eq_false (by omega)]; rfl
theorem first_all {w : List Int} {l : List Mt} (hlg : Lg w l) {s : Nat} (hs : s < w.length) {F : List Nat} (h0 : wa w l s F = none) : (allW l).find? (gd w l s F) = some (fs w l s F) := by
  have h : (allW l).find? (hpB w l s F l) = some (fs w l s F) := first_pre hlg hs h0 l [] (by simp)
  have hpos : ∀ m ∈ l, 0 ≤ m.2.2 := fun m hm => by have := hlg.l m hm; omega
  rw [← h]
  have : ∀ (xs : List (List Int)), (∀ x ∈ xs, Sea l x) → xs.find? (gd w l s F) = xs.find? (hpB w l s F l) := by
    intro xs
    induction xs with
    | nil => intro _; rfl
    | cons x xs ih =>
      intro hx
      rw [List.find?_cons, List.find?_cons, gd_iff hlg hs (hx x (by simp)), ih fun y hy => hx y (by simp [hy])]
  exact this _ fun x hx => (mem_allW l hpos x).mp hx
/-! ### the best place of all seasons -/
theorem reach_season {w : List Int} {l : List Mt} (hlg : Lg w l) (hw : ∀ x ∈ w, 0 ≤ x ∧ x ≤ 40) (h3 : ∀ m ∈ l, m.2.2 ≤ 3) {s : Nat} (hs : s < w.length) {se : List Int} (hse : Sea l se) {p : Nat} (hp : (placesOf (endW w (l.zip se))).getD s 0 ≤ p) (hpn : p ≤ w.length) : reach w l s p = true := by
  obtain ⟨s1, s2⟩ := hse
  have hz : (l.zip se).map (·.1) = l := zip_fst s1
  have hlW : (endW w (l.zip se)).length = w.length := endW_length _ _
  have hlg' : Lg w ((l.zip se).map (·.1)) := by rw [hz]; exact hlg
  rw [placesOf_get (by rw [hlW]; exact hs)] at hp
  generalize hF : (List.range (endW w (l.zip se)).length).filter (fun i => decide ((endW w (l.zip se)).getD s 0 < (endW w (l.zip se)).getD i 0)) = F at hp
  have hE : reach (endW w (l.zip se)) [] s (F.length + 1) = true := by
    refine reach_end (F := F) (by simp) ?_ (fun x hx => ?_) fun x hx hne hxF => ?_
    · rw [← hF]; exact List.Pairwise.filter _ List.pairwise_lt_range
    · rw [← hF] at hx
      obtain ⟨a, b⟩ := List.mem_filter.mp hx
      have b := of_decide_eq_true b
      exact ⟨by simpa using a, fun e => by subst e; omega⟩
    · apply Classical.byContradiction
      intro hn
      exact hxF (by rw [← hF]; exact List.mem_filter.mpr ⟨by simpa using hx, by simpa using hn⟩)
  have := reach_mid hw hlg' (fun x hx => h3 x.1 (List.of_mem_zip hx).1) s2 hE (mts (l.zip se)) [] (by simp)
  rw [hz] at this
  exact reach_mono hs (by omega) (by omega) hpn this
theorem season_reach {w : List Int} {l : List Mt} (hlg : Lg w l) {s : Nat} (hs : s < w.length) {p : Nat} (hp1 : 1 ≤ p) (h : reach w l s p = true) : ∃ se, Sea l se ∧ (placesOf (endW w (l.zip se))).getD s 0 ≤ p := by
  obtain ⟨F, f1, f2, f3, hwa⟩ := (reach_iff _ _ _ _).mp h
  obtain ⟨g1, g2, g3⟩ := fs_ok hlg hs hwa
  obtain ⟨k1, k2⟩ := fit_whole g1 g2
  have hlW : (endW w (l.zip (fs w l s F))).length = w.length := endW_length _ _
  exact ⟨fs w l s F, ⟨g1, g3⟩, place_le (by rw [hlW]; exact hs) hp1 f1 (by rw [hlW, k1]; exact k2)⟩
theorem best_seasons {w : List Int} {l : List Mt} (hlg : Lg w l) (hw : ∀ x ∈ w, 0 ≤ x ∧ x ≤ 40) (h3 : ∀ m ∈ l, m.2.2 ≤ 3) {s : Nat} (hs : s < w.length) : minL ((allW l).map fun se => (placesOf (endW w (l.zip se))).getD s 0) = some (bst w l s : Int) := by
  have hpos : ∀ m ∈ l, 0 ≤ m.2.2 := fun m hm => by have := hlg.l m hm; omega
  obtain ⟨b1, b2, b3⟩ := bst_ok (l := l) hs
  have low : ∀ se, Sea l se → (bst w l s : Int) ≤ (placesOf (endW w (l.zip se))).getD s 0 := by
    intro se hse
    have hlW : (endW w (l.zip se)).length = w.length := endW_length _ _
    apply Classical.byContradiction
    intro hn
    have hP := placesOf_get (W := endW w (l.zip se)) (s := s) (by rw [hlW]; exact hs)
    obtain ⟨k, hk⟩ : ∃ k : Nat, (placesOf (endW w (l.zip se))).getD s 0 = ((k : Nat) : Int) ∧ 1 ≤ k := ⟨1 + ((List.range (endW w (l.zip se)).length).filter fun i => decide ((endW w (l.zip se)).getD s 0 < (endW w (l.zip se)).getD i 0)).length, by rw [hP]; omega, by omega⟩
    have := reach_season hlg hw h3 hs hse (p := k) (by omega) (by omega)
    have := (b3 k hk.2 (by omega)).mp this
    omega
  obtain ⟨se, hse, hle⟩ := season_reach hlg hs b1 ((b3 _ b1 b2).mpr (Nat.le_refl _))
  have heq : (placesOf (endW w (l.zip se))).getD s 0 = (bst w l s : Int) := by have := low se hse; omega
  refine minL_eq ?_ fun y hy => ?_
  · rw [← heq]; exact List.mem_map.mpr ⟨se, (mem_allW l hpos se).mpr hse, rfl⟩
  · obtain ⟨se', h, rfl⟩ := List.mem_map.mp hy
    exact low se' ((mem_allW l hpos se').mp h)
end DL
set_option Elab.async false
set_option linter.all false
set_option maxRecDepth 100000
set_option autoImplicit false
/-! plain steps for dicts, while -/
namespace DL
open PySem
theorem wp_newD {i : Nat} {δ : DE} {P : Out → Prop} (hi : i < δ.length) (p : P (.nx (δ.set i (.own (.dct []))))) : wp (sNewD i) δ P := ⟨_, by unfold sNewD; rw [if_pos hi], p⟩
theorem wp_putD {i : Nat} {B A : XE} {δ : DE} {P : Out → Prop} {kvs : List (DKey × D)} {d k : D} {kk : DKey} (h0 : δ[i]? = some (.own (.dct kvs))) (h : A δ = some (.ok d)) (hk : B δ = some (.ok k)) (hkk : keyOf k = some kk) (hz : kvs.length < sz) (p : P (.nx (δ.set i (.own (.dct (putD kvs kk d)))))) : wp (sPutD i B A) δ P := by
  refine ⟨_, ?_, p⟩
  unfold sPutD
  rw [h0]
  show onE (A δ) _ = _
  rw [h, onE_ok, hk, onE_ok]
  show (match keyOf k with | some k => if kvs.length < sz then some (Out.nx (δ.set i (.own (.dct (putD kvs k d))))) else none | none => none) = _
  rw [hkk]
  exact if_pos hz
theorem wp_frzD {i : Nat} {s : XS} {δ : DE} {P : Out → Prop} {kvs : List (DKey × D)} (h0 : δ[i]? = some (.own (.dct kvs))) (p : wp s (δ.set i (.dat (.dict (kvs.map fun p => (keyD p.1, p.2))))) P) : wp (sLck i s) δ P := by
  obtain ⟨o, h1, h2⟩ := p
  refine ⟨o, ?_, h2⟩
  unfold sLck; rw [h0]; exact h1
theorem putD_new {kvs : List (DKey × D)} {k : DKey} (d : D) (h : ∀ kv ∈ kvs, kv.1 ≠ k) : putD kvs k d = kvs ++ [(k, d)] := by
  unfold putD
  rw [if_neg]
  intro z
  obtain ⟨kv, h1, h2⟩ := List.any_eq_true.mp z
  exact h kv h1 (of_decide_eq_true h2)
theorem kvGet_map {ι : Type} (key : ι → DKey) (val : ι → D) (h : ∀ a b, key a = key b → a = b) : ∀ (xs : List ι) (x : ι), x ∈ xs → kvGet (xs.map fun i => (keyD (key i), val i)) (key x) = some (val x)
  | [], _, hx => by cases hx
  | y :: xs, x, hx => by
    have ke : ∀ k : DKey, keyOf (keyD k) = some k := fun k => by cases k <;> rfl
    unfold kvGet
    rw [List.map_cons, List.find?_cons]
    by_cases e : y = x
    · subst e
      rw [show decide (keyOf (keyD (key y), val y).1 = some (key y)) = true from decide_eq_true (ke _)]
      rfl
    · rw [show decide (keyOf (keyD (key y), val y).1 = some (key x)) = false from decide_eq_false (fun w => e (h _ _ (Option.some.inj ((ke _).symm.trans w))))]
      have : x ∈ xs := by rcases List.mem_cons.mp hx with z | z; exact absurd z.symm e; exact z
      exact kvGet_map key val h xs x this
theorem wp_whGo {t : XT} {body : XS} {P : Out → Prop} (I : Nat → DE → Prop) (h : ∀ k δ, I k δ → (t δ = some (.ok false) ∧ P (.nx δ)) ∨ (t δ = some (.ok true) ∧ ∃ j, k = j + 1 ∧ wp body δ (turn (I j) P))) : ∀ (n k : Nat) (δ : DE), k < n → I k δ → wp (whGo t body n) δ P
  | 0, _, _, hk, _ => by omega
  | n + 1, k, δ, hk, hI => by
    rcases h k δ hI with ⟨h1, h2⟩ | ⟨h1, j, rfl, o, h3, h4⟩
    · exact ⟨_, by rw [whGo, h1, onE_ok]; rfl, h2⟩
    · have ih := fun δ hj => wp_whGo I h n j δ (by omega) hj
      show ∃ o', whGo t body (n + 1) δ = some o' ∧ P o'
      rw [whGo, h1, onE_ok, if_pos rfl, h3]
      cases o with
      | nx δ2 => exact ih δ2 h4
      | ct δ2 => exact ih δ2 h4
      | bk δ2 => exact ⟨_, rfl, h4⟩
      | rt d => exact ⟨_, rfl, h4⟩
      | ex c => exact ⟨_, rfl, h4⟩
theorem wp_while {t : XT} {body : XS} {P : Out → Prop} {δ : DE} (I : Nat → DE → Prop) (n k : Nat) (hk : k < n) (h0 : I k δ) (h : ∀ k δ, I k δ → (t δ = some (.ok false) ∧ P (.nx δ)) ∨ (t δ = some (.ok true) ∧ ∃ j, k = j + 1 ∧ wp body δ (turn (I j) P))) : wp (sWhile n t body) δ P := wp_whGo I h n k δ hk h0
end DL
set_option Elab.async false
set_option linter.all false
set_option maxRecDepth 100000
set_option maxHeartbeats 2000000
set_option autoImplicit false
/-! the worst place: which sides can all come above one -/
namespace DL
open PySem
structure Lq (n : Nat) (left : List Mt) : Prop where
  l : ∀ m ∈ left, m.1 < m.2.1 ∧ m.2.1 < n ∧ 0 ≤ m.2.2 ∧ m.2.2 ≤ 9
  o : left.Pairwise plt
theorem Lg.q {w : List Int} {l : List Mt} (h : Lg w l) : Lq w.length l := ⟨fun m hm => by have := h.l m hm; omega, h.o⟩
theorem Lq.tl {n : Nat} {m : Mt} {l : List Mt} (h : Lq n (m :: l)) : Lq n l := ⟨fun x hx => h.l x (by simp [hx]), (List.pairwise_cons.mp h.o).2⟩
def inA (l : List Mt) (A : List Nat) : List Mt := l.filter fun m => decide (m.1 ∈ A) && decide (m.2.1 ∈ A)
def tch (l : List Mt) (A G : List Nat) : Int := ((l.filter fun m => decide (m.1 ∈ A) && (decide (m.2.1 ∈ A) && (decide (m.1 ∈ G) || decide (m.2.1 ∈ G)))).map (·.2.2)).sum
def insd (l : List Mt) (A : List Nat) (x : Nat) : Int := ((A.filter fun y => !decide (y = x)).map fun y => btw l x y).sum
def due (w : List Int) (l : List Mt) (s : Nat) (A : List Nat) (x : Nat) : Int := max 0 (w.getD s 0 + 1 - w.getD x 0 - leftOf l x + insd l A x)
def cba (w : List Int) (l : List Mt) (s : Nat) (A : List Nat) : Bool := (grps A).all fun G => !decide (tch l A G < (G.map (due w l s A)).sum)
theorem leftOf_cons (m : Mt) (l : List Mt) (x : Nat) : leftOf (m :: l) x = (if has x m then m.2.2 else 0) + leftOf l x := by
  rw [leftOf_sum, leftOf_sum]; simp
theorem inA_cons (m : Mt) (l : List Mt) (A : List Nat) : inA (m :: l) A = if m.1 ∈ A ∧ m.2.1 ∈ A then m :: inA l A else inA l A := by
  unfold inA
  rw [List.filter_cons]
  by_cases h1 : m.1 ∈ A <;> by_cases h2 : m.2.1 ∈ A <;> simp [h1, h2]
theorem inA_mem {l : List Mt} {A : List Nat} {m : Mt} (h : m ∈ inA l A) : m ∈ l ∧ m.1 ∈ A ∧ m.2.1 ∈ A := by
  unfold inA at h
  simpa [List.mem_filter] using h
theorem inA_sub (l : List Mt) (A : List Nat) : (inA l A).Sublist l := List.filter_sublist
theorem sum_one (a : Nat) (c : Int) : ∀ B : List Nat, B.Nodup → (B.map fun y => if a = y then c else 0).sum = if a ∈ B then c else 0
  | [], _ => by simp
  | b :: B, h => by
    rw [List.nodup_cons] at h
    rw [List.map_cons, List.sum_cons, sum_one a c B h.2]
    by_cases e : a = b
    · subst e; simp [h.1]
    · simp [e]
theorem sum_add (f g : Nat → Int) : ∀ B : List Nat, (B.map fun y => f y + g y).sum = (B.map f).sum + (B.map g).sum
  | [] => by simp
  | b :: B => by simp only [List.map_cons, List.sum_cons]; rw [sum_add f g B]; omega
theorem sum_le (f g : Nat → Int) : ∀ B : List Nat, (∀ y ∈ B, f y ≤ g y) → (B.map f).sum ≤ (B.map g).sum
  | [], _ => by simp
  | b :: B, h => by
    simp only [List.map_cons, List.sum_cons]
    have := sum_le f g B fun y hy => h y (by simp [hy])
    have := h b (by simp)
    omega
theorem sum_zero (B : List Nat) : (B.map fun _ => (0 : Int)).sum = 0 := by induction B <;> simp_all
theorem sum_has (m : Mt) (hm : m.1 < m.2.1) (c : Int) (B : List Nat) (hB : B.Nodup) : (B.map fun y => if has y m then c else 0).sum = (if m.1 ∈ B then c else 0) + (if m.2.1 ∈ B then c else 0) := by
  rw [← sum_one m.1 c B hB, ← sum_one m.2.1 c B hB, ← sum_add]
  congr 1
  apply List.map_congr_left
  intro y _
  unfold has
  by_cases h1 : m.1 = y
  · have : ¬ m.2.1 = y := by omega
    simp [h1, this]
  · by_cases h2 : m.2.1 = y <;> simp [h1, h2]
theorem nodup_of_sorted {A : List Nat} (h : A.Pairwise (· < ·)) : A.Nodup := h.imp fun h => Nat.ne_of_lt h
theorem insd_eq {A : List Nat} (hA : A.Pairwise (· < ·)) {x : Nat} (hx : x ∈ A) : ∀ l : List Mt, (∀ m ∈ l, m.1 < m.2.1) → l.Pairwise plt → insd l A x = leftOf (inA l A) x := by
  intro l hl ho
  have e : insd l A x = ((A.filter fun y => !decide (y = x)).map fun y => bth l x y).sum := by
    unfold insd
    congr 1
    apply List.map_congr_left
    intro y hy
    have : y ≠ x := by have := (List.mem_filter.mp hy).2; simpa using this
    exact btw_eq (Ne.symm this) l hl ho
  rw [e]
  clear ho e
  have hB : (A.filter fun y => !decide (y = x)).Nodup := (nodup_of_sorted hA).filter _
  have mB : ∀ y, y ∈ (A.filter fun y => !decide (y = x)) ↔ y ∈ A ∧ y ≠ x := fun y => by simp
  generalize (A.filter fun y => !decide (y = x)) = B at hB mB
  induction l with
  | nil => simp [bth, inA, leftOf]; exact sum_zero B
  | cons m l ih =>
    have ih := ih fun y hy => hl y (by simp [hy])
    have h1 := hl m (by simp)
    have c : (B.map fun y => bth (m :: l) x y).sum = (B.map fun y => if has x m && has y m then m.2.2 else 0).sum + (B.map fun y => bth l x y).sum := by
      rw [← sum_add]; congr 1
    rw [c, ih, inA_cons]
    cases hh : has x m with
    | false =>
      have : (B.map fun y => if false && has y m then m.2.2 else 0) = B.map fun _ => (0 : Int) := by simp
      rw [this, sum_zero]
      by_cases hb : m.1 ∈ A ∧ m.2.1 ∈ A
      · rw [if_pos hb, leftOf_cons, hh]; simp
      · rw [if_neg hb]; omega
    | true =>
      have : (B.map fun y => if true && has y m then m.2.2 else 0) = B.map fun y => if has y m then m.2.2 else 0 := by simp
      rw [this, sum_has m h1 _ B hB]
      have hx2 : m.1 = x ∨ m.2.1 = x := by simpa [has] using hh
      by_cases hb : m.1 ∈ A ∧ m.2.1 ∈ A
      · rw [if_pos hb, leftOf_cons, hh]
        rcases hx2 with e | e
        · have n1 : m.1 ∉ B := fun z => ((mB _).mp z).2 e
          have n2 : m.2.1 ∈ B := (mB _).mpr ⟨hb.2, by omega⟩
          rw [if_neg n1, if_pos n2]; simp
        · have n1 : m.2.1 ∉ B := fun z => ((mB _).mp z).2 e
          have n2 : m.1 ∈ B := (mB _).mpr ⟨hb.1, by omega⟩
          rw [if_neg n1, if_pos n2]; simp
      · rw [if_neg hb]
        have n1 : m.1 ∉ B := fun z => by
          have := (mB _).mp z
          rcases hx2 with e | e
          · exact this.2 e
          · exact hb ⟨this.1, e ▸ hx⟩
        have n2 : m.2.1 ∉ B := fun z => by
          have := (mB _).mp z
          rcases hx2 with e | e
          · exact hb ⟨e ▸ hx, this.1⟩
          · exact this.2 e
        rw [if_neg n1, if_neg n2]; omega
/-! ### demands as losses -/
def TT (l : List Mt) (P : Nat → Bool) : Int := (l.map fun m => if P m.1 || P m.2.1 then m.2.2 else 0).sum
theorem TT_cons (m : Mt) (l : List Mt) (P : Nat → Bool) : TT (m :: l) P = (if P m.1 || P m.2.1 then m.2.2 else 0) + TT l P := by simp [TT]
theorem SS_sub (R : List Nat) (a b : Nat → Int) (P : Nat → Bool) : SS R (fun x => a x - b x) P = SS R a P - SS R b P := by
  induction R with
  | nil => simp [SS]
  | cons x R ih =>
    have c : ∀ v : Nat → Int, SS (x :: R) v P = (if P x then v x else 0) + SS R v P := fun v => by simp [SS]
    rw [c, c, c, ih]
    split <;> omega
theorem SS_left {R : List Nat} (hR : R.Pairwise (· < ·)) (P : Nat → Bool) (hP : ∀ x, P x = true → x ∈ R) : ∀ l : List Mt, (∀ m ∈ l, m.1 < m.2.1) → SS R (fun x => leftOf l x) P = TT l P + II l P := by
  intro l
  induction l with
  | nil =>
    intro _
    have : SS R (fun x => leftOf [] x) P = 0 := by
      unfold SS leftOf
      simp
      exact sum_zero R
    rw [this]; simp [TT, II]
  | cons m l ih =>
    intro hl
    have h1 := hl m (by simp)
    have ih := ih fun y hy => hl y (by simp [hy])
    rw [SS_add R hR (fun x => leftOf l x) (fun x => leftOf (m :: l) x) m.1 m.2.1 m.2.2 m.2.2 (fun x => by
      rw [leftOf_cons]
      unfold has
      by_cases e1 : m.1 = x
      · have : ¬ m.2.1 = x := by omega
        have e1' : x = m.1 := e1.symm
        have e2' : ¬ x = m.2.1 := by omega
        rw [if_pos e1', if_neg e2', if_pos (by simp [e1])]; omega
      · have e1' : ¬ x = m.1 := fun z => e1 z.symm
        by_cases e2 : m.2.1 = x
        · have e2' : x = m.2.1 := e2.symm
          rw [if_neg e1', if_pos e2', if_pos (by simp [e2])]; omega
        · have e2' : ¬ x = m.2.1 := fun z => e2 z.symm
          rw [if_neg e1', if_neg e2', if_neg (by simp [e1, e2])]; omega) P hP, ih, TT_cons, II_cons]
    cases P m.1 <;> cases P m.2.1 <;> simp <;> omega
theorem SS_at {R : List Nat} (hR : R.Pairwise (· < ·)) (v : Nat → Int) {x : Nat} (hx : x ∈ R) : SS R v (fun y => decide (y = x)) = v x := by
  have h := SS_add R hR (fun _ => 0) (fun y => if y = x then v x else 0) x x (v x) 0 (fun y => by split <;> simp) (fun y => decide (y = x)) (fun y hy => by
    have : y = x := by simpa using hy
    rw [this]; exact hx)
  have h0 : SS R (fun _ => 0) (fun y => decide (y = x)) = 0 := by
    unfold SS
    have : (R.map fun y => if decide (y = x) = true then (0 : Int) else 0) = R.map fun _ => (0 : Int) := by simp
    rw [this, sum_zero]
  rw [h0] at h
  simp at h
  rw [← h]
  unfold SS
  congr 1
  apply List.map_congr_left
  intro y _
  by_cases e : y = x
  · subst e; simp
  · simp [e]
theorem con_eq (m : Mt) (f : Int) (x : Nat) : con (m, f) x = (if x = m.1 then f else 0) + (if x = m.2.1 then m.2.2 - f else 0) := rfl
theorem conS_cons (p : Mt × Int) (ms : List (Mt × Int)) (x : Nat) : conS (p :: ms) x = con p x + conS ms x := by simp [conS]
theorem Sea_cons (m : Mt) (l : List Mt) (f : Int) (se : List Int) : Sea (m :: l) (f :: se) ↔ (0 ≤ f ∧ f ≤ m.2.2) ∧ Sea l se := by
  unfold Sea
  simp only [List.length_cons, List.zip_cons_cons, List.mem_cons, forall_eq_or_imp]
  constructor
  · rintro ⟨a, b, c⟩; exact ⟨b, by omega, c⟩
  · rintro ⟨b, a, c⟩; exact ⟨by omega, b, c⟩
theorem Sea_nil : Sea [] [] := ⟨rfl, fun x hx => by simp at hx⟩
theorem Sea.cases {m : Mt} {l : List Mt} {se : List Int} (h : Sea (m :: l) se) : ∃ f r, se = f :: r ∧ (0 ≤ f ∧ f ≤ m.2.2) ∧ Sea l r := by
  cases se with
  | nil => have := h.1; simp at this
  | cons f r => exact ⟨f, r, rfl, (Sea_cons _ _ _ _).mp h⟩
theorem okk_all {R : List Nat} (hR : R.Pairwise (· < ·)) : ∀ (l : List Mt) (v : Nat → Int), (∀ m ∈ l, 0 ≤ m.2.2) → Okk R v l → ∃ se, Sea l se ∧ ∀ x ∈ R, v x + conS (l.zip se) x ≤ 0 := by
  intro l
  induction l with
  | nil =>
    intro v _ ok
    refine ⟨[], Sea_nil, fun x hx => ?_⟩
    have := ok (fun y => decide (y = x)) (fun y hy => by
      have : y = x := by simpa using hy
      rw [this]; exact hx)
    rw [SS_at hR v hx] at this
    simp [II] at this
    simp [conS]; exact this
  | cons m l ih =>
    intro v hl ok
    obtain ⟨f, f0, f1, hf⟩ := okk_step R hR v m l (fun y hy => hl y (by simp [hy])) (hl m (by simp)) ok
    obtain ⟨se, h1, h2⟩ := ih (fun x => v x + (if x = m.1 then f else 0) + (if x = m.2.1 then m.2.2 - f else 0)) (fun y hy => hl y (by simp [hy])) (hf _ fun _ => rfl)
    refine ⟨f :: se, (Sea_cons _ _ _ _).mpr ⟨⟨f0, f1⟩, h1⟩, fun x hx => ?_⟩
    have := h2 x hx
    rw [List.zip_cons_cons, conS_cons, con_eq]
    omega
def flp (l : List Mt) (se : List Int) : List Int := (l.zip se).map fun p => p.1.2.2 - p.2
theorem flp_ok : ∀ (l : List Mt) (se : List Int), (∀ m ∈ l, m.1 < m.2.1) → Sea l se → Sea l (flp l se) ∧ ∀ x, conS (l.zip (flp l se)) x = leftOf l x - conS (l.zip se) x := by
  intro l
  induction l with
  | nil => intro se _ h; exact ⟨by unfold flp; simp; exact Sea_nil, fun x => by simp [flp, conS, leftOf]⟩
  | cons m l ih =>
    intro se hl h
    obtain ⟨f, r, rfl, h1, h2⟩ := h.cases
    obtain ⟨i1, i2⟩ := ih r (fun y hy => hl y (by simp [hy])) h2
    have hm := hl m (by simp)
    have e : flp (m :: l) (f :: r) = (m.2.2 - f) :: flp l r := by simp [flp]
    rw [e]
    refine ⟨(Sea_cons _ _ _ _).mpr ⟨by omega, i1⟩, fun x => ?_⟩
    rw [List.zip_cons_cons, List.zip_cons_cons, conS_cons, conS_cons, i2 x, leftOf_cons, con_eq, con_eq]
    unfold has
    by_cases e1 : x = m.1
    · have e2 : ¬ x = m.2.1 := by omega
      simp [e1, e2]; omega
    · by_cases e2 : x = m.2.1
      · have : ¬ m.1 = x := fun z => e1 z.symm
        simp [e2, this, hm]; omega
      · have a : ¬ m.1 = x := fun z => e1 z.symm
        have b : ¬ m.2.1 = x := fun z => e2 z.symm
        simp [e1, e2, a, b]
/-! ### a whole season of the matches of A -/
def mkSe (A : List Nat) (s : Nat) : List Mt → List Int → List Int
  | [], _ => []
  | m :: l, fs => if m.1 ∈ A ∧ m.2.1 ∈ A then fs.headD 0 :: mkSe A s l fs.tail else (if m.1 ∈ A then m.2.2 else if m.2.1 ∈ A then 0 else if m.1 = s then 0 else m.2.2) :: mkSe A s l fs
theorem mkSe_ok {A : List Nat} {s : Nat} (hs : s ∉ A) : ∀ (l : List Mt) (fs : List Int), (∀ m ∈ l, m.1 < m.2.1 ∧ 0 ≤ m.2.2) → Sea (inA l A) fs → Sea l (mkSe A s l fs) ∧ conS (l.zip (mkSe A s l fs)) s = 0 ∧ ∀ x ∈ A, conS (l.zip (mkSe A s l fs)) x = conS ((inA l A).zip fs) x + leftOf l x - leftOf (inA l A) x := by
  intro l
  induction l with
  | nil => intro fs _ _; exact ⟨Sea_nil, by simp [mkSe, conS], fun x _ => by simp [mkSe, conS, inA, leftOf]⟩
  | cons m l ih =>
    intro fs hl h
    have hm := hl m (by simp)
    rw [inA_cons] at h
    by_cases hb : m.1 ∈ A ∧ m.2.1 ∈ A
    · rw [if_pos hb] at h
      obtain ⟨f, r, rfl, h1, h2⟩ := h.cases
      obtain ⟨i1, i2, i3⟩ := ih r (fun y hy => hl y (by simp [hy])) h2
      have e : mkSe A s (m :: l) (f :: r) = f :: mkSe A s l r := by rw [mkSe, if_pos hb]; rfl
      rw [e, inA_cons, if_pos hb]
      refine ⟨(Sea_cons _ _ _ _).mpr ⟨h1, i1⟩, ?_, fun x hx => ?_⟩
      · rw [List.zip_cons_cons, conS_cons, i2, con_eq]
        have a : ¬ s = m.1 := fun z => hs (z ▸ hb.1)
        have b : ¬ s = m.2.1 := fun z => hs (z ▸ hb.2)
        simp [a, b]
      · rw [List.zip_cons_cons, List.zip_cons_cons, conS_cons, conS_cons, i3 x hx, leftOf_cons, leftOf_cons]; omega
    · rw [if_neg hb] at h
      obtain ⟨i1, i2, i3⟩ := ih fs (fun y hy => hl y (by simp [hy])) h
      have e : mkSe A s (m :: l) fs = (if m.1 ∈ A then m.2.2 else if m.2.1 ∈ A then 0 else if m.1 = s then 0 else m.2.2) :: mkSe A s l fs := by rw [mkSe, if_neg hb]
      rw [e, inA_cons, if_neg hb]
      refine ⟨(Sea_cons _ _ _ _).mpr ⟨?_, i1⟩, ?_, fun x hx => ?_⟩
      · split
        · omega
        · split
          · omega
          · split <;> omega
      · rw [List.zip_cons_cons, conS_cons, i2, con_eq]
        by_cases a : m.1 ∈ A
        · have e1 : ¬ s = m.1 := fun z => hs (z ▸ a)
          rw [if_pos a, if_neg e1]
          simp
        · rw [if_neg a]
          by_cases b : m.2.1 ∈ A
          · have e2 : ¬ s = m.2.1 := fun z => hs (z ▸ b)
            rw [if_pos b, if_neg e2]; simp
          · rw [if_neg b]
            by_cases c : m.1 = s
            · have e2 : ¬ s = m.2.1 := by omega
              rw [if_pos c, if_neg e2]; simp
            · have c' : ¬ s = m.1 := fun z => c z.symm
              rw [if_neg c, if_neg c']; simp
      · rw [List.zip_cons_cons, conS_cons, i3 x hx, leftOf_cons, con_eq]
        unfold has
        by_cases a : m.1 ∈ A
        · rw [if_pos a]
          have b : m.2.1 ∉ A := fun z => hb ⟨a, z⟩
          have e2 : ¬ x = m.2.1 := fun z => b (z ▸ hx)
          have e2' : ¬ m.2.1 = x := fun z => e2 z.symm
          by_cases e1 : m.1 = x
          · have e1' : x = m.1 := e1.symm
            rw [if_pos e1', if_neg e2, if_pos (by simp [e1])]; omega
          · have e1' : ¬ x = m.1 := fun z => e1 z.symm
            simp [e1, e2, e2', e1']
        · rw [if_neg a]
          have e1 : ¬ x = m.1 := fun z => a (z ▸ hx)
          have e1' : ¬ m.1 = x := fun z => e1 z.symm
          by_cases b : m.2.1 ∈ A
          · rw [if_pos b]
            by_cases e2 : m.2.1 = x
            · have e2' : x = m.2.1 := e2.symm
              rw [if_neg e1, if_pos e2', if_pos (by simp [e2])]; omega
            · have e2' : ¬ x = m.2.1 := fun z => e2 z.symm
              simp [e1, e1', e2, e2']
          · have e2 : ¬ x = m.2.1 := fun z => b (z ▸ hx)
            have e2' : ¬ m.2.1 = x := fun z => e2 z.symm
            simp [e1, e1', e2, e2']
/-! ### the other way -/
def cA (A : List Nat) (ms : List (Mt × Int)) (x : Nat) : Int := (ms.map fun p => if p.1.1 ∈ A ∧ p.1.2.1 ∈ A then con p x else 0).sum
theorem cA_ok {A : List Nat} (x : Nat) : ∀ (l : List Mt) (se : List Int), (∀ m ∈ l, m.1 < m.2.1 ∧ 0 ≤ m.2.2) → Sea l se → 0 ≤ cA A (l.zip se) x ∧ 0 ≤ conS (l.zip se) x ∧ conS (l.zip se) x ≤ cA A (l.zip se) x + leftOf l x - leftOf (inA l A) x := by
  intro l
  induction l with
  | nil => intro se _ _; simp [cA, conS, inA, leftOf]
  | cons m l ih =>
    intro se hl h
    have hm := hl m (by simp)
    obtain ⟨f, r, rfl, h1, h2⟩ := h.cases
    obtain ⟨i1, i2, i3⟩ := ih r (fun y hy => hl y (by simp [hy])) h2
    have c : cA A ((m :: l).zip (f :: r)) x = (if m.1 ∈ A ∧ m.2.1 ∈ A then con (m, f) x else 0) + cA A (l.zip r) x := by simp [cA]
    have b : 0 ≤ con (m, f) x ∧ con (m, f) x ≤ if has x m then m.2.2 else 0 := by
      rw [con_eq]
      unfold has
      by_cases e1 : x = m.1
      · have e2 : ¬ x = m.2.1 := by omega
        have e1' : m.1 = x := e1.symm
        simp [e2, e1']; omega
      · have e1' : ¬ m.1 = x := fun z => e1 z.symm
        by_cases e2 : x = m.2.1
        · have e2' : m.2.1 = x := e2.symm
          simp [e1, e1', e2']; omega
        · have e2' : ¬ m.2.1 = x := fun z => e2 z.symm
          simp [e1, e1', e2, e2']
    rw [c, List.zip_cons_cons, conS_cons, leftOf_cons, inA_cons]
    by_cases hb : m.1 ∈ A ∧ m.2.1 ∈ A
    · rw [if_pos hb, if_pos hb, leftOf_cons]
      refine ⟨by omega, by omega, by omega⟩
    · rw [if_neg hb, if_neg hb]
      refine ⟨by omega, by omega, by omega⟩
theorem cA_tch {A G : List Nat} (hG : G.Nodup) : ∀ (l : List Mt) (se : List Int), (∀ m ∈ l, m.1 < m.2.1 ∧ 0 ≤ m.2.2) → Sea l se → (G.map (cA A (l.zip se))).sum ≤ tch l A G := by
  intro l
  induction l with
  | nil =>
    intro se _ _
    have : (G.map (cA A (([] : List Mt).zip se))) = G.map fun _ => (0 : Int) := by simp [cA]
    rw [this, sum_zero]; simp [tch]
  | cons m l ih =>
    intro se hl h
    have hm := hl m (by simp)
    obtain ⟨f, r, rfl, h1, h2⟩ := h.cases
    have i1 := ih r (fun y hy => hl y (by simp [hy])) h2
    have c : (G.map (cA A ((m :: l).zip (f :: r)))).sum = (G.map fun x => if m.1 ∈ A ∧ m.2.1 ∈ A then con (m, f) x else 0).sum + (G.map (cA A (l.zip r))).sum := by
      rw [← sum_add]; congr 1
    have t : tch (m :: l) A G = (if m.1 ∈ A ∧ m.2.1 ∈ A ∧ (m.1 ∈ G ∨ m.2.1 ∈ G) then m.2.2 else 0) + tch l A G := by
      unfold tch
      rw [List.filter_cons]
      by_cases z : m.1 ∈ A ∧ m.2.1 ∈ A ∧ (m.1 ∈ G ∨ m.2.1 ∈ G)
      · rw [if_pos z, if_pos (by simpa using z)]; simp
      · rw [if_neg z, if_neg (by simpa using z)]; omega
    rw [c, t]
    by_cases hb : m.1 ∈ A ∧ m.2.1 ∈ A
    · have e : (G.map fun x => if m.1 ∈ A ∧ m.2.1 ∈ A then con (m, f) x else 0).sum = (if m.1 ∈ G then f else 0) + (if m.2.1 ∈ G then m.2.2 - f else 0) := by
        rw [← sum_one m.1 f G hG, ← sum_one m.2.1 (m.2.2 - f) G hG, ← sum_add]
        congr 1
        apply List.map_congr_left
        intro x _
        rw [if_pos hb, con_eq]
        have a1 : (x = m.1) = (m.1 = x) := propext eq_comm
        have a2 : (x = m.2.1) = (m.2.1 = x) := propext eq_comm
        simp only [a1, a2]
      rw [e]
      by_cases g1 : m.1 ∈ G <;> by_cases g2 : m.2.1 ∈ G <;> simp [hb, g1, g2] <;> omega
    · have e : (G.map fun x => if m.1 ∈ A ∧ m.2.1 ∈ A then con (m, f) x else 0).sum = 0 := by
        have : (G.map fun x => if m.1 ∈ A ∧ m.2.1 ∈ A then con (m, f) x else 0) = G.map fun _ => (0 : Int) := List.map_congr_left fun x _ => if_neg hb
        rw [this, sum_zero]
      rw [e, if_neg (fun z => hb ⟨z.1, z.2.1⟩)]; omega
theorem TT_tch (l : List Mt) (A : List Nat) (P : Nat → Bool) (G : List Nat) (h : ∀ x, P x = decide (x ∈ G)) : TT (inA l A) P = tch l A G := by
  induction l with
  | nil => rfl
  | cons m l ih =>
    have t : tch (m :: l) A G = (if m.1 ∈ A ∧ m.2.1 ∈ A ∧ (m.1 ∈ G ∨ m.2.1 ∈ G) then m.2.2 else 0) + tch l A G := by
      unfold tch
      rw [List.filter_cons]
      by_cases z : m.1 ∈ A ∧ m.2.1 ∈ A ∧ (m.1 ∈ G ∨ m.2.1 ∈ G)
      · rw [if_pos z, if_pos (by simpa using z)]; simp
      · rw [if_neg z, if_neg (by simpa using z)]; omega
    rw [t, inA_cons]
    by_cases hb : m.1 ∈ A ∧ m.2.1 ∈ A
    · rw [if_pos hb, TT_cons, ih, h, h]
      by_cases g1 : m.1 ∈ G <;> by_cases g2 : m.2.1 ∈ G <;> simp [hb, g1, g2]
    · rw [if_neg hb, ih, if_neg (fun z => hb ⟨z.1, z.2.1⟩)]; omega
theorem SS_due (R : List Nat) (v : Nat → Int) (P : Nat → Bool) : SS R v P = ((R.filter P).map v).sum := by
  induction R with
  | nil => rfl
  | cons x R ih =>
    have c : SS (x :: R) v P = (if P x then v x else 0) + SS R v P := by simp [SS]
    rw [c, ih, List.filter_cons]
    split <;> simp
/-- THE RULE: all of A can come above s -/
theorem cba_iff {w : List Int} {l : List Mt} (hq : Lq w.length l) {s : Nat} {A : List Nat} (hA : A.Pairwise (· < ·)) (hs : s ∉ A) :
    cba w l s A = true ↔ ∃ se, Sea l se ∧ ∀ x ∈ A, (endW w (l.zip se)).getD s 0 < (endW w (l.zip se)).getD x 0 := by
  have hlt : ∀ m ∈ l, m.1 < m.2.1 := fun m hm => (hq.l m hm).1
  have hl2 : ∀ m ∈ l, m.1 < m.2.1 ∧ 0 ≤ m.2.2 := fun m hm => by have := hq.l m hm; omega
  have hin : ∀ m ∈ l, m.1 < w.length ∧ m.2.1 < w.length := fun m hm => by have := hq.l m hm; omega
  unfold cba
  rw [List.all_eq_true]
  constructor
  · intro h
    have ok : Okk A (fun x => due w l s A x - leftOf (inA l A) x) (inA l A) := by
      intro P hP
      rw [SS_sub, SS_left hA P hP (inA l A) (fun m hm => hlt m (inA_mem hm).1), SS_due]
      have e : ∀ x, P x = decide (x ∈ A.filter P) := by
        intro x
        cases hp : P x with
        | true => have := hP x hp; simp [this, hp]
        | false => simp [hp]
      rw [TT_tch l A P _ e]
      by_cases hne : A.filter P = []
      · rw [hne]
        have : 0 ≤ tch l A [] := by unfold tch; rw [List.filter_eq_nil_iff.mpr (by simp)]; simp
        simp; omega
      · have := h _ ((mem_grps A hA _).mpr ⟨hne, List.Pairwise.filter _ hA, fun x hx => (List.mem_filter.mp hx).1⟩)
        simp at this
        omega
    obtain ⟨se, s1, s2⟩ := okk_all hA (inA l A) _ (fun m hm => (hl2 m (inA_mem hm).1).2) ok
    obtain ⟨f1, f2⟩ := flp_ok (inA l A) se (fun m hm => hlt m (inA_mem hm).1) s1
    obtain ⟨m1, m2, m3⟩ := mkSe_ok hs l (flp (inA l A) se) hl2 f1
    refine ⟨_, m1, fun x hx => ?_⟩
    rw [ended_getD hin, ended_getD hin, m2, m3 x hx, f2 x]
    have h2 := s2 x hx
    unfold due at h2
    rw [insd_eq hA hx l hlt hq.o] at h2
    omega
  · rintro ⟨se, hse, hgt⟩ G hG
    obtain ⟨g1, g2, g3⟩ := (mem_grps A hA G).mp hG
    have t := cA_tch (A := A) (nodup_of_sorted g2) l se hl2 hse
    have u := sum_le (due w l s A) (cA A (l.zip se)) G fun x hx => by
      have hx := g3 x hx
      have k := hgt x hx
      rw [ended_getD hin, ended_getD hin] at k
      obtain ⟨c1, c2, c3⟩ := cA_ok (A := A) x l se hl2 hse
      obtain ⟨_, d2, _⟩ := cA_ok (A := A) s l se hl2 hse
      unfold due
      rw [insd_eq hA hx l hlt hq.o]
      omega
    simp
    omega
def anyA (w : List Int) (l : List Mt) (s k : Nat) : Bool := (ch (oth w.length s) k).any (cba w l s)
def wst (w : List Int) (l : List Mt) (s : Nat) : Nat := (((List.range (oth w.length s).length).map fun i => (oth w.length s).length - i).find? (anyA w l s)).getD 0 + 1
def pl (W : List Int) (s : Nat) : Int := (placesOf W).getD s 0
theorem Sea_zero (l : List Mt) (h : ∀ m ∈ l, 0 ≤ m.2.2) : Sea l (l.map fun _ => 0) := by
  refine ⟨by simp, fun x hx => ?_⟩
  obtain ⟨i, hi, e⟩ := List.mem_iff_getElem.mp hx
  subst e
  simp at hi
  simp
  exact h _ (List.getElem_mem _)
theorem filter_above {W : List Int} {s : Nat} {A : List Nat} (hA : A.Pairwise (· < ·)) (h : ∀ x ∈ A, x < W.length ∧ W.getD s 0 < W.getD x 0) : A.length ≤ ((List.range W.length).filter fun i => decide (W.getD s 0 < W.getD i 0)).length := by
  refine List.Nodup.length_le_of_subset (nodup_of_sorted hA) fun x hx => ?_
  have := h x hx
  exact List.mem_filter.mpr ⟨by simpa using this.1, decide_eq_true this.2⟩
theorem pl_eq {W : List Int} {s : Nat} (hs : s < W.length) : pl W s = 1 + (((List.range W.length).filter fun i => decide (W.getD s 0 < W.getD i 0)).length : Int) := placesOf_get hs
theorem wst_ok {w : List Int} {l : List Mt} (hq : Lq w.length l) {s : Nat} (hs : s < w.length) : 1 ≤ wst w l s ∧ wst w l s ≤ w.length ∧ ∀ p : Nat, p < wst w l s ↔ ∃ se, Sea l se ∧ (p : Int) < pl (endW w (l.zip se)) s := by
  have hpos : ∀ m ∈ l, 0 ≤ m.2.2 := fun m hm => (hq.l m hm).2.2.1
  have hK := oth_length w.length s hs
  have up : ∀ k, anyA w l s k = true → ∃ se, Sea l se ∧ (k : Int) < pl (endW w (l.zip se)) s := by
    intro k hk
    obtain ⟨A, hA, hc⟩ := List.any_eq_true.mp hk
    obtain ⟨a1, a2, a3⟩ := (mem_ch _ _ _).mp hA
    have hsA : s ∉ A := fun z => ((mem_oth _ _ _).mp (a3 s z)).2 rfl
    obtain ⟨se, s1, s2⟩ := (cba_iff hq a2 hsA).mp hc
    refine ⟨se, s1, ?_⟩
    have hlW : (endW w (l.zip se)).length = w.length := endW_length _ _
    rw [pl_eq (by rw [hlW]; exact hs)]
    have := filter_above (W := endW w (l.zip se)) (s := s) a2 fun x hx => ⟨by rw [hlW]; exact ((mem_oth _ _ _).mp (a3 x hx)).1, s2 x hx⟩
    omega
  have dn : ∀ se, Sea l se → ∃ k : Nat, pl (endW w (l.zip se)) s = 1 + (k : Int) ∧ k ≤ (oth w.length s).length ∧ anyA w l s k = true := by
    intro se hse
    have hlW : (endW w (l.zip se)).length = w.length := endW_length _ _
    rw [pl_eq (by rw [hlW]; exact hs)]
    generalize hA : (List.range (endW w (l.zip se)).length).filter (fun i => decide ((endW w (l.zip se)).getD s 0 < (endW w (l.zip se)).getD i 0)) = A
    have hp : A.Pairwise (· < ·) := by rw [← hA]; exact List.Pairwise.filter _ List.pairwise_lt_range
    have hm : ∀ x ∈ A, (x < w.length ∧ x ≠ s) ∧ (endW w (l.zip se)).getD s 0 < (endW w (l.zip se)).getD x 0 := fun x hx => by
      rw [← hA] at hx
      obtain ⟨a, b⟩ := List.mem_filter.mp hx
      have b := of_decide_eq_true b
      exact ⟨⟨by rw [← hlW]; simpa using a, fun e => by subst e; omega⟩, b⟩
    have hsub : ∀ x ∈ A, x ∈ oth w.length s := fun x hx => (mem_oth _ _ _).mpr (hm x hx).1
    refine ⟨A.length, rfl, List.Nodup.length_le_of_subset (nodup_of_sorted hp) hsub, ?_⟩
    exact List.any_eq_true.mpr ⟨A, (mem_ch _ _ _).mpr ⟨rfl, hp, hsub⟩, (cba_iff hq hp (fun z => (hm s z).1.2 rfl)).mpr ⟨se, hse, fun x hx => (hm x hx).2⟩⟩
  have shape : ∀ (N K : Nat), K ≤ N → (∀ k, anyA w l s k = true → K < k → N < k) → True := fun _ _ _ _ => trivial
  unfold wst
  generalize hK' : (oth w.length s).length = K at *
  cases hf : ((List.range K).map fun i => K - i).find? (anyA w l s) with
  | none =>
    rw [List.find?_eq_none] at hf
    have hno : ∀ k, 1 ≤ k → k ≤ K → anyA w l s k = false := fun k h1 h2 => by
      have := hf k (List.mem_map.mpr ⟨K - k, by simp; omega, by omega⟩)
      simpa using this
    refine ⟨by simp, by simp; omega, fun p => ?_⟩
    show p < 0 + 1 ↔ _
    constructor
    · intro hp
      refine ⟨_, Sea_zero l hpos, ?_⟩
      have hlW : (endW w (l.zip (l.map fun _ => (0 : Int)))).length = w.length := endW_length _ _
      rw [pl_eq (by rw [hlW]; exact hs)]
      omega
    · rintro ⟨se, h1, h2⟩
      obtain ⟨k, k1, k2, k3⟩ := dn se h1
      by_cases hk0 : k = 0
      · omega
      · rw [hno k (by omega) k2] at k3; cases k3
  | some j =>
    obtain ⟨hj1, pre, post, hj2, hj3⟩ := List.find?_eq_some_iff_append.mp hf
    have hjm : j ∈ (List.range K).map fun i => K - i := by rw [hj2]; simp
    obtain ⟨i, hi, rfl⟩ := List.mem_map.mp hjm
    have hi : i < K := by simpa using hi
    have hmax : ∀ k, K - i < k → k ≤ K → anyA w l s k = false := fun k h1 h2 => by
      have hk : k ∈ (List.range K).map fun i => K - i := List.mem_map.mpr ⟨K - k, by simp; omega, by omega⟩
      have hd : ((List.range K).map fun i => K - i).Pairwise (· > ·) := by
        rw [List.pairwise_map]
        refine List.Pairwise.imp_of_mem ?_ List.pairwise_lt_range
        intro a b ha hb hab
        simp at ha hb
        show K - b < K - a
        omega
      rw [hj2] at hk hd
      rcases List.mem_append.mp hk with hk | hk
      · have := hj3 k hk; simpa using this
      · rcases List.mem_cons.mp hk with e | hk
        · omega
        · have := (List.pairwise_cons.mp (List.pairwise_append.mp hd).2.1).1 k hk
          omega
    refine ⟨by simp, by simp; omega, fun p => ?_⟩
    show p < K - i + 1 ↔ _
    constructor
    · intro hp
      obtain ⟨se, s1, s2⟩ := up _ hj1
      exact ⟨se, s1, by omega⟩
    · rintro ⟨se, h1, h2⟩
      obtain ⟨k, k1, k2, k3⟩ := dn se h1
      by_cases hk0 : K - i < k
      · rw [hmax k hk0 k2] at k3; cases k3
      · omega
theorem maxL_sp (xs : List Int) : ∀ x : Int, (xs.foldl (fun m y => if m < y then y else m) x ∈ x :: xs) ∧ ∀ y ∈ x :: xs, y ≤ xs.foldl (fun m y => if m < y then y else m) x := by
  induction xs with
  | nil => intro x; simp
  | cons z xs ih =>
    intro x
    simp only [List.foldl_cons]
    by_cases h : x < z
    · rw [if_pos h]
      obtain ⟨h1, h2⟩ := ih z
      refine ⟨List.mem_cons_of_mem _ h1, fun y hy => ?_⟩
      rcases List.mem_cons.mp hy with rfl | hy
      · have := h2 z (by simp); omega
      · exact h2 y hy
    · rw [if_neg h]
      obtain ⟨h1, h2⟩ := ih x
      refine ⟨?_, fun y hy => ?_⟩
      · rcases List.mem_cons.mp h1 with e | e
        · rw [e]; simp
        · simp [e]
      · rcases List.mem_cons.mp hy with rfl | hy
        · exact h2 _ (by simp)
        · rcases List.mem_cons.mp hy with rfl | hy
          · have := h2 x (by simp); omega
          · exact h2 y (by simp [hy])
theorem maxL_eq {xs : List Int} {m : Int} (hm : m ∈ xs) (h : ∀ y ∈ xs, y ≤ m) : maxL xs = some m := by
  cases xs with
  | nil => cases hm
  | cons x xs =>
    obtain ⟨h1, h2⟩ := maxL_sp xs x
    show some _ = some m
    congr 1
    have := h _ h1
    have := h2 m hm
    omega
theorem pl_nat {W : List Int} {s : Nat} (hs : s < W.length) : ∃ k : Nat, pl W s = (k : Int) ∧ 1 ≤ k := ⟨1 + ((List.range W.length).filter fun i => decide (W.getD s 0 < W.getD i 0)).length, by rw [pl_eq hs]; omega, by omega⟩
theorem worst_seasons {w : List Int} {l : List Mt} (hq : Lq w.length l) {s : Nat} (hs : s < w.length) : maxL ((allW l).map fun se => pl (endW w (l.zip se)) s) = some (wst w l s : Int) := by
  have hpos : ∀ m ∈ l, 0 ≤ m.2.2 := fun m hm => (hq.l m hm).2.2.1
  obtain ⟨b1, b2, b3⟩ := wst_ok hq hs
  have high : ∀ se, Sea l se → pl (endW w (l.zip se)) s ≤ (wst w l s : Int) := by
    intro se hse
    obtain ⟨k, k1, k2⟩ := pl_nat (W := endW w (l.zip se)) (s := s) (by rw [endW_length]; exact hs)
    apply Classical.byContradiction
    intro hn
    have := (b3 (wst w l s)).mpr ⟨se, hse, by omega⟩
    omega
  obtain ⟨se, hse, hle⟩ := (b3 (wst w l s - 1)).mp (by omega)
  have heq : pl (endW w (l.zip se)) s = (wst w l s : Int) := by have := high se hse; omega
  refine maxL_eq ?_ fun y hy => ?_
  · rw [← heq]; exact List.mem_map.mpr ⟨se, (mem_allW l hpos se).mpr hse, rfl⟩
  · obtain ⟨se', h, rfl⟩ := List.mem_map.mp hy
    exact high se' ((mem_allW l hpos se').mp h)
/-! ### the first season behind a place -/
theorem fold_wStep (l : List Mt) : ∀ rows, l.foldl wStep rows = rows.flatMap fun r => (allW l).map fun t => r ++ t := by
  induction l using snoc_ind with
  | h0 => intro rows; simp [allW]
  | h1 l m ih =>
    intro rows
    rw [List.foldl_append, ih rows, allW_snoc]
    simp only [List.foldl_cons, List.foldl_nil, wStep]
    rw [List.flatMap_assoc]
    apply flatMap_congr'
    intro r _
    rw [List.flatMap_map, List.map_flatMap]
    apply flatMap_congr'
    intro t _
    rw [List.map_map]
    apply List.map_congr_left
    intro f _
    simp
theorem allW_cons (m : Mt) (l : List Mt) : allW (m :: l) = (List.range (m.2.2 + 1).toNat).flatMap fun (f : Nat) => (allW l).map fun t => (f : Int) :: t := by
  show l.foldl wStep (wStep [[]] m) = _
  rw [fold_wStep]
  unfold wStep
  simp [List.flatMap_map]
def bf (w : List Int) (m : Mt) (f : Int) : List Int := endW w [(m, f)]
def agnF (w : List Int) (s p : Nat) (m : Mt) (l : List Mt) : Int := ((((List.range (m.2.2 + 1).toNat).find? fun (f : Nat) => decide (p < wst (bf w m (f : Int)) l s)).getD 0 : Nat) : Int)
def agn (s p : Nat) : List Int → List Mt → List Int
  | _, [] => []
  | w, m :: l => agnF w s p m l :: agn s p (bf w m (agnF w s p m l)) l
theorem bf_length (w : List Int) (m : Mt) (f : Int) : (bf w m f).length = w.length := endW_length _ _
theorem endW_cons (w : List Int) (m : Mt) (f : Int) (ms : List (Mt × Int)) : endW w ((m, f) :: ms) = endW (bf w m f) ms := rfl
theorem agn_first {s p : Nat} : ∀ (l : List Mt) (w : List Int), Lq w.length l → s < w.length → p < wst w l s → (allW l).find? (fun se => decide ((p : Int) < pl (endW w (l.zip se)) s)) = some (agn s p w l) := by
  intro l
  induction l with
  | nil =>
    intro w hq hs h
    obtain ⟨se, h1, h2⟩ := ((wst_ok hq hs).2.2 p).mp h
    have : se = [] := by have := h1.1; simpa using this
    subst this
    show List.find? _ [[]] = _
    rw [List.find?_cons, decide_eq_true h2]
    rfl
  | cons m l ih =>
    intro w hq hs h
    have hpos : ∀ m ∈ l, 0 ≤ m.2.2 := fun m hm => (hq.tl.l m hm).2.2.1
    have hm0 := (hq.l m (by simp)).2.2.1
    have key : ∀ f : Nat, (p < wst (bf w m (f : Int)) l s) ↔ ∃ se, Sea l se ∧ (p : Int) < pl (endW w ((m :: l).zip ((f : Int) :: se))) s := fun f => by
      have hq' : Lq (bf w m (f : Int)).length l := by rw [bf_length]; exact hq.tl
      rw [(wst_ok hq' (by rw [bf_length]; exact hs)).2.2 p]
      rfl
    have ex : ∃ f ∈ List.range (m.2.2 + 1).toNat, (fun (f : Nat) => decide (p < wst (bf w m (f : Int)) l s)) f = true := by
      obtain ⟨se, h1, h2⟩ := ((wst_ok hq hs).2.2 p).mp h
      obtain ⟨f, r, rfl, h3, h4⟩ := h1.cases
      refine ⟨f.toNat, by simp; omega, ?_⟩
      have e : ((f.toNat : Nat) : Int) = f := by omega
      simp only [decide_eq_true_eq]
      exact (key f.toNat).mpr ⟨r, h4, by rw [e]; exact h2⟩
    cases hf : (List.range (m.2.2 + 1).toNat).find? (fun (f : Nat) => decide (p < wst (bf w m (f : Int)) l s)) with
    | none =>
      obtain ⟨f, f1, f2⟩ := ex
      have := List.find?_eq_none.mp hf f f1
      exact absurd f2 this
    | some f =>
      have hF : agnF w s p m l = (f : Int) := by unfold agnF; rw [hf]; rfl
      have hsp := List.find?_some hf
      have hsp : p < wst (bf w m (f : Int)) l s := by simpa using hsp
      rw [agn, hF, allW_cons]
      refine find_flat hf (fun f' hf' hn se hse => ?_) ?_
      · obtain ⟨t, ht, rfl⟩ := List.mem_map.mp hse
        have ht := (mem_allW l hpos t).mp ht
        simp only [decide_eq_false_iff_not] at hn ⊢
        exact fun z => hn ((key f').mpr ⟨t, ht, z⟩)
      · rw [List.find?_map]
        have := ih (bf w m (f : Int)) (by rw [bf_length]; exact hq.tl) (by rw [bf_length]; exact hs) hsp
        have e : ((fun se => decide ((p : Int) < pl (endW w ((m :: l).zip se)) s)) ∘ fun t => (f : Int) :: t) = fun se => decide ((p : Int) < pl (endW (bf w m (f : Int)) (l.zip se)) s) := rfl
        rw [e, this]
        rfl
theorem agn_none {s p : Nat} {w : List Int} {l : List Mt} (hq : Lq w.length l) (hs : s < w.length) (h : ¬ p < wst w l s) : (allW l).find? (fun se => decide ((p : Int) < pl (endW w (l.zip se)) s)) = none := by
  have hpos : ∀ m ∈ l, 0 ≤ m.2.2 := fun m hm => (hq.l m hm).2.2.1
  rw [List.find?_eq_none]
  intro se hse hd
  exact h (((wst_ok hq hs).2.2 p).mpr ⟨se, (mem_allW l hpos se).mp hse, by simpa using hd⟩)
end DL
set_option Elab.async false
set_option linter.all false
set_option maxRecDepth 100000
set_option maxHeartbeats 2000000
set_option autoImplicit false
/-! a match played: its seasons are seasons of the league ahead of it -/
namespace DL
open PySem
theorem playL_cons (a b : Nat) (m : Mt) (l : List Mt) : playL a b (m :: l) = if 0 < (lessOne a b m).2.2 then lessOne a b m :: playL a b l else playL a b l := by
  unfold playL
  rw [List.map_cons, List.filter_cons]
  by_cases h : 0 < (lessOne a b m).2.2
  · rw [if_pos h, if_pos (by simpa using h)]
  · rw [if_neg h, if_neg (by simpa using h)]
theorem sea_back {a b c : Nat} (hab : a ≠ b) (hc : c = a ∨ c = b) : ∀ (l : List Mt) (se' : List Int), (∀ m ∈ l, m.1 < m.2.1 ∧ 1 ≤ m.2.2) → l.Pairwise plt → (a, b) ∈ l.map mp → Sea (playL a b l) se' →
    ∃ se, Sea l se ∧ ∀ x, conS (l.zip se) x = (if x = c then 1 else 0) + conS ((playL a b l).zip se') x := by
  intro l
  induction l with
  | nil => intro se' _ _ h; simp at h
  | cons m l ih =>
    intro se' hl ho hm hs
    have h1 := hl m (by simp)
    rw [List.pairwise_cons] at ho
    rw [playL_cons] at hs ⊢
    by_cases e : mp m = (a, b)
    · have ea : m.1 = a := congrArg Prod.fst e
      have eb : m.2.1 = b := congrArg Prod.snd e
      have hid : playL a b l = l := playL_id a b l (fun x hx z => plt_mp (ho.1 x hx) (e.trans z.symm)) (fun x hx => (hl x (by simp [hx])).2)
      have hle : lessOne a b m = (m.1, m.2.1, m.2.2 - 1) := by unfold lessOne; rw [if_pos (by rw [ea, eb])]
      rw [hid, hle] at hs ⊢
      by_cases hp : 0 < m.2.2 - 1
      · rw [if_pos (show 0 < ((m.1, m.2.1, m.2.2 - 1) : Mt).2.2 from hp)] at hs ⊢
        obtain ⟨f, r, rfl, h3, h4⟩ := hs.cases
        have h3 : 0 ≤ f ∧ f ≤ m.2.2 - 1 := h3
        refine ⟨(if c = a then f + 1 else f) :: r, (Sea_cons _ _ _ _).mpr ⟨by split <;> omega, h4⟩, fun x => ?_⟩
        rw [List.zip_cons_cons, List.zip_cons_cons, conS_cons, conS_cons, con_eq, con_eq]
        show (if x = m.1 then _ else 0) + (if x = m.2.1 then _ else 0) + _ = (if x = c then 1 else 0) + ((if x = m.1 then f else 0) + (if x = m.2.1 then m.2.2 - 1 - f else 0) + _)
        rw [ea, eb]
        rcases hc with rfl | rfl
        · rw [if_pos rfl]
          by_cases x1 : x = c
          · have x2 : ¬ x = b := fun z => hab (x1.symm.trans z)
            simp only [if_pos x1, if_neg x2]; omega
          · simp only [if_neg x1]
            split <;> omega
        · rw [if_neg (Ne.symm hab)]
          by_cases x1 : x = c
          · have x2 : ¬ x = a := fun z => hab (z.symm.trans x1)
            simp only [if_pos x1, if_neg x2]; omega
          · simp only [if_neg x1]
            split <;> omega
      · rw [if_neg (show ¬ 0 < ((m.1, m.2.1, m.2.2 - 1) : Mt).2.2 from hp)] at hs ⊢
        refine ⟨(if c = a then 1 else 0) :: se', (Sea_cons _ _ _ _).mpr ⟨by split <;> omega, hs⟩, fun x => ?_⟩
        rw [List.zip_cons_cons, conS_cons, con_eq, ea, eb]
        have hm1 : m.2.2 = 1 := by omega
        rw [hm1]
        rcases hc with rfl | rfl
        · rw [if_pos rfl]
          by_cases x1 : x = c
          · have x2 : ¬ x = b := fun z => hab (x1.symm.trans z)
            simp only [if_pos x1, if_neg x2]; omega
          · simp only [if_neg x1]
            split <;> omega
        · rw [if_neg (Ne.symm hab)]
          by_cases x1 : x = c
          · have x2 : ¬ x = a := fun z => hab (z.symm.trans x1)
            simp only [if_pos x1, if_neg x2]; omega
          · simp only [if_neg x1]
            split <;> omega
    · have hle : lessOne a b m = m := by
        unfold lessOne
        have : ¬ (m.1, m.2.1) = (a, b) := e
        rw [if_neg this]
        simp
      rw [hle, if_pos (by omega)] at hs ⊢
      obtain ⟨f, r, rfl, h3, h4⟩ := hs.cases
      have hm' : (a, b) ∈ l.map mp := by
        rw [List.map_cons] at hm
        rcases List.mem_cons.mp hm with z | z
        · exact absurd z.symm e
        · exact z
      obtain ⟨se, s1, s2⟩ := ih r (fun x hx => hl x (by simp [hx])) ho.2 hm' h4
      refine ⟨f :: se, (Sea_cons _ _ _ _).mpr ⟨h3, s1⟩, fun x => ?_⟩
      rw [List.zip_cons_cons, List.zip_cons_cons, conS_cons, conS_cons, s2 x]; omega
theorem sea_played {w : List Int} {l : List Mt} {a b c : Nat} (hlg : Lg w l) (hm : (a, b) ∈ l.map mp) (hc : c = a ∨ c = b) {se' : List Int} (hs : Sea (playL a b l) se') :
    ∃ se, Sea l se ∧ endW w (l.zip se) = endW (wb w c 1) ((playL a b l).zip se') := by
  obtain ⟨m, hml, e⟩ := List.mem_map.mp hm
  have ea : m.1 = a := congrArg Prod.fst e
  have eb : m.2.1 = b := congrArg Prod.snd e
  have hq := hlg.l m hml
  have hcw : c < w.length := by rcases hc with rfl | rfl <;> omega
  obtain ⟨se, s1, s2⟩ := sea_back (a := a) (b := b) (c := c) (by omega) hc l se' (fun x hx => by have := hlg.l x hx; omega) hlg.o hm hs
  have hin : ∀ m ∈ l, m.1 < w.length ∧ m.2.1 < w.length := fun m hm => by have := hlg.l m hm; omega
  have hin' : ∀ m ∈ playL a b l, m.1 < (wb w c 1).length ∧ m.2.1 < (wb w c 1).length := fun m hm => by
    unfold playL at hm
    obtain ⟨y, hy, rfl⟩ := List.mem_map.mp (List.mem_filter.mp hm).1
    have := hin y hy
    simp
    exact this
  refine ⟨se, s1, ext_getD (by rw [endW_length, endW_length]; simp) fun x => ?_⟩
  rw [ended_getD hin, ended_getD hin', s2 x, wb_getD _ _ _ hcw]; omega
theorem lq_played {w : List Int} {l : List Mt} {a b c : Nat} (hlg : Lg w l) : Lq (wb w c 1).length (playL a b l) := by
  refine ⟨fun m hm => ?_, ?_⟩
  · unfold playL at hm
    obtain ⟨h1, h2⟩ := List.mem_filter.mp hm
    obtain ⟨y, hy, rfl⟩ := List.mem_map.mp h1
    have := hlg.l y hy
    simp
    unfold lessOne
    simp only
    split <;> omega
  · unfold playL
    refine List.Pairwise.filter _ ?_
    rw [List.pairwise_map]
    exact hlg.o.imp fun h => h
theorem wst_played {w : List Int} {l : List Mt} {a b c s : Nat} (hlg : Lg w l) (hm : (a, b) ∈ l.map mp) (hc : c = a ∨ c = b) (hs : s < w.length) : wst (wb w c 1) (playL a b l) s ≤ wst w l s := by
  apply Classical.byContradiction
  intro hn
  have hs' : s < (wb w c 1).length := by simpa using hs
  obtain ⟨se', h1, h2⟩ := ((wst_ok (w := wb w c 1) (l := playL a b l) (lq_played hlg) hs').2.2 (wst w l s)).mp (by omega)
  obtain ⟨se, h3, h4⟩ := sea_played hlg hm hc h1
  have := ((wst_ok hlg.q hs).2.2 (wst w l s)).mpr ⟨se, h3, by rw [h4]; exact h2⟩
  omega
theorem bst_played {w : List Int} {l : List Mt} {a b c s : Nat} (hlg : Lg w l) (hm : (a, b) ∈ l.map mp) (hc : c = a ∨ c = b) (hs : s < w.length) : bst w l s ≤ bst (wb w c 1) (playL a b l) s := by
  obtain ⟨b1, b2, b3⟩ := bst_ok (l := l) hs
  obtain ⟨c1, c2, c3⟩ := bst_ok (w := wb w c 1) (l := playL a b l) (s := s) (by simpa using hs)
  have hw : (wb w c 1).length = w.length := by simp
  rw [hw] at c2 c3
  exact (b3 _ c1 c2).mp (reach_back hlg hm hc ((c3 _ c1 c2).mpr (Nat.le_refl _)))
theorem sure_reach {w : List Int} {l : List Mt} (hlg : Lg w l) (hw : ∀ x ∈ w, 0 ≤ x ∧ x ≤ 40) (h3 : ∀ m ∈ l, m.2.2 ≤ 3) {s p : Nat} (hs : s < w.length) (hp : p ≤ w.length) (h : wst w l s ≤ p) : reach w l s p = true := by
  have hpos : ∀ m ∈ l, 0 ≤ m.2.2 := fun m hm => by have := hlg.l m hm; omega
  refine reach_season hlg hw h3 hs (Sea_zero l hpos) ?_ hp
  have : ¬ p < wst w l s := by omega
  rw [(wst_ok hlg.q hs).2.2 p] at this
  apply Classical.byContradiction
  intro hn
  exact this ⟨_, Sea_zero l hpos, by unfold pl; omega⟩
theorem end_worst {w : List Int} {s : Nat} (hs : s < w.length) : (wst w [] s : Int) = pl w s := by
  have := worst_seasons (w := w) (l := []) ⟨fun m hm => by simp at hm, .nil⟩ hs
  have e : maxL ((allW []).map fun se => pl (endW w (([] : List Mt).zip se)) s) = some (pl w s) := rfl
  rw [e] at this
  exact (Option.some.inj this).symm
theorem end_best {w : List Int} (hlg : Lg w []) (hw : ∀ x ∈ w, 0 ≤ x ∧ x ≤ 40) {s : Nat} (hs : s < w.length) : (bst w [] s : Int) = pl w s := by
  have := best_seasons (w := w) (l := []) hlg hw (fun m hm => by simp at hm) hs
  have e : minL ((allW []).map fun se => (placesOf (endW w (([] : List Mt).zip se))).getD s 0) = some (pl w s) := rfl
  rw [e] at this
  exact (Option.some.inj this).symm
end DL
set_option Elab.async false
set_option linter.all false
set_option maxRecDepth 100000
set_option maxHeartbeats 2000000
set_option autoImplicit false
/-! chances: ways, rows of counts, least fractions -/
namespace DL
open PySem
/-! ### rows -/
theorem wp_newR {i : Nat} {A : XR} {δ : DE} {P : Out → Prop} {dss : List (List D)} (h : A δ = some (.ok dss)) (hi : i < δ.length) (hn : noRows δ = true) (p : P (.nx (δ.set i (.own (.rows dss))))) : wp (sNewR i A) δ P := ⟨_, by unfold sNewR; rw [h, onE_ok, if_pos ⟨hi, hn⟩], p⟩
theorem wp_frzR {i : Nat} {s : XS} {δ : DE} {P : Out → Prop} {dss : List (List D)} (h0 : δ[i]? = some (.own (.rows dss))) (p : wp s (δ.set i (.dat (.list (dss.map .list)))) P) : wp (sFrzR i s) δ P := by
  obtain ⟨o, h1, h2⟩ := p
  refine ⟨o, ?_, h2⟩
  unfold sFrzR; rw [h0]; exact h1
theorem wp_setRow {i : Nat} {B C A : XE} {δ : DE} {P : Out → Prop} {dss : List (List D)} {ds : List D} {d : D} {k l : Nat} (h0 : δ[i]? = some (.own (.rows dss))) (h : A δ = some (.ok d)) (hk : B δ = some (.ok (.int (k : Nat)))) (hl : C δ = some (.ok (.int (l : Nat)))) (hd : dss[k]? = some ds) (hz : l < ds.length) (p : P (.nx (δ.set i (.own (.rows (dss.set k (ds.set l d))))))) : wp (sSetRow i B C A) δ P := by
  have hk' : k < dss.length := (List.getElem?_eq_some_iff.mp hd).1
  refine ⟨_, ?_, p⟩
  unfold sSetRow
  rw [h0]
  show onE (A δ) _ = _
  rw [h, onE_ok, hk, onE_ok]
  show (match ixN dss.length (k : Int) with | some m => _ | none => _) = _
  rw [ixN_nat hk']
  show (match dss[k]? with | some ds => _ | none => _) = _
  rw [hd]
  show onE (C δ) _ = _
  rw [hl, onE_ok]
  show (match ixN ds.length (l : Int) with | some n => _ | none => _) = _
  rw [ixN_nat hz]
theorem eRowIx {i : Nat} {B C : XE} {δ : DE} {dss : List (List D)} {ds : List D} {d : D} {k l : Nat} (h0 : δ[i]? = some (.own (.rows dss))) (hk : B δ = some (.ok (.int (k : Nat)))) (hl : C δ = some (.ok (.int (l : Nat)))) (hd : dss[k]? = some ds) (hz : ds[l]? = some d) : xRowIx i B C δ = some (.ok d) := by
  have hk' : k < dss.length := (List.getElem?_eq_some_iff.mp hd).1
  have hl' : l < ds.length := (List.getElem?_eq_some_iff.mp hz).1
  unfold xRowIx
  rw [h0]
  show bnd (B δ) _ = _
  rw [hk, bnd_ok]
  show (match atI dss (k : Int) with | some ds => _ | none => _) = _
  rw [atI_nat hk']
  rw [List.getElem?_eq_getElem hk'] at hd
  cases hd
  show bnd (C δ) _ = _
  rw [hl, bnd_ok]
  show lift (atI _ (l : Int)) = _
  rw [atI_nat hl']
  rw [List.getElem?_eq_getElem hl'] at hz
  cases hz
  rfl
theorem eLcF {ι : Type} (enc : ι → D) (f : ι → List D) (xs : List ι) {it : XL} {g : XG} {e : XL} {vs : List Nat} {δ : DE} (hit : it δ = some (.ok (xs.map enc)))
    (h : ∀ i ∈ xs, ∃ δ1, g (enc i) (wipeD δ vs) = some δ1 ∧ e δ1 = some (.ok (f i))) : xLcF it g yTrue e vs δ = some (.ok (xs.map f)) := by
  have key : ∀ xs : List ι, (∀ i ∈ xs, ∃ δ1, g (enc i) (wipeD δ vs) = some δ1 ∧ e δ1 = some (.ok (f i))) → lcGoF g yTrue e (wipeD δ vs) (xs.map enc) = some (xs.map f) := by
    intro xs
    induction xs with
    | nil => intro _; rfl
    | cons x xs ih =>
      intro h
      obtain ⟨δ1, h1, h2⟩ := h x (by simp)
      rw [List.map_cons, lcGoF, h1]
      have ih := ih fun i hi => h i (by simp [hi])
      simp only [Option.bind_some, q_yTrue, h2, ih, Option.map_some, List.map_cons]
  unfold xLcF
  rw [hit, bnd_ok, key xs h]
  rfl
def rowsD (n : Nat) (C : Nat → Nat → Int) : List (List D) := (List.range n).map fun s => (List.range n).map fun p => PyData.int (C s p)
theorem rowsD_get {n : Nat} (C : Nat → Nat → Int) {s : Nat} (hs : s < n) : (rowsD n C)[s]? = some ((List.range n).map fun p => PyData.int (C s p)) := by simp [rowsD, hs]
theorem row_get {n : Nat} (c : Nat → Int) {p : Nat} (hp : p < n) : ((List.range n).map fun p => PyData.int (c p))[p]? = some (.int (c p)) := by simp [hp]
theorem rowsD_congr {n : Nat} {C C' : Nat → Nat → Int} (h : ∀ s p, s < n → p < n → C s p = C' s p) : rowsD n C = rowsD n C' := by
  unfold rowsD
  apply List.map_congr_left
  intro s hs
  apply List.map_congr_left
  intro p hp
  rw [h s p (by simpa using hs) (by simpa using hp)]
theorem rowsD_set {n : Nat} (C : Nat → Nat → Int) {s q : Nat} (hs : s < n) (hq : q < n) (v : Int) : (rowsD n C).set s (((List.range n).map fun p => PyData.int (C s p)).set q (.int v)) = rowsD n (fun s' p => if s' = s ∧ p = q then v else C s' p) := by
  apply List.ext_getElem
  · simp [rowsD]
  · intro i h1 h2
    have hi : i < n := by simpa [rowsD] using h2
    rw [List.getElem_set]
    by_cases e : s = i
    · subst e
      rw [if_pos rfl]
      apply List.ext_getElem
      · simp [rowsD]
      · intro j h3 h4
        rw [List.getElem_set]
        by_cases e2 : q = j
        · subst e2; simp [rowsD]
        · have e2' : ¬ j = q := fun z => e2 z.symm
          simp [rowsD, e2, e2']
    · rw [if_neg e]
      have e' : ¬ i = s := fun z => e z.symm
      simp [rowsD, e']
/-! ### ways -/
def wyS (m : Int) (f : Int) (j : Nat) : Int := f * (m - j) / ((j : Int) + 1)
def wy (m : Int) (c : Nat) : Int := (List.range c).foldl (wyS m) 1
theorem wy_snoc (m : Int) (c : Nat) : wy m (c + 1) = wyS m (wy m c) c := by unfold wy; rw [List.range_succ, List.foldl_append]; rfl
theorem wy_tab : ∀ m < 10, ∀ c < 10, 0 ≤ wy (m : Nat) c ∧ wy (m : Nat) c ≤ 126 := by decide +kernel
theorem wy_sum : ∀ m < 10, ((List.range (m + 1)).map fun c => wy (m : Nat) c).sum = 2 ^ m := by decide +kernel
theorem wy_bd {m : Int} (h0 : 0 ≤ m) (h9 : m ≤ 9) {c : Nat} (hc : c < 10) : 0 ≤ wy m c ∧ wy m c ≤ 126 := by
  obtain ⟨k, rfl⟩ : ∃ k : Nat, m = (k : Int) := ⟨m.toNat, by omega⟩
  exact wy_tab k (by omega) c hc
def wys (ms : List (Mt × Int)) : Int := ms.foldl (fun a p => a * wy p.1.2.2 p.2.toNat) 1
theorem wys_snoc (ms : List (Mt × Int)) (p : Mt × Int) : wys (ms ++ [p]) = wys ms * wy p.1.2.2 p.2.toNat := by simp [wys]
theorem wys_nn {l : List Mt} (hc : ∀ m ∈ l, 0 ≤ m.2.2 ∧ m.2.2 ≤ 9) {se : List Int} (hs : Sea l se) : 0 ≤ wys (l.zip se) := by
  have key : ∀ (ms : List (Mt × Int)), (∀ x ∈ ms, 0 ≤ x.1.2.2 ∧ x.1.2.2 ≤ 9 ∧ 0 ≤ x.2 ∧ x.2 ≤ x.1.2.2) → 0 ≤ wys ms := by
    intro ms
    induction ms using snoc_ind with
    | h0 => intro _; simp [wys]
    | h1 ms p ih =>
      intro h
      rw [wys_snoc]
      have h1 := ih fun x hx => h x (by simp [hx])
      have h2 := h p (by simp)
      exact Int.mul_nonneg h1 (wy_bd h2.1 h2.2.1 (c := p.2.toNat) (by omega)).1
  refine key _ fun x hx => ?_
  have h1 := hc _ (List.of_mem_zip hx).1
  have h2 := hs.2 x hx
  exact ⟨h1.1, h1.2, h2⟩
theorem sumM_snoc (l : List Mt) (m : Mt) : sumM (l ++ [m]) = sumM l + m.2.2 := by simp [sumM]
theorem sumM_nn (l : List Mt) (h : ∀ m ∈ l, 0 ≤ m.2.2) : 0 ≤ sumM l := by
  induction l with
  | nil => simp [sumM]
  | cons m l ih =>
    have h1 := ih fun x hx => h x (by simp [hx])
    have h2 := h m (by simp)
    unfold sumM at h1 ⊢
    simp; omega
theorem sum_flat {α : Type} (g : α → List Int) : ∀ xs : List α, (xs.flatMap g).sum = (xs.map fun x => (g x).sum).sum
  | [] => rfl
  | x :: xs => by simp [List.flatMap_cons, List.sum_append, sum_flat g xs]
theorem sum_mulc {α : Type} (f : α → Int) (c : Int) : ∀ xs : List α, (xs.map fun x => c * f x).sum = c * (xs.map f).sum
  | [] => by simp
  | x :: xs => by simp only [List.map_cons, List.sum_cons]; rw [sum_mulc f c xs, Int.mul_add]
theorem sum_mulr {α : Type} (f : α → Int) (c : Int) : ∀ xs : List α, (xs.map fun x => f x * c).sum = (xs.map f).sum * c
  | [] => by simp
  | x :: xs => by simp only [List.map_cons, List.sum_cons]; rw [sum_mulr f c xs, Int.add_mul]
theorem tot_eq (l : List Mt) (hc : ∀ m ∈ l, 0 ≤ m.2.2 ∧ m.2.2 ≤ 9) : ((allW l).map fun se => wys (l.zip se)).sum = 2 ^ (sumM l).toNat := by
  induction l using snoc_ind with
  | h0 => rfl
  | h1 l m ih =>
    have ih := ih fun x hx => hc x (by simp [hx])
    have hm := hc m (by simp)
    have hp : ∀ x ∈ l, 0 ≤ x.2.2 := fun x hx => (hc x (by simp [hx])).1
    obtain ⟨k, hk⟩ : ∃ k : Nat, m.2.2 = (k : Int) := ⟨m.2.2.toNat, by omega⟩
    have e1 : (m.2.2 + 1).toNat = k + 1 := by omega
    have h0 := sumM_nn l hp
    have e2 : (sumM (l ++ [m])).toNat = (sumM l).toNat + k := by rw [sumM_snoc]; omega
    rw [allW_snoc, e2, Int.pow_add, ← ih]
    unfold wStep
    rw [e1, List.map_flatMap, sum_flat]
    have : ∀ r ∈ allW l, (((List.range (k + 1)).map fun (f : Nat) => r ++ [(f : Int)]).map fun se => wys ((l ++ [m]).zip se)).sum = wys (l.zip r) * 2 ^ k := by
      intro r hr
      have hl : l.length = r.length := ((mem_allW l hp r).mp hr).1.symm
      rw [List.map_map]
      have e3 : ((fun se => wys ((l ++ [m]).zip se)) ∘ fun (f : Nat) => r ++ [(f : Int)]) = fun (f : Nat) => wys (l.zip r) * wy (k : Nat) f := by
        funext f
        show wys ((l ++ [m]).zip (r ++ [(f : Int)])) = _
        rw [List.zip_append hl]
        show wys (l.zip r ++ [(m, (f : Int))]) = _
        rw [wys_snoc, hk]
        simp
      rw [e3, sum_mulc, wy_sum k (by omega)]
    rw [List.map_congr_left this, sum_mulr]
theorem prod_le (l : List Mt) (hc : ∀ m ∈ l, 0 ≤ m.2.2) : prodM l ≤ 2 ^ (sumM l).toNat := by
  induction l using snoc_ind with
  | h0 => simp [prodM, sumM]
  | h1 l m ih =>
    have hp : ∀ x ∈ l, 0 ≤ x.2.2 := fun x hx => hc x (by simp [hx])
    have ih := ih hp
    have hm := hc m (by simp)
    obtain ⟨k, hk⟩ : ∃ k : Nat, m.2.2 = (k : Int) := ⟨m.2.2.toNat, by omega⟩
    have h0 := sumM_nn l hp
    have e2 : (sumM (l ++ [m])).toNat = (sumM l).toNat + k := by rw [sumM_snoc]; omega
    rw [prodM_snoc, e2, Int.pow_add, hk]
    have h2 : ((k : Int) + 1) ≤ 2 ^ k := by
      have := Nat.lt_two_pow_self (n := k)
      have h3 : ((k + 1 : Nat) : Int) ≤ ((2 ^ k : Nat) : Int) := by exact_mod_cast this
      push_cast at h3; exact h3
    have hpn : 0 ≤ prodM l := by rw [← allW_len l hp]; omega
    exact Int.mul_le_mul ih h2 (by omega) (Int.pow_nonneg (by omega))
/-! ### counts -/
def cel (w : List Int) (l : List Mt) (ses : List (List Int)) (s p : Nat) : Int := (ses.map fun se => if pl (endW w (l.zip se)) s = (p : Int) + 1 then wys (l.zip se) else 0).sum
def cnt2 (w : List Int) (l : List Mt) : Nat → Nat → Int := cel w l (allW l)
theorem cel_snoc (w : List Int) (l : List Mt) (ses : List (List Int)) (se : List Int) (s p : Nat) : cel w l (ses ++ [se]) s p = cel w l ses s p + if pl (endW w (l.zip se)) s = (p : Int) + 1 then wys (l.zip se) else 0 := by simp [cel]
theorem pl_bd {W : List Int} {s : Nat} (hs : s < W.length) : ∃ q : Nat, pl W s = (q : Int) + 1 ∧ q < W.length := by
  rw [pl_eq hs]
  refine ⟨((List.range W.length).filter fun i => decide (W.getD s 0 < W.getD i 0)).length, by omega, ?_⟩
  have h1 : ((List.range W.length).filter fun i => decide (W.getD s 0 < W.getD i 0)).length ≤ (oth W.length s).length := by
    refine List.Nodup.length_le_of_subset ((List.nodup_range).filter _) fun x hx => ?_
    obtain ⟨a, b⟩ := List.mem_filter.mp hx
    have b := of_decide_eq_true b
    exact (mem_oth _ _ _).mpr ⟨by simpa using a, fun z => by subst z; omega⟩
  have := oth_length W.length s hs
  omega
theorem sum_place {n : Nat} {q : Nat} (hq : q < n) (x : Int) : ((List.range n).map fun (p : Nat) => if (q : Int) + 1 = (p : Int) + 1 then x else 0).sum = x := by
  have := sum_one q x (List.range n) List.nodup_range
  rw [if_pos (by simpa using hq)] at this
  refine Eq.trans (congrArg List.sum (List.map_congr_left fun p _ => ?_)) this
  by_cases h : q = p
  · rw [if_pos h, if_pos (by omega)]
  · rw [if_neg h, if_neg (by omega)]
theorem cel_sum {w : List Int} {l : List Mt} {s : Nat} (hs : s < w.length) : ∀ ses : List (List Int), ((List.range w.length).map fun p => cel w l ses s p).sum = (ses.map fun se => wys (l.zip se)).sum := by
  intro ses
  induction ses using snoc_ind with
  | h0 =>
    have : ((List.range w.length).map fun p => cel w l [] s p) = (List.range w.length).map fun _ => (0 : Int) := by simp [cel]
    rw [this, sum_zero]; rfl
  | h1 ses se ih =>
    have e : ((List.range w.length).map fun p => cel w l (ses ++ [se]) s p) = (List.range w.length).map fun p => cel w l ses s p + (if pl (endW w (l.zip se)) s = (p : Int) + 1 then wys (l.zip se) else 0) := List.map_congr_left fun p _ => cel_snoc w l ses se s p
    obtain ⟨q, hq, hqn⟩ := pl_bd (W := endW w (l.zip se)) (s := s) (by rw [endW_length]; exact hs)
    rw [endW_length] at hqn
    rw [e, sum_add, ih, hq, sum_place hqn, List.map_append, List.sum_append]
    simp
theorem cel_nn {w : List Int} {l : List Mt} (hc : ∀ m ∈ l, 0 ≤ m.2.2 ∧ m.2.2 ≤ 9) (s p : Nat) : ∀ ses : List (List Int), (∀ se ∈ ses, Sea l se) → 0 ≤ cel w l ses s p := by
  intro ses
  induction ses using snoc_ind with
  | h0 => intro _; simp [cel]
  | h1 ses se ih =>
    intro h
    rw [cel_snoc]
    have h1 := ih fun x hx => h x (by simp [hx])
    have h2 := wys_nn hc (h se (by simp))
    split <;> omega
theorem cnt2_nn {w : List Int} {l : List Mt} (hlg : Lg w l) (s p : Nat) : 0 ≤ cnt2 w l s p := by
  have hp : ∀ x ∈ l, 0 ≤ x.2.2 := fun x hx => by have := hlg.l x hx; omega
  exact cel_nn (fun x hx => by have := hlg.l x hx; omega) s p _ fun se hse => (mem_allW l hp se).mp hse
theorem cnt2_sum {w : List Int} {l : List Mt} (hlg : Lg w l) {s : Nat} (hs : s < w.length) : ((List.range w.length).map fun p => cnt2 w l s p).sum = 2 ^ (sumM l).toNat := by
  rw [← tot_eq l fun x hx => by have := hlg.l x hx; omega]
  exact cel_sum hs _
theorem sum_ge {f : Nat → Int} (h : ∀ p, 0 ≤ f p) : ∀ xs : List Nat, 0 ≤ (xs.map f).sum
  | [] => by simp
  | x :: xs => by have := sum_ge h xs; have := h x; simp; omega
theorem sum_mem {f : Nat → Int} (h : ∀ p, 0 ≤ f p) : ∀ (xs : List Nat) (x : Nat), x ∈ xs → f x ≤ (xs.map f).sum
  | y :: xs, x, hx => by
    have h1 := sum_ge h xs
    have h2 := h y
    simp only [List.map_cons, List.sum_cons]
    rcases List.mem_cons.mp hx with rfl | hx
    · omega
    · have := sum_mem h xs x hx; omega
theorem pow12 {l : List Mt} (h : sumM l ≤ 12) : (2 : Int) ^ (sumM l).toNat ≤ 4096 := by
  have h1 : (sumM l).toNat ≤ 12 := by omega
  have h2 : 2 ^ (sumM l).toNat ≤ 2 ^ 12 := Nat.pow_le_pow_right (by omega) h1
  have h3 : ((2 ^ (sumM l).toNat : Nat) : Int) ≤ ((2 ^ 12 : Nat) : Int) := by exact_mod_cast h2
  push_cast at h3
  omega
theorem cnt2_le {w : List Int} {l : List Mt} (hlg : Lg w l) (h12 : sumM l ≤ 12) {s p : Nat} (hs : s < w.length) (hp : p < w.length) : cnt2 w l s p ≤ 4096 := by
  have h1 := sum_mem (f := fun p => cnt2 w l s p) (fun p => cnt2_nn hlg s p) (List.range w.length) p (by simpa using hp)
  rw [cnt2_sum hlg hs] at h1
  have := pow12 h12
  omega
/-! ### fractions -/
def frc (a b : Int) : D := .tuple [.int (a / (Int.gcd a b : Int)), .int (b / (Int.gcd a b : Int))]
theorem frc_ok {a b : Int} (hb : 0 < b) : 1 ≤ b / (Int.gcd a b : Int) ∧ a / (Int.gcd a b : Int) * b = a * (b / (Int.gcd a b : Int)) ∧ ∀ k : Int, 2 ≤ k → ¬ (a / (Int.gcd a b : Int) % k = 0 ∧ b / (Int.gcd a b : Int) % k = 0) := by
  have hg : 0 < Int.gcd a b := Int.gcd_pos_of_ne_zero_right _ (by omega)
  have hgi : (0 : Int) < (Int.gcd a b : Int) := by omega
  obtain ⟨x, hx⟩ := Int.gcd_dvd_left a b
  obtain ⟨y, hy⟩ := Int.gcd_dvd_right a b
  have ea : a / (Int.gcd a b : Int) = x := Int.ediv_eq_of_eq_mul_right (by omega) hx
  have eb : b / (Int.gcd a b : Int) = y := Int.ediv_eq_of_eq_mul_right (by omega) hy
  rw [ea, eb]
  have hy0 : 0 < y := by
    apply Classical.byContradiction
    intro hn
    have : (Int.gcd a b : Int) * y ≤ (Int.gcd a b : Int) * 0 := Int.mul_le_mul_of_nonneg_left (by omega) (by omega)
    rw [← hy] at this; omega
  refine ⟨hy0, ?_, fun k hk => ?_⟩
  · generalize (Int.gcd a b : Int) = g at hx hy
    rw [hx, hy]
    rw [Int.mul_comm g y, ← Int.mul_assoc, Int.mul_comm (x * y) g, ← Int.mul_assoc]
  · rintro ⟨k1, k2⟩
    obtain ⟨u, hu⟩ := Int.dvd_of_emod_eq_zero k1
    obtain ⟨v, hv⟩ := Int.dvd_of_emod_eq_zero k2
    have d1 : (Int.gcd a b : Int) * k ∣ a := ⟨u, by rw [Int.mul_assoc, ← hu]; exact hx⟩
    have d2 : (Int.gcd a b : Int) * k ∣ b := ⟨v, by rw [Int.mul_assoc, ← hv]; exact hy⟩
    have d3 := Int.dvd_coe_gcd d1 d2
    have := Int.le_of_dvd hgi d3
    have h4 : (Int.gcd a b : Int) * 2 ≤ (Int.gcd a b : Int) * k := Int.mul_le_mul_of_nonneg_left hk (by omega)
    omega
theorem shp_frc (a b : Int) : shp 1 (frc a b) := shp_tup fun d hd => by
  simp at hd
  rcases hd with rfl | rfl <;> exact shp_int _ _
end DL
set_option Elab.async false
set_option linter.all false
set_option maxRecDepth 100000
set_option maxHeartbeats 2000000
set_option autoImplicit false
/-! chains of tiers -/
namespace DL
open PySem
def chD (ts : List (List Nat)) : D := .tuple (ts.map tN)
structure Ch (ts : List (List Nat)) : Prop where
  n1 : 1 ≤ ts.length
  n4 : ts.length ≤ 4
  t : ∀ t ∈ ts, 1 ≤ t.length ∧ t.length ≤ 6 ∧ t.Pairwise (· < ·)
  b : ∀ t ∈ ts, ∀ x ∈ t, x < 9
  d : ts.flatten.Nodup
theorem shp_chD (ts : List (List Nat)) : shp 2 (chD ts) := shp_tup fun d hd => by
  obtain ⟨t, _, rfl⟩ := List.mem_map.mp hd
  exact shp_tN t
/-- rising, each once -/
def nsort (g : List Nat) : List Nat := (List.range 9).filter fun x => decide (x ∈ g)
theorem nsort_sorted (g : List Nat) : (nsort g).Pairwise (· < ·) := List.Pairwise.filter _ List.pairwise_lt_range
theorem mem_nsort {g : List Nat} (h : ∀ x ∈ g, x < 9) (x : Nat) : x ∈ nsort g ↔ x ∈ g := by
  unfold nsort
  rw [List.mem_filter]
  constructor
  · exact fun z => of_decide_eq_true z.2
  · exact fun z => ⟨by simpa using h x z, decide_eq_true z⟩
theorem nsort_perm {g : List Nat} (h : ∀ x ∈ g, x < 9) (hn : g.Nodup) : (nsort g).Perm g := (List.perm_ext_iff_of_nodup (nodup_of_sorted (nsort_sorted g)) hn).mpr (mem_nsort h)
theorem nsort_congr {g g' : List Nat} (h : ∀ x, x ∈ g ↔ x ∈ g') : nsort g = nsort g' := by
  unfold nsort
  apply List.filter_congr
  intro x _
  simp only [h x]
theorem nsort_id {g : List Nat} (h : ∀ x ∈ g, x < 9) (hs : g.Pairwise (· < ·)) : nsort g = g := sorted_ext (nsort_sorted g) hs (mem_nsort h)
theorem sort_lN9 {g : List Nat} (h : ∀ x ∈ g, x < 9) (hn : g.Nodup) : sortD (lN g) = some ((nsort g).map fun (x : Nat) => PyData.int x) := by
  obtain ⟨g', h1, h2, h3⟩ := sort_lN g hn
  rw [h3, sorted_ext h2 (nsort_sorted g) fun x => by rw [mem_nsort h]; exact h1.mem_iff]
theorem perm_sorted' : ∀ {a b : List Int}, a.Perm b → a.Pairwise (· ≤ ·) → b.Pairwise (· ≤ ·) → a = b
  | [], b, h, _, _ => by rw [List.nil_perm.mp h]
  | x :: a, [], h, _, _ => by have := h.length_eq; simp at this
  | x :: a, y :: b, h, ha, hb => by
    obtain ⟨a1, a2⟩ := List.pairwise_cons.mp ha
    obtain ⟨b1, b2⟩ := List.pairwise_cons.mp hb
    have e : x = y := by
      have h1 : x ∈ y :: b := h.mem_iff.mp (by simp)
      have h2 : y ∈ x :: a := h.mem_iff.mpr (by simp)
      rcases List.mem_cons.mp h1 with e | e
      · exact e
      · rcases List.mem_cons.mp h2 with e2 | e2
        · exact e2.symm
        · have := b1 x e; have := a1 y e2; omega
    subst e
    rw [perm_sorted' (List.Perm.cons_inv h) a2 b2]
theorem isort_nat {g : List Nat} (h : ∀ x ∈ g, x < 9) (hn : g.Nodup) : isort (g.map fun (x : Nat) => (x : Int)) = (nsort g).map fun (x : Nat) => (x : Int) := by
  refine perm_sorted' ?_ ?_ ?_
  · exact (List.mergeSort_perm _ _).trans ((nsort_perm h hn).symm.map _)
  · have := List.pairwise_mergeSort (le := fun a b : Int => decide (a ≤ b)) (fun a b c h1 h2 => by simp at *; omega) (fun a b => by simp; omega) (g.map fun (x : Nat) => (x : Int))
    exact this.imp fun h => by simpa using h
  · rw [List.pairwise_map]
    exact (nsort_sorted g).imp fun h => by omega
theorem sort_tN9 {g : List Nat} (h : ∀ x ∈ g, x < 9) (hn : g.Nodup) (hl : g.length ≤ sz) : sortD (tN g) = some ((nsort g).map fun (x : Nat) => PyData.int x) := by
  show ((intsOf (g.map fun (x : Nat) => PyData.int x)).bind fun ns => if ns.length ≤ sz then some ((isort ns).map PyData.int) else none) = _
  rw [intsOf_mapf]
  show (if (g.map fun (x : Nat) => (x : Int)).length ≤ sz then _ else none) = _
  rw [if_pos (by simpa using hl), isort_nat h hn, List.map_map]
  rfl
/-! ### a season -/
def tp (m at' : Nat) : Nat := if 0 < at' then m else 0
def lw (os : List (List Nat)) (m at' : Nat) : Nat := if at' + 1 < os.length then m else 0
def stay (os : List (List Nat)) (m at' : Nat) : List Nat := ((os.getD at' []).take ((os.getD at' []).length - lw os m at')).drop (tp m at')
def came (os : List (List Nat)) (m at' : Nat) : List Nat := if 0 < at' then (os.getD (at' - 1) []).drop ((os.getD (at' - 1) []).length - m) else []
def rose (os : List (List Nat)) (m at' : Nat) : List Nat := if at' + 1 < os.length then (os.getD (at' + 1) []).take m else []
def stp (os : List (List Nat)) (m : Nat) : List (List Nat) := (List.range os.length).map fun a => nsort (stay os m a ++ came os m a ++ rose os m a)
/-- m may go -/
def May (os : List (List Nat)) (m : Nat) : Prop := (∀ a, a < os.length → m ≤ (os.getD a []).length) ∧ ∀ a, 0 < a → a + 1 < os.length → 2 * m ≤ (os.getD a []).length
def dst (os : List (List Nat)) (m at' n : Nat) : Nat := if (os.getD at' []).length - m ≤ n ∧ at' + 1 < os.length then at' + 1 else if n < m ∧ 0 < at' then at' - 1 else at'
theorem flat_nd : ∀ {os : List (List Nat)}, os.flatten.Nodup → (∀ t ∈ os, t.Nodup) ∧ os.Pairwise fun s t => ∀ x, x ∈ s → x ∈ t → False
  | [], _ => ⟨fun t h => (by cases h), .nil⟩
  | t :: os, h => by
    rw [List.flatten_cons, List.nodup_append] at h
    obtain ⟨h1, h2, h3⟩ := h
    obtain ⟨i1, i2⟩ := flat_nd h2
    refine ⟨fun s hs => ?_, .cons (fun s hs x hx hx2 => h3 x hx x (List.mem_flatten.mpr ⟨s, hs, hx2⟩) rfl) i2⟩
    rcases List.mem_cons.mp hs with e | e
    · rw [e]; exact h1
    · exact i1 s e
theorem tier_nd {os : List (List Nat)} (h : os.flatten.Nodup) {a : Nat} (ha : a < os.length) : (os.getD a []).Nodup := by
  replace h := flat_nd h
  rw [List.getD_eq_getElem?_getD, List.getElem?_eq_getElem ha]
  exact h.1 _ (List.getElem_mem ha)
theorem tier_dj {os : List (List Nat)} (h : os.flatten.Nodup) {a b x : Nat} (ha : a < os.length) (hb : b < os.length) (h1 : x ∈ os.getD a []) (h2 : x ∈ os.getD b []) : a = b := by
  replace h := flat_nd h
  rw [List.getD_eq_getElem?_getD, List.getElem?_eq_getElem ha] at h1
  rw [List.getD_eq_getElem?_getD, List.getElem?_eq_getElem hb] at h2
  apply Classical.byContradiction
  intro hne
  rcases Nat.lt_or_gt_of_ne hne with hlt | hlt
  · exact List.pairwise_iff_getElem.mp h.2 a b ha hb hlt x h1 h2
  · exact List.pairwise_iff_getElem.mp h.2 b a hb ha hlt x h2 h1
theorem mem_stay {os : List (List Nat)} {m a x : Nat} (h : x ∈ stay os m a) : ∃ n, (os.getD a [])[n]? = some x ∧ tp m a ≤ n ∧ n < (os.getD a []).length - lw os m a := by
  unfold stay at h
  obtain ⟨i, hi, e⟩ := List.mem_iff_getElem.mp h
  rw [List.length_drop, List.length_take] at hi
  rw [List.getElem_drop, List.getElem_take] at e
  exact ⟨tp m a + i, by rw [List.getElem?_eq_getElem (by omega), e], by omega, by omega⟩
theorem stay_mem {os : List (List Nat)} {m a x n : Nat} (h : (os.getD a [])[n]? = some x) (h1 : tp m a ≤ n) (h2 : n < (os.getD a []).length - lw os m a) : x ∈ stay os m a := by
  unfold stay
  have hn : n < (os.getD a []).length := by omega
  rw [List.getElem?_eq_getElem hn] at h
  refine List.mem_iff_getElem.mpr ⟨n - tp m a, by rw [List.length_drop, List.length_take]; omega, ?_⟩
  rw [List.getElem_drop, List.getElem_take]
  have : tp m a + (n - tp m a) = n := by omega
  simp only [this]
  exact Option.some.inj h
theorem mem_came {os : List (List Nat)} {m a x : Nat} (h : x ∈ came os m a) : 0 < a ∧ ∃ n, (os.getD (a - 1) [])[n]? = some x ∧ (os.getD (a - 1) []).length - m ≤ n := by
  unfold came at h
  split at h
  · rename_i ha
    obtain ⟨i, hi, e⟩ := List.mem_iff_getElem.mp h
    rw [List.length_drop] at hi
    rw [List.getElem_drop] at e
    exact ⟨ha, (os.getD (a - 1) []).length - m + i, by rw [List.getElem?_eq_getElem (by omega), e], by omega⟩
  · cases h
theorem came_mem {os : List (List Nat)} {m a x n : Nat} (ha : 0 < a) (h : (os.getD (a - 1) [])[n]? = some x) (h1 : (os.getD (a - 1) []).length - m ≤ n) : x ∈ came os m a := by
  unfold came
  rw [if_pos ha]
  have hn : n < (os.getD (a - 1) []).length := (List.getElem?_eq_some_iff.mp h).1
  rw [List.getElem?_eq_getElem hn] at h
  refine List.mem_iff_getElem.mpr ⟨n - ((os.getD (a - 1) []).length - m), by rw [List.length_drop]; omega, ?_⟩
  rw [List.getElem_drop]
  have : (os.getD (a - 1) []).length - m + (n - ((os.getD (a - 1) []).length - m)) = n := by omega
  simp only [this]
  exact Option.some.inj h
theorem mem_rose {os : List (List Nat)} {m a x : Nat} (h : x ∈ rose os m a) : a + 1 < os.length ∧ ∃ n, (os.getD (a + 1) [])[n]? = some x ∧ n < m := by
  unfold rose at h
  split at h
  · rename_i ha
    obtain ⟨i, hi, e⟩ := List.mem_iff_getElem.mp h
    rw [List.length_take] at hi
    rw [List.getElem_take] at e
    exact ⟨ha, i, by rw [List.getElem?_eq_getElem (by omega), e], by omega⟩
  · cases h
theorem rose_mem {os : List (List Nat)} {m a x n : Nat} (ha : a + 1 < os.length) (h : (os.getD (a + 1) [])[n]? = some x) (h1 : n < m) : x ∈ rose os m a := by
  unfold rose
  rw [if_pos ha]
  have hn : n < (os.getD (a + 1) []).length := (List.getElem?_eq_some_iff.mp h).1
  rw [List.getElem?_eq_getElem hn] at h
  refine List.mem_iff_getElem.mpr ⟨n, by rw [List.length_take]; omega, ?_⟩
  rw [List.getElem_take]
  exact Option.some.inj h
/-- who comes to a tier: by where each goes -/
theorem goes {os : List (List Nat)} {m : Nat} (hm : May os m) {at' x : Nat} (hat : at' < os.length) : x ∈ stay os m at' ++ came os m at' ++ rose os m at' ↔ ∃ a n, a < os.length ∧ (os.getD a [])[n]? = some x ∧ dst os m a n = at' := by
  rw [List.mem_append, List.mem_append]
  constructor
  · rintro ((h | h) | h)
    · obtain ⟨n, h1, h2, h3⟩ := mem_stay h
      refine ⟨at', n, hat, h1, ?_⟩
      unfold tp at h2
      unfold lw at h3
      unfold dst
      have c1 : ¬ ((os.getD at' []).length - m ≤ n ∧ at' + 1 < os.length) := fun z => by rw [if_pos z.2] at h3; omega
      have c2 : ¬ (n < m ∧ 0 < at') := fun z => by rw [if_pos z.2] at h2; omega
      rw [if_neg c1, if_neg c2]
    · obtain ⟨ha, n, h1, h2⟩ := mem_came h
      refine ⟨at' - 1, n, by omega, h1, ?_⟩
      unfold dst
      rw [if_pos ⟨h2, by omega⟩]; omega
    · obtain ⟨ha, n, h1, h2⟩ := mem_rose h
      refine ⟨at' + 1, n, ha, h1, ?_⟩
      unfold dst
      have c1 : ¬ ((os.getD (at' + 1) []).length - m ≤ n ∧ at' + 1 + 1 < os.length) := fun z => by
        have := hm.2 (at' + 1) (by omega) z.2
        omega
      rw [if_neg c1, if_pos ⟨h2, by omega⟩]; omega
  · rintro ⟨a, n, ha, h1, h2⟩
    have hn : n < (os.getD a []).length := (List.getElem?_eq_some_iff.mp h1).1
    unfold dst at h2
    split at h2
    · rename_i c
      refine .inl (.inr (came_mem (n := n) (by omega) ?_ ?_))
      · rw [show at' - 1 = a by omega]; exact h1
      · rw [show at' - 1 = a by omega]; exact c.1
    · rename_i c1
      split at h2
      · rename_i c2
        refine .inr (rose_mem (n := n) (by omega) ?_ c2.1)
        rw [show at' + 1 = a by omega]; exact h1
      · rename_i c2
        subst h2
        refine .inl (.inl (stay_mem h1 ?_ ?_))
        · unfold tp; split <;> omega
        · unfold lw; split <;> omega
theorem parts_nd {os : List (List Nat)} (hd : os.flatten.Nodup) {m : Nat} (hm : May os m) {a : Nat} (ha : a < os.length) : (stay os m a ++ came os m a ++ rose os m a).Nodup := by
  have inS : ∀ x ∈ stay os m a, x ∈ os.getD a [] := fun x hx => by
    obtain ⟨n, h, _⟩ := mem_stay hx; exact List.mem_of_getElem? h
  have inC : ∀ x ∈ came os m a, 0 < a ∧ x ∈ os.getD (a - 1) [] := fun x hx => by
    obtain ⟨h0, n, h, _⟩ := mem_came hx; exact ⟨h0, List.mem_of_getElem? h⟩
  have inR : ∀ x ∈ rose os m a, a + 1 < os.length ∧ x ∈ os.getD (a + 1) [] := fun x hx => by
    obtain ⟨h0, n, h, _⟩ := mem_rose hx; exact ⟨h0, List.mem_of_getElem? h⟩
  rw [List.nodup_append, List.nodup_append]
  refine ⟨⟨?_, ?_, ?_⟩, ?_, ?_⟩
  · exact ((tier_nd hd ha).sublist (List.take_sublist _ _)).sublist (List.drop_sublist _ _)
  · unfold came
    split
    · exact (tier_nd hd (a := a - 1) (by omega)).sublist (List.drop_sublist _ _)
    · exact List.nodup_nil
  · intro x hx y hy e
    subst e
    obtain ⟨h0, h1⟩ := inC x hy
    have := tier_dj hd ha (b := a - 1) (by omega) (inS x hx) h1
    omega
  · unfold rose
    split
    · exact (tier_nd hd (a := a + 1) (by omega)).sublist (List.take_sublist _ _)
    · exact List.nodup_nil
  · intro x hx y hy e
    subst e
    obtain ⟨h0, h1⟩ := inR x hy
    rcases List.mem_append.mp hx with z | z
    · have := tier_dj hd ha h0 (inS x z) h1
      omega
    · obtain ⟨g0, g1⟩ := inC x z
      have := tier_dj hd (a := a - 1) (by omega) h0 g1 h1
      omega
theorem parts_lt {os : List (List Nat)} (hb : ∀ t ∈ os, ∀ x ∈ t, x < 9) {m a : Nat} (ha : a < os.length) : ∀ x ∈ stay os m a ++ came os m a ++ rose os m a, x < 9 := by
  have key : ∀ c n x, (os.getD c [])[n]? = some x → x < 9 := fun c n x h => by
    by_cases hc : c < os.length
    · rw [List.getD_eq_getElem?_getD, List.getElem?_eq_getElem hc] at h
      exact hb _ (List.getElem_mem hc) x (List.mem_of_getElem? h)
    · rw [List.getD_eq_getElem?_getD, List.getElem?_eq_none (l := os) (i := c) (by omega)] at h
      simp at h
  intro x hx
  rcases List.mem_append.mp hx with z | z
  · rcases List.mem_append.mp z with z | z
    · obtain ⟨n, h, _⟩ := mem_stay z; exact key _ _ _ h
    · obtain ⟨_, n, h, _⟩ := mem_came z; exact key _ _ _ h
  · obtain ⟨_, n, h, _⟩ := mem_rose z; exact key _ _ _ h
theorem stp_len {os : List (List Nat)} (hd : os.flatten.Nodup) (hb : ∀ t ∈ os, ∀ x ∈ t, x < 9) {m : Nat} (hm : May os m) {a : Nat} (ha : a < os.length) : (nsort (stay os m a ++ came os m a ++ rose os m a)).length = (os.getD a []).length := by
  rw [(nsort_perm (parts_lt hb ha) (parts_nd hd hm ha)).length_eq, List.length_append, List.length_append]
  have h1 := hm.1 a ha
  have ls : (stay os m a).length = (os.getD a []).length - lw os m a - tp m a := by
    unfold stay; rw [List.length_drop, List.length_take]; omega
  have lc : (came os m a).length = tp m a := by
    unfold came tp
    split
    · have := hm.1 (a - 1) (by omega)
      rw [List.length_drop]; omega
    · rfl
  have lr : (rose os m a).length = lw os m a := by
    unfold rose lw
    split
    · rename_i h
      have := hm.1 (a + 1) h
      rw [List.length_take]; omega
    · rfl
  rw [ls, lc, lr]
  have : tp m a + lw os m a ≤ (os.getD a []).length := by
    unfold tp lw
    by_cases c1 : 0 < a
    · by_cases c2 : a + 1 < os.length
      · rw [if_pos c1, if_pos c2]; have := hm.2 a c1 c2; omega
      · rw [if_pos c1, if_neg c2]; omega
    · rw [if_neg c1]; split <;> omega
  omega
theorem stp_zero {os ts : List (List Nat)} (hl : os.length = ts.length) (hp : ∀ a, a < os.length → (os.getD a []).Perm (ts.getD a [])) (hs : ∀ t ∈ ts, t.Pairwise (· < ·)) (hb : ∀ t ∈ ts, ∀ x ∈ t, x < 9) : stp os 0 = ts := by
  unfold stp
  apply List.ext_getElem
  · simp [hl]
  · intro a h1 h2
    have ha : a < os.length := by simpa using h1
    have e1 : stay os 0 a = os.getD a [] := by unfold stay tp lw; simp
    have e2 : came os 0 a = [] := by unfold came; split <;> simp
    have e3 : rose os 0 a = [] := by unfold rose; split <;> simp
    simp only [List.getElem_map, List.getElem_range]
    rw [e1, e2, e3, List.append_nil, List.append_nil]
    have ht : ts.getD a [] = ts[a] := by rw [List.getD_eq_getElem?_getD, List.getElem?_eq_getElem h2]; rfl
    have hpa := hp a ha
    rw [ht] at hpa
    rw [nsort_congr (g' := ts[a]) fun x => hpa.mem_iff]
    exact nsort_id (hb _ (List.getElem_mem h2)) (hs _ (List.getElem_mem h2))
end DL
set_option Elab.async false
set_option linter.all false
set_option maxRecDepth 100000
set_option maxHeartbeats 2000000
set_option autoImplicit false
/-! ties -/
namespace DL
open PySem
def mx (xs : List Int) : Int := (maxL xs).getD 0
def mkr (n : Nat) (C : Nat → Nat → Int) (r : Str) (g : List Nat) (s : Nat) : Int :=
  if r = "wins" then ((List.range n).map (C s)).sum
  else if r = "met" then (g.map (C s)).sum
  else if r = "losses" then 0 - ((List.range n).map fun i => C i s).sum
  else mx ((List.range n).map (C s))
def prt (n : Nat) (C : Nat → Nat → Int) (r : Str) (g : List Nat) : List (List Nat) := (sset (g.map (mkr n C r g))).reverse.map fun own => g.filter fun s => decide (mkr n C r g s = own)
def ordd (n : Nat) (C : Nat → Nat → Int) : List Str → List Nat → List (List Nat)
  | [], g => [g]
  | r :: rs, g => if g.length < 2 then [g] else (prt n C r g).flatMap (ordd n C rs)
theorem mx_perm {a b : List Int} (h : a.Perm b) : mx a = mx b := by
  unfold mx
  cases a with
  | nil => rw [List.nil_perm.mp h]
  | cons x xs =>
    obtain ⟨h1, h2⟩ := maxL_sp xs x
    rw [maxL_eq h1 h2, maxL_eq (xs := b) (h.mem_iff.mp h1) fun y hy => h2 y (h.mem_iff.mpr hy)]
theorem mem_insS (x y : Int) : ∀ xs, y ∈ insS x xs ↔ y = x ∨ y ∈ xs
  | [] => by simp [insS]
  | z :: zs => by
    unfold insS
    split
    · simp
    · split
      · rename_i h; subst h; simp
      · simp [mem_insS x y zs]
        constructor
        · rintro (h | h | h)
          · exact .inr (.inl h)
          · exact .inl h
          · exact .inr (.inr h)
        · rintro (h | h | h)
          · exact .inr (.inl h)
          · exact .inl h
          · exact .inr (.inr h)
theorem insS_srt (x : Int) : ∀ xs : List Int, xs.Pairwise (· < ·) → (insS x xs).Pairwise (· < ·)
  | [], _ => by simp [insS]
  | z :: zs, h => by
    obtain ⟨h1, h2⟩ := List.pairwise_cons.mp h
    unfold insS
    split
    · rename_i c
      refine List.pairwise_cons.mpr ⟨fun y hy => ?_, h⟩
      rcases List.mem_cons.mp hy with e | e
      · rw [e]; exact c
      · have := h1 y e; omega
    · split
      · exact h
      · refine List.pairwise_cons.mpr ⟨fun y hy => ?_, insS_srt x zs h2⟩
        rcases (mem_insS x y zs).mp hy with e | e
        · subst e; omega
        · exact h1 y e
theorem mem_sset (y : Int) : ∀ xs, y ∈ sset xs ↔ y ∈ xs
  | [] => by simp [sset]
  | x :: xs => by rw [sset, mem_insS, mem_sset y xs]; simp
theorem ssetSorted : ∀ xs : List Int, (sset xs).Pairwise (· < ·)
  | [] => .nil
  | x :: xs => insS_srt x _ (ssetSorted xs)
theorem sset_congr {a b : List Int} (h : ∀ x, x ∈ a ↔ x ∈ b) : sset a = sset b := by
  have key : ∀ {a b : List Int}, a.Pairwise (· < ·) → b.Pairwise (· < ·) → (∀ x, x ∈ a ↔ x ∈ b) → a = b := by
    intro a b ha hb hab
    refine perm_sorted' ?_ (ha.imp fun h => by omega) (hb.imp fun h => by omega)
    refine (List.perm_ext_iff_of_nodup ?_ ?_).mpr hab
    · exact ha.imp fun h => by omega
    · exact hb.imp fun h => by omega
  exact key (ssetSorted a) (ssetSorted b) fun x => by rw [mem_sset, mem_sset, h]
theorem part_perm (f : Nat → Int) : ∀ (ks : List Int) (g : List Nat), ks.Nodup → (∀ s ∈ g, f s ∈ ks) → (ks.map fun k => g.filter fun s => decide (f s = k)).flatten.Perm g
  | [], g, _, h => by
    cases g with
    | nil => exact .nil
    | cons s g => exact absurd (h s (by simp)) (by simp)
  | k :: ks, g, hn, h => by
    obtain ⟨n1, n2⟩ := List.nodup_cons.mp hn
    have ih := part_perm f ks (g.filter fun s => !decide (f s = k)) n2 fun s hs => by
      obtain ⟨h1, h2⟩ := List.mem_filter.mp hs
      rcases List.mem_cons.mp (h s h1) with e | e
      · simp [e] at h2
      · exact e
    have e : (ks.map fun k' => (g.filter fun s => !decide (f s = k)).filter fun s => decide (f s = k')) = ks.map fun k' => g.filter fun s => decide (f s = k') := by
      apply List.map_congr_left
      intro k' hk'
      rw [List.filter_filter]
      apply List.filter_congr
      intro s _
      by_cases c : f s = k'
      · have : ¬ f s = k := fun z => n1 (by rw [← z, c]; exact hk')
        simp [c, this]
        intro z; exact this (c.trans z)
      · simp [c]
    rw [e] at ih
    rw [List.map_cons, List.flatten_cons]
    exact (List.Perm.append_left _ ih).trans (List.filter_append_perm _ g)
theorem prt_perm (n : Nat) (C : Nat → Nat → Int) (r : Str) (g : List Nat) : (prt n C r g).flatten.Perm g := by
  refine part_perm _ _ g ?_ fun s hs => ?_
  · unfold List.Nodup
    rw [List.pairwise_reverse]
    exact (ssetSorted _).imp fun h => by omega
  · rw [List.mem_reverse, mem_sset]
    exact List.mem_map.mpr ⟨s, hs, rfl⟩
theorem prt_sub {n : Nat} {C : Nat → Nat → Int} {r : Str} {g p : List Nat} (h : p ∈ prt n C r g) : p.Sublist g := by
  unfold prt at h
  obtain ⟨k, _, rfl⟩ := List.mem_map.mp h
  exact List.filter_sublist
theorem ordd_sub {n : Nat} {C : Nat → Nat → Int} : ∀ (rs : List Str) {g p : List Nat}, p ∈ ordd n C rs g → p.Sublist g
  | [], g, p, h => by rw [List.mem_singleton.mp h]; exact List.Sublist.refl _
  | r :: rs, g, p, h => by
    unfold ordd at h
    split at h
    · rw [List.mem_singleton.mp h]; exact List.Sublist.refl _
    · obtain ⟨q, h1, h2⟩ := List.mem_flatMap.mp h
      exact (ordd_sub rs h2).trans (prt_sub h1)
theorem flatMap_perm {α : Type} (f : List Nat → List (List Nat)) (h : ∀ p, (f p).flatten.Perm p) : ∀ ps : List (List Nat), (ps.flatMap f).flatten.Perm ps.flatten
  | [] => .nil
  | p :: ps => by
    rw [List.flatMap_cons, List.flatten_append, List.flatten_cons]
    exact (h p).append (flatMap_perm (α := α) f h ps)
theorem ordd_perm {n : Nat} {C : Nat → Nat → Int} : ∀ (rs : List Str) (g : List Nat), (ordd n C rs g).flatten.Perm g
  | [], g => by simp [ordd]
  | r :: rs, g => by
    unfold ordd
    split
    · simp
    · exact (flatMap_perm (α := Nat) _ (ordd_perm rs) _).trans (prt_perm n C r g)
theorem ordd_snoc {n : Nat} {C : Nat → Nat → Int} (r : Str) : ∀ (rs : List Str) (g : List Nat), ordd n C (rs ++ [r]) g = (ordd n C rs g).flatMap (ordd n C [r])
  | [], g => by simp [ordd]
  | r0 :: rs, g => by
    rw [List.cons_append]
    unfold ordd
    by_cases c : g.length < 2
    · rw [if_pos c, if_pos c]
      simp [ordd, c]
    · rw [if_neg c, if_neg c, List.flatMap_assoc]
      congr 1
      funext p
      exact ordd_snoc r rs p
/-! ### renumbered -/
structure Ren (n : Nat) (C C' : Nat → Nat → Int) (p : Nat → Nat) : Prop where
  n9 : n ≤ 9
  pm : ((List.range n).map p).Perm (List.range n)
  e : ∀ i j, i < n → j < n → C' (p i) (p j) = C i j
theorem Ren.lt {n : Nat} {C C' : Nat → Nat → Int} {p : Nat → Nat} (h : Ren n C C' p) {i : Nat} (hi : i < n) : p i < n := by
  have := h.pm.mem_iff.mp (List.mem_map.mpr ⟨i, by simpa using hi, rfl⟩)
  simpa using this
theorem Ren.inj {n : Nat} {C C' : Nat → Nat → Int} {p : Nat → Nat} (h : Ren n C C' p) {i j : Nat} (hi : i < n) (hj : j < n) (e : p i = p j) : i = j := by
  have hn := h.pm.nodup_iff.mpr List.nodup_range
  unfold List.Nodup at hn
  rw [List.pairwise_map] at hn
  apply Classical.byContradiction
  intro hne
  rcases Nat.lt_or_gt_of_ne hne with c | c
  · exact List.pairwise_iff_getElem.mp hn i j (by simpa using hi) (by simpa using hj) c (by simpa using e)
  · exact List.pairwise_iff_getElem.mp hn j i (by simpa using hj) (by simpa using hi) c (by simpa using e.symm)
/-- a group renumbered -/
def rg (p : Nat → Nat) (g : List Nat) : List Nat := nsort (g.map p)
structure Gp (n : Nat) (g : List Nat) : Prop where
  s : g.Pairwise (· < ·)
  l : ∀ x ∈ g, x < n
theorem Gp.sub {n : Nat} {g q : List Nat} (h : Gp n g) (hs : q.Sublist g) : Gp n q := ⟨h.s.sublist hs, fun x hx => h.l x (hs.subset hx)⟩
theorem Gp.range (n : Nat) : Gp n (List.range n) := ⟨List.pairwise_lt_range, fun x hx => by simpa using hx⟩
section
variable {n : Nat} {C C' : Nat → Nat → Int} {p : Nat → Nat}
theorem map9 (h : Ren n C C' p) {g : List Nat} (hg : Gp n g) : ∀ x ∈ g.map p, x < 9 := fun x hx => by
  obtain ⟨y, hy, rfl⟩ := List.mem_map.mp hx
  have := h.lt (hg.l y hy)
  have := h.n9
  omega
theorem map_nd (h : Ren n C C' p) {g : List Nat} (hg : Gp n g) : (g.map p).Nodup := by
  unfold List.Nodup
  rw [List.pairwise_map]
  refine (hg.s.imp_of_mem fun {a b} ha hb hab e => ?_)
  have := h.inj (hg.l a ha) (hg.l b hb) e
  omega
theorem rg_perm (h : Ren n C C' p) {g : List Nat} (hg : Gp n g) : (rg p g).Perm (g.map p) := nsort_perm (map9 h hg) (map_nd h hg)
theorem mem_rg (h : Ren n C C' p) {g : List Nat} (hg : Gp n g) (x : Nat) : x ∈ rg p g ↔ ∃ y ∈ g, p y = x := by
  rw [(rg_perm h hg).mem_iff, List.mem_map]
theorem rg_gp (h : Ren n C C' p) {g : List Nat} (hg : Gp n g) : Gp n (rg p g) := ⟨nsort_sorted _, fun x hx => by
  obtain ⟨y, hy, rfl⟩ := (mem_rg h hg x).mp hx
  exact h.lt (hg.l y hy)⟩
theorem rg_inj (h : Ren n C C' p) {g q : List Nat} (hg : Gp n g) (hq : Gp n q) (e : rg p g = rg p q) : g = q := by
  have one : ∀ {g q : List Nat}, Gp n g → Gp n q → rg p g = rg p q → ∀ x ∈ g, x ∈ q := fun {g q} hg hq e x hx => by
    have h1 : p x ∈ rg p q := by rw [← e]; exact (mem_rg h hg _).mpr ⟨x, hx, rfl⟩
    obtain ⟨y, hy, e2⟩ := (mem_rg h hq _).mp h1
    have := h.inj (hg.l x hx) (hq.l y hy) e2.symm
    rw [this]; exact hy
  exact sorted_ext hg.s hq.s fun x => ⟨one hg hq e x, one hq hg e.symm x⟩
theorem rg_range (h : Ren n C C' p) : rg p (List.range n) = List.range n := by
  refine sorted_ext (nsort_sorted _) List.pairwise_lt_range fun x => ?_
  show x ∈ rg p (List.range n) ↔ _
  rw [(rg_perm h (Gp.range n)).mem_iff, h.pm.mem_iff]
theorem mkr_ren (h : Ren n C C' p) (r : Str) {g : List Nat} (hg : Gp n g) {s : Nat} (hs : s < n) : mkr n C' r (rg p g) (p s) = mkr n C r g s := by
  have row : ((List.range n).map (C' (p s))).Perm ((List.range n).map (C s)) := by
    refine (h.pm.symm.map (C' (p s))).trans ?_
    rw [List.map_map]
    refine List.Perm.of_eq (List.map_congr_left fun j hj => ?_)
    exact h.e s j hs (by simpa using hj)
  have col : ((List.range n).map fun i => C' i (p s)).Perm ((List.range n).map fun i => C i s) := by
    refine (h.pm.symm.map (fun i => C' i (p s))).trans ?_
    rw [List.map_map]
    refine List.Perm.of_eq (List.map_congr_left fun j hj => ?_)
    exact h.e j s (by simpa using hj) hs
  have met : ((rg p g).map (C' (p s))).Perm (g.map (C s)) := by
    refine ((rg_perm h hg).map (C' (p s))).trans ?_
    rw [List.map_map]
    refine List.Perm.of_eq (List.map_congr_left fun j hj => ?_)
    exact h.e s j hs (hg.l j hj)
  unfold mkr
  rw [sum_perm row, sum_perm col, sum_perm met, mx_perm row]
theorem prt_ren (h : Ren n C C' p) (r : Str) {g : List Nat} (hg : Gp n g) : prt n C' r (rg p g) = (prt n C r g).map (rg p) := by
  unfold prt
  have e : sset ((rg p g).map (mkr n C' r (rg p g))) = sset (g.map (mkr n C r g)) := sset_congr fun x => by
    rw [List.mem_map, List.mem_map]
    constructor
    · rintro ⟨y, hy, e⟩
      obtain ⟨z, hz, rfl⟩ := (mem_rg h hg y).mp hy
      exact ⟨z, hz, by rw [← e, mkr_ren h r hg (hg.l z hz)]⟩
    · rintro ⟨z, hz, e⟩
      exact ⟨p z, (mem_rg h hg _).mpr ⟨z, hz, rfl⟩, by rw [mkr_ren h r hg (hg.l z hz), e]⟩
  rw [e, List.map_map]
  apply List.map_congr_left
  intro k _
  show _ = rg p (g.filter _)
  have hq : Gp n (g.filter fun s => decide (mkr n C r g s = k)) := hg.sub List.filter_sublist
  refine sorted_ext ((rg_gp h hg).s.sublist List.filter_sublist) (rg_gp h hq).s fun x => ?_
  rw [List.mem_filter, mem_rg h hg, mem_rg h hq]
  constructor
  · rintro ⟨⟨y, hy, rfl⟩, e⟩
    have e := of_decide_eq_true e
    rw [mkr_ren h r hg (hg.l y hy)] at e
    exact ⟨y, List.mem_filter.mpr ⟨hy, decide_eq_true e⟩, rfl⟩
  · rintro ⟨y, hy, rfl⟩
    obtain ⟨h1, h2⟩ := List.mem_filter.mp hy
    refine ⟨⟨y, h1, rfl⟩, decide_eq_true ?_⟩
    rw [mkr_ren h r hg (hg.l y h1)]
    exact of_decide_eq_true h2
theorem rg_len (h : Ren n C C' p) {g : List Nat} (hg : Gp n g) : (rg p g).length = g.length := by rw [(rg_perm h hg).length_eq, List.length_map]
theorem ordd_ren (h : Ren n C C' p) : ∀ (rs : List Str) {g : List Nat}, Gp n g → ordd n C' rs (rg p g) = (ordd n C rs g).map (rg p)
  | [], g, hg => rfl
  | r :: rs, g, hg => by
    unfold ordd
    rw [rg_len h hg]
    by_cases c : g.length < 2
    · rw [if_pos c, if_pos c]; rfl
    · rw [if_neg c, if_neg c, prt_ren h r hg, List.map_flatMap, List.flatMap_map]
      have key : ∀ ps : List (List Nat), (∀ q ∈ ps, Gp n q) → ps.flatMap (fun q => ordd n C' rs (rg p q)) = ps.flatMap fun q => (ordd n C rs q).map (rg p) := by
        intro ps
        induction ps with
        | nil => intro _; rfl
        | cons q ps ih =>
          intro hq
          rw [List.flatMap_cons, List.flatMap_cons, ordd_ren h rs (hq q (by simp)), ih fun q' h' => hq q' (by simp [h'])]
      exact key _ fun q hq => hg.sub (prt_sub hq)
theorem ordd_renR (h : Ren n C C' p) (rs : List Str) : ordd n C' rs (List.range n) = (ordd n C rs (List.range n)).map (rg p) := by
  have := ordd_ren h rs (Gp.range n)
  rw [rg_range h] at this
  exact this
theorem map_rg_inj (h : Ren n C C' p) : ∀ {a b : List (List Nat)}, (∀ g ∈ a, Gp n g) → (∀ g ∈ b, Gp n g) → a.map (rg p) = b.map (rg p) → a = b
  | [], [], _, _, _ => rfl
  | [], _ :: _, _, _, e => by cases e
  | _ :: _, [], _, _, e => by cases e
  | x :: a, y :: b, ha, hb, e => by
    rw [List.map_cons, List.map_cons] at e
    injection e with e1 e2
    rw [rg_inj h (ha x (by simp)) (hb y (by simp)) e1, map_rg_inj h (fun g hg => ha g (by simp [hg])) (fun g hg => hb g (by simp [hg])) e2]
theorem ordd_gp (rs : List Str) : ∀ g ∈ ordd n C rs (List.range n), Gp n g := fun g hg => (Gp.range n).sub (ordd_sub rs hg)
theorem same_ren (h : Ren n C C' p) (rs ss : List Str) : decide (ordd n C' rs (List.range n) = ordd n C' ss (List.range n)) = decide (ordd n C rs (List.range n) = ordd n C ss (List.range n)) := by
  apply decide_eq_decide.mpr
  rw [ordd_renR h, ordd_renR h]
  exact ⟨map_rg_inj h (ordd_gp rs) (ordd_gp ss), fun e => by rw [e]⟩
end
end DL
set_option Elab.async false
set_option linter.all false
set_option maxRecDepth 100000
set_option autoImplicit false
/-! texts, plain -/
namespace DL
open PySem TL
/-! ### steps -/
section
variable {A B : XE} {L : XL} {t : XT} {δ : DE} {d x y : D} {xs : List D}
theorem eM {f : Str → D → Option D} {z : Str} (h : A δ = some (.ok (.str z))) (h2 : B δ = some (.ok y)) (h3 : f z y = some d) : xM f A B δ = some (.ok d) := by
  unfold xM; rw [h, bnd_ok]
  show (bnd (B δ) fun y => lift (f z y)) = _
  rw [h2, bnd_ok, h3]; rfl
theorem eMF {f : Str → D → Option (List D)} {z : Str} (h : A δ = some (.ok (.str z))) (h2 : B δ = some (.ok y)) (h3 : f z y = some xs) : xMF f A B δ = some (.ok xs) := by
  unfold xMF; rw [h, bnd_ok]
  show (bnd (B δ) fun y => lift (f z y)) = _
  rw [h2, bnd_ok, h3]; rfl
theorem eSliceS {lo hi : XO} {z : Str} {l h : Option Int} (h1 : A δ = some (.ok (.str z))) (hl : lo δ = some (.ok l)) (hh : hi δ = some (.ok h)) (hz : z.length ≤ sz) : xSliceS A lo hi δ = some (.ok (.str (L2.cutS z l h))) := by
  unfold xSliceS; rw [h1, bnd_ok, hl, bnd_ok, hh, bnd_ok]
  show lift (if z.length ≤ sz then some (PyData.str (L2.cutS z l h)) else none) = _
  rw [if_pos hz]; rfl
theorem eIterS {z : Str} (h1 : A δ = some (.ok (.str z))) (hz : z.length ≤ sz) : xIterS A δ = some (.ok ((tl z).map fun c => PyData.str ⟨#[c]⟩)) := by
  unfold xIterS; rw [h1, bnd_ok]
  show lift (if z.length ≤ sz then some (z.cps.toList.map fun c => PyData.str ⟨#[c]⟩) else none) = _
  rw [if_pos hz]; rfl
/-- a comprehension that may raise: whatever its items tell -/
theorem lcX_all {ι : Type} (enc : ι → D) (f : ι → Rs D) {g : XG} {e : XE} : ∀ (is : List ι), (∀ i ∈ is, ∃ δ1, g (enc i) δ = some δ1 ∧ e δ1 = some (f i)) →
    (∃ ys, lcGoX g yTrue e δ (is.map enc) = some (.ok ys) ∧ ys.length = is.length ∧ is.map f = ys.map Rs.ok) ∨ ∃ c, lcGoX g yTrue e δ (is.map enc) = some (.ex c) ∧ ∃ i ∈ is, f i = .ex c
  | [], _ => .inl ⟨[], rfl, rfl, rfl⟩
  | i :: is, h => by
    obtain ⟨δ1, h1, h2⟩ := h i (by simp)
    have ih := lcX_all enc f is fun i hi => h i (by simp [hi])
    have e0 : lcGoX g yTrue e δ ((i :: is).map enc) = bnd (e δ1) fun y => bnd (lcGoX g yTrue e δ (is.map enc)) fun ys => ret (y :: ys) := by
      rw [List.map_cons]
      show (match g (enc i) δ with | none => none | some δ1 => _) = _
      rw [h1]; rfl
    rw [e0, h2]
    cases q : f i with
    | ex c => exact .inr ⟨c, rfl, i, by simp, q⟩
    | ok y =>
      rw [bnd_ok]
      rcases ih with ⟨ys, i1, i2, i3⟩ | ⟨c, i1, j, hj, i2⟩
      · rw [i1, bnd_ok]
        exact .inl ⟨y :: ys, rfl, by simp [i2], by simp [q, i3]⟩
      · rw [i1]
        exact .inr ⟨c, rfl, j, by simp [hj], i2⟩
end
/-! ### numbers as texts -/
def nS (i : Int) : Str := toString i
theorem nS_tl (n : Nat) : tl (nS (n : Int)) = numL n := tl_num n
theorem nS_len {i : Int} (h0 : 0 ≤ i) (h : i ≤ 99) : 1 ≤ (nS i).length ∧ (nS i).length ≤ 2 := by
  obtain ⟨n, rfl⟩ := Int.eq_ofNat_of_zero_le h0
  rw [len_tl]
  have e : tl (nS (Int.ofNat n)) = numL n := nS_tl n
  rw [show ((n : Nat) : Int) = Int.ofNat n from rfl, e]
  refine ⟨?_, numL_len (k := 2) (by omega) (by omega)⟩
  have := numL_ne n
  cases q : numL n with
  | nil => exact absurd q this
  | cons a b => simp
theorem nS_dig {i : Int} (h0 : 0 ≤ i) : NumText.AllDigits (tl (nS i)) := by
  obtain ⟨n, rfl⟩ := Int.eq_ofNat_of_zero_le h0
  rw [nS_tl]; exact numL_digits n
theorem nS_free {i : Int} (h0 : 0 ≤ i) {s : Nat} (h : s < 48 ∨ 57 < s) : s ∉ tl (nS i) := fun z => by
  have := nS_dig h0 s z
  omega
theorem nS_int {i : Int} (h0 : 0 ≤ i) (h : i ≤ 99) : intText? (nS i) = some i := by
  obtain ⟨n, rfl⟩ := Int.eq_ofNat_of_zero_le h0
  exact int_num (Nat.le_trans (numL_len (k := 2) (by omega) (by omega)) (by omega))
theorem q_strD {i : Int} (h0 : 0 ≤ i) (h : i ≤ 99) : strD (.int i) = some (.str (nS i)) := by
  have hl : i.natAbs.log2 < 1920 := by
    by_cases hz : i.natAbs = 0
    · rw [hz]; decide
    · exact Nat.lt_of_lt_of_le ((Nat.log2_lt (k := 7) hz).mpr (by omega)) (by omega)
  exact if_pos hl
theorem inStr_one (c : Nat) (z : Str) : inStr ⟨#[c]⟩ z = decide (c ∈ tl z) := PySem.StrLaws.found_one z c
def figs : Str := "0123456789"
theorem figs_tl : tl figs = [48, 49, 50, 51, 52, 53, 54, 55, 56, 57] := by decide +kernel
theorem mem_figs (c : Nat) : c ∈ tl figs ↔ 48 ≤ c ∧ c ≤ 57 := by
  rw [figs_tl]; simp; omega
/-! ### joined, split -/
theorem mem_joinL {S : List Nat} {c : Nat} : ∀ {ps : List (List Nat)}, c ∈ joinL S ps → c ∈ S ∨ ∃ p ∈ ps, c ∈ p
  | [], h => by cases h
  | [p], h => .inr ⟨p, by simp, h⟩
  | p :: q :: r, h => by
    have h : c ∈ p ++ (S ++ joinL S (q :: r)) := h
    rcases List.mem_append.mp h with h | h
    · exact .inr ⟨p, by simp, h⟩
    · rcases List.mem_append.mp h with h | h
      · exact .inl h
      · rcases mem_joinL (ps := q :: r) h with h | ⟨x, hx, h⟩
        · exact .inl h
        · exact .inr ⟨x, List.mem_cons_of_mem _ hx, h⟩
theorem joinL_len {S : List Nat} {k : Nat} : ∀ {ps : List (List Nat)}, (∀ p ∈ ps, p.length ≤ k) → (joinL S ps).length ≤ ps.length * (k + S.length)
  | [], _ => by simp [joinL]
  | [p], h => by
    have := h p (by simp)
    simp [joinL]; omega
  | p :: q :: r, h => by
    have h1 := h p (by simp)
    have h2 := joinL_len (S := S) (ps := q :: r) fun x hx => h x (List.mem_cons_of_mem _ hx)
    show (p ++ (S ++ joinL S (q :: r))).length ≤ _
    rw [List.length_append, List.length_append, List.length_cons, Nat.add_mul]
    omega
theorem tl_joinT (y : Str) (ps : List Str) : tl (Txt.join y ps) = joinL (tl y) (ps.map tl) := by rw [join_eq, tl_join]
theorem spl_ne (S : List Nat) : ∀ (l : List Nat) (k : Nat) (acc : List Nat), spl S k acc l ≠ []
  | [], k, acc => by rw [spl_nil]; simp
  | c :: r, 0, acc => by
    cases h : pre S (c :: r) with
    | true => rw [spl_hit h]; simp
    | false => rw [spl_miss h]; exact spl_ne S r 0 _
  | c :: r, k + 1, acc => by
    rw [spl_pass]
    show spl S 0 acc (r.drop k) ≠ []
    rw [← spl_pass]
    exact spl_ne S r k acc
theorem spl_len (S : List Nat) : ∀ (l : List Nat) (k : Nat) (acc : List Nat), ∀ p ∈ spl S k acc l, p.length ≤ acc.length + l.length
  | [], k, acc, p, hp => by
    rw [spl_nil] at hp
    rw [List.mem_singleton.mp hp]; simp
  | c :: r, 0, acc, p, hp => by
    cases h : pre S (c :: r) with
    | true =>
      rw [spl_hit h] at hp
      rcases List.mem_cons.mp hp with rfl | hp
      · omega
      · have := spl_len S r (S.length - 1) [] p hp
        simp at this ⊢; omega
    | false =>
      rw [spl_miss h] at hp
      have := spl_len S r 0 (acc ++ [c]) p hp
      simp at this ⊢; omega
  | c :: r, k + 1, acc, p, hp => by
    rw [spl_pass] at hp
    have hp : p ∈ spl S 0 acc (r.drop k) := hp
    rw [← spl_pass] at hp
    have := spl_len S r k acc p hp
    simp; omega
theorem split_len {x y : Str} (hy : tl y ≠ []) (hk : y.cps.all (· < 256) = true) : ∀ p ∈ Txt.split x y, p.length ≤ x.length := fun p hp => by
  have : tl p ∈ spl (tl y) 0 [] (tl x) := by
    rw [← split_spl x y hy (kind_ok hk)]
    exact List.mem_map_of_mem hp
  have := spl_len _ _ _ _ _ this
  rw [len_tl, len_tl]
  simpa using this
theorem split_ne {x y : Str} (hy : tl y ≠ []) (hk : y.cps.all (· < 256) = true) : Txt.split x y ≠ [] := fun e => by
  have := split_spl x y hy (kind_ok hk)
  rw [e] at this
  exact spl_ne _ _ _ _ this.symm
theorem partition_len (x y : Str) : (Txt.partition x y).1.length ≤ x.length ∧ (Txt.partition x y).2.2.length ≤ x.length := by
  unfold Txt.partition
  split
  · dsimp only
    rw [len_tl (PySem.Builtin.Str.strSub x (_ + y.length) x.length), tl_strSub, len_tl (PySem.Builtin.Str.strSub x 0 _), tl_strSub, len_tl x]
    simp only [List.length_take, List.length_drop]
    omega
  · dsimp only
    rw [len_tl, len_tl Str.empty]
    simp [Str.empty]
/-! ### leagues -/
def mS (m : Mt) : Str := nS m.1 ++ "-" ++ nS m.2.1 ++ ":" ++ nS m.2.2
def headS (w : List Int) : Str := Txt.join " " (w.map nS)
def partsS (w : List Int) (l : List Mt) : List Str := headS w :: l.map mS
def ltext (w : List Int) (l : List Mt) : Str := Txt.join ", " (partsS w l)
theorem tl_sp : tl (" " : Str) = [32] := by decide +kernel
theorem tl_cs : tl (", " : Str) = [44, 32] := by decide +kernel
theorem tl_co : tl (":" : Str) = [58] := by decide +kernel
theorem tl_da : tl ("-" : Str) = [45] := by decide +kernel
theorem tl_mS (m : Mt) : tl (mS m) = tl (nS m.1) ++ [45] ++ tl (nS m.2.1) ++ [58] ++ tl (nS m.2.2) := by
  unfold mS
  rw [tl_append, tl_append, tl_append, tl_append, tl_co, tl_da]
theorem mem_mS {m : Mt} (h : 0 ≤ m.2.2) {c : Nat} (hc : c ∈ tl (mS m)) : 48 ≤ c ∧ c ≤ 57 ∨ c = 45 ∨ c = 58 := by
  rw [tl_mS] at hc
  simp only [List.mem_append, List.mem_singleton] at hc
  rcases hc with (((hc | hc) | hc) | hc) | hc
  · exact .inl (nS_dig (by omega) c hc)
  · exact .inr (.inl hc)
  · exact .inl (nS_dig (by omega) c hc)
  · exact .inr (.inr hc)
  · exact .inl (nS_dig h c hc)
theorem mem_headS {w : List Int} (h : ∀ x ∈ w, 0 ≤ x) {c : Nat} (hc : c ∈ tl (headS w)) : 48 ≤ c ∧ c ≤ 57 ∨ c = 32 := by
  unfold headS at hc
  rw [tl_joinT, tl_sp] at hc
  rcases mem_joinL hc with hc | ⟨p, hp, hc⟩
  · exact .inr (List.mem_singleton.mp hc)
  · obtain ⟨z, hz, rfl⟩ := List.mem_map.mp hp
    obtain ⟨i, hi, rfl⟩ := List.mem_map.mp hz
    exact .inl (nS_dig (h i hi) c hc)
theorem mem_parts {w : List Int} {l : List Mt} (hw : ∀ x ∈ w, 0 ≤ x) (hl : ∀ m ∈ l, 0 ≤ m.2.2) {p : Str} (hp : p ∈ partsS w l) {c : Nat} (hc : c ∈ tl p) : c < 128 ∧ c ≠ 44 := by
  rcases List.mem_cons.mp hp with rfl | hp
  · have := mem_headS hw hc; omega
  · obtain ⟨m, hm, rfl⟩ := List.mem_map.mp hp
    have := mem_mS (hl m hm) hc; omega
theorem split_ltext {w : List Int} {l : List Mt} (hw : ∀ x ∈ w, 0 ≤ x) (hl : ∀ m ∈ l, 0 ≤ m.2.2) : Txt.split (ltext w l) ", " = partsS w l :=
  split_join tl_cs (by decide +kernel) (by simp [partsS]) fun p hp hc => (mem_parts hw hl hp hc).2 rfl
theorem split_head {w : List Int} (hne : w ≠ []) (hw : ∀ x ∈ w, 0 ≤ x) : Txt.split (headS w) " " = w.map nS :=
  split_join tl_sp (by decide +kernel) (by simpa using hne) fun p hp => by
    obtain ⟨i, hi, rfl⟩ := List.mem_map.mp hp
    exact nS_free (hw i hi) (.inl (by omega))
theorem parti_m {m : Mt} : Txt.partition (mS m) ":" = (nS m.1 ++ "-" ++ nS m.2.1, (":" : Str), nS m.2.2) := partition_app tl_co fun h => by
  rw [tl_append, tl_append, tl_da] at h
  simp only [List.mem_append, List.mem_singleton] at h
  rcases h with (h | h) | h
  · exact nS_free (i := m.1) (by omega) (.inr (by omega)) h
  · omega
  · exact nS_free (i := m.2.1) (by omega) (.inr (by omega)) h
theorem parti_p (a b : Nat) : Txt.partition (nS a ++ "-" ++ nS b) "-" = (nS a, ("-" : Str), nS b) := partition_app tl_da fun h => nS_free (i := a) (by omega) (.inl (by omega)) h
theorem mS_len {m : Mt} (h1 : m.1 ≤ 99) (h2 : m.2.1 ≤ 99) (h3 : 0 ≤ m.2.2) (h4 : m.2.2 ≤ 99) : (mS m).length ≤ 8 := by
  have a := (nS_len (i := m.1) (by omega) (by omega)).2
  have b := (nS_len (i := m.2.1) (by omega) (by omega)).2
  have c := (nS_len h3 h4).2
  rw [len_tl] at a b c ⊢
  rw [tl_mS]
  simp only [List.length_append, List.length_singleton]
  omega
theorem headS_len {w : List Int} (hw : ∀ x ∈ w, 0 ≤ x ∧ x ≤ 99) : (headS w).length ≤ w.length * 3 := by
  unfold headS
  rw [len_tl, tl_joinT, tl_sp]
  have := joinL_len (S := [32]) (k := 2) (ps := (w.map nS).map tl) fun p hp => by
    obtain ⟨z, hz, rfl⟩ := List.mem_map.mp hp
    obtain ⟨i, hi, rfl⟩ := List.mem_map.mp hz
    rw [← len_tl]
    exact (nS_len (hw i hi).1 (hw i hi).2).2
  simpa using this
theorem parts_len {w : List Int} {l : List Mt} (h : Lg w l) : ∀ p ∈ partsS w l, p.length ≤ 18 := fun p hp => by
  rcases List.mem_cons.mp hp with rfl | hp
  · have := headS_len (w := w) fun x hx => ⟨(h.w x hx).1, by have := (h.w x hx).2; omega⟩
    have := h.n6
    omega
  · obtain ⟨m, hm, rfl⟩ := List.mem_map.mp hp
    have a := h.l m hm
    have := h.n6
    have := mS_len (m := m) (by omega) (by omega) (by omega) (by omega)
    omega
theorem ltext_len {w : List Int} {l : List Mt} (h : Lg w l) : (ltext w l).length ≤ 740 := by
  unfold ltext
  rw [len_tl, tl_joinT, tl_cs]
  have := joinL_len (S := [44, 32]) (k := 18) (ps := (partsS w l).map tl) fun p hp => by
    obtain ⟨z, hz, rfl⟩ := List.mem_map.mp hp
    rw [← len_tl]
    exact parts_len h z hz
  have hf := h.few
  simp [partsS] at this ⊢
  omega
theorem ltext_mem {w : List Int} {l : List Mt} (h : Lg w l) : ∀ c ∈ tl (ltext w l), c < 128 := fun c hc => by
  unfold ltext at hc
  rw [tl_joinT, tl_cs] at hc
  rcases mem_joinL hc with hc | ⟨p, hp, hc⟩
  · simp at hc; omega
  · obtain ⟨z, hz, rfl⟩ := List.mem_map.mp hp
    exact (mem_parts (fun x hx => (h.w x hx).1) (fun m hm => by have := (h.l m hm).2.2.1; omega) hz hc).1
theorem lay_str {x : Str} (h : ∀ c ∈ tl x, c < 128) : PyData.canLay0 (.str x) = true := by
  show PyData.strOk x = true
  unfold PyData.strOk
  rw [Array.all_eq_true']
  intro c hc
  have := h c (by simpa [tl] using hc)
  simpa using (show c < 0x110000 by omega)
theorem strsOf_map (ys : List Str) : strsOf (ys.map PyData.str) = some ys := by
  induction ys with
  | nil => rfl
  | cons y ys ih => simp [strsOf, ih]
theorem q_join {a : Str} {ys : List Str} (k : Nat) (h : ∀ y ∈ ys, y.length ≤ k) (hz : ys.length * (k + a.length) ≤ 16777216) : joinD a (.list (ys.map PyData.str)) = some (.str (Txt.join a ys)) := by
  have hs : (ys.map (·.length)).sum ≤ ys.length * k := by
    clear hz
    induction ys with
    | nil => simp
    | cons y ys ih =>
      have h1 := h y (by simp)
      have h2 := ih fun z hz => h z (by simp [hz])
      simp only [List.map_cons, List.sum_cons, List.length_cons, Nat.add_mul]
      omega
  show ((strsOf (ys.map PyData.str)).bind _) = _
  rw [strsOf_map, Option.bind_some]
  rw [Nat.mul_add] at hz
  exact if_pos (by omega)
theorem q_addS {x y : Str} (h : x.length + y.length ≤ sz) : addD (.str x) (.str y) = some (.str (x ++ y)) := if_pos h
theorem app_len (x y : Str) : (x ++ y).length = x.length + y.length := by
  rw [len_tl, tl_append, List.length_append, len_tl, len_tl]
theorem cutS_mem {z : Str} {lo hi : Option Int} {c : Nat} (h : c ∈ tl (L2.cutS z lo hi)) : c ∈ tl z := by
  unfold L2.cutS at h
  rw [tl_mk] at h
  exact List.mem_of_mem_drop (List.mem_of_mem_take h)
theorem cutS_len (z : Str) (lo hi : Option Int) : (L2.cutS z lo hi).length ≤ z.length := by
  unfold L2.cutS
  rw [len_tl, tl_mk, len_tl z]
  simp
  omega
theorem eqv_str (x y : Str) : PyData.eqv (.str x) (.str y) = decide (x = y) := by
  simp only [PyData.eqv]
  by_cases h : x = y <;> simp [h]
end DL
set_option Elab.async false
set_option linter.all false
set_option maxRecDepth 100000
set_option maxHeartbeats 2000000
set_option autoImplicit false
namespace K61
open PySem DL
def fl (c n : Nat) : List Bool := (List.range n).map fun k => decide (c = k)
theorem wd_val (c : Nat) (x : Str) (hx : cls[c]? = some x) (ea : Nat) : g__law_word c ea (.raw ea :: List.replicate ((["e", "flags", "names", "flag"] : List Str).length - 1) .no) = some (.rt (.str x)) := by
  have hc : c < 9 := (List.getElem?_eq_some_iff.mp hx).1
  have f4 : ([.bool (decide (c = 0)), .bool (decide (c = 1)), .bool (decide (c = 2)), .bool (decide (c = 3))] : List D) = (fl c 4).map .bool := rfl
  have f8 : (fl c 4).map PyData.bool ++ ([.bool (decide (c = 4)), .bool (decide (c = 5)), .bool (decide (c = 6)), .bool (decide (c = 7))] : List D) = (fl c 8).map .bool := rfl
  have f9 : (fl c 8).map PyData.bool ++ [.bool (decide (c = 8))] = (fl c 9).map .bool := rfl
  have hs : ∀ c < 9, ((fl c 9).map fun b => if b then (1 : Int) else 0).sum = 1 := by decide
  have hi : ∀ c < 9, (fl c 9).findIdx? (fun x => decide (x = true)) = some c := by decide
  suffices h : wp (g__law_word c ea) [.raw ea, .no, .no, .no] (fun o => o = .rt (.str x)) by
    obtain ⟨o, h1, rfl⟩ := h
    exact h1
  refine wp_seq (wp_new (ds := (fl c 4).map .bool) (q_xLst _ _ _ (by rw [← f4]; simp [isE_raw]) (by simp [fl, sz])) (by simp) ?_)
  refine wp_seq (wp_frz (ds := (fl c 4).map .bool) rfl (wp_new (ds := (fl c 8).map .bool) ?_ (by simp) ?_))
  · rw [← f8]
    exact eCat (by simp) (eOfL (q_xLst _ _ _ (by simp [isE_raw]) (by simp [sz]))) (by simp [fl, sz])
  refine wp_seq (wp_app (ds := (fl c 8).map .bool) (d := .bool (decide (c = 8))) rfl (by simp [isE_raw]) (by simp [fl, sz]) ?_)
  rw [f9]
  refine wp_seq (wp_ifF (eYor (eV (e2 (x := .int 1) (y := .int 1) (eKeep (x := .int 1) (ds := (fl c 9).map .bool) rfl (e1 (eOfL (eLcM PyData.bool (fun b => .int (if b then 1 else 0)) (fl c 9) (eIterL (by simp)) ?_)) ?_) rfl) rfl (by simp))) (by simp [isE_raw])) (wp_next ?_))
  · intro b hb
    exact ⟨_, rfl, by simp [wipeD, unOwn]⟩
  · have e : sumLD (.list ((fl c 9).map fun b => PyData.int (if b then 1 else 0))) = (intsOf ((fl c 9).map fun b => PyData.int (if b then 1 else 0))).map fun ns => PyData.int ns.sum := rfl
    rw [e, intsOf_mapf, Option.map_some, hs c hc]
  refine wp_seq (wp_asg (d := .list (cls.map .str)) (eOfL (q_xLst _ _ _ rfl (by rw [List.length_map]; show 9 ≤ sz; unfold sz; omega))) rfl ?_)
  refine wp_frz (ds := (fl c 9).map .bool) rfl (wp_ret (e2 (x := .list (cls.map .str)) (y := .int c) (by simp) (eIndexB (bs := fl c 9) (b := true) (j := c) (by simp) rfl (hi c hc)) ?_) rfl)
  have hc2 : c < cls.length := hc
  rw [q_ixL, atI_nat (by rw [List.length_map]; exact hc2), List.getElem_map]
  rw [List.getElem?_eq_getElem hc2] at hx
  cases hx
  rfl
theorem is_count_I (i lo hi : Int) : F_is_count [.int i, .int lo, .int hi] = some (.ok (.bool (decide (lo ≤ i) && decide (i ≤ hi)))) := by
  refine fnD_of rfl (wp_ret ?_ rfl)
  simp [isi]
  by_cases h : lo ≤ i <;> simp [h]
theorem is_count_T {i lo hi : Int} (h1 : lo ≤ i) (h2 : i ≤ hi) : F_is_count [.int i, .int lo, .int hi] = some (.ok (.bool true)) := by
  rw [is_count_I]; simp [h1, h2]
theorem is_count_D (d : D) (lo hi : Int) : F_is_count [d, .int lo, .int hi] = some (.ok (.bool (icD d lo hi))) := by
  refine fnD_of rfl (wp_ret ?_ rfl)
  cases d with
  | int i =>
    simp [isi, icD]
    by_cases h : lo ≤ i <;> simp [h]
  | bool b => simp [isi, icD]
  | none => simp [isi, icD]
  | str x => simp [isi, icD]
  | list x => simp [isi, icD]
  | tuple x => simp [isi, icD]
  | dict x => simp [isi, icD]
theorem is_left_I (m : Mt) (n : Nat) (h : m.1 < m.2.1 ∧ m.2.1 < n ∧ 1 ≤ m.2.2 ∧ m.2.2 ≤ 9) : F_is_left [m3 m, .int n] = some (.ok (.bool true)) := by
  obtain ⟨h1, h2, h3, h4⟩ := h
  refine fnD_of rfl (wp_seq (wp_ifF ?_ (wp_next (wp_ret (eAnd true true (e1 (eOfL (eLcM (fun (i : Nat) => PyData.int i) (fun _ => PyData.bool true) [m.1, m.2.1] ?_ ?_)) ?_) ?_) rfl))))
  · simp [isi, m3, atI_2, is_count_I, h3, h4]
  · simp [m3, cut_tup2]
  · intro i hi
    refine ⟨_, rfl, ?_⟩
    have hi' : i = m.1 ∨ i = m.2.1 := by simpa using hi
    simp [wipeD, unOwn, is_count_I]; omega
  · rfl
  · intro _; simp [m3, atI_1]; omega
theorem is_left_001 (n : Int) (hn : 1 ≤ n) : F_is_left [.tuple [.int 0, .int 0, .int 1], .int n] = some (.ok (.bool false)) := by
  refine fnD_of rfl (wp_seq (wp_ifF (eYor (by simp [isi]) (eYor (by simp) (by simp [atI_2, is_count_D, icD]))) (wp_next (wp_ret (eAnd true false (e1 (eOfL (eLcM id (fun _ => .bool true) [.int 0, .int 0] ?_ ?_)) rfl) (fun _ => ?_)) rfl))))
  · simp [cut_tup2]
  · intro i hi
    have hi' : i = .int 0 := by simpa using hi
    subst hi'
    have h0 : (0 : Int) ≤ n - 1 := by omega
    exact ⟨_, rfl, by simp [wipeD, unOwn, is_count_D, icD, h0, hn]⟩
  · simp [atI_1]
theorem is_league_I {w : List Int} {l : List Mt} (h : Lg w l) : F_is_league [lg w l] = some (.ok (.bool true)) := by
  refine fnD_of rfl (wp_seq (wp_ifF (eYor ?_ (eYor ?_ (eYnot (b := true) (eV (e1 (eOfL (eLcM id (fun _ => .bool true) [tyI w, .tuple (l.map m3)] ?_ ?_)) rfl))))) (wp_next (wp_seq (wp_asg (d := lg w l) rfl rfl (wp_seq (wp_ifF (eYor ?_ (eYnot (b := true) (eV (e1 (eOfL (eLcM PyData.int (fun _ => .bool true) w ?_ ?_)) ?_)))) (wp_next (wp_seq (wp_ifF (eYnot (b := true) (eV (e1 (eOfL (eLcM m3 (fun _ => .bool true) l ?_ ?_)) ?_))) (wp_next (wp_ret (e1 (eOfL (eLcM (fun p : Mt × Mt => .tuple [m3 p.1, m3 p.2]) (fun _ => .bool true) ((l.take (l.length - 1)).zip (l.drop 1)) (eZip _ _ _ _ ?_ ?_) ?_)) ?_) rfl))))))))))))
  · simp [lg, isi]
  · simp [lg]
  · simp [lg]
  · intro i hi
    refine ⟨_, rfl, ?_⟩
    have hi' : i = tyI w ∨ i = .tuple (l.map m3) := by simpa using hi
    rcases hi' with rfl | rfl <;> simp [wipeD, unOwn, tyI, isi]
  · have h2 : (2 : Int) ≤ (w.length : Int) := by have := h.n2; omega
    have h6 : (w.length : Int) ≤ 6 := by have := h.n6; omega
    simp [tyI, h2, h6]
  · simp [tyI]
  · intro i hi
    refine ⟨_, rfl, ?_⟩
    simp [wipeD, unOwn, is_count_I, h.w i hi]
  · rw [q_allF]; simp
  · simp
  · intro i hi
    refine ⟨_, rfl, ?_⟩
    simp [wipeD, unOwn, tyI, is_left_I i _ (h.l i hi)]
  · rw [q_allF]; simp
  · simp [cut_last, List.map_take]
  · have := cut_from (l.map m3) 1
    simp at this
    simp [this]
  · intro p hp
    refine ⟨_, rfl, ?_⟩
    have := pairs_rel h.o p hp
    rcases this with h1 | ⟨h1, h2⟩
    · have h3 : ¬ (p.1.1 = p.2.1) := by omega
      simp [wipeD, unOwn, m3, cut_tup2, ltD, intsOf, DL.lexLt, h3]
      rw [if_neg (by omega)]; exact h1
    · have h3 : ¬ (p.1.2.1 = p.2.2.1) := by omega
      simp [wipeD, unOwn, m3, cut_tup2, ltD, intsOf, DL.lexLt, h1, h3]
      omega
  · rw [q_allF]; simp
theorem nl_kind {d : D} (h : isi .tuple d = false) : F_is_league [d] = some (.ok (.bool false)) := by
  refine fnD_of rfl (wp_seq (wp_ifT (eYorT ?_) (wp_ret rfl rfl)))
  simp [h]
theorem nl_len {ds : List D} (h : ds.length ≠ 2) : F_is_league [.tuple ds] = some (.ok (.bool false)) := by
  refine fnD_of rfl (wp_seq (wp_ifT (eYor (by simp [isi]) (eYorT ?_)) (wp_ret rfl rfl)))
  have : ¬ ((ds.length : Int) = 2) := by omega
  simp [this]
theorem nl_parts {a b : D} (h : (isi .tuple a && isi .tuple b) = false) : F_is_league [.tuple [a, b]] = some (.ok (.bool false)) := by
  refine fnD_of rfl (wp_seq (wp_ifT (eYor (by simp [isi]) (eYor (by simp) (eYnot (b := false) (eV (e1 (eOfL (eLcM id (fun d => .bool (isi .tuple d)) [a, b] ?_ ?_)) ?_))))) (wp_ret rfl rfl)))
  · simp
  · intro i hi
    exact ⟨_, rfl, by simp [wipeD, unOwn]⟩
  · rw [q_allF]
    simp only [List.all_cons, List.all_nil, Bool.and_true, h]
/-- the wins are none -/
theorem nl_wins {ws ls : List D} (h : ¬ (2 ≤ ws.length ∧ ws.length ≤ 6) ∨ ∃ d ∈ ws, icD d 0 60 = false) : F_is_league [.tuple [.tuple ws, .tuple ls]] = some (.ok (.bool false)) := by
  refine fnD_of rfl (wp_seq (wp_ifF (eYor (by simp [isi]) (eYor (by simp) (eYnot (b := true) (eV (e1 (eOfL (eLcM id (fun d => .bool true) [.tuple ws, .tuple ls] ?_ ?_)) rfl))))) (wp_next ?_)))
  · simp
  · intro i hi
    refine ⟨_, rfl, ?_⟩
    have hi' : i = .tuple ws ∨ i = .tuple ls := by simpa using hi
    rcases hi' with rfl | rfl <;> simp [wipeD, unOwn, isi]
  refine wp_seq (wp_asg (d := .tuple [.tuple ws, .tuple ls]) (by simp) rfl (wp_seq (wp_ifT ?_ (wp_ret rfl rfl))))
  by_cases hl : 2 ≤ ws.length ∧ ws.length ≤ 6
  · obtain ⟨d, hd, hf⟩ := h.resolve_left (fun z => z hl)
    refine eYor ?_ (eYnot (b := false) (eV (e1 (eOfL (eLcM id (fun d => .bool (icD d 0 60)) ws ?_ ?_)) ?_)))
    · have h2 : (2 : Int) ≤ (ws.length : Int) := by omega
      have h6 : (ws.length : Int) ≤ 6 := by omega
      simp [h2, h6]
    · simp
    · intro i hi
      exact ⟨_, rfl, by simp [wipeD, unOwn, is_count_D]⟩
    · rw [q_allF]
      congr 2
      rw [List.all_eq_false]
      exact ⟨d, hd, by simp [hf]⟩
  · refine eYorT ?_
    by_cases h2 : (2 : Int) ≤ (ws.length : Int)
    · have h6 : ¬ ((ws.length : Int) ≤ 6) := by omega
      simp [h2, h6]
    · simp [h2]
/-- one of the matches left is none -/
theorem nl_left1 {w : List Int} (h2 : 2 ≤ w.length) (h6 : w.length ≤ 6) (hw : ∀ x ∈ w, 0 ≤ x ∧ x ≤ 60) {d : D} (hd : F_is_left [d, .int w.length] = some (.ok (.bool false))) : F_is_league [.tuple [tyI w, .tuple [d]]] = some (.ok (.bool false)) := by
  refine fnD_of rfl (wp_seq (wp_ifF (eYor (by simp [isi]) (eYor (by simp) (eYnot (b := true) (eV (e1 (eOfL (eLcM id (fun d => .bool true) [tyI w, .tuple [d]] ?_ ?_)) rfl))))) (wp_next ?_)))
  · simp
  · intro i hi
    refine ⟨_, rfl, ?_⟩
    have hi' : i = tyI w ∨ i = .tuple [d] := by simpa using hi
    rcases hi' with rfl | rfl <;> simp [wipeD, unOwn, isi, tyI]
  refine wp_seq (wp_asg (d := .tuple [tyI w, .tuple [d]]) (by simp) rfl (wp_seq (wp_ifF (eYor ?_ (eYnot (b := true) (eV (e1 (eOfL (eLcM PyData.int (fun _ => .bool true) w ?_ ?_)) ?_)))) (wp_next (wp_seq (wp_ifT (eYnot (b := false) (eV (e1 (eOfL (eLcM id (fun _ => .bool false) [d] ?_ ?_)) rfl))) (wp_ret rfl rfl)))))))
  · have h2 : (2 : Int) ≤ (w.length : Int) := by omega
    have h6 : (w.length : Int) ≤ 6 := by omega
    simp [tyI, h2, h6]
  · simp [tyI]
  · intro i hi
    exact ⟨_, rfl, by simp [wipeD, unOwn, is_count_I, hw i hi]⟩
  · rw [q_allF]; simp
  · simp
  · intro i hi
    have hi' : i = d := by simpa using hi
    subst hi'
    exact ⟨_, rfl, by simp [wipeD, unOwn, tyI, hd]⟩
theorem fnD_ofP {p n : Nat} {body : XS} {ds : List D} {P : D → Prop} (hp : ds.length = p) (h : wp body (start n ds) fun o => ∃ d, o = .rt d ∧ P d) : ∃ d, fnD p n body ds = some (.ok d) ∧ P d := by
  obtain ⟨o, e, d, rfl, hd⟩ := h
  exact ⟨d, by unfold fnD; rw [if_pos hp, e], hd⟩
theorem shp_mem {n : Nat} {ds : List D} (h : shp (n + 1) (.tuple ds)) : ∀ d ∈ ds, shp n d := by
  have h1 : PyData.canLayAll0 ds = true := by have := h.1; simpa [PyData.canLay0] using this
  have h2 : PyData.depthAll ds ≤ n := by have := h.2; simp only [PyData.depth] at this; omega
  clear h
  induction ds with
  | nil => intro d hd; cases hd
  | cons a ds ih =>
    simp only [PyData.canLayAll0, Bool.and_eq_true] at h1
    simp only [PyData.depthAll] at h2
    intro d hd
    rcases List.mem_cons.mp hd with rfl | hd
    · exact ⟨h1.1, by omega⟩
    · exact ih h1.2 (by omega) d hd
def ltII : D → D → Bool
  | .int i, .int j => decide (i < j)
  | _, _ => false
/-- one of the matches left -/
def ilD (n : Int) : D → Bool
  | .tuple [a, b, c] => (icD c 1 9 && (icD a 0 (n - 1) && icD b 0 (n - 1))) && ltII a b
  | _ => false
theorem icD_int {d : D} {lo hi : Int} (h : icD d lo hi = true) : ∃ i, d = .int i ∧ lo ≤ i ∧ i ≤ hi := by
  cases d with
  | int i => exact ⟨i, rfl, by simpa [icD] using h⟩
  | _ => cases h
theorem ilD_len {n : Int} {ds : List D} (h : ds.length ≠ 3) : ilD n (.tuple ds) = false := by
  match ds, h with
  | [], _ => rfl
  | [_], _ => rfl
  | [_, _], _ => rfl
  | [_, _, _], h => simp at h
  | _ :: _ :: _ :: _ :: _, _ => rfl
theorem is_left_T (d : D) (n : Int) : F_is_left [d, .int n] = some (.ok (.bool (ilD n d))) := by
  by_cases ht : isi .tuple d = true
  · cases d with
    | tuple ds =>
      by_cases hl : ds.length = 3
      · match ds, hl with
        | [a, b, c], _ =>
          by_cases hc : icD c 1 9 = true
          · refine fnD_of rfl (wp_seq (wp_ifF (eYor (by simp [isi]) (eYor (by simp) (eYnot (b := true) (eV (eCall (xs := [c, .int 1, .int 9]) (by simp [atI_2]) (by rw [is_count_D, hc])))))) (wp_next (wp_ret (eAnd (icD a 0 (n - 1) && icD b 0 (n - 1)) (ltII a b) (e1 (eOfL (eLcM id (fun d => .bool (icD d 0 (n - 1))) [a, b] ?_ ?_)) ?_) (fun h => ?_)) ?_))))
            · simp [cut_tup2]
            · intro i hi
              exact ⟨_, rfl, by simp [wipeD, unOwn, is_count_D]⟩
            · rw [q_allF]; simp
            · rw [Bool.and_eq_true] at h
              obtain ⟨i, rfl, _⟩ := icD_int h.1
              obtain ⟨j, rfl, _⟩ := icD_int h.2
              simp [atI_1, ltII]
            · show Out.rt _ = Out.rt _
              simp only [ilD, hc, Bool.true_and]
          · have hf : icD c 1 9 = false := by simpa using hc
            have e : ilD n (.tuple [a, b, c]) = false := by simp [ilD, hf]
            rw [e]
            refine fnD_of rfl (wp_seq (wp_ifT (eYor (by simp [isi]) (eYor (by simp) (eYnot (b := false) (eV (eCall (xs := [c, .int 1, .int 9]) (by simp [atI_2]) (by rw [is_count_D, hf])))))) (wp_ret rfl rfl)))
      · rw [ilD_len hl]
        refine fnD_of rfl (wp_seq (wp_ifT (eYor (by simp [isi]) (eYorT ?_)) (wp_ret rfl rfl)))
        have : ¬ ((ds.length : Int) = 3) := by omega
        simp [this]
    | _ => cases ht
  · have hf : isi .tuple d = false := by simpa using ht
    have e : ilD n d = false := by
      cases d with
      | tuple ds => cases hf
      | _ => rfl
    rw [e]
    exact fnD_of rfl (wp_seq (wp_ifT (eYorT (by simp [hf])) (wp_ret rfl rfl)))
theorem ilD_m3 {n : Nat} {d : D} (h : ilD n d = true) : ∃ m : Mt, d = m3 m ∧ m.1 < m.2.1 ∧ m.2.1 < n ∧ 1 ≤ m.2.2 ∧ m.2.2 ≤ 9 := by
  cases d with
  | tuple ds =>
    by_cases hl : ds.length = 3
    · match ds, hl with
      | [a, b, c], _ =>
        simp only [ilD, Bool.and_eq_true] at h
        obtain ⟨⟨h1, h2, h3⟩, h4⟩ := h
        obtain ⟨i, rfl, i1, i2⟩ := icD_int h2
        obtain ⟨j, rfl, j1, j2⟩ := icD_int h3
        obtain ⟨k, rfl, k1, k2⟩ := icD_int h1
        have h4 : i < j := of_decide_eq_true h4
        refine ⟨(i.toNat, j.toNat, k), ?_, ?_, ?_, k1, k2⟩
        · show _ = PyData.tuple [.int ((i.toNat : Nat) : Int), .int ((j.toNat : Nat) : Int), .int k]
          rw [Int.toNat_of_nonneg i1, Int.toNat_of_nonneg j1]
        · show i.toNat < j.toNat; omega
        · show j.toNat < n; omega
    · rw [ilD_len hl] at h; cases h
  | _ => cases h
theorem all_m3 {n : Nat} : ∀ {ls : List D}, (∀ d ∈ ls, ilD n d = true) → ∃ l : List Mt, ls = l.map m3 ∧ ∀ m ∈ l, m.1 < m.2.1 ∧ m.2.1 < n ∧ 1 ≤ m.2.2 ∧ m.2.2 ≤ 9
  | [], _ => ⟨[], rfl, by simp⟩
  | d :: ls, h => by
    obtain ⟨m, rfl, hm⟩ := ilD_m3 (h d (by simp))
    obtain ⟨l, rfl, hl⟩ := all_m3 (ls := ls) fun d hd => h d (by simp [hd])
    refine ⟨m :: l, rfl, fun x hx => ?_⟩
    rcases List.mem_cons.mp hx with rfl | hx
    · exact hm
    · exact hl x hx
theorem all_int : ∀ {ws : List D}, (∀ d ∈ ws, icD d 0 60 = true) → ∃ w : List Int, ws = w.map PyData.int ∧ ∀ x ∈ w, 0 ≤ x ∧ x ≤ 60
  | [], _ => ⟨[], rfl, by simp⟩
  | d :: ws, h => by
    obtain ⟨i, rfl, hi⟩ := icD_int (h d (by simp))
    obtain ⟨w, rfl, hw⟩ := all_int (ws := ws) fun d hd => h d (by simp [hd])
    refine ⟨i :: w, rfl, fun x hx => ?_⟩
    rcases List.mem_cons.mp hx with rfl | hx
    · exact hi
    · exact hw x hx
instance (a b : Mt) : Decidable (plt a b) := by unfold plt; exact inferInstance
theorem plt_trans {a b c : Mt} (h1 : plt a b) (h2 : plt b c) : plt a c := by
  unfold plt at *; omega
theorem rel_pairs : ∀ {left : List Mt}, (∀ p ∈ (left.take (left.length - 1)).zip (left.drop 1), plt p.1 p.2) → left.Pairwise plt
  | [], _ => .nil
  | [a], _ => by simp
  | a :: b :: l, h => by
    have e : ((a :: b :: l).take ((a :: b :: l).length - 1)).zip ((a :: b :: l).drop 1) = (a, b) :: ((b :: l).take ((b :: l).length - 1)).zip ((b :: l).drop 1) := by
      simp
    rw [e] at h
    have ih := rel_pairs (left := b :: l) fun p hp => h p (List.mem_cons_of_mem _ hp)
    have hab : plt a b := h (a, b) (by simp)
    refine List.pairwise_cons.mpr ⟨fun x hx => ?_, ih⟩
    rcases List.mem_cons.mp hx with rfl | hx
    · exact hab
    · exact plt_trans hab ((List.pairwise_cons.mp ih).1 x hx)
theorem lt_m3 (a b : Mt) : ltD (.tuple [.int (a.1 : Nat), .int (a.2.1 : Nat)]) (.tuple [.int (b.1 : Nat), .int (b.2.1 : Nat)]) = some (.bool (decide (plt a b))) := by
  simp only [ltD, intsOf, DL.lexLt]
  unfold plt
  by_cases h1 : a.1 = b.1
  · by_cases h2 : a.2.1 = b.2.1
    · simp [h1, h2, DL.lexLt]
    · have h2' : ¬ ((a.2.1 : Int) = (b.2.1 : Int)) := by omega
      simp [h1, h2, h2', DL.lexLt]
  · have h1' : ¬ ((a.1 : Int) = (b.1 : Int)) := by omega
    simp [h1, h1', DL.lexLt]
def LgD (d : D) : Prop := ∃ w l, Lg w l ∧ d = lg w l
/-- is_league of whatever -/
theorem is_league_T (d : D) : ∃ b, F_is_league [d] = some (.ok (.bool b)) ∧ (b = true → LgD d) := by
  have no : F_is_league [d] = some (.ok (.bool false)) → ∃ b, F_is_league [d] = some (.ok (.bool b)) ∧ (b = true → LgD d) := fun h => ⟨false, h, fun z => by cases z⟩
  by_cases ht : isi .tuple d = true
  · cases d with
    | tuple ds =>
      by_cases hl : ds.length = 2
      · match ds, hl with
        | [a, b], _ =>
          by_cases hp : (isi .tuple a && isi .tuple b) = true
          · rw [Bool.and_eq_true] at hp
            cases a with
            | tuple ws =>
              cases b with
              | tuple ls =>
                by_cases hw : ¬ (2 ≤ ws.length ∧ ws.length ≤ 6) ∨ ∃ d ∈ ws, icD d 0 60 = false
                · exact no (nl_wins hw)
                · rw [not_or, Classical.not_not] at hw
                  obtain ⟨⟨h2, h6⟩, hw0⟩ := hw
                  obtain ⟨w, rfl, hw⟩ := all_int (ws := ws) fun d hd => by
                    cases h : icD d 0 60 with
                    | true => rfl
                    | false => exact absurd ⟨d, hd, h⟩ hw0
                  rw [List.length_map] at h2 h6
                  have i2 : (2 : Int) ≤ (w.length : Int) := by omega
                  have i6 : (w.length : Int) ≤ 6 := by omega
                  have pre : ∀ {P : Out → Prop} {s : XS}, wp s [.dat (.tuple [tyI w, .tuple ls]), .dat (tyI w), .dat (.tuple ls), .no, .no] P → wp (sSeq (sIf (yOr (yNot (yV (x1 (isiD .tuple) (xVar 0)))) (yOr (yV (x2 neD (x1 lenD (xVar 0)) (xC (.int 2)))) (yNot (yV (x1 allD (xOfL (xLc (xIter (xVar 0)) (gN 3) yTrue (x1 (isiD .tuple) (xVar 3)) [3]))))))) (sRet (xC (.bool false))) sNext) (sSeq (sAsg (xVar 0) (gT 2 (gsCons (gN 1) (gsCons (gN 2) gsNil)))) (sSeq (sIf (yOr (yNot (yV (xChain leD leD (xC (.int 2)) (x1 lenD (xVar 1)) (xC (.int 6))))) (yNot (yV (x1 allD (xOfL (xLc (xIter (xVar 1)) (gN 3) yTrue (xCall F_is_count (xCons (xVar 3) (xCons (xC (.int 0)) (xCons (xC (.int 60)) xNil)))) [3])))))) (sRet (xC (.bool false))) sNext) s))) [.dat (.tuple [tyI w, .tuple ls]), .no, .no, .no, .no] P := by
                    intro P s hs
                    refine wp_seq (wp_ifF (eYor (by simp [isi]) (eYor (by simp) (eYnot (b := true) (eV (e1 (eOfL (eLcM id (fun d => .bool true) [tyI w, .tuple ls] ?_ ?_)) rfl))))) (wp_next ?_))
                    · simp
                    · intro i hi
                      refine ⟨_, rfl, ?_⟩
                      have hi' : i = tyI w ∨ i = .tuple ls := by simpa using hi
                      rcases hi' with rfl | rfl <;> simp [wipeD, unOwn, isi, tyI]
                    refine wp_seq (wp_asg (d := .tuple [tyI w, .tuple ls]) (by simp) rfl (wp_seq (wp_ifF (eYor ?_ (eYnot (b := true) (eV (e1 (eOfL (eLcM PyData.int (fun _ => .bool true) w ?_ ?_)) ?_)))) (wp_next hs))))
                    · simp [tyI, i2, i6]
                    · simp [tyI]
                    · intro i hi
                      exact ⟨_, rfl, by simp [wipeD, unOwn, is_count_I, hw i hi]⟩
                    · rw [q_allF]; simp
                  by_cases hL : ∃ d ∈ ls, ilD w.length d = false
                  · obtain ⟨d, hd, hf⟩ := hL
                    refine no (fnD_of rfl (pre (wp_seq (wp_ifT (eYnot (b := false) (eV (e1 (eOfL (eLcM id (fun d => .bool (ilD w.length d)) ls ?_ ?_)) ?_))) (wp_ret rfl rfl)))))
                    · simp
                    · intro i hi
                      exact ⟨_, rfl, by simp [wipeD, unOwn, tyI, is_left_T]⟩
                    · rw [q_allF]
                      congr 2
                      rw [List.all_eq_false]
                      exact ⟨d, hd, by simp [hf]⟩
                  · obtain ⟨l, rfl, hl⟩ := all_m3 (n := w.length) (ls := ls) fun d hd => by
                      cases h : ilD w.length d with
                      | true => rfl
                      | false => exact absurd ⟨d, hd, h⟩ hL
                    refine ⟨((l.take (l.length - 1)).zip (l.drop 1)).all fun p => decide (plt p.1 p.2), fnD_of rfl (pre (wp_seq (wp_ifF (eYnot (b := true) (eV (e1 (eOfL (eLcM m3 (fun _ => .bool true) l ?_ ?_)) ?_))) (wp_next (wp_ret (e1 (eOfL (eLcM (fun p : Mt × Mt => .tuple [m3 p.1, m3 p.2]) (fun p => .bool (decide (plt p.1 p.2))) ((l.take (l.length - 1)).zip (l.drop 1)) (eZip _ _ _ _ ?_ ?_) ?_)) ?_) rfl))))), fun hb => ?_⟩
                    · simp
                    · intro i hi
                      exact ⟨_, rfl, by simp [wipeD, unOwn, tyI, is_left_I i _ (hl i hi)]⟩
                    · rw [q_allF]; simp
                    · simp [cut_last, List.map_take]
                    · have := cut_from (l.map m3) 1
                      simp at this
                      simp [this]
                    · intro p hp
                      exact ⟨_, rfl, by simp [wipeD, unOwn, m3, cut_tup2, lt_m3]⟩
                    · rw [q_allF]
                    · exact ⟨w, l, ⟨h2, h6, hw, hl, rel_pairs fun p hp => of_decide_eq_true (List.all_eq_true.mp hb p hp)⟩, rfl⟩
              | _ => cases hp.2
            | _ => cases hp.1
          · exact no (nl_parts (by simpa using hp))
      · exact no (nl_len hl)
    | _ => cases ht
  · exact no (nl_kind (by simpa using ht))
theorem need_league_I {w : List Int} {l : List Mt} (h : Lg w l) : F_need_league [lg w l] = some (.ok .none) := by
  refine fnD_none rfl (wp_ifF ?_ (wp_next ⟨_, rfl⟩))
  simp [is_league_I h]
theorem need_league_X {d : D} (h : F_is_league [d] = some (.ok (.bool false))) : F_need_league [d] = some (.ex 1) := by
  refine fnD_ex rfl (wp_ifT ?_ (wp_raise rfl))
  simp [h]
theorem cell_I (ns : List Int) (k : Nat) (h63 : ns.length ≤ 63) : F__law_cell [lI ns, .int k] = some (.ok (.int (lcell ns k))) := by
  have e : eqD (lI ns) (.list []) = some (.bool (decide (ns = []))) := by
    rw [q_eqD (n := 1) (shp_lI _) (shp_lst (by simp)) (by omega)]
    cases ns with
    | nil => simp [lI, PyData.eqv, PyData.eqvAll]
    | cons => simp [lI, PyData.eqv, PyData.eqvAll]
  refine fnD_of rfl (wp_seq (wp_if (decide (ns = [])) (by simp [e]) ?_))
  by_cases h : ns = []
  · rw [if_pos (by simpa using h)]
    refine wp_ret ?_ rfl
    simp [q_mulI (i := k) (j := 7919) (mulOk_r (by decide)), lcell, h]
  · rw [if_neg (by simpa using h)]
    have hl : 0 < ns.length := List.length_pos_iff.mpr h
    have h1 : (0 : Int) < ns.length := by omega
    have hlog : ((ns.length : Int)).natAbs.log2 < 9000 := by
      rw [Int.natAbs_natCast]
      have := Nat.log2_le_self ns.length
      omega
    have hm : k % ns.length < ns.length := Nat.mod_lt _ hl
    refine wp_next (wp_ret (e2 (x := .int (ns.getD (k % ns.length) 0)) (y := .int ((k : Int) / ns.length * 104729)) ?_ ?_ ?_) rfl)
    · refine e2 (x := lI ns) (y := .int ((k % ns.length : Nat) : Int)) (by simp) ?_ ?_
      · simp [lI, q_modI (i := (k : Int)) h1]
      · simp only [lI, q_ixL]; rw [atI_ints hm]
    · refine e2 (x := .int ((k : Int) / ns.length)) (y := .int 104729) ?_ rfl (q_mulI (mulOk_r (by decide)))
      simp [lI, q_fdivI (i := (k : Int)) h1 hlog]
    · simp [lcell, h]
theorem drawn_I (c k : Int) : F__law_drawn [.int c, .int k] = some (.ok (.int (dr c k))) := by
  have a0 : 0 ≤ drA c k := Int.emod_nonneg _ (by omega)
  have a1 : drA c k < 340282366920938463463374607431768211507 := Int.emod_lt_of_pos _ (by omega)
  have b0 : 0 ≤ drB c k := Int.emod_nonneg _ (by omega)
  have b1 : drB c k < 340282366920938463463374607431768211297 := Int.emod_lt_of_pos _ (by omega)
  have c0 := Int.emod_nonneg (drB c k) (show (18446744073709551557 : Int) ≠ 0 by omega)
  have c1 := Int.emod_lt_of_pos (drB c k) (show (0 : Int) < 18446744073709551557 by omega)
  have d0 : 0 ≤ drB c k / 18446744073709551557 := Int.ediv_nonneg b0 (by omega)
  have d1 : drB c k / 18446744073709551557 < 18446744073709551700 := Int.ediv_lt_of_lt_mul (by omega) (by omega)
  have p1 : (2 : Nat) ^ 200 ≤ 2 ^ 2000 := Nat.pow_le_pow_right (by omega) (by omega)
  have m1 : mulOk (drA c k) (drA c k) = true := by
    have : (drA c k).natAbs < 2 ^ 200 := by have : (2 : Nat) ^ 200 = 1606938044258990275541962092341162602522202993782792835301376 := by decide
                                            omega
    exact mulOk_s (Nat.lt_of_lt_of_le this p1) (Nat.lt_of_lt_of_le this p1)
  have m2 : mulOk (drB c k % 18446744073709551557 + 1) (drB c k / 18446744073709551557 + 1) = true := mulOk_l (by
    have : (2 : Nat) ^ 64 = 18446744073709551616 := by decide
    omega)
  have m3 : mulOk ((drB c k % 18446744073709551557 + 1) * (drB c k / 18446744073709551557 + 1)) (drB c k) = true := by
    have hb : (drB c k).natAbs < 2 ^ 200 := by have : (2 : Nat) ^ 200 = 1606938044258990275541962092341162602522202993782792835301376 := by decide
                                               omega
    refine mulOk_s ?_ (Nat.lt_of_lt_of_le hb p1)
    rw [Int.natAbs_mul]
    refine Nat.lt_of_lt_of_le (Nat.mul_lt_mul'' (c := 2 ^ 65) (d := 2 ^ 65) ?_ ?_) ?_
    · have : (2 : Nat) ^ 65 = 36893488147419103232 := by decide
      omega
    · have : (2 : Nat) ^ 65 = 36893488147419103232 := by decide
      omega
    · rw [← Nat.pow_add]; exact Nat.pow_le_pow_right (by omega) (by omega)
  refine fnD_of rfl (wp_seq (wp_asg (d := .int (drA c k)) ?_ rfl (wp_seq (wp_asg (d := .int (drB c k)) ?_ rfl (wp_seq (wp_asg (d := .int ((drB c k % 18446744073709551557 + 1) * (drB c k / 18446744073709551557 + 1) * drB c k)) ?_ rfl (wp_ret ?_ rfl)))))))
  · simp [q_mulI (i := c) (j := 6364136223846793005) (mulOk_r (by decide)), q_mulI (i := k + 1) (j := 1442695040888963407) (mulOk_r (by decide)), q_modI (i := c * 6364136223846793005 + (k + 1) * 1442695040888963407) (j := 340282366920938463463374607431768211507) (by omega), drA]
  · simp [q_mulI m1, q_modI (i := drA c k * drA c k) (j := 340282366920938463463374607431768211297) (by omega), drB]
  · simp [q_modI (i := drB c k) (j := 18446744073709551557) (by omega), q_fdivI (i := drB c k) (j := 18446744073709551557) (by omega) (by decide), q_mulI m2, q_mulI m3]
  · simp [q_modI (j := 340282366920938463463374607431768211507) (by omega), dr]
theorem law_league_I {more most : Int} (h2 : 2 ≤ most) (h6 : most ≤ 6) : F__law_league [.int more, .int most] = some (.ok (lg (lWins more most) (lLeft more (lSides more most) (List.range (lSides more most))))) := by
  have hs := lSides_le (more := more) h2 h6
  have hn6 : lSides more most ≤ 6 := by omega
  have hzn : lSides more most ≤ sz := by unfold sz; omega
  generalize hn : lSides more most = n at *
  refine fnD_of rfl (wp_seq (wp_asg (d := .int n) ?_ rfl (wp_seq (wp_asg (d := tyI (lWins more most)) (e1 (eOfL (eLcM (fun (i : Nat) => PyData.int i) (fun (j : Nat) => .int (dr more j % lMod more)) (List.range n) (eRange1 (by simp) hzn) ?_)) ?_) rfl (wp_seq (wp_new (ds := []) rfl (by simp) (wp_seq ?_)))))))
  · simp [q_modI (i := more) (j := most - 1) (by omega), ← hn, lSides]
    have := Int.emod_nonneg more (show most - 1 ≠ 0 by omega)
    omega
  · intro j hj
    refine ⟨_, rfl, e2 (x := .int (dr more j)) (y := .int (lMod more)) ?_ (e2 (x := .list [.int 3, .int 6, .int 61]) (y := .int (more / 8 % 3)) ?_ ?_ ?_) ?_⟩
    · simp [wipeD, unOwn, drawn_I]
    · exact eOfL (q_xLst _ _ _ rfl (by simp [sz]))
    · simp [wipeD, unOwn, q_fdivI (i := more) (j := 8) (by omega) (by decide), q_modI (i := more / 8) (j := 3) (by omega)]
    · have h1 := Int.emod_nonneg (more / 8) (show (3 : Int) ≠ 0 by omega)
      have h2 := Int.emod_lt_of_pos (more / 8) (show (0 : Int) < 3 by omega)
      have := atI_ints (w := [3, 6, 61]) (s := (more / 8 % 3).toNat) (by simp; omega)
      rw [Int.toNat_of_nonneg h1] at this
      simp only [q_ixL]
      simp only [List.map_cons, List.map_nil] at this
      rw [this, lMod]
      have : (more / 8 % 3).toNat = 0 ∨ (more / 8 % 3).toNat = 1 ∨ (more / 8 % 3).toNat = 2 := by omega
      rcases this with e | e | e <;> rw [e] <;> rfl
    · exact q_modI (by have := lMod_pos more; omega)
  · simp [tyI, lWins, hn]
  refine wp_for (fun (i : Nat) => PyData.int i) (List.range n) (fun p δ => ∃ s5 s6 s7 s8, δ = [.dat (.int more), .dat (.int most), .dat (.int n), .dat (tyI (lWins more most)), .own (.lst ((lLeft more n p).map m3)), s5, s6, s7, s8]) (eRange1 (by simp) hzn) ?_ ?_ ?_
  · exact ⟨_, _, _, _, rfl⟩
  · rintro p a q δ e ⟨s5, s6, s7, s8, rfl⟩
    have ha : a < n := by
      have : a ∈ List.range n := by rw [e]; simp
      simpa using this
    have hp : p.length ≤ n := by
      have := congrArg List.length e
      simp at this; omega
    refine ⟨_, rfl, wp_for (fun (i : Nat) => PyData.int i) (List.range' (a + 1) (n - (a + 1))) (fun r δ => ∃ s6 s7 s8, δ = [.dat (.int more), .dat (.int most), .dat (.int n), .dat (tyI (lWins more most)), .own (.lst ((lLeft more n p ++ lRow more a r).map m3)), .dat (.int a), s6, s7, s8]) (eRange2 (by simp) (by simp) hzn (by unfold sz; omega)) ?_ ?_ ?_⟩
    · simp [lRow]
    · rintro r b u δ e2' ⟨s6, s7, s8, rfl⟩
      have hr : r.length ≤ n := by
        have := congrArg List.length e2'
        simp at this; omega
      refine ⟨_, rfl, wp_seq (wp_asg (d := .int (lHere more a b)) ?_ rfl (wp_if (decide (0 < lHere more a b % 3)) ?_ ?_))⟩
      · simp [q_mulI (i := 6) (j := a) (mulOk_l (by decide)), drawn_I, lHere]
      · simp [q_modI (i := lHere more a b) (j := 3) (by omega)]
      · by_cases hc : 0 < lHere more a b % 3
        · rw [if_pos (by simpa using hc)]
          refine wp_app (ds := (lLeft more n p ++ lRow more a r).map m3) (d := m3 (a, b, lMany (lHere more a b))) rfl (eTup3 (by simp) (by simp) ?_) ?_ ?_
          · generalize lHere more a b = h
            refine e2 (x := .int 1) rfl (e2 (x := .int (h / 8)) (y := .int ([1, 2, 3, 9].getD (h / 64 % 4).toNat 1)) ?_ (e2 (x := .list [.int 1, .int 2, .int 3, .int 9]) (y := .int (h / 64 % 4)) ?_ ?_ ?_) (d := .int (h / 8 % [1, 2, 3, 9].getD (h / 64 % 4).toNat 1)) ?_) rfl
            · simp [q_fdivI (i := h) (j := 8) (by omega) (by decide)]
            · exact eOfL (q_xLst _ _ _ rfl (by simp [sz]))
            · simp [q_fdivI (i := h) (j := 64) (by omega) (by decide), q_modI (i := h / 64) (j := 4) (by omega)]
            · have h1 := Int.emod_nonneg (h / 64) (show (4 : Int) ≠ 0 by omega)
              have h2 := Int.emod_lt_of_pos (h / 64) (show (0 : Int) < 4 by omega)
              have := atI_ints (w := [1, 2, 3, 9]) (s := (h / 64 % 4).toNat) (by simp; omega)
              rw [Int.toNat_of_nonneg h1] at this
              simp only [q_ixL]
              simp only [List.map_cons, List.map_nil] at this
              rw [this]
              have : (h / 64 % 4).toNat = 0 ∨ (h / 64 % 4).toNat = 1 ∨ (h / 64 % 4).toNat = 2 ∨ (h / 64 % 4).toNat = 3 := by omega
              rcases this with e | e | e | e <;> rw [e] <;> rfl
            · refine q_modI ?_
              have h1 := Int.emod_nonneg (h / 64) (show (4 : Int) ≠ 0 by omega)
              have h2 := Int.emod_lt_of_pos (h / 64) (show (0 : Int) < 4 by omega)
              have : (h / 64 % 4).toNat = 0 ∨ (h / 64 % 4).toNat = 1 ∨ (h / 64 % 4).toNat = 2 ∨ (h / 64 % 4).toNat = 3 := by omega
              rcases this with e | e | e | e <;> rw [e] <;> decide
          · have l1 := lLeft_len more n p
            have l2 := lRow_len more a r
            have l3 : n * p.length ≤ 6 * 6 := Nat.mul_le_mul hn6 (Nat.le_trans hp hn6)
            simp [sz]; omega
          · simp [turn, lRow, hc]
        · rw [if_neg (by simpa using hc)]
          refine wp_next ?_
          simp [turn, lRow, hc]
    · rintro δ ⟨s6, s7, s8, rfl⟩
      simp [turn, lLeft]
  · rintro δ ⟨s5, s6, s7, s8, rfl⟩
    refine wp_frz (ds := (lLeft more n (List.range n)).map m3) rfl (wp_ret (eTup2 (by simp) (by simp)) rfl)
open TL
theorem need_T : F_need [.bool true] = some (.ok .none) := fnD_none rfl (wp_ifF rfl (wp_next ⟨_, rfl⟩))
theorem need_X : F_need [.bool false] = some (.ex 6) := fnD_ex rfl (wp_ifT rfl (wp_raise rfl))
theorem map_S {ι : Type} (f : ι → Str) (xs : List ι) : xs.map (fun i => PyData.str (f i)) = (xs.map f).map PyData.str := by rw [List.map_map]; rfl
theorem q_mtext {m : Mt} (h1 : m.1 ≤ 99) (h2 : m.2.1 ≤ 99) (h3 : 0 ≤ m.2.2) (h4 : m.2.2 ≤ 99) (r : DE) (s0 s1 : Sl) : x2 addD (x2 addD (x2 addD (x2 addD (x1 strD (xVar 2)) (xC (.str "-"))) (x1 strD (xVar 3))) (xC (.str ":"))) (x1 strD (xVar 4)) (s0 :: s1 :: .dat (.int m.1) :: .dat (.int m.2.1) :: .dat (.int m.2.2) :: r) = some (.ok (.str (mS m))) := by
  have a := (nS_len (i := m.1) (by omega) (by omega)).2
  have b := (nS_len (i := m.2.1) (by omega) (by omega)).2
  have c := (nS_len h3 h4).2
  have d1 : ("-" : Str).length = 1 := by decide +kernel
  have d2 : (":" : Str).length = 1 := by decide +kernel
  refine e2 (x := .str (nS m.1 ++ "-" ++ nS m.2.1 ++ ":")) (y := .str (nS m.2.2)) (e2 (x := .str (nS m.1 ++ "-" ++ nS m.2.1)) (y := .str ":") (e2 (x := .str (nS m.1 ++ "-")) (y := .str (nS m.2.1)) (e2 (x := .str (nS m.1)) (y := .str "-") (e1 (x := .int m.1) (by simp) (q_strD (by omega) (by omega))) rfl (q_addS ?_)) (e1 (x := .int m.2.1) (by simp) (q_strD (by omega) (by omega))) (q_addS ?_)) rfl (q_addS ?_)) (e1 (x := .int m.2.2) (by simp) (q_strD h3 h4)) (q_addS ?_) <;> (try simp only [app_len]) <;> unfold sz <;> omega
theorem headE {w : List Int} (hw : ∀ x ∈ w, 0 ≤ x ∧ x ≤ 99) (hl : w.length ≤ 100) : joinD " " (.list (w.map fun i => .str (nS i))) = some (.str (headS w)) := by
  rw [map_S]
  refine q_join 2 (fun y hy => ?_) ?_
  · obtain ⟨i, hi, rfl⟩ := List.mem_map.mp hy
    exact (nS_len (hw i hi).1 (hw i hi).2).2
  · have : (" " : Str).length = 1 := by decide +kernel
    rw [List.length_map, this]; omega
theorem ltextE {w : List Int} {l : List Mt} (h : Lg w l) : joinD ", " (.list (.str (headS w) :: l.map fun m => .str (mS m))) = some (.str (ltext w l)) := by
  have e : (PyData.str (headS w) :: l.map fun m => PyData.str (mS m)) = (partsS w l).map PyData.str := by
    rw [map_S]; rfl
  rw [e]
  refine q_join 18 (parts_len h) ?_
  have hf := h.few
  have : (", " : Str).length = 2 := by decide +kernel
  simp [partsS, this]; omega
theorem Lg.w99 {w : List Int} {l : List Mt} (h : Lg w l) : ∀ x ∈ w, 0 ≤ x ∧ x ≤ 99 := fun x hx => ⟨(h.w x hx).1, by have := (h.w x hx).2; omega⟩
theorem Lg.l99 {w : List Int} {l : List Mt} (h : Lg w l) : ∀ m ∈ l, m.1 ≤ 99 ∧ m.2.1 ≤ 99 ∧ 0 ≤ m.2.2 ∧ m.2.2 ≤ 99 := fun m hm => by
  have a := h.l m hm
  have := h.n6
  omega
theorem league_text_I {w : List Int} {l : List Mt} (h : Lg w l) : F_league_text [lg w l] = some (.ok (.str (ltext w l))) := by
  have h6 := h.n6
  have hf := h.few
  refine fnD_of rfl (wp_seq (wp_new (ds := [.str (headS w)]) ?_ (by simp) (wp_seq (wp_extend (ds := [.str (headS w)]) (es := l.map fun m => .str (mS m)) (d := .list (l.map fun m => .str (mS m))) rfl (eOfL (eLcM m3 (fun m => .str (mS m)) l ?_ ?_)) rfl ?_ (wp_frz (ds := .str (headS w) :: l.map fun m => .str (mS m)) rfl (wp_ret (eM (z := ", ") rfl rfl (ltextE h)) rfl))))))
  · rw [q_xLst1, eM (z := " ") (d := .str (headS w)) rfl (eOfL (eLcM PyData.int (fun i => .str (nS i)) w ?_ ?_)) (headE (Lg.w99 h) (by omega))]
    · rfl
    · simp [tyI]
    · intro i hi
      exact ⟨_, rfl, e1 (x := .int i) (by simp [wipeD, unOwn]) (q_strD (Lg.w99 h i hi).1 (Lg.w99 h i hi).2)⟩
  · simp
  · intro m hm
    obtain ⟨a, b, c, d⟩ := Lg.l99 h m hm
    exact ⟨_, rfl, q_mtext a b c d _ _ _⟩
  · simp [sz]; omega
theorem written_I {w : List Int} {l : List Mt} (h : Lg w l) : F_written [lg w l] = some (.ok (.str (ltext w l))) :=
  fnD_of rfl (wp_seq (wp_drop (eCall (xs := [lg w l]) (by simp) (need_league_I h)) (wp_ret (eCall (xs := [lg w l]) (by simp) (league_text_I h)) rfl)))
theorem written_X {d : D} (h : F_is_league [d] = some (.ok (.bool false))) : F_written [d] = some (.ex 1) :=
  fnD_ex rfl (wp_seq (wp_dropX (eCallX (xs := [d]) (by simp) (need_league_X h)) rfl))
/-- what number_in tells of a text -/
def okW (z : Str) : Bool := decide (1 ≤ z.length) && decide (z.length ≤ 2) && (tl z).all fun c => decide (48 ≤ c ∧ c ≤ 57)
def numR (z : Str) : Rs D := if okW z = true then .ok (.int (NumText.digitsVal (tl z))) else .ex 6
theorem number_in_S {z : Str} (hz : z.length ≤ sz) : F_number_in [.str z] = some (numR z) := by
  have hb : xAnd (xChain leD leD (xC (.int 1)) (x1 lenD (xVar 0)) (xC (.int 2))) (x1 allD (xOfL (xLc (xIterS (xVar 0)) (gN 1) yTrue (x2 inD (xVar 1) (xC (.str "0123456789"))) [1]))) [.dat (.str z), .no] = some (.ok (.bool (okW z))) := by
    have hlen : lenD (.str z) = some (.int z.length) := if_pos hz
    refine eAnd (decide (1 ≤ z.length) && decide (z.length ≤ 2)) ((tl z).all fun c => decide (48 ≤ c ∧ c ≤ 57)) ?_ (fun _ => ?_)
    · rw [q_xChain, q_xC, bnd_ok, q_x1, q_xVar0, bnd_ok, hlen, q_lift, bnd_ok, q_leI]
      by_cases h1 : 1 ≤ z.length
      · have h1' : (1 : Int) ≤ (z.length : Int) := by omega
        rw [decide_eq_true h1', decide_eq_true h1]
        simp
        omega
      · have h1' : ¬ ((1 : Int) ≤ (z.length : Int)) := by omega
        rw [decide_eq_false h1', decide_eq_false h1]
        rfl
    · refine e1 (eOfL (eLcM (fun c => PyData.str ⟨#[c]⟩) (fun c => .bool (decide (48 ≤ c ∧ c ≤ 57))) (tl z) (eIterS rfl hz) fun c hc => ⟨_, rfl, ?_⟩)) (q_allF _ _)
      refine e2 (x := .str ⟨#[c]⟩) (y := .str figs) (by simp [wipeD, unOwn]) rfl ?_
      show some (PyData.bool (inStr ⟨#[c]⟩ figs)) = _
      rw [inStr_one]
      congr 2
      rw [decide_eq_decide]
      exact mem_figs c
  unfold numR
  by_cases h : okW z = true
  · rw [if_pos h]
    rw [h] at hb
    refine fnD_of rfl (wp_seq (wp_drop (eCall (xs := [.bool true]) (eCons hb rfl) need_T) (wp_ret (e1 (x := .str z) rfl ?_) rfl)))
    unfold okW at h
    rw [Bool.and_eq_true, Bool.and_eq_true] at h
    obtain ⟨⟨h1, h2⟩, h3⟩ := h
    have h1 := of_decide_eq_true h1
    have h2 := of_decide_eq_true h2
    have e := intText_digits (x := z) (fun c hc => of_decide_eq_true (List.all_eq_true.mp h3 c hc)) (fun e => by rw [len_tl] at h1; rw [show tl z = [] from e] at h1; simp at h1) (by omega)
    show (if z.length ≤ 640 then (PySem.intText? z).map PyData.int else none) = _
    rw [if_pos (by omega), e]
    rfl
  · rw [if_neg h]
    rw [show okW z = false by simpa using h] at hb
    exact fnD_ex rfl (wp_seq (wp_dropX (eCallX (xs := [.bool false]) (eCons hb rfl) need_X) rfl))
theorem numR_nS {i : Int} (h0 : 0 ≤ i) (h : i ≤ 99) : numR (nS i) = .ok (.int i) := by
  have hl := nS_len h0 h
  have hd := nS_dig h0
  have ho : okW (nS i) = true := by
    unfold okW
    rw [decide_eq_true hl.1, decide_eq_true hl.2]
    simp only [Bool.true_and, List.all_eq_true, decide_eq_true_eq]
    exact hd
  unfold numR
  rw [if_pos ho]
  obtain ⟨n, rfl⟩ := Int.eq_ofNat_of_zero_le h0
  rw [nS_tl, numL_val]
theorem numR_ex {z : Str} {c : Nat} (h : numR z = .ex c) : c = 6 := by
  unfold numR at h
  split at h
  · cases h
  · cases h; rfl
def leftR (z : Str) : Rs D := match numR (Txt.partition (Txt.partition z ":").1 "-").1 with
  | .ex c => .ex c
  | .ok a => match numR (Txt.partition (Txt.partition z ":").1 "-").2.2 with
    | .ex c => .ex c
    | .ok b => match numR (Txt.partition z ":").2.2 with
      | .ex c => .ex c
      | .ok c => .ok (.tuple [a, b, c])
theorem left_in_S {z : Str} (hz : z.length ≤ sz) : F_left_in [.str z] = some (leftR z) := by
  have l1 := partition_len z ":"
  have l2 := partition_len (Txt.partition z ":").1 "-"
  have c1 : ((":" : Str).length == 0) = false := by decide +kernel
  have c2 : (("-" : Str).length == 0) = false := by decide +kernel
  have p1 : partiD z (.str ":") = some (.tuple [.str (Txt.partition z ":").1, .str (Txt.partition z ":").2.1, .str (Txt.partition z ":").2.2]) := if_pos ⟨c1, hz⟩
  have p2 : partiD (Txt.partition z ":").1 (.str "-") = some (.tuple [.str (Txt.partition (Txt.partition z ":").1 "-").1, .str (Txt.partition (Txt.partition z ":").1 "-").2.1, .str (Txt.partition (Txt.partition z ":").1 "-").2.2]) := if_pos ⟨c2, by omega⟩
  have n1 := number_in_S (z := (Txt.partition (Txt.partition z ":").1 "-").1) (by omega)
  have n2 := number_in_S (z := (Txt.partition (Txt.partition z ":").1 "-").2.2) (by omega)
  have n3 := number_in_S (z := (Txt.partition z ":").2.2) (by omega)
  unfold leftR
  generalize hA : (Txt.partition z ":").1 = A at *
  generalize (Txt.partition z ":").2.1 = A1 at *
  generalize (Txt.partition z ":").2.2 = A2 at *
  generalize (Txt.partition A "-").1 = B0 at *
  generalize (Txt.partition A "-").2.1 = B1 at *
  generalize (Txt.partition A "-").2.2 = B2 at *
  have pre : ∀ {P : Out → Prop} {s : XS}, wp s [.dat (.str z), .dat (.str A), .dat (.str A1), .dat (.str A2), .dat (.str B0), .dat (.str B1), .dat (.str B2)] P → wp (sSeq (sAsg (xM partiD (xVar 0) (xC (.str ":"))) (gT 3 (gsCons (gN 1) (gsCons (gN 2) (gsCons (gN 3) gsNil))))) (sSeq (sAsg (xM partiD (xVar 1) (xC (.str "-"))) (gT 3 (gsCons (gN 4) (gsCons (gN 5) (gsCons (gN 6) gsNil))))) s)) (DL.start 7 [.str z]) P := fun {P s} h =>
    wp_seq (wp_asg (d := .tuple [.str A, .str A1, .str A2]) (eM (z := z) rfl rfl p1) rfl (wp_seq (wp_asg (d := .tuple [.str B0, .str B1, .str B2]) (eM (z := A) rfl rfl p2) rfl h)))
  have T : ∀ δ, δ = [Sl.dat (.str z), .dat (.str A), .dat (.str A1), .dat (.str A2), .dat (.str B0), .dat (.str B1), .dat (.str B2)] → xTup (xCons (xCall F_number_in (xCons (xVar 4) xNil)) (xCons (xCall F_number_in (xCons (xVar 6) xNil)) (xCons (xCall F_number_in (xCons (xVar 3) xNil)) xNil))) δ = bnd (some (numR B0)) fun a => bnd (some (numR B2)) fun b => bnd (some (numR A2)) fun c => some (.ok (.tuple [a, b, c])) := by
    rintro δ rfl
    rw [q_xTup3]
    simp only [q_xCall, q_xCons, q_xVarS, q_xVar0, bnd_ok, q_xNil, n1, n2, n3]
  have T := T _ rfl
  cases q1 : numR B0 with
  | ex c =>
    rw [q1] at T
    exact fnD_ex rfl (pre (wp_retX T rfl))
  | ok a =>
    cases q2 : numR B2 with
    | ex c =>
      rw [q1, q2] at T
      exact fnD_ex rfl (pre (wp_retX T rfl))
    | ok b =>
      cases q3 : numR A2 with
      | ex c =>
        rw [q1, q2, q3] at T
        exact fnD_ex rfl (pre (wp_retX T rfl))
      | ok c =>
        rw [q1, q2, q3] at T
        exact fnD_of rfl (pre (wp_ret T rfl))
theorem leftR_ex {z : Str} {c : Nat} (h : leftR z = .ex c) : c = 6 := by
  unfold leftR at h
  split at h
  · rename_i q; cases h; exact numR_ex q
  · split at h
    · rename_i q; cases h; exact numR_ex q
    · split at h
      · rename_i q; cases h; exact numR_ex q
      · cases h
theorem leftR_mS {m : Mt} (h1 : m.1 ≤ 99) (h2 : m.2.1 ≤ 99) (h3 : 0 ≤ m.2.2) (h4 : m.2.2 ≤ 99) : leftR (mS m) = .ok (m3 m) := by
  unfold leftR
  rw [parti_m]
  dsimp only
  rw [parti_p]
  dsimp only
  rw [numR_nS (by omega) (by omega), numR_nS (by omega) (by omega), numR_nS h3 h4]
  rfl
/-- read, by what its words tell -/
theorem read_S {x : Str} (hl : x.length + 2 ≤ sz) (hx : PyData.canLay0 (.str x) = true) : F_read [.str x] = some (.ex 6) ∨ ∃ w l, Lg w l ∧ ltext w l = x ∧ F_read [.str x] = some (.ok (lg w l)) := by
  have t2 : tl (", " : Str) ≠ [] := by rw [tl_cs]; simp
  have t1 : tl (" " : Str) ≠ [] := by rw [tl_sp]; simp
  have a2 : (", " : Str).cps.all (· < 256) = true := by decide +kernel
  have a1 : (" " : Str).cps.all (· < 256) = true := by decide +kernel
  have c2 : ((", " : Str).length == 0) = false := by decide +kernel
  have c1 : ((" " : Str).length == 0) = false := by decide +kernel
  have hne := split_ne (x := x) t2 a2
  have hpl := split_len (x := x) t2 a2
  have s2 : splitD x (.str ", ") = some ((Txt.split x ", ").map .str) := if_pos ⟨c2, hl⟩
  cases hW : Txt.split x ", " with
  | nil => exact absurd hW hne
  | cons p ps =>
    rw [hW] at s2 hpl
    have hp := hpl p (by simp)
    have s1 : splitD p (.str " ") = some ((Txt.split p " ").map .str) := if_pos ⟨c1, by omega⟩
    have hql := split_len (x := p) t1 a1
    have pre : ∀ {P : Out → Prop} {s : XS}, wp s [.dat (.str x), .dat (.list ((p :: ps).map .str)), .no, .no] P → wp (sSeq (sDrop (xCall F_need (xCons (x1 (isiD .str) (xVar 0)) xNil))) (sSeq (sAsg (xOfL (xMF splitD (xVar 0) (xC (.str ", ")))) (gN 1)) s)) (DL.start 4 [.str x]) P := fun {P s} h =>
      wp_seq (wp_drop (eCall (xs := [.bool true]) (by simp [isi]) need_T) (wp_seq (wp_asg (d := .list ((p :: ps).map .str)) (eOfL (eMF (z := x) rfl rfl s2)) rfl h)))
    have Ait : xIter (xOfL (xMF splitD (x2 ixD (xVar 1) (xC (.int 0))) (xC (.str " ")))) [.dat (.str x), .dat (.list ((p :: ps).map .str)), .no, .no] = some (.ok ((Txt.split p " ").map .str)) :=
      eIter (eOfL (eMF (z := p) (by simp) rfl s1)) rfl
    have Bit : xIter (xSlice (xVar 1) (xPart (xC (.int 1))) xNoPart) [.dat (.str x), .dat (.list ((p :: ps).map .str)), .no, .no] = some (.ok (ps.map .str)) := by
      have := cut_from ((p :: ps).map PyData.str) 1
      simp at this
      simp [this]
    have hA := lcX_all (δ := wipeD [.dat (.str x), .dat (.list ((p :: ps).map .str)), .no, .no] [3]) PyData.str numR (g := gN 3) (e := xCall F_number_in (xCons (xVar 3) xNil)) (Txt.split p " ") fun z hz => ⟨_, rfl, by
      have := hql z hz
      have n := number_in_S (z := z) (by omega)
      simp [wipeD, unOwn, n]⟩
    have hB := lcX_all (δ := wipeD [.dat (.str x), .dat (.list ((p :: ps).map .str)), .no, .no] [3]) PyData.str leftR (g := gN 3) (e := xCall F_left_in (xCons (xVar 3) xNil)) ps fun z hz => ⟨_, rfl, by
      have := hpl z (by simp [hz])
      have n := left_in_S (z := z) (by omega)
      simp [wipeD, unOwn, n]⟩
    have eA : xLcX (xIter (xOfL (xMF splitD (x2 ixD (xVar 1) (xC (.int 0))) (xC (.str " "))))) (gN 3) yTrue (xCall F_number_in (xCons (xVar 3) xNil)) [3] [.dat (.str x), .dat (.list ((p :: ps).map .str)), .no, .no] = lcGoX (gN 3) yTrue (xCall F_number_in (xCons (xVar 3) xNil)) (wipeD [.dat (.str x), .dat (.list ((p :: ps).map .str)), .no, .no] [3]) ((Txt.split p " ").map .str) := by
      unfold xLcX; rw [Ait]; rfl
    have eB : xLcX (xIter (xSlice (xVar 1) (xPart (xC (.int 1))) xNoPart)) (gN 3) yTrue (xCall F_left_in (xCons (xVar 3) xNil)) [3] [.dat (.str x), .dat (.list ((p :: ps).map .str)), .no, .no] = lcGoX (gN 3) yTrue (xCall F_left_in (xCons (xVar 3) xNil)) (wipeD [.dat (.str x), .dat (.list ((p :: ps).map .str)), .no, .no] [3]) (ps.map .str) := by
      unfold xLcX; rw [Bit]; rfl
    rcases hA with ⟨ys, hA, _, _⟩ | ⟨c, hA, z, hz, q⟩
    · rw [hA] at eA
      rcases hB with ⟨zs, hB, _, _⟩ | ⟨c, hB, z, hz, q⟩
      · rw [hB] at eB
        obtain ⟨b, hb, hbL⟩ := is_league_T (.tuple [.tuple ys, .tuple zs])
        have mk : ∀ {P : Out → Prop} {s : XS}, wp s [.dat (.str x), .dat (.list ((p :: ps).map .str)), .dat (.tuple [.tuple ys, .tuple zs]), .no] P → wp (sSeq (sAsg (xTup (xCons (x1 tupleD (xOfL (xLcX (xIter (xOfL (xMF splitD (x2 ixD (xVar 1) (xC (.int 0))) (xC (.str " "))))) (gN 3) yTrue (xCall F_number_in (xCons (xVar 3) xNil)) [3]))) (xCons (x1 tupleD (xOfL (xLcX (xIter (xSlice (xVar 1) (xPart (xC (.int 1))) xNoPart)) (gN 3) yTrue (xCall F_left_in (xCons (xVar 3) xNil)) [3]))) xNil))) (gN 2)) s) [.dat (.str x), .dat (.list ((p :: ps).map .str)), .no, .no] P := fun {P s} h =>
          wp_seq (wp_asg (d := .tuple [.tuple ys, .tuple zs]) (eTup2 (e1 (eOfL eA) rfl) (e1 (eOfL eB) rfl)) rfl h)
        cases b with
        | false =>
          refine .inl (fnD_ex rfl (pre (mk (wp_seq (wp_dropX (eCallX (xs := [.bool false]) (eCons (eAnd false true (eCall (xs := [.tuple [.tuple ys, .tuple zs]]) (by simp) hb) (fun z => by cases z)) rfl) need_X) rfl)))))
        | true =>
          obtain ⟨w, l, hlg, e⟩ := hbL rfl
          rw [e] at hb mk
          have heq : x2 eqD (xCall F_league_text (xCons (xVar 2) xNil)) (xVar 0) [.dat (.str x), .dat (.list ((p :: ps).map .str)), .dat (lg w l), .no] = some (.ok (.bool (decide (ltext w l = x)))) :=
            e2 (x := .str (ltext w l)) (y := .str x) (eCall (xs := [lg w l]) (by simp) (league_text_I hlg)) rfl (by rw [q_eqD (n := 0) (shp_str (lay_str (ltext_mem hlg))) (shp_str hx) (by omega), eqv_str])
          by_cases hq : ltext w l = x
          · refine .inr ⟨w, l, hlg, hq, fnD_of rfl (pre (mk (wp_seq (wp_drop (eCall (xs := [.bool true]) (eCons (eAnd true true (eCall (xs := [lg w l]) (by simp) hb) (fun _ => by rw [heq, decide_eq_true hq])) rfl) need_T) (wp_ret rfl rfl)))))⟩
          · refine .inl (fnD_ex rfl (pre (mk (wp_seq (wp_dropX (eCallX (xs := [.bool false]) (eCons (eAnd true false (eCall (xs := [lg w l]) (by simp) hb) (fun _ => by rw [heq, decide_eq_false hq])) rfl) need_X) rfl)))))
      · rw [hB] at eB
        have := leftR_ex q
        subst this
        refine .inl (fnD_ex rfl (pre (wp_seq (wp_asgX ?_ rfl))))
        rw [q_xTup2, q_x1, q_xOfL, eA, q_x1, q_xOfL, eB]
        rfl
    · rw [hA] at eA
      have := numR_ex q
      subst this
      refine .inl (fnD_ex rfl (pre (wp_seq (wp_asgX ?_ rfl))))
      rw [q_xTup2, q_x1, q_xOfL, eA]
      rfl
theorem okMap {ι : Type} {is : List ι} {f : ι → D} {ys : List D} (h : is.map (fun i => Rs.ok (f i)) = ys.map Rs.ok) : ys = is.map f := by
  have := congrArg (List.map fun r : Rs D => match r with | .ok y => y | .ex _ => .none) h
  simpa [List.map_map, Function.comp_def] using this.symm
theorem read_I {w : List Int} {l : List Mt} (h : Lg w l) : F_read [.str (ltext w l)] = some (.ok (lg w l)) := by
  have hlen := ltext_len h
  have hw0 : ∀ x ∈ w, 0 ≤ x := fun x hx => (Lg.w99 h x hx).1
  have hl0 : ∀ m ∈ l, 0 ≤ m.2.2 := fun m hm => (Lg.l99 h m hm).2.2.1
  have hwn : w ≠ [] := fun e => by have := h.n2; rw [e] at this; simp at this
  have c2 : ((", " : Str).length == 0) = false := by decide +kernel
  have c1 : ((" " : Str).length == 0) = false := by decide +kernel
  have s2 : splitD (ltext w l) (.str ", ") = some ((partsS w l).map .str) := by
    rw [← split_ltext hw0 hl0]; exact if_pos ⟨c2, by unfold sz; omega⟩
  have hp := parts_len h (headS w) (by simp [partsS])
  have s1 : splitD (headS w) (.str " ") = some ((w.map nS).map .str) := by
    rw [← split_head hwn hw0]; exact if_pos ⟨c1, by unfold sz; omega⟩
  generalize hx : ltext w l = x at *
  have hA := lcX_all (δ := wipeD [.dat (.str x), .dat (.list ((partsS w l).map .str)), .no, .no] [3]) (fun i => PyData.str (nS i)) (fun i => .ok (.int i)) (g := gN 3) (e := xCall F_number_in (xCons (xVar 3) xNil)) w fun i hi => ⟨_, rfl, by
    have hi' := Lg.w99 h i hi
    have hn := nS_len hi'.1 hi'.2
    have n := number_in_S (z := nS i) (by unfold sz; omega)
    rw [numR_nS hi'.1 hi'.2] at n
    simp [wipeD, unOwn, n]⟩
  have hB := lcX_all (δ := wipeD [.dat (.str x), .dat (.list ((partsS w l).map .str)), .no, .no] [3]) (fun m => PyData.str (mS m)) (fun m => .ok (m3 m)) (g := gN 3) (e := xCall F_left_in (xCons (xVar 3) xNil)) l fun m hm => ⟨_, rfl, by
    obtain ⟨a, b, c, d⟩ := Lg.l99 h m hm
    have hn := mS_len a b c d
    have n := left_in_S (z := mS m) (by unfold sz; omega)
    rw [leftR_mS a b c d] at n
    simp [wipeD, unOwn, n]⟩
  have Ait : xIter (xOfL (xMF splitD (x2 ixD (xVar 1) (xC (.int 0))) (xC (.str " ")))) [.dat (.str x), .dat (.list ((partsS w l).map .str)), .no, .no] = some (.ok (w.map fun i => .str (nS i))) := by
    rw [map_S nS w]
    exact eIter (eOfL (eMF (z := headS w) (by simp [partsS]) rfl s1)) rfl
  have Bit : xIter (xSlice (xVar 1) (xPart (xC (.int 1))) xNoPart) [.dat (.str x), .dat (.list ((partsS w l).map .str)), .no, .no] = some (.ok (l.map fun m => .str (mS m))) := by
    have := cut_from ((partsS w l).map PyData.str) 1
    simp [partsS] at this
    simp [partsS, this]
  obtain ⟨ys, hA, _, q1⟩ := hA.resolve_right (by rintro ⟨c, _, z, hz, q⟩; cases q)
  obtain ⟨zs, hB, _, q2⟩ := hB.resolve_right (by rintro ⟨c, _, z, hz, q⟩; cases q)
  have q1 := okMap q1
  have q2 := okMap q2
  subst q1 q2
  have eA : xLcX (xIter (xOfL (xMF splitD (x2 ixD (xVar 1) (xC (.int 0))) (xC (.str " "))))) (gN 3) yTrue (xCall F_number_in (xCons (xVar 3) xNil)) [3] [.dat (.str x), .dat (.list ((partsS w l).map .str)), .no, .no] = some (.ok (w.map .int)) := by
    unfold xLcX; rw [Ait]; exact hA
  have eB : xLcX (xIter (xSlice (xVar 1) (xPart (xC (.int 1))) xNoPart)) (gN 3) yTrue (xCall F_left_in (xCons (xVar 3) xNil)) [3] [.dat (.str x), .dat (.list ((partsS w l).map .str)), .no, .no] = some (.ok (l.map m3)) := by
    unfold xLcX; rw [Bit]; exact hB
  refine fnD_of rfl ?_
  refine wp_seq (wp_drop (eCall (xs := [.bool true]) (by simp [isi]) need_T) ?_)
  refine wp_seq (wp_asg (d := .list ((partsS w l).map .str)) (eOfL (eMF (z := x) rfl rfl s2)) rfl ?_)
  refine wp_seq (wp_asg (d := lg w l) (eTup2 (e1 (eOfL eA) rfl) (e1 (eOfL eB) rfl)) rfl ?_)
  refine wp_seq (wp_drop (eCall (xs := [.bool true]) (eCons (eAnd true true (eCall (xs := [lg w l]) (by simp) (is_league_I h)) (fun _ => ?_)) rfl) need_T) (wp_ret rfl rfl))
  refine e2 (x := .str x) (y := .str x) (eCall (xs := [lg w l]) (by simp) (by rw [league_text_I h, hx])) rfl ?_
  have hc : PyData.canLay0 (.str x) = true := by rw [← hx]; exact lay_str (ltext_mem h)
  rw [q_eqD (n := 0) (shp_str hc) (shp_str hc) (by omega), eqv_str]
  simp
/-! texts that write no league -/
theorem nS_inj {i j : Int} (hi : 0 ≤ i) (hj : 0 ≤ j) (h : nS i = nS j) : i = j := by
  obtain ⟨a, rfl⟩ := Int.eq_ofNat_of_zero_le hi
  obtain ⟨b, rfl⟩ := Int.eq_ofNat_of_zero_le hj
  have e := congrArg tl h
  rw [nS_tl, nS_tl] at e
  have := congrArg NumText.digitsVal e
  rw [numL_val, numL_val] at this
  omega
theorem mS_inj {m m' : Mt} (h0 : 0 ≤ m.2.2) (h1 : 0 ≤ m'.2.2) (h : mS m = mS m') : m = m' := by
  have e := parti_m (m := m)
  rw [h, parti_m] at e
  simp only [Prod.mk.injEq] at e
  obtain ⟨e1, _, e3⟩ := e
  have f := parti_p m.1 m.2.1
  rw [← e1, parti_p] at f
  simp only [Prod.mk.injEq] at f
  obtain ⟨f1, _, f3⟩ := f
  have a := nS_inj (by omega) (by omega) f1
  have b := nS_inj (by omega) (by omega) f3
  have c := nS_inj h1 h0 e3
  obtain ⟨x, y, z⟩ := m
  obtain ⟨x', y', z'⟩ := m'
  simp only [Prod.mk.injEq]
  exact ⟨by have : ((x' : Nat) : Int) = x := a; omega, by have : ((y' : Nat) : Int) = y := b; omega, c.symm⟩
theorem mapS_inj : ∀ {l l' : List Mt}, (∀ m ∈ l, 0 ≤ m.2.2) → (∀ m ∈ l', 0 ≤ m.2.2) → l.map mS = l'.map mS → l = l'
  | [], [], _, _, _ => rfl
  | [], _ :: _, _, _, h => by simp at h
  | _ :: _, [], _, _, h => by simp at h
  | x :: l, y :: l', h1, h2, h => by
    rw [List.map_cons, List.map_cons] at h
    injection h with a b
    rw [mS_inj (h1 x (by simp)) (h2 y (by simp)) a, mapS_inj (fun m hm => h1 m (by simp [hm])) (fun m hm => h2 m (by simp [hm])) b]
theorem Lg.w0 {w : List Int} {l : List Mt} (h : Lg w l) : ∀ x ∈ w, 0 ≤ x := fun x hx => (h.w x hx).1
theorem Lg.l0 {w : List Int} {l : List Mt} (h : Lg w l) : ∀ m ∈ l, 0 ≤ m.2.2 := fun m hm => by have := (h.l m hm).2.2.1; omega
theorem Lg.free {w : List Int} {l : List Mt} (h : Lg w l) : ∀ p ∈ partsS w l, 44 ∉ tl p := fun p hp hc => (mem_parts (Lg.w0 h) (Lg.l0 h) hp hc).2 rfl
theorem parts_of {w : List Int} {l : List Mt} (h : Lg w l) {ps : List Str} (hne : ps ≠ []) (hf : ∀ p ∈ ps, 44 ∉ tl p) (e : ltext w l = Txt.join ", " ps) : partsS w l = ps := by
  rw [← split_ltext (Lg.w0 h) (Lg.l0 h), e]
  exact split_join tl_cs (by decide +kernel) hne hf
theorem refuse {x : Str} (hl : x.length + 2 ≤ sz) (hx : ∀ c ∈ tl x, c < 128) (h : ∀ w l, Lg w l → ltext w l ≠ x) : F_read [.str x] = some (.ex 6) := by
  rcases read_S hl (lay_str hx) with h1 | ⟨w, l, a, b, _⟩
  · exact h1
  · exact absurd b (h w l a)
/-- begins, ends in a figure -/
def Bg (p : List Nat) : Prop := ∃ c r, p = c :: r ∧ 48 ≤ c ∧ c ≤ 57
def En (p : List Nat) : Prop := ∃ r c, p = r ++ [c] ∧ 48 ≤ c ∧ c ≤ 57
theorem En.app {p : List Nat} (h : En p) (q : List Nat) : En (q ++ p) := by
  obtain ⟨r, c, rfl, h⟩ := h
  exact ⟨q ++ r, c, by simp, h⟩
theorem Bg.app {p : List Nat} (h : Bg p) (q : List Nat) : Bg (p ++ q) := by
  obtain ⟨c, r, rfl, h⟩ := h
  exact ⟨c, r ++ q, by simp, h⟩
theorem joinL_Bg {S : List Nat} : ∀ {ps : List (List Nat)}, ps ≠ [] → (∀ p ∈ ps, Bg p) → Bg (joinL S ps)
  | [], h, _ => absurd rfl h
  | [p], _, h => h p (by simp)
  | p :: q :: r, _, h => (h p (by simp)).app _
theorem joinL_En {S : List Nat} : ∀ {ps : List (List Nat)}, ps ≠ [] → (∀ p ∈ ps, En p) → En (joinL S ps)
  | [], h, _ => absurd rfl h
  | [p], _, h => h p (by simp)
  | p :: q :: r, _, h => by
    have := (joinL_En (S := S) (ps := q :: r) (by simp) fun z hz => h z (List.mem_cons_of_mem _ hz)).app (p ++ S)
    rw [List.append_assoc] at this
    exact this
theorem nS_BE {i : Int} (h0 : 0 ≤ i) : Bg (tl (nS i)) ∧ En (tl (nS i)) := by
  have hd := nS_dig h0
  have hne : tl (nS i) ≠ [] := by
    obtain ⟨n, rfl⟩ := Int.eq_ofNat_of_zero_le h0
    rw [nS_tl]; exact numL_ne n
  constructor
  · cases q : tl (nS i) with
    | nil => exact absurd q hne
    | cons c r => exact ⟨c, r, rfl, hd c (by rw [q]; simp)⟩
  · refine ⟨_, _, (List.dropLast_concat_getLast hne).symm, hd _ (List.getLast_mem hne)⟩
theorem headS_BE {w : List Int} (hne : w ≠ []) (hw : ∀ x ∈ w, 0 ≤ x) : Bg (tl (headS w)) ∧ En (tl (headS w)) := by
  unfold headS
  rw [tl_joinT]
  have hm : ∀ p ∈ (w.map nS).map tl, Bg p ∧ En p := fun p hp => by
    obtain ⟨z, hz, rfl⟩ := List.mem_map.mp hp
    obtain ⟨i, hi, rfl⟩ := List.mem_map.mp hz
    exact nS_BE (hw i hi)
  exact ⟨joinL_Bg (by simpa using hne) fun p hp => (hm p hp).1, joinL_En (by simpa using hne) fun p hp => (hm p hp).2⟩
theorem mS_BE {m : Mt} (h : 0 ≤ m.2.2) : Bg (tl (mS m)) ∧ En (tl (mS m)) := by
  rw [tl_mS]
  refine ⟨?_, (nS_BE h).2.app _⟩
  rw [List.append_assoc, List.append_assoc, List.append_assoc]
  exact (nS_BE (i := m.1) (by omega)).1.app _
theorem ltext_BE {w : List Int} {l : List Mt} (h : Lg w l) : Bg (tl (ltext w l)) ∧ En (tl (ltext w l)) := by
  have hwn : w ≠ [] := fun e => by have := h.n2; rw [e] at this; simp at this
  have hm : ∀ p ∈ (partsS w l).map tl, Bg p ∧ En p := fun p hp => by
    obtain ⟨z, hz, rfl⟩ := List.mem_map.mp hp
    rcases List.mem_cons.mp hz with rfl | hz
    · exact headS_BE hwn (Lg.w0 h)
    · obtain ⟨m, hm, rfl⟩ := List.mem_map.mp hz
      exact mS_BE (Lg.l0 h m hm)
  unfold ltext
  rw [tl_joinT]
  exact ⟨joinL_Bg (by simp [partsS]) fun p hp => (hm p hp).1, joinL_En (by simp [partsS]) fun p hp => (hm p hp).2⟩
theorem not_begin {c : Nat} {r : List Nat} {x : Str} (e : tl x = c :: r) (hc : c < 48 ∨ 57 < c) : ∀ w l, Lg w l → ltext w l ≠ x := fun w l h q => by
  obtain ⟨c', r', e', a, b⟩ := (ltext_BE h).1
  rw [q, e] at e'
  injection e' with e1
  omega
theorem not_end {c : Nat} {r : List Nat} {x : Str} (e : tl x = r ++ [c]) (hc : c < 48 ∨ 57 < c) : ∀ w l, Lg w l → ltext w l ≠ x := fun w l h q => by
  obtain ⟨r', c', e', a, b⟩ := (ltext_BE h).2
  rw [q, e] at e'
  have := (List.append_inj' e' rfl).2
  injection this with e1
  omega
theorem not_empty {x : Str} (e : tl x = []) : ∀ w l, Lg w l → ltext w l ≠ x := fun w l h q => by
  obtain ⟨c', r', e', a, b⟩ := (ltext_BE h).1
  rw [q, e] at e'
  cases e'
/-- the first one, put in another's place -/
theorem repl1_app {y z : Str} {s : Nat} {S : List Nat} (ey : tl y = s :: S) {a b : Str} (h : s ∉ tl a) : repl1 (a ++ y ++ b) y z = a ++ z ++ b := by
  have hp := partition_app ey (b := b) h
  have hy : y.length ≠ 0 := by rw [len_tl, ey]; simp
  generalize a ++ y ++ b = x at *
  unfold Txt.partition at hp
  unfold repl1
  have hone := PySem.StrLaws.occ_length_le x y 0 x.length 1
  cases ho : Builtin.Str.occurrences x y 0 x.length 1 with
  | nil =>
    rw [ho] at hp
    simp only [Prod.mk.injEq] at hp
    have := congrArg tl hp.2.1
    rw [ey] at this
    cases this
  | cons i r =>
    rw [ho] at hp hone
    have hr : r = [] := by cases r with
      | nil => rfl
      | cons _ _ => simp at hone
    subst hr
    simp only [Prod.mk.injEq] at hp
    have e0 : (y.length == 0) = false := by simpa using hy
    rw [e0]
    simp only [List.isEmpty_cons, Bool.false_and, Bool.or_false, Bool.false_eq_true, if_false]
    show Builtin.Str.glued z [Builtin.Str.strSub x 0 i, Builtin.Str.strSub x (i + y.length) x.length] = _
    rw [hp.1, hp.2.2]
    rfl
theorem tl_z : tl ("0" : Str) = [48] := by decide +kernel
theorem tl_c : tl ("," : Str) = [44] := by decide +kernel
theorem tl_2 : tl ("  " : Str) = [32, 32] := by decide +kernel
theorem tl_e : tl ("" : Str) = [] := by decide +kernel
section
variable {w : List Int} {l : List Mt}
theorem take_I (h : Lg w l) (n : Nat) : Lg w (l.take n) := ⟨h.n2, h.n6, h.w, fun m hm => h.l m (List.mem_of_mem_take hm), h.o.sublist (List.take_sublist n l)⟩
theorem parts_take (n : Nat) : (partsS w l).take (n + 1) = partsS w (l.take n) := by simp [partsS]
theorem bad_turned (h : Lg w l) (h2 : 2 ≤ l.length) : ∀ w' l', Lg w' l' → ltext w' l' ≠ Txt.join ", " (headS w :: (l.map mS).reverse) := fun w' l' h' e => by
  have hp := parts_of h' (by simp) (fun p hp => Lg.free h p (by simp only [partsS, List.mem_cons, List.mem_reverse] at hp ⊢; exact hp)) e
  injection hp with _ hp
  rw [← List.map_reverse] at hp
  have hp := mapS_inj (Lg.l0 h') (fun m hm => Lg.l0 h m (by simpa using hm)) hp
  have o := h'.o
  rw [hp, List.pairwise_reverse] at o
  have o' := h.o
  match l, h2, o, o' with
  | a :: b :: r, _, o, o' =>
    have x1 := (List.pairwise_cons.mp o).1 b (by simp)
    have x2 := (List.pairwise_cons.mp o').1 b (by simp)
    unfold plt at x1 x2
    omega
theorem bad_twice (h : Lg w l) (hne : l ≠ []) : ∀ w' l', Lg w' l' → ltext w' l' ≠ Txt.join ", " (partsS w l ++ [mS (l.getLast hne)]) := fun w' l' h' e => by
  have hp := parts_of h' (by simp [partsS]) (fun p hp => Lg.free h p (by
    simp only [partsS, List.mem_append, List.mem_singleton] at hp ⊢
    rcases hp with hp | rfl
    · exact hp
    · exact List.mem_cons_of_mem _ (List.mem_map_of_mem (List.getLast_mem hne)))) e
  injection hp with _ hp
  have e2 : List.map mS l ++ [mS (l.getLast hne)] = (l ++ [l.getLast hne]).map mS := by simp
  have hp : l'.map mS = (l ++ [l.getLast hne]).map mS := by rw [← e2]; exact hp
  have hp := mapS_inj (Lg.l0 h') (fun m hm => by
    rcases List.mem_append.mp hm with hm | hm
    · exact Lg.l0 h m hm
    · rw [List.mem_singleton.mp hm]; exact Lg.l0 h _ (List.getLast_mem hne)) hp
  have o := h'.o
  rw [hp, List.pairwise_append] at o
  have := o.2.2 _ (List.getLast_mem hne) (l.getLast hne) (by simp)
  unfold plt at this
  omega
theorem bad_headless (h : Lg w l) (hne : l ≠ []) : ∀ w' l', Lg w' l' → ltext w' l' ≠ Txt.join ", " (l.map mS) := fun w' l' h' e => by
  have hp := parts_of h' (by simpa using hne) (fun p hp => Lg.free h p (List.mem_cons_of_mem _ hp)) e
  cases l with
  | nil => exact absurd rfl hne
  | cons m r =>
    injection hp with hp _
    have hm : 45 ∈ tl (mS m) := by rw [tl_mS]; simp
    rw [← hp] at hm
    have := mem_headS (Lg.w0 h') hm
    omega
theorem bad_zero (h : Lg w l) : ∀ w' l', Lg w' l' → ltext w' l' ≠ "0" ++ ltext w l := fun w' l' h' e => by
  have e2 : ("0" : Str) ++ ltext w l = Txt.join ", " (("0" ++ headS w) :: l.map mS) := by
    refine ext_tl ?_
    unfold ltext
    rw [tl_append, tl_joinT, tl_joinT]
    unfold partsS
    cases l.map mS with
    | nil => simp [joinL, tl_append]
    | cons a b => simp [joinL, tl_append]
  rw [e2] at e
  have hp := parts_of h' (by simp) (fun p hp => by
    rcases List.mem_cons.mp hp with rfl | hp
    · rw [tl_append, tl_z]
      have := Lg.free h (headS w) (by simp [partsS])
      simpa using this
    · exact Lg.free h p (List.mem_cons_of_mem _ hp)) e
  injection hp with hp _
  have hwn : w ≠ [] := fun e => by have := h.n2; rw [e] at this; simp at this
  have hwn' : w' ≠ [] := fun e => by have := h'.n2; rw [e] at this; simp at this
  have w0 := Lg.w0 h
  have w0' := Lg.w0 h'
  cases w with
  | nil => exact absurd rfl hwn
  | cons a r =>
    have e3 : ("0" : Str) ++ headS (a :: r) = Txt.join " " (("0" ++ nS a) :: r.map nS) := by
      refine ext_tl ?_
      unfold headS
      rw [tl_append, tl_joinT, tl_joinT, List.map_cons]
      cases r.map nS with
      | nil => simp [joinL, tl_append]
      | cons a b => simp [joinL, tl_append]
    have hs := split_head hwn' w0'
    rw [hp, e3, split_join tl_sp (by decide +kernel) (by simp) (fun p hp => by
      rcases List.mem_cons.mp hp with rfl | hp
      · rw [tl_append, tl_z]
        have := nS_free (w0 a (by simp)) (s := 32) (.inl (by omega))
        simpa using this
      · obtain ⟨i, hi, rfl⟩ := List.mem_map.mp hp
        exact nS_free (w0 i (by simp [hi])) (.inl (by omega)))] at hs
    cases w' with
    | nil => exact absurd rfl hwn'
    | cons b r' =>
      injection hs with hs _
      obtain ⟨n, rfl⟩ := Int.eq_ofNat_of_zero_le (w0 a (by simp))
      obtain ⟨m, rfl⟩ := Int.eq_ofNat_of_zero_le (w0' b (by simp))
      have hs := congrArg tl hs
      rw [tl_append, tl_z, nS_tl, nS_tl] at hs
      have v : NumText.digitsVal ([48] ++ numL n) = NumText.digitsVal (numL n) := by
        simp [NumText.digitsVal]
      have v2 := congrArg NumText.digitsVal hs
      rw [v, numL_val, numL_val] at v2
      subst v2
      have := congrArg List.length hs
      simp at this
theorem repl_I (h : Lg w l) : ∃ a b r, w = a :: b :: r ∧ repl1 (ltext w l) " " "  " = Txt.join ", " (Txt.join " " (nS a :: "" :: nS b :: r.map nS) :: l.map mS) := by
  have h2 := h.n2
  match w, h, h2 with
  | a :: b :: r, h, _ =>
    refine ⟨a, b, r, rfl, ?_⟩
    have e : ltext (a :: b :: r) l = nS a ++ " " ++ Txt.join ", " (headS (b :: r) :: l.map mS) := by
      refine ext_tl ?_
      unfold ltext headS partsS headS
      rw [tl_append, tl_append, tl_joinT, tl_joinT]
      cases l.map mS with
      | nil => simp [joinL, tl_joinT]
      | cons x y => simp [joinL, tl_joinT]
    rw [e, repl1_app tl_sp (nS_free (Lg.w0 h a (by simp)) (.inl (by omega)))]
    refine ext_tl ?_
    unfold headS
    rw [tl_append, tl_append, tl_joinT, tl_joinT]
    cases l.map mS with
    | nil => simp [joinL, tl_joinT, tl_2, tl_sp, tl_e]
    | cons x y => simp [joinL, tl_joinT, tl_2, tl_sp, tl_e]
theorem bad_blank (h : Lg w l) : ∀ w' l', Lg w' l' → ltext w' l' ≠ repl1 (ltext w l) " " "  " := fun w' l' h' e => by
  obtain ⟨a, b, r, ew, er⟩ := repl_I h
  rw [er] at e
  have hm : ∀ x ∈ a :: b :: r, 0 ≤ x := by rw [← ew]; exact Lg.w0 h
  have hp := parts_of h' (by simp) (fun p hp hc => by
    rcases List.mem_cons.mp hp with rfl | hp
    · rw [tl_joinT] at hc
      rcases mem_joinL hc with hc | ⟨p, hp, hc⟩
      · rw [tl_sp] at hc; simp at hc
      · simp only [List.map_cons, List.mem_cons, List.map_map, List.mem_map] at hp
        rcases hp with rfl | rfl | rfl | ⟨i, hi, rfl⟩
        · exact nS_free (hm a (by simp)) (.inl (by omega)) hc
        · rw [tl_e] at hc; cases hc
        · exact nS_free (hm b (by simp)) (.inl (by omega)) hc
        · exact nS_free (hm i (by simp [hi])) (.inl (by omega)) hc
    · exact Lg.free h p (List.mem_cons_of_mem _ hp) hc) e
  injection hp with hp _
  have hwn' : w' ≠ [] := fun e => by have := h'.n2; rw [e] at this; simp at this
  have w0' := Lg.w0 h'
  have hs := split_head hwn' w0'
  rw [hp, split_join tl_sp (by decide +kernel) (by simp) (fun p hp => by
    simp only [List.mem_cons, List.mem_map] at hp
    rcases hp with rfl | rfl | rfl | ⟨i, hi, rfl⟩
    · exact nS_free (hm a (by simp)) (.inl (by omega))
    · rw [tl_e]; simp
    · exact nS_free (hm b (by simp)) (.inl (by omega))
    · exact nS_free (hm i (by simp [hi])) (.inl (by omega)))] at hs
  have : ("" : Str) ∈ w'.map nS := by rw [← hs]; simp
  obtain ⟨i, hi, e⟩ := List.mem_map.mp this
  obtain ⟨c, q, e', _⟩ := (nS_BE (w0' i hi)).1
  rw [e, tl_e] at e'
  cases e'
end
theorem wp_mono {s : XS} {δ : DE} {P Q : Out → Prop} (h : wp s δ Q) (k : ∀ o, Q o → P o) : wp s δ P := by
  obtain ⟨o, a, b⟩ := h
  exact ⟨o, a, k o b⟩
theorem join_ok {ps : List Str} (h : ∀ p ∈ ps, p.length ≤ 40) (hl : ps.length ≤ 100) : joinD ", " (.list (ps.map PyData.str)) = some (.str (Txt.join ", " ps)) := by
  refine q_join 40 h ?_
  have : (", " : Str).length = 2 := by decide +kernel
  rw [this]; omega
theorem join_len {ps : List Str} (h : ∀ p ∈ ps, p.length ≤ 40) (hl : ps.length ≤ 100) : (Txt.join ", " ps).length ≤ 4200 := by
  rw [len_tl, tl_joinT, tl_cs]
  have := joinL_len (S := [44, 32]) (k := 40) (ps := ps.map tl) fun p hp => by
    obtain ⟨z, hz, rfl⟩ := List.mem_map.mp hp
    rw [← len_tl]
    exact h z hz
  simp at this
  omega
theorem join_mem {ps : List Str} (h : ∀ p ∈ ps, ∀ c ∈ tl p, c < 128) : ∀ c ∈ tl (Txt.join ", " ps), c < 128 := fun c hc => by
  rw [tl_joinT, tl_cs] at hc
  rcases mem_joinL hc with hc | ⟨p, hp, hc⟩
  · simp at hc; omega
  · obtain ⟨z, hz, rfl⟩ := List.mem_map.mp hp
    exact h z hz c hc
theorem read_join {ps : List Str} (h : ∀ p ∈ ps, p.length ≤ 40) (hl : ps.length ≤ 100) (hm : ∀ p ∈ ps, ∀ c ∈ tl p, c < 128) (hb : ∀ w l, Lg w l → ltext w l ≠ Txt.join ", " ps) : F_read [.str (Txt.join ", " ps)] = some (.ex 6) := by
  have := join_len h hl
  exact refuse (by unfold sz; omega) (join_mem hm) hb
section
variable {w : List Int} {l : List Mt}
theorem p40 (h : Lg w l) : ∀ p ∈ partsS w l, p.length ≤ 40 := fun p hp => by have := parts_len h p hp; omega
theorem p128 (h : Lg w l) : ∀ p ∈ partsS w l, ∀ c ∈ tl p, c < 128 := fun p hp c hc => (mem_parts (Lg.w0 h) (Lg.l0 h) hp hc).1
theorem wr_none (h : Lg w l) : F_written [.tuple [tyI w, .none]] = some (.ex 1) := by
  refine written_X ?_
  obtain ⟨b, hb, k⟩ := is_league_T (.tuple [tyI w, .none])
  cases b with
  | false => exact hb
  | true =>
    obtain ⟨w', l', _, e⟩ := k rfl
    unfold lg at e
    injection e with e
    injection e with _ e
    injection e with e
    cases e
end
theorem q_rangeN {A : XE} {δ : DE} {n : Nat} {m : Int} (h : A δ = some (.ok (.int m))) (e : m = n) (hn : n ≤ sz) : xRange1 A δ = some (.ok ((List.range n).map fun (i : Nat) => PyData.int i)) := by
  subst e; exact eRange1 h hn
theorem law_true (ns : List Int) (hl : ns.length ≤ 63) : F_law [.list (ns.map PyData.int)] = some (.ok (.bool true)) := by
  have cT : PyData.canLay0 (.str "BadText") = true := by decide +kernel
  have cB : PyData.canLay0 (.str "BadLeague") = true := by decide +kernel
  refine fnD_of rfl (wp_seq ?_)
  refine wp_for (fun (i : Nat) => PyData.int i) (List.range (max 1 (min 4 ns.length))) (fun _ δ => ∃ s1 s2 s3 s4 s5 s6 s7 s8 s9 s10 s11, δ = [.dat (lI ns), s1, s2, s3, s4, s5, s6, s7, s8, s9, s10, s11]) (eRange1 ?_ (by unfold sz; omega)) ?_ ?_ ?_
  · simp; omega
  · exact ⟨_, _, _, _, _, _, _, _, _, _, _, rfl⟩
  · rintro p k q δ e0 ⟨s1, s2, s3, s4, s5, s6, s7, s8, s9, s10, s11, rfl⟩
    refine ⟨_, rfl, ?_⟩
    generalize hM : dr (lcell ns k) k = M
    have hlg : Lg (lWins (M / 8) 6) (lLeft (M / 8) (lSides (M / 8) 6) (List.range (lSides (M / 8) 6))) := lg_drawn (by omega) (by omega)
    have hlgI := law_league_I (more := M / 8) (most := 6) (by omega) (by omega)
    generalize lWins (M / 8) 6 = w at *
    generalize lLeft (M / 8) (lSides (M / 8) 6) (List.range (lSides (M / 8) 6)) = l at *
    have hlen := ltext_len hlg
    have hmem := ltext_mem hlg
    have hlay := lay_str hmem
    have hrd := read_I hlg
    have hwr := written_I hlg
    have hbz := bad_zero hlg
    have hbb := bad_blank hlg
    have h6 := hlg.n6
    have hf := hlg.few
    have c2 : ((", " : Str).length == 0) = false := by decide +kernel
    have s2' : splitD (ltext w l) (.str ", ") = some ((partsS w l).map .str) := by
      rw [← split_ltext (Lg.w0 hlg) (Lg.l0 hlg)]; exact if_pos ⟨c2, by unfold sz; omega⟩
    generalize hx : ltext w l = x at *
    have hxz : x.length ≤ sz := by unfold sz; omega
    refine wp_seq (wp_asg (d := .int M) (eCall (xs := [.int (lcell ns k), .int k]) (eCons (eCall (xs := [lI ns, .int k]) (by simp) (cell_I ns k hl)) (by simp)) (by rw [drawn_I, hM])) rfl ?_)
    refine wp_seq (wp_asg (d := lg w l) (eCall (xs := [.int (M / 8), .int 6]) (by simp [q_fdivI (i := M) (j := 8) (by omega) (by decide)]) hlgI) rfl ?_)
    refine wp_seq (wp_asg (d := .str x) (eTold (eCall (xs := [lg w l]) (by simp) hwr)) rfl ?_)
    refine wp_seq (wp_asg (d := .list ((partsS w l).map .str)) (eOfL (eMF (z := x) rfl rfl s2')) rfl ?_)
    refine wp_seq (wp_asg (d := .list [.str (headS w)]) (eOfL ?_) rfl ?_)
    · rw [q_xLst1, eM (z := " ") (d := .str (headS w)) rfl (eOfL (eLcM PyData.int (fun i => .str (nS i)) w ?_ ?_)) (headE (Lg.w99 hlg) (by omega))]
      · rfl
      · simp [lg, tyI]
      · intro i hi
        exact ⟨_, rfl, e1 (x := .int i) (by simp [wipeD, unOwn]) (q_strD (Lg.w99 hlg i hi).1 (Lg.w99 hlg i hi).2)⟩
    refine wp_seq (wp_asg (d := .list ((partsS w l).map .str)) (e2 (x := .list [.str (headS w)]) (y := .list (l.map fun m => .str (mS m))) (by simp) (eOfL (eLcM m3 (fun m => .str (mS m)) l ?_ ?_)) ?_) rfl ?_)
    · simp [lg, atI_1]
    · intro m hm
      obtain ⟨a, b, c, d⟩ := Lg.l99 hlg m hm
      have a' := (nS_len (i := m.1) (by omega) (by omega)).2
      have b' := (nS_len (i := m.2.1) (by omega) (by omega)).2
      have c' := (nS_len c d).2
      have d1 : ("-" : Str).length = 1 := by decide +kernel
      have d2 : (":" : Str).length = 1 := by decide +kernel
      refine ⟨_, rfl, ?_⟩
      refine e2 (x := .str (nS m.1 ++ "-" ++ nS m.2.1 ++ ":")) (y := .str (nS m.2.2)) (e2 (x := .str (nS m.1 ++ "-" ++ nS m.2.1)) (y := .str ":") (e2 (x := .str (nS m.1 ++ "-")) (y := .str (nS m.2.1)) (e2 (x := .str (nS m.1)) (y := .str "-") (e1 (x := .int m.1) (by simp [wipeD, unOwn]) (q_strD (by omega) (by omega))) rfl (q_addS ?_)) (e1 (x := .int m.2.1) (by simp [wipeD, unOwn]) (q_strD (by omega) (by omega))) (q_addS ?_)) rfl (q_addS ?_)) (e1 (x := .int m.2.2) (by simp [wipeD, unOwn]) (q_strD c d)) (q_addS ?_) <;> (try simp only [app_len]) <;> unfold sz <;> omega
    · rw [q_addL (by simp [sz]; omega), map_S]
      rfl
    have hPs : shp 1 (.list ((partsS w l).map PyData.str)) := shp_lst fun d hd => by
      obtain ⟨z, hz, rfl⟩ := List.mem_map.mp hd
      exact shp_str (lay_str (p128 hlg z hz))
    refine wp_seq (wp_ifF (eYor (eV (e2 (x := .list ((partsS w l).map .str)) (y := .list ((partsS w l).map .str)) (by simp) (by simp) (q_neD_self rfl (n := 1) hPs (by omega)))) (eV (e2 (x := lg w l) (y := lg w l) (eTold (eCall (xs := [.str x]) (by simp) hrd)) (by simp) (q_neD_self rfl (n := 3) (shp_lg w l) (by omega))))) (wp_next ?_))
    refine wp_seq (wp_for (fun (i : Nat) => PyData.int i) (List.range l.length) (fun _ δ => ∃ s7 s8 s9 s10 s11, δ = [.dat (lI ns), .dat (.int k), .dat (.int M), .dat (lg w l), .dat (.str x), .dat (.list ((partsS w l).map .str)), .dat (.list ((partsS w l).map .str)), s7, s8, s9, s10, s11]) (q_rangeN (m := l.length) ?_ rfl (by unfold sz; omega)) ⟨_, _, _, _, _, rfl⟩ ?_ ?_)
    · simp [lg, atI_1]
    · rintro p' n q' δ e ⟨s7, s8, s9, s10, s11, rfl⟩
      refine ⟨_, rfl, ?_⟩
      have hn := take_I hlg n
      have hct := cut_to ((partsS w l).map PyData.str) (n + 1)
      rw [← List.map_take, parts_take] at hct
      have hc2 := cut_to (l.map m3) n
      rw [← List.map_take] at hc2
      refine wp_ifF (eV (e2 (x := lg w (l.take n)) (y := lg w (l.take n)) (eTold (eCall (xs := [.str (ltext w (l.take n))]) (eCons (eM (z := ", ") (y := .list ((partsS w (l.take n)).map .str)) rfl ?_ (join_ok (p40 hn) (by simp [partsS]; omega))) rfl) (read_I hn))) ?_ (q_neD_self rfl (n := 3) (shp_lg w _) (by omega)))) (wp_next ⟨_, _, _, _, _, rfl⟩)
      · rw [← hct]
        simp
      · rw [q_xTup2]
        simp [lg, atI_1, hc2]
    · rintro δ ⟨s7, s8, s9, s10, s11, rfl⟩
      refine wp_seq (wp_mono (Q := fun o => ∃ s7 s8 s9 s10 s11, o = .nx [.dat (lI ns), .dat (.int k), .dat (.int M), .dat (lg w l), .dat (.str x), .dat (.list ((partsS w l).map .str)), .dat (.list ((partsS w l).map .str)), s7, s8, s9, s10, s11]) (wp_if (decide (2 ≤ l.length)) ?_ ?_) ?_)
      · simp [partsS]
        omega
      · by_cases h2 : 2 ≤ l.length
        · rw [if_pos (decide_eq_true h2)]
          have hne : l ≠ [] := fun e => by rw [e] at h2; simp at h2
          have m0 : ∀ p ∈ headS w :: (l.map mS).reverse, p ∈ partsS w l := fun p hp => by simpa [partsS] using hp
          have m1 : ∀ p ∈ partsS w l ++ [mS (l.getLast hne)], p ∈ partsS w l := fun p hp => by
            rcases List.mem_append.mp hp with hp | hp
            · exact hp
            · rw [List.mem_singleton.mp hp]; exact List.mem_cons_of_mem _ (List.mem_map_of_mem (List.getLast_mem hne))
          have m2 : ∀ p ∈ l.map mS, p ∈ partsS w l := fun p hp => List.mem_cons_of_mem _ hp
          have r0 := read_join (fun p hp => p40 hlg p (m0 p hp)) (by simp; omega) (fun p hp => p128 hlg p (m0 p hp)) (bad_turned hlg h2)
          have r1 := read_join (fun p hp => p40 hlg p (m1 p hp)) (by simp [partsS]; omega) (fun p hp => p128 hlg p (m1 p hp)) (bad_twice hlg hne)
          have r2 := read_join (fun p hp => p40 hlg p (m2 p hp)) (by simp; omega) (fun p hp => p128 hlg p (m2 p hp)) (bad_headless hlg hne)
          have j0 := join_ok (fun p hp => p40 hlg p (m0 p hp)) (by simp; omega)
          have j1 := join_ok (fun p hp => p40 hlg p (m1 p hp)) (by simp [partsS]; omega)
          have j2 := join_ok (fun p hp => p40 hlg p (m2 p hp)) (by simp; omega)
          have c1 := cut_from ((partsS w l).map PyData.str) 1
          simp [partsS] at c1
          have cl : cut ((partsS w l).map PyData.str) (some (-1)) none = [.str (mS (l.getLast hne))] := by
            simp only [cut, sIx]
            rw [if_pos (by omega)]
            have e1 : ((-1 : Int) + (((partsS w l).map PyData.str).length : Int)).toNat = l.length := by simp [partsS]; omega
            rw [e1]
            have e2 : (partsS w l).map PyData.str = (PyData.str (headS w) :: (l.map mS).map PyData.str) := rfl
            have e3 : l = l.dropLast ++ [l.getLast hne] := (List.dropLast_concat_getLast hne).symm
            have e4 : l.length = (l.dropLast).length + 1 := by simp; omega
            rw [e2, e4, List.drop_succ_cons]
            rw [show (l.map mS).map PyData.str = (l.dropLast.map mS).map PyData.str ++ [PyData.str (mS (l.getLast hne))] from (congrArg (fun l : List Mt => (l.map mS).map PyData.str) e3).trans (by simp)]
            rw [List.drop_append_of_le_length (by simp), List.drop_of_length_le (by simp)]
            simp
          generalize Txt.join ", " (headS w :: (l.map mS).reverse) = T0 at *
          generalize Txt.join ", " (partsS w l ++ [mS (l.getLast hne)]) = T1 at *
          generalize Txt.join ", " (l.map mS) = T2 at *
          refine wp_seq (wp_asg (d := .list [.str T0, .str T1, .str T2]) (eOfL (q_xLst _ _ _ (eCons (eM (z := ", ") (y := .list ((headS w :: (l.map mS).reverse).map .str)) rfl ?_ j0) (eCons (eM (z := ", ") (y := .list ((partsS w l ++ [mS (l.getLast hne)]).map .str)) rfl ?_ j1) (eCons (eM (z := ", ") (y := .list ((l.map mS).map .str)) rfl ?_ j2) rfl))) (by simp [sz]))) rfl ?_)
          · refine e2 (x := .list [.str (headS w)]) (y := .list ((l.map mS).reverse.map .str)) (by simp [partsS]) (eOfL (eF1 (x := .list ((partsS w l).map .str)) (by simp) ?_)) (q_addL (by simp [sz]; omega))
            show some ((((partsS w l).map PyData.str).drop 1).reverse) = _
            simp [partsS]
          · refine e2 (x := .list ((partsS w l).map .str)) (y := .list [.str (mS (l.getLast hne))]) (by simp) (by simp [cl]) ?_
            rw [q_addL (by simp [sz, partsS]; omega)]
            simp
          · simp [partsS, c1]
          have st : SeqAt.shaped (.list [.str "BadText", .str "BadText"]) = true := by decide +kernel
          refine wp_seq (wp_ifF (eV (e2 (x := .list [.str "BadText", .str "BadText"]) (y := .list [.str "BadText", .str "BadText"]) (eOfL (q_xLst _ _ _ (eCons (eToldX (c := 6) (x := "BadText") (eCallX (xs := [.str T0]) (by simp) r0) rfl) (eCons (eToldX (c := 6) (x := "BadText") (eCallX (xs := [.str T1]) (by simp [atI_1]) r1) rfl) rfl)) (by simp [sz]))) (eOfL (eRep1 (x := .str "BadText") (k := 2) (by simp) rfl (by omega) (by omega))) ?_)) (wp_next ?_))
          · exact q_neD_self rfl (n := 1) (shp_lst (n := 0) fun d hd => by simp at hd; rw [hd]; exact shp_str cT) (by omega)
          refine wp_ifF (eV (e2 (x := .str "BadText") (y := .str "BadText") (eToldX (c := 6) (x := "BadText") (eCallX (xs := [.str T2]) (by simp [atI_2]) r2) rfl) rfl (q_neD_self rfl (n := 0) (shp_str cT) (by omega)))) (wp_next ⟨_, _, _, _, _, rfl⟩)
        · rw [if_neg (by simpa using h2)]
          exact wp_next ⟨_, _, _, _, _, rfl⟩
      · rintro o ⟨s7, s8, s9, s10, s11, rfl⟩
        show wp _ _ _
        have l1 : ("," : Str).length = 1 := by decide +kernel
        have l2 : (" " : Str).length = 1 := by decide +kernel
        have l3 : (", " : Str).length = 2 := by decide +kernel
        have l4 : ("0" : Str).length = 1 := by decide +kernel
        have l5 : ("-" : Str).length = 1 := by decide +kernel
        have l6 : ("  " : Str).length = 2 := by decide +kernel
        have b0 : F_read [.str (x ++ ",")] = some (.ex 6) := refuse (by rw [app_len]; unfold sz; omega) (fun c hc => by
          rw [tl_append, tl_c] at hc
          rcases List.mem_append.mp hc with hc | hc
          · exact hmem c hc
          · simp at hc; omega) (not_end (r := tl x) (c := 44) (by rw [tl_append, tl_c]) (by omega))
        have b1 : F_read [.str (x ++ " ")] = some (.ex 6) := refuse (by rw [app_len]; unfold sz; omega) (fun c hc => by
          rw [tl_append, tl_sp] at hc
          rcases List.mem_append.mp hc with hc | hc
          · exact hmem c hc
          · simp at hc; omega) (not_end (r := tl x) (c := 32) (by rw [tl_append, tl_sp]) (by omega))
        have b2 : F_read [.str (", " ++ x)] = some (.ex 6) := refuse (by rw [app_len]; unfold sz; omega) (fun c hc => by
          rw [tl_append, tl_cs] at hc
          rcases List.mem_append.mp hc with hc | hc
          · simp at hc; omega
          · exact hmem c hc) (not_begin (r := 32 :: tl x) (c := 44) (by rw [tl_append, tl_cs]; rfl) (by omega))
        have b4 : F_read [.str ("0" ++ x)] = some (.ex 6) := refuse (by rw [app_len]; unfold sz; omega) (fun c hc => by
          rw [tl_append, tl_z] at hc
          rcases List.mem_append.mp hc with hc | hc
          · simp at hc; omega
          · exact hmem c hc) hbz
        have b5 : F_read [.str ("-" ++ x)] = some (.ex 6) := refuse (by rw [app_len]; unfold sz; omega) (fun c hc => by
          rw [tl_append, tl_da] at hc
          rcases List.mem_append.mp hc with hc | hc
          · simp at hc; omega
          · exact hmem c hc) (not_begin (r := tl x) (c := 45) (by rw [tl_append, tl_da]; rfl) (by omega))
        have b6 : F_read [.str ""] = some (.ex 6) := refuse (by decide +kernel) (fun c hc => by rw [tl_e] at hc; cases hc) (not_empty tl_e)
        have b3 : F_read [.str (repl1 x " " "  ")] = some (.ex 6) := by
          obtain ⟨a, b, r, ew, er⟩ := repl_I hlg
          have hm : ∀ z ∈ a :: b :: r, 0 ≤ z ∧ z ≤ 99 := by rw [← ew]; exact Lg.w99 hlg
          rw [hx] at er
          rw [er] at hbb ⊢
          have hr : r.length ≤ 4 := by rw [ew] at h6; simp at h6; omega
          refine read_join ?_ (by simp; omega) ?_ hbb
          · intro p hp
            rcases List.mem_cons.mp hp with rfl | hp
            · rw [len_tl, tl_joinT, tl_sp]
              have := joinL_len (S := [32]) (k := 2) (ps := (nS a :: "" :: nS b :: r.map nS).map tl) fun p hp => by
                simp only [List.map_cons, List.mem_cons, List.map_map, List.mem_map] at hp
                rcases hp with rfl | rfl | rfl | ⟨i, hi, rfl⟩
                · rw [← len_tl]; exact (nS_len (hm a (by simp)).1 (hm a (by simp)).2).2
                · rw [tl_e]; simp
                · rw [← len_tl]; exact (nS_len (hm b (by simp)).1 (hm b (by simp)).2).2
                · show (tl (nS i)).length ≤ 2
                  rw [← len_tl]; exact (nS_len (hm i (by simp [hi])).1 (hm i (by simp [hi])).2).2
              simp at this ⊢
              omega
            · exact p40 hlg p (List.mem_cons_of_mem _ hp)
          · intro p hp c hc
            rcases List.mem_cons.mp hp with rfl | hp
            · rw [tl_joinT] at hc
              rcases mem_joinL hc with hc | ⟨p, hp, hc⟩
              · rw [tl_sp] at hc; simp at hc; omega
              · simp only [List.map_cons, List.mem_cons, List.map_map, List.mem_map] at hp
                rcases hp with rfl | rfl | rfl | ⟨i, hi, rfl⟩
                · have := nS_dig (hm a (by simp)).1 c hc; omega
                · rw [tl_e] at hc; cases hc
                · have := nS_dig (hm b (by simp)).1 c hc; omega
                · have := nS_dig (hm i (by simp [hi])).1 c hc; omega
            · exact p128 hlg p (List.mem_cons_of_mem _ hp) c hc
        have f0 : addD (.str x) (.str ",") = some (.str (x ++ ",")) := q_addS (by unfold sz; omega)
        have f1 : addD (.str x) (.str " ") = some (.str (x ++ " ")) := q_addS (by unfold sz; omega)
        have f2 : addD (.str ", ") (.str x) = some (.str (", " ++ x)) := q_addS (by unfold sz; omega)
        have f4 : addD (.str "0") (.str x) = some (.str ("0" ++ x)) := q_addS (by unfold sz; omega)
        have f5 : addD (.str "-") (.str x) = some (.str ("-" ++ x)) := q_addS (by unfold sz; omega)
        have f3 : xRepl (xVar 4) " " "  " [.dat (lI ns), .dat (.int k), .dat (.int M), .dat (lg w l), .dat (.str x), .dat (.list ((partsS w l).map .str)), .dat (.list ((partsS w l).map .str)), s7, s8, s9, s10, s11] = some (.ok (.str (repl1 x " " "  "))) := by
          unfold xRepl
          rw [show xVar 4 [.dat (lI ns), .dat (.int k), .dat (.int M), .dat (lg w l), .dat (.str x), .dat (.list ((partsS w l).map .str)), .dat (.list ((partsS w l).map .str)), s7, s8, s9, s10, s11] = some (.ok (.str x)) from rfl, bnd_ok]
          exact if_pos (by omega)
        generalize x ++ "," = X0 at *
        generalize x ++ " " = X1 at *
        generalize ", " ++ x = X2 at *
        generalize repl1 x " " "  " = X3 at *
        generalize "0" ++ x = X4 at *
        generalize "-" ++ x = X5 at *
        refine wp_seq (wp_for PyData.str [X0, X1, X2, X3, X4, X5, ""] (fun _ δ => ∃ s7 s8 s9 s10 s11, δ = [.dat (lI ns), .dat (.int k), .dat (.int M), .dat (lg w l), .dat (.str x), .dat (.list ((partsS w l).map .str)), .dat (.list ((partsS w l).map .str)), s7, s8, s9, s10, s11]) ?_ ⟨_, _, _, _, _, rfl⟩ ?_ ?_)
        · exact eIter (eOfL (q_xLst _ _ _ (eCons (e2 (x := .str x) rfl rfl f0) (eCons (e2 (x := .str x) rfl rfl f1) (eCons (e2 (y := .str x) rfl rfl f2) (eCons f3 (eCons (e2 (y := .str x) rfl rfl f4) (eCons (e2 (y := .str x) rfl rfl f5) (eCons rfl rfl))))))) (by simp [sz]))) rfl
        · rintro p' bad q' δ e ⟨s7, s8, s9, s10, s11, rfl⟩
          have hm : bad ∈ [X0, X1, X2, X3, X4, X5, ""] := by rw [e]; simp
          have hbad : F_read [.str bad] = some (.ex 6) := by
            simp only [List.mem_cons, List.not_mem_nil, or_false] at hm
            rcases hm with rfl | rfl | rfl | rfl | rfl | rfl | rfl <;> assumption
          clear hm e
          refine ⟨_, rfl, ?_⟩
          exact wp_ifF (eV (e2 (x := .str "BadText") (y := .str "BadText") (eToldX (c := 6) (x := "BadText") (eCallX (xs := [.str bad]) (by simp) hbad) rfl) rfl (q_neD_self rfl (n := 0) (shp_str cT) (by omega)))) (wp_next ⟨_, _, _, _, _, rfl⟩)
        · rintro δ ⟨s7, s8, s9, s10, s11, rfl⟩
          have hn : F_is_league [.none] = some (.ok (.bool false)) := nl_kind rfl
          refine wp_seq (wp_ifF (eV (e2 (x := .str "BadLeague") (y := .str "BadLeague") (eToldX (c := 1) (x := "BadLeague") (eCallX (xs := [.tuple [tyI w, .none]]) (by simp [lg]) (wr_none hlg)) rfl) rfl (q_neD_self rfl (n := 0) (shp_str cB) (by omega)))) (wp_next ?_))
          exact wp_ifF (eV (e2 (x := .str "BadLeague") (y := .str "BadLeague") (eToldX (c := 1) (x := "BadLeague") (eCallX (xs := [.none]) (by simp) (written_X hn)) rfl) rfl (q_neD_self rfl (n := 0) (shp_str cB) (by omega)))) (wp_next ⟨_, _, _, _, _, _, _, _, _, _, _, rfl⟩)
  · rintro δ ⟨s1, s2, s3, s4, s5, s6, s7, s8, s9, s10, s11, rfl⟩
    exact wp_ret rfl rfl
end K61
set_option Elab.async false
set_option linter.all false
set_option maxRecDepth 100000
set_option maxHeartbeats 0
set_option autoImplicit false
namespace K61
open PySem L2 DL
def names0 : List PySem.Str := ["LeagueError", "BadLeague", "BadSide", "BadPlace", "BadMatch", "BadChain", "BadRules", "BadText", "TooMany", "Nothing", "MOST_SIDES", "MOST_WINS", "MOST_LEFT", "is_count", "is_left", "is_league", "need_league", "FIGURES", "need", "league_text", "written", "number_in", "left_in", "read"]
def names1 : List PySem.Str := ["_law_cell", "_law_drawn", "_law_word", "_law_told", "_law_league"]
abbrev names : List PySem.Str := names0 ++ names1
abbrev R : PySem.W.OpenRow := PySem.W.OpenLaw.row PySem.Challenge.rw_leaguechains_k61_texts_in_parts
abbrev hk : PySem.W.Hook := hookY 4 fa fn ["law"] exB
def ob (s : PySem.W.SharedT) : He.Al × Bool := obsY 4 fa fn ["law"] exB (HandSHeadRun.getT s)
theorem ob_eq (s : PySem.W.SharedT) : ob s = hk.obs s.abs := obsY_eq (HandSHeadRun.getT_eq s)
theorem run (w : World) : HandSHeadRun.RunEq R (PySem.W.view R.prog [33]) hk ob 20000 names w := by
  intro os
  kernel_rfl
theorem facts {P : Program} {w : World} {K : PySem.W.Frag} {h : Heap} {mg : Str → Option Value} {f : Addr} (KX : K.In h) (G : h.Ns mainGlobals mg) (hfa : mg ("law" : Str) = some (.ref f)) (Y : SaysY fa fn ["law"] exB h K) :
    ∃ fd : FuncData, (∀ (s : Shared) (v : Value), BindsTo s fd ⟨[v], []⟩ [("script", v)]) ∧ ∀ base : Heap, FnOk P w K mg base CX0 8 f fd ["script"] (fun vs H Q _ => spD K (tabY K ["law"]) (cmX K cls) 1 F_law vs H Q E0) := by
  have c := Y.t
  obtain ⟨hB, hm⟩ := He.ba (show (clsB K cls cls && _) = true from Y.more)
  obtain ⟨hbm, hnd⟩ := He.ba hm
  have hnd := of_decide_eq_true hnd
  have TO := to_ok (P := P) (w := w) (T := (tabY K ["law"])) KX G c hB wd_val
  have ok_is_count := ok_is_count (P := P) (w := w) (T := (tabY K ["law"])) KX G c
  have ok_is_left := ok_is_left (P := P) (w := w) (T := (tabY K ["law"])) KX G c ok_is_count
  have ok_is_league := ok_is_league (P := P) (w := w) (T := (tabY K ["law"])) KX G c ok_is_count ok_is_left
  have ok_need_league := ok_need_league (P := P) (w := w) (T := (tabY K ["law"])) KX G c ok_is_league
  have ok_need := ok_need (P := P) (w := w) (T := (tabY K ["law"])) KX G c
  have ok_league_text := ok_league_text (P := P) (w := w) (T := (tabY K ["law"])) KX G c
  have ok_written := ok_written (P := P) (w := w) (T := (tabY K ["law"])) KX G c ok_league_text ok_need_league
  have ok_number_in := ok_number_in (P := P) (w := w) (T := (tabY K ["law"])) KX G c ok_need
  have ok_left_in := ok_left_in (P := P) (w := w) (T := (tabY K ["law"])) KX G c ok_number_in
  have ok_read := ok_read (P := P) (w := w) (T := (tabY K ["law"])) KX G c ok_is_league ok_league_text ok_left_in ok_need ok_number_in
  have ok__law_cell := ok__law_cell (P := P) (w := w) (T := (tabY K ["law"])) KX G c
  have ok__law_drawn := ok__law_drawn (P := P) (w := w) (T := (tabY K ["law"])) KX G c
  have ok__law_league := ok__law_league (P := P) (w := w) (T := (tabY K ["law"])) KX G c ok__law_drawn
  have ok_law := ok_law (P := P) (w := w) (T := (tabY K ["law"])) KX G c ok__law_cell ok__law_drawn ok__law_league ok_read ok_written TO (lamF_of KX G hbm Y.hd Y.out hnd (x := "law") (by simp))
  obtain ⟨f', fd, h1, h2, h3, h5⟩ := ok_law
  have e := hfa.symm.trans h1
  cases e
  exact ⟨fd, fun s v => h3 s [v] rfl, fun base => fnok0 (h5 base)⟩
end K61
open PySem PySem.W PySem.Calls PyProof.Rows
theorem PySem.Challenge.cw_leaguechains_k61_texts_in_parts_holds : PySem.Challenge.rw_leaguechains_k61_texts_in_parts.Holds := by
  w_on; o_law
  refine HandSHeadRun.head_any (r := OpenLaw.row PySem.Challenge.rw_leaguechains_k61_texts_in_parts) (q := view (OpenLaw.row PySem.Challenge.rw_leaguechains_k61_texts_in_parts).prog [33]) (H := K61.hk) (ob := K61.ob) (M := 20000) (loose := K61.names) (d := HandSHeadRun.topDef (OpenLaw.row PySem.Challenge.rw_leaguechains_k61_texts_in_parts).prog 33) (kwd := []) K61.ob_eq
    (by kernel_rfl) (fun s => by kernel_rfl) K61.run (by kernel_rfl) (by kernel_rfl) (by kernel_rfl) (by rfl) (by first | assumption | decide +kernel) (by decide +kernel) ⟨rfl, rfl, rfl, rfl, rfl, by decide +kernel⟩ ?hw ?hc
  case hw => w_witness2
  case hc =>
    refine LamX.walk_ofTsE (l := PySem.Challenge.rw_leaguechains_k61_texts_in_parts) (n := 63) (k := 8) (x := "script") (CX := fun _ => L2.CX0) rfl (by decide) (by kernel_rfl) ⟨rfl, by decide, by decide⟩ ?F (fun _ _ _ _ _ z => z)
    intro w mg fa h Y G hmg0
    obtain ⟨K, KX, Y⟩ := Y
    have hmg : mg ("law" : PySem.Str) = some (.ref fa) := by
      have e : (HandSHeadRun.topDef (OpenLaw.row PySem.Challenge.rw_leaguechains_k61_texts_in_parts).prog 33).name = ("law" : PySem.Str) := by kernel_rfl
      rw [← e]
      exact hmg0
    obtain ⟨fd, hb, hF⟩ := K61.facts (P := (PySem.Challenge.rw_leaguechains_k61_texts_in_parts).prog) (w := w) KX G hmg Y
    refine ⟨K, KX, fd, (["law"] : List PySem.Str).map (fun x => He.cT K (x, none)), fun vs H Q _ => DL.spD K (DL.tabY K ["law"]) (DL.cmX K K61.cls) 1 K61.F_law vs H Q L2.E0, fun p hp => ?_, fun p hp => ?_, fun p hp => ?_, hb, fun H a ns hl _ hT hS => DL.law_saysT hT hS (K61.law_true ns hl), fun base _ _ _ => hF base⟩
    · obtain ⟨x, hx, rfl⟩ := List.mem_map.mp hp; exact Y.empty x hx
    · obtain ⟨x, hx, rfl⟩ := List.mem_map.mp hp; exact Y.out x hx
    · obtain ⟨x, hx, rfl⟩ := List.mem_map.mp hp; exact PySem.W.codeHd_of_K KX (Y.hd x hx)
