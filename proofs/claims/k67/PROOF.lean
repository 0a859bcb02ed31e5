import PyProof.Rows.All
import Wide.All
import OpenK.AllK
import Wide.FinOn
import HandS.ForMost
import HandS.ForExc
import HandS.IsInst
import HandS.Zip
import HandS.TupAny
import HandS.Deep
import HandS.DictComp
import HandS.Evl
import KE.DataCmp
import KE.SortData
import HandS.ExcSuper
import HandS.ExcIs
import HandS.TryMany
import HandS.Style
import HandS.Lambda
import HandS.Conv
import HandS.TupSets
import KE.GoesMore
import HandS.Star
import HandS.Text
import HandS.ExcInit
import HandS.ExcField
import KE.KExcIs
import KE.KExcSuper
import KE.KDflt
import KE.KExcHand
import HandS.EndTab
import HandS.ForList
import PySem.Challenge.RW_sharebags_k67_texts_refused
set_option Elab.async false
set_option linter.all false
set_option maxRecDepth 100000
set_option maxHeartbeats 1000000
/-! generic rules over data at any depth: <, sorted -/
namespace Bg
open PySem PySem.Spec PyProof.Rows L2

section
variable {X : Cx}
def rLtD (K : PySem.W.Frag) : R2 := fun x y H Q => ∃ d e, Dp K H x d ∧ Dp K H y e ∧ PySem.W.alike d e = true ∧ d ≠ .none ∧ d.depth ≤ 64 ∧ Q (.bl (PySem.W.dataLt d e)) H
theorem op_ltD (hu : X.A.units + 64 < cLine) : OpR X (compareOp .Lt) (rLtD X.K) := by
  intro pins s σ H x y v u Q I rx ry h
  obtain ⟨d, e, hd, he, al, nn, dp, q⟩ := h
  obtain ⟨as, r1⟩ := Dp.reads I d x v hd rx
  obtain ⟨bs, r2⟩ := Dp.reads I e y u he ry
  refine PySem.W.lt_data r1 r2 al nn ?_ ⟨.bl _, H, I, rfl, q⟩
  have : min d.depth e.depth ≤ d.depth := Nat.min_le_left _ _
  omega

/-- values beside what they stand for -/
theorem each_vals : ∀ {zs : List (V × PyData)} {us : List Value}, Vals (zs.map (·.1)) us → PySem.W.EachIs (fun (u : Value) (z : V × PyData) => RelV z.1 u) us zs
  | [], _, .nil => .nil
  | _ :: _, _, .cons r t => .cons r (each_vals t)
theorem vals_each : ∀ {zs : List (V × PyData)} {us : List Value}, PySem.W.EachIs (fun (u : Value) (z : V × PyData) => RelV z.1 u) us zs → Vals (zs.map (·.1)) us
  | [], _, .nil => .nil
  | _ :: _, _, .cons r t => .cons r (vals_each t)
theorem each_and {α β : Type} {R : α → β → Prop} {P : β → Prop} : ∀ {as : List α} {bs : List β}, PySem.W.EachIs R as bs → (∀ b ∈ bs, P b) → PySem.W.EachIs (fun a b => R a b ∧ P b) as bs
  | _, _, .nil, _ => .nil
  | _, _, .cons r t, h => .cons ⟨r, h _ List.mem_cons_self⟩ (each_and t fun b hb => h b (List.mem_cons_of_mem _ hb))


end
section
variable {prog : Program} {w : World} {A : Around} {E : Value → Shared → Prop} {s : Shared}
/-- sorted of a list or a tuple, by the library's sort: the items are collected (the heap h1 keeps all), a new list of them is laid at h1's end and sorted -/
theorem sorted_seq {β : Type} {vs : List Value} {bs : List β} {enc : β → PyData} {R : Value → β → Prop} {l : Addr} {T : String} {o : Obj} {n : Nat} {Q : Value → Shared → Prop}
    (hT : T = "list" ∨ T = "tuple") (ho : s.heap.get? l = some o) (hc : o.cls = .type T) (hd : o.data = .seq vs.toArray n)
    (e : PySem.W.EachIs R vs bs) (er : PySem.W.EachIs (fun v b => ∃ as, Reads s.heap v (enc b) as) vs bs) (hal : PySem.W.AllAlike (bs.map enc)) (hk : PySem.W.Sortable (bs.map enc)) (hL : bs.length ≤ sizeLine)
    (hu : ∀ b, b ∈ bs → A.units + 3 + (enc b).depth < cLine)
    (h : ∀ (out : List Value) (h1 : Heap), out.length = bs.length → PySem.W.EachIs R out (bs.mergeSort (PySem.W.dataLe false enc)) → (∀ b o, s.heap.get? b = some o → h1.get? b = some o) →
      Q (.ref h1.objs.size) { s with heap := sortedHeap (h1.push (seqObj "list" vs.toArray 0)) h1.objs.size vs out.toArray }) :
    wpAny (model prog w) A (call (.builtin "sorted") [.ref l]) Q E s := by
  have hL' : vs.length ≤ sizeLine := by rw [e.length]; exact hL
  refine call_function_entry_kw kind_sorted plain_sorted entry_sorted (args_sorted1 _) ?_
  unfold Builtin.«sorted»
  refine wpAny_bind (m := checkCount "sorted" 1 1 _) (wpAny_pure ?_)
  refine wpAny_bind (wpAny_collect_seq l hT ho hc hd (fun h1 k1 => ?_) (by simpa using hL'))
  refine wpAny_bind (wpAny_newList ?_ (by simpa using hL'))
  show wpAny _ _ _ _ _ { s with heap := h1.push (seqObj "list" vs.toArray 0) }
  have hat : (h1.push (seqObj "list" vs.toArray 0)).get? h1.objs.size = some (seqObj "list" vs.toArray 0) := Heap.get?_push_size _ rfl
  refine wpAny_bind (wpAny_holding (wpAny_call_entry_kw slot_list_sort ⟨_, hat, rfl⟩ entry_list_sort ?body (PyProof.Rows.args_list_sort _)))
  have kk : ∀ b o, s.heap.get? b = some o → (PySem.W.sortingHeap (h1.push (seqObj "list" vs.toArray 0)) h1.objs.size vs).get? b = some o := fun b o e1 =>
    PySem.W.sortingHeap_old (Nat.ne_of_lt (Heap.lt_size (k1 b o e1))) (Heap.get?_push_of_some _ (k1 b o e1))
  have er' : PySem.W.EachIs (fun v b => ∃ as, Reads (PySem.W.sortingHeap (h1.push (seqObj "list" vs.toArray 0)) h1.objs.size vs) v (enc b) as) vs bs := er.mono fun _ _ ⟨as, r⟩ => ⟨as, PyProof.Rows.Reads.keeps kk r⟩
  refine wpAny_mono (PySem.W.list_sort_vals (P := fun f s' => f = .done (.ret .none) ∧ Q (.ref h1.objs.size) s') (s := { s with heap := h1.push (seqObj "list" vs.toArray 0) }) hat
    (PySem.W.SortsAt.data (s := { s with heap := PySem.W.sortingHeap (h1.push (seqObj "list" vs.toArray 0)) h1.objs.size vs }) (PySem.W.each_map (R := fun v d => ∃ as, Reads (PySem.W.sortingHeap (h1.push (seqObj "list" vs.toArray 0)) h1.objs.size vs) v d as) enc er') hal hk (PySem.W.bound_map fun b hb => ?_)) hL'
    ⟨rfl, h _ h1 (by rw [PySem.W.sortVals_length false rfl]; exact e.length) (PySem.W.sortVals_data false e er' hal) k1⟩) (fun f s' hf => ?_) fun _ _ z => z
  · have := hu b hb
    show A.in1.in1.units + _ < _
    have : A.in1.in1.units = A.units + 2 := rfl
    omega
  · obtain ⟨rfl, hq⟩ := hf
    exact ⟨_, rfl, wpAny_pure ⟨_, rfl, hq⟩⟩
end
section
variable {X : Cx}
/-- sorted(xs), xs a list or a tuple of alike data: the one stable sorted list -/
def rSortedD (K : PySem.W.Frag) : List V → Hp → VK → Prop := fun vs H Q => ∃ (a : Addr) (zs : List (V × PyData)), vs = [.ref a] ∧ (SqL K H a (zs.map (·.1)) ∨ SqT K H a (zs.map (·.1))) ∧ (∀ z ∈ zs, Dp K H z.1 z.2) ∧
  PySem.W.AllAlike (zs.map (·.2)) ∧ PySem.W.Sortable (zs.map (·.2)) ∧ (∀ z ∈ zs, z.2.depth ≤ 50) ∧ ∀ p, H p = none → Q (.ref p) (upd H p (.lst ((zs.mergeSort (PySem.W.dataLe false (·.2))).map (·.1))))
theorem cr_sortedD (hu : X.A.units + 64 < cLine) : CallR X (.builtin "sorted") (rSortedD X.K) := by
  intro pins s σ H vs us Q I r h
  obtain ⟨a, zs, rfl, hs, hd, hal, hk, hdp, q⟩ := h
  rw [Vals.ref1 r]
  have main : ∀ (its : List Value) (T : String) (o : Obj) (n : Nat), (T = "list" ∨ T = "tuple") → s.heap.get? a = some o → o.cls = .type T → o.data = .seq its.toArray n → Vals (zs.map (·.1)) its → (zs.map (·.1)).length ≤ sizeLine →
      wpAny (model X.prog X.w) X.A (call (.builtin "sorted") [.ref a]) (EP X pins σ Q) X.xe s := by
    intro its T o n hT ho hc hdd rv hz
    have e := each_vals rv
    have er : PySem.W.EachIs (fun v (b : V × PyData) => ∃ as, Reads s.heap v b.2 as) its zs := (each_and e hd).mono fun u z ⟨r1, r2⟩ => Dp.reads I z.2 z.1 u r2 r1
    refine sorted_seq (enc := fun z : V × PyData => z.2) hT ho hc hdd e er hal hk (by simpa using hz) (fun b hb => by have := hdp b hb; omega) fun out h1 hl ho' k1 => ?_
    have hat : (h1.push (seqObj "list" its.toArray 0)).get? h1.objs.size = some (seqObj "list" its.toArray 0) := Heap.get?_push_size _ rfl
    obtain ⟨ep, he'⟩ := PyProof.Rows.sortedHeap_at (vs := its) (out := out.toArray) hat
    have I1 : Inv X pins σ H { s with heap := h1 } := I.kept (t' := s.toks) k1
    have rv' := vals_each ho'
    have hlen : ((zs.mergeSort (PySem.W.dataLe false fun z : V × PyData => z.2)).map (·.1)).length ≤ sizeLine := by rw [List.length_map, List.length_mergeSort]; simpa using hz
    exact ⟨.ref _, upd H h1.objs.size (.lst _), I1.laid (t' := s.toks) (fun b u hb => (PyProof.Rows.sortedHeap_old (Nat.ne_of_lt (Heap.lt_size hb)) (Heap.lt_size (Heap.get?_push_of_some _ hb))).trans (Heap.get?_push_of_some _ hb)) (Nat.le_refl _) ⟨hlen, out, ep, rv', he'⟩, rfl, q _ (I1.hok.fresh (Nat.le_refl _))⟩
  rcases hs with hs | hs
  · obtain ⟨its, rv, hl, hz⟩ := I.list hs
    obtain ⟨o, n, ho, hc, _, hdd⟩ := id hl
    exact main its "list" o n (.inl rfl) ho hc hdd rv hz
  · obtain ⟨its, rv, ⟨o, ho, hc, n, hdd⟩, hz⟩ := I.tuple hs
    exact main its "tuple" o n (.inr rfl) ho hc hdd rv hz
end
end Bg

set_option Elab.async false
set_option linter.all false
set_option maxRecDepth 100000
set_option maxHeartbeats 1000000
/-! data at a value: what keeps it; its type; raise X() -/
namespace Bg
open PySem PySem.Spec PyProof.Rows L2
open Evl (Ex)

/-! ### Dp stands where all that was tracked stands -/
theorem dp_ex {K : PySem.W.Frag} {H H' : Hp} (e : Ex H H') : ∀ {v : V} {d : PyData}, Dp K H v d → Dp K H' v d
  | _, _, .non => .non
  | _, _, .bl b => .bl b
  | _, _, .int i => .int i
  | _, _, .str x => .str x
  | _, _, .lst h ha => .lst (Evl.ex_l e h) (all ha)
  | _, _, .tup h ha => .tup (Evl.ex_t e h) (all ha)
where all : ∀ {vs : List V} {ds : List PyData}, DpAll K H vs ds → DpAll K H' vs ds
  | _, _, .nil => .nil
  | _, _, .cons h t => .cons (dp_ex e h) (all t)
theorem dpa_ex {K : PySem.W.Frag} {H H' : Hp} (e : Ex H H') {vs : List V} {ds : List PyData} (h : DpAll K H vs ds) : DpAll K H' vs ds := dp_ex.all e h

/-! ### what never changes: tuples, what is locked -/
structure Kt (H H' : Hp) : Prop where
  tup : ∀ a xs, H a = some (.tup xs) → H' a = some (.tup xs)
  frz : ∀ a o u, H a = some (.frz o u) → H' a = some (.frz o u)
theorem Kt.refl (H : Hp) : Kt H H := ⟨fun _ _ h => h, fun _ _ _ h => h⟩
theorem Kt.trans {H H1 H2 : Hp} (a : Kt H H1) (b : Kt H1 H2) : Kt H H2 := ⟨fun c xs h => b.tup c xs (a.tup c xs h), fun c o u h => b.frz c o u (a.frz c o u h)⟩
theorem Kt.of {H H' : Hp} (e : Ex H H') : Kt H H' := ⟨fun a _ h => e a _ h, fun a _ _ h => e a _ h⟩
theorem Kt.mut {H : Hp} {l : Addr} {o : HO} (m : Mut (H l)) : Kt H (upd H l o) :=
  ⟨fun a xs h => by rw [upd_ne (fun z => by rw [z] at h; rw [h] at m; exact m)]; exact h, fun a ob u h => by rw [upd_ne (fun z => by rw [z] at h; rw [h] at m; exact m)]; exact h⟩
theorem Kt.lst {H : Hp} {l : Addr} {xs : List V} {o : HO} (h : H l = some (.lst xs)) : Kt H (upd H l o) := Kt.mut (by rw [h]; trivial)
theorem Kt.new {H : Hp} {p : Addr} {o : HO} (h : H p = none) : Kt H (upd H p o) := Kt.of (Ex.new h)
theorem Kt.sqt {K : PySem.W.Frag} {H H' : Hp} {a : Addr} {xs : List V} (k : Kt H H') (h : SqT K H a xs) : SqT K H' a xs := by
  rcases h with (h | ⟨o, h⟩) | h
  · exact .inl (.inl (k.tup _ _ h))
  · exact .inl (.inr ⟨o, k.frz _ _ _ h⟩)
  · exact .inr h
mutual
/-- data without lists and dicts -/
def isT : PyData → Bool
  | .none => true
  | .bool _ => true
  | .int _ => true
  | .str _ => true
  | .tuple xs => isTs xs
  | .list _ => false
  | .dict _ => false
def isTs : List PyData → Bool
  | [] => true
  | x :: xs => isT x && isTs xs
end
theorem dp_kt {K : PySem.W.Frag} {H H' : Hp} (k : Kt H H') : ∀ {v : V} {d : PyData}, isT d = true → Dp K H v d → Dp K H' v d
  | _, _, _, .non => .non
  | _, _, _, .bl b => .bl b
  | _, _, _, .int i => .int i
  | _, _, _, .str x => .str x
  | _, _, t, .lst h ha => by simp [isT] at t
  | _, _, t, .tup h ha => .tup (k.sqt h) (all (by simpa [isT] using t) ha)
where all : ∀ {vs : List V} {ds : List PyData}, isTs ds = true → DpAll K H vs ds → DpAll K H' vs ds
  | _, _, _, .nil => .nil
  | _, _, t, .cons h r => .cons (dp_kt k (by simp [isTs] at t; exact t.1) h) (all (by simp [isTs] at t; exact t.2) r)

/-! ### the type of data -/
def tyN : PyData → String
  | .none => "NoneType"
  | .bool _ => "bool"
  | .int _ => "int"
  | .str _ => "str"
  | .list _ => "list"
  | .tuple _ => "tuple"
  | .dict _ => "dict"
theorem dp_ty {K : PySem.W.Frag} {H : Hp} {v : V} {d : PyData} (h : Dp K H v d) : TyX K H v (.type (tyN d)) := by
  cases h with
  | non => exact .base .non
  | bl b => exact .base (.bl b)
  | int i => exact .base (.int i)
  | str x => exact .base (.str x)
  | lst h _ =>
    rcases h with (h | ⟨o, h⟩) | ⟨o, _, _, h, hc, _⟩
    · exact .base (.lst h)
    · exact .base (.frz h)
    · exact .kList h hc
  | tup h _ =>
    rcases h with (h | ⟨o, h⟩) | ⟨o, _, _, h, hc, _⟩
    · exact .base (.tup h)
    · exact .fTuple h
    · exact .kTuple h hc
def dInt : PyData → Bool
  | .bool _ => true
  | .int _ => true
  | _ => false
theorem kit_dInt (K : PySem.W.Frag) : ∀ (d : PyData), (∀ kvs, d ≠ .dict kvs) → PySem.W.kitOne K (.type (tyN d)) (.type "int") = some (dInt d)
  | .none, _ => kit_ty (show kitB "NoneType" "int" = some false from by decide +kernel)
  | .bool _, _ => kit_ty (show kitB "bool" "int" = some true from by decide +kernel)
  | .int _, _ => kit_ty (show kitB "int" "int" = some true from by decide +kernel)
  | .str _, _ => kit_ty (show kitB "str" "int" = some false from by decide +kernel)
  | .list _, _ => kit_ty (show kitB "list" "int" = some false from by decide +kernel)
  | .tuple _, _ => kit_ty (show kitB "tuple" "int" = some false from by decide +kernel)
  | .dict kvs, h => absurd rfl (h kvs)
def dBool : PyData → Bool
  | .bool _ => true
  | _ => false
theorem kit_dBool (K : PySem.W.Frag) : ∀ (d : PyData), (∀ kvs, d ≠ .dict kvs) → PySem.W.kitOne K (.type (tyN d)) (.type "bool") = some (dBool d)
  | .none, _ => kit_ty (show kitB "NoneType" "bool" = some false from by decide +kernel)
  | .bool _, _ => kit_ty (show kitB "bool" "bool" = some true from by decide +kernel)
  | .int _, _ => kit_ty (show kitB "int" "bool" = some false from by decide +kernel)
  | .str _, _ => kit_ty (show kitB "str" "bool" = some false from by decide +kernel)
  | .list _, _ => kit_ty (show kitB "list" "bool" = some false from by decide +kernel)
  | .tuple _, _ => kit_ty (show kitB "tuple" "bool" = some false from by decide +kernel)
  | .dict kvs, h => absurd rfl (h kvs)
def dTup : PyData → Bool
  | .tuple _ => true
  | _ => false
theorem kit_dTup (K : PySem.W.Frag) : ∀ (d : PyData), (∀ kvs, d ≠ .dict kvs) → PySem.W.kitOne K (.type (tyN d)) (.type "tuple") = some (dTup d)
  | .none, _ => kit_ty (show kitB "NoneType" "tuple" = some false from by decide +kernel)
  | .bool _, _ => kit_ty (show kitB "bool" "tuple" = some false from by decide +kernel)
  | .int _, _ => kit_ty (show kitB "int" "tuple" = some false from by decide +kernel)
  | .str _, _ => kit_ty (show kitB "str" "tuple" = some false from by decide +kernel)
  | .list _, _ => kit_ty (show kitB "list" "tuple" = some false from by decide +kernel)
  | .tuple _, _ => kit_ty (show kitB "tuple" "tuple" = some true from by decide +kernel)
  | .dict kvs, h => absurd rfl (h kvs)
def dStr : PyData → Bool
  | .str _ => true
  | _ => false
theorem kit_dStr (K : PySem.W.Frag) : ∀ (d : PyData), (∀ kvs, d ≠ .dict kvs) → PySem.W.kitOne K (.type (tyN d)) (.type "str") = some (dStr d)
  | .none, _ => kit_ty (show kitB "NoneType" "str" = some false from by decide +kernel)
  | .bool _, _ => kit_ty (show kitB "bool" "str" = some false from by decide +kernel)
  | .int _, _ => kit_ty (show kitB "int" "str" = some false from by decide +kernel)
  | .str _, _ => kit_ty (show kitB "str" "str" = some true from by decide +kernel)
  | .list _, _ => kit_ty (show kitB "list" "str" = some false from by decide +kernel)
  | .tuple _, _ => kit_ty (show kitB "tuple" "str" = some false from by decide +kernel)
  | .dict kvs, h => absurd rfl (h kvs)
theorem dp_nodict {K : PySem.W.Frag} {H : Hp} {v : V} {d : PyData} (h : Dp K H v d) : ∀ kvs, d ≠ .dict kvs := by
  intro kvs e; subst e; cases h

/-! ### raise X(), an own class without an own __init__ -/
section
variable {X : Cx} {C : Addr} {bmB : List Value} {B newId initId : String}
theorem pmk_own0 {x : Str} {p pos : Pos} (F : ExcBaseFacts B newId initId bmB) (q : PySem.W.excIn X.K C bmB newId = true) (gC : X.mg x = some (.ref C)) (kC : PySem.W.keepIn X.K (.ref C) = true) (r : Raises X (.ref C)) (hg : Gl X x)
    (hdb : (x == ("__debug__" : Str)) = false := by decide) : PMk X (.Call (.Name x p) [] [] pos) (fun _ H Q => Q (.ref C) none H) := by
  intro pins s σ H Q I h
  refine wpAny_Call_Name_kw (ld_glob I hg gC ?_ hdb)
  obtain ⟨bm, N, nm, qn, bs, hdct, sn, sub, ab, col, dd, k0, k1, k2, k3, k5, mN, hC, hN, hni, T⟩ := exc_obj I.kIn q
  refine PySem.W.callWith_K0 I.kIn kC (wpAny_call_exc_subT F T hC hN hni (fun h' e hm => ?_) (by show 0 ≤ sizeLine; omega))
  exact mk_of I hm r h (I.hok.gone hm.new)
end
end Bg

set_option Elab.async false
set_option linter.all false
set_option maxRecDepth 100000
set_option maxHeartbeats 1000000
/-! defs by their names; comprehensions over zip and enumerate of tuples -/
namespace Bg
open PySem PySem.Spec PyProof.Rows L2
open Evl (Ex)

/-- a def of the top, by its text -/
structure Fu (K : PySem.W.Frag) (mg : Str → Option Value) (x : Str) (st : Stmt) (ps : List Str) : Prop where
  ex : ∃ f fd, Fun K x x st f fd ∧ mg x = some (.ref f) ∧ Binds K fd ps []
/-- a def of the top that keeps its promise -/
structure Cal (P : Program) (w : World) (K : PySem.W.Frag) (mg : Str → Option Value) (base : Heap) (CX : CXT) (k : Nat) (x : Str) (ps : List Str) (sp : Sp) : Prop where
  ex : ∃ f fd, mg x = some (.ref f) ∧ PySem.W.keepIn K (.ref f) = true ∧ Binds K fd ps [] ∧ FnOk P w K mg base CX k f fd ps sp
section
variable {P : Program} {w : World} {K : PySem.W.Frag} {mg : Str → Option Value} {base : Heap} {CX : CXT} {x : Str} {st : Stmt} {N ps : List Str} {k j : Nat} {sp sp' : Sp}
theorem Fu.ok (F : Fu K mg x st ps) (S : FnScope N ps (defScope st)) (len : ∀ vs H Q E, sp vs H Q E → vs.length = ps.length)
    (hbody : ∀ (f : Addr) (cdv : Value) (A : Around) (outer : List Env) (s : Shared) (H : Hp) (vs : List V) (Q : VK) (E : XK), Room k (A.deeper (envOfC x (defScope st) s.heap.objs.size f cdv)) → sp vs H Q E →
      ∃ t, PSs (cxOf CX0 P w K mg base N x (defScope st) f cdv A outer s H E).nox (defBody st) t ∧ t { nx := fun _ H' => Q .non H', rt := Q } (start N vs) H) :
    Cal P w K mg base CX0 (k + 1) x ps sp := by
  obtain ⟨f, fd, F1, hm, hb⟩ := F.ex
  exact ⟨f, fd, hm, F1.kp, hb, F1.ok S len fun cdv A outer s H vs Q E hr h => hbody f cdv A outer s H vs Q E hr h⟩
theorem Fu.okX (F : Fu K mg x st ps) (S : FnScope N ps (defScope st)) (len : ∀ vs H Q E, sp vs H Q E → vs.length = ps.length)
    (hbody : ∀ (f : Addr) (cdv : Value) (A : Around) (outer : List Env) (s : Shared) (H : Hp) (vs : List V) (Q : VK) (E : XK), Room k (A.deeper (envOfC x (defScope st) s.heap.objs.size f cdv)) → sp vs H Q E →
      ∃ t, PSs (cxOf (L2.CX P w) P w K mg base N x (defScope st) f cdv A outer s H E) (defBody st) t ∧ t { nx := fun _ H' => Q .non H', rt := Q } (start N vs) H) :
    Cal P w K mg base (L2.CX P w) (k + 1) x ps sp := by
  obtain ⟨f, fd, F1, hm, hb⟩ := F.ex
  exact ⟨f, fd, hm, F1.kp, hb, F1.okX S len fun cdv A outer s H vs Q E hr h => hbody f cdv A outer s H vs Q E hr h⟩
theorem Cal.mono (C : Cal P w K mg base CX j x ps sp) (h : j ≤ k) : Cal P w K mg base CX k x ps sp := by
  obtain ⟨f, fd, a, b, c, F⟩ := C.ex
  exact ⟨f, fd, a, b, c, F.mono h⟩
theorem Cal.imp (C : Cal P w K mg base CX k x ps sp) (h : ∀ vs H Q E, sp' vs H Q E → sp vs H Q E) : Cal P w K mg base CX k x ps sp' := by
  obtain ⟨f, fd, a, b, c, F⟩ := C.ex
  exact ⟨f, fd, a, b, c, F.imp h⟩
end
section
variable {X : Cx} {CX : CXT} {k : Nat} {x : Str} {ps : List Str} {sp : Sp} {E : XK} {p pos : Pos} {e : Expr} {es : List Expr} {t : TA}
theorem pe_calC (C : Cal X.prog X.w X.K X.mg X.base CX k x ps sp) (hr : Room k X.A) (hg : Gl X x) (hx : Passes CX X E) (ha : PA X (e :: es) t)
    (hdb : (x == ("__debug__" : Str)) = false := by decide) (he : starEach (e :: es) X.env = (false, eval e X.env) :: starEach es X.env := by rfl) (hpl : (backTo pos (starEach es X.env)).any (·.1) = false := by rfl) :
    PE X (.Call (.Name x p) (e :: es) [] pos) (tCall sp [] E t) := by
  obtain ⟨f, fd, hm, hk, hb, F⟩ := C.ex
  exact pe_call F hr hg hm hk hb .nil hx ha hdb he hpl
theorem pe_calC0 (C : Cal X.prog X.w X.K X.mg X.base CX k x ps sp) (hr : Room k X.A) (hg : Gl X x) (hx : Passes CX X E) (hdb : (x == ("__debug__" : Str)) = false := by decide) : PE X (.Call (.Name x p) [] [] pos) (tCall sp [] E tNil) := by
  obtain ⟨f, fd, hm, hk, hb, F⟩ := C.ex
  exact pe_call0 F hr hg hm hk hb .nil hx hdb
end
theorem hu65 {A : Around} {k : Nat} (hr : Room k A) : A.units + 65 < cLine := by have := hr.un; omega

/-! ### an own error class without an own __init__ -/
structure Er (K : PySem.W.Frag) (mg : Str → Option Value) (x : Str) (C : Addr) : Prop where
  gC : mg x = some (.ref C)
  xC : PySem.W.excIn K C [.type "ValueError", .type "Exception", .type "BaseException", .type "object"] "ValueError.__new__" = true
  kC : PySem.W.keepIn K (.ref C) = true
  bC : PySem.W.subIn K (.ref C) (.type "BaseException") = some true
  tC : PySem.W.typeIn K (.ref C) = some (.type "type")
theorem mk_own0 {X : Cx} {x : Str} {C : Addr} {p pos : Pos} (T : Er X.K X.mg x C) (hg : Gl X x) (hdb : (x == ("__debug__" : Str)) = false := by decide) : PMk X (.Call (.Name x p) [] [] pos) (fun _ H Q => Q (.ref C) none H) :=
  pmk_own0 PySem.F.excBase_ValueError T.xC T.gC T.kC (raises_own T.bC T.tC) hg hdb

/-! ### comprehensions over zip of two tuples -/
theorem lc_zipT {K : PySem.W.Frag} {a b : Addr} {xs ys : List V} {g : TG} {tt : TT} {te : TE} {vs : List Nat} {σ : L2.St} {H1 : Hp} {D : Addr} {Qd : Hp → Prop} (n : Nat) (hn : n = min xs.length ys.length) (Pv : Nat → Hp → Prop) (h0 : Pv 0 (upd H1 D (.lst [])))
    (hl : ∀ i H, i ≤ n → Pv i H → SqT K H a xs ∧ SqT K H b ys)
    (hs : ∀ i x y T H, xs[i]? = some x → ys[i]? = some y → Pv i H → H T = none → g (.ref T) (wipe σ vs) (upd H T (.tup [x, y])) fun σ2 H2 => wipe σ2 vs = wipe σ vs ∧ tt σ2 H2 fun b H3 =>
      if b = true then te σ2 H3 fun y H4 => ∃ acc, H4 D = some (.lst acc) ∧ acc.length < sizeLine ∧ Pv (i + 1) (upd H4 D (.lst (acc ++ [y]))) else Pv (i + 1) H3)
    (hd : ∀ H, Pv n H → Qd H) :
    ∃ W : Nat → Nat → Hp → Prop, (∃ m, W 0 m (upd H1 D (.lst []))) ∧ ∀ i m H, W i m H →
      ((RZ.ItzT K a b).stop i H ∧ Qd H) ∨ ((RZ.ItzT K a b).go i H ∧ ∃ Nx : Hp → Prop, (∀ H', Nx H' → ∃ m', m' < m ∧ W (i + 1) m' H') ∧ ∀ x H', (RZ.ItzT K a b).yld i H x H' → g x (wipe σ vs) H' fun σ2 H2 => wipe σ2 vs = wipe σ vs ∧ tt σ2 H2 fun b H3 =>
        if b = true then te σ2 H3 fun y H4 => ∃ acc, H4 D = some (.lst acc) ∧ acc.length < sizeLine ∧ Nx (upd H4 D (.lst (acc ++ [y]))) else Nx H3) := by
  refine ⟨fun i m H => m = n - i ∧ i ≤ n ∧ Pv i H, ⟨n, by simp, Nat.zero_le _, h0⟩, ?_⟩
  rintro i m H ⟨rfl, hi, p⟩
  obtain ⟨q1, q2⟩ := hl i H hi p
  by_cases hlt : i < n
  · have l1 : i < xs.length := by omega
    have l2 : i < ys.length := by omega
    refine .inr ⟨⟨xs, ys, xs[i], ys[i], q1, q2, by simp [l1], by simp [l2]⟩, Pv (i + 1), fun H' p' => ⟨n - (i + 1), by omega, rfl, hlt, p'⟩, ?_⟩
    rintro v H' ⟨T, x, y, rfl, hT, rfl, hx, hy⟩
    exact hs i x y T H (hx xs q1) (hy ys q2) p hT
  · have e : i = n := by omega
    subst e
    exact .inl ⟨⟨xs, ys, q1, q2, by omega⟩, hd H p⟩

/-! ### enumerate of a tuple -/
section
open Sem (wp)
open AutoSeq1 (wpAny_loadPart')
theorem enumT_meets (a : Addr) (xs : Array Value) (m : Nat) (dd : Option Addr) (sl : Array (Option Value)) :
    Meets (Builtin.«enumerate.__new__» ⟨[.type "enumerate", .ref a], []⟩) (fun _ R s => s.heap.get? a = some { cls := .type "tuple", dict := dd, data := .seq xs m, slots := sl } ∧
      R (.ok (.ret (.ref (s.heap.push { cls := .type "tuple_iterator", data := .fields #[.ref a, .int 0 0] }).objs.size)))
        { s with heap := (s.heap.push { cls := .type "tuple_iterator", data := .fields #[.ref a, .int 0 0] }).push { cls := .type "enumerate", data := .fields #[.none, .bool false, .ref s.heap.objs.size, rawInt 0, .none, .none] } }) := by
  refine .of_wp fun prog w A R s h => ?_
  obtain ⟨hp, g, d, tk, os⟩ := s
  obtain ⟨ha, h⟩ := h
  have hs := sub_enumerate
  have hT : Heap.IsTuple (Shared.heap ⟨hp, g, d, tk, os⟩) a xs := ⟨_, ha, rfl, m, rfl⟩
  wp_walk using wpAny_loadPart' ha
  refine wpAny_stack_any fun st => wpAny_pure ?_
  split
  · rename_i c _ _ _ _ _
    cases hb : (c == Value.type "enumerate") <;> (wp_walk using wpAny_loadPart' ha, wpAny_pyIter_tuple hT) <;> exact ⟨_, rfl, h⟩
  · wp_walk using wpAny_loadPart' ha, wpAny_pyIter_tuple hT
    exact ⟨_, rfl, h⟩
theorem enumT_call {prog : Program} {w : World} {A : Around} {E : Value → Shared → Prop} {s : Shared} {a : Addr} {xs : Array Value} {Q : Value → Shared → Prop} (hT : s.heap.IsTuple a xs)
    (h : ∀ h', IsEnum h' (s.heap.objs.size + 1) s.heap.objs.size 0 .none → h'.IsTupleIter s.heap.objs.size a 0 → (∀ b o, s.heap.get? b = some o → h'.get? b = some o) → Q (.ref (s.heap.objs.size + 1)) { s with heap := h' }) :
    wpAny (model prog w) A (call (.type "enumerate") [.ref a]) Q E s := by
  obtain ⟨⟨c, dd, dt, sl⟩, ha, hc, m, hd⟩ := hT
  simp only at hc hd
  subst hc hd
  refine callType_new F.called_enumerate (by decide) (F.typeCall_enumerate_1 _) (F.newCall_enumerate_1 _) (fun obj => F.args_object_init_2 obj _) F.entry_enumerate_new (enumT_meets a xs m dd sl) ⟨ha, ?_⟩
  have z : (s.heap.push { cls := .type "tuple_iterator", data := .fields #[.ref a, .int 0 0] }).objs.size = s.heap.objs.size + 1 := Heap.size_push ..
  show _ ∧ _
  rw [z]
  have q := Heap.get?_push_size (s.heap.push { cls := .type "tuple_iterator", data := .fields #[.ref a, .int 0 0] }) (o := { cls := .type "enumerate", data := .fields #[.none, .bool false, .ref s.heap.objs.size, rawInt 0, .none, .none] }) rfl
  rw [z] at q
  exact ⟨⟨_, q, rfl⟩, h _ q ⟨_, Heap.get?_push_of_some _ (Heap.get?_push_size _ rfl), rfl, rfl⟩ fun b o x => Heap.get?_push_of_some _ (Heap.get?_push_of_some _ x)⟩
end
def IteT (K : PySem.W.Frag) (a : Addr) : It :=
  ⟨fun i H => ∃ (xs : List V) (x : V), SqT K H a xs ∧ xs[i]? = some x, fun i H v H' => ∃ T x, v = .ref T ∧ H T = none ∧ H' = upd H T (.tup [.int (i : Nat), x]) ∧ ∀ xs, SqT K H a xs → xs[i]? = some x, fun i H => ∃ xs : List V, SqT K H a xs ∧ xs.length = i⟩
theorem turn_enumT {P : Program} {w : World} {K : PySem.W.Frag} {elts : List Expr} {kk : Nat} {tpos : Pos} (a e it : Addr) (hea : a ≠ it) (hea2 : a ≠ e) (hee : e ≠ it) :
    Turn P w K (.Tuple elts kk tpos) (IteT K a) [e, it] e (fun i h => (∃ old, IsEnum h e it ((i : Nat) : Int) old) ∧ h.IsTupleIter it a i) where
  mem := List.mem_cons_self
  obj := by
    rintro i h ⟨⟨old, he⟩, o, ho, hc, hd⟩ b hb
    rcases List.mem_cons.mp hb with z | z
    · exact z ▸ ⟨_, he, fun v q => nomatch q⟩
    · have z' := List.mem_singleton.mp z
      exact z' ▸ ⟨o, ho, fun v q => by rw [hd] at q; cases q⟩
  keep := by
    rintro i h h' ⟨⟨old, he⟩, hi⟩ k
    exact ⟨⟨old, k e (by simp) _ he⟩, hi.at fun o q => k it (by simp) o q⟩
  item := by
    rintro X rfl rfl rfl hc i pins s σ H E I hf ⟨⟨old, he⟩, hit⟩ ⟨xs, x, hq, hx⟩
    obtain ⟨its, rv, p, hz⟩ := I.tuple hq
    obtain ⟨u, hu, ru⟩ := rv.get hx
    have hel : e < s.heap.objs.size := Heap.lt_size he
    have hil : it < s.heap.objs.size := by obtain ⟨_, q, _⟩ := hit; exact Heap.lt_size q
    have hlt : i < its.toArray.size := by
      have := (List.getElem?_eq_some_iff.mp hu).1
      simpa using this
    have D := Draws.tuple (prog := X.prog) (w := X.w) (A := X.A.in1) (I.ok.hd hc) it a hea its.toArray
    refine wpAny_pyNext_enum_itemD D he ⟨hit, p⟩ hlt hee (by simp [hee, hea2.symm]) fun x' h' tk hP ho hst hT hsz hk => ?_
    have ex : x' = u := by
      have h1 : its[i]? = some x' := by simpa using hP
      rw [hu] at h1
      exact (Option.some.inj h1).symm
    subst ex
    refine ⟨_, rfl, wpAny_letOwnedTupleGo_enum (s := { s with heap := h', toks := tk + 1 }) ho fun h'' he' sb => ?_⟩
    have hT2 := (sb.2 _ (Nat.ne_of_gt hel)).trans hT
    have new : ObjOk X.prog X.w (upd H s.heap.objs.size (.tup [.int (i : Nat), x])) h'' s.heap.objs.size (.tup [.int (i : Nat), x]) :=
      ⟨by show 2 ≤ sizeLine; decide, [.int i tk, x'], .cons ⟨_, rfl⟩ (.cons ru .nil), ⟨_, hT2, rfl, _, rfl⟩⟩
    have I1 : Inv X pins σ (upd H s.heap.objs.size (.tup [.int (i : Nat), x])) { s with heap := h'', toks := tk + 1 } :=
      I.turnedNew (ch := [e, it]) (fun b ob hb q => (sb.2 b (fun z => hb (by simp [z]))).trans (hk b ob (fun z => hb (by simp [z])) (fun z => hb (by simp [z])) q)) hf (Nat.le_refl _) new
    refine ⟨.ref s.heap.objs.size, _, I1, rfl, ⟨_, x, rfl, I.hok.fresh (Nat.le_refl _), rfl, fun ys hy => I.tuple_inj hy hq ▸ hx⟩, ⟨⟨x', ?_⟩, hst.1.at fun o q => (sb.2 it hee.symm).trans q⟩, fun b hb => ?_⟩
    · have e1 : ((i + 1 : Nat) : Int) = (i : Int) + 1 := by omega
      rw [e1]; exact he'
    · have hb' : b < s.heap.objs.size := by
        rcases List.mem_cons.mp hb with z | z
        · rw [z]; exact hel
        · rw [List.mem_singleton.mp z]; exact hil
      rw [upd_ne (Nat.ne_of_lt hb')]
      exact (hf b hb).1
  done := by
    rintro X rfl rfl rfl hc i pins s σ H E I hf ⟨⟨old, he⟩, hit⟩ ⟨xs, hq, hx⟩
    obtain ⟨its, rv, p, hz⟩ := I.tuple hq
    obtain ⟨f0, f1, f2, f3, f4, f5⟩ := hf it (by simp)
    have hl : i = its.toArray.size := by
      have := rv.length
      simp; omega
    have D := Draws.tuple (prog := X.prog) (w := X.w) (A := X.A.in1) (I.ok.hd hc) it a hea its.toArray
    exact wpAny_pyNext_enum_endD D he ⟨hl ▸ hit, p⟩ fun h' eb => ⟨rfl, I.turned (t' := s.toks) (fun b o hb q => eb b o hb q) f0 f1 f3 f4 f5⟩
  self := by
    rintro A i s Q E ⟨⟨_, he⟩, _⟩ h
    exact wpAny_pyIter_enum he h
def iEnumT (K : PySem.W.Frag) (ta : TA) : TI := fun σ H R => ta σ H fun vs H1 => ∃ a xs, vs = [.ref a] ∧ SqT K H1 a xs ∧ R (IteT K a) H1
theorem pi_enumT {X : Cx} {e : Expr} {ta : TA} {p pos tpos : Pos} {elts : List Expr} {kk : Nat} (hg : Gl X "enumerate") (hm : X.mg "enumerate" = none) (ha : PA X [e] ta) (hs : starEach [e] X.env = [(false, eval e X.env)] := by rfl) :
    PI X (.Tuple elts kk tpos) (.Call (.Name "enumerate" p) [e] [] pos) (iEnumT X.K ta) := by
  refine ⟨fun pins s σ H R I h => ?_⟩
  refine Call_ (ld_blt I hg hm boot_enumerate (PyProof.Rows.callWith_type1 (thn (ha.run pos pins s σ H _ I h) fun us s1 q0 => ?_) hs rfl))
  obtain ⟨vs, H1, I1, r1, a, xs, rfl, hq, q⟩ := q0
  rw [Vals.ref1 r1]
  obtain ⟨its, rv, p', hz⟩ := I1.tuple hq
  obtain ⟨o, ho, hc, _⟩ := id p'
  have hlt := Heap.lt_size ho
  refine enumT_call (show s1.heap.IsTuple a its.toArray from p') fun h' he hit hk => wpAny_pyIter_enum he ?_
  have I2 : Inv X pins σ H1 { s1 with heap := h' } := I1.kept (t' := s1.toks) hk
  refine ⟨s1.heap.objs.size + 1, [s1.heap.objs.size + 1, s1.heap.objs.size], _, _, H1, rfl, I2, turn_enumT a (s1.heap.objs.size + 1) s1.heap.objs.size (Nat.ne_of_lt hlt) (Nat.ne_of_lt (Nat.lt_succ_of_lt hlt)) (Nat.succ_ne_self _), ⟨⟨.none, he⟩, hit⟩, fun b hb => ?_, q⟩
  have hle : s1.heap.objs.size ≤ b := by
    rcases List.mem_cons.mp hb with z | z
    · rw [z]; exact Nat.le_add_right _ _
    · rw [List.mem_singleton.mp z]; exact Nat.le_refl _
  exact I1.fpOk hle (I1.hok.fresh hle)
/-- over enumerate of a tuple or a list that the body leaves as it is -/
theorem for_enumT {K : PySem.W.Frag} {a : Addr} {xs : List V} {g : TG} {tb : TS} {D : Ends} {σ : L2.St} {H : Hp} (Pv : Nat → L2.St → Hp → Prop) (h0 : Pv 0 σ H) (hl : ∀ i σ H, i ≤ xs.length → Pv i σ H → SqT K H a xs)
    (hs : ∀ i x T σ H, xs[i]? = some x → Pv i σ H → H T = none → g (.ref T) σ (upd H T (.tup [.int (i : Nat), x])) fun σ2 H2 => tb { D with nx := Pv (i + 1), ct := Pv (i + 1), bk := D.nx } σ2 H2) (hd : ∀ σ H, Pv xs.length σ H → D.nx σ H) :
    ∃ W : Nat → Nat → L2.St → Hp → Prop, (∃ m, W 0 m σ H) ∧ ∀ i m σ H, W i m σ H →
      ((IteT K a).stop i H ∧ D.nx σ H) ∨ ((IteT K a).go i H ∧ ∃ N : L2.St → Hp → Prop, (∀ σ' H', N σ' H' → ∃ m', m' < m ∧ W (i + 1) m' σ' H') ∧ ∀ x H', (IteT K a).yld i H x H' → g x σ H' fun σ2 H2 => tb { D with nx := N, ct := N, bk := D.nx } σ2 H2) := by
  refine ⟨fun i m σ H => m = xs.length - i ∧ i ≤ xs.length ∧ Pv i σ H, ⟨xs.length, by simp, Nat.zero_le _, h0⟩, ?_⟩
  rintro i m σ H ⟨rfl, hi, p⟩
  have q := hl i σ H hi p
  by_cases hlt : i < xs.length
  · refine .inr ⟨⟨xs, xs[i], q, by simp [hlt]⟩, Pv (i + 1), fun σ' H' p' => ⟨xs.length - (i + 1), by omega, rfl, hlt, p'⟩, ?_⟩
    rintro v H' ⟨T, x, rfl, hT, rfl, hx⟩
    exact hs i x T σ H (hx xs q) p hT
  · have e : i = xs.length := by omega
    subst e
    exact .inl ⟨⟨xs, q, rfl⟩, hd σ H p⟩
theorem for_enum {K : PySem.W.Frag} {a : Addr} {xs : List V} {g : TG} {tb : TS} {D : Ends} {σ : L2.St} {H : Hp} (Pv : Nat → L2.St → Hp → Prop) (h0 : Pv 0 σ H) (hl : ∀ i σ H, i ≤ xs.length → Pv i σ H → SqL K H a xs)
    (hs : ∀ i x T σ H, xs[i]? = some x → Pv i σ H → H T = none → g (.ref T) σ (upd H T (.tup [.int (i : Nat), x])) fun σ2 H2 => tb { D with nx := Pv (i + 1), ct := Pv (i + 1), bk := D.nx } σ2 H2) (hd : ∀ σ H, Pv xs.length σ H → D.nx σ H) :
    ∃ W : Nat → Nat → L2.St → Hp → Prop, (∃ m, W 0 m σ H) ∧ ∀ i m σ H, W i m σ H →
      ((Ite K a).stop i H ∧ D.nx σ H) ∨ ((Ite K a).go i H ∧ ∃ N : L2.St → Hp → Prop, (∀ σ' H', N σ' H' → ∃ m', m' < m ∧ W (i + 1) m' σ' H') ∧ ∀ x H', (Ite K a).yld i H x H' → g x σ H' fun σ2 H2 => tb { D with nx := N, ct := N, bk := D.nx } σ2 H2) := by
  refine ⟨fun i m σ H => m = xs.length - i ∧ i ≤ xs.length ∧ Pv i σ H, ⟨xs.length, by simp, Nat.zero_le _, h0⟩, ?_⟩
  rintro i m σ H ⟨rfl, hi, p⟩
  have q := hl i σ H hi p
  by_cases hlt : i < xs.length
  · refine .inr ⟨⟨xs, xs[i], q, by simp [hlt]⟩, Pv (i + 1), fun σ' H' p' => ⟨xs.length - (i + 1), by omega, rfl, hlt, p'⟩, ?_⟩
    rintro v H' ⟨T, x, rfl, hT, rfl, hx⟩
    exact hs i x T σ H (hx xs q) p hT
  · have e : i = xs.length := by omega
    subst e
    exact .inl ⟨⟨xs, q, Nat.le_refl _⟩, hd σ H p⟩
end Bg

set_option linter.all false
set_option maxRecDepth 100000
namespace Bg
open PySem

/-! ### bags and families as data -/
def natsD (b : List Nat) : List PyData := b.map fun n : Nat => .int (n : Int)
def bagD (b : List Nat) : PyData := .tuple (natsD b)
def famD (fam : List (List Nat)) : PyData := .tuple (fam.map bagD)
structure GoodBag (b : List Nat) : Prop where
  two : 2 ≤ b.length
  up : b.Pairwise (· < ·)
  lt : ∀ x ∈ b, x < 60
structure GoodBags (fam : List (List Nat)) : Prop where
  ne : fam ≠ []
  bag : ∀ b ∈ fam, GoodBag b
  up : fam.Pairwise (· < ·)

theorem lt_cast : ∀ b c : List Nat, (b.map (fun n : Nat => (n : Int)) < c.map (fun n : Nat => (n : Int))) ↔ b < c
  | [], [] => by simp
  | [], _ :: _ => by simp
  | _ :: _, [] => by simp
  | x :: b, y :: c => by
    rw [List.map_cons, List.map_cons, List.cons_lt_cons_iff, List.cons_lt_cons_iff, lt_cast b c]
    constructor
    · rintro (h | ⟨h, h'⟩)
      · exact .inl (by omega)
      · exact .inr ⟨by omega, h'⟩
    · rintro (h | ⟨h, h'⟩)
      · exact .inl (by omega)
      · exact .inr ⟨by omega, h'⟩
theorem natsD_map (b : List Nat) : natsD b = (b.map fun n : Nat => (n : Int)).map .int := by unfold natsD; rw [List.map_map]; rfl
theorem dataLt_bag (b c : List Nat) : W.dataLt (bagD b) (bagD c) = decide (b < c) := by
  unfold bagD
  rw [W.dataLt_tuple, natsD_map, natsD_map]
  have h := W.dataLt_ints (b.map fun n : Nat => (n : Int)) (c.map fun n : Nat => (n : Int))
  unfold W.rowLt at h
  rw [h]
  exact decide_eq_decide.mpr (lt_cast b c)
theorem alike_nats : ∀ b c : List Nat, W.alikeAll (natsD b) (natsD c) = true := fun b c => by
  rw [natsD_map, natsD_map]; exact W.alike_ints _ _
theorem alike_bag (b c : List Nat) : W.alike (bagD b) (bagD c) = true := by
  show W.alikeAll (natsD b) (natsD c) = true
  exact alike_nats b c
theorem depth_bag (b : List Nat) : (bagD b).depth ≤ 1 := by
  unfold bagD
  have := W.depth_ints (b.map fun n : Nat => (n : Int))
  rw [← natsD_map b] at this
  simp [PyData.depth, this]
/-! ### rising -/
theorem dataLt_int (x y : Int) : W.dataLt (.int x) (.int y) = decide (x < y) := W.dataLt_int x y
def risingD : List PyData → Bool
  | x :: y :: r => W.dataLt x y && risingD (y :: r)
  | _ => true
theorem rising_iff {α : Type} {enc : α → PyData} {R : α → α → Prop} (h : ∀ a b, W.dataLt (enc a) (enc b) = true ↔ R a b) (tr : ∀ a b c, R a b → R b c → R a c) : ∀ l : List α, risingD (l.map enc) = true ↔ l.Pairwise R
  | [] => by simp [risingD]
  | [_] => by simp [risingD]
  | x :: y :: r => by
    have ih := rising_iff h tr (y :: r)
    show (W.dataLt (enc x) (enc y) && risingD ((y :: r).map enc)) = true ↔ _
    rw [Bool.and_eq_true, h, ih]
    constructor
    · rintro ⟨a, b⟩
      refine List.pairwise_cons.mpr ⟨fun z hz => ?_, b⟩
      rcases List.mem_cons.mp hz with e | hz
      · exact e ▸ a
      · exact tr _ _ _ a ((List.pairwise_cons.mp b).1 z hz)
    · intro p
      obtain ⟨a, b⟩ := List.pairwise_cons.mp p
      exact ⟨a y List.mem_cons_self, b⟩
theorem rising_nats (b : List Nat) : risingD (natsD b) = true ↔ b.Pairwise (· < ·) :=
  rising_iff (enc := fun n : Nat => .int (n : Int)) (R := fun a b => a < b) (fun a b => by rw [W.dataLt_int]; simp) (fun _ _ _ h1 h2 => Nat.lt_trans h1 h2) b
theorem rising_fam (fam : List (List Nat)) : risingD (fam.map bagD) = true ↔ fam.Pairwise (· < ·) :=
  rising_iff (enc := bagD) (R := fun a b => a < b) (fun a b => by rw [dataLt_bag]; simp) (fun _ _ _ h1 h2 => List.lt_trans h1 h2) fam
/-! ### what is asked of data -/
def isIntD : PyData → Bool
  | .int _ => true
  | _ => false
def inD (lo hi : Int) : PyData → Bool
  | .int i => decide (lo ≤ i) && decide (i ≤ hi)
  | _ => false
theorem inD_int {lo hi : Int} {d : PyData} (h : inD lo hi d = true) : ∃ i, d = .int i ∧ lo ≤ i ∧ i ≤ hi := by
  cases d <;> simp [inD] at h
  exact ⟨_, rfl, h.1, h.2⟩
def isBagD : PyData → Bool
  | .tuple ds => decide (2 ≤ ds.length) && ds.all (inD 0 59) && risingD ds
  | _ => false
def isBagsD : PyData → Bool
  | .tuple ds => !ds.isEmpty && ds.all isBagD && risingD ds
  | _ => false
theorem nats_of : ∀ {ds : List PyData}, ds.all (inD 0 59) = true → ∃ b : List Nat, ds = natsD b ∧ ∀ x ∈ b, x < 60
  | [], _ => ⟨[], rfl, fun _ h => nomatch h⟩
  | d :: ds, h => by
    rw [List.all_cons, Bool.and_eq_true] at h
    obtain ⟨i, rfl, h0, h1⟩ := inD_int h.1
    obtain ⟨b, rfl, hb⟩ := nats_of h.2
    refine ⟨i.toNat :: b, ?_, fun x hx => ?_⟩
    · show _ = PyData.int ((i.toNat : Nat) : Int) :: natsD b
      rw [Int.toNat_of_nonneg h0]
    · rcases List.mem_cons.mp hx with e | hx
      · omega
      · exact hb x hx
theorem bag_of {d : PyData} (h : isBagD d = true) : ∃ b, d = bagD b ∧ GoodBag b := by
  cases d <;> simp only [isBagD, Bool.false_eq_true] at h
  rename_i ds
  rw [Bool.and_eq_true, Bool.and_eq_true] at h
  obtain ⟨⟨h1, h2⟩, h3⟩ := h
  obtain ⟨b, rfl, hb⟩ := nats_of h2
  exact ⟨b, rfl, ⟨by have := of_decide_eq_true h1; unfold natsD at this; simpa using this, (rising_nats b).mp h3, hb⟩⟩
theorem in_nats (b : List Nat) (h : ∀ x ∈ b, x < 60) : (natsD b).all (inD 0 59) = true := by
  rw [List.all_eq_true]
  intro d hd
  obtain ⟨x, hx, rfl⟩ := List.mem_map.mp hd
  have := h x hx
  show (decide ((0 : Int) ≤ x) && decide ((x : Int) ≤ 59)) = true
  simp; omega
theorem isBag_of {b : List Nat} (g : GoodBag b) : isBagD (bagD b) = true := by
  show (decide (2 ≤ (natsD b).length) && (natsD b).all (inD 0 59) && risingD (natsD b)) = true
  rw [in_nats b g.lt, (rising_nats b).mpr g.up]
  have := g.two
  simp [natsD]; omega
theorem bags_of {d : PyData} (h : isBagsD d = true) : ∃ fam, d = famD fam ∧ GoodBags fam := by
  cases d <;> simp only [isBagsD, Bool.false_eq_true] at h
  rename_i ds
  rw [Bool.and_eq_true, Bool.and_eq_true] at h
  obtain ⟨⟨h1, h2⟩, h3⟩ := h
  have key : ∀ ds : List PyData, ds.all isBagD = true → ∃ fam : List (List Nat), ds = fam.map bagD ∧ ∀ b ∈ fam, GoodBag b := by
    intro ds
    induction ds with
    | nil => exact fun _ => ⟨[], rfl, fun _ h => nomatch h⟩
    | cons d ds ih =>
      intro h
      rw [List.all_cons, Bool.and_eq_true] at h
      obtain ⟨b, rfl, g⟩ := bag_of h.1
      obtain ⟨fam, rfl, gf⟩ := ih h.2
      exact ⟨b :: fam, rfl, fun c hc => by
        rcases List.mem_cons.mp hc with e | hc
        · exact e ▸ g
        · exact gf c hc⟩
  obtain ⟨fam, rfl, gf⟩ := key ds h2
  refine ⟨fam, rfl, ⟨fun e => ?_, gf, (rising_fam fam).mp h3⟩⟩
  subst e
  simp at h1
theorem isBags_of {fam : List (List Nat)} (g : GoodBags fam) : isBagsD (famD fam) = true := by
  show (!(fam.map bagD).isEmpty && (fam.map bagD).all isBagD && risingD (fam.map bagD)) = true
  rw [(rising_fam fam).mpr g.up]
  have h2 : (fam.map bagD).all isBagD = true := by
    rw [List.all_eq_true]
    intro d hd
    obtain ⟨b, hb, rfl⟩ := List.mem_map.mp hd
    exact isBag_of (g.bag b hb)
  rw [h2]
  have := g.ne
  cases fam <;> simp at this ⊢
end Bg

set_option Elab.async false
set_option linter.all false
set_option maxRecDepth 100000
set_option maxHeartbeats 1000000
/-! comprehensions: what they leave -/
namespace Bg
open PySem PySem.Spec PyProof.Rows L2
open Evl (Ex)

theorem op_ltDk {X : Cx} {K : PySem.W.Frag} (hu : X.A.units + 64 < cLine) (h : X.K = K := by rfl) : OpR X (compareOp .Lt) (rLtD K) := h ▸ op_ltD hu
/-- t[lo:hi], whether new or t itself -/
def rSlB (K : PySem.W.Frag) : V → Option Int → Option Int → Hp → VK → Prop := fun x lo hi H Q => ∃ a xs, x = .ref a ∧ SqT K H a xs ∧ ∀ p H', Ex H H' → SqT K H' p (cutV xs lo hi) → Q (.ref p) H'
theorem cutV_whole {xs : List V} {lo hi : Option Int} (h : HT.sIx xs.length 0 lo = 0 ∧ HT.sIx xs.length xs.length hi = xs.length) : cutV xs lo hi = xs := by
  unfold cutV; rw [h.1, h.2]; simp
theorem sl_tupB {X : Cx} {K : PySem.W.Frag} (hK : X.K = K := by rfl) : SlR X (rSlB K) := by
  subst hK
  intro pins s σ H x v vl vu lo hi sl Q I rx hs pl pu h
  obtain ⟨a, xs, e, ha, q⟩ := h
  exact sl_tupA pins s σ H x v vl vu lo hi sl Q I rx hs pl pu ⟨a, xs, e, ha, fun hw => q a H (Ex.refl H) (by rw [cutV_whole hw]; exact ha), fun _ p hp => q p _ (Ex.new hp) (SqT.of upd_same)⟩
/-- t + u -/
def rCatB (K : PySem.W.Frag) : R2 := fun x y H Q => ∃ a b xs ys, x = .ref a ∧ y = .ref b ∧ SqT K H a xs ∧ SqT K H b ys ∧ xs.length + ys.length ≤ sizeLine ∧ ∀ p H', Ex H H' → SqT K H' p (xs ++ ys) → Q (.ref p) H'
theorem op_catB {X : Cx} {K : PySem.W.Frag} (hK : X.K = K := by rfl) : OpR X (binaryOp .Add) (rCatB K) := by
  subst hK
  intro pins s σ H x y v u Q I rx ry h
  obtain ⟨a, b, xs, ys, e1, e2, ha, hb, hz, q⟩ := h
  refine op_catA pins s σ H x y v u Q I rx ry ⟨a, b, xs, ys, e1, e2, ha, hb, hz, fun h0 => q b H (Ex.refl H) (by rw [h0]; exact hb), fun _ h0 => q a H (Ex.refl H) (by rw [h0, List.append_nil]; exact ha), fun _ _ p hp => q p _ (Ex.new hp) (SqT.of upd_same)⟩
theorem tyes {σ : L2.St} {H : Hp} {A B : Hp → Prop} (h : A H) : tYes σ H (fun b H3 => if b = true then A H3 else B H3) := (if_pos rfl : (if true = true then A H else B H) = A H).mpr h
/-! the rules with the written part named (within a comprehension's block it must not be told by the block) -/
section
variable {X : Cx} {K : PySem.W.Frag}
theorem ix_tupK (h : X.K = K := by rfl) : IxR X (rIxT K) := h ▸ ix_tup
theorem ix_listK (h : X.K = K := by rfl) : IxR X (rIxL K) := h ▸ ix_list
theorem op_in_seqK (h : X.K = K := by rfl) : OpR X (compareOp .In) (rIn K false) := h ▸ op_in_seq
theorem op_notIn_seqK (h : X.K = K := by rfl) : OpR X (compareOp .NotIn) (rIn K true) := h ▸ op_notIn_seq
theorem op_eqDK (hu : X.A.units + 64 < cLine) (h : X.K = K := by rfl) : OpR X (compareOp .Eq) (rEqD K) := h ▸ op_eqD hu
theorem op_neDK (hu : X.A.units + 64 < cLine) (h : X.K = K := by rfl) : OpR X (compareOp .NotEq) (rNeD K) := h ▸ op_neD hu
theorem op_inDK (hu : X.A.units + 65 < cLine) (h : X.K = K := by rfl) : OpR X (compareOp .In) (rInD K) := h ▸ op_inD hu
theorem op_notInDK (hu : X.A.units + 65 < cLine) (h : X.K = K := by rfl) : OpR X (compareOp .NotIn) (rNotInD K) := h ▸ op_notInD hu
def rLenSq (K : PySem.W.Frag) : List V → Hp → VK → Prop := fun xs H Q => ∃ p ys, xs = [.ref p] ∧ (SqL K H p ys ∨ SqT K H p ys) ∧ Q (.int ys.length) H
theorem call_len_seqK (h : X.K = K := by rfl) : CallR X (.builtin "len") (rLenSq K) := h ▸ call_len_seq
theorem cr_sumK (hc : X.calm = true) (h : X.K = K := by rfl) : CallR X (.builtin "sum") (rSum K) := h ▸ cr_sum hc
theorem cr_maxK (hc : X.calm = true) (h : X.K = K := by rfl) : CallR X (.builtin "max") (rMax K) := h ▸ cr_max hc
theorem cr_minK (hc : X.calm = true) (h : X.K = K := by rfl) : CallR X (.builtin "min") (rMin K) := h ▸ cr_min hc
theorem cr_allK (hc : X.calm = true) (h : X.K = K := by rfl) : CallR X (.builtin "all") (rAll K) := h ▸ cr_all hc
theorem cr_anyK (hc : X.calm = true) (h : X.K = K := by rfl) : CallR X (.builtin "any") (rAny K) := h ▸ cr_any hc
theorem call_isiK2 (h : X.K = K := by rfl) : CallR X (.builtin "isinstance") (rIsi K) := h ▸ call_isi
theorem cr_sortedDK (hu : X.A.units + 64 < cLine) (h : X.K = K := by rfl) : CallR X (.builtin "sorted") (rSortedD K) := h ▸ cr_sortedD hu
theorem sl_listK (h : X.K = K := by rfl) : SlR X (rSlL K) := h ▸ sl_list
theorem pi_tupK {tg l : Expr} {tl : TE} (hl : PE X l tl) (h : X.K = K := by rfl) : PI X tg l (iTup K tl) := h ▸ pi_tup hl
theorem pi_listK {tg l : Expr} {tl : TE} (hl : PE X l tl) (h : X.K = K := by rfl) : PI X tg l (iList K tl) := h ▸ pi_list hl
/-- tuple(x), a list or a tuple: whether new or itself -/
def kTupB (K : PySem.W.Frag) (x : V) (H : Hp) (Q : VK) : Prop := ∃ p xs, x = .ref p ∧ (SqL K H p xs ∨ SqT K H p xs) ∧ ∀ q H', Ex H H' → SqT K H' q xs → Q (.ref q) H'
theorem pe_tupleB {a : Expr} {ta : TE} {p pos : Pos} (hg : Gl X "tuple") (hm : X.mg "tuple" = none) (ha : PE X a ta) (h : X.K = K := by rfl) (na : starEach [a] X.env = (false, eval a X.env) :: starEach [] X.env := by rfl) :
    PE X (.Call (.Name "tuple" p) [a] [] pos) (tThen ta (kTupB K)) := by
  subst h
  refine ⟨fun pins s σ H Q I q => ?_⟩
  refine Call_ (ld_blt I hg hm boot_tuple (PyProof.Rows.callWith_type1 (one_arg ha I q (fun v s2 x H2 I2 r q2 => ?_) na) na (by rfl)))
  obtain ⟨p, xs, e, hs, k⟩ := q2
  refine rl_tuple pins s2 σ H2 x v Q I2 r ?_
  rcases hs with hs | hs
  · exact .inl ⟨p, xs, e, hs, fun q hq => k q _ (Ex.new hq) (SqT.of upd_same)⟩
  · exact .inr ⟨p, xs, e, hs, k p H2 (Ex.refl _) hs⟩
end
/-- the list at D has grown, all else stands -/
structure Gr (D : Addr) (H H' : Hp) : Prop where
  keep : ∀ a o, a ≠ D → H a = some o → H' a = some o
  was : ∃ l, H D = some (.lst l)
  now : ∃ l, H' D = some (.lst l)
theorem Gr.kt {D : Addr} {H H' : Hp} (g : Gr D H H') : Kt H H' := by
  obtain ⟨k, ⟨l, w⟩, _⟩ := g
  exact ⟨fun a xs h => k a _ (fun z => by rw [z, w] at h; cases h) h, fun a o u h => k a _ (fun z => by rw [z, w] at h; cases h) h⟩
theorem Gr.ex {D : Addr} {H H' : Hp} (e : Ex H H') {l : List V} (h : H D = some (.lst l)) : Gr D H H' := ⟨fun a o _ q => e a o q, ⟨l, h⟩, ⟨l, e D _ h⟩⟩
theorem Gr.upd {D : Addr} {H : Hp} {l ys : List V} (h : H D = some (.lst l)) : Gr D H (upd H D (.lst ys)) := ⟨fun a o n q => by rw [upd_ne n]; exact q, ⟨l, h⟩, ⟨ys, upd_same⟩⟩

/-- behind i turns of a comprehension that keeps all -/
def Lw (H1 : Hp) (D : Addr) (Pr : Addr → Nat → V → Hp → Prop) (i : Nat) (H : Hp) : Prop := H1 D = none ∧ Ex H1 H ∧ ∃ ys, H D = some (.lst ys) ∧ ys.length = i ∧ ∀ k v, ys[k]? = some v → Pr D k v H
theorem Lw.start {H1 : Hp} {D : Addr} {Pr : Addr → Nat → V → Hp → Prop} (h : H1 D = none) : Lw H1 D Pr 0 (upd H1 D (.lst [])) := ⟨h, Ex.new h, [], upd_same, rfl, fun k v e => by simp at e⟩
theorem lw_turn {H1 H : Hp} {D : Addr} {Pr : Addr → Nat → V → Hp → Prop} (mono : ∀ D i v H H', Gr D H H' → Pr D i v H → Pr D i v H') {i : Nat} (hi : i < 100000) (w : Lw H1 D Pr i H) {te : TE} {σ2 : L2.St}
    (step : ∀ Q : VK, (∀ v H', Ex H H' → Pr D i v H' → Q v H') → te σ2 H Q) :
    te σ2 H fun y H4 => ∃ acc, H4 D = some (.lst acc) ∧ acc.length < sizeLine ∧ Lw H1 D Pr (i + 1) (upd H4 D (.lst (acc ++ [y]))) := by
  obtain ⟨n, e, ys, hD, hl, hp⟩ := w
  refine step _ fun v H' e' pv => ⟨ys, e' D _ hD, Evl.sz_lt (by omega), n, Ex.mut (e.trans e') n, ys ++ [v], upd_same, by simp [hl], fun k u hu => ?_⟩
  have g2 : Gr D H' (upd H' D (.lst (ys ++ [v]))) := Gr.upd (e' D _ hD)
  refine mono D k u H' _ g2 ?_
  rcases Nat.lt_trichotomy k ys.length with c | c | c
  · rw [List.getElem?_append_left c] at hu
    exact mono D k u H H' (Gr.ex e' hD) (hp k u hu)
  · subst c
    rw [List.getElem?_append_right (Nat.le_refl _)] at hu
    simp at hu
    subst hu
    rw [hl]; exact pv
  · rw [List.getElem?_append_right (by omega)] at hu
    have : k - ys.length ≠ 0 := by omega
    rw [List.getElem?_eq_none (by simp; omega)] at hu
    cases hu

section
variable {K : PySem.W.Frag} {a : Addr} {xs : List V} {te : TE} {vs : List Nat} {σ : L2.St} {H1 : Hp} {Q : VK} {j : Nat}
/-- [elt for x in t], t a tuple -/
theorem lcT (Pr : Addr → Nat → V → Hp → Prop) (mono : ∀ D i v H H', Gr D H H' → Pr D i v H → Pr D i v H') (h : SqT K H1 a xs) (hz : xs.length ≤ 90000) (hw : ∀ x, wipe ((wipe σ vs).set j (some x)) vs = wipe σ vs)
    (step : ∀ D i x H, xs[i]? = some x → Ex H1 H → (∃ l, H D = some (.lst l)) → ∀ Q : VK, (∀ v H', Ex H H' → Pr D i v H' → Q v H') → te ((wipe σ vs).set j (some x)) H Q)
    (fin : ∀ D H ys, H1 D = none → Ex H1 H → H D = some (.lst ys) → ys.length = xs.length → (∀ i v, ys[i]? = some v → Pr D i v H) → Q (.ref D) H) :
    ∀ D, H1 D = none → ∃ W : Nat → Nat → Hp → Prop, (∃ m, W 0 m (upd H1 D (.lst []))) ∧ ∀ i m H, W i m H →
      ((Itt K a).stop i H ∧ Q (.ref D) H) ∨ ((Itt K a).go i H ∧ ∃ Nx : Hp → Prop, (∀ H', Nx H' → ∃ m', m' < m ∧ W (i + 1) m' H') ∧ ∀ x H', (Itt K a).yld i H x H' → gName j x (wipe σ vs) H' fun σ2 H2 => wipe σ2 vs = wipe σ vs ∧ tYes σ2 H2 fun b H3 =>
        if b = true then te σ2 H3 fun y H4 => ∃ acc, H4 D = some (.lst acc) ∧ acc.length < sizeLine ∧ Nx (upd H4 D (.lst (acc ++ [y]))) else Nx H3) := fun D hD =>
  lc_tup (xs := xs) (Lw H1 D Pr) (Lw.start hD) (fun i H _ w => Evl.ex_t w.2.1 h) (fun i x H hx w => ⟨hw x, iteT (B := Lw H1 D Pr (i + 1) H) (lw_turn mono (by have := (List.getElem?_eq_some_iff.mp hx).1; omega) w (step D i x H hx w.2.1 (by obtain ⟨ys, q, _⟩ := w.2.2; exact ⟨ys, q⟩)))⟩)
    (fun H w => by obtain ⟨n, e, ys, q, hl, hp⟩ := w; exact fin D H ys n e q hl hp)
/-- [elt for x in xs], xs a list -/
theorem lcL (Pr : Addr → Nat → V → Hp → Prop) (mono : ∀ D i v H H', Gr D H H' → Pr D i v H → Pr D i v H') (h : SqL K H1 a xs) (hz : xs.length ≤ 90000) (hw : ∀ x, wipe ((wipe σ vs).set j (some x)) vs = wipe σ vs)
    (step : ∀ D i x H, xs[i]? = some x → Ex H1 H → (∃ l, H D = some (.lst l)) → ∀ Q : VK, (∀ v H', Ex H H' → Pr D i v H' → Q v H') → te ((wipe σ vs).set j (some x)) H Q)
    (fin : ∀ D H ys, H1 D = none → Ex H1 H → H D = some (.lst ys) → ys.length = xs.length → (∀ i v, ys[i]? = some v → Pr D i v H) → Q (.ref D) H) :
    ∀ D, H1 D = none → ∃ W : Nat → Nat → Hp → Prop, (∃ m, W 0 m (upd H1 D (.lst []))) ∧ ∀ i m H, W i m H →
      ((Itl K a).stop i H ∧ Q (.ref D) H) ∨ ((Itl K a).go i H ∧ ∃ Nx : Hp → Prop, (∀ H', Nx H' → ∃ m', m' < m ∧ W (i + 1) m' H') ∧ ∀ x H', (Itl K a).yld i H x H' → gName j x (wipe σ vs) H' fun σ2 H2 => wipe σ2 vs = wipe σ vs ∧ tYes σ2 H2 fun b H3 =>
        if b = true then te σ2 H3 fun y H4 => ∃ acc, H4 D = some (.lst acc) ∧ acc.length < sizeLine ∧ Nx (upd H4 D (.lst (acc ++ [y]))) else Nx H3) := fun D hD =>
  lc_list (xs := xs) (Lw H1 D Pr) (Lw.start hD) (fun i H _ w => Evl.ex_l w.2.1 h) (fun i x H hx w => ⟨hw x, iteT (B := Lw H1 D Pr (i + 1) H) (lw_turn mono (by have := (List.getElem?_eq_some_iff.mp hx).1; omega) w (step D i x H hx w.2.1 (by obtain ⟨ys, q, _⟩ := w.2.2; exact ⟨ys, q⟩)))⟩)
    (fun H w => by obtain ⟨n, e, ys, q, hl, hp⟩ := w; exact fin D H ys n e q hl hp)
/-- [elt for x in range(n)] -/
theorem lcR (Pr : Addr → Nat → V → Hp → Prop) (mono : ∀ D i v H H', Gr D H H' → Pr D i v H → Pr D i v H') {lo : Int} {n : Nat} (hz : n ≤ 90000) (hw : ∀ x, wipe ((wipe σ vs).set j (some x)) vs = wipe σ vs)
    (step : ∀ D i H, i < n → Ex H1 H → (∃ l, H D = some (.lst l)) → ∀ Q : VK, (∀ v H', Ex H H' → Pr D i v H' → Q v H') → te ((wipe σ vs).set j (some (.int (lo + (i : Nat))))) H Q)
    (fin : ∀ D H ys, H1 D = none → Ex H1 H → H D = some (.lst ys) → ys.length = n → (∀ i v, ys[i]? = some v → Pr D i v H) → Q (.ref D) H) :
    ∀ D, H1 D = none → ∃ W : Nat → Nat → Hp → Prop, (∃ m, W 0 m (upd H1 D (.lst []))) ∧ ∀ i m H, W i m H →
      ((Itr lo n).stop i H ∧ Q (.ref D) H) ∨ ((Itr lo n).go i H ∧ ∃ Nx : Hp → Prop, (∀ H', Nx H' → ∃ m', m' < m ∧ W (i + 1) m' H') ∧ ∀ x H', (Itr lo n).yld i H x H' → gName j x (wipe σ vs) H' fun σ2 H2 => wipe σ2 vs = wipe σ vs ∧ tYes σ2 H2 fun b H3 =>
        if b = true then te σ2 H3 fun y H4 => ∃ acc, H4 D = some (.lst acc) ∧ acc.length < sizeLine ∧ Nx (upd H4 D (.lst (acc ++ [y]))) else Nx H3) := fun D hD =>
  lc_range (lo := lo) (n := n) (Lw H1 D Pr) (Lw.start hD) (fun i H hi w => ⟨hw _, iteT (B := Lw H1 D Pr (i + 1) H) (lw_turn mono (by omega) w (step D i H hi w.2.1 (by obtain ⟨ys, q, _⟩ := w.2.2; exact ⟨ys, q⟩)))⟩)
    (fun H w => by obtain ⟨n, e, ys, q, hl, hp⟩ := w; exact fin D H ys n e q hl hp)
/-- [elt for x in t if c], told item by item -/
def Fw (H1 : Hp) (D : Addr) (p : V → Bool) (f : V → V) (xs : List V) (i : Nat) (H : Hp) : Prop := H1 D = none ∧ Ex H1 H ∧ H D = some (.lst (((xs.take i).filter p).map f))
theorem fw_turn {H1 H : Hp} {D : Addr} {p : V → Bool} {f : V → V} {i : Nat} {x : V} {tt : TT} {σ2 : L2.St} (hx : xs[i]? = some x) (hz : xs.length ≤ 90000) (w : Fw H1 D p f xs i H)
    (ht : ∀ Q : Bool → Hp → Prop, (∀ H', Ex H H' → Q (p x) H') → tt σ2 H Q) (he : ∀ H', Ex H H' → p x = true → ∀ Q : VK, (∀ H'', Ex H' H'' → Q (f x) H'') → te σ2 H' Q) :
    tt σ2 H fun b H3 => if b = true then te σ2 H3 fun y H4 => ∃ acc, H4 D = some (.lst acc) ∧ acc.length < sizeLine ∧ Fw H1 D p f xs (i + 1) (upd H4 D (.lst (acc ++ [y]))) else Fw H1 D p f xs (i + 1) H3 := by
  obtain ⟨n, e, hD⟩ := w
  have hi := (List.getElem?_eq_some_iff.mp hx).1
  have et : xs.take (i + 1) = xs.take i ++ [x] := by rw [List.take_add_one, hx]; rfl
  refine ht _ fun H' e' => ?_
  cases c : p x with
  | true =>
    refine iteT (he H' e' c _ fun H'' e'' => ⟨_, e'' D _ (e' D _ hD), Evl.sz_lt ?_, n, Ex.mut ((e.trans e').trans e'') n, ?_⟩)
    · have := List.length_filter_le p (xs.take i)
      rw [List.length_map]
      have := List.length_take_le i xs
      omega
    · rw [upd_same, et, List.filter_append, List.map_append, List.filter_cons, if_pos c]
      rfl
  | false =>
    refine iteF ⟨n, e.trans e', ?_⟩
    rw [et, List.filter_append, List.map_append, List.filter_cons, if_neg (by rw [c]; decide)]
    simp only [List.filter_nil, List.map_nil, List.append_nil]
    exact e' D _ hD
theorem lcTf {tt : TT} (p : V → Bool) (f : V → V) (h : SqT K H1 a xs) (hz : xs.length ≤ 90000) (hw : ∀ x, wipe ((wipe σ vs).set j (some x)) vs = wipe σ vs)
    (ht : ∀ (i : Nat) x H, xs[i]? = some x → Ex H1 H → ∀ Q : Bool → Hp → Prop, (∀ H', Ex H H' → Q (p x) H') → tt ((wipe σ vs).set j (some x)) H Q)
    (he : ∀ (i : Nat) x H, xs[i]? = some x → Ex H1 H → p x = true → ∀ Q : VK, (∀ H', Ex H H' → Q (f x) H') → te ((wipe σ vs).set j (some x)) H Q)
    (fin : ∀ D H, H1 D = none → Ex H1 H → H D = some (.lst ((xs.filter p).map f)) → Q (.ref D) H) :
    ∀ D, H1 D = none → ∃ W : Nat → Nat → Hp → Prop, (∃ m, W 0 m (upd H1 D (.lst []))) ∧ ∀ i m H, W i m H →
      ((Itt K a).stop i H ∧ Q (.ref D) H) ∨ ((Itt K a).go i H ∧ ∃ Nx : Hp → Prop, (∀ H', Nx H' → ∃ m', m' < m ∧ W (i + 1) m' H') ∧ ∀ x H', (Itt K a).yld i H x H' → gName j x (wipe σ vs) H' fun σ2 H2 => wipe σ2 vs = wipe σ vs ∧ tt σ2 H2 fun b H3 =>
        if b = true then te σ2 H3 fun y H4 => ∃ acc, H4 D = some (.lst acc) ∧ acc.length < sizeLine ∧ Nx (upd H4 D (.lst (acc ++ [y]))) else Nx H3) := fun D hD =>
  lc_tup (xs := xs) (Fw H1 D p f xs) ⟨hD, Ex.new hD, by rw [upd_same]; rfl⟩ (fun i H _ w => Evl.ex_t w.2.1 h)
    (fun i x H hx w => ⟨hw x, fw_turn hx hz w (ht i x H hx w.2.1) fun H' e' c Q q => he i x H' hx (w.2.1.trans e') c Q q⟩) (fun H w => fin D H w.1 w.2.1 (by have := w.2.2; rwa [List.take_length] at this))
theorem lcLf {tt : TT} (p : V → Bool) (f : V → V) (h : SqL K H1 a xs) (hz : xs.length ≤ 90000) (hw : ∀ x, wipe ((wipe σ vs).set j (some x)) vs = wipe σ vs)
    (ht : ∀ (i : Nat) x H, xs[i]? = some x → Ex H1 H → ∀ Q : Bool → Hp → Prop, (∀ H', Ex H H' → Q (p x) H') → tt ((wipe σ vs).set j (some x)) H Q)
    (he : ∀ (i : Nat) x H, xs[i]? = some x → Ex H1 H → p x = true → ∀ Q : VK, (∀ H', Ex H H' → Q (f x) H') → te ((wipe σ vs).set j (some x)) H Q)
    (fin : ∀ D H, H1 D = none → Ex H1 H → H D = some (.lst ((xs.filter p).map f)) → Q (.ref D) H) :
    ∀ D, H1 D = none → ∃ W : Nat → Nat → Hp → Prop, (∃ m, W 0 m (upd H1 D (.lst []))) ∧ ∀ i m H, W i m H →
      ((Itl K a).stop i H ∧ Q (.ref D) H) ∨ ((Itl K a).go i H ∧ ∃ Nx : Hp → Prop, (∀ H', Nx H' → ∃ m', m' < m ∧ W (i + 1) m' H') ∧ ∀ x H', (Itl K a).yld i H x H' → gName j x (wipe σ vs) H' fun σ2 H2 => wipe σ2 vs = wipe σ vs ∧ tt σ2 H2 fun b H3 =>
        if b = true then te σ2 H3 fun y H4 => ∃ acc, H4 D = some (.lst acc) ∧ acc.length < sizeLine ∧ Nx (upd H4 D (.lst (acc ++ [y]))) else Nx H3) := fun D hD =>
  lc_list (xs := xs) (Fw H1 D p f xs) ⟨hD, Ex.new hD, by rw [upd_same]; rfl⟩ (fun i H _ w => Evl.ex_l w.2.1 h)
    (fun i x H hx w => ⟨hw x, fw_turn hx hz w (ht i x H hx w.2.1) fun H' e' c Q q => he i x H' hx (w.2.1.trans e') c Q q⟩) (fun H w => fin D H w.1 w.2.1 (by have := w.2.2; rwa [List.take_length] at this))
end
section
variable {K : PySem.W.Frag} {xs : List V} {tl te : TE} {vs : List Nat} {σ : L2.St} {H : Hp} {Q : VK} {j : Nat}
theorem goT (Pr : Addr → Nat → V → Hp → Prop) (mono : ∀ D i v H H', Gr D H H' → Pr D i v H → Pr D i v H') (htl : ∀ R : VK, (∀ a H1, Ex H H1 → SqT K H1 a xs → R (.ref a) H1) → tl σ H R) (hz : xs.length ≤ 90000) (hw : ∀ x, wipe ((wipe σ vs).set j (some x)) vs = wipe σ vs)
    (step : ∀ D i x H', xs[i]? = some x → Ex H H' → (∃ l, H' D = some (.lst l)) → ∀ Q : VK, (∀ v H'', Ex H' H'' → Pr D i v H'' → Q v H'') → te ((wipe σ vs).set j (some x)) H' Q)
    (fin : ∀ D H' ys, H D = none → Ex H H' → H' D = some (.lst ys) → ys.length = xs.length → (∀ i v, ys[i]? = some v → Pr D i v H') → Q (.ref D) H') : tLc (iTup K tl) (gName j) tYes te vs σ H Q :=
  htl _ fun a H1 e1 h => ⟨a, rfl, ⟨xs, h⟩, lcT Pr mono h hz hw (fun D i x H' hx e => step D i x H' hx (e1.trans e)) fun D H' ys n e => fin D H' ys (Evl.fresh_back e1 n) (e1.trans e)⟩
theorem goL (Pr : Addr → Nat → V → Hp → Prop) (mono : ∀ D i v H H', Gr D H H' → Pr D i v H → Pr D i v H') (htl : ∀ R : VK, (∀ a H1, Ex H H1 → SqL K H1 a xs → R (.ref a) H1) → tl σ H R) (hz : xs.length ≤ 90000) (hw : ∀ x, wipe ((wipe σ vs).set j (some x)) vs = wipe σ vs)
    (step : ∀ D i x H', xs[i]? = some x → Ex H H' → (∃ l, H' D = some (.lst l)) → ∀ Q : VK, (∀ v H'', Ex H' H'' → Pr D i v H'' → Q v H'') → te ((wipe σ vs).set j (some x)) H' Q)
    (fin : ∀ D H' ys, H D = none → Ex H H' → H' D = some (.lst ys) → ys.length = xs.length → (∀ i v, ys[i]? = some v → Pr D i v H') → Q (.ref D) H') : tLc (iList K tl) (gName j) tYes te vs σ H Q :=
  htl _ fun a H1 e1 h => ⟨a, rfl, ⟨xs, h⟩, lcL Pr mono h hz hw (fun D i x H' hx e => step D i x H' hx (e1.trans e)) fun D H' ys n e => fin D H' ys (Evl.fresh_back e1 n) (e1.trans e)⟩
theorem goR {ta : TA} (Pr : Addr → Nat → V → Hp → Prop) (mono : ∀ D i v H H', Gr D H H' → Pr D i v H → Pr D i v H') {n : Nat} (hta : ∀ R : List V → Hp → Prop, (∀ H1, Ex H H1 → R [.int (n : Int)] H1) → ta σ H R) (hz : n ≤ 90000) (hw : ∀ x, wipe ((wipe σ vs).set j (some x)) vs = wipe σ vs)
    (step : ∀ D i H', i < n → Ex H H' → (∃ l, H' D = some (.lst l)) → ∀ Q : VK, (∀ v H'', Ex H' H'' → Pr D i v H'' → Q v H'') → te ((wipe σ vs).set j (some (.int (i : Nat)))) H' Q)
    (fin : ∀ D H' ys, H D = none → Ex H H' → H' D = some (.lst ys) → ys.length = n → (∀ i v, ys[i]? = some v → Pr D i v H') → Q (.ref D) H') : tLc (iRng1 ta) (gName j) tYes te vs σ H Q :=
  hta _ fun H1 e1 => ⟨n, rfl, by omega, by omega, lcR (lo := 0) Pr mono hz hw (fun D i H' hi e l Q q => by rw [Int.zero_add]; exact step D i H' hi (e1.trans e) l Q q) fun D H' ys n e => fin D H' ys (Evl.fresh_back e1 n) (e1.trans e)⟩
theorem goTf {tt : TT} (p : V → Bool) (f : V → V) (htl : ∀ R : VK, (∀ a H1, Ex H H1 → SqT K H1 a xs → R (.ref a) H1) → tl σ H R) (hz : xs.length ≤ 90000) (hw : ∀ x, wipe ((wipe σ vs).set j (some x)) vs = wipe σ vs)
    (ht : ∀ (i : Nat) x H', xs[i]? = some x → Ex H H' → ∀ Q : Bool → Hp → Prop, (∀ H'', Ex H' H'' → Q (p x) H'') → tt ((wipe σ vs).set j (some x)) H' Q)
    (he : ∀ (i : Nat) x H', xs[i]? = some x → Ex H H' → p x = true → ∀ Q : VK, (∀ H'', Ex H' H'' → Q (f x) H'') → te ((wipe σ vs).set j (some x)) H' Q)
    (fin : ∀ D H', H D = none → Ex H H' → H' D = some (.lst ((xs.filter p).map f)) → Q (.ref D) H') : tLc (iTup K tl) (gName j) tt te vs σ H Q :=
  htl _ fun a H1 e1 h => ⟨a, rfl, ⟨xs, h⟩, lcTf p f h hz hw (fun i x H' hx e => ht i x H' hx (e1.trans e)) (fun i x H' hx e => he i x H' hx (e1.trans e)) fun D H' n e => fin D H' (Evl.fresh_back e1 n) (e1.trans e)⟩
theorem goLf {tt : TT} (p : V → Bool) (f : V → V) (htl : ∀ R : VK, (∀ a H1, Ex H H1 → SqL K H1 a xs → R (.ref a) H1) → tl σ H R) (hz : xs.length ≤ 90000) (hw : ∀ x, wipe ((wipe σ vs).set j (some x)) vs = wipe σ vs)
    (ht : ∀ (i : Nat) x H', xs[i]? = some x → Ex H H' → ∀ Q : Bool → Hp → Prop, (∀ H'', Ex H' H'' → Q (p x) H'') → tt ((wipe σ vs).set j (some x)) H' Q)
    (he : ∀ (i : Nat) x H', xs[i]? = some x → Ex H H' → p x = true → ∀ Q : VK, (∀ H'', Ex H' H'' → Q (f x) H'') → te ((wipe σ vs).set j (some x)) H' Q)
    (fin : ∀ D H', H D = none → Ex H H' → H' D = some (.lst ((xs.filter p).map f)) → Q (.ref D) H') : tLc (iList K tl) (gName j) tt te vs σ H Q :=
  htl _ fun a H1 e1 h => ⟨a, rfl, ⟨xs, h⟩, lcLf p f h hz hw (fun i x H' hx e => ht i x H' hx (e1.trans e)) (fun i x H' hx e => he i x H' hx (e1.trans e)) fun D H' n e => fin D H' (Evl.fresh_back e1 n) (e1.trans e)⟩
end
/-- items told by a function -/
theorem list_eq_map {xs : List V} {α : Type} {zs : List α} {f : α → V} (hl : xs.length = zs.length) (h : ∀ (i : Nat) v, xs[i]? = some v → ∃ z, zs[i]? = some z ∧ v = f z) : xs = zs.map f := by
  apply List.ext_getElem?
  intro i
  rw [List.getElem?_map]
  cases e : xs[i]? with
  | none =>
    have := List.getElem?_eq_none_iff.mp e
    rw [List.getElem?_eq_none (by omega)]; rfl
  | some v =>
    obtain ⟨z, hz, rfl⟩ := h i v e
    rw [hz]; rfl
end Bg

set_option Elab.async false
set_option linter.all false
set_option maxRecDepth 100000
set_option maxHeartbeats 1000000
/-! data of bags at values; dicts that are sets of numbers -/
namespace Bg
open PySem PySem.Spec PyProof.Rows L2
open Evl (Ex)
theorem dpa_len {K : PySem.W.Frag} {H : Hp} : ∀ {vs : List V} {ds : List PyData}, DpAll K H vs ds → vs.length = ds.length
  | _, _, .nil => rfl
  | _, _, .cons _ t => congrArg (· + 1) (dpa_len t)
theorem dpa_get {K : PySem.W.Frag} {H : Hp} : ∀ {vs : List V} {ds : List PyData} {i : Nat} {v : V}, DpAll K H vs ds → vs[i]? = some v → ∃ d, ds[i]? = some d ∧ Dp K H v d
  | _, _, _, _, .nil, e => by simp at e
  | _, _, 0, _, .cons h _, e => by simp at e; subst e; exact ⟨_, rfl, h⟩
  | _, _, i + 1, v, .cons _ t, e => by
    obtain ⟨d, h1, h2⟩ := dpa_get (i := i) (v := v) t (by simpa using e)
    exact ⟨d, by simpa using h1, h2⟩
theorem dp_tup {K : PySem.W.Frag} {H : Hp} {v : V} {ds : List PyData} (h : Dp K H v (.tuple ds)) : ∃ a xs, v = .ref a ∧ SqT K H a xs ∧ DpAll K H xs ds := by
  cases h with
  | tup h t => exact ⟨_, _, rfl, h, t⟩
theorem dp_lst {K : PySem.W.Frag} {H : Hp} {v : V} {ds : List PyData} (h : Dp K H v (.list ds)) : ∃ a xs, v = .ref a ∧ SqL K H a xs ∧ DpAll K H xs ds := by
  cases h with
  | lst h t => exact ⟨_, _, rfl, h, t⟩

def natsV (b : List Nat) : List V := b.map fun n : Nat => V.int (n : Int)
theorem natsV_get {b : List Nat} {i : Nat} {x : V} (h : (natsV b)[i]? = some x) : ∃ n, b[i]? = some n ∧ x = .int (n : Int) := by
  unfold natsV at h
  rw [List.getElem?_map] at h
  cases e : b[i]? with
  | none => rw [e] at h; cases h
  | some n => rw [e] at h; exact ⟨n, rfl, (Option.some.inj h).symm⟩
theorem natsV_at {b : List Nat} {i n : Nat} (h : b[i]? = some n) : (natsV b)[i]? = some (.int (n : Int)) := by
  unfold natsV; rw [List.getElem?_map, h]; rfl
theorem natsV_len (b : List Nat) : (natsV b).length = b.length := by unfold natsV; exact List.length_map _
theorem dpa_nats {K : PySem.W.Frag} {H : Hp} : ∀ b : List Nat, DpAll K H (natsV b) (natsD b)
  | [] => .nil
  | n :: b => .cons (.int n) (dpa_nats b)
theorem dpa_natsV {K : PySem.W.Frag} {H : Hp} : ∀ {b : List Nat} {vs : List V}, DpAll K H vs (natsD b) → vs = natsV b
  | [], _, .nil => rfl
  | n :: b, _, .cons h t => by
    cases h
    rw [dpa_natsV t]; rfl
theorem dp_bag {K : PySem.W.Frag} {H : Hp} {v : V} {b : List Nat} (h : Dp K H v (bagD b)) : ∃ a, v = .ref a ∧ SqT K H a (natsV b) := by
  obtain ⟨a, xs, rfl, hs, ha⟩ := dp_tup h
  rw [dpa_natsV ha] at hs
  exact ⟨a, rfl, hs⟩
theorem bag_dp {K : PySem.W.Frag} {H : Hp} {a : Addr} {b : List Nat} (h : SqT K H a (natsV b)) : Dp K H (.ref a) (bagD b) := .tup h (dpa_nats b)
theorem dp_fam {K : PySem.W.Frag} {H : Hp} {v : V} {fam : List (List Nat)} (h : Dp K H v (famD fam)) : ∃ a xs, v = .ref a ∧ SqT K H a xs ∧ xs.length = fam.length ∧ ∀ (i : Nat) x, xs[i]? = some x → ∃ b, fam[i]? = some b ∧ Dp K H x (bagD b) := by
  obtain ⟨a, xs, rfl, hs, ha⟩ := dp_tup h
  refine ⟨a, xs, rfl, hs, by rw [dpa_len ha, List.length_map], fun i x hx => ?_⟩
  obtain ⟨d, h1, h2⟩ := dpa_get ha hx
  rw [List.getElem?_map] at h1
  cases e : fam[i]? with
  | none => rw [e] at h1; cases h1
  | some b => rw [e] at h1; cases h1; exact ⟨b, rfl, h2⟩
theorem isT_bag (b : List Nat) : isT (bagD b) = true := by
  unfold bagD natsD
  show isTs _ = true
  induction b with
  | nil => rfl
  | cons n b ih => rw [List.map_cons]; show (true && isTs _) = true; rw [ih]; rfl
theorem isT_fam (fam : List (List Nat)) : isT (famD fam) = true := by
  unfold famD
  show isTs _ = true
  induction fam with
  | nil => rfl
  | cons b fam ih => rw [List.map_cons]; show (isT _ && isTs _) = true; rw [ih, isT_bag]; rfl
theorem getD_get {α : Type} {l : List α} {i : Nat} {x d : α} (h : l[i]? = some x) : l.getD i d = x := by rw [List.getD_eq_getElem?_getD, h]; rfl

theorem tyL {K : PySem.W.Frag} {H : Hp} {p : Addr} {xs : List V} (h : H p = some (.lst xs)) : tyV K "list" (.ref p) H := Or.inl ⟨rfl, _, SqL.of h⟩
/-! ### dicts that are sets of numbers -/
def setK (ks : List Nat) : List (Key × V) := ks.map fun n : Nat => (Sum.inl (n : Int), V.bl true)
def insN (ks : List Nat) (n : Nat) : List Nat := if n ∈ ks then ks else ks ++ [n]
theorem valV_setK (n : Nat) : ∀ ks : List Nat, valV (setK ks) (Sum.inl (n : Int)) = if n ∈ ks then some (V.bl true) else none
  | [] => rfl
  | k :: ks => by
    by_cases e : k = n
    · subst e
      rw [if_pos List.mem_cons_self]
      exact valV_pos rfl
    · have h1 : valV (setK (k :: ks)) (Sum.inl (n : Int)) = valV (setK ks) (Sum.inl (n : Int)) := valV_neg (p := (Sum.inl (k : Int), V.bl true)) (fun z => e (by have := Sum.inl.inj z; omega))
      rw [h1, valV_setK n ks]
      have : n ∈ k :: ks ↔ n ∈ ks := by simp [Ne.symm e, fun z => e (Eq.symm z)]
      by_cases m : n ∈ ks
      · rw [if_pos m, if_pos (this.mpr m)]
      · rw [if_neg m, if_neg (fun z => m (this.mp z))]
theorem putK_setK (ks : List Nat) (n : Nat) : putK (setK ks) (Sum.inl (n : Int)) (V.bl true) = setK (insN ks n) := by
  have hv := valV_setK n ks
  unfold insN
  by_cases m : n ∈ ks
  · rw [if_pos m] at hv ⊢
    have ha : ((setK ks).any fun kv => decide (kv.1 = Sum.inl (n : Int))) = true := by rw [valV_any, hv]; rfl
    unfold putK
    rw [if_pos ha]
    unfold setK
    rw [List.map_map]
    apply List.map_congr_left
    intro k _
    show (if Sum.inl (k : Int) = Sum.inl (n : Int) then ((Sum.inl (k : Int) : Key), V.bl true) else ((Sum.inl (k : Int) : Key), V.bl true)) = _
    split <;> rfl
  · rw [if_neg m] at hv ⊢
    rw [putK_new _ hv]
    unfold setK
    rw [List.map_append]; rfl
theorem setK_len (ks : List Nat) : (setK ks).length = ks.length := by unfold setK; exact List.length_map _
theorem insN_new {ks : List Nat} {n : Nat} (h : n ∉ ks) : insN ks n = ks ++ [n] := if_neg h
theorem insN_len (ks : List Nat) (n : Nat) : (insN ks n).length ≤ ks.length + 1 := by unfold insN; split <;> simp
section
variable {K : PySem.W.Frag} {tl : TE} {vs : List Nat} {σ : L2.St} {H : Hp} {Q : VK} {j : Nat}
/-- {x: True for x in t}, t a tuple of different numbers -/
theorem goDT {b : List Nat} (htl : ∀ R : VK, (∀ a H1, Ex H H1 → SqT K H1 a (natsV b) → R (.ref a) H1) → tl σ H R) (hn : b.Nodup) (hz : b.length ≤ 90000) (hj : j < σ.length) (hw : ∀ x, wipe ((wipe σ vs).set j (some x)) vs = wipe σ vs)
    (fin : ∀ D H', H D = none → Ex H H' → H' D = some (.dK (setK b)) → Q (.ref D) H') : tDc (iTup K tl) (gName j) tYes (tVar j) (tC (.bl true)) vs σ H Q := by
  refine htl _ fun a H1 e1 h => ⟨a, rfl, ⟨_, h⟩, fun D hD => dc_tup (xs := natsV b) (fun i H => Ex H1 H ∧ H D = some (.dK (setK (b.take i)))) ⟨Ex.new hD, upd_same⟩ (fun i H _ p => Evl.ex_t p.1 h) (fun i x H hx p => ⟨hw x, ?_⟩) (fun H p => fin D H (Evl.fresh_back e1 hD) (e1.trans p.1) (by have := p.2; rwa [natsV_len, List.take_length] at this))⟩
  obtain ⟨n, hb, rfl⟩ := natsV_get hx
  obtain ⟨e, hd⟩ := p
  have hjl : ((wipe σ vs).set j (some (V.int (n : Int))))[j]? = some (some (V.int (n : Int))) := by
    rw [List.getElem?_set_self (by rw [wipe_length]; exact hj)]
  have hi := (List.getElem?_eq_some_iff.mp hb).1
  refine tyes ⟨_, hjl, setK (b.take i), Sum.inl (n : Int), rfl, hd, ?_, Ex.mut e hD, ?_⟩
  · rw [setK_len, List.length_take]; exact Evl.sz_lt (by omega)
  · rw [upd_same, putK_setK, List.take_add_one, hb]
    have hni : n ∉ b.take i := by
      intro hm
      obtain ⟨k, hk⟩ := List.mem_iff_getElem?.mp hm
      rw [List.getElem?_take] at hk
      split at hk
      · rename_i hlt
        exact absurd (nd_ix hn hk hb) (by omega)
      · cases hk
    rw [insN_new hni]; rfl
/-- {x: True for x in range(n)} -/
theorem goDR {ta : TA} {n : Nat} (hta : ∀ R : List V → Hp → Prop, (∀ H1, Ex H H1 → R [.int (n : Int)] H1) → ta σ H R) (hz : n ≤ 90000) (hj : j < σ.length) (hw : ∀ x, wipe ((wipe σ vs).set j (some x)) vs = wipe σ vs)
    (fin : ∀ D H', H D = none → Ex H H' → H' D = some (.dK (setK (List.range n))) → Q (.ref D) H') : tDc (iRng1 ta) (gName j) tYes (tVar j) (tC (.bl true)) vs σ H Q := by
  refine hta _ fun H1 e1 => ⟨n, rfl, by omega, by omega, fun D hD => ⟨fun i m H => m = n - i ∧ i ≤ n ∧ Ex H1 H ∧ H D = some (.dK (setK (List.range i))), ⟨n, by simp, Nat.zero_le _, Ex.new hD, upd_same⟩, ?_⟩⟩
  rintro i m H' ⟨rfl, hi, e, hd⟩
  by_cases hlt : i < n
  · refine .inr ⟨(by show i < (n : Int).toNat; omega), fun H => Ex H1 H ∧ H D = some (.dK (setK (List.range (i + 1)))), fun H' p => ⟨n - (i + 1), by omega, rfl, hlt, p⟩, ?_⟩
    rintro x H'' ⟨rfl, rfl⟩
    have hjl : ((wipe σ vs).set j (some (V.int ((0 : Int) + (i : Nat)))))[j]? = some (some (V.int ((0 : Int) + (i : Nat)))) := by
      rw [List.getElem?_set_self (by rw [wipe_length]; exact hj)]
    refine ⟨hw _, tyes ⟨_, hjl, setK (List.range i), Sum.inl (i : Int), by rw [Int.zero_add]; rfl, hd, ?_, Ex.mut e hD, ?_⟩⟩
    · rw [setK_len, List.length_range]; exact Evl.sz_lt (by omega)
    · rw [upd_same, putK_setK, insN_new (by simp), List.range_succ]
  · have : i = n := by omega
    subst this
    exact .inl ⟨(by show (i : Int).toNat ≤ i; omega), fin D H' (Evl.fresh_back e1 hD) (e1.trans e) hd⟩
end

/-! ### a list of lists that a loop fills -/
structure Grid (H0 H : Hp) (F : Addr) (ps : List Addr) (g : Nat → List Nat) : Prop where
  ex : Ex H0 H
  nF : H0 F = none
  at_ : H F = some (.lst (ps.map V.ref))
  nd : ps.Nodup
  Fps : F ∉ ps
  new : ∀ p ∈ ps, H0 p = none
  row : ∀ (x : Nat) p, ps[x]? = some p → H p = some (.lst (natsV (g x)))
theorem Grid.mono {H0 H H' : Hp} {F : Addr} {ps : List Addr} {g : Nat → List Nat} (G : Grid H0 H F ps g) (e : Ex H H') : Grid H0 H' F ps g :=
  ⟨G.ex.trans e, G.nF, e _ _ G.at_, G.nd, G.Fps, G.new, fun x p h => e _ _ (G.row x p h)⟩
theorem Grid.put {H0 H : Hp} {F : Addr} {ps : List Addr} {g : Nat → List Nat} (G : Grid H0 H F ps g) {x : Nat} {p : Addr} (hx : ps[x]? = some p) (n : Nat) :
    Grid H0 (upd H p (.lst (natsV (g x) ++ [V.int (n : Int)]))) F ps (fun y => if y = x then g x ++ [n] else g y) := by
  have hp := List.mem_of_getElem? hx
  refine ⟨Ex.mut G.ex (G.new p hp), G.nF, ?_, G.nd, G.Fps, G.new, fun y q hy => ?_⟩
  · rw [upd_ne (fun z : F = p => G.Fps (by rw [z]; exact hp))]; exact G.at_
  · by_cases e : y = x
    · subst e
      rw [hx] at hy; cases hy
      rw [upd_same, if_pos rfl]
      unfold natsV; rw [List.map_append]; rfl
    · have : q ≠ p := fun z => e (nd_ix G.nd (by rw [← z]; exact hy) hx)
      rw [upd_ne this, if_neg e]
      exact G.row y q hy
theorem Grid.cong {H0 H : Hp} {F : Addr} {ps : List Addr} {g g' : Nat → List Nat} (G : Grid H0 H F ps g) (h : ∀ x, x < ps.length → g x = g' x) : Grid H0 H F ps g' :=
  ⟨G.ex, G.nF, G.at_, G.nd, G.Fps, G.new, fun x p hx => by rw [← h x (List.getElem?_eq_some_iff.mp hx).1]; exact G.row x p hx⟩
def natssD (l : List (List Nat)) : PyData := .list (l.map fun b => .list (natsD b))
theorem dpa_of {K : PySem.W.Frag} {H : Hp} : ∀ {vs : List V} {ds : List PyData}, vs.length = ds.length → (∀ (i : Nat) v d, vs[i]? = some v → ds[i]? = some d → Dp K H v d) → DpAll K H vs ds
  | [], [], _, _ => .nil
  | v :: vs, d :: ds, hl, h => .cons (h 0 v d rfl rfl) (dpa_of (by simpa using hl) fun i v' d' h1 h2 => h (i + 1) v' d' (by simpa using h1) (by simpa using h2))
  | [], _ :: _, hl, _ => by simp at hl
  | _ :: _, [], hl, _ => by simp at hl
theorem Grid.dp {K : PySem.W.Frag} {H0 H : Hp} {F : Addr} {ps : List Addr} {g : Nat → List Nat} (G : Grid H0 H F ps g) : Dp K H (.ref F) (natssD ((List.range ps.length).map g)) := by
  refine .lst (SqL.of G.at_) (dpa_of (by simp) fun i v d h1 h2 => ?_)
  rw [List.getElem?_map] at h1
  cases e : ps[i]? with
  | none => rw [e] at h1; cases h1
  | some p =>
    rw [e] at h1; cases h1
    have hi := (List.getElem?_eq_some_iff.mp e).1
    simp only [List.getElem?_map, List.getElem?_range hi, Option.map_some, Option.some.injEq] at h2
    subst h2
    exact .lst (SqL.of (G.row i p e)) (dpa_nats _)
section
variable {ta : TA} {vs : List Nat} {σ : L2.St} {H : Hp} {Q : VK} {j : Nat}
/-- [[] for x in range(n)] -/
theorem goE {n : Nat} (hta : ∀ R : List V → Hp → Prop, (∀ H1, Ex H H1 → R [.int (n : Int)] H1) → ta σ H R) (hz : n ≤ 90000) (hw : ∀ x, wipe ((wipe σ vs).set j (some x)) vs = wipe σ vs)
    (fin : ∀ D H' ps, Grid H H' D ps (fun _ => []) → ps.length = n → Q (.ref D) H') : tLc (iRng1 ta) (gName j) tYes (tLst tNil) vs σ H Q := by
  refine hta _ fun H1 e1 => ⟨n, rfl, by omega, by omega, fun D hD => lc_range (lo := 0) (n := n) (fun i H => ∃ ps, Grid H1 H D ps (fun _ => []) ∧ ps.length = i) ⟨[], ⟨Ex.new hD, hD, upd_same, List.nodup_nil, (fun h => nomatch h), (fun _ h => nomatch h), (fun x p h => by simp at h)⟩, rfl⟩ (fun i H hi p => ⟨hw _, ?_⟩) (fun H p => ?_)⟩
  · obtain ⟨ps, G, hl⟩ := p
    refine tyes ⟨(by show 0 ≤ sizeLine; decide), fun q hq => ?_⟩
    have e := Ex.new (o := .lst []) hq
    have G2 := G.mono e
    have nq : q ∉ ps := fun hm => by
      obtain ⟨k, hk⟩ := List.mem_iff_getElem?.mp hm
      rw [G.row k q hk] at hq; cases hq
    have nD : q ≠ D := fun z => by rw [z, G.at_] at hq; cases hq
    refine ⟨_, G2.at_, Evl.sz_lt (by rw [List.length_map]; omega), ps ++ [q], ⟨Ex.mut G2.ex hD, hD, by rw [upd_same, List.map_append]; rfl, ?_, ?_, ?_, ?_⟩, by simp [hl]⟩
    · exact List.nodup_append.mpr ⟨G.nd, by simp, fun a ha b hb => by rw [List.mem_singleton.mp hb]; exact fun z => nq (z ▸ ha)⟩
    · intro hm
      rcases List.mem_append.mp hm with h | h
      · exact G.Fps h
      · exact nD (List.mem_singleton.mp h).symm
    · intro p hp
      rcases List.mem_append.mp hp with h | h
      · exact G.new p h
      · rw [List.mem_singleton.mp h]; exact Evl.fresh_back G.ex hq
    · intro x p hx
      have hpD : p ≠ D := by
        have hm := List.mem_of_getElem? hx
        rcases List.mem_append.mp hm with h | h
        · exact fun z => G.Fps (z ▸ h)
        · rw [List.mem_singleton.mp h]; exact nD
      rw [upd_ne hpD]
      by_cases hlt : x < ps.length
      · rw [List.getElem?_append_left hlt] at hx
        exact G2.row x p hx
      · rw [List.getElem?_append_right (by omega)] at hx
        have : p = q := List.mem_singleton.mp (List.mem_of_getElem? hx)
        rw [this, upd_same]; rfl
  · obtain ⟨ps, G, hl⟩ := p
    exact fin D H ps ⟨e1.trans G.ex, Evl.fresh_back e1 G.nF, G.at_, G.nd, G.Fps, fun p hp => Evl.fresh_back e1 (G.new p hp), G.row⟩ hl
end
end Bg

set_option linter.all false
set_option maxRecDepth 100000
namespace Bg
open PySem

/-! ### the number of beads; which bags hold a bead -/
def lastN (b : List Nat) : Nat := b.getLastD 0
def topN (l : List Nat) : Nat := l.foldr max 0
def sz (fam : List (List Nat)) : Nat := topN (fam.map lastN) + 1
def homesAt (fam : List (List Nat)) (x i : Nat) : List Nat := (List.range i).filter fun k => decide (x ∈ fam.getD k [])
def homes (fam : List (List Nat)) : List (List Nat) := (List.range (sz fam)).map fun x => homesAt fam x fam.length
theorem le_topN : ∀ {l : List Nat} {x : Nat}, x ∈ l → x ≤ topN l
  | y :: l, x, h => by
    show x ≤ max y (topN l)
    rcases List.mem_cons.mp h with e | h
    · omega
    · have := le_topN h; omega
theorem topN_mem : ∀ {l : List Nat}, l ≠ [] → topN l ∈ l
  | [x], _ => by show max x 0 ∈ [x]; simp
  | x :: y :: l, _ => by
    have ih := topN_mem (l := y :: l) (by simp)
    show max x (topN (y :: l)) ∈ _
    rcases Nat.le_total x (topN (y :: l)) with h | h
    · rw [Nat.max_eq_right h]; exact List.mem_cons_of_mem _ ih
    · rw [Nat.max_eq_left h]; exact List.mem_cons_self
theorem le_last : ∀ {b : List Nat}, b.Pairwise (· < ·) → ∀ x ∈ b, x ≤ lastN b
  | [y], _, x, h => by
    have := List.mem_singleton.mp h
    subst this; exact Nat.le_refl _
  | y :: z :: b, p, x, h => by
    have ih := le_last (b := z :: b) (List.pairwise_cons.mp p).2
    have e : lastN (y :: z :: b) = lastN (z :: b) := rfl
    rw [e]
    rcases List.mem_cons.mp h with q | h
    · subst q
      have h1 := (List.pairwise_cons.mp p).1 z List.mem_cons_self
      have h2 := ih z List.mem_cons_self
      omega
    · exact ih x h
theorem last_mem : ∀ {b : List Nat}, b ≠ [] → lastN b ∈ b
  | [x], _ => List.mem_cons_self
  | x :: y :: b, _ => by
    have ih := last_mem (b := y :: b) (by simp)
    exact List.mem_cons_of_mem _ ih
theorem lt_sz {fam : List (List Nat)} {b : List Nat} {x : Nat} (g : GoodBags fam) (hb : b ∈ fam) (hx : x ∈ b) : x < sz fam := by
  have h1 := le_last (g.bag b hb).up x hx
  have h2 : lastN b ≤ topN (fam.map lastN) := le_topN (List.mem_map_of_mem hb)
  unfold sz; omega
theorem top_in {fam : List (List Nat)} (g : GoodBags fam) : ∃ b ∈ fam, sz fam - 1 ∈ b := by
  have h1 := topN_mem (l := fam.map lastN) (by have := g.ne; cases fam <;> simp at this ⊢)
  obtain ⟨b, hb, e⟩ := List.mem_map.mp h1
  refine ⟨b, hb, ?_⟩
  have h2 : lastN b ∈ b := last_mem (by have := (g.bag b hb).two; intro z; subst z; simp at this)
  have : sz fam - 1 = lastN b := by unfold sz; omega
  rw [this]; exact h2
theorem sz_le {fam : List (List Nat)} (g : GoodBags fam) : sz fam ≤ 60 := by
  obtain ⟨b, hb, h⟩ := top_in g
  have := (g.bag b hb).lt _ h
  omega
theorem homesAt_succ (fam : List (List Nat)) (x i : Nat) : homesAt fam x (i + 1) = homesAt fam x i ++ if x ∈ fam.getD i [] then [i] else [] := by
  unfold homesAt
  rw [List.range_succ, List.filter_append]
  congr 1
  by_cases h : x ∈ fam.getD i []
  · rw [if_pos h, List.filter_cons, if_pos (by simpa using h)]; rfl
  · rw [if_neg h, List.filter_cons, if_neg (by simpa using h)]; rfl
theorem GoodBag.nd {b : List Nat} (g : GoodBag b) : b.Nodup := g.up.imp fun h => Nat.ne_of_lt h
theorem two_le_sz {fam : List (List Nat)} (g : GoodBags fam) : 2 ≤ sz fam := by
  obtain ⟨b, hb, h⟩ := top_in g
  have gb := g.bag b hb
  match b, gb.two, gb.up with
  | x :: y :: r, _, p =>
    have h1 := (List.pairwise_cons.mp p).1 y List.mem_cons_self
    have h2 := lt_sz g hb (x := y) (by simp)
    omega
end Bg

set_option linter.all false
set_option maxRecDepth 100000
namespace Bg
open PySem
def sharedN (b c : List Nat) : List Nat := b.filter fun x => decide (x ∈ c)
/-- bags that hang together with the bag first -/
inductive Rch (fam : List (List Nat)) (first : Nat) : Nat → Prop
  | base : Rch fam first first
  | step {i j x : Nat} : Rch fam first i → x ∈ fam.getD i [] → x ∈ fam.getD j [] → j < fam.length → Rch fam first j
/-- what is asked of the bags of a family -/
structure Valid (fam : List (List Nat)) : Prop where
  cover : ∀ x, x < sz fam → ∃ b ∈ fam, x ∈ b
  pair : ∀ i j, i < j → j < fam.length → (sharedN (fam.getD i []) (fam.getD j [])).length ≤ 1
  conn : ∀ i, i < fam.length → Rch fam 0 i
  sum : (fam.map fun b => b.length - 1).sum ≤ sz fam - 1
theorem Rch.lt {fam : List (List Nat)} {first i : Nat} (r : Rch fam first i) (h : first < fam.length) : i < fam.length := by
  cases r with
  | base => exact h
  | step _ _ _ h => exact h
theorem gs_ne {α : Type} {l : List α} {i j : Nat} {v : α} {w : Option α} (h : i ≠ j) (e : l[j]? = w) : (l.set i v)[j]? = w := by rw [List.getElem?_set_ne h]; exact e
theorem gs_eq {α : Type} {l : List α} {i : Nat} {v : α} (h : i < l.length) : (l.set i v)[i]? = some v := List.getElem?_set_self h
theorem homes_nil {fam : List (List Nat)} {x : Nat} (h : homesAt fam x fam.length = []) : ¬ ∃ b ∈ fam, x ∈ b := by
  rintro ⟨b, hb, hx⟩
  obtain ⟨i, hi⟩ := List.mem_iff_getElem?.mp hb
  have hl := (List.getElem?_eq_some_iff.mp hi).1
  have : i ∈ homesAt fam x fam.length := by
    unfold homesAt
    refine List.mem_filter.mpr ⟨List.mem_range.mpr hl, ?_⟩
    rw [List.getD_eq_getElem?_getD, hi]; simpa using hx
  rw [h] at this
  cases this
theorem homes_ne {fam : List (List Nat)} {x : Nat} (h : homesAt fam x fam.length ≠ []) : ∃ b ∈ fam, x ∈ b := by
  obtain ⟨i, hi⟩ := List.exists_mem_of_ne_nil _ h
  unfold homesAt at hi
  obtain ⟨h1, h2⟩ := List.mem_filter.mp hi
  have hl := List.mem_range.mp h1
  refine ⟨fam[i], List.getElem_mem hl, ?_⟩
  rw [List.getD_eq_getElem?_getD, List.getElem?_eq_getElem hl] at h2
  simpa using h2
theorem sum_cast : ∀ l : List Nat, ((l.map fun n : Nat => (n : Int)).sum) = ((l.sum : Nat) : Int)
  | [] => rfl
  | x :: l => by rw [List.map_cons, List.sum_cons, List.sum_cons, sum_cast l]; omega
theorem homes_len (fam : List (List Nat)) : (homes fam).length = sz fam := by unfold homes; simp
end Bg

set_option Elab.async false
set_option linter.all false
set_option maxRecDepth 100000
set_option maxHeartbeats 1000000
/-! more rules with the written part named -/
namespace Bg
open PySem PySem.Spec PyProof.Rows L2
open Evl (Ex)
section
variable {X : Cx} {K : PySem.W.Frag} {o e : Expr} {to te : TE}
def rJoinB (K : PySem.W.Frag) (x : V) (xs : List V) (H : Hp) (Q : VK) : Prop := ∃ (a : Str) (p : Addr) (ys : List Str), x = .str a ∧ xs = [.ref p] ∧ (SqL K H p (ys.map V.str) ∨ SqT K H p (ys.map V.str)) ∧
  (ys.map (·.length)).sum + ys.length * a.length ≤ 16777216 ∧ Q (.str (Txt.join a ys)) H
theorem pe_joinB {apos pos : Pos} (ho : PE X o to) (he : PE X e te) (h : X.K = K := by rfl) (hs : starEach [e] X.env = [(false, eval e X.env)] := by rfl) (hbase : attributeBase o "join" X.env (eval o X.env) = eval o X.env := by rfl) (hline : (apos.endLine == pos.line) = true := by rfl) :
    PE X (.Call (.Attribute o "join" apos) [e] [] pos) (tM1 (rJoinB K) to te) := by
  subst h
  exact pe_join ho he hs hbase hline
end
end Bg

set_option linter.all false
set_option maxRecDepth 100000
namespace Bg
open PySem
/-! ### sorted rows and families -/
def sortN (b : List Nat) : List Nat := b.mergeSort fun x y => decide (x ≤ y)
def leB (b c : List Nat) : Bool := !decide (c < b)
def sortF (rows : List (List Nat)) : List (List Nat) := rows.mergeSort leB
def nameB (names b : List Nat) : List Nat := sortN (b.map fun x => names.getD x 0)
def namedF (bags : List (List Nat)) (names : List Nat) : List (List Nat) := sortF (bags.map (nameB names))
theorem sortN_perm (b : List Nat) : (sortN b).Perm b := List.mergeSort_perm _ _
theorem sortN_le (b : List Nat) : (sortN b).Pairwise (· ≤ ·) := by
  have h := List.pairwise_mergeSort (le := fun x y : Nat => decide (x ≤ y)) (fun a b c h1 h2 => by simp at h1 h2 ⊢; omega) (fun a b => by simp; omega) b
  exact h.imp fun h => by simpa using h
theorem leB_trans (a b c : List Nat) (h1 : leB a b = true) (h2 : leB b c = true) : leB a c = true := by
  unfold leB at *
  simp only [Bool.not_eq_true', decide_eq_false_iff_not] at *
  exact List.le_trans (α := Nat) h1 h2
theorem leB_total (a b : List Nat) : (leB a b || leB b a) = true := by
  unfold leB
  by_cases h : b < a
  · have : ¬ a < b := fun h2 => List.lt_irrefl a (List.lt_trans h2 h)
    simp [this]
  · simp [h]
theorem sortF_perm (b : List (List Nat)) : (sortF b).Perm b := List.mergeSort_perm _ _
theorem sortF_le (b : List (List Nat)) : (sortF b).Pairwise fun x y => ¬ y < x := by
  have h := List.pairwise_mergeSort (le := leB) leB_trans leB_total b
  exact h.imp fun h => by unfold leB at h; simpa using h
theorem sort_nats (b : List Nat) {α : Type} (f : Nat → α) : ((b.map fun n => (f n, PyData.int (n : Int))).mergeSort (W.dataLe false (·.2))).map (·.1) = (sortN b).map f := by
  have h := List.map_mergeSort (r := fun x y : Nat => decide (x ≤ y)) (s := W.dataLe false (fun z : α × PyData => z.2)) (f := fun n : Nat => (f n, PyData.int (n : Int))) (l := b) (fun x _ y _ => by
    have e := W.dataLe_int (fun n : Nat => (n : Int))
    have e2 := congrFun (congrFun e x) y
    show decide (x ≤ y) = W.dataLe false (fun z : α × PyData => z.2) (f x, .int x) (f y, .int y)
    have e3 : W.dataLe false (fun z : α × PyData => z.2) (f x, .int x) (f y, .int y) = W.dataLe false (fun n : Nat => PyData.int (n : Int)) x y := rfl
    rw [e3, e2]
    exact decide_eq_decide.mpr (by omega))
  rw [← h, List.map_map]
  rfl
theorem sort_bags {α : Type} (zs : List (α × PyData)) (rows : List (List Nat)) (hz : zs.map (·.2) = rows.map bagD) : (zs.mergeSort (W.dataLe false (·.2))).map (·.2) = (sortF rows).map bagD := by
  have h1 := List.map_mergeSort (r := W.dataLe false (fun z : α × PyData => z.2)) (s := W.dataLe false (fun d : PyData => d)) (f := fun z : α × PyData => z.2) (l := zs) (fun _ _ _ _ => rfl)
  have h2 := List.map_mergeSort (r := leB) (s := W.dataLe false (fun d : PyData => d)) (f := bagD) (l := rows) (fun b _ c _ => by
    rw [W.dataLe_eq]
    show leB b c = !W.dataLt (bagD c) (bagD b)
    rw [dataLt_bag]; rfl)
  rw [h1, hz, ← h2]; rfl
theorem allAlike_nats (b : List Nat) : W.AllAlike (natsD b) := by
  intro d hd e he
  obtain ⟨x, _, rfl⟩ := List.mem_map.mp hd
  obtain ⟨y, _, rfl⟩ := List.mem_map.mp he
  rfl
theorem sortable_nats (b : List Nat) : W.Sortable (natsD b) := by
  refine .inr fun d hd => ?_
  obtain ⟨x, _, rfl⟩ := List.mem_map.mp hd
  exact ⟨(fun z => nomatch z), (fun _ z => nomatch z)⟩
theorem allAlike_bags (f : List (List Nat)) : W.AllAlike (f.map bagD) := by
  intro d hd e he
  obtain ⟨x, _, rfl⟩ := List.mem_map.mp hd
  obtain ⟨y, _, rfl⟩ := List.mem_map.mp he
  exact alike_bag x y
theorem sortable_bags (f : List (List Nat)) (h : ∀ b ∈ f, b ≠ []) : W.Sortable (f.map bagD) := by
  refine .inl fun d hd => ?_
  obtain ⟨x, hx, rfl⟩ := List.mem_map.mp hd
  cases x with
  | nil => exact absurd rfl (h _ hx)
  | cons y r => exact ⟨_, _, rfl⟩
theorem nameB_perm (names b : List Nat) : (nameB names b).Perm (b.map fun x => names.getD x 0) := sortN_perm _
theorem nameB_len (names b : List Nat) : (nameB names b).length = b.length := by rw [(nameB_perm names b).length_eq, List.length_map]
/-! ### trees of bags -/
/-- two bags have at most one bead in both -/
def Few (b c : List Nat) : Prop := ∀ x y, x ∈ b → x ∈ c → y ∈ b → y ∈ c → x = y
theorem Few.symm {b c : List Nat} (h : Few b c) : Few c b := fun x y h1 h2 h3 h4 => h x y h2 h1 h4 h3
structure Tree (n : Nat) (B : List (List Nat)) : Prop where
  lt : ∀ b ∈ B, ∀ x ∈ b, x < n
  cover : ∀ x, x < n → ∃ b ∈ B, x ∈ b
  nd : ∀ b ∈ B, b.Nodup
  two : ∀ b ∈ B, 2 ≤ b.length
  few : B.Pairwise Few
  sum : (B.map fun b => b.length - 1).sum = n - 1
  conn : ∀ S : Nat → Prop, (∀ b ∈ B, ∀ x ∈ b, S x → ∀ y ∈ b, S y) → (∃ x, x < n ∧ S x) → ∀ x, x < n → S x
theorem Tree.perm {n : Nat} {B C : List (List Nat)} (p : B.Perm C) (t : Tree n B) : Tree n C where
  lt := fun b hb => t.lt b (p.mem_iff.mpr hb)
  cover := fun x hx => by obtain ⟨b, hb, h⟩ := t.cover x hx; exact ⟨b, p.mem_iff.mp hb, h⟩
  nd := fun b hb => t.nd b (p.mem_iff.mpr hb)
  two := fun b hb => t.two b (p.mem_iff.mpr hb)
  few := (p.pairwise_iff fun h => Few.symm h).mp t.few
  sum := by rw [← t.sum]; exact ((p.map _).sum_nat).symm
  conn := fun S h => t.conn S fun b hb => h b (p.mem_iff.mp hb)
theorem in01 {x : Nat} (h : x < 2) : x ∈ [0, 1] := by
  have : x = 0 ∨ x = 1 := by omega
  simpa using this
theorem tree_start : Tree 2 [[0, 1]] where
  lt := by simp
  cover := fun x hx => ⟨[0, 1], by simp, in01 hx⟩
  nd := by simp
  two := by simp
  few := by simp
  sum := rfl
  conn := fun S h ⟨x, hx, sx⟩ y hy => h [0, 1] (by simp) x (in01 hx) sx y (in01 hy)
/-- a new bag of an old bead and the new one -/
theorem Tree.bag {n t : Nat} {B : List (List Nat)} (T : Tree n B) (ht : t < n) : Tree (n + 1) (B ++ [[t, n]]) where
  lt := fun b hb x hx => by
    rcases List.mem_append.mp hb with hb | hb
    · have := T.lt b hb x hx; omega
    · rw [List.mem_singleton.mp hb] at hx; simp at hx; omega
  cover := fun x hx => by
    by_cases e : x = n
    · exact ⟨[t, n], by simp, by simp [e]⟩
    · obtain ⟨b, hb, h⟩ := T.cover x (by omega)
      exact ⟨b, List.mem_append_left _ hb, h⟩
  nd := fun b hb => by
    rcases List.mem_append.mp hb with hb | hb
    · exact T.nd b hb
    · rw [List.mem_singleton.mp hb]; simp; omega
  two := fun b hb => by
    rcases List.mem_append.mp hb with hb | hb
    · exact T.two b hb
    · rw [List.mem_singleton.mp hb]; simp
  few := List.pairwise_append.mpr ⟨T.few, by simp, fun b hb c hc x y h1 h2 h3 h4 => by
    rw [List.mem_singleton.mp hc] at h2 h4
    have l1 := T.lt b hb x h1
    have l2 := T.lt b hb y h3
    simp at h2 h4
    omega⟩
  sum := by rw [List.map_append, List.sum_append, T.sum]; simp; omega
  conn := fun S h ⟨x, hx, sx⟩ => by
    have hB : ∀ b ∈ B, ∀ x ∈ b, S x → ∀ y ∈ b, S y := fun b hb => h b (List.mem_append_left _ hb)
    have hn := h [t, n] (by simp)
    have hall : ∀ y, y < n → S y := by
      by_cases e : x = n
      · exact T.conn S hB ⟨t, ht, hn n (by simp) (e ▸ sx) t (by simp)⟩
      · exact T.conn S hB ⟨x, by omega, sx⟩
    intro y hy
    by_cases e : y = n
    · exact hn t (by simp) (hall t ht) y (by simp [e])
    · exact hall y (by omega)
/-- the new bead laid into a bag -/
theorem Tree.into {n : Nat} {b : List Nat} {A C : List (List Nat)} (T : Tree n (A ++ b :: C)) : Tree (n + 1) (A ++ (b ++ [n]) :: C) := by
  have hmem : ∀ c, c ∈ A ++ (b ++ [n]) :: C → c ∈ A ++ b :: C ∨ c = b ++ [n] := fun c hc => by
    rcases List.mem_append.mp hc with h | h
    · exact .inl (List.mem_append_left _ h)
    · rcases List.mem_cons.mp h with h | h
      · exact .inr h
      · exact .inl (List.mem_append_right _ (List.mem_cons_of_mem _ h))
  have hb : b ∈ A ++ b :: C := by simp
  have hn : n ∉ b := fun h => Nat.lt_irrefl n (T.lt b hb n h)
  have hnA : ∀ c ∈ A ++ b :: C, n ∉ c := fun c hc h => Nat.lt_irrefl n (T.lt c hc n h)
  have ne : b ≠ [] := fun z => by have := T.two b hb; rw [z] at this; simp at this
  have few2 : ∀ c ∈ A ++ b :: C, Few b c → Few (b ++ [n]) c := fun c hc f x y h1 h2 h3 h4 => by
    have l1 := T.lt c hc x h2
    have l2 := T.lt c hc y h4
    refine f x y ?_ h2 ?_ h4
    · rcases List.mem_append.mp h1 with h | h
      · exact h
      · have := List.mem_singleton.mp h; omega
    · rcases List.mem_append.mp h3 with h | h
      · exact h
      · have := List.mem_singleton.mp h; omega
  refine ⟨fun c hc x hx => ?_, fun x hx => ?_, fun c hc => ?_, fun c hc => ?_, ?_, ?_, fun S h ⟨x, hx, sx⟩ => ?_⟩
  · rcases hmem c hc with h | h
    · have := T.lt c h x hx; omega
    · rw [h] at hx
      rcases List.mem_append.mp hx with h | h
      · have := T.lt b hb x h; omega
      · have := List.mem_singleton.mp h; omega
  · by_cases e : x = n
    · exact ⟨b ++ [n], by simp, by simp [e]⟩
    · obtain ⟨c, hc, h⟩ := T.cover x (by omega)
      rcases List.mem_append.mp hc with q | q
      · exact ⟨c, List.mem_append_left _ q, h⟩
      · rcases List.mem_cons.mp q with q | q
        · exact ⟨b ++ [n], by simp, by rw [q] at h; simp [h]⟩
        · exact ⟨c, List.mem_append_right _ (List.mem_cons_of_mem _ q), h⟩
  · rcases hmem c hc with h | h
    · exact T.nd c h
    · rw [h]
      exact List.nodup_append.mpr ⟨T.nd b hb, by simp, fun x hx y hy => by rw [List.mem_singleton.mp hy]; exact fun z => hn (z ▸ hx)⟩
  · rcases hmem c hc with h | h
    · exact T.two c h
    · rw [h]; have := T.two b hb; rw [List.length_append]; omega
  · obtain ⟨p1, p2, p3⟩ := List.pairwise_append.mp T.few
    obtain ⟨p4, p5⟩ := List.pairwise_cons.mp p2
    refine List.pairwise_append.mpr ⟨p1, List.pairwise_cons.mpr ⟨fun c hc => few2 c (List.mem_append_right _ (List.mem_cons_of_mem _ hc)) (p4 c hc), p5⟩, fun a ha c hc => ?_⟩
    rcases List.mem_cons.mp hc with q | q
    · rw [q]; exact (few2 a (List.mem_append_left _ ha) (p3 a ha b (by simp)).symm).symm
    · exact p3 a ha c (List.mem_cons_of_mem _ q)
  · have := T.sum
    have h2 := T.two b hb
    rw [List.map_append, List.sum_append, List.map_cons, List.sum_cons] at this ⊢
    rw [List.length_append, List.length_singleton]
    omega
  · have hB : ∀ c ∈ A ++ b :: C, ∀ x ∈ c, S x → ∀ y ∈ c, S y := fun c hc x hx sx y hy => by
      rcases List.mem_append.mp hc with q | q
      · exact h c (List.mem_append_left _ q) x hx sx y hy
      · rcases List.mem_cons.mp q with q | q
        · exact h (b ++ [n]) (by simp) x (by rw [q] at hx; simp [hx]) sx y (by rw [q] at hy; simp [hy])
        · exact h c (List.mem_append_right _ (List.mem_cons_of_mem _ q)) x hx sx y hy
    have hbn := h (b ++ [n]) (by simp)
    obtain ⟨z, hz⟩ := List.exists_mem_of_ne_nil b ne
    have hzn := T.lt b hb z hz
    have hall : ∀ y, y < n → S y := by
      by_cases e : x = n
      · exact T.conn S hB ⟨z, hzn, hbn n (by simp) (e ▸ sx) z (by simp [hz])⟩
      · exact T.conn S hB ⟨x, by omega, sx⟩
    intro y hy
    by_cases e : y = n
    · exact hbn z (by simp [hz]) (hall z hzn) y (by simp [e])
    · exact hall y (by omega)
end Bg

set_option linter.all false
set_option maxRecDepth 100000
namespace Bg
open PySem
section
variable {n : Nat} {names : List Nat} (p : names.Perm (List.range n))
include p
theorem names_len : names.length = n := by rw [p.length_eq, List.length_range]
theorem names_lt {x : Nat} (h : x < n) : names.getD x 0 < n := by
  have hl := names_len p
  rw [List.getD_eq_getElem?_getD, List.getElem?_eq_getElem (by omega)]
  exact List.mem_range.mp (p.mem_iff.mp (List.getElem_mem _))
theorem names_inj {x y : Nat} (hx : x < n) (hy : y < n) (h : names.getD x 0 = names.getD y 0) : x = y := by
  have hl := names_len p
  have nd : names.Nodup := p.nodup_iff.mpr List.nodup_range
  rw [List.getD_eq_getElem?_getD, List.getElem?_eq_getElem (by omega), List.getD_eq_getElem?_getD, List.getElem?_eq_getElem (by omega)] at h
  have pw := List.pairwise_iff_getElem.mp nd
  rcases Nat.lt_trichotomy x y with c | c | c
  · exact absurd h (pw x y (by omega) (by omega) c)
  · exact c
  · exact absurd h.symm (pw y x (by omega) (by omega) c)
theorem names_onto {y : Nat} (hy : y < n) : ∃ x, x < n ∧ names.getD x 0 = y := by
  have hl := names_len p
  have : y ∈ names := p.mem_iff.mpr (List.mem_range.mpr hy)
  obtain ⟨x, hx, e⟩ := List.getElem_of_mem this
  refine ⟨x, by omega, ?_⟩
  rw [List.getD_eq_getElem?_getD, List.getElem?_eq_getElem hx]; exact e
omit p in
theorem mem_nameB {b : List Nat} {y : Nat} : y ∈ nameB names b ↔ ∃ x ∈ b, names.getD x 0 = y := by
  rw [(nameB_perm names b).mem_iff, List.mem_map]
theorem Tree.rename {B : List (List Nat)} (T : Tree n B) : Tree n (B.map (nameB names)) where
  lt := fun c hc y hy => by
    obtain ⟨b, hb, rfl⟩ := List.mem_map.mp hc
    obtain ⟨x, hx, rfl⟩ := mem_nameB.mp hy
    exact names_lt p (T.lt b hb x hx)
  cover := fun y hy => by
    obtain ⟨x, hx, rfl⟩ := names_onto p hy
    obtain ⟨b, hb, h⟩ := T.cover x hx
    exact ⟨_, List.mem_map_of_mem hb, mem_nameB.mpr ⟨x, h, rfl⟩⟩
  nd := fun c hc => by
    obtain ⟨b, hb, rfl⟩ := List.mem_map.mp hc
    refine (nameB_perm names b).nodup_iff.mpr (List.pairwise_map.mpr ((T.nd b hb).imp_of_mem fun {x y} hx hy ne e => ne (names_inj p (T.lt b hb x hx) (T.lt b hb y hy) e)))
  two := fun c hc => by
    obtain ⟨b, hb, rfl⟩ := List.mem_map.mp hc
    rw [nameB_len]; exact T.two b hb
  few := List.pairwise_map.mpr (T.few.imp_of_mem fun {b c} hb hc f x y h1 h2 h3 h4 => by
    obtain ⟨x1, a1, e1⟩ := mem_nameB.mp h1
    obtain ⟨x2, a2, e2⟩ := mem_nameB.mp h2
    obtain ⟨y1, a3, e3⟩ := mem_nameB.mp h3
    obtain ⟨y2, a4, e4⟩ := mem_nameB.mp h4
    have q1 := names_inj p (T.lt b hb x1 a1) (T.lt c hc x2 a2) (e1.trans e2.symm)
    have q2 := names_inj p (T.lt b hb y1 a3) (T.lt c hc y2 a4) (e3.trans e4.symm)
    subst q1 q2
    rw [← e1, ← e3, f x1 y1 a1 a2 a3 a4])
  sum := by
    rw [List.map_map, ← T.sum]
    refine congrArg List.sum (List.map_congr_left fun b _ => ?_)
    show (nameB names b).length - 1 = b.length - 1
    rw [nameB_len]
  conn := fun S h ⟨y, hy, sy⟩ => by
    obtain ⟨x, hx, rfl⟩ := names_onto p hy
    have := T.conn (fun z => S (names.getD z 0)) (fun b hb u hu su v hv => h _ (List.mem_map_of_mem hb) _ (mem_nameB.mpr ⟨u, hu, rfl⟩) su _ (mem_nameB.mpr ⟨v, hv, rfl⟩)) ⟨x, hx, sy⟩
    intro z hz
    obtain ⟨u, hu, rfl⟩ := names_onto p hz
    exact this u hu
end
theorem few_shared {b c : List Nat} (nd : b.Nodup) (f : Few b c) : (sharedN b c).length ≤ 1 := by
  have h1 : (sharedN b c).Nodup := List.Pairwise.filter _ nd
  have h2 : ∀ x y, x ∈ sharedN b c → y ∈ sharedN b c → x = y := fun x y hx hy => by
    unfold sharedN at hx hy
    obtain ⟨a1, a2⟩ := List.mem_filter.mp hx
    obtain ⟨a3, a4⟩ := List.mem_filter.mp hy
    exact f x y a1 (of_decide_eq_true a2) a3 (of_decide_eq_true a4)
  match h : sharedN b c with
  | [] => simp
  | [x] => simp
  | x :: y :: r =>
    rw [h] at h1 h2
    have := h2 x y (by simp) (by simp)
    subst this
    simp at h1
/-- a sorted tree of bags is a family -/
theorem Tree.family {n : Nat} {fam : List (List Nat)} (T : Tree n fam) (n1 : 1 ≤ n) (n60 : n ≤ 60) (hs : fam.Pairwise fun x y => ¬ y < x) (hb : ∀ b ∈ fam, b.Pairwise (· ≤ ·)) : GoodBags fam ∧ Valid fam ∧ sz fam = n := by
  have g : GoodBags fam := by
    refine ⟨fun e => ?_, fun b h => ⟨T.two b h, ?_, fun x hx => ?_⟩, ?_⟩
    · obtain ⟨b, h, _⟩ := T.cover 0 (by omega)
      rw [e] at h; cases h
    · exact (hb b h).imp₂ (fun a c h1 h2 => by omega) (T.nd b h)
    · have := T.lt b h x hx; omega
    · refine (hs.and T.few).imp_of_mem fun {x y} hx hy h => ?_
      obtain ⟨h1, h2⟩ := h
      have hxy : x ≠ y := fun e => by
        subst e
        have h3 := T.two x hx
        have h4 := T.nd x hx
        match x, h3, h4, h2 with
        | u :: v :: r, _, h4, h2 =>
          have := h2 u v (by simp) (by simp) (by simp) (by simp)
          subst this
          simp at h4
      exact Decidable.byContradiction fun h3 => hxy (List.le_antisymm (α := Nat) h1 h3)
  have hz : sz fam = n := by
    obtain ⟨b, hb1, hb2⟩ := top_in g
    have h1 := T.lt b hb1 _ hb2
    obtain ⟨c, hc1, hc2⟩ := T.cover (n - 1) (by omega)
    have h2 := lt_sz g hc1 hc2
    omega
  refine ⟨g, ⟨fun x hx => T.cover x (by omega), fun i j hij hj => ?_, fun i hi => ?_, by rw [T.sum, hz]; exact Nat.le_refl _⟩, hz⟩
  · have ei : fam.getD i [] = fam[i] := by rw [List.getD_eq_getElem?_getD, List.getElem?_eq_getElem (by omega)]; rfl
    have ej : fam.getD j [] = fam[j] := by rw [List.getD_eq_getElem?_getD, List.getElem?_eq_getElem hj]; rfl
    rw [ei, ej]
    exact few_shared (T.nd _ (List.getElem_mem _)) (List.pairwise_iff_getElem.mp T.few i j (by omega) hj hij)
  · have h0 : 0 < fam.length := by have := g.ne; cases fam <;> simp at this ⊢
    have e0 : fam.getD 0 [] = fam[0] := by rw [List.getD_eq_getElem?_getD, List.getElem?_eq_getElem h0]; rfl
    have ei : fam.getD i [] = fam[i] := by rw [List.getD_eq_getElem?_getD, List.getElem?_eq_getElem hi]; rfl
    have ne : ∀ b ∈ fam, ∃ x, x ∈ b := fun b hb => List.exists_mem_of_ne_nil b fun z => by have := T.two b hb; rw [z] at this; simp at this
    obtain ⟨x0, hx0⟩ := ne fam[0] (List.getElem_mem _)
    obtain ⟨xi, hxi⟩ := ne fam[i] (List.getElem_mem _)
    have := T.conn (fun x => ∃ k, Rch fam 0 k ∧ x ∈ fam.getD k []) (fun b hb x hx ⟨k, rk, hk⟩ y hy => by
      obtain ⟨j, hj⟩ := List.mem_iff_getElem?.mp hb
      have hjl := (List.getElem?_eq_some_iff.mp hj).1
      have ej : fam.getD j [] = b := by rw [List.getD_eq_getElem?_getD, hj]; rfl
      exact ⟨j, .step rk hk (by rw [ej]; exact hx) hjl, by rw [ej]; exact hy⟩) ⟨x0, T.lt _ (List.getElem_mem _) x0 hx0, 0, .base, by rw [e0]; exact hx0⟩ xi (T.lt _ (List.getElem_mem _) xi hxi)
    obtain ⟨k, rk, hk⟩ := this
    exact .step rk hk (by rw [ei]; exact hxi) hi
theorem Tree.len {n : Nat} {fam : List (List Nat)} (T : Tree n fam) : fam.length ≤ n - 1 := by
  rw [← T.sum]
  have h := T.two
  clear T
  induction fam with
  | nil => simp
  | cons b f ih =>
    have h1 := h b (by simp)
    have h2 := ih fun c hc => h c (List.mem_cons_of_mem _ hc)
    rw [List.length_cons, List.map_cons, List.sum_cons]
    omega
/-- the names laid, sorted -/
theorem Tree.named {n : Nat} {names : List Nat} {B : List (List Nat)} (p : names.Perm (List.range n)) (T : Tree n B) (n1 : 1 ≤ n) (n60 : n ≤ 60) :
    GoodBags (namedF B names) ∧ Valid (namedF B names) ∧ sz (namedF B names) = n ∧ Tree n (namedF B names) := by
  have T2 := (T.rename p).perm (sortF_perm _).symm
  have := T2.family n1 n60 (sortF_le _) fun b hb => by
    have hb := (sortF_perm _).mem_iff.mp hb
    obtain ⟨c, _, rfl⟩ := List.mem_map.mp hb
    exact sortN_le _
  exact ⟨this.1, this.2.1, this.2.2, T2⟩
end Bg

set_option Elab.async false
set_option linter.all false
set_option maxRecDepth 100000
set_option maxHeartbeats 1000000
/-! the row of a law: a list that is written, all else kept -/
namespace Bg
open PySem PySem.Spec PyProof.Rows L2
open Evl (Ex)
/-- all but what lies at R is kept -/
structure Kr (R : Addr) (H H' : Hp) : Prop where
  k : ∀ a o, a ≠ R → H a = some o → H' a = some o
theorem Kr.refl (R : Addr) (H : Hp) : Kr R H H := ⟨fun _ _ _ h => h⟩
theorem Kr.trans {R : Addr} {H H1 H2 : Hp} (a : Kr R H H1) (b : Kr R H1 H2) : Kr R H H2 := ⟨fun c o n h => b.k c o n (a.k c o n h)⟩
theorem Kr.of {R : Addr} {H H' : Hp} (e : Ex H H') : Kr R H H' := ⟨fun a _ _ h => e a _ h⟩
theorem Kr.upd {R : Addr} {H : Hp} {o : HO} : Kr R H (upd H R o) := ⟨fun a _ n h => by rw [upd_ne n]; exact h⟩
theorem Kr.fresh {R a : Addr} {H H' : Hp} (e : Kr R H H') (n : a ≠ R) (h : H' a = none) : H a = none := by
  cases e1 : H a with
  | none => rfl
  | some o => rw [e.k a o n e1] at h; cases h
theorem Kr.kt {R : Addr} {H H' : Hp} {xs : List V} (e : Kr R H H') (h : H R = some (.lst xs)) : Kt H H' :=
  ⟨fun a ys q => e.k a _ (fun z => by rw [z, h] at q; cases q) q, fun a o u q => e.k a _ (fun z => by rw [z, h] at q; cases q) q⟩
theorem Kr.sql {K : PySem.W.Frag} {R a : Addr} {H H' : Hp} {xs ys : List V} (e : Kr R H H') (h : H R = some (.lst xs)) (n : a ≠ R) (q : SqL K H a ys) : SqL K H' a ys := by
  rcases q with (q | ⟨o, q⟩) | q
  · exact .inl (.inl (e.k _ _ n q))
  · exact .inl (.inr ⟨o, e.k _ _ n q⟩)
  · exact .inr q
/-- the row: the script, how far, the two numbers -/
structure Row (K : PySem.W.Frag) (H : Hp) (R S : Addr) (sc : List Int) : Prop where
  ex : ∃ (i : Nat) (s d : Int), H R = some (.lst [.ref S, .int i, .int s, .int d])
  ne : S ≠ R ∨ ∀ H' : Hp, SqL K H' S (sc.map V.int)
  sq : SqL K H S (sc.map V.int)
/-- the script is still there: it is not the row, or it is the written part's own -/
theorem Row.sql {K : PySem.W.Frag} {R S : Addr} {H H2 : Hp} {sc : List Int} (r : Row K H R S sc) (k : Kr R H H2) : SqL K H2 S (sc.map V.int) := by
  obtain ⟨_, _, _, hR⟩ := r.ex
  exact r.ne.elim (fun n => k.sql hR n r.sq) fun h => h _
theorem Row.kt {K : PySem.W.Frag} {R S : Addr} {H H' : Hp} {sc : List Int} (r : Row K H R S sc) (e : Kr R H H') : Kt H H' := by
  obtain ⟨i, s, d, h⟩ := r.ex
  exact e.kt h
theorem Row.ext {K : PySem.W.Frag} {R S : Addr} {H H' : Hp} {sc : List Int} (r : Row K H R S sc) (e : Ex H H') : Row K H' R S sc := by
  obtain ⟨i, s, d, h⟩ := r.ex
  exact ⟨⟨i, s, d, e _ _ h⟩, r.ne, Evl.ex_l e r.sq⟩
theorem Row.put {K : PySem.W.Frag} {R S : Addr} {H : Hp} {sc : List Int} (r : Row K H R S sc) (i : Nat) (s d : Int) : Row K (upd H R (.lst [.ref S, .int i, .int s, .int d])) R S sc := by
  obtain ⟨_, _, _, h⟩ := r.ex
  exact ⟨⟨i, s, d, upd_same⟩, r.ne, r.sql Kr.upd⟩
theorem Row.of {K : PySem.W.Frag} {R S : Addr} {H H2 : Hp} {sc : List Int} (r : Row K H R S sc) (k : Kr R H H2) (h : ∃ (i : Nat) (s d : Int), H2 R = some (.lst [.ref S, .int i, .int s, .int d])) : Row K H2 R S sc := by
  obtain ⟨_, _, _, hR⟩ := r.ex
  exact ⟨h, r.ne, r.sql k⟩
theorem erase_perm {α : Type} : ∀ {L : List α} {i : Nat} {y : α}, L[i]? = some y → (y :: L.eraseIdx i).Perm L
  | x :: L, 0, y, h => by simp at h; subst h; exact .refl _
  | x :: L, i + 1, y, h => by
    have ih := erase_perm (L := L) (i := i) (y := y) (by simpa using h)
    rw [List.eraseIdx_cons_succ]
    exact (List.Perm.swap x y _).trans (ih.cons x)
theorem mod_nat {m : Nat} (h : 0 < m) (i : Int) : ∃ n : Nat, n < m ∧ i % (m : Int) = n := by
  have h1 : 0 ≤ i % (m : Int) := Int.emod_nonneg i (by omega)
  have h2 : i % (m : Int) < (m : Int) := Int.emod_lt_of_pos i (by omega)
  exact ⟨(i % (m : Int)).toNat, by omega, by omega⟩
end Bg

set_option Elab.async false
set_option linter.all false
set_option maxRecDepth 100000
set_option maxHeartbeats 1000000
/-! a tuple turned round -/
namespace Bg
open PySem PySem.Spec PyProof.Rows L2
open Evl (Ex)
theorem back_pick (xs : Array Value) : ((List.range xs.size).filterMap fun (m : Nat) => xs[(((xs.size : Nat) : Int) - 1 + (m : Int) * -1).toNat]?) = xs.toList.reverse := by
  have h := PySem.W.krv_all xs
  have h2 : ((List.range xs.size).map (fun k => xs.size - 1 - k)).filterMap (xs[·]?) = xs.toList.reverse := by
    rw [PySem.W.krv_range, List.filterMap_reverse, h]
  have e : (fun (m : Nat) => xs[(((xs.size : Nat) : Int) - 1 + (m : Int) * -1).toNat]?) = ((xs[·]?) ∘ fun k => xs.size - 1 - k) := by
    funext m
    have : (((xs.size : Nat) : Int) - 1 + (m : Int) * -1).toNat = xs.size - 1 - m := by omega
    show xs[(((xs.size : Nat) : Int) - 1 + (m : Int) * -1).toNat]? = xs[xs.size - 1 - m]?
    rw [this]
  rw [e, ← List.filterMap_map]; exact h2
theorem back_adjust (n : Nat) : Builtin.Slice.sliceAdjust none none (-1) ((n : Nat) : Int) = ((n : Int) - 1, -1) := by
  unfold Builtin.Slice.sliceAdjust
  simp
theorem back_places (n : Nat) : Builtin.Slice.slicePlaces ((n : Int) - 1) (-1) (-1) = n := by
  unfold Builtin.Slice.slicePlaces
  rw [if_neg (by decide)]
  by_cases h : (n : Int) - 1 > -1
  · rw [if_pos h]
    show (((n : Int) - 1 - -1 - 1) / 1 + 1).toNat = n
    rw [Int.ediv_one]; omega
  · rw [if_neg h]; show (0 : Int).toNat = n; omega
section
variable {prog : Program} {w : World} {A : Around} {E : Value → Shared → Prop} {s : Shared}
theorem back_applied {sl : Addr} {n : Nat} {u : Tok} {Q : Int × Int × Nat → Shared → Prop} (hs : s.heap.IsSliceOf sl .none .none (.int (-1) u)) (h : Q ((n : Int) - 1, -1, n) s) :
    wpAny (model prog w) A (Builtin.Slice.sliceApplied (.ref sl) (pure ((n : Nat) : Int))) Q E s := by
  obtain ⟨os, hos, hcs, hds⟩ := id hs
  unfold Builtin.Slice.sliceApplied Builtin.Slice.sliceFields
  refine wpAny_bind (wpAny_bind (wpAny_field hos hds (x := .none) rfl (wpAny_bind (wpAny_field hos hds (x := .none) rfl (wpAny_bind (wpAny_field hos hds (x := .int (-1) u) rfl (wpAny_pure ?_)))))))
  refine wpAny_bind (slicePart_int ?_)
  show wpAny _ _ (if ((-1 : Int) == 0) = true then _ else _) _ _ s
  rw [if_neg (by decide)]
  refine wpAny_bind (slicePart_none (wpAny_bind (slicePart_none (wpAny_bind (wpAny_pure ?_)))))
  show wpAny _ _ (match Builtin.Slice.sliceAdjust none none (-1) (n : Int) with | (lo, hi) => pure (lo, (-1 : Int), Builtin.Slice.slicePlaces lo hi (-1))) _ _ s
  rw [back_adjust]
  show wpAny _ _ (pure ((n : Int) - 1, (-1 : Int), Builtin.Slice.slicePlaces ((n : Int) - 1) (-1) (-1))) _ _ s
  rw [back_places]
  exact wpAny_pure h
theorem getItem_tuple_back {t sl : Addr} {items : Array Value} {u : Tok} {Q : Value → Shared → Prop} (ht : IsTup s.heap t items) (hs : s.heap.IsSliceOf sl .none .none (.int (-1) u))
    (h : Q (.ref s.heap.objs.size) { s with heap := s.heap.push { cls := .type "tuple", data := .seq items.toList.reverse.toArray } }) (hsz : items.size ≤ sizeLine) : wpAny (model prog w) A (getItem (.ref t) (.ref sl)) Q E s := by
  have hok : sizeOk (.seq items.toList.reverse.toArray) := by
    show items.toList.reverse.toArray.size ≤ sizeLine
    rw [List.size_toArray, List.length_reverse, Array.length_toList]; exact hsz
  obtain ⟨os, hos, hcs, hds⟩ := id hs
  have hTs : s.TypeIs (.ref sl) "slice" := ⟨os, hos, hcs⟩
  unfold getItem
  try with_reducible refine wpAny_holding ?_
  first | refine wpAny_bind (wpAny_pure ?_) | skip
  refine wpAny_bind (wpAny_sequenceKey ht.typeIs (by decide) ?_)
  refine wpAny_bind (wpAny_callSpecial?_slot (name := Str.ofString "__getitem__") ht.typeIs PyProof.Rows.slot_tuple_getitem
    (wpAny_call_entry PyProof.Rows.slot_tuple_getitem ht.typeIs PyProof.Rows.entry_tuple_getitem ?_ (PyProof.Rows.args_tuple_getitem _ _)))
  show wpAny _ _ (Builtin.Tuple.tupleItemsOf (.ref t) >>= _) _ _ s
  refine wpAny_bind (tupleItemsOf_ ht ?_)
  refine wpAny_bind (wpAny_typeOf hTs ?_)
  rw [if_pos (by decide)]
  refine wpAny_bind (back_applied hs ?_)
  show wpAny _ _ (if ((((items.size : Nat) : Int) - 1) == 0 && (-1 : Int) == 1 && items.size == items.size) = true then _ else _) _ _ s
  rw [show ((-1 : Int) == 1) = false from rfl, Bool.and_false, Bool.false_and, if_neg Bool.false_ne_true, back_pick]
  first
    | exact wpAny_bind (m := Builtin.Tuple.tupleExact _) (wpAny_newObj_type (wpAny_pure ⟨_, rfl, wpAny_pure h⟩) hok)
    | exact wpAny_bind (m := Builtin.Tuple.tupleExact _) (wpAny_newObj_type (wpAny_bind (wpAny_pure (wpAny_pure ⟨_, rfl, wpAny_pure h⟩))) hok)
    | exact wpAny_bind (wpAny_bind (m := Builtin.Tuple.tupleExact _) (wpAny_newObj_type (wpAny_pure (wpAny_pure ⟨_, rfl, wpAny_pure h⟩)) hok))
    | exact wpAny_bind (wpAny_bind (m := Builtin.Tuple.tupleExact _) (wpAny_newObj_type (wpAny_pure ⟨_, rfl, wpAny_pure h⟩) hok))
end
/-- t[::-1] -/
def tRevT (K : PySem.W.Frag) (te : TE) : TE := fun σ H Q => te σ H fun x H1 => ∃ a xs, x = .ref a ∧ SqT K H1 a xs ∧ ∀ p, H1 p = none → Q (.ref p) (upd H1 p (.tup xs.reverse))
section
variable {X : Cx} {K : PySem.W.Frag}
theorem pe_revT {e : Expr} {te : TE} {k : Nat} {p1 p2 p3 pos : Pos} (he : PE X e te) (hK : X.K = K := by rfl) : PE X (.Subscript e (.Slice none none (some (.UnaryOp .USub (.Constant (.int 1) k p1) p2)) p3) pos) (tRevT K te) := by
  subst hK
  refine ⟨fun pins s σ H Q I h => ?_⟩
  refine Subscript_ (thn (he.run pins s σ H _ I h) fun v s1 ⟨x, H1, I1, r1, a, xs, ex, hx, q⟩ => ?_)
  subst ex
  cases r1
  have hst : PO X (some (.UnaryOp .USub (.Constant (.int 1) k p1) p2)) (tPart (tUn (rU fun i => .int (-i)) (tC (.int 1)))) := po_some (pe_un un_neg pe_int)
  refine wpAny_Slice (thn (po_none.run pins s1 σ H1 (fun o H2 => o = none ∧ H2 = H1) I1 ⟨rfl, rfl⟩) fun vl s2 ⟨l, H2, I2, pl, el, e2⟩ => ?_)
  subst el e2
  cases pl
  refine thn (po_none.run pins s2 σ H2 (fun o H3 => o = none ∧ H3 = H2) I2 ⟨rfl, rfl⟩) fun vu s3 ⟨l3, H3, I3, pu, eu, e3⟩ => ?_
  subst eu e3
  cases pu
  refine thn (hst.run pins s3 σ H3 (fun o H4 => o = some (-1) ∧ H4 = H3) I3 ⟨1, rfl, -1, rfl, rfl, rfl⟩) fun vs s4 ⟨l4, H4, I4, ps, eo, e4⟩ => ?_
  subst eo e4
  cases ps with
  | int i u =>
    have I5 : Inv X pins σ H4 { s4 with heap := s4.heap.push { cls := .type "slice", data := .fields #[.none, .none, .int (-1) u] } } := I4.kept (t' := s4.toks) fun b ob q => Heap.get?_push_of_some _ q
    obtain ⟨its, r, ht, hz⟩ := I5.tuple hx
    have hlen := r.length
    show wpAny (model X.prog X.w) X.A (subscriptTail e (.Slice none none (some (.UnaryOp .USub (.Constant (.int 1) k p1) p2)) p3) (.ref a) (.ref s4.heap.objs.size)) (EP X pins σ Q) X.xe { s4 with heap := s4.heap.push { cls := .type "slice", data := .fields #[.none, .none, .int (-1) u] } }
    refine tail_any (ops := [.ref a, .ref s4.heap.objs.size]) ht.typeIs PyProof.Rows.slot_tuple_getitem.lookup ?_ (by with_unfolding_all rfl)
    refine getItem_tuple_back ht (Heap.IsSliceOf.new _ .none .none _) ?_ (by rw [List.size_toArray]; omega)
    refine ⟨.ref _, _, I5.laid (t' := s4.toks) (o := .tup xs.reverse) (fun b ob q => Heap.get?_push_of_some _ q) (Nat.le_refl _) ?_, rfl, q _ (I5.hok.fresh (Nat.le_refl _))⟩
    exact ⟨by rw [List.length_reverse]; exact hz, _, r.reverse, IsTup.new _ _⟩
end
end Bg

set_option linter.all false
set_option maxRecDepth 100000
namespace Bg
open PySem
/-! ### data of at most two levels -/
def atomD : PyData → Bool
  | .none => true
  | .bool _ => true
  | .int _ => true
  | _ => false
def rowD : PyData → Bool
  | .none => true
  | .bool _ => true
  | .int _ => true
  | .tuple ds => ds.all atomD && decide (ds.length ≤ 900)
  | .list ds => ds.all isIntD && decide (ds.length ≤ 900)
  | _ => false
def twoD : PyData → Bool
  | .none => true
  | .bool _ => true
  | .int _ => true
  | .str x => PyData.canLay0 (.str x)
  | .tuple ds => ds.all rowD && decide (ds.length ≤ 900)
  | .list ds => ds.all (fun d => rowD d && !isIntD d) && decide (ds.length ≤ 900)
  | _ => false
mutual
/-- no list in it has whole numbers beside other things -/
def noR : PyData → Bool
  | .none => true
  | .bool _ => true
  | .int _ => true
  | .str _ => true
  | .tuple ds => noRs ds
  | .list ds => (ds.all isIntD || ds.all fun d => !isIntD d) && noRs ds
  | .dict _ => false
def noRs : List PyData → Bool
  | [] => true
  | d :: ds => noR d && noRs ds
end
theorem noRs_of {ds : List PyData} (h : ∀ d ∈ ds, noR d = true) : noRs ds = true := by
  induction ds with
  | nil => rfl
  | cons d ds ih => show (noR d && noRs ds) = true; rw [h d (by simp), ih fun e he => h e (List.mem_cons_of_mem _ he)]; rfl
theorem canLays_of {ds : List PyData} (h : ∀ d ∈ ds, PyData.canLay0 d = true) : PyData.canLayAll0 ds = true := by
  induction ds with
  | nil => rfl
  | cons d ds ih => show (PyData.canLay0 d && PyData.canLayAll0 ds) = true; rw [h d (by simp), ih fun e he => h e (List.mem_cons_of_mem _ he)]; rfl
theorem depths_of {ds : List PyData} {n : Nat} (h : ∀ d ∈ ds, d.depth ≤ n) : PyData.depthAll ds ≤ n := by
  induction ds with
  | nil => exact Nat.zero_le _
  | cons d ds ih => show max d.depth (PyData.depthAll ds) ≤ n; have := h d (by simp); have := ih fun e he => h e (List.mem_cons_of_mem _ he); omega
structure Fit (n : Nat) (d : PyData) : Prop where
  lay : PyData.canLay0 d = true
  dep : d.depth ≤ n
  noR : noR d = true
theorem Fit.tuple {n : Nat} {ds : List PyData} (h : ∀ d ∈ ds, Fit n d) : Fit (n + 1) (.tuple ds) :=
  ⟨canLays_of fun d hd => (h d hd).lay, Nat.succ_le_succ (depths_of fun d hd => (h d hd).dep), noRs_of fun d hd => (h d hd).noR⟩
theorem Fit.list {n : Nat} {ds : List PyData} (h : ∀ d ∈ ds, Fit n d) (e : (ds.all isIntD || ds.all fun d => !isIntD d) = true) : Fit (n + 1) (.list ds) :=
  ⟨canLays_of fun d hd => (h d hd).lay, Nat.succ_le_succ (depths_of fun d hd => (h d hd).dep), by show ((ds.all isIntD || ds.all fun d => !isIntD d) && noRs ds) = true; rw [e, noRs_of fun d hd => (h d hd).noR]; rfl⟩
theorem fit_atom {d : PyData} (n : Nat) (h : atomD d = true) : Fit n d := by
  cases d <;> first | exact ⟨rfl, Nat.zero_le _, rfl⟩ | (simp [atomD] at h)
theorem fit_int {d : PyData} (n : Nat) (h : isIntD d = true) : Fit n d := by
  cases d <;> first | exact ⟨rfl, Nat.zero_le _, rfl⟩ | (simp [isIntD] at h)
theorem fit_row {d : PyData} (h : rowD d = true) : Fit 1 d ∧ ∀ ds, d = .tuple ds → ds.length ≤ 1000 := by
  cases d with
  | none => exact ⟨fit_atom _ rfl, fun _ z => nomatch z⟩
  | bool b => exact ⟨fit_atom _ rfl, fun _ z => nomatch z⟩
  | int i => exact ⟨fit_atom _ rfl, fun _ z => nomatch z⟩
  | str x => simp [rowD] at h
  | dict x => simp [rowD] at h
  | tuple ds =>
    simp only [rowD, Bool.and_eq_true, List.all_eq_true, decide_eq_true_eq] at h
    exact ⟨.tuple fun d hd => fit_atom _ (h.1 d hd), fun ds' z => by cases z; omega⟩
  | list ds =>
    simp only [rowD, Bool.and_eq_true, decide_eq_true_eq] at h
    exact ⟨.list (fun d hd => fit_int _ (List.all_eq_true.mp h.1 d hd)) (by rw [h.1]; rfl), fun ds' z => nomatch z⟩
structure Small2 (d : PyData) : Prop where
  fit : Fit 2 d
  sm : ∀ ds, d = .tuple ds → ds.length ≤ 1000
  it : ∀ ds, d = .tuple ds → ∀ e ∈ ds, ∀ es, e = .tuple es → es.length ≤ 1000
theorem small_two {d : PyData} (h : twoD d = true) : Small2 d := by
  cases d with
  | none => exact ⟨fit_atom _ rfl, (fun _ z => nomatch z), (fun _ z => nomatch z)⟩
  | bool b => exact ⟨fit_atom _ rfl, (fun _ z => nomatch z), (fun _ z => nomatch z)⟩
  | int i => exact ⟨fit_atom _ rfl, (fun _ z => nomatch z), (fun _ z => nomatch z)⟩
  | str x => exact ⟨⟨h, Nat.zero_le _, rfl⟩, (fun _ z => nomatch z), (fun _ z => nomatch z)⟩
  | dict x => simp [twoD] at h
  | tuple ds =>
    simp only [twoD, Bool.and_eq_true, List.all_eq_true, decide_eq_true_eq] at h
    exact ⟨.tuple fun d hd => (fit_row (h.1 d hd)).1, fun ds' z => by cases z; omega, fun ds' z e he => by cases z; exact (fit_row (h.1 e he)).2⟩
  | list ds =>
    simp only [twoD, Bool.and_eq_true, decide_eq_true_eq] at h
    have h1 := List.all_eq_true.mp h.1
    refine ⟨.list (fun d hd => (fit_row (by have := h1 d hd; rw [Bool.and_eq_true] at this; exact this.1)).1) ?_, (fun _ z => nomatch z), (fun _ z => nomatch z)⟩
    rw [Bool.or_eq_true]
    exact .inr (List.all_eq_true.mpr fun d hd => by have := h1 d hd; rw [Bool.and_eq_true] at this; exact this.2)
theorem row_bag {b : List Nat} (h : b.length ≤ 900) : rowD (bagD b) = true := by
  show ((natsD b).all atomD && decide ((natsD b).length ≤ 900)) = true
  have : (natsD b).all atomD = true := List.all_eq_true.mpr fun d hd => by obtain ⟨x, _, rfl⟩ := List.mem_map.mp hd; rfl
  rw [this]; simp [natsD]; exact h
/-! ### bags that are none -/
theorem rev_not (a : List Nat) (r : List (List Nat)) : isBagsD (famD ((a :: r).reverse ++ [a])) = false := by
  have : risingD (((a :: r).reverse ++ [a]).map bagD) = false := by
    cases h : risingD (((a :: r).reverse ++ [a]).map bagD) with
    | false => rfl
    | true =>
      have p := (rising_fam _).mp h
      have := (List.pairwise_append.mp p).2.2 a (by simp) a (by simp)
      exact absurd this (List.lt_irrefl a)
  show (_ && _ && risingD (((a :: r).reverse ++ [a]).map bagD)) = false
  rw [this, Bool.and_false]
theorem twice_not (f : List (List Nat)) (a : List Nat) (h : a ∈ f) : isBagsD (famD (f ++ [a])) = false := by
  have : risingD ((f ++ [a]).map bagD) = false := by
    cases h2 : risingD ((f ++ [a]).map bagD) with
    | false => rfl
    | true =>
      have p := (rising_fam _).mp h2
      have := (List.pairwise_append.mp p).2.2 a h a (by simp)
      exact absurd this (List.lt_irrefl a)
  show (_ && _ && risingD ((f ++ [a]).map bagD)) = false
  rw [this, Bool.and_false]
theorem item_not (ds : List PyData) (d : PyData) (h : d ∈ ds) (hd : isBagD d = false) : isBagsD (.tuple ds) = false := by
  have : ds.all isBagD = false := by
    cases h2 : ds.all isBagD with
    | false => rfl
    | true => have := List.all_eq_true.mp h2 d h; rw [hd] at this; cases this
  show (_ && ds.all isBagD && _) = false
  rw [this, Bool.and_false, Bool.false_and]
theorem again_not (b : List Nat) (x : Nat) (h : x ∈ b) : isBagD (bagD (b ++ [x])) = false := by
  have : risingD (natsD (b ++ [x])) = false := by
    cases h2 : risingD (natsD (b ++ [x])) with
    | false => rfl
    | true =>
      have p := (rising_nats _).mp h2
      have := (List.pairwise_append.mp p).2.2 x h x (by simp)
      exact absurd this (Nat.lt_irrefl x)
  show (_ && _ && risingD (natsD (b ++ [x]))) = false
  rw [this, Bool.and_false]
end Bg

set_option linter.all false
set_option maxRecDepth 100000
namespace Bg
open PySem
/-! ### rows that are no family -/
theorem sortF_eq {rows s : List (List Nat)} (p : s.Perm rows) (h : s.Pairwise (· < ·)) : sortF rows = s := by
  refine List.Perm.eq_of_pairwise (le := fun x y => ¬ y < x) (fun a b _ _ h1 h2 => List.le_antisymm (α := Nat) h1 h2) (sortF_le rows) (h.imp fun h1 h2 => List.lt_irrefl _ (List.lt_trans h1 h2)) ((sortF_perm rows).trans p.symm)
theorem good_of {s : List (List Nat)} (h : s ≠ []) (h2 : ∀ b ∈ s, 2 ≤ b.length ∧ b.Pairwise (· < ·) ∧ ∀ x ∈ b, x < 60) (h3 : s.Pairwise (· < ·)) : GoodBags s :=
  ⟨h, fun b hb => ⟨(h2 b hb).1, (h2 b hb).2.1, (h2 b hb).2.2⟩, h3⟩
structure Wrong (rows : List (List Nat)) : Prop where
  g : GoodBags (sortF rows)
  nv : ¬ Valid (sortF rows)
  len : rows.length ≤ 63
theorem wrong_of {rows : List (List Nat)} (s : List (List Nat)) (p : s.Perm rows) (h : s ≠ []) (h2 : ∀ b ∈ s, 2 ≤ b.length ∧ b.Pairwise (· < ·) ∧ ∀ x ∈ b, x < 60) (h3 : s.Pairwise (· < ·)) (nv : ¬ Valid s) (hl : rows.length ≤ 63) : Wrong rows := by
  have e := sortF_eq p h3
  exact ⟨by rw [e]; exact good_of h h2 h3, by rw [e]; exact nv, hl⟩
theorem apart_not : ¬ Valid [[0, 1], [2, 3]] := by
  intro V
  have key : ∀ i, Rch [[0, 1], [2, 3]] 0 i → i = 0 := by
    intro i r
    induction r with
    | base => rfl
    | @step i j x r1 h1 h2 h3 ih =>
      subst ih
      have : j = 0 ∨ j = 1 := by simp at h3; omega
      rcases this with z | z
      · exact z
      · subst z
        simp at h1 h2
        omega
  have := key 1 (V.conn 1 (by decide))
  cases this
def noFams (fam : List (List Nat)) : List (List (List Nat)) := [[[0, 1], [2, 3]], [[0, 1], [0, 2], [1, 2]], [[0, 1, 2], [0, 1, 3]], [[1, 2]], [[0, 2]], [[0, 1], [1, 2], [2, 3], [0, 3]], fam ++ [[sz fam + 1, sz fam + 2]], [[0, 1], [0, 1, 2]]]
theorem noFams_wrong {fam : List (List Nat)} (g : GoodBags fam) (h50 : sz fam ≤ 50) (hl : fam.length ≤ 50) : ∀ rows ∈ noFams fam, Wrong rows := by
  unfold noFams
  simp only [List.forall_mem_cons]
  refine ⟨?_, ?_, ?_, ?_, ?_, ?_, ?_, ?_, fun _ h => nomatch h⟩
  · exact wrong_of _ (.refl _) (by decide) (by decide +kernel) (by decide +kernel) apart_not (by decide)
  · exact wrong_of _ (.refl _) (by decide) (by decide +kernel) (by decide +kernel) (fun V => by have := V.sum; revert this; decide +kernel) (by decide)
  · exact wrong_of _ (.refl _) (by decide) (by decide +kernel) (by decide +kernel) (fun V => by have := V.pair 0 1 (by decide) (by decide); revert this; decide +kernel) (by decide)
  · exact wrong_of _ (.refl _) (by decide) (by decide +kernel) (by decide +kernel) (fun V => by have := V.cover 0 (by decide +kernel); revert this; decide +kernel) (by decide)
  · exact wrong_of _ (.refl _) (by decide) (by decide +kernel) (by decide +kernel) (fun V => by have := V.cover 1 (by decide +kernel); revert this; decide +kernel) (by decide)
  · refine wrong_of [[0, 1], [0, 3], [1, 2], [2, 3]] (by decide +kernel) (by decide) (by decide +kernel) (by decide +kernel) (fun V => by have := V.sum; revert this; decide +kernel) (by decide)
  · have hb : ∀ b ∈ fam ++ [[sz fam + 1, sz fam + 2]], 2 ≤ b.length ∧ b.Pairwise (· < ·) ∧ ∀ x ∈ b, x < 60 := fun b hb => by
      rcases List.mem_append.mp hb with h | h
      · have := g.bag b h; exact ⟨this.two, this.up, this.lt⟩
      · rw [List.mem_singleton.mp h]
        refine ⟨by simp, by simp, fun x hx => ?_⟩
        simp at hx; omega
    have hp : (fam ++ [[sz fam + 1, sz fam + 2]]).Pairwise (· < ·) := by
      refine List.pairwise_append.mpr ⟨g.up, by simp, fun b hb c hc => ?_⟩
      rw [List.mem_singleton.mp hc]
      have h2 := (g.bag b hb).two
      cases b with
      | nil => simp at h2
      | cons x r =>
        have := lt_sz g hb (x := x) (by simp)
        exact List.cons_lt_cons_iff.mpr (.inl (by omega))
    refine wrong_of _ (.refl _) (by simp) hb hp (fun V => ?_) (by rw [List.length_append, List.length_singleton]; omega)
    have g2 := good_of (s := fam ++ [[sz fam + 1, sz fam + 2]]) (by simp) hb hp
    have h1 := lt_sz g2 (b := [sz fam + 1, sz fam + 2]) (x := sz fam + 2) (by simp) (by simp)
    obtain ⟨b, hb, hx⟩ := V.cover (sz fam) (by omega)
    rcases List.mem_append.mp hb with h | h
    · exact Nat.lt_irrefl _ (lt_sz g h hx)
    · rw [List.mem_singleton.mp h] at hx
      simp at hx
  · exact wrong_of _ (.refl _) (by decide) (by decide +kernel) (by decide +kernel) (fun V => by have := V.pair 0 1 (by decide) (by decide); revert this; decide +kernel) (by decide)
theorem noFams_ne {fam : List (List Nat)} (g : GoodBags fam) : ∀ rows ∈ noFams fam, ∀ b ∈ rows, b ≠ [] := by
  unfold noFams
  simp only [List.forall_mem_cons]
  refine ⟨by decide, by decide, by decide, by decide, by decide, by decide, fun b hb z => ?_, by decide, fun _ h => nomatch h⟩
  rcases List.mem_append.mp hb with h | h
  · have := (g.bag b h).two; rw [z] at this; simp at this
  · rw [List.mem_singleton.mp h] at z; cases z
end Bg

set_option linter.all false
set_option maxRecDepth 100000
namespace Bg
open PySem
/-! ### texts as lists of code points -/
def tx (l : List Nat) : Str := ⟨l.toArray⟩
def figs (n : Nat) : List Nat := if n < 10 then [48 + n] else [48 + n / 10, 48 + n % 10]
def joinL (sep : List Nat) : List (List Nat) → List Nat
  | [] => []
  | [x] => x
  | x :: y :: r => x ++ sep ++ joinL sep (y :: r)
def bagT (b : List Nat) : List Nat := joinL [46] (b.map figs)
def famT (fam : List (List Nat)) : List Nat := joinL [32] (fam.map bagT)
theorem tx_len (l : List Nat) : (tx l).length = l.length := by simp [tx, Str.length]
theorem tx_list (l : List Nat) : (tx l).cps.toList = l := by simp [tx]
theorem tx_inj {a b : List Nat} (h : tx a = tx b) : a = b := by
  have := congrArg (fun s : Str => s.cps.toList) h
  simpa [tx] using this
theorem tx_append (a b : List Nat) : tx a ++ tx b = tx (a ++ b) := by
  show (⟨a.toArray ++ b.toArray⟩ : Str) = ⟨(a ++ b).toArray⟩
  rw [List.append_toArray]
theorem str_nat60 : ∀ n : Fin 60, Str.ofString (toString ((n.val : Nat) : Int)) = tx (figs n.val) := by decide +kernel
theorem str_nat {n : Nat} (h : n < 60) : Str.ofString (toString ((n : Nat) : Int)) = tx (figs n) := str_nat60 ⟨n, h⟩
theorem int_one10 : ∀ a : Fin 10, intText? (tx [48 + a.val]) = some ((a.val : Nat) : Int) := by decide +kernel
theorem int_two100 : ∀ a : Fin 10, ∀ b : Fin 10, intText? (tx [48 + a.val, 48 + b.val]) = some ((a.val * 10 + b.val : Nat) : Int) := by decide +kernel
def isFig (c : Nat) : Bool := decide (48 ≤ c) && decide (c ≤ 57)
theorem isFig_iff {c : Nat} : isFig c = true ↔ 48 ≤ c ∧ c ≤ 57 := by simp [isFig]
theorem isFig_in : ∀ c, decide (c ∈ (Str.ofString "0123456789").cps.toList) = isFig c := fun c => by
  have e : (Str.ofString "0123456789").cps.toList = [48, 49, 50, 51, 52, 53, 54, 55, 56, 57] := by decide +kernel
  rw [e, Bool.eq_iff_iff, decide_eq_true_iff, isFig_iff]
  simp
  omega
def valW : List Nat → Nat
  | [a] => a - 48
  | [a, b] => (a - 48) * 10 + (b - 48)
  | _ => 0
theorem int_word {w : List Nat} (h : ∀ c ∈ w, isFig c = true) (h0 : w ≠ []) (h2 : w.length ≤ 2) : intText? (tx w) = some ((valW w : Nat) : Int) := by
  match w, h0, h2 with
  | [a], _, _ =>
    have ha := isFig_iff.mp (h a (by simp))
    have := int_one10 ⟨a - 48, by omega⟩
    simp only at this
    rw [show 48 + (a - 48) = a by omega] at this
    exact this
  | [a, b], _, _ =>
    have ha := isFig_iff.mp (h a (by simp))
    have hb := isFig_iff.mp (h b (by simp))
    have := int_two100 ⟨a - 48, by omega⟩ ⟨b - 48, by omega⟩
    simp only at this
    rw [show 48 + (a - 48) = a by omega, show 48 + (b - 48) = b by omega] at this
    exact this
  | _ :: _ :: _ :: _, _, h => simp at h
/-! join -/
theorem glued_fold (sep : Str) : ∀ (l : List Str) (acc : Array Nat), l.foldl (fun acc p => acc ++ sep.cps ++ p.cps) acc = acc ++ (l.map fun p => sep.cps ++ p.cps).foldl (· ++ ·) #[]
  | [], acc => by simp
  | x :: l, acc => by
    rw [List.foldl_cons, glued_fold sep l, List.map_cons, List.foldl_cons]
    have key : ∀ (m : List (Array Nat)) (a : Array Nat), m.foldl (· ++ ·) a = a ++ m.foldl (· ++ ·) #[] := by
      intro m
      induction m with
      | nil => intro a; simp
      | cons y m ih => intro a; rw [List.foldl_cons, ih, List.foldl_cons, ih (#[] ++ y)]; simp
    rw [key _ (#[] ++ (sep.cps ++ x.cps))]
    simp
theorem join_tx (sep : List Nat) : ∀ ls : List (List Nat), Txt.join (tx sep) (ls.map tx) = tx (joinL sep ls)
  | [] => rfl
  | [x] => by
    show (⟨x.toArray⟩ : Str) = ⟨x.toArray⟩
    rfl
  | x :: y :: r => by
    have ih := join_tx sep (y :: r)
    have e1 : Txt.join (tx sep) ((x :: y :: r).map tx) = tx x ++ tx sep ++ Txt.join (tx sep) ((y :: r).map tx) := by
      show (⟨(((y :: r).map tx).foldl (fun acc p => acc ++ (tx sep).cps ++ p.cps) (tx x).cps)⟩ : Str) = ⟨((tx x).cps ++ (tx sep).cps) ++ ((r.map tx).foldl (fun acc p => acc ++ (tx sep).cps ++ p.cps) (tx y).cps)⟩
      congr 1
      rw [List.map_cons, List.foldl_cons, glued_fold, glued_fold (tx sep) (r.map tx) (tx y).cps]
      simp
    rw [e1, ih, tx_append, tx_append]
    rfl
theorem joinL_len (sep : List Nat) : ∀ (ls : List (List Nat)), (joinL sep ls).length ≤ (ls.map List.length).sum + ls.length * sep.length
  | [] => by simp [joinL]
  | [x] => by simp [joinL]
  | x :: y :: r => by
    have ih := joinL_len sep (y :: r)
    show (x ++ sep ++ joinL sep (y :: r)).length ≤ _
    rw [List.length_append, List.length_append]
    simp only [List.map_cons, List.sum_cons, List.length_cons, Nat.succ_mul] at ih ⊢
    omega
theorem figs_len (n : Nat) : (figs n).length ≤ 2 := by unfold figs; split <;> simp
theorem figs_fig {n : Nat} (h : n < 60) : ∀ c ∈ figs n, isFig c = true := by
  intro c hc
  unfold figs at hc
  rw [isFig_iff]
  split at hc <;> simp at hc <;> omega
theorem figs_ne (n : Nat) : figs n ≠ [] := by unfold figs; split <;> simp
theorem valW_figs (n : Nat) : valW (figs n) = n := by
  unfold figs
  split
  · simp [valW]
  · simp [valW]; omega
theorem sum_le {l : List Nat} {k : Nat} (h : ∀ x ∈ l, x ≤ k) : l.sum ≤ l.length * k := by
  induction l with
  | nil => simp
  | cons x l ih =>
    have := h x (by simp)
    have := ih fun y hy => h y (List.mem_cons_of_mem _ hy)
    rw [List.sum_cons, List.length_cons, Nat.succ_mul]; omega
theorem bagT_len (b : List Nat) : (bagT b).length ≤ 3 * b.length := by
  have h1 := joinL_len [46] (b.map figs)
  have h2 := sum_le (l := (b.map figs).map List.length) (k := 2) (by
    intro x hx
    obtain ⟨f, hf, rfl⟩ := List.mem_map.mp hx
    obtain ⟨n, _, rfl⟩ := List.mem_map.mp hf
    exact figs_len n)
  simp only [List.length_map, List.length_singleton] at h1 h2
  unfold bagT; omega
theorem famT_len (fam : List (List Nat)) (k : Nat) (h : ∀ b ∈ fam, b.length ≤ k) : (famT fam).length ≤ fam.length * (3 * k + 1) := by
  have h1 := joinL_len [32] (fam.map bagT)
  have h2 := sum_le (l := (fam.map bagT).map List.length) (k := 3 * k) (by
    intro x hx
    obtain ⟨f, hf, rfl⟩ := List.mem_map.mp hx
    obtain ⟨b, hb, rfl⟩ := List.mem_map.mp hf
    have := bagT_len b
    have := h b hb
    omega)
  simp only [List.length_map, List.length_singleton] at h1 h2
  unfold famT
  rw [Nat.mul_add]; omega
end Bg

set_option linter.all false
set_option maxRecDepth 100000
namespace Bg
open PySem
/-! ### reading a text, step by step -/
structure RS where
  bags : List (List Nat)
  bag : List Nat
  at_ : Nat
  rest : List Nat
inductive RO where
  | bad (p : Nat)
  | done (rows : List (List Nat))
def RS.w (s : RS) : List Nat := s.rest.takeWhile isFig
def RS.r (s : RS) : List Nat := s.rest.dropWhile isFig
def RS.bag' (s : RS) : List Nat := s.bag ++ [valW s.w]
def RS.C2 (s : RS) : Prop := (1 < s.w.length ∧ s.w.head? = some 48) ∨ 2 < s.w.length ∨ 60 ≤ valW s.w
def RS.C3 (s : RS) : Prop := s.bag ≠ [] ∧ valW s.w ≤ lastN s.bag
/-- one turn of the reading -/
inductive Turn1 (s : RS) : RO ⊕ RS → Prop
  | none : s.w = [] → Turn1 s (.inl (.bad (s.at_ + 1)))
  | word : s.w ≠ [] → s.C2 → Turn1 s (.inl (.bad (s.at_ + 1)))
  | low : s.w ≠ [] → ¬ s.C2 → s.C3 → Turn1 s (.inl (.bad (s.at_ + 1)))
  | dot {r'} : s.w ≠ [] → ¬ s.C2 → ¬ s.C3 → s.r = 46 :: r' → Turn1 s (.inr ⟨s.bags, s.bag', s.at_ + s.w.length + 1, r'⟩)
  | gap {r'} : s.w ≠ [] → ¬ s.C2 → ¬ s.C3 → s.r = 32 :: r' → 1 < s.bag'.length → Turn1 s (.inr ⟨s.bags ++ [s.bag'], [], s.at_ + s.w.length + 1, r'⟩)
  | fin : s.w ≠ [] → ¬ s.C2 → ¬ s.C3 → s.r = [] → 1 < s.bag'.length → Turn1 s (.inl (.done (s.bags ++ [s.bag'])))
  | odd : s.w ≠ [] → ¬ s.C2 → ¬ s.C3 → s.r.head? ≠ some 46 → ¬ (s.r.head? = some 32 ∧ 1 < s.bag'.length) → ¬ (s.r = [] ∧ 1 < s.bag'.length) → Turn1 s (.inl (.bad (s.at_ + s.w.length + 1)))
inductive Reads1 : RS → RO → Prop
  | stop {s o} : Turn1 s (.inl o) → Reads1 s o
  | go {s s' o} : Turn1 s (.inr s') → Reads1 s' o → Reads1 s o
theorem tw_at (l : List Nat) : ∀ k, k ≤ (l.takeWhile isFig).length → (hk : k < l.length) → (isFig l[k] = true ↔ k < (l.takeWhile isFig).length) := by
  induction l with
  | nil => intro k _ hk; simp at hk
  | cons x l ih =>
    intro k h hk
    by_cases hx : isFig x = true
    · rw [List.takeWhile_cons_of_pos hx] at h ⊢
      cases k with
      | zero => simp [hx]
      | succ k =>
        have := ih k (by simpa using h) (by simpa using hk)
        simpa using this
    · rw [List.takeWhile_cons_of_neg hx] at h ⊢
      have : k = 0 := by simpa using h
      subst this
      simpa using hx
theorem tw_all (l : List Nat) : ∀ c ∈ l.takeWhile isFig, isFig c = true := by
  induction l with
  | nil => intro c h; simp at h
  | cons x l ih =>
    intro c h
    by_cases hx : isFig x = true
    · rw [List.takeWhile_cons_of_pos hx] at h
      rcases List.mem_cons.mp h with e | h
      · exact e ▸ hx
      · exact ih c h
    · rw [List.takeWhile_cons_of_neg hx] at h; cases h
theorem tw_take (l : List Nat) : l.take (l.takeWhile isFig).length = l.takeWhile isFig := by
  have h := List.takeWhile_append_dropWhile (p := isFig) (l := l)
  have h2 : (l.takeWhile isFig ++ l.dropWhile isFig).take (l.takeWhile isFig).length = l.takeWhile isFig := List.take_left
  rwa [h] at h2
theorem tw_drop (l : List Nat) : l.drop (l.takeWhile isFig).length = l.dropWhile isFig := by
  have h := List.takeWhile_append_dropWhile (p := isFig) (l := l)
  have h2 : (l.takeWhile isFig ++ l.dropWhile isFig).drop (l.takeWhile isFig).length = l.dropWhile isFig := List.drop_left
  rwa [h] at h2
theorem tw_le (l : List Nat) : (l.takeWhile isFig).length ≤ l.length := (List.takeWhile_sublist isFig).length_le
theorem Turn1.det {s : RS} {x y : RO ⊕ RS} (h : Turn1 s x) (k : Turn1 s y) : x = y := by
  cases h <;> cases k <;> simp_all
theorem Reads1.det {s : RS} {o o' : RO} (h : Reads1 s o) (k : Reads1 s o') : o = o' := by
  induction h generalizing o' with
  | stop t =>
    cases k with
    | stop t' => exact Sum.inl.inj (t.det t')
    | go t' _ => cases t.det t'
  | go t r ih =>
    cases k with
    | stop t' => cases t.det t'
    | go t' r' => cases t.det t'; exact ih r'
end Bg

set_option linter.all false
set_option maxRecDepth 100000
namespace Bg
open PySem
/-! ### reading what was written -/
inductive Go : RS → RS → Prop
  | refl (s : RS) : Go s s
  | step {s s' s'' : RS} : Turn1 s (.inr s') → Go s' s'' → Go s s''
theorem Go.trans {a b c : RS} (h : Go a b) (k : Go b c) : Go a c := by
  induction h with
  | refl => exact k
  | step t _ ih => exact .step t (ih k)
theorem Go.reads {s s' : RS} {o : RO} (h : Go s s') (k : Reads1 s' o) : Reads1 s o := by
  induction h with
  | refl => exact k
  | step t _ ih => exact .go t (ih k)
theorem tw_figs {n : Nat} (hn : n < 60) {r : List Nat} (hr : ∀ c, r.head? = some c → isFig c = false) : (figs n ++ r).takeWhile isFig = figs n ∧ (figs n ++ r).dropWhile isFig = r := by
  have h1 : r.takeWhile isFig = [] ∧ r.dropWhile isFig = r := by
    cases r with
    | nil => exact ⟨rfl, rfl⟩
    | cons c r =>
      have := hr c rfl
      exact ⟨List.takeWhile_cons_of_neg (by rw [this]; decide), List.dropWhile_cons_of_neg (by rw [this]; decide)⟩
  constructor
  · rw [List.takeWhile_append_of_pos (figs_fig hn), h1.1, List.append_nil]
  · rw [List.dropWhile_append_of_pos (figs_fig hn), h1.2]
/-- a word that is a bead -/
structure Bead (s : RS) (n : Nat) (r : List Nat) : Prop where
  w : s.w = figs n
  r : s.r = r
theorem bead_of {s : RS} {n : Nat} {r : List Nat} (hn : n < 60) (h : s.rest = figs n ++ r) (hr : ∀ c, r.head? = some c → isFig c = false) : Bead s n r := by
  have := tw_figs hn hr
  exact ⟨by unfold RS.w; rw [h]; exact this.1, by unfold RS.r; rw [h]; exact this.2⟩
theorem Bead.bag {s : RS} {n : Nat} {r : List Nat} (b : Bead s n r) : s.bag' = s.bag ++ [n] := by unfold RS.bag'; rw [b.w, valW_figs]
theorem Bead.ne {s : RS} {n : Nat} {r : List Nat} (b : Bead s n r) : s.w ≠ [] := by rw [b.w]; exact figs_ne n
theorem figs_C2 {n : Nat} (h : n < 60) : ¬ ((1 < (figs n).length ∧ (figs n).head? = some 48) ∨ 2 < (figs n).length ∨ 60 ≤ valW (figs n)) := by
  rintro (⟨h1, h2⟩ | h1 | h1)
  · unfold figs at h1 h2
    split at h1
    · simp at h1
    · rename_i h3
      rw [if_neg h3] at h2
      simp at h2
      omega
  · have := figs_len n; omega
  · rw [valW_figs] at h1; omega
theorem Bead.c2 {s : RS} {n : Nat} {r : List Nat} (b : Bead s n r) (h : n < 60) : ¬ s.C2 := by
  unfold RS.C2
  rw [b.w]
  exact figs_C2 h
theorem Bead.c3 {s : RS} {n : Nat} {r : List Nat} (b : Bead s n r) (h : (s.bag ++ [n]).Pairwise (· < ·)) : ¬ s.C3 := by
  rintro ⟨h1, h2⟩
  rw [b.w, valW_figs] at h2
  have := (List.pairwise_append.mp h).2.2 (lastN s.bag) (last_mem h1) n (by simp)
  omega
theorem lastN_append (b : List Nat) (x : Nat) : lastN (b ++ [x]) = x := by simp [lastN]
/-- the beads of a bag, all but the last -/
theorem go_bag {bags : List (List Nat)} : ∀ (b pre : List Nat) (x : Nat) (at_ : Nat) (r : List Nat), (pre ++ b ++ [x]).Pairwise (· < ·) → (∀ y ∈ pre ++ b ++ [x], y < 60) →
    Go ⟨bags, pre, at_, bagT (b ++ [x]) ++ r⟩ ⟨bags, pre ++ b, at_ + (bagT (b ++ [x])).length - (figs x).length, figs x ++ r⟩ ∧ (figs x).length ≤ (bagT (b ++ [x])).length := by
  intro b
  induction b with
  | nil =>
    intro pre x at_ r _ _
    have e : bagT [x] = figs x := rfl
    refine ⟨?_, by rw [List.nil_append, e]; exact Nat.le_refl _⟩
    rw [List.nil_append, e, List.append_nil, Nat.add_sub_cancel]
    exact .refl _
  | cons y b ih =>
    intro pre x at_ r hp hl
    have e : bagT (y :: b ++ [x]) = figs y ++ 46 :: bagT (b ++ [x]) := by
      unfold bagT
      cases b with
      | nil => simp [joinL]
      | cons z b => show joinL [46] (figs y :: figs z :: _) = _; simp [joinL]
    have e1 : pre ++ y :: b ++ [x] = (pre ++ [y]) ++ b ++ [x] := by simp
    rw [e1] at hp hl
    have hy : y < 60 := hl y (by simp)
    have hpy : (pre ++ [y]).Pairwise (· < ·) := by
      rw [List.append_assoc] at hp
      exact (List.pairwise_append.mp hp).1
    have B : Bead ⟨bags, pre, at_, bagT (y :: b ++ [x]) ++ r⟩ y (46 :: (bagT (b ++ [x]) ++ r)) := bead_of hy (by rw [e]; simp) (fun c h => by cases h; rfl)
    obtain ⟨h1, h2⟩ := ih (pre ++ [y]) x (at_ + (figs y).length + 1) r hp hl
    have t : Turn1 ⟨bags, pre, at_, bagT (y :: b ++ [x]) ++ r⟩ (.inr ⟨bags, pre ++ [y], at_ + (figs y).length + 1, bagT (b ++ [x]) ++ r⟩) := by
      have := Turn1.dot B.ne (B.c2 hy) (B.c3 hpy) B.r
      rw [B.bag, B.w] at this
      exact this
    have hlen : (bagT (y :: b ++ [x])).length = (figs y).length + 1 + (bagT (b ++ [x])).length := by
      rw [e, List.length_append, List.length_cons]; omega
    refine ⟨.step t ?_, by rw [hlen]; omega⟩
    have e2 : pre ++ y :: b = pre ++ [y] ++ b := by simp
    rw [e2, hlen, show at_ + ((figs y).length + 1 + (bagT (b ++ [x])).length) - (figs x).length = at_ + (figs y).length + 1 + (bagT (b ++ [x])).length - (figs x).length by omega]
    exact h1
theorem good_split {b : List Nat} (g : GoodBag b) : ∃ l x, b = l ++ [x] ∧ l ≠ [] ∧ x < 60 ∧ (l ++ [x]).Pairwise (· < ·) ∧ ∀ y ∈ l ++ [x], y < 60 := by
  rcases List.eq_nil_or_concat b with z | ⟨L, x, z⟩
  · have := g.two; rw [z] at this; simp at this
  · rw [List.concat_eq_append] at z
    refine ⟨L, x, z, fun e => ?_, g.lt x (by rw [z]; simp), by rw [← z]; exact g.up, by rw [← z]; exact g.lt⟩
    have := g.two
    rw [z, e] at this
    simp at this
/-- the bags of a family, up to the last bead -/
theorem go_fam : ∀ (fi bags : List (List Nat)) (l : List Nat) (x : Nat) (at_ : Nat) (r : List Nat), (∀ b ∈ fi, GoodBag b) → (l ++ [x]).Pairwise (· < ·) → (∀ y ∈ l ++ [x], y < 60) →
    Go ⟨bags, [], at_, famT (fi ++ [l ++ [x]]) ++ r⟩ ⟨bags ++ fi, l, at_ + (famT (fi ++ [l ++ [x]])).length - (figs x).length, figs x ++ r⟩ ∧ (figs x).length ≤ (famT (fi ++ [l ++ [x]])).length := by
  intro fi
  induction fi with
  | nil =>
    intro bags l x at_ r _ hp hl
    have e : famT ([] ++ [l ++ [x]]) = bagT (l ++ [x]) := rfl
    rw [e, List.append_nil]
    exact go_bag l [] x at_ r (by simpa using hp) (by simpa using hl)
  | cons b fi ih =>
    intro bags l x at_ r hg hp hl
    have e : famT (b :: fi ++ [l ++ [x]]) = bagT b ++ 32 :: famT (fi ++ [l ++ [x]]) := by
      unfold famT
      cases fi with
      | nil => simp [joinL]
      | cons c fi => show joinL [32] (bagT b :: bagT c :: _) = _; simp [joinL]
    obtain ⟨bl, bx, rfl, hbl, hx60, hup, hlt⟩ := good_split (hg b (by simp))
    obtain ⟨h1, h2⟩ := ih (bags ++ [bl ++ [bx]]) l x (at_ + (bagT (bl ++ [bx])).length + 1) r (fun c hc => hg c (List.mem_cons_of_mem _ hc)) hp hl
    obtain ⟨g1, g2⟩ := go_bag (bags := bags) bl [] bx at_ (32 :: (famT (fi ++ [l ++ [x]]) ++ r)) (by simpa using hup) (by simpa using hlt)
    have hat : at_ + (bagT (bl ++ [bx])).length - (figs bx).length + (figs bx).length = at_ + (bagT (bl ++ [bx])).length := by omega
    have B : Bead ⟨bags, [] ++ bl, at_ + (bagT (bl ++ [bx])).length - (figs bx).length, figs bx ++ 32 :: (famT (fi ++ [l ++ [x]]) ++ r)⟩ bx (32 :: (famT (fi ++ [l ++ [x]]) ++ r)) := bead_of hx60 rfl (fun c h => by cases h; rfl)
    have t : Turn1 ⟨bags, [] ++ bl, at_ + (bagT (bl ++ [bx])).length - (figs bx).length, figs bx ++ 32 :: (famT (fi ++ [l ++ [x]]) ++ r)⟩ (.inr ⟨bags ++ [bl ++ [bx]], [], at_ + (bagT (bl ++ [bx])).length + 1, famT (fi ++ [l ++ [x]]) ++ r⟩) := by
      have h2l : 1 < (RS.bag' ⟨bags, [] ++ bl, at_ + (bagT (bl ++ [bx])).length - (figs bx).length, figs bx ++ 32 :: (famT (fi ++ [l ++ [x]]) ++ r)⟩).length := by
        rw [B.bag, List.length_append, List.length_singleton]
        have : 0 < bl.length := by cases bl <;> simp at hbl ⊢
        show 1 < ([] ++ bl).length + 1
        simp; exact this
      have := Turn1.gap B.ne (B.c2 hx60) (B.c3 (by simpa using hup)) B.r h2l
      rw [B.bag, B.w] at this
      simp only [List.nil_append] at this ⊢
      rw [show at_ + (bagT (bl ++ [bx])).length - (figs bx).length + (figs bx).length + 1 = at_ + (bagT (bl ++ [bx])).length + 1 by omega] at this
      exact this
    have hlen : (famT ((bl ++ [bx]) :: fi ++ [l ++ [x]])).length = (bagT (bl ++ [bx])).length + 1 + (famT (fi ++ [l ++ [x]])).length := by
      rw [e, List.length_append, List.length_cons]; omega
    refine ⟨?_, by rw [hlen]; omega⟩
    rw [e, List.append_assoc, List.cons_append]
    refine g1.trans (.step t ?_)
    have e2 : bags ++ (bl ++ [bx]) :: fi = bags ++ [bl ++ [bx]] ++ fi := by simp
    rw [e2, ← e, hlen, show at_ + ((bagT (bl ++ [bx])).length + 1 + (famT (fi ++ [l ++ [x]])).length) - (figs x).length = at_ + (bagT (bl ++ [bx])).length + 1 + (famT (fi ++ [l ++ [x]])).length - (figs x).length by omega]
    exact h1
end Bg

set_option linter.all false
set_option maxRecDepth 100000
namespace Bg
open PySem
/-- bags that were written: all but the last, the last but its last bead, that bead -/
structure Wr (fam fi : List (List Nat)) (l : List Nat) (x : Nat) : Prop where
  e : fam = fi ++ [l ++ [x]]
  g : ∀ b ∈ fam, GoodBag b
  ne : l ≠ []
  lt : x < 60
theorem wr_of {fam : List (List Nat)} (h : fam ≠ []) (g : ∀ b ∈ fam, GoodBag b) : ∃ fi l x, Wr fam fi l x := by
  rcases List.eq_nil_or_concat fam with z | ⟨F, b, z⟩
  · exact absurd z h
  · rw [List.concat_eq_append] at z
    obtain ⟨l, x, rfl, ne, lt, _, _⟩ := good_split (g b (by rw [z]; simp))
    exact ⟨F, l, x, z, g, ne, lt⟩
section
variable {fam fi : List (List Nat)} {l : List Nat} {x : Nat} (W : Wr fam fi l x)
include W
theorem Wr.last : GoodBag (l ++ [x]) := W.g _ (by rw [W.e]; simp)
theorem Wr.len0 : 0 < l.length := by have := W.ne; cases l <;> simp at this ⊢
/-- up to the last bead -/
theorem Wr.go (bags : List (List Nat)) (a : Nat) (r : List Nat) : ∃ at_, at_ + (figs x).length = a + (famT fam).length ∧ Go ⟨bags, [], a, famT fam ++ r⟩ ⟨bags ++ fi, l, at_, figs x ++ r⟩ := by
  have h := go_fam fi bags l x a r (fun b hb => W.g b (by rw [W.e]; exact List.mem_append_left _ hb)) W.last.up W.last.lt
  rw [← W.e] at h
  exact ⟨a + (famT fam).length - (figs x).length, by omega, h.1⟩
theorem Wr.bead {bags : List (List Nat)} {at_ : Nat} {r : List Nat} (hr : ∀ c, r.head? = some c → isFig c = false) : Bead ⟨bags, l, at_, figs x ++ r⟩ x r := bead_of W.lt rfl hr
theorem Wr.c3 {bags : List (List Nat)} {at_ : Nat} {r : List Nat} (b : Bead ⟨bags, l, at_, figs x ++ r⟩ x r) : ¬ (RS.C3 ⟨bags, l, at_, figs x ++ r⟩) := b.c3 W.last.up
/-- behind a dot -/
theorem Wr.dot (r : List Nat) : Go ⟨[], [], 0, famT fam ++ 46 :: r⟩ ⟨fi, l ++ [x], (famT fam).length + 1, r⟩ := by
  obtain ⟨at_, ha, h⟩ := W.go [] 0 (46 :: r)
  have B : Bead ⟨[] ++ fi, l, at_, figs x ++ 46 :: r⟩ x (46 :: r) := W.bead (fun c h => by cases h; rfl)
  have t := Turn1.dot B.ne (B.c2 W.lt) (W.c3 B) B.r
  rw [B.bag, B.w] at t
  refine h.trans (.step t ?_)
  rw [List.nil_append, ha, Nat.zero_add]
  exact .refl _
/-- behind a gap -/
theorem Wr.gap (r : List Nat) : Go ⟨[], [], 0, famT fam ++ 32 :: r⟩ ⟨fam, [], (famT fam).length + 1, r⟩ := by
  obtain ⟨at_, ha, h⟩ := W.go [] 0 (32 :: r)
  have B : Bead ⟨[] ++ fi, l, at_, figs x ++ 32 :: r⟩ x (32 :: r) := W.bead (fun c h => by cases h; rfl)
  have h2 : 1 < (RS.bag' ⟨[] ++ fi, l, at_, figs x ++ 32 :: r⟩).length := by rw [B.bag, List.length_append, List.length_singleton]; have := W.len0; show 1 < l.length + 1; omega
  have t := Turn1.gap B.ne (B.c2 W.lt) (W.c3 B) B.r h2
  rw [B.bag, B.w] at t
  refine h.trans (.step t ?_)
  rw [List.nil_append, ha, Nat.zero_add]
  show Go ⟨fi ++ [l ++ [x]], [], _, r⟩ _
  rw [← W.e]
  exact .refl _
theorem Wr.fin (bags : List (List Nat)) (a : Nat) : Reads1 ⟨bags, [], a, famT fam⟩ (.done (bags ++ fam)) := by
  obtain ⟨at_, ha, h⟩ := W.go bags a []
  rw [List.append_nil] at h
  have B : Bead ⟨bags ++ fi, l, at_, figs x ++ []⟩ x [] := W.bead (fun c h => by cases h)
  have h2 : 1 < (RS.bag' ⟨bags ++ fi, l, at_, figs x ++ []⟩).length := by rw [B.bag, List.length_append, List.length_singleton]; have := W.len0; show 1 < l.length + 1; omega
  have t := Turn1.fin B.ne (B.c2 W.lt) (W.c3 B) B.r h2
  rw [B.bag] at t
  refine h.reads ?_
  have e : bags ++ fam = bags ++ fi ++ [l ++ [x]] := by rw [W.e]; simp
  rw [e]
  exact .stop t
theorem Wr.twice : Reads1 ⟨[], [], 0, famT fam ++ 32 :: famT fam⟩ (.done (fam ++ fam)) := (W.gap _).reads (W.fin fam _)
theorem Wr.odd {c : Nat} (h1 : isFig c = false) (h2 : c ≠ 46) (h3 : c ≠ 32) : Reads1 ⟨[], [], 0, famT fam ++ [c]⟩ (.bad ((famT fam).length + 1)) := by
  obtain ⟨at_, ha, h⟩ := W.go [] 0 [c]
  have B : Bead ⟨[] ++ fi, l, at_, figs x ++ [c]⟩ x [c] := W.bead (fun d h => by cases h; exact h1)
  have t := Turn1.odd B.ne (B.c2 W.lt) (W.c3 B) (by rw [B.r]; simpa using h2) (by rw [B.r]; simp; exact fun z => absurd z h3) (by rw [B.r]; simp)
  rw [B.w] at t
  have := h.reads (.stop t)
  rw [show (⟨[] ++ fi, l, at_, figs x ++ [c]⟩ : RS).at_ = at_ from rfl, ha, Nat.zero_add] at this
  exact this
theorem Wr.gap0 : Reads1 ⟨[], [], 0, famT fam ++ [32]⟩ (.bad ((famT fam).length + 2)) := (W.gap []).reads (.stop (.none rfl))
theorem Wr.dot0 : Reads1 ⟨[], [], 0, famT fam ++ [46]⟩ (.bad ((famT fam).length + 2)) := (W.dot []).reads (.stop (.none rfl))
theorem Wr.dotLast : Reads1 ⟨[], [], 0, famT fam ++ 46 :: figs x⟩ (.bad ((famT fam).length + 2)) := by
  have B : Bead ⟨fi, l ++ [x], (famT fam).length + 1, figs x⟩ x [] := bead_of W.lt (List.append_nil _).symm (fun c h => by cases h)
  refine (W.dot (figs x)).reads (.stop (.low B.ne (B.c2 W.lt) ⟨by simp, ?_⟩))
  rw [B.w, valW_figs]
  show x ≤ lastN (l ++ [x])
  rw [lastN_append]; exact Nat.le_refl _
theorem Wr.gapLast : Reads1 ⟨[], [], 0, famT fam ++ 32 :: figs x⟩ (.bad ((famT fam).length + 2 + (figs x).length)) := by
  have B : Bead ⟨fam, [], (famT fam).length + 1, figs x⟩ x [] := bead_of W.lt (List.append_nil _).symm (fun c h => by cases h)
  have t := Turn1.odd B.ne (B.c2 W.lt) (B.c3 (by simp)) (by rw [B.r]; simp) (by rw [B.r]; simp) (by rw [B.bag]; simp)
  rw [B.w] at t
  have := (W.gap (figs x)).reads (.stop t)
  rw [show (⟨fam, [], (famT fam).length + 1, figs x⟩ : RS).at_ = (famT fam).length + 1 from rfl, show (famT fam).length + 1 + (figs x).length + 1 = (famT fam).length + 2 + (figs x).length by omega] at this
  exact this
theorem Wr.dot60 : Reads1 ⟨[], [], 0, famT fam ++ [46, 54, 48]⟩ (.bad ((famT fam).length + 2)) := (W.dot [54, 48]).reads (.stop (.word (by show [54, 48].takeWhile isFig ≠ []; decide) (.inr (.inr (by show 60 ≤ valW ([54, 48].takeWhile isFig); decide)))))
theorem Wr.dot059 : Reads1 ⟨[], [], 0, famT fam ++ [46, 48, 53, 57]⟩ (.bad ((famT fam).length + 2)) := (W.dot [48, 53, 57]).reads (.stop (.word (by show [48, 53, 57].takeWhile isFig ≠ []; decide) (.inl (by show 1 < ([48, 53, 57].takeWhile isFig).length ∧ ([48, 53, 57].takeWhile isFig).head? = some 48; decide))))
end
theorem reads_gap (t : List Nat) : Reads1 ⟨[], [], 0, 32 :: t⟩ (.bad 1) := .stop (.none (by show (32 :: t).takeWhile isFig = []; exact List.takeWhile_cons_of_neg (by decide)))
theorem reads_01 (t : List Nat) : Reads1 ⟨[], [], 0, 48 :: 49 :: 46 :: t⟩ (.bad 1) := by
  have e : (48 :: 49 :: 46 :: t).takeWhile isFig = [48, 49] := by
    rw [List.takeWhile_cons_of_pos (by decide), List.takeWhile_cons_of_pos (by decide), List.takeWhile_cons_of_neg (by decide)]
  refine .stop (.word ?_ (.inl ?_))
  · show (48 :: 49 :: 46 :: t).takeWhile isFig ≠ []; rw [e]; decide
  · show 1 < ((48 :: 49 :: 46 :: t).takeWhile isFig).length ∧ ((48 :: 49 :: 46 :: t).takeWhile isFig).head? = some 48
    rw [e]; decide
theorem reads_nil : Reads1 ⟨[], [], 0, []⟩ (.bad 1) := .stop (.none rfl)
theorem reads_0 : Reads1 ⟨[], [], 0, [48]⟩ (.bad 2) := by
  have B : Bead ⟨[], [], 0, [48]⟩ 0 [] := bead_of (by decide) rfl (fun c h => by cases h)
  have t := Turn1.odd B.ne (B.c2 (by decide)) (B.c3 (by simp)) (by rw [B.r]; simp) (by rw [B.r]; simp) (by rw [B.bag]; simp)
  rw [B.w] at t
  exact .stop t
theorem reads_0c1 : Reads1 ⟨[], [], 0, [48, 44, 49]⟩ (.bad 2) := by
  have B : Bead ⟨[], [], 0, [48, 44, 49]⟩ 0 [44, 49] := bead_of (by decide) rfl (fun c h => by cases h; decide)
  have t := Turn1.odd B.ne (B.c2 (by decide)) (B.c3 (by simp)) (by rw [B.r]; decide) (by rw [B.r]; simp) (by rw [B.r]; simp)
  rw [B.w] at t
  exact .stop t
theorem good12 : ∀ b ∈ [[1, 2]], GoodBag b := (good_of (s := [[1, 2]]) (by decide) (by decide +kernel) (by decide +kernel)).bag
theorem reads_12 : Reads1 ⟨[], [], 0, [49, 46, 50]⟩ (.done [[1, 2]]) := by
  obtain ⟨fi, l, x, W⟩ := wr_of (fam := [[1, 2]]) (by decide) good12
  exact W.fin [] 0
theorem reads_3 : Reads1 ⟨[], [], 0, [48, 46, 49, 32, 48, 46, 50, 32, 49, 46, 50]⟩ (.done [[0, 1], [0, 2], [1, 2]]) := by
  obtain ⟨fi, l, x, W⟩ := wr_of (fam := [[0, 1], [0, 2], [1, 2]]) (by decide) (good_of (s := [[0, 1], [0, 2], [1, 2]]) (by decide) (by decide +kernel) (by decide +kernel)).bag
  exact W.fin [] 0
theorem not12 : ¬ Valid [[1, 2]] := fun V => by have := V.cover 0 (by decide +kernel); revert this; decide +kernel
theorem not3 : ¬ Valid [[0, 1], [0, 2], [1, 2]] := fun V => by have := V.sum; revert this; decide +kernel
/-- bags told twice, or backwards, do not rise -/
theorem twice_low {fam : List (List Nat)} (h : fam ≠ []) : ¬ (fam ++ fam).Pairwise (· < ·) := fun p => by
  cases fam with
  | nil => exact h rfl
  | cons b r =>
    have := (List.pairwise_append.mp p).2.2 b (by simp) b (by simp)
    exact List.lt_irrefl b this
theorem back_low {fam : List (List Nat)} (up : fam.Pairwise (· < ·)) (h : 1 < fam.length) : ¬ fam.reverse.Pairwise (· < ·) := fun p => by
  match fam, h with
  | b :: c :: r, _ =>
    have h1 := (List.pairwise_cons.mp up).1 c (by simp)
    rw [List.pairwise_reverse] at p
    have h2 := (List.pairwise_cons.mp p).1 c (by simp)
    exact List.lt_irrefl b (List.lt_trans h1 h2)
end Bg

set_option Elab.async false
set_option linter.all false
set_option maxRecDepth 100000
set_option maxHeartbeats 1000000
/-! what an expression is as data, wherever the heap has grown -/
namespace Bg
open PySem PySem.Spec PyProof.Rows L2
open Evl (Ex)
def EvD (K : PySem.W.Frag) (te : TE) (σ : L2.St) (H : Hp) (d : PyData) : Prop := ∀ H1, Ex H H1 → ∀ Q : VK, (∀ v H2, Ex H1 H2 → Dp K H2 v d → Q v H2) → te σ H1 Q
def EvDs (K : PySem.W.Frag) (ta : TA) (σ : L2.St) (H : Hp) (ds : List PyData) : Prop := ∀ H1, Ex H H1 → ∀ Q : List V → Hp → Prop, (∀ vs H2, Ex H1 H2 → DpAll K H2 vs ds → Q vs H2) → ta σ H1 Q
def cutD {α : Type} (xs : List α) (lo hi : Option Int) : List α := (xs.drop (HT.sIx xs.length 0 lo)).take (HT.sIx xs.length xs.length hi - HT.sIx xs.length 0 lo)
theorem dpa_drop {K : PySem.W.Frag} {H : Hp} : ∀ (n : Nat) {vs : List V} {ds : List PyData}, DpAll K H vs ds → DpAll K H (vs.drop n) (ds.drop n)
  | 0, _, _, h => h
  | _ + 1, _, _, .nil => .nil
  | n + 1, _, _, .cons _ t => dpa_drop n t
theorem dpa_take {K : PySem.W.Frag} {H : Hp} : ∀ (n : Nat) {vs : List V} {ds : List PyData}, DpAll K H vs ds → DpAll K H (vs.take n) (ds.take n)
  | 0, _, _, _ => .nil
  | _ + 1, _, _, .nil => .nil
  | n + 1, _, _, .cons h t => .cons h (dpa_take n t)
theorem dpa_append {K : PySem.W.Frag} {H : Hp} : ∀ {vs ws : List V} {ds es : List PyData}, DpAll K H vs ds → DpAll K H ws es → DpAll K H (vs ++ ws) (ds ++ es)
  | _, _, _, _, .nil, h => h
  | _, _, _, _, .cons a t, h => .cons a (dpa_append t h)
theorem dpa_reverse {K : PySem.W.Frag} {H : Hp} : ∀ {vs : List V} {ds : List PyData}, DpAll K H vs ds → DpAll K H vs.reverse ds.reverse
  | _, _, .nil => .nil
  | _, _, .cons a t => by rw [List.reverse_cons, List.reverse_cons]; exact dpa_append (dpa_reverse t) (.cons a .nil)
theorem dpa_cut {K : PySem.W.Frag} {H : Hp} {vs : List V} {ds : List PyData} (h : DpAll K H vs ds) (lo hi : Option Int) : DpAll K H (cutV vs lo hi) (cutD ds lo hi) := by
  unfold cutV cutD
  rw [dpa_len h]
  exact dpa_take _ (dpa_drop _ h)
section
variable {K : PySem.W.Frag} {te tf : TE} {ta : TA} {σ : L2.St} {H : Hp} {d : PyData} {ds es : List PyData}
theorem EvD.ex {H' : Hp} (h : EvD K te σ H d) (e : Ex H H') : EvD K te σ H' d := fun H1 e1 => h H1 (e.trans e1)
theorem ed_int (i : Int) : EvD K (tC (.int i)) σ H (.int i) := fun H1 _ Q q => q _ _ (Ex.refl _) (.int i)
theorem ed_bl (b : Bool) : EvD K (tC (.bl b)) σ H (.bool b) := fun H1 _ Q q => q _ _ (Ex.refl _) (.bl b)
theorem ed_non : EvD K (tC .non) σ H .none := fun H1 _ Q q => q _ _ (Ex.refl _) .non
theorem ed_str (z : Str) : EvD K (tC (.str z)) σ H (.str z) := fun H1 _ Q q => q _ _ (Ex.refl _) (.str z)
theorem ed_neg (i : Int) : EvD K (tUn (rU fun i => .int (-i)) (tC (.int i))) σ H (.int (-i)) := fun H1 _ Q q => ⟨i, rfl, q _ _ (Ex.refl _) (.int _)⟩
theorem ed_var {i : Nat} {v : V} (h : σ[i]? = some (some v)) (hd : Dp K H v d) : EvD K (tVar i) σ H d := fun H1 e Q q => ⟨v, h, q v H1 (Ex.refl _) (dp_ex e hd)⟩
theorem eds_nil : EvDs K tNil σ H [] := fun H1 _ Q q => q [] H1 (Ex.refl _) .nil
theorem eds_cons (h : EvD K te σ H d) (t : EvDs K ta σ H ds) : EvDs K (tCons te ta) σ H (d :: ds) := fun H1 e Q q =>
  h H1 e _ fun v H2 e2 hv => t H2 (e.trans e2) _ fun vs H3 e3 hvs => q _ H3 (e2.trans e3) (.cons (dp_ex e3 hv) hvs)
theorem ed_tup (t : EvDs K ta σ H ds) (hl : ds.length ≤ 1000) : EvD K (tTup ta) σ H (.tuple ds) := fun H1 e Q q =>
  t H1 e _ fun vs H2 e2 hvs => ⟨by rw [dpa_len hvs]; exact Nat.le_of_lt (small1000 hl), fun p hp => q _ _ (e2.trans (Ex.new hp)) (.tup (SqT.of upd_same) (dpa_ex (Ex.new hp) hvs))⟩
theorem ed_lst (t : EvDs K ta σ H ds) (hl : ds.length ≤ 1000) : EvD K (tLst ta) σ H (.list ds) := fun H1 e Q q =>
  t H1 e _ fun vs H2 e2 hvs => ⟨by rw [dpa_len hvs]; exact Nat.le_of_lt (small1000 hl), fun p hp => q _ _ (e2.trans (Ex.new hp)) (.lst (SqL.of upd_same) (dpa_ex (Ex.new hp) hvs))⟩
theorem ed_cat (h : EvD K te σ H (.tuple ds)) (h' : EvD K tf σ H (.tuple es)) (hl : ds.length + es.length ≤ 1000) : EvD K (tOp (rCatB K) te tf) σ H (.tuple (ds ++ es)) := fun H1 e Q q =>
  h H1 e _ fun v H2 e2 hv => h' H2 (e.trans e2) _ fun u H3 e3 hu => by
    obtain ⟨a, xs, rfl, ha, hx⟩ := dp_tup (dp_ex e3 hv)
    obtain ⟨b, ys, rfl, hb, hy⟩ := dp_tup hu
    exact ⟨a, b, xs, ys, rfl, rfl, ha, hb, by rw [dpa_len hx, dpa_len hy]; exact Nat.le_of_lt (small1000 hl), fun p H4 e4 hp => q _ _ ((e2.trans e3).trans e4) (.tup hp (dpa_append (dpa_ex e4 hx) (dpa_ex e4 hy)))⟩
theorem ed_rev (h : EvD K te σ H (.tuple ds)) : EvD K (tRevT K te) σ H (.tuple ds.reverse) := fun H1 e Q q =>
  h H1 e _ fun v H2 e2 hv => by
    obtain ⟨a, xs, rfl, ha, hx⟩ := dp_tup hv
    exact ⟨a, xs, rfl, ha, fun p hp => q _ _ (e2.trans (Ex.new hp)) (.tup (SqT.of upd_same) (dpa_reverse (dpa_ex (Ex.new hp) hx)))⟩
/-- a part of a slice -/
def EvP (tp : TO) (σ : L2.St) (o : Option Int) : Prop := ∀ (H : Hp) (Q : Option Int → Hp → Prop), Q o H → tp σ H Q
theorem ep_none : EvP tNoPart σ none := fun _ _ q => q
theorem ep_int (i : Int) : EvP (tPart (tC (.int i))) σ (some i) := fun _ _ q => ⟨i, rfl, q⟩
theorem ep_neg (i : Int) : EvP (tPart (tUn (rU fun i => .int (-i)) (tC (.int i)))) σ (some (-i)) := fun _ _ q => ⟨i, rfl, -i, rfl, q⟩
theorem ed_sl {tl th : TO} {lo hi : Option Int} (h : EvD K te σ H (.tuple ds)) (hl : EvP tl σ lo) (hh : EvP th σ hi) : EvD K (tSl (rSlB K) te tl th) σ H (.tuple (cutD ds lo hi)) := fun H1 e Q q =>
  h H1 e _ fun v H2 e2 hv => hl H2 _ (hh H2 _ (by
    obtain ⟨a, xs, rfl, ha, hx⟩ := dp_tup hv
    exact ⟨a, xs, rfl, ha, fun p H3 e3 hp => q _ _ (e2.trans e3) (.tup hp (dpa_cut (dpa_ex e3 hx) lo hi))⟩))
theorem ed_list {K' : PySem.W.Frag} (hK : K' = K) (h : EvD K te σ H (.tuple ds)) : EvD K (tCB (fun xs H Q => ∃ p ys, xs = [V.ref p] ∧ (SqL K' H p ys ∨ SqT K' H p ys) ∧ ∀ l, H l = none → Q (V.ref l) (upd H l (HO.lst ys))) (tCons te tNil)) σ H (.list ds) := fun H1 e Q q =>
  h H1 e _ fun v H2 e2 hv => by
    subst hK
    obtain ⟨a, xs, rfl, ha, hx⟩ := dp_tup hv
    exact ⟨a, xs, rfl, .inr ha, fun p hp => q _ _ (e2.trans (Ex.new hp)) (.lst (SqL.of upd_same) (dpa_ex (Ex.new hp) hx))⟩
theorem ed_add {i j : Int} (h : EvD K te σ H (.int i)) (h' : EvD K tf σ H (.int j)) : EvD K (tOp (rI0 fun i j => .int (i + j)) te tf) σ H (.int (i + j)) := fun H1 e Q q =>
  h H1 e _ fun v H2 e2 hv => h' H2 (e.trans e2) _ fun u H3 e3 hu => by
    cases hv; cases hu
    exact ⟨i, j, rfl, rfl, q _ _ (e2.trans e3) (.int _)⟩
theorem ed_last {es : List PyData} (h : EvD K te σ H (.tuple (es ++ [d]))) : EvD K (tOp (rIxT K) te (tUn (rU fun i => .int (-i)) (tC (.int 1)))) σ H d := fun H1 e Q q =>
  h H1 e _ fun v H2 e2 hv => by
    obtain ⟨a, xs, rfl, ha, hx⟩ := dp_tup hv
    have hl := dpa_len hx
    rw [List.length_append, List.length_singleton] at hl
    have hi : es.length < xs.length := by omega
    obtain ⟨d', h1, h2⟩ := dpa_get hx (List.getElem?_eq_getElem hi)
    rw [List.getElem?_append_right (Nat.le_refl _), Nat.sub_self] at h1
    cases h1
    have ex : xs = xs.take es.length ++ [xs[es.length]] := by
      have := List.take_append_drop es.length xs
      rw [List.drop_eq_getElem_cons hi, List.drop_eq_nil_of_le (by omega)] at this
      exact this.symm
    refine ⟨1, rfl, a, xs, -1, xs[es.length], rfl, rfl, ha, ?_, q _ _ e2 h2⟩
    generalize xs[es.length] = y at ex
    rw [ex]; exact atI_last _ _
end
theorem cut_first {α : Type} (x : α) (xs : List α) : cutD (x :: xs) none (some 1) = [x] := by
  unfold cutD
  show ((x :: xs).drop 0).take (min 1 (xs.length + 1) - 0) = [x]
  rw [show min 1 (xs.length + 1) - 0 = 1 by omega]; rfl
theorem cut_last {α : Type} (xs : List α) (x : α) : cutD (xs ++ [x]) (some (-1)) none = [x] := by
  unfold cutD
  have h1 : HT.sIx (xs ++ [x]).length 0 (some (-1)) = xs.length := by
    show ((-1 : Int) + (((xs ++ [x]).length : Nat) : Int)).toNat = xs.length
    rw [List.length_append, List.length_singleton]; omega
  have h2 : HT.sIx (xs ++ [x]).length (xs ++ [x]).length none = xs.length + 1 := by
    show (xs ++ [x]).length = _
    rw [List.length_append, List.length_singleton]
  rw [h1, h2, List.drop_left, show xs.length + 1 - xs.length = 1 by omega]; rfl
theorem cut_most {α : Type} (xs : List α) (x : α) : cutD (xs ++ [x]) none (some (-1)) = xs := by
  unfold cutD
  have h2 : HT.sIx (xs ++ [x]).length (xs ++ [x]).length (some (-1)) = xs.length := by
    show ((-1 : Int) + (((xs ++ [x]).length : Nat) : Int)).toNat = xs.length
    rw [List.length_append, List.length_singleton]; omega
  have h1 : HT.sIx (xs ++ [x]).length 0 none = 0 := rfl
  rw [h1, h2, List.drop_zero, Nat.sub_zero, List.take_left]
/-- data stands while only the row is written -/
theorem dp_kr {K : PySem.W.Frag} {H H' : Hp} {R S : Addr} {i s d0 : Int} (hR : H R = some (.lst [.ref S, .int i, .int s, .int d0])) (k : Kr R H H') : ∀ {v : V} {d : PyData}, noR d = true → Dp K H v d → Dp K H' v d
  | _, _, _, .non => .non
  | _, _, _, .bl b => .bl b
  | _, _, _, .int i => .int i
  | _, _, _, .str x => .str x
  | .ref a, .list ds, t, .lst h ha => by
    have t' : (ds.all isIntD || ds.all fun d => !isIntD d) = true ∧ noRs ds = true := by rw [← Bool.and_eq_true]; exact t
    rcases h with h | h
    · refine .lst (k.sql hR ?_ (.inl h)) (all t'.2 ha)
      intro z
      subst z
      rcases h with h | ⟨o, h⟩
      · rw [hR] at h
        cases h
        cases ha with
        | cons h1 t1 => cases t1 with
          | cons h2 _ =>
            have t1 := t'.1
            rw [Bool.or_eq_true] at t1
            rcases t1 with t1 | t1
            · have := List.all_eq_true.mp t1 _ (List.mem_cons_self)
              cases h1 <;> simp [isIntD] at this
            · have := List.all_eq_true.mp t1 _ (List.mem_cons_of_mem _ List.mem_cons_self)
              cases h2
              simp [isIntD] at this
      · rw [hR] at h; cases h
    · exact .lst (.inr h) (all t'.2 ha)
  | _, _, t, .tup h ha => .tup ((k.kt hR).sqt h) (all t ha)
where all : ∀ {vs : List V} {ds : List PyData}, noRs ds = true → DpAll K H vs ds → DpAll K H' vs ds
  | _, _, _, .nil => .nil
  | _, d :: ds, t, .cons h r => by
    have t' : noR d = true ∧ noRs ds = true := by rw [← Bool.and_eq_true]; exact t
    exact .cons (dp_kr hR k t'.1 h) (all t'.2 r)
end Bg

set_option Elab.async false
set_option linter.all false
set_option maxRecDepth 100000
set_option maxHeartbeats 2000000
/-! an own error class over ValueError: def __init__(self, place): super().__init__(place); self.place = place -/
namespace Bg
open PySem PySem.Spec PySem.Calls PyProof.Rows L2 PySem.W
open Evl (Ex)
section
variable {prog : Program} {w : World} {A : Around} {E : Value → Shared → Prop} {h : Heap} {g : Array GenState} {d : Drawn} {t : Nat} {os : OsState}
variable {nm q : Str} {C N : Addr} {bs bm : List Value} {hdct : Bool} {sn : List Str} {sub : List Value} {ab : Bool} {col : Option Bool} {dd : Option Addr} {k0 k1 k2 k3 k5 : Option Value}
/-- the bound ValueError.__init__ called -/
theorem call_mw {u e t0 : Addr} {rest : List Value} {Q : Value → Shared → Prop}
    (hC : h.get? C = some (excClassObj nm q C N bs bm hdct sn sub ab col dd k0 k1 k2 k3 k5 "ValueError.__new__")) (he : h.get? e = some ({ cls := .ref C, dict := none, data := .fields #[.ref t0, .none, .none, .none, .bool false, .none] } : Obj)) (hu : h.get? u = some (kxs_mw "ValueError.__init__" e)) (hrest : rest.length ≤ sizeLine)
    (hq : ∀ h' t1, (∀ b o, b ≠ e → h.get? b = some o → h'.get? b = some o) → h'.get? e = some ({ cls := .ref C, dict := none, data := .fields #[.ref t1, .none, .none, .none, .bool false, .none] } : Obj) → Q .none ⟨h', g, d, t, os⟩) :
    wpAny (model prog w) A (call (.ref u) rest) Q E ⟨h, g, d, t, os⟩ := by
  refine wpAny_call (codeAny_of_tree ?_)
  show wpAny _ A.in1 (callAny (.ref u) ⟨rest, []⟩) _ _ _
  simp only [callAny]
  refine wpAny_bind (wpAny_load hu ?_)
  simp only [kxs_mw, show (Value.type "method-wrapper" == Value.type "method" || Value.type "method-wrapper" == Value.type "builtin_function_or_method" || Value.type "method-wrapper" == Value.type "method-wrapper") = true by decide, if_true]
  refine W.KFB.if_so (by decide) ?_
  refine wpAny_bind (check_bound_init F.excBase_ValueError.toExcCallFacts hC he rfl ?_)
  refine wpAny_bind (wpAny_pure (wpAny_pure ?_))
  refine ⟨plainId_quiet F.excBase_ValueError.init.plain _, codeAny_builtin F.excBase_ValueError.initEntry ?_⟩
  exact exc_init_tree (cls := .ref C) (t0 := t0) (dv := none) (c2 := .none) (c3 := .none) (b4 := .bool false) he hrest fun h' k e' _ => hq h' _ k e'
end
abbrev supBody (p0 p1 p2 p3 p4 p5 p6 p7 p8 p9 : Pos) : List Stmt := [.Expr (.Call (.Attribute (.Call (.Name "super" p0) [] [] p1) "__init__" p2) [.Name "place" p3] [] p4) p5, .Assign [.Attribute (.Name "self" p6) "place" p7] (.Name "place" p8) p9]
def spSup (C : Addr) : Sp := fun vs H Q _ => ∃ a v, vs = [.ref a, v] ∧ H a = some (exo a C none) ∧ ∀ dx, H dx = none → dx ≠ a → Q .non (upd (upd H dx (exd dx [("place", v)])) a (exo a C (some dx)))
section
variable {P : Program} {w : World} {K : Frag} {mg : Str → Option Value} {base : Heap} {CX : CXT} {f cc cda C : Addr} {name qual : Str} {params : Arguments} {scope : Scope} {dV kV doc pm ct oc ccl cl : Value} {an od cdd cld : Option Addr} {osl ccs csl : Array (Option Value)} {vs : Array Value} {file : Str} {tf : Tok} {ar : Arg}
variable {p0 p1 p2 p3 p4 p5 p6 p7 p8 p9 : Pos}
theorem fn_sup (lk : K.lookup f = some ⟨oc, od, .func (ksFn name qual params (supBody p0 p1 p2 p3 p4 p5 p6 p7 p8 p9) scope dV kV doc pm an (.ref cda) ct cc), osl⟩) (hcd : codeIn K (.ref cda) qual = true)
    (hp : (params.posonlyargs ++ params.args).head? = some ar) (har : ar.arg = "self") (kind : scope.kind = .function) (co : scope.isCoroutine = false) (gen : scope.isGenerator = false)
    (n1 : scope.names.lookup ("super" : Str) = some .globalImplicit) (n2 : scope.names.lookup ("__class__" : Str) = some .free) (n3 : scope.names.lookup ("self" : Str) = some .local) (n4 : scope.names.lookup ("place" : Str) = some .local)
    (ncell : ∀ x ∈ scope.names, x.2 ≠ .cell) (nfree : ∀ x, scope.names.lookup x = some .free → x = "__class__") (hcode : K.lookup cda = some ⟨ccl, cdd, .fields vs, ccs⟩) (hvs : vs[2]? = some (.str file tf)) (hfile : ((P.main.file : Str) == file) = true)
    (hcell : K.lookup cc = some ⟨cl, cld, .cell (some (.ref C)), csl⟩) (T : OexC K C) (hsub : mroIn K C (.ref C) = some true) (hB : subIn K (.ref C) (.type "ValueError") = some true) (hsup : mg "super" = none)
    (hm : ks_superIn K C C "__init__" = some (some (.builtin "ValueError.__init__"))) (hop : nsIn K cStatics "thirdparty.any" = some none) (hno : findIn K (.ref C) "place" = some none) (htop : (P.main.scope.names.lookup ("super" : Str)).isSome = false)
    (hev : ∀ env : Env, ∃ pl : Sem Bool, eval (.Call (.Attribute (.Call (.Name "super" p0) [] [] p1) "__init__" p2) [.Name "place" p3] [] p4) env = (do
      let ov ← attributeBase (.Call (.Name "super" p0) [] [] p1) "__init__" env (eval (.Call (.Name "super" p0) [] [] p1) env)
      standAt p2.atName
      let (f, first) ← holding [ov] (getMethod ov "__init__" pl)
      callWith p4 f first (backTo p4 (starEach [.Name "place" p3] env)) [])) :
    FnOk P w K mg base CX 1 f (ksFn name qual params (supBody p0 p1 p2 p3 p4 p5 p6 p7 p8 p9) scope dV kV doc pm an (.ref cda) ct cc) ["self", "place"] (spSup C) := by
  refine ⟨fun vs H Q E h => ?_, fun A outer s H args us vs Q E hr e0 hb r hsp => ?_⟩
  · obtain ⟨a, v, rfl, _⟩ := h; rfl
  obtain ⟨a, v, rfl, ha, q⟩ := hsp
  obtain ⟨u0, u1, rfl, rfl, rv⟩ : ∃ u0 u1, us = [u0, u1] ∧ u0 = .ref a ∧ RelV v u1 := by
    cases r with
    | cons r0 r => cases r with
      | cons r1 r => cases r; exact ⟨_, _, rfl, r0, r1⟩
  have KX : K.In s.heap := e0.mod.kin.keeps fun b o e => (e0.bs b o e).1
  have lim : s.heap.NoLimit := e0.mod.nolimit.keeps fun b o e => (e0.bs b o e).1
  obtain ⟨nm, qn, N, bs, bm, sn, sub, ab, col, dd, k0, k1, k2, k3, k5, hC, hbm⟩ := T.cls
  have hcl : clsIn K C = some { name := nm, bases := bs, mro := .ref C :: bm, ns := N, qualname := qn, hasDict := true, slotNames := sn, subclasses := sub, abstract := ab, collection := col, hasDel := false } := by unfold clsIn; rw [hC] <;> rfl
  have hm' : alongIn K "__init__" ((Value.ref C :: bm).dropWhile (· != .ref C) |>.drop 1) = some (some (.builtin "ValueError.__init__")) := by
    unfold ks_superIn at hm
    rw [hcl] at hm
    exact hm
  refine ks_codeAny_call_defAt (binds := [("self", .ref a), ("place", u1)]) hr.depth (KX _ _ lk) rfl lim (codeRec_of KX hcd) rfl hb ncell (fun y hy => ?_) (fun h₁ hns hk => ?_) co gen kind
  · rcases List.mem_cons.mp hy with rfl | hy
    · exact n3
    · rw [List.mem_singleton.mp hy]; exact n4
  obtain ⟨hp0, g0, d0, t0, os0⟩ := s
  let env : Env := ksEnv qual scope hp0.objs.size f (.ref cda) cc
  let X : Cx := { prog := P, w := w, K := K, mg := mg, base := base, A := A.deeper env, N := ["self", "place"], s_0 := ⟨hp0, g0, d0, t0, os0⟩, H_0 := H, env := env, outer := outer, stack := env :: outer, ex := [], calm := true, fn := fun _ => false, pn := [], xe := fun _ _ => False }
  have hlook : ∀ x c, env.cells.lookup x = some c → x = "__class__" ∧ c = cc := fun x c hx => by
    have hx2 : List.lookup x [(("__class__" : Str), cc)] = some c := hx
    rw [List.lookup_cons] at hx2
    split at hx2
    · rename_i e
      exact ⟨eq_of_beq e, (Option.some.inj hx2).symm⟩
    · cases hx2
  have hccb : base.get? cc = some ⟨cl, cld, .cell (some (.ref C)), csl⟩ := e0.mod.kin _ _ hcell
  have I : Inv X [] [some (.ref a), some v] H ⟨h₁, g0, d0, t0 + 2, os0⟩ := by
    have noA : ∀ b : Addr, b ∉ X.ex := fun b z => absurd (show b ∈ ([] : List Addr) from z) (by simp)
    refine ⟨⟨e0.mod, kind, rfl, rfl, Nat.le_refl _, fun y z c h1 h2 => ?_, fun y hy => ?_, fun y c h => ?_, fun _ => hr.hd, Around.frames_deeper e0.frames, .inr ⟨rfl, rfl⟩, fun b z => absurd z (noA b), e0.bs, e0.bsz, fun b _ _ => noA b, fun b z => absurd z (noA b), e0.funs, e0.frf⟩,
      rfl, e0.bare, Un.kept hk, ⟨_, hns, fun i y x h1 h2 h3 => ?_⟩, fun y c h => ?_, e0.hok.fresh (Nat.le_refl _), fun y c h => ?_, fun p hp => absurd (show p ∈ ([] : List (Addr × Obj)) from hp) (by simp), e0.hok.kept hk, rfl⟩
    · rw [(hlook _ _ h1).1, (hlook _ _ h2).1]
    · have hy : scope.names.lookup y = some .cell ∨ scope.names.lookup y = some .free := hy
      rcases hy with hy | hy
      · exact absurd rfl (ncell _ (PySem.mem_of_lookup hy))
      · rw [nfree _ hy]; exact ⟨cc, rfl⟩
    · cases h
    · match i, h1, h2 with
      | 0, h1, h2 =>
        cases h1; cases h2
        exact ⟨.ref a, rfl, .inl ⟨n3, rfl⟩⟩
      | 1, h1, h2 =>
        cases h1; cases h2
        exact ⟨u1, rv, .inl ⟨n4, rfl⟩⟩
      | i + 2, h1, h2 => cases h1
    · rw [(hlook _ _ h).2]
      exact ⟨_, _, hk _ _ (e0.bs _ _ hccb).1, rfl⟩
    · rw [(hlook _ _ h).2]
      exact (e0.bs _ _ hccb).2
  have KX1 : K.In h₁ := I.kIn
  obtain ⟨t1, hat⟩ := exo_at I.hok ha
  have hCo : h₁.get? C = some _ := KX1 _ _ hC
  obtain ⟨pl, hev⟩ := hev env
  have hin : interactive env = false := by
    have kk : env.scope.kind = .function := kind
    simp [interactive, kk]
  refine ks_wpAt_execs_cons (ks_wpAt_Expr_any (ks_wpAt_MethodCall (pl := pl) ?_ hev) hin (by rfl))
  refine ks_wpAt_super_base (env := env) n1 n2 (by decide) rfl (KX1 _ _ lk) rfl hp rfl (KX1 _ _ hcode) rfl hvs hfile htop ?_
  obtain ⟨mb, hb1, hb2⟩ := e0.mod.blt
  refine ks_loadName_global kind n1 (loadGlobal_builtin (env := env) (e0.mod.glob.keeps I.bk) hsup (hb1.keeps I.bk) ((hb2 "super" (by decide)).trans (by first | boot_by_name | rfl | kernel_rfl)) ⟨rfl, ?_⟩)
  refine wpAny_loadName_free kind n2 rfl ⟨_, KX1 _ _ hcell, rfl⟩ ?_
  rw [har]
  refine wpAny_loadName_local kind n3 hns rfl ?_
  refine ks_wpAny_isType_cls hCo rfl ⟨rfl, ?_⟩
  refine ks_wpAny_call_super hCo rfl hat rfl (fun c e => nomatch e) (looks_mroIn KX1 hsub) (fun h2 e2 kk2 => ?_)
  have KX2 : K.In h2 := KX1.keeps kk2
  have hmro : Looks (model P w) h2 (mroOf (.ref C)) (.ref C :: bm) := fun A Q E s k q => wpAny_bind ((looks_clsIn KX2 hcl) A _ E s k (wpAny_pure q))
  have IA : InstAt h2 a _ C none := ⟨kk2 _ _ hat, rfl, rfl, trivial⟩
  have hI : Looks (model P w) h2 (isInstance (.ref a) (.type "ValueError")) true := IA.type.andThen (looks_subIn KX2 hB)
  refine kxs_getMethod kxs_ValueError e2 (looks_opaque KX2 hop) hmro rfl KX2 hm' hI (ks_ne KX2 IA hcl) (by decide) ?_
  have kk3 : ∀ b o, h₁.get? b = some o → (h2.push (kxs_mw "ValueError.__init__" a)).get? b = some o := fun b o e => Heap.get?_push_of_some _ (kk2 b o e)
  have hu : (h2.push (kxs_mw "ValueError.__init__" a)).get? h2.objs.size = some (kxs_mw "ValueError.__init__" a) := Heap.get?_push_size _ rfl
  show wpAny (model P w) (A.deeper env) (callWith p4 (.ref h2.objs.size) [] (backTo p4 (starEach [.Name "place" p3] env)) []) _ _ _
  refine kxs_callWith (i := "ValueError.__init__") (x := a) rfl (evalArgs_plain (args_cons (env := env) (pos := p4) (wpAny_Name (wpAny_loadName_local kind n4 (hns.keeps kk3) (v := u1) rfl (args_nil ?_)) (by decide)) rfl))
  refine ⟨hu, call_mw (KX1.keeps kk3 _ _ hC) (kk3 _ _ hat) hu (by show 1 ≤ sizeLine; decide) fun h4 t4 k4 hat4 => ?_⟩
  have I3 : Inv X [] [some (.ref a), some v] H ⟨h2.push (kxs_mw "ValueError.__init__" a), g0, d0, t0 + 2 + 1, os0⟩ := I.kept (t' := t0 + 2 + 1) kk3
  have J := I3.write (t' := t0 + 2 + 1) (x := a) (e := a) (o := exo a C none) (by rw [ha]; exact True.intro) (.inl rfl) k4 ⟨_, hat4⟩ (exo_ok hat4)
  have eu : upd H a (exo a C none) = H := by
    funext b
    by_cases hb : b = a
    · rw [hb, upd_same, ha]
    · rw [upd_ne hb]
  rw [eu] at J
  have ht : tOst K "place" (tVar 0) (tVar 1) { nx := fun _ H' => Q .non H', rt := fun _ _ => False } [some (.ref a), some v] H :=
    ⟨v, rfl, .ref a, rfl, a, C, rfl, T, hno, .inl ⟨ha, fun dx n ne => q dx n ne⟩⟩
  have run := (show PS X (.Assign [.Attribute (.Name "self" p6) "place" p7] (.Name "place" p8) p9) (tOst K "place" (tVar 0) (tVar 1)) from ps_ost (pv 0 (x := "self") (pos := p6) rfl (.inl n3)) (pv 1 (x := "place") (pos := p8) rfl (.inl n4)) rfl).run [] _ _ H _ J ht
  refine ks_wpAt_execs_cons (wpAt_of_wpAny (wpAny_mono run (fun fl s' hs => ?_) fun _ _ z => z.elim))
  cases fl with
  | next =>
    obtain ⟨σ', H', J', q'⟩ := hs
    refine wpAt_of_wpAny (wpAny_pure ?_)
    exact ⟨.non, H', J'.os, J'.bare, J'.base, J'.hok, rfl, q'⟩
  | ret u => obtain ⟨_, _, _, _, _, z⟩ := hs; exact z.elim
  | brk => obtain ⟨_, _, _, z⟩ := hs; exact z.elim
  | cont => obtain ⟨_, _, _, z⟩ := hs; exact z.elim
end
end Bg

set_option Elab.async false
set_option linter.all false
set_option maxRecDepth 100000
set_option maxHeartbeats 2000000
namespace Bg
open PySem PySem.Spec PyProof.Rows L2
open Evl (Ex)
/-- the class of errors with a place -/
structure Ei (P : Program) (w : World) (K : PySem.W.Frag) (mg : Str → Option Value) (base : Heap) (x : Str) (C : Addr) : Prop where
  gC : mg x = some (.ref C)
  T : OexC K C
  ex : ∃ fI fd, PySem.W.findIn K (.ref C) "__init__" = some (some (.ref fI)) ∧ PySem.W.typeIn K (.ref fI) = some (.type "function") ∧ FnOk P w K mg base CX0 1 fI fd ["self", "place"] (spSup C) ∧ Binds K fd ["self", "place"] []
theorem mk_inv {X : Cx} {x : Str} {C : Addr} {e : Expr} {te : TE} {p pos : Pos} (T : Ei X.prog X.w X.K X.mg X.base x C) (hr : Room 2 X.A) (hg : Gl X x) (he : PE X e te) (hdb : (x == ("__debug__" : Str)) = false := by decide) (hs : starEach [e] X.env = (false, eval e X.env) :: starEach [] X.env := by rfl) :
    PMk X (.Call (.Name x p) [e] [] pos) (tMkO C (spSup C) [] (tCons te tNil)) := by
  obtain ⟨fI, fd, iC, tI, F1, hb⟩ := T.ex
  exact pmk_oex T.T iC tI F1 hr hb .nil pass0 hg T.gC (pa_cons he pa_nil hs) hdb hs rfl
theorem inv_ok {C : Addr} {v : V} {H1 : Hp} {Q : XK} (hq : ∀ d, H1 d = none → Q (.ref C) (some d) (upd H1 d (.xd [("place", v)]))) : ([v] : List V).length ≤ 1000 ∧ ∀ a, H1 a = none → spSup C (.ref a :: ([v] ++ [])) (upd H1 a (exo a C none))
      (fun v H2 => v = .non ∧ ∃ (d : Addr) (fs : List (Str × V)), H2 a = some (exo a C (some d)) ∧ H2 d = some (exd d fs) ∧ H1 d = none ∧ Q (.ref C) (some d) (upd (del H2 a) d (.xd fs))) (fun _ _ _ => False) := by
  refine ⟨by show 1 ≤ 1000; decide, fun a ha => ⟨a, v, rfl, upd_same, fun dx n ne => ⟨rfl, dx, [("place", v)], upd_same, ?_, ?_, ?_⟩⟩⟩
  · rw [upd_ne ne, upd_same]
  · rw [upd_ne ne] at n; exact n
  · have n1 : H1 dx = none := by rw [upd_ne ne] at n; exact n
    have e : upd (del (upd (upd (upd H1 a (exo a C none)) dx (exd dx [("place", v)])) a (exo a C (some dx))) a) dx (.xd [("place", v)]) = upd H1 dx (.xd [("place", v)]) := by
      funext b
      by_cases h1 : b = dx
      · rw [h1, upd_same, upd_same]
      · rw [upd_ne h1, upd_ne h1]
        by_cases h2 : b = a
        · rw [h2, del_same, ha]
        · rw [del_ne h2, upd_ne h2, upd_ne h1, upd_ne h2]
    rw [e]
    exact hq dx n1
/-- a test's answer, wherever the heap has grown -/
def TB (t : TT) (σ : L2.St) (H : Hp) (c : Bool) : Prop := ∀ H1, Ex H H1 → ∀ Q : Bool → Hp → Prop, (∀ H2, Ex H1 H2 → Q c H2) → t σ H1 Q
theorem tb_and {t u : TT} {σ : L2.St} {H : Hp} {c d : Bool} (h : TB t σ H c) (k : c = true → TB u σ H d) : TB (tAnd t u) σ H (c && d) := fun H1 e1 Q q => h H1 e1 _ fun H2 e2 => by
  cases c with
  | true => exact iteT (k rfl H2 (e1.trans e2) _ fun H3 e3 => q H3 (e2.trans e3))
  | false => exact iteF (q H2 e2)
theorem tb_or {t u : TT} {σ : L2.St} {H : Hp} {c d : Bool} (h : TB t σ H c) (k : c = false → TB u σ H d) : TB (tOr t u) σ H (c || d) := fun H1 e1 Q q => h H1 e1 _ fun H2 e2 => by
  cases c with
  | true => exact iteT (q H2 e2)
  | false => exact iteF (k rfl H2 (e1.trans e2) _ fun H3 e3 => q H3 (e2.trans e3))
theorem tb_ifs {t : TT} {a b : TS} {D : Ends} {σ : L2.St} {H : Hp} {c : Bool} (h : TB t σ H c) (ha : c = true → ∀ H', Ex H H' → a D σ H') (hb : c = false → ∀ H', Ex H H' → b D σ H') : tIfS t a b D σ H := h H (Ex.refl H) _ fun H' e => by
  cases c with
  | true => exact iteT (ha rfl H' e)
  | false => exact iteF (hb rfl H' e)
theorem TB.cast {t : TT} {σ : L2.St} {H : Hp} {c d : Bool} (h : TB t σ H c) (e : c = d) : TB t σ H d := e ▸ h
end Bg

set_option Elab.async false
set_option linter.all false
set_option maxRecDepth 100000
set_option maxHeartbeats 2000000
/-! a lambda with one parameter that has a whole number as its default, handed to a def that calls it with nothing -/
namespace Bg
open PySem PySem.Spec PyProof.Rows L2 LamX
open Evl (Ex)
/-- the lambda's names: its parameter (no name of the maker's), captured ones and globals -/
structure LamD (N : List Str) (sc scope : Scope) (y : Str) : Prop where
  kind : scope.kind = .function
  co : scope.isCoroutine = false
  gen : scope.isGenerator = false
  par : scope.names.lookup y = some .local
  own : ∀ z ∈ scope.names, z.2 = .local → z.1 ∉ N
  cell : ∀ z ∈ scope.names, z.2 ≠ .cell
  free : ∀ z ∈ scope.names, z.2 = .free → sc.names.lookup z.1 = some .cell ∨ sc.names.lookup z.1 = some .free
def lamDB (N : List Str) (sc scope : Scope) (y : Str) : Bool :=
  decide (scope.kind = .function) && !scope.isCoroutine && !scope.isGenerator && decide (scope.names.lookup y = some .local) && (scope.names.all fun z => !decide (z.2 = .local) || !decide (z.1 ∈ N)) &&
    (scope.names.all fun z => !decide (z.2 = .cell)) && scope.names.all fun z => !decide (z.2 = .free) || decide (sc.names.lookup z.1 = some .cell) || decide (sc.names.lookup z.1 = some .free)
theorem lamD_by {N : List Str} {sc scope : Scope} {y : Str} (h : lamDB N sc scope y = true) : LamD N sc scope y := by
  unfold lamDB at h
  simp only [Bool.and_eq_true, Bool.or_eq_true, Bool.not_eq_true', decide_eq_true_eq, decide_eq_false_iff_not, List.all_eq_true] at h
  obtain ⟨⟨⟨⟨⟨⟨h1, h2⟩, h3⟩, h4⟩, h5⟩, h6⟩, h7⟩ := h
  refine ⟨h1, h2, h3, h4, fun z hz e => ?_, h6, fun z hz e => ?_⟩
  · rcases h5 z hz with q | q
    · exact absurd e q
    · exact q
  · rcases h7 z hz with (q | q) | q
    · exact absurd e q
    · exact .inl q
    · exact .inr q
section
variable {X : Cx} {pins : List (Addr × Obj)} {σ : L2.St} {H HZ : Hp} {s s1 : Shared}
theorem LamD.has {scope : Scope} {y : Str} (L : LamD X.N X.env.scope scope y) (ok : X.Ok) : ∀ z ∈ scope.names, z.2 = .free → ∃ c, X.env.cells.lookup z.1 = some c := fun z hz e => by
  rcases L.free z hz e with k | k
  · exact ok.has _ (.inl k)
  · exact ok.has _ (.inr k)
/-- what lies ahead of all that is new is no frame -/
theorem new_noframe (I : Inv X pins σ H s) : ∀ f, s.heap.objs.size ≤ f → f ∉ frs X.stack := fun f hf z => by
  rcases List.mem_cons.mp (I.stkSub _ z) with e | e
  · have h1 := I.lt
    rw [← e] at h1
    exact Nat.lt_irrefl _ (Nat.lt_of_lt_of_le h1 hf)
  · exact I.nofs hf e
abbrev lamFd (X : Cx) (params : Arguments) (body : Expr) (scope : Scope) (T0 c' : Addr) (doc pm ctv : Value) : FuncData :=
  PySem.W.kdv_fn "<lambda>" (X.env.qual ++ "<lambda>") params (.expr body) scope (cloFrom X.env.cells scope.names []) (.ref T0) doc pm (.ref c') ctv
/-- such a lambda made -/
structure Made1 (X : Cx) (T : List (Addr × Str)) (params : Arguments) (body : Expr) (scope : Scope) (i : Int) (H H1 : Hp) (h : Heap) (f c' T0 : Addr) (tk : Tok) (doc pm ctv : Value) : Prop where
  ext : ExtN H H1
  tabs : Tabs T H1
  dat : h.get? T0 = some (PySem.W.kdv_tup [.int i tk])
  datN : H1 T0 = none
  datF : T0 ∉ frs X.stack
  fun_ : h.get? f = some ({ cls := .type "function", data := .func (lamFd X params body scope T0 c' doc pm ctv) } : Obj)
  funN : H1 f = none
  funF : f ∉ frs X.stack
  code : H1 c' = some (CodeO c' (X.env.qual ++ "<lambda>"))
theorem lam_makeD {T : List (Addr × Str)} {c P : Addr} {params : Arguments} {body : Expr} {scope : Scope} {pos p0 : Pos} {i : Int} {j : Nat} {y : Str} {E : Value → Shared → Prop} {Q : Value → Shared → Prop} (I : Inv X pins σ H s) (TB : TabB X.base X.mg c P) (hcode : X.env.code = .ref c)
    (hm : (P, X.env.qual ++ "<lambda>") ∈ T) (hu : ∀ p ∈ T, p.1 = P → p.2 = X.env.qual ++ "<lambda>") (hT : Tabs T H) (hdef : params.defaults = [.Constant (.int i) j p0]) (hkw : params.kw_defaults = []) (L : LamD X.N X.env.scope scope y)
    (h : ∀ (f c' T0 : Addr) (tk : Tok) (doc pm ctv : Value) (H1 : Hp) (s' : Shared), Inv X pins σ H1 s' → Made1 X T params body scope i H H1 s'.heap f c' T0 tk doc pm ctv → Q (.ref f) s') :
    wpAny (model X.prog X.w) X.A (eval (.Lambda params body scope pos) X.env) Q E s := by
  have hfree := L.has I.ok
  refine PySem.W.kdv_lam (by rw [hdef]; rfl) hkw ?_
  rw [hdef]
  refine PySem.W.kdv_all1 (thn ((pe_int (X := X) (i := i) (j := j) (pos := p0)).run pins s σ H (fun v H1 => v = .int i ∧ H1 = H) I ⟨rfl, rfl⟩) fun u s1 ⟨v, H1, I1, r, ev, eH⟩ => PySem.W.kdv_all0 ?_)
  subst ev eH
  obtain ⟨tk0, rfl⟩ := r
  rw [makeFunction_eq]
  simp only [List.zip_nil_right, List.filterMap_nil, List.isEmpty_nil, List.isEmpty_cons, Bool.false_eq_true, if_false, if_true, pure_bind]
  refine wpAny_bind (wpAny_newTextTuple ?_)
  have I2 : Inv X pins σ H1 { s1 with heap := s1.heap.push (PySem.W.kdv_tup [.int i tk0]) } := I1.kept (t' := s1.toks) fun b o e => Heap.get?_push_of_some _ e
  have hT0 : (s1.heap.push (PySem.W.kdv_tup [.int i tk0])).get? s1.heap.objs.size = some (PySem.W.kdv_tup [.int i tk0]) := Heap.get?_push_size _ rfl
  have nT0 : H1 s1.heap.objs.size = none := I1.hok.fresh (Nat.le_refl _)
  have fT0 : s1.heap.objs.size ∉ frs X.stack := new_noframe I1 _ (Nat.le_refl _)
  show wpAny _ _ (makeTail "<lambda>" (X.env.qual ++ "<lambda>") params (.expr body) scope X.env (.ref s1.heap.objs.size) .none none pos pos.line) Q E { s1 with heap := s1.heap.push (PySem.W.kdv_tup [.int i tk0]) }
  generalize s1.heap.objs.size = T0 at hT0 nT0 fT0
  obtain ⟨ps, hP, ht, ha⟩ := hT _ hm
  have bP : Heap.BuiltinsAt (s1.heap.push (PySem.W.kdv_tup [.int i tk0])) X.mg P := TB.bm.keeps I2.bk
  have hP' : (s1.heap.push (PySem.W.kdv_tup [.int i tk0])).get? P = some { cls := .none, data := .fields ps } := I2.hok P _ hP
  have hTP : T0 ≠ P := fun z => by rw [z, hP] at nT0; cases nT0
  cases hc : codeAmong pos ps.toList with
  | none =>
    refine PySem.W.kdv_makeTail (mg := X.mg) (c := c) (P := P) (ps := ps) (closure_ok hfree) I2.ok.glob (I2.mod.glob.keeps I2.bk) hcode (TB.code.keeps I2.bk) hP' ht hc TB.gP bP fun c' ctv doc h' tk hx hge hlt hrec htb => ?_
    obtain ⟨c2, oc, vs, t, e2, hoc, hd, hv⟩ := hrec
    cases e2
    have hge' : ({ s1 with heap := s1.heap.push (PySem.W.kdv_tup [.int i tk0]) } : Shared).heap.objs.size ≤ c' := hge
    have hsz : ({ s1 with heap := s1.heap.push (PySem.W.kdv_tup [.int i tk0]) } : Shared).heap.objs.size ≤ h'.objs.size := Nat.le_trans hge (Nat.le_of_lt hlt)
    have nC : H1 c' = none := I2.hok.fresh hge'
    have nF : H1 h'.objs.size = none := I2.hok.fresh hsz
    have I3 := inv_table (t' := tk) (q := X.env.qual ++ "<lambda>") (more := #[rawInt pos.line, rawInt pos.col, .ref c']) (h' := h'.push (PySem.W.kdv_obj "<lambda>" (X.env.qual ++ "<lambda>") params (.expr body) scope (cloFrom X.env.cells scope.names []) (.ref T0) doc ((X.mg "__name__").getD .none) c' ctv)) I2 hP
      (fun b o hb e => Heap.get?_push_of_some _ (hx b o hb e)) (Heap.get?_push_of_some _ htb) hge' ⟨oc, vs, t, Heap.get?_push_of_some _ hoc, hd, hv⟩
    have keep1 : ∀ b, b ≠ P → b ≠ c' → upd (upd H1 P (.tbl (ps ++ #[rawInt pos.line, rawInt pos.col, .ref c']))) c' (CodeO c' (X.env.qual ++ "<lambda>")) b = H1 b := fun b h1 h2 => by rw [upd_ne h2, upd_ne h1]
    have hE : ExtN H1 (upd (upd H1 P (.tbl (ps ++ #[rawInt pos.line, rawInt pos.col, .ref c']))) c' (CodeO c' (X.env.qual ++ "<lambda>"))) := fun b o e n => by
      rw [keep1 b (fun z => n ps (Option.some.inj (e.symm.trans (by rw [z]; exact hP)))) (ne_of_none e nC)]
      exact e
    have eL : (ps ++ #[rawInt pos.line, rawInt pos.col, .ref c']).toList = ps.toList ++ [rawInt pos.line, rawInt pos.col, .ref c'] := by simp
    have hfc : h'.objs.size ≠ c' := Nat.ne_of_gt hlt
    have hfP : h'.objs.size ≠ P := Nat.ne_of_gt (Nat.lt_of_lt_of_le (Heap.lt_size hP') hsz)
    have hTc : T0 ≠ c' := fun z => by
      have := Heap.lt_size hT0
      rw [z] at this
      exact Nat.lt_irrefl _ (Nat.lt_of_lt_of_le this hge)
    refine h h'.objs.size c' T0 tk0 doc ((X.mg "__name__").getD .none) ctv _ _ I3 ⟨hE, fun p hp => ?_, Heap.get?_push_of_some _ (hx T0 _ hTP hT0), by rw [keep1 _ hTP hTc]; exact nT0, fT0, Heap.get?_push_size _ rfl, by rw [keep1 _ hfP hfc]; exact nF, new_noframe I2 _ hsz, upd_same⟩
    by_cases hb : p.1 = P
    · rw [hu p hp hb, hb]
      refine ⟨_, by rw [upd_ne (ne_of_none hP nC), upd_same], by rw [eL]; exact PySem.TriplesOk_snoc _ _ _ _ ht, fun p' cv hcv => ?_⟩
      rw [eL] at hcv
      rcases among_app _ ht hcv with z | z
      · obtain ⟨c0, e1, e2⟩ := ha p' cv z
        exact ⟨c0, e1, hE _ _ e2 codeO_ne⟩
      · exact ⟨c', z, upd_same⟩
    · obtain ⟨ps', a1, a2, a3⟩ := hT p hp
      refine ⟨ps', by rw [keep1 _ hb (ne_of_none a1 nC)]; exact a1, a2, fun p' cv hcv => ?_⟩
      obtain ⟨c0, e1, e2⟩ := a3 p' cv hcv
      exact ⟨c0, e1, hE _ _ e2 codeO_ne⟩
  | some cv =>
    obtain ⟨c', e, hco⟩ := ha pos cv hc
    subst e
    refine PySem.W.kdv_makeTailHit (mg := X.mg) (c := c) (P := P) (ps := ps) (closure_ok hfree) I2.ok.glob (I2.mod.glob.keeps I2.bk) hcode (TB.code.keeps I2.bk) hP' ht hc bP fun ctv doc h' tk hx hsz => ?_
    have I3 : Inv X pins σ H1 { s1 with heap := h'.push (PySem.W.kdv_obj "<lambda>" (X.env.qual ++ "<lambda>") params (.expr body) scope (cloFrom X.env.cells scope.names []) (.ref T0) doc ((X.mg "__name__").getD .none) c' ctv), toks := tk } := I2.kept fun b o e => Heap.get?_push_of_some _ (hx b o e)
    exact h h'.objs.size c' T0 tk0 doc ((X.mg "__name__").getD .none) ctv H1 _ I3 ⟨ExtN.refl H1, hT, Heap.get?_push_of_some _ (hx T0 _ hT0), nT0, fT0, Heap.get?_push_size _ rfl, I2.hok.fresh hsz, new_noframe I2 _ hsz, hco⟩
/-- the lambda's body entered: the maker's names as the lambda sees them -/
theorem lam_startD {A : Around} {outer : List Env} {E : XK} {scope : Scope} {f c' : Addr} {h₁ : Heap} {tk : Nat} {y : Str} {v : Value} (I : Inv X pins σ H s) (L : LamD X.N X.env.scope scope y) (e0 : Env0 X.prog X.w X.K X.mg X.base A outer s1 HZ) (hd : A.handled = none)
    (un : Un (frs X.stack) [] H HZ s.heap s1.heap) (hns : h₁.Ns s1.heap.objs.size fun z => ([(y, v)] : List (Str × Value)).reverse.lookup z) (kp : ∀ b o, s1.heap.get? b = some o → h₁.get? b = some o) :
    Inv (lamCx X A outer s1 HZ E scope f c') [] σ HZ { s1 with heap := h₁, toks := tk } := by
  have hfree := L.has I.ok
  have cm : ∀ {z c}, (cloFrom X.env.cells scope.names []).lookup z = some c → X.env.cells.lookup z = some c := fun {z c} e => by
    rcases cloFrom_mem (PySem.mem_of_lookup e) with hm | ⟨h1, h2⟩
    · cases hm
    · obtain ⟨c1, hc⟩ := hfree _ h1 rfl
      replace hc : X.env.cells.lookup z = some c1 := hc
      have e2 : c = c1 := by rw [h2, hc] <;> rfl
      rw [e2]; exact hc
  have look : ∀ {z}, scope.names.lookup z = some .free → ∃ c, (cloFrom X.env.cells scope.names []).lookup z = some c := fun {z} hl =>
    mem_lookup (cloFrom_has (cells := X.env.cells) (acc := []) (show (z, NameKind.free) ∈ scope.names from PySem.mem_of_lookup hl))
  have cellK : ∀ {c : Addr} {u : Option Value}, H c = none → s.heap.IsCell c u → h₁.IsCell c u := fun {c u} n ⟨o, ho, hdt⟩ => by
    obtain ⟨sl, q⟩ := un.any ho n (by simp)
    exact ⟨_, kp _ _ q, hdt⟩
  have noA : ∀ b : Addr, b ∉ (lamCx X A outer s1 HZ E scope f c').ex := fun b z => absurd (show b ∈ ([] : List Addr) from z) (by simp)
  have okX : (lamCx X A outer s1 HZ E scope f c').Ok := by
    refine ⟨e0.mod, L.kind, rfl, rfl, Nat.le_refl _, fun u z c e1 e2 => I.ok.inj u z c (cm e1) (cm e2), fun z hz => ?_, fun u c z _ => ?_, fun _ => hd, Around.frames_deeper e0.frames, .inr ⟨rfl, rfl⟩, fun b z => absurd z (noA b), e0.bs, e0.bsz, fun b _ _ => noA b,
      fun b z => absurd z (noA b), e0.funs, e0.frf⟩
    · replace hz : scope.names.lookup z = some .cell ∨ scope.names.lookup z = some .free := hz
      rcases hz with hz | hz
      · exact absurd rfl (L.cell _ (PySem.mem_of_lookup hz))
      · exact look hz
    · exact absurd (show false = true from z) Bool.false_ne_true
  have hloc : ∀ (i : Nat) (x : Str) (u : V), X.N[i]? = some x → σ[i]? = some (some u) → Vis scope x → ∃ u', RelV u u' ∧ Look (lamCx X A outer s1 HZ E scope f c').env h₁ (fun z => ([(y, v)] : List (Str × Value)).reverse.lookup z) x u' := by
    intro i x u e1 e2 e3
    rcases e3 with k | k | k
    · exact absurd (List.mem_of_getElem? e1) (L.own _ (PySem.mem_of_lookup k) rfl)
    · exact absurd rfl (L.cell _ (PySem.mem_of_lookup k))
    · obtain ⟨m, hn, hl⟩ := I.loc
      have hsc := L.free _ (PySem.mem_of_lookup k) rfl
      obtain ⟨w', r, q⟩ := hl i x u e1 e2 (hsc.elim (fun k => .inr (.inl k)) (fun k => .inr (.inr k)))
      obtain ⟨c2, h2⟩ := look k
      refine ⟨w', r, .inr ⟨.inr k, c2, h2, ?_⟩⟩
      rcases q with ⟨k', _⟩ | ⟨_, c3, e', z⟩
      · replace k' : X.env.scope.names.lookup x = some .local := k'
        rcases hsc with k2 | k2 <;> rw [show X.env.scope.names.lookup x = _ from k2] at k' <;> cases k'
      · rw [cm h2] at e'
        cases e'
        exact cellK (I.freeC x _ (cm h2)) z
  refine ⟨okX, rfl, e0.bare, Un.kept kp, ⟨_, hns, hloc⟩, fun x c e => ?_, e0.hok.fresh (Nat.le_refl _), fun x c e => ?_, fun q hq => absurd (show q ∈ ([] : List (Addr × Obj)) ++ [] from hq) (by simp), e0.hok.kept kp, I.len⟩
  · obtain ⟨w', z⟩ := I.cell x c (cm e)
    exact ⟨w', cellK (I.freeC x c (cm e)) z⟩
  · obtain ⟨u, o, ho, _⟩ := I.cell x c (cm e)
    exact un.free c o ho (I.freeC x c (cm e)) (by simp)
/-- x() in the def that got the lambda -/
theorem pe_actD {CXg : CXT} {Eg : XK} {Ng : List Str} {qg : Str} {sg : Scope} {g f c' T0 : Addr} {cdg doc pm ctv : Value} {params : Arguments} {body : Expr} {scope : Scope} {k i : Nat} {a y : Str} {pn : List (Addr × Obj)} {xe : Value → Shared → Prop} {W : WX} {E : XK} {tb : TE} {p1 p2 : Pos} {T : List (Addr × Str)} {iv : Int} {H0 : Hp} {tk0 : Tok}
    {kk : Option (Array Value) → Sem (List (Str × Value))} (I : Inv X pins σ H s) (L : LamD X.N X.env.scope scope y) (M : Made1 X T params body scope iv H0 H s.heap f c' T0 tk0 doc pm ctv)
    (hb1 : bindArgs (lamFd X params body scope T0 c' doc pm ctv) ⟨[], []⟩ = seqItems? (.ref T0) >>= kk) (hb2 : ∀ v, kk (some #[v]) = pure [(y, v)])
    (tk : Takes ((cxOf CXg X.prog X.w X.K X.mg X.base Ng qg sg g cdg X.A X.stack s H Eg).tr pn xe) W) (hW : ∀ cls d σ' H', E cls d H' → W cls d σ' H') (hr : Room (k + 1) (X.A.deeper (envOfC qg sg s.heap.objs.size g cdg)))
    (hbody : ∀ (A : Around) (outer : List Env) (s : Shared) (H : Hp), Room k (A.deeper (lamEnv X scope s.heap.objs.size f c')) → PE (lamCx X A outer s H E scope f c') body tb)
    (hN : Ng[i]? = some a) (hv : Vis sg a) (hd : (a == ("__debug__" : Str)) = false := by decide) (hcd : (a == ("__classdict__" : Str)) = false := by decide) :
    PE ((cxOf CXg X.prog X.w X.K X.mg X.base Ng qg sg g cdg X.A X.stack s H Eg).tr pn xe) (.Call (.Name a p1) [] [] p2)
      (fun σZ HZ Q => σZ[i]? = some (some (.ref f)) ∧ HZ c' = some (CodeO c' (X.env.qual ++ "<lambda>")) ∧ tb σ HZ Q) := by
  refine ⟨fun pinsZ sZ σZ HZ Q IZ ⟨hs, hc, ht⟩ => ?_⟩
  refine wpAny_Call_Name_kw (thn ((pe_var (pos := p1) (i := i) hN hv hd hcd).run pinsZ sZ σZ HZ (fun v H1 => v = .ref f ∧ H1 = HZ) IZ ⟨.ref f, hs, rfl, rfl⟩) fun u s1 ⟨v, H1, I1, r1, ev, eH⟩ => ?_)
  subst ev
  rw [eH] at I1
  obtain rfl : u = Value.ref f := r1
  have of1 := I1.base.keep f _ M.fun_ M.funN M.funF (fun z => nomatch (show f ∈ ([] : List Addr) from z))
  have ot1 := I1.base.keep T0 _ M.dat M.datN M.datF (fun z => nomatch (show T0 ∈ ([] : List Addr) from z))
  refine PySem.W.callWith_F0 ⟨_, _, _, _, of1⟩ ?_
  have un : Un (frs X.stack) [] H HZ s.heap s1.heap := I1.base
  obtain ⟨⟨oc, vs, t, hoc, hdc, hvc⟩, _, _⟩ := I1.hok c' _ hc
  have hbind : BindsTo s1 (lamFd X params body scope T0 c' doc pm ctv) ⟨[], []⟩ [(y, .int iv tk0)] := BindsTo.of_defaults rfl ot1 rfl hb1 (hb2 _)
  have rc : codeAny (model X.prog X.w) (X.A.deeper (envOfC qg sg s.heap.objs.size g cdg)) (.call (.ref f) ⟨[], []⟩) (CR (L2.CX X.prog X.w) (envOfC qg sg s.heap.objs.size g cdg :: X.stack) X.prog X.w HZ s1 Q E) s1 := by
    refine PySem.W.kla_callFunE hr.depth of1 rfl L.co L.gen rfl ⟨c', oc, vs, t, rfl, hoc, hdc, hvc⟩ (hbind _ _ _ _ ?_)
    refine wpAny_newFunctionEnv L.cell (fun z hz => by rw [List.mem_singleton.mp hz]; exact L.par) (fun h₁ hns hsb => ⟨I1.nolimit.fresh _ hsb, ?_⟩) L.kind
    show codeAny _ _ (.expr body (lamEnv X scope s1.heap.objs.size f c')) _ _
    have kp : ∀ b o, s1.heap.get? b = some o → h₁.get? b = some o := fun b o e => hsb.extBut b o (Nat.ne_of_lt (Heap.lt_size e)) (Heap.get?_push_of_some _ e)
    have J := lam_startD (E := E) (f := f) (c' := c') (tk := s1.toks + 1) I L I1.env0 hr.hd un hns kp
    refine PySem.W.kla_codeExpr (wpAny_mono ((hbody _ _ s1 HZ (hr.deeper _)).run [] _ _ HZ Q J ht) (fun v s' ⟨w', H', J', rv, q⟩ => ?_) fun e s' hq => hq)
    exact ⟨w', H', J'.os, J'.bare, J'.base, J'.hok, rv, q⟩
  have hx : Passes (L2.CX X.prog X.w) ((cxOf CXg X.prog X.w X.K X.mg X.base Ng qg sg g cdg X.A X.stack s H Eg).tr pn xe) E := passes_call tk hW
  refine wpAny_call (codeAny_mono rc fun r s' hq => ?_)
  cases r with
  | error e => exact hx pinsZ σZ HZ s1 e s' I1 hq
  | ok fl =>
    cases fl with
    | ret u => exact I1.after hq
    | next => exact False.elim hq
    | brk => exact False.elim hq
    | cont => exact False.elim hq
end
section
variable {X : Cx}
/-- x(lambda y=0: body) -/
theorem pe_lamcallD {T : List (Addr × Str)} {TT : (XK → Hp → VK → Prop) → Hp → VK → Prop} {x a y : Str} {g c P : Addr} {k : Nat} {pg : Arguments} {bg : List Stmt} {sg : Scope} {dV kV doc pm cdv ct oc : Value} {an od : Option Addr} {osl : Array (Option Value)} {Ng : List Str} {iv : Int} {j : Nat} {p0 : Pos}
    {params : Arguments} {body : Expr} {scope : Scope} {t : XK → TE} {p lpos pos : Pos} (hg : Gl X x) (hm : X.mg x = some (.ref g)) (hk : PySem.W.keepIn X.K (.ref g) = true)
    (lk : X.K.lookup g = some ⟨oc, od, .func (PySem.W.fnOf x x pg bg sg dV kV doc pm an cdv ct), osl⟩) (hcg : PySem.W.codeIn X.K cdv x = true) (hb : L2.Binds X.K (PySem.W.fnOf x x pg bg sg dV kV doc pm an cdv ct) [a] []) (Sg : FnScope Ng [a] sg) (hNg : Ng[0]? = some a) (hva : Vis sg a)
    (hG : GivesTo X Ng x sg g cdv bg a (X.env.qual ++ "<lambda>") TT)
    (TB : TabB X.base X.mg c P) (hcode : X.env.code = .ref c) (hmT : (P, X.env.qual ++ "<lambda>") ∈ T) (hu : ∀ p ∈ T, p.1 = P → p.2 = X.env.qual ++ "<lambda>") (hr : Room (k + 2) X.A) (L : LamD X.N X.env.scope scope y) (hdef : params.defaults = [.Constant (.int iv) j p0]) (hkw : params.kw_defaults = [])
    (hbind : ∀ (T0 c' : Addr) (doc pm ctv : Value), ∃ kk, bindArgs (lamFd X params body scope T0 c' doc pm ctv) ⟨[], []⟩ = (seqItems? (.ref T0) >>= kk) ∧ ∀ v, kk (some #[v]) = pure [(y, v)])
    (hbody : ∀ (A : Around) (outer : List Env) (s : Shared) (H : Hp) (E : XK) (f c' : Addr), Room k (A.deeper (lamEnv X scope s.heap.objs.size f c')) → PE (lamCx X A outer s H E scope f c') body (t E))
    (hdb : (x == ("__debug__" : Str)) = false := by decide) (hd : (a == ("__debug__" : Str)) = false := by decide) (hcd : (a == ("__classdict__" : Str)) = false := by decide) :
    PE X (.Call (.Name x p) [.Lambda params body scope lpos] [] pos) (tLam T TT t) := by
  refine ⟨fun pins s σ H Q I ⟨hT, h⟩ => ?_⟩
  refine wpAny_Call_Name_kw (ld_glob I hg hm ?_ hdb)
  refine PySem.W.callWith_K (h₀ := X.base) I.ok.mod.kin hk ?_ (by rfl) (by rfl)
  show wpAny _ _ (spliced ((false, eval (.Lambda params body scope lpos) X.env) :: backTo pos (starEach [] X.env))) _ _ s
  refine Calls.spliced_cons (lam_makeD I TB hcode hmT hu hT hdef hkw L fun f c' T0 tk0 doc' pm' ctv H1 s' I1 M => ?_)
  refine Calls.spliced_nil ⟨I1.kIn, ?_⟩
  obtain ⟨kk, hb1, hb2⟩ := hbind T0 c' doc' pm' ctv
  have rc : codeAny (model X.prog X.w) X.A (.call (.ref g) ⟨[.ref f], []⟩) (CR C8.CX0 X.stack X.prog X.w H1 s' Q C8.E0) s' := by
    refine run_ofS (N := Ng) (ps := [a]) (us := [.ref f]) (vs := [.ref f]) lk hcg Sg hr I1.env0 (hb s' [.ref f] I1.kIn rfl) (.cons rfl .nil) rfl fun hr' => ?_
    obtain ⟨t', ht', hq'⟩ := hG f c' s' H1 Q (fun E H' Q' => t E σ H' Q') (fun W pn xe E p1 p2 tk hW => pe_actD (i := 0) I1 L M hb1 hb2 tk hW hr' (fun A outer s H hr2 => hbody A outer s H E f c' hr2) hNg hva hd hcd) M.code (h H1 M.ext M.tabs)
    exact ⟨t', ht'.nox, hq'⟩
  refine wpAny_call (codeAny_mono rc fun r s2 hq => ?_)
  cases r with
  | error e => exact (show False from hq).elim
  | ok fl =>
    cases fl with
    | ret u => exact I1.after hq
    | next => exact False.elim hq
    | brk => exact False.elim hq
    | cont => exact False.elim hq
end
end Bg

set_option Elab.async false
set_option linter.all false
set_option maxRecDepth 100000
set_option maxHeartbeats 2000000
/-! try with clauses of both kinds: except x: and except x as n: -/
namespace Bg
open PySem PySem.Spec PyProof.Rows L2
/-- a clause: the class, the slot of its name, its suite -/
structure Cl where
  c : Value
  i : Option Nat
  ts : Addr → Value → Option Addr → TS
def unName (i : Nat) (D : Ends) : Ends := { nx := fun σ H => D.nx (σ.set i none) H, rt := D.rt, bk := fun σ H => D.bk (σ.set i none) H, ct := fun σ H => D.ct (σ.set i none) H }
def Cl.hit (k : Cl) (a : Addr) (cls : Value) (d : Option Addr) (D : Ends) (σ : L2.St) (H : Hp) : Prop :=
  match k.i with
  | none => k.ts a cls d D σ H
  | some i => k.ts a cls d (unName i D) (σ.set i (some (.ref a))) H
/-- what the clauses wish of an exception of the body -/
def wMix (K : PySem.W.Frag) (n : Nat) (Wout : WX) (D : Ends) : List Cl → WX
  | [] => Wout
  | k :: r => fun cls d σ H => ∃ b, PySem.W.exmOne K cls k.c = some b ∧ (b = true → ∀ a, H a = none → σ.length = n → k.hit a cls d D σ H) ∧ (b = false → wMix K n Wout D r cls d σ H)
def Suited (X : Cx) (suite : List Stmt) (ts : Addr → Value → Option Addr → TS) : Prop :=
  ∀ (a : Addr) (oe : Obj) (cls : Value) (d : Option Addr) (pn : List (Addr × Obj)), Zc cls d oe → (∃ vs, oe.data = .fields vs) → PSs (X.suite a ((a, oe) :: pn)) suite (ts a cls d)
inductive Hds (X : Cx) : List ExceptHandler → List Cl → Prop
  | nil : Hds X [] []
  | plain {x : Str} {c : Value} {ts : Addr → Value → Option Addr → TS} {b₀ : Stmt} {suite : List Stmt} {np pos' : Pos} {hds : List ExceptHandler} {l : List Cl} (hc : Names X x c) (hsu : Suited X (b₀ :: suite) ts) (r : Hds X hds l) :
      Hds X (.ExceptHandler (some (.Name x np)) none (b₀ :: suite) pos' :: hds) (⟨c, none, ts⟩ :: l)
  | named {x n : Str} {i : Nat} {c : Value} {ts : Addr → Value → Option Addr → TS} {b₀ : Stmt} {suite : List Stmt} {np pos' : Pos} {hds : List ExceptHandler} {l : List Cl} (hi : X.N[i]? = some n) (hln : X.env.kindOf n = some .local) (hc : Names X x c) (hsu : Suited X (b₀ :: suite) ts) (r : Hds X hds l) :
      Hds X (.ExceptHandler (some (.Name x np)) (some n) (b₀ :: suite) pos' :: hds) (⟨c, some i, ts⟩ :: l)
section
variable {X : Cx} {pins : List (Addr × Obj)} {σ : L2.St} {H : Hp} {s s' sI : Shared} {D : Ends} {B : Heap} {a : Addr} {cls : Value} {d : Option Addr}
/-- an exception that came to a try of this frame, on the ground: sI is the state without it -/
structure AtTry (X : Cx) (pins : List (Addr × Obj)) (σ : L2.St) (H : Hp) (sI s : Shared) (B : Heap) (a : Addr) (cls : Value) (d : Option Addr) : Prop where
  J : Inv X pins σ H sI
  nb : ∀ b o, sI.heap.get? b = some o → b ∉ frs X.stack → B.get? b = some o
  up : sI.heap.UpToSlots s.heap
  fly : HandSPX.FlyingZ B (X.env :: X.outer) a (Zc cls d) s.heap
  na : H a = none
  os : s.os = sI.os
  ag : AllBare s.gens
  st : X.stack = X.env :: X.outer
  fr : X.env.frame = some X.env.locals
theorem AtTry.inv (G : AtTry X pins σ H sI s B a cls d) : Inv X pins σ H s := G.J.landed G.nb G.fly.1 G.up G.os G.ag
theorem AtTry.next {h : Heap} (G : AtTry X pins σ H sI s B a cls d) (fl : HandSPX.FlyingZ B (X.env :: X.outer) a (Zc cls d) h) (u : s.heap.UpToSlots h) : AtTry X pins σ H sI { s with heap := h } B a cls d :=
  ⟨G.J, G.nb, G.up.trans u, fl, G.na, G.os, G.ag, G.st, G.fr⟩
/-- the state as a suite has it -/
theorem AtTry.held (G : AtTry X pins σ H sI s B a cls d) : ∃ oe vs, s.heap.get? a = some oe ∧ Zc cls d oe ∧ oe.data = .fields vs ∧ Inv (X.suite a ((a, oe) :: (X.pn ++ pins))) [] σ H s := by
  obtain ⟨oe, vs, he, hz, hd⟩ := G.fly.there
  have nfr : a ∉ frs (X.env :: X.outer) := fun hm => by
    obtain ⟨_, o', e', hnf⟩ := G.fly.2.2.1.mem hm
    rw [he] at e'; cases e'
    exact hnf _ hd
  have nL : a ≠ X.env.locals := fun z => nfr (List.mem_filterMap.mpr ⟨X.env, List.mem_cons_self, by rw [G.fr, z]⟩)
  have nF : a ∉ X.fs := fun hm => by
    obtain ⟨e, he, q⟩ := List.mem_filterMap.mp hm
    exact nfr (List.mem_filterMap.mpr ⟨e, List.mem_cons_of_mem _ he, q⟩)
  exact ⟨oe, vs, he, hz, hd, G.inv.suite he hd G.na nL nF⟩
/-- the class that a clause names is looked up and asked -/
theorem AtTry.asked {x : Str} {c : Value} {np : Pos} {b : Bool} {Q : Bool → Shared → Prop} {E : Value → Shared → Prop} (G : AtTry X pins σ H sI s B a cls d) (hc : Names X x c) (hb : PySem.W.exmOne X.K cls c = some b) (q : Q b s) :
    wpAny (model X.prog X.w) (X.A.mark (some (.ref a))) (eval (.Name x np) X.env) (fun c' s₁ => ∃ b', PySem.W.Looks (model X.prog X.w) s₁.heap (excMatches (.ref a) c') b' ∧ Q b' s₁) E s := by
  obtain ⟨oe, vs, he, hz, hd, S⟩ := G.held
  have LT : PySem.W.Looks (model X.prog X.w) s.heap (typeOf (.ref a)) cls := fun A Q E s k q => wpAny_typeOf_ref (k _ _ he) (by rw [hz.1]; exact q)
  have LM := PySem.W.exm_one (M := model X.prog X.w) G.inv.kIn LT hb
  obtain ⟨hg, hdbg, hm | ⟨hm, hv, hnn⟩⟩ := hc
  · exact ld_glob (X := X.suite a ((a, oe) :: (X.pn ++ pins))) S hg hm ⟨b, LM, q⟩ hdbg
  · exact ld_blt (X := X.suite a ((a, oe) :: (X.pn ++ pins))) S hg hm hv ⟨b, LM, q⟩ hnn hdbg
/-- the suite of a clause without a name -/
theorem AtTry.suite {suite : List Stmt} {ts : Addr → Value → Option Addr → TS} {E : Value → Shared → Prop} (G : AtTry X pins σ H sI s B a cls d) (hsu : Suited X suite ts) (q : ts a cls d D σ H) :
    wpAny (model X.prog X.w) (X.A.mark (some (.ref a))) (setFlight (.ref a) none) (fun _ s₂ => wpAny (model X.prog X.w) (X.A.mark (some (.ref a))) (execs suite X.env) (SP X pins D) E s₂) E s := by
  refine HandSPX.lands_againZ G.fly fun h4 fl4 up4 => ?_
  have G4 := G.next fl4 up4
  obtain ⟨oe, vs, he, hz, hd, S⟩ := G4.held
  refine wpAny_mono ((hsu a oe cls d (X.pn ++ pins) hz ⟨_, hd⟩).run [] _ _ H D S q) (fun f s6 hsp => ?_) (fun _ _ z => False.elim z)
  have ok := G.J.ok
  cases f with
  | next => obtain ⟨σ6, H6, S6, q6⟩ := hsp; exact ⟨_, _, S6.unsuite ok, q6⟩
  | brk => obtain ⟨σ6, H6, S6, q6⟩ := hsp; exact ⟨_, _, S6.unsuite ok, q6⟩
  | cont => obtain ⟨σ6, H6, S6, q6⟩ := hsp; exact ⟨_, _, S6.unsuite ok, q6⟩
  | ret u => obtain ⟨v6, σ6, H6, S6, r6, q6⟩ := hsp; exact ⟨_, _, _, S6.unsuite ok, r6, q6⟩
/-- nothing took it: it goes on -/
theorem AtTry.on {W : WX} {h : Flow → Shared → Prop} (G : AtTry X pins σ H sI s B a cls d) (tk : Takes X W) (w : W cls d σ H) : wpAny (model X.prog X.w) X.A (handleBy (.ref a) X.env []) h X.xe s := by
  refine wpAny_handleBy_nil ?_
  obtain ⟨k1, k2, k3, oe, vs, T, oT, ts', he, hz, hd, h1, hr⟩ := id G.fly
  unfold PySem.passOn
  refine wpAny_bind (wpAny_field he hd h1 ?_)
  rw [if_neg (show ¬ ((Value.ref T == Value.none) = true) from by simp)]
  have fin : wpAny (model X.prog X.w) X.A (setFlight (.ref a) X.env.frame) (fun _ s4 => wpAny (model X.prog X.w) X.A (throw (.ref a) : Sem Flow) h X.xe s4) X.xe s := by
    rw [G.fr]
    refine HandSPX.setFlight_upZ G.fly fun h4 hh4 up4 => wpAny_throw (tk _ _ ?_)
    exact ⟨a, B, sI, pins, σ, H, cls, d, rfl, G.J, G.nb, G.up.trans up4, .inr (.inr (by rw [G.st]; exact hh4)), G.na, G.os, G.ag, w⟩
  first
    | exact wpAny_bind (wpAny_pure (wpAny_bind fin))
    | exact wpAny_bind fin
/-- the suite of a clause with a name -/
theorem AtTry.suiteAs {b₀ : Stmt} {suite : List Stmt} {ts : Addr → Value → Option Addr → TS} {n : Str} {i : Nat} {pos' : Pos} {E1 E2 : Value → Shared → Prop} (G : AtTry X pins σ H sI s B a cls d) (hN : X.N.Nodup) (hi : X.N[i]? = some n) (hln : X.env.kindOf n = some .local) (hsu : Suited X (b₀ :: suite) ts)
    (q : ts a cls d (unName i D) (σ.set i (some (.ref a))) H) :
    wpAny (model X.prog X.w) (X.A.mark (some (.ref a))) (setFlight (.ref a) none) (fun _ s₂ => wpAny (model X.prog X.w) (X.A.mark (some (.ref a))) (storeName X.env n (.ref a)) (fun _ s₃ =>
      wpAny (model X.prog X.w) (X.A.mark (some (.ref a))) (execs (b₀ :: suite) X.env) (fun f s₄ => wpAny (model X.prog X.w) X.A (do bindName X.env n .none; unbindBehindTheSuite X.env n pos') (fun _ s₅ => SP X pins D f s₅) X.xe s₄) E1 s₃) E2 s₂) E2 s := by
  refine HandSPX.lands_againZ G.fly fun h4 fl4 up4 => ?_
  have G4 := G.next fl4 up4
  obtain ⟨oe, vs, he, hz, hd, S⟩ := G4.held
  have ok := G.J.ok
  refine store_ok (X := X.suite a ((a, oe) :: (X.pn ++ pins))) (v := .ref a) S hN hi (.inl hln) rfl (fun s5 S5 => ?_) (.inr hln)
  refine wpAny_mono ((hsu a oe cls d (X.pn ++ pins) hz ⟨_, hd⟩).run [] s5 _ H (unName i D) S5 q) (fun f s6 hsp => ?_) (fun _ _ z => False.elim z)
  have gone : ∀ {σ6 : L2.St} {H6 : Hp} {Q : Shared → Prop}, Inv (X.suite a ((a, oe) :: (X.pn ++ pins))) [] σ6 H6 s6 → (∀ s7, Inv X pins (σ6.set i none) H6 s7 → Q s7) →
      wpAny (model X.prog X.w) X.A (do bindName X.env n .none; unbindBehindTheSuite X.env n pos') (fun _ s7 => Q s7) X.xe s6 := fun {σ6 H6 Q} S6 hq => gone_ok (S6.unsuite ok) hN hi hln hq
  cases f with
  | next => obtain ⟨σ6, H6, S6, q6⟩ := hsp; exact gone S6 fun s7 J7 => ⟨_, _, J7, q6⟩
  | brk => obtain ⟨σ6, H6, S6, q6⟩ := hsp; exact gone S6 fun s7 J7 => ⟨_, _, J7, q6⟩
  | cont => obtain ⟨σ6, H6, S6, q6⟩ := hsp; exact gone S6 fun s7 J7 => ⟨_, _, J7, q6⟩
  | ret u => obtain ⟨v6, σ6, H6, S6, r6, q6⟩ := hsp; exact gone S6 fun s7 J7 => ⟨_, _, _, J7, r6, q6⟩
/-- the clauses, one after the other -/
theorem AtTry.clauses {W : WX} (tk : Takes X W) (hN : X.N.Nodup) : ∀ {hds : List ExceptHandler} {l : List Cl}, Hds X hds l → AtTry X pins σ H sI s B a cls d → wMix X.K X.N.length W D l cls d σ H → wpAny (model X.prog X.w) X.A (handleBy (.ref a) X.env hds) (SP X pins D) X.xe s := by
  intro hds l hk
  induction hk with
  | nil => exact fun G w => G.on tk w
  | plain hc hsu r ih =>
    intro G ⟨b, hb, hy, hn⟩
    refine PySem.W.exc_clause (G.asked hc hb (Q := fun b' s₁ => if b' = true then _ else _) ?_)
    cases b with
    | true => exact (if_pos rfl).mpr (G.suite hsu (hy rfl a G.na G.J.len))
    | false => exact (if_neg (by decide)).mpr (ih G (hn rfl))
  | named hi hln hc hsu r ih =>
    intro G ⟨b, hb, hy, hn⟩
    refine PySem.W.exc_clause_as (G.asked hc hb (Q := fun b' s₁ => if b' = true then _ else _) ?_)
    cases b with
    | true => exact (if_pos rfl).mpr (G.suiteAs hN hi hln hsu (hy rfl a G.na G.J.len))
    | false => exact (if_neg (by decide)).mpr (ih G (hn rfl))
end
section
variable {X : Cx} {body : List Stmt} {h₀ : ExceptHandler} {hds : List ExceptHandler} {l : List Cl} {pos : Pos} {tb : WX → TS} {Wout : WX}
theorem ps_try_mix (hs : X.stack = X.env :: X.outer) (hf : X.env.frame = some X.env.locals) (hN : X.N.Nodup) (tk : Takes X Wout)
    (hb : ∀ (W : WX) (pn : List (Addr × Obj)) (xe : Value → Shared → Prop), Takes (X.tr pn xe) W → PassesOwn (model X.prog X.w) X.A X.env xe → PSs (X.tr pn xe) body (tb W))
    (hh : Hds X (h₀ :: hds) l) : PS X (.Try body (h₀ :: hds) [] [] pos) (fun D σ H => tb (wMix X.K X.N.length Wout D l) D σ H) := by
  refine ⟨fun pins s σ H D I h => ?_⟩
  have ok := I.ok
  have hfr : X.A.frames = some (X.env :: X.outer) := by rw [ok.frames, hs]
  let xe2 : Value → Shared → Prop := fun e s₁ => wpAny (model X.prog X.w) X.A (noteFrame e X.env) (fun _ s₂ => wpAny (model X.prog X.w) X.A (setFlight e none) (fun _ s₃ => wpAny (model X.prog X.w) X.A (handleBy e X.env (h₀ :: hds)) (SP X pins D) X.xe s₃) X.xe s₂) X.xe s₁
  have tk2 : Takes (X.tr (X.pn ++ pins) xe2) (wMix X.K X.N.length Wout D l) := fun u s' xx => by
    obtain ⟨a, B, sI, pins', σ', H', cls, d, rfl, J', nb, up, sky, na, os, ag, w⟩ := xx
    have sky' : Sky B (X.env :: X.outer) a (Zc cls d) X.env.locals s'.heap := by rw [← hs]; exact sky
    exact Sky.land Zc.steady hfr hf sky' fun h3 fl3 up3 => AtTry.clauses tk hN hh ⟨J'.ofTry ok, nb, up.trans up3, fl3, na, os, ag, hs, hf⟩ w
  refine wpAny_Try_except (wpAny_mono ((hb (wMix X.K X.N.length Wout D l) (X.pn ++ pins) xe2 tk2 PassesOwn.looking).run [] s σ H D (I.toTry _) h) (fun f s1 hsp => ?_) (fun e s1 he => he))
  cases f with
  | next => obtain ⟨σ', H', J', q⟩ := hsp; exact wpAny_execs_nil ⟨σ', H', J'.ofTry ok, q⟩
  | brk => obtain ⟨σ', H', J', q⟩ := hsp; exact ⟨σ', H', J'.ofTry ok, q⟩
  | cont => obtain ⟨σ', H', J', q⟩ := hsp; exact ⟨σ', H', J'.ofTry ok, q⟩
  | ret u => obtain ⟨v, σ', H', J', r, q⟩ := hsp; exact ⟨v, σ', H', J'.ofTry ok, r, q⟩
end
end Bg

set_option Elab.async false
set_option linter.all false
set_option maxRecDepth 100000
set_option maxHeartbeats 2000000
/-! an error with a place, caught: isinstance; what is told of an error -/
namespace Bg
open PySem PySem.Spec PyProof.Rows L2 LamX
open Evl (Ex)
/-- isinstance(e, c), e the error that the suite holds, with its fields -/
def rIsE2 (K : PySem.W.Frag) (D a : Addr) (cls : Value) (d : Option Addr) : List V → Hp → VK → Prop := fun xs H Q => ∃ (c : V) (cv : Value) (b : Bool) (dd : Addr) (fs : List (Str × V)), xs = [.ref a, c] ∧ (∀ u, RelV c u → u = cv) ∧ cls = .ref D ∧ d = some dd ∧ H dd = some (.xd fs) ∧ PySem.W.kitOne K (.ref D) cv = some b ∧ Q (.bl b) H
theorem call_isE2 {X : Cx} {a D : Addr} {oe : Obj} {cls : Value} {d : Option Addr} {pn : List (Addr × Obj)} (C : ExcC X.K D) (hz : Zc cls d oe) (hf : ∃ vs, oe.data = .fields vs) : CallR (X.suite a ((a, oe) :: pn)) (.builtin "isinstance") (rIsE2 X.K D a cls d) := by
  intro pins s σ H xs us Q I r h
  obtain ⟨c, cv, b, dd, fs, rfl, hcv, rfl, rfl, hdd, e, q⟩ := h
  cases r with
  | cons rx rr => cases rr with
    | cons rt rr =>
      cases rr
      cases rx
      have ec := hcv _ rt
      subst ec
      obtain ⟨hget, _⟩ := I.pin (a, oe) (List.mem_append.mpr (.inl List.mem_cons_self))
      obtain ⟨vs, hv⟩ := hf
      have hx : ObjOk X.prog X.w H s.heap dd (.xd fs) := I.hok dd _ hdd
      obtain ⟨mA, hns, _⟩ := hx
      obtain ⟨od, ho, _⟩ := lookIn_ns hns
      have J : PySem.W.InstAt s.heap a oe D (some od) := ⟨hget, hz.1, by unfold PySem.W.notCls; rw [hv] <;> rfl, by rw [hz.2]; exact ho⟩
      have hcl : (PySem.W.clsIn X.K D).isSome = true := by obtain ⟨cd, hc, _⟩ := PySem.W.any_some C.hd; rw [hc]; rfl
      exact PySem.W.kia_one (PySem.W.kitx_exc hcl C.hg C.hk C.hs C.ha C.hn C.ht C.hm) I.kIn J e (fun z => nomatch z) fun tk => ⟨.bl b, H, I.kept (t' := tk) fun _ _ z => z, rfl, q⟩
/-- what the written part says of the four classes -/
structure ErrK (K : PySem.W.Frag) (mg : Str → Option Value) (CN CI CB CF CA : Addr) : Prop where
  mN : mg "NotText" = some (.ref CN)
  mI : mg "InvalidText" = some (.ref CI)
  mB : mg "BadBags" = some (.ref CB)
  mF : mg "BadFamily" = some (.ref CF)
  mA : mg "BagError" = some (.ref CA)
  nn : PySem.W.exmOne K (.ref CN) (.ref CN) = some true
  in_ : PySem.W.exmOne K (.ref CI) (.ref CN) = some false
  ii : PySem.W.exmOne K (.ref CI) (.ref CI) = some true
  bn : PySem.W.exmOne K (.ref CB) (.ref CN) = some false
  bi : PySem.W.exmOne K (.ref CB) (.ref CI) = some false
  bb : PySem.W.exmOne K (.ref CB) (.ref CB) = some true
  fn : PySem.W.exmOne K (.ref CF) (.ref CN) = some false
  fi : PySem.W.exmOne K (.ref CF) (.ref CI) = some false
  fb : PySem.W.exmOne K (.ref CF) (.ref CB) = some false
  ff : PySem.W.exmOne K (.ref CF) (.ref CF) = some true
  xf : XfC K CI
  xc : ExcC K CI
  no : PySem.W.findIn K (.ref CI) "place" = some none
  ve : PySem.W.kitOne K (.ref CI) (.type "ValueError") = some true
/-- what is told of an error, or of none -/
def ErrW (CN CI CB CF : Addr) (Q : VK) : XK := fun cls d H => (cls = .ref CN ∧ Q (.str "NotText") H) ∨
  (cls = .ref CI ∧ ∃ dd v, d = some dd ∧ H dd = some (.xd [("place", v)]) ∧ ∀ p, H p = none → Q (.ref p) (upd H p (.tup [.str "InvalidText", v]))) ∨ (cls = .ref CB ∧ Q (.str "BadBags") H) ∨ (cls = .ref CF ∧ Q (.str "BadFamily") H)
def TErr (CN CI CB CF : Addr) : (XK → Hp → VK → Prop) → Hp → VK → Prop := fun tl H Q => tl (ErrW CN CI CB CF Q) H fun _ H' => Q (.str "") H'
end Bg

set_option Elab.async false
set_option linter.all false
set_option maxRecDepth 100000
set_option maxHeartbeats 1000000
namespace Bg
open PySem PySem.Spec PyProof.Rows L2
open Evl (Ex)
local macro_rules | `(tactic| walk_at "peel") => `(tactic| dsimp only [tNext, tSeq, tRet, tAndV, tOrV, tNotV, tCB, tCons, tNil, tAsg, tIfS, tDrop, tOp, tTest, tB, tNot, tAnd, tOr, tUn, tIf])
def top (i : Nat) : Stmt := PySem.Challenge.pw_sharebags_k67_texts_refused.main.body.getD i (.Pass ⟨0, 0, 0, 0⟩)
structure Bz (mg : Str → Option Value) : Prop where
  len : mg "len" = none
  sum : mg "sum" = none
  all : mg "all" = none
  any : mg "any" = none
  max : mg "max" = none
  min : mg "min" = none
  sorted : mg "sorted" = none
  isinstance : mg "isinstance" = none
  abs : mg "abs" = none
  int : mg "int" = none
  bool : mg "bool" = none
  tuple : mg "tuple" = none
  str : mg "str" = none
  list : mg "list" = none
  dict : mg "dict" = none
  range : mg "range" = none
  enumerate : mg "enumerate" = none
  zip : mg "zip" = none
  set : mg "set" = none
section
variable {P : Program} {w : World} {K : PySem.W.Frag} {mg : Str → Option Value} {base : Heap}
/-! #### is_int -/
abbrev s_is_int : Stmt := top 8
abbrev N_is_int : List Str := ["value"]
theorem sc_is_int : FnScope N_is_int ["value"] (defScope s_is_int) := ⟨rfl, rfl, rfl, by decide +kernel, rfl, by decide +kernel, by decide +kernel⟩
def spIsInt (K : PySem.W.Frag) : Sp := fun vs H Q _ => ∃ v d, vs = [v] ∧ Dp K H v d ∧ Q (.bl (isIntD d)) H
theorem ok_is_int (F : Fu K mg "is_int" s_is_int ["value"]) (Z : Bz mg) : Cal P w K mg base CX0 1 "is_int" ["value"] (spIsInt K) := by
  refine F.ok sc_is_int (fun vs H Q E h => ?_) (fun f cdv A outer s H vs Q E hr h => ?_)
  · obtain ⟨v, d, rfl, _⟩ := h; rfl
  obtain ⟨v, d, rfl, hd, q⟩ := h
  refine ⟨_, (pss_one (ps_ret (pe_and (pe_callB (call_isiK2 (K := K)) (by rfl) Z.isinstance (by decide +kernel) (pa_cons (pv 0) (pa_cons (pe_bltn (v := .ty "int") (by rfl) Z.int boot_int rfl) pa_nil))) (pe_one (pe_not (pe_callB (call_isiK2 (K := K)) (by rfl) Z.isinstance (by decide +kernel) (pa_cons (pv 0) (pa_cons (pe_bltn (v := .ty "bool") (by rfl) Z.bool boot_bool rfl) pa_nil)))))))), ?_⟩
  have nd := dp_nodict hd
  refine ⟨v, rfl, v, _, _, _, _, rfl, .ty _, dp_ty hd, kit_dInt K d nd, _, rfl, ?_⟩
  cases hI : dInt d with
  | false =>
    have e : isIntD d = false := by cases d <;> first | rfl | (simp [dInt] at hI)
    rw [e] at q
    exact iteF q
  | true =>
    refine iteT ⟨v, rfl, v, _, _, _, _, rfl, .ty _, dp_ty hd, kit_dBool K d nd, _, rfl, ?_⟩
    have e : isIntD d = !dBool d := by cases d <;> first | rfl | (simp [dInt] at hI)
    rw [e] at q
    exact q
/-! #### is_in -/
abbrev s_is_in : Stmt := top 9
abbrev N_is_in : List Str := ["value", "least", "most"]
theorem sc_is_in : FnScope N_is_in ["value", "least", "most"] (defScope s_is_in) := ⟨rfl, rfl, rfl, by decide +kernel, rfl, by decide +kernel, by decide +kernel⟩
def spIsIn (K : PySem.W.Frag) : Sp := fun vs H Q _ => ∃ v d lo hi, vs = [v, .int lo, .int hi] ∧ Dp K H v d ∧ Q (.bl (inD lo hi d)) H
theorem ok_is_in (F : Fu K mg "is_in" s_is_in ["value", "least", "most"]) (G_is_int : Cal P w K mg base CX0 1 "is_int" ["value"] (spIsInt K)) : Cal P w K mg base CX0 2 "is_in" ["value", "least", "most"] (spIsIn K) := by
  refine F.ok sc_is_in (fun vs H Q E h => ?_) (fun f cdv A outer s H vs Q E hr h => ?_)
  · obtain ⟨v, d, lo, hi, rfl, _⟩ := h; rfl
  obtain ⟨v, d, lo, hi, rfl, hd, q⟩ := h
  refine ⟨_, (pss_one (ps_ret (pe_and (pe_calC G_is_int (hr.mono (by decide)) rfl pass0 (pa_cons (pv 0) pa_nil)) (pe_one (pe_chain op_le op_le (pv 1) (pv 0) (pv 2)))))), ?_⟩
  refine ⟨v, rfl, v, d, rfl, hd, _, rfl, ?_⟩
  cases hI : isIntD d with
  | false =>
    have e : inD lo hi d = false := by cases d <;> first | rfl | (simp [isIntD] at hI)
    rw [e] at q
    exact iteF q
  | true =>
    obtain ⟨i, rfl⟩ : ∃ i, d = .int i := by cases d <;> simp [isIntD] at hI; exact ⟨_, rfl⟩
    cases hd
    refine iteT ⟨.int lo, rfl, .int i, rfl, lo, i, rfl, rfl, _, rfl, ?_⟩
    refine ite2 (fun c => ?_) (fun c => ?_)
    · refine ⟨.int hi, rfl, i, hi, rfl, rfl, ?_⟩
      have e : inD lo hi (.int i) = decide (i ≤ hi) := by show (decide (lo ≤ i) && decide (i ≤ hi)) = _; rw [c]; rfl
      rw [e] at q
      exact q
    · have e : inD lo hi (.int i) = false := by show (decide (lo ≤ i) && decide (i ≤ hi)) = _; rw [Bool.eq_false_iff.mpr c]; rfl
      rw [e] at q
      exact q
/-! #### is_rising -/
abbrev s_is_rising : Stmt := top 10
abbrev N_is_rising : List Str := ["value", "one", "other"]
theorem sc_is_rising : FnScope N_is_rising ["value"] (defScope s_is_rising) := ⟨rfl, rfl, rfl, by decide +kernel, rfl, by decide +kernel, by decide +kernel⟩
theorem rising_all : ∀ ds : List PyData, ((List.range (ds.length - 1)).map fun i => PySem.W.dataLt (ds.getD i .none) (ds.getD (i + 1) .none)).all id = risingD ds
  | [] => rfl
  | [_] => rfl
  | x :: y :: r => by
    have ih := rising_all (y :: r)
    show _ = (PySem.W.dataLt x y && risingD (y :: r))
    rw [← ih]
    show ((List.range (r.length + 1)).map _).all id = _
    rw [List.range_succ_eq_map, List.map_cons, List.map_map, List.all_cons]
    rfl
/-- items of one kind, each two of them -/
structure Kin (ds : List PyData) : Prop where
  al : ∀ d ∈ ds, ∀ e ∈ ds, PySem.W.alike d e = true
  nn : ∀ d ∈ ds, d ≠ .none
  dp : ∀ d ∈ ds, d.depth ≤ 60
  len : ds.length ≤ 1000
def spIsRising (K : PySem.W.Frag) : Sp := fun vs H Q _ => ∃ v ds, vs = [v] ∧ Dp K H v (.tuple ds) ∧ Kin ds ∧ ∀ H', Ex H H' → Q (.bl (risingD ds)) H'
theorem ok_is_rising (F : Fu K mg "is_rising" s_is_rising ["value"]) (Z : Bz mg) : Cal P w K mg base CX0 1 "is_rising" ["value"] (spIsRising K) := by
  refine F.ok sc_is_rising (fun vs H Q E h => ?_) (fun f cdv A outer s H vs Q E hr h => ?_)
  · obtain ⟨v, d, rfl, _⟩ := h; rfl
  obtain ⟨v, ds, rfl, hd, kin, q⟩ := h
  refine ⟨_, (pss_one (ps_ret (pe_callB (cr_allK (K := K) rfl) (by rfl) Z.all (by decide +kernel) (pa_cons (pe_lc (own := [("one", 1), ("other", 2)]) (g := gTup K 2 (gCons (gName 1) (gCons (gName 2) (gNil)))) rfl sc_is_rising.nd (RZ.pi_zipA (by rfl) Z.zip (pa_cons (pv 0) (pa_cons (pe_slice (sl_tupB (K := K)) (pv 0) (po_some pe_int) po_none) pa_nil))) (blkOk_by (own := [("one", 1), ("other", 2)]) (N := N_is_rising) (sc := (defScope s_is_rising)) (by decide +kernel)) (fun _ _ _ _ _ => (pg_tup rfl (pgs_cons (pg_name (i := 1) sc_is_rising.nd rfl (Or.inl rfl)) (pgs_cons (pg_name (i := 2) sc_is_rising.nd rfl (Or.inl rfl)) pgs_nil)))) (fun _ _ _ _ _ => pts_nil) (fun _ _ _ _ _ => (pe_cmpR (op_ltDk (K := K) hr.units) (pv 1) (pv 2) (nomark _)))) pa_nil)))), ?_⟩
  obtain ⟨a, xs, rfl, hs, hda⟩ := dp_tup hd
  have hl := dpa_len hda
  have ec : cutV xs (some 1) none = xs.drop 1 := by
    unfold cutV
    by_cases h0 : xs.length = 0
    · have := List.eq_nil_of_length_eq_zero h0
      subst this; rfl
    · have : HT.sIx xs.length 0 (some 1) = 1 := by
        have z := HT.sIx_nat xs.length 0 1
        rw [show ((1 : Nat) : Int) = 1 from rfl] at z
        rw [z]; omega
      rw [this, HT.sIx_none]
      exact List.take_of_length_le (by simp)
  refine ⟨_, rfl, _, rfl, 1, rfl, a, xs, rfl, hs, fun b H1 e1 hb => ?_⟩
  rw [ec] at hb
  refine ⟨a, b, xs, xs.drop 1, rfl, .inr ⟨Evl.ex_t e1 hs, hb, fun D hD => ?_⟩⟩
  refine lc_zipT (xs.length - 1) (by simp) (fun i H' => Ex H1 H' ∧ H' D = some (.lst ((List.range i).map fun k => V.bl (PySem.W.dataLt (ds.getD k .none) (ds.getD (k + 1) .none))))) ⟨Ex.new hD, upd_same⟩ (fun i H' _ p => ⟨Evl.ex_t (e1.trans p.1) hs, Evl.ex_t p.1 hb⟩) ?_ ?_
  · intro i x y T H' hx hy p hT
    obtain ⟨e2, hl2⟩ := p
    have e3 : Ex H' (upd H' T (.tup [x, y])) := Ex.new hT
    obtain ⟨d, h1, p1⟩ := dpa_get (dpa_ex ((e1.trans e2).trans e3) hda) hx
    rw [List.getElem?_drop] at hy
    obtain ⟨d', h2, p2⟩ := dpa_get (dpa_ex ((e1.trans e2).trans e3) hda) hy
    have m1 := List.mem_of_getElem? h1
    have m2 := List.mem_of_getElem? h2
    refine ⟨T, [x, y], rfl, SqT.of upd_same, rfl, x, [y], rfl, y, [], rfl, rfl, rfl, ?_⟩
    refine tyes ?_
    refine ⟨x, rfl, y, rfl, d, d', p1, p2, kin.al d m1 d' m2, kin.nn d m1, by have := kin.dp d m1; omega, _, e3 D _ hl2, Evl.sz_lt (by have := kin.len; have := (List.getElem?_eq_some_iff.mp hx).1; simp; omega), Ex.mut (e2.trans e3) hD, ?_⟩
    rw [upd_same, List.range_succ, List.map_append]
    have g1 : ds.getD i .none = d := by rw [List.getD_eq_getElem?_getD, h1]; rfl
    have g2 : ds.getD (i + 1) .none = d' := by rw [List.getD_eq_getElem?_getD, Nat.add_comm, h2]; rfl
    simp only [List.map_cons, List.map_nil, g1, g2]
  · intro H' p
    refine ⟨D, (List.range (ds.length - 1)).map fun k => PySem.W.dataLt (ds.getD k .none) (ds.getD (k + 1) .none), rfl, ?_, ?_⟩
    · have := SqL.of (K := K) p.2
      rw [List.map_map, ← hl]
      exact this
    · rw [rising_all]
      exact q H' (e1.trans p.1)
/-! #### is_bag -/
abbrev s_is_bag : Stmt := top 11
abbrev N_is_bag : List Str := ["value", "bead"]
theorem sc_is_bag : FnScope N_is_bag ["value"] (defScope s_is_bag) := ⟨rfl, rfl, rfl, by decide +kernel, rfl, by decide +kernel, by decide +kernel⟩
theorem dTup_tup {d : PyData} (h : dTup d = true) : ∃ ds, d = .tuple ds := by
  cases d <;> simp [dTup] at h
  exact ⟨_, rfl⟩
/-- a tuple of at most so many items -/
def SmD (d : PyData) : Prop := ∀ ds, d = .tuple ds → ds.length ≤ 1000
theorem kin_ints {ds : List PyData} {lo hi : Int} (h : ds.all (inD lo hi) = true) (hl : ds.length ≤ 1000) : Kin ds := by
  have hi : ∀ d ∈ ds, ∃ i, d = .int i := fun d hd => by
    obtain ⟨i, e, _⟩ := inD_int (List.all_eq_true.mp h d hd)
    exact ⟨i, e⟩
  refine ⟨fun d hd e he => ?_, fun d hd => ?_, fun d hd => ?_, hl⟩
  · obtain ⟨i, rfl⟩ := hi d hd; obtain ⟨j, rfl⟩ := hi e he; rfl
  · obtain ⟨i, rfl⟩ := hi d hd; intro z; cases z
  · obtain ⟨i, rfl⟩ := hi d hd; show (PyData.int i).depth ≤ 60; simp [PyData.depth]
def spIsBag (K : PySem.W.Frag) : Sp := fun vs H Q _ => ∃ v d, vs = [v] ∧ Dp K H v d ∧ SmD d ∧ ∀ H', Ex H H' → Q (.bl (isBagD d)) H'
theorem ok_is_bag {tm : Tok} (F : Fu K mg "is_bag" s_is_bag ["value"]) (Z : Bz mg) (C_MOST_BEADS : mg "MOST_BEADS" = some (.int 60 tm)) (G_is_in : Cal P w K mg base CX0 2 "is_in" ["value", "least", "most"] (spIsIn K)) (G_is_rising : Cal P w K mg base CX0 1 "is_rising" ["value"] (spIsRising K)) :
    Cal P w K mg base CX0 3 "is_bag" ["value"] (spIsBag K) := by
  refine F.ok sc_is_bag (fun vs H Q E h => ?_) (fun f cdv A outer s H vs Q E hr h => ?_)
  · obtain ⟨v, d, rfl, _⟩ := h; rfl
  obtain ⟨v, d, rfl, hd, sm, q⟩ := h
  refine ⟨_, (pss_cons (ps_if (PW.pt (pw_or (pt_not (pt_val (pe_callB (call_isiK2 (K := K)) (by rfl) Z.isinstance (by decide +kernel) (pa_cons (pv 0) (pa_cons (pe_bltn (v := .ty "tuple") (by rfl) Z.tuple boot_tuple rfl) pa_nil))))) (pw_or1 (pt_cmpR op_lt (pe_callB (call_len_seqK (K := K)) (by rfl) Z.len PySem.boot_len (pa_cons (pv 0) pa_nil)) pe_int (nomark _))))) (pss_one (ps_ret pe_bl)) pss_nil)
    (pss_one (ps_ret (pe_and (pe_callB (cr_allK (K := K) rfl) (by rfl) Z.all (by decide +kernel) (pa_cons (pe_lc (own := [("bead", 1)]) (g := gName 1) rfl sc_is_bag.nd (pi_tupK (K := K) (pv 0)) (blkOk_by (own := [("bead", 1)]) (N := N_is_bag) (sc := (defScope s_is_bag)) (by decide +kernel)) (fun _ _ _ _ _ => (pg_name (i := 1) sc_is_bag.nd rfl (Or.inl rfl))) (fun _ _ _ _ _ => pts_nil) (fun _ _ _ _ _ => (pe_calC G_is_in (hr.mono (by decide)) rfl pass0 (pa_cons (pv 1) (pa_cons pe_int (pa_cons (pe_op op_sub (pe_glob (v := .int 60) rfl C_MOST_BEADS ⟨_, rfl⟩) pe_int) pa_nil)))))) pa_nil)) (pe_one (pe_calC G_is_rising (hr.mono (by decide)) rfl pass0 (pa_cons (pv 0) pa_nil))))))), ?_⟩
  have nd := dp_nodict hd
  refine ⟨v, rfl, v, _, _, _, _, rfl, .ty _, dp_ty hd, kit_dTup K d nd, _, rfl, ?_⟩
  cases hT : dTup d with
  | false =>
    have e : isBagD d = false := by cases d <;> first | rfl | (simp [dTup] at hT)
    rw [e] at q
    exact iteT (iteT (q H (Ex.refl H)))
  | true =>
    obtain ⟨ds, rfl⟩ := dTup_tup hT
    obtain ⟨a, xs, rfl, hs, hda⟩ := dp_tup hd
    have hl := dpa_len hda
    have hsm := sm ds rfl
    refine iteF ⟨.ref a, rfl, a, xs, rfl, .inr hs, _, _, rfl, rfl, _, rfl, ?_⟩
    refine ite2 (fun c => ?_) (fun c => ?_)
    · have c' := of_decide_eq_true c
      have e : isBagD (.tuple ds) = false := by
        show (decide (2 ≤ ds.length) && _ && _) = false
        rw [decide_eq_false (by omega)]; rfl
      rw [e] at q
      exact q H (Ex.refl H)
    · have c' := of_decide_eq_false (Bool.eq_false_iff.mpr c)
      walk_at "peel"
      refine goT (fun D i v H => v = .bl (inD 0 59 (ds.getD i .none))) (fun _ _ _ _ _ _ h => h) (fun R r => ⟨_, rfl, r _ _ (Ex.refl _) hs⟩) (by omega) (fun _ => rfl) (fun D i x H1 hx e1 _ Q' q' => ?_) (fun D H1 ys hD e1 hy hyl hp => ?_)
      · obtain ⟨d, h1, h2⟩ := dpa_get (dpa_ex e1 hda) hx
        refine ⟨x, rfl, _, _, rfl, rfl, x, d, 0, 59, rfl, h2, ?_⟩
        exact q' _ _ (Ex.refl _) (by rw [getD_get h1])
      · have ey : ys = (ds.map (inD 0 59)).map V.bl := list_eq_map (by simp [hyl, hl]) fun i v hv => by
          have hi : i < ds.length := by have := (List.getElem?_eq_some_iff.mp hv).1; omega
          refine ⟨inD 0 59 ds[i], by simp [hi], ?_⟩
          rw [hp i v hv, List.getD_eq_getElem?_getD, List.getElem?_eq_getElem hi]; rfl
        rw [ey] at hy
        refine ⟨D, ds.map (inD 0 59), rfl, SqL.of hy, _, rfl, ?_⟩
        have ea : (ds.map (inD 0 59)).all id = ds.all (inD 0 59) := by rw [List.all_map]; rfl
        have e2 : isBagD (.tuple ds) = (ds.all (inD 0 59) && risingD ds) := by
          show (decide (2 ≤ ds.length) && _ && _) = _
          rw [decide_eq_true (by omega)]; rfl
        rw [ea]
        cases hA : ds.all (inD 0 59) with
        | false =>
          rw [e2, hA] at q
          exact iteF (q _ e1)
        | true =>
          rw [e2, hA] at q
          exact iteT ⟨.ref a, rfl, .ref a, ds, rfl, dp_ex e1 hd, kin_ints hA hsm, fun H2 e2 => q _ (e1.trans e2)⟩
/-! #### need_bags -/
abbrev s_need_bags : Stmt := top 12
abbrev N_need_bags : List Str := ["value", "bag"]
theorem sc_need_bags : FnScope N_need_bags ["value"] (defScope s_need_bags) := ⟨rfl, rfl, rfl, by decide +kernel, rfl, by decide +kernel, by decide +kernel⟩
theorem kin_bags {ds : List PyData} (h : ds.all isBagD = true) (hl : ds.length ≤ 1000) : Kin ds := by
  have hb : ∀ d ∈ ds, ∃ b, d = bagD b := fun d hd => by
    obtain ⟨b, e, _⟩ := bag_of (List.all_eq_true.mp h d hd)
    exact ⟨b, e⟩
  refine ⟨fun d hd e he => ?_, fun d hd => ?_, fun d hd => ?_, hl⟩
  · obtain ⟨b, rfl⟩ := hb d hd; obtain ⟨c, rfl⟩ := hb e he; exact alike_bag b c
  · obtain ⟨b, rfl⟩ := hb d hd; intro z; cases z
  · obtain ⟨b, rfl⟩ := hb d hd; have := depth_bag b; omega
structure SmBags (d : PyData) : Prop where
  sh : SeqAt.shaped d = true
  sm : SmD d
  it : ∀ ds, d = .tuple ds → ∀ e ∈ ds, SmD e
def spNeedBags (K : PySem.W.Frag) (C : Addr) : Sp := fun vs H Q E => ∃ v d, vs = [v] ∧ Dp K H v d ∧ SmBags d ∧ (isBagsD d = true → ∀ H', Ex H H' → Q .non H') ∧ (isBagsD d = false → ∀ H', Ex H H' → E (.ref C) none H')
theorem ok_need_bags {CB : Addr} (F : Fu K mg "need_bags" s_need_bags ["value"]) (Z : Bz mg) (X_BadBags : Er K mg "BadBags" CB) (G_is_bag : Cal P w K mg base CX0 3 "is_bag" ["value"] (spIsBag K)) (G_is_rising : Cal P w K mg base CX0 1 "is_rising" ["value"] (spIsRising K)) :
    Cal P w K mg base (L2.CX P w) 4 "need_bags" ["value"] (spNeedBags K CB) := by
  refine F.okX sc_need_bags (fun vs H Q E h => ?_) (fun f cdv A outer s H vs Q E hr h => ?_)
  · obtain ⟨v, d, rfl, _⟩ := h; rfl
  obtain ⟨v, d, rfl, hd, sm, qy, qn⟩ := h
  refine ⟨_, (pss_cons (ps_if (PW.pt (pw_or (pt_not (pt_val (pe_callB (call_isiK2 (K := K)) (by rfl) Z.isinstance (by decide +kernel) (pa_cons (pv 0) (pa_cons (pe_bltn (v := .ty "tuple") (by rfl) Z.tuple boot_tuple rfl) pa_nil))))) (pw_or (pt_cmpR (op_eqDK (K := K) hr.units) (pv 0) (pe_tup pa_nil) (nomark _)) (pw_or1 (pt_not (pt_val (pe_callB (cr_allK (K := K) rfl) (by rfl) Z.all (by decide +kernel) (pa_cons (pe_lc (own := [("bag", 1)]) (g := gName 1) rfl sc_need_bags.nd (pi_tupK (K := K) (pv 0)) (blkOk_by (own := [("bag", 1)]) (N := N_need_bags) (sc := (defScope s_need_bags)) (by decide +kernel)) (fun _ _ _ _ _ => (pg_name (i := 1) sc_need_bags.nd rfl (Or.inl rfl))) (fun _ _ _ _ _ => pts_nil) (fun _ _ _ _ _ => (pe_calC G_is_bag (hr.mono (by decide)) rfl pass0 (pa_cons (pv 1) pa_nil)))) pa_nil)))))))) (pss_one (ps_raise rfl (takes_of rfl rfl rfl rfl) (mk_own0 X_BadBags rfl))) pss_nil)
    (pss_one (ps_if (pt_not (pt_val (pe_calC G_is_rising (hr.mono (by decide)) rfl pass0 (pa_cons (pv 0) pa_nil)))) (pss_one (ps_raise rfl (takes_of rfl rfl rfl rfl) (mk_own0 X_BadBags rfl))) pss_nil))), ?_⟩
  have nd := dp_nodict hd
  refine ⟨v, rfl, v, _, _, _, _, rfl, .ty _, dp_ty hd, kit_dTup K d nd, _, rfl, ?_⟩
  cases hT : dTup d with
  | false =>
    have e : isBagsD d = false := by cases d <;> first | rfl | (simp [dTup] at hT)
    exact iteT (iteT (qn e H (Ex.refl H)))
  | true =>
    obtain ⟨ds, rfl⟩ := dTup_tup hT
    obtain ⟨a, xs, rfl, hs, hda⟩ := dp_tup hd
    have hl := dpa_len hda
    refine iteF ⟨.ref a, rfl, (by show 0 ≤ sizeLine; decide), fun p hp => ?_⟩
    have e1 : Ex H (upd H p (.tup [])) := Ex.new hp
    refine ⟨.tuple ds, .tuple [], dp_ex e1 hd, .tup (SqT.of upd_same) .nil, sm.sh, rfl, _, rfl, ?_⟩
    cases hE : PyData.eqv (.tuple ds) (.tuple []) with
    | true =>
      have e : isBagsD (.tuple ds) = false := by
        cases ds with
        | nil => rfl
        | cons x r => simp [PyData.eqv, PyData.eqvAll] at hE
      exact iteT (iteT (qn e _ e1))
    | false =>
      have hne : ds ≠ [] := by rintro rfl; simp [PyData.eqv, PyData.eqvAll] at hE
      refine iteF ?_
      walk_at "peel"
      refine goT (fun D i v H => v = .bl (isBagD (ds.getD i .none))) (fun _ _ _ _ _ _ h => h) (fun R r => ⟨_, rfl, r _ _ (Ex.refl _) (Evl.ex_t e1 hs)⟩) (by have := sm.sm ds rfl; omega) (fun _ => rfl) (fun D i x H1 hx e2 _ Q' q' => ?_) (fun D H1 ys hD e2 hy hyl hp => ?_)
      · obtain ⟨d, h1, h2⟩ := dpa_get (dpa_ex (e1.trans e2) hda) hx
        exact ⟨x, rfl, x, d, rfl, h2, sm.it ds rfl d (List.mem_of_getElem? h1), fun H' e' => q' _ _ e' (by rw [getD_get h1])⟩
      · have ey : ys = (ds.map isBagD).map V.bl := list_eq_map (by simp [hyl, hl]) fun i v hv => by
          have hi : i < ds.length := by have := (List.getElem?_eq_some_iff.mp hv).1; omega
          refine ⟨isBagD ds[i], by simp [hi], ?_⟩
          rw [hp i v hv, List.getD_eq_getElem?_getD, List.getElem?_eq_getElem hi]; rfl
        rw [ey] at hy
        have ea : (ds.map isBagD).all id = ds.all isBagD := by rw [List.all_map]; rfl
        have e12 := e1.trans e2
        refine ⟨D, ds.map isBagD, rfl, SqL.of hy, _, rfl, ?_⟩
        rw [ea]
        have em : (!ds.isEmpty) = true := by cases ds <;> simp at hne ⊢
        cases hA : ds.all isBagD with
        | false =>
          have e : isBagsD (.tuple ds) = false := by show (!ds.isEmpty && ds.all isBagD && risingD ds) = false; rw [hA]; simp
          exact iteT (qn e _ e12)
        | true =>
          refine iteF ⟨.ref a, rfl, .ref a, ds, rfl, dp_ex e12 hd, kin_bags hA (sm.sm ds rfl), fun H2 e3 => ⟨_, rfl, ?_⟩⟩
          have e : isBagsD (.tuple ds) = risingD ds := by show (!ds.isEmpty && ds.all isBagD && risingD ds) = _; rw [hA, em]; rfl
          cases hR : risingD ds with
          | false => exact iteT (qn (e.trans hR) _ (e12.trans e3))
          | true => exact iteF (qy (e.trans hR) _ (e12.trans e3))
/-! #### size_of -/
abbrev s_size_of : Stmt := top 13
abbrev N_size_of : List Str := ["bags", "bag"]
theorem sc_size_of : FnScope N_size_of ["bags"] (defScope s_size_of) := ⟨rfl, rfl, rfl, by decide +kernel, rfl, by decide +kernel, by decide +kernel⟩
def spSizeOf (K : PySem.W.Frag) : Sp := fun vs H Q _ => ∃ v fam, vs = [v] ∧ Dp K H v (famD fam) ∧ GoodBags fam ∧ fam.length ≤ 1000 ∧ ∀ H', Ex H H' → Q (.int (sz fam : Nat)) H'
theorem max_top {l : List Nat} {m : Int} (hm : m ∈ l.map fun n : Nat => (n : Int)) (hle : ∀ y ∈ l.map (fun n : Nat => (n : Int)), y ≤ m) : m = (topN l : Nat) := by
  obtain ⟨n, hn, rfl⟩ := List.mem_map.mp hm
  have h1 := le_topN hn
  have h2 := hle _ (List.mem_map_of_mem (topN_mem (List.ne_nil_of_mem hn)))
  omega
theorem atI_lastN {b : List Nat} (h : b ≠ []) : atI (natsV b) (-1) = some (.int (lastN b : Nat)) := by
  have e : b = b.dropLast ++ [lastN b] := by
    rw [show lastN b = b.getLast h from by unfold lastN; rw [List.getLastD_eq_getLast?, List.getLast?_eq_some_getLast h]; rfl]
    exact (List.dropLast_concat_getLast h).symm
  have e2 : natsV b = natsV b.dropLast ++ [V.int (lastN b : Nat)] := by
    unfold natsV
    conv => lhs; rw [e, List.map_append]
    rfl
  rw [e2]; exact atI_last _ _
theorem ok_size_of (F : Fu K mg "size_of" s_size_of ["bags"]) (Z : Bz mg) : Cal P w K mg base CX0 1 "size_of" ["bags"] (spSizeOf K) := by
  refine F.ok sc_size_of (fun vs H Q E h => ?_) (fun f cdv A outer s H vs Q E hr h => ?_)
  · obtain ⟨v, d, rfl, _⟩ := h; rfl
  obtain ⟨v, fam, rfl, hd, g, hz, q⟩ := h
  refine ⟨_, (pss_one (ps_ret (pe_op op_add pe_int (pe_callB (cr_maxK (K := K) rfl) (by rfl) Z.max (by decide +kernel) (pa_cons (pe_lc (own := [("bag", 1)]) (g := gName 1) rfl sc_size_of.nd (pi_tupK (K := K) (pv 0)) (blkOk_by (own := [("bag", 1)]) (N := N_size_of) (sc := (defScope s_size_of)) (by decide +kernel)) (fun _ _ _ _ _ => (pg_name (i := 1) sc_size_of.nd rfl (Or.inl rfl))) (fun _ _ _ _ _ => pts_nil) (fun _ _ _ _ _ => (pe_ix (ix_tupK (K := K)) (pv 1) (pe_un un_neg pe_int) (fun _ _ => rfl)))) pa_nil))))), ?_⟩
  obtain ⟨a, xs, rfl, hs, hl, hx⟩ := dp_fam hd
  walk_at "peel"
  dsimp only [tC]
  refine goT (fun D i v H => v = .int (lastN (fam.getD i []) : Nat)) (fun _ _ _ _ _ _ h => h) (fun R r => ⟨_, rfl, r _ _ (Ex.refl _) hs⟩) (by omega) (fun _ => rfl) (fun D i x H1 hi e1 _ Q' q' => ?_) (fun D H1 ys hD e1 hy hyl hp => ?_)
  · obtain ⟨b, hb, hdb⟩ := hx i x hi
    obtain ⟨c, rfl, hc⟩ := dp_bag (dp_ex e1 hdb)
    have hb2 := (g.bag b (List.mem_of_getElem? hb)).two
    refine ⟨.ref c, rfl, 1, rfl, c, _, _, _, rfl, rfl, hc, atI_lastN (by intro z; rw [z] at hb2; simp at hb2), ?_⟩
    exact q' _ _ (Ex.refl _) (by rw [getD_get hb])
  · have ey : ys = ((fam.map lastN).map fun n : Nat => (n : Int)).map V.int := by
      rw [List.map_map, List.map_map]
      refine list_eq_map (f := V.int ∘ (fun n : Nat => (n : Int)) ∘ lastN) (zs := fam) (by omega) fun i v hv => ?_
      have hi : i < fam.length := by have := (List.getElem?_eq_some_iff.mp hv).1; omega
      refine ⟨fam[i], by simp [hi], ?_⟩
      rw [hp i v hv, List.getD_eq_getElem?_getD, List.getElem?_eq_getElem hi]; rfl
    rw [ey] at hy
    refine ⟨D, (fam.map lastN).map fun n : Nat => (n : Int), rfl, SqL.of hy, ?_, fun m hm hle => ⟨1, m, rfl, rfl, ?_⟩⟩
    · have := g.ne
      cases fam <;> simp at this ⊢
    · have e := max_top hm hle
      have e2 : (1 : Int) + m = (sz fam : Nat) := by rw [e]; unfold sz; omega
      show Q (.int (1 + m)) H1
      rw [e2]
      exact q _ e1
/-! #### shared_by -/
abbrev s_shared_by : Stmt := top 14
abbrev N_shared_by : List Str := ["one", "other", "told", "bead"]
theorem sc_shared_by : FnScope N_shared_by ["one", "other"] (defScope s_shared_by) := ⟨rfl, rfl, rfl, by decide +kernel, rfl, by decide +kernel, by decide +kernel⟩
def spSharedBy (K : PySem.W.Frag) : Sp := fun vs H Q _ => ∃ v u b c, vs = [v, u] ∧ Dp K H v (bagD b) ∧ Dp K H u (bagD c) ∧ c.Nodup ∧ b.length ≤ 1000 ∧ c.length ≤ 1000 ∧ ∀ p H', Ex H H' → H p = none → H' p = some (.lst (natsV (sharedN b c))) → Q (.ref p) H'
def isN (c : List Nat) : V → Bool
  | .int i => decide (0 ≤ i) && decide (i.toNat ∈ c)
  | _ => false
theorem isN_nat (c : List Nat) (n : Nat) : isN c (.int (n : Int)) = decide (n ∈ c) := by simp [isN]
theorem filter_natsV (c : List Nat) : ∀ b : List Nat, ((natsV b).filter (isN c)).map (fun x => x) = natsV (sharedN b c)
  | [] => rfl
  | n :: b => by
    have ih := filter_natsV c b
    rw [List.map_id'] at ih ⊢
    unfold natsV sharedN at ih ⊢
    rw [List.map_cons, List.filter_cons, List.filter_cons, isN_nat]
    by_cases h : n ∈ c
    · rw [if_pos (by simpa using h), if_pos (by simpa using h), List.map_cons, ih]
    · rw [if_neg (by simpa using h), if_neg (by simpa using h), ih]
theorem ok_shared_by (F : Fu K mg "shared_by" s_shared_by ["one", "other"]) (Z : Bz mg) : Cal P w K mg base CX0 1 "shared_by" ["one", "other"] (spSharedBy K) := by
  refine F.ok sc_shared_by (fun vs H Q E h => ?_) (fun f cdv A outer s H vs Q E hr h => ?_)
  · obtain ⟨v, u, b, c, rfl, _⟩ := h; rfl
  obtain ⟨v, u, b, c, rfl, hb, hc, nd, lb, lc, q⟩ := h
  refine ⟨_, (pss_cons (ps_set (i := 2) sc_shared_by.nd rfl (Or.inr rfl) (pe_dc (own := [("bead", 3)]) (g := gName 3) (tt := tYes) rfl sc_shared_by.nd (pi_tupK (K := K) (pv 1)) (blkOk_by (own := [("bead", 3)]) (N := N_shared_by) (sc := (defScope s_shared_by)) (by decide +kernel)) (fun _ _ _ _ _ => (pg_name (i := 3) sc_shared_by.nd rfl (Or.inl rfl))) (fun _ _ _ _ _ => pts_nil) (fun _ _ _ _ _ => (pv 3)) (fun _ _ _ _ _ => pe_bl)))
    (pss_one (ps_ret (pe_lc (own := [("bead", 3)]) (g := gName 3) rfl sc_shared_by.nd (pi_tupK (K := K) (pv 0)) (blkOk_by (own := [("bead", 3)]) (N := N_shared_by) (sc := (defScope s_shared_by)) (by decide +kernel)) (fun _ _ _ _ _ => (pg_name (i := 3) sc_shared_by.nd rfl (Or.inl rfl))) (fun _ _ _ _ _ => (pts_one (pt_cmp (pc_din (hu_of hr) (pv 3) (pv 2))))) (fun _ _ _ _ _ => (pv 3)))))), ?_⟩
  obtain ⟨a1, rfl, h1⟩ := dp_bag hb
  obtain ⟨a2, rfl, h2⟩ := dp_bag hc
  walk_at "peel"
  refine goDT (fun R r => ⟨_, rfl, r _ _ (Ex.refl _) h2⟩) nd (by omega) (by decide : (3 : Nat) < 4) (fun _ => rfl) (fun D H1 hD e1 hy => ?_)
  show tLc _ _ _ _ _ _ _ _
  refine goTf (isN c) (fun x => x) (fun R r => ⟨_, rfl, r _ _ (Ex.refl _) (Evl.ex_t e1 h1)⟩) (by rw [natsV_len]; omega) (fun _ => rfl) (fun i x H2 hx e2 Q' q' => ?_) (fun i x H2 hx e2 hp Q' q' => ⟨x, rfl, q' _ (Ex.refl _)⟩) (fun D2 H2 hD2 e2 hy2 => ?_)
  · obtain ⟨n, _, rfl⟩ := natsV_get hx
    refine ⟨_, rfl, .ref D, rfl, D, _, rfl, DGet.k (k := Sum.inl (n : Int)) (e2 _ _ hy), _, rfl, ?_⟩
    rw [valV_setK]
    have := q' H2 (Ex.refl _)
    rw [isN_nat] at this
    by_cases m : n ∈ c
    · rw [if_pos m]; rw [decide_eq_true m] at this; exact this
    · rw [if_neg m]; rw [decide_eq_false m] at this; exact this
  · rw [filter_natsV] at hy2
    exact q D2 H2 (e1.trans e2) (Evl.fresh_back e1 hD2) hy2
/-! #### homes_of -/
abbrev s_homes_of : Stmt := top 15
abbrev N_homes_of : List Str := ["bags", "found", "index", "bag", "bead"]
theorem sc_homes_of : FnScope N_homes_of ["bags"] (defScope s_homes_of) := ⟨rfl, rfl, rfl, by decide +kernel, rfl, by decide +kernel, by decide +kernel⟩
def spHomesOf (K : PySem.W.Frag) : Sp := fun vs H Q _ => ∃ v fam, vs = [v] ∧ Dp K H v (famD fam) ∧ GoodBags fam ∧ fam.length ≤ 1000 ∧ ∀ p H', Ex H H' → H p = none → Dp K H' (.ref p) (natssD (homes fam)) → Q (.ref p) H'
/-- behind k beads of bag i -/
def homesIn (fam : List (List Nat)) (i k x : Nat) : List Nat := homesAt fam x i ++ if x ∈ (fam.getD i []).take k then [i] else []
theorem homesAt_le (fam : List (List Nat)) (x i : Nat) : (homesAt fam x i).length ≤ i := by
  have := List.length_filter_le (fun k => decide (x ∈ fam.getD k [])) (List.range i)
  rw [List.length_range] at this
  exact this
theorem homesIn_zero (fam : List (List Nat)) (i x : Nat) : homesIn fam i 0 x = homesAt fam x i := by simp [homesIn]
theorem homesIn_all (fam : List (List Nat)) (i x : Nat) : homesIn fam i (fam.getD i []).length x = homesAt fam x (i + 1) := by
  rw [homesAt_succ]; unfold homesIn; rw [List.take_length]
theorem ok_homes_of (F : Fu K mg "homes_of" s_homes_of ["bags"]) (Z : Bz mg) (G_size_of : Cal P w K mg base CX0 1 "size_of" ["bags"] (spSizeOf K)) : Cal P w K mg base CX0 2 "homes_of" ["bags"] (spHomesOf K) := by
  refine F.ok sc_homes_of (fun vs H Q E h => ?_) (fun f cdv A outer s H vs Q E hr h => ?_)
  · obtain ⟨v, d, rfl, _⟩ := h; rfl
  obtain ⟨v, fam, rfl, hd, g, hz, q⟩ := h
  refine ⟨_, (pss_cons (ps_setLc (i := 1) (own := [("bead", 4)]) (g := gName 4) rfl sc_homes_of.nd rfl rfl (sw_true rfl rfl rfl (by decide +kernel)) (pi_range1 rfl Z.range (pa_cons (pe_calC G_size_of (hr.mono (by decide)) rfl pass0 (pa_cons (pv 0) pa_nil)) pa_nil)) (blkOk_by (own := [("bead", 4)]) (N := N_homes_of) (sc := (defScope s_homes_of)) (by decide +kernel)) (fun _ _ _ _ _ => (pg_name (i := 4) sc_homes_of.nd rfl (Or.inl rfl))) (fun _ _ _ _ _ => pts_nil) (fun _ _ _ _ _ => (pe_lst pa_nil)))
    (pss_cons (ps_for PassesOwn.never rfl (pi_enumT (by rfl) Z.enumerate (pa_cons (pv 0) pa_nil)) (pg_tup rfl (pgs_cons (pg_name (i := 2) sc_homes_of.nd rfl (Or.inl rfl)) (pgs_cons (pg_name (i := 3) sc_homes_of.nd rfl (Or.inl rfl)) pgs_nil))) (pss_one (ps_for PassesOwn.never rfl (pi_tupK (K := K) (pv 3)) (pg_name (i := 4) sc_homes_of.nd rfl (Or.inl rfl)) (pss_one (ps_expr (pe_bm PySem.F.plainAttrs_list PySem.F.slot_list_append PySem.F.type_list_append mt_append (pe_ix (ix_listK (K := K)) (pv 1) (pv 4) (fun _ _ => rfl)) (pa_cons (pv 2) pa_nil)))))))
    (pss_one (ps_ret (pv 1))))), ?_⟩
  obtain ⟨a, xs, rfl, hs, hl, hx⟩ := dp_fam hd
  have szle := sz_le g
  walk_at "peel"
  refine goE (n := sz fam) (fun R r => ⟨_, rfl, _, fam, rfl, hd, g, hz, fun H1 e1 => r H1 e1⟩) (by omega) (fun _ => rfl) (fun F' H1 ps G hn => ?_)
  refine ⟨.ref a, rfl, a, xs, rfl, Evl.ex_t G.ex hs, for_enumT (fun i σ H' => σ[1]? = some (some (.ref F')) ∧ σ.length = 5 ∧ Grid H H' F' ps (fun x => homesAt fam x i)) ⟨rfl, rfl, G⟩ (fun i σ H' _ p => Evl.ex_t p.2.2.ex hs) (fun i x T σ H' hi p hT => ?_) (fun σ H' p => ?_)⟩
  · obtain ⟨p1, p2, p3⟩ := p
    obtain ⟨b, hb, hdb⟩ := hx i x hi
    have gb := g.bag b (List.mem_of_getElem? hb)
    have eb : fam.getD i [] = b := getD_get hb
    have e3 : Ex H' (upd H' T (.tup [.int (i : Nat), x])) := Ex.new hT
    have G3 := p3.mono e3
    obtain ⟨c, rfl, hc⟩ := dp_bag (dp_ex (p3.ex.trans e3) hdb)
    refine ⟨T, _, rfl, SqT.of upd_same, rfl, _, _, rfl, _, _, rfl, rfl, ?_⟩
    have s1 : ((σ.set 2 (some (V.int (i : Nat)))).set 3 (some (V.ref c)))[1]? = some (some (.ref F')) := by
      rw [List.getElem?_set_ne (by decide), List.getElem?_set_ne (by decide)]; exact p1
    have s2 : ((σ.set 2 (some (V.int (i : Nat)))).set 3 (some (V.ref c)))[2]? = some (some (.int (i : Nat))) := by
      rw [List.getElem?_set_ne (by decide), List.getElem?_set_self (by omega)]
    have s3 : ((σ.set 2 (some (V.int (i : Nat)))).set 3 (some (V.ref c)))[3]? = some (some (.ref c)) := by
      rw [List.getElem?_set_self (by rw [List.length_set]; omega)]
    refine ⟨.ref c, s3, c, rfl, ⟨_, hc⟩, for_tup (xs := natsV b) (fun k σ2 H2 => σ2[1]? = some (some (.ref F')) ∧ σ2[2]? = some (some (.int (i : Nat))) ∧ σ2.length = 5 ∧ Kt (upd H' T (.tup [.int (i : Nat), .ref c])) H2 ∧ Grid H H2 F' ps (homesIn fam i k)) ?_ ?_ ?_ ?_⟩
    · refine ⟨s1, s2, by rw [List.length_set, List.length_set]; exact p2, Kt.refl _, G3.cong fun x hx => (homesIn_zero fam i x).symm⟩
    · exact fun k σ2 H2 _ p => p.2.2.2.1.sqt hc
    · intro k x σ2 H2 hk p
      obtain ⟨n, hbn, rfl⟩ := natsV_get hk
      obtain ⟨t1, t2, t3, t4, t5⟩ := p
      have hn : n < ps.length := by rw [hn]; exact lt_sz g (List.mem_of_getElem? hb) (List.mem_of_getElem? hbn)
      have hps : ps[n]? = some ps[n] := List.getElem?_eq_getElem hn
      have u1 : (σ2.set 4 (some (V.int (n : Int))))[1]? = some (some (.ref F')) := by rw [List.getElem?_set_ne (by decide)]; exact t1
      have u2 : (σ2.set 4 (some (V.int (n : Int))))[2]? = some (some (.int (i : Nat))) := by rw [List.getElem?_set_ne (by decide)]; exact t2
      have u4 : (σ2.set 4 (some (V.int (n : Int))))[4]? = some (some (.int (n : Int))) := by rw [List.getElem?_set_self (by omega)]
      have hrow := t5.row n _ hps
      refine ⟨.ref F', u1, .int n, u4, F', _, _, .ref ps[n], rfl, rfl, SqL.of t5.at_, atI_nat (by rw [List.getElem?_map, hps]; rfl), tyL hrow, .int i, u2, _, _, _, rfl, rfl, hrow, ?_, u1, u2, by rw [List.length_set]; exact t3, t4.trans (Kt.lst hrow), ?_⟩
      · rw [natsV_len]
        have h1 := homesAt_le fam n i
        have h2 := (List.getElem?_eq_some_iff.mp hi).1
        exact Evl.sz_lt (by unfold homesIn; rw [List.length_append]; split <;> simp <;> omega)
      · refine (t5.put hps i).cong fun y _ => ?_
        have hk' := (List.getElem?_eq_some_iff.mp hbn).1
        have et : b.take (k + 1) = b.take k ++ [n] := by rw [List.take_add_one, hbn]; rfl
        have hnot : n ∉ b.take k := by
          intro hm
          obtain ⟨m, hm⟩ := List.mem_iff_getElem?.mp hm
          rw [List.getElem?_take] at hm
          split at hm
          · exact absurd (nd_ix gb.nd hm hbn) (by omega)
          · cases hm
        unfold homesIn
        rw [eb, et]
        by_cases e : y = n
        · subst e
          rw [if_pos rfl, if_neg hnot, if_pos (by simp), List.append_nil]
        · rw [if_neg e]
          have : y ∈ b.take k ++ [n] ↔ y ∈ b.take k := by simp [e]
          by_cases m : y ∈ b.take k
          · rw [if_pos m, if_pos (this.mpr m)]
          · rw [if_neg m, if_neg (fun z => m (this.mp z))]
    · intro σ2 H2 p
      obtain ⟨t1, t2, t3, t4, t5⟩ := p
      refine ⟨t1, t3, t5.cong fun x _ => ?_⟩
      rw [natsV_len, ← eb, homesIn_all]
  · obtain ⟨p1, p2, p3⟩ := p
    refine ⟨.ref F', p1, q F' H' p3.ex p3.nF ?_⟩
    have := p3.dp (K := K)
    rw [hn, hl] at this
    exact this
end
end Bg

set_option Elab.async false
set_option linter.all false
set_option maxRecDepth 100000
set_option maxHeartbeats 1000000
namespace Bg
open PySem PySem.Spec PyProof.Rows L2
open Evl (Ex)
local macro_rules | `(tactic| walk_at "peel") => `(tactic| dsimp only [tNext, tSeq, tRet, tAndV, tOrV, tNotV, tCB, tCons, tNil, tAsg, tIfS, tDrop, tOp, tTest, tB, tNot, tAnd, tOr, tUn, tIf])
section
variable {P : Program} {w : World} {K : PySem.W.Frag} {mg : Str → Option Value} {base : Heap}
/-! #### reached_from -/
abbrev s_reached_from : Stmt := top 16
abbrev N_reached_from : List Str := ["bags", "homes", "first", "found", "rim", "bead", "index"]
theorem sc_reached_from : FnScope N_reached_from ["bags", "homes", "first"] (defScope s_reached_from) := ⟨rfl, rfl, rfl, by decide +kernel, rfl, by decide +kernel, by decide +kernel⟩
def Clo (fam : List (List Nat)) (ks : List Nat) (j : Nat) : Prop := ∀ x ∈ fam.getD j [], ∀ l, l < fam.length → x ∈ fam.getD l [] → l ∈ ks
structure Rst (fam : List (List Nat)) (first : Nat) (H0 H : Hp) (D R : Addr) (ks rm : List Nat) : Prop where
  ex : Ex H0 H
  nD : H0 D = none
  nR : H0 R = none
  d : H D = some (.dK (setK ks))
  r : H R = some (.lst (natsV rm))
  nd : ks.Nodup
  sub : ∀ i ∈ rm, i ∈ ks
  lt : ∀ i ∈ ks, i < fam.length
  rch : ∀ i ∈ ks, Rch fam first i
  ndr : rm.Nodup
theorem Rst.ne {fam : List (List Nat)} {first : Nat} {H0 H : Hp} {D R : Addr} {ks rm : List Nat} (S : Rst fam first H0 H D R ks rm) : D ≠ R := ne_of S.d S.r (by intro z; cases z)
theorem Rst.mono {fam : List (List Nat)} {first : Nat} {H0 H H' : Hp} {D R : Addr} {ks rm : List Nat} (S : Rst fam first H0 H D R ks rm) (e : Ex H H') : Rst fam first H0 H' D R ks rm :=
  ⟨S.ex.trans e, S.nD, S.nR, e _ _ S.d, e _ _ S.r, S.nd, S.sub, S.lt, S.rch, S.ndr⟩
theorem nodup_le {n : Nat} {ks : List Nat} (nd : ks.Nodup) (lt : ∀ i ∈ ks, i < n) : ks.length ≤ n := by
  have := nat_nodup_len ks (List.range n) nd (fun x hx => List.mem_range.mpr (lt x hx))
  rwa [List.length_range] at this
theorem shaped_nats (b : List Nat) : SeqAt.shaped (.list (natsD b)) = true := by
  have h1 : PyData.canLayAll0 (natsD b) = true := by
    induction b with
    | nil => rfl
    | cons n b ih => show (PyData.canLay0 (.int (n : Int)) && PyData.canLayAll0 (natsD b)) = true; rw [ih]; rfl
  have h2 := PySem.W.depth_ints (b.map fun n : Nat => (n : Int))
  rw [← natsD_map] at h2
  show (PyData.canLay0 (.list (natsD b)) && decide ((PyData.list (natsD b)).depth ≤ 64)) = true
  simp [PyData.canLay0, h1, PyData.depth, h2]
theorem eqv_nil (b : List Nat) : PyData.eqv (.list (natsD b)) (.list []) = b.isEmpty := by
  cases b <;> simp [PyData.eqv, natsD, PyData.eqvAll]
theorem dp_natss {K : PySem.W.Frag} {H : Hp} {v : V} {l : List (List Nat)} (h : Dp K H v (natssD l)) : ∃ a xs, v = .ref a ∧ SqL K H a xs ∧ xs.length = l.length ∧ ∀ (i : Nat) b, l[i]? = some b → ∃ c, xs[i]? = some (.ref c) ∧ SqL K H c (natsV b) := by
  obtain ⟨a, xs, rfl, hs, ha⟩ := dp_lst h
  have hl := dpa_len ha
  rw [List.length_map] at hl
  refine ⟨a, xs, rfl, hs, hl, fun i b hb => ?_⟩
  have hi : i < xs.length := by have := (List.getElem?_eq_some_iff.mp hb).1; omega
  obtain ⟨d, h1, h2⟩ := dpa_get ha (List.getElem?_eq_getElem hi)
  rw [List.getElem?_map, hb] at h1
  cases h1
  obtain ⟨c, ys, e, hc, hca⟩ := dp_lst h2
  rw [dpa_natsV hca] at hc
  exact ⟨c, by rw [List.getElem?_eq_getElem hi, e], hc⟩
theorem homes_get {fam : List (List Nat)} {x : Nat} (h : x < sz fam) : (homes fam)[x]? = some (homesAt fam x fam.length) := by
  unfold homes; rw [List.getElem?_map, List.getElem?_range h]; rfl
theorem mem_homesAt {fam : List (List Nat)} {x l : Nat} : l ∈ homesAt fam x fam.length ↔ l < fam.length ∧ x ∈ fam.getD l [] := by
  unfold homesAt; simp
def spReached (K : PySem.W.Frag) : Sp := fun vs H Q _ => ∃ v u fam first, vs = [v, u, .int (first : Nat)] ∧ Dp K H v (famD fam) ∧ Dp K H u (natssD (homes fam)) ∧ GoodBags fam ∧ fam.length ≤ 1000 ∧ first < fam.length ∧
  ∀ p H' ks, Ex H H' → H p = none → H' p = some (.dK (setK ks)) → ks.Nodup → (∀ i, i ∈ ks ↔ Rch fam first i) → Q (.ref p) H'
theorem ok_reached_from (F : Fu K mg "reached_from" s_reached_from ["bags", "homes", "first"]) (Z : Bz mg) : Cal P w K mg base CX0 1 "reached_from" ["bags", "homes", "first"] (spReached K) := by
  refine F.ok sc_reached_from (fun vs H Q E h => ?_) (fun f cdv A outer s H vs Q E hr h => ?_)
  · obtain ⟨v, u, fam, first, rfl, _⟩ := h; rfl
  obtain ⟨v, u, fam, first, rfl, hd, hh, g, hz, hf, q⟩ := h
  refine ⟨_, (pss_cons (ps_par (i := 3) (j := 4) (by rfl) sc_reached_from.nd rfl rfl (by decide) rfl rfl (pa_cons (pe_disp (pps_cons (pv 2) pe_bl pps_nil) (by rfl) (by rfl) (fun z => by cases z) (by decide)) (pa_cons (pe_lst (pa_cons (pv 2) pa_nil)) pa_nil)) (by rfl))
    (pss_cons (ps_while PassesOwn.never (pt_cmpR (op_neDK (K := K) hr.units) (pv 4) (pe_lst pa_nil) (nomark _)) (pss_one (ps_for PassesOwn.never rfl (pi_tupK (K := K) (pe_ix (ix_tupK (K := K)) (pv 0) (pe_bm0 PySem.F.plainAttrs_list PySem.F.slot_list_pop PySem.F.type_list_pop mt_pop (pv 4)) (fun _ _ => rfl))) (pg_name (i := 5) sc_reached_from.nd rfl (Or.inl rfl)) (pss_one (ps_for PassesOwn.never rfl (pi_listK (K := K) (pe_ix (ix_listK (K := K)) (pv 1) (pv 5) (fun _ _ => rfl))) (pg_name (i := 6) sc_reached_from.nd rfl (Or.inl rfl)) (pss_one (ps_if (pt_cmp (pc_dnotin (hu_of hr) (pv 6) (pv 3))) (pss_cons (ps_dput (hu_of hr) (pv 3) (pv 6) pe_bl rfl)
    (pss_one (ps_expr (pe_bm PySem.F.plainAttrs_list PySem.F.slot_list_append PySem.F.type_list_append mt_append (pv 4) (pa_cons (pv 6) pa_nil))))) pss_nil)))))))
    (pss_one (ps_ret (pv 3))))), ?_⟩
  obtain ⟨a, xs, rfl, hs, hl, hx⟩ := dp_fam hd
  obtain ⟨b, ys, rfl, hsb, hlb, hy⟩ := dp_natss hh
  refine fun D hD => ⟨_, rfl, upd_same, [(Sum.inl (first : Int), .bl true)], rfl, (by show 1 ≤ 15; decide), _, rfl, (by show 1 ≤ sizeLine; decide), fun R hR => ⟨_, _, rfl, ?_⟩⟩
  have em : mergeK [] [((Sum.inl (first : Int) : Key), V.bl true)] = setK [first] := putK_setK [] first
  rw [em] at hR ⊢
  have hRH : H R = none := by
    by_cases z : R = D
    · rw [z]; exact hD
    · rw [upd_ne z, upd_ne z] at hR; exact hR
  have S0 : Rst fam first H (upd (upd (upd H D (.dK [])) D (.dK (setK [first]))) R (.lst [.int (first : Nat)])) D R [first] [first] := by
    have nDR : D ≠ R := fun z => by rw [← z, upd_same] at hR; cases hR
    refine ⟨?_, hD, hRH, by rw [upd_ne nDR, upd_same], upd_same, by simp, fun _ h => h, fun i h => ?_, fun i h => ?_, by simp⟩
    · rw [upd_upd]; exact Ex.mut (Ex.mut (Ex.refl H) hD) hRH
    · rw [List.mem_singleton.mp h]; exact hf
    · rw [List.mem_singleton.mp h]; exact .base
  let W : Nat → L2.St → Hp → Prop := fun m σ H' => ∃ ks rm, σ[0]? = some (some (.ref a)) ∧ σ[1]? = some (some (.ref b)) ∧ σ[3]? = some (some (.ref D)) ∧ σ[4]? = some (some (.ref R)) ∧ σ.length = 7 ∧ Rst fam first H H' D R ks rm ∧ first ∈ ks ∧ (∀ j ∈ ks, j ∈ rm ∨ Clo fam ks j) ∧ m = 2 * (fam.length - ks.length) + rm.length
  refine ⟨W, ⟨_, [first], [first], rfl, rfl, rfl, rfl, rfl, S0, by simp, fun j h => .inl h, rfl⟩, ?_⟩
  rintro m σ H' ⟨ks, rm, t0, t1, t3, t4, tl, S, hfk, hc, rfl⟩
  refine ⟨.ref R, t4, (by show 0 ≤ sizeLine; decide), fun p hp => ?_⟩
  have e1 : Ex H' (upd H' p (.lst [])) := Ex.new hp
  have S1 := S.mono e1
  refine ⟨.list (natsD rm), .list [], .lst (SqL.of S1.r) (dpa_nats rm), .lst (SqL.of upd_same) .nil, shaped_nats rm, rfl, _, rfl, ?_⟩
  rw [eqv_nil]
  cases hE : rm.isEmpty with
  | true =>
    have e0 : rm = [] := List.isEmpty_iff.mp hE
    refine iteF ⟨.ref D, t3, q D _ ks S1.ex S.nD S1.d S.nd fun i => ⟨S.rch i, fun r => ?_⟩⟩
    induction r with
    | base => exact hfk
    | step r1 h1 h2 h3 ih =>
      rcases hc _ ih with z | z
      · rw [e0] at z; cases z
      · exact z _ h1 _ h3 h2
  | false =>
    obtain ⟨rm', i, e2⟩ : ∃ rm' i, rm = rm' ++ [i] := by
      rcases List.eq_nil_or_concat rm with z | ⟨L, b, z⟩
      · rw [z] at hE; cases hE
      · exact ⟨L, b, by rw [z, List.concat_eq_append]⟩
    have him : i ∈ ks := S.sub i (by rw [e2]; simp)
    have hil := S.lt i him
    refine iteT ⟨fun σ' H' => ∃ m', m' < 2 * (fam.length - ks.length) + rm.length ∧ W m' σ' H', fun _ _ h => h, ?_⟩
    have en : natsV rm = natsV rm' ++ [.int (i : Nat)] := by rw [e2]; unfold natsV; rw [List.map_append]; rfl
    have elast : (natsV rm)[(natsV rm).length - 1]? = some (.int (i : Nat)) := by rw [en]; simp
    obtain ⟨v, hv⟩ : ∃ v, xs[i]? = some v := ⟨xs[i], List.getElem?_eq_getElem (by omega)⟩
    obtain ⟨bi, hb, hdb⟩ := hx i v hv
    obtain ⟨c, rfl, hcb⟩ := dp_bag hdb
    have eb : fam.getD i [] = bi := getD_get hb
    have S2 : Rst fam first H (upd (upd H' p (.lst [])) R (.lst (natsV rm'))) D R ks rm' :=
      ⟨Ex.mut S1.ex S.nR, S.nD, S.nR, by rw [upd_ne S.ne]; exact S1.d, upd_same, S.nd, fun j h => S.sub j (by rw [e2]; simp [h]), S.lt, S.rch, by have := S.ndr; rw [e2] at this; exact (List.nodup_append.mp this).1⟩
    have edl : (natsV rm).dropLast = natsV rm' := by rw [en]; simp
    refine ⟨.ref a, t0, .ref R, t4, tyL S1.r, R, natsV rm, .int (i : Nat), rfl, rfl, S1.r, elast, a, xs, (i : Nat), .ref c, rfl, rfl, Evl.ex_t (by rw [edl]; exact S2.ex) hs, atI_nat hv, c, rfl, ⟨_, Evl.ex_t (by rw [edl]; exact S2.ex) hcb⟩, ?_⟩
    rw [edl]
    let Pv : Nat → L2.St → Hp → Prop := fun k σ H2 => ∃ ks2 rm2, σ[0]? = some (some (.ref a)) ∧ σ[1]? = some (some (.ref b)) ∧ σ[3]? = some (some (.ref D)) ∧ σ[4]? = some (some (.ref R)) ∧ σ.length = 7 ∧ Rst fam first H H2 D R ks2 rm2 ∧ first ∈ ks2 ∧ i ∈ ks2 ∧
      (∀ j ∈ ks2, j ∈ rm2 ∨ j = i ∨ Clo fam ks2 j) ∧ (∀ x ∈ bi.take k, ∀ l, l < fam.length → x ∈ fam.getD l [] → l ∈ ks2) ∧ 2 * (fam.length - ks2.length) + rm2.length < 2 * (fam.length - ks.length) + rm.length
    refine for_tup (xs := natsV bi) Pv ⟨ks, rm', t0, t1, t3, t4, tl, S2, hfk, him, fun j h => ?_, fun x h => by simp at h, by rw [e2]; simp⟩ (fun k σ2 H2 _ p => ?_) (fun k x σ2 H2 hk p => ?_) (fun σ2 H2 p => ?_)
    · rcases hc j h with z | z
      · rw [e2] at z
        rcases List.mem_append.mp z with z | z
        · exact .inl z
        · exact .inr (.inl (List.mem_singleton.mp z))
      · exact .inr (.inr z)
    · obtain ⟨_, _, _, _, _, _, _, S3, _⟩ := p
      exact Evl.ex_t S3.ex hcb
    · obtain ⟨n, hbn, rfl⟩ := natsV_get hk
      obtain ⟨ks2, rm2, u0, u1, u3, u4, ul, S3, hf2, hi2, hc2, ht2, hm2⟩ := p
      have hn : n < sz fam := lt_sz g (List.mem_of_getElem? hb) (List.mem_of_getElem? hbn)
      obtain ⟨cc, hcc, hcl⟩ := hy n _ (homes_get hn)
      have w1 : (σ2.set 5 (some (V.int (n : Int))))[1]? = some (some (.ref b)) := by rw [List.getElem?_set_ne (by decide)]; exact u1
      have w5 : (σ2.set 5 (some (V.int (n : Int))))[5]? = some (some (.int (n : Int))) := by rw [List.getElem?_set_self (by omega)]
      refine ⟨.ref b, w1, .int n, w5, b, _, _, .ref cc, rfl, rfl, Evl.ex_l S3.ex hsb, atI_nat hcc, cc, rfl, ⟨_, Evl.ex_l S3.ex hcl⟩, ?_⟩
      refine for_list (xs := natsV (homesAt fam n fam.length)) (fun k2 σ3 H3 => ∃ ks3 rm3, σ3[0]? = some (some (.ref a)) ∧ σ3[1]? = some (some (.ref b)) ∧ σ3[3]? = some (some (.ref D)) ∧ σ3[4]? = some (some (.ref R)) ∧ σ3.length = 7 ∧ Rst fam first H H3 D R ks3 rm3 ∧ first ∈ ks3 ∧ i ∈ ks3 ∧
        (∀ j ∈ ks3, j ∈ rm3 ∨ j = i ∨ Clo fam ks3 j) ∧ (∀ x ∈ bi.take k, ∀ l, l < fam.length → x ∈ fam.getD l [] → l ∈ ks3) ∧ (∀ l ∈ (homesAt fam n fam.length).take k2, l ∈ ks3) ∧ 2 * (fam.length - ks3.length) + rm3.length < 2 * (fam.length - ks.length) + rm.length) ?_ ?_ ?_ ?_
      · refine ⟨ks2, rm2, ?_, w1, ?_, ?_, by rw [List.length_set]; exact ul, S3, hf2, hi2, hc2, ht2, fun l h => by simp at h, hm2⟩
        · rw [List.getElem?_set_ne (by decide)]; exact u0
        · rw [List.getElem?_set_ne (by decide)]; exact u3
        · rw [List.getElem?_set_ne (by decide)]; exact u4
      · rintro k2 σ3 H3 _ ⟨_, _, _, _, _, _, _, S4, _⟩
        exact Evl.ex_l S4.ex hcl
      · intro k2 x σ3 H3 hk2 p
        obtain ⟨l, hll, rfl⟩ := natsV_get hk2
        obtain ⟨ks3, rm3, y0, y1, y3, y4, yl, S4, hf3, hi3, hc3, ht3, hh3, hm3⟩ := p
        have hlm := mem_homesAt.mp (List.mem_of_getElem? hll)
        have z0 : (σ3.set 6 (some (V.int (l : Int))))[0]? = some (some (.ref a)) := by rw [List.getElem?_set_ne (by decide)]; exact y0
        have z1 : (σ3.set 6 (some (V.int (l : Int))))[1]? = some (some (.ref b)) := by rw [List.getElem?_set_ne (by decide)]; exact y1
        have z3 : (σ3.set 6 (some (V.int (l : Int))))[3]? = some (some (.ref D)) := by rw [List.getElem?_set_ne (by decide)]; exact y3
        have z4 : (σ3.set 6 (some (V.int (l : Int))))[4]? = some (some (.ref R)) := by rw [List.getElem?_set_ne (by decide)]; exact y4
        have z6 : (σ3.set 6 (some (V.int (l : Int))))[6]? = some (some (.int (l : Int))) := by rw [List.getElem?_set_self (by omega)]
        have zl : (σ3.set 6 (some (V.int (l : Int)))).length = 7 := by rw [List.length_set]; exact yl
        have etk : (homesAt fam n fam.length).take (k2 + 1) = (homesAt fam n fam.length).take k2 ++ [l] := by rw [List.take_add_one, hll]; rfl
        refine ⟨.int l, z6, .ref D, z3, D, _, rfl, DGet.k (k := Sum.inl (l : Int)) S4.d, _, rfl, ?_⟩
        rw [valV_setK]
        by_cases hlk : l ∈ ks3
        · rw [if_pos hlk]
          refine iteF ⟨ks3, rm3, z0, z1, z3, z4, zl, S4, hf3, hi3, hc3, ht3, fun l' h => ?_, hm3⟩
          rw [etk] at h
          rcases List.mem_append.mp h with h | h
          · exact hh3 l' h
          · rw [List.mem_singleton.mp h]; exact hlk
        · rw [if_neg hlk]
          have hlen := nodup_le S4.nd S4.lt
          have hnd : (ks3 ++ [l]).Nodup := List.nodup_append.mpr ⟨S4.nd, by simp, fun x hx y hy => by rw [List.mem_singleton.mp hy]; exact fun z => hlk (z ▸ hx)⟩
          have hlt : ∀ j ∈ ks3 ++ [l], j < fam.length := fun j h => by
            rcases List.mem_append.mp h with h | h
            · exact S4.lt j h
            · rw [List.mem_singleton.mp h]; exact hlm.1
          have hlen2 := nodup_le hnd hlt
          rw [List.length_append, List.length_singleton] at hlen2
          have hrl := nodup_le S4.ndr fun j h => S4.lt j (S4.sub j h)
          have hput : setK (ks3 ++ [l]) = putK (setK ks3) (Sum.inl (l : Int)) (.bl true) := by rw [putK_setK, insN_new hlk]
          have S5 : Rst fam first H (upd (upd H3 D (.dK (setK (ks3 ++ [l])))) R (.lst (natsV rm3 ++ [.int (l : Int)]))) D R (ks3 ++ [l]) (rm3 ++ [l]) := by
            refine ⟨Ex.mut (Ex.mut S4.ex S4.nD) S4.nR, S4.nD, S4.nR, by rw [upd_ne S4.ne, upd_same], by rw [upd_same]; unfold natsV; rw [List.map_append]; rfl, hnd, fun j h => ?_, hlt, fun j h => ?_, ?_⟩
            · rcases List.mem_append.mp h with h | h
              · exact List.mem_append_left _ (S4.sub j h)
              · exact List.mem_append_right _ h
            · rcases List.mem_append.mp h with h | h
              · exact S4.rch j h
              · rw [List.mem_singleton.mp h]
                exact .step (S4.rch i hi3) (by rw [eb]; exact List.mem_of_getElem? hbn) hlm.2 hlm.1
            · exact List.nodup_append.mpr ⟨S4.ndr, by simp, fun x hx y hy => by rw [List.mem_singleton.mp hy]; exact fun z => hlk (z ▸ S4.sub x hx)⟩
          refine iteT ⟨.ref D, z3, .int l, z6, D, _, rfl, DPut.k (k := Sum.inl (l : Int)) S4.d (by rw [setK_len]; exact Evl.sz_lt (by omega)), ?_⟩
          rw [← hput]
          have hR3 : upd H3 D (.dK (setK (ks3 ++ [l]))) R = some (.lst (natsV rm3)) := by rw [upd_ne S4.ne.symm]; exact S4.r
          refine ⟨.ref R, z4, tyL hR3, .int l, z6, R, _, _, rfl, rfl, hR3, by rw [natsV_len]; exact Evl.sz_lt (by omega), ?_⟩
          refine ⟨ks3 ++ [l], rm3 ++ [l], z0, z1, z3, z4, zl, S5, List.mem_append_left _ hf3, List.mem_append_left _ hi3, fun j h => ?_, fun x h l' hl' hx' => List.mem_append_left _ (ht3 x h l' hl' hx'), fun l' h => ?_, ?_⟩
          · rcases List.mem_append.mp h with h | h
            · rcases hc3 j h with z | z | z
              · exact .inl (List.mem_append_left _ z)
              · exact .inr (.inl z)
              · exact .inr (.inr fun x hx l' hl' hx' => List.mem_append_left _ (z x hx l' hl' hx'))
            · exact .inl (List.mem_append_right _ h)
          · rw [etk] at h
            rcases List.mem_append.mp h with h | h
            · exact List.mem_append_left _ (hh3 l' h)
            · exact List.mem_append_right _ h
          · rw [List.length_append, List.length_append, List.length_singleton]
            omega
      · rintro σ3 H3 ⟨ks3, rm3, y0, y1, y3, y4, yl, S4, hf3, hi3, hc3, ht3, hh3, hm3⟩
        refine ⟨ks3, rm3, y0, y1, y3, y4, yl, S4, hf3, hi3, hc3, fun x h l hl hxl => ?_, hm3⟩
        rw [List.take_add_one, hbn] at h
        rcases List.mem_append.mp h with h | h
        · exact ht3 x h l hl hxl
        · have : x = n := by simpa using h
          subst this
          rw [natsV_len, List.take_length] at hh3
          exact hh3 l (mem_homesAt.mpr ⟨hl, hxl⟩)
    · obtain ⟨ks2, rm2, u0, u1, u3, u4, ul, S3, hf2, hi2, hc2, ht2, hm2⟩ := p
      rw [natsV_len, List.take_length] at ht2
      refine ⟨_, hm2, ks2, rm2, u0, u1, u3, u4, ul, S3, hf2, fun j h => ?_, rfl⟩
      rcases hc2 j h with z | z | z
      · exact .inl z
      · subst z
        refine .inr fun x hx l hl hxl => ht2 x (by rw [← eb]; exact hx) l hl hxl
      · exact .inr z
end
end Bg

set_option Elab.async false
set_option linter.all false
set_option maxRecDepth 100000
set_option maxHeartbeats 1000000
namespace Bg
open PySem PySem.Spec PyProof.Rows L2
open Evl (Ex)
local macro_rules | `(tactic| walk_at "peel") => `(tactic| dsimp only [tNext, tSeq, tRet, tAndV, tOrV, tNotV, tCB, tCons, tNil, tAsg, tIfS, tDrop, tOp, tTest, tB, tNot, tAnd, tOr, tUn, tIf])
section
variable {P : Program} {w : World} {K : PySem.W.Frag} {mg : Str → Option Value} {base : Heap}
/-! #### ring_of -/
abbrev s_ring_of : Stmt := top 18
abbrev N_ring_of : List Str := ["bags", "homes", "left", "is_going", "index", "ties", "bead", "other"]
theorem sc_ring_of : FnScope N_ring_of ["bags", "homes"] (defScope s_ring_of) := ⟨rfl, rfl, rfl, by decide +kernel, rfl, by decide +kernel, by decide +kernel⟩
theorem dropK_setK (ks : List Nat) (n : Nat) : dropK (setK ks) (Sum.inl (n : Int)) = setK (ks.filter fun k => decide (k ≠ n)) := by
  unfold dropK setK
  rw [List.filter_map]
  refine congrArg _ (List.filter_congr fun k _ => ?_)
  show decide ((Sum.inl (k : Int) : Key) ≠ Sum.inl (n : Int)) = decide (k ≠ n)
  refine decide_eq_decide.mpr ⟨fun h z => h (by rw [z]), fun h z => h (by have := Sum.inl.inj z; omega)⟩
theorem perm_nats {ys : List Int} {ks : List Nat} (h : ys.Perm (ks.map fun n : Nat => (n : Int))) : ∃ zs : List Nat, ys = zs.map (fun n : Nat => (n : Int)) ∧ zs.Perm ks := by
  refine ⟨ys.map Int.toNat, ?_, ?_⟩
  · rw [List.map_map]
    conv => lhs; rw [← List.map_id ys]
    refine List.map_congr_left fun y hy => ?_
    obtain ⟨n, _, rfl⟩ := List.mem_map.mp (h.mem_iff.mp hy)
    rfl
  · have := h.map Int.toNat
    rw [List.map_map] at this
    have e : ks.map (Int.toNat ∘ fun n : Nat => (n : Int)) = ks := by
      conv => rhs; rw [← List.map_id ks]
      exact List.map_congr_left fun y _ => rfl
    rwa [e] at this
structure Rg (H0 H : Hp) (D : Addr) (n : Nat) (ks : List Nat) : Prop where
  ex : Ex H0 H
  nD : H0 D = none
  d : H D = some (.dK (setK ks))
  nd : ks.Nodup
  lt : ∀ i ∈ ks, i < n
theorem Rg.mono {H0 H H' : Hp} {D : Addr} {n : Nat} {ks : List Nat} (S : Rg H0 H D n ks) (e : Ex H H') : Rg H0 H' D n ks := ⟨S.ex.trans e, S.nD, e _ _ S.d, S.nd, S.lt⟩
theorem Rg.keys {H0 H : Hp} {D : Addr} {n : Nat} {ks : List Nat} (S : Rg H0 H D n ks) : (setK ks).map (·.1) = (ks.map fun n : Nat => (n : Int)).map Sum.inl := by
  unfold setK; rw [List.map_map, List.map_map]; rfl
theorem Rg.len {H0 H : Hp} {D : Addr} {n : Nat} {ks : List Nat} (S : Rg H0 H D n ks) : ks.length ≤ n := nodup_le S.nd S.lt
def natOf : V → Nat
  | .int i => i.toNat
  | _ => 0
def spRing (K : PySem.W.Frag) : Sp := fun vs H Q _ => ∃ v u fam, vs = [v, u] ∧ Dp K H v (famD fam) ∧ Dp K H u (natssD (homes fam)) ∧ GoodBags fam ∧ fam.length ≤ 63 ∧
  ∀ (p : Addr) H' (l : List Int), Ex H H' → H p = none → H' p = some (.lst (l.map V.int)) → l.length < 64 → Q (.ref p) H'
theorem ok_ring_of (F : Fu K mg "ring_of" s_ring_of ["bags", "homes"]) (Z : Bz mg) : Cal P w K mg base CX0 1 "ring_of" ["bags", "homes"] (spRing K) := by
  refine F.ok sc_ring_of (fun vs H Q E h => ?_) (fun f cdv A outer s H vs Q E hr h => ?_)
  · obtain ⟨v, u, fam, rfl, _⟩ := h; rfl
  obtain ⟨v, u, fam, rfl, hd, hh, g, hz, q⟩ := h
  refine ⟨_, (pss_cons (ps_set (i := 2) sc_ring_of.nd rfl (Or.inr rfl) (pe_dc (own := [("index", 4)]) (g := gName 4) (tt := tYes) rfl sc_ring_of.nd (pi_range1 rfl Z.range (pa_cons (pe_callB (call_len_seqK (K := K)) (by rfl) Z.len PySem.boot_len (pa_cons (pv 0) pa_nil)) pa_nil)) (blkOk_by (own := [("index", 4)]) (N := N_ring_of) (sc := (defScope s_ring_of)) (by decide +kernel)) (fun _ _ _ _ _ => (pg_name (i := 4) sc_ring_of.nd rfl (Or.inl rfl))) (fun _ _ _ _ _ => pts_nil) (fun _ _ _ _ _ => (pv 4)) (fun _ _ _ _ _ => pe_bl)))
    (pss_cons (ps_set (i := 3) sc_ring_of.nd rfl (Or.inl rfl) pe_bl)
    (pss_cons (ps_while PassesOwn.never (pt_val (pv 3)) (pss_cons (ps_set (i := 3) sc_ring_of.nd rfl (Or.inl rfl) pe_bl)
    (pss_one (ps_for PassesOwn.never rfl (pi_listK (K := K) (pe_callB (call_sortedDI rfl) (by rfl) Z.sorted (by decide +kernel) (pa_cons (pv 2) pa_nil))) (pg_name (i := 4) sc_ring_of.nd rfl (Or.inl rfl)) (pss_cons (ps_setLc (i := 5) (own := [("bead", 6)]) (g := gName 6) rfl sc_ring_of.nd rfl rfl (sw_true rfl rfl rfl (by decide +kernel)) (pi_tupK (K := K) (pe_ix (ix_tupK (K := K)) (pv 0) (pv 4) (fun _ _ => rfl))) (blkOk_by (own := [("bead", 6)]) (N := N_ring_of) (sc := (defScope s_ring_of)) (by decide +kernel)) (fun _ _ _ _ _ => (pg_name (i := 6) sc_ring_of.nd rfl (Or.inl rfl))) (fun _ _ _ _ _ => (pts_one (pt_cmpR op_gt (pe_callB (call_len_seqK (K := K)) (by rfl) Z.len PySem.boot_len (pa_cons (pe_lc (own := [("other", 7)]) (g := gName 7) rfl sc_ring_of.nd (pi_listK (K := K) (pe_ix (ix_listK (K := K)) (pv 1) (pv 6) (fun _ _ => rfl))) (blkOk_by (own := [("other", 7)]) (N := N_ring_of) (sc := (relS ⟨.function, [(".0", .local), ("bead", .local), ("len", .globalImplicit), ("homes", .free), ("left", .free)], false, false, []⟩ (defScope s_ring_of))) (by decide +kernel)) (fun _ _ _ _ _ => (pg_name (i := 7) sc_ring_of.nd rfl (Or.inl rfl))) (fun _ _ _ _ _ => (pts_one (pt_cmp (pc_din (hu_of hr) (pv 7) (pv 2))))) (fun _ _ _ _ _ => pe_int)) pa_nil)) pe_int (nomark _)))) (fun _ _ _ _ _ => (pv 6)))
    (pss_one (ps_if (PW.pt (pw_and (pt_cmpR op_lt (pe_callB (call_len_seqK (K := K)) (by rfl) Z.len PySem.boot_len (pa_cons (pv 5) pa_nil)) pe_int (nomark _)) (pw_and1 (pt_cmpR op_gt (pe_callB call_lenD (by rfl) Z.len PySem.boot_len (pa_cons (pv 2) pa_nil)) pe_int (nomark _))))) (pss_cons (ps_ddel (pv 2) (pv 4))
    (pss_one (ps_set (i := 3) sc_ring_of.nd rfl (Or.inl rfl) pe_bl))) pss_nil)))))))
    (pss_one (ps_ret (pe_callB (call_sortedDI rfl) (by rfl) Z.sorted (by decide +kernel) (pa_cons (pv 2) pa_nil))))))), ?_⟩
  obtain ⟨a, xs, rfl, hs, hl, hx⟩ := dp_fam hd
  obtain ⟨b, ys, rfl, hsb, hlb, hy⟩ := dp_natss hh
  walk_at "peel"
  refine goDR (n := fam.length) (fun R r => ⟨.ref a, rfl, a, xs, rfl, .inr hs, by rw [hl]; exact r H (Ex.refl H)⟩) (by omega) (by show 4 < 8; decide) (fun _ => rfl) (fun D H1 hD e1 hy1 => ?_)
  let W : Nat → L2.St → Hp → Prop := fun m σ H' => ∃ ks go, σ[0]? = some (some (.ref a)) ∧ σ[1]? = some (some (.ref b)) ∧ σ[2]? = some (some (.ref D)) ∧ σ[3]? = some (some (.bl go)) ∧ σ.length = 8 ∧ Rg H H' D fam.length ks ∧ m = 2 * ks.length + go.toNat
  refine ⟨W, ⟨_, List.range fam.length, true, rfl, rfl, rfl, rfl, rfl, ⟨e1, hD, hy1, List.nodup_range, fun i h => List.mem_range.mp h⟩, rfl⟩, ?_⟩
  rintro m σ H' ⟨ks, go, t0, t1, t2, t3, tl, S, rfl⟩
  refine ⟨.bl go, t3, go, rfl, ?_⟩
  have hks : (ks.map fun n : Nat => (n : Int)).length < 64 := by have := S.len; rw [List.length_map]; omega
  cases go with
  | false =>
    refine iteF ⟨.ref D, t2, D, setK ks, _, rfl, Rd.of S.d, S.keys, hks, fun zs p perm _ hp => q p _ zs (S.ex.trans (Ex.new hp)) (Evl.fresh_back S.ex hp) upd_same ?_⟩
    rw [perm.length_eq]; exact hks
  | true =>
    refine iteT ⟨fun σ' H' => ∃ m', m' < 2 * ks.length + 1 ∧ W m' σ' H', fun _ _ h => h, ?_⟩
    have r2 : (σ.set 3 (some (V.bl false)))[2]? = some (some (.ref D)) := by rw [List.getElem?_set_ne (by decide)]; exact t2
    refine ⟨.ref D, r2, D, setK ks, _, rfl, Rd.of S.d, S.keys, hks, fun zs p perm _ hp => ?_⟩
    obtain ⟨js, rfl, pj⟩ := perm_nats perm
    have hjn : js.Nodup := pj.nodup_iff.mpr S.nd
    have ejs : (js.map fun n : Nat => (n : Int)).map V.int = natsV js := by unfold natsV; rw [List.map_map]; rfl
    rw [ejs]
    have S1 := S.mono (Ex.new (o := .lst (natsV js)) hp)
    have hpD : p ≠ D := fun z => by rw [z, S.d] at hp; cases hp
    refine ⟨p, rfl, ⟨_, SqL.of upd_same⟩, for_list (xs := natsV js) (fun k σ2 H2 => ∃ ks2 go, σ2[0]? = some (some (.ref a)) ∧ σ2[1]? = some (some (.ref b)) ∧ σ2[2]? = some (some (.ref D)) ∧ σ2[3]? = some (some (.bl go)) ∧ σ2.length = 8 ∧
      Rg H H2 D fam.length ks2 ∧ H2 p = some (.lst (natsV js)) ∧ (∀ j ∈ js.drop k, j ∈ ks2) ∧ 2 * ks2.length + go.toNat ≤ 2 * ks.length) ?_ ?_ ?_ ?_⟩
    · refine ⟨ks, false, ?_, ?_, r2, ?_, by rw [List.length_set]; exact tl, S1, upd_same, fun j h => pj.mem_iff.mp (by simpa using h), by simp⟩
      · rw [List.getElem?_set_ne (by decide)]; exact t0
      · rw [List.getElem?_set_ne (by decide)]; exact t1
      · rw [List.getElem?_set_self (by omega)]
    · rintro k σ2 H2 _ ⟨_, _, _, _, _, _, _, _, h, _⟩
      exact SqL.of h
    · rintro k x σ2 H2 hk ⟨ks2, go, u0, u1, u2, u3, ul, S2, hp2, hdr, hm⟩
      obtain ⟨i, hji, rfl⟩ := natsV_get hk
      have hik : i ∈ ks2 := hdr i (by rw [List.mem_iff_getElem?]; exact ⟨0, by rw [List.getElem?_drop]; simpa using hji⟩)
      have hil := S2.lt i hik
      obtain ⟨v, hv⟩ : ∃ v, xs[i]? = some v := ⟨xs[i], List.getElem?_eq_getElem (by omega)⟩
      obtain ⟨bi, hb, hdb⟩ := hx i v hv
      obtain ⟨c, rfl, hcb⟩ := dp_bag hdb
      have w0 : (σ2.set 4 (some (V.int (i : Int))))[0]? = some (some (.ref a)) := by rw [List.getElem?_set_ne (by decide)]; exact u0
      have w1 : (σ2.set 4 (some (V.int (i : Int))))[1]? = some (some (.ref b)) := by rw [List.getElem?_set_ne (by decide)]; exact u1
      have w2 : (σ2.set 4 (some (V.int (i : Int))))[2]? = some (some (.ref D)) := by rw [List.getElem?_set_ne (by decide)]; exact u2
      have w3 : (σ2.set 4 (some (V.int (i : Int))))[3]? = some (some (.bl go)) := by rw [List.getElem?_set_ne (by decide)]; exact u3
      have w4 : (σ2.set 4 (some (V.int (i : Int))))[4]? = some (some (.int (i : Int))) := by rw [List.getElem?_set_self (by omega)]
      have wl : (σ2.set 4 (some (V.int (i : Int)))).length = 8 := by rw [List.length_set]; exact ul
      show gName 4 _ _ _ _
      walk_at "peel"
      dsimp only [gName]
      generalize σ2.set 4 (some (V.int (i : Int))) = σ3 at w0 w1 w2 w3 w4 wl
      refine goTf (fun v => decide ((1 : Int) < (((((natsV (homesAt fam (natOf v) fam.length)).filter (isN ks2)).map fun _ => V.int 1).length : Nat) : Int))) (fun v => v) (xs := natsV bi) (fun R r => ⟨.ref a, w0, .int i, w4, a, xs, (i : Nat), .ref c, rfl, rfl, Evl.ex_t S2.ex hs, atI_nat hv, r _ _ (Ex.refl _) (Evl.ex_t S2.ex hcb)⟩)
        (by rw [natsV_len]; have := (g.bag bi (List.mem_of_getElem? hb)).nd; have h60 := nodup_le this (g.bag bi (List.mem_of_getElem? hb)).lt; omega) (fun x => by simp [wipe]) (fun ix x H4 hx4 e4 Q' q' => ?_) (fun ix x H4 hx4 e4 hp Q' q' => ⟨x, ?_, q' _ (Ex.refl _)⟩) (fun D5 H3 hD5 e3 hy3 => ?_)
      · obtain ⟨n, hbn, rfl⟩ := natsV_get hx4
        have hn : n < sz fam := lt_sz g (List.mem_of_getElem? hb) (List.mem_of_getElem? hbn)
        obtain ⟨cc, hcc, hcl⟩ := hy n _ (homes_get hn)
        have S4 := S2.mono e4
        have hlen := homesAt_le fam n fam.length
        walk_at "peel"
        refine goLf (isN ks2) (fun _ => .int 1) (xs := natsV (homesAt fam n fam.length)) (fun R r => ⟨.ref b, ?_, .int n, ?_, b, ys, (n : Nat), .ref cc, rfl, rfl, Evl.ex_l S4.ex hsb, atI_nat hcc, r _ _ (Ex.refl _) (Evl.ex_l S4.ex hcl)⟩)
          (by rw [natsV_len]; omega) (fun x => by simp [wipe]) (fun ix x H5 hx5 e5 Q' q' => ?_) (fun ix x H5 hx5 e5 hp Q' q' => q' _ (Ex.refl _)) (fun D6 H6 hD6 e6 hy6 => ?_)
        · simp [wipe, w1]
        · simp [wipe, wl]
        · obtain ⟨l, hll, rfl⟩ := natsV_get hx5
          refine ⟨.int l, ?_, .ref D, ?_, D, _, rfl, DGet.k (k := Sum.inl (l : Int)) (e5 _ _ S4.d), _, rfl, ?_⟩
          · simp [wipe, wl]
          · simp [wipe, w2]
          · rw [valV_setK]
            have := q' H5 (Ex.refl _)
            rw [isN_nat] at this
            by_cases m : l ∈ ks2
            · rw [if_pos m]; rw [decide_eq_true m] at this; exact this
            · rw [if_neg m]; rw [decide_eq_false m] at this; exact this
        · exact ⟨D6, _, rfl, .inl (SqL.of hy6), _, _, rfl, rfl, _, rfl, q' H6 e6⟩
      · obtain ⟨n, hbn, rfl⟩ := natsV_get hx4
        simp [wipe, wl]
      · have z0 : (σ3.set 5 (some (V.ref D5)))[0]? = some (some (.ref a)) := by rw [List.getElem?_set_ne (by decide)]; exact w0
        have z1 : (σ3.set 5 (some (V.ref D5)))[1]? = some (some (.ref b)) := by rw [List.getElem?_set_ne (by decide)]; exact w1
        have z2 : (σ3.set 5 (some (V.ref D5)))[2]? = some (some (.ref D)) := by rw [List.getElem?_set_ne (by decide)]; exact w2
        have z3 : (σ3.set 5 (some (V.ref D5)))[3]? = some (some (.bl go)) := by rw [List.getElem?_set_ne (by decide)]; exact w3
        have z4 : (σ3.set 5 (some (V.ref D5)))[4]? = some (some (.int i)) := by rw [List.getElem?_set_ne (by decide)]; exact w4
        have z5 : (σ3.set 5 (some (V.ref D5)))[5]? = some (some (.ref D5)) := by rw [List.getElem?_set_self (by omega)]
        have zl : (σ3.set 5 (some (V.ref D5))).length = 8 := by rw [List.length_set]; exact wl
        have S3 := S2.mono e3
        have edr : js.drop k = i :: js.drop (k + 1) := by
          have hk' := (List.getElem?_eq_some_iff.mp hji)
          obtain ⟨h1, h2⟩ := hk'
          rw [← h2]; exact List.drop_eq_getElem_cons h1
        have hdr2 : ∀ j ∈ js.drop (k + 1), j ∈ ks2 := fun j h => hdr j (by rw [edr]; exact List.mem_cons_of_mem _ h)
        refine ⟨.ref D5, z5, D5, _, rfl, .inl (SqL.of hy3), _, _, rfl, rfl, _, rfl, ?_⟩
        refine ite2 (fun c1 => ?_) (fun c1 => ?_)
        · refine ⟨.ref D, z2, D, _, rfl, S3.d, _, _, rfl, rfl, _, rfl, ?_⟩
          refine ite2 (fun c2 => ?_) (fun c2 => ?_)
          · refine ⟨.ref D, z2, .int i, z4, D, setK ks2, Sum.inl (i : Int), rfl, S3.d, rfl, by rw [valV_setK, if_pos hik]; rfl, ?_⟩
            rw [dropK_setK]
            have hpm : upd H3 D (.dK (setK (ks2.filter fun k => decide (k ≠ i)))) p = some (.lst (natsV js)) := by rw [upd_ne hpD]; exact e3 _ _ hp2
            have hnd2 : i ∉ js.drop (k + 1) := by
              have : (js.drop k).Nodup := (List.drop_sublist k js).nodup hjn
              rw [edr] at this
              exact (List.nodup_cons.mp this).1
            have hlt : (ks2.filter fun k => decide (k ≠ i)).length < ks2.length := by
              rcases Nat.lt_or_ge (ks2.filter fun k => decide (k ≠ i)).length ks2.length with h | h
              · exact h
              · have h2 := List.length_filter_le (fun k => decide (k ≠ i)) ks2
                have h3 := List.length_filter_eq_length_iff.mp (Nat.le_antisymm h2 h) i hik
                simp at h3
            refine ⟨ks2.filter fun k => decide (k ≠ i), true, ?_, ?_, ?_, ?_, ?_, ⟨Ex.mut S3.ex S3.nD, S3.nD, upd_same, S3.nd.filter _, fun j h => S3.lt j (List.mem_filter.mp h).1⟩, hpm, fun j h => List.mem_filter.mpr ⟨hdr2 j h, by simpa using fun z => hnd2 (by rw [← z]; exact h)⟩, ?_⟩
            · rw [List.getElem?_set_ne (by decide)]; exact z0
            · rw [List.getElem?_set_ne (by decide)]; exact z1
            · rw [List.getElem?_set_ne (by decide)]; exact z2
            · rw [List.getElem?_set_self (by omega)]
            · rw [List.length_set]; exact zl
            · show 2 * _ + 1 ≤ _
              have : 2 * ks2.length ≤ 2 * ks.length := by omega
              omega
          · exact ⟨ks2, go, z0, z1, z2, z3, zl, S3, e3 _ _ hp2, hdr2, hm⟩
        · refine iteF ?_
          exact ⟨ks2, go, z0, z1, z2, z3, zl, S3, e3 _ _ hp2, hdr2, hm⟩
    · rintro σ2 H2 ⟨ks2, go, u0, u1, u2, u3, ul, S2, hp2, hdr, hm⟩
      exact ⟨_, by omega, ks2, go, u0, u1, u2, u3, ul, S2, rfl⟩
end
end Bg

set_option Elab.async false
set_option linter.all false
set_option maxRecDepth 100000
set_option maxHeartbeats 1000000
namespace Bg
open PySem PySem.Spec PyProof.Rows L2
open Evl (Ex)
local macro_rules | `(tactic| walk_at "peel") => `(tactic| dsimp only [tNext, tSeq, tRet, tAndV, tOrV, tNotV, tCB, tCons, tNil, tAsg, tIfS, tDrop, tOp, tTest, tB, tNot, tAnd, tOr, tUn, tIf])
section
variable {P : Program} {w : World} {K : PySem.W.Frag} {mg : Str → Option Value} {base : Heap}
/-! #### bar_of -/
abbrev s_bar_of : Stmt := top 17
abbrev N_bar_of : List Str := ["bags", "homes", "bead", "told", "at", "one", "spot", "bag"]
theorem sc_bar_of : FnScope N_bar_of ["bags"] (defScope s_bar_of) := ⟨rfl, rfl, rfl, by decide +kernel, rfl, by decide +kernel, by decide +kernel⟩
def spBarOf (K : PySem.W.Frag) : Sp := fun vs H Q _ => ∃ v fam, vs = [v] ∧ Dp K H v (famD fam) ∧ GoodBags fam ∧ fam.length ≤ 63 ∧ (∀ H', Ex H H' → Valid fam → Q .non H') ∧ (∀ p H', Ex H H' → ¬ Valid fam → Q (.ref p) H')
theorem ok_bar_of (F : Fu K mg "bar_of" s_bar_of ["bags"]) (Z : Bz mg) (G_homes_of : Cal P w K mg base CX0 2 "homes_of" ["bags"] (spHomesOf K)) (G_shared_by : Cal P w K mg base CX0 1 "shared_by" ["one", "other"] (spSharedBy K)) (G_reached_from : Cal P w K mg base CX0 1 "reached_from" ["bags", "homes", "first"] (spReached K)) (G_ring_of : Cal P w K mg base CX0 1 "ring_of" ["bags", "homes"] (spRing K)) : Cal P w K mg base CX0 3 "bar_of" ["bags"] (spBarOf K) := by
  refine F.ok sc_bar_of (fun vs H Q E h => ?_) (fun f cdv A outer s H vs Q E hr h => ?_)
  · obtain ⟨v, fam, rfl, _⟩ := h; rfl
  obtain ⟨v, fam, rfl, hd, g, hz, qv, qn⟩ := h
  refine ⟨_, (pss_cons (ps_set (i := 1) sc_bar_of.nd rfl (Or.inl rfl) (pe_calC G_homes_of (hr.mono (by decide)) rfl pass0 (pa_cons (pv 0) pa_nil)))
    (pss_cons (ps_for PassesOwn.never rfl (pi_enum (by rfl) Z.enumerate (pa_cons (pv 1) pa_nil)) (pg_tup rfl (pgs_cons (pg_name (i := 2) sc_bar_of.nd rfl (Or.inl rfl)) (pgs_cons (pg_name (i := 3) sc_bar_of.nd rfl (Or.inl rfl)) pgs_nil))) (pss_one (ps_if (pt_cmpR (op_eqDK (K := K) hr.units) (pv 3) (pe_lst pa_nil) (nomark _)) (pss_one (ps_ret (pe_tup (pa_cons pe_str (pa_cons (pv 2) pa_nil))))) pss_nil)))
    (pss_cons (ps_for PassesOwn.never rfl (pi_enumT (by rfl) Z.enumerate (pa_cons (pv 0) pa_nil)) (pg_tup rfl (pgs_cons (pg_name (i := 4) sc_bar_of.nd rfl (Or.inl rfl)) (pgs_cons (pg_name (i := 5) sc_bar_of.nd rfl (Or.inl rfl)) pgs_nil))) (pss_one (ps_for PassesOwn.never rfl (pi_range1 rfl Z.range (pa_cons (pv 4) pa_nil)) (pg_name (i := 6) sc_bar_of.nd rfl (Or.inl rfl)) (pss_one (ps_if (pt_cmpR op_gt (pe_callB (call_len_seqK (K := K)) (by rfl) Z.len PySem.boot_len (pa_cons (pe_calC G_shared_by (hr.mono (by decide)) rfl pass0 (pa_cons (pe_ix (ix_tupK (K := K)) (pv 0) (pv 6) (fun _ _ => rfl)) (pa_cons (pv 5) pa_nil))) pa_nil)) pe_int (nomark _)) (pss_one (ps_ret (pe_tup (pa_cons pe_str (pa_cons (pv 6) (pa_cons (pv 4) pa_nil)))))) pss_nil)))))
    (pss_cons (ps_if (pt_cmpR op_lt (pe_callB call_lenD (by rfl) Z.len PySem.boot_len (pa_cons (pe_calC G_reached_from (hr.mono (by decide)) rfl pass0 (pa_cons (pv 0) (pa_cons (pv 1) (pa_cons pe_int pa_nil)))) pa_nil)) (pe_callB (call_len_seqK (K := K)) (by rfl) Z.len PySem.boot_len (pa_cons (pv 0) pa_nil)) (nomark _)) (pss_one (ps_ret (pe_tup (pa_cons pe_str (pa_cons (pe_tupleB (K := K) rfl Z.tuple (pe_callB (call_sortedDI rfl) (by rfl) Z.sorted (by decide +kernel) (pa_cons (pe_calC G_reached_from (hr.mono (by decide)) rfl pass0 (pa_cons (pv 0) (pa_cons (pv 1) (pa_cons pe_int pa_nil)))) pa_nil))) pa_nil))))) pss_nil)
    (pss_cons (ps_if (pt_cmpR op_gt (pe_callB (cr_sumK (K := K) rfl) (by rfl) Z.sum (by decide +kernel) (pa_cons (pe_lc (own := [("bag", 7)]) (g := gName 7) rfl sc_bar_of.nd (pi_tupK (K := K) (pv 0)) (blkOk_by (own := [("bag", 7)]) (N := N_bar_of) (sc := (defScope s_bar_of)) (by decide +kernel)) (fun _ _ _ _ _ => (pg_name (i := 7) sc_bar_of.nd rfl (Or.inl rfl))) (fun _ _ _ _ _ => pts_nil) (fun _ _ _ _ _ => (pe_op op_sub (pe_callB (call_len_seqK (K := K)) (by rfl) Z.len PySem.boot_len (pa_cons (pv 7) pa_nil)) pe_int))) pa_nil)) (pe_op op_sub (pe_callB (call_len_seqK (K := K)) (by rfl) Z.len PySem.boot_len (pa_cons (pv 1) pa_nil)) pe_int) (nomark _)) (pss_one (ps_ret (pe_tup (pa_cons pe_str (pa_cons (pe_tupleB (K := K) rfl Z.tuple (pe_calC G_ring_of (hr.mono (by decide)) rfl pass0 (pa_cons (pv 0) (pa_cons (pv 1) pa_nil)))) pa_nil))))) pss_nil)
    (pss_one (ps_ret pe_non))))))), ?_⟩
  obtain ⟨a, xs, rfl, hs, hl, hx⟩ := dp_fam hd
  have hlen : fam.length ≤ 1000 := by omega
  have hf0 : 0 < fam.length := by have := g.ne; cases fam <;> simp at this ⊢
  refine ⟨.ref a, rfl, _, fam, rfl, hd, g, hlen, fun h0 H1 e1 _ hh => ?_⟩
  obtain ⟨b, ys, e0, hsb, hlb, hy⟩ := dp_natss hh
  obtain rfl : h0 = b := V.ref.inj e0
  rw [homes_len] at hlb
  refine ⟨.ref h0, rfl, h0, ys, rfl, hsb, for_enum (fun i σ H' => σ[0]? = some (some (.ref a)) ∧ σ[1]? = some (some (.ref h0)) ∧ σ.length = 8 ∧ Ex H1 H' ∧ ∀ x, x < i → homesAt fam x fam.length ≠ []) ⟨rfl, rfl, rfl, Ex.refl _, fun x h => absurd h (Nat.not_lt_zero _)⟩ (fun i σ H' _ p => Evl.ex_l p.2.2.2.1 hsb) (fun i x T σ H' hi p hT => ?_) (fun σ H' p => ?_)⟩
  · obtain ⟨t0, t1, tl, e2, hn⟩ := p
    have hil : i < sz fam := by have := (List.getElem?_eq_some_iff.mp hi).1; omega
    obtain ⟨cc, hcc, hcl⟩ := hy i _ (homes_get hil)
    rw [hi] at hcc
    cases hcc
    have e3 := e2.trans (Ex.new (o := .tup [.int (i : Nat), .ref cc]) hT)
    refine ⟨T, _, rfl, SqT.of upd_same, rfl, _, _, rfl, _, _, rfl, rfl, ?_⟩
    have u0 : ((σ.set 2 (some (V.int (i : Nat)))).set 3 (some (V.ref cc)))[0]? = some (some (.ref a)) := gs_ne (by decide) (gs_ne (by decide) t0)
    have u1 : ((σ.set 2 (some (V.int (i : Nat)))).set 3 (some (V.ref cc)))[1]? = some (some (.ref h0)) := gs_ne (by decide) (gs_ne (by decide) t1)
    have u2 : ((σ.set 2 (some (V.int (i : Nat)))).set 3 (some (V.ref cc)))[2]? = some (some (.int (i : Nat))) := gs_ne (by decide) (gs_eq (by omega))
    have u3 : ((σ.set 2 (some (V.int (i : Nat)))).set 3 (some (V.ref cc)))[3]? = some (some (.ref cc)) := gs_eq (by rw [List.length_set]; omega)
    refine ⟨.ref cc, u3, (by show 0 ≤ sizeLine; decide), fun p hp => ?_⟩
    have e4 := e3.trans (Ex.new (o := .lst []) hp)
    refine ⟨.list (natsD (homesAt fam i fam.length)), .list [], .lst (Evl.ex_l e4 hcl) (dpa_nats _), .lst (SqL.of upd_same) .nil, shaped_nats _, rfl, _, rfl, ?_⟩
    rw [eqv_nil]
    cases hE : (homesAt fam i fam.length).isEmpty with
    | true =>
      have e0 := List.isEmpty_iff.mp hE
      exact iteT ⟨.int i, u2, (by show 2 ≤ sizeLine; decide), fun r hr => qn r _ (e1.trans (e4.trans (Ex.new hr))) fun V => homes_nil e0 (V.cover i hil)⟩
    | false =>
      refine iteF ⟨u0, u1, by rw [List.length_set, List.length_set]; exact tl, e4, fun x hx => ?_⟩
      by_cases z : x = i
      · subst z; intro z; rw [z] at hE; cases hE
      · exact hn x (by omega)
  · obtain ⟨t0, t1, tl, e2, hn⟩ := p
    rw [hlb] at hn
    have hcov : ∀ x, x < sz fam → ∃ b ∈ fam, x ∈ b := fun x hx => homes_ne (hn x hx)
    refine ⟨.ref a, t0, a, xs, rfl, Evl.ex_t (e1.trans e2) hs, for_enumT (fun i σ H' => σ[0]? = some (some (.ref a)) ∧ σ[1]? = some (some (.ref h0)) ∧ σ.length = 8 ∧ Ex H1 H' ∧ ∀ j, j < i → ∀ k, k < j → (sharedN (fam.getD k []) (fam.getD j [])).length ≤ 1) ⟨t0, t1, tl, e2, fun x h => absurd h (Nat.not_lt_zero _)⟩ (fun i σ H' _ p => Evl.ex_t (e1.trans p.2.2.2.1) hs) (fun i x T σ H' hi p hT => ?_) (fun σ H' p => ?_)⟩
    · obtain ⟨t0, t1, tl, e3, hp⟩ := p
      have hil : i < fam.length := by have := (List.getElem?_eq_some_iff.mp hi).1; omega
      obtain ⟨bi, hbi, hdi⟩ := hx i x hi
      have ebi : fam.getD i [] = bi := getD_get hbi
      have gbi := g.bag bi (List.mem_of_getElem? hbi)
      have e4 := e3.trans (Ex.new (o := .tup [.int (i : Nat), x]) hT)
      refine ⟨T, _, rfl, SqT.of upd_same, rfl, _, _, rfl, _, _, rfl, rfl, ?_⟩
      have u0 : ((σ.set 4 (some (V.int (i : Nat)))).set 5 (some x))[0]? = some (some (.ref a)) := gs_ne (by decide) (gs_ne (by decide) t0)
      have u1 : ((σ.set 4 (some (V.int (i : Nat)))).set 5 (some x))[1]? = some (some (.ref h0)) := gs_ne (by decide) (gs_ne (by decide) t1)
      have u4 : ((σ.set 4 (some (V.int (i : Nat)))).set 5 (some x))[4]? = some (some (.int (i : Nat))) := gs_ne (by decide) (gs_eq (by omega))
      have u5 : ((σ.set 4 (some (V.int (i : Nat)))).set 5 (some x))[5]? = some (some x) := gs_eq (by rw [List.length_set]; omega)
      refine ⟨.int i, u4, i, rfl, by omega, by omega, for_range (lo := 0) (fun k σ H' => σ[0]? = some (some (.ref a)) ∧ σ[1]? = some (some (.ref h0)) ∧ σ[4]? = some (some (.int (i : Nat))) ∧ σ[5]? = some (some x) ∧ σ.length = 8 ∧ Ex H1 H' ∧ ∀ k', k' < k → (sharedN (fam.getD k' []) (fam.getD i [])).length ≤ 1) ⟨u0, u1, u4, u5, by rw [List.length_set, List.length_set]; exact tl, e4, fun x h => absurd h (Nat.not_lt_zero _)⟩ (fun k σ H' hk p => ?_) (fun σ H' p => ?_)⟩
      · obtain ⟨t0, t1, t4, t5, tl, e5, hp5⟩ := p
        have hki : k < i := by simpa using hk
        rw [Int.zero_add]
        obtain ⟨v, hv⟩ : ∃ v, xs[k]? = some v := ⟨xs[k], List.getElem?_eq_getElem (by omega)⟩
        obtain ⟨bk, hbk, hdk⟩ := hx k v hv
        have ebk : fam.getD k [] = bk := getD_get hbk
        have gbk := g.bag bk (List.mem_of_getElem? hbk)
        obtain ⟨ck, rfl, hck⟩ := dp_bag hdk
        have e6 := e1.trans e5
        refine ⟨.ref a, gs_ne (by decide) t0, .int k, gs_eq (by omega), a, xs, (k : Nat), .ref ck, rfl, rfl, Evl.ex_t e6 hs, atI_nat hv, x, gs_ne (by decide) t5, ?_⟩
        refine ⟨_, _, bk, bi, rfl, dp_ex e6 hdk, dp_ex e6 hdi, gbi.nd, ?_, ?_, fun p H7 e7 hp7 hy7 => ?_⟩
        · have := nodup_le gbk.nd gbk.lt; omega
        · have := nodup_le gbi.nd gbi.lt; omega
        · refine ⟨p, _, rfl, .inl (SqL.of hy7), _, _, rfl, rfl, _, rfl, ?_⟩
          rw [natsV_len]
          refine ite2 (fun c => ?_) (fun c => ?_)
          · have c' := of_decide_eq_true c
            refine ⟨.int k, gs_eq (by omega), .int i, gs_ne (by decide) t4, (by show 3 ≤ sizeLine; decide), fun r hr => qn r _ (e6.trans (e7.trans (Ex.new hr))) fun V => ?_⟩
            have := V.pair k i hki hil
            rw [ebk, ebi] at this
            omega
          · have c' := of_decide_eq_false (Bool.eq_false_iff.mpr c)
            refine ⟨gs_ne (by decide) t0, gs_ne (by decide) t1, gs_ne (by decide) t4, gs_ne (by decide) t5, by rw [List.length_set]; exact tl, e5.trans e7, fun k' hk' => ?_⟩
            by_cases z : k' = k
            · subst z; rw [ebk, ebi]; omega
            · exact hp5 k' (by omega)
      · obtain ⟨t0, t1, t4, t5, tl, e5, hp5⟩ := p
        refine ⟨t0, t1, tl, e5, fun j hj k hk => ?_⟩
        by_cases z : j = i
        · subst z; exact hp5 k (by simpa using hk)
        · exact hp j (by omega) k hk
    · obtain ⟨t0, t1, tl, e3, hp⟩ := p
      rw [hl] at hp
      have hpair : ∀ i j, i < j → j < fam.length → (sharedN (fam.getD i []) (fam.getD j [])).length ≤ 1 := fun i j h1 h2 => hp j h2 i h1
      have e4 := e1.trans e3
      refine ⟨.ref a, t0, .ref h0, t1, _, _, fam, 0, rfl, dp_ex e4 hd, dp_ex e3 hh, g, hlen, hf0, fun p H5 ks e5 hp5 hks nd hiff => ?_⟩
      have hkl := nodup_le nd fun i hi => ((hiff i).mp hi).lt hf0
      refine ⟨p, _, rfl, hks, .ref a, t0, a, xs, rfl, .inr (Evl.ex_t (e4.trans e5) hs), _, _, rfl, rfl, _, rfl, ?_⟩
      rw [setK_len, hl]
      refine ite2 (fun c => ?_) (fun c => ?_)
      · have c' := of_decide_eq_true c
        refine ⟨.ref a, t0, .ref h0, t1, _, _, fam, 0, rfl, dp_ex (e4.trans e5) hd, dp_ex (e3.trans e5) hh, g, hlen, hf0, fun p2 H6 ks2 e6 hp6 hks2 nd2 hiff2 => ?_⟩
        have hkl2 := nodup_le nd2 fun i hi => ((hiff2 i).mp hi).lt hf0
        refine ⟨p2, setK ks2, ks2.map (fun n : Nat => (n : Int)), rfl, Rd.of hks2, by unfold setK; rw [List.map_map, List.map_map]; rfl, by rw [List.length_map]; omega, fun zs p3 _ _ hp3 => ?_⟩
        refine ⟨p3, _, rfl, .inl (SqL.of upd_same), fun r H7 e7 _ => ⟨(by show 2 ≤ sizeLine; decide), fun t ht => qn t _ ?_ fun V => ?_⟩⟩
        · exact (e4.trans e5).trans (e6.trans ((Ex.new hp3).trans (e7.trans (Ex.new ht))))
        · have hall : ∀ i ∈ List.range fam.length, i ∈ ks := fun i hi => (hiff i).mpr (V.conn i (List.mem_range.mp hi))
          have := nat_nodup_len (List.range fam.length) ks List.nodup_range hall
          rw [List.length_range] at this
          omega
      · have c' := of_decide_eq_false (Bool.eq_false_iff.mpr c)
        have hconn : ∀ i, i < fam.length → Rch fam 0 i := fun i hi => by
          refine (hiff i).mp (Decidable.byContradiction fun hn => ?_)
          have hnd : (i :: ks).Nodup := List.nodup_cons.mpr ⟨hn, nd⟩
          have := nodup_le hnd (n := fam.length) fun j hj => by
            rcases List.mem_cons.mp hj with z | z
            · exact z ▸ hi
            · exact ((hiff j).mp z).lt hf0
          rw [List.length_cons] at this
          omega
        have e6 := e4.trans e5
        walk_at "peel"
        refine goT (fun D i v H => v = .int ((((fam.getD i []).length - 1 : Nat) : Nat) : Int)) (fun _ _ _ _ _ _ h => h) (fun R r => ⟨_, t0, r _ _ (Ex.refl _) (Evl.ex_t e6 hs)⟩) (by omega) (fun x => by simp [wipe]) (fun D i x H7 hi e7 _ Q' q' => ?_) (fun D H7 zs hD e7 hy7 hyl hp7 => ?_)
        · obtain ⟨bi, hbi, hdi⟩ := hx i x hi
          obtain ⟨c, rfl, hc⟩ := dp_bag (dp_ex (e6.trans e7) hdi)
          have gbi := (g.bag bi (List.mem_of_getElem? hbi)).two
          refine ⟨.ref c, gs_eq (by rw [wipe_length]; omega), c, _, rfl, .inr hc, _, _, rfl, rfl, q' _ _ (Ex.refl _) ?_⟩
          rw [natsV_len, getD_get hbi]
          have e9 : ((bi.length : Nat) : Int) - 1 = ((bi.length - 1 : Nat) : Int) := by omega
          show V.int (((bi.length : Nat) : Int) - 1) = _
          rw [e9]
        · have ey : zs = ((fam.map fun b => b.length - 1).map fun n : Nat => (n : Int)).map V.int := by
            rw [List.map_map, List.map_map]
            refine list_eq_map (f := V.int ∘ (fun n : Nat => (n : Int)) ∘ fun b : List Nat => b.length - 1) (zs := fam) (by omega) fun i v hv => ?_
            have hi : i < fam.length := by have := (List.getElem?_eq_some_iff.mp hv).1; omega
            refine ⟨fam[i], by simp [hi], ?_⟩
            rw [hp7 i v hv, List.getD_eq_getElem?_getD, List.getElem?_eq_getElem hi]; rfl
          rw [ey] at hy7
          have e8 := e6.trans e7
          refine ⟨D, _, rfl, SqL.of hy7, .ref h0, t1, h0, ys, rfl, .inl (Evl.ex_l (e3.trans (e5.trans e7)) hsb), _, _, rfl, rfl, _, _, rfl, rfl, _, rfl, ?_⟩
          rw [sum_cast, hlb]
          have hsz := two_le_sz g
          refine ite2 (fun c => ?_) (fun c => ?_)
          · have c' := of_decide_eq_true c
            refine ⟨.ref a, t0, .ref h0, t1, _, _, fam, rfl, dp_ex e8 hd, dp_ex (e3.trans (e5.trans e7)) hh, g, hz, fun p9 H9 l e9 hp9 hl9 _ => ?_⟩
            refine ⟨p9, _, rfl, .inl (SqL.of hl9), fun r H10 e10 _ => ⟨(by show 2 ≤ sizeLine; decide), fun t ht => qn t _ (e8.trans (e9.trans (e10.trans (Ex.new ht)))) fun V => ?_⟩⟩
            have := V.sum
            omega
          · have c' := of_decide_eq_false (Bool.eq_false_iff.mpr c)
            exact qv _ e8 ⟨hcov, hpair, hconn, by omega⟩
end
end Bg

set_option Elab.async false
set_option linter.all false
set_option maxRecDepth 100000
set_option maxHeartbeats 1000000
namespace Bg
open PySem PySem.Spec PyProof.Rows L2
open Evl (Ex)
local macro_rules | `(tactic| walk_at "peel") => `(tactic| dsimp only [tNext, tSeq, tRet, tAndV, tOrV, tNotV, tCB, tCons, tNil, tAsg, tIfS, tDrop, tOp, tTest, tB, tNot, tAnd, tOr, tUn, tIf, tThen, tM1])
section
variable {P : Program} {w : World} {K : PySem.W.Frag} {mg : Str → Option Value} {base : Heap}
/-! #### need_family -/
abbrev s_need_family : Stmt := top 19
abbrev N_need_family : List Str := ["value"]
theorem sc_need_family : FnScope N_need_family ["value"] (defScope s_need_family) := ⟨rfl, rfl, rfl, by decide +kernel, rfl, by decide +kernel, by decide +kernel⟩
def spNeedFamily (K : PySem.W.Frag) (CB CF : Addr) : Sp := fun vs H Q E => ∃ v d, vs = [v] ∧ Dp K H v d ∧ SmBags d ∧ (isBagsD d = false → ∀ H', Ex H H' → E (.ref CB) none H') ∧
  ∀ fam, d = famD fam → GoodBags fam → fam.length ≤ 63 ∧ (Valid fam → ∀ H', Ex H H' → Q .non H') ∧ (¬ Valid fam → ∀ H', Ex H H' → E (.ref CF) none H')
theorem ok_need_family {CB CF : Addr} (F : Fu K mg "need_family" s_need_family ["value"]) (Z : Bz mg) (X_BadFamily : Er K mg "BadFamily" CF) (G_need_bags : Cal P w K mg base (L2.CX P w) 4 "need_bags" ["value"] (spNeedBags K CB)) (G_bar_of : Cal P w K mg base CX0 3 "bar_of" ["bags"] (spBarOf K)) :
    Cal P w K mg base (L2.CX P w) 5 "need_family" ["value"] (spNeedFamily K CB CF) := by
  refine F.okX sc_need_family (fun vs H Q E h => ?_) (fun f cdv A outer s H vs Q E hr h => ?_)
  · obtain ⟨v, d, rfl, _⟩ := h; rfl
  obtain ⟨v, d, rfl, hd, sm, qb, qf⟩ := h
  refine ⟨_, (pss_cons (ps_expr (pe_calC G_need_bags (hr.mono (by decide)) rfl (passes_call (takes_of rfl rfl rfl rfl) (fun _ _ _ _ h => h)) (pa_cons (pv 0) pa_nil)))
    (pss_one (ps_if (pt_cmpR op_notN (pe_calC G_bar_of (hr.mono (by decide)) rfl pass0 (pa_cons (pv 0) pa_nil)) pe_non (nomark _)) (pss_one (ps_raise rfl (takes_of rfl rfl rfl rfl) (mk_own0 X_BadFamily rfl))) pss_nil))), ?_⟩
  refine ⟨v, rfl, _, d, rfl, hd, sm, fun hB H1 e1 => ?_, fun hB H1 e1 => qb hB _ e1⟩
  obtain ⟨fam, rfl, g⟩ := bags_of hB
  obtain ⟨hz, q1, q2⟩ := qf fam rfl g
  refine ⟨v, rfl, _, fam, rfl, dp_ex e1 hd, g, hz, fun H2 e2 V => ?_, fun p H2 e2 V => ?_⟩
  · exact ⟨rfl, _, rfl, iteF (q1 V _ (e1.trans e2))⟩
  · exact ⟨rfl, _, rfl, iteT (q2 V _ (e1.trans e2))⟩
end
end Bg

set_option Elab.async false
set_option linter.all false
set_option maxRecDepth 100000
set_option maxHeartbeats 1000000
namespace Bg
open PySem PySem.Spec PyProof.Rows L2
open Evl (Ex)
local macro_rules | `(tactic| walk_at "peel") => `(tactic| dsimp only [tNext, tSeq, tRet, tAndV, tOrV, tNotV, tCB, tCons, tNil, tAsg, tIfS, tDrop, tOp, tTest, tB, tNot, tAnd, tOr, tUn, tIf, tThen, tM1])
section
variable {P : Program} {w : World} {K : PySem.W.Frag} {mg : Str → Option Value} {base : Heap}
/-! #### whole_of -/
abbrev s_whole_of : Stmt := top 24
abbrev N_whole_of : List Str := ["bags", "found", "bag"]
theorem sc_whole_of : FnScope N_whole_of ["bags"] (defScope s_whole_of) := ⟨rfl, rfl, rfl, by decide +kernel, rfl, by decide +kernel, by decide +kernel⟩
def spWholeOf (K : PySem.W.Frag) (CF : Addr) : Sp := fun vs H Q E => ∃ B rows, vs = [.ref B] ∧ Dp K H (.ref B) (.list (rows.map bagD)) ∧ (∀ b ∈ rows, GoodBag b) ∧ rows ≠ [] ∧ rows.length ≤ 63 ∧
  (rows.Pairwise (· < ·) → Valid rows → ∀ v H', Ex H H' → Dp K H' v (famD rows) → Q v H') ∧ (¬ (rows.Pairwise (· < ·) ∧ Valid rows) → ∀ H', Ex H H' → E (.ref CF) none H')
theorem ok_whole_of {CF : Addr} (F : Fu K mg "whole_of" s_whole_of ["bags"]) (Z : Bz mg) (X_BadFamily : Er K mg "BadFamily" CF) (G_is_bag : Cal P w K mg base CX0 3 "is_bag" ["value"] (spIsBag K)) (G_is_rising : Cal P w K mg base CX0 1 "is_rising" ["value"] (spIsRising K)) (G_bar_of : Cal P w K mg base CX0 3 "bar_of" ["bags"] (spBarOf K)) :
    Cal P w K mg base (L2.CX P w) 4 "whole_of" ["bags"] (spWholeOf K CF) := by
  refine F.okX sc_whole_of (fun vs H Q E h => ?_) (fun f cdv A outer s H vs Q E hr h => ?_)
  · obtain ⟨B, rows, rfl, _⟩ := h; rfl
  obtain ⟨B, rows, rfl, hd, hg, hne, hl, qy, qn⟩ := h
  refine ⟨_, (pss_cons (ps_set (i := 1) sc_whole_of.nd rfl (Or.inl rfl) (pe_tupleB (K := K) rfl Z.tuple (pv 0)))
    (pss_cons (ps_if (PW.pt (pw_or (pt_not (pt_val (pe_callB (cr_allK (K := K) rfl) (by rfl) Z.all (by decide +kernel) (pa_cons (pe_lc (own := [("bag", 2)]) (g := gName 2) rfl sc_whole_of.nd (pi_tupK (K := K) (pv 1)) (blkOk_by (own := [("bag", 2)]) (N := N_whole_of) (sc := (defScope s_whole_of)) (by decide +kernel)) (fun _ _ _ _ _ => (pg_name (i := 2) sc_whole_of.nd rfl (Or.inl rfl))) (fun _ _ _ _ _ => pts_nil) (fun _ _ _ _ _ => (pe_calC G_is_bag (hr.mono (by decide)) rfl pass0 (pa_cons (pv 2) pa_nil)))) pa_nil)))) (pw_or (pt_not (pt_val (pe_calC G_is_rising (hr.mono (by decide)) rfl pass0 (pa_cons (pv 1) pa_nil)))) (pw_or1 (pt_cmpR op_notN (pe_calC G_bar_of (hr.mono (by decide)) rfl pass0 (pa_cons (pv 1) pa_nil)) pe_non (nomark _)))))) (pss_one (ps_raise rfl (takes_of rfl rfl rfl rfl) (mk_own0 X_BadFamily rfl))) pss_nil)
    (pss_one (ps_ret (pv 1))))), ?_⟩
  obtain ⟨B', xs, e0, hs, hx⟩ := dp_lst hd
  obtain rfl : B = B' := V.ref.inj e0
  have hxl := dpa_len hx
  rw [List.length_map] at hxl
  refine ⟨.ref B, rfl, B, xs, rfl, .inl hs, fun p H1 e1 hp => ?_⟩
  have hdp : Dp K H1 (.ref p) (famD rows) := .tup hp (dpa_ex e1 hx)
  show tSeq _ _ _ ((L2.start N_whole_of [V.ref B]).set 1 (some (.ref p))) H1
  walk_at "peel"
  refine goT (fun D i v H => v = .bl true) (fun _ _ _ _ _ _ h => h) (fun R r => ⟨_, rfl, r _ _ (Ex.refl _) hp⟩) (by omega) (fun _ => rfl) (fun D i x H2 hi e2 _ Q' q' => ?_) (fun D H2 ys hD e2 hy hyl hpy => ?_)
  · have hil : i < rows.length := by have := (List.getElem?_eq_some_iff.mp hi).1; omega
    obtain ⟨d, h1, h2⟩ := dpa_get (dpa_ex (e1.trans e2) hx) hi
    rw [List.getElem?_map, List.getElem?_eq_getElem hil] at h1
    cases h1
    have gb := hg _ (List.getElem_mem hil)
    refine ⟨x, rfl, x, _, rfl, h2, fun ds e => ?_, fun H3 e3 => ?_⟩
    · cases e
      have := nodup_le gb.nd gb.lt
      unfold natsD; rw [List.length_map]; omega
    · rw [isBag_of gb]
      exact q' _ _ e3 rfl
  · have ey : ys = (rows.map fun _ => true).map V.bl := list_eq_map (by simp; omega) fun i v hv => by
      have hi : i < rows.length := by have := (List.getElem?_eq_some_iff.mp hv).1; omega
      exact ⟨true, by simp [hi], hpy i v hv⟩
    rw [ey] at hy
    refine ⟨D, rows.map (fun _ => true), rfl, SqL.of hy, _, rfl, ?_⟩
    have ea : (rows.map fun _ => true).all id = true := by simp
    rw [ea]
    have hall : (rows.map bagD).all isBagD = true := List.all_eq_true.mpr fun d hd => by
      obtain ⟨b, hb, rfl⟩ := List.mem_map.mp hd
      exact isBag_of (hg b hb)
    refine iteF ⟨.ref p, rfl, .ref p, rows.map bagD, rfl, dp_ex e2 hdp, kin_bags hall (by rw [List.length_map]; omega), fun H3 e3 => ⟨_, rfl, ?_⟩⟩
    have e13 := e1.trans (e2.trans e3)
    cases hr : risingD (rows.map bagD) with
    | false =>
      refine iteT (iteT (qn (fun z => ?_) _ e13))
      rw [(rising_fam rows).mpr z.1] at hr; cases hr
    | true =>
      have hpw := (rising_fam rows).mp hr
      refine iteF ⟨.ref p, rfl, .ref p, rows, rfl, dp_ex (e2.trans e3) hdp, ⟨hne, hg, hpw⟩, hl, fun H4 e4 V => ?_, fun pp H4 e4 V => ?_⟩
      · exact ⟨rfl, _, rfl, iteF ⟨.ref p, rfl, qy hpw V _ _ (e13.trans e4) (dp_ex (e2.trans (e3.trans e4)) hdp)⟩⟩
      · exact ⟨rfl, _, rfl, iteT (qn (fun z => V z.2) _ (e13.trans e4))⟩
/-! #### draw -/
abbrev s_draw : Stmt := top 25
abbrev N_draw : List Str := ["family", "size", "bag", "bead"]
theorem sc_draw : FnScope N_draw ["family"] (defScope s_draw) := ⟨rfl, rfl, rfl, by decide +kernel, rfl, by decide +kernel, by decide +kernel⟩
def spDraw (K : PySem.W.Frag) (CB CF : Addr) : Sp := fun vs H Q E => ∃ v d, vs = [v] ∧ Dp K H v d ∧ SmBags d ∧ (isBagsD d = false → ∀ H', Ex H H' → E (.ref CB) none H') ∧
  ∀ fam, d = famD fam → GoodBags fam → fam.length ≤ 63 ∧ ¬ Valid fam ∧ (∀ H', Ex H H' → E (.ref CF) none H')
/-- only where it raises -/
theorem ok_draw {CB CF : Addr} (F : Fu K mg "draw" s_draw ["family"]) (Z : Bz mg) (G_need_family : Cal P w K mg base (L2.CX P w) 5 "need_family" ["value"] (spNeedFamily K CB CF)) :
    Cal P w K mg base (L2.CX P w) 6 "draw" ["family"] (spDraw K CB CF) := by
  refine F.okX sc_draw (fun vs H Q E h => ?_) (fun f cdv A outer s H vs Q E hr h => ?_)
  · obtain ⟨v, d, rfl, _⟩ := h; rfl
  obtain ⟨v, d, rfl, hd, sm, qb, qf⟩ := h
  refine ⟨_, (pss_cons (ps_expr (pe_calC G_need_family (hr.mono (by decide)) rfl (passes_call (takes_of rfl rfl rfl rfl) (fun _ _ _ _ h => h)) (pa_cons (pv 0) pa_nil)))
    (pss_cons (ps_set (i := 1) sc_draw.nd rfl (Or.inr rfl) (pe_op op_add pe_int (pe_callB (cr_maxK (K := K) rfl) (by rfl) Z.max (by decide +kernel) (pa_cons (pe_lc (own := [("bag", 2)]) (g := gName 2) rfl sc_draw.nd (pi_tupK (K := K) (pv 0)) (blkOk_by (own := [("bag", 2)]) (N := N_draw) (sc := (defScope s_draw)) (by decide +kernel)) (fun _ _ _ _ _ => (pg_name (i := 2) sc_draw.nd rfl (Or.inl rfl))) (fun _ _ _ _ _ => pts_nil) (fun _ _ _ _ _ => (pe_ix (ix_tupK (K := K)) (pv 2) (pe_un un_neg pe_int) (fun _ _ => rfl)))) pa_nil))))
    (pss_one (ps_ret (pe_tupleB (K := K) rfl Z.tuple (pe_lc (own := [("bag", 2)]) (g := gName 2) rfl sc_draw.nd (pi_tupK (K := K) (pv 0)) (blkOk_by (own := [("bag", 2)]) (N := N_draw) (sc := (defScope s_draw)) (by decide +kernel)) (fun _ _ _ _ _ => (pg_name (i := 2) sc_draw.nd rfl (Or.inr rfl))) (fun _ _ _ _ _ => pts_nil) (fun _ _ _ _ _ => (pe_joinB (K := K) pe_str (pe_lc (own := [("bead", 3)]) (g := gName 3) rfl sc_draw.nd (pi_range1 rfl Z.range (pa_cons (pv 1) pa_nil)) (blkOk_by (own := [("bead", 3)]) (N := N_draw) (sc := (relS ⟨.function, [(".0", .local), ("bag", .cell), ("range", .globalImplicit), ("size", .free)], false, false, []⟩ (defScope s_draw))) (by decide +kernel)) (fun _ _ _ _ _ => (pg_name (i := 3) sc_draw.nd rfl (Or.inl rfl))) (fun _ _ _ _ _ => pts_nil) (fun _ _ _ _ _ => (pe_ifExp (pt_cmpR (op_in_seqK (K := K)) (pv 3) (pv 2) (by rfl)) pe_str pe_str))))))))))), ?_⟩
  refine ⟨v, rfl, _, d, rfl, hd, sm, fun hB H1 e1 => qb hB _ e1, fun fam ef g => ?_⟩
  obtain ⟨hz, nv, q⟩ := qf fam ef g
  exact ⟨hz, fun V => absurd V nv, fun _ => q⟩
end
end Bg

set_option Elab.async false
set_option linter.all false
set_option maxRecDepth 100000
set_option maxHeartbeats 1000000
namespace Bg
open PySem PySem.Spec PyProof.Rows L2
open Evl (Ex)
local macro_rules | `(tactic| walk_at "peel") => `(tactic| dsimp only [tNext, tSeq, tRet, tAndV, tOrV, tNotV, tCB, tCons, tNil, tAsg, tIfS, tDrop, tOp, tTest, tB, tNot, tAnd, tOr, tUn, tIf, tThen, tM1])
section
variable {P : Program} {w : World} {K : PySem.W.Frag} {mg : Str → Option Value} {base : Heap}
/-! #### write -/
abbrev s_write : Stmt := top 22
abbrev N_write : List Str := ["family", "bag", "bead"]
theorem sc_write : FnScope N_write ["family"] (defScope s_write) := ⟨rfl, rfl, rfl, by decide +kernel, rfl, by decide +kernel, by decide +kernel⟩
def spWrite (K : PySem.W.Frag) (CB CF : Addr) : Sp := fun vs H Q E => ∃ v d, vs = [v] ∧ Dp K H v d ∧ SmBags d ∧ (isBagsD d = false → ∀ H', Ex H H' → E (.ref CB) none H') ∧
  ∀ fam, d = famD fam → GoodBags fam → fam.length ≤ 63 ∧ (Valid fam → ∀ H', Ex H H' → Q (.str (tx (famT fam))) H') ∧ (¬ Valid fam → ∀ H', Ex H H' → E (.ref CF) none H')
theorem ok_write {CB CF : Addr} (F : Fu K mg "write" s_write ["family"]) (Z : Bz mg) (G_need_family : Cal P w K mg base (L2.CX P w) 5 "need_family" ["value"] (spNeedFamily K CB CF)) :
    Cal P w K mg base (L2.CX P w) 6 "write" ["family"] (spWrite K CB CF) := by
  refine F.okX sc_write (fun vs H Q E h => ?_) (fun f cdv A outer s H vs Q E hr h => ?_)
  · obtain ⟨v, d, rfl, _⟩ := h; rfl
  obtain ⟨v, d, rfl, hd, sm, qb, qf⟩ := h
  refine ⟨_, (pss_cons (ps_expr (pe_calC G_need_family (hr.mono (by decide)) rfl (passes_call (takes_of rfl rfl rfl rfl) (fun _ _ _ _ h => h)) (pa_cons (pv 0) pa_nil)))
    (pss_one (ps_ret (pe_joinB (K := K) pe_str (pe_lc (own := [("bag", 1)]) (g := gName 1) rfl sc_write.nd (pi_tupK (K := K) (pv 0)) (blkOk_by (own := [("bag", 1)]) (N := N_write) (sc := (defScope s_write)) (by decide +kernel)) (fun _ _ _ _ _ => (pg_name (i := 1) sc_write.nd rfl (Or.inl rfl))) (fun _ _ _ _ _ => pts_nil) (fun _ _ _ _ _ => (pe_joinB (K := K) pe_str (pe_lc (own := [("bead", 2)]) (g := gName 2) rfl sc_write.nd (pi_tupK (K := K) (pv 1)) (blkOk_by (own := [("bead", 2)]) (N := N_write) (sc := (relS ⟨.function, [(".0", .local), ("bag", .local)], false, false, []⟩ (defScope s_write))) (by decide +kernel)) (fun _ _ _ _ _ => (pg_name (i := 2) sc_write.nd rfl (Or.inl rfl))) (fun _ _ _ _ _ => pts_nil) (fun _ _ _ _ _ => (pe_callTy call_str_int (by rfl) Z.str (by decide +kernel) (pa_cons (pv 2) pa_nil))))))))))), ?_⟩
  refine ⟨v, rfl, _, d, rfl, hd, sm, fun hB H1 e1 => qb hB _ e1, fun fam ef g => ?_⟩
  obtain ⟨hz, q1, q2⟩ := qf fam ef g
  refine ⟨hz, fun V0 H1 e1 => ?_, q2⟩
  subst ef
  obtain ⟨a, xs, rfl, hs, hl, hx⟩ := dp_fam hd
  walk_at "peel"
  refine ⟨⟨_, rfl⟩, ?_⟩
  refine goT (fun D i v H => v = .str (tx (bagT (fam.getD i [])))) (fun _ _ _ _ _ _ h => h) (fun R r => ⟨_, rfl, r _ _ (Ex.refl _) (Evl.ex_t e1 hs)⟩) (by omega) (fun _ => rfl) (fun D i x H2 hi e2 _ Q' q' => ?_) (fun D H2 ys hD e2 hy hyl hp => ?_)
  · obtain ⟨b, hb, hdb⟩ := hx i x hi
    obtain ⟨c, rfl, hc⟩ := dp_bag (dp_ex (e1.trans e2) hdb)
    have gb := g.bag b (List.mem_of_getElem? hb)
    have hbl := nodup_le gb.nd gb.lt
    rw [getD_get hb] at q'
    refine ⟨⟨_, rfl⟩, ?_⟩
    refine goT (xs := natsV b) (fun D j v H => v = .str (tx (figs (b.getD j 0)))) (fun _ _ _ _ _ _ h => h) (fun R r => ⟨_, rfl, r _ _ (Ex.refl _) hc⟩) (by rw [natsV_len]; omega) (fun _ => rfl) (fun D j x H3 hj e3 _ Q3 q3 => ?_) (fun D2 H3 zs hD2 e3 hzs hzl hp3 => ?_)
    · obtain ⟨n, hbn, rfl⟩ := natsV_get hj
      have hn := gb.lt n (List.mem_of_getElem? hbn)
      have hlog : ((n : Nat) : Int).natAbs.log2 < 1920 := by
        rw [Int.natAbs_natCast]
        exact Nat.lt_of_le_of_lt (Nat.log2_le_self n) (by omega)
      refine ⟨.int n, rfl, (n : Nat), rfl, hlog, q3 _ _ (Ex.refl _) ?_⟩
      rw [str_nat hn, getD_get hbn]
    · have ez : zs = (b.map fun n => tx (figs n)).map V.str := by
        rw [List.map_map]
        refine list_eq_map (f := V.str ∘ fun n => tx (figs n)) (zs := b) (by rw [hzl, natsV_len]) fun j v hv => ?_
        have hj : j < b.length := by have := (List.getElem?_eq_some_iff.mp hv).1; rw [hzl, natsV_len] at this; exact this
        refine ⟨b[j], List.getElem?_eq_getElem hj, ?_⟩
        rw [hp3 j v hv, getD_get (List.getElem?_eq_getElem hj)]; rfl
      rw [ez] at hzs
      refine ⟨Str.ofString ".", D2, b.map fun n => tx (figs n), rfl, rfl, .inl (SqL.of hzs), ?_, q' _ _ e3 ?_⟩
      · have h2 := sum_le (l := (b.map fun n => tx (figs n)).map (·.length)) (k := 2) (by
          intro x hx
          obtain ⟨f, hf, rfl⟩ := List.mem_map.mp hx
          obtain ⟨n, _, rfl⟩ := List.mem_map.mp hf
          rw [tx_len]; exact figs_len n)
        simp only [List.length_map] at h2 ⊢
        have h3 : (Str.ofString ".").length = 1 := by decide
        rw [h3]; omega
      · have e : Str.ofString "." = tx [46] := by decide +kernel
        have e4 : (b.map fun n => tx (figs n)) = (b.map figs).map tx := by rw [List.map_map]; rfl
        rw [e, e4, join_tx]; rfl
  · have ez : ys = (fam.map fun b => tx (bagT b)).map V.str := by
      rw [List.map_map]
      refine list_eq_map (f := V.str ∘ fun b => tx (bagT b)) (zs := fam) (by omega) fun j v hv => ?_
      have hj : j < fam.length := by have := (List.getElem?_eq_some_iff.mp hv).1; omega
      refine ⟨fam[j], List.getElem?_eq_getElem hj, ?_⟩
      rw [hp j v hv, getD_get (List.getElem?_eq_getElem hj)]; rfl
    rw [ez] at hy
    refine ⟨Str.ofString " ", D, fam.map fun b => tx (bagT b), rfl, rfl, .inl (SqL.of hy), ?_, ?_⟩
    · have h2 := sum_le (l := (fam.map fun b => tx (bagT b)).map (·.length)) (k := 180) (by
        intro x hx
        obtain ⟨f, hf, rfl⟩ := List.mem_map.mp hx
        obtain ⟨b, hb, rfl⟩ := List.mem_map.mp hf
        have gb := g.bag b hb
        have hbl := nodup_le gb.nd gb.lt
        have := bagT_len b
        rw [tx_len]; omega)
      simp only [List.length_map] at h2 ⊢
      have h3 : (Str.ofString " ").length = 1 := by decide
      rw [h3]; omega
    · have e : Str.ofString " " = tx [32] := by decide +kernel
      have e4 : (fam.map fun b => tx (bagT b)) = (fam.map bagT).map tx := by rw [List.map_map]; rfl
      rw [e, e4, join_tx]
      exact q1 V0 _ (e1.trans e2)
end
end Bg

set_option Elab.async false
set_option linter.all false
set_option maxRecDepth 100000
set_option maxHeartbeats 1000000
namespace Bg
open PySem PySem.Spec PyProof.Rows L2
open Evl (Ex)
local macro_rules | `(tactic| walk_at "peel") => `(tactic| dsimp only [tNext, tSeq, tRet, tAndV, tOrV, tNotV, tCB, tCons, tNil, tAsg, tIfS, tDrop, tOp, tTest, tB, tNot, tAnd, tOr, tUn, tIf, tThen, tM1])
section
variable {P : Program} {w : World} {K : PySem.W.Frag} {mg : Str → Option Value} {base : Heap}
/-! #### read -/
abbrev s_read : Stmt := top 23
abbrev N_read : List Str := ["text", "bags", "bag", "at", "end", "word", "sign"]
theorem sc_read : FnScope N_read ["text"] (defScope s_read) := ⟨rfl, rfl, rfl, by decide +kernel, rfl, by decide +kernel, by decide +kernel⟩
theorem cut_tx (T : List Nat) (a n : Nat) (h : a + n ≤ T.length) : cutS (tx T) (some (a : Int)) (some ((a + n : Nat) : Int)) = tx ((T.drop a).take n) := by
  unfold cutS
  have hl := tx_len T
  have h1 : HT.sIx (tx T).length 0 (some (a : Int)) = a := by rw [HT.sIx_nat, hl]; omega
  have h2 : HT.sIx (tx T).length (tx T).length (some ((a + n : Nat) : Int)) = a + n := by rw [HT.sIx_nat, hl]; omega
  rw [h1, h2, tx_list, show a + n - a = n by omega]; rfl
theorem cut_tx1 (T : List Nat) (a : Nat) (h : a ≤ T.length) : cutS (tx T) (some (a : Int)) (some ((a + 1 : Nat) : Int)) = tx ((T.drop a).take 1) := by
  unfold cutS
  have hl := tx_len T
  have h1 : HT.sIx (tx T).length 0 (some (a : Int)) = a := by rw [HT.sIx_nat, hl]; omega
  have h2 : HT.sIx (tx T).length (tx T).length (some ((a + 1 : Nat) : Int)) = min (a + 1) T.length := by rw [HT.sIx_nat, hl]
  rw [h1, h2, tx_list]
  by_cases c : a < T.length
  · rw [show min (a + 1) T.length - a = 1 by omega]; rfl
  · rw [List.drop_eq_nil_of_le (by omega)]; simp [tx]
theorem str_dec {l m : List Nat} {s : Str} (h : s = tx m) : decide (V.str (tx l) = V.str s) = decide (l = m) := by
  subst h
  exact decide_eq_decide.mpr ⟨fun z => tx_inj (V.str.inj z), fun z => by rw [z]⟩
def spRead (K : PySem.W.Frag) (CF CI CN : Addr) : Sp := fun vs H Q E => ∃ v, vs = [v] ∧
  ((∃ T, v = .str (tx T) ∧ T.length ≤ 100000 ∧ (∀ p, Reads1 ⟨[], [], 0, T⟩ (.bad p) → ∀ d H', Ex H H' → H' d = some (.xd [("place", .int (p : Nat))]) → E (.ref CI) (some d) H') ∧
    (∀ rows, Reads1 ⟨[], [], 0, T⟩ (.done rows) → rows.length ≤ 63 ∧ (rows.Pairwise (· < ·) → Valid rows → ∀ v H', Ex H H' → Dp K H' v (famD rows) → Q v H') ∧ (¬ (rows.Pairwise (· < ·) ∧ Valid rows) → ∀ H', Ex H H' → E (.ref CF) none H'))) ∨
   ∃ Ty, TyX K H v Ty ∧ PySem.W.kitOne K Ty (.type "str") = some false ∧ ∀ H', Ex H H' → E (.ref CN) none H')
structure Rw1 (K : PySem.W.Frag) (H0 H : Hp) (T : List Nat) (s : RS) (B G : Addr) : Prop where
  ex : Ex H0 H
  nB : H0 B = none
  nG : H0 G = none
  ne : B ≠ G
  bl : ∃ xs, H B = some (.lst xs) ∧ DpAll K H xs (s.bags.map bagD)
  gl : H G = some (.lst (natsV s.bag))
  at_ : s.at_ ≤ T.length
  rest : s.rest = T.drop s.at_
  good : ∀ b ∈ s.bags, GoodBag b
  up : s.bag.Pairwise (· < ·)
  lt : ∀ x ∈ s.bag, x < 60
  cnt : s.bags.length ≤ s.at_
  rd : ∀ o, Reads1 s o → Reads1 ⟨[], [], 0, T⟩ o
theorem Rw1.mono {K : PySem.W.Frag} {H0 H H' : Hp} {T : List Nat} {s : RS} {B G : Addr} (r : Rw1 K H0 H T s B G) (e : Ex H H') : Rw1 K H0 H' T s B G := by
  obtain ⟨xs, h1, h2⟩ := r.bl
  exact ⟨r.ex.trans e, r.nB, r.nG, r.ne, ⟨xs, e _ _ h1, dpa_ex e h2⟩, e _ _ r.gl, r.at_, r.rest, r.good, r.up, r.lt, r.cnt, r.rd⟩
theorem isTs_bags (f : List (List Nat)) : isTs (f.map bagD) = true := isT_fam f
theorem ok_read {CF CI CN : Addr} {tm tf : Tok} (F : Fu K mg "read" s_read ["text"]) (Z : Bz mg) (C_MOST_BEADS : mg "MOST_BEADS" = some (.int 60 tm)) (C_FIGURES : mg "FIGURES" = some (.str "0123456789" tf)) (X_NotText : Er K mg "NotText" CN) (X_InvalidText : Ei P w K mg base "InvalidText" CI) (G_whole_of : Cal P w K mg base (L2.CX P w) 4 "whole_of" ["bags"] (spWholeOf K CF)) :
    Cal P w K mg base (L2.CX P w) 5 "read" ["text"] (spRead K CF CI CN) := by
  refine F.okX sc_read (fun vs H Q E h => ?_) (fun f cdv A outer s H vs Q E hr h => ?_)
  · obtain ⟨v, rfl, _⟩ := h; rfl
  obtain ⟨v, rfl, h⟩ := h
  refine ⟨_, (pss_cons (ps_if (pt_not (pt_val (pe_callB (call_isiK2 (K := K)) (by rfl) Z.isinstance (by decide +kernel) (pa_cons (pv 0) (pa_cons (pe_bltn (v := .ty "str") (by rfl) Z.str boot_str rfl) pa_nil))))) (pss_one (ps_raise rfl (takes_of rfl rfl rfl rfl) (mk_own0 X_NotText rfl))) pss_nil)
    (pss_cons (ps_par3 (i := 1) (j := 2) (l := 3) (by rfl) sc_read.nd rfl rfl rfl (by decide) (by decide) (by decide) rfl rfl rfl (pa_cons (pe_lst pa_nil) (pa_cons (pe_lst pa_nil) (pa_cons pe_int pa_nil))) (by rfl))
    (pss_one (ps_while (passes_of rfl) (pt_val pe_bl) (pss_cons (ps_set (i := 4) sc_read.nd rfl (Or.inl rfl) (pv 3))
    (pss_cons (ps_while (passes_of rfl) (PW.pt (pw_and (pt_cmpR op_lt (pv 4) (pe_callB call_len_str (by rfl) Z.len PySem.boot_len (pa_cons (pv 0) pa_nil)) (nomark _)) (pw_and1 (pt_cmpR op_in_sign (pe_ix ix_str (pv 0) (pv 4) (fun _ _ => rfl)) (pe_glob (v := .str "0123456789") rfl C_FIGURES ⟨_, rfl⟩) (by rfl))))) (pss_one (ps_aug (i := 4) sc_read.nd rfl (Or.inl rfl) pe_int ip_add)))
    (pss_cons (ps_set (i := 5) sc_read.nd rfl (Or.inl rfl) (pe_slice sl_str (pv 0) (po_some (pv 3)) (po_some (pv 4))))
    (pss_cons (ps_if (pt_cmpR op_eq (pv 5) pe_str (nomark _)) (pss_one (ps_raise rfl (takes_of rfl rfl rfl rfl) (mk_inv X_InvalidText (hr.mono (by decide)) rfl (pe_op op_add (pv 3) pe_int)))) pss_nil)
    (pss_cons (ps_if (PW.pt (pw_or (PW.pt (pw_and (pt_cmpR op_gt (pe_callB call_len_str (by rfl) Z.len PySem.boot_len (pa_cons (pv 5) pa_nil)) pe_int (nomark _)) (pw_and1 (pt_cmpR op_eq (pe_ix ix_str (pv 5) pe_int (fun _ _ => rfl)) pe_str (nomark _))))) (pw_or (pt_cmpR op_gt (pe_callB call_len_str (by rfl) Z.len PySem.boot_len (pa_cons (pv 5) pa_nil)) pe_int (nomark _)) (pw_or1 (pt_cmpR op_ge (pe_callTy call_int_str (by rfl) Z.int (by decide +kernel) (pa_cons (pv 5) pa_nil)) (pe_glob (v := .int 60) rfl C_MOST_BEADS ⟨_, rfl⟩) (nomark _)))))) (pss_one (ps_raise rfl (takes_of rfl rfl rfl rfl) (mk_inv X_InvalidText (hr.mono (by decide)) rfl (pe_op op_add (pv 3) pe_int)))) pss_nil)
    (pss_cons (ps_if (PW.pt (pw_and (pt_cmpR (op_neDK (K := K) hr.units) (pv 2) (pe_lst pa_nil) (nomark _)) (pw_and1 (pt_cmpR op_le (pe_callTy call_int_str (by rfl) Z.int (by decide +kernel) (pa_cons (pv 5) pa_nil)) (pe_ix (ix_listK (K := K)) (pv 2) (pe_un un_neg pe_int) (fun _ _ => rfl)) (nomark _))))) (pss_one (ps_raise rfl (takes_of rfl rfl rfl rfl) (mk_inv X_InvalidText (hr.mono (by decide)) rfl (pe_op op_add (pv 3) pe_int)))) pss_nil)
    (pss_cons (ps_expr (pe_bm PySem.F.plainAttrs_list PySem.F.slot_list_append PySem.F.type_list_append mt_append (pv 2) (pa_cons (pe_callTy call_int_str (by rfl) Z.int (by decide +kernel) (pa_cons (pv 5) pa_nil)) pa_nil)))
    (pss_cons (ps_set (i := 6) sc_read.nd rfl (Or.inl rfl) (pe_slice sl_str (pv 0) (po_some (pv 4)) (po_some (pe_op op_add (pv 4) pe_int))))
    (pss_one (ps_if (pt_cmpR op_eq (pv 6) pe_str (nomark _)) (pss_one (ps_set (i := 3) sc_read.nd rfl (Or.inl rfl) (pe_op op_add (pv 4) pe_int))) (pss_one (ps_if (PW.pt (pw_and (pt_cmpR op_eq (pv 6) pe_str (nomark _)) (pw_and1 (pt_cmpR op_gt (pe_callB (call_len_seqK (K := K)) (by rfl) Z.len PySem.boot_len (pa_cons (pv 2) pa_nil)) pe_int (nomark _))))) (pss_one (ps_par3 (i := 1) (j := 2) (l := 3) (by rfl) sc_read.nd rfl rfl rfl (by decide) (by decide) (by decide) rfl rfl rfl (pa_cons (pe_lst (StX.pa_star (pv 1) (pa_cons (pe_tupleB (K := K) rfl Z.tuple (pv 2)) pa_nil))) (pa_cons (pe_lst pa_nil) (pa_cons (pe_op op_add (pv 4) pe_int) pa_nil))) (by rfl))) (pss_one (ps_if (PW.pt (pw_and (pt_cmpR op_eq (pv 6) pe_str (nomark _)) (pw_and1 (pt_cmpR op_gt (pe_callB (call_len_seqK (K := K)) (by rfl) Z.len PySem.boot_len (pa_cons (pv 2) pa_nil)) pe_int (nomark _))))) (pss_one (ps_ret (pe_calC G_whole_of (hr.mono (by decide)) rfl (passes_call (takes_of rfl rfl rfl rfl) (fun _ _ _ _ h => h)) (pa_cons (pe_lst (StX.pa_star (pv 1) (pa_cons (pe_tupleB (K := K) rfl Z.tuple (pv 2)) pa_nil))) pa_nil)))) (pss_one (ps_raise rfl (takes_of rfl rfl rfl rfl) (mk_inv X_InvalidText (hr.mono (by decide)) rfl (pe_op op_add (pv 4) pe_int)))))))))))))))))))))), ?_⟩
  rcases h with ⟨T, rfl, hT, qb, qd⟩ | ⟨Ty, hty, hk, q⟩
  case inr =>
    exact ⟨v, rfl, v, _, _, _, _, rfl, .ty _, hty, hk, _, rfl, iteT (q H (Ex.refl H))⟩
  refine ⟨.str (tx T), rfl, _, _, _, _, _, rfl, .ty _, .base (.str _), kit_dStr K (.str (tx T)) (fun _ z => nomatch z), _, rfl, iteF ?_⟩
  refine ⟨(by show 0 ≤ sizeLine; decide), fun B hB => ⟨(by show 0 ≤ sizeLine; decide), fun G hG => ⟨_, _, _, rfl, ?_⟩⟩⟩
  have hBG : B ≠ G := fun z => by rw [← z, upd_same] at hG; cases hG
  have hG0 : H G = none := by rw [upd_ne hBG.symm] at hG; exact hG
  have e0 : Ex H (upd (upd H B (.lst [])) G (.lst [])) := (Ex.new hB).trans (Ex.new hG)
  have R0 : Rw1 K H (upd (upd H B (.lst [])) G (.lst [])) T ⟨[], [], 0, T⟩ B G :=
    ⟨e0, hB, hG0, hBG, ⟨[], by rw [upd_ne hBG, upd_same], .nil⟩, upd_same, Nat.zero_le _, rfl, fun _ h => (nomatch h), .nil, fun _ h => (nomatch h), Nat.le_refl _, fun _ h => h⟩
  let W : Nat → L2.St → Hp → Prop := fun m σ H' => ∃ (s : RS) (B G : Addr), σ[0]? = some (some (.str (tx T))) ∧ σ[1]? = some (some (.ref B)) ∧ σ[2]? = some (some (.ref G)) ∧ σ[3]? = some (some (.int (s.at_ : Nat))) ∧ σ.length = 7 ∧ Rw1 K H H' T s B G ∧ m = s.rest.length
  refine ⟨W, ⟨_, ⟨[], [], 0, T⟩, B, G, rfl, rfl, rfl, rfl, rfl, R0, rfl⟩, ?_⟩
  clear R0 e0 hG0 hBG hG hB G B
  rintro m σ H' ⟨st, B, G, t0, t1, t2, t3, tl, R, rfl⟩
  have hrl : st.rest.length = T.length - st.at_ := by rw [R.rest, List.length_drop]
  have hat := R.at_
  have hwl : st.w.length ≤ st.rest.length := tw_le _
  refine ⟨_, rfl, iteT ⟨fun σ' H' => ∃ m', m' < st.rest.length ∧ W m' σ' H', fun _ _ h => h, ?_⟩⟩
  refine ⟨.int (st.at_ : Nat), t3, ?_⟩
  have sz : (tx T).length ≤ sizeLine := by rw [tx_len]; exact Nat.le_of_lt (Nat.lt_of_le_of_lt hT (by decide))
  refine ⟨fun m σ2 H2 => ∃ k : Nat, σ2[0]? = some (some (.str (tx T))) ∧ σ2[1]? = some (some (.ref B)) ∧ σ2[2]? = some (some (.ref G)) ∧ σ2[3]? = some (some (.int (st.at_ : Nat))) ∧ σ2[4]? = some (some (.int ((st.at_ + k : Nat) : Int))) ∧ σ2.length = 7 ∧ Ex H' H2 ∧ k ≤ st.w.length ∧ m = st.w.length - k,
    ⟨_, 0, gs_ne (by decide) t0, gs_ne (by decide) t1, gs_ne (by decide) t2, gs_ne (by decide) t3, gs_eq (by omega), by rw [List.length_set]; exact tl, Ex.refl _, Nat.zero_le _, rfl⟩, ?_⟩
  rintro m2 σ2 H2 ⟨k, u0, u1, u2, u3, u4, ul, eH, hk, rfl⟩
  replace R := R.mono eH
  have hin : TB (tAnd (tTest (tOp (rI0 fun i j => V.bl (decide (i < j))) (tVar 4) (tCB (fun xs H Q => ∃ z, xs = [V.str z] ∧ z.length ≤ sizeLine ∧ Q (V.int z.length) H) (tCons (tVar 0) tNil))))
      (tTest (tOp (fun x y H Q => ∃ (c : Nat) (z : Str), x = V.str { cps := #[c] } ∧ y = V.str z ∧ Q (V.bl (decide (c ∈ z.cps.toList))) H) (tOp rIxS (tVar 0) (tVar 4)) (tC (V.str "0123456789"))))) σ2 H2 (decide (k < st.w.length)) := by
    have a1 : TB (tTest (tOp (rI0 fun i j => V.bl (decide (i < j))) (tVar 4) (tCB (fun xs H Q => ∃ z, xs = [V.str z] ∧ z.length ≤ sizeLine ∧ Q (V.int z.length) H) (tCons (tVar 0) tNil)))) σ2 H2 (decide (((st.at_ + k : Nat) : Int) < (((tx T).length : Nat) : Int))) :=
      fun H1 e1 Q' q' => ⟨_, u4, .str (tx T), u0, tx T, rfl, sz, _, _, rfl, rfl, _, rfl, q' H1 (Ex.refl _)⟩
    by_cases hlt : st.at_ + k < T.length
    · have hkr : k < st.rest.length := by omega
      have a2 : TB (tTest (tOp (fun x y H Q => ∃ (c : Nat) (z : Str), x = V.str { cps := #[c] } ∧ y = V.str z ∧ Q (V.bl (decide (c ∈ z.cps.toList))) H) (tOp rIxS (tVar 0) (tVar 4)) (tC (V.str "0123456789")))) σ2 H2 (decide (k < st.w.length)) := fun H1 e1 Q' q' => by
        refine ⟨.str (tx T), u0, _, u4, tx T, _, T[st.at_ + k], rfl, rfl, sz, by rw [tx_list]; exact atI_nat (List.getElem?_eq_getElem hlt), T[st.at_ + k], _, rfl, rfl, _, rfl, ?_⟩
        rw [isFig_in]
        have h1 := tw_at st.rest k hk hkr
        have h2 : st.rest[k] = T[st.at_ + k] := by
          have : st.rest[k]? = T[st.at_ + k]? := by rw [R.rest, List.getElem?_drop]
          rw [List.getElem?_eq_getElem hkr, List.getElem?_eq_getElem hlt] at this
          exact Option.some.inj this
        rw [h2] at h1
        have h3 : isFig T[st.at_ + k] = decide (k < st.w.length) := by rw [Bool.eq_iff_iff, decide_eq_true_iff]; exact h1
        rw [h3]
        exact q' H1 (Ex.refl _)
      refine (tb_and a1 fun _ => a2).cast ?_
      rw [decide_eq_true (by rw [tx_len]; omega), Bool.true_and]
    · refine (tb_and (d := true) a1 fun h => ?_).cast ?_
      · have := of_decide_eq_true h
        rw [tx_len] at this; omega
      · rw [decide_eq_false (by rw [tx_len]; omega), decide_eq_false (by omega)]; rfl
  refine hin H2 (Ex.refl _) _ fun H3 e3 => ite2 (fun c => ?_) (fun c => ?_)
  · have c' := of_decide_eq_true c
    refine ⟨_, fun _ _ h => h, _, u4, _, 1, rfl, rfl, st.w.length - (k + 1), by omega, k + 1, gs_ne (by decide) u0, gs_ne (by decide) u1, gs_ne (by decide) u2, gs_ne (by decide) u3, ?_, by rw [List.length_set]; exact ul, eH.trans e3, by omega, rfl⟩
    rw [gs_eq (by omega)]
    show some (some (V.int (((st.at_ + k : Nat) : Int) + 1))) = _
    rw [show ((st.at_ + k : Nat) : Int) + 1 = ((st.at_ + (k + 1) : Nat) : Int) by omega]
  · have ek : k = st.w.length := by have := of_decide_eq_false (Bool.eq_false_iff.mpr c); omega
    have R3 := R.mono e3
    have hsum : st.at_ + st.w.length ≤ T.length := by omega
    have ew : (T.drop st.at_).take st.w.length = st.w := by rw [← R.rest]; exact tw_take _
    have er : T.drop (st.at_ + st.w.length) = st.r := by rw [← List.drop_drop, ← R.rest]; exact tw_drop _
    subst ek
    refine ⟨.str (tx T), u0, _, u3, _, rfl, _, u4, _, rfl, tx T, rfl, sz, ?_⟩
    rw [cut_tx T _ _ hsum, ew]
    have v0 : (σ2.set 5 (some (V.str (tx st.w))))[0]? = some (some (.str (tx T))) := gs_ne (by decide) u0
    have v1 : (σ2.set 5 (some (V.str (tx st.w))))[1]? = some (some (.ref B)) := gs_ne (by decide) u1
    have v2 : (σ2.set 5 (some (V.str (tx st.w))))[2]? = some (some (.ref G)) := gs_ne (by decide) u2
    have v3 : (σ2.set 5 (some (V.str (tx st.w))))[3]? = some (some (.int (st.at_ : Nat))) := gs_ne (by decide) u3
    have v4 : (σ2.set 5 (some (V.str (tx st.w))))[4]? = some (some (.int ((st.at_ + st.w.length : Nat) : Int))) := gs_ne (by decide) u4
    have v5 : (σ2.set 5 (some (V.str (tx st.w))))[5]? = some (some (.str (tx st.w))) := gs_eq (by omega)
    have vl : (σ2.set 5 (some (V.str (tx st.w)))).length = 7 := by rw [List.length_set]; exact ul
    show tSeq _ _ _ (σ2.set 5 (some (V.str (tx st.w)))) H3
    generalize σ2.set 5 (some (V.str (tx st.w))) = σ3 at v0 v1 v2 v3 v4 v5 vl
    have e1 : ((st.at_ : Nat) : Int) + 1 = ((st.at_ + 1 : Nat) : Int) := by omega
    have e2 : ((st.at_ + st.w.length : Nat) : Int) + 1 = ((st.at_ + st.w.length + 1 : Nat) : Int) := by omega
    have bad1 : Turn1 st (.inl (.bad (st.at_ + 1))) → ∀ H4, Ex H H4 → ∀ d, H4 d = none → E (.ref CI) (some d) (upd H4 d (.xd [("place", .int (((st.at_ : Nat) : Int) + 1))])) := fun tn H4 e4 d hd => by
      rw [e1]
      exact qb _ (R3.rd _ (.stop tn)) d _ (e4.trans (Ex.new hd)) upd_same
    have bad2 : Turn1 st (.inl (.bad (st.at_ + st.w.length + 1))) → ∀ H4, Ex H H4 → ∀ d, H4 d = none → E (.ref CI) (some d) (upd H4 d (.xd [("place", .int (((st.at_ + st.w.length : Nat) : Int) + 1))])) := fun tn H4 e4 d hd => by
      rw [e2]
      exact qb _ (R3.rd _ (.stop tn)) d _ (e4.trans (Ex.new hd)) upd_same
    refine ⟨_, v5, rfl, _, rfl, ?_⟩
    rw [str_dec (show Str.ofString "" = tx [] by decide +kernel)]
    refine ite2 (fun c1 => ?_) (fun c1 => ?_)
    · exact ⟨_, v3, _, 1, rfl, rfl, inv_ok (bad1 (.none (of_decide_eq_true c1)) _ R3.ex)⟩
    have hw0 : st.w ≠ [] := of_decide_eq_false (Bool.eq_false_iff.mpr c1)
    have hfig : ∀ c ∈ st.w, isFig c = true := tw_all _
    have hwl2 : st.w.length ≤ 100000 := by omega
    have szw : (tx st.w).length ≤ sizeLine := by rw [tx_len]; exact Nat.le_of_lt (Nat.lt_of_le_of_lt hwl2 (by decide))
    obtain ⟨w0, wr, ewr⟩ : ∃ w0 wr, st.w = w0 :: wr := by
      cases h : st.w with
      | nil => exact absurd h hw0
      | cons a r => exact ⟨a, r, rfl⟩
    dsimp only [tNext, tSeq]
    refine tb_ifs (c := (decide ((1 : Int) < (((tx st.w).length : Nat) : Int)) && decide ([w0] = [48])) || (decide ((2 : Int) < (((tx st.w).length : Nat) : Int)) || decide ((60 : Int) ≤ ((valW st.w : Nat) : Int)))) ?_ (fun c2 H4 e4 => ?_) (fun c2 H4 e4 => ?_)
    · refine tb_or (tb_and (fun H1 e1 Q' q' => ⟨_, v5, tx st.w, rfl, szw, _, _, rfl, rfl, _, rfl, q' H1 (Ex.refl _)⟩) fun _ H1 e1 Q' q' => ?_) fun _ => tb_or (fun H1 e1 Q' q' => ⟨_, v5, tx st.w, rfl, szw, _, _, rfl, rfl, _, rfl, q' H1 (Ex.refl _)⟩) fun c3 H1 e1 Q' q' => ?_
      · refine ⟨_, v5, tx st.w, 0, w0, rfl, rfl, szw, ?_, rfl, _, rfl, ?_⟩
        · rw [tx_list, ewr]; exact atI_nat (j := 0) rfl
        · have := str_dec (l := [w0]) (show Str.ofString "0" = tx [48] by decide +kernel)
          rw [← this] at q'
          exact q' H1 (Ex.refl _)
      · have c3' := of_decide_eq_false c3
        rw [tx_len] at c3'
        exact ⟨_, v5, tx st.w, _, rfl, int_word hfig hw0 (by omega), by rw [tx_len]; omega, _, 60, rfl, rfl, _, rfl, q' H1 (Ex.refl _)⟩
    · refine ⟨_, v3, _, 1, rfl, rfl, inv_ok (bad1 (.word hw0 ?_) _ (R3.ex.trans e4))⟩
      simp only [Bool.or_eq_true, Bool.and_eq_true, decide_eq_true_eq, tx_len] at c2
      rcases c2 with ⟨h1, h2⟩ | h1 | h1
      · exact .inl ⟨by omega, by rw [ewr]; have := (List.cons.inj h2).1; rw [this]; rfl⟩
      · exact .inr (.inl (by omega))
      · exact .inr (.inr (by omega))
    have hC2 : ¬ st.C2 := by
      intro z
      simp only [Bool.or_eq_false_iff, Bool.and_eq_false_iff, decide_eq_false_iff_not, tx_len] at c2
      rcases z with ⟨h1, h2⟩ | h1 | h1
      · rw [ewr] at h2
        have h3 : w0 = 48 := Option.some.inj h2
        rcases c2.1 with h | h
        · exact h (by omega)
        · exact h (by rw [h3])
      · exact c2.2.1 (by omega)
      · exact c2.2.2 (by omega)
    have hw2 : st.w.length ≤ 2 := by
      rcases Nat.lt_or_ge 2 st.w.length with h | h
      · exact absurd (.inr (.inl h)) hC2
      · exact h
    have hv60 : valW st.w < 60 := by
      rcases Nat.lt_or_ge (valW st.w) 60 with h | h
      · exact h
      · exact absurd (.inr (.inr h)) hC2
    have R4 := R3.mono e4
    have hbl : st.bag.length ≤ 60 := nodup_le (R.up.imp fun h => Nat.ne_of_lt h) R.lt
    have hiw : ∀ {H1 : Hp} {Q' : VK}, Q' (.int (valW st.w : Nat)) H1 → ∃ a n, [V.str (tx st.w)] = [V.str a] ∧ intText? a = some n ∧ a.length ≤ 640 ∧ Q' (.int n) H1 := fun q' => ⟨tx st.w, _, rfl, int_word hfig hw0 hw2, by rw [tx_len]; omega, q'⟩
    dsimp only [tNext, tSeq]
    refine tb_ifs (c := (!st.bag.isEmpty) && decide (((valW st.w : Nat) : Int) ≤ ((lastN st.bag : Nat) : Int))) ?_ (fun c3 H5 e5 => ?_) (fun c3 H5 e5 => ?_)
    · refine tb_and (fun H1 e1 Q' q' => ⟨_, v2, (by show 0 ≤ sizeLine; decide), fun p hp => ⟨.list (natsD st.bag), .list [], .lst (SqL.of ((Ex.new hp) _ _ (e1 _ _ R4.gl))) (dpa_nats _), .lst (SqL.of upd_same) .nil, shaped_nats _, rfl, _, rfl, ?_⟩⟩) fun hb H1 e1 Q' q' => ?_
      · rw [eqv_nil]; exact q' _ (Ex.new hp)
      · have hb' : st.bag ≠ [] := fun z => by rw [z] at hb; cases hb
        exact ⟨_, v5, tx st.w, _, rfl, int_word hfig hw0 hw2, (by rw [tx_len]; omega), _, v2, 1, rfl, G, _, _, _, rfl, rfl, SqL.of (e1 _ _ R4.gl), atI_lastN hb', _, _, rfl, rfl, _, rfl, q' H1 (Ex.refl _)⟩
    · refine ⟨_, v3, _, 1, rfl, rfl, inv_ok (bad1 (.low hw0 hC2 ?_) _ (R4.ex.trans e5))⟩
      rw [Bool.and_eq_true] at c3
      have h1 : st.bag ≠ [] := fun z => by rw [z] at c3; exact absurd c3.1 (by decide)
      have h2 := of_decide_eq_true c3.2
      exact ⟨h1, by omega⟩
    have hC3 : ¬ st.C3 := by
      rintro ⟨h1, h2⟩
      have : (!st.bag.isEmpty) = true := by cases h : st.bag <;> simp_all
      rw [this, Bool.true_and] at c3
      exact of_decide_eq_false c3 (by omega)
    have R5 := R4.mono e5
    have hup : st.bag'.Pairwise (· < ·) := by
      refine List.pairwise_append.mpr ⟨R.up, by simp, fun x hx y hy => ?_⟩
      rw [List.mem_singleton.mp hy]
      have h1 : st.bag ≠ [] := List.ne_nil_of_mem hx
      have h2 := le_last R.up x hx
      have h3 : ¬ valW st.w ≤ lastN st.bag := fun z => hC3 ⟨h1, z⟩
      omega
    have hlt : ∀ x ∈ st.bag', x < 60 := fun x hx => by
      rcases List.mem_append.mp hx with h | h
      · exact R.lt x h
      · rw [List.mem_singleton.mp h]; exact hv60
    have hbl' : st.bag'.length ≤ 60 := nodup_le (hup.imp fun h => Nat.ne_of_lt h) hlt
    refine ⟨_, v2, tyL R5.gl, _, v5, tx st.w, _, rfl, int_word hfig hw0 hw2, (by rw [tx_len]; omega), G, natsV st.bag, _, rfl, rfl, R5.gl, (by rw [natsV_len]; exact Evl.sz_lt (by omega)), ?_⟩
    have hG6 : upd H5 G (.lst (natsV st.bag ++ [V.int (valW st.w : Nat)])) G = some (.lst (natsV st.bag')) := by
      rw [upd_same]; unfold RS.bag' natsV; rw [List.map_append]; rfl
    obtain ⟨xs, hB5, hx5⟩ := R5.bl
    have hB6 : upd H5 G (.lst (natsV st.bag ++ [V.int (valW st.w : Nat)])) B = some (.lst xs) := by rw [upd_ne R.ne]; exact hB5
    have hx6 : DpAll K (upd H5 G (.lst (natsV st.bag ++ [V.int (valW st.w : Nat)]))) xs (st.bags.map bagD) := dp_kt.all (Kt.lst R5.gl) (isTs_bags _) hx5
    have e6 : Ex H (upd H5 G (.lst (natsV st.bag ++ [V.int (valW st.w : Nat)]))) := Ex.mut R5.ex R.nG
    have hend : st.at_ + st.w.length ≤ T.length := hsum
    refine ⟨_, v0, _, v4, _, rfl, _, v4, _, 1, rfl, rfl, _, rfl, tx T, rfl, sz, ?_⟩
    generalize upd H5 G (.lst (natsV st.bag ++ [V.int (valW st.w : Nat)])) = H6 at hG6 hB6 hx6 e6
    show gName 6 (.str (cutS (tx T) (some (((st.at_ + st.w.length : Nat) : Int))) (some (((st.at_ + st.w.length : Nat) : Int) + 1)))) σ3 H6 _
    rw [e2, cut_tx1 T _ hend, er]
    have y0 : (σ3.set 6 (some (V.str (tx (st.r.take 1)))))[0]? = some (some (.str (tx T))) := gs_ne (by decide) v0
    have y1 : (σ3.set 6 (some (V.str (tx (st.r.take 1)))))[1]? = some (some (.ref B)) := gs_ne (by decide) v1
    have y2 : (σ3.set 6 (some (V.str (tx (st.r.take 1)))))[2]? = some (some (.ref G)) := gs_ne (by decide) v2
    have y4 : (σ3.set 6 (some (V.str (tx (st.r.take 1)))))[4]? = some (some (.int ((st.at_ + st.w.length : Nat) : Int))) := gs_ne (by decide) v4
    have y6 : (σ3.set 6 (some (V.str (tx (st.r.take 1)))))[6]? = some (some (.str (tx (st.r.take 1)))) := gs_eq (by omega)
    have yl : (σ3.set 6 (some (V.str (tx (st.r.take 1))))).length = 7 := by rw [List.length_set]; exact vl
    dsimp only [gName]
    generalize σ3.set 6 (some (V.str (tx (st.r.take 1)))) = σ4 at y0 y1 y2 y4 y6 yl
    have hxl := dpa_len hx6
    rw [List.length_map] at hxl
    have hdrop : ∀ c r', st.r = c :: r' → r' = T.drop (st.at_ + st.w.length + 1) ∧ st.at_ + st.w.length + 1 ≤ T.length ∧ r'.length < st.rest.length := fun c r' h => by
      have h1 : T.drop (st.at_ + st.w.length) = c :: r' := er.trans h
      have h2 := congrArg List.length h1
      rw [List.length_drop, List.length_cons] at h2
      refine ⟨?_, by omega, by omega⟩
      rw [← List.drop_drop, h1]; rfl
    refine tb_ifs (c := decide (st.r.take 1 = [46])) (fun H1 e1 Q' q' => ⟨_, y6, rfl, _, rfl, ?_⟩) (fun c4 H7 e7 => ?_) (fun c4 H7 e7 => ?_)
    · rw [str_dec (show Str.ofString "." = tx [46] by decide +kernel)]; exact q' H1 (Ex.refl _)
    · obtain ⟨r', hr'⟩ : ∃ r', st.r = 46 :: r' := by
        have h := of_decide_eq_true c4
        cases h2 : st.r with
        | nil => rw [h2] at h; cases h
        | cons c r' => rw [h2] at h; simp at h; exact ⟨r', by rw [h]⟩
      obtain ⟨d1, d2, d3⟩ := hdrop _ _ hr'
      refine ⟨_, y4, _, 1, rfl, rfl, r'.length, d3, ⟨st.bags, st.bag', st.at_ + st.w.length + 1, r'⟩, B, G, gs_ne (by decide) y0, gs_ne (by decide) y1, gs_ne (by decide) y2, ?_, by rw [List.length_set]; exact yl, ?_, rfl⟩
      · rw [gs_eq (by omega)]
        show some (some (V.int (((st.at_ + st.w.length : Nat) : Int) + 1))) = _
        rw [e2]
      · exact ⟨e6.trans e7, R.nB, R.nG, R.ne, ⟨xs, e7 _ _ hB6, dpa_ex e7 hx6⟩, e7 _ _ hG6, d2, d1, R.good, hup, hlt, (by have := R.cnt; show st.bags.length ≤ st.at_ + st.w.length + 1; omega), fun o h => R.rd o (.go (.dot hw0 hC2 hC3 hr') h)⟩
    have hlen2 : ∀ {H1 : Hp} {Q' : Bool → Hp → Prop}, Ex H6 H1 → Q' (decide ((1 : Int) < ((st.bag'.length : Nat) : Int))) H1 → tTest (tOp (rI0 fun i j => V.bl (decide (j < i))) (tCB (rLenSq K) (tCons (tVar 2) tNil)) (tC (V.int 1))) σ4 H1 Q' := fun e1 q' =>
      ⟨_, y2, G, natsV st.bag', rfl, .inl (SqL.of (e1 _ _ hG6)), _, _, rfl, rfl, _, rfl, by rw [natsV_len]; exact q'⟩
    have hstar : ∀ {H1 : Hp} {Q' : List V → Hp → Prop}, Ex H6 H1 → (∀ q H2, Ex H1 H2 → SqT K H2 q (natsV st.bag') → Q' (xs ++ [.ref q]) H2) → StX.tStar K (tVar 1) (tCons (tThen (tVar 2) (kTupB K)) tNil) σ4 H1 Q' := fun e1 q' =>
      ⟨_, y1, B, xs, rfl, .inr (SqL.of (e1 _ _ hB6)), _, y2, G, natsV st.bag', rfl, .inl (SqL.of (e1 _ _ hG6)), fun q H2 e2 hq => q' q H2 e2 hq⟩
    refine tb_ifs (c := decide (st.r.take 1 = [32]) && decide ((1 : Int) < ((st.bag'.length : Nat) : Int))) (tb_and (fun H1 e1 Q' q' => ⟨_, y6, rfl, _, rfl, ?_⟩) fun _ H1 e1 Q' q' => hlen2 (e7.trans e1) (q' H1 (Ex.refl _))) (fun c5 H8 e8 => ?_) (fun c5 H8 e8 => ?_)
    · rw [str_dec (show Str.ofString " " = tx [32] by decide +kernel)]; exact q' H1 (Ex.refl _)
    · rw [Bool.and_eq_true] at c5
      obtain ⟨r', hr'⟩ : ∃ r', st.r = 32 :: r' := by
        have h := of_decide_eq_true c5.1
        cases h2 : st.r with
        | nil => rw [h2] at h; cases h
        | cons c r' => rw [h2] at h; simp at h; exact ⟨r', by rw [h]⟩
      have h1b : 1 < st.bag'.length := by have := of_decide_eq_true c5.2; omega
      obtain ⟨d1, d2, d3⟩ := hdrop _ _ hr'
      have e78 := e7.trans e8
      dsimp only [tPar3, tCons, tLst]
      refine hstar e78 fun q H9 e9 hq => ⟨?_, fun B2 hB2 => ⟨(by show 0 ≤ sizeLine; decide), fun G2 hG2 => ⟨_, y4, _, 1, rfl, rfl, _, _, _, rfl, ?_⟩⟩⟩
      · have := R.cnt
        rw [List.length_append, List.length_singleton]
        exact Nat.le_of_lt (Nat.lt_of_le_of_lt (show xs.length + 1 ≤ 100001 by omega) (by decide))
      have hne : B2 ≠ G2 := fun z => by rw [← z, upd_same] at hG2; cases hG2
      have e10 : Ex H9 (upd (upd H9 B2 (.lst (xs ++ [.ref q]))) G2 (.lst [])) := (Ex.new hB2).trans (Ex.new hG2)
      have eall := e6.trans (e78.trans (e9.trans e10))
      refine ⟨r'.length, d3, ⟨st.bags ++ [st.bag'], [], st.at_ + st.w.length + 1, r'⟩, B2, G2, gs_ne (by decide) (gs_ne (by decide) (gs_ne (by decide) y0)), gs_ne (by decide) (gs_ne (by decide) (gs_eq (by omega))), gs_ne (by decide) (gs_eq (by rw [List.length_set]; omega)), ?_, by rw [List.length_set, List.length_set, List.length_set]; exact yl, ?_, rfl⟩
      · rw [gs_eq (by rw [List.length_set, List.length_set]; omega)]
        show some (some (V.int (((st.at_ + st.w.length : Nat) : Int) + 1))) = _
        rw [e2]
      · refine ⟨eall, Evl.fresh_back (e6.trans (e78.trans e9)) hB2, Evl.fresh_back (e6.trans (e78.trans e9)) (by rw [upd_ne hne.symm] at hG2; exact hG2), hne, ⟨xs ++ [.ref q], by rw [upd_ne hne, upd_same], ?_⟩, upd_same, d2, d1, fun b hb => ?_, .nil, fun _ h => (nomatch h), (by have := R.cnt; show (st.bags ++ [st.bag']).length ≤ st.at_ + st.w.length + 1; rw [List.length_append, List.length_singleton]; omega), fun o h => R.rd o (.go (.gap hw0 hC2 hC3 hr' h1b) h)⟩
        · rw [List.map_append]
          exact dpa_append (dpa_ex (e78.trans (e9.trans e10)) hx6) (.cons (dp_ex e10 (bag_dp hq)) .nil)
        · rcases List.mem_append.mp hb with h | h
          · exact R.good b h
          · rw [List.mem_singleton.mp h]; exact ⟨h1b, hup, hlt⟩
    have e78 := e7.trans e8
    refine tb_ifs (c := decide (st.r.take 1 = []) && decide ((1 : Int) < ((st.bag'.length : Nat) : Int))) (tb_and (fun H1 e1 Q' q' => ⟨_, y6, rfl, _, rfl, ?_⟩) fun _ H1 e1 Q' q' => hlen2 (e78.trans e1) (q' H1 (Ex.refl _))) (fun c6 H9 e9 => ?_) (fun c6 H9 e9 => ?_)
    · rw [str_dec (show Str.ofString "" = tx [] by decide +kernel)]; exact q' H1 (Ex.refl _)
    · rw [Bool.and_eq_true] at c6
      have hr' : st.r = [] := by
        have h := of_decide_eq_true c6.1
        cases h2 : st.r with
        | nil => rfl
        | cons c r' => rw [h2] at h; cases h
      have h1b : 1 < st.bag'.length := by have := of_decide_eq_true c6.2; omega
      have hgood : ∀ b ∈ st.bags ++ [st.bag'], GoodBag b := fun b hb => by
        rcases List.mem_append.mp hb with h | h
        · exact R.good b h
        · rw [List.mem_singleton.mp h]; exact ⟨h1b, hup, hlt⟩
      obtain ⟨q1, q2, q3⟩ := qd _ (R.rd _ (.stop (.fin hw0 hC2 hC3 hr' h1b)))
      have e69 := e78.trans e9
      dsimp only [tRet, tCall, tCons, tLst]
      refine hstar e69 fun q H10 e10 hq => ⟨?_, fun B2 hB2 => ⟨B2, st.bags ++ [st.bag'], rfl, .lst (SqL.of upd_same) ?_, hgood, by simp, q1, fun pw V0 v H11 e11 hd => ?_, fun nv H11 e11 => ?_⟩⟩
      · have := R.cnt
        rw [List.length_append, List.length_singleton]
        exact Nat.le_of_lt (Nat.lt_of_le_of_lt (show xs.length + 1 ≤ 100001 by omega) (by decide))
      · rw [List.map_append]
        exact dpa_append (dpa_ex (e69.trans (e10.trans (Ex.new hB2))) hx6) (.cons (dp_ex (Ex.new hB2) (bag_dp hq)) .nil)
      · exact q2 pw V0 v H11 ((e6.trans (e69.trans (e10.trans (Ex.new hB2)))).trans e11) hd
      · exact q3 nv H11 ((e6.trans (e69.trans (e10.trans (Ex.new hB2)))).trans e11)
    · refine ⟨_, y4, _, 1, rfl, rfl, inv_ok (bad2 (.odd hw0 hC2 hC3 ?_ ?_ ?_) _ (e6.trans (e78.trans e9)))⟩
      · intro z
        have h := of_decide_eq_false c4
        cases h2 : st.r with
        | nil => rw [h2] at z; cases z
        | cons c r' => rw [h2] at z h; simp at z h; exact h z
      · rintro ⟨z, h1⟩
        rw [decide_eq_true (show (1 : Int) < ((st.bag'.length : Nat) : Int) by omega), Bool.and_true] at c5
        have h := of_decide_eq_false c5
        cases h2 : st.r with
        | nil => rw [h2] at z; cases z
        | cons c r' => rw [h2] at z h; simp at z h; exact h z
      · rintro ⟨z, h1⟩
        rw [decide_eq_true (show (1 : Int) < ((st.bag'.length : Nat) : Int) by omega), Bool.and_true] at c6
        have h := of_decide_eq_false c6
        exact h (by rw [z]; rfl)
end
end Bg

set_option Elab.async false
set_option linter.all false
set_option maxRecDepth 100000
set_option maxHeartbeats 1000000
namespace Bg
open PySem PySem.Spec PyProof.Rows L2
open Evl (Ex)
local macro_rules | `(tactic| walk_at "peel") => `(tactic| dsimp only [tNext, tSeq, tRet, tAndV, tOrV, tNotV, tCB, tCons, tNil, tAsg, tIfS, tDrop, tOp, tTest, tB, tNot, tAnd, tOr, tUn, tIf, tThen, tM1])
section
variable {P : Program} {w : World} {K : PySem.W.Frag} {mg : Str → Option Value} {base : Heap}
/-! #### _law_taken -/
abbrev s__law_taken : Stmt := top 27
abbrev N__law_taken : List Str := ["_law_row", "_law_many", "_law_found", "_law_cell"]
theorem sc__law_taken : FnScope N__law_taken ["_law_row", "_law_many"] (defScope s__law_taken) := ⟨rfl, rfl, rfl, by decide +kernel, rfl, by decide +kernel, by decide +kernel⟩
def spTaken (K : PySem.W.Frag) : Sp := fun vs H Q _ => ∃ (R S : Addr) (m : Nat) (sc : List Int), vs = [.ref R, .int (m : Nat)] ∧ Row K H R S sc ∧ 0 < m ∧ m < 1073741824 ∧ ∀ n H', n < m → Kr R H H' → Row K H' R S sc → Q (.int (n : Nat)) H'
theorem ok__law_taken (F : Fu K mg "_law_taken" s__law_taken ["_law_row", "_law_many"]) (Z : Bz mg) : Cal P w K mg base CX0 1 "_law_taken" ["_law_row", "_law_many"] (spTaken K) := by
  refine F.ok sc__law_taken (fun vs H Q E h => ?_) (fun f cdv A outer s H vs Q E hr h => ?_)
  · obtain ⟨R, S, m, sc, rfl, _⟩ := h; rfl
  obtain ⟨R, S, m, sc, rfl, rw_, m0, m1, q⟩ := h
  refine ⟨_, (pss_cons (ps_if (pt_cmpR op_gt (pe_ix (ix_listK (K := K)) (pv 0) pe_int (fun _ _ => rfl)) pe_int (nomark _)) (pss_cons (ps_set (i := 2) sc__law_taken.nd rfl (Or.inl rfl) (pe_op op_mod (pe_callTy call_int1 (by rfl) Z.int (by decide +kernel) (pa_cons (pe_ix (ix_listK (K := K)) (pv 0) pe_int (fun _ _ => rfl)) pa_nil)) (pv 1)))
    (pss_cons (ps_asg (pe_op op_fdiv (pe_ix (ix_listK (K := K)) (pv 0) pe_int (fun _ _ => rfl)) (pv 1)) (pg_sub (pv 0) pe_int set_list))
    (pss_one (ps_ret (pv 2))))) pss_nil)
    (pss_cons (ps_asg (pe_op op_add (pe_ix (ix_listK (K := K)) (pv 0) pe_int (fun _ _ => rfl)) pe_int) (pg_sub (pv 0) pe_int set_list))
    (pss_cons (ps_if (pt_cmpR op_gt (pe_ix (ix_listK (K := K)) (pv 0) pe_int (fun _ _ => rfl)) (pe_callB (call_len_seqK (K := K)) (by rfl) Z.len PySem.boot_len (pa_cons (pe_ix (ix_listK (K := K)) (pv 0) pe_int (fun _ _ => rfl)) pa_nil)) (nomark _)) (pss_cons (ps_asg (pe_op op_mod (pe_callTy call_int1 (by rfl) Z.int (by decide +kernel) (pa_cons (pe_op op_add (pe_op op_mul (pe_ix (ix_listK (K := K)) (pv 0) pe_int (fun _ _ => rfl)) pe_int) pe_int) pa_nil)) pe_int) (pg_sub (pv 0) pe_int set_list))
    (pss_one (ps_ret (pe_op op_mod (pe_callTy call_int1 (by rfl) Z.int (by decide +kernel) (pa_cons (pe_op op_fdiv (pe_ix (ix_listK (K := K)) (pv 0) pe_int (fun _ _ => rfl)) pe_int) pa_nil)) (pv 1))))) pss_nil)
    (pss_cons (ps_set (i := 3) sc__law_taken.nd rfl (Or.inl rfl) (pe_ix (ix_listK (K := K)) (pe_ix (ix_listK (K := K)) (pv 0) pe_int (fun _ _ => rfl)) (pe_op op_sub (pe_ix (ix_listK (K := K)) (pv 0) pe_int (fun _ _ => rfl)) pe_int) (fun _ _ => rfl)))
    (pss_cons (ps_asg (pe_op op_mod (pe_callTy call_int1 (by rfl) Z.int (by decide +kernel) (pa_cons (pe_op op_add (pe_op op_add (pe_op op_mul (pe_ix (ix_listK (K := K)) (pv 0) pe_int (fun _ _ => rfl)) pe_int) (pv 3)) pe_int) pa_nil)) pe_int) (pg_sub (pv 0) pe_int set_list))
    (pss_cons (ps_if (pt_cmpR op_ge (pv 3) (pe_op op_pow pe_int pe_int) (nomark _)) (pss_one (ps_asg (pe_op op_fdiv (pv 3) (pv 1)) (pg_sub (pv 0) pe_int set_list))) pss_nil)
    (pss_one (ps_ret (pe_op op_mod (pe_callTy call_int1 (by rfl) Z.int (by decide +kernel) (pa_cons (pv 3) pa_nil)) (pv 1)))))))))), ?_⟩
  obtain ⟨i, s1, d, hR⟩ := rw_.ex
  have hm : (0 : Int) < (m : Int) := by omega
  have hm1 : (m : Int) < 1073741824 := by omega
  refine ⟨.ref R, rfl, R, _, 3, .int d, rfl, rfl, SqL.of hR, rfl, d, 0, rfl, rfl, _, rfl, ?_⟩
  refine ite2 (fun c => ?_) (fun c => ?_)
  · obtain ⟨n, hn, en⟩ := mod_nat m0 d
    refine ⟨.ref R, rfl, R, _, 3, .int d, rfl, rfl, SqL.of hR, rfl, .inl ⟨d, rfl, .int m, rfl, d, m, rfl, rfl, hm, ?_⟩⟩
    refine ⟨.ref R, rfl, R, _, 3, .int d, rfl, rfl, SqL.of hR, rfl, .int m, rfl, d, m, rfl, rfl, ⟨hm, hm1⟩, .ref R, rfl, R, _, 3, 3, rfl, rfl, hR, rfl, .int (d % m), rfl, ?_⟩
    show Q (.int (d % m)) _
    rw [en]
    exact q n _ hn Kr.upd (rw_.put i s1 (d / m))
  · refine ⟨.ref R, rfl, R, _, 1, .int i, rfl, rfl, SqL.of hR, rfl, i, 1, rfl, rfl, .ref R, rfl, R, _, 1, 1, rfl, rfl, hR, rfl, ?_⟩
    have ei : (i : Int) + 1 = ((i + 1 : Nat) : Int) := by omega
    have r1 := rw_.put (i + 1) s1 d
    have hR1 : upd H R (.lst [.ref S, .int ((i + 1 : Nat) : Int), .int s1, .int d]) R = some (.lst [.ref S, .int ((i + 1 : Nat) : Int), .int s1, .int d]) := upd_same
    have k1 : Kr R H (upd H R (.lst [.ref S, .int ((i + 1 : Nat) : Int), .int s1, .int d])) := Kr.upd
    show tSeq _ _ _ _ (upd H R (.lst [.ref S, .int ((i : Int) + 1), .int s1, .int d]))
    rw [ei]
    generalize upd H R (.lst [.ref S, .int ((i + 1 : Nat) : Int), .int s1, .int d]) = H1 at r1 hR1 k1
    refine ⟨.ref R, rfl, R, _, 1, .int (i + 1 : Nat), rfl, rfl, SqL.of hR1, rfl, .ref R, rfl, R, _, 0, .ref S, rfl, rfl, SqL.of hR1, rfl, S, _, rfl, .inl r1.sq, _, _, rfl, rfl, _, rfl, ?_⟩
    rw [List.length_map]
    refine ite2 (fun c2 => ?_) (fun c2 => ?_)
    · refine ⟨.ref R, rfl, R, _, 2, .int s1, rfl, rfl, SqL.of hR1, rfl, s1, 48271, rfl, rfl, .inr ⟨by decide, by decide⟩, _, 11, rfl, rfl, .inl ⟨_, rfl, _, 2147483647, rfl, rfl, (show (0 : Int) < 2147483647 by decide), .ref R, rfl, R, _, 2, 2, rfl, rfl, hR1, rfl, ?_⟩⟩
      let s2 : Int := (s1 * 48271 + 11) % 2147483647
      have r2 := r1.put (i + 1) s2 d
      have hR2 : upd H1 R (.lst [.ref S, .int ((i + 1 : Nat) : Int), .int s2, .int d]) R = some (.lst [.ref S, .int ((i + 1 : Nat) : Int), .int s2, .int d]) := upd_same
      have k2 : Kr R H (upd H1 R (.lst [.ref S, .int ((i + 1 : Nat) : Int), .int s2, .int d])) := k1.trans Kr.upd
      obtain ⟨n, hn, en⟩ := mod_nat m0 (s2 / 7)
      refine ⟨.ref R, rfl, R, _, 2, .int s2, rfl, rfl, SqL.of hR2, rfl, s2, 7, rfl, rfl, ⟨by decide, by decide⟩, .inl ⟨_, rfl, .int m, rfl, _, m, rfl, rfl, hm, ?_⟩⟩
      show Q (.int (s2 / 7 % m)) _
      rw [en]
      exact q n _ hn k2 r2
    · have c2' := of_decide_eq_false (Bool.eq_false_iff.mpr c2)
      have hi : i < sc.length := by omega
      have eat : atI (sc.map V.int) (((i + 1 : Nat) : Int) - 1) = some (.int sc[i]) := by
        have : ((i + 1 : Nat) : Int) - 1 = (i : Nat) := by omega
        rw [this]
        exact atI_nat (by rw [List.getElem?_map, List.getElem?_eq_getElem hi]; rfl)
      refine ⟨.ref R, rfl, R, _, 0, .ref S, rfl, rfl, SqL.of hR1, rfl, .ref R, rfl, R, _, 1, .int (i + 1 : Nat), rfl, rfl, SqL.of hR1, rfl, _, 1, rfl, rfl, S, _, _, _, rfl, rfl, r1.sq, eat, ?_⟩
      generalize sc[i] = ce
      refine ⟨.ref R, rfl, R, _, 2, .int s1, rfl, rfl, SqL.of hR1, rfl, s1, 48271, rfl, rfl, .inr ⟨by decide, by decide⟩, .int ce, rfl, _, ce, rfl, rfl, _, 11, rfl, rfl, .inl ⟨_, rfl, _, 2147483647, rfl, rfl, (show (0 : Int) < 2147483647 by decide), .ref R, rfl, R, _, 2, 2, rfl, rfl, hR1, rfl, ?_⟩⟩
      let s2 : Int := (s1 * 48271 + ce + 11) % 2147483647
      have r2 := r1.put (i + 1) s2 d
      have hR2 : upd H1 R (.lst [.ref S, .int ((i + 1 : Nat) : Int), .int s2, .int d]) R = some (.lst [.ref S, .int ((i + 1 : Nat) : Int), .int s2, .int d]) := upd_same
      have k2 : Kr R H (upd H1 R (.lst [.ref S, .int ((i + 1 : Nat) : Int), .int s2, .int d])) := k1.trans Kr.upd
      obtain ⟨n, hn, en⟩ := mod_nat m0 ce
      refine ⟨.int ce, rfl, 10, 18, rfl, rfl, ⟨by decide, by decide, by decide⟩, ce, _, rfl, rfl, _, rfl, ?_⟩
      refine ite2 (fun c3 => ?_) (fun c3 => ?_)
      · refine ⟨.int ce, rfl, .int m, rfl, ce, m, rfl, rfl, ⟨hm, hm1⟩, .ref R, rfl, R, _, 3, 3, rfl, rfl, hR2, rfl, ?_⟩
        refine ⟨.int ce, rfl, .inl ⟨ce, rfl, .int m, rfl, ce, m, rfl, rfl, hm, ?_⟩⟩
        show Q (.int (ce % m)) _
        rw [en]
        exact q n _ hn (k2.trans Kr.upd) (r2.put (i + 1) s2 (ce / m))
      · refine ⟨.int ce, rfl, .inl ⟨ce, rfl, .int m, rfl, ce, m, rfl, rfl, hm, ?_⟩⟩
        show Q (.int (ce % m)) _
        rw [en]
        exact q n _ hn k2 r2
end
end Bg

set_option Elab.async false
set_option linter.all false
set_option maxRecDepth 100000
set_option maxHeartbeats 1000000
namespace Bg
open PySem PySem.Spec PyProof.Rows L2
open Evl (Ex)
local macro_rules | `(tactic| walk_at "peel") => `(tactic| dsimp only [tNext, tSeq, tRet, tAndV, tOrV, tNotV, tCB, tCons, tNil, tAsg, tIfS, tDrop, tOp, tTest, tB, tNot, tAnd, tOr, tUn, tIf, tThen, tM1])
section
variable {P : Program} {w : World} {K : PySem.W.Frag} {mg : Str → Option Value} {base : Heap}
/-! #### _law_pick -/
abbrev s__law_pick : Stmt := top 28
abbrev N__law_pick : List Str := ["_law_row", "_law_things"]
theorem sc__law_pick : FnScope N__law_pick ["_law_row", "_law_things"] (defScope s__law_pick) := ⟨rfl, rfl, rfl, by decide +kernel, rfl, by decide +kernel, by decide +kernel⟩
def spPick (K : PySem.W.Frag) : Sp := fun vs H Q _ => ∃ (R S T : Addr) (sc : List Int) (xs : List V), vs = [.ref R, .ref T] ∧ Row K H R S sc ∧ SqL K H T xs ∧ T ≠ R ∧ 0 < xs.length ∧ xs.length < 1000 ∧ ∀ (k : Nat) v H', xs[k]? = some v → Kr R H H' → Row K H' R S sc → Q v H'
theorem ok__law_pick (F : Fu K mg "_law_pick" s__law_pick ["_law_row", "_law_things"]) (Z : Bz mg) (G__law_taken : Cal P w K mg base CX0 1 "_law_taken" ["_law_row", "_law_many"] (spTaken K)) : Cal P w K mg base CX0 2 "_law_pick" ["_law_row", "_law_things"] (spPick K) := by
  refine F.ok sc__law_pick (fun vs H Q E h => ?_) (fun f cdv A outer s H vs Q E hr h => ?_)
  · obtain ⟨R, S, T, sc, xs, rfl, _⟩ := h; rfl
  obtain ⟨R, S, T, sc, xs, rfl, rw_, hT, ne, h0, h1, q⟩ := h
  refine ⟨_, (pss_one (ps_ret (pe_ix (ix_listK (K := K)) (pv 1) (pe_calC G__law_taken (hr.mono (by decide)) rfl pass0 (pa_cons (pv 0) (pa_cons (pe_callB (call_len_seqK (K := K)) (by rfl) Z.len PySem.boot_len (pa_cons (pv 1) pa_nil)) pa_nil))) (fun _ _ => rfl)))), ?_⟩
  refine ⟨.ref T, rfl, .ref R, rfl, .ref T, rfl, T, xs, rfl, .inl hT, R, S, xs.length, sc, rfl, rw_, h0, by omega, fun n H' hn k r => ?_⟩
  obtain ⟨_, _, _, hR⟩ := rw_.ex
  exact ⟨T, xs, n, xs[n], rfl, rfl, k.sql hR ne hT, atI_nat (List.getElem?_eq_getElem hn), q n _ _ (List.getElem?_eq_getElem hn) k r⟩
/-! #### _law_mixed -/
abbrev s__law_mixed : Stmt := top 29
abbrev N__law_mixed : List Str := ["_law_row", "_law_some", "_law_left", "_law_found", "_law_turn"]
theorem sc__law_mixed : FnScope N__law_mixed ["_law_row", "_law_some"] (defScope s__law_mixed) := ⟨rfl, rfl, rfl, by decide +kernel, rfl, by decide +kernel, by decide +kernel⟩
def spMixed (K : PySem.W.Frag) : Sp := fun vs H Q _ => ∃ (R S T : Addr) (sc : List Int) (xs : List V), vs = [.ref R, .ref T] ∧ Row K H R S sc ∧ SqL K H T xs ∧ T ≠ R ∧ xs.length < 1000 ∧ ∀ (p : Addr) ys H', ys.Perm xs → Kr R H H' → Row K H' R S sc → H p = none → H' p = some (.lst ys) → Q (.ref p) H'
structure Mx (K : PySem.W.Frag) (H H2 : Hp) (R S l p : Addr) (sc : List Int) (xs : List V) (k : Nat) : Prop where
  kr : Kr R H H2
  row : Row K H2 R S sc
  nl : H l = none
  np : H p = none
  ne : l ≠ p
  L : ∃ L F, H2 l = some (.lst L) ∧ H2 p = some (.lst F) ∧ (F ++ L).Perm xs ∧ F.length = k
theorem perm_move {α : Type} {F L xs : List α} {i : Nat} {y : α} (h : (F ++ L).Perm xs) (hy : L[i]? = some y) : ((F ++ [y]) ++ L.eraseIdx i).Perm xs := by
  refine List.Perm.trans ?_ h
  rw [List.append_assoc]
  refine List.Perm.append_left F ?_
  exact erase_perm hy
theorem ok__law_mixed (F : Fu K mg "_law_mixed" s__law_mixed ["_law_row", "_law_some"]) (Z : Bz mg) (G__law_taken : Cal P w K mg base CX0 1 "_law_taken" ["_law_row", "_law_many"] (spTaken K)) : Cal P w K mg base CX0 2 "_law_mixed" ["_law_row", "_law_some"] (spMixed K) := by
  refine F.ok sc__law_mixed (fun vs H Q E h => ?_) (fun f cdv A outer s H vs Q E hr h => ?_)
  · obtain ⟨R, S, T, sc, xs, rfl, _⟩ := h; rfl
  obtain ⟨R, S, T, sc, xs, rfl, rw_, hT, ne, h1, q⟩ := h
  refine ⟨_, (pss_cons (ps_par (i := 2) (j := 3) (by rfl) sc__law_mixed.nd rfl rfl (by decide) rfl rfl (pa_cons (pe_callTy call_list_of (by rfl) Z.list (by decide +kernel) (pa_cons (pv 1) pa_nil)) (pa_cons (pe_lst pa_nil) pa_nil)) (by rfl))
    (pss_cons (ps_for PassesOwn.never rfl (pi_range1 rfl Z.range (pa_cons (pe_callB (call_len_seqK (K := K)) (by rfl) Z.len PySem.boot_len (pa_cons (pv 2) pa_nil)) pa_nil)) (pg_name (i := 4) sc__law_mixed.nd rfl (Or.inl rfl)) (pss_one (ps_expr (pe_bm PySem.F.plainAttrs_list PySem.F.slot_list_append PySem.F.type_list_append mt_append (pv 3) (pa_cons (pe_bm PySem.F.plainAttrs_list PySem.F.slot_list_pop PySem.F.type_list_pop mt_popAt (pv 2) (pa_cons (pe_calC G__law_taken (hr.mono (by decide)) rfl pass0 (pa_cons (pv 0) (pa_cons (pe_callB (call_len_seqK (K := K)) (by rfl) Z.len PySem.boot_len (pa_cons (pv 2) pa_nil)) pa_nil))) pa_nil)) pa_nil)))))
    (pss_one (ps_ret (pv 3))))), ?_⟩
  obtain ⟨_, _, _, hR⟩ := rw_.ex
  refine ⟨.ref T, rfl, T, xs, rfl, .inl hT, fun l hl => ⟨(by show 0 ≤ sizeLine; decide), fun p hp => ⟨_, _, rfl, ?_⟩⟩⟩
  have hlp : l ≠ p := fun z => by rw [z, upd_same] at hp; cases hp
  have hpH : H p = none := by rw [upd_ne hlp.symm] at hp; exact hp
  have e2 : Ex H (upd (upd H l (.lst xs)) p (.lst [])) := (Ex.new hl).trans (Ex.new hp)
  have hL : upd (upd H l (.lst xs)) p (.lst []) l = some (.lst xs) := by rw [upd_ne hlp, upd_same]
  have ur : ∀ {a : Addr}, H a = none → a ≠ R := fun {a} h z => by rw [z, hR] at h; cases h
  refine ⟨.ref l, rfl, l, xs, rfl, .inl (SqL.of hL), (xs.length : Nat), rfl, by omega, by omega, ?_⟩
  refine for_range (lo := 0) (n := xs.length) (fun k σ H2 => σ[0]? = some (some (.ref R)) ∧ σ[2]? = some (some (.ref l)) ∧ σ[3]? = some (some (.ref p)) ∧ σ.length = 5 ∧ Mx K H H2 R S l p sc xs k) ⟨rfl, rfl, rfl, rfl, Kr.of e2, rw_.ext e2, hl, hpH, hlp, xs, [], hL, upd_same, by simp, rfl⟩ (fun k σ H2 hk h => ?_) (fun σ H2 h => ?_)
  · obtain ⟨t0, t2, t3, tl, M⟩ := h
    obtain ⟨L, F, hL2, hF2, pm, hk2⟩ := M.L
    have hlen := pm.length_eq
    rw [List.length_append] at hlen
    have w0 : ∀ v, (σ.set 4 (some v))[0]? = some (some (.ref R)) := fun v => gs_ne (by decide) t0
    have w2 : ∀ v, (σ.set 4 (some v))[2]? = some (some (.ref l)) := fun v => gs_ne (by decide) t2
    have w3 : ∀ v, (σ.set 4 (some v))[3]? = some (some (.ref p)) := fun v => gs_ne (by decide) t3
    refine ⟨.ref p, w3 _, tyL hF2, .ref l, w2 _, tyL hL2, .ref R, w0 _, .ref l, w2 _, l, L, rfl, .inl (SqL.of hL2), R, S, L.length, sc, rfl, M.row, by omega, by omega, fun n H3 hn k3 r3 => ?_⟩
    have hL3 := k3.k l _ (ur M.nl) hL2
    have hF3 := k3.k p _ (ur M.np) hF2
    have hy : L[n]? = some L[n] := List.getElem?_eq_getElem hn
    refine ⟨l, L, (n : Nat), n, L[n], rfl, rfl, hL3, by omega, by omega, seqIndex_of (by omega) (by omega), hy, ?_⟩
    have hF4 : upd H3 l (.lst (L.eraseIdx n)) p = some (.lst F) := by rw [upd_ne M.ne.symm]; exact hF3
    have kr4 : Kr R H (upd (upd H3 l (.lst (L.eraseIdx n))) p (.lst (F ++ [L[n]]))) := by
      refine ⟨fun a o na h => ?_⟩
      have nal : a ≠ l := fun z => by rw [z, M.nl] at h; cases h
      have nap : a ≠ p := fun z => by rw [z, M.np] at h; cases h
      rw [upd_ne nap, upd_ne nal]
      exact k3.k a o na (M.kr.k a o na h)
    refine ⟨p, F, L[n], rfl, rfl, hF4, Evl.sz_lt (by omega), w0 _, w2 _, w3 _, by rw [List.length_set]; exact tl, ?_, ?_, M.nl, M.np, M.ne, L.eraseIdx n, F ++ [L[n]], ?_, upd_same, perm_move pm hy, by simp [hk2]⟩
    · exact kr4
    · obtain ⟨i, s1, d, h3⟩ := r3.ex
      exact rw_.of kr4 ⟨i, s1, d, by rw [upd_ne (ur M.np).symm, upd_ne (ur M.nl).symm]; exact h3⟩
    · rw [upd_ne M.ne, upd_same]
  · obtain ⟨t0, t2, t3, tl, M⟩ := h
    obtain ⟨L, F, hL2, hF2, pm, hk2⟩ := M.L
    have hlen := pm.length_eq
    rw [List.length_append] at hlen
    have : L = [] := List.eq_nil_of_length_eq_zero (by omega)
    subst this
    rw [List.append_nil] at pm
    exact ⟨.ref p, t3, q p F H2 pm M.kr M.row M.np hF2⟩
end
end Bg

set_option Elab.async false
set_option linter.all false
set_option maxRecDepth 100000
set_option maxHeartbeats 1000000
namespace Bg
open PySem PySem.Spec PyProof.Rows L2
open Evl (Ex)
local macro_rules | `(tactic| walk_at "peel") => `(tactic| dsimp only [tNext, tSeq, tRet, tAndV, tOrV, tNotV, tCB, tCons, tNil, tAsg, tIfS, tDrop, tOp, tTest, tB, tNot, tAnd, tOr, tUn, tIf, tThen, tM1])
section
variable {P : Program} {w : World} {K : PySem.W.Frag} {mg : Str → Option Value} {base : Heap}
/-! #### _law_named -/
abbrev s__law_named : Stmt := top 30
abbrev N__law_named : List Str := ["_law_bags", "_law_names", "_law_bag", "_law_bead"]
theorem sc__law_named : FnScope N__law_named ["_law_bags", "_law_names"] (defScope s__law_named) := ⟨rfl, rfl, rfl, by decide +kernel, rfl, by decide +kernel, by decide +kernel⟩
theorem dpa_zs {K : PySem.W.Frag} {H : Hp} : ∀ {zs : List (V × PyData)}, (∀ z ∈ zs, Dp K H z.1 z.2) → DpAll K H (zs.map (·.1)) (zs.map (·.2))
  | [], _ => .nil
  | z :: zs, h => .cons (h z List.mem_cons_self) (dpa_zs fun y hy => h y (List.mem_cons_of_mem _ hy))
def spNamed (K : PySem.W.Frag) : Sp := fun vs H Q _ => ∃ (B N : Addr) (bags : List (List Nat)) (names : List Nat), vs = [.ref B, .ref N] ∧ Dp K H (.ref B) (natssD bags) ∧ SqL K H N (natsV names) ∧ (∀ b ∈ bags, ∀ x ∈ b, x < names.length) ∧ (∀ b ∈ bags, b ≠ []) ∧ bags.length ≤ 1000 ∧ (∀ b ∈ bags, b.length ≤ 1000) ∧
  ∀ v H', Ex H H' → Dp K H' v (famD (namedF bags names)) → Q v H'
theorem ok__law_named (F : Fu K mg "_law_named" s__law_named ["_law_bags", "_law_names"]) (Z : Bz mg) : Cal P w K mg base CX0 1 "_law_named" ["_law_bags", "_law_names"] (spNamed K) := by
  refine F.ok sc__law_named (fun vs H Q E h => ?_) (fun f cdv A outer s H vs Q E hr h => ?_)
  · obtain ⟨B, N, bags, names, rfl, _⟩ := h; rfl
  obtain ⟨B, N, bags, names, rfl, hd, hN, hlt, hne, hz, hzb, q⟩ := h
  refine ⟨_, (pss_one (ps_ret (pe_tupleB (K := K) rfl Z.tuple (pe_callB (cr_sortedDK (K := K) hr.units) (by rfl) Z.sorted (by decide +kernel) (pa_cons (pe_lc (own := [("_law_bag", 2)]) (g := gName 2) rfl sc__law_named.nd (pi_listK (K := K) (pv 0)) (blkOk_by (own := [("_law_bag", 2)]) (N := N__law_named) (sc := (defScope s__law_named)) (by decide +kernel)) (fun _ _ _ _ _ => (pg_name (i := 2) sc__law_named.nd rfl (Or.inl rfl))) (fun _ _ _ _ _ => pts_nil) (fun _ _ _ _ _ => (pe_tupleB (K := K) rfl Z.tuple (pe_callB (cr_sortedDK (K := K) hr.units) (by rfl) Z.sorted (by decide +kernel) (pa_cons (pe_lc (own := [("_law_bead", 3)]) (g := gName 3) rfl sc__law_named.nd (pi_listK (K := K) (pv 2)) (blkOk_by (own := [("_law_bead", 3)]) (N := N__law_named) (sc := (relS ⟨.function, [(".0", .local), ("_law_bag", .local), ("tuple", .globalImplicit), ("sorted", .globalImplicit), ("_law_names", .free)], false, false, []⟩ (defScope s__law_named))) (by decide +kernel)) (fun _ _ _ _ _ => (pg_name (i := 3) sc__law_named.nd rfl (Or.inl rfl))) (fun _ _ _ _ _ => pts_nil) (fun _ _ _ _ _ => (pe_ix (ix_listK (K := K)) (pv 1) (pv 3) (fun _ _ => rfl)))) pa_nil))))) pa_nil))))), ?_⟩
  obtain ⟨B', xs, e0, hs, hl, hx⟩ := dp_natss hd
  obtain rfl : B = B' := V.ref.inj e0
  walk_at "peel"
  refine goL (fun D i v H => Dp K H v (bagD (nameB names (bags.getD i [])))) (fun D i v H H' g h => dp_kt g.kt (isT_bag _) h) (fun R r => ⟨_, rfl, r _ _ (Ex.refl _) hs⟩) (by omega) (fun _ => rfl) (fun D i x H' hi e hD' Q' q' => ?_) (fun D H1 ys hD e1 hy hyl hp => ?_)
  · have hil : i < bags.length := by have := (List.getElem?_eq_some_iff.mp hi).1; omega
    have hbi : bags[i]? = some bags[i] := List.getElem?_eq_getElem hil
    obtain ⟨c, hc, hcl⟩ := hx i _ hbi
    rw [hi] at hc
    cases hc
    rw [getD_get hbi] at q'
    have hb1 := hlt _ (List.getElem_mem hil)
    have hb2 := hzb _ (List.getElem_mem hil)
    generalize bags[i] = b at hbi hcl q' hb1 hb2
    walk_at "peel"
    refine goL (xs := natsV b) (fun D j v H => v = .int (names.getD (b.getD j 0) 0 : Nat)) (fun _ _ _ _ _ _ h => h) (fun R r => ⟨_, rfl, r _ _ (Ex.refl _) (Evl.ex_l e hcl)⟩) (by rw [natsV_len]; omega) (fun _ => rfl) (fun D j x H3 hj e3 _ Q3 q3 => ?_) (fun D2 H3 zs hD2 e3 hzs hzl hp3 => ?_)
    · obtain ⟨n, hbn, rfl⟩ := natsV_get hj
      have hn := hb1 n (List.mem_of_getElem? hbn)
      refine ⟨.ref N, rfl, .int n, rfl, N, natsV names, n, .int (names[n] : Nat), rfl, rfl, Evl.ex_l (e.trans e3) hN, atI_nat (natsV_at (List.getElem?_eq_getElem hn)), q3 _ _ (Ex.refl _) ?_⟩
      rw [getD_get hbn, getD_get (List.getElem?_eq_getElem hn)]
    · have ez : zs = natsV (b.map fun x => names.getD x 0) := by
        unfold natsV
        rw [List.map_map]
        refine list_eq_map (f := (fun n : Nat => V.int (n : Int)) ∘ fun x => names.getD x 0) (zs := b) (by rw [hzl, natsV_len]) fun j v hv => ?_
        have hj : j < b.length := by have := (List.getElem?_eq_some_iff.mp hv).1; rw [hzl, natsV_len] at this; exact this
        refine ⟨b[j], List.getElem?_eq_getElem hj, ?_⟩
        rw [hp3 j v hv, getD_get (List.getElem?_eq_getElem hj)]; rfl
      rw [ez] at hzs
      refine ⟨D2, (b.map fun x => names.getD x 0).map fun n : Nat => (V.int (n : Int), PyData.int (n : Int)), rfl, .inl (SqL.of ?_), fun z hz => ?_, ?_, ?_, fun z hz => ?_, fun p hp => ⟨p, _, rfl, .inl (SqL.of upd_same), fun r H4 e4 hr4 => q' _ _ ((e3.trans (Ex.new hp)).trans e4) (bag_dp ?_)⟩⟩
      · rw [List.map_map]; exact hzs
      · obtain ⟨n, _, rfl⟩ := List.mem_map.mp hz; exact .int _
      · rw [List.map_map]; exact allAlike_nats _
      · rw [List.map_map]; exact sortable_nats _
      · obtain ⟨n, _, rfl⟩ := List.mem_map.mp hz; show (PyData.int (n : Int)).depth ≤ 50; simp [PyData.depth]
      · rw [sort_nats] at hr4; exact hr4
  · have hlen : ys.length = ((bags.map (nameB names)).map bagD).length := by rw [List.length_map, List.length_map]; omega
    have h1 : (ys.zip ((bags.map (nameB names)).map bagD)).map (·.1) = ys := List.map_fst_zip (by omega)
    have h2 : (ys.zip ((bags.map (nameB names)).map bagD)).map (·.2) = (bags.map (nameB names)).map bagD := List.map_snd_zip (by omega)
    have hz : ∀ z ∈ ys.zip ((bags.map (nameB names)).map bagD), Dp K H1 z.1 z.2 := fun z hz => by
      obtain ⟨i, hi⟩ := List.mem_iff_getElem?.mp hz
      rw [List.getElem?_zip_eq_some] at hi
      obtain ⟨a1, a2⟩ := hi
      have hil : i < bags.length := by have := (List.getElem?_eq_some_iff.mp a1).1; omega
      rw [List.getElem?_map, List.getElem?_map, List.getElem?_eq_getElem hil] at a2
      have := hp i _ a1
      rw [getD_get (List.getElem?_eq_getElem hil)] at this
      have e2 : bagD (nameB names bags[i]) = z.2 := Option.some.inj a2
      rw [← e2]; exact this
    refine ⟨D, ys.zip ((bags.map (nameB names)).map bagD), rfl, .inl (SqL.of (by rw [h1]; exact hy)), hz, by rw [h2]; exact allAlike_bags _, ?_, fun z hz => ?_, fun p hp => ⟨p, _, rfl, .inl (SqL.of upd_same), fun r H4 e4 hr4 => q _ _ ((e1.trans (Ex.new hp)).trans e4) (.tup hr4 ?_)⟩⟩
    · rw [h2]
      refine sortable_bags _ fun b hb => ?_
      obtain ⟨c, hc, rfl⟩ := List.mem_map.mp hb
      intro z
      have := nameB_len names c
      rw [z] at this
      exact hne c hc (List.eq_nil_of_length_eq_zero this.symm)
    · have : z.2 ∈ (bags.map (nameB names)).map bagD := by rw [← h2]; exact List.mem_map_of_mem hz
      obtain ⟨b, _, e⟩ := List.mem_map.mp this
      rw [← e]; have := depth_bag b; omega
    · have h3 := sort_bags (ys.zip ((bags.map (nameB names)).map bagD)) _ h2
      show DpAll K H4 _ ((sortF (bags.map (nameB names))).map bagD)
      rw [← h3]
      exact dpa_zs fun z hz2 => dp_ex ((Ex.new hp).trans e4) (hz z ((List.mergeSort_perm _ _).mem_iff.mp hz2))
/-! #### _law_size -/
abbrev s__law_size : Stmt := top 32
abbrev N__law_size : List Str := ["_law_family_here", "_law_bag"]
theorem sc__law_size : FnScope N__law_size ["_law_family_here"] (defScope s__law_size) := ⟨rfl, rfl, rfl, by decide +kernel, rfl, by decide +kernel, by decide +kernel⟩
theorem ok__law_size (F : Fu K mg "_law_size" s__law_size ["_law_family_here"]) (Z : Bz mg) : Cal P w K mg base CX0 1 "_law_size" ["_law_family_here"] (spSizeOf K) := by
  refine F.ok sc__law_size (fun vs H Q E h => ?_) (fun f cdv A outer s H vs Q E hr h => ?_)
  · obtain ⟨v, d, rfl, _⟩ := h; rfl
  obtain ⟨v, fam, rfl, hd, g, hz, q⟩ := h
  refine ⟨_, (pss_one (ps_ret (pe_op op_add pe_int (pe_callB (cr_maxK (K := K) rfl) (by rfl) Z.max (by decide +kernel) (pa_cons (pe_lc (own := [("_law_bag", 1)]) (g := gName 1) rfl sc__law_size.nd (pi_tupK (K := K) (pv 0)) (blkOk_by (own := [("_law_bag", 1)]) (N := N__law_size) (sc := (defScope s__law_size)) (by decide +kernel)) (fun _ _ _ _ _ => (pg_name (i := 1) sc__law_size.nd rfl (Or.inl rfl))) (fun _ _ _ _ _ => pts_nil) (fun _ _ _ _ _ => (pe_ix (ix_tupK (K := K)) (pv 1) (pe_un un_neg pe_int) (fun _ _ => rfl)))) pa_nil))))), ?_⟩
  obtain ⟨a, xs, rfl, hs, hl, hx⟩ := dp_fam hd
  walk_at "peel"
  dsimp only [tC]
  refine goT (fun D i v H => v = .int (lastN (fam.getD i []) : Nat)) (fun _ _ _ _ _ _ h => h) (fun R r => ⟨_, rfl, r _ _ (Ex.refl _) hs⟩) (by omega) (fun _ => rfl) (fun D i x H1 hi e1 _ Q' q' => ?_) (fun D H1 ys hD e1 hy hyl hp => ?_)
  · obtain ⟨b, hb, hdb⟩ := hx i x hi
    obtain ⟨c, rfl, hc⟩ := dp_bag (dp_ex e1 hdb)
    have hb2 := (g.bag b (List.mem_of_getElem? hb)).two
    refine ⟨.ref c, rfl, 1, rfl, c, _, _, _, rfl, rfl, hc, atI_lastN (by intro z; rw [z] at hb2; simp at hb2), ?_⟩
    exact q' _ _ (Ex.refl _) (by rw [getD_get hb])
  · have ey : ys = ((fam.map lastN).map fun n : Nat => (n : Int)).map V.int := by
      rw [List.map_map, List.map_map]
      refine list_eq_map (f := V.int ∘ (fun n : Nat => (n : Int)) ∘ lastN) (zs := fam) (by omega) fun i v hv => ?_
      have hi : i < fam.length := by have := (List.getElem?_eq_some_iff.mp hv).1; omega
      refine ⟨fam[i], by simp [hi], ?_⟩
      rw [hp i v hv, List.getD_eq_getElem?_getD, List.getElem?_eq_getElem hi]; rfl
    rw [ey] at hy
    refine ⟨D, (fam.map lastN).map fun n : Nat => (n : Int), rfl, SqL.of hy, ?_, fun m hm hle => ⟨1, m, rfl, rfl, ?_⟩⟩
    · have := g.ne
      cases fam <;> simp at this ⊢
    · have e := max_top hm hle
      have e2 : (1 : Int) + m = (sz fam : Nat) := by rw [e]; unfold sz; omega
      show Q (.int (1 + m)) H1
      rw [e2]
      exact q _ e1
end
end Bg

set_option Elab.async false
set_option linter.all false
set_option maxRecDepth 100000
set_option maxHeartbeats 1000000
namespace Bg
open PySem PySem.Spec PyProof.Rows L2
open Evl (Ex)
local macro_rules | `(tactic| walk_at "peel") => `(tactic| dsimp only [tNext, tSeq, tRet, tAndV, tOrV, tNotV, tCB, tCons, tNil, tAsg, tIfS, tDrop, tOp, tTest, tB, tNot, tAnd, tOr, tUn, tIf, tThen, tM1])
section
variable {P : Program} {w : World} {K : PySem.W.Frag} {mg : Str → Option Value} {base : Heap}
/-! #### _law_family -/
abbrev s__law_family : Stmt := top 31
abbrev N__law_family : List Str := ["_law_row", "_law_most", "_law_size_here", "_law_often", "_law_bags", "_law_bead"]
theorem sc__law_family : FnScope N__law_family ["_law_row", "_law_most"] (defScope s__law_family) := ⟨rfl, rfl, rfl, by decide +kernel, rfl, by decide +kernel, by decide +kernel⟩
/-- bags being drawn: a list of lists -/
structure Gb (H0 H : Hp) (R B : Addr) (ps : List Addr) (bs : List (List Nat)) : Prop where
  kr : Kr R H0 H
  nB : H0 B = none
  at_ : H B = some (.lst (ps.map V.ref))
  nd : ps.Nodup
  Bps : B ∉ ps
  new : ∀ p ∈ ps, H0 p = none
  len : ps.length = bs.length
  row : ∀ (i : Nat) p b, ps[i]? = some p → bs[i]? = some b → H p = some (.lst (natsV b))
theorem Gb.keep {H0 H H' : Hp} {R B : Addr} {ps : List Addr} {bs : List (List Nat)} (G : Gb H0 H R B ps bs) (nR : ∀ {a : Addr}, H0 a = none → a ≠ R) (k : Kr R H H') : Gb H0 H' R B ps bs :=
  ⟨G.kr.trans k, G.nB, k.k _ _ (nR G.nB) G.at_, G.nd, G.Bps, G.new, G.len, fun i p b h1 h2 => k.k _ _ (nR (G.new p (List.mem_of_getElem? h1))) (G.row i p b h1 h2)⟩
theorem Gb.push {H0 H : Hp} {R B p : Addr} {ps : List Addr} {bs : List (List Nat)} (G : Gb H0 H R B ps bs) (hR : ∃ o, H R = some o) (hp : H p = none) (b : List Nat) :
    Gb H0 (upd (upd H p (.lst (natsV b))) B (.lst (ps.map V.ref ++ [V.ref p]))) R B (ps ++ [p]) (bs ++ [b]) := by
  obtain ⟨o, hR⟩ := hR
  have npB : p ≠ B := fun z => by rw [z, G.at_] at hp; cases hp
  have nps : p ∉ ps := fun h => by
    obtain ⟨i, hi⟩ := List.mem_iff_getElem?.mp h
    have hl := (List.getElem?_eq_some_iff.mp hi).1
    have := G.row i p _ hi (List.getElem?_eq_getElem (by rw [← G.len]; exact hl))
    rw [hp] at this; cases this
  have hp0 : H0 p = none := G.kr.fresh (fun e => by rw [e, hR] at hp; cases hp) hp
  refine ⟨⟨fun a o na h => ?_⟩, G.nB, by rw [upd_same, List.map_append]; rfl, ?_, ?_, ?_, by simp [G.len], fun i q c h1 h2 => ?_⟩
  · rw [upd_ne (fun z => by rw [z, G.nB] at h; cases h), upd_ne (fun z => by rw [z, hp0] at h; cases h)]
    exact G.kr.k a o na h
  · exact List.nodup_append.mpr ⟨G.nd, by simp, fun a ha b hb => by rw [List.mem_singleton.mp hb]; exact fun z => nps (z ▸ ha)⟩
  · intro h
    rcases List.mem_append.mp h with h | h
    · exact G.Bps h
    · exact npB (List.mem_singleton.mp h).symm
  · intro q hq
    rcases List.mem_append.mp hq with h | h
    · exact G.new q h
    · rw [List.mem_singleton.mp h]; exact hp0
  · have hqB : q ≠ B := fun z => by
      rcases List.mem_append.mp (List.mem_of_getElem? h1) with h | h
      · exact G.Bps (z ▸ h)
      · exact npB ((List.mem_singleton.mp h).symm.trans z)
    rw [upd_ne hqB]
    by_cases hi : i < ps.length
    · rw [List.getElem?_append_left hi] at h1
      rw [List.getElem?_append_left (by rw [← G.len]; exact hi)] at h2
      have hqp : q ≠ p := fun z => nps (by rw [← z]; exact List.mem_of_getElem? h1)
      rw [upd_ne hqp]
      exact G.row i q c h1 h2
    · rw [List.getElem?_append_right (by omega)] at h1
      have e1 : q = p := List.mem_singleton.mp (List.mem_of_getElem? h1)
      rw [List.getElem?_append_right (by rw [← G.len]; omega)] at h2
      have e2 : c = b := List.mem_singleton.mp (List.mem_of_getElem? h2)
      rw [e1, e2, upd_same]
theorem Gb.into {H0 H : Hp} {R B : Addr} {ps : List Addr} {bs : List (List Nat)} (G : Gb H0 H R B ps bs) {i : Nat} {p : Addr} {b : List Nat} (hi : ps[i]? = some p) (hb : bs[i]? = some b) (n : Nat) :
    Gb H0 (upd H p (.lst (natsV b ++ [V.int (n : Int)]))) R B ps (bs.set i (b ++ [n])) := by
  have hp := List.mem_of_getElem? hi
  refine ⟨⟨fun a o na h => ?_⟩, G.nB, ?_, G.nd, G.Bps, G.new, by rw [List.length_set]; exact G.len, fun j q c h1 h2 => ?_⟩
  · rw [upd_ne (fun z => by rw [z, G.new p hp] at h; cases h)]
    exact G.kr.k a o na h
  · rw [upd_ne (fun z : B = p => G.Bps (by rw [z]; exact hp))]; exact G.at_
  · by_cases e : j = i
    · subst e
      rw [hi] at h1; cases h1
      rw [List.getElem?_set_self (List.getElem?_eq_some_iff.mp hb).1] at h2
      cases h2
      rw [upd_same]
      unfold natsV; rw [List.map_append]; rfl
    · rw [List.getElem?_set_ne (fun z => e z.symm)] at h2
      rw [upd_ne (fun z : q = p => e (nd_ix G.nd (by rw [← z]; exact h1) hi))]
      exact G.row j q c h1 h2
theorem Gb.dp {K : PySem.W.Frag} {H0 H : Hp} {R B : Addr} {ps : List Addr} {bs : List (List Nat)} (G : Gb H0 H R B ps bs) : Dp K H (.ref B) (natssD bs) := by
  refine .lst (SqL.of G.at_) (dpa_of (by simp [G.len]) fun i v d h1 h2 => ?_)
  rw [List.getElem?_map] at h1 h2
  cases e1 : ps[i]? with
  | none => rw [e1] at h1; cases h1
  | some p =>
    cases e2 : bs[i]? with
    | none => rw [e2] at h2; cases h2
    | some b =>
      rw [e1] at h1; rw [e2] at h2
      cases h1; cases h2
      exact .lst (SqL.of (G.row i p b e1 e2)) (dpa_nats b)
theorem perm_natsV {ys : List V} {l : List Nat} (h : ys.Perm (natsV l)) : ∃ names, ys = natsV names ∧ names.Perm l := by
  refine ⟨ys.map natOf, ?_, ?_⟩
  · unfold natsV
    rw [List.map_map]
    conv => lhs; rw [← List.map_id ys]
    refine List.map_congr_left fun y hy => ?_
    obtain ⟨n, _, rfl⟩ := List.mem_map.mp (h.mem_iff.mp hy)
    rfl
  · have := h.map natOf
    unfold natsV at this
    rw [List.map_map] at this
    have e : l.map (natOf ∘ fun n : Nat => V.int (n : Int)) = l := by
      conv => rhs; rw [← List.map_id l]
      exact List.map_congr_left fun y _ => rfl
    rwa [e] at this
def spFamily (K : PySem.W.Frag) : Sp := fun vs H Q _ => ∃ (R S : Addr) (m : Nat) (sc : List Int), vs = [.ref R, .int (m + 2 : Nat)] ∧ Row K H R S sc ∧ m ≤ 58 ∧
  ∀ v fam H', Kr R H H' → Row K H' R S sc → Dp K H' v (famD fam) → GoodBags fam → Valid fam → Tree (sz fam) fam → sz fam ≤ m + 2 → Q v H'
theorem ok__law_family (F : Fu K mg "_law_family" s__law_family ["_law_row", "_law_most"]) (Z : Bz mg) (G__law_taken : Cal P w K mg base CX0 1 "_law_taken" ["_law_row", "_law_many"] (spTaken K)) (G__law_pick : Cal P w K mg base CX0 2 "_law_pick" ["_law_row", "_law_things"] (spPick K))
    (G__law_mixed : Cal P w K mg base CX0 2 "_law_mixed" ["_law_row", "_law_some"] (spMixed K)) (G__law_named : Cal P w K mg base CX0 1 "_law_named" ["_law_bags", "_law_names"] (spNamed K)) : Cal P w K mg base CX0 3 "_law_family" ["_law_row", "_law_most"] (spFamily K) := by
  refine F.ok sc__law_family (fun vs H Q E h => ?_) (fun f cdv A outer s H vs Q E hr h => ?_)
  · obtain ⟨R, S, m, sc, rfl, _⟩ := h; rfl
  obtain ⟨R, S, m, sc, rfl, rw_, hm, q⟩ := h
  refine ⟨_, (pss_cons (ps_par (i := 2) (j := 3) (by rfl) sc__law_family.nd rfl rfl (by decide) rfl rfl (pa_cons (pe_op op_add pe_int (pe_calC G__law_taken (hr.mono (by decide)) rfl pass0 (pa_cons (pv 0) (pa_cons (pe_op op_sub (pv 1) pe_int) pa_nil)))) (pa_cons (pe_calC G__law_pick (hr.mono (by decide)) rfl pass0 (pa_cons (pv 0) (pa_cons (pe_lst (pa_cons pe_int (pa_cons pe_int (pa_cons pe_int (pa_cons pe_int (pa_cons pe_int pa_nil)))))) pa_nil))) pa_nil)) (by rfl))
    (pss_cons (ps_set (i := 4) sc__law_family.nd rfl (Or.inl rfl) (pe_lst (pa_cons (pe_lst (pa_cons pe_int (pa_cons pe_int pa_nil))) pa_nil)))
    (pss_cons (ps_for PassesOwn.never rfl (pi_range2 rfl Z.range (pa_cons pe_int (pa_cons (pv 2) pa_nil))) (pg_name (i := 5) sc__law_family.nd rfl (Or.inl rfl)) (pss_one (ps_if (pt_cmpR op_eq (pe_calC G__law_taken (hr.mono (by decide)) rfl pass0 (pa_cons (pv 0) (pa_cons (pv 3) pa_nil))) pe_int (nomark _)) (pss_one (ps_expr (pe_bm PySem.F.plainAttrs_list PySem.F.slot_list_append PySem.F.type_list_append mt_append (pe_ix (ix_listK (K := K)) (pv 4) (pe_calC G__law_taken (hr.mono (by decide)) rfl pass0 (pa_cons (pv 0) (pa_cons (pe_callB (call_len_seqK (K := K)) (by rfl) Z.len PySem.boot_len (pa_cons (pv 4) pa_nil)) pa_nil))) (fun _ _ => rfl)) (pa_cons (pv 5) pa_nil)))) (pss_one (ps_expr (pe_bm PySem.F.plainAttrs_list PySem.F.slot_list_append PySem.F.type_list_append mt_append (pv 4) (pa_cons (pe_lst (pa_cons (pe_calC G__law_taken (hr.mono (by decide)) rfl pass0 (pa_cons (pv 0) (pa_cons (pv 5) pa_nil))) (pa_cons (pv 5) pa_nil))) pa_nil)))))))
    (pss_one (ps_ret (pe_calC G__law_named (hr.mono (by decide)) rfl pass0 (pa_cons (pv 4) (pa_cons (pe_calC G__law_mixed (hr.mono (by decide)) rfl pass0 (pa_cons (pv 0) (pa_cons (pe_listRg rfl rfl Z.list (prg_1 rfl Z.range (pv 2))) pa_nil))) pa_nil)))))))), ?_⟩
  have rR : ∀ {H : Hp}, Row K H R S sc → ∃ o, H R = some o := fun r => by obtain ⟨_, _, _, h⟩ := r.ex; exact ⟨_, h⟩
  have nR : ∀ {H : Hp}, Row K H R S sc → ∀ {a : Addr}, H a = none → a ≠ R := fun r a h z => by obtain ⟨o, h2⟩ := rR r; rw [z, h2] at h; cases h
  have em : (((m + 2 : Nat) : Int) - 1) = ((m + 1 : Nat) : Int) := by omega
  refine ⟨.ref R, rfl, .int (m + 2 : Nat), rfl, _, 1, rfl, rfl, R, S, m + 1, sc, by show [V.ref R, V.int (((m + 2 : Nat) : Int) - 1)] = _; rw [em], rw_, by omega, by omega, fun n0 H1 hn0 k1 r1 => ⟨2, (n0 : Nat), rfl, rfl, ?_⟩⟩
  refine ⟨.ref R, rfl, (by show 5 ≤ sizeLine; decide), fun T hT => ⟨R, S, T, sc, [.int 2, .int 3, .int 3, .int 4, .int 9], rfl, r1.ext (Ex.new hT), SqL.of upd_same, nR r1 hT, by decide, by decide, fun kk v H2 hk k2 r2 => ?_⟩⟩
  have hv : ∃ o : Nat, v = .int (o : Int) ∧ 0 < o ∧ o < 100 := by
    have := List.mem_of_getElem? hk
    simp at this
    rcases this with rfl | rfl | rfl | rfl
    · exact ⟨2, rfl, by decide, by decide⟩
    · exact ⟨3, rfl, by decide, by decide⟩
    · exact ⟨4, rfl, by decide, by decide⟩
    · exact ⟨9, rfl, by decide, by decide⟩
  obtain ⟨o, rfl, ho1, ho2⟩ := hv
  have k12 : Kr R H H2 := k1.trans ((Kr.of (Ex.new hT)).trans k2)
  refine ⟨_, _, rfl, (by show 2 ≤ sizeLine; decide), fun p hp => ⟨(by show 1 ≤ sizeLine; decide), fun B hB => ?_⟩⟩
  have hpB : p ≠ B := fun z => by rw [← z, upd_same] at hB; cases hB
  have hB2 : H2 B = none := by rw [upd_ne hpB.symm] at hB; exact hB
  have e3 : Ex H2 (upd (upd H2 p (.lst [.int 0, .int 1])) B (.lst [.ref p])) := (Ex.new hp).trans (Ex.new hB)
  have G0 : Gb H2 (upd (upd H2 p (.lst [.int 0, .int 1])) B (.lst [.ref p])) R B [p] [[0, 1]] := by
    refine ⟨Kr.of e3, hB2, upd_same, by simp, by simpa using hpB.symm, fun q h => by rw [List.mem_singleton.mp h]; exact hp, rfl, fun i q b h1 h2 => ?_⟩
    have a1 := List.mem_singleton.mp (List.mem_of_getElem? h1)
    have a2 := List.mem_singleton.mp (List.mem_of_getElem? h2)
    rw [a1, a2, upd_ne hpB, upd_same]; rfl
  have r3 := r2.ext e3
  refine ⟨.int (2 + (n0 : Nat)), rfl, 2, 2 + (n0 : Nat), rfl, ⟨by omega, by omega, by omega, by omega⟩, ?_⟩
  have et : ((2 : Int) + (n0 : Nat) - 2).toNat = n0 := by omega
  rw [et]
  refine for_range (lo := 2) (n := n0) (fun k σ H3 => σ[0]? = some (some (.ref R)) ∧ σ[2]? = some (some (.int (2 + (n0 : Nat)))) ∧ σ[3]? = some (some (.int (o : Nat))) ∧ σ[4]? = some (some (.ref B)) ∧ σ.length = 6 ∧ Row K H3 R S sc ∧ ∃ ps bs, Gb H2 H3 R B ps bs ∧ Tree (2 + k) bs) ⟨rfl, rfl, rfl, rfl, rfl, r3, [p], [[0, 1]], G0, tree_start⟩ (fun k σ H3 hk h => ?_) (fun σ H3 h => ?_)
  · obtain ⟨t0, t2, t3, t4, tl, r4, ps, bs, G, T⟩ := h
    have ek : ((2 : Int) + (k : Nat)) = ((2 + k : Nat) : Int) := by omega
    show gName 5 _ _ _ _
    rw [ek]
    have w0 : (σ.set 5 (some (V.int ((2 + k : Nat) : Int))))[0]? = some (some (.ref R)) := gs_ne (by decide) t0
    have w2 : (σ.set 5 (some (V.int ((2 + k : Nat) : Int))))[2]? = some (some (.int (2 + (n0 : Nat)))) := gs_ne (by decide) t2
    have w3 : (σ.set 5 (some (V.int ((2 + k : Nat) : Int))))[3]? = some (some (.int (o : Nat))) := gs_ne (by decide) t3
    have w4 : (σ.set 5 (some (V.int ((2 + k : Nat) : Int))))[4]? = some (some (.ref B)) := gs_ne (by decide) t4
    have w5 : (σ.set 5 (some (V.int ((2 + k : Nat) : Int))))[5]? = some (some (.int ((2 + k : Nat) : Int))) := gs_eq (by omega)
    have wl : (σ.set 5 (some (V.int ((2 + k : Nat) : Int)))).length = 6 := by rw [List.length_set]; exact tl
    have hbl := T.len
    have hbs : bs ≠ [] := fun z => by
      obtain ⟨b, hb, _⟩ := T.cover 0 (by omega)
      rw [z] at hb; cases hb
    have hbs0 : 0 < bs.length := by cases bs <;> simp at hbs ⊢
    refine ⟨.ref R, w0, .int (o : Nat), w3, R, S, o, sc, rfl, r4, ho1, by omega, fun c H4 hc k4 r5 => ?_⟩
    have G4 := G.keep (nR r2) k4
    refine ⟨rfl, _, rfl, ?_⟩
    refine ite2 (fun c1 => ?_) (fun c1 => ?_)
    · refine ⟨.ref B, w4, .ref R, w0, .ref B, w4, B, ps.map V.ref, rfl, .inl (SqL.of G4.at_), R, S, bs.length, sc, by rw [List.length_map, G4.len]; rfl, r5, hbs0, by omega, fun i H5 hi k5 r6 => ?_⟩
      have G5 := G4.keep (nR r2) k5
      have hip : ps[i]? = some (ps[i]'(by rw [G.len]; exact hi)) := List.getElem?_eq_getElem _
      have hib : bs[i]? = some bs[i] := List.getElem?_eq_getElem hi
      have hrow := G5.row i _ _ hip hib
      have hbn : bs[i].length ≤ 60 := nodup_le (T.nd _ (List.getElem_mem hi)) fun x hx => by have := T.lt _ (List.getElem_mem hi) x hx; omega
      refine ⟨B, ps.map V.ref, (i : Nat), .ref (ps[i]'(by rw [G.len]; exact hi)), rfl, rfl, SqL.of G5.at_, atI_nat (by rw [List.getElem?_map, hip]; rfl), tyL hrow, .int ((2 + k : Nat) : Int), w5, _, natsV bs[i], _, rfl, rfl, hrow, by rw [natsV_len]; exact Evl.sz_lt (by omega), ?_⟩
      have G6 := G5.into hip hib (2 + k)
      refine ⟨w0, w2, w3, w4, wl, ?_, ps, _, G6, ?_⟩
      · obtain ⟨a1, a2, a3, h6⟩ := r6.ex
        refine r2.of G6.kr ⟨a1, a2, a3, ?_⟩
        rw [upd_ne (fun z : R = ps[i]'(by rw [G.len]; exact hi) => nR r2 (G.new _ (List.getElem_mem _)) z.symm)]
        exact h6
      · have es : bs = bs.take i ++ bs[i] :: bs.drop (i + 1) := by
          rw [← List.drop_eq_getElem_cons hi, List.take_append_drop]
        have T2 : Tree (2 + k) (bs.take i ++ bs[i] :: bs.drop (i + 1)) := by rw [← es]; exact T
        have := T2.into
        rw [List.set_eq_take_append_cons_drop, if_pos hi]
        exact this
    · refine ⟨.ref B, w4, tyL G4.at_, .ref R, w0, .int ((2 + k : Nat) : Int), w5, R, S, 2 + k, sc, rfl, r5, by omega, by omega, fun t H5 ht k5 r6 => ?_⟩
      have G5 := G4.keep (nR r2) k5
      refine ⟨.int ((2 + k : Nat) : Int), w5, (by show 2 ≤ sizeLine; decide), fun p2 hp2 => ?_⟩
      have hBp : p2 ≠ B := fun z => by rw [z, G5.at_] at hp2; cases hp2
      have hBB : upd H5 p2 (.lst [.int (t : Nat), .int ((2 + k : Nat) : Int)]) B = some (.lst (ps.map V.ref)) := by rw [upd_ne hBp.symm]; exact G5.at_
      refine ⟨B, ps.map V.ref, .ref p2, rfl, rfl, hBB, by rw [List.length_map, G.len]; exact Evl.sz_lt (by omega), ?_⟩
      have G6 := G5.push (rR r6) hp2 [t, 2 + k]
      refine ⟨w0, w2, w3, w4, wl, ?_, ps ++ [p2], _, G6, T.bag ht⟩
      obtain ⟨a1, a2, a3, h6⟩ := r6.ex
      refine r2.of G6.kr ⟨a1, a2, a3, ?_⟩
      rw [upd_ne (nR r2 G.nB).symm, upd_ne (fun z => by rw [← z, h6] at hp2; cases hp2)]
      exact h6
  · obtain ⟨t0, t2, t3, t4, tl, r4, ps, bs, G, T⟩ := h
    have hbl := T.len
    refine ⟨.ref B, t4, .ref R, t0, .int (2 + (n0 : Nat)), t2, _, rfl, RgOk.of_le (by omega) (by omega) (by omega) (by omega), fun l hl => ?_⟩
    have e5 : Ex H3 (upd H3 l (.lst (rgV 0 (2 + (n0 : Nat))))) := Ex.new hl
    have erg : rgV 0 (2 + (n0 : Nat)) = natsV (List.range (2 + n0)) := by
      unfold rgV natsV
      have : ((2 : Int) + (n0 : Nat) - 0).toNat = 2 + n0 := by omega
      rw [this]
      exact List.map_congr_left fun i _ => by rw [Int.zero_add]
    refine ⟨R, S, l, sc, rgV 0 (2 + (n0 : Nat)), rfl, r4.ext e5, SqL.of upd_same, nR r4 hl, by rw [erg, natsV_len, List.length_range]; omega, fun pn ys H6 pm k6 r6 np hpn => ?_⟩
    rw [erg] at pm
    obtain ⟨names, rfl, pnm⟩ := perm_natsV pm
    have G6 := G.keep (nR r2) ((Kr.of e5).trans k6)
    obtain ⟨g, V, hz, T2⟩ := T.named pnm (by omega) (by omega)
    refine ⟨B, pn, bs, names, rfl, G6.dp, SqL.of hpn, fun b hb x hx => ?_, fun b hb z => ?_, by omega, fun b hb => ?_, fun v H7 e7 hd7 => ?_⟩
    · rw [names_len pnm]; exact T.lt b hb x hx
    · have := T.two b hb; rw [z] at this; simp at this
    · have := nodup_le (T.nd b hb) (T.lt b hb); omega
    · exact q v _ H7 ((k12.trans G6.kr).trans (Kr.of e7)) (r6.ext e7) hd7 g V (by rw [hz]; exact T2) (by omega)
end
end Bg

set_option Elab.async false
set_option linter.all false
set_option maxRecDepth 100000
set_option maxHeartbeats 1000000
namespace Bg
open PySem PySem.Spec PyProof.Rows L2
open Evl (Ex)
local macro_rules | `(tactic| walk_at "peel") => `(tactic| dsimp only [tNext, tSeq, tRet, tAndV, tOrV, tNotV, tCB, tCons, tNil, tAsg, tIfS, tDrop, tOp, tTest, tB, tNot, tAnd, tOr, tUn, tIf, tThen, tM1])
section
variable {P : Program} {w : World} {K : PySem.W.Frag} {mg : Str → Option Value} {base : Heap}
/-! #### _law_wrong_bags -/
abbrev s__law_wrong_bags : Stmt := top 33
abbrev N__law_wrong_bags : List Str := ["_law_row", "_law_family_here", "_law_last", "_law_some"]
theorem sc__law_wrong_bags : FnScope N__law_wrong_bags ["_law_row", "_law_family_here"] (defScope s__law_wrong_bags) := ⟨rfl, rfl, rfl, by decide +kernel, rfl, by decide +kernel, by decide +kernel⟩
def wrong1 (F : List PyData) : List PyData := [.none, .tuple [], .list F, .tuple (F.reverse ++ cutD F none (some 1)), .tuple (F ++ cutD F (some (-1)) none), .tuple [.tuple [.int 0]], .tuple [.tuple [.int 1, .int 0]], .tuple [.tuple [.int 0, .int 0]], .tuple [.tuple [.int 0, .int 60]], .tuple [.tuple [.int 0, .bool true]]]
def wrong2 (F L : List PyData) : List PyData := [.tuple [.tuple [.int 0, .none]], .str "0.1", .int 5, .tuple (cutD F none (some (-1)) ++ [.list L]), .tuple (cutD F none (some (-1)) ++ [.tuple (L ++ cutD L (some (-1)) none)]), .tuple [.tuple [.int (-1), .int 0]]]
theorem two_rows {ds : List PyData} (h : ∀ d ∈ ds, rowD d = true) (hl : ds.length ≤ 900) : twoD (.tuple ds) = true := by
  show (ds.all rowD && decide (ds.length ≤ 900)) = true
  rw [List.all_eq_true.mpr h, decide_eq_true hl]; rfl
theorem wrong_ok {fam : List (List Nat)} {fi : List (List Nat)} {fl : List Nat} (g : GoodBags fam) (ef : fam = fi ++ [fl]) (hz : fam.length ≤ 60) : ∀ d ∈ wrong1 (fam.map bagD) ++ wrong2 (fam.map bagD) (natsD fl), twoD d = true ∧ isBagsD d = false := by
  have gl := g.bag fl (by rw [ef]; simp)
  have hl60 : ∀ b ∈ fam, b.length ≤ 60 := fun b hb => nodup_le (g.bag b hb).nd (g.bag b hb).lt
  have hfl := hl60 fl (by rw [ef]; simp)
  have hrow : ∀ d ∈ fam.map bagD, rowD d = true := fun d hd => by
    obtain ⟨b, hb, rfl⟩ := List.mem_map.mp hd
    exact row_bag (by have := hl60 b hb; omega)
  obtain ⟨a, r, ea⟩ : ∃ a r, fam = a :: r := by
    have := g.ne
    cases fam with
    | nil => exact absurd rfl this
    | cons a r => exact ⟨a, r, rfl⟩
  obtain ⟨li, lz, el⟩ : ∃ li lz, fl = li ++ [lz] := by
    rcases List.eq_nil_or_concat fl with z | ⟨L, b, z⟩
    · have := gl.two; rw [z] at this; simp at this
    · exact ⟨L, b, by rw [z, List.concat_eq_append]⟩
  have c1 : cutD (fam.map bagD) none (some 1) = [bagD a] := by rw [ea, List.map_cons]; exact cut_first _ _
  have c2 : cutD (fam.map bagD) (some (-1)) none = [bagD fl] := by rw [ef, List.map_append]; exact cut_last _ _
  have c3 : cutD (fam.map bagD) none (some (-1)) = fi.map bagD := by rw [ef, List.map_append]; exact cut_most _ _
  have c4 : cutD (natsD fl) (some (-1)) none = [.int (lz : Nat)] := by rw [el]; unfold natsD; rw [List.map_append]; exact cut_last _ _
  have hfi : fi.length ≤ 60 := by rw [ef, List.length_append] at hz; omega
  have hrfi : ∀ d ∈ fi.map bagD, rowD d = true := fun d hd => hrow d (by rw [ef, List.map_append]; exact List.mem_append_left _ hd)
  unfold wrong1 wrong2
  rw [c1, c2, c3, c4]
  simp only [List.cons_append, List.nil_append, List.forall_mem_cons]
  refine ⟨⟨rfl, rfl⟩, ⟨rfl, rfl⟩, ⟨?_, rfl⟩, ⟨?_, ?_⟩, ⟨?_, ?_⟩, ⟨by decide +kernel, by decide +kernel⟩, ⟨by decide +kernel, by decide +kernel⟩, ⟨by decide +kernel, by decide +kernel⟩, ⟨by decide +kernel, by decide +kernel⟩, ⟨by decide +kernel, by decide +kernel⟩, ⟨by decide +kernel, by decide +kernel⟩, ⟨by decide +kernel, by decide +kernel⟩, ⟨by decide +kernel, by decide +kernel⟩, ⟨?_, ?_⟩, ⟨?_, ?_⟩, ⟨by decide +kernel, by decide +kernel⟩, fun _ h => nomatch h⟩
  · show ((fam.map bagD).all (fun d => rowD d && !isIntD d) && decide ((fam.map bagD).length ≤ 900)) = true
    rw [Bool.and_eq_true]
    refine ⟨List.all_eq_true.mpr fun d hd => ?_, decide_eq_true (by rw [List.length_map]; omega)⟩
    obtain ⟨b, _, rfl⟩ := List.mem_map.mp hd
    rw [hrow _ hd]; rfl
  · refine two_rows (fun d hd => ?_) (by simp; omega)
    rcases List.mem_append.mp hd with h | h
    · exact hrow d (List.mem_reverse.mp h)
    · rw [List.mem_singleton.mp h]; exact row_bag (by have := hl60 a (by rw [ea]; simp); omega)
  · have := rev_not a r
    rw [← ea] at this
    unfold famD at this
    rw [List.map_append, List.map_reverse] at this
    exact this
  · refine two_rows (fun d hd => ?_) (by simp; omega)
    rcases List.mem_append.mp hd with h | h
    · exact hrow d h
    · rw [List.mem_singleton.mp h]; exact row_bag (by omega)
  · have := twice_not fam fl (by rw [ef]; simp)
    unfold famD at this
    rw [List.map_append] at this
    exact this
  · refine two_rows (fun d hd => ?_) (by simp; omega)
    rcases List.mem_append.mp hd with h | h
    · exact hrfi d h
    · rw [List.mem_singleton.mp h]
      show ((natsD fl).all isIntD && decide ((natsD fl).length ≤ 900)) = true
      rw [List.all_eq_true.mpr (fun d hd => by obtain ⟨x, _, rfl⟩ := List.mem_map.mp hd; rfl), decide_eq_true (by unfold natsD; rw [List.length_map]; omega)]; rfl
  · exact item_not _ (.list (natsD fl)) (by simp) rfl
  · refine two_rows (fun d hd => ?_) (by simp; omega)
    rcases List.mem_append.mp hd with h | h
    · exact hrfi d h
    · rw [List.mem_singleton.mp h]
      have e : natsD fl ++ [.int (lz : Nat)] = natsD (fl ++ [lz]) := by unfold natsD; rw [List.map_append]; rfl
      rw [e]
      exact row_bag (by rw [List.length_append, List.length_singleton]; omega)
  · have e : natsD fl ++ [.int (lz : Nat)] = natsD (fl ++ [lz]) := by unfold natsD; rw [List.map_append]; rfl
    rw [e]
    exact item_not _ (bagD (fl ++ [lz])) (by simp [bagD]) (again_not fl lz (by rw [el]; simp))
theorem sm_of {d : PyData} (h : Small2 d) : SmBags d :=
  ⟨by show (PyData.canLay0 d && decide (d.depth ≤ 64)) = true; rw [h.fit.lay, decide_eq_true (by have := h.fit.dep; omega)]; rfl, h.sm, fun ds e x hx => h.it ds e x hx⟩
def spWrongBags (K : PySem.W.Frag) : Sp := fun vs H Q _ => ∃ (R S : Addr) (v : V) (sc : List Int) (fam : List (List Nat)), vs = [.ref R, v] ∧ Row K H R S sc ∧ Dp K H v (famD fam) ∧ GoodBags fam ∧ fam.length ≤ 60 ∧
  ∀ v' d H', Kr R H H' → Row K H' R S sc → Dp K H' v' d → SmBags d → isBagsD d = false → noR d = true → Q v' H'
theorem ok__law_wrong_bags (F : Fu K mg "_law_wrong_bags" s__law_wrong_bags ["_law_row", "_law_family_here"]) (Z : Bz mg) (G__law_pick : Cal P w K mg base CX0 2 "_law_pick" ["_law_row", "_law_things"] (spPick K)) : Cal P w K mg base CX0 3 "_law_wrong_bags" ["_law_row", "_law_family_here"] (spWrongBags K) := by
  refine F.ok sc__law_wrong_bags (fun vs H Q E h => ?_) (fun f cdv A outer s H vs Q E hr h => ?_)
  · obtain ⟨R, S, v, sc, fam, rfl, _⟩ := h; rfl
  obtain ⟨R, S, v, sc, fam, rfl, rw_, hd, g, hz, q⟩ := h
  refine ⟨_, (pss_cons (ps_set (i := 2) sc__law_wrong_bags.nd rfl (Or.inl rfl) (pe_ix (ix_tupK (K := K)) (pv 1) (pe_un un_neg pe_int) (fun _ _ => rfl)))
    (pss_cons (ps_set (i := 3) sc__law_wrong_bags.nd rfl (Or.inl rfl) (pe_lst (pa_cons pe_non (pa_cons (pe_tup pa_nil) (pa_cons (pe_callTy call_list_of (by rfl) Z.list (by decide +kernel) (pa_cons (pv 1) pa_nil)) (pa_cons (pe_op (op_catB (K := K)) (pe_revT (K := K) (pv 1)) (pe_slice (sl_tupB (K := K)) (pv 1) po_none (po_some pe_int))) (pa_cons (pe_op (op_catB (K := K)) (pv 1) (pe_slice (sl_tupB (K := K)) (pv 1) (po_some (pe_un un_neg pe_int)) po_none)) (pa_cons (pe_tup (pa_cons (pe_tup (pa_cons pe_int pa_nil)) pa_nil)) (pa_cons (pe_tup (pa_cons (pe_tup (pa_cons pe_int (pa_cons pe_int pa_nil))) pa_nil)) (pa_cons (pe_tup (pa_cons (pe_tup (pa_cons pe_int (pa_cons pe_int pa_nil))) pa_nil)) (pa_cons (pe_tup (pa_cons (pe_tup (pa_cons pe_int (pa_cons pe_int pa_nil))) pa_nil)) (pa_cons (pe_tup (pa_cons (pe_tup (pa_cons pe_int (pa_cons pe_bl pa_nil))) pa_nil)) pa_nil))))))))))))
    (pss_one (ps_ret (pe_calC G__law_pick (hr.mono (by decide)) rfl pass0 (pa_cons (pv 0) (pa_cons (pe_op op_cat (pv 3) (pe_lst (pa_cons (pe_tup (pa_cons (pe_tup (pa_cons pe_int (pa_cons pe_non pa_nil))) pa_nil)) (pa_cons pe_str (pa_cons pe_int (pa_cons (pe_op (op_catB (K := K)) (pe_slice (sl_tupB (K := K)) (pv 1) po_none (po_some (pe_un un_neg pe_int))) (pe_tup (pa_cons (pe_callTy call_list_of (by rfl) Z.list (by decide +kernel) (pa_cons (pv 2) pa_nil)) pa_nil))) (pa_cons (pe_op (op_catB (K := K)) (pe_slice (sl_tupB (K := K)) (pv 1) po_none (po_some (pe_un un_neg pe_int))) (pe_tup (pa_cons (pe_op (op_catB (K := K)) (pv 2) (pe_slice (sl_tupB (K := K)) (pv 2) (po_some (pe_un un_neg pe_int)) po_none)) pa_nil))) (pa_cons (pe_tup (pa_cons (pe_tup (pa_cons (pe_un un_neg pe_int) (pa_cons pe_int pa_nil))) pa_nil)) pa_nil)))))))) pa_nil))))))), ?_⟩
  obtain ⟨fi, fl, ef⟩ : ∃ fi fl, fam = fi ++ [fl] := by
    rcases List.eq_nil_or_concat fam with z | ⟨L, b, z⟩
    · exact absurd z g.ne
    · exact ⟨L, b, by rw [z, List.concat_eq_append]⟩
  have hok := wrong_ok g ef hz
  have hfl : fl.length ≤ 60 := nodup_le (g.bag fl (by rw [ef]; simp)).nd (g.bag fl (by rw [ef]; simp)).lt
  have hFl : (fam.map bagD).length ≤ 60 := by rw [List.length_map]; exact hz
  have hcl : ∀ lo hi, (cutD (fam.map bagD) lo hi).length ≤ 60 := fun lo hi => by
    unfold cutD
    rw [List.length_take, List.length_drop]; omega
  have hcl2 : ∀ lo hi, (cutD (natsD fl) lo hi).length ≤ 60 := fun lo hi => by
    have : (natsD fl).length ≤ 60 := by unfold natsD; rw [List.length_map]; exact hfl
    unfold cutD
    rw [List.length_take, List.length_drop]; omega
  have hnl : (natsD fl).length ≤ 60 := by unfold natsD; rw [List.length_map]; exact hfl
  obtain ⟨a1, a2, a3, hR⟩ := rw_.ex
  refine ed_last (es := fi.map bagD) (d := bagD fl) (ed_var (v := v) rfl (by have := hd; unfold famD at this; rw [ef, List.map_append] at this; exact this)) H (Ex.refl H) _ fun vl H1 e1 hvl => ?_
  show tSeq _ _ _ ((L2.start N__law_wrong_bags [V.ref R, v]).set 2 (some vl)) H1
  have fv : EvD K (tVar 1) ((L2.start N__law_wrong_bags [V.ref R, v]).set 2 (some vl)) H1 (.tuple (fam.map bagD)) := ed_var (v := v) rfl (dp_ex e1 hd)
  have lv : EvD K (tVar 2) ((L2.start N__law_wrong_bags [V.ref R, v]).set 2 (some vl)) H1 (.tuple (natsD fl)) := ed_var (v := vl) rfl hvl
  dsimp only [tSeq, tAsg, tLst]
  refine (show EvDs K _ _ H1 (wrong1 (fam.map bagD)) from eds_cons ed_non (eds_cons (ed_tup eds_nil (by decide)) (eds_cons (ed_list rfl fv) (eds_cons (ed_cat (ed_rev fv) (ed_sl fv ep_none (ep_int 1)) (by have := hcl none (some 1); rw [List.length_reverse]; omega)) (eds_cons (ed_cat fv (ed_sl fv (ep_neg 1) ep_none) (by have := hcl (some (-1)) none; omega))
    (eds_cons (ed_tup (eds_cons (ed_tup (eds_cons (ed_int 0) eds_nil) (by decide)) eds_nil) (by decide)) (eds_cons (ed_tup (eds_cons (ed_tup (eds_cons (ed_int 1) (eds_cons (ed_int 0) eds_nil)) (by decide)) eds_nil) (by decide)) (eds_cons (ed_tup (eds_cons (ed_tup (eds_cons (ed_int 0) (eds_cons (ed_int 0) eds_nil)) (by decide)) eds_nil) (by decide))
    (eds_cons (ed_tup (eds_cons (ed_tup (eds_cons (ed_int 0) (eds_cons (ed_int 60) eds_nil)) (by decide)) eds_nil) (by decide)) (eds_cons (ed_tup (eds_cons (ed_tup (eds_cons (ed_int 0) (eds_cons (ed_bl true) eds_nil)) (by decide)) eds_nil) (by decide)) eds_nil)))))))))) H1 (Ex.refl H1) _ fun vs1 H2 e2 hv1 => ?_
  have hl1 := dpa_len hv1
  have hl1' : vs1.length = 10 := hl1
  refine ⟨by rw [hl1']; decide, fun l hl => ?_⟩
  have e3 : Ex H2 (upd H2 l (.lst vs1)) := Ex.new hl
  have hlv : upd H2 l (.lst vs1) l = some (.lst vs1) := upd_same
  show tRet _ _ (((L2.start N__law_wrong_bags [V.ref R, v]).set 2 (some vl)).set 3 (some (V.ref l))) (upd H2 l (.lst vs1))
  generalize upd H2 l (.lst vs1) = H3 at e3 hlv
  have e13 := e2.trans e3
  have fv3 : EvD K (tVar 1) (((L2.start N__law_wrong_bags [V.ref R, v]).set 2 (some vl)).set 3 (some (V.ref l))) H3 (.tuple (fam.map bagD)) := ed_var (v := v) rfl (dp_ex (e1.trans e13) hd)
  have lv3 : EvD K (tVar 2) (((L2.start N__law_wrong_bags [V.ref R, v]).set 2 (some vl)).set 3 (some (V.ref l))) H3 (.tuple (natsD fl)) := ed_var (v := vl) rfl (dp_ex e13 hvl)
  refine ⟨.ref R, rfl, .ref l, rfl, ?_⟩
  dsimp only [tLst]
  refine (show EvDs K _ _ H3 (wrong2 (fam.map bagD) (natsD fl)) from eds_cons (ed_tup (eds_cons (ed_tup (eds_cons (ed_int 0) (eds_cons ed_non eds_nil)) (by decide)) eds_nil) (by decide)) (eds_cons (ed_str _) (eds_cons (ed_int 5) (eds_cons (ed_cat (ed_sl fv3 ep_none (ep_neg 1)) (ed_tup (eds_cons (ed_list rfl lv3) eds_nil) (by simp)) (by have := hcl none (some (-1)); rw [List.length_singleton]; omega))
    (eds_cons (ed_cat (ed_sl fv3 ep_none (ep_neg 1)) (ed_tup (eds_cons (ed_cat lv3 (ed_sl lv3 (ep_neg 1) ep_none) (by have := hcl2 (some (-1)) none; omega)) eds_nil) (by simp)) (by have := hcl none (some (-1)); rw [List.length_singleton]; omega))
    (eds_cons (ed_tup (eds_cons (ed_tup (eds_cons (ed_neg 1) (eds_cons (ed_int 0) eds_nil)) (by decide)) eds_nil) (by decide)) eds_nil)))))) H3 (Ex.refl H3) _ fun vs2 H4 e4 hv2 => ?_
  have hl2' : vs2.length = 6 := dpa_len hv2
  refine ⟨by rw [hl2']; decide, fun l2 hl2 => ?_⟩
  have e5 : Ex H4 (upd H4 l2 (.lst vs2)) := Ex.new hl2
  refine ⟨l, l2, vs1, vs2, rfl, rfl, e5 _ _ (e4 _ _ hlv), upd_same, by rw [hl1', hl2']; decide, fun p hp => ?_⟩
  have e6 : Ex (upd H4 l2 (.lst vs2)) (upd (upd H4 l2 (.lst vs2)) p (.lst (vs1 ++ vs2))) := Ex.new hp
  have eall : Ex H (upd (upd H4 l2 (.lst vs2)) p (.lst (vs1 ++ vs2))) := e1.trans (e13.trans (e4.trans (e5.trans e6)))
  have hda : DpAll K (upd (upd H4 l2 (.lst vs2)) p (.lst (vs1 ++ vs2))) (vs1 ++ vs2) (wrong1 (fam.map bagD) ++ wrong2 (fam.map bagD) (natsD fl)) := dpa_append (dpa_ex (e3.trans (e4.trans (e5.trans e6))) hv1) (dpa_ex (e5.trans e6) hv2)
  refine ⟨R, S, p, sc, vs1 ++ vs2, rfl, rw_.ext eall, SqL.of upd_same, fun z => ?_, by rw [List.length_append]; omega, by rw [List.length_append]; omega, fun k v' H' hk kr row' => ?_⟩
  · have := e5 _ _ (e4 _ _ (e13 _ _ (e1 _ _ hR)))
    rw [z, this] at hp; cases hp
  · obtain ⟨d, hdk, hdp⟩ := dpa_get hda hk
    obtain ⟨h2, hb⟩ := hok d (List.mem_of_getElem? hdk)
    have sm := small_two h2
    obtain ⟨b1, b2, b3, hR'⟩ := (rw_.ext eall).ex
    exact q v' d H' ((Kr.of eall).trans kr) row' (dp_kr hR' kr sm.fit.noR hdp) (sm_of sm) hb sm.fit.noR
/-! #### _law_no_family -/
abbrev s__law_no_family : Stmt := top 34
abbrev N__law_no_family : List Str := ["_law_row", "_law_family_here", "_law_size_here", "_law_some"]
theorem sc__law_no_family : FnScope N__law_no_family ["_law_row", "_law_family_here"] (defScope s__law_no_family) := ⟨rfl, rfl, rfl, by decide +kernel, rfl, by decide +kernel, by decide +kernel⟩
theorem run_sortF {K : PySem.W.Frag} {H : Hp} {v : V} {rows : List (List Nat)} {Q : VK} (hd : Dp K H v (famD rows)) (hne : ∀ b ∈ rows, b ≠ []) (q : ∀ p ys, H p = none → DpAll K H ys ((sortF rows).map bagD) → Q (.ref p) (upd H p (.lst ys))) : rSortedD K [v] H Q := by
  obtain ⟨a, xs, rfl, hs, hx⟩ := dp_tup hd
  have hlen := dpa_len hx
  have h1 : (xs.zip (rows.map bagD)).map (·.1) = xs := List.map_fst_zip (by omega)
  have h2 : (xs.zip (rows.map bagD)).map (·.2) = rows.map bagD := List.map_snd_zip (by omega)
  have hz : ∀ z ∈ xs.zip (rows.map bagD), Dp K H z.1 z.2 := fun z hz => by
    obtain ⟨i, hi⟩ := List.mem_iff_getElem?.mp hz
    rw [List.getElem?_zip_eq_some] at hi
    obtain ⟨d, e1, e2⟩ := dpa_get hx hi.1
    rw [hi.2] at e1
    cases e1
    exact e2
  refine ⟨a, xs.zip (rows.map bagD), rfl, .inr (by rw [h1]; exact hs), hz, by rw [h2]; exact allAlike_bags _, by rw [h2]; exact sortable_bags _ hne, fun z hz => ?_, fun p hp => q p _ hp ?_⟩
  · have : z.2 ∈ rows.map bagD := by rw [← h2]; exact List.mem_map_of_mem hz
    obtain ⟨b, _, e⟩ := List.mem_map.mp this
    rw [← e]; have := depth_bag b; omega
  · rw [← sort_bags (xs.zip (rows.map bagD)) _ h2]
    exact dpa_zs fun z hz2 => hz z ((List.mergeSort_perm _ _).mem_iff.mp hz2)
def spNoFamily (K : PySem.W.Frag) : Sp := fun vs H Q _ => ∃ (R S : Addr) (v : V) (sc : List Int) (fam : List (List Nat)), vs = [.ref R, v] ∧ Row K H R S sc ∧ Dp K H v (famD fam) ∧ GoodBags fam ∧ sz fam ≤ 50 ∧ fam.length ≤ 50 ∧
  ∀ v' fam' H', Kr R H H' → Row K H' R S sc → Dp K H' v' (famD fam') → GoodBags fam' → ¬ Valid fam' → fam'.length ≤ 63 → Q v' H'
theorem ok__law_no_family (F : Fu K mg "_law_no_family" s__law_no_family ["_law_row", "_law_family_here"]) (Z : Bz mg) (G__law_pick : Cal P w K mg base CX0 2 "_law_pick" ["_law_row", "_law_things"] (spPick K)) (G__law_size : Cal P w K mg base CX0 1 "_law_size" ["_law_family_here"] (spSizeOf K)) : Cal P w K mg base CX0 3 "_law_no_family" ["_law_row", "_law_family_here"] (spNoFamily K) := by
  refine F.ok sc__law_no_family (fun vs H Q E h => ?_) (fun f cdv A outer s H vs Q E hr h => ?_)
  · obtain ⟨R, S, v, sc, fam, rfl, _⟩ := h; rfl
  obtain ⟨R, S, v, sc, fam, rfl, rw_, hd, g, hsz, hl, q⟩ := h
  refine ⟨_, (pss_cons (ps_set (i := 2) sc__law_no_family.nd rfl (Or.inl rfl) (pe_calC G__law_size (hr.mono (by decide)) rfl pass0 (pa_cons (pv 1) pa_nil)))
    (pss_cons (ps_set (i := 3) sc__law_no_family.nd rfl (Or.inl rfl) (pe_lst (pa_cons (pe_tup (pa_cons (pe_tup (pa_cons pe_int (pa_cons pe_int pa_nil))) (pa_cons (pe_tup (pa_cons pe_int (pa_cons pe_int pa_nil))) pa_nil))) (pa_cons (pe_tup (pa_cons (pe_tup (pa_cons pe_int (pa_cons pe_int pa_nil))) (pa_cons (pe_tup (pa_cons pe_int (pa_cons pe_int pa_nil))) (pa_cons (pe_tup (pa_cons pe_int (pa_cons pe_int pa_nil))) pa_nil)))) (pa_cons (pe_tup (pa_cons (pe_tup (pa_cons pe_int (pa_cons pe_int (pa_cons pe_int pa_nil)))) (pa_cons (pe_tup (pa_cons pe_int (pa_cons pe_int (pa_cons pe_int pa_nil)))) pa_nil))) (pa_cons (pe_tup (pa_cons (pe_tup (pa_cons pe_int (pa_cons pe_int pa_nil))) pa_nil)) (pa_cons (pe_tup (pa_cons (pe_tup (pa_cons pe_int (pa_cons pe_int pa_nil))) pa_nil)) (pa_cons (pe_tup (pa_cons (pe_tup (pa_cons pe_int (pa_cons pe_int pa_nil))) (pa_cons (pe_tup (pa_cons pe_int (pa_cons pe_int pa_nil))) (pa_cons (pe_tup (pa_cons pe_int (pa_cons pe_int pa_nil))) (pa_cons (pe_tup (pa_cons pe_int (pa_cons pe_int pa_nil))) pa_nil))))) pa_nil))))))))
    (pss_one (ps_ret (pe_tupleB (K := K) rfl Z.tuple (pe_callB (cr_sortedDK (K := K) hr.units) (by rfl) Z.sorted (by decide +kernel) (pa_cons (pe_calC G__law_pick (hr.mono (by decide)) rfl pass0 (pa_cons (pv 0) (pa_cons (pe_op op_cat (pv 3) (pe_lst (pa_cons (pe_op (op_catB (K := K)) (pv 1) (pe_tup (pa_cons (pe_tup (pa_cons (pe_op op_add (pv 2) pe_int) (pa_cons (pe_op op_add (pv 2) pe_int) pa_nil))) pa_nil))) (pa_cons (pe_tup (pa_cons (pe_tup (pa_cons pe_int (pa_cons pe_int pa_nil))) (pa_cons (pe_tup (pa_cons pe_int (pa_cons pe_int (pa_cons pe_int pa_nil)))) pa_nil))) pa_nil)))) pa_nil))) pa_nil))))))), ?_⟩
  have hok := noFams_wrong g hsz hl
  have hnn := noFams_ne g
  obtain ⟨a1, a2, a3, hR⟩ := rw_.ex
  refine ⟨v, rfl, v, fam, rfl, hd, g, by omega, fun H1 e1 => ?_⟩
  show tSeq _ _ _ ((L2.start N__law_no_family [V.ref R, v]).set 2 (some (.int (sz fam : Nat)))) H1
  dsimp only [tSeq, tAsg, tLst]
  refine (show EvDs K _ _ H1 ((noFams fam).dropLast.dropLast.map famD) from
    eds_cons (ed_tup (eds_cons (ed_tup (eds_cons (ed_int 0) (eds_cons (ed_int 1) eds_nil)) (by decide)) (eds_cons (ed_tup (eds_cons (ed_int 2) (eds_cons (ed_int 3) eds_nil)) (by decide)) eds_nil)) (by decide))
    (eds_cons (ed_tup (eds_cons (ed_tup (eds_cons (ed_int 0) (eds_cons (ed_int 1) eds_nil)) (by decide)) (eds_cons (ed_tup (eds_cons (ed_int 0) (eds_cons (ed_int 2) eds_nil)) (by decide)) (eds_cons (ed_tup (eds_cons (ed_int 1) (eds_cons (ed_int 2) eds_nil)) (by decide)) eds_nil))) (by decide))
    (eds_cons (ed_tup (eds_cons (ed_tup (eds_cons (ed_int 0) (eds_cons (ed_int 1) (eds_cons (ed_int 2) eds_nil))) (by decide)) (eds_cons (ed_tup (eds_cons (ed_int 0) (eds_cons (ed_int 1) (eds_cons (ed_int 3) eds_nil))) (by decide)) eds_nil)) (by decide))
    (eds_cons (ed_tup (eds_cons (ed_tup (eds_cons (ed_int 1) (eds_cons (ed_int 2) eds_nil)) (by decide)) eds_nil) (by decide))
    (eds_cons (ed_tup (eds_cons (ed_tup (eds_cons (ed_int 0) (eds_cons (ed_int 2) eds_nil)) (by decide)) eds_nil) (by decide))
    (eds_cons (ed_tup (eds_cons (ed_tup (eds_cons (ed_int 0) (eds_cons (ed_int 1) eds_nil)) (by decide)) (eds_cons (ed_tup (eds_cons (ed_int 1) (eds_cons (ed_int 2) eds_nil)) (by decide)) (eds_cons (ed_tup (eds_cons (ed_int 2) (eds_cons (ed_int 3) eds_nil)) (by decide)) (eds_cons (ed_tup (eds_cons (ed_int 0) (eds_cons (ed_int 3) eds_nil)) (by decide)) eds_nil)))) (by decide)) eds_nil)))))) H1 (Ex.refl H1) _ fun vs1 H2 e2 hv1 => ?_
  have hl1' : vs1.length = 6 := dpa_len hv1
  refine ⟨by rw [hl1']; decide, fun l hl => ?_⟩
  have e3 : Ex H2 (upd H2 l (.lst vs1)) := Ex.new hl
  have hlv : upd H2 l (.lst vs1) l = some (.lst vs1) := upd_same
  show tRet _ _ (((L2.start N__law_no_family [V.ref R, v]).set 2 (some (.int (sz fam : Nat)))).set 3 (some (V.ref l))) (upd H2 l (.lst vs1))
  generalize upd H2 l (.lst vs1) = H3 at e3 hlv
  have e13 := e2.trans e3
  have fv3 : EvD K (tVar 1) (((L2.start N__law_no_family [V.ref R, v]).set 2 (some (.int (sz fam : Nat)))).set 3 (some (V.ref l))) H3 (.tuple (fam.map bagD)) := ed_var (v := v) rfl (dp_ex (e1.trans e13) hd)
  have sv3 : EvD K (tVar 2) (((L2.start N__law_no_family [V.ref R, v]).set 2 (some (.int (sz fam : Nat)))).set 3 (some (V.ref l))) H3 (.int (sz fam : Nat)) := ed_var (v := .int (sz fam : Nat)) rfl (.int _)
  have sv1 := ed_add sv3 (ed_int (K := K) (σ := (((L2.start N__law_no_family [V.ref R, v]).set 2 (some (.int (sz fam : Nat)))).set 3 (some (V.ref l)))) (H := H3) 1)
  have sv2 := ed_add sv3 (ed_int (K := K) (σ := (((L2.start N__law_no_family [V.ref R, v]).set 2 (some (.int (sz fam : Nat)))).set 3 (some (V.ref l)))) (H := H3) 2)
  rw [show ((sz fam : Nat) : Int) + 1 = ((sz fam + 1 : Nat) : Int) by omega] at sv1
  rw [show ((sz fam : Nat) : Int) + 2 = ((sz fam + 2 : Nat) : Int) by omega] at sv2
  refine ⟨.ref R, rfl, .ref l, rfl, ?_⟩
  dsimp only [tLst]
  have ef : famD (fam ++ [[sz fam + 1, sz fam + 2]]) = .tuple (fam.map bagD ++ [.tuple [.int ((sz fam + 1 : Nat) : Int), .int ((sz fam + 2 : Nat) : Int)]]) := by unfold famD; rw [List.map_append]; rfl
  refine (show EvDs K _ _ H3 [famD (fam ++ [[sz fam + 1, sz fam + 2]]), famD [[0, 1], [0, 1, 2]]] from
    eds_cons (by rw [ef]; exact ed_cat fv3 (ed_tup (eds_cons (ed_tup (eds_cons sv1 (eds_cons sv2 eds_nil)) (by simp)) eds_nil) (by simp)) (by simp; omega))
    (eds_cons (ed_tup (eds_cons (ed_tup (eds_cons (ed_int 0) (eds_cons (ed_int 1) eds_nil)) (by decide)) (eds_cons (ed_tup (eds_cons (ed_int 0) (eds_cons (ed_int 1) (eds_cons (ed_int 2) eds_nil))) (by decide)) eds_nil)) (by decide)) eds_nil)) H3 (Ex.refl H3) _ fun vs2 H4 e4 hv2 => ?_
  have hl2' : vs2.length = 2 := dpa_len hv2
  refine ⟨by rw [hl2']; decide, fun l2 hl2 => ?_⟩
  have e5 : Ex H4 (upd H4 l2 (.lst vs2)) := Ex.new hl2
  refine ⟨l, l2, vs1, vs2, rfl, rfl, e5 _ _ (e4 _ _ hlv), upd_same, by rw [hl1', hl2']; decide, fun p hp => ?_⟩
  have e6 : Ex (upd H4 l2 (.lst vs2)) (upd (upd H4 l2 (.lst vs2)) p (.lst (vs1 ++ vs2))) := Ex.new hp
  have eall : Ex H (upd (upd H4 l2 (.lst vs2)) p (.lst (vs1 ++ vs2))) := e1.trans (e13.trans (e4.trans (e5.trans e6)))
  have hda : DpAll K (upd (upd H4 l2 (.lst vs2)) p (.lst (vs1 ++ vs2))) (vs1 ++ vs2) ((noFams fam).map famD) := dpa_append (dpa_ex (e3.trans (e4.trans (e5.trans e6))) hv1) (dpa_ex (e5.trans e6) hv2)
  refine ⟨R, S, p, sc, vs1 ++ vs2, rfl, rw_.ext eall, SqL.of upd_same, fun z => ?_, by rw [List.length_append]; omega, by rw [List.length_append]; omega, fun k v' H' hk kr row' => ?_⟩
  · have := e5 _ _ (e4 _ _ (e13 _ _ (e1 _ _ hR)))
    rw [z, this] at hp; cases hp
  · obtain ⟨d, hdk, hdp⟩ := dpa_get hda hk
    obtain ⟨rows, hrows, rfl⟩ := List.mem_map.mp (List.mem_of_getElem? hdk)
    obtain ⟨b1, b2, b3, hR'⟩ := (rw_.ext eall).ex
    have hdp' : Dp K H' v' (famD rows) := dp_kt (kr.kt hR') (isT_fam rows) hdp
    obtain ⟨gg, nv, hl63⟩ := hok rows hrows
    show rSortedD K [v'] H' (fun x H1 => kTupB K x H1 Q)
    refine run_sortF hdp' (hnn rows hrows) fun pp ys hpp hys => ⟨pp, ys, rfl, .inl (SqL.of upd_same), fun r H5 e7 hr5 => ?_⟩
    have e8 : Ex H' H5 := (Ex.new hpp).trans e7
    exact q (.ref r) (sortF rows) H5 (((Kr.of eall).trans kr).trans (Kr.of e8)) (row'.ext e8) (.tup hr5 (dpa_ex e8 hys)) gg nv (by rw [(sortF_perm rows).length_eq]; exact hl63)
end
end Bg

set_option Elab.async false
set_option linter.all false
set_option maxRecDepth 100000
set_option maxHeartbeats 1000000
namespace Bg
open PySem PySem.Spec PyProof.Rows L2
open Evl (Ex)
open LamX
local macro_rules | `(tactic| walk_at "peel") => `(tactic| dsimp only [tNext, tSeq, tRet, tAndV, tOrV, tNotV, tCB, tCons, tNil, tAsg, tIfS, tDrop, tOp, tTest, tB, tNot, tAnd, tOr, tUn, tIf, tThen, tM1])
section
variable {P : Program} {w : World} {K : PySem.W.Frag} {mg : Str → Option Value} {base : Heap}
/-! #### _law_error -/
abbrev s__law_error : Stmt := top 35
abbrev N__law_error : List Str := ["_law_work", "e"]
theorem sc__law_error : FnScope N__law_error ["_law_work"] (defScope s__law_error) := ⟨rfl, rfl, rfl, by decide +kernel, rfl, by decide +kernel, by decide +kernel⟩
theorem error_gives {X : Cx} {g CN CI CB CF CA : Addr} {cdg : Value} {q : Str} (T : ErrK X.K X.mg CN CI CB CF CA) (Z : Bz X.mg) (mVE : X.mg "ValueError" = none) :
    GivesTo X N__law_error "_law_error" (defScope s__law_error) g cdg (defBody s__law_error) "_law_work" q (TErr CN CI CB CF) := by
  intro f c' s H Q tl act hc h
  refine ⟨_, pss_cons (ps_try_mix (X := (cxOf C8.CX0 X.prog X.w X.K X.mg X.base N__law_error "_law_error" (defScope s__law_error) g cdg X.A X.stack s H C8.E0).nox)
      (tb := fun W D σ H => ∃ Ech : XK, (∀ cls d σ' H', Ech cls d H' → W cls d σ' H') ∧ σ[0]? = some (some (.ref f)) ∧ H c' = some (CodeO c' q) ∧ tl Ech H fun _ H' => D.nx σ H')
      rfl rfl sc__law_error.nd L2.takes0 (fun W pn xe tk _ => ⟨fun pins s' σ H' D I ⟨Ech, hW, h1, h2, h3⟩ => (pss_one (ps_expr (act W pn xe Ech _ _ tk hW))).run pins s' σ H' D I ⟨h1, h2, h3⟩⟩)
      (.plain ⟨rfl, by decide, .inl T.mN⟩ (fun a oe cls d pn _ _ => pss_one (ps_ret pe_str))
      (.named (i := 1) rfl rfl ⟨rfl, by decide, .inl T.mI⟩ (fun a oe cls d pn hz hf => pss_one (ps_ret (pe_ifExp (pt_val (pe_callB (call_isE2 T.xc hz hf) (by rfl) Z.isinstance (by decide +kernel) (pa_cons (pv 1) (pa_cons (pe_bltn (v := .ty "ValueError") (by rfl) mVE (by first | rfl | decide +kernel) rfl) pa_nil)))) (pe_tup (pa_cons pe_str (pa_cons (pe_xf T.xf T.no hz hf (pv 1)) pa_nil))) pe_str)))
      (.plain ⟨rfl, by decide, .inl T.mB⟩ (fun a oe cls d pn _ _ => pss_one (ps_ret pe_str))
      (.plain ⟨rfl, by decide, .inl T.mF⟩ (fun a oe cls d pn _ _ => pss_one (ps_ret pe_str))
      (.plain ⟨rfl, by decide, .inl T.mA⟩ (fun a oe cls d pn _ _ => pss_one (ps_ret pe_str)) .nil)))))) (pss_one (ps_ret pe_str)), ?_⟩
  refine ⟨ErrW CN CI CB CF Q, fun cls d σ' H' hw => ?_, rfl, hc, h⟩
  rcases hw with ⟨rfl, hq⟩ | ⟨rfl, dd, v, rfl, hdd, hq⟩ | ⟨rfl, hq⟩ | ⟨rfl, hq⟩
  · exact ⟨true, T.nn, (fun _ a _ _ => hq), (fun z => nomatch z)⟩
  · refine ⟨false, T.in_, (fun z => nomatch z), fun _ => ⟨true, T.ii, fun _ a ha hl => ?_, (fun z => nomatch z)⟩⟩
    have s1 : (σ'.set 1 (some (V.ref a)))[1]? = some (some (.ref a)) := gs_eq (by rw [hl]; show 1 < 2; decide)
    refine ⟨_, s1, ⟨_, _, true, dd, _, rfl, (fun u r => r), rfl, rfl, hdd, T.ve, _, rfl, iteT ⟨_, s1, rfl, rfl, dd, _, v, rfl, hdd, rfl, (by show 2 ≤ sizeLine; decide), fun p hp => hq p hp⟩⟩⟩
  · exact ⟨false, T.bn, (fun z => nomatch z), fun _ => ⟨false, T.bi, (fun z => nomatch z), fun _ => ⟨true, T.bb, (fun _ a _ _ => hq), (fun z => nomatch z)⟩⟩⟩
  · exact ⟨false, T.fn, (fun z => nomatch z), fun _ => ⟨false, T.fi, (fun z => nomatch z), fun _ => ⟨false, T.fb, (fun z => nomatch z), fun _ => ⟨true, T.ff, (fun _ a _ _ => hq), (fun z => nomatch z)⟩⟩⟩⟩
section
variable {X : Cx} {CN CI CB CF CA c P' : Addr} {T : List (Addr × Str)} {k : Nat} {params : Arguments} {body : Expr} {scope : Scope} {t : XK → TE} {p lpos pos : Pos}
/-- _law_error(lambda: body) -/
theorem pe_err (F : Fu X.K X.mg "_law_error" s__law_error ["_law_work"]) (hg : Gl X "_law_error") (TK : ErrK X.K X.mg CN CI CB CF CA) (Z : Bz X.mg) (mVE : X.mg "ValueError" = none) (TB : TabB X.base X.mg c P') (hcode : X.env.code = .ref c)
    (hmT : (P', X.env.qual ++ "<lambda>") ∈ T) (hu : ∀ p ∈ T, p.1 = P' → p.2 = X.env.qual ++ "<lambda>") (hr : Room (k + 2) X.A) (L : LamS X.env.scope scope) (hdef : defaultsOf params X.env = ([], []))
    (hbind : ∀ (q : Str) (cl : List (Str × Addr)) (pm cv ctv : Value), bindArgs (PySem.W.kla_fn "<lambda>" q params body scope cl pm cv ctv) ⟨[], []⟩ = pure [])
    (hbody : ∀ (A : Around) (outer : List Env) (s : Shared) (H : Hp) (E : XK) (f c' : Addr), Room k (A.deeper (lamEnv X scope s.heap.objs.size f c')) → PE (lamCx X A outer s H E scope f c') body (t E)) :
    PE X (.Call (.Name "_law_error" p) [.Lambda params body scope lpos] [] pos) (tLam T (TErr CN CI CB CF) t) := by
  obtain ⟨g, fd, F1, hm, hb⟩ := F.ex
  obtain ⟨oc, od, kV, doc, pm, an, cdv, ct, osl, rfl, lk, hcd⟩ := F1.ex
  exact pe_lamcall hg hm F1.kp lk hcd hb sc__law_error rfl (.inl rfl) (error_gives TK Z mVE) TB hcode hmT hu hr L hdef hbind hbody
/-- _law_error(lambda y=0: body) -/
theorem pe_errD {y : Str} {iv : Int} {j : Nat} {p0 : Pos} (F : Fu X.K X.mg "_law_error" s__law_error ["_law_work"]) (hg : Gl X "_law_error") (TK : ErrK X.K X.mg CN CI CB CF CA) (Z : Bz X.mg) (mVE : X.mg "ValueError" = none) (TB : TabB X.base X.mg c P') (hcode : X.env.code = .ref c)
    (hmT : (P', X.env.qual ++ "<lambda>") ∈ T) (hu : ∀ p ∈ T, p.1 = P' → p.2 = X.env.qual ++ "<lambda>") (hr : Room (k + 2) X.A) (L : LamD X.N X.env.scope scope y) (hdef : params.defaults = [.Constant (.int iv) j p0]) (hkw : params.kw_defaults = [])
    (hbind : ∀ (T0 c' : Addr) (doc pm ctv : Value), ∃ kk, bindArgs (lamFd X params body scope T0 c' doc pm ctv) ⟨[], []⟩ = (seqItems? (.ref T0) >>= kk) ∧ ∀ v, kk (some #[v]) = pure [(y, v)])
    (hbody : ∀ (A : Around) (outer : List Env) (s : Shared) (H : Hp) (E : XK) (f c' : Addr), Room k (A.deeper (lamEnv X scope s.heap.objs.size f c')) → PE (lamCx X A outer s H E scope f c') body (t E)) :
    PE X (.Call (.Name "_law_error" p) [.Lambda params body scope lpos] [] pos) (tLam T (TErr CN CI CB CF) t) := by
  obtain ⟨g, fd, F1, hm, hb⟩ := F.ex
  obtain ⟨oc, od, kV, doc, pm, an, cdv, ct, osl, rfl, lk, hcd⟩ := F1.ex
  exact pe_lamcallD hg hm F1.kp lk hcd hb sc__law_error rfl (.inl rfl) (error_gives TK Z mVE) TB hcode hmT hu hr L hdef hkw hbind hbody
end
end
end Bg

set_option Elab.async false
set_option linter.all false
set_option maxRecDepth 100000
set_option maxHeartbeats 1000000
/-! the law's expressions as data, wherever the heap has grown but for the tables of code -/
namespace Bg
open PySem PySem.Spec PyProof.Rows L2 LamX
open Evl (Ex)
theorem exn_of {H H' : Hp} (e : Ex H H') : ExtN H H' := fun b o h _ => e b o h
theorem dp_extn {K : PySem.W.Frag} {H H' : Hp} (e : ExtN H H') : ∀ {v : V} {d : PyData}, Dp K H v d → Dp K H' v d
  | _, _, .non => .non
  | _, _, .bl b => .bl b
  | _, _, .int i => .int i
  | _, _, .str x => .str x
  | _, _, .lst h ha => .lst (by
      rcases h with (h | ⟨o, h⟩) | h
      · exact .inl (.inl (e _ _ h fun _ z => nomatch z))
      · exact .inl (.inr ⟨o, e _ _ h fun _ z => nomatch z⟩)
      · exact .inr h) (all ha)
  | _, _, .tup h ha => .tup (by
      rcases h with (h | ⟨o, h⟩) | h
      · exact .inl (.inl (e _ _ h fun _ z => nomatch z))
      · exact .inl (.inr ⟨o, e _ _ h fun _ z => nomatch z⟩)
      · exact .inr h) (all ha)
where all : ∀ {vs : List V} {ds : List PyData}, DpAll K H vs ds → DpAll K H' vs ds
  | _, _, .nil => .nil
  | _, _, .cons h t => .cons (dp_extn e h) (all t)
theorem dpa_extn {K : PySem.W.Frag} {H H' : Hp} (e : ExtN H H') {vs : List V} {ds : List PyData} (h : DpAll K H vs ds) : DpAll K H' vs ds := dp_extn.all e h
theorem Row.extn {K : PySem.W.Frag} {R S : Addr} {H H' : Hp} {sc : List Int} (r : Row K H R S sc) (e : ExtN H H') : Row K H' R S sc := by
  obtain ⟨i, s, d, h⟩ := r.ex
  refine ⟨⟨i, s, d, e _ _ h fun _ z => nomatch z⟩, r.ne, ?_⟩
  rcases r.sq with (h | ⟨o, h⟩) | h
  · exact .inl (.inl (e _ _ h fun _ z => nomatch z))
  · exact .inl (.inr ⟨o, e _ _ h fun _ z => nomatch z⟩)
  · exact .inr h
theorem tabs_kr {K : PySem.W.Frag} {R S : Addr} {H H' : Hp} {sc : List Int} {T : List (Addr × Str)} (r : Row K H R S sc) (k : Kr R H H') (t : Tabs T H) : Tabs T H' := fun p hp => by
  obtain ⟨i, s, d, hR⟩ := r.ex
  obtain ⟨ps, h1, h2, h3⟩ := t p hp
  refine ⟨ps, k.k _ _ (fun z => by rw [z, hR] at h1; cases h1) h1, h2, fun pos cv hc => ?_⟩
  obtain ⟨c, e1, e2⟩ := h3 pos cv hc
  exact ⟨c, e1, k.k _ _ (fun z => by rw [z, hR] at e2; cases e2) e2⟩
theorem tabs_ex {H H' : Hp} {T : List (Addr × Str)} (e : Ex H H') (t : Tabs T H) : Tabs T H' := t.ext e
theorem natsD_inj {a b : List Nat} (h : natsD a = natsD b) : a = b := (List.map_inj_right fun x y z => Int.ofNat.inj (PyData.int.inj z)).mp h
theorem famD_inj {a b : List (List Nat)} (h : famD a = famD b) : a = b := (List.map_inj_right fun x y z => natsD_inj (PyData.tuple.inj z)).mp (PyData.tuple.inj h)
def EvL (K : PySem.W.Frag) (T : List (Addr × Str)) (te : TE) (σ : L2.St) (H : Hp) (d : PyData) : Prop := ∀ H1, ExtN H H1 → Tabs T H1 → ∀ Q : VK, (∀ v H2, ExtN H1 H2 → Tabs T H2 → Dp K H2 v d → Q v H2) → te σ H1 Q
def EvLs (K : PySem.W.Frag) (T : List (Addr × Str)) (ta : TA) (σ : L2.St) (H : Hp) (ds : List PyData) : Prop := ∀ H1, ExtN H H1 → Tabs T H1 → ∀ Q : List V → Hp → Prop, (∀ vs H2, ExtN H1 H2 → Tabs T H2 → DpAll K H2 vs ds → Q vs H2) → ta σ H1 Q
section
variable {K : PySem.W.Frag} {T : List (Addr × Str)} {te tf : TE} {ta : TA} {σ : L2.St} {H : Hp} {d : PyData} {ds es : List PyData}
theorem EvL.extn {H' : Hp} (h : EvL K T te σ H d) (e : ExtN H H') : EvL K T te σ H' d := fun H1 e1 => h H1 (e.trans e1)
theorem EvL.cast {d' : PyData} (h : EvL K T te σ H d) (e : d = d') : EvL K T te σ H d' := e ▸ h
theorem el_int (i : Int) : EvL K T (tC (.int i)) σ H (.int i) := fun H1 _ t Q q => q _ _ (ExtN.refl _) t (.int i)
theorem el_str (z : Str) : EvL K T (tC (.str z)) σ H (.str z) := fun H1 _ t Q q => q _ _ (ExtN.refl _) t (.str z)
theorem el_var {i : Nat} {v : V} (h : σ[i]? = some (some v)) (hd : Dp K H v d) : EvL K T (tVar i) σ H d := fun H1 e t Q q => ⟨v, h, q v H1 (ExtN.refl _) t (dp_extn e hd)⟩
theorem el_nil : EvLs K T tNil σ H [] := fun H1 _ t Q q => q [] H1 (ExtN.refl _) t .nil
theorem el_cons (h : EvL K T te σ H d) (t : EvLs K T ta σ H ds) : EvLs K T (tCons te ta) σ H (d :: ds) := fun H1 e tt Q q =>
  h H1 e tt _ fun v H2 e2 t2 hv => t H2 (e.trans e2) t2 _ fun vs H3 e3 t3 hvs => q _ H3 (e2.trans e3) t3 (.cons (dp_extn e3 hv) hvs)
theorem el_tup (t : EvLs K T ta σ H ds) (hl : ds.length ≤ 1000) : EvL K T (tTup ta) σ H (.tuple ds) := fun H1 e tt Q q =>
  t H1 e tt _ fun vs H2 e2 t2 hvs => ⟨by rw [dpa_len hvs]; exact Nat.le_of_lt (small1000 hl), fun p hp => q _ _ (e2.trans (exn_of (Ex.new hp))) (tabs_ex (Ex.new hp) t2) (.tup (SqT.of upd_same) (dpa_ex (Ex.new hp) hvs))⟩
theorem el_lst (t : EvLs K T ta σ H ds) (hl : ds.length ≤ 1000) : EvL K T (tLst ta) σ H (.list ds) := fun H1 e tt Q q =>
  t H1 e tt _ fun vs H2 e2 t2 hvs => ⟨by rw [dpa_len hvs]; exact Nat.le_of_lt (small1000 hl), fun p hp => q _ _ (e2.trans (exn_of (Ex.new hp))) (tabs_ex (Ex.new hp) t2) (.lst (SqL.of upd_same) (dpa_ex (Ex.new hp) hvs))⟩
theorem el_add {i j : Int} (h : EvL K T te σ H (.int i)) (h' : EvL K T tf σ H (.int j)) : EvL K T (tOp (rI0 fun i j => .int (i + j)) te tf) σ H (.int (i + j)) := fun H1 e tt Q q =>
  h H1 e tt _ fun v H2 e2 t2 hv => h' H2 (e.trans e2) t2 _ fun u H3 e3 t3 hu => by
    cases hv; cases hu
    exact ⟨i, j, rfl, rfl, q _ _ (e2.trans e3) t3 (.int _)⟩
abbrev rAddS : R2 := fun x y H Q => ∃ i j : Str, x = V.str i ∧ y = V.str j ∧ i.length + j.length ≤ sizeLine ∧ Q (V.str (i ++ j)) H
theorem el_cat {a b : List Nat} (h : EvL K T te σ H (.str (tx a))) (h' : EvL K T tf σ H (.str (tx b))) (hl : a.length + b.length ≤ 100000) : EvL K T (tOp rAddS te tf) σ H (.str (tx (a ++ b))) := fun H1 e tt Q q =>
  h H1 e tt _ fun v H2 e2 t2 hv => h' H2 (e.trans e2) t2 _ fun u H3 e3 t3 hu => by
    cases hv; cases hu
    refine ⟨tx a, tx b, rfl, rfl, by rw [tx_len, tx_len]; exact Evl.sz_of hl, q _ _ (e2.trans e3) t3 ?_⟩
    rw [tx_append]; exact .str _
theorem el_len {a : List Nat} (h : EvL K T te σ H (.str (tx a))) (hl : a.length ≤ 100000) : EvL K T (tCB (fun xs H Q => ∃ z : Str, xs = [V.str z] ∧ z.length ≤ sizeLine ∧ Q (V.int ↑z.length) H) (tCons te tNil)) σ H (.int (a.length : Nat)) := fun H1 e tt Q q =>
  h H1 e tt _ fun v H2 e2 t2 hv => by
    cases hv
    refine ⟨tx a, rfl, by rw [tx_len]; exact Evl.sz_of hl, q _ _ e2 t2 ?_⟩
    rw [tx_len]; exact .int _
/-! #### what an error tells -/
variable {CN CI CB CF : Addr}
theorem evl_bad {t : List Nat} {p : Nat} (h : EvL K T te σ H (.str (tx t))) (hl : t.length ≤ 100000) (hr : Reads1 ⟨[], [], 0, t⟩ (.bad p)) :
    EvL K T (tLam T (TErr CN CI CB CF) fun E => tCall (spRead K CF CI CN) [] E (tCons te tNil)) σ H (.tuple [.str "InvalidText", .int (p : Nat)]) := fun H1 e1 t1 Q q =>
  ⟨t1, fun H2 e2 t2 => h H2 (e1.trans e2) t2 _ fun v H3 e3 t3 hv => by
    cases hv
    refine ⟨_, rfl, .inl ⟨t, rfl, hl, fun p' hp' d' H' eH hd => ?_, fun rows hrows => by cases hrows.det hr⟩⟩
    obtain rfl : p' = p := by have := hp'.det hr; cases this; rfl
    exact .inr (.inl ⟨rfl, d', _, rfl, hd, fun a ha => q _ _ ((e2.trans e3).trans (exn_of (eH.trans (Ex.new ha)))) (tabs_ex (eH.trans (Ex.new ha)) t3) (.tup (SqT.of upd_same) (.cons (.str _) (.cons (.int _) .nil)))⟩)⟩
theorem evl_fam {t : List Nat} {rows : List (List Nat)} (h : EvL K T te σ H (.str (tx t))) (hl : t.length ≤ 100000) (hr : Reads1 ⟨[], [], 0, t⟩ (.done rows)) (hz : rows.length ≤ 63) (hn : ¬ (rows.Pairwise (· < ·) ∧ Valid rows)) :
    EvL K T (tLam T (TErr CN CI CB CF) fun E => tCall (spRead K CF CI CN) [] E (tCons te tNil)) σ H (.str "BadFamily") := fun H1 e1 t1 Q q =>
  ⟨t1, fun H2 e2 t2 => h H2 (e1.trans e2) t2 _ fun v H3 e3 t3 hv => by
    cases hv
    refine ⟨_, rfl, .inl ⟨t, rfl, hl, fun p' hp' d' H' eH hd => absurd (hp'.det hr) (fun z => nomatch z), fun rows' hrows => ?_⟩⟩
    obtain rfl : rows' = rows := by have := hrows.det hr; cases this; rfl
    exact ⟨hz, fun up V => absurd ⟨up, V⟩ hn, fun _ H' eH => .inr (.inr (.inr ⟨rfl, q _ _ ((e2.trans e3).trans (exn_of eH)) (tabs_ex eH t3) (.str _)⟩))⟩⟩
theorem evl_nottext {i : Nat} {v : V} (h : σ[i]? = some (some v)) (hn : ∀ H', ExtN H H' → ∃ Ty, TyX K H' v Ty ∧ PySem.W.kitOne K Ty (.type "str") = some false) :
    EvL K T (tLam T (TErr CN CI CB CF) fun E => tCall (spRead K CF CI CN) [] E (tCons (tVar i) tNil)) σ H (.str "NotText") := fun H1 e1 t1 Q q =>
  ⟨t1, fun H2 e2 t2 => ⟨v, h, by
    obtain ⟨Ty, h1, h2⟩ := hn H2 (e1.trans e2)
    exact ⟨_, rfl, .inr ⟨Ty, h1, h2, fun H' eH => .inl ⟨rfl, q _ _ (e2.trans (exn_of eH)) (tabs_ex eH t2) (.str _)⟩⟩⟩⟩⟩
theorem evl_badbags {d : PyData} (h : EvL K T te σ H d) (sm : SmBags d) (hb : isBagsD d = false) :
    EvL K T (tLam T (TErr CN CI CB CF) fun E => tCall (spWrite K CB CF) [] E (tCons te tNil)) σ H (.str "BadBags") := fun H1 e1 t1 Q q =>
  ⟨t1, fun H2 e2 t2 => h H2 (e1.trans e2) t2 _ fun v H3 e3 t3 hv =>
    ⟨v, d, rfl, hv, sm, fun _ H' eH => .inr (.inr (.inl ⟨rfl, q _ _ ((e2.trans e3).trans (exn_of eH)) (tabs_ex eH t3) (.str _)⟩)), fun fam ef g => by
      have := isBags_of g
      rw [← ef, hb] at this; cases this⟩⟩
theorem evl_badfam {fam : List (List Nat)} (h : EvL K T te σ H (famD fam)) (sm : SmBags (famD fam)) (g : GoodBags fam) (nv : ¬ Valid fam) (hz : fam.length ≤ 63) :
    EvL K T (tLam T (TErr CN CI CB CF) fun E => tCall (spDraw K CB CF) [] E (tCons te tNil)) σ H (.str "BadFamily") := fun H1 e1 t1 Q q =>
  ⟨t1, fun H2 e2 t2 => h H2 (e1.trans e2) t2 _ fun v H3 e3 t3 hv =>
    ⟨v, famD fam, rfl, hv, sm, fun hb => (by have := isBags_of g; rw [hb] at this; cases this), fun fam' ef g' => by
      obtain rfl := famD_inj ef
      exact ⟨hz, nv, fun H' eH => .inr (.inr (.inr ⟨rfl, q _ _ ((e2.trans e3).trans (exn_of eH)) (tabs_ex eH t3) (.str _)⟩))⟩⟩⟩
/-- a test that answers c -/
def TL (K : PySem.W.Frag) (T : List (Addr × Str)) (t : TT) (σ : L2.St) (H : Hp) (c : Bool) : Prop := ∀ H1, ExtN H H1 → Tabs T H1 → ∀ Q : Bool → Hp → Prop, (∀ H2, ExtN H1 H2 → Tabs T H2 → Q c H2) → t σ H1 Q
theorem sh_lay {d : PyData} (h : SeqAt.shaped d = true) : d.canLay0 = true := by
  unfold SeqAt.shaped at h
  rw [Bool.and_eq_true] at h; exact h.1
theorem tl_ne (h : EvL K T te σ H d) (h' : EvL K T tf σ H d) (sh : SeqAt.shaped d = true) : TL K T (tTest (tOp (rNeD K) te tf)) σ H false := fun H1 e tt Q q =>
  h H1 e tt _ fun v H2 e2 t2 hv => h' H2 (e.trans e2) t2 _ fun u H3 e3 t3 hu => ⟨d, d, dp_extn e3 hv, hu, sh, sh, false, by rw [SeqAt.eqv_refl d (sh_lay sh)]; rfl, q _ (e2.trans e3) t3⟩
theorem el_eq (h : EvL K T te σ H d) (h' : EvL K T tf σ H d) (sh : SeqAt.shaped d = true) : EvL K T (tOp (rEqD K) te tf) σ H (.bool true) := fun H1 e tt Q q =>
  h H1 e tt _ fun v H2 e2 t2 hv => h' H2 (e.trans e2) t2 _ fun u H3 e3 t3 hu => ⟨d, d, dp_extn e3 hv, hu, sh, sh, by rw [SeqAt.eqv_refl d (sh_lay sh)]; exact q _ _ (e2.trans e3) t3 (.bl true)⟩
theorem tl_or {t u : TT} (h : TL K T t σ H false) (k : TL K T u σ H false) : TL K T (tOr t u) σ H false := fun H1 e1 tt Q q => h H1 e1 tt _ fun H2 e2 t2 => iteF (k H2 (e1.trans e2) t2 _ fun H3 e3 t3 => q H3 (e2.trans e3) t3)
theorem tl_and {t u : TT} {c : Bool} (h : TL K T t σ H c) (k : c = true → TL K T u σ H false) : TL K T (tAnd t u) σ H false := fun H1 e1 tt Q q => h H1 e1 tt _ fun H2 e2 t2 => by
  cases c with
  | true => exact iteT (k rfl H2 (e1.trans e2) t2 _ fun H3 e3 t3 => q H3 (e2.trans e3) t3)
  | false => exact iteF (q H2 e2 t2)
theorem tl_ifs {t : TT} {a b : TS} {D : Ends} (h : TL K T t σ H false) (tt : Tabs T H) (hb : ∀ H', ExtN H H' → Tabs T H' → b D σ H') : tIfS t a b D σ H := h H (ExtN.refl H) tt _ fun H' e t' => iteF (hb H' e t')
theorem evl_run (h : EvL K T te σ H d) (tt : Tabs T H) {Q : VK} (q : ∀ v H', ExtN H H' → Tabs T H' → Dp K H' v d → Q v H') : te σ H Q := h H (ExtN.refl H) tt Q q
end
end Bg

set_option Elab.async false
set_option linter.all false
set_option maxRecDepth 100000
set_option maxHeartbeats 1000000
/-! the law's expressions: the last bead, the text turned about; one step of a block -/
namespace Bg
open PySem PySem.Spec PyProof.Rows L2 LamX
open Evl (Ex)
section
variable {K : PySem.W.Frag} {T : List (Addr × Str)} {te tf : TE} {ta : TA} {σ : L2.St} {H : Hp} {d : PyData} {ds es : List PyData}
theorem el_of (h : ∀ H1, ExtN H H1 → EvD K te σ H1 d) : EvL K T te σ H d := fun H1 e1 t1 Q q => h H1 e1 H1 (Ex.refl H1) _ fun v H2 e2 hv => q v H2 (exn_of e2) (tabs_ex e2 t1) hv
theorem el_stx {z : Str} {l : List Nat} (h : z = tx l) : EvL K T (tC (.str z)) σ H (.str (tx l)) := h ▸ el_str z
theorem run_asg {b : TS} {D : Ends} {i : Nat} (h : EvL K T te σ H d) (tt : Tabs T H) (q : ∀ v H', ExtN H H' → Tabs T H' → Dp K H' v d → b D (σ.set i (some v)) H') : tSeq (tAsg te (gName i)) b D σ H := h H (ExtN.refl H) tt _ q
theorem run_if {t : TT} {a b : TS} {D : Ends} (h : TL K T t σ H false) (tt : Tabs T H) (q : ∀ H', ExtN H H' → Tabs T H' → b D σ H') : tSeq (tIfS t a tNext) b D σ H := h H (ExtN.refl H) tt _ fun H' e t' => iteF (q H' e t')
theorem run_if' {t : TT} {a : TS} {D : Ends} (h : TL K T t σ H false) (tt : Tabs T H) (q : ∀ H', ExtN H H' → Tabs T H' → D.nx σ H') : tIfS t a tNext D σ H := h H (ExtN.refl H) tt _ fun H' e t' => iteF (q H' e t')
theorem el_last {es : List PyData} (h : EvL K T te σ H (.tuple (es ++ [d]))) : EvL K T (tOp (rIxT K) te (tUn (rU fun i => .int (-i)) (tC (.int 1)))) σ H d := fun H1 e1 t1 Q q =>
  h H1 e1 t1 _ fun v H2 e2 t2 hv => by
    have := ed_last (σ := σ) (te := fun _ H Q => Q v H) (d := d) (es := es) (K := K) (H := H2) (fun H3 e3 Q3 q3 => q3 v H3 (Ex.refl _) (dp_ex e3 hv)) H2 (Ex.refl H2) (fun v' H' => Q v' H') (fun v' H' e' hv' => q v' H' (e2.trans (exn_of e')) (tabs_ex e' t2) hv')
    exact this
theorem el_strN {n : Nat} (hn : n < 60) (h : EvL K T te σ H (.int (n : Nat))) : EvL K T (tCB (fun xs H Q => ∃ i : Int, xs = [V.int i] ∧ i.natAbs.log2 < 1920 ∧ Q (V.str (Str.ofString (toString i))) H) (tCons te tNil)) σ H (.str (tx (figs n))) := fun H1 e1 t1 Q q =>
  h H1 e1 t1 _ fun v H2 e2 t2 hv => by
    cases hv
    refine ⟨(n : Nat), rfl, ?_, q _ _ e2 t2 ?_⟩
    · rw [Int.natAbs_natCast]
      exact Nat.lt_of_le_of_lt (Nat.log2_le_self n) (by omega)
    · rw [str_nat hn]; exact .str _
theorem tl_lenT {v : V} {i : Nat} (h : σ[i]? = some (some v)) (hv : Dp K H v (.tuple ds)) : TL K T (tTest (tOp (rI0 fun i j => V.bl (decide (j < i))) (tCB (rLenSq K) (tCons (tVar i) tNil)) (tC (V.int 1)))) σ H (decide (1 < ds.length)) := fun H1 e1 t1 Q q => by
  obtain ⟨a, xs, rfl, ha, hx⟩ := dp_tup (dp_extn e1 hv)
  refine ⟨_, h, a, xs, rfl, .inr ha, (xs.length : Nat), 1, rfl, rfl, _, rfl, ?_⟩
  rw [dpa_len hx]
  have := q H1 (ExtN.refl _) t1
  have e : decide ((1 : Int) < ((ds.length : Nat) : Int)) = decide (1 < ds.length) := decide_eq_decide.mpr (by omega)
  rw [e]; exact this
/-- text told anew, in the order that tl gives -/
theorem ed_join {tl : TE} {fam : List (List Nat)} {xs : List V} {i j : Nat} {vi vj : List Nat} (g : ∀ b ∈ fam, GoodBag b) (hz : fam.length ≤ 63) (hl : xs.length = fam.length) (hx : ∀ (i : Nat) x, xs[i]? = some x → ∃ b, fam[i]? = some b ∧ Dp K H x (bagD b))
    (htl : ∀ H1, Ex H H1 → ∀ R : VK, (∀ a H2, Ex H1 H2 → SqT K H2 a xs → R (.ref a) H2) → tl σ H1 R)
    (hw : ∀ x, wipe ((wipe σ vi).set i (some x)) vi = wipe σ vi) (hwj : ∀ x y, wipe ((wipe ((wipe σ vi).set i (some x)) vj).set j (some y)) vj = wipe ((wipe σ vi).set i (some x)) vj)
    (hi : ∀ x, ((wipe σ vi).set i (some x))[i]? = some (some x)) (hj : ∀ x y, ((wipe ((wipe σ vi).set i (some x)) vj).set j (some y))[j]? = some (some y)) :
    EvD K (tM1 (rJoinB K) (tC (V.str " ")) (tLc (iTup K tl) (gName i) tYes (tM1 (rJoinB K) (tC (V.str ".")) (tLc (iTup K (tVar i)) (gName j) tYes (tCB (fun xs H Q => ∃ i : Int, xs = [V.int i] ∧ i.natAbs.log2 < 1920 ∧ Q (V.str (Str.ofString (toString i))) H) (tCons (tVar j) tNil)) vj)) vi)) σ H (.str (tx (famT fam))) := fun H1 e1 Q q => by
  refine ⟨⟨_, rfl⟩, ?_⟩
  refine goT (xs := xs) (fun D i v H => v = .str (tx (bagT (fam.getD i [])))) (fun _ _ _ _ _ _ h => h) (fun R r => htl H1 e1 R r) (by omega) hw (fun D i x H2 hi' e2 _ Q' q' => ?_) (fun D H2 ys hD e2 hy hyl hp => ?_)
  · obtain ⟨b, hb, hdb⟩ := hx i x hi'
    obtain ⟨c, rfl, hc⟩ := dp_bag (dp_ex (e1.trans e2) hdb)
    have gb := g b (List.mem_of_getElem? hb)
    have hbl := nodup_le gb.nd gb.lt
    rw [getD_get hb] at q'
    refine ⟨⟨_, rfl⟩, ?_⟩
    refine goT (xs := natsV b) (fun D j v H => v = .str (tx (figs (b.getD j 0)))) (fun _ _ _ _ _ _ h => h) (fun R r => ⟨_, hi _, r _ _ (Ex.refl _) hc⟩) (by rw [natsV_len]; omega) (hwj _) (fun D j x H3 hj' e3 _ Q3 q3 => ?_) (fun D2 H3 zs hD2 e3 hzs hzl hp3 => ?_)
    · obtain ⟨n, hbn, rfl⟩ := natsV_get hj'
      have hn := gb.lt n (List.mem_of_getElem? hbn)
      have hlog : ((n : Nat) : Int).natAbs.log2 < 1920 := by
        rw [Int.natAbs_natCast]
        exact Nat.lt_of_le_of_lt (Nat.log2_le_self n) (by omega)
      refine ⟨.int n, hj _ _, (n : Nat), rfl, hlog, q3 _ _ (Ex.refl _) ?_⟩
      rw [str_nat hn, getD_get hbn]
    · have ez : zs = (b.map fun n => tx (figs n)).map V.str := by
        rw [List.map_map]
        refine list_eq_map (f := V.str ∘ fun n => tx (figs n)) (zs := b) (by rw [hzl, natsV_len]) fun j v hv => ?_
        have hj : j < b.length := by have := (List.getElem?_eq_some_iff.mp hv).1; rw [hzl, natsV_len] at this; exact this
        refine ⟨b[j], List.getElem?_eq_getElem hj, ?_⟩
        rw [hp3 j v hv, getD_get (List.getElem?_eq_getElem hj)]; rfl
      rw [ez] at hzs
      refine ⟨Str.ofString ".", D2, b.map fun n => tx (figs n), rfl, rfl, .inl (SqL.of hzs), ?_, q' _ _ e3 ?_⟩
      · have h2 := sum_le (l := (b.map fun n => tx (figs n)).map (·.length)) (k := 2) (by
          intro x hx
          obtain ⟨f, hf, rfl⟩ := List.mem_map.mp hx
          obtain ⟨n, _, rfl⟩ := List.mem_map.mp hf
          rw [tx_len]; exact figs_len n)
        simp only [List.length_map] at h2 ⊢
        have h3 : (Str.ofString ".").length = 1 := by decide
        rw [h3]; omega
      · have e : Str.ofString "." = tx [46] := by decide +kernel
        have e4 : (b.map fun n => tx (figs n)) = (b.map figs).map tx := by rw [List.map_map]; rfl
        rw [e, e4, join_tx]; rfl
  · have ez : ys = (fam.map fun b => tx (bagT b)).map V.str := by
      rw [List.map_map]
      refine list_eq_map (f := V.str ∘ fun b => tx (bagT b)) (zs := fam) (by omega) fun j v hv => ?_
      have hj : j < fam.length := by have := (List.getElem?_eq_some_iff.mp hv).1; omega
      refine ⟨fam[j], List.getElem?_eq_getElem hj, ?_⟩
      rw [hp j v hv, getD_get (List.getElem?_eq_getElem hj)]; rfl
    rw [ez] at hy
    refine ⟨Str.ofString " ", D, fam.map fun b => tx (bagT b), rfl, rfl, .inl (SqL.of hy), ?_, ?_⟩
    · have h2 := sum_le (l := (fam.map fun b => tx (bagT b)).map (·.length)) (k := 180) (by
        intro x hx
        obtain ⟨f, hf, rfl⟩ := List.mem_map.mp hx
        obtain ⟨b, hb, rfl⟩ := List.mem_map.mp hf
        have gb := g b hb
        have hbl := nodup_le gb.nd gb.lt
        have := bagT_len b
        rw [tx_len]; omega)
      simp only [List.length_map] at h2 ⊢
      have h3 : (Str.ofString " ").length = 1 := by decide
      rw [h3]; omega
    · have e : Str.ofString " " = tx [32] := by decide +kernel
      have e4 : (fam.map fun b => tx (bagT b)) = (fam.map bagT).map tx := by rw [List.map_map]; rfl
      rw [e, e4, join_tx]
      exact q _ _ e2 (.str _)
end
theorem sh_fit {d : PyData} (f : Fit 64 d) : SeqAt.shaped d = true := by
  show (PyData.canLay0 d && decide (d.depth ≤ 64)) = true
  rw [f.lay, decide_eq_true f.dep]; rfl
theorem bad_fit (i : Int) : Fit 63 (.tuple [.str "InvalidText", .int i]) := Fit.tuple (by
  simp only [List.forall_mem_cons]
  exact ⟨⟨by decide +kernel, Nat.zero_le _, rfl⟩, fit_int _ rfl, fun _ h => nomatch h⟩)
theorem sh_bad3 (i j k : Int) : SeqAt.shaped (.list [.tuple [.str "InvalidText", .int i], .tuple [.str "InvalidText", .int j], .tuple [.str "InvalidText", .int k]]) = true := sh_fit (Fit.list (by
  simp only [List.forall_mem_cons]
  exact ⟨bad_fit i, bad_fit j, bad_fit k, fun _ h => nomatch h⟩) rfl)
end Bg

set_option Elab.async false
set_option linter.all false
set_option maxRecDepth 100000
set_option maxHeartbeats 1000000
namespace Bg
open PySem PySem.Spec PyProof.Rows L2
open Evl (Ex)
open LamX
local macro_rules | `(tactic| walk_at "peel") => `(tactic| dsimp only [tNext, tSeq, tRet, tAndV, tOrV, tNotV, tCB, tCons, tNil, tAsg, tIfS, tDrop, tOp, tTest, tB, tNot, tAnd, tOr, tUn, tIf, tThen, tM1])
section
variable {P : Program} {w : World} {K : PySem.W.Frag} {mg : Str → Option Value} {base : Heap}
/-! #### law -/
abbrev s_law : Stmt := top 36
abbrev N_law : List Str := ["_law_script", "_law_row", "_law_turn", "_law_family_here", "_law_text", "_law_size_here", "_law_bad", "_law_wrong", "_law_found", "_law_last", "_law_odd", "_law_bag", "_law_bead"]
theorem sc_law : FnScope N_law ["_law_script"] (defScope s_law) := ⟨rfl, rfl, rfl, by decide +kernel, rfl, by decide +kernel, by decide +kernel⟩
def spLaw (K : PySem.W.Frag) (P' : Addr) : Sp := fun vs H Q _ => ∃ (a : Addr) (ns : List Int), vs = [.ref a] ∧ SqL K H a (ns.map V.int) ∧ ns.length ≤ 63 ∧ H P' = some (.tbl #[]) ∧ ∀ H', Q (.bl true) H'
theorem ok_law {CN CI CB CF CA c P' f : Addr} {oc kV doc pm ct : Value} {an od : Option Addr} {osl : Array (Option Value)} (lk : K.lookup f = some ⟨oc, od, .func (PySem.W.fnOf "law" "law" (defArgs s_law) (defBody s_law) (defScope s_law) .none kV doc pm an (.ref c) ct), osl⟩) (hcd : PySem.W.codeIn K (.ref c) "law" = true)
    (TB : TabB base mg c P') (F__law_error : Fu K mg "_law_error" s__law_error ["_law_work"]) (Z : Bz mg) (TK : ErrK K mg CN CI CB CF CA) (mVE : mg "ValueError" = none)
    (G_read : Cal P w K mg base (L2.CX P w) 5 "read" ["text"] (spRead K CF CI CN)) (G_write : Cal P w K mg base (L2.CX P w) 6 "write" ["family"] (spWrite K CB CF)) (G_draw : Cal P w K mg base (L2.CX P w) 6 "draw" ["family"] (spDraw K CB CF))
    (G__law_family : Cal P w K mg base CX0 3 "_law_family" ["_law_row", "_law_most"] (spFamily K)) (G__law_size : Cal P w K mg base CX0 1 "_law_size" ["_law_family_here"] (spSizeOf K)) (G__law_wrong_bags : Cal P w K mg base CX0 3 "_law_wrong_bags" ["_law_row", "_law_family_here"] (spWrongBags K)) (G__law_no_family : Cal P w K mg base CX0 3 "_law_no_family" ["_law_row", "_law_family_here"] (spNoFamily K))
    (G__law_pick : Cal P w K mg base CX0 2 "_law_pick" ["_law_row", "_law_things"] (spPick K)) :
    FnOk P w K mg base CX0 9 f (PySem.W.fnOf "law" "law" (defArgs s_law) (defBody s_law) (defScope s_law) .none kV doc pm an (.ref c) ct) ["_law_script"] (spLaw K P') := by
  refine fn_of lk hcd sc_law (fun vs H Q E h => ?_) fun A outer s H vs Q E hr h => ?_
  · obtain ⟨a, ns, rfl, _⟩ := h; rfl
  obtain ⟨a, ns, rfl, hs, hl, hP, q⟩ := h
  have hcode : (.ref c : Value) = .ref c := rfl
  have hmT : (P', (("law.<locals>." : Str) ++ "<lambda>")) ∈ [(P', (("law.<locals>." : Str) ++ "<lambda>"))] := List.mem_cons_self
  have hu : ∀ p ∈ [(P', (("law.<locals>." : Str) ++ "<lambda>"))], p.1 = P' → p.2 = (("law.<locals>." : Str) ++ "<lambda>") := fun p hp _ => by rw [List.mem_singleton.mp hp]
  suffices h : ∃ t, PSs (cxOf CX0 P w K mg base N_law "law" (defScope s_law) f (.ref c) A outer s H E).nox (defBody s_law) t ∧ t { nx := fun _ H' => Q .non H', rt := Q } (start N_law [.ref a]) H by
    obtain ⟨t, h1, h2⟩ := h
    exact ⟨t, h1.nox, h2⟩
  refine ⟨_, (pss_cons (ps_set (i := 1) sc_law.nd rfl (Or.inl rfl) (pe_lst (pa_cons (pv 0) (pa_cons pe_int (pa_cons pe_int (pa_cons pe_int pa_nil))))))
    (pss_cons (ps_for PassesOwn.never rfl (pi_range1 rfl Z.range (pa_cons pe_int pa_nil)) (pg_name (i := 2) sc_law.nd rfl (Or.inl rfl)) (pss_cons (ps_set (i := 3) sc_law.nd rfl (Or.inr rfl) (pe_calC G__law_family (hr.mono (by decide)) rfl pass0 (pa_cons (pv 1) (pa_cons pe_int pa_nil))))
    (pss_cons (ps_asg (pe_tup (pa_cons (pe_calC G_write (hr.mono (by decide)) rfl passL (pa_cons (pv 3) pa_nil)) (pa_cons (pe_calC G__law_size (hr.mono (by decide)) rfl pass0 (pa_cons (pv 3) pa_nil)) pa_nil))) (pg_tup rfl (pgs_cons (pg_name (i := 4) sc_law.nd rfl (Or.inr rfl)) (pgs_cons (pg_name (i := 5) sc_law.nd rfl (Or.inl rfl)) pgs_nil))))
    (pss_cons (ps_asg (pe_tup (pa_cons (pe_calC G__law_wrong_bags (hr.mono (by decide)) rfl pass0 (pa_cons (pv 1) (pa_cons (pv 3) pa_nil))) (pa_cons (pe_calC G__law_no_family (hr.mono (by decide)) rfl pass0 (pa_cons (pv 1) (pa_cons (pv 3) pa_nil))) pa_nil))) (pg_tup rfl (pgs_cons (pg_name (i := 6) sc_law.nd rfl (Or.inr rfl)) (pgs_cons (pg_name (i := 7) sc_law.nd rfl (Or.inr rfl)) pgs_nil))))
    (pss_cons (ps_set (i := 8) sc_law.nd rfl (Or.inl rfl) (pe_lst (pa_cons (pe_err (k := 6) (scope := ⟨.function, [("_law_text", .free), ("read", .globalImplicit)], false, false, []⟩) F__law_error rfl TK Z mVE TB hcode hmT hu (hr.mono (by decide)) (lamS_by (sc := defScope s_law) (by decide +kernel)) rfl (fun _ _ _ _ _ => rfl) (fun _ _ _ _ E _ _ hr => (pe_calC G_read (hr.mono (by decide)) rfl (passes_call (takes_of rfl rfl rfl rfl) (fun _ _ _ _ h => h)) (pa_cons (pe_op op_add_str (pv 4) pe_str) pa_nil)))) (pa_cons (pe_errD (k := 6) (y := "_law_a") (scope := ⟨.function, [("_law_a", .local), ("_law_text", .free), ("read", .globalImplicit)], false, false, []⟩) F__law_error rfl TK Z mVE TB hcode hmT hu (hr.mono (by decide)) (lamD_by (N := N_law) (sc := defScope s_law) (by decide +kernel)) rfl rfl (fun _ _ _ _ _ => ⟨_, rfl, fun _ => rfl⟩) (fun _ _ _ _ E _ _ hr => (pe_calC G_read (hr.mono (by decide)) rfl (passes_call (takes_of rfl rfl rfl rfl) (fun _ _ _ _ h => h)) (pa_cons (pe_op op_add_str (pv 4) pe_str) pa_nil)))) (pa_cons (pe_errD (k := 6) (y := "_law_b") (scope := ⟨.function, [("_law_b", .local), ("_law_text", .free), ("read", .globalImplicit)], false, false, []⟩) F__law_error rfl TK Z mVE TB hcode hmT hu (hr.mono (by decide)) (lamD_by (N := N_law) (sc := defScope s_law) (by decide +kernel)) rfl rfl (fun _ _ _ _ _ => ⟨_, rfl, fun _ => rfl⟩) (fun _ _ _ _ E _ _ hr => (pe_calC G_read (hr.mono (by decide)) rfl (passes_call (takes_of rfl rfl rfl rfl) (fun _ _ _ _ h => h)) (pa_cons (pe_op op_add_str pe_str (pv 4)) pa_nil)))) pa_nil)))))
    (pss_cons (ps_if (pt_cmpR (op_neDK (K := K) hr.units) (pv 8) (pe_lst (pa_cons (pe_tup (pa_cons pe_str (pa_cons (pe_op op_add (pe_callB call_len_str (by rfl) Z.len PySem.boot_len (pa_cons (pv 4) pa_nil)) pe_int) pa_nil))) (pa_cons (pe_tup (pa_cons pe_str (pa_cons (pe_op op_add (pe_callB call_len_str (by rfl) Z.len PySem.boot_len (pa_cons (pv 4) pa_nil)) pe_int) pa_nil))) (pa_cons (pe_tup (pa_cons pe_str (pa_cons pe_int pa_nil))) pa_nil)))) (nomark _)) (pss_one (ps_ret pe_bl)) pss_nil)
    (pss_cons (ps_set (i := 9) sc_law.nd rfl (Or.inr rfl) (pe_callTy call_str_int (by rfl) Z.str (by decide +kernel) (pa_cons (pe_ix (ix_tupK (K := K)) (pe_ix (ix_tupK (K := K)) (pv 3) (pe_un un_neg pe_int) (fun _ _ => rfl)) (pe_un un_neg pe_int) (fun _ _ => rfl)) pa_nil)))
    (pss_cons (ps_set (i := 8) sc_law.nd rfl (Or.inl rfl) (pe_lst (pa_cons (pe_err (k := 6) (scope := ⟨.function, [("_law_last", .free), ("_law_text", .free), ("read", .globalImplicit)], false, false, []⟩) F__law_error rfl TK Z mVE TB hcode hmT hu (hr.mono (by decide)) (lamS_by (sc := defScope s_law) (by decide +kernel)) rfl (fun _ _ _ _ _ => rfl) (fun _ _ _ _ E _ _ hr => (pe_calC G_read (hr.mono (by decide)) rfl (passes_call (takes_of rfl rfl rfl rfl) (fun _ _ _ _ h => h)) (pa_cons (pe_op op_add_str (pe_op op_add_str (pv 4) pe_str) (pv 9)) pa_nil)))) (pa_cons (pe_errD (k := 6) (y := "_law_a") (scope := ⟨.function, [("_law_a", .local), ("_law_text", .free), ("read", .globalImplicit)], false, false, []⟩) F__law_error rfl TK Z mVE TB hcode hmT hu (hr.mono (by decide)) (lamD_by (N := N_law) (sc := defScope s_law) (by decide +kernel)) rfl rfl (fun _ _ _ _ _ => ⟨_, rfl, fun _ => rfl⟩) (fun _ _ _ _ E _ _ hr => (pe_calC G_read (hr.mono (by decide)) rfl (passes_call (takes_of rfl rfl rfl rfl) (fun _ _ _ _ h => h)) (pa_cons (pe_op op_add_str (pv 4) pe_str) pa_nil)))) (pa_cons (pe_errD (k := 6) (y := "_law_b") (scope := ⟨.function, [("_law_b", .local), ("_law_last", .free), ("_law_text", .free), ("read", .globalImplicit)], false, false, []⟩) F__law_error rfl TK Z mVE TB hcode hmT hu (hr.mono (by decide)) (lamD_by (N := N_law) (sc := defScope s_law) (by decide +kernel)) rfl rfl (fun _ _ _ _ _ => ⟨_, rfl, fun _ => rfl⟩) (fun _ _ _ _ E _ _ hr => (pe_calC G_read (hr.mono (by decide)) rfl (passes_call (takes_of rfl rfl rfl rfl) (fun _ _ _ _ h => h)) (pa_cons (pe_op op_add_str (pe_op op_add_str (pv 4) pe_str) (pv 9)) pa_nil)))) pa_nil)))))
    (pss_cons (ps_if (pt_cmpR (op_neDK (K := K) hr.units) (pv 8) (pe_lst (pa_cons (pe_tup (pa_cons pe_str (pa_cons (pe_op op_add (pe_callB call_len_str (by rfl) Z.len PySem.boot_len (pa_cons (pv 4) pa_nil)) pe_int) pa_nil))) (pa_cons (pe_tup (pa_cons pe_str (pa_cons (pe_op op_add (pe_callB call_len_str (by rfl) Z.len PySem.boot_len (pa_cons (pv 4) pa_nil)) pe_int) pa_nil))) (pa_cons (pe_tup (pa_cons pe_str (pa_cons (pe_op op_add (pe_op op_add (pe_callB call_len_str (by rfl) Z.len PySem.boot_len (pa_cons (pv 4) pa_nil)) pe_int) (pe_callB call_len_str (by rfl) Z.len PySem.boot_len (pa_cons (pv 9) pa_nil))) pa_nil))) pa_nil)))) (nomark _)) (pss_one (ps_ret pe_bl)) pss_nil)
    (pss_cons (ps_set (i := 8) sc_law.nd rfl (Or.inl rfl) (pe_lst (pa_cons (pe_err (k := 6) (scope := ⟨.function, [("_law_text", .free), ("read", .globalImplicit)], false, false, []⟩) F__law_error rfl TK Z mVE TB hcode hmT hu (hr.mono (by decide)) (lamS_by (sc := defScope s_law) (by decide +kernel)) rfl (fun _ _ _ _ _ => rfl) (fun _ _ _ _ E _ _ hr => (pe_calC G_read (hr.mono (by decide)) rfl (passes_call (takes_of rfl rfl rfl rfl) (fun _ _ _ _ h => h)) (pa_cons (pe_op op_add_str (pv 4) pe_str) pa_nil)))) (pa_cons (pe_errD (k := 6) (y := "_law_a") (scope := ⟨.function, [("_law_a", .local), ("_law_text", .free), ("read", .globalImplicit)], false, false, []⟩) F__law_error rfl TK Z mVE TB hcode hmT hu (hr.mono (by decide)) (lamD_by (N := N_law) (sc := defScope s_law) (by decide +kernel)) rfl rfl (fun _ _ _ _ _ => ⟨_, rfl, fun _ => rfl⟩) (fun _ _ _ _ E _ _ hr => (pe_calC G_read (hr.mono (by decide)) rfl (passes_call (takes_of rfl rfl rfl rfl) (fun _ _ _ _ h => h)) (pa_cons (pe_op op_add_str pe_str (pv 4)) pa_nil)))) (pa_cons (pe_errD (k := 6) (y := "_law_b") (scope := ⟨.function, [("_law_b", .local), ("_law_text", .free), ("read", .globalImplicit)], false, false, []⟩) F__law_error rfl TK Z mVE TB hcode hmT hu (hr.mono (by decide)) (lamD_by (N := N_law) (sc := defScope s_law) (by decide +kernel)) rfl rfl (fun _ _ _ _ _ => ⟨_, rfl, fun _ => rfl⟩) (fun _ _ _ _ E _ _ hr => (pe_calC G_read (hr.mono (by decide)) rfl (passes_call (takes_of rfl rfl rfl rfl) (fun _ _ _ _ h => h)) (pa_cons (pe_op op_add_str (pv 4) pe_str) pa_nil)))) pa_nil)))))
    (pss_cons (ps_if (pt_cmpR (op_neDK (K := K) hr.units) (pv 8) (pe_lst (pa_cons (pe_tup (pa_cons pe_str (pa_cons (pe_op op_add (pe_callB call_len_str (by rfl) Z.len PySem.boot_len (pa_cons (pv 4) pa_nil)) pe_int) pa_nil))) (pa_cons (pe_tup (pa_cons pe_str (pa_cons pe_int pa_nil))) (pa_cons (pe_tup (pa_cons pe_str (pa_cons (pe_op op_add (pe_callB call_len_str (by rfl) Z.len PySem.boot_len (pa_cons (pv 4) pa_nil)) pe_int) pa_nil))) pa_nil)))) (nomark _)) (pss_one (ps_ret pe_bl)) pss_nil)
    (pss_cons (ps_set (i := 10) sc_law.nd rfl (Or.inr rfl) (pe_calC G__law_pick (hr.mono (by decide)) rfl pass0 (pa_cons (pv 1) (pa_cons (pe_lst (pa_cons pe_non (pa_cons pe_int (pa_cons (pe_lst (pa_cons (pv 4) pa_nil)) (pa_cons (pe_tup (pa_cons (pv 4) pa_nil)) (pa_cons pe_dnewK pa_nil)))))) pa_nil))))
    (pss_cons (ps_set (i := 8) sc_law.nd rfl (Or.inl rfl) (pe_lst (pa_cons (pe_err (k := 6) (scope := ⟨.function, [("_law_odd", .free), ("read", .globalImplicit)], false, false, []⟩) F__law_error rfl TK Z mVE TB hcode hmT hu (hr.mono (by decide)) (lamS_by (sc := defScope s_law) (by decide +kernel)) rfl (fun _ _ _ _ _ => rfl) (fun _ _ _ _ E _ _ hr => (pe_calC G_read (hr.mono (by decide)) rfl (passes_call (takes_of rfl rfl rfl rfl) (fun _ _ _ _ h => h)) (pa_cons (pv 10) pa_nil)))) (pa_cons (pe_errD (k := 6) (y := "_law_a") (scope := ⟨.function, [("_law_a", .local), ("_law_bad", .free), ("write", .globalImplicit)], false, false, []⟩) F__law_error rfl TK Z mVE TB hcode hmT hu (hr.mono (by decide)) (lamD_by (N := N_law) (sc := defScope s_law) (by decide +kernel)) rfl rfl (fun _ _ _ _ _ => ⟨_, rfl, fun _ => rfl⟩) (fun _ _ _ _ E _ _ hr => (pe_calC G_write (hr.mono (by decide)) rfl (passes_call (takes_of rfl rfl rfl rfl) (fun _ _ _ _ h => h)) (pa_cons (pv 6) pa_nil)))) (pa_cons (pe_errD (k := 6) (y := "_law_b") (scope := ⟨.function, [("_law_b", .local), ("_law_wrong", .free), ("draw", .globalImplicit)], false, false, []⟩) F__law_error rfl TK Z mVE TB hcode hmT hu (hr.mono (by decide)) (lamD_by (N := N_law) (sc := defScope s_law) (by decide +kernel)) rfl rfl (fun _ _ _ _ _ => ⟨_, rfl, fun _ => rfl⟩) (fun _ _ _ _ E _ _ hr => (pe_calC G_draw (hr.mono (by decide)) rfl (passes_call (takes_of rfl rfl rfl rfl) (fun _ _ _ _ h => h)) (pa_cons (pv 7) pa_nil)))) pa_nil)))))
    (pss_cons (ps_if (PW.pt (pw_or (pt_cmpR (op_neDK (K := K) hr.units) (pv 8) (pe_lst (pa_cons pe_str (pa_cons pe_str (pa_cons pe_str pa_nil)))) (nomark _)) (pw_or1 (pt_cmpR (op_neDK (K := K) hr.units) (pe_err (k := 6) (scope := ⟨.function, [("_law_text", .free), ("read", .globalImplicit)], false, false, []⟩) F__law_error rfl TK Z mVE TB hcode hmT hu (hr.mono (by decide)) (lamS_by (sc := defScope s_law) (by decide +kernel)) rfl (fun _ _ _ _ _ => rfl) (fun _ _ _ _ E _ _ hr => (pe_calC G_read (hr.mono (by decide)) rfl (passes_call (takes_of rfl rfl rfl rfl) (fun _ _ _ _ h => h)) (pa_cons (pe_op op_add_str (pe_op op_add_str (pv 4) pe_str) (pv 4)) pa_nil)))) pe_str (nomark _))))) (pss_one (ps_ret pe_bl)) pss_nil)
    (pss_one (ps_if (PW.pt (pw_and (pt_cmpR op_gt (pe_callB (call_len_seqK (K := K)) (by rfl) Z.len PySem.boot_len (pa_cons (pv 3) pa_nil)) pe_int (nomark _)) (pw_and1 (pt_cmpR (op_neDK (K := K) hr.units) (pe_err (k := 6) (scope := ⟨.function, [("_law_family_here", .free), ("read", .globalImplicit)], false, false, [("fast", .str "_law_bag"), ("fast", .str "_law_bead"), ("fast", .str "_law_family_here")]⟩) F__law_error rfl TK Z mVE TB hcode hmT hu (hr.mono (by decide)) (lamS_by (sc := defScope s_law) (by decide +kernel)) rfl (fun _ _ _ _ _ => rfl) (fun _ _ _ _ E _ _ hr => (pe_calC G_read (hr.mono (by decide)) rfl (passes_call (takes_of rfl rfl rfl rfl) (fun _ _ _ _ h => h)) (pa_cons (pe_joinB (K := K) pe_str (pe_lc (own := [("_law_bag", 11)]) (g := gName 11) rfl sc_law.nd (pi_tupK (K := K) (pe_revT (K := K) (pv 3))) (blkOk_by (own := [("_law_bag", 11)]) (N := N_law) (sc := ⟨.function, [("_law_family_here", .free), ("read", .globalImplicit)], false, false, [("fast", .str "_law_bag"), ("fast", .str "_law_bead"), ("fast", .str "_law_family_here")]⟩) (by decide +kernel)) (fun _ _ _ _ _ => (pg_name (i := 11) sc_law.nd rfl (Or.inl rfl))) (fun _ _ _ _ _ => pts_nil) (fun _ _ _ _ _ => (pe_joinB (K := K) pe_str (pe_lc (own := [("_law_bead", 12)]) (g := gName 12) rfl sc_law.nd (pi_tupK (K := K) (pv 11)) (blkOk_by (own := [("_law_bead", 12)]) (N := N_law) (sc := (relS ⟨.function, [(".0", .local), ("_law_bag", .local)], false, false, []⟩ ⟨.function, [("_law_family_here", .free), ("read", .globalImplicit)], false, false, [("fast", .str "_law_bag"), ("fast", .str "_law_bead"), ("fast", .str "_law_family_here")]⟩)) (by decide +kernel)) (fun _ _ _ _ _ => (pg_name (i := 12) sc_law.nd rfl (Or.inl rfl))) (fun _ _ _ _ _ => pts_nil) (fun _ _ _ _ _ => (pe_callTy call_str_int (by rfl) Z.str (by decide +kernel) (pa_cons (pv 12) pa_nil)))))))) pa_nil)))) pe_str (nomark _))))) (pss_one (ps_ret pe_bl)) pss_nil))))))))))))))))
    (pss_cons (ps_set (i := 8) sc_law.nd rfl (Or.inl rfl) (pe_lst (pa_cons (pe_err (k := 6) (scope := ⟨.function, [("read", .globalImplicit)], false, false, []⟩) F__law_error rfl TK Z mVE TB hcode hmT hu (hr.mono (by decide)) (lamS_by (sc := defScope s_law) (by decide +kernel)) rfl (fun _ _ _ _ _ => rfl) (fun _ _ _ _ E _ _ hr => (pe_calC G_read (hr.mono (by decide)) rfl (passes_call (takes_of rfl rfl rfl rfl) (fun _ _ _ _ h => h)) (pa_cons pe_str pa_nil)))) (pa_cons (pe_errD (k := 6) (y := "_law_a") (scope := ⟨.function, [("_law_a", .local), ("read", .globalImplicit)], false, false, []⟩) F__law_error rfl TK Z mVE TB hcode hmT hu (hr.mono (by decide)) (lamD_by (N := N_law) (sc := defScope s_law) (by decide +kernel)) rfl rfl (fun _ _ _ _ _ => ⟨_, rfl, fun _ => rfl⟩) (fun _ _ _ _ E _ _ hr => (pe_calC G_read (hr.mono (by decide)) rfl (passes_call (takes_of rfl rfl rfl rfl) (fun _ _ _ _ h => h)) (pa_cons pe_str pa_nil)))) (pa_cons (pe_errD (k := 6) (y := "_law_b") (scope := ⟨.function, [("_law_b", .local), ("read", .globalImplicit)], false, false, []⟩) F__law_error rfl TK Z mVE TB hcode hmT hu (hr.mono (by decide)) (lamD_by (N := N_law) (sc := defScope s_law) (by decide +kernel)) rfl rfl (fun _ _ _ _ _ => ⟨_, rfl, fun _ => rfl⟩) (fun _ _ _ _ E _ _ hr => (pe_calC G_read (hr.mono (by decide)) rfl (passes_call (takes_of rfl rfl rfl rfl) (fun _ _ _ _ h => h)) (pa_cons pe_str pa_nil)))) (pa_cons (pe_errD (k := 6) (y := "_law_c") (scope := ⟨.function, [("_law_c", .local), ("read", .globalImplicit)], false, false, []⟩) F__law_error rfl TK Z mVE TB hcode hmT hu (hr.mono (by decide)) (lamD_by (N := N_law) (sc := defScope s_law) (by decide +kernel)) rfl rfl (fun _ _ _ _ _ => ⟨_, rfl, fun _ => rfl⟩) (fun _ _ _ _ E _ _ hr => (pe_calC G_read (hr.mono (by decide)) rfl (passes_call (takes_of rfl rfl rfl rfl) (fun _ _ _ _ h => h)) (pa_cons pe_str pa_nil)))) pa_nil))))))
    (pss_one (ps_ret (pe_and (pe_cmpR (op_eqDK (K := K) hr.units) (pv 8) (pe_lst (pa_cons (pe_tup (pa_cons pe_str (pa_cons pe_int pa_nil))) (pa_cons (pe_tup (pa_cons pe_str (pa_cons pe_int pa_nil))) (pa_cons (pe_tup (pa_cons pe_str (pa_cons pe_int pa_nil))) (pa_cons pe_str pa_nil))))) (nomark _)) (pe_one (pe_cmpR (op_eqDK (K := K) hr.units) (pe_err (k := 6) (scope := ⟨.function, [("read", .globalImplicit)], false, false, []⟩) F__law_error rfl TK Z mVE TB hcode hmT hu (hr.mono (by decide)) (lamS_by (sc := defScope s_law) (by decide +kernel)) rfl (fun _ _ _ _ _ => rfl) (fun _ _ _ _ E _ _ hr => (pe_calC G_read (hr.mono (by decide)) rfl (passes_call (takes_of rfl rfl rfl rfl) (fun _ _ _ _ h => h)) (pa_cons pe_str pa_nil)))) pe_str (nomark _))))))))), ?_⟩
  let T : List (Addr × Str) := [(P', (("law.<locals>." : Str) ++ "<lambda>"))]
  have t00 : Tabs T H := fun p hp => by rw [List.mem_singleton.mp hp]; exact TabS.nil hP
  refine ⟨V.ref a, rfl, (by show 4 ≤ sizeLine; decide), fun R hR => ?_⟩
  have tR : Tabs T (upd H R (.lst [.ref a, .int 0, .int 5267, .int 0])) := tabs_ex (Ex.new hR) t00
  have aR : a ≠ R ∨ ∀ H' : Hp, SqL K H' a (ns.map V.int) := by
    rcases hs with (h | ⟨o, h⟩) | h
    · exact .inl fun z => by rw [z, hR] at h; cases h
    · exact .inl fun z => by rw [z, hR] at h; cases h
    · exact .inr fun _ => .inr h
  have rowR : Row K (upd H R (.lst [.ref a, .int 0, .int 5267, .int 0])) R a ns := ⟨⟨0, 5267, 0, upd_same⟩, aR, Evl.ex_l (Ex.new hR) hs⟩
  generalize upd H R (.lst [.ref a, .int 0, .int 5267, .int 0]) = HR at tR rowR
  refine ⟨3, rfl, by decide, by decide, ?_⟩
  refine for_range (lo := 0) (n := 3) (fun k σ H3 => (∃ x2 x3 x4 x5 x6 x7 x8 x9 x10 x11 x12, σ = [some (V.ref a), some (V.ref R), x2, x3, x4, x5, x6, x7, x8, x9, x10, x11, x12]) ∧ Row K H3 R a ns ∧ Tabs T H3) ⟨⟨_, _, _, _, _, _, _, _, _, _, _, rfl⟩, rowR, tR⟩ (fun k σ H3 hk h => ?_) (fun σ H3 h => ?_)
  · obtain ⟨⟨x2, x3, x4, x5, x6, x7, x8, x9, x10, x11, x12, rfl⟩, r3, t3⟩ := h
    clear rowR tR t00
    refine ⟨.ref R, rfl, R, a, 10, ns, rfl, r3, by decide, fun v fam H4 k4 r4 hd g V0 Tr hsz => ?_⟩
    have t4 := tabs_kr r3 k4 t3
    have hlen := Tr.len
    have hz : fam.length ≤ 11 := by omega
    have smF : SmBags (famD fam) := sm_of (small_two (two_rows (fun d hd => by
      obtain ⟨b, hb, rfl⟩ := List.mem_map.mp hd
      have := nodup_le (g.bag b hb).nd (g.bag b hb).lt
      exact row_bag (by omega)) (by rw [List.length_map]; omega)))
    clear t3 r3
    refine ⟨v, rfl, v, famD fam, rfl, hd, smF, (fun hb => by have := isBags_of g; rw [hb] at this; cases this), fun fam' ef g' => ?_⟩
    obtain rfl := famD_inj ef
    refine ⟨by omega, fun _ H5 e5 => ?_, fun nv => absurd V0 nv⟩
    refine ⟨v, rfl, v, fam, rfl, dp_ex e5 hd, g, by omega, fun H6 e6 => ?_⟩
    refine ⟨by show 2 ≤ sizeLine; decide, fun p hp => ⟨p, _, rfl, SqT.of upd_same, rfl, _, _, rfl, _, _, rfl, rfl, ?_⟩⟩
    have e7 : Ex H4 (upd H6 p (.tup [V.str (tx (famT fam)), V.int (sz fam : Nat)])) := e5.trans (e6.trans (Ex.new hp))
    have r7 := r4.ext e7
    have t7 := tabs_ex e7 t4
    have hd7 := dp_ex e7 hd
    generalize upd H6 p (.tup [V.str (tx (famT fam)), V.int (sz fam : Nat)]) = H7 at e7 r7 t7 hd7
    clear e7 hp e6 e5 r4 t4 hd
    refine ⟨.ref R, rfl, v, rfl, R, a, v, ns, fam, rfl, r7, hd7, g, by omega, fun vb db H8 k8 r8 hdb smb hb nrb => ?_⟩
    have hd8 := dp_kt (r7.kt k8) (isT_fam fam) hd7
    have t8 := tabs_kr r7 k8 t7
    obtain ⟨_, _, _, hR8⟩ := r8.ex
    refine ⟨.ref R, rfl, v, rfl, R, a, v, ns, fam, rfl, r8, hd8, g, by omega, by omega, fun vw famw H9 k9 r9 hdw gw nvw hzw => ?_⟩
    have hd9 := dp_kt (r8.kt k9) (isT_fam fam) hd8
    have t9 := tabs_kr r8 k9 t8
    have hdb9 := dp_kr hR8 k9 nrb hdb
    refine ⟨by show 2 ≤ sizeLine; decide, fun p hp => ⟨p, _, rfl, SqT.of upd_same, rfl, _, _, rfl, _, _, rfl, rfl, ?_⟩⟩
    have e10 : Ex H9 (upd H9 p (.tup [vb, vw])) := Ex.new hp
    have r10 := r9.ext e10
    have t10 := tabs_ex e10 t9
    have hd10 := dp_ex e10 hd9
    have hdb10 := dp_ex e10 hdb9
    have hdw10 := dp_ex e10 hdw
    generalize upd H9 p (.tup [vb, vw]) = H10 at e10 r10 t10 hd10 hdb10 hdw10
    clear e10 hp r9 t9 hd9 hdb9 hdw hd8 t8 r8 k9 hR8 hdb k8 r7 t7 hd7
    have smW : SmBags (famD famw) := sm_of (small_two (two_rows (fun d hd => by
      obtain ⟨b, hb, rfl⟩ := List.mem_map.mp hd
      have := nodup_le (gw.bag b hb).nd (gw.bag b hb).lt
      exact row_bag (by omega)) (by rw [List.length_map]; omega)))
    obtain ⟨fi, l, x, W⟩ := wr_of g.ne g.bag
    have ht : (famT fam).length ≤ 20000 := by
      have h1 := famT_len fam 60 fun b hb => nodup_le (g.bag b hb).nd (g.bag b hb).lt
      have h2 : fam.length * (3 * 60 + 1) ≤ 11 * (3 * 60 + 1) := Nat.mul_le_mul_right _ hz
      omega
    have hx2 := figs_len x
    have S : ∀ {z : Str} {l : List Nat} {σ : L2.St} {H : Hp}, z = tx l → EvL K T (tC (.str z)) σ H (.str (tx l)) := fun h => el_stx h
    have e1 : Str.ofString "x" = tx [120] := by decide +kernel
    have e2 : Str.ofString " " = tx [32] := by decide +kernel
    have e3 : Str.ofString "." = tx [46] := by decide +kernel
    have e4 : Str.ofString ".60" = tx [46, 54, 48] := by decide +kernel
    have e5 : Str.ofString "01." = tx [48, 49, 46] := by decide +kernel
    have e6 : Str.ofString ".059" = tx [46, 48, 53, 57] := by decide +kernel
    show tSeq _ _ _ [some (V.ref a), some (V.ref R), some (V.int (0 + (k : Nat))), some v, some (.str (tx (famT fam))), some (.int (sz fam : Nat)), some vb, some vw, x8, x9, x10, x11, x12] H10
    have tv : ∀ {x2 x8 x9 x10 x11 x12 : Option V} {H : Hp}, EvL K T (tVar 4) [some (V.ref a), some (V.ref R), x2, some v, some (.str (tx (famT fam))), some (.int (sz fam : Nat)), some vb, some vw, x8, x9, x10, x11, x12] H (.str (tx (famT fam))) := el_var rfl (.str _)
    refine run_asg (d := .list [.tuple [.str "InvalidText", .int ((famT fam).length + 1)], .tuple [.str "InvalidText", .int ((famT fam).length + 2)], .tuple [.str "InvalidText", .int 1]])
      (el_lst (el_cons (evl_bad (p := (famT fam).length + 1) (el_cat tv (S e1) (by simp; omega)) (by simp; omega) (W.odd (by decide) (by decide) (by decide))) (el_cons (evl_bad (p := (famT fam).length + 2) (el_cat tv (S e2) (by simp; omega)) (by simp; omega) W.gap0) (el_cons (evl_bad (p := 1) (el_cat (S e2) tv (by simp; omega)) (by simp; omega) (reads_gap _)) el_nil))) (by simp)) t10 fun w1 H11 c11 t11 hw1 => ?_
    show tSeq _ _ _ [some (V.ref a), some (V.ref R), some (V.int (0 + (k : Nat))), some v, some (.str (tx (famT fam))), some (.int (sz fam : Nat)), some vb, some vw, some w1, x9, x10, x11, x12] H11
    refine run_if (tl_ne (el_var rfl hw1) (el_lst (el_cons (el_tup (el_cons (el_str _) (el_cons (el_add (el_len tv (by omega)) (el_int 1)) el_nil)) (by simp)) (el_cons (el_tup (el_cons (el_str _) (el_cons (el_add (el_len tv (by omega)) (el_int 2)) el_nil)) (by simp)) (el_cons (el_tup (el_cons (el_str _) (el_cons (el_int 1) el_nil)) (by simp)) el_nil))) (by simp)) (sh_bad3 _ _ _)) t11 fun H12 c12 t12 => ?_
    have hdX : ∀ {H' : Hp}, ExtN H10 H' → Dp K H' v (.tuple (fi.map bagD ++ [.tuple (natsD l ++ [.int (x : Nat)])])) := fun {H'} c => by
      have h := dp_extn c hd10
      unfold famD at h
      rw [W.e, List.map_append] at h
      have e : bagD (l ++ [x]) = .tuple (natsD l ++ [.int (x : Nat)]) := by unfold bagD natsD; rw [List.map_append]; rfl
      rw [← e]; exact h
    refine run_asg (d := .str (tx (figs x))) (el_strN W.lt (el_last (el_last (el_var (v := v) rfl (hdX (c11.trans c12)))))) t12 fun wl H13 c13 t13 hwl => ?_
    cases hwl
    show tSeq _ _ _ [some (V.ref a), some (V.ref R), some (V.int (0 + (k : Nat))), some v, some (.str (tx (famT fam))), some (.int (sz fam : Nat)), some vb, some vw, some w1, some (.str (tx (figs x))), x10, x11, x12] H13
    have lv : ∀ {x2 x8 x10 x11 x12 : Option V} {H : Hp}, EvL K T (tVar 9) [some (V.ref a), some (V.ref R), x2, some v, some (.str (tx (famT fam))), some (.int (sz fam : Nat)), some vb, some vw, x8, some (.str (tx (figs x))), x10, x11, x12] H (.str (tx (figs x))) := el_var rfl (.str _)
    refine run_asg (d := .list [.tuple [.str "InvalidText", .int ((famT fam).length + 2)], .tuple [.str "InvalidText", .int ((famT fam).length + 2)], .tuple [.str "InvalidText", .int ((famT fam).length + 2 + (figs x).length)]])
      (el_lst (el_cons (evl_bad (p := (famT fam).length + 2) (el_cat (el_cat tv (S e3) (by simp; omega)) lv (by simp; omega)) (by simp; omega) (by rw [List.append_assoc]; exact W.dotLast)) (el_cons (evl_bad (p := (famT fam).length + 2) (el_cat tv (S e3) (by simp; omega)) (by simp; omega) W.dot0) (el_cons (evl_bad (p := (famT fam).length + 2 + (figs x).length) (el_cat (el_cat tv (S e2) (by simp; omega)) lv (by simp; omega)) (by simp; omega) (by rw [List.append_assoc]; exact W.gapLast)) el_nil))) (by simp)) t13 fun w2 H14 c14 t14 hw2 => ?_
    show tSeq _ _ _ [some (V.ref a), some (V.ref R), some (V.int (0 + (k : Nat))), some v, some (.str (tx (famT fam))), some (.int (sz fam : Nat)), some vb, some vw, some w2, some (.str (tx (figs x))), x10, x11, x12] H14
    refine run_if (tl_ne (el_var rfl hw2) (el_lst (el_cons (el_tup (el_cons (el_str _) (el_cons (el_add (el_len tv (by omega)) (el_int 2)) el_nil)) (by simp)) (el_cons (el_tup (el_cons (el_str _) (el_cons (el_add (el_len tv (by omega)) (el_int 2)) el_nil)) (by simp)) (el_cons (el_tup (el_cons (el_str _) (el_cons (el_add (el_add (el_len tv (by omega)) (el_int 2)) (el_len lv (by omega))) el_nil)) (by simp)) el_nil))) (by simp)) (sh_bad3 _ _ _)) t14 fun H15 c15 t15 => ?_
    refine run_asg (d := .list [.tuple [.str "InvalidText", .int ((famT fam).length + 2)], .tuple [.str "InvalidText", .int 1], .tuple [.str "InvalidText", .int ((famT fam).length + 2)]])
      (el_lst (el_cons (evl_bad (p := (famT fam).length + 2) (el_cat tv (S e4) (by simp; omega)) (by simp; omega) W.dot60) (el_cons (evl_bad (p := 1) (el_cat (S e5) tv (by simp; omega)) (by simp; omega) (reads_01 _)) (el_cons (evl_bad (p := (famT fam).length + 2) (el_cat tv (S e6) (by simp; omega)) (by simp; omega) W.dot059) el_nil))) (by simp)) t15 fun w3 H16 c16 t16 hw3 => ?_
    show tSeq _ _ _ [some (V.ref a), some (V.ref R), some (V.int (0 + (k : Nat))), some v, some (.str (tx (famT fam))), some (.int (sz fam : Nat)), some vb, some vw, some w3, some (.str (tx (figs x))), x10, x11, x12] H16
    refine run_if (tl_ne (el_var rfl hw3) (el_lst (el_cons (el_tup (el_cons (el_str _) (el_cons (el_add (el_len tv (by omega)) (el_int 2)) el_nil)) (by simp)) (el_cons (el_tup (el_cons (el_str _) (el_cons (el_int 1) el_nil)) (by simp)) (el_cons (el_tup (el_cons (el_str _) (el_cons (el_add (el_len tv (by omega)) (el_int 2)) el_nil)) (by simp)) el_nil))) (by simp)) (sh_bad3 _ _ _)) t16 fun H17 c17 t17 => ?_
    have cc := c11.trans (c12.trans (c13.trans (c14.trans (c15.trans (c16.trans c17)))))
    have r17 := r10.extn cc
    refine ⟨.ref R, rfl, ⟨_, rfl, (by show 1 ≤ sizeLine; decide), fun pl hpl => ⟨_, rfl, (by show 1 ≤ sizeLine; decide), fun pt hpt => fun pd hpd => ⟨(by show 5 ≤ sizeLine; decide), fun po hpo => ?_⟩⟩⟩⟩
    have f1 := Ex.new (o := .lst [.str (tx (famT fam))]) hpl
    have f2 := Ex.new (o := .tup [.str (tx (famT fam))]) hpt
    have f3 := Ex.new (o := .dK []) hpd
    have f4 := Ex.new (o := .lst [.non, .int 3, .ref pl, .ref pt, .ref pd]) hpo
    have nR : ∀ {H' : Hp} {b : Addr}, Ex H17 H' → H' b = none → b ≠ R := fun {H' b} e h z => by
      obtain ⟨_, _, _, hh⟩ := (r17.ext e).ex
      rw [z, hh] at h; cases h
    refine ⟨R, a, po, ns, [.non, .int 3, .ref pl, .ref pt, .ref pd], rfl, r17.ext (f1.trans (f2.trans (f3.trans f4))), SqL.of upd_same, nR (f1.trans (f2.trans f3)) hpo, (by show 0 < 5; decide), (by show 5 < 1000; decide), fun kk vo H18 hkk k18 r18 => ?_⟩
    have t18 := tabs_kr (r17.ext (f1.trans (f2.trans (f3.trans f4)))) k18 (tabs_ex (f1.trans (f2.trans (f3.trans f4))) t17)
    have al : H18 pl = some (.lst [.str (tx (famT fam))]) := k18.k _ _ (nR (Ex.refl _) hpl) (f4 _ _ (f3 _ _ (f2 _ _ upd_same)))
    have at' : H18 pt = some (.tup [.str (tx (famT fam))]) := k18.k _ _ (nR f1 hpt) (f4 _ _ (f3 _ _ upd_same))
    have ad : H18 pd = some (.dK []) := k18.k _ _ (nR (f1.trans f2) hpd) (f4 _ _ upd_same)
    have NT : ∀ H', ExtN H18 H' → ∃ Ty, TyX K H' vo Ty ∧ PySem.W.kitOne K Ty (.type "str") = some false := fun H' c => by
      have hm := List.mem_of_getElem? hkk
      simp only [List.mem_cons, List.not_mem_nil, or_false] at hm
      rcases hm with rfl | rfl | rfl | rfl | rfl
      · exact ⟨_, dp_ty .non, kit_dStr K .none (fun _ z => nomatch z)⟩
      · exact ⟨_, dp_ty (.int 3), kit_dStr K (.int 3) (fun _ z => nomatch z)⟩
      · exact ⟨_, .base (.lst (c _ _ al fun _ z => nomatch z)), kit_dStr K (.list []) (fun _ z => nomatch z)⟩
      · exact ⟨_, .base (.tup (c _ _ at' fun _ z => nomatch z)), kit_dStr K (.tuple []) (fun _ z => nomatch z)⟩
      · exact ⟨_, .base (.dK (c _ _ ad fun _ z => nomatch z)), kit_ty (show kitB "dict" "str" = some false from by decide +kernel)⟩
    have eKr : Kr R H17 H18 := (Kr.of (f1.trans (f2.trans (f3.trans f4)))).trans k18
    obtain ⟨_, _, _, hR17⟩ := r17.ex
    have hd18 : Dp K H18 v (famD fam) := dp_kt (r17.kt eKr) (isT_fam fam) (dp_extn cc hd10)
    have hw18 : Dp K H18 vw (famD famw) := dp_kt (r17.kt eKr) (isT_fam famw) (dp_extn cc hdw10)
    have hb18 : Dp K H18 vb db := dp_kr hR17 eKr nrb (dp_extn cc hdb10)
    show tSeq _ _ _ [some (V.ref a), some (V.ref R), some (V.int (0 + (k : Nat))), some v, some (.str (tx (famT fam))), some (.int (sz fam : Nat)), some vb, some vw, some w3, some (.str (tx (figs x))), some vo, x11, x12] H18
    refine run_asg (d := .list [.str "NotText", .str "BadBags", .str "BadFamily"]) (el_lst (el_cons (evl_nottext rfl NT) (el_cons (evl_badbags (el_var rfl hb18) smb hb) (el_cons (evl_badfam (el_var rfl hw18) smW gw nvw hzw) el_nil))) (by simp)) t18 fun w4 H19 c19 t19 hw4 => ?_
    show tSeq _ _ _ [some (V.ref a), some (V.ref R), some (V.int (0 + (k : Nat))), some v, some (.str (tx (famT fam))), some (.int (sz fam : Nat)), some vb, some vw, some w4, some (.str (tx (figs x))), some vo, x11, x12] H19
    refine run_if (tl_or (tl_ne (el_var rfl hw4) (el_lst (el_cons (el_str _) (el_cons (el_str _) (el_cons (el_str _) el_nil))) (by simp)) (by decide +kernel))
      (tl_ne (evl_fam (rows := fam ++ fam) (el_cat (el_cat tv (S e2) (by simp; omega)) tv (by simp; omega)) (by simp; omega) (by rw [List.append_assoc]; exact W.twice) (by simp; omega) (fun h => twice_low g.ne h.1)) (el_str _) (by decide +kernel))) t19 fun H20 c20 t20 => ?_
    have hd20 := dp_extn (c19.trans c20) hd18
    have r20 := r18.extn (c19.trans c20)
    refine run_if' (tl_and (tl_lenT rfl hd20) fun hc => tl_ne (evl_fam (rows := fam.reverse) (t := famT fam.reverse) (el_of fun H1 x1 => ?_) ?_ ?_ (by rw [List.length_reverse]; omega) (fun h => back_low g.up (by simpa using hc) h.1)) (el_str _) (by decide +kernel)) t20 fun H21 c21 t21 => ⟨⟨_, _, _, _, _, _, _, _, _, _, _, rfl⟩, r20.extn c21, t21⟩
    · obtain ⟨ax, xs, rfl, hs', hl', hx'⟩ := dp_fam (dp_extn x1 hd20)
      refine ed_join (xs := xs.reverse) (fun b hb => g.bag b (List.mem_reverse.mp hb)) (by rw [List.length_reverse]; omega) (by rw [List.length_reverse, List.length_reverse]; exact hl') (fun i y hi => ?_) (fun H2 y2 R' r' => ⟨_, rfl, ax, xs, rfl, Evl.ex_t y2 hs', fun p' hp' => r' p' _ (Ex.new hp') (SqT.of upd_same)⟩) (fun _ => rfl) (fun _ _ => rfl) (fun _ => rfl) (fun _ _ => rfl)
      have hi2 : i < xs.length := by have := (List.getElem?_eq_some_iff.mp hi).1; rwa [List.length_reverse] at this
      rw [List.getElem?_reverse hi2] at hi
      obtain ⟨b, hb, hbd⟩ := hx' _ _ hi
      exact ⟨b, by rw [List.getElem?_reverse (by omega), ← hl']; exact hb, hbd⟩
    · have h1 := famT_len fam.reverse 60 fun b hb => nodup_le (g.bag b (List.mem_reverse.mp hb)).nd (g.bag b (List.mem_reverse.mp hb)).lt
      have h2 : fam.reverse.length * (3 * 60 + 1) ≤ 11 * (3 * 60 + 1) := Nat.mul_le_mul_right _ (by rw [List.length_reverse]; exact hz)
      omega
    · obtain ⟨fi', l', x', W'⟩ := wr_of (fam := fam.reverse) (by simpa using g.ne) (fun b hb => g.bag b (List.mem_reverse.mp hb))
      exact W'.fin [] 0
  · obtain ⟨⟨x2, x3, x4, x5, x6, x7, x8, x9, x10, x11, x12, rfl⟩, r3, t3⟩ := h
    have f1 : Str.ofString "" = tx [] := by decide +kernel
    have f2 : Str.ofString "0" = tx [48] := by decide +kernel
    have f3 : Str.ofString "0,1" = tx [48, 44, 49] := by decide +kernel
    have f4 : Str.ofString "1.2" = tx [49, 46, 50] := by decide +kernel
    have f5 : Str.ofString "0.1 0.2 1.2" = tx [48, 46, 49, 32, 48, 46, 50, 32, 49, 46, 50] := by decide +kernel
    refine run_asg (d := .list [.tuple [.str "InvalidText", .int 1], .tuple [.str "InvalidText", .int 2], .tuple [.str "InvalidText", .int 2], .str "BadFamily"])
      (el_lst (el_cons (evl_bad (p := 1) (el_stx f1) (by simp) reads_nil) (el_cons (evl_bad (p := 2) (el_stx f2) (by simp) reads_0) (el_cons (evl_bad (p := 2) (el_stx f3) (by simp) reads_0c1) (el_cons (evl_fam (el_stx f4) (by simp) reads_12 (by simp) (fun h => not12 h.2)) el_nil)))) (by simp)) t3 fun w1 H4 c4 t4 hw1 => ?_
    refine (show EvL K T (tOp (rEqD K) _ _) _ H4 (.bool true) from el_eq (el_var rfl hw1) (el_lst (el_cons (el_tup (el_cons (el_str _) (el_cons (el_int 1) el_nil)) (by simp)) (el_cons (el_tup (el_cons (el_str _) (el_cons (el_int 2) el_nil)) (by simp)) (el_cons (el_tup (el_cons (el_str _) (el_cons (el_int 2) el_nil)) (by simp)) (el_cons (el_str _) el_nil)))) (by simp)) (by decide +kernel)) H4 (ExtN.refl _) t4 _ fun v1 H5 c5 t5 hv1 => ?_
    cases hv1
    refine ⟨true, rfl, iteT ?_⟩
    refine (show EvL K T (tOp (rEqD K) _ _) _ H5 (.bool true) from el_eq (evl_fam (el_stx f5) (by simp) reads_3 (by simp) (fun h => not3 h.2)) (el_str _) (by decide +kernel)) H5 (ExtN.refl _) t5 _ fun v2 H6 c6 t6 hv2 => ?_
    cases hv2
    exact q H6
end
end Bg

set_option Elab.async false
set_option linter.all false
set_option maxRecDepth 100000
set_option maxHeartbeats 2000000
/-! the end: what stands at the top, chained -/
namespace Bg
open PySem PySem.Spec PyProof.Rows L2 LamX
open Evl (Ex)
/-- the end with the top's facts at hand -/
theorem walk_T {l : PySem.W.OpenLaw} {n k : Nat} {q : Program} {loose : List Str} {XP : (Str → Option Value) → Heap → Prop} {YP : World → Heap → Prop} {d : DefRec} {K : Params → PySem.W.Frag} {CX : World → CXT} {x : Str}
    (hn : l.most = some n) (hn2 : n ≤ sizeLine) (hdf : d.params.defaults = []) (hr : Room k callerA) (hY : ∀ (w : World) (h : Heap), YP w h → (K w.params).In h)
    (F : ∀ (w : World) (mg mb : Str → Option Value) (mean : ExcName → Option Value) (L : List Str) (fa : Addr) (h : Heap), (K w.params).In h → Top q L mean mg mb h → mg d.name = some (.ref fa) → LawAtS l w (K w.params) (CX w) k n x mg fa h)
    (hCX : ∀ (w : World) (H : Hp) (s : Shared) (e : Value) (s' : Shared), CX w [] H s (fun _ _ _ => False) e s' → False) :
    PySem.W.WalkO q loose XP YP l.row.toRowW d [] (fun f vs => PySem.call f vs) := by
  refine Att.attach_callB hn hdf fun w s₀ s₁ mg mb fa o pm cd doc a vs ns G Y ho hd hcd hmg hobj hints hlen hbits hg => ?_
  have KX := hY w _ Y
  obtain ⟨fd, cs, sp, hT, nT, C, hb, hsp, hF⟩ := F w mg mb _ _ fa _ KX G.T hmg
  exact law_callTs KX G.T.g G.T.b G.T.builtins G.T.nolimit hg hT nT C G.T.bmain hobj hints (Nat.le_trans hlen hn2) hr hF hb (fun H hH hS => hsp H a ns hlen hbits hH hS) fun H e s' => hCX w H s₁ e s'
end Bg

set_option Elab.async false
set_option linter.all false
set_option maxRecDepth 100000
set_option maxHeartbeats 4000000
namespace Bg
open PySem PySem.Spec PyProof.Rows L2 LamX
def sInit : Stmt := match top 5 with | .ClassDef _ _ _ b _ _ _ _ _ _ _ => b.getD 0 (.Pass ⟨0, 0, 0, 0⟩) | _ => .Pass ⟨0, 0, 0, 0⟩
theorem fu_of {K : PySem.W.Frag} {h : Heap} {mg : Str → Option Value} {x : Str} {st : Stmt} {ps : List Str} {f : Addr} {oc kV dc pm cd ct : Value} {od an : Option Addr} {sl : Array (Option Value)} (X : K.In h) (G : h.Ns mainGlobals mg) (a : PySem.W.nsIn K mainGlobals x = some (some (.ref f)))
    (l : K.lookup f = some ⟨oc, od, .func (PySem.W.fnOf x x (defArgs st) (defBody st) (defScope st) .none kV dc pm an cd ct), sl⟩) (c : PySem.W.codeIn K cd x = true) (k : PySem.W.keepIn K (.ref f) = true)
    (hb : ∀ (kV doc pm : Value) (an : Option Addr) (cdv ct : Value) (us : List Value), us.length = ps.length → bindArgs (PySem.W.fnOf x x (defArgs st) (defBody st) (defScope st) .none kV doc pm an cdv ct) ⟨us, []⟩ = pure (ps.zip us)) : Fu K mg x st ps :=
  ⟨f, _, fun_mk l c k, PySem.W.mg_of X G a, (fun_mk l c k).binds hb⟩
theorem sinit_free {x : Str} (h : (defScope sInit).names.lookup x = some .free) : x = "__class__" := by
  have e : (defScope sInit).names = [(("self" : Str), NameKind.local), ("place", .local), ("__class__", .free), ("super", .globalImplicit)] := rfl
  rw [e] at h
  have hm := PySem.mem_of_lookup h
  simp only [List.mem_cons, Prod.mk.injEq, List.not_mem_nil, or_false] at hm
  rcases hm with ⟨_, z⟩ | ⟨_, z⟩ | ⟨z, _⟩ | ⟨_, z⟩
  · cases z
  · cases z
  · exact z
  · cases z
theorem all_mk {q : Program} {l : PySem.W.OpenLaw} {w : World} {K : PySem.W.Frag} {h : Heap} {mg mb : Str → Option Value} {mean : ExcName → Option Value} {L : List Str} {fa : Addr} (X : K.In h) (T : Top q L mean mg mb h) (hfa : mg "law" = some (.ref fa))
    {fL c P' f0 f1 f2 f3 f4 f5 f6 f7 f8 f9 f10 f11 f12 f13 f14 f15 f16 f17 f18 f19 f20 f21 f22 f23 f24 CB CF CN CI CA N fI cda cc : Addr} {odL anL od0 an0 od1 an1 od2 an2 od3 an3 od4 an4 od5 an5 od6 an6 od7 an7 od8 an8 od9 an9 od10 an10 od11 an11 od12 an12 od13 an13 od14 an14 od15 an15 od16 an16 od17 an17 od18 an18 od19 an19 od20 an20 od21 an21 od22 an22 od23 an23 od24 an24 dd odI anI cdd cld : Option Addr} {ocL kVL dcL pmL ctL oc0 kV0 dc0 pm0 cd0 ct0 oc1 kV1 dc1 pm1 cd1 ct1 oc2 kV2 dc2 pm2 cd2 ct2 oc3 kV3 dc3 pm3 cd3 ct3 oc4 kV4 dc4 pm4 cd4 ct4 oc5 kV5 dc5 pm5 cd5 ct5 oc6 kV6 dc6 pm6 cd6 ct6 oc7 kV7 dc7 pm7 cd7 ct7 oc8 kV8 dc8 pm8 cd8 ct8 oc9 kV9 dc9 pm9 cd9 ct9 oc10 kV10 dc10 pm10 cd10 ct10 oc11 kV11 dc11 pm11 cd11 ct11 oc12 kV12 dc12 pm12 cd12 ct12 oc13 kV13 dc13 pm13 cd13 ct13 oc14 kV14 dc14 pm14 cd14 ct14 oc15 kV15 dc15 pm15 cd15 ct15 oc16 kV16 dc16 pm16 cd16 ct16 oc17 kV17 dc17 pm17 cd17 ct17 oc18 kV18 dc18 pm18 cd18 ct18 oc19 kV19 dc19 pm19 cd19 ct19 oc20 kV20 dc20 pm20 cd20 ct20 oc21 kV21 dc21 pm21 cd21 ct21 oc22 kV22 dc22 pm22 cd22 ct22 oc23 kV23 dc23 pm23 cd23 ct23 oc24 kV24 dc24 pm24 cd24 ct24 ocI kVI dcI pmI ctI ccl cl : Value} {slL sl0 sl1 sl2 sl3 sl4 sl5 sl6 sl7 sl8 sl9 sl10 sl11 sl12 sl13 sl14 sl15 sl16 sl17 sl18 sl19 sl20 sl21 sl22 sl23 sl24 slI ccs csl : Array (Option Value)} {nm qn file : Str} {bs bm sub : List Value} {sn : List Str} {ab : Bool} {col : Option Bool} {m0 m1 m2 m3 m5 : Option Value} {vs : Array Value} {tf tm tg : Tok} {p0 p1 p2 p3 p4 p5 p6 p7 p8 p9 : Pos}
    (rl : ((recsOf q).find? fun e => e.name == ("law" : Str)).isSome = true)
    (tL : PySem.W.tabIn K "law" = some (c, P'))
    (nP : K.lookup P' = none)
    (aL : PySem.W.nsIn K mainGlobals "law" = some (some (.ref fL)))
    (lL : K.lookup fL = some ⟨ocL, odL, .func (PySem.W.fnOf "law" "law" (defArgs s_law) (defBody s_law) (defScope s_law) .none kVL dcL pmL anL (.ref c) ctL), slL⟩)
    (cL : PySem.W.codeIn K (.ref c) "law" = true)
    (a0 : PySem.W.nsIn K mainGlobals "is_int" = some (some (.ref f0)))
    (l0 : K.lookup f0 = some ⟨oc0, od0, .func (PySem.W.fnOf "is_int" "is_int" (defArgs s_is_int) (defBody s_is_int) (defScope s_is_int) .none kV0 dc0 pm0 an0 cd0 ct0), sl0⟩)
    (c0 : PySem.W.codeIn K cd0 "is_int" = true)
    (k0 : PySem.W.keepIn K (.ref f0) = true)
    (a1 : PySem.W.nsIn K mainGlobals "is_in" = some (some (.ref f1)))
    (l1 : K.lookup f1 = some ⟨oc1, od1, .func (PySem.W.fnOf "is_in" "is_in" (defArgs s_is_in) (defBody s_is_in) (defScope s_is_in) .none kV1 dc1 pm1 an1 cd1 ct1), sl1⟩)
    (c1 : PySem.W.codeIn K cd1 "is_in" = true)
    (k1 : PySem.W.keepIn K (.ref f1) = true)
    (a2 : PySem.W.nsIn K mainGlobals "is_rising" = some (some (.ref f2)))
    (l2 : K.lookup f2 = some ⟨oc2, od2, .func (PySem.W.fnOf "is_rising" "is_rising" (defArgs s_is_rising) (defBody s_is_rising) (defScope s_is_rising) .none kV2 dc2 pm2 an2 cd2 ct2), sl2⟩)
    (c2 : PySem.W.codeIn K cd2 "is_rising" = true)
    (k2 : PySem.W.keepIn K (.ref f2) = true)
    (a3 : PySem.W.nsIn K mainGlobals "is_bag" = some (some (.ref f3)))
    (l3 : K.lookup f3 = some ⟨oc3, od3, .func (PySem.W.fnOf "is_bag" "is_bag" (defArgs s_is_bag) (defBody s_is_bag) (defScope s_is_bag) .none kV3 dc3 pm3 an3 cd3 ct3), sl3⟩)
    (c3 : PySem.W.codeIn K cd3 "is_bag" = true)
    (k3 : PySem.W.keepIn K (.ref f3) = true)
    (a4 : PySem.W.nsIn K mainGlobals "need_bags" = some (some (.ref f4)))
    (l4 : K.lookup f4 = some ⟨oc4, od4, .func (PySem.W.fnOf "need_bags" "need_bags" (defArgs s_need_bags) (defBody s_need_bags) (defScope s_need_bags) .none kV4 dc4 pm4 an4 cd4 ct4), sl4⟩)
    (c4 : PySem.W.codeIn K cd4 "need_bags" = true)
    (k4 : PySem.W.keepIn K (.ref f4) = true)
    (a5 : PySem.W.nsIn K mainGlobals "size_of" = some (some (.ref f5)))
    (l5 : K.lookup f5 = some ⟨oc5, od5, .func (PySem.W.fnOf "size_of" "size_of" (defArgs s_size_of) (defBody s_size_of) (defScope s_size_of) .none kV5 dc5 pm5 an5 cd5 ct5), sl5⟩)
    (c5 : PySem.W.codeIn K cd5 "size_of" = true)
    (k5 : PySem.W.keepIn K (.ref f5) = true)
    (a6 : PySem.W.nsIn K mainGlobals "shared_by" = some (some (.ref f6)))
    (l6 : K.lookup f6 = some ⟨oc6, od6, .func (PySem.W.fnOf "shared_by" "shared_by" (defArgs s_shared_by) (defBody s_shared_by) (defScope s_shared_by) .none kV6 dc6 pm6 an6 cd6 ct6), sl6⟩)
    (c6 : PySem.W.codeIn K cd6 "shared_by" = true)
    (k6 : PySem.W.keepIn K (.ref f6) = true)
    (a7 : PySem.W.nsIn K mainGlobals "homes_of" = some (some (.ref f7)))
    (l7 : K.lookup f7 = some ⟨oc7, od7, .func (PySem.W.fnOf "homes_of" "homes_of" (defArgs s_homes_of) (defBody s_homes_of) (defScope s_homes_of) .none kV7 dc7 pm7 an7 cd7 ct7), sl7⟩)
    (c7 : PySem.W.codeIn K cd7 "homes_of" = true)
    (k7 : PySem.W.keepIn K (.ref f7) = true)
    (a8 : PySem.W.nsIn K mainGlobals "reached_from" = some (some (.ref f8)))
    (l8 : K.lookup f8 = some ⟨oc8, od8, .func (PySem.W.fnOf "reached_from" "reached_from" (defArgs s_reached_from) (defBody s_reached_from) (defScope s_reached_from) .none kV8 dc8 pm8 an8 cd8 ct8), sl8⟩)
    (c8 : PySem.W.codeIn K cd8 "reached_from" = true)
    (k8 : PySem.W.keepIn K (.ref f8) = true)
    (a9 : PySem.W.nsIn K mainGlobals "ring_of" = some (some (.ref f9)))
    (l9 : K.lookup f9 = some ⟨oc9, od9, .func (PySem.W.fnOf "ring_of" "ring_of" (defArgs s_ring_of) (defBody s_ring_of) (defScope s_ring_of) .none kV9 dc9 pm9 an9 cd9 ct9), sl9⟩)
    (c9 : PySem.W.codeIn K cd9 "ring_of" = true)
    (k9 : PySem.W.keepIn K (.ref f9) = true)
    (a10 : PySem.W.nsIn K mainGlobals "bar_of" = some (some (.ref f10)))
    (l10 : K.lookup f10 = some ⟨oc10, od10, .func (PySem.W.fnOf "bar_of" "bar_of" (defArgs s_bar_of) (defBody s_bar_of) (defScope s_bar_of) .none kV10 dc10 pm10 an10 cd10 ct10), sl10⟩)
    (c10 : PySem.W.codeIn K cd10 "bar_of" = true)
    (k10 : PySem.W.keepIn K (.ref f10) = true)
    (a11 : PySem.W.nsIn K mainGlobals "need_family" = some (some (.ref f11)))
    (l11 : K.lookup f11 = some ⟨oc11, od11, .func (PySem.W.fnOf "need_family" "need_family" (defArgs s_need_family) (defBody s_need_family) (defScope s_need_family) .none kV11 dc11 pm11 an11 cd11 ct11), sl11⟩)
    (c11 : PySem.W.codeIn K cd11 "need_family" = true)
    (k11 : PySem.W.keepIn K (.ref f11) = true)
    (a12 : PySem.W.nsIn K mainGlobals "whole_of" = some (some (.ref f12)))
    (l12 : K.lookup f12 = some ⟨oc12, od12, .func (PySem.W.fnOf "whole_of" "whole_of" (defArgs s_whole_of) (defBody s_whole_of) (defScope s_whole_of) .none kV12 dc12 pm12 an12 cd12 ct12), sl12⟩)
    (c12 : PySem.W.codeIn K cd12 "whole_of" = true)
    (k12 : PySem.W.keepIn K (.ref f12) = true)
    (a13 : PySem.W.nsIn K mainGlobals "draw" = some (some (.ref f13)))
    (l13 : K.lookup f13 = some ⟨oc13, od13, .func (PySem.W.fnOf "draw" "draw" (defArgs s_draw) (defBody s_draw) (defScope s_draw) .none kV13 dc13 pm13 an13 cd13 ct13), sl13⟩)
    (c13 : PySem.W.codeIn K cd13 "draw" = true)
    (k13 : PySem.W.keepIn K (.ref f13) = true)
    (a14 : PySem.W.nsIn K mainGlobals "write" = some (some (.ref f14)))
    (l14 : K.lookup f14 = some ⟨oc14, od14, .func (PySem.W.fnOf "write" "write" (defArgs s_write) (defBody s_write) (defScope s_write) .none kV14 dc14 pm14 an14 cd14 ct14), sl14⟩)
    (c14 : PySem.W.codeIn K cd14 "write" = true)
    (k14 : PySem.W.keepIn K (.ref f14) = true)
    (a15 : PySem.W.nsIn K mainGlobals "read" = some (some (.ref f15)))
    (l15 : K.lookup f15 = some ⟨oc15, od15, .func (PySem.W.fnOf "read" "read" (defArgs s_read) (defBody s_read) (defScope s_read) .none kV15 dc15 pm15 an15 cd15 ct15), sl15⟩)
    (c15 : PySem.W.codeIn K cd15 "read" = true)
    (k15 : PySem.W.keepIn K (.ref f15) = true)
    (a16 : PySem.W.nsIn K mainGlobals "_law_taken" = some (some (.ref f16)))
    (l16 : K.lookup f16 = some ⟨oc16, od16, .func (PySem.W.fnOf "_law_taken" "_law_taken" (defArgs s__law_taken) (defBody s__law_taken) (defScope s__law_taken) .none kV16 dc16 pm16 an16 cd16 ct16), sl16⟩)
    (c16 : PySem.W.codeIn K cd16 "_law_taken" = true)
    (k16 : PySem.W.keepIn K (.ref f16) = true)
    (a17 : PySem.W.nsIn K mainGlobals "_law_pick" = some (some (.ref f17)))
    (l17 : K.lookup f17 = some ⟨oc17, od17, .func (PySem.W.fnOf "_law_pick" "_law_pick" (defArgs s__law_pick) (defBody s__law_pick) (defScope s__law_pick) .none kV17 dc17 pm17 an17 cd17 ct17), sl17⟩)
    (c17 : PySem.W.codeIn K cd17 "_law_pick" = true)
    (k17 : PySem.W.keepIn K (.ref f17) = true)
    (a18 : PySem.W.nsIn K mainGlobals "_law_mixed" = some (some (.ref f18)))
    (l18 : K.lookup f18 = some ⟨oc18, od18, .func (PySem.W.fnOf "_law_mixed" "_law_mixed" (defArgs s__law_mixed) (defBody s__law_mixed) (defScope s__law_mixed) .none kV18 dc18 pm18 an18 cd18 ct18), sl18⟩)
    (c18 : PySem.W.codeIn K cd18 "_law_mixed" = true)
    (k18 : PySem.W.keepIn K (.ref f18) = true)
    (a19 : PySem.W.nsIn K mainGlobals "_law_named" = some (some (.ref f19)))
    (l19 : K.lookup f19 = some ⟨oc19, od19, .func (PySem.W.fnOf "_law_named" "_law_named" (defArgs s__law_named) (defBody s__law_named) (defScope s__law_named) .none kV19 dc19 pm19 an19 cd19 ct19), sl19⟩)
    (c19 : PySem.W.codeIn K cd19 "_law_named" = true)
    (k19 : PySem.W.keepIn K (.ref f19) = true)
    (a20 : PySem.W.nsIn K mainGlobals "_law_family" = some (some (.ref f20)))
    (l20 : K.lookup f20 = some ⟨oc20, od20, .func (PySem.W.fnOf "_law_family" "_law_family" (defArgs s__law_family) (defBody s__law_family) (defScope s__law_family) .none kV20 dc20 pm20 an20 cd20 ct20), sl20⟩)
    (c20 : PySem.W.codeIn K cd20 "_law_family" = true)
    (k20 : PySem.W.keepIn K (.ref f20) = true)
    (a21 : PySem.W.nsIn K mainGlobals "_law_size" = some (some (.ref f21)))
    (l21 : K.lookup f21 = some ⟨oc21, od21, .func (PySem.W.fnOf "_law_size" "_law_size" (defArgs s__law_size) (defBody s__law_size) (defScope s__law_size) .none kV21 dc21 pm21 an21 cd21 ct21), sl21⟩)
    (c21 : PySem.W.codeIn K cd21 "_law_size" = true)
    (k21 : PySem.W.keepIn K (.ref f21) = true)
    (a22 : PySem.W.nsIn K mainGlobals "_law_wrong_bags" = some (some (.ref f22)))
    (l22 : K.lookup f22 = some ⟨oc22, od22, .func (PySem.W.fnOf "_law_wrong_bags" "_law_wrong_bags" (defArgs s__law_wrong_bags) (defBody s__law_wrong_bags) (defScope s__law_wrong_bags) .none kV22 dc22 pm22 an22 cd22 ct22), sl22⟩)
    (c22 : PySem.W.codeIn K cd22 "_law_wrong_bags" = true)
    (k22 : PySem.W.keepIn K (.ref f22) = true)
    (a23 : PySem.W.nsIn K mainGlobals "_law_no_family" = some (some (.ref f23)))
    (l23 : K.lookup f23 = some ⟨oc23, od23, .func (PySem.W.fnOf "_law_no_family" "_law_no_family" (defArgs s__law_no_family) (defBody s__law_no_family) (defScope s__law_no_family) .none kV23 dc23 pm23 an23 cd23 ct23), sl23⟩)
    (c23 : PySem.W.codeIn K cd23 "_law_no_family" = true)
    (k23 : PySem.W.keepIn K (.ref f23) = true)
    (a24 : PySem.W.nsIn K mainGlobals "_law_error" = some (some (.ref f24)))
    (l24 : K.lookup f24 = some ⟨oc24, od24, .func (PySem.W.fnOf "_law_error" "_law_error" (defArgs s__law_error) (defBody s__law_error) (defScope s__law_error) .none kV24 dc24 pm24 an24 cd24 ct24), sl24⟩)
    (c24 : PySem.W.codeIn K cd24 "_law_error" = true)
    (k24 : PySem.W.keepIn K (.ref f24) = true)
    (aCB : PySem.W.nsIn K mainGlobals "BadBags" = some (some (.ref CB)))
    (xCB : PySem.W.excIn K CB [.type "ValueError", .type "Exception", .type "BaseException", .type "object"] "ValueError.__new__" = true)
    (aCF : PySem.W.nsIn K mainGlobals "BadFamily" = some (some (.ref CF)))
    (xCF : PySem.W.excIn K CF [.type "ValueError", .type "Exception", .type "BaseException", .type "object"] "ValueError.__new__" = true)
    (aCN : PySem.W.nsIn K mainGlobals "NotText" = some (some (.ref CN)))
    (xCN : PySem.W.excIn K CN [.type "ValueError", .type "Exception", .type "BaseException", .type "object"] "ValueError.__new__" = true)
    (aCI : PySem.W.nsIn K mainGlobals "InvalidText" = some (some (.ref CI)))
    (aCA : PySem.W.nsIn K mainGlobals "BagError" = some (some (.ref CA)))
    (kCB : PySem.W.keepIn K (.ref CB) = true)
    (bCB : PySem.W.subIn K (.ref CB) (.type "BaseException") = some true)
    (tCB : PySem.W.typeIn K (.ref CB) = some (.type "type"))
    (kCF : PySem.W.keepIn K (.ref CF) = true)
    (bCF : PySem.W.subIn K (.ref CF) (.type "BaseException") = some true)
    (tCF : PySem.W.typeIn K (.ref CF) = some (.type "type"))
    (kCN : PySem.W.keepIn K (.ref CN) = true)
    (bCN : PySem.W.subIn K (.ref CN) (.type "BaseException") = some true)
    (tCN : PySem.W.typeIn K (.ref CN) = some (.type "type"))
    (kCI : PySem.W.keepIn K (.ref CI) = true)
    (bCI : PySem.W.subIn K (.ref CI) (.type "BaseException") = some true)
    (tCI : PySem.W.typeIn K (.ref CI) = some (.type "type"))
    (xL : K.lookup CI = some (excClassObj nm qn CI N bs bm true sn sub ab col dd m0 m1 m2 m3 m5 "ValueError.__new__"))
    (rv : PySem.HandSPX.refsVE bm = true)
    (sa : PySem.W.findIn K (.ref CI) "__setattr__" = some (some (.builtin "object.__setattr__")))
    (iI : PySem.W.findIn K (.ref CI) "__init__" = some (some (.ref fI)))
    (tI : PySem.W.typeIn K (.ref fI) = some (.type "function"))
    (lI : K.lookup fI = some ⟨ocI, odI, .func (PySem.W.ksFn "__init__" "InvalidText.__init__" (defArgs sInit) (supBody p0 p1 p2 p3 p4 p5 p6 p7 p8 p9) (defScope sInit) .none kVI dcI pmI anI (.ref cda) ctI cc), slI⟩)
    (cI : PySem.W.codeIn K (.ref cda) "InvalidText.__init__" = true)
    (lc : K.lookup cda = some ⟨ccl, cdd, .fields vs, ccs⟩)
    (hv : vs[2]? = some (.str file tf))
    (hf : ((l.prog.main.file : Str) == file) = true)
    (lcc : K.lookup cc = some ⟨cl, cld, .cell (some (.ref CI)), csl⟩)
    (mI : PySem.W.mroIn K CI (.ref CI) = some true)
    (vI : PySem.W.subIn K (.ref CI) (.type "ValueError") = some true)
    (zS : PySem.W.nsIn K mainGlobals "super" = some none)
    (sI : PySem.W.ks_superIn K CI CI "__init__" = some (some (.builtin "ValueError.__init__")))
    (tp : PySem.W.nsIn K cStatics "thirdparty.any" = some none)
    (np : PySem.W.findIn K (.ref CI) "place" = some none)
    (st : (l.prog.main.scope.names.lookup ("super" : Str)).isSome = false)
    (enn : PySem.W.exmOne K (.ref CN) (.ref CN) = some true)
    (ein : PySem.W.exmOne K (.ref CI) (.ref CN) = some false)
    (eii : PySem.W.exmOne K (.ref CI) (.ref CI) = some true)
    (ebn : PySem.W.exmOne K (.ref CB) (.ref CN) = some false)
    (ebi : PySem.W.exmOne K (.ref CB) (.ref CI) = some false)
    (ebb : PySem.W.exmOne K (.ref CB) (.ref CB) = some true)
    (efn : PySem.W.exmOne K (.ref CF) (.ref CN) = some false)
    (efi : PySem.W.exmOne K (.ref CF) (.ref CI) = some false)
    (efb : PySem.W.exmOne K (.ref CF) (.ref CB) = some false)
    (eff : PySem.W.exmOne K (.ref CF) (.ref CF) = some true)
    (ga : PySem.W.findIn K (.ref CI) "__getattribute__" = some (some (.builtin "BaseException.__getattribute__")))
    (gg : PySem.W.findIn K (.ref CI) "__getattr__" = some none)
    (hI : PySem.W.hasDictIn K CI = true)
    (cls : PySem.W.findIn K (.ref CI) "__class__" = some (some (.builtin "object.__class__")))
    (gn : PySem.W.specialIn K (.builtin "object.__class__") "__get__" = some (some (.builtin "getset_descriptor.__get__")))
    (gt : PySem.W.takesIn K (.builtin "object.__class__") = some true)
    (mo : PySem.W.mroIn K CI (.type "object") = some true)
    (ve : PySem.W.kitOne K (.ref CI) (.type "ValueError") = some true)
    (mm : PySem.W.nsIn K mainGlobals "MOST_BEADS" = some (some (.int 60 tm)))
    (mf : PySem.W.nsIn K mainGlobals "FIGURES" = some (some (.str "0123456789" tg)))
    (z_len : PySem.W.nsIn K mainGlobals "len" = some none)
    (z_sum : PySem.W.nsIn K mainGlobals "sum" = some none)
    (z_all : PySem.W.nsIn K mainGlobals "all" = some none)
    (z_any : PySem.W.nsIn K mainGlobals "any" = some none)
    (z_max : PySem.W.nsIn K mainGlobals "max" = some none)
    (z_min : PySem.W.nsIn K mainGlobals "min" = some none)
    (z_sorted : PySem.W.nsIn K mainGlobals "sorted" = some none)
    (z_isinstance : PySem.W.nsIn K mainGlobals "isinstance" = some none)
    (z_abs : PySem.W.nsIn K mainGlobals "abs" = some none)
    (z_int : PySem.W.nsIn K mainGlobals "int" = some none)
    (z_bool : PySem.W.nsIn K mainGlobals "bool" = some none)
    (z_tuple : PySem.W.nsIn K mainGlobals "tuple" = some none)
    (z_str : PySem.W.nsIn K mainGlobals "str" = some none)
    (z_list : PySem.W.nsIn K mainGlobals "list" = some none)
    (z_dict : PySem.W.nsIn K mainGlobals "dict" = some none)
    (z_range : PySem.W.nsIn K mainGlobals "range" = some none)
    (z_enumerate : PySem.W.nsIn K mainGlobals "enumerate" = some none)
    (z_zip : PySem.W.nsIn K mainGlobals "zip" = some none)
    (z_set : PySem.W.nsIn K mainGlobals "set" = some none)
    (zV : PySem.W.nsIn K mainGlobals "ValueError" = some none)
    (hev : ∀ env : Env, ∃ pl : Sem Bool, eval (.Call (.Attribute (.Call (.Name "super" p0) [] [] p1) "__init__" p2) [.Name "place" p3] [] p4) env = (do
      let ov ← attributeBase (.Call (.Name "super" p0) [] [] p1) "__init__" env (eval (.Call (.Name "super" p0) [] [] p1) env)
      standAt p2.atName
      let (f, first) ← holding [ov] (getMethod ov "__init__" pl)
      callWith p4 f first (backTo p4 (starEach [.Name "place" p3] env)) []))
    : LawAtS l w K CX0 9 63 "_law_script" mg fa h := by
  have G := T.g
  have e := hfa.symm.trans (PySem.W.mg_of X G aL)
  cases e
  obtain ⟨dr, hdr⟩ := Option.isSome_iff_exists.mp rl
  obtain ⟨CH, hP⟩ := PySem.W.tab_of T X hdr tL
  have Z : Bz mg := ⟨PySem.W.mg_none_of X G z_len, PySem.W.mg_none_of X G z_sum, PySem.W.mg_none_of X G z_all, PySem.W.mg_none_of X G z_any, PySem.W.mg_none_of X G z_max, PySem.W.mg_none_of X G z_min, PySem.W.mg_none_of X G z_sorted, PySem.W.mg_none_of X G z_isinstance, PySem.W.mg_none_of X G z_abs, PySem.W.mg_none_of X G z_int, PySem.W.mg_none_of X G z_bool, PySem.W.mg_none_of X G z_tuple, PySem.W.mg_none_of X G z_str, PySem.W.mg_none_of X G z_list, PySem.W.mg_none_of X G z_dict, PySem.W.mg_none_of X G z_range, PySem.W.mg_none_of X G z_enumerate, PySem.W.mg_none_of X G z_zip, PySem.W.mg_none_of X G z_set⟩
  have mVE := PySem.W.mg_none_of X G zV
  have mMB := PySem.W.mg_of X G mm
  have mFI := PySem.W.mg_of X G mf
  have F_is_int := fu_of (st := s_is_int) (ps := ["value"]) X G a0 l0 c0 k0 fun _ _ _ _ _ _ us hl => match us, hl with | [_], _ => rfl
  have F_is_in := fu_of (st := s_is_in) (ps := ["value", "least", "most"]) X G a1 l1 c1 k1 fun _ _ _ _ _ _ us hl => match us, hl with | [_, _, _], _ => rfl
  have F_is_rising := fu_of (st := s_is_rising) (ps := ["value"]) X G a2 l2 c2 k2 fun _ _ _ _ _ _ us hl => match us, hl with | [_], _ => rfl
  have F_is_bag := fu_of (st := s_is_bag) (ps := ["value"]) X G a3 l3 c3 k3 fun _ _ _ _ _ _ us hl => match us, hl with | [_], _ => rfl
  have F_need_bags := fu_of (st := s_need_bags) (ps := ["value"]) X G a4 l4 c4 k4 fun _ _ _ _ _ _ us hl => match us, hl with | [_], _ => rfl
  have F_size_of := fu_of (st := s_size_of) (ps := ["bags"]) X G a5 l5 c5 k5 fun _ _ _ _ _ _ us hl => match us, hl with | [_], _ => rfl
  have F_shared_by := fu_of (st := s_shared_by) (ps := ["one", "other"]) X G a6 l6 c6 k6 fun _ _ _ _ _ _ us hl => match us, hl with | [_, _], _ => rfl
  have F_homes_of := fu_of (st := s_homes_of) (ps := ["bags"]) X G a7 l7 c7 k7 fun _ _ _ _ _ _ us hl => match us, hl with | [_], _ => rfl
  have F_reached_from := fu_of (st := s_reached_from) (ps := ["bags", "homes", "first"]) X G a8 l8 c8 k8 fun _ _ _ _ _ _ us hl => match us, hl with | [_, _, _], _ => rfl
  have F_ring_of := fu_of (st := s_ring_of) (ps := ["bags", "homes"]) X G a9 l9 c9 k9 fun _ _ _ _ _ _ us hl => match us, hl with | [_, _], _ => rfl
  have F_bar_of := fu_of (st := s_bar_of) (ps := ["bags"]) X G a10 l10 c10 k10 fun _ _ _ _ _ _ us hl => match us, hl with | [_], _ => rfl
  have F_need_family := fu_of (st := s_need_family) (ps := ["value"]) X G a11 l11 c11 k11 fun _ _ _ _ _ _ us hl => match us, hl with | [_], _ => rfl
  have F_whole_of := fu_of (st := s_whole_of) (ps := ["bags"]) X G a12 l12 c12 k12 fun _ _ _ _ _ _ us hl => match us, hl with | [_], _ => rfl
  have F_draw := fu_of (st := s_draw) (ps := ["family"]) X G a13 l13 c13 k13 fun _ _ _ _ _ _ us hl => match us, hl with | [_], _ => rfl
  have F_write := fu_of (st := s_write) (ps := ["family"]) X G a14 l14 c14 k14 fun _ _ _ _ _ _ us hl => match us, hl with | [_], _ => rfl
  have F_read := fu_of (st := s_read) (ps := ["text"]) X G a15 l15 c15 k15 fun _ _ _ _ _ _ us hl => match us, hl with | [_], _ => rfl
  have F__law_taken := fu_of (st := s__law_taken) (ps := ["_law_row", "_law_many"]) X G a16 l16 c16 k16 fun _ _ _ _ _ _ us hl => match us, hl with | [_, _], _ => rfl
  have F__law_pick := fu_of (st := s__law_pick) (ps := ["_law_row", "_law_things"]) X G a17 l17 c17 k17 fun _ _ _ _ _ _ us hl => match us, hl with | [_, _], _ => rfl
  have F__law_mixed := fu_of (st := s__law_mixed) (ps := ["_law_row", "_law_some"]) X G a18 l18 c18 k18 fun _ _ _ _ _ _ us hl => match us, hl with | [_, _], _ => rfl
  have F__law_named := fu_of (st := s__law_named) (ps := ["_law_bags", "_law_names"]) X G a19 l19 c19 k19 fun _ _ _ _ _ _ us hl => match us, hl with | [_, _], _ => rfl
  have F__law_family := fu_of (st := s__law_family) (ps := ["_law_row", "_law_most"]) X G a20 l20 c20 k20 fun _ _ _ _ _ _ us hl => match us, hl with | [_, _], _ => rfl
  have F__law_size := fu_of (st := s__law_size) (ps := ["_law_family_here"]) X G a21 l21 c21 k21 fun _ _ _ _ _ _ us hl => match us, hl with | [_], _ => rfl
  have F__law_wrong_bags := fu_of (st := s__law_wrong_bags) (ps := ["_law_row", "_law_family_here"]) X G a22 l22 c22 k22 fun _ _ _ _ _ _ us hl => match us, hl with | [_, _], _ => rfl
  have F__law_no_family := fu_of (st := s__law_no_family) (ps := ["_law_row", "_law_family_here"]) X G a23 l23 c23 k23 fun _ _ _ _ _ _ us hl => match us, hl with | [_, _], _ => rfl
  have F__law_error := fu_of (st := s__law_error) (ps := ["_law_work"]) X G a24 l24 c24 k24 fun _ _ _ _ _ _ us hl => match us, hl with | [_], _ => rfl
  have X_BadBags : Er K mg "BadBags" CB := ⟨PySem.W.mg_of X G aCB, xCB, kCB, bCB, tCB⟩
  have X_BadFamily : Er K mg "BadFamily" CF := ⟨PySem.W.mg_of X G aCF, xCF, kCF, bCF, tCF⟩
  have X_NotText : Er K mg "NotText" CN := ⟨PySem.W.mg_of X G aCN, xCN, kCN, bCN, tCN⟩
  have TO : OexC K CI := ⟨⟨nm, qn, N, bs, bm, sn, sub, ab, col, dd, m0, m1, m2, m3, m5, xL, rv⟩, sa, bCI, tCI, kCI⟩
  have TK : ErrK K mg CN CI CB CF CA := ⟨PySem.W.mg_of X G aCN, PySem.W.mg_of X G aCI, PySem.W.mg_of X G aCB, PySem.W.mg_of X G aCF, PySem.W.mg_of X G aCA, enn, ein, eii, ebn, ebi, ebb, efn, efi, efb, eff, ⟨ga, gg, bCI, hI⟩, ⟨ga, gg, bCI, hI, cls, gn, gt, mo⟩, np, ve⟩
  have msup := PySem.W.mg_none_of X G zS
  refine ⟨PySem.W.fnOf "law" "law" (defArgs s_law) (defBody s_law) (defScope s_law) .none kVL dcL pmL anL (.ref c) ctL, [(c, P')], spLaw K P', fun p hp => (by rw [List.mem_singleton.mp hp]; exact hP), fun p hp => (by rw [List.mem_singleton.mp hp]; exact nP), fun p hp => (by rw [List.mem_singleton.mp hp]; exact CH), fun s u => .of_eq rfl, fun H a ns hl _ hT hS => ⟨a, ns, rfl, hS, hl, hT _ (List.mem_singleton.mpr rfl), fun _ => rfl⟩, fun base KB NB TBs => ?_⟩
  have TB := TBs _ (List.mem_singleton.mpr rfl)
  have XI : Ei l.prog w K mg base "InvalidText" CI := ⟨PySem.W.mg_of X G aCI, TO, fI, _, iI, tI,
    fn_sup (name := "__init__") (ar := ⟨"self", none, ⟨12, 17, 12, 21⟩⟩) lI cI rfl rfl rfl rfl rfl rfl rfl rfl rfl (by decide +kernel) (fun x hx => sinit_free hx) lc hv hf lcc TO mI vI msup sI tp np st hev,
    .all fun us hl => match us, hl with | [_, _], _ => rfl⟩
  have G_is_int := ok_is_int (P := l.prog) (w := w) (base := base) F_is_int Z
  have G_is_in := ok_is_in (P := l.prog) (w := w) (base := base) F_is_in G_is_int
  have G_is_rising := ok_is_rising (P := l.prog) (w := w) (base := base) F_is_rising Z
  have G_is_bag := ok_is_bag (P := l.prog) (w := w) (base := base) F_is_bag Z mMB G_is_in G_is_rising
  have G_need_bags := ok_need_bags (P := l.prog) (w := w) (base := base) F_need_bags Z X_BadBags G_is_bag G_is_rising
  have G_size_of := ok_size_of (P := l.prog) (w := w) (base := base) F_size_of Z
  have G_shared_by := ok_shared_by (P := l.prog) (w := w) (base := base) F_shared_by Z
  have G_homes_of := ok_homes_of (P := l.prog) (w := w) (base := base) F_homes_of Z G_size_of
  have G_reached_from := ok_reached_from (P := l.prog) (w := w) (base := base) F_reached_from Z
  have G_ring_of := ok_ring_of (P := l.prog) (w := w) (base := base) F_ring_of Z
  have G_bar_of := ok_bar_of (P := l.prog) (w := w) (base := base) F_bar_of Z G_homes_of G_shared_by G_reached_from G_ring_of
  have G_need_family := ok_need_family (P := l.prog) (w := w) (base := base) F_need_family Z X_BadFamily G_need_bags G_bar_of
  have G_whole_of := ok_whole_of (P := l.prog) (w := w) (base := base) F_whole_of Z X_BadFamily G_is_bag G_is_rising G_bar_of
  have G_draw := ok_draw (P := l.prog) (w := w) (base := base) F_draw Z G_need_family
  have G_write := ok_write (P := l.prog) (w := w) (base := base) F_write Z G_need_family
  have G_read := ok_read (P := l.prog) (w := w) (base := base) F_read Z mMB mFI X_NotText XI G_whole_of
  have G__law_taken := ok__law_taken (P := l.prog) (w := w) (base := base) F__law_taken Z
  have G__law_pick := ok__law_pick (P := l.prog) (w := w) (base := base) F__law_pick Z G__law_taken
  have G__law_mixed := ok__law_mixed (P := l.prog) (w := w) (base := base) F__law_mixed Z G__law_taken
  have G__law_named := ok__law_named (P := l.prog) (w := w) (base := base) F__law_named Z
  have G__law_family := ok__law_family (P := l.prog) (w := w) (base := base) F__law_family Z G__law_taken G__law_pick G__law_mixed G__law_named
  have G__law_size := ok__law_size (P := l.prog) (w := w) (base := base) F__law_size Z
  have G__law_wrong_bags := ok__law_wrong_bags (P := l.prog) (w := w) (base := base) F__law_wrong_bags Z G__law_pick
  have G__law_no_family := ok__law_no_family (P := l.prog) (w := w) (base := base) F__law_no_family Z G__law_pick G__law_size
  exact ok_law lL cL TB F__law_error Z TK mVE G_read G_write G_draw G__law_family G__law_size G__law_wrong_bags G__law_no_family G__law_pick
end Bg

set_option Elab.async false
set_option maxRecDepth 100000
open PySem PySem.W PyProof.Rows
set_option maxRecDepth 100000 in
set_option maxHeartbeats 0 in
theorem PySem.Challenge.cw_sharebags_k67_texts_refused_holds : PySem.Challenge.rw_sharebags_k67_texts_refused.Holds := by
  w_on; o_law; k_head; (case hw => w_witness2)
  k_fill
  refine Bg.walk_T (l := PySem.Challenge.rw_sharebags_k67_texts_refused) (n := 63) (k := 9) (x := "_law_script") (CX := fun _ => L2.CX0) rfl (by decide) rfl ⟨rfl, by decide, by decide⟩ (fun w h Y => PySem.W.km_in_of Y) ?F (fun _ _ _ _ _ z => z)
  case F =>
    intro w mg mb mean L fa h KX T hmg
    refine' Bg.all_mk KX T hmg ?rl ?tL ?nP ?aL ?lL ?cL ?a0 ?l0 ?c0 ?k0 ?a1 ?l1 ?c1 ?k1 ?a2 ?l2 ?c2 ?k2 ?a3 ?l3 ?c3 ?k3 ?a4 ?l4 ?c4 ?k4 ?a5 ?l5 ?c5 ?k5 ?a6 ?l6 ?c6 ?k6 ?a7 ?l7 ?c7 ?k7 ?a8 ?l8 ?c8 ?k8 ?a9 ?l9 ?c9 ?k9 ?a10 ?l10 ?c10 ?k10 ?a11 ?l11 ?c11 ?k11 ?a12 ?l12 ?c12 ?k12 ?a13 ?l13 ?c13 ?k13 ?a14 ?l14 ?c14 ?k14 ?a15 ?l15 ?c15 ?k15 ?a16 ?l16 ?c16 ?k16 ?a17 ?l17 ?c17 ?k17 ?a18 ?l18 ?c18 ?k18 ?a19 ?l19 ?c19 ?k19 ?a20 ?l20 ?c20 ?k20 ?a21 ?l21 ?c21 ?k21 ?a22 ?l22 ?c22 ?k22 ?a23 ?l23 ?c23 ?k23 ?a24 ?l24 ?c24 ?k24 ?aCB ?xCB ?aCF ?xCF ?aCN ?xCN ?aCI ?aCA ?kCB ?bCB ?tCB ?kCF ?bCF ?tCF ?kCN ?bCN ?tCN ?kCI ?bCI ?tCI ?xL ?rv ?sa ?iI ?tI ?lI ?cI ?lc ?hv ?hf ?lcc ?mI ?vI ?zS ?sI ?tp ?np ?st ?enn ?ein ?eii ?ebn ?ebi ?ebb ?efn ?efi ?efb ?eff ?ga ?gg ?hI ?cls ?gn ?gt ?mo ?ve ?mm ?mf ?z_len ?z_sum ?z_all ?z_any ?z_max ?z_min ?z_sorted ?z_isinstance ?z_abs ?z_int ?z_bool ?z_tuple ?z_str ?z_list ?z_dict ?z_range ?z_enumerate ?z_zip ?z_set ?zV ?hev
    (case rl => first | rfl | decide +kernel)
    (case tL => first | rfl | with_unfolding_all rfl)
    (case nP => first | rfl | with_unfolding_all rfl)
    (case aL => k_is)
    (case lL => k_is)
    (case cL => k_is)
    (case a0 => k_is)
    (case l0 => k_is)
    (case c0 => k_is)
    (case k0 => k_is)
    (case a1 => k_is)
    (case l1 => k_is)
    (case c1 => k_is)
    (case k1 => k_is)
    (case a2 => k_is)
    (case l2 => k_is)
    (case c2 => k_is)
    (case k2 => k_is)
    (case a3 => k_is)
    (case l3 => k_is)
    (case c3 => k_is)
    (case k3 => k_is)
    (case a4 => k_is)
    (case l4 => k_is)
    (case c4 => k_is)
    (case k4 => k_is)
    (case a5 => k_is)
    (case l5 => k_is)
    (case c5 => k_is)
    (case k5 => k_is)
    (case a6 => k_is)
    (case l6 => k_is)
    (case c6 => k_is)
    (case k6 => k_is)
    (case a7 => k_is)
    (case l7 => k_is)
    (case c7 => k_is)
    (case k7 => k_is)
    (case a8 => k_is)
    (case l8 => k_is)
    (case c8 => k_is)
    (case k8 => k_is)
    (case a9 => k_is)
    (case l9 => k_is)
    (case c9 => k_is)
    (case k9 => k_is)
    (case a10 => k_is)
    (case l10 => k_is)
    (case c10 => k_is)
    (case k10 => k_is)
    (case a11 => k_is)
    (case l11 => k_is)
    (case c11 => k_is)
    (case k11 => k_is)
    (case a12 => k_is)
    (case l12 => k_is)
    (case c12 => k_is)
    (case k12 => k_is)
    (case a13 => k_is)
    (case l13 => k_is)
    (case c13 => k_is)
    (case k13 => k_is)
    (case a14 => k_is)
    (case l14 => k_is)
    (case c14 => k_is)
    (case k14 => k_is)
    (case a15 => k_is)
    (case l15 => k_is)
    (case c15 => k_is)
    (case k15 => k_is)
    (case a16 => k_is)
    (case l16 => k_is)
    (case c16 => k_is)
    (case k16 => k_is)
    (case a17 => k_is)
    (case l17 => k_is)
    (case c17 => k_is)
    (case k17 => k_is)
    (case a18 => k_is)
    (case l18 => k_is)
    (case c18 => k_is)
    (case k18 => k_is)
    (case a19 => k_is)
    (case l19 => k_is)
    (case c19 => k_is)
    (case k19 => k_is)
    (case a20 => k_is)
    (case l20 => k_is)
    (case c20 => k_is)
    (case k20 => k_is)
    (case a21 => k_is)
    (case l21 => k_is)
    (case c21 => k_is)
    (case k21 => k_is)
    (case a22 => k_is)
    (case l22 => k_is)
    (case c22 => k_is)
    (case k22 => k_is)
    (case a23 => k_is)
    (case l23 => k_is)
    (case c23 => k_is)
    (case k23 => k_is)
    (case a24 => k_is)
    (case l24 => k_is)
    (case c24 => k_is)
    (case k24 => k_is)
    (case aCB => k_is)
    (case xCB => first | rfl | with_unfolding_all rfl)
    (case aCF => k_is)
    (case xCF => first | rfl | with_unfolding_all rfl)
    (case aCN => k_is)
    (case xCN => first | rfl | with_unfolding_all rfl)
    (case aCI => k_is)
    (case aCA => k_is)
    (case kCB => k_is)
    (case bCB => k_is)
    (case tCB => k_is)
    (case kCF => k_is)
    (case bCF => k_is)
    (case tCF => k_is)
    (case kCN => k_is)
    (case bCN => k_is)
    (case tCN => k_is)
    (case kCI => k_is)
    (case bCI => k_is)
    (case tCI => k_is)
    (case xL => k_is)
    (case rv => first | rfl | decide +kernel)
    (case sa => k_is)
    (case iI => k_is)
    (case tI => k_is)
    (case lI => k_is)
    (case cI => k_is)
    (case lc => k_is)
    (case hv => first | rfl | k_is)
    (case hf => first | rfl | decide +kernel)
    (case lcc => k_is)
    (case mI => k_is)
    (case vI => k_is)
    (case zS => k_is)
    (case sI => first | rfl | with_unfolding_all rfl)
    (case tp => k_is)
    (case np => k_is)
    (case st => first | rfl | decide +kernel)
    (case enn => first | rfl | with_unfolding_all rfl)
    (case ein => first | rfl | with_unfolding_all rfl)
    (case eii => first | rfl | with_unfolding_all rfl)
    (case ebn => first | rfl | with_unfolding_all rfl)
    (case ebi => first | rfl | with_unfolding_all rfl)
    (case ebb => first | rfl | with_unfolding_all rfl)
    (case efn => first | rfl | with_unfolding_all rfl)
    (case efi => first | rfl | with_unfolding_all rfl)
    (case efb => first | rfl | with_unfolding_all rfl)
    (case eff => first | rfl | with_unfolding_all rfl)
    (case ga => k_is)
    (case gg => k_is)
    (case hI => k_is)
    (case cls => k_is)
    (case gn => k_is)
    (case gt => k_is)
    (case mo => k_is)
    (case ve => first | rfl | with_unfolding_all rfl)
    (case mm => k_is)
    (case mf => k_is)
    (case z_len => k_is)
    (case z_sum => k_is)
    (case z_all => k_is)
    (case z_any => k_is)
    (case z_max => k_is)
    (case z_min => k_is)
    (case z_sorted => k_is)
    (case z_isinstance => k_is)
    (case z_abs => k_is)
    (case z_int => k_is)
    (case z_bool => k_is)
    (case z_tuple => k_is)
    (case z_str => k_is)
    (case z_list => k_is)
    (case z_dict => k_is)
    (case z_range => k_is)
    (case z_enumerate => k_is)
    (case z_zip => k_is)
    (case z_set => k_is)
    (case zV => k_is)
    (case hev => exact fun env => ⟨_, rfl⟩)
#print axioms PySem.Challenge.cw_sharebags_k67_texts_refused_holds

