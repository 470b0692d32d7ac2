import PyProof.Rows.All
import PyProof.Rows.SortStr
import PyProof.Rows.StrMeet
import HandS.More
import HandS.SortInts
import HandS.Finally
import HandS.Text
import HandS.TupLe
import HandS.TupMul
import HandS.TupAny
import HandS.RaiseMore
import HandS.OwnEq
import KE.KDictZip
import HandS.ForMost
import HandS.Zip
import HandS.GenList
import KE.GoesEnumKw
import KE.KUnpackStar
import HandS.ExcValue
import HandS.Iter
import KE.GoesMore
import PyProof.EnumMake
import HandS.StrMore
import HandS.Rev
import Wide.All
import OpenK.AllK
import Wide.FinOn
import HandS.ForExc
import HandS.Wide
import HandS.Flow
import HandS.Defaults
import HandS.IsInst
import HandS.HeadHook1
import HandS.HeadHook2
import HandS.Deep
import HandS.SortKw
import PyProof.Rows.CallKwBuiltin
import HandS.Style
import HandS.Steps
import HandS.Conv
import HandS.HeadEnd
import HandS.Codes
import KE.KStateDown
import HandS.Head0
import HandS.Head1
import HandS.Head2
import Lean
import PySem.Challenge.RW_leasefence_k49_a_history_or_a_ring
set_option Elab.async false
set_option linter.all false
set_option maxRecDepth 100000
/-! L3t: what is sorted; a tuple by a number. -/
namespace Y
open PySem PySem.Spec L2 PyProof.Rows
def sortI (ns : List Int) : List Int := ns.mergeSort fun a b => decide (a ≤ b)
def leS (a b : Str) : Bool := !ltCps b.cps.toList a.cps.toList
def sortS (ss : List Str) : List Str := ss.mergeSort leS
theorem sortI_only {ns ms : List Int} (p : ms.Perm ns) (w : ms.Pairwise (· ≤ ·)) : ms = sortI ns := by
  have q := List.pairwise_mergeSort (le := fun a b : Int => decide (a ≤ b)) (fun a b c h1 h2 => by simp only [decide_eq_true_eq] at *; omega) (fun a b => by simp only [Bool.or_eq_true, decide_eq_true_eq]; omega) ns
  refine List.Perm.eq_of_pairwise (le := (· ≤ ·)) (fun a b _ _ h1 h2 => Int.le_antisymm h1 h2) w (q.imp fun h => by simpa using h) (p.trans (List.mergeSort_perm ns _).symm)
theorem leS_iff {a b : Str} : leS a b = true ↔ a.cps.toList ≤ b.cps.toList := by
  unfold leS
  rw [ltCps_eq, Bool.not_eq_true', decide_eq_false_iff_not]
  exact Iff.rfl
theorem leS_anti {a b : Str} (h1 : leS a b = true) (h2 : leS b a = true) : a = b := by
  have e := List.le_antisymm (leS_iff.mp h1) (leS_iff.mp h2)
  cases a; cases b
  simpa using e
theorem leS_trans (a b c : Str) (h1 : leS a b = true) (h2 : leS b c = true) : leS a c = true := leS_iff.mpr (List.le_trans (leS_iff.mp h1) (leS_iff.mp h2))
theorem leS_total (a b : Str) : (leS a b || leS b a) = true := by
  rw [Bool.or_eq_true]
  rcases List.le_total a.cps.toList b.cps.toList with h | h
  · exact .inl (leS_iff.mpr h)
  · exact .inr (leS_iff.mpr h)
theorem risingS_pair : ∀ {p : Str} {l : List Str}, risingS p l = true → (p :: l).Pairwise (fun a b => leS a b = true)
  | p, [], _ => by simp
  | p, x :: r, h => by
    unfold risingS at h
    rw [Bool.and_eq_true] at h
    have ih := risingS_pair h.2
    rw [List.pairwise_cons] at ih ⊢
    have hx : leS p x = true := h.1
    refine ⟨fun y hy => ?_, List.pairwise_cons.mpr ih⟩
    rcases List.mem_cons.mp hy with rfl | hy
    · exact hx
    · exact leS_trans _ _ _ hx (ih.1 y hy)
theorem sortS_only {ns ms : List Str} (p : ms.Perm ns) (w : sortedS ms = true) : ms = sortS ns := by
  have q := List.pairwise_mergeSort (le := leS) leS_trans leS_total ns
  have w' : ms.Pairwise (fun a b => leS a b = true) := by
    cases ms with
    | nil => simp
    | cons a l => exact risingS_pair w
  exact List.Perm.eq_of_pairwise (le := fun a b => leS a b = true) (fun a b _ _ h1 h2 => leS_anti h1 h2) w' q (p.trans (List.mergeSort_perm ns _).symm)
theorem sortI_len {ns : List Int} : (sortI ns).length = ns.length := (List.mergeSort_perm ns _).length_eq
theorem sortS_len {ns : List Str} : (sortS ns).length = ns.length := (List.mergeSort_perm ns _).length_eq
/-! a tuple by 0, by 1 -/
theorem tuple_mul1 (l : Addr) (items : Array Value) (n : Nat) (dd : Option Addr) (sl : Array (Option Value)) (u : Tok) :
    Meets (Builtin.«tuple.__mul__» ⟨[.ref l, .int 1 u], []⟩) (fun _ R s => s.heap.get? l = some { cls := .type "tuple", dict := dd, data := .seq items n, slots := sl } ∧ R (.ok (.ret (Value.ref l))) s) :=
  .of_wp fun prog w A R s h => by
    obtain ⟨hp, g, d, tk, os⟩ := s
    obtain ⟨hl, h⟩ := h
    have f1 := AutoSeq1.idx_int
    wp_walk using wpAny_loadPart' hl
    repeat (first
      | (refine wpAny_ite_false (by decide) ?_; wp_walk using wpAny_loadPart' hl)
      | (refine wpAny_ite_true (by simp) ?_; wp_walk using wpAny_loadPart' hl))
    exact ⟨_, rfl, h⟩
theorem tuple_mul0 (l : Addr) (items : Array Value) (n : Nat) (dd : Option Addr) (sl : Array (Option Value)) (u : Tok) (hi : items.isEmpty = false) :
    Meets (Builtin.«tuple.__mul__» ⟨[.ref l, .int 0 u], []⟩) (fun _ R s => s.heap.get? l = some { cls := .type "tuple", dict := dd, data := .seq items n, slots := sl } ∧
      R (.ok (.ret (Value.ref s.heap.objs.size))) { s with heap := s.heap.push { cls := Value.type "tuple", data := Data.seq #[] }, toks := s.toks }) :=
  .of_wp fun prog w A R s h => by
    obtain ⟨hp, g, d, tk, os⟩ := s
    obtain ⟨hl, h⟩ := h
    have f1 := AutoSeq1.idx_int
    wp_walk using wpAny_loadPart' hl
    repeat (first
      | (refine wpAny_ite_false (by decide) ?_; wp_walk using wpAny_loadPart' hl)
      | (refine wpAny_ite_false (by rw [hi]; decide) ?_; wp_walk using wpAny_loadPart' hl)
      | (refine wpAny_ite_true (by simp) ?_; wp_walk using wpAny_loadPart' hl))
    exact ⟨_, rfl, h⟩
def rRepA (K : PySem.W.Frag) : R2 := fun x y H Q => ∃ l k xs, x = .ref l ∧ y = .int k ∧ SqT K H l xs ∧ xs ≠ [] ∧ 0 ≤ k ∧ k ≤ 1000 ∧ xs.length ≤ 1000 ∧ (k = 1 → Q (.ref l) H) ∧ (k ≠ 1 → ∀ p, H p = none → Q (.ref p) (upd H p (.tup (List.replicate k.toNat xs).flatten)))
theorem op_repA {X : Cx} : OpR X (binaryOp .Mult) (rRepA X.K) := by
  intro pins s σ H x y v u Q I rx ry h
  obtain ⟨l, k, xs, rfl, rfl, hT, hne, h0, h2, hz, q1, q⟩ := h
  by_cases c : 2 ≤ k
  · exact op_repT pins s σ H _ _ v u Q I rx ry ⟨l, k, xs, rfl, rfl, hT, hne, c, h2, hz, q (by omega)⟩
  cases rx
  obtain ⟨t, rfl⟩ := ry
  obtain ⟨its, r, ⟨⟨cls, dd, data, sl⟩, ho, hc, n, hd⟩, hs⟩ := I.tuple hT
  simp only at hc hd
  subst hc hd
  have hle : its.length = xs.length := r.length.symm
  have hn : its ≠ [] := fun e => hne (by
    rw [e] at hle
    exact List.eq_nil_of_length_eq_zero hle.symm)
  have hi : its.toArray.isEmpty = false := by
    cases its with
    | nil => exact absurd rfl hn
    | cons a b => rfl
  rcases (by omega : k = 0 ∨ k = 1) with rfl | rfl
  · refine wpAny_binaryOp_repeat_ref (T := "tuple") (U := "int") (by decide) ⟨_, ho, rfl⟩ (fun s' => typeIs_int s' 0 t) noFill_tuple_mul F.fills_int_mul F.slot_int_rmul repeat_tuple F.slot_int_index.lookup
      (call_meets F.slot_int_rmul (typeIs_int s 0 t) F.entry_int_rmul (F.args_int_rmul_2 _ _) (int_rmul_tuple 0 t l its.toArray n dd sl)
        ⟨ho, rfl, ⟨_, ho, rfl⟩, call_meets F.slot_tuple_mul ⟨_, ho, rfl⟩ F.entry_tuple_mul (F.args_tuple_mul_2 _ _) (tuple_mul0 l its.toArray n dd sl t hi) ⟨ho, ?_⟩⟩)
    refine ⟨.ref s.heap.objs.size, _, I.laid (t' := s.toks) (o := .tup (List.replicate (0 : Int).toNat xs).flatten) (fun b ob q => Heap.get?_push_of_some _ q) (Nat.le_refl _) ?_, rfl, q (by omega) _ (I.hok.fresh (Nat.le_refl _))⟩
    exact ⟨by simp, [], .nil, IsTup.new _ _⟩
  · refine wpAny_binaryOp_repeat_ref (T := "tuple") (U := "int") (by decide) ⟨_, ho, rfl⟩ (fun s' => typeIs_int s' 1 t) noFill_tuple_mul F.fills_int_mul F.slot_int_rmul repeat_tuple F.slot_int_index.lookup
      (call_meets F.slot_int_rmul (typeIs_int s 1 t) F.entry_int_rmul (F.args_int_rmul_2 _ _) (int_rmul_tuple 1 t l its.toArray n dd sl)
        ⟨ho, rfl, ⟨_, ho, rfl⟩, call_meets F.slot_tuple_mul ⟨_, ho, rfl⟩ F.entry_tuple_mul (F.args_tuple_mul_2 _ _) (tuple_mul1 l its.toArray n dd sl t) ⟨ho, ?_⟩⟩)
    exact ⟨.ref l, H, I, rfl, q1 rfl⟩
/-! order of tuples -/
theorem lexAt_is : ∀ (ns ms : List Int) (i : Nat) (as bs : List Int), as.length = i → bs.length = i → Ob.lexAt (fun j => decide ((as ++ ns).getD j 0 = (bs ++ ms).getD j 0)) (fun j => decide ((as ++ ns).getD j 0 ≤ (bs ++ ms).getD j 0)) (decide ((as ++ ns).length ≤ (bs ++ ms).length)) i (min ns.length ms.length) = lexLeI ns ms
  | [], ms, i, as, bs, h1, h2 => by
    have : min ([] : List Int).length ms.length = 0 := by simp
    rw [this, Ob.lexAt_zero]
    unfold lexLeI
    rw [List.append_nil, List.length_append, h1, h2]
    simp
  | n :: ns, [], i, as, bs, h1, h2 => by
    have : min (n :: ns).length ([] : List Int).length = 0 := by simp
    rw [this, Ob.lexAt_zero]
    unfold lexLeI
    rw [List.append_nil, List.length_append, h1, h2]
    simp
  | n :: ns, m :: ms, i, as, bs, h1, h2 => by
    have : min (n :: ns).length (m :: ms).length = min ns.length ms.length + 1 := by simp
    rw [this, Ob.lexAt_succ]
    have g1 : (as ++ n :: ns).getD i 0 = n := by simp [← h1]
    have g2 : (bs ++ m :: ms).getD i 0 = m := by simp [← h2]
    have ih := lexAt_is ns ms (i + 1) (as ++ [n]) (bs ++ [m]) (by simp [h1]) (by simp [h2])
    rw [List.append_assoc, List.append_assoc, List.singleton_append, List.singleton_append] at ih
    rw [g1, g2, ih]
    show (if decide (n = m) = true then lexLeI ns ms else decide (n ≤ m)) = (if n = m then lexLeI ns ms else decide (n ≤ m))
    by_cases c : n = m
    · rw [decide_eq_true c, if_pos rfl, if_pos c]
    · rw [decide_eq_false c, if_neg Bool.false_ne_true, if_neg c]
theorem op_leI {X : Cx} (hu : X.A.units < cLine) : OpR X (compareOp .LtE) (fun x y H Q => ∃ (a b : Addr) (ns ms : List Int), x = .ref a ∧ y = .ref b ∧ SqT X.K H a (ns.map V.int) ∧ SqT X.K H b (ms.map V.int) ∧ Q (.bl (lexLeI ns ms)) H) := by
  rintro pins s σ H x y v u Q I rx ry ⟨a, b, ns, ms, e1, e2, h1, h2, q⟩
  refine op_leT hu pins s σ H x y v u Q I rx ry ⟨a, b, ns, ms, e1, e2, h1, h2, ?_⟩
  have := lexAt_is ns ms 0 [] [] rfl rfl
  simp only [List.nil_append] at this
  rw [this]
  exact q
/-! != by an own == -/
section
variable {M : Model} {prog : Program} {w : World} {A : Around} {E : Value → Shared → Prop} {s : Shared} {K : PySem.W.Frag} {x y C f L : Addr} {ox oy : Obj} {od od2 : Option Obj} {h₀ : Heap} {m : Str → Option Value}
theorem ifBound_objNe {args : List Value} {Q : Option Value → Shared → Prop} (X : K.In s.heap) (I : PySem.W.InstAt s.heap x ox C od) (hs : PySem.W.findIn K (.ref C) "__ne__" = some (some (.builtin "object.__ne__")))
    (h : wpAny M A (call (.builtin "object.__ne__") (.ref x :: args)) (fun v => Q (some v)) E s) : wpAny M A (callSpecialIfBound? (.ref x) "__ne__" args) Q E s := by
  simp only [callSpecialIfBound?, bindSpecialIfBound?]
  refine wpAny_holding (wpAny_bind (wpAny_bind (wpAny_bind (I.type.here ((PySem.W.looks_findIn X hs).here ?_)))))
  refine wpAny_bind (wpAny_askSetting (wpAny_ite ?_))
  have fin : wpAny M A (call (.builtin "object.__ne__") ([.ref x] ++ args) >>= fun v => pure (some v)) Q E s := wpAny_bind (wpAny_mono h (fun v s' h' => wpAny_pure h') fun _ _ h' => h')
  split
  · exact wpAny_bind (wpAny_of_eq (F.cmp_object.ne.bind _) (wpAny_pure (by exact fin)))
  · exact wpAny_tryCatch (wpAny_bind (wpAny_of_eq (F.cmp_object.ne.bind _) (wpAny_pure (by exact fin))))
theorem entry_objNe (X : K.In s.heap) (I : PySem.W.InstAt s.heap x ox C od) (he : PySem.W.findIn K (.ref C) "__eq__" = some (some (.ref f))) (hf : PySem.W.isFn K (.ref f) = true) (hu : A.units < cLine) {Q : Fin → Shared → Prop}
    (hcall : wpAny (model prog w) A (call (.ref f) [.ref x, .ref y]) (fun v s' => ∃ b, v = .bool b ∧ Q (.done (.ret (.bool (!b)))) s') E s) :
    wpAny (model prog w) A (Builtin.«object.__ne__» ⟨[.ref x, .ref y], []⟩) Q E s := by
  unfold Builtin.«object.__ne__»
  repeat (first
    | with_reducible refine wpAny_cRoomFor hu ?_
    | (refine wpAny_bind (m := callSpecialIfBound? (.ref x) (Str.ofString "__eq__") [.ref y])
        (PySem.W.ifBound_K X I he hf (wpAny_mono hcall (fun r s' hr => by
          obtain ⟨b, rfl, hq⟩ := hr
          repeat (first | exact hq | exact wpAny_pure hq | exact wpAny_truthy_bool hq | (refine wpAny_bind (m := truthy (.bool _)) (wpAny_truthy_bool ?_)) | wp_step)) fun _ _ e => e)))
    | wp_step)
theorem call_objNe (X : K.In s.heap) (I : PySem.W.InstAt s.heap x ox C od) (hm : PySem.W.mroIn K C (.type "object") = some true) (he : PySem.W.findIn K (.ref C) "__eq__" = some (some (.ref f))) (hf : PySem.W.isFn K (.ref f) = true) (hu : A.units + 1 < cLine) {Q : Value → Shared → Prop}
    (hcall : wpAny (model prog w) A.in1 (call (.ref f) [.ref x, .ref y]) (fun v s' => ∃ b, v = .bool b ∧ Q (.bool (!b)) s') E s) :
    wpAny (model prog w) A (call (.builtin "object.__ne__") [.ref x, .ref y]) Q E s :=
  wpAny_call (codeAny_call_builtin F.cmp_object.ne.plain F.cmpEntry_ne (PySem.W.check_slot F.cmpKind_ne F.cmpSplit_ne (I.type.andThen (PySem.W.looks_mroIn X hm)) (F.cmpArgs_ne _ _) (entry_objNe (A := A.in1) X I he hf hu (wpAny_mono hcall (fun v s' hv => by
    obtain ⟨b, rfl, hq⟩ := hv
    first | exact ⟨b, rfl, hq⟩ | exact ⟨b, rfl, wpAny_pure hq⟩) fun _ _ e => e))))
theorem ne_K {Q : Value → Shared → Prop} (hu : A.units + 1 < cLine) (F₁ : Fr h₀ L s.heap m) (X₀ : K.In h₀) (I : PySem.W.InstAt s.heap x ox C od) (I2 : PySem.W.InstAt s.heap y oy C od2)
    (hm : PySem.W.mroIn K C (.type "object") = some true) (hn : PySem.W.findIn K (.ref C) "__ne__" = some (some (.builtin "object.__ne__"))) (he : PySem.W.findIn K (.ref C) "__eq__" = some (some (.ref f))) (hf : PySem.W.isFn K (.ref f) = true)
    (hcall : wpAny (model prog w) A.in1 (call (.ref f) [.ref x, .ref y]) (fun v s' => ∃ b, v = .bool b ∧ Q (.bool (!b)) s') E s) : wpAny (model prog w) A (richCompare .NotEq (.ref x) (.ref y)) Q E s := by
  have X := X₀.keeps F₁.keep
  have one : wpAny (model prog w) A (tryCompare (.ref x) "__ne__" (.ref y)) (fun r s' => ∃ v, r = some v ∧ Q v s') E s := by
    unfold tryCompare
    refine wpAny_bind (ifBound_objNe X I hn (call_objNe X I hm he hf hu (wpAny_mono hcall (fun v s' hv => ?_) fun _ _ e => e)))
    obtain ⟨b, rfl, hq⟩ := hv
    exact ⟨b, rfl, wpAny_pure ⟨_, rfl, hq⟩⟩
  simp only [richCompare, cmpInfo_NotEq, oneThing_ref]
  refine wpAny_holding (wpAny_bind (wpAny_cRoomFor (by omega) ?_))
  refine wpAny_bind (I.type.here (wpAny_bind (I2.type.here ?_)))
  split
  · rename_i q
    exact absurd q (by simp)
  · refine wpAny_bind (wpAny_pure ?_)
    simp only [Bool.false_eq_true, if_false]
    refine wpAny_bind (wpAny_mono one (fun r s' z => ?_) fun _ _ e => e)
    obtain ⟨v, rfl, hq⟩ := z
    exact wpAny_pure hq
end
end Y

/-! L3z: list(zip(a, b)) of two lists, of two tuples. -/
namespace Y
open PySem PySem.Spec L2 PyProof.Rows
abbrev zipN : Builtin := Builtin.«zip.__next__»
theorem zip_noLen : typeLookup (.type "zip") "__len__" = pure none := am_miss_of_fast (by decide +kernel)
theorem zip_noHint : typeLookup (.type "zip") "__length_hint__" = pure none := am_miss_of_fast (by decide +kernel)
theorem or2 {b x y w : Addr} (c : b = x ∨ b = y) (h1 : x ≠ w) (h2 : y ≠ w) : b ≠ w := by rcases c with c | c <;> rw [c] <;> assumption
/-- what an iterator does: k drawn, n to draw -/
structure Src (prog : Program) (w : World) (it l : Addr) (n : Nat) (v : Nat → Value) (P : Nat → Heap → Prop) : Prop where
  keep : ∀ k h h', P k h → (∀ b o, (b = it ∨ b = l) → h.get? b = some o → h'.get? b = some o) → P k h'
  there : ∀ k h, P k h → ∃ o, h.get? it = some o
  item : ∀ (A : Around) (E Q : Value → Shared → Prop) (s : Shared) (k : Nat), k < n → P k s.heap → (∀ h', P (k + 1) h' → Heap.SameBut it s.heap h' → Q (v k) { s with heap := h' }) → wpAny (model prog w) A (Builtin.SmallTypes.nextOf (.ref it)) Q E s
  fin : ∀ (A : Around) (E Q : Value → Shared → Prop) (s : Shared), A.handled = none → P n s.heap → (∀ h' e, Heap.ExtBut it s.heap h' → (∃ o, h'.get? e = some o ∧ o.cls = .type "StopIteration") → E (.ref e) { s with heap := h' }) →
    wpAny (model prog w) A (Builtin.SmallTypes.nextOf (.ref it)) Q E s
theorem src_list {prog : Program} {w : World} {it l : Addr} (ne : l ≠ it) (items : Array Value) : Src prog w it l items.size (fun k => items.getD k .none) fun k h => h.IsListIter it l k ∧ h.IsList l items where
  keep := fun k h h' p q => ⟨p.1.at fun o e => q it o (.inl rfl) e, p.2.at fun o e => q l o (.inr rfl) e⟩
  there := fun k h p => let ⟨⟨o, e, _⟩, _⟩ := p; ⟨o, e⟩
  item := fun A E Q s k hk p q => wpAny_nextOf_list_item p.1 p.2 (x := items.getD k .none) (by simp [Array.getD, hk]) fun h' a b => q h' ⟨a, p.2.extBut b.extBut ne⟩ b
  fin := fun A E Q s hh p q => wpAny_nextOf_list_end hh p.1 p.2 (by simp) q
theorem src_tup {prog : Program} {w : World} {it l : Addr} (ne : l ≠ it) (items : Array Value) : Src prog w it l items.size (fun k => items.getD k .none) fun k h => h.IsTupleIter it l k ∧ h.IsTuple l items where
  keep := fun k h h' p q => ⟨p.1.at fun o e => q it o (.inl rfl) e, p.2.at fun o e => q l o (.inr rfl) e⟩
  there := fun k h p => let ⟨⟨o, e, _⟩, _⟩ := p; ⟨o, e⟩
  item := fun A E Q s k hk p q => RZ.nextOf_tuple_item p.1 p.2 (x := items.getD k .none) (by simp [Array.getD, hk]) fun h' a b => q h' ⟨a, p.2.extBut b.extBut ne⟩ b
  fin := fun A E Q s hh p q => RZ.nextOf_tuple_end hh p.1 p.2 (by simp) q
/-- a zip, what it knows of its tuple -/
abbrev ZipAt (h : Heap) (z TI TO : Addr) (f g : Value) (st : Bool) : Prop := h.get? z = some { cls := .type "zip", dict := none, data := .fields #[f, g, .bool st, .ref TI, .ref TO], slots := #[] }
section
variable {prog : Program} {w : World} {A : Around} {E : Value → Shared → Prop} {s : Shared} {z TI TO i1 i2 l1 l2 : Addr} {n : Nat} {v1 v2 : Nat → Value} {P1 P2 : Nat → Heap → Prop} {k : Nat}
/-- its next while the last tuple is out -/
theorem zh_item {T : Addr} {f : Bool} {oT : Obj} {Q : Value → Shared → Prop} (S1 : Src prog w i1 l1 n v1 P1) (S2 : Src prog w i2 l2 n v2 P2) (D : ZipApart z TI TO i1 i2 l1 l2)
    (hz : IsZipHeld s.heap z TI TO T f) (hT : s.heap.get? T = some oT) (hTI : IsPair s.heap TI (.ref i1) (.ref i2)) (p1 : P1 k s.heap) (p2 : P2 k s.heap) (hk : k < n)
    (q : ∀ h', IsZipHeld h' z TI TO T true → P1 (k + 1) h' → P2 (k + 1) h' → IsPair h' s.heap.objs.size (v1 k) (v2 k) → (∀ c o, c ≠ z → c ≠ i1 → c ≠ i2 → s.heap.get? c = some o → h'.get? c = some o) → Q (.ref s.heap.objs.size) { s with heap := h' }) :
    wpAny (model prog w) A (zipN ⟨[.ref z], []⟩) (fun fin s' => ∃ v, fin = .done (.ret v) ∧ Q v s') E s := by
  show wpAny (model prog w) A (field (.ref z) 2 >>= _) _ E s
  refine wpAny_bind (wpAny_field (x := Value.bool false) hz rfl rfl ?_)
  show wpAny (model prog w) A (field (.ref z) 3 >>= _) _ E s
  refine wpAny_bind (wpAny_field (x := Value.ref TI) hz rfl rfl (wpAny_bind (wpAny_seqItems hTI rfl ?_)))
  show wpAny (model prog w) A (Builtin.SmallTypes.ownedTupleIsFree (.ref z) >>= _) _ E s
  refine wpAny_bind (wpAny_tupleHeld_zip hz hT fun ha za sa => ?_)
  simp only [Bool.false_eq_true, if_false]
  refine wpAny_bind ?_
  rw [← Array.forIn_toList]
  simp only [List.forIn_cons, List.forIn_nil]
  have ka : ∀ b o, b ≠ z → s.heap.get? b = some o → ha.get? b = some o := fun b o c e => sa.extBut _ _ c e
  refine wpAny_bind (wpAny_bind (wpAny_holding ?_))
  show wpAny (model prog w) A (Builtin.SmallTypes.nextOf (.ref i1) >>= _) _ E _
  refine wpAny_bind (S1.item A E _ { s with heap := ha } k hk (S1.keep _ _ _ p1 fun b o c e => ka b o (or2 c D.i1z D.l1z) e) fun hb b1 sb => wpAny_pure (wpAny_pure ?_))
  have kb : ∀ b o, b ≠ i1 → ha.get? b = some o → hb.get? b = some o := fun b o c e => sb.extBut _ _ c e
  have pb2 : P2 k hb := S2.keep _ _ _ p2 fun b o c e => kb b o (or2 c D.i12.symm D.l2i1) (ka b o (or2 c D.i2z D.l2z) e)
  refine wpAny_bind (wpAny_bind (wpAny_holding ?_))
  show wpAny (model prog w) A (Builtin.SmallTypes.nextOf (.ref i2) >>= _) _ E _
  refine wpAny_bind (S2.item A E _ { s with heap := hb } k hk pb2 fun hc c2 sc => wpAny_pure (wpAny_pure (wpAny_pure ?_)))
  have kc : ∀ b o, b ≠ i2 → hb.get? b = some o → hc.get? b = some o := fun b o c e => sc.extBut _ _ c e
  show wpAny (model prog w) A (newTuple [v1 k, v2 k] >>= _) _ E _
  refine wpAny_bind (wpAny_newTuple (wpAny_pure ⟨_, rfl, ?_⟩))
  have sz : hc.objs.size = s.heap.objs.size := by rw [sc.1, sb.1, sa.1]
  have nw : IsPair (hc.push { cls := .type "tuple", data := .seq #[v1 k, v2 k] }) hc.objs.size (v1 k) (v2 k) := Heap.get?_push_size _ rfl
  have up : ∀ b o, hc.get? b = some o → (hc.push { cls := .type "tuple", data := .seq #[v1 k, v2 k] }).get? b = some o := fun b o e => Heap.get?_push_of_some _ e
  show Q (.ref hc.objs.size) _
  rw [sz] at nw ⊢
  refine q _ (up _ _ (kc _ _ D.i2z.symm (kb _ _ D.i1z.symm za))) (S1.keep _ _ _ b1 fun b o c e => up b o (kc b o (or2 c D.i12 D.l1i2) e)) (S2.keep _ _ _ c2 fun b o c e => up b o e) nw fun b o c1 c2 c3 e => up b o (kc b o c3 (kb b o c2 (ka b o c1 e)))
theorem zh_end {T : Addr} {f : Bool} {oT : Obj} {Q : Fin → Shared → Prop} (hh : A.handled = none) (S1 : Src prog w i1 l1 n v1 P1) (D : ZipApart z TI TO i1 i2 l1 l2)
    (hz : IsZipHeld s.heap z TI TO T f) (hT : s.heap.get? T = some oT) (hTI : IsPair s.heap TI (.ref i1) (.ref i2)) (p1 : P1 n s.heap)
    (q : ∀ h' e, (∀ c o, c ≠ z → c ≠ i1 → s.heap.get? c = some o → h'.get? c = some o) → (∃ o, h'.get? e = some o ∧ o.cls = .type "StopIteration") → E (.ref e) { s with heap := h' }) :
    wpAny (model prog w) A (zipN ⟨[.ref z], []⟩) Q E s := by
  show wpAny (model prog w) A (field (.ref z) 2 >>= _) Q E s
  refine wpAny_bind (wpAny_field (x := Value.bool false) hz rfl rfl ?_)
  show wpAny (model prog w) A (field (.ref z) 3 >>= _) Q E s
  refine wpAny_bind (wpAny_field (x := Value.ref TI) hz rfl rfl (wpAny_bind (wpAny_seqItems hTI rfl ?_)))
  show wpAny (model prog w) A (Builtin.SmallTypes.ownedTupleIsFree (.ref z) >>= _) Q E s
  refine wpAny_bind (wpAny_tupleHeld_zip hz hT fun ha za sa => ?_)
  simp only [Bool.false_eq_true, if_false]
  refine wpAny_bind ?_
  rw [← Array.forIn_toList]
  simp only [List.forIn_cons, List.forIn_nil]
  have ka : ∀ b o, b ≠ z → s.heap.get? b = some o → ha.get? b = some o := fun b o c e => sa.extBut _ _ c e
  refine wpAny_bind (wpAny_bind (wpAny_holding ?_))
  show wpAny (model prog w) A (Builtin.SmallTypes.nextOf (.ref i1) >>= _) _ E _
  exact wpAny_bind (S1.fin A E _ { s with heap := ha } hh (S1.keep _ _ _ p1 fun b o c e => ka b o (or2 c D.i1z D.l1z) e) fun hb e sb x => q hb e (fun b o c1 c2 y => sb _ _ c2 (ka b o c1 y)) x)
/-- its next while its own tuple is free -/
theorem zf_item {a b : Value} {Q : Value → Shared → Prop} (S1 : Src prog w i1 l1 n v1 P1) (S2 : Src prog w i2 l2 n v2 P2) (D : ZipApart z TI TO i1 i2 l1 l2)
    (hz : IsZip s.heap z TI TO .none) (hTI : IsPair s.heap TI (.ref i1) (.ref i2)) (hTO : IsPair s.heap TO a b) (p1 : P1 k s.heap) (p2 : P2 k s.heap) (hk : k < n)
    (q : ∀ h', IsZip h' z TI TO (rawInt s.heap.objs.size) → IsPair h' TO (v1 k) (v2 k) → P1 (k + 1) h' → P2 (k + 1) h' → IsPair h' s.heap.objs.size (v1 k) (v2 k) →
      (∀ c o, c ≠ z → c ≠ TO → c ≠ i1 → c ≠ i2 → s.heap.get? c = some o → h'.get? c = some o) → Q (.ref s.heap.objs.size) { s with heap := h' }) :
    wpAny (model prog w) A (zipN ⟨[.ref z], []⟩) (fun fin s' => ∃ v, fin = .done (.ret v) ∧ Q v s') E s := by
  show wpAny (model prog w) A (field (.ref z) 2 >>= _) _ E s
  refine wpAny_bind (wpAny_field (x := Value.bool false) hz rfl rfl ?_)
  show wpAny (model prog w) A (field (.ref z) 3 >>= _) _ E s
  refine wpAny_bind (wpAny_field (x := Value.ref TI) hz rfl rfl (wpAny_bind (wpAny_seqItems hTI rfl ?_)))
  show wpAny (model prog w) A (Builtin.SmallTypes.ownedTupleIsFree (.ref z) >>= _) _ E s
  refine wpAny_bind ?_
  unfold Builtin.SmallTypes.ownedTupleIsFree
  refine wpAny_bind (wpAny_field (x := Value.none) hz rfl rfl (wpAny_pure ?_))
  simp only [if_true]
  refine wpAny_bind (wpAny_rule (wpAny_bind (wpAny_field (x := Value.ref TO) hz rfl rfl (wpAny_bind (wpAny_setField_rec hz (by simp) fun ha za sa => ?_)))))
  replace za : IsZip ha z TI TO .ellipsis := za
  have ka : ∀ b o, b ≠ z → s.heap.get? b = some o → ha.get? b = some o := fun b o c e => sa.extBut _ _ c e
  refine wpAny_bind ?_
  simp only [List.zipIdx_cons, List.zipIdx_nil, List.forIn_cons, List.forIn_nil]
  refine wpAny_bind (wpAny_bind (wpAny_onRaise ?_))
  show wpAny (model prog w) A (Builtin.SmallTypes.nextOf (.ref i1) >>= _) _ _ _
  refine wpAny_bind (S1.item A _ _ { s with heap := ha } k hk (S1.keep _ _ _ p1 fun b o c e => ka b o (or2 c D.i1z D.l1z) e) fun hb b1 sb => wpAny_pure ?_)
  have kb : ∀ b o, b ≠ i1 → ha.get? b = some o → hb.get? b = some o := fun b o c e => sb.extBut _ _ c e
  have tb : IsPair hb TO a b := kb _ _ D.TOi1 (ka _ _ D.TOz hTO)
  refine wpAny_bind (wpAny_seqItems tb rfl (wpAny_bind (wpAny_updateSeq_pair tb fun hc tc sc => wpAny_bind (wpAny_letGo (wpAny_pure ?_)))))
  replace tc : IsPair hc TO (v1 k) b := tc
  have kc : ∀ b o, b ≠ TO → hb.get? b = some o → hc.get? b = some o := fun b o c e => sc.extBut _ _ c e
  have l1O : l1 ≠ TO := D.l1TO
  have pc2 : P2 k hc := S2.keep _ _ _ p2 fun b o c e => kc b o (or2 c D.TOi2.symm D.l2TO) (kb b o (or2 c D.i12.symm D.l2i1) (ka b o (or2 c D.i2z D.l2z) e))
  refine wpAny_bind (wpAny_bind (wpAny_onRaise ?_))
  show wpAny (model prog w) A (Builtin.SmallTypes.nextOf (.ref i2) >>= _) _ _ _
  refine wpAny_bind (S2.item A _ _ { s with heap := hc } k hk pc2 fun hd d2 sd => wpAny_pure ?_)
  have kd : ∀ b o, b ≠ i2 → hc.get? b = some o → hd.get? b = some o := fun b o c e => sd.extBut _ _ c e
  have td : IsPair hd TO (v1 k) b := kd _ _ D.TOi2 tc
  refine wpAny_bind (wpAny_seqItems td rfl (wpAny_bind (wpAny_updateSeq_pair td fun he te se => wpAny_bind (wpAny_letGo (wpAny_pure (wpAny_pure ?_))))))
  replace te : IsPair he TO (v1 k) (v2 k) := te
  have ke : ∀ b o, b ≠ TO → hd.get? b = some o → he.get? b = some o := fun b o c e => se.extBut _ _ c e
  refine wpAny_bind (wpAny_seqItems te rfl (wpAny_bind (wpAny_newTuple ?_)))
  have sz : he.objs.size = s.heap.objs.size := by rw [se.1, sd.1, sc.1, sb.1, sa.1]
  have zz : IsZip he z TI TO .ellipsis := ke _ _ D.TOz.symm (kd _ _ D.i2z.symm (kc _ _ D.TOz.symm (kb _ _ D.i1z.symm za)))
  have zl : z < he.objs.size := Heap.lt_size zz
  show wpAny (model prog w) A (Builtin.SmallTypes.ownedTupleHandOut (.ref z) (.ref he.objs.size) >>= _) _ _ _
  refine wpAny_bind ?_
  unfold Builtin.SmallTypes.ownedTupleHandOut
  have zp : IsZip (he.push { cls := .type "tuple", data := .seq #[v1 k, v2 k] }) z TI TO .ellipsis := Heap.get?_push_of_some _ zz
  refine wpAny_bind (wpAny_setField_rec zp (by simp) fun hg zg sg => ?_)
  replace zg : IsZip hg z TI TO (rawInt he.objs.size) := zg
  refine wpAny_setField_rec zg (by simp) fun hj zj sj => ?_
  replace zj : IsZip hj z TI TO (rawInt he.objs.size) := zj
  have up : ∀ c o, c ≠ z → he.get? c = some o → hj.get? c = some o := fun c o c1 e => sj.extBut _ _ c1 (sg.extBut _ _ c1 (Heap.get?_push_of_some _ e))
  have nw : IsPair hj he.objs.size (v1 k) (v2 k) := sj.extBut _ _ (Nat.ne_of_gt zl) (sg.extBut _ _ (Nat.ne_of_gt zl) (Heap.get?_push_size _ rfl))
  refine wpAny_pure ⟨_, rfl, ?_⟩
  show Q (.ref he.objs.size) _
  rw [sz] at zj nw ⊢
  refine q hj zj (up _ _ D.TOz te) (S1.keep _ _ _ b1 fun b o c e => up b o (or2 c D.i1z D.l1z) (ke b o (or2 c D.TOi1.symm l1O) (kd b o (or2 c D.i12 D.l1i2) (kc b o (or2 c D.TOi1.symm l1O) e))))
    (S2.keep _ _ _ d2 fun b o c e => up b o (or2 c D.i2z D.l2z) (ke b o (or2 c D.TOi2.symm D.l2TO) e)) nw
    fun b o c1 c2 c3 c4 e => up b o c1 (ke b o c2 (kd b o c4 (kc b o c2 (kb b o c3 (ka b o c1 e)))))
theorem zf_end {a b : Value} {Q : Fin → Shared → Prop} (hh : A.handled = none) (S1 : Src prog w i1 l1 n v1 P1) (D : ZipApart z TI TO i1 i2 l1 l2)
    (hz : IsZip s.heap z TI TO .none) (hTI : IsPair s.heap TI (.ref i1) (.ref i2)) (hTO : IsPair s.heap TO a b) (p1 : P1 n s.heap)
    (q : ∀ h' e, (∀ c o, c ≠ z → c ≠ i1 → s.heap.get? c = some o → h'.get? c = some o) → (∃ o, h'.get? e = some o ∧ o.cls = .type "StopIteration") → E (.ref e) { s with heap := h' }) :
    wpAny (model prog w) A (zipN ⟨[.ref z], []⟩) Q E s := by
  show wpAny (model prog w) A (field (.ref z) 2 >>= _) Q E s
  refine wpAny_bind (wpAny_field (x := Value.bool false) hz rfl rfl ?_)
  show wpAny (model prog w) A (field (.ref z) 3 >>= _) Q E s
  refine wpAny_bind (wpAny_field (x := Value.ref TI) hz rfl rfl (wpAny_bind (wpAny_seqItems hTI rfl ?_)))
  show wpAny (model prog w) A (Builtin.SmallTypes.ownedTupleIsFree (.ref z) >>= _) Q E s
  refine wpAny_bind ?_
  unfold Builtin.SmallTypes.ownedTupleIsFree
  refine wpAny_bind (wpAny_field (x := Value.none) hz rfl rfl (wpAny_pure ?_))
  simp only [if_true]
  refine wpAny_bind (wpAny_rule (wpAny_bind (wpAny_field (x := Value.ref TO) hz rfl rfl (wpAny_bind (wpAny_setField_rec hz (by simp) fun ha za sa => ?_)))))
  replace za : IsZip ha z TI TO .ellipsis := za
  have ka : ∀ b o, b ≠ z → s.heap.get? b = some o → ha.get? b = some o := fun b o c e => sa.extBut _ _ c e
  refine wpAny_bind ?_
  simp only [List.zipIdx_cons, List.zipIdx_nil, List.forIn_cons, List.forIn_nil]
  refine wpAny_bind (wpAny_bind (wpAny_onRaise ?_))
  show wpAny (model prog w) A (Builtin.SmallTypes.nextOf (.ref i1) >>= _) _ _ _
  refine wpAny_bind (S1.fin A _ _ { s with heap := ha } hh (S1.keep _ _ _ p1 fun b o c e => ka b o (or2 c D.i1z D.l1z) e) fun hb e sb x => ?_)
  obtain ⟨oe, x1, x2⟩ := x
  have zb : IsZip hb z TI TO .ellipsis := sb _ _ D.i1z.symm za
  have ez : e ≠ z := fun y => by
    subst y
    rw [zb] at x1
    cases x1
    simp at x2
  exact wpAny_setField_rec zb (by simp) fun hc _ sc => q hc e (fun b o c1 c2 y => sc.extBut _ _ c1 (sb _ _ c2 (ka b o c1 y))) ⟨oe, sc.extBut _ _ ez x1, x2⟩
/-! ### its turns -/
/-- k pairs drawn, each kept -/
def ZK (P1 P2 : Nat → Heap → Prop) (z TI TO i1 i2 : Addr) (k : Nat) (h : Heap) : Prop :=
  IsPair h TI (.ref i1) (.ref i2) ∧ P1 k h ∧ P2 k h ∧ ((IsZip h z TI TO .none ∧ ∃ a b, IsPair h TO a b) ∨ ∃ T f x y, IsZipHeld h z TI TO T f ∧ IsPair h T x y ∧ T ≠ z ∧ T ≠ i1 ∧ T ≠ i2)
theorem zk_keep {h h' : Heap} (S1 : Src prog w i1 l1 n v1 P1) (S2 : Src prog w i2 l2 n v2 P2) (p : ZK P1 P2 z TI TO i1 i2 k h) (q : ∀ b o, h.get? b = some o → b ≠ l → h'.get? b = some o) (hl : ∀ b ∈ [z, TI, TO, i1, i2, l1, l2], b ≠ l) (hL : ∃ o, h.get? l = some o ∧ o.cls = .type "list") :
    ZK P1 P2 z TI TO i1 i2 k h' := by
  obtain ⟨a, b, c, d⟩ := p
  have m : ∀ b ∈ [z, TI, TO, i1, i2, l1, l2], ∀ o, h.get? b = some o → h'.get? b = some o := fun b hb o e => q b o e (hl b hb)
  refine ⟨m _ (by simp) _ a, S1.keep _ _ _ b fun b o c e => m b (by rcases c with c | c <;> simp [c]) o e, S2.keep _ _ _ c fun b o c e => m b (by rcases c with c | c <;> simp [c]) o e, ?_⟩
  rcases d with ⟨d, x, y, e⟩ | ⟨T, f, x, y, d, e, tz, t1, t2⟩
  · exact .inl ⟨m _ (by simp) _ d, x, y, m _ (by simp) _ e⟩
  · refine .inr ⟨T, f, x, y, m _ (by simp) _ d, q _ _ e (fun w => ?_), tz, t1, t2⟩
    obtain ⟨o, e1, e2⟩ := hL
    rw [← w] at e1
    have e3 : some _ = some o := e.symm.trans e1
    cases e3
    simp at e2
theorem zk_item {Q : Option Value → Shared → Prop} (S1 : Src prog w i1 l1 n v1 P1) (S2 : Src prog w i2 l2 n v2 P2) (D : ZipApart z TI TO i1 i2 l1 l2) (p : ZK P1 P2 z TI TO i1 i2 k s.heap) (hk : k < n)
    (q : ∀ h', ZK P1 P2 z TI TO i1 i2 (k + 1) h' → IsPair h' s.heap.objs.size (v1 k) (v2 k) → (∀ c o, c ≠ z → c ≠ TO → c ≠ i1 → c ≠ i2 → s.heap.get? c = some o → h'.get? c = some o) → Q (some (.ref s.heap.objs.size)) { s with heap := h' }) :
    wpAny (model prog w) A (pyNext (.ref z)) Q E s := by
  obtain ⟨a, b, c, d⟩ := p
  rcases d with ⟨d, x, y, e⟩ | ⟨T, f, x, y, d, e, tz, t1, t2⟩
  · have ty : s.TypeIs (.ref z) "zip" := ⟨_, d, rfl⟩
    unfold pyNext
    refine wpAny_bind (wpAny_attempt (wpAny_callSpecial?_slot (name := Str.ofString "__next__") ty F.slot_zip_next (wpAny_call_entry F.slot_zip_next ty F.entry_zip_next (zf_item S1 S2 D d a e b c hk fun h' y1 y2 y3 y4 y5 y6 => wpAny_pure ?_) (F.args_zip_next_1 _))))
    obtain ⟨o1, u1⟩ := S1.there _ _ b
    obtain ⟨o2, u2⟩ := S2.there _ _ c
    exact q h' ⟨y6 _ _ D.TIz D.TITO D.TIi1 D.TIi2 a, y3, y4, .inr ⟨_, false, _, _, y1, y5, Nat.ne_of_gt (Heap.lt_size d), Nat.ne_of_gt (Heap.lt_size u1), Nat.ne_of_gt (Heap.lt_size u2)⟩⟩ y5 y6
  · have ty : s.TypeIs (.ref z) "zip" := ⟨_, d, rfl⟩
    unfold pyNext
    refine wpAny_bind (wpAny_attempt (wpAny_callSpecial?_slot (name := Str.ofString "__next__") ty F.slot_zip_next (wpAny_call_entry F.slot_zip_next ty F.entry_zip_next (zh_item S1 S2 D d e a b c hk fun h' y1 y3 y4 y5 y6 => wpAny_pure ?_) (F.args_zip_next_1 _))))
    exact q h' ⟨y6 _ _ D.TIz D.TIi1 D.TIi2 a, y3, y4, .inr ⟨T, true, _, _, y1, y6 T _ tz t1 t2 e, tz, t1, t2⟩⟩ y5 fun c o c1 _ c3 c4 e => y6 c o c1 c3 c4 e
theorem zk_end {Q : Option Value → Shared → Prop} (hh : A.handled = none) (S1 : Src prog w i1 l1 n v1 P1) (D : ZipApart z TI TO i1 i2 l1 l2) (p : ZK P1 P2 z TI TO i1 i2 n s.heap)
    (q : ∀ h', (∀ c o, c ≠ z → c ≠ i1 → s.heap.get? c = some o → h'.get? c = some o) → Q none { s with heap := h' }) : wpAny (model prog w) A (pyNext (.ref z)) Q E s := by
  obtain ⟨a, b, c, d⟩ := p
  rcases d with ⟨d, x, y, e⟩ | ⟨T, f, x, y, d, e, tz, t1, t2⟩
  · have ty : s.TypeIs (.ref z) "zip" := ⟨_, d, rfl⟩
    unfold pyNext
    refine wpAny_bind (wpAny_attempt (wpAny_callSpecial?_slot (name := Str.ofString "__next__") ty F.slot_zip_next (wpAny_call_entry F.slot_zip_next ty F.entry_zip_next (zf_end hh S1 D d a e b fun h' x1 x2 x3 => ?_) (F.args_zip_next_1 _))))
    obtain ⟨o, ho, hc⟩ := x3
    exact wpAny_bind (wpAny_isInstance (T := "StopIteration") (b := true) ⟨o, ho, hc⟩ isSubtype_stop (wpAny_pure (q _ x2)))
  · have ty : s.TypeIs (.ref z) "zip" := ⟨_, d, rfl⟩
    unfold pyNext
    refine wpAny_bind (wpAny_attempt (wpAny_callSpecial?_slot (name := Str.ofString "__next__") ty F.slot_zip_next (wpAny_call_entry F.slot_zip_next ty F.entry_zip_next (zh_end hh S1 D d e a b fun h' x1 x2 x3 => ?_) (F.args_zip_next_1 _))))
    obtain ⟨o, ho, hc⟩ := x3
    exact wpAny_bind (wpAny_isInstance (T := "StopIteration") (b := true) ⟨o, ho, hc⟩ isSubtype_stop (wpAny_pure (q _ x2)))
/-- the loop of list.extend over it: S holds what was drawn -/
theorem zl_loop {R : Result → Shared → Prop} {S : Addr} {res : Value} {g0 : Shared} (hh : A.in1.handled = none) (S1 : Src prog w i1 l1 n v1 P1) (S2 : Src prog w i2 l2 n v2 P2) (D : ZipApart z TI TO i1 i2 l1 l2) (hn : n ≤ 1000000)
    (hS : ∀ b ∈ [z, TI, TO, i1, i2, l1, l2], b ≠ S) (h0 : Heap) (low : ∀ b ∈ [S, z, TO, i1, i2], b < h0.objs.size)
    (hR : ∀ (h' : Heap) (acc : Array Value) (c : Nat) (as : List Addr), (∀ b o, b ∉ [S, z, TO, i1, i2] → h0.get? b = some o → h'.get? b = some o) → h'.get? S = some { cls := .type "list", dict := none, data := .seq acc c, slots := #[] } → as.length = n → as.Nodup → acc.toList = as.map Value.ref →
      (∀ i a, as[i]? = some a → IsPair h' a (v1 i) (v2 i) ∧ h0.objs.size ≤ a) → R (.ok (.ret res)) { g0 with heap := h' }) :
    ∀ (j k : Nat) (h : Heap) (acc : Array Value) (c : Nat) (as : List Addr), n - k = j → k ≤ n → ZK P1 P2 z TI TO i1 i2 k h → h.get? S = some { cls := .type "list", dict := none, data := .seq acc c, slots := #[] } → h0.objs.size ≤ h.objs.size →
      (∀ b o, b ∉ [S, z, TO, i1, i2] → h0.get? b = some o → h.get? b = some o) → as.length = k → as.Nodup → acc.toList = as.map Value.ref → (∀ i a, as[i]? = some a → IsPair h a (v1 i) (v2 i) ∧ h0.objs.size ≤ a) →
      codeAny (model prog w) A (.builtin "list.extend.loop" ⟨[.ref S, .ref z, res], []⟩) R { g0 with heap := h } := by
  have up0 : ∀ a, h0.objs.size ≤ a → ∀ b ∈ [S, z, TO, i1, i2], a ≠ b := fun a ha b hb => Nat.ne_of_gt (Nat.lt_of_lt_of_le (low b hb) ha)
  intro j
  induction j with
  | zero =>
    intro k h acc c as hk hkn zk eS le kp la nd ea pa
    have : k = n := by omega
    subst this
    refine codeAny_builtin (F.entry_extend_loop) ?_
    rw [Around.under_plainId (F.plain_extend_loop) _]
    show wpAny (model prog w) A.in1 (pyNext (.ref z) >>= _) _ _ { g0 with heap := h }
    refine wpAny_bind (zk_end (s := { g0 with heap := h }) hh S1 D zk fun h' q => wpAny_pure ?_)
    refine hR h' acc c as (fun b o nb e => q b o (by intro x; exact nb (by simp [x])) (by intro x; exact nb (by simp [x])) (kp b o nb e)) (q _ _ (hS z (by simp)).symm (hS i1 (by simp)).symm eS) la nd ea fun i a e => ?_
    obtain ⟨x1, x2⟩ := pa i a e
    exact ⟨q _ _ (up0 a x2 z (by simp)) (up0 a x2 i1 (by simp)) x1, x2⟩
  | succ j ih =>
    intro k h acc c as hk hkn zk eS le kp la nd ea pa
    have hlt : k < n := by omega
    refine codeAny_builtin (F.entry_extend_loop) ?_
    rw [Around.under_plainId (F.plain_extend_loop) _]
    show wpAny (model prog w) A.in1 (pyNext (.ref z) >>= _) _ _ { g0 with heap := h }
    refine wpAny_bind (zk_item (s := { g0 with heap := h }) S1 S2 D zk hlt fun h' zk' np q => ?_)
    dsimp only at np q
    have neS : ∀ b, b = z ∨ b = TO ∨ b = i1 ∨ b = i2 → S ≠ b := fun b hb => Ne.symm (hS b (by rcases hb with x | x | x | x <;> simp [x]))
    have eS' := q _ _ (neS z (by simp)) (neS TO (by simp)) (neS i1 (by simp)) (neS i2 (by simp)) eS
    have lS : S < h.objs.size := Heap.lt_size eS
    have sza : acc.size = k := by rw [← Array.length_toList, ea, List.length_map, la]
    have sz' : h.objs.size < h'.objs.size := Heap.lt_size np
    have up : ∀ b o, h'.get? b = some o → b ≠ S → (h'.update S (Obj.mapSeq (·.push (Value.ref h.objs.size)))).get? b = some o := fun b o e nb => (Heap.get?_update_other _ _ (Ne.symm nb)).trans e
    have keep : ∀ b o, b ∉ [S, z, TO, i1, i2] → h.get? b = some o → (h'.update S (Obj.mapSeq (·.push (Value.ref h.objs.size)))).get? b = some o := fun b o nb e => by
      simp only [List.mem_cons, List.not_mem_nil, or_false, not_or] at nb
      exact up b o (q b o nb.2.1 nb.2.2.1 nb.2.2.2.1 nb.2.2.2.2 e) nb.1
    show wpAny (model prog w) A.in1 (updateSeq S (·.push (Value.ref h.objs.size)) >>= _) _ _ _
    refine wpAny_bind (wpAny_updateSeq eS' rfl (wpAny_pure ⟨plainId_quiet (F.plain_extend_loop) _, ?_⟩) (by rw [sza, sizeLine_eq]; omega) (by show (acc.push (Value.ref h.objs.size)).size ≤ sizeLine + 1; rw [Array.size_push, sza, sizeLine_eq]; omega))
    have new : ∀ a ∈ as, a ≠ h.objs.size := fun a ha => by
      obtain ⟨i, hi⟩ := List.mem_iff_getElem?.mp ha
      exact Nat.ne_of_lt (Heap.lt_size (pa i a hi).1)
    refine ih (k + 1) _ (acc.push (Value.ref h.objs.size)) _ (as ++ [h.objs.size]) (by omega) hlt (zk_keep S1 S2 zk' (fun b o e nb => up b o e nb) hS ⟨_, eS', rfl⟩) (Heap.get?_update_self _ eS' rfl) ?_ (fun b o nb e => keep b o nb (kp b o nb e)) (by rw [List.length_append, la]; rfl) ?_ (by rw [Array.toList_push, ea, List.map_append]; rfl) ?_
    · have x : (h'.update S (Obj.mapSeq (·.push (Value.ref h.objs.size)))).get? h.objs.size = _ := up _ _ np (Nat.ne_of_gt lS)
      exact Nat.le_of_lt (Nat.lt_of_le_of_lt le (Heap.lt_size x))
    · rw [List.nodup_append]
      exact ⟨nd, by simp, fun a ha b hb => by rw [List.mem_singleton.mp hb]; exact new a ha⟩
    · intro i a e
      rcases Nat.lt_trichotomy i as.length with c1 | c1 | c1
      · rw [List.getElem?_append_left c1] at e
        obtain ⟨x1, x2⟩ := pa i a e
        exact ⟨keep a _ (by simp only [List.mem_cons, List.not_mem_nil, or_false, not_or]; exact ⟨up0 a x2 S (by simp), up0 a x2 z (by simp), up0 a x2 TO (by simp), up0 a x2 i1 (by simp), up0 a x2 i2 (by simp)⟩) x1, x2⟩
      · subst c1
        have e2 : h.objs.size = a := by simpa using e
        subst e2
        exact ⟨by rw [la]; exact up _ _ np (Nat.ne_of_gt lS), le⟩
      · rw [List.getElem?_eq_none (by rw [List.length_append, List.length_singleton]; omega)] at e
        cases e
/-- list(z) -/
theorem call_lzip {Q : Value → Shared → Prop} (hh : A.in1.in1.handled = none) (S1 : Src prog w i1 l1 n v1 P1) (S2 : Src prog w i2 l2 n v2 P2) (D : ZipApart z TI TO i1 i2 l1 l2) (hn : n ≤ 1000000) {a b : Value} (hz : IsZip s.heap z TI TO .none) (hTI : IsPair s.heap TI (.ref i1) (.ref i2)) (hTO : IsPair s.heap TO a b) (p1 : P1 0 s.heap) (p2 : P2 0 s.heap) (low : ∀ b ∈ [z, TI, TO, i1, i2, l1, l2], b < s.heap.objs.size)
    (q : ∀ (h' : Heap) (acc : Array Value) (c : Nat) (as : List Addr), (∀ b o, b ∉ [z, TO, i1, i2] → s.heap.get? b = some o → h'.get? b = some o) → h'.get? s.heap.objs.size = some { cls := .type "list", dict := none, data := .seq acc c, slots := #[] } → as.length = n → as.Nodup → acc.toList = as.map Value.ref →
      (∀ i a, as[i]? = some a → IsPair h' a (v1 i) (v2 i) ∧ s.heap.objs.size < a) → Q (.ref s.heap.objs.size) { s with heap := h' }) :
    wpAny (model prog w) A (call (.type "list") [.ref z]) Q E s := by
  have nS : ∀ b ∈ [z, TI, TO, i1, i2, l1, l2], b ≠ s.heap.objs.size := fun b hb => Nat.ne_of_lt (low b hb)
  refine callType_codes (Q₁ := fun obj s₁ => obj = .ref s.heap.objs.size ∧ s₁ = { s with heap := s.heap.push { cls := .type "list", data := .seq #[] } }) F.called_list (F.typeCall_list_1 _) F.entry_list_init (code_list_new _ ⟨rfl, rfl⟩) fun obj s₁ h₁ => ?_
  obtain ⟨rfl, rfl⟩ := h₁
  have e0 : (s.heap.push { cls := .type "list", data := .seq #[] }).get? s.heap.objs.size = some { cls := .type "list", data := .seq #[] } := Heap.get?_push_size _ rfl
  refine ⟨⟨_, e0, rfl⟩, F.args_list_init_2 _ _, ?_⟩
  show wpAny (model prog w) A.in1.in1 (do let old ← Builtin.List.listItems (.ref s.heap.objs.size); Builtin.List.listUpdate (.ref s.heap.objs.size) (fun _ => #[]); letGo old.toList.reverse; Builtin.List.listExtendWith (.ref s.heap.objs.size) (.ref z) .none) _ _ _
  refine wpAny_bind ?_
  unfold Builtin.List.listItems
  refine wpAny_bind (wpAny_seqItems e0 rfl (wpAny_pure ?_))
  show wpAny (model prog w) A.in1.in1 (updateSeq s.heap.objs.size (fun _ => #[]) >>= fun _ => letGo (#[] : Array Value).toList.reverse >>= fun _ => Builtin.List.listExtendWith (.ref s.heap.objs.size) (.ref z) .none) _ _ _
  refine wpAny_bind (wpAny_updateSeq e0 rfl ?_)
  have e1 := Heap.get?_update_self (Obj.mapSeq (fun _ => (#[] : Array Value))) e0 rfl
  refine wpAny_bind (wpAny_letGo ?_)
  have up : ∀ (h : Heap) (f : Obj → Obj), (∀ b o, s.heap.get? b = some o → h.get? b = some o) → ∀ b o, s.heap.get? b = some o → (h.update s.heap.objs.size f).get? b = some o := fun h f q b o e =>
    (Heap.get?_update_other _ _ (Ne.symm (Nat.ne_of_lt (Heap.lt_size e)))).trans (q b o e)
  have k1 : ∀ b o, s.heap.get? b = some o → (s.heap.push { cls := .type "list", data := .seq #[] }).get? b = some o := fun b o e => Heap.get?_push_of_some _ e
  have k2 := up _ (Obj.mapSeq (fun _ => (#[] : Array Value))) k1
  have dz := k2 _ _ hz
  have ty : ∃ o, ((s.heap.push { cls := .type "list", data := .seq #[] }).update s.heap.objs.size (Obj.mapSeq (fun _ => (#[] : Array Value)))).get? z = some o ∧ o.cls = .type "zip" := ⟨_, dz, rfl⟩
  unfold Builtin.List.listExtendWith
  refine wpAny_bind (wpAny_typeOf (T := "zip") ty ?_)
  have n1 : Builtin.List.listSameRef (.ref s.heap.objs.size) (.ref z) = false := by simp [Builtin.List.listSameRef, (nS z (by simp)).symm]
  have n2 : (Value.type "zip" == Value.type "list") = false := by decide
  have n3 : (Value.type "zip" == Value.type "tuple") = false := by decide
  simp only [n1, n2, n3, Bool.or_false, Bool.false_eq_true, if_false]
  refine wpAny_bind (wpAny_pyIter_zip (s := { s with heap := _ }) dz (wpAny_bind (wpAny_holding ?_)))
  unfold Builtin.List.listLengthHint
  refine wpAny_bind (wpAny_specialOf ty zip_noLen ?_)
  show wpAny (model prog w) A.in1.in1 (specialOf (Value.ref z) (Str.ofString "__length_hint__") >>= _) _ _ _
  refine wpAny_bind (wpAny_specialOf ty zip_noHint (wpAny_pure ?_))
  show wpAny (model prog w) A.in1.in1 (rule "list.extend.makes-room" >>= fun _ => Builtin.List.listTouch (.ref s.heap.objs.size) >>= fun _ => again (.builtin "list.extend.loop" ⟨[.ref s.heap.objs.size, .ref z, .none], []⟩)) _ _ _
  refine wpAny_bind (wpAny_rule (wpAny_bind ?_))
  show wpAny (model prog w) A.in1.in1 (updateSeq s.heap.objs.size (·.push .none) >>= fun _ => updateSeq s.heap.objs.size (·.pop)) _ _ _
  refine wpAny_bind (wpAny_updateSeq e1 rfl ?_)
  have e3 := Heap.get?_update_self (Obj.mapSeq (·.push Value.none)) e1 rfl
  refine wpAny_updateSeq (hz := by seq_fits) e3 rfl ?_
  have e4 := Heap.get?_update_self (Obj.mapSeq (·.pop)) e3 rfl
  have k4 := up _ (Obj.mapSeq (·.pop)) (up _ (Obj.mapSeq (·.push Value.none)) k2)
  refine wpAny_pure ⟨plainId_quiet (F.plain_extend_loop) _, ?_⟩
  have zk4 : ZK P1 P2 z TI TO i1 i2 0 ((((s.heap.push { cls := .type "list", data := .seq #[] }).update s.heap.objs.size (Obj.mapSeq (fun _ => (#[] : Array Value)))).update s.heap.objs.size (Obj.mapSeq (·.push Value.none))).update s.heap.objs.size (Obj.mapSeq (·.pop))) :=
    ⟨k4 _ _ hTI, S1.keep _ _ _ p1 fun b o _ e => k4 b o e, S2.keep _ _ _ p2 fun b o _ e => k4 b o e, .inl ⟨k4 _ _ hz, a, b, k4 _ _ hTO⟩⟩
  have lS : s.heap.objs.size < ((((s.heap.push { cls := .type "list", data := .seq #[] }).update s.heap.objs.size (Obj.mapSeq (fun _ => (#[] : Array Value)))).update s.heap.objs.size (Obj.mapSeq (·.push Value.none))).update s.heap.objs.size (Obj.mapSeq (·.pop))).objs.size := Heap.lt_size e4
  refine zl_loop (A := A.in1) (g0 := s) hh S1 S2 D hn nS _ (fun b hb => ?_) (fun h' acc c as x1 x2 x3 x4 x5 x6 => ⟨rfl, ?_⟩) n 0 _ _ _ [] rfl (Nat.zero_le _) zk4 e4 (Nat.le_refl _) (fun b o _ e => e) rfl List.nodup_nil rfl (fun i a e => by simp at e)
  · rcases List.mem_cons.mp hb with rfl | hb
    · exact lS
    · exact Nat.lt_trans (low b (by simp only [List.mem_cons, List.not_mem_nil, or_false] at hb ⊢; rcases hb with x | x | x | x <;> simp [x])) lS
  · refine q h' acc c as (fun b o nb e => x1 b o ?_ (k4 b o e)) x2 x3 x4 x5 fun i a e => ⟨(x6 i a e).1, Nat.lt_of_lt_of_le lS (x6 i a e).2⟩
    rw [List.mem_cons, not_or]
    exact ⟨Nat.ne_of_lt (Heap.lt_size e), nb⟩
end
/-! ### the rule -/
def addP : Hp → List Addr → List (V × V) → Hp
  | H, a :: as, p :: ps => addP (upd H a (.tup [p.1, p.2])) as ps
  | H, _, _ => H
theorem addP_off : ∀ {as : List Addr} {ps : List (V × V)} {H : Hp} {b : Addr}, b ∉ as → addP H as ps b = H b
  | [], _, _, _, _ => by unfold addP; rfl
  | _ :: _, [], _, _, _ => by unfold addP; rfl
  | a :: as, p :: ps, H, b, h => by
    unfold addP
    rw [List.mem_cons, not_or] at h
    rw [addP_off h.2, upd_ne h.1]
theorem addP_at : ∀ {as : List Addr} {ps : List (V × V)} {H : Hp} {i : Nat} {a : Addr} {p : V × V}, as.Nodup → as[i]? = some a → ps[i]? = some p → addP H as ps a = some (.tup [p.1, p.2])
  | [], _, _, _, _, _, _, h, _ => by simp at h
  | _ :: _, [], _, _, _, _, _, _, h => by simp at h
  | a :: as, p :: ps, H, 0, b, r, nd, h1, h2 => by
    unfold addP
    simp only [List.getElem?_cons_zero, Option.some.injEq] at h1 h2
    subst h1 h2
    rw [addP_off (List.nodup_cons.mp nd).1, upd_same]
  | a :: as, p :: ps, H, i + 1, b, r, nd, h1, h2 => by
    unfold addP
    exact addP_at (List.nodup_cons.mp nd).2 (by simpa using h1) (by simpa using h2)
theorem addP_new : ∀ {as : List Addr} {ps : List (V × V)} {H : Hp} {b : Addr} {u : HO}, addP H as ps b = some u → H b = some u ∨ b ∈ as
  | as, ps, H, b, u, h => by
    by_cases c : b ∈ as
    · exact .inr c
    · rw [addP_off c] at h
      exact .inl h
theorem vals_refs : ∀ as : List Addr, Vals (as.map V.ref) (as.map Value.ref)
  | [] => .nil
  | _ :: as => .cons rfl (vals_refs as)
def tLzip (K : PySem.W.Frag) (ta : TA) : TE := fun σ H Q => ta σ H fun vs H1 => ∃ a b xs ys, vs = [.ref a, .ref b] ∧ ((SqL K H1 a xs ∧ SqL K H1 b ys) ∨ (SqT K H1 a xs ∧ SqT K H1 b ys)) ∧ xs.length = ys.length ∧ xs.length ≤ 1000000 ∧
  ∀ (as : List Addr) (p : Addr), as.length = xs.length → as.Nodup → (∀ c ∈ as, H1 c = none) → p ∉ as → H1 p = none → Q (.ref p) (upd (addP H1 as (xs.zip ys)) p (.lst (as.map V.ref)))
theorem pe_lzip {X : Cx} {e e2 : Expr} {ta : TA} {p p2 q pos : Pos} (hc : X.calm = true) (hg : Gl X "list") (hm : X.mg "list" = none) (hg2 : Gl X "zip") (hm2 : X.mg "zip" = none) (ha : PA X [e, e2] ta)
    (hs : starEach [e, e2] X.env = (false, eval e X.env) :: starEach [e2] X.env := by rfl) (hpl : (backTo q (starEach [e2] X.env)).any (·.1) = false := by rfl)
    (na : starEach [.Call (.Name "zip" p2) [e, e2] [] q] X.env = (false, eval (.Call (.Name "zip" p2) [e, e2] [] q) X.env) :: starEach [] X.env := by rfl) :
    PE X (.Call (.Name "list" p) [.Call (.Name "zip" p2) [e, e2] [] q] [] pos) (tLzip X.K ta) := by
  refine ⟨fun pins s σ H Q I h => ?_⟩
  refine Call_ (ld_blt I hg hm boot_list (PyProof.Rows.callWith_type1 (PyProof.Rows.args_cons ?_ na) na rfl))
  refine Call_ (ld_blt I hg2 hm2 PyProof.Rows.boot_zip (PyProof.Rows.callWith_type1 (thn (ha.run q pins s σ H _ I h) fun us s1 ⟨vs, H1, I1, r1, q1⟩ => ?_) hs hpl))
  obtain ⟨a, b, xs, ys, ex, q1, ln, lb, q2⟩ := q1
  subst ex
  have hh : X.A.handled = none := I1.ok.hd hc
  cases r1 with
  | cons r rr =>
  cases rr with
  | cons r' rr =>
  cases rr
  cases r
  cases r'
  have fin : ∀ (its its2 : List Value) (P1 P2 : Nat → Heap → Prop) (h' : Heap), Vals xs its → Vals ys its2 → a < s1.heap.objs.size → b < s1.heap.objs.size →
      Src X.prog X.w s1.heap.objs.size a its.toArray.size (fun k => its.toArray.getD k .none) P1 → Src X.prog X.w (s1.heap.objs.size + 1) b its2.toArray.size (fun k => its2.toArray.getD k .none) P2 →
      IsZip h' (s1.heap.objs.size + 4) (s1.heap.objs.size + 2) (s1.heap.objs.size + 3) .none → IsPair h' (s1.heap.objs.size + 2) (.ref s1.heap.objs.size) (.ref (s1.heap.objs.size + 1)) → IsPair h' (s1.heap.objs.size + 3) .none .none → P1 0 h' → P2 0 h' →
      h'.objs.size = s1.heap.objs.size + 5 → (∀ c o, s1.heap.get? c = some o → h'.get? c = some o) →
      wpAny (model X.prog X.w) X.A (call (.type "list") [.ref (s1.heap.objs.size + 4)]) (EP X pins σ Q) X.xe { s1 with heap := h' } := by
    intro its its2 P1 P2 h' rv rv2 la lb' S1 S2 hz hTI hTO p1 p2 sz hk
    have l1 := rv.length
    have l2 := rv2.length
    have en : its2.toArray.size = its.toArray.size := by simp; omega
    rw [en] at S2
    have big' : its.toArray.size ≤ 1000000 := by simp; omega
    refine call_lzip (s := { s1 with heap := h' }) (A := X.A) hh S1 S2 (PySem.W.ktu_apart s1.heap.objs.size a b la lb') big' hz hTI hTO p1 p2 (fun c hcm => ?_) fun g acc c as x1 x2 x3 x4 x5 x6 => ?_
    · simp only [List.mem_cons, List.not_mem_nil, or_false] at hcm
      show c < h'.objs.size
      rw [sz]
      rcases hcm with z | z | z | z | z | z | z <;> rw [z]
      · exact Nat.lt_succ_self _
      · exact Nat.add_lt_add_left (by decide) _
      · exact Nat.add_lt_add_left (by decide) _
      · exact Nat.lt_add_of_pos_right (by decide)
      · exact Nat.add_lt_add_left (by decide) _
      · exact Nat.lt_of_lt_of_le la (Nat.le_add_right _ _)
      · exact Nat.lt_of_lt_of_le lb' (Nat.le_add_right _ _)
    · dsimp only at x1 x2 x6 ⊢
      have old : ∀ c o, s1.heap.get? c = some o → g.get? c = some o := fun c o e => x1 c o (by
        have lt := Heap.lt_size e
        have ge : ∀ j, c ≠ s1.heap.objs.size + j := fun j => Nat.ne_of_lt (Nat.lt_of_lt_of_le lt (Nat.le_add_right _ _))
        simp only [List.mem_cons, List.not_mem_nil, or_false, not_or]
        exact ⟨ge 4, ge 3, ge 0, ge 1⟩) (hk c o e)
      have nas : ∀ c ∈ as, h'.objs.size < c := fun c hcm => by
        obtain ⟨i, hi⟩ := List.mem_iff_getElem?.mp hcm
        exact (x6 i c hi).2
      have fr : ∀ c, s1.heap.objs.size ≤ c → H1 c = none := fun c hl => I1.hok.fresh hl
      have pn : h'.objs.size ∉ as := fun hm => Nat.lt_irrefl _ (nas _ hm)
      have las : as.length = xs.length := by rw [x3, List.size_toArray]; exact l1.symm
      have le5 : s1.heap.objs.size ≤ h'.objs.size := by rw [sz]; exact Nat.le_add_right _ _
      have newp : H1 h'.objs.size = none := fr _ le5
      have newa : ∀ c ∈ as, H1 c = none := fun c hcm => fr c (Nat.le_trans le5 (Nat.le_of_lt (nas c hcm)))
      have H1q : ∀ {c o}, H1 c = some o → c ≠ h'.objs.size ∧ c ∉ as := fun {c o} e => ⟨ne_of_none e newp, fun hm => by rw [newa c hm] at e; cases e⟩
      have look : ∀ {c o}, H1 c = some o → upd (addP H1 as (xs.zip ys)) h'.objs.size (.lst (as.map V.ref)) c = some o := fun {c o} e => by rw [upd_ne (H1q e).1, addP_off (H1q e).2]; exact e
      have look0 : ∀ {c o}, s1.heap.get? c = some o → upd (addP H1 as (xs.zip ys)) h'.objs.size (.lst (as.map V.ref)) c = H1 c := fun {c o} e => by
        have lt := Heap.lt_size e
        rw [upd_ne (Nat.ne_of_lt (Nat.lt_of_lt_of_le lt le5)), addP_off (fun hm => Nat.lt_irrefl _ (Nat.lt_of_lt_of_le lt (Nat.le_trans le5 (Nat.le_of_lt (nas _ hm)))))]
      refine ⟨.ref h'.objs.size, _, ?_, rfl, q2 as h'.objs.size las x4 newa pn newp⟩
      refine I1.call' (ch := []) rfl ⟨fun c o e _ _ _ => old c o e, fun c o e _ _ _ => ⟨o.slots, old c o e⟩, fun c o e n _ => by rw [look0 e]; exact n, fun c o e _ => ⟨o, old c o e⟩, fun c zs e => look e, fun c o u e => look e, fun c ps e => ⟨#[], by rw [Array.append_empty]; exact look e⟩⟩ (fun c u e => ?_) I1.bare (fun c hcm => by simp at hcm)
      by_cases c1 : c = h'.objs.size
      · subst c1
        rw [upd_same] at e
        cases e
        refine ⟨by show (as.map V.ref).length ≤ sizeLine; rw [List.length_map, sizeLine_eq]; omega, acc.toList, _, ?_, by rw [x2]⟩
        rw [x5]
        exact vals_refs as
      · by_cases c2 : c ∈ as
        · obtain ⟨i, hi⟩ := List.mem_iff_getElem?.mp c2
          obtain ⟨y1, y2⟩ := x6 i c hi
          have li : i < xs.length := by rw [← las]; exact (List.getElem?_eq_some_iff.mp hi).1
          have ex : (xs.zip ys)[i]? = some (xs[i], ys[i]'(by omega)) := by rw [List.getElem?_eq_getElem (by simp; omega)]; simp
          rw [upd_ne c1, addP_at x4 hi ex] at e
          cases e
          obtain ⟨u, hu, ru⟩ := rv.get (List.getElem?_eq_getElem li)
          obtain ⟨u2, hu2, ru2⟩ := rv2.get (List.getElem?_eq_getElem (show i < ys.length by omega))
          refine ⟨by show 2 ≤ sizeLine; decide, [u, u2], .cons ru (.cons ru2 .nil), ⟨_, y1, rfl, 0, ?_⟩⟩
          have a1 : its.toArray.getD i .none = u := by simp [Array.getD, List.getElem?_eq_some_iff] at hu ⊢; obtain ⟨z1, z2⟩ := hu; rw [dif_pos z1, z2]
          have a2 : its2.toArray.getD i .none = u2 := by simp [Array.getD, List.getElem?_eq_some_iff] at hu2 ⊢; obtain ⟨z1, z2⟩ := hu2; rw [dif_pos z1, z2]
          show Data.seq #[its.toArray.getD i .none, its2.toArray.getD i .none] 0 = _
          rw [a1, a2]
        · rw [upd_ne c1, addP_off c2] at e
          exact (I1.hok c u e).stay (fun d v hd z => old d _ z) (fun d z => look z) fun d zs z => look z
  rcases q1 with ⟨qx, qy⟩ | ⟨qx, qy⟩
  · obtain ⟨its, rv, y1, _⟩ := I1.list qx
    obtain ⟨its2, rv2, y2, _⟩ := I1.list qy
    refine call_zip_2 y1.isList y2.isList fun h' hz hTI hTO h1 h2 hsz hk => PyProof.Rows.args_nil ?_
    exact fin its its2 _ _ h' rv rv2 y1.lt y2.lt (src_list (Nat.ne_of_lt y1.lt) its.toArray) (src_list (Nat.ne_of_lt (Nat.lt_succ_of_lt y2.lt)) its2.toArray) hz hTI hTO ⟨h1, y1.isList.at fun o e => hk _ o e⟩ ⟨h2, y2.isList.at fun o e => hk _ o e⟩ hsz hk
  · obtain ⟨its, rv, y1, _⟩ := I1.tuple qx
    obtain ⟨its2, rv2, y2, _⟩ := I1.tuple qy
    obtain ⟨o1, ho1, _⟩ := id y1
    obtain ⟨o2, ho2, _⟩ := id y2
    have la := Heap.lt_size ho1
    have lb2 := Heap.lt_size ho2
    refine RZ.call_zipT (show s1.heap.IsTuple a its.toArray from y1) (show s1.heap.IsTuple b its2.toArray from y2) fun h' hz hTI hTO h1 h2 hsz hk => PyProof.Rows.args_nil ?_
    exact fin its its2 _ _ h' rv rv2 la lb2 (src_tup (Nat.ne_of_lt la) its.toArray) (src_tup (Nat.ne_of_lt (Nat.lt_succ_of_lt lb2)) its2.toArray) hz hTI hTO ⟨h1, Heap.IsTuple.at (show s1.heap.IsTuple a its.toArray from y1) fun o e => hk _ o e⟩ ⟨h2, Heap.IsTuple.at (show s1.heap.IsTuple b its2.toArray from y2) fun o e => hk _ o e⟩ hsz hk
end Y

/-! L3y: zip(a, b, strict=True) in a loop. -/
namespace Y
open PySem PySem.Spec L2 PyProof.Rows
section
variable {prog : Program} {w : World} {A : Around} {E : Value → Shared → Prop} {s : Shared} {z TI TO i1 i2 l1 l2 : Addr} {n : Nat} {v1 v2 : Nat → Value} {P1 P2 : Nat → Heap → Prop} {k : Nat}
theorem next_or {it l : Addr} {v : Nat → Value} {P : Nat → Heap → Prop} {Q : Option Value → Shared → Prop} (S : Src prog w it l n v P) (hk : k < n) (p : P k s.heap) (q : ∀ h', P (k + 1) h' → Heap.SameBut it s.heap h' → Q (some (v k)) { s with heap := h' }) :
    wpAny (model prog w) A (Builtin.SmallTypes.nextOrEnd (.ref it)) Q E s := by
  unfold Builtin.SmallTypes.nextOrEnd
  exact wpAny_bind (wpAny_attempt (S.item _ _ _ s k hk p fun h' x y => wpAny_pure (q h' x y)))
theorem next_no {it l : Addr} {v : Nat → Value} {P : Nat → Heap → Prop} {Q : Option Value → Shared → Prop} (hh : A.handled = none) (S : Src prog w it l n v P) (p : P n s.heap) (q : ∀ h', Heap.ExtBut it s.heap h' → Q none { s with heap := h' }) :
    wpAny (model prog w) A (Builtin.SmallTypes.nextOrEnd (.ref it)) Q E s := by
  unfold Builtin.SmallTypes.nextOrEnd
  refine wpAny_bind (wpAny_attempt (S.fin _ _ _ s hh p fun h' e x y => ?_))
  obtain ⟨o, ho, hc⟩ := y
  exact wpAny_bind (wpAny_isInstance (T := "StopIteration") (b := true) ⟨o, ho, hc⟩ isSubtype_stop (wpAny_pure (q _ x)))
theorem zs_item {a b : Value} {Q : Value → Shared → Prop} (S1 : Src prog w i1 l1 n v1 P1) (S2 : Src prog w i2 l2 n v2 P2) (D : ZipApart z TI TO i1 i2 l1 l2)
    (hz : ZipAt s.heap z TI TO .none (.bool false) true) (hTI : IsPair s.heap TI (.ref i1) (.ref i2)) (hTO : IsPair s.heap TO a b) (p1 : P1 k s.heap) (p2 : P2 k s.heap) (hk : k < n)
    (q : ∀ h', ZipAt h' z TI TO (rawInt s.heap.objs.size) (.bool false) true → IsPair h' TO (v1 k) (v2 k) → P1 (k + 1) h' → P2 (k + 1) h' → IsPair h' s.heap.objs.size (v1 k) (v2 k) → h'.objs.size = s.heap.objs.size + 1 →
      (∀ c o, c ≠ z → c ≠ TO → c ≠ i1 → c ≠ i2 → s.heap.get? c = some o → h'.get? c = some o) → Q (.ref s.heap.objs.size) { s with heap := h' }) :
    wpAny (model prog w) A (zipN ⟨[.ref z], []⟩) (fun fin s' => ∃ v, fin = .done (.ret v) ∧ Q v s') E s := by
  show wpAny (model prog w) A (field (.ref z) 2 >>= _) _ E s
  refine wpAny_bind (wpAny_field (x := Value.bool true) hz rfl rfl ?_)
  show wpAny (model prog w) A (field (.ref z) 3 >>= _) _ E s
  refine wpAny_bind (wpAny_field (x := Value.ref TI) hz rfl rfl (wpAny_bind (wpAny_seqItems hTI rfl ?_)))
  show wpAny (model prog w) A (Builtin.SmallTypes.ownedTupleIsFree (.ref z) >>= _) _ E s
  refine wpAny_bind ?_
  unfold Builtin.SmallTypes.ownedTupleIsFree
  refine wpAny_bind (wpAny_field (x := Value.none) hz rfl rfl (wpAny_pure ?_))
  simp only [if_true]
  refine wpAny_bind (wpAny_rule (wpAny_bind (wpAny_field (x := Value.ref TO) hz rfl rfl (wpAny_bind (wpAny_setField_rec hz (by simp) fun ha za sa => ?_)))))
  replace za : ZipAt ha z TI TO .ellipsis (.bool false) true := za
  have ka : ∀ b o, b ≠ z → s.heap.get? b = some o → ha.get? b = some o := fun b o c e => sa.extBut _ _ c e
  refine wpAny_bind ?_
  simp only [List.zipIdx_cons, List.zipIdx_nil, List.forIn_cons, List.forIn_nil]
  refine wpAny_bind (wpAny_bind (wpAny_onRaise ?_))
  show wpAny (model prog w) A (Builtin.SmallTypes.nextOrEnd (.ref i1)) _ _ _
  refine next_or (s := { s with heap := ha }) S1 hk (S1.keep _ _ _ p1 fun b o c e => ka b o (or2 c D.i1z D.l1z) e) fun hb b1 sb => ?_
  have kb : ∀ b o, b ≠ i1 → ha.get? b = some o → hb.get? b = some o := fun b o c e => sb.extBut _ _ c e
  have tb : IsPair hb TO a b := kb _ _ D.TOi1 (ka _ _ D.TOz hTO)
  refine wpAny_bind (wpAny_seqItems tb rfl (wpAny_bind (wpAny_updateSeq_pair tb fun hc tc sc => wpAny_bind (wpAny_letGo (wpAny_pure ?_)))))
  replace tc : IsPair hc TO (v1 k) b := tc
  have kc : ∀ b o, b ≠ TO → hb.get? b = some o → hc.get? b = some o := fun b o c e => sc.extBut _ _ c e
  have l1O : l1 ≠ TO := D.l1TO
  have pc2 : P2 k hc := S2.keep _ _ _ p2 fun b o c e => kc b o (or2 c D.TOi2.symm D.l2TO) (kb b o (or2 c D.i12.symm D.l2i1) (ka b o (or2 c D.i2z D.l2z) e))
  refine wpAny_bind (wpAny_bind (wpAny_onRaise ?_))
  show wpAny (model prog w) A (Builtin.SmallTypes.nextOrEnd (.ref i2)) _ _ _
  refine next_or (s := { s with heap := hc }) S2 hk pc2 fun hd d2 sd => ?_
  have kd : ∀ b o, b ≠ i2 → hc.get? b = some o → hd.get? b = some o := fun b o c e => sd.extBut _ _ c e
  have td : IsPair hd TO (v1 k) b := kd _ _ D.TOi2 tc
  refine wpAny_bind (wpAny_seqItems td rfl (wpAny_bind (wpAny_updateSeq_pair td fun he te se => wpAny_bind (wpAny_letGo (wpAny_pure (wpAny_pure ?_))))))
  replace te : IsPair he TO (v1 k) (v2 k) := te
  have ke : ∀ b o, b ≠ TO → hd.get? b = some o → he.get? b = some o := fun b o c e => se.extBut _ _ c e
  refine wpAny_bind (wpAny_seqItems te rfl (wpAny_bind (wpAny_newTuple ?_)))
  have sz : he.objs.size = s.heap.objs.size := by rw [se.1, sd.1, sc.1, sb.1, sa.1]
  have zz : ZipAt he z TI TO .ellipsis (.bool false) true := ke _ _ D.TOz.symm (kd _ _ D.i2z.symm (kc _ _ D.TOz.symm (kb _ _ D.i1z.symm za)))
  have zl : z < he.objs.size := Heap.lt_size zz
  show wpAny (model prog w) A (Builtin.SmallTypes.ownedTupleHandOut (.ref z) (.ref he.objs.size) >>= _) _ _ _
  refine wpAny_bind ?_
  unfold Builtin.SmallTypes.ownedTupleHandOut
  have zp : ZipAt (he.push { cls := .type "tuple", data := .seq #[v1 k, v2 k] }) z TI TO .ellipsis (.bool false) true := Heap.get?_push_of_some _ zz
  refine wpAny_bind (wpAny_setField_rec zp (by simp) fun hg zg sg => ?_)
  replace zg : ZipAt hg z TI TO (rawInt he.objs.size) (.bool false) true := zg
  refine wpAny_setField_rec zg (by simp) fun hj zj sj => ?_
  replace zj : ZipAt hj z TI TO (rawInt he.objs.size) (.bool false) true := zj
  have up : ∀ c o, c ≠ z → he.get? c = some o → hj.get? c = some o := fun c o c1 e => sj.extBut _ _ c1 (sg.extBut _ _ c1 (Heap.get?_push_of_some _ e))
  have nw : IsPair hj he.objs.size (v1 k) (v2 k) := sj.extBut _ _ (Nat.ne_of_gt zl) (sg.extBut _ _ (Nat.ne_of_gt zl) (Heap.get?_push_size _ rfl))
  have szj : hj.objs.size = he.objs.size + 1 := by rw [sj.1, sg.1, Heap.size_push]
  refine wpAny_pure ⟨_, rfl, ?_⟩
  show Q (.ref he.objs.size) _
  rw [sz] at zj nw szj ⊢
  refine q hj zj (up _ _ D.TOz te) (S1.keep _ _ _ b1 fun b o c e => up b o (or2 c D.i1z D.l1z) (ke b o (or2 c D.TOi1.symm l1O) (kd b o (or2 c D.i12 D.l1i2) (kc b o (or2 c D.TOi1.symm l1O) e))))
    (S2.keep _ _ _ d2 fun b o c e => up b o (or2 c D.i2z D.l2z) (ke b o (or2 c D.TOi2.symm D.l2TO) e)) nw szj
    fun b o c1 c2 c3 c4 e => up b o c1 (ke b o c2 (kd b o c4 (kc b o c2 (kb b o c3 (ka b o c1 e)))))
theorem zs_end {a b : Value} {Q : Fin → Shared → Prop} (hh : A.handled = none) (S1 : Src prog w i1 l1 n v1 P1) (S2 : Src prog w i2 l2 n v2 P2) (D : ZipApart z TI TO i1 i2 l1 l2)
    (hz : ZipAt s.heap z TI TO .none (.bool false) true) (hTI : IsPair s.heap TI (.ref i1) (.ref i2)) (hTO : IsPair s.heap TO a b) (p1 : P1 n s.heap) (p2 : P2 n s.heap)
    (q : ∀ h' e, (∀ c o, c ≠ z → c ≠ i1 → c ≠ i2 → s.heap.get? c = some o → h'.get? c = some o) → (∃ o, h'.get? e = some o ∧ o.cls = .type "StopIteration") → E (.ref e) { s with heap := h' }) :
    wpAny (model prog w) A (zipN ⟨[.ref z], []⟩) Q E s := by
  show wpAny (model prog w) A (field (.ref z) 2 >>= _) Q E s
  refine wpAny_bind (wpAny_field (x := Value.bool true) hz rfl rfl ?_)
  show wpAny (model prog w) A (field (.ref z) 3 >>= _) Q E s
  refine wpAny_bind (wpAny_field (x := Value.ref TI) hz rfl rfl (wpAny_bind (wpAny_seqItems hTI rfl ?_)))
  show wpAny (model prog w) A (Builtin.SmallTypes.ownedTupleIsFree (.ref z) >>= _) Q E s
  refine wpAny_bind ?_
  unfold Builtin.SmallTypes.ownedTupleIsFree
  refine wpAny_bind (wpAny_field (x := Value.none) hz rfl rfl (wpAny_pure ?_))
  simp only [if_true]
  refine wpAny_bind (wpAny_rule (wpAny_bind (wpAny_field (x := Value.ref TO) hz rfl rfl (wpAny_bind (wpAny_setField_rec hz (by simp) fun ha za sa => ?_)))))
  replace za : ZipAt ha z TI TO .ellipsis (.bool false) true := za
  have ka : ∀ b o, b ≠ z → s.heap.get? b = some o → ha.get? b = some o := fun b o c e => sa.extBut _ _ c e
  refine wpAny_bind ?_
  simp only [List.zipIdx_cons, List.zipIdx_nil, List.forIn_cons, List.forIn_nil]
  refine wpAny_bind (wpAny_bind (wpAny_onRaise ?_))
  show wpAny (model prog w) A (Builtin.SmallTypes.nextOrEnd (.ref i1)) _ _ _
  refine next_no (s := { s with heap := ha }) hh S1 (S1.keep _ _ _ p1 fun b o c e => ka b o (or2 c D.i1z D.l1z) e) fun hb sb => ?_
  have zb : ZipAt hb z TI TO .ellipsis (.bool false) true := sb _ _ D.i1z.symm za
  refine wpAny_bind (wpAny_setField_rec zb (by simp) fun hc _ sc => ?_)
  have kc : ∀ b o, b ≠ z → hb.get? b = some o → hc.get? b = some o := fun b o c e => sc.extBut _ _ c e
  have pc2 : P2 n hc := S2.keep _ _ _ p2 fun b o c e => kc b o (or2 c D.i2z D.l2z) (sb b o (or2 c D.i12.symm D.l2i1) (ka b o (or2 c D.i2z D.l2z) e))
  refine wpAny_bind ?_
  wp_delta
  rw [if_neg (by decide)]
  simp only [List.drop_succ_cons, List.drop_zero, List.zipIdx_cons, List.zipIdx_nil, List.forIn_cons, List.forIn_nil]
  refine wpAny_bind (wpAny_bind (wpAny_bind (next_no (s := { s with heap := hc }) hh S2 pc2 fun hd sd => ?_)))
  simp only [Option.isSome_none, Bool.false_eq_true, if_false]
  refine wpAny_pure (wpAny_pure (wpAny_bind (wpAny_rule ?_)))
  show wpAny (model prog w) A (newExc (.type "StopIteration") [] >>= _) _ _ _
  refine wpAny_bind ?_
  simp only [newExc, newTuple]
  refine wpAny_bind (wpAny_newObj_type ?_ (by size_fits))
  refine wpAny_bind (m := firstArgMember _ _) (wpAny_of_eq (a := Value.none) (by first | rfl | (simp only [firstArgMember]; rfl)) ?_)
  refine wpAny_newObj_type ?_ (by size_fits)
  simp only [raiseNew]
  refine wpAny_bind (wpAny_handled ?_)
  rw [hh]
  refine wpAny_bind (wpAny_pure (wpAny_throw ?_))
  have kd : ∀ b o, b ≠ i2 → hc.get? b = some o → hd.get? b = some o := fun b o c e => sd b o c e
  exact q _ _ (fun c o c1 c2 c3 e => Heap.get?_push_of_some _ (Heap.get?_push_of_some _ (kd c o c3 (kc c o c1 (sb c o c2 (ka c o c1 e)))))) ⟨_, Heap.get?_push_size _ rfl, rfl⟩
theorem pn_item {a b : Value} {Q : Option Value → Shared → Prop} (S1 : Src prog w i1 l1 n v1 P1) (S2 : Src prog w i2 l2 n v2 P2) (D : ZipApart z TI TO i1 i2 l1 l2)
    (hz : ZipAt s.heap z TI TO .none (.bool false) true) (hTI : IsPair s.heap TI (.ref i1) (.ref i2)) (hTO : IsPair s.heap TO a b) (p1 : P1 k s.heap) (p2 : P2 k s.heap) (hk : k < n)
    (q : ∀ h', ZipAt h' z TI TO (rawInt s.heap.objs.size) (.bool false) true → IsPair h' TO (v1 k) (v2 k) → P1 (k + 1) h' → P2 (k + 1) h' → IsPair h' s.heap.objs.size (v1 k) (v2 k) → h'.objs.size = s.heap.objs.size + 1 →
      (∀ c o, c ≠ z → c ≠ TO → c ≠ i1 → c ≠ i2 → s.heap.get? c = some o → h'.get? c = some o) → Q (some (.ref s.heap.objs.size)) { s with heap := h' }) : wpAny (model prog w) A (pyNext (.ref z)) Q E s := by
  have ty : s.TypeIs (.ref z) "zip" := ⟨_, hz, rfl⟩
  unfold pyNext
  exact wpAny_bind (wpAny_attempt (wpAny_callSpecial?_slot (name := Str.ofString "__next__") ty F.slot_zip_next (wpAny_call_entry F.slot_zip_next ty F.entry_zip_next (zs_item S1 S2 D hz hTI hTO p1 p2 hk fun h' y1 y2 y3 y4 y5 y6 y7 => wpAny_pure (q h' y1 y2 y3 y4 y5 y6 y7)) (F.args_zip_next_1 _))))
theorem pn_end {a b : Value} {Q : Option Value → Shared → Prop} (hh : A.handled = none) (S1 : Src prog w i1 l1 n v1 P1) (S2 : Src prog w i2 l2 n v2 P2) (D : ZipApart z TI TO i1 i2 l1 l2)
    (hz : ZipAt s.heap z TI TO .none (.bool false) true) (hTI : IsPair s.heap TI (.ref i1) (.ref i2)) (hTO : IsPair s.heap TO a b) (p1 : P1 n s.heap) (p2 : P2 n s.heap)
    (q : ∀ h', (∀ c o, c ≠ z → c ≠ i1 → c ≠ i2 → s.heap.get? c = some o → h'.get? c = some o) → Q none { s with heap := h' }) : wpAny (model prog w) A (pyNext (.ref z)) Q E s := by
  have ty : s.TypeIs (.ref z) "zip" := ⟨_, hz, rfl⟩
  unfold pyNext
  refine wpAny_bind (wpAny_attempt (wpAny_callSpecial?_slot (name := Str.ofString "__next__") ty F.slot_zip_next (wpAny_call_entry F.slot_zip_next ty F.entry_zip_next (zs_end hh S1 S2 D hz hTI hTO p1 p2 fun h' e x1 x2 => ?_) (F.args_zip_next_1 _))))
  obtain ⟨o, ho, hc⟩ := x2
  exact wpAny_bind (wpAny_isInstance (T := "StopIteration") (b := true) ⟨o, ho, hc⟩ isSubtype_stop (wpAny_pure (q _ x1)))
theorem own_zs {elts : List Expr} {x1 : Nat} {pos : Pos} {T : Addr} {Q : Unit → Shared → Prop} (hz : ZipAt s.heap z TI TO (rawInt T) (.bool false) true) (q : ∀ h', ZipAt h' z TI TO .none (.bool false) true → Heap.SameBut z s.heap h' → Q () { s with heap := h' }) :
    wpAny (model prog w) A (letOwnedTupleGo (.Tuple elts x1 pos) (.ref z) (.ref T)) Q E s := by
  unfold letOwnedTupleGo
  refine wpAny_bind (wpAny_load hz ?_)
  show wpAny (model prog w) A (if (["enumerate", "zip", "dict_itemiterator", "dict_reverseitemiterator", "odict_iterator", "itertools.zip_longest", "itertools.pairwise"].contains "zip" && (#[rawInt T, .bool false, .bool true, .ref TI, .ref TO] : Array Value)[0]? == some (rawInt T)) = true then _ else _) Q E s
  rw [if_pos (by simp)]
  refine wpAny_bind (wpAny_rule ?_)
  show wpAny (model prog w) A (setField (.ref z) 0 .none) Q E s
  exact wpAny_setField_rec hz (by simp) fun h' x y => q h' x y
theorem pi_zs {Q : Value → Shared → Prop} {f g : Value} {st : Bool} (hz : ZipAt s.heap z TI TO f g st) (h : Q (.ref z) s) : wpAny (model prog w) A (pyIter (.ref z)) Q E s := by
  have ty : s.TypeIs (.ref z) "zip" := ⟨_, hz, rfl⟩
  refine wpAny_pyIter_slot ty F.slot_zip_iter (wpAny_call_entry F.slot_zip_iter ty F.entry_zip_iter ?_ (F.args_zip_iter_1 _))
  show wpAny (model prog w) _ (PySem.ret (.ref z)) _ _ s
  exact wpAny_pure ⟨_, rfl, "zip", _, ty, F.slot_zip_next.lookup, h⟩
end
/-- by turns, both of one length, tuples -/
def ItST (K : PySem.W.Frag) (a b : Addr) : It :=
  ⟨fun i H => ∃ (xs ys : List V) (x y : V), SqT K H a xs ∧ SqT K H b ys ∧ xs.length = ys.length ∧ xs[i]? = some x ∧ ys[i]? = some y,
    fun i H v H' => ∃ T x y, v = .ref T ∧ H T = none ∧ H' = upd H T (.tup [x, y]) ∧ (∀ xs, SqT K H a xs → xs[i]? = some x) ∧ ∀ ys, SqT K H b ys → ys[i]? = some y,
    fun i H => ∃ xs ys : List V, SqT K H a xs ∧ SqT K H b ys ∧ xs.length = i ∧ ys.length = i⟩
theorem turn_zsT {P : Program} {w : World} {K : PySem.W.Frag} {elts : List Expr} {kk : Nat} {tpos : Pos} {a b z TI TO i1 i2 : Addr} (D : ZipApart z TI TO i1 i2 a b) :
    Turn P w K (.Tuple elts kk tpos) (ItST K a b) [z, TI, TO, i1, i2] z (fun i h => ZipAt h z TI TO .none (.bool false) true ∧ IsPair h TI (.ref i1) (.ref i2) ∧ (∃ x y, IsPair h TO x y) ∧ h.IsTupleIter i1 a i ∧ h.IsTupleIter i2 b i) where
  mem := List.mem_cons_self
  obj := fun i h st c hc => by
    obtain ⟨q1, q2, ⟨x, y, q3⟩, ⟨o1, e1, _, d1⟩, ⟨o2, e2, _, d2⟩⟩ := st
    simp only [List.mem_cons, List.not_mem_nil, or_false] at hc
    rcases hc with q | q | q | q | q <;> rw [q]
    · exact ⟨_, q1, fun v q => nomatch q⟩
    · exact ⟨_, q2, fun v q => nomatch q⟩
    · exact ⟨_, q3, fun v q => nomatch q⟩
    · exact ⟨o1, e1, fun v q => by rw [d1] at q; cases q⟩
    · exact ⟨o2, e2, fun v q => by rw [d2] at q; cases q⟩
  keep := fun i h h' st k => by
    obtain ⟨q1, q2, ⟨x, y, q3⟩, q4, q5⟩ := st
    exact ⟨k z (by simp) _ q1, k TI (by simp) _ q2, ⟨x, y, k TO (by simp) _ q3⟩, q4.at fun o q => k i1 (by simp) o q, q5.at fun o q => k i2 (by simp) o q⟩
  item := by
    intro X hP hw hK hc i pins s σ H E I hf st hg
    subst hP hw hK
    obtain ⟨q1, q2, ⟨x0, y0, q3⟩, q4, q5⟩ := st
    obtain ⟨xs, ys, x, y, sx, sy, ln, hx, hy⟩ := hg
    obtain ⟨its, rv, p, _⟩ := I.tuple sx
    obtain ⟨its2, rv2, p2, _⟩ := I.tuple sy
    obtain ⟨u, hu, ru⟩ := rv.get hx
    obtain ⟨u2, hu2, ru2⟩ := rv2.get hy
    have m1 := rv.length
    have m2 := rv2.length
    have en : its2.toArray.size = its.toArray.size := by simp; omega
    have S1 := src_tup (prog := X.prog) (w := X.w) (it := i1) (l := a) D.l1i1 its.toArray
    have S2 := src_tup (prog := X.prog) (w := X.w) (it := i2) (l := b) D.l2i2 its2.toArray
    rw [en] at S2
    have li : i < its.toArray.size := by have := (List.getElem?_eq_some_iff.mp hu).1; simpa using this
    have a1 : its.toArray.getD i .none = u := by simp [Array.getD, List.getElem?_eq_some_iff] at hu ⊢; obtain ⟨z1, z2⟩ := hu; rw [dif_pos z1, z2]
    have a2 : its2.toArray.getD i .none = u2 := by simp [Array.getD, List.getElem?_eq_some_iff] at hu2 ⊢; obtain ⟨z1, z2⟩ := hu2; rw [dif_pos z1, z2]
    have zl : z < s.heap.objs.size := Heap.lt_size q1
    refine pn_item S1 S2 D q1 q2 q3 ⟨q4, show s.heap.IsTuple a its.toArray from p⟩ ⟨q5, show s.heap.IsTuple b its2.toArray from p2⟩ li fun h' y1 y2 y3 y4 y5 y6 y7 => ⟨_, rfl, own_zs (s := { s with heap := h' }) y1 fun g z' sb => ?_⟩
    rw [a1, a2] at y2 y5
    have T2 : g.get? s.heap.objs.size = some { cls := .type "tuple", data := .seq #[u, u2] } := (sb.2 _ (Nat.ne_of_gt zl)).trans y5
    have new : ObjOk X.prog X.w (upd H s.heap.objs.size (.tup [x, y])) g s.heap.objs.size (.tup [x, y]) := ⟨by show 2 ≤ sizeLine; decide, [u, u2], .cons ru (.cons ru2 .nil), ⟨_, T2, rfl, _, rfl⟩⟩
    have I1 : Inv X pins σ (upd H s.heap.objs.size (.tup [x, y])) { s with heap := g } :=
      I.turnedNew (t' := s.toks) (ch := [z, TI, TO, i1, i2]) (fun c o hb q => (sb.2 c (fun q' => hb (by simp [q']))).trans (y7 c o (fun q' => hb (by simp [q'])) (fun q' => hb (by simp [q'])) (fun q' => hb (by simp [q'])) (fun q' => hb (by simp [q'])) q)) hf (Nat.le_refl _) new
    refine ⟨.ref s.heap.objs.size, _, I1, rfl, ⟨_, x, y, rfl, I.hok.fresh (Nat.le_refl _), rfl, fun l hl => by rw [I.tuple_inj hl sx]; exact hx, fun l hl => by rw [I.tuple_inj hl sy]; exact hy⟩, ⟨z', (sb.2 _ D.TIz).trans (y7 _ _ D.TIz D.TITO D.TIi1 D.TIi2 q2), ⟨u, u2, (sb.2 _ D.TOz).trans y2⟩, y3.1.at fun o q => (sb.2 _ D.i1z).trans q, y4.1.at fun o q => (sb.2 _ D.i2z).trans q⟩, fun c hcm => ?_⟩
    have hlt : c < s.heap.objs.size := by
      simp only [List.mem_cons, List.not_mem_nil, or_false] at hcm
      rcases hcm with q | q | q | q | q <;> rw [q]
      · exact zl
      · exact Heap.lt_size q2
      · exact Heap.lt_size q3
      · obtain ⟨_, e1, _⟩ := q4; exact Heap.lt_size e1
      · obtain ⟨_, e2, _⟩ := q5; exact Heap.lt_size e2
    rw [upd_ne (Nat.ne_of_lt hlt)]
    exact (hf c hcm).1
  done := by
    intro X hP hw hK hc i pins s σ H E I hf st hg
    subst hP hw hK
    obtain ⟨q1, q2, ⟨x0, y0, q3⟩, q4, q5⟩ := st
    obtain ⟨xs, ys, sx, sy, n1, n2⟩ := hg
    obtain ⟨its, rv, p, _⟩ := I.tuple sx
    obtain ⟨its2, rv2, p2, _⟩ := I.tuple sy
    have m1 := rv.length
    have m2 := rv2.length
    have en1 : its.toArray.size = i := by simp; omega
    have en2 : its2.toArray.size = i := by simp; omega
    have S1 := src_tup (prog := X.prog) (w := X.w) (it := i1) (l := a) D.l1i1 its.toArray
    have S2 := src_tup (prog := X.prog) (w := X.w) (it := i2) (l := b) D.l2i2 its2.toArray
    rw [en1] at S1
    rw [en2] at S2
    exact pn_end (I.ok.hd hc) S1 S2 D q1 q2 q3 ⟨q4, show s.heap.IsTuple a its.toArray from p⟩ ⟨q5, show s.heap.IsTuple b its2.toArray from p2⟩ fun h' hk => ⟨rfl, I.turnedL (t' := s.toks) (ch := [z, TI, TO, i1, i2]) (fun c o hb q => hk c o (fun q' => hb (by simp [q'])) (fun q' => hb (by simp [q'])) (fun q' => hb (by simp [q'])) q) hf⟩
  self := fun A i s Q E st h => pi_zs st.1 h
/-- by turns, both of one length, lists -/
def ItSL (K : PySem.W.Frag) (a b : Addr) : It :=
  ⟨fun i H => ∃ (xs ys : List V) (x y : V), SqL K H a xs ∧ SqL K H b ys ∧ xs.length = ys.length ∧ xs[i]? = some x ∧ ys[i]? = some y,
    fun i H v H' => ∃ T x y, v = .ref T ∧ H T = none ∧ H' = upd H T (.tup [x, y]) ∧ (∀ xs, SqL K H a xs → xs[i]? = some x) ∧ ∀ ys, SqL K H b ys → ys[i]? = some y,
    fun i H => ∃ xs ys : List V, SqL K H a xs ∧ SqL K H b ys ∧ xs.length = i ∧ ys.length = i⟩
theorem turn_zsL {P : Program} {w : World} {K : PySem.W.Frag} {elts : List Expr} {kk : Nat} {tpos : Pos} {a b z TI TO i1 i2 : Addr} (D : ZipApart z TI TO i1 i2 a b) :
    Turn P w K (.Tuple elts kk tpos) (ItSL K a b) [z, TI, TO, i1, i2] z (fun i h => ZipAt h z TI TO .none (.bool false) true ∧ IsPair h TI (.ref i1) (.ref i2) ∧ (∃ x y, IsPair h TO x y) ∧ h.IsListIter i1 a i ∧ h.IsListIter i2 b i) where
  mem := List.mem_cons_self
  obj := fun i h st c hc => by
    obtain ⟨q1, q2, ⟨x, y, q3⟩, ⟨o1, e1, _, d1⟩, ⟨o2, e2, _, d2⟩⟩ := st
    simp only [List.mem_cons, List.not_mem_nil, or_false] at hc
    rcases hc with q | q | q | q | q <;> rw [q]
    · exact ⟨_, q1, fun v q => nomatch q⟩
    · exact ⟨_, q2, fun v q => nomatch q⟩
    · exact ⟨_, q3, fun v q => nomatch q⟩
    · exact ⟨o1, e1, fun v q => by rw [d1] at q; cases q⟩
    · exact ⟨o2, e2, fun v q => by rw [d2] at q; cases q⟩
  keep := fun i h h' st k => by
    obtain ⟨q1, q2, ⟨x, y, q3⟩, q4, q5⟩ := st
    exact ⟨k z (by simp) _ q1, k TI (by simp) _ q2, ⟨x, y, k TO (by simp) _ q3⟩, q4.at fun o q => k i1 (by simp) o q, q5.at fun o q => k i2 (by simp) o q⟩
  item := by
    intro X hP hw hK hc i pins s σ H E I hf st hg
    subst hP hw hK
    obtain ⟨q1, q2, ⟨x0, y0, q3⟩, q4, q5⟩ := st
    obtain ⟨xs, ys, x, y, sx, sy, ln, hx, hy⟩ := hg
    obtain ⟨its, rv, p, _⟩ := I.list sx
    obtain ⟨its2, rv2, p2, _⟩ := I.list sy
    obtain ⟨u, hu, ru⟩ := rv.get hx
    obtain ⟨u2, hu2, ru2⟩ := rv2.get hy
    have m1 := rv.length
    have m2 := rv2.length
    have en : its2.toArray.size = its.toArray.size := by simp; omega
    have S1 := src_list (prog := X.prog) (w := X.w) (it := i1) (l := a) D.l1i1 its.toArray
    have S2 := src_list (prog := X.prog) (w := X.w) (it := i2) (l := b) D.l2i2 its2.toArray
    rw [en] at S2
    have li : i < its.toArray.size := by have := (List.getElem?_eq_some_iff.mp hu).1; simpa using this
    have a1 : its.toArray.getD i .none = u := by simp [Array.getD, List.getElem?_eq_some_iff] at hu ⊢; obtain ⟨z1, z2⟩ := hu; rw [dif_pos z1, z2]
    have a2 : its2.toArray.getD i .none = u2 := by simp [Array.getD, List.getElem?_eq_some_iff] at hu2 ⊢; obtain ⟨z1, z2⟩ := hu2; rw [dif_pos z1, z2]
    have zl : z < s.heap.objs.size := Heap.lt_size q1
    refine pn_item S1 S2 D q1 q2 q3 ⟨q4, p.isList⟩ ⟨q5, p2.isList⟩ li fun h' y1 y2 y3 y4 y5 y6 y7 => ⟨_, rfl, own_zs (s := { s with heap := h' }) y1 fun g z' sb => ?_⟩
    rw [a1, a2] at y2 y5
    have T2 : g.get? s.heap.objs.size = some { cls := .type "tuple", data := .seq #[u, u2] } := (sb.2 _ (Nat.ne_of_gt zl)).trans y5
    have new : ObjOk X.prog X.w (upd H s.heap.objs.size (.tup [x, y])) g s.heap.objs.size (.tup [x, y]) := ⟨by show 2 ≤ sizeLine; decide, [u, u2], .cons ru (.cons ru2 .nil), ⟨_, T2, rfl, _, rfl⟩⟩
    have I1 : Inv X pins σ (upd H s.heap.objs.size (.tup [x, y])) { s with heap := g } :=
      I.turnedNew (t' := s.toks) (ch := [z, TI, TO, i1, i2]) (fun c o hb q => (sb.2 c (fun q' => hb (by simp [q']))).trans (y7 c o (fun q' => hb (by simp [q'])) (fun q' => hb (by simp [q'])) (fun q' => hb (by simp [q'])) (fun q' => hb (by simp [q'])) q)) hf (Nat.le_refl _) new
    refine ⟨.ref s.heap.objs.size, _, I1, rfl, ⟨_, x, y, rfl, I.hok.fresh (Nat.le_refl _), rfl, fun l hl => by rw [I.list_inj hl sx]; exact hx, fun l hl => by rw [I.list_inj hl sy]; exact hy⟩, ⟨z', (sb.2 _ D.TIz).trans (y7 _ _ D.TIz D.TITO D.TIi1 D.TIi2 q2), ⟨u, u2, (sb.2 _ D.TOz).trans y2⟩, y3.1.at fun o q => (sb.2 _ D.i1z).trans q, y4.1.at fun o q => (sb.2 _ D.i2z).trans q⟩, fun c hcm => ?_⟩
    have hlt : c < s.heap.objs.size := by
      simp only [List.mem_cons, List.not_mem_nil, or_false] at hcm
      rcases hcm with q | q | q | q | q <;> rw [q]
      · exact zl
      · exact Heap.lt_size q2
      · exact Heap.lt_size q3
      · obtain ⟨_, e1, _⟩ := q4; exact Heap.lt_size e1
      · obtain ⟨_, e2, _⟩ := q5; exact Heap.lt_size e2
    rw [upd_ne (Nat.ne_of_lt hlt)]
    exact (hf c hcm).1
  done := by
    intro X hP hw hK hc i pins s σ H E I hf st hg
    subst hP hw hK
    obtain ⟨q1, q2, ⟨x0, y0, q3⟩, q4, q5⟩ := st
    obtain ⟨xs, ys, sx, sy, n1, n2⟩ := hg
    obtain ⟨its, rv, p, _⟩ := I.list sx
    obtain ⟨its2, rv2, p2, _⟩ := I.list sy
    have m1 := rv.length
    have m2 := rv2.length
    have en1 : its.toArray.size = i := by simp; omega
    have en2 : its2.toArray.size = i := by simp; omega
    have S1 := src_list (prog := X.prog) (w := X.w) (it := i1) (l := a) D.l1i1 its.toArray
    have S2 := src_list (prog := X.prog) (w := X.w) (it := i2) (l := b) D.l2i2 its2.toArray
    rw [en1] at S1
    rw [en2] at S2
    exact pn_end (I.ok.hd hc) S1 S2 D q1 q2 q3 ⟨q4, p.isList⟩ ⟨q5, p2.isList⟩ fun h' hk => ⟨rfl, I.turnedL (t' := s.toks) (ch := [z, TI, TO, i1, i2]) (fun c o hb q => hk c o (fun q' => hb (by simp [q'])) (fun q' => hb (by simp [q'])) (fun q' => hb (by simp [q'])) q) hf⟩
  self := fun A i s Q E st h => pi_zs st.1 h
/-! ### the call -/
theorem tc_strict (a b c : Value) : checkTypeCall "zip" ⟨[a, b], [(Str.ofString "strict", c)]⟩ = pure () := by kernel_rfl
theorem nc_strict (a b c : Value) : checkBuiltinCall "zip.__new__" ⟨[.type "zip", a, b], [(Str.ofString "strict", c)]⟩ = pure () := by kernel_rfl
theorem ao_strict (obj a b c : Value) : argsOk "object.__init__" ⟨[obj, a, b], [(Str.ofString "strict", c)]⟩ := by unfold argsOk; kernel_rfl
theorem meets_zsL (l1 l2 : Addr) (xs ys : Array Value) :
    Meets (Builtin.«zip.__new__» ⟨[.type "zip", .ref l1, .ref l2], [(Str.ofString "strict", .bool true)]⟩) (fun _ R s => s.heap.IsList l1 xs ∧ s.heap.IsList l2 ys ∧
      R (.ok (.ret (.ref (zipH4 s.heap l1 l2).objs.size))) { s with heap := (zipH4 s.heap l1 l2).push { cls := .type "zip", data := .fields #[.none, .bool false, .bool true, .ref (zipH2 s.heap l1 l2).objs.size, .ref (zipH3 s.heap l1 l2).objs.size] } }) :=
  .of_wp fun prog w A R s h => by
    obtain ⟨hp, g, d, tk, os⟩ := s; obtain ⟨x1, x2, h⟩ := h
    have hsub := sub_zip
    have y1 : Heap.IsList (Shared.heap ⟨hp, g, d, tk, os⟩) l1 xs := x1
    have y2 : Heap.IsList (Shared.heap ⟨hp.push { cls := .type "list_iterator", data := .fields #[.ref l1, .int 0 0] }, g, d, tk, os⟩) l2 ys := Heap.IsList.push x2 _
    have e1 : (Str.ofString "strict" != ("strict" : Str)) = false := by decide +kernel
    wp_walk using wpAny_pyIter_list y1, wpAny_pyIter_list y2
    exact ⟨_, rfl, h⟩
theorem call_zsL {prog : Program} {w : World} {A : Around} {E : Value → Shared → Prop} {s : Shared} {l1 l2 : Addr} {xs ys : Array Value} {Q : Value → Shared → Prop} (hl1 : s.heap.IsList l1 xs) (hl2 : s.heap.IsList l2 ys)
    (h : ∀ h', ZipAt h' (s.heap.objs.size + 4) (s.heap.objs.size + 2) (s.heap.objs.size + 3) .none (.bool false) true → IsPair h' (s.heap.objs.size + 2) (.ref s.heap.objs.size) (.ref (s.heap.objs.size + 1)) →
      IsPair h' (s.heap.objs.size + 3) .none .none → h'.IsListIter s.heap.objs.size l1 0 → h'.IsListIter (s.heap.objs.size + 1) l2 0 → (∀ c o, s.heap.get? c = some o → h'.get? c = some o) → Q (.ref (s.heap.objs.size + 4)) { s with heap := h' }) :
    wpAny (model prog w) A (call (.type "zip") [.ref l1, .ref l2] [(Str.ofString "strict", .bool true)]) Q E s := by
  refine callType_newKw F.called_zip (by decide) (tc_strict _ _ _) (nc_strict _ _ _) (fun obj => ao_strict obj _ _ _) F.entry_zip_new (meets_zsL l1 l2 xs ys) ⟨hl1, hl2, ?_⟩
  have z1 : (zipH1 s.heap l1).objs.size = s.heap.objs.size + 1 := Heap.size_push ..
  have z2 : (zipH2 s.heap l1 l2).objs.size = s.heap.objs.size + 2 := by rw [Heap.size_push, z1]
  have z3 : (zipH3 s.heap l1 l2).objs.size = s.heap.objs.size + 3 := by rw [Heap.size_push, z2]
  have z4 : (zipH4 s.heap l1 l2).objs.size = s.heap.objs.size + 4 := by rw [Heap.size_push, z3]
  have up : ∀ c o, (zipH4 s.heap l1 l2).get? c = some o → ((zipH4 s.heap l1 l2).push { cls := .type "zip", data := .fields #[.none, .bool false, .bool true, .ref (zipH2 s.heap l1 l2).objs.size, .ref (zipH3 s.heap l1 l2).objs.size] }).get? c = some o := fun c o e => Heap.get?_push_of_some _ e
  have g5 : ((zipH4 s.heap l1 l2).push { cls := .type "zip", data := .fields #[.none, .bool false, .bool true, .ref (zipH2 s.heap l1 l2).objs.size, .ref (zipH3 s.heap l1 l2).objs.size] }).get? (zipH4 s.heap l1 l2).objs.size = some _ := Heap.get?_push_size _ rfl
  have g4 : (zipH4 s.heap l1 l2).get? (zipH3 s.heap l1 l2).objs.size = some _ := Heap.get?_push_size _ rfl
  have g3 : (zipH4 s.heap l1 l2).get? (zipH2 s.heap l1 l2).objs.size = some _ := Heap.get?_push_of_some _ (Heap.get?_push_size _ rfl)
  have g2 : (zipH4 s.heap l1 l2).get? (zipH1 s.heap l1).objs.size = some _ := Heap.get?_push_of_some _ (Heap.get?_push_of_some _ (Heap.get?_push_size _ rfl))
  have g1 : (zipH4 s.heap l1 l2).get? s.heap.objs.size = some _ := Heap.get?_push_of_some _ (Heap.get?_push_of_some _ (Heap.get?_push_of_some _ (Heap.get?_push_size _ rfl)))
  replace g4 := up _ _ g4
  replace g3 := up _ _ g3
  replace g2 := up _ _ g2
  replace g1 := up _ _ g1
  show _ ∧ _
  simp only [z1, z2, z3, z4] at g5 g4 g3 g2 g1 up ⊢
  refine ⟨⟨_, g5, rfl⟩, h _ g5 g3 g4 ⟨_, g1, rfl, rfl⟩ ⟨_, g2, rfl, rfl⟩ fun c o e => up c o (Heap.get?_push_of_some _ (Heap.get?_push_of_some _ (Heap.get?_push_of_some _ (Heap.get?_push_of_some _ e))))⟩
theorem meets_zsT (l1 l2 : Addr) (xs ys : Array Value) :
    Meets (Builtin.«zip.__new__» ⟨[.type "zip", .ref l1, .ref l2], [(Str.ofString "strict", .bool true)]⟩) (fun _ R s => s.heap.IsTuple l1 xs ∧ s.heap.IsTuple l2 ys ∧
      R (.ok (.ret (.ref (RZ.zipTH4 s.heap l1 l2).objs.size))) { s with heap := (RZ.zipTH4 s.heap l1 l2).push { cls := .type "zip", data := .fields #[.none, .bool false, .bool true, .ref (RZ.zipTH2 s.heap l1 l2).objs.size, .ref (RZ.zipTH3 s.heap l1 l2).objs.size] } }) :=
  .of_wp fun prog w A R s h => by
    obtain ⟨hp, g, d, tk, os⟩ := s; obtain ⟨x1, x2, h⟩ := h
    have hsub := sub_zip
    have y1 : Heap.IsTuple (Shared.heap ⟨hp, g, d, tk, os⟩) l1 xs := x1
    have y2 : Heap.IsTuple (Shared.heap ⟨hp.push { cls := .type "tuple_iterator", data := .fields #[.ref l1, .int 0 0] }, g, d, tk, os⟩) l2 ys := Heap.IsTuple.push x2 _
    have e1 : (Str.ofString "strict" != ("strict" : Str)) = false := by decide +kernel
    wp_walk using wpAny_pyIter_tuple y1, wpAny_pyIter_tuple y2
    exact ⟨_, rfl, h⟩
theorem call_zsT {prog : Program} {w : World} {A : Around} {E : Value → Shared → Prop} {s : Shared} {l1 l2 : Addr} {xs ys : Array Value} {Q : Value → Shared → Prop} (hl1 : s.heap.IsTuple l1 xs) (hl2 : s.heap.IsTuple l2 ys)
    (h : ∀ h', ZipAt h' (s.heap.objs.size + 4) (s.heap.objs.size + 2) (s.heap.objs.size + 3) .none (.bool false) true → IsPair h' (s.heap.objs.size + 2) (.ref s.heap.objs.size) (.ref (s.heap.objs.size + 1)) →
      IsPair h' (s.heap.objs.size + 3) .none .none → h'.IsTupleIter s.heap.objs.size l1 0 → h'.IsTupleIter (s.heap.objs.size + 1) l2 0 → (∀ c o, s.heap.get? c = some o → h'.get? c = some o) → Q (.ref (s.heap.objs.size + 4)) { s with heap := h' }) :
    wpAny (model prog w) A (call (.type "zip") [.ref l1, .ref l2] [(Str.ofString "strict", .bool true)]) Q E s := by
  refine callType_newKw F.called_zip (by decide) (tc_strict _ _ _) (nc_strict _ _ _) (fun obj => ao_strict obj _ _ _) F.entry_zip_new (meets_zsT l1 l2 xs ys) ⟨hl1, hl2, ?_⟩
  have z1 : (RZ.zipTH1 s.heap l1).objs.size = s.heap.objs.size + 1 := Heap.size_push ..
  have z2 : (RZ.zipTH2 s.heap l1 l2).objs.size = s.heap.objs.size + 2 := by rw [Heap.size_push, z1]
  have z3 : (RZ.zipTH3 s.heap l1 l2).objs.size = s.heap.objs.size + 3 := by rw [Heap.size_push, z2]
  have z4 : (RZ.zipTH4 s.heap l1 l2).objs.size = s.heap.objs.size + 4 := by rw [Heap.size_push, z3]
  have up : ∀ c o, (RZ.zipTH4 s.heap l1 l2).get? c = some o → ((RZ.zipTH4 s.heap l1 l2).push { cls := .type "zip", data := .fields #[.none, .bool false, .bool true, .ref (RZ.zipTH2 s.heap l1 l2).objs.size, .ref (RZ.zipTH3 s.heap l1 l2).objs.size] }).get? c = some o := fun c o e => Heap.get?_push_of_some _ e
  have g5 : ((RZ.zipTH4 s.heap l1 l2).push { cls := .type "zip", data := .fields #[.none, .bool false, .bool true, .ref (RZ.zipTH2 s.heap l1 l2).objs.size, .ref (RZ.zipTH3 s.heap l1 l2).objs.size] }).get? (RZ.zipTH4 s.heap l1 l2).objs.size = some _ := Heap.get?_push_size _ rfl
  have g4 : (RZ.zipTH4 s.heap l1 l2).get? (RZ.zipTH3 s.heap l1 l2).objs.size = some _ := Heap.get?_push_size _ rfl
  have g3 : (RZ.zipTH4 s.heap l1 l2).get? (RZ.zipTH2 s.heap l1 l2).objs.size = some _ := Heap.get?_push_of_some _ (Heap.get?_push_size _ rfl)
  have g2 : (RZ.zipTH4 s.heap l1 l2).get? (RZ.zipTH1 s.heap l1).objs.size = some _ := Heap.get?_push_of_some _ (Heap.get?_push_of_some _ (Heap.get?_push_size _ rfl))
  have g1 : (RZ.zipTH4 s.heap l1 l2).get? s.heap.objs.size = some _ := Heap.get?_push_of_some _ (Heap.get?_push_of_some _ (Heap.get?_push_of_some _ (Heap.get?_push_size _ rfl)))
  replace g4 := up _ _ g4
  replace g3 := up _ _ g3
  replace g2 := up _ _ g2
  replace g1 := up _ _ g1
  show _ ∧ _
  simp only [z1, z2, z3, z4] at g5 g4 g3 g2 g1 up ⊢
  refine ⟨⟨_, g5, rfl⟩, h _ g5 g3 g4 ⟨_, g1, rfl, rfl⟩ ⟨_, g2, rfl, rfl⟩ fun c o e => up c o (Heap.get?_push_of_some _ (Heap.get?_push_of_some _ (Heap.get?_push_of_some _ (Heap.get?_push_of_some _ e))))⟩
theorem callWith_typeK {M : Model} {A : Around} {E : Value → Shared → Prop} {s : Shared} {pos : Pos} {T : String} {first : List Value} {args : List (Bool × Sem Value)} {keywords : List (Option Str × Sem Value)} {Q : Value → Shared → Prop}
    (h1 : args.any (·.1) = false) (h2 : keywords.any (·.1.isNone) = false) (h : wpAny M A (evalArgs (.type T) true args keywords) (fun a s₁ => wpAny M A (call (.type T) (first ++ a.pos) a.kw) Q E s₁) E s) :
    wpAny M A (callWith pos (.type T) first args keywords) Q E s := by
  unfold callWith
  refine wpAny_bind (wpAny_holding (wpAny_mono h (fun a s₁ h₁ => wpAny_bind (wpAny_standAt ?_)) fun _ _ x => x))
  simp only [h1, h2, Bool.or_false]
  exact wpAny_bind (wpAny_pure (wpAny_bind (wpAny_mono h₁ (fun r s₂ hr => wpAny_bind (wpAny_holding (wpAny_point (wpAny_pure hr)))) fun _ _ x => x)))
def iZipS (K : PySem.W.Frag) (ta : TA) : TI := fun σ H R => ta σ H fun vs H1 => ∃ a b xs ys, vs = [.ref a, .ref b] ∧ ((SqL K H1 a xs ∧ SqL K H1 b ys ∧ R (ItSL K a b) H1) ∨ (SqT K H1 a xs ∧ SqT K H1 b ys ∧ R (ItST K a b) H1))
theorem pi_zipS {X : Cx} {e e2 : Expr} {ta : TA} {p p2 pos tpos kp : Pos} {elts : List Expr} {kk j : Nat} (hg : Gl X "zip") (hm : X.mg "zip" = none) (ha : PA X [e, e2] ta)
    (hs : starEach [e, e2] X.env = (false, eval e X.env) :: starEach [e2] X.env) (hpl : (backTo pos (starEach [e, e2] X.env)).any (·.1) = false) :
    PI X (.Tuple elts kk tpos) (.Call (.Name "zip" p) [e, e2] [⟨some "strict", .Constant (.bool true) j p2, kp⟩] pos) (iZipS X.K ta) := by
  refine ⟨fun pins s σ H R I h => ?_⟩
  have hb : backTo pos (starEach [e, e2] X.env) = (false, eval e X.env) :: backTo pos (starEach [e2] X.env) := by rw [hs]; rfl
  refine wpAny_Call_Name_kw (ld_blt I hg hm PyProof.Rows.boot_zip (callWith_typeK hpl (by rfl) ?_))
  have hA := ha.run pos pins s σ H _ I h
  rw [hb] at hA ⊢
  refine evalArgs_kwB (by rfl) (wpAny_mono hA (fun us s1 ap => ?_) fun _ _ x => x)
  obtain ⟨vs, H1, I1, r1, q1⟩ := ap
  show wpAny _ _ (evalAll ((backToKw pos (keywordEach [⟨some "strict", .Constant (.bool true) j p2, kp⟩] X.env)).map (·.2))) _ _ _
  refine thn ((pk_cons (nm := some "strict") (kpos := kp) (pe_bl (b := true) (X := X) (j := j) (pos := p2)) pk_nil).run pos pins s1 σ H1 (fun zs H2 => zs = [.bl true] ∧ H2 = H1) I1 ⟨rfl, rfl⟩) fun ws s2 ap2 => ?_
  obtain ⟨zs, H2, I2, r2, rfl, rfl⟩ := ap2
  obtain ⟨w0, rfl, rw0⟩ := vals1 r2
  cases rw0
  obtain ⟨a, b, xs, ys, ex, q1⟩ := q1
  subst ex
  cases r1 with
  | cons r rr =>
  cases rr with
  | cons r' rr =>
  cases rr
  cases r
  cases r'
  show wpAny _ _ (call (.type "zip") [.ref a, .ref b] [(Str.ofString "strict", .bool true)]) _ _ _
  have fresh5 : ∀ c, c ∈ [s2.heap.objs.size + 4, s2.heap.objs.size + 2, s2.heap.objs.size + 3, s2.heap.objs.size, s2.heap.objs.size + 1] → FpOk X pins H2 c := fun c hcm => by
    have hle : s2.heap.objs.size ≤ c := by
      simp only [List.mem_cons, List.not_mem_nil, or_false] at hcm
      rcases hcm with q | q | q | q | q <;> rw [q] <;> first | exact Nat.le_add_right _ _ | exact Nat.le_refl _
    exact I2.fpOk hle (I2.hok.fresh hle)
  rcases q1 with ⟨sx, sy, q⟩ | ⟨sx, sy, q⟩
  · obtain ⟨its, rv, y1, _⟩ := I2.list sx
    obtain ⟨its2, rv2, y2, _⟩ := I2.list sy
    refine call_zsL y1.isList y2.isList fun h' g1 g2 g3 g4 g5 hk => pi_zs g1 ?_
    have I3 : Inv X pins σ H2 { s2 with heap := h' } := I2.kept (t' := s2.toks) hk
    exact ⟨s2.heap.objs.size + 4, [s2.heap.objs.size + 4, s2.heap.objs.size + 2, s2.heap.objs.size + 3, s2.heap.objs.size, s2.heap.objs.size + 1], _, _, H2, rfl, I3, turn_zsL (PySem.W.ktu_apart s2.heap.objs.size a b y1.lt y2.lt), ⟨g1, g2, ⟨_, _, g3⟩, g4, g5⟩, fresh5, q⟩
  · obtain ⟨its, rv, y1, _⟩ := I2.tuple sx
    obtain ⟨its2, rv2, y2, _⟩ := I2.tuple sy
    obtain ⟨o1, ho1, _⟩ := id y1
    obtain ⟨o2, ho2, _⟩ := id y2
    refine call_zsT (show s2.heap.IsTuple a its.toArray from y1) (show s2.heap.IsTuple b its2.toArray from y2) fun h' g1 g2 g3 g4 g5 hk => pi_zs g1 ?_
    have I3 : Inv X pins σ H2 { s2 with heap := h' } := I2.kept (t' := s2.toks) hk
    exact ⟨s2.heap.objs.size + 4, [s2.heap.objs.size + 4, s2.heap.objs.size + 2, s2.heap.objs.size + 3, s2.heap.objs.size, s2.heap.objs.size + 1], _, _, H2, rfl, I3, turn_zsT (PySem.W.ktu_apart s2.heap.objs.size a b (Heap.lt_size ho1) (Heap.lt_size ho2)), ⟨g1, g2, ⟨_, _, g3⟩, g4, g5⟩, fresh5, q⟩
end Y

/-! L3w: a star behind the other targets. -/
namespace Y
open PySem PySem.Spec L2 PyProof.Rows
theorem star_items {prog : Program} {w : World} {A : Around} {E : Value → Shared → Prop} {s : Shared} {l : Addr} {items : Array Value} {i : Nat} {Q : List Value → Shared → Prop} (hl : IsTup s.heap l items) (hh : A.handled = none) (hi : i ≤ items.size) (hz : items.size ≤ 16384)
    (q : ∀ h' tk D, (∀ b o, s.heap.get? b = some o → h'.get? b = some o) → s.heap.get? D = none → h'.get? D = some { cls := .type "list", data := .seq (items.toList.drop i).toArray } → Q (items.toList.take i ++ [.ref D]) { s with heap := h', toks := tk }) :
    wpAny (model prog w) A (unpackItems (.ref l) (i + 1) (some i)) Q E s := by
  have ll : l < s.heap.objs.size := by obtain ⟨o, ho, _⟩ := hl; exact Heap.lt_size ho
  have ne : l ≠ s.heap.objs.size := Nat.ne_of_lt ll
  unfold unpackItems
  refine wpAny_bind ?_
  unfold notIterableAtAll
  refine wpAny_bind (wpAny_specialOf hl.typeIs slot_tuple_iter.lookup (wpAny_pure ?_))
  simp only [Bool.false_eq_true, if_false]
  refine wpAny_bind (wpAny_holding (iter_tuple hl (wpAny_bind (wpAny_holding (draw_tuple ne i 0 _ _ ⟨_, Heap.get?_push_size _ rfl, rfl, rfl⟩ (hl.push _) (by omega) fun h1 it1 k1 => ?_)))))
  have t1 : IsTup h1 l items := (hl.push _).extBut k1.extBut ne
  rw [Nat.zero_add] at it1
  obtain ⟨oi, hoi, _⟩ := id it1
  obtain ⟨ol, hol, _⟩ := id t1
  rw [List.drop_zero]
  have fl : (items.toList.take i).length = i := by rw [List.length_take, Array.length_toList]; omega
  rw [if_neg (show ¬ ((items.toList.take i).length < i) by rw [fl]; omega)]
  refine wpAny_bind (wpAny_holding (PySem.W.kun_collect (s := { s with heap := h1 }) (T := "tuple_iterator") (.inr (.inr (.inr rfl))) (Walks.tuple (A := A.in1) hh s.heap.objs.size l ne items) (fun j u st => st.1.typeIs) (k := i) hi ⟨it1, t1⟩ (Heap.lt_size hoi) (Heap.lt_size hol) (fun h2 tk k2 => ?_) (by rw [sizeLine_eq]; omega)))
  have rl : (items.toList.drop i).length = items.size - i := by rw [List.length_drop, Array.length_toList]
  have md : (items.toList.drop i).length - (i + 1 - 1 - i) = items.size - i := by rw [rl]; omega
  show wpAny (model prog w) A (if (items.toList.drop i).length < i + 1 - 1 - i then _ else _) _ _ _
  rw [if_neg (by rw [rl]; omega)]
  show wpAny (model prog w) A (newList ((items.toList.drop i).take ((items.toList.drop i).length - (i + 1 - 1 - i))) >>= fun d => pure (items.toList.take i ++ [d] ++ (items.toList.drop i).drop ((items.toList.drop i).length - (i + 1 - 1 - i)))) _ _ _
  have w1 : (items.toList.drop i).take (items.size - i) = items.toList.drop i := List.take_of_length_le (by rw [rl]; exact Nat.le_refl _)
  have w2 : (items.toList.drop i).drop (items.size - i) = [] := List.drop_of_length_le (by rw [rl]; exact Nat.le_refl _)
  rw [md, w1, w2]
  have old : ∀ b o, s.heap.get? b = some o → h2.get? b = some o := fun b o e => by
    have nb : b ≠ s.heap.objs.size := Nat.ne_of_lt (Heap.lt_size e)
    exact k2 b o nb (k1.extBut b o nb (Heap.get?_push_of_some _ e))
  have big : s.heap.get? h2.objs.size = none := by
    cases e : s.heap.get? h2.objs.size with
    | none => rfl
    | some o => exact absurd (Heap.lt_size (old _ _ e)) (Nat.lt_irrefl _)
  refine wpAny_bind (wpAny_newList (wpAny_pure ?_) (by rw [rl, sizeLine_eq]; omega))
  rw [List.append_nil]
  exact q _ _ _ (fun b o e => Heap.get?_push_of_some _ (old b o e)) big (Heap.get?_push_size _ rfl)
theorem vals_take : ∀ {xs : List V} {us : List Value}, Vals xs us → ∀ n, Vals (xs.take n) (us.take n)
  | _, _, _, 0 => .nil
  | _, _, .nil, _ + 1 => .nil
  | _, _, .cons r rr, n + 1 => .cons r (vals_take rr n)
theorem vals_drop : ∀ {xs : List V} {us : List Value}, Vals xs us → ∀ n, Vals (xs.drop n) (us.drop n)
  | _, _, r, 0 => r
  | _, _, .nil, _ + 1 => .nil
  | _, _, .cons r rr, n + 1 => vals_drop rr n
def gStar (K : PySem.W.Frag) (k : Nat) (t : TGs) : TG := fun v σ H Q => ∃ a xs, v = .ref a ∧ SqT K H a xs ∧ k ≤ xs.length ∧ xs.length ≤ 10000 ∧ ∀ p, H p = none → t (xs.take k ++ [.ref p]) σ (upd H p (.lst (xs.drop k))) Q
theorem pgs_star {X : Cx} {e : Expr} {p : Pos} {t : TG} (h : PG X e t) : PGs X [.Starred e p] (gCons t gNil) := by
  refine ⟨fun pins s σ H vs us Q I r hq => ?_⟩
  obtain ⟨v, vr, e1, hq⟩ := hq
  subst e1
  cases r with
  | cons r rr =>
    refine assignInOrder_cons (thn (h.run pins s σ H _ _ _ I r hq) fun _ s1 ⟨σ1, H1, I1, e2, q1⟩ => ?_)
    subst e2
    cases rr
    exact assignInOrder_nil ⟨σ1, H1, I1, q1⟩
theorem pg_star {X : Cx} {es : List Expr} {j n : Nat} {pos : Pos} {t : TGs} (hc : X.calm = true) (h : PGs X es t) (hn : (assignEach es X.env).length = n + 1) (hst : (assignEach es X.env).findIdx? (·.1) = some n) : PG X (.Tuple es j pos) (gStar X.K n t) := by
  refine ⟨fun pins s σ H v u Q I r hw => ?_⟩
  obtain ⟨a, xs, e1, hq, hl, hb, hw⟩ := hw
  subst e1
  cases r
  obtain ⟨its, rv, ht, hz⟩ := I.tuple hq
  have ln := rv.length
  rw [assign_Tuple]
  refine wpAny_bind (wpAny_standAt ?_)
  unfold unpack
  rw [hn, hst]
  refine wpAny_bind (wpAny_holding (star_items ht (I.ok.hd hc) (by simp; omega) (by simp; omega) fun h' tk D old lD eD => ?_))
  have nD : H D = none := I.hok.gone lD
  have I1 : Inv X pins σ (upd H D (.lst (xs.drop n))) { s with heap := h', toks := tk } := I.laidN (t' := tk) (a := D) (o := .lst (xs.drop n)) (h' := h') old lD nD ⟨by show (xs.drop n).length ≤ sizeLine; rw [List.length_drop, sizeLine_eq]; omega, its.drop n, 0, vals_drop rv n, by rw [eD]⟩
  refine h.run pins _ σ _ (xs.take n ++ [.ref D]) _ Q I1 ?_ (hw D nD)
  rw [show its.toArray.toList.take n = its.take n from rfl]
  exact (vals_take rv n).append (.cons rfl .nil)
end Y

/-! L3v: enumerate of a tuple in a loop. -/
namespace Y
open PySem PySem.Spec L2 PyProof.Rows
open Sem (wp)
open AutoSeq1 (wpAny_loadPart')
theorem meets_enumT (l : Addr) (items : Array Value) :
    Meets (Builtin.«enumerate.__new__» ⟨[.type "enumerate", .ref l], []⟩) (fun _ R s => s.heap.IsTuple l items ∧
      R (.ok (.ret (.ref (s.heap.push { cls := .type "tuple_iterator", data := .fields #[.ref l, .int 0 0] }).objs.size)))
        { s with heap := (s.heap.push { cls := .type "tuple_iterator", data := .fields #[.ref l, .int 0 0] }).push { cls := .type "enumerate", data := .fields #[.none, .bool false, .ref s.heap.objs.size, rawInt 0, .none, .none] } }) :=
  .of_wp fun prog w A R s h => by
    obtain ⟨hp, g, d, tk, os⟩ := s; obtain ⟨hL, h⟩ := h
    have hsub := sub_enumerate
    have hL : Heap.IsTuple (Shared.heap ⟨hp, g, d, tk, os⟩) l items := hL
    wp_walk
    refine wpAny_stack_any fun st => wpAny_pure ?_
    split
    · rename_i c _ _ _ _ _
      cases (c == Value.type "enumerate")
      · wp_walk using wpAny_pyIter_tuple hL
        exact ⟨_, rfl, h⟩
      · wp_walk using wpAny_pyIter_tuple hL
        exact ⟨_, rfl, h⟩
    · wp_walk using wpAny_pyIter_tuple hL
      exact ⟨_, rfl, h⟩
section
variable {prog : Program} {w : World} {A : Around} {E : Value → Shared → Prop} {s : Shared}
theorem call_enumT {l : Addr} {items : Array Value} {Q : Value → Shared → Prop} (hL : s.heap.IsTuple l items)
    (h : ∀ h', IsEnum h' (s.heap.objs.size + 1) s.heap.objs.size 0 .none → h'.IsTupleIter s.heap.objs.size l 0 → h'.objs.size = s.heap.objs.size + 2 →
      (∀ b o, s.heap.get? b = some o → h'.get? b = some o) → Q (.ref (s.heap.objs.size + 1)) { s with heap := h' }) :
    wpAny (model prog w) A (call (.type "enumerate") [.ref l]) Q E s := by
  refine callType_new F.called_enumerate (by decide) (F.typeCall_enumerate_1 _) (F.newCall_enumerate_1 _) (fun obj => F.args_object_init_2 obj _) F.entry_enumerate_new
    (meets_enumT l items) ⟨hL, ?_⟩
  have hz : (s.heap.push { cls := .type "tuple_iterator", data := .fields #[.ref l, .int 0 0] }).objs.size = s.heap.objs.size + 1 := Heap.size_push ..
  show _ ∧ _
  rw [hz]
  have he : IsEnum ((s.heap.push { cls := .type "tuple_iterator", data := .fields #[.ref l, .int 0 0] }).push
      { cls := .type "enumerate", data := .fields #[.none, .bool false, .ref s.heap.objs.size, rawInt 0, .none, .none] }) (s.heap.objs.size + 1) s.heap.objs.size 0 .none := by
    have := Heap.get?_push_size (s.heap.push { cls := .type "tuple_iterator", data := .fields #[.ref l, .int 0 0] })
      (o := { cls := .type "enumerate", data := .fields #[.none, .bool false, .ref s.heap.objs.size, rawInt 0, .none, .none] }) rfl
    rw [hz] at this; exact this
  refine ⟨⟨_, he, rfl⟩, h _ he ⟨_, Heap.get?_push_of_some _ (Heap.get?_push_size _ rfl), rfl, rfl⟩ (by rw [Heap.size_push, hz]) fun b o x => Heap.get?_push_of_some _ (Heap.get?_push_of_some _ x)⟩
end
/-- the tuple at a, its items in new pairs with their numbers -/
def IteT (K : PySem.W.Frag) (a : Addr) : It :=
  ⟨fun i H => ∃ (xs : List V) (x : V), SqT K H a xs ∧ xs[i]? = some x,
    fun i H v H' => ∃ T x, v = .ref T ∧ H T = none ∧ H' = upd H T (.tup [.int (i : Nat), x]) ∧ ∀ xs, SqT K H a xs → xs[i]? = some x,
    fun i H => ∃ xs : List V, SqT K H a xs ∧ xs.length ≤ i⟩
theorem turn_enumT {P : Program} {w : World} {K : PySem.W.Frag} {elts : List Expr} {kk : Nat} {tpos : Pos} (a e it : Addr) :
    Turn P w K (.Tuple elts kk tpos) (IteT K a) [e, it] e (fun i h => (∃ old, IsEnum h e it ((i : Nat) : Int) old) ∧ h.IsTupleIter it a i ∧ e ≠ it ∧ a ≠ it ∧ e ≠ a) where
  mem := by simp
  obj := fun i h st b hb => by
    obtain ⟨⟨old, he⟩, ⟨o, ho, hc, hd⟩, _⟩ := st
    have e' : b = e ∨ b = it := by simpa using hb
    rcases e' with z | z
    · rw [z]; exact ⟨_, he, fun v q => nomatch q⟩
    · rw [z]; exact ⟨o, ho, fun v q => by rw [hd] at q; cases q⟩
  keep := fun i h h' st k => let ⟨⟨old, he⟩, hi, hne⟩ := st; ⟨⟨old, k e (by simp) _ he⟩, hi.at fun o q => k it (by simp) o q, hne⟩
  item := by
    intro X hP hw hK hc i pins s σ H E I hf st hg
    subst hP hw hK
    obtain ⟨⟨old, he⟩, hit, hne, hai, hea⟩ := st
    obtain ⟨xs, x, hq, hx⟩ := hg
    obtain ⟨its, rv, p, hz⟩ := I.tuple hq
    obtain ⟨u, hu, ru⟩ := rv.get hx
    have hel : e < s.heap.objs.size := Heap.lt_size he
    have hil : it < s.heap.objs.size := by obtain ⟨_, q, _⟩ := hit; exact Heap.lt_size q
    have D := Draws.tuple (prog := X.prog) (w := X.w) (A := X.A.in1) (I.ok.hd hc) it a hai its.toArray
    have hlt : i < its.toArray.size := by
      have := (List.getElem?_eq_some_iff.mp hu).1
      simpa using this
    refine wpAny_pyNext_enum_itemD D he ⟨hit, p⟩ hlt hne (by simp [hne, hea]) fun u2 h' tk hP ho hit' hT hsz hk => ?_
    have eu : u2 = u := by
      have : its.toArray[i]? = some u2 := hP
      rw [List.getElem?_toArray, hu] at this
      exact (Option.some.inj this).symm
    subst eu
    refine ⟨_, rfl, wpAny_letOwnedTupleGo_enum (s := { s with heap := h', toks := tk + 1 }) ho fun h'' he' sb => ?_⟩
    have hT2 : h''.get? s.heap.objs.size = some { cls := .type "tuple", data := .seq #[.int i tk, u2] } := (sb.2 _ (Nat.ne_of_gt hel)).trans hT
    have new : ObjOk X.prog X.w (upd H s.heap.objs.size (.tup [.int (i : Nat), x])) h'' s.heap.objs.size (.tup [.int (i : Nat), x]) :=
      ⟨by show 2 ≤ sizeLine; decide, [.int i tk, u2], .cons ⟨_, rfl⟩ (.cons ru .nil), ⟨_, hT2, rfl, _, rfl⟩⟩
    have I1 : Inv X pins σ (upd H s.heap.objs.size (.tup [.int (i : Nat), x])) { s with heap := h'', toks := tk + 1 } :=
      I.turnedNew (ch := [e, it]) (fun b ob hb q => (sb.2 b (fun z => hb (by simp [z]))).trans (hk b ob (fun z => hb (by simp [z])) (fun z => hb (by simp [z])) q)) hf (Nat.le_refl _) new
    refine ⟨.ref s.heap.objs.size, _, I1, rfl, ⟨_, x, rfl, I.hok.fresh (Nat.le_refl _), rfl, fun ys hy => by rw [I.tuple_inj hy hq]; exact hx⟩, ⟨⟨u2, ?_⟩, hit'.1.at fun o q => (sb.2 it (Ne.symm hne)).trans q, hne, hai, hea⟩, fun b hb => ?_⟩
    · have e1 : ((i + 1 : Nat) : Int) = (i : Int) + 1 := by omega
      rw [e1]; exact he'
    · have hb' : b < s.heap.objs.size := by
        have e' : b = e ∨ b = it := by simpa using hb
        rcases e' with z | z
        · rw [z]; exact hel
        · rw [z]; exact hil
      rw [upd_ne (Nat.ne_of_lt hb')]
      exact (hf b hb).1
  done := by
    intro X hP hw hK hc i pins s σ H E I hf st hg
    subst hP hw hK
    obtain ⟨⟨old, he⟩, hit, hne, hai, hea⟩ := st
    obtain ⟨xs, hq, hx⟩ := hg
    obtain ⟨its, rv, p, hz⟩ := I.tuple hq
    obtain ⟨f0, f1, f2, f3, f4, f5⟩ := hf it (by simp)
    have hl := rv.length
    have hT : s.TypeIs (.ref e) "enumerate" := ⟨_, he, rfl⟩
    unfold pyNext
    refine wpAny_bind (wpAny_attempt (wpAny_callSpecial?_slot (name := Str.ofString "__next__") hT F.slot_enumerate_next
      (wpAny_call_entry F.slot_enumerate_next hT F.entry_enumerate_next ?_ (F.args_enumerate_next_1 _))))
    show wpAny _ _ (field (.ref e) 2 >>= _) _ _ _
    refine wpAny_bind (wpAny_field he rfl (x := .ref it) rfl ?_)
    refine wpAny_bind (wpAny_nextOf_tuple_end (I.ok.hd hc) hit p (by simp; omega) fun h' x he' hx' => ?_)
    obtain ⟨o, ho, hc'⟩ := hx'
    refine wpAny_bind (wpAny_isInstance (T := "StopIteration") (b := true) ⟨o, ho, hc'⟩ isSubtype_stop ?_)
    exact wpAny_pure ⟨rfl, I.turned (t' := s.toks) (fun b o hb q => he' b o hb q) f0 f1 f3 f4 f5⟩
  self := fun A i s Q E st h => let ⟨⟨_, he⟩, _⟩ := st; wpAny_pyIter_enum he h
def iEnumA (K : PySem.W.Frag) (ta : TA) : TI := fun σ H R => ta σ H fun vs H1 => ∃ a xs, vs = [.ref a] ∧ ((SqL K H1 a xs ∧ R (Ite K a) H1) ∨ (SqT K H1 a xs ∧ R (IteT K a) H1))
theorem pi_enumA {X : Cx} {e : Expr} {ta : TA} {p pos tpos : Pos} {elts : List Expr} {kk : Nat} (hg : Gl X "enumerate") (hm : X.mg "enumerate" = none) (ha : PA X [e] ta) (hs : starEach [e] X.env = [(false, eval e X.env)] := by rfl) :
    PI X (.Tuple elts kk tpos) (.Call (.Name "enumerate" p) [e] [] pos) (iEnumA X.K ta) := by
  refine ⟨fun pins s σ H R I h => ?_⟩
  refine Call_ (ld_blt I hg hm boot_enumerate (PyProof.Rows.callWith_type1 (thn (ha.run pos pins s σ H _ I h) fun us s1 ⟨vs, H1, I1, r1, q1⟩ => ?_) hs rfl))
  obtain ⟨a, xs, ex, q1⟩ := q1
  subst ex
  cases r1 with
  | cons r rr =>
    cases rr
    cases r
    have fin : ∀ b, b ∈ [s1.heap.objs.size + 1, s1.heap.objs.size] → FpOk X pins H1 b := fun b hb => by
      have e' : b = s1.heap.objs.size + 1 ∨ b = s1.heap.objs.size := by simpa using hb
      have hle : s1.heap.objs.size ≤ b := by
        rcases e' with z | z
        · rw [z]; exact Nat.le_add_right _ _
        · rw [z]; exact Nat.le_refl _
      exact I1.fpOk hle (I1.hok.fresh hle)
    rcases q1 with ⟨hq, q⟩ | ⟨hq, q⟩
    · obtain ⟨its, rv, p', hz⟩ := I1.list hq
      refine call_enumerate_list p'.isList fun h' he hit hsz hk => wpAny_pyIter_enum he ?_
      have I2 : Inv X pins σ H1 { s1 with heap := h' } := I1.kept (t' := s1.toks) hk
      exact ⟨s1.heap.objs.size + 1, [s1.heap.objs.size + 1, s1.heap.objs.size], _, _, H1, rfl, I2, turn_enum a (s1.heap.objs.size + 1) s1.heap.objs.size, ⟨⟨.none, he⟩, hit, Nat.succ_ne_self _⟩, fin, q⟩
    · obtain ⟨its, rv, p', hz⟩ := I1.tuple hq
      have la : a < s1.heap.objs.size := by
        obtain ⟨_, q, _⟩ := id p'
        exact Heap.lt_size q
      refine call_enumT (show s1.heap.IsTuple a its.toArray from p') fun h' he hit hsz hk => wpAny_pyIter_enum he ?_
      have I2 : Inv X pins σ H1 { s1 with heap := h' } := I1.kept (t' := s1.toks) hk
      exact ⟨s1.heap.objs.size + 1, [s1.heap.objs.size + 1, s1.heap.objs.size], _, _, H1, rfl, I2, turn_enumT a (s1.heap.objs.size + 1) s1.heap.objs.size, ⟨⟨.none, he⟩, hit, Nat.succ_ne_self _, Nat.ne_of_lt la, Nat.ne_of_gt (Nat.lt_succ_of_lt la)⟩, fin, q⟩
end Y

/-! L3a: a small language of its own: values (tuples by structure), numbered objects, expressions, statements, and how they run. -/
namespace Y
open PySem
abbrev Key := L2.Key

inductive T where
  | non | bl (b : Bool) | int (i : Int) | str (x : Str) | tup (xs : List T) | kt (xs : List T) | ref (l : Nat) | ty (n : String)
  deriving Inhabited

mutual
def T.dec : (a b : T) → Decidable (a = b)
  | .non, .non => .isTrue rfl
  | .non, .bl _ => .isFalse (fun e => nomatch e)
  | .non, .int _ => .isFalse (fun e => nomatch e)
  | .non, .str _ => .isFalse (fun e => nomatch e)
  | .non, .tup _ => .isFalse (fun e => nomatch e)
  | .non, .kt _ => .isFalse (fun e => nomatch e)
  | .non, .ref _ => .isFalse (fun e => nomatch e)
  | .non, .ty _ => .isFalse (fun e => nomatch e)
  | .bl _, .non => .isFalse (fun e => nomatch e)
  | .bl a, .bl b => if h : a = b then .isTrue (by rw [h]) else .isFalse fun e => h (T.bl.inj e)
  | .bl _, .int _ => .isFalse (fun e => nomatch e)
  | .bl _, .str _ => .isFalse (fun e => nomatch e)
  | .bl _, .tup _ => .isFalse (fun e => nomatch e)
  | .bl _, .kt _ => .isFalse (fun e => nomatch e)
  | .bl _, .ref _ => .isFalse (fun e => nomatch e)
  | .bl _, .ty _ => .isFalse (fun e => nomatch e)
  | .int _, .non => .isFalse (fun e => nomatch e)
  | .int _, .bl _ => .isFalse (fun e => nomatch e)
  | .int a, .int b => if h : a = b then .isTrue (by rw [h]) else .isFalse fun e => h (T.int.inj e)
  | .int _, .str _ => .isFalse (fun e => nomatch e)
  | .int _, .tup _ => .isFalse (fun e => nomatch e)
  | .int _, .kt _ => .isFalse (fun e => nomatch e)
  | .int _, .ref _ => .isFalse (fun e => nomatch e)
  | .int _, .ty _ => .isFalse (fun e => nomatch e)
  | .str _, .non => .isFalse (fun e => nomatch e)
  | .str _, .bl _ => .isFalse (fun e => nomatch e)
  | .str _, .int _ => .isFalse (fun e => nomatch e)
  | .str a, .str b => if h : a = b then .isTrue (by rw [h]) else .isFalse fun e => h (T.str.inj e)
  | .str _, .tup _ => .isFalse (fun e => nomatch e)
  | .str _, .kt _ => .isFalse (fun e => nomatch e)
  | .str _, .ref _ => .isFalse (fun e => nomatch e)
  | .str _, .ty _ => .isFalse (fun e => nomatch e)
  | .tup _, .non => .isFalse (fun e => nomatch e)
  | .tup _, .bl _ => .isFalse (fun e => nomatch e)
  | .tup _, .int _ => .isFalse (fun e => nomatch e)
  | .tup _, .str _ => .isFalse (fun e => nomatch e)
  | .tup a, .tup b => match T.decs a b with
    | .isTrue h => .isTrue (by rw [h])
    | .isFalse h => .isFalse fun e => h (T.tup.inj e)
  | .tup _, .kt _ => .isFalse (fun e => nomatch e)
  | .tup _, .ref _ => .isFalse (fun e => nomatch e)
  | .tup _, .ty _ => .isFalse (fun e => nomatch e)
  | .kt _, .non => .isFalse (fun e => nomatch e)
  | .kt _, .bl _ => .isFalse (fun e => nomatch e)
  | .kt _, .int _ => .isFalse (fun e => nomatch e)
  | .kt _, .str _ => .isFalse (fun e => nomatch e)
  | .kt _, .tup _ => .isFalse (fun e => nomatch e)
  | .kt a, .kt b => match T.decs a b with
    | .isTrue h => .isTrue (by rw [h])
    | .isFalse h => .isFalse fun e => h (T.kt.inj e)
  | .kt _, .ref _ => .isFalse (fun e => nomatch e)
  | .kt _, .ty _ => .isFalse (fun e => nomatch e)
  | .ref _, .non => .isFalse (fun e => nomatch e)
  | .ref _, .bl _ => .isFalse (fun e => nomatch e)
  | .ref _, .int _ => .isFalse (fun e => nomatch e)
  | .ref _, .str _ => .isFalse (fun e => nomatch e)
  | .ref _, .tup _ => .isFalse (fun e => nomatch e)
  | .ref _, .kt _ => .isFalse (fun e => nomatch e)
  | .ref a, .ref b => if h : a = b then .isTrue (by rw [h]) else .isFalse fun e => h (T.ref.inj e)
  | .ref _, .ty _ => .isFalse (fun e => nomatch e)
  | .ty _, .non => .isFalse (fun e => nomatch e)
  | .ty _, .bl _ => .isFalse (fun e => nomatch e)
  | .ty _, .int _ => .isFalse (fun e => nomatch e)
  | .ty _, .str _ => .isFalse (fun e => nomatch e)
  | .ty _, .tup _ => .isFalse (fun e => nomatch e)
  | .ty _, .kt _ => .isFalse (fun e => nomatch e)
  | .ty _, .ref _ => .isFalse (fun e => nomatch e)
  | .ty a, .ty b => if h : a = b then .isTrue (by rw [h]) else .isFalse fun e => h (T.ty.inj e)
def T.decs : (a b : List T) → Decidable (a = b)
  | [], [] => .isTrue rfl
  | [], _ :: _ => .isFalse (fun e => nomatch e)
  | _ :: _, [] => .isFalse (fun e => nomatch e)
  | x :: xs, y :: ys => match T.dec x y, T.decs xs ys with
    | .isTrue h, .isTrue h' => .isTrue (by rw [h, h'])
    | .isFalse h, _ => .isFalse fun e => h (List.cons.inj e).1
    | _, .isFalse h => .isFalse fun e => h (List.cons.inj e).2
end
instance : DecidableEq T := T.dec

/-- a numbered object -/
inductive LO where
  /-- a list; a list that is only read; dicts by ints and texts, by tuples of these; the same while a loop walks them; an instance -/
  | lst (xs : List T) | rol (xs : List T) | dK (kvs : List (Key × T)) | dT (kvs : List (List Key × T)) | lkK (kvs : List (Key × T)) | lkT (kvs : List (List Key × T))
  | ins (c : Str) (fs : List (Str × T))
  deriving DecidableEq, Inhabited

abbrev LH := List LO
/-- what is raised: its class, its fields -/
structure Ex where
  c : Str
  fs : List (Str × T)
inductive Res (α : Type) where
  | ok (a : α) (h : LH) | exc (e : Ex) (h : LH) | fail
abbrev M (α : Type) := LH → Res α
section
variable {α β : Type}
def ret (a : α) : M α := fun h => .ok a h
def fl : M α := fun _ => .fail
def bnd (m : M α) (f : α → M β) : M β := fun h => match m h with
  | .ok a h' => f a h'
  | .exc e h' => .exc e h'
  | .fail => .fail
/-- a pure answer, or none -/
def opt (o : Option α) : M α := fun h => match o with
  | some a => .ok a h
  | none => .fail
/-- something read off the objects -/
def rdH (f : LH → Option α) : M α := fun h => match f h with
  | some a => .ok a h
  | none => .fail
/-- the objects changed -/
def wrH (f : LH → Option LH) : M Unit := fun h => match f h with
  | some h' => .ok () h'
  | none => .fail
def neu (o : LO) : M T := fun h => .ok (.ref h.length) (h ++ [o])
def guardM (b : Bool) : M Unit := fun h => if b = true then .ok () h else .fail
end

/-! ### reading and writing -/
def getO (h : LH) (l : Nat) : Option LO := h[l]?
/-- a list's items -/
def LO.items : LO → Option (List T)
  | .lst xs => some xs
  | .rol xs => some xs
  | _ => none
/-- a list's or a tuple's items -/
def seqOf (h : LH) : T → Option (List T)
  | .tup xs => some xs
  | .kt xs => some xs
  | .ref l => (h[l]?).bind LO.items
  | _ => none
def lstOf (h : LH) : T → Option (List T)
  | .ref l => (h[l]?).bind LO.items
  | _ => none
def LO.wlist : LO → Option (List T)
  | .lst xs => some xs
  | _ => none
/-- a list that may be written -/
def wlstOf (h : LH) : T → Option (List T)
  | .ref l => (h[l]?).bind LO.wlist
  | _ => none
def keyOf : T → Option Key
  | .int i => some (.inl i)
  | .str x => some (.inr x)
  | _ => none
def keysOf : List T → Option (List Key)
  | [] => some []
  | t :: ts => match keyOf t, keysOf ts with
    | some k, some ks => some (k :: ks)
    | _, _ => none
def tOfKey : Key → T
  | .inl i => .int i
  | .inr x => .str x
section
variable {κ : Type} [DecidableEq κ]
def kget (kvs : List (κ × T)) (k : κ) : Option T := (kvs.find? fun kv => decide (kv.1 = k)).map (·.2)
def kput (kvs : List (κ × T)) (k : κ) (v : T) : List (κ × T) := if (kvs.any fun kv => decide (kv.1 = k)) = true then kvs.map fun kv => if kv.1 = k then (kv.1, v) else kv else kvs ++ [(k, v)]
def kdrop (kvs : List (κ × T)) (k : κ) : List (κ × T) := kvs.filter fun kv => decide (kv.1 ≠ k)
end
/-- d[k], as far as it is there -/
def dgetO (o : LO) (k : T) : Option (Option T) := match o, k with
  | .dK kvs, k => (keyOf k).map fun k => kget kvs k
  | .lkK kvs, k => (keyOf k).map fun k => kget kvs k
  | .dT kvs, .tup ks => (keysOf ks).map fun k => kget kvs k
  | .lkT kvs, .tup ks => (keysOf ks).map fun k => kget kvs k
  | _, _ => none
def dputO (o : LO) (k v : T) : Option LO := match o, k with
  | .dK kvs, k => match keyOf k with
    | some k => if kvs.length < 1000000 then some (.dK (kput kvs k v)) else none
    | none => none
  | .dT kvs, .tup ks => match keysOf ks with
    | some k => if kvs.length < 1000000 then some (.dT (kput kvs k v)) else none
    | none => none
  | _, _ => none
def getF (fs : List (Str × T)) (f : Str) : Option T := fs.lookup f
def putF (f : Str) (v : T) : List (Str × T) → List (Str × T)
  | [] => [(f, v)]
  | (g, u) :: r => if g = f then (f, v) :: r else (g, u) :: putF f v r
/-- data, for == -/
def allO {α : Type} : List (Option α) → Option (List α)
  | [] => some []
  | some a :: r => (allO r).map (a :: ·)
  | none :: _ => none
/-- data through lists and tuples, n deep -/
def datH (h : LH) : Nat → T → Option PyData
  | _, .non => some .none
  | _, .bl b => some (.bool b)
  | _, .int i => some (.int i)
  | _, .str x => if PyData.strOk x = true then some (.str x) else none
  | n + 1, .tup xs => (allO (xs.map (datH h n))).map PyData.tuple
  | n + 1, .kt xs => (allO (xs.map (datH h n))).map PyData.tuple
  | n + 1, .ref l => match (h[l]?).bind LO.items with
    | some xs => (allO (xs.map (datH h n))).map PyData.list
    | none => none
  | _, _ => none

/-! ### operators -/
def mulOk (a b : Int) : Bool := decide ((-(2 ^ 64) < a ∧ a < 2 ^ 64) ∨ (-(2 ^ 64) < b ∧ b < 2 ^ 64))
def divOk (b : Int) : Bool := decide (0 < b) && decide (b.natAbs.log2 < 9000)
def powOk (a b : Int) : Bool := decide (0 ≤ b ∧ b ≤ 1000000 ∧ a.natAbs < 2 ^ 64)
def big : Nat := 1000000
def intsOf : List T → Option (List Int)
  | [] => some []
  | .int i :: r => (intsOf r).map (i :: ·)
  | _ => none
def strsOf : List T → Option (List Str)
  | [] => some []
  | .str i :: r => (strsOf r).map (i :: ·)
  | _ => none
def binI : Operator → Int → Int → Option T
  | .Add, a, b => some (.int (a + b))
  | .Sub, a, b => some (.int (a - b))
  | .Mult, a, b => if mulOk a b = true then some (.int (a * b)) else none
  | .FloorDiv, a, b => if divOk b = true then some (.int (a / b)) else none
  | .Mod, a, b => if 0 < b then some (.int (a % b)) else none
  | .Pow, a, b => if powOk a b = true then some (.int (a ^ b.toNat)) else none
  | .LShift, a, b => if powOk a b = true then some (.int (a * 2 ^ b.toNat)) else none
  | .RShift, a, b => if 0 ≤ b then some (.int (a / 2 ^ b.toNat)) else none
  | .BitAnd, a, b => if 0 ≤ a ∧ 0 ≤ b then some (.int ((a.toNat &&& b.toNat : Nat) : Int)) else none
  | _, _, _ => none
def binOp (o : Operator) (a b : T) : M T := fun h => match a, b with
  | .int x, .int y => opt (binI o x y) h
  | .str x, .str y => if o = .Add ∧ x.length + y.length ≤ big then .ok (.str (x ++ y)) h else .fail
  | .tup xs, .tup ys => if o = .Add ∧ xs.length + ys.length ≤ big then .ok (.tup (xs ++ ys)) h else .fail
  | .ref l, .ref k => match wlstOf h (.ref l), wlstOf h (.ref k) with
    | some xs, some ys => if o = .Add ∧ xs.length + ys.length ≤ big then neu (.lst (xs ++ ys)) h else .fail
    | _, _ => .fail
  | .ref l, .int n => match wlstOf h (.ref l) with
    | some xs => if o = .Mult ∧ n ≤ big ∧ -(big : Int) ≤ n ∧ xs.length * n.toNat ≤ big then neu (.lst (List.replicate n.toNat xs).flatten) h else .fail
    | none => .fail
  | .tup xs, .int n => if o = .Mult ∧ xs ≠ [] ∧ 0 ≤ n ∧ n ≤ 1000 ∧ xs.length ≤ 1000 then .ok (.tup (List.replicate n.toNat xs).flatten) h else .fail
  | _, _ => .fail
def cmpTT : CmpOp → List Int → List Int → Option Bool
  | .Lt, a, b => some (HT.lexLt a b)
  | .LtE, a, b => some (L2.lexLeI a b)
  | _, _, _ => none
def cmpI : CmpOp → Int → Int → Option Bool
  | .Lt, a, b => some (decide (a < b))
  | .LtE, a, b => some (decide (a ≤ b))
  | .Gt, a, b => some (decide (b < a))
  | .GtE, a, b => some (decide (b ≤ a))
  | _, _, _ => none
def cmpO (o : CmpOp) (a b : T) : Option Bool := match a, b with
  | .int x, .int y => cmpI o x y
  | .tup xs, .tup ys => match intsOf xs, intsOf ys with
    | some ns, some ms => cmpTT o ns ms
    | _, _ => none
  | _, _ => none
/-- kinds that == and in take as they are -/
def flatT : T → Bool
  | .non => true
  | .bl _ => true
  | .int _ => true
  | .str _ => true
  | _ => false
def eqFlat : T → T → Bool
  | .int a, .int b => a == b
  | .int a, .bl b => a == (if b then 1 else 0)
  | .bl a, .int b => (if a then 1 else 0) == b
  | .bl a, .bl b => a == b
  | .str a, .str b => a == b
  | .non, .non => true
  | _, _ => false
def inSeq (x : T) (xs : List T) : Bool := xs.any fun y => eqFlat y x
def signIn (x z : Str) : Option Bool := if x.length = 1 ∧ z.length ≤ big then some (decide (x.cps.getD 0 0 ∈ z.cps.toList)) else none
def eqH (h : LH) (a b : T) : Option Bool := match datH h 8 a, datH h 8 b with
  | some d, some e => some (PyData.eqv d e)
  | _, _ => none
/-- a tuple in a list, by data -/
def inTup (h : LH) (l : Nat) : T → Option Bool
  | .tup as => match datH h 8 (.tup as), datH h 8 (.ref l) with
    | some d, some (.list ds) => some (ds.any fun z => PyData.eqv z d)
    | _, _ => none
  | _ => none
def inH (h : LH) (a b : T) : Option Bool := match a, b with
  | .str x, .str z => signIn x z
  | a, .tup xs => if flatT a = true ∧ xs.all flatT = true then some (inSeq a xs) else none
  | a, .kt xs => if flatT a = true ∧ xs.all flatT = true then some (inSeq a xs) else none
  | a, .ref l => match h[l]? with
    | some o => match o.items with
      | some xs => if flatT a = true ∧ xs.all flatT = true then some (inSeq a xs) else inTup h l a
      | none => (dgetO o a).map (·.isSome)
    | none => none
  | _, _ => none
def cmpOp (o : CmpOp) (a b : T) : M Bool := fun h => match o with
  | .Eq => opt (eqH h a b) h
  | .NotEq => opt ((eqH h a b).map (!·)) h
  | .Is => match b with
    | .non => .ok (decide (a = .non)) h
    | _ => .fail
  | .IsNot => match b with
    | .non => .ok (!decide (a = .non)) h
    | _ => .fail
  | .In => opt (inH h a b) h
  | .NotIn => opt ((inH h a b).map (!·)) h
  | o => opt (cmpO o a b) h
def truH (h : LH) : T → Option Bool
  | .non => some false
  | .bl b => some b
  | .int i => some (i != 0)
  | .str x => if x.length ≤ big then some (x.length != 0) else none
  | .tup xs => some (!xs.isEmpty)
  | .kt xs => some (!xs.isEmpty)
  | .ref l => match h[l]? with
    | some (.lst xs) => some (!xs.isEmpty)
    | some (.rol xs) => some (!xs.isEmpty)
    | some (.dK kvs) => some (!kvs.isEmpty)
    | _ => none
  | _ => none
def tru (t : T) : M Bool := rdH fun h => truH h t

/-! ### subscripts -/
def atN (n : Nat) (i : Int) : Option Nat := if 0 ≤ i then (if i < n then some i.toNat else none) else if -(n : Int) ≤ i then some (i + n).toNat else none
def atT (xs : List T) (i : Int) : Option T := (atN xs.length i).bind fun j => xs[j]?
def atV (xs : List T) : T → Option T
  | .int i => atT xs i
  | _ => none
def ixO (o : LO) (b : T) : Option T := match o.items with
  | some xs => atV xs b
  | none => (dgetO o b).bind id
def ixS (x : Str) : T → Option T
  | .int i => if x.length ≤ big then ((atN x.cps.toList.length i).bind fun j => x.cps.toList[j]?).map fun c => .str ⟨#[c]⟩ else none
  | _ => none
def ixH (h : LH) (a b : T) : Option T := match a with
  | .tup xs => atV xs b
  | .kt xs => atV xs b
  | .str x => ixS x b
  | .ref l => match h[l]? with
    | some o => ixO o b
    | none => none
  | _ => none
def ixT (a b : T) : M T := rdH fun h => ixH h a b
def setIx (a b v : T) : M Unit := wrH fun h => match a with
  | .ref l => match h[l]? with
    | some (.lst xs) => match b with
      | .int i => (atN xs.length i).map fun j => h.set l (.lst (xs.set j v))
      | _ => none
    | some o => (dputO o b v).map fun o' => h.set l o'
    | none => none
  | _ => none
def cutT (xs : List T) (lo hi : Option Int) : List T := (xs.drop (HT.sIx xs.length 0 lo)).take (HT.sIx xs.length xs.length hi - HT.sIx xs.length 0 lo)
def slT (a : T) (lo hi : Option Int) : M T := fun h => match a with
  | .tup xs => .ok (.tup (cutT xs lo hi)) h
  | .str z => if z.length ≤ big then .ok (.str (L2.cutS z lo hi)) h else .fail
  | .ref l => match lstOf h (.ref l) with
    | some xs => neu (.lst (cutT xs lo hi)) h
    | none => .fail
  | _ => .fail
def partT : T → Option Int
  | .int i => some i
  | _ => none

/-- built-in functions, built-in methods, kinds -/
inductive BF where
  | len | abs | max2 | min2 | int | sum | all | any | list | tuple
  | listD | dictD | sorted | str | minL | maxL
  deriving DecidableEq
inductive BM where
  | append | clear | pop | extend
  /- of dicts -/
  | dupd | dget | dpop | dclear
  /- of texts -/
  | sjoin
  /- more of lists, of texts -/
  | popi | lindex | sstrip | supper | sindex
  deriving DecidableEq
inductive Ty where
  | none | bool | int | str | tuple | list | dict
  deriving DecidableEq
inductive Kd where
  | ty (t : Ty) | cls (c : Str)
  deriving DecidableEq
/-! ### the text -/
mutual
inductive E where
  | var (i : Nat) | cst (t : T) | glo (x : Str) (t : T)
  | tup (es : Es) | lst (es : Es) | dic (ps : Ps) | dict0 (tk : Bool)
  | bin (o : Operator) (a b : E) | neg (a : E) | cmp (o : CmpOp) (a b : E) | chain (o1 o2 : CmpOp) (a b c : E)
  | and2 (a b : E) | or2 (a b : E) | not (a : E) | ite (c a b : E)
  | fld (a : E) (f : Str) | ix (a b : E) | slc (a : E) (lo hi : Eo)
  | call (f : Str) (args : Es) (ks : Ks) | new (c : Str) (args : Es) (ks : Ks) | meth (a : E) (m : Str) (args : Es) (ks : Ks)
  | bi (f : BF) (args : Es) | bm (a : E) (m : BM) (args : Es) | isi (a : E) (cs : List Kd) (tp : Bool)
  | lc (g : G) (src : I) (c : Eo) (e : E) (own : List (Str × Nat))
  | lrg1 (tp : Bool) (a : E) | lrg2 (tp : Bool) (a b : E)
  | lockE (d : E) (e : E)
  | lzip (a b : E) | lc2 (g : G) (src : I) (g1 : G) (src1 : I) (e : E) (own : List (Str × Nat)) (vs1 : List Nat)
  | maxd (a d : E) | revE (a : E)
  /- of instances -/
  | olen (args : Es) | oeq (ne : Bool) (a b : E)
  | nev
inductive Es where
  | nil | cons (e : E) (es : Es)
inductive Ps where
  | nil | cons (k v : E) (ps : Ps)
inductive Ks where
  | nil | cons (k : Str) (e : E) (ks : Ks)
inductive Eo where
  | no | yes (e : E)
/-- what is walked -/
inductive I where
  | seq (e : E) | rng1 (a : E) | rng2 (a b : E) | enum (e : E) | zip (a b : E)
  | dkeys (m : Bool) (e : E) | dvals (e : E) | ditms (e : E) | zipS (a b : E) | sgn (e : E) | zipN (a b : E)
inductive G where
  | name (i : Nat) | tup (gs : Gs)
inductive Gs where
  | nil | cons (g : G) (gs : Gs)
end
/-- targets with a star at the end -/
inductive GM where
  | g (g : G) | star (gs : Gs) (i : Nat) | pair (g : G) (m : GM)
/-- targets of assignments -/
inductive Tg where
  | g (g : G) | fld (a : E) (f : Str) | ix (a b : E)
mutual
inductive S where
  | asg (t : Tg) (e : E) | aug (t : Tg) (o : Operator) (e : E) | expr (e : E) | retE (e : E) | ret0
  | ifS (c : E) (a b : Ss) | forS (g : G) (src : I) (body : Ss) | whileS (c : E) (body : Ss)
  | pass | brk | cont | doc | nev
  | lockS (d : E) (s : S)
  | asgM (m : GM) (e : E) | forM (m : GM) (src : I) (body : Ss)
inductive Ss where
  | nil | cons (s : S) (ss : Ss)
end

/-! ### how it runs -/
abbrev En := List (Option T)
abbrev CallE := Str × Option Str → List T → List (Str × T) → M T
/-- what calls do, which new fields a class's instances may have -/
structure Pm where
  call : CallE
  okF : Str → Str → Bool
  has : Str × Option Str → Bool
  cls : List Str
  nes : List Str
def ksN : Ks → List Str
  | .nil => []
  | .cons k _ ks => k :: ksN ks
def esLen : Es → Nat
  | .nil => 0
  | .cons _ es => esLen es + 1
def getV (s : En) (i : Nat) : M T := opt ((s[i]?).bind id)
def dicPut (kvs : List (Key × T)) : List (T × T) → Option (List (Key × T))
  | [] => some kvs
  | (k, v) :: ps => match keyOf k with
    | some k => dicPut (kput kvs k v) ps
    | none => none
def dicOf (p : List (T × T)) : Option (List (Key × T)) := if p.length ≤ 15 then dicPut [] p else none
mutual
def asgG : G → T → En → Option En
  | .name i, v, s => some (s.set i (some v))
  | .tup gs, .tup xs, s => asgGs gs xs s
  | .tup gs, .kt xs, s => asgGs gs xs s
  | .tup _, _, _ => none
def asgGs : Gs → List T → En → Option En
  | .nil, [], s => some s
  | .cons g gs, x :: xs, s => match asgG g x s with
    | some s' => asgGs gs xs s'
    | none => none
  | _, _, _ => none
end
def gsLen : Gs → Nat
  | .nil => 0
  | .cons _ gs => gsLen gs + 1
def tupOf : T → Option (List T)
  | .tup xs => some xs
  | .kt xs => some xs
  | _ => none
def asgM : GM → T → En → M En
  | .g g, v, s => opt (asgG g v s)
  | .star gs i, v, s => match tupOf v with
    | some xs => if gsLen gs ≤ xs.length ∧ xs.length ≤ 10000 then bnd (opt (asgGs gs (xs.take (gsLen gs)) s)) fun s1 => bnd (neu (.lst (xs.drop (gsLen gs)))) fun t => ret (s1.set i (some t)) else fl
    | none => fl
  | .pair g m, v, s => match tupOf v with
    | some [x, y] => bnd (opt (asgG g x s)) fun s1 => asgM m y s1
    | _ => fl
def wipeN (s : En) : List Nat → En
  | [] => s
  | v :: vs => (wipeN s vs).set v none
/-- objects that must stand as they were while they are walked -/
abbrev Gd := List (Nat × LO)
def gdOk (h : LH) (gd : Gd) : Bool := gd.all fun p => decide (h[p.1]? = some p.2)
/-- nothing may be raised -/
def nox {α : Type} (m : M α) : M α := fun h => match m h with
  | .exc _ _ => .fail
  | r => r
/-- a comprehension's turns -/
def lcGo (gd : Gd) (tgt : T → En → Option En) (tst : En → M Bool) (elt : En → M T) : List T → En → M (List T)
  | [], _ => bnd (rdH fun h => if gdOk h gd = true then some () else none) fun _ => ret []
  | t :: ts, s => bnd (rdH fun h => if gdOk h gd = true then tgt t s else none) fun s1 => bnd (nox (tst s1)) fun b =>
    if b = true then bnd (nox (elt s1)) fun x => bnd (lcGo gd tgt tst elt ts s) fun xs => ret (x :: xs) else lcGo gd tgt tst elt ts s
/-- two for -/
def lc2Go (gd : Gd) (tgt : T → En → Option En) (inn : En → M (List T)) : List T → En → M (List T)
  | [], _ => bnd (rdH fun h => if gdOk h gd = true then some () else none) fun _ => ret []
  | t :: ts, s => bnd (rdH fun h => if gdOk h gd = true then tgt t s else none) fun s1 => bnd (inn s1) fun ys => bnd (lc2Go gd tgt inn ts s) fun xs => ret (ys ++ xs)
/-- what is done to a dict under a lock -/
def unlk {α : Type} (l : Nat) (lk o : LO) : Res α → Res α
  | .ok a h => if h[l]? = some lk then .ok a (h.set l o) else .fail
  | _ => .fail
def lkOf : LO → Option LO
  | .dK kvs => some (.lkK kvs)
  | .dT kvs => some (.lkT kvs)
  | _ => none
def lockM {α : Type} (m : M T) (r : M α) : M α := fun h => match m h with
  | .ok (.ref l) _ => match h[l]? with
    | some o => match lkOf o with
      | some lk => unlk l lk o (r (h.set l lk))
      | none => .fail
    | none => .fail
  | _ => .fail
/-- built-in functions by values -/
def blsOf : List T → Option (List Bool)
  | [] => some []
  | .bl b :: r => (blsOf r).map (b :: ·)
  | _ => none
def maxI : List Int → Int
  | [] => 0
  | a :: r => r.foldl (fun m x => if x > m then x else m) a
def intOf : T → Option Int
  | .int i => some i
  | _ => none
/-- max(xs, default=d) -/
def maxM (t u : T) : M T := fun h => opt (((lstOf h t).bind intsOf).bind fun ns => (intOf u).map fun i => T.int (if ns = [] then i else maxI ns)) h
/-- xs[::-1] -/
def revM (t : T) : M T := fun h => match lstOf h t with
  | some xs => neu (.lst xs.reverse) h
  | none => .fail
def minI : List Int → Int
  | [] => 0
  | a :: r => r.foldl (fun m x => if x < m then x else m) a
def lenH (h : LH) : T → Option Nat
  | .tup xs => some xs.length
  | .kt xs => some xs.length
  | .str x => if x.length ≤ big then some x.length else none
  | .ref l => match h[l]? with
    | some (.lst xs) => some xs.length
    | some (.rol xs) => some xs.length
    | some (.dK kvs) => some kvs.length
    | _ => none
  | _ => none
/-- an open dict's entries -/
def dkAt (h : LH) : T → Option (List (Key × T))
  | .ref l => match h[l]? with
    | some (.dK kvs) => some kvs
    | _ => none
  | _ => none
/-- sorted(..) -/
def sortT (xs : List T) : Option (List T) := match intsOf xs with
  | some ns => some ((sortI ns).map T.int)
  | none => match strsOf xs with
    | some ss => if ss.length < 64 then some ((sortS ss).map T.str) else none
    | none => none
def biF (f : BF) (ts : List T) : M T := fun h => match f, ts with
  | .len, [t] => opt ((lenH h t).map fun (n : Nat) => T.int (n : Int)) h
  | .abs, [.int i] => .ok (.int (if i < 0 then -i else i)) h
  | .max2, [.int i, .int j] => .ok (.int (if j > i then j else i)) h
  | .min2, [.int i, .int j] => .ok (.int (if j < i then j else i)) h
  | .int, [.int i] => .ok (.int i) h
  | .int, [.bl b] => .ok (.int (if b then 1 else 0)) h
  | .sum, [t] => opt (((lstOf h t).bind intsOf).map fun ns => .int ns.sum) h
  | .all, [t] => opt (((lstOf h t).bind blsOf).map fun bs => .bl (bs.all id)) h
  | .any, [t] => opt (((lstOf h t).bind blsOf).map fun bs => .bl (bs.any id)) h
  | .list, [t] => match seqOf h t with
    | some xs => neu (.lst xs) h
    | none => .fail
  | .tuple, [t] => match t with
    | .tup xs => .ok (.tup xs) h
    | .kt xs => .ok (.kt xs) h
    | t => opt ((lstOf h t).map .tup) h
  | .listD, [t] => match dkAt h t with
    | some kvs => neu (.lst (kvs.map fun kv => tOfKey kv.1)) h
    | none => .fail
  | .dictD, [t] => match dkAt h t with
    | some kvs => neu (.dK kvs) h
    | none => .fail
  | .sorted, [t] => match (lstOf h t).bind sortT with
    | some ys => neu (.lst ys) h
    | none => .fail
  | .str, [t] => match t with
    | .int i => if i.natAbs.log2 < 1920 then .ok (.str ((toString i : String) : Str)) h else .fail
    | .str x => .ok (.str x) h
    | _ => .fail
  | .minL, [t] => opt (((seqOf h t).bind intsOf).bind fun ns => if ns = [] then none else some (.int (minI ns))) h
  | .maxL, [t] => opt (((lstOf h t).bind intsOf).bind fun ns => if ns = [] then none else some (.int (maxI ns))) h
  | _, _ => .fail
/-- a dict that may be written -/
def isDic : LO → Bool
  | .dK _ => true
  | .dT _ => true
  | _ => false
def dicAt (h : LH) (a : T) : Option LO := match a with
  | .ref l => match h[l]? with
    | some o => if isDic o = true then some o else none
    | none => none
  | _ => none
def ddelO (o : LO) (k : T) : Option LO := match o, k with
  | .dK kvs, k => (keyOf k).map fun k => .dK (kdrop kvs k)
  | _, _ => none
def kupd (kvs more : List (Key × T)) : List (Key × T) := more.foldl (fun d kv => kput d kv.1 kv.2) kvs
/-- what the receiver must be ahead of the arguments -/
def bmK (m : BM) (h : LH) (a : T) : Option Unit := match m with
  | .append => (wlstOf h a).map fun _ => ()
  | .clear => (wlstOf h a).map fun _ => ()
  | .pop => (wlstOf h a).map fun _ => ()
  | .extend => (wlstOf h a).map fun _ => ()
  | .dupd => (dicAt h a).map fun _ => ()
  | .dget => (dicAt h a).map fun _ => ()
  | .dpop => (dicAt h a).map fun _ => ()
  | .dclear => (dicAt h a).map fun _ => ()
  | .sjoin => match a with
    | .str _ => some ()
    | _ => none
  | .popi => (wlstOf h a).map fun _ => ()
  | .lindex => (wlstOf h a).map fun _ => ()
  | .sstrip => match a with
    | .str _ => some ()
    | _ => none
  | .supper => match a with
    | .str _ => some ()
    | _ => none
  | .sindex => match a with
    | .str _ => some ()
    | _ => none
/-- where a list first has an equal one, by data -/
def dixH (h : LH) (t y : T) : Option T := match datH h 8 t, datH h 8 y with
  | some (.list ds), some d => (ds.findIdx? fun z => PyData.eqv z d).map fun (j : Nat) => T.int (j : Int)
  | _, _ => none
def bmF (m : BM) (a : T) (ts : List T) : M T := fun h => match a with
  | .ref l => match dicAt h (.ref l) with
    | some o => match m, ts with
      | .dget, [k] => match dgetO o k with
        | some v => .ok (v.getD .non) h
        | none => .fail
      | .dget, [k, x] => match dgetO o k with
        | some v => .ok (v.getD x) h
        | none => .fail
      | .dpop, [k] => match dgetO o k, ddelO o k with
        | some (some v), some o' => .ok v (h.set l o')
        | _, _ => .fail
      | .dupd, [.ref k] => match o, h[k]? with
        | .dK kvs, some (.dK more) => if l ≠ k ∧ kvs.length + more.length ≤ big then .ok .non (h.set l (.dK (kupd kvs more))) else .fail
        | _, _ => .fail
      | .dclear, [] => match o with
        | .dK _ => .ok .non (h.set l (.dK []))
        | _ => .fail
      | _, _ => .fail
    | none => match wlstOf h (.ref l) with
    | some xs => match m, ts with
      | .append, [x] => if xs.length < big then .ok .non (h.set l (.lst (xs ++ [x]))) else .fail
      | .clear, [] => .ok .non (h.set l (.lst []))
      | .pop, [] => match xs[xs.length - 1]? with
        | some y => .ok y (h.set l (.lst xs.dropLast))
        | none => .fail
      | .extend, [x] => match wlstOf h x with
        | some ys => if xs.length + ys.length ≤ big then .ok .non (h.set l (.lst (xs ++ ys))) else .fail
        | none => .fail
      | .popi, [.int i] => match atN xs.length i with
        | some j => match xs[j]? with
          | some y => if -(2 ^ 63) ≤ i ∧ i < 2 ^ 63 then .ok y (h.set l (.lst (xs.eraseIdx j))) else .fail
          | none => .fail
        | none => .fail
      | .lindex, [y] => if flatT y = true ∧ xs.all flatT = true then opt ((xs.findIdx? fun x => eqFlat x y).map fun (j : Nat) => T.int (j : Int)) h else opt (dixH h (.ref l) y) h
      | _, _ => .fail
    | none => .fail
  | .str x => match m, ts with
    | .sjoin, [t] => match (seqOf h t).bind strsOf with
      | some ys => if (ys.map (·.length)).sum + ys.length * x.length ≤ big then .ok (.str (Txt.join x ys)) h else .fail
      | none => .fail
    | .sstrip, [.str y] => if x.length ≤ big then .ok (.str (Txt.stripChars x y)) h else .fail
    | .supper, [] => if x.length ≤ big then .ok (.str (Txt.upper x)) h else .fail
    | .sindex, [.str y] => opt ((Txt.index0 x y).map fun (j : Nat) => T.int (j : Int)) h
    | _, _ => .fail
  | _ => .fail
/-- the class of a value -/
def tyOf (h : LH) : T → Option Kd
  | .non => some (.ty .none)
  | .bl _ => some (.ty .bool)
  | .int _ => some (.ty .int)
  | .str _ => some (.ty .str)
  | .tup _ => some (.ty .tuple)
  | .kt _ => some (.ty .tuple)
  | .ref l => match h[l]? with
    | some (.lst _) => some (.ty .list)
    | some (.dK _) => some (.ty .dict)
    | some (.dT _) => some (.ty .dict)
    | some (.ins c _) => some (.cls c)
    | _ => none
  | _ => none
/-- isinstance, for one class -/
def isiOne (t c : Kd) : Bool := decide (t = c) || (decide (t = .ty .bool) && decide (c = .ty .int))
def kdIn (cls : List Str) : Kd → Bool
  | .ty _ => true
  | .cls c => decide (c ∈ cls)
def isiH (cls : List Str) (h : LH) (t : T) (cs : List Kd) : Option Bool := (tyOf h t).bind fun k => if kdIn cls k = true then some (cs.any (isiOne k)) else none
/-- an instance's class, where it has a method -/
def mcls (has : Str × Option Str → Bool) (h : LH) (t : T) (m : Str) : Option Str := match t with
  | .ref l => match h[l]? with
    | some (.ins c fs) => if (getF fs m).isNone = true ∧ has (c, some m) = true then some c else none
    | _ => none
  | _ => none
def fldT (a : T) (f : Str) : M T := rdH fun h => match a with
  | .ref l => match h[l]? with
    | some (.ins _ fs) => getF fs f
    | _ => none
  | _ => none
def setFld (okF : Str → Str → Bool) (a : T) (f : Str) (v : T) : M Unit := wrH fun h => match a with
  | .ref l => match h[l]? with
    | some (.ins c fs) => if fs.length < 900 ∧ ((getF fs f).isSome = true ∨ okF c f = true) then some (h.set l (.ins c (putF f v fs))) else none
    | _ => none
  | _ => none
def rngT (lo : Int) (n : Nat) : List T := (List.range n).map fun (i : Nat) => T.int (lo + (i : Int))
def rngOk (a : Int) : Bool := decide (-(2 ^ 60) ≤ a ∧ a < 2 ^ 60)
def lrgT (tp : Bool) (i j : Int) : M T := if rngOk i = true ∧ rngOk j = true ∧ (j - i).toNat ≤ big then (if tp = true then ret (.tup (rngT i (j - i).toNat)) else neu (.lst (rngT i (j - i).toNat))) else fl
/-- what a list, a tuple gives to walk, and what must stand -/
def walkT (t : T) : M (List T × Gd) := rdH fun h => match t with
  | .tup xs => some (xs, [])
  | .kt xs => some (xs, [])
  | .ref l => match h[l]? with
    | some o => o.items.map fun xs => (xs, [(l, o)])
    | none => none
  | _ => none
def lwalk (t : T) : M (List T × Gd) := rdH fun h => match t with
  | .ref l => match h[l]? with
    | some o => o.items.map fun xs => (xs, [(l, o)])
    | none => none
  | _ => none
/-- a locked dict's keys, values, pairs -/
def dkT (t : T) : M (List T × Gd) := rdH fun h => match t with
  | .ref l => match h[l]? with
    | some (.lkK kvs) => some (kvs.map fun kv => tOfKey kv.1, [(l, .lkK kvs)])
    | some (.lkT kvs) => some (kvs.map fun kv => .tup (kv.1.map tOfKey), [(l, .lkT kvs)])
    | _ => none
  | _ => none
def dvT (t : T) : M (List T × Gd) := rdH fun h => match t with
  | .ref l => match h[l]? with
    | some (.lkK kvs) => some (kvs.map fun kv => kv.2, [(l, .lkK kvs)])
    | _ => none
  | _ => none
def diT (t : T) : M (List T × Gd) := rdH fun h => match t with
  | .ref l => match h[l]? with
    | some (.lkK kvs) => some (kvs.map fun kv => .tup [tOfKey kv.1, kv.2], [(l, .lkK kvs)])
    | _ => none
  | _ => none
def enumT (k : Nat) : List T → List T
  | [] => []
  | x :: xs => .tup [.int k, x] :: enumT (k + 1) xs
def zipT : List T → List T → List T
  | x :: xs, y :: ys => .tup [x, y] :: zipT xs ys
  | _, _ => []

/-- zip of two tuples, of two lists, of one length -/
def zipM (x y : T) : M (List T × Gd) := match tupOf x, tupOf y with
  | some xs, some ys => if xs.length = ys.length then ret (zipT xs ys, []) else fl
  | _, _ => bnd (lwalk x) fun p => bnd (lwalk y) fun q => if p.1.length = q.1.length then ret (zipT p.1 q.1, p.2 ++ q.2) else fl
/-- zip of two tuples, of two lists, of any lengths -/
def zipU (x y : T) : M (List T × Gd) := match tupOf x, tupOf y with
  | some xs, some ys => ret (zipT xs ys, [])
  | _, _ => bnd (lwalk x) fun p => bnd (lwalk y) fun q => ret (zipT p.1 q.1, p.2 ++ q.2)
/-- a text's signs -/
def sgnT (z : Str) : List T := z.cps.toList.map fun c => T.str ⟨#[c]⟩
/-- the class of two instances that are compared by their own ==; != by it, where that is known -/
def eqcls (has : Str × Option Str → Bool) (nes : List Str) (ne : Bool) (h : LH) (x y : T) : Option Str := match x, y with
  | .ref l, .ref k => match h[l]?, h[k]? with
    | some (.ins c _), some (.ins c' _) => if c = c' ∧ has (c, some "__eq__") = true ∧ (ne = false ∨ c ∈ nes) then some c else none
    | _, _ => none
  | _, _ => none
def ownEq (Φ : Pm) (ne : Bool) (x y : T) : M Bool := bnd (rdH fun h => eqcls Φ.has Φ.nes ne h x y) fun c => bnd (Φ.call (c, some "__eq__") [x, y] []) fun v => match v with
  | .bl k => ret (if ne = true then !k else k)
  | _ => fl
def ownLen (Φ : Pm) (ts : List T) : M T := match ts with
  | [x] => bnd (rdH fun h => mcls Φ.has h x "__len__") fun c => bnd (Φ.call (c, some "__len__") [x] []) fun v => match v with
    | .int i => if 0 ≤ i ∧ i < 2 ^ 63 then ret (.int i) else fl
    | _ => fl
  | _ => fl
section
variable (Φ : Pm)
mutual
def ev : E → En → M T
  | .var i, s => getV s i
  | .cst t, _ => ret t
  | .glo _ t, _ => ret t
  | .tup es, s => bnd (evs es s) fun xs => if xs.length ≤ big then ret (.tup xs) else fl
  | .lst es, s => bnd (evs es s) fun xs => if xs.length ≤ big then neu (.lst xs) else fl
  | .dic ps, s => bnd (evKV ps s) fun p => match dicOf p with
    | some kvs => neu (.dK kvs)
    | none => fl
  | .dict0 tk, _ => neu (if tk = true then .dT [] else .dK [])
  | .bin o a b, s => bnd (ev a s) fun x => bnd (ev b s) fun y => binOp o x y
  | .neg a, s => bnd (ev a s) fun x => match x with
    | .int i => ret (.int (-i))
    | _ => fl
  | .cmp o a b, s => bnd (ev a s) fun x => bnd (ev b s) fun y => bnd (cmpOp o x y) fun c => ret (.bl c)
  | .chain o1 o2 a b c, s => bnd (ev a s) fun x => bnd (ev b s) fun y => bnd (cmpOp o1 x y) fun k => if k = true then bnd (ev c s) fun z => bnd (cmpOp o2 y z) fun j => ret (.bl j) else ret (.bl false)
  | .and2 a b, s => bnd (ev a s) fun x => bnd (tru x) fun k => if k = true then ev b s else ret x
  | .or2 a b, s => bnd (ev a s) fun x => bnd (tru x) fun k => if k = true then ret x else ev b s
  | .not a, s => bnd (ev a s) fun x => bnd (tru x) fun k => ret (.bl (!k))
  | .ite c a b, s => bnd (evB c s) fun k => if k = true then ev a s else ev b s
  | .fld a f, s => bnd (ev a s) fun x => fldT x f
  | .ix a b, s => bnd (ev a s) fun x => bnd (ev b s) fun y => ixT x y
  | .slc a lo hi, s => bnd (ev a s) fun x => bnd (evP lo s) fun l => bnd (evP hi s) fun u => slT x l u
  | .call f args ks, s => bnd (evs args s) fun xs => bnd (evK ks s) fun zs => Φ.call (f, none) xs ((ksN ks).zip zs)
  | .new c args ks, s => bnd (evs args s) fun xs => bnd (evK ks s) fun zs => bnd (neu (.ins c [])) fun x => bnd (Φ.call (c, some "__init__") (x :: xs) ((ksN ks).zip zs)) fun v => if v = .non then ret x else fl
  | .meth a m args ks, s => bnd (ev a s) fun x => bnd (rdH fun h => mcls Φ.has h x m) fun c => bnd (evs args s) fun xs => bnd (evK ks s) fun zs => Φ.call (c, some m) (x :: xs) ((ksN ks).zip zs)
  | .bi f args, s => bnd (evs args s) fun xs => biF f xs
  | .bm a m args, s => bnd (ev a s) fun x => bnd (rdH fun h => bmK m h x) fun _ => bnd (evs args s) fun xs => bmF m x xs
  | .isi a cs _, s => bnd (ev a s) fun x => bnd (rdH fun h => isiH Φ.cls h x cs) fun b => ret (.bl b)
  | .lc g src c e own, s => bnd (evI src s) fun p => bnd (lcGo p.2 (asgG g) (evC c) (ev e) p.1 (wipeN s (own.map (·.2)))) fun xs => if xs.length ≤ big then neu (.lst xs) else fl
  | .lrg1 tp a, s => bnd (ev a s) fun x => match x with
    | .int j => lrgT tp 0 j
    | _ => fl
  | .lrg2 tp a b, s => bnd (ev a s) fun x => bnd (ev b s) fun y => match x, y with
    | .int i, .int j => lrgT tp i j
    | _, _ => fl
  | .lockE d e, s => lockM (ev d s) (ev e s)
  | .lzip a b, s => bnd (ev a s) fun x => bnd (ev b s) fun y => bnd (zipM x y) fun p => if p.1.length ≤ big then neu (.lst p.1) else fl
  | .lc2 g src g1 src1 e own vs1, s => bnd (evI src s) fun p => bnd (lc2Go p.2 (asgG g) (fun s1 => bnd (nox (evI src1 s1)) fun p1 => lcGo p1.2 (asgG g1) (fun _ => ret true) (ev e) p1.1 (wipeN s1 vs1)) p.1 (wipeN s (own.map (·.2)))) fun xs => if xs.length ≤ big then neu (.lst xs) else fl
  | .maxd a d, s => bnd (ev a s) fun x => bnd (ev d s) fun y => maxM x y
  | .revE a, s => bnd (ev a s) revM
  | .olen args, s => bnd (evs args s) fun xs => ownLen Φ xs
  | .oeq ne a b, s => bnd (ev a s) fun x => bnd (ev b s) fun y => bnd (ownEq Φ ne x y) fun c => ret (.bl c)
  | .nev, _ => fl
def evs : Es → En → M (List T)
  | .nil, _ => ret []
  | .cons e es, s => bnd (ev e s) fun x => bnd (evs es s) fun xs => ret (x :: xs)
def evK : Ks → En → M (List T)
  | .nil, _ => ret []
  | .cons _ e ks, s => bnd (ev e s) fun x => bnd (evK ks s) fun xs => ret (x :: xs)
def evKV : Ps → En → M (List (T × T))
  | .nil, _ => ret []
  | .cons k v ps, s => bnd (ev k s) fun x => bnd (ev v s) fun y => bnd (evKV ps s) fun p => ret ((x, y) :: p)
def evP : Eo → En → M (Option Int)
  | .no, _ => ret none
  | .yes e, s => bnd (ev e s) fun x => match partT x with
    | some i => ret (some i)
    | none => fl
def evC : Eo → En → M Bool
  | .no, _ => ret true
  | .yes e, s => evB e s
/-- a test -/
def evB : E → En → M Bool
  | .cmp o a b, s => bnd (ev a s) fun x => bnd (ev b s) fun y => cmpOp o x y
  | .chain o1 o2 a b c, s => bnd (ev a s) fun x => bnd (ev b s) fun y => bnd (cmpOp o1 x y) fun k => if k = true then bnd (ev c s) fun z => cmpOp o2 y z else ret false
  | .and2 a b, s => bnd (evB a s) fun k => if k = true then evB b s else ret false
  | .or2 a b, s => bnd (evB a s) fun k => if k = true then ret true else evB b s
  | .not a, s => bnd (evB a s) fun k => ret (!k)
  | .var i, s => bnd (getV s i) tru
  | .cst t, _ => tru t
  | .glo _ t, _ => tru t
  | .fld a f, s => bnd (bnd (ev a s) fun x => fldT x f) tru
  | .ix a b, s => bnd (bnd (ev a s) fun x => bnd (ev b s) fun y => ixT x y) tru
  | .call f args ks, s => bnd (bnd (evs args s) fun xs => bnd (evK ks s) fun zs => Φ.call (f, none) xs ((ksN ks).zip zs)) tru
  | .meth a m args ks, s => bnd (bnd (ev a s) fun x => bnd (rdH fun h => mcls Φ.has h x m) fun c => bnd (evs args s) fun xs => bnd (evK ks s) fun zs => Φ.call (c, some m) (x :: xs) ((ksN ks).zip zs)) tru
  | .bi f args, s => bnd (bnd (evs args s) fun xs => biF f xs) tru
  | .bm a m args, s => bnd (bnd (ev a s) fun x => bnd (rdH fun h => bmK m h x) fun _ => bnd (evs args s) fun xs => bmF m x xs) tru
  | .isi a cs _, s => bnd (ev a s) fun x => rdH fun h => isiH Φ.cls h x cs
  | .oeq ne a b, s => bnd (ev a s) fun x => bnd (ev b s) fun y => ownEq Φ ne x y
  | _, _ => fl
def evI : I → En → M (List T × Gd)
  | .seq e, s => bnd (ev e s) walkT
  | .rng1 a, s => bnd (ev a s) fun x => match x with
    | .int j => if rngOk j = true then ret (rngT 0 j.toNat, []) else fl
    | _ => fl
  | .rng2 a b, s => bnd (ev a s) fun x => bnd (ev b s) fun y => match x, y with
    | .int i, .int j => if rngOk i = true ∧ rngOk j = true then ret (rngT i (j - i).toNat, []) else fl
    | _, _ => fl
  | .dkeys _ e, s => bnd (ev e s) dkT
  | .dvals e, s => bnd (ev e s) dvT
  | .ditms e, s => bnd (ev e s) diT
  | .enum e, s => bnd (ev e s) fun x => bnd (walkT x) fun p => ret (enumT 0 p.1, p.2)
  | .zip a b, s => bnd (ev a s) fun x => bnd (ev b s) fun y => zipM x y
  | .zipS a b, s => bnd (ev a s) fun x => bnd (ev b s) fun y => zipM x y
  | .sgn e, s => bnd (ev e s) fun x => match x with
    | .str z => if z.length ≤ big then ret (sgnT z, []) else fl
    | _ => fl
  | .zipN a b, s => bnd (ev a s) fun x => bnd (ev b s) fun y => zipU x y
end

inductive Fl where
  | nx (s : En) | rt (t : T) | bk (s : En) | ct (s : En)
def asgT : Tg → T → En → M En
  | .g g, v, s => opt (asgG g v s)
  | .fld a f, v, s => bnd (ev Φ a s) fun x => bnd (setFld Φ.okF x f v) fun _ => ret s
  | .ix a b, v, s => bnd (ev Φ a s) fun x => bnd (ev Φ b s) fun y => bnd (setIx x y v) fun _ => ret s
/-- a for's turns -/
def forGo (gd : Gd) (g : G) (body : En → M Fl) : List T → En → M Fl
  | [], s => bnd (rdH fun h => if gdOk h gd = true then some () else none) fun _ => ret (.nx s)
  | t :: ts, s => bnd (rdH fun h => if gdOk h gd = true then asgG g t s else none) fun s1 => bnd (body s1) fun f => match f with
    | .nx s2 => forGo gd g body ts s2
    | .ct s2 => forGo gd g body ts s2
    | .bk s2 => ret (.nx s2)
    | .rt v => ret (.rt v)
/-- a for's turns, a star in its targets -/
def forGoM (gd : Gd) (m : GM) (body : En → M Fl) : List T → En → M Fl
  | [], s => bnd (rdH fun h => if gdOk h gd = true then some () else none) fun _ => ret (.nx s)
  | t :: ts, s => bnd (rdH fun h => if gdOk h gd = true then some () else none) fun _ => bnd (asgM m t s) fun s1 => bnd (body s1) fun f => match f with
    | .nx s2 => forGoM gd m body ts s2
    | .ct s2 => forGoM gd m body ts s2
    | .bk s2 => ret (.nx s2)
    | .rt v => ret (.rt v)
/-- a while's turns, n at most -/
def whileGo (c : En → M Bool) (body : En → M Fl) : Nat → En → M Fl
  | 0, _ => fl
  | n + 1, s => bnd (c s) fun k => if k = true then bnd (body s) fun f => match f with
    | .nx s2 => whileGo c body n s2
    | .ct s2 => whileGo c body n s2
    | .bk s2 => ret (.nx s2)
    | .rt v => ret (.rt v) else ret (.nx s)
mutual
def ex : S → En → M Fl
  | .asg t e, s => bnd (ev Φ e s) fun v => bnd (asgT Φ t v s) fun s' => ret (.nx s')
  | .aug (.g (.name i)) o e, s => bnd (getV s i) fun x => bnd (ev Φ e s) fun y => bnd (match x, y with
    | .int _, .int _ => binOp o x y
    | _, _ => fl) fun z => ret (.nx (s.set i (some z)))
  | .aug (.fld a f) o e, s => bnd (ev Φ a s) fun x => bnd (fldT x f) fun v => bnd (ev Φ e s) fun y => bnd (match v, y with
    | .int _, .int _ => binOp o v y
    | _, _ => fl) fun z => bnd (setFld Φ.okF x f z) fun _ => ret (.nx s)
  | .aug _ _ _, _ => fl
  | .expr e, s => bnd (ev Φ e s) fun _ => ret (.nx s)
  | .retE e, s => bnd (ev Φ e s) fun v => ret (.rt v)
  | .ret0, _ => ret (.rt .non)
  | .ifS c a b, s => bnd (evB Φ c s) fun k => if k = true then exs a s else exs b s
  | .forS g src body, s => bnd (evI Φ src s) fun p => forGo p.2 g (exs body) p.1 s
  | .whileS c body, s => whileGo (evB Φ c) (exs body) 100000 s
  | .pass, s => ret (.nx s)
  | .doc, s => ret (.nx s)
  | .brk, s => ret (.bk s)
  | .cont, s => ret (.ct s)
  | .nev, _ => fl
  | .lockS d st, s => lockM (ev Φ d s) (ex st s)
  | .asgM m e, s => bnd (ev Φ e s) fun v => bnd (asgM m v s) fun s' => ret (.nx s')
  | .forM m src body, s => bnd (evI Φ src s) fun p => forGoM p.2 m (exs body) p.1 s
def exs : Ss → En → M Fl
  | .nil, s => ret (.nx s)
  | .cons st ss, s => bnd (ex st s) fun f => match f with
    | .nx s' => exs ss s'
    | f => ret f
end
/-- a def's body -/
def body (ss : Ss) (n : Nat) (args : List T) : M T := bnd (exs Φ ss (args.map some ++ List.replicate (n - args.length) none)) fun f => match f with
  | .nx _ => ret .non
  | .rt v => ret v
  | _ => fl
end
/-! ### how arguments are bound -/
section
variable {α β : Type}
def addD : List (Str × α) → List (Str × α) → List (Str × α)
  | S, [] => S
  | S, p :: r => addD (if (S.lookup p.1).isNone = true then S ++ [p] else S) r
def addK (kd : List (Str × α)) : List (Str × α) → List Str → List (Str × α)
  | S, [] => S
  | S, n :: r => addK kd (if (S.lookup n).isNone = true then (match kd.lookup n with
    | some v => S ++ [(n, v)]
    | none => S) else S) r
def kwOkA (A B : List Str) : List (Str × α) → List (Str × α) → Bool
  | _, [] => true
  | S, p :: r => (A.contains p.1 || B.contains p.1) && (S.lookup p.1).isNone && kwOkA A B (S ++ [p]) r
def slotsA (A B : List Str) (dl : List α) (kd : List (Str × α)) (us : List α) (kw : List (Str × α)) : List (Str × α) := addK kd (addD (A.zip us ++ kw) ((A.drop (A.length - dl.length)).zip dl)) B
def boundA (A B : List Str) (S : List (Str × α)) : List (Str × α) := (A ++ B).filterMap fun n => (S.lookup n).map (n, ·)
def missA (A : List Str) (n : Nat) (S : List (Str × α)) : List Str := (A.take n).filter fun n => (S.lookup n).isNone
/-- the arguments in the parameters' order -/
def bindA (A B : List Str) (dl : List α) (kd : List (Str × α)) (us : List α) (kw : List (Str × α)) : Option (List α) :=
  if decide (us.length ≤ A.length) && decide (dl.length ≤ A.length) && kwOkA A B (A.zip us) kw && (missA A (A.length - dl.length) (A.zip us ++ kw)).isEmpty &&
    (B.all fun n => ((addD (A.zip us ++ kw) ((A.drop (A.length - dl.length)).zip dl)).lookup n).isSome || (kd.lookup n).isSome) &&
    decide ((boundA A B (slotsA A B dl kd us kw)).length = (A ++ B).length) = true then some ((boundA A B (slotsA A B dl kd us kw)).map (·.2)) else none
end
/-- a def: its parameters, those that are given by name alone, its names by slots, its body, what stands for arguments that lack -/
structure FD where
  ps : List Str
  ko : List Str := []
  N : List Str
  bd : Ss
  dfl : List T := []
  kd : List (Str × T) := []
  /-- the parameters that it changes -/
  mu : List Nat := []
structure Prog where
  fns : List ((Str × Option Str) × FD)
  /-- fields that instances may get, by class -/
  flds : List (Str × List Str) := []
  /-- the module's constants; the built-in names that are used; the classes that isinstance asks of -/
  cs : List (Str × T) := []
  bl : List Str := []
  cls : List Str := []
  nes : List Str := []
  /-- classes whose instances nobody changes -/
  fz : List Str := []
  /-- whether it has ALIKE -/
  alk : Bool := false
def FD.fill (d : FD) (args : List T) (kw : List (Str × T)) : Option (List T) := bindA d.ps d.ko d.dfl d.kd args kw
def okFd (fl : List (Str × List Str)) (c f : Str) : Bool := match fl.lookup c with
  | some l => l.contains f
  | none => false
abbrev Prog.okF (Γ : Prog) : Str → Str → Bool := okFd Γ.flds
def hasM (Γ : Prog) (key : Str × Option Str) : Bool := (Γ.fns.lookup key).isSome
/-- a def with all its arguments, calls n deep -/
def clB (Γ : Prog) : Nat → FD → List T → M T
  | 0, _, _ => fl
  | n + 1, d, ts => body ⟨fun key args kw => match Γ.fns.lookup key with
    | some d => (match d.fill args kw with
      | some ts => clB Γ n d ts
      | none => fl)
    | none => fl, Γ.okF, hasM Γ, Γ.cls, Γ.nes⟩ d.bd d.N.length ts
/-- calls, n deep -/
def cl (Γ : Prog) (n : Nat) : CallE := fun key args kw => match Γ.fns.lookup key with
  | some d => (match d.fill args kw with
    | some ts => clB Γ n d ts
    | none => fl)
  | none => fl
def Phi (Γ : Prog) (n : Nat) : Pm := ⟨cl Γ n, Γ.okF, hasM Γ, Γ.cls, Γ.nes⟩
@[simp] theorem Phi_call (Γ : Prog) (n : Nat) : (Phi Γ n).call = cl Γ n := (rfl)
@[simp] theorem Phi_okF (Γ : Prog) (n : Nat) : (Phi Γ n).okF = Γ.okF := (rfl)
@[simp] theorem Phi_has (Γ : Prog) (n : Nat) : (Phi Γ n).has = hasM Γ := (rfl)
@[simp] theorem Phi_nes (Γ : Prog) (n : Nat) : (Phi Γ n).nes = Γ.nes := (rfl)
@[simp] theorem Phi_cls (Γ : Prog) (n : Nat) : (Phi Γ n).cls = Γ.cls := (rfl)
theorem clB_succ (Γ : Prog) (n : Nat) (d : FD) (ts : List T) : clB Γ (n + 1) d ts = body (Phi Γ n) d.bd d.N.length ts := rfl
end Y
namespace Y
open PySem
/-- a short text by a number (bijective base 128, the first sign lowest) -/
def slD : Nat → Nat → List Nat
  | 0, _ => []
  | _ + 1, 0 => []
  | k + 1, n + 1 => n % 128 :: slD k (n / 128)
def sl (n : Nat) : Str := ⟨(slD n n).toArray⟩
def slE : List Nat → Nat
  | [] => 0
  | d :: r => slE r * 128 + d + 1
theorem slE_D : ∀ (k n : Nat), n ≤ k → slE (slD k n) = n
  | 0, n, h => by have : n = 0 := by omega
                  subst this; rfl
  | _ + 1, 0, _ => rfl
  | k + 1, n + 1, h => by
    show slE (slD k (n / 128)) * 128 + n % 128 + 1 = n + 1
    rw [slE_D k (n / 128) (by omega)]
    omega
theorem sl_inj {a b : Nat} : (sl a = sl b) = (a = b) := by
  refine propext ⟨fun h => ?_, fun h => by rw [h]⟩
  have e : slD a a = slD b b := by
    have := congrArg (fun s : Str => s.cps.toList) h
    simpa [sl] using this
  have := congrArg slE e
  rwa [slE_D a a (Nat.le_refl _), slE_D b b (Nat.le_refl _)] at this
end Y

/-! L3b: what stands for what: values, objects; how a run grows; readings by runs. -/
namespace Y
open PySem PySem.Spec L2

section
variable (K : PySem.W.Frag) (ρ : Nat → Addr) (n : Nat) (H : Hp)
mutual
inductive VR : T → V → Prop where
  | non : VR .non .non
  | bl (b : Bool) : VR (.bl b) (.bl b)
  | int (i : Int) : VR (.int i) (.int i)
  | str (x : Str) : VR (.str x) (.str x)
  | ty (x : String) : VR (.ty x) (.ty x)
  | ref {l : Nat} : l < n → VR (.ref l) (.ref (ρ l))
  | tup {xs : List T} {a : Addr} {vs : List V} : H a = some (.tup vs) → VRs xs vs → VR (.tup xs) (.ref a)
  | kt {xs : List T} {a : Addr} {vs : List V} : SqT K H a vs → VRs xs vs → VR (.kt xs) (.ref a)
inductive VRs : List T → List V → Prop where
  | nil : VRs [] []
  | cons {t : T} {v : V} {ts : List T} {vs : List V} : VR t v → VRs ts vs → VRs (t :: ts) (v :: vs)
end
/-- by keys -/
inductive PR {κ : Type} : List (κ × T) → List (κ × V) → Prop where
  | nil : PR [] []
  | cons {k : κ} {t : T} {v : V} {ts : List (κ × T)} {vs : List (κ × V)} : VR K ρ n H t v → PR ts vs → PR ((k, t) :: ts) ((k, v) :: vs)
/-- a list that nobody writes -/
def RoL (a : Addr) (vs : List V) : Prop := (∃ od, H a = some (.frz od (.lst vs))) ∨
    ∃ (o : Obj) (its : Array Value) (n : Nat), K.lookup a = some o ∧ o.cls = .type "list" ∧ o.dict = none ∧ o.data = .seq its n ∧ its.size ≤ sizeLine ∧ Vals vs its.toList
/-- what nobody writes -/
def isRol : LO → Bool
  | .rol _ => true
  | .lkK _ => true
  | .lkT _ => true
  | _ => false
def isR0 : LO → Bool
  | .rol _ => true
  | _ => false
theorem isR0_of {o : LO} (h : isRol o = false) : isR0 o = false := by cases o <;> first | rfl | cases h
/-- an object stands at an address -/
def OR : LO → Addr → Prop
  | .lst xs, a => ∃ vs, VRs K ρ n H xs vs ∧ H a = some (.lst vs)
  | .rol xs, a => ∃ vs, VRs K ρ n H xs vs ∧ RoL K H a vs
  | .dK kvs, a => ∃ kv, PR K ρ n H kvs kv ∧ H a = some (.dK kv)
  | .dT kvs, a => ∃ kv, PR K ρ n H kvs kv ∧ H a = some (.dT kv)
  | .lkK kvs, a => ∃ kv od, PR K ρ n H kvs kv ∧ H a = some (.frz od (.dK kv))
  | .lkT kvs, a => ∃ kv od, PR K ρ n H kvs kv ∧ H a = some (.frz od (.dT kv))
  | .ins c fs, a => ∃ dx fv, PR K ρ n H fs fv ∧ H a = some (.ins (He.ga K c) dx fv) ∧ Cls K (He.ga K c) ∧ ∀ p ∈ fs, NoAttr K (He.ga K c) p.1
end
def Im (h : LH) (ρ : Nat → Addr) (a : Addr) : Prop := ∃ l o, h[l]? = some o ∧ isRol o = false ∧ ρ l = a
structure Sim (K : PySem.W.Frag) (ρ : Nat → Addr) (h : LH) (H : Hp) : Prop where
  inj : ∀ (i j : Nat) (o o' : LO), h[i]? = some o → h[j]? = some o' → isR0 o = false → isR0 o' = false → ρ i = ρ j → i = j
  obj : ∀ (i : Nat) (o : LO), h[i]? = some o → OR K ρ h.length H o (ρ i)
structure Grow (h : LH) (ρ : Nat → Addr) (H : Hp) (h' : LH) (ρ' : Nat → Addr) (H' : Hp) : Prop where
  le : h.length ≤ h'.length
  eq : ∀ l, l < h.length → ρ' l = ρ l
  fr : ∀ a o, H a = some o → ¬ Im h ρ a → H' a = some o
  new : ∀ a, Im h' ρ' a → ¬ Im h ρ a → H a = none
  rol : ∀ (l : Nat) (o : LO), h[l]? = some o → ∃ o', h'[l]? = some o' ∧ isRol o' = isRol o
  cl : ∀ (l : Nat) (c : Str) (fs : List (Str × T)), h[l]? = some (.ins c fs) → ∃ fs', h'[l]? = some (.ins c fs')

theorem Grow.refl {h : LH} {ρ : Nat → Addr} {H : Hp} : Grow h ρ H h ρ H := ⟨Nat.le_refl _, fun _ _ => rfl, fun _ _ e _ => e, fun _ a b => absurd a b, fun _ o e => ⟨o, e, rfl⟩, fun _ _ fs e => ⟨fs, e⟩⟩
theorem lt_of_get {α : Type} {h : List α} {l : Nat} {o : α} (e : h[l]? = some o) : l < h.length := (List.getElem?_eq_some_iff.mp e).1
section
variable {K : PySem.W.Frag} {ρ ρ' ρ1 ρ2 ρ3 : Nat → Addr} {h h' h1 h2 h3 : LH} {H H' H1 H2 H3 : Hp} {n n' : Nat}
theorem Grow.im (g : Grow h1 ρ1 H1 h2 ρ2 H2) {a : Addr} (i : Im h1 ρ1 a) : Im h2 ρ2 a := by
  obtain ⟨l, o, e, r, q⟩ := i
  obtain ⟨o', e', r'⟩ := g.rol l o e
  exact ⟨l, o', e', r'.trans r, (g.eq l (lt_of_get e)).trans q⟩
theorem Grow.trans (a : Grow h1 ρ1 H1 h2 ρ2 H2) (b : Grow h2 ρ2 H2 h3 ρ3 H3) : Grow h1 ρ1 H1 h3 ρ3 H3 := by
  have notIm : ∀ x o, H1 x = some o → ¬ Im h1 ρ1 x → ¬ Im h2 ρ2 x := fun x o e n i => by
    have z := a.new x i n
    rw [e] at z; cases z
  refine ⟨Nat.le_trans a.le b.le, fun l hl => (b.eq l (Nat.lt_of_lt_of_le hl a.le)).trans (a.eq l hl), fun x o e n => b.fr x o (a.fr x o e n) (notIm x o e n), fun x i n => ?_, fun l o e => ?_, fun l c fs e => ?_⟩
  · by_cases i2 : Im h2 ρ2 x
    · exact a.new x i2 n
    · have z := b.new x i i2
      cases q : H1 x with
      | none => rfl
      | some o =>
        have z2 := a.fr x o q n
        rw [z] at z2; cases z2
  · obtain ⟨o', e', r'⟩ := a.rol l o e
    obtain ⟨o2, e2, r2⟩ := b.rol l o' e'
    exact ⟨o2, e2, r2.trans r'⟩
  · obtain ⟨fs', e'⟩ := a.cl l c fs e
    exact b.cl l c fs' e'

/-- tuples stay -/
structure TupK (K : PySem.W.Frag) (H H' : Hp) : Prop where
  t : ∀ a vs, H a = some (.tup vs) → H' a = some (.tup vs)
  k : ∀ a vs, SqT K H a vs → SqT K H' a vs
mutual
theorem VR.mono (hρ : ∀ l, l < n → ρ' l = ρ l) (hn : n ≤ n') (ht : TupK K H H') : ∀ {t : T} {v : V}, VR K ρ n H t v → VR K ρ' n' H' t v
  | _, _, .non => .non
  | _, _, .bl b => .bl b
  | _, _, .int i => .int i
  | _, _, .str x => .str x
  | _, _, .ty x => .ty x
  | _, _, .ref hl => by
    rw [← hρ _ hl]
    exact .ref (Nat.lt_of_lt_of_le hl hn)
  | _, _, .tup hq hr => .tup (ht.t _ _ hq) (VRs.mono hρ hn ht hr)
  | _, _, .kt hq hr => .kt (ht.k _ _ hq) (VRs.mono hρ hn ht hr)
theorem VRs.mono (hρ : ∀ l, l < n → ρ' l = ρ l) (hn : n ≤ n') (ht : TupK K H H') : ∀ {t : List T} {v : List V}, VRs K ρ n H t v → VRs K ρ' n' H' t v
  | _, _, .nil => .nil
  | _, _, .cons a b => .cons (VR.mono hρ hn ht a) (VRs.mono hρ hn ht b)
end
theorem PR.mono {κ : Type} (hρ : ∀ l, l < n → ρ' l = ρ l) (hn : n ≤ n') (ht : TupK K H H') : ∀ {t : List (κ × T)} {v : List (κ × V)}, PR K ρ n H t v → PR K ρ' n' H' t v
  | _, _, .nil => .nil
  | _, _, .cons a b => .cons (VR.mono hρ hn ht a) (PR.mono hρ hn ht b)
theorem VRs.len : ∀ {t : List T} {v : List V}, VRs K ρ n H t v → t.length = v.length
  | _, _, .nil => rfl
  | _, _, .cons _ b => by rw [List.length_cons, List.length_cons, VRs.len b]
theorem VRs.get : ∀ {ts : List T} {vs : List V} {i : Nat} {t : T}, VRs K ρ n H ts vs → ts[i]? = some t → ∃ v, vs[i]? = some v ∧ VR K ρ n H t v
  | _, _, _, _, .nil, e => by simp at e
  | _, _, 0, _, .cons r _, e => by simp at e; subst e; exact ⟨_, rfl, r⟩
  | _, _, i + 1, t, .cons _ r, e => by
    obtain ⟨v, h1, h2⟩ := VRs.get (i := i) (t := t) r (by simpa using e)
    exact ⟨v, by simpa using h1, h2⟩
theorem VRs.append : ∀ {ts us : List T} {vs ws : List V}, VRs K ρ n H ts vs → VRs K ρ n H us ws → VRs K ρ n H (ts ++ us) (vs ++ ws)
  | _, _, _, _, .nil, s => s
  | _, _, _, _, .cons r t, s => .cons r (VRs.append t s)
theorem VRs.set {x : T} {y : V} (r : VR K ρ n H x y) : ∀ {ts : List T} {vs : List V} (i : Nat), VRs K ρ n H ts vs → VRs K ρ n H (ts.set i x) (vs.set i y)
  | _, _, _, .nil => .nil
  | _, _, 0, .cons _ t => .cons r t
  | _, _, i + 1, .cons q t => .cons q (VRs.set r i t)
theorem VRs.take : ∀ {ts : List T} {vs : List V} (k : Nat), VRs K ρ n H ts vs → VRs K ρ n H (ts.take k) (vs.take k)
  | _, _, 0, _ => .nil
  | _, _, _ + 1, .nil => .nil
  | _, _, k + 1, .cons r t => .cons r (VRs.take k t)
theorem VRs.drop : ∀ {ts : List T} {vs : List V} (k : Nat), VRs K ρ n H ts vs → VRs K ρ n H (ts.drop k) (vs.drop k)
  | _, _, 0, r => r
  | _, _, _ + 1, .nil => .nil
  | _, _, k + 1, .cons _ t => VRs.drop k t
theorem VRs.dropLast {ts : List T} {vs : List V} (r : VRs K ρ n H ts vs) : VRs K ρ n H ts.dropLast vs.dropLast := by
  rw [List.dropLast_eq_take, List.dropLast_eq_take, r.len]
  exact r.take _

/-- what keeps tuples -/
theorem sqT_ext (hx : ∀ a o, H a = some o → H' a = some o) {a : Addr} {vs : List V} (q : SqT K H a vs) : SqT K H' a vs := by
  rcases q with (q | ⟨o, q⟩) | q
  · exact .inl (.inl (hx _ _ q))
  · exact .inl (.inr ⟨o, hx _ _ q⟩)
  · exact .inr q
theorem tupK_ext (hx : ∀ a o, H a = some o → H' a = some o) : TupK K H H' := ⟨fun a vs q => hx _ _ q, fun a vs q => sqT_ext hx q⟩
/-- an object's address holds what is written -/
def mutHO : HO → Bool
  | .tup _ => false
  | .frz _ _ => false
  | _ => true
theorem OR.at {o : LO} {a : Addr} (r : OR K ρ n H o a) (nr : isRol o = false) : ∃ u, H a = some u ∧ mutHO u = true := by
  cases o with
  | lst xs => obtain ⟨vs, _, e⟩ := r; exact ⟨_, e, rfl⟩
  | rol xs => cases nr
  | dK xs => obtain ⟨vs, _, e⟩ := r; exact ⟨_, e, rfl⟩
  | dT xs => obtain ⟨vs, _, e⟩ := r; exact ⟨_, e, rfl⟩
  | lkK xs => cases nr
  | lkT xs => cases nr
  | ins c fs => obtain ⟨dx, fv, _, e, _⟩ := r; exact ⟨_, e, rfl⟩
theorem OR.at0 {o : LO} {a : Addr} (r : OR K ρ n H o a) (nr : isR0 o = false) : ∃ u, H a = some u ∧ (mutHO u = true ∨ isRol o = true) := by
  by_cases c : isRol o = false
  · obtain ⟨u, e, m⟩ := r.at c
    exact ⟨u, e, .inl m⟩
  · cases o with
    | lkK xs => obtain ⟨vs, od, _, e⟩ := r; exact ⟨_, e, .inr rfl⟩
    | lkT xs => obtain ⟨vs, od, _, e⟩ := r; exact ⟨_, e, .inr rfl⟩
    | rol xs => cases nr
    | _ => exact absurd rfl c
/-- a locked dict's thing -/
theorem OR.frz {o : LO} {a : Addr} (r : OR K ρ n H o a) (nr : isR0 o = false) (ro : isRol o = true) : ∃ od u, H a = some (.frz od u) := by
  cases o with
  | lkK xs => obtain ⟨vs, od, _, e⟩ := r; exact ⟨_, _, e⟩
  | lkT xs => obtain ⟨vs, od, _, e⟩ := r; exact ⟨_, _, e⟩
  | rol xs => cases nr
  | _ => cases ro
theorem Sim.im (S : Sim K ρ h H) {a : Addr} (i : Im h ρ a) : ∃ u, H a = some u ∧ mutHO u = true := by
  obtain ⟨l, o, e, nr, rfl⟩ := i
  exact (S.obj l o e).at nr
theorem Grow.tupK (S : Sim K ρ h H) (g : Grow h ρ H h' ρ' H') : TupK K H H' := by
  have no : ∀ a u, H a = some u → mutHO u = false → ¬ Im h ρ a := fun a u e m i => by
    obtain ⟨u', e', m'⟩ := S.im i
    rw [e] at e'; cases e'
    rw [m] at m'; cases m'
  refine ⟨fun a vs q => g.fr _ _ q (no _ _ q rfl), fun a vs q => ?_⟩
  rcases q with (q | ⟨o, q⟩) | q
  · exact .inl (.inl (g.fr _ _ q (no _ _ q rfl)))
  · exact .inl (.inr ⟨o, g.fr _ _ q (no _ _ q rfl)⟩)
  · exact .inr q
/-- locked things stay -/
def FrzK (H H' : Hp) : Prop := ∀ a od u, H a = some (.frz od u) → H' a = some (.frz od u)
theorem Grow.frz (S : Sim K ρ h H) (g : Grow h ρ H h' ρ' H') : FrzK H H' := fun a od u e => g.fr a _ e fun i => by
  obtain ⟨u', e', m'⟩ := S.im i
  rw [e] at e'; cases e'
  cases m'
theorem VR.grow (S : Sim K ρ h H) (g : Grow h ρ H h' ρ' H') {t : T} {v : V} (r : VR K ρ h.length H t v) : VR K ρ' h'.length H' t v := r.mono g.eq g.le (g.tupK S)
theorem VRs.grow (S : Sim K ρ h H) (g : Grow h ρ H h' ρ' H') {t : List T} {v : List V} (r : VRs K ρ h.length H t v) : VRs K ρ' h'.length H' t v := r.mono g.eq g.le (g.tupK S)
theorem PR.grow {κ : Type} (S : Sim K ρ h H) (g : Grow h ρ H h' ρ' H') {t : List (κ × T)} {v : List (κ × V)} (r : PR K ρ h.length H t v) : PR K ρ' h'.length H' t v := r.mono g.eq g.le (g.tupK S)

/-- an object's word at another heap -/
theorem OR.move {o : LO} {a : Addr} (r : OR K ρ n H o a) (hρ : ∀ l, l < n → ρ' l = ρ l) (hn : n ≤ n') (ht : TupK K H H') (ha : isRol o = false → H' a = H a)
    (hro : ∀ vs, RoL K H a vs → isRol o = true → RoL K H' a vs) (hf : ∀ od u, H a = some (.frz od u) → H' a = some (.frz od u)) : OR K ρ' n' H' o a := by
  cases o with
  | lst xs => obtain ⟨vs, q, e⟩ := r; exact ⟨vs, q.mono hρ hn ht, (ha rfl).trans e⟩
  | rol xs => obtain ⟨vs, q, e⟩ := r; exact ⟨vs, q.mono hρ hn ht, hro vs e rfl⟩
  | dK xs => obtain ⟨vs, q, e⟩ := r; exact ⟨vs, q.mono hρ hn ht, (ha rfl).trans e⟩
  | dT xs => obtain ⟨vs, q, e⟩ := r; exact ⟨vs, q.mono hρ hn ht, (ha rfl).trans e⟩
  | lkK xs => obtain ⟨vs, od, q, e⟩ := r; exact ⟨vs, od, q.mono hρ hn ht, hf _ _ e⟩
  | lkT xs => obtain ⟨vs, od, q, e⟩ := r; exact ⟨vs, od, q.mono hρ hn ht, hf _ _ e⟩
  | ins c fs => obtain ⟨dx, fv, q, e, z⟩ := r; exact ⟨dx, fv, q.mono hρ hn ht, (ha rfl).trans e, z⟩

/-- the heap has more at addresses that were free -/
theorem Sim.more (S : Sim K ρ h H) (hx : ∀ a o, H a = some o → H' a = some o) : Sim K ρ h H' ∧ Grow h ρ H h ρ H' := by
  refine ⟨⟨S.inj, fun i o e => (S.obj i o e).move (fun _ _ => rfl) (Nat.le_refl _) (tupK_ext hx) (fun nr => ?_) (fun vs q _ => ?_) (fun _ _ e => hx _ _ e)⟩, ⟨Nat.le_refl _, fun _ _ => rfl, fun a o e _ => hx a o e, fun a i n => absurd i n, fun l o e => ⟨o, e, rfl⟩, fun _ _ fs e => ⟨fs, e⟩⟩⟩
  · obtain ⟨u, e', _⟩ := (S.obj i o e).at nr
    rw [e', hx _ _ e']
  · rcases q with ⟨od, q⟩ | q
    · exact .inl ⟨od, hx _ _ q⟩
    · exact .inr q
/-- the map with one number more -/
def put1 (ρ : Nat → Addr) (n : Nat) (p : Addr) : Nat → Addr := fun l => if l = n then p else ρ l
theorem put1_at : put1 ρ n p n = p := by unfold put1; rw [if_pos rfl]
theorem put1_lt {p : Addr} {l : Nat} (hl : l < n) : put1 ρ n p l = ρ l := by unfold put1; rw [if_neg (by omega)]
/-- a new object -/
theorem Sim.neu (S : Sim K ρ h H) {p : Addr} {o : LO} (hp : H p = none) (hx : ∀ a o, H a = some o → H' a = some o) (nr : isRol o = false) (ho : OR K (put1 ρ h.length p) (h.length + 1) H' o p) :
    Sim K (put1 ρ h.length p) (h ++ [o]) H' ∧ Grow h ρ H (h ++ [o]) (put1 ρ h.length p) H' := by
  have len : (h ++ [o]).length = h.length + 1 := by simp
  have at_ : ∀ i o', (h ++ [o])[i]? = some o' → (i < h.length ∧ h[i]? = some o') ∨ (i = h.length ∧ o' = o) := fun i o' e => by
    by_cases hi : i < h.length
    · rw [List.getElem?_append_left hi] at e
      exact .inl ⟨hi, e⟩
    · have hl := lt_of_get e
      rw [len] at hl
      have : i = h.length := by omega
      subst this
      rw [List.getElem?_append_right (Nat.le_refl _)] at e
      simp at e
      exact .inr ⟨rfl, e.symm⟩
  have fresh : ∀ i o', h[i]? = some o' → isR0 o' = false → ρ i ≠ p := fun i o' e nr' z => by
    obtain ⟨u, e', _⟩ := (S.obj i o' e).at0 nr'
    rw [z, hp] at e'; cases e'
  refine ⟨⟨fun i j o1 o2 e1 e2 n1 n2 q => ?_, fun i o' e => ?_⟩, ⟨by rw [len]; omega, fun l hl => put1_lt hl, fun a o e _ => hx a o e, fun a i ni => ?_, fun l o' e => ⟨o', by rw [List.getElem?_append_left (lt_of_get e)]; exact e, rfl⟩, fun l c fs e => ⟨fs, by rw [List.getElem?_append_left (lt_of_get e)]; exact e⟩⟩⟩
  · rcases at_ i o1 e1 with ⟨l1, g1⟩ | ⟨l1, g1⟩ <;> rcases at_ j o2 e2 with ⟨l2, g2⟩ | ⟨l2, g2⟩
    · rw [put1_lt l1, put1_lt l2] at q
      exact S.inj i j o1 o2 g1 g2 n1 n2 q
    · subst l2
      rw [put1_lt l1, put1_at] at q
      exact absurd q (fresh i o1 g1 n1)
    · subst l1
      rw [put1_lt l2, put1_at] at q
      exact absurd q.symm (fresh j o2 g2 n2)
    · omega
  · rcases at_ i o' e with ⟨l1, g1⟩ | ⟨l1, g1⟩
    · rw [put1_lt l1, len]
      refine (S.obj i o' g1).move (fun l hl => put1_lt hl) (by omega) (tupK_ext hx) (fun nr => ?_) (fun vs q _ => ?_) (fun _ _ e => hx _ _ e)
      · obtain ⟨u, e', _⟩ := (S.obj i o' g1).at nr
        rw [e', hx _ _ e']
      · rcases q with ⟨od, q⟩ | q
        · exact .inl ⟨od, hx _ _ q⟩
        · exact .inr q
    · subst l1; subst g1
      rw [put1_at, len]
      exact ho
  · obtain ⟨l, o', e, nr', q⟩ := i
    rcases at_ l o' e with ⟨l1, g1⟩ | ⟨l1, g1⟩
    · rw [put1_lt l1] at q
      exact absurd ⟨l, o', g1, nr', q⟩ ni
    · subst l1
      rw [put1_at] at q
      rw [← q]; exact hp
/-- an object at an address that was laid ahead, unnumbered -/
theorem Sim.late {ρ0 : Nat → Addr} {h0 : LH} {H0 : Hp} {p : Addr} {o : LO} {O1 O1' O2 : HO} (S0 : Sim K ρ0 h0 H0) (hp0 : H0 p = none) (g : Grow h0 ρ0 (upd H0 p O1) h ρ H) (S : Sim K ρ h H) (hp : H p = some O1') (m : mutHO O1' = true)
    (nr : isRol o = false) (ho : OR K (put1 ρ h.length p) (h.length + 1) (upd H p O2) o p) :
    Sim K (put1 ρ h.length p) (h ++ [o]) (upd H p O2) ∧ Grow h0 ρ0 H0 (h ++ [o]) (put1 ρ h.length p) (upd H p O2) := by
  have len : (h ++ [o]).length = h.length + 1 := by simp
  have ni0 : ¬ Im h0 ρ0 p := fun i => by
    obtain ⟨u, e, _⟩ := S0.im i
    rw [hp0] at e; cases e
  have ni : ¬ Im h ρ p := fun i => by
    have z := g.new p i ni0
    rw [upd_same] at z; cases z
  have at_ : ∀ (i : Nat) (o' : LO), (h ++ [o])[i]? = some o' → (i < h.length ∧ h[i]? = some o') ∨ (i = h.length ∧ o' = o) := fun i o' e => by
    by_cases hi : i < h.length
    · rw [List.getElem?_append_left hi] at e
      exact .inl ⟨hi, e⟩
    · have hl := lt_of_get e
      rw [len] at hl
      have : i = h.length := by omega
      subst this
      rw [List.getElem?_append_right (Nat.le_refl _)] at e
      simp at e
      exact .inr ⟨rfl, e.symm⟩
  have fresh : ∀ (i : Nat) (o' : LO), h[i]? = some o' → isR0 o' = false → ρ i ≠ p := fun i o' e nr' z => by
    by_cases c : isRol o' = false
    · exact ni ⟨i, o', e, c, z⟩
    · obtain ⟨od, u, e'⟩ := (S.obj i o' e).frz nr' (by simpa using c)
      rw [z, hp] at e'; cases e'; cases m
  have sq : TupK K H (upd H p O2) := ⟨fun a vs q => by
    rw [upd_ne (fun z => by rw [z, hp] at q; cases q; cases m)]; exact q, fun a vs q => by
    rcases q with (q | ⟨od, q⟩) | q
    · refine .inl (.inl ?_)
      rw [upd_ne (fun z => by rw [z, hp] at q; cases q; cases m)]; exact q
    · refine .inl (.inr ⟨od, ?_⟩)
      rw [upd_ne (fun z => by rw [z, hp] at q; cases q; cases m)]; exact q
    · exact .inr q⟩
  refine ⟨⟨fun i j o1 o2 e1 e2 n1 n2 q => ?_, fun i o' e => ?_⟩, ⟨by rw [len]; have := g.le; omega, fun l hl => (put1_lt (Nat.lt_of_lt_of_le hl g.le)).trans (g.eq l hl), fun a w e nia => ?_, fun a i nia => ?_, fun l o' e => ?_, fun l c fs e => ?_⟩⟩
  · rcases at_ i o1 e1 with ⟨l1, g1⟩ | ⟨l1, g1⟩ <;> rcases at_ j o2 e2 with ⟨l2, g2⟩ | ⟨l2, g2⟩
    · rw [put1_lt l1, put1_lt l2] at q
      exact S.inj i j o1 o2 g1 g2 n1 n2 q
    · subst l2
      rw [put1_lt l1, put1_at] at q
      exact absurd q (fresh i o1 g1 n1)
    · subst l1
      rw [put1_lt l2, put1_at] at q
      exact absurd q.symm (fresh j o2 g2 n2)
    · omega
  · rcases at_ i o' e with ⟨l1, g1⟩ | ⟨l1, g1⟩
    · rw [put1_lt l1, len]
      refine (S.obj i o' g1).move (fun l hl => put1_lt hl) (by omega) sq (fun nw => upd_ne (fresh i o' g1 (isR0_of nw))) (fun vs q _ => ?_) (fun od u e => by rw [upd_ne (fun y => by rw [y, hp] at e; cases e; cases m)]; exact e)
      rcases q with ⟨od, q⟩ | q
      · refine .inl ⟨od, ?_⟩
        rw [upd_ne (fun y => by rw [y, hp] at q; cases q; cases m)]; exact q
      · exact .inr q
    · subst l1; subst g1
      rw [put1_at, len]
      exact ho
  · have ne : a ≠ p := fun z => by rw [z, hp0] at e; cases e
    rw [upd_ne ne]
    exact g.fr a w (by rw [upd_ne ne]; exact e) nia
  · obtain ⟨l, o', e, nr', q⟩ := i
    rcases at_ l o' e with ⟨l1, g1⟩ | ⟨l1, g1⟩
    · rw [put1_lt l1] at q
      have z := g.new a ⟨l, o', g1, nr', q⟩ nia
      by_cases ha : a = p
      · rw [ha]; exact hp0
      · rwa [upd_ne ha] at z
    · subst l1
      rw [put1_at] at q
      rw [← q]; exact hp0
  · obtain ⟨o2, e2, r2⟩ := g.rol l o' e
    exact ⟨o2, by rw [List.getElem?_append_left (lt_of_get e2)]; exact e2, r2⟩
  · obtain ⟨fs2, e2⟩ := g.cl l c fs e
    exact ⟨fs2, by rw [List.getElem?_append_left (lt_of_get e2)]; exact e2⟩
/-- an object is written -/
theorem Sim.wr (S : Sim K ρ h H) {l : Nat} {o o' : LO} {u : HO} (e : h[l]? = some o) (nr : isRol o = false) (nr' : isRol o' = false) (ho : OR K ρ h.length (upd H (ρ l) u) o' (ρ l))
    (hc : ∀ c fs, o = .ins c fs → ∃ fs', o' = .ins c fs' := by intro _ _ e; first | cases e; done | exact ⟨_, by cases e; rfl⟩) :
    Sim K ρ (h.set l o') (upd H (ρ l) u) ∧ Grow h ρ H (h.set l o') ρ (upd H (ρ l) u) := by
  obtain ⟨u0, e0, m0⟩ := (S.obj l o e).at nr
  have hl := lt_of_get e
  have at_ : ∀ i w, (h.set l o')[i]? = some w → (i = l ∧ w = o') ∨ (i ≠ l ∧ h[i]? = some w) := fun i w q => by
    by_cases hi : i = l
    · subst hi
      rw [List.getElem?_set_self hl] at q
      exact .inl ⟨rfl, (Option.some.inj q).symm⟩
    · rw [List.getElem?_set_ne (Ne.symm hi)] at q
      exact .inr ⟨hi, q⟩
  have sq : TupK K H (upd H (ρ l) u) := ⟨fun a vs q => by
    rw [upd_ne (fun z => by rw [z, e0] at q; cases q; cases m0)]; exact q, fun a vs q => by
    rcases q with (q | ⟨od, q⟩) | q
    · refine .inl (.inl ?_)
      rw [upd_ne (fun z => by rw [z, e0] at q; cases q; cases m0)]; exact q
    · refine .inl (.inr ⟨od, ?_⟩)
      rw [upd_ne (fun z => by rw [z, e0] at q; cases q; cases m0)]; exact q
    · exact .inr q⟩
  have inj : ∀ i w, i ≠ l → h[i]? = some w → isR0 w = false → ρ i ≠ ρ l := fun i w hi q nw z => hi (S.inj i l w o q e nw (isR0_of nr) z)
  refine ⟨⟨fun i j o1 o2 e1 e2 n1 n2 q => ?_, fun i w q => ?_⟩, ⟨by simp, fun _ _ => rfl, fun a w q ni => ?_, fun a i ni => ?_, fun i w q => ?_, fun i c fs q => ?_⟩⟩
  · have f : ∀ i o1, (h.set l o')[i]? = some o1 → isR0 o1 = false → ∃ w, h[i]? = some w ∧ isR0 w = false := fun i o1 q n1 => by
      rcases at_ i o1 q with ⟨rfl, rfl⟩ | ⟨_, q⟩
      · exact ⟨o, e, isR0_of nr⟩
      · exact ⟨o1, q, n1⟩
    obtain ⟨w1, g1, m1⟩ := f i o1 e1 n1
    obtain ⟨w2, g2, m2⟩ := f j o2 e2 n2
    exact S.inj i j w1 w2 g1 g2 m1 m2 q
  · rw [List.length_set]
    rcases at_ i w q with ⟨rfl, rfl⟩ | ⟨hi, q⟩
    · exact ho
    · refine (S.obj i w q).move (fun _ _ => rfl) (Nat.le_refl _) sq (fun nw => upd_ne (inj i w hi q (isR0_of nw))) (fun vs z _ => ?_) (fun od u z => by rw [upd_ne (fun y => by rw [y, e0] at z; cases z; cases m0)]; exact z)
      rcases z with ⟨od, z⟩ | z
      · refine .inl ⟨od, ?_⟩
        rw [upd_ne (fun y => by rw [y, e0] at z; cases z; cases m0)]; exact z
      · exact .inr z
  · rw [upd_ne (fun z => ni ⟨l, o, e, nr, z.symm⟩)]; exact q
  · obtain ⟨i, w, q, nw, z⟩ := i
    rcases at_ i w q with ⟨rfl, rfl⟩ | ⟨hi, q⟩
    · exact absurd ⟨i, o, e, nr, z⟩ ni
    · exact absurd ⟨i, w, q, nw, z⟩ ni
  · by_cases hi : i = l
    · subst hi
      rw [e] at q; cases q
      exact ⟨o', List.getElem?_set_self hl, nr'.trans nr.symm⟩
    · exact ⟨w, by rw [List.getElem?_set_ne (Ne.symm hi)]; exact q, rfl⟩
  · by_cases hi : i = l
    · subst hi
      rw [e] at q
      obtain ⟨fs', e'⟩ := hc c fs (Option.some.inj q)
      exact ⟨fs', by rw [List.getElem?_set_self hl, e']⟩
    · exact ⟨fs, by rw [List.getElem?_set_ne (Ne.symm hi)]; exact q⟩
end

/-! ### a dict under a lock -/
section
variable {K : PySem.W.Frag} {ρ ρ' : Nat → Addr} {h h' : LH} {H H' : Hp}
theorem Sim.lock (S : Sim K ρ h H) {l : Nat} {o o' : LO} {u : HO} {od : Obj} (e : h[l]? = some o) (nr : isRol o = false) (nr' : isRol o' = true) (n0 : isR0 o' = false) (e0 : H (ρ l) = some u) (m0 : mutHO u = true) (ho : OR K ρ h.length (upd H (ρ l) (.frz od u)) o' (ρ l)) : Sim K ρ (h.set l o') (upd H (ρ l) (.frz od u)) := by
  have hl := lt_of_get e
  have at_ : ∀ i w, (h.set l o')[i]? = some w → (i = l ∧ w = o') ∨ (i ≠ l ∧ h[i]? = some w) := fun i w q => by
    by_cases hi : i = l
    · subst hi
      rw [List.getElem?_set_self hl] at q
      exact .inl ⟨rfl, (Option.some.inj q).symm⟩
    · rw [List.getElem?_set_ne (Ne.symm hi)] at q
      exact .inr ⟨hi, q⟩
  have sq : TupK K H (upd H (ρ l) (.frz od u)) := ⟨fun a vs q => by
    rw [upd_ne (fun z => by rw [z, e0] at q; cases q; cases m0)]; exact q, fun a vs q => by
    rcases q with (q | ⟨od, q⟩) | q
    · refine .inl (.inl ?_)
      rw [upd_ne (fun z => by rw [z, e0] at q; cases q; cases m0)]; exact q
    · refine .inl (.inr ⟨od, ?_⟩)
      rw [upd_ne (fun z => by rw [z, e0] at q; cases q; cases m0)]; exact q
    · exact .inr q⟩
  refine ⟨fun i j o1 o2 e1 e2 n1 n2 q => ?_, fun i w q => ?_⟩
  · have f : ∀ i o1, (h.set l o')[i]? = some o1 → isR0 o1 = false → ∃ w, h[i]? = some w ∧ isR0 w = false := fun i o1 q n1 => by
      rcases at_ i o1 q with ⟨rfl, rfl⟩ | ⟨_, q⟩
      · exact ⟨o, e, isR0_of nr⟩
      · exact ⟨o1, q, n1⟩
    obtain ⟨w1, g1, m1⟩ := f i o1 e1 n1
    obtain ⟨w2, g2, m2⟩ := f j o2 e2 n2
    exact S.inj i j w1 w2 g1 g2 m1 m2 q
  · rw [List.length_set]
    rcases at_ i w q with ⟨rfl, rfl⟩ | ⟨hi, q⟩
    · exact ho
    · refine (S.obj i w q).move (fun _ _ => rfl) (Nat.le_refl _) sq (fun nw => upd_ne fun z => hi (S.inj i l w o q e (isR0_of nw) (isR0_of nr) z)) (fun vs z _ => ?_) (fun od u z => by rw [upd_ne (fun y => by rw [y, e0] at z; cases z; cases m0)]; exact z)
      rcases z with ⟨od, z⟩ | z
      · refine .inl ⟨od, ?_⟩
        rw [upd_ne (fun y => by rw [y, e0] at z; cases z; cases m0)]; exact z
      · exact .inr z
/-- behind the lock -/
theorem Sim.unlock (S : Sim K ρ h H) {l : Nat} {o o' : LO} {u : HO} {od : Obj} (e : h[l]? = some o) (n0 : isR0 o = false) (nr' : isRol o' = false) (e0 : H (ρ l) = some (.frz od u)) (m0 : ∀ od vs, HO.frz od u ≠ .frz od (.tup vs) ∧ HO.frz od u ≠ .frz od (.lst vs)) (ho : OR K ρ h.length (upd H (ρ l) u) o' (ρ l)) : Sim K ρ (h.set l o') (upd H (ρ l) u) := by
  have hl := lt_of_get e
  have at_ : ∀ i w, (h.set l o')[i]? = some w → (i = l ∧ w = o') ∨ (i ≠ l ∧ h[i]? = some w) := fun i w q => by
    by_cases hi : i = l
    · subst hi
      rw [List.getElem?_set_self hl] at q
      exact .inl ⟨rfl, (Option.some.inj q).symm⟩
    · rw [List.getElem?_set_ne (Ne.symm hi)] at q
      exact .inr ⟨hi, q⟩
  have sq : TupK K H (upd H (ρ l) u) := ⟨fun a vs q => by
    rw [upd_ne (fun z => by rw [z, e0] at q; cases q)]; exact q, fun a vs q => by
    rcases q with (q | ⟨od2, q⟩) | q
    · refine .inl (.inl ?_)
      rw [upd_ne (fun z => by rw [z, e0] at q; cases q)]; exact q
    · refine .inl (.inr ⟨od2, ?_⟩)
      rw [upd_ne (fun z => by
        rw [z, e0] at q
        have q' := Option.some.inj q
        cases q'
        exact (m0 od vs).1 rfl)]; exact q
    · exact .inr q⟩
  have inj : ∀ i w, i ≠ l → h[i]? = some w → isR0 w = false → ρ i ≠ ρ l := fun i w hi q nw z => hi (S.inj i l w o q e nw n0 z)
  refine ⟨fun i j o1 o2 e1 e2 n1 n2 q => ?_, fun i w q => ?_⟩
  · have f : ∀ i o1, (h.set l o')[i]? = some o1 → isR0 o1 = false → ∃ w, h[i]? = some w ∧ isR0 w = false := fun i o1 q n1 => by
      rcases at_ i o1 q with ⟨rfl, rfl⟩ | ⟨_, q⟩
      · exact ⟨o, e, n0⟩
      · exact ⟨o1, q, n1⟩
    obtain ⟨w1, g1, m1⟩ := f i o1 e1 n1
    obtain ⟨w2, g2, m2⟩ := f j o2 e2 n2
    exact S.inj i j w1 w2 g1 g2 m1 m2 q
  · rw [List.length_set]
    rcases at_ i w q with ⟨rfl, rfl⟩ | ⟨hi, q⟩
    · exact ho
    · by_cases nw : isR0 w = false
      · have ne := inj i w hi q nw
        exact (S.obj i w q).move (fun _ _ => rfl) (Nat.le_refl _) sq (fun _ => upd_ne ne) (fun vs z r => by
          rcases z with ⟨od, z⟩ | z
          · exact .inl ⟨od, by rw [upd_ne ne]; exact z⟩
          · exact .inr z) (fun od u z => by rw [upd_ne ne]; exact z)
      · cases w with
        | rol xs =>
          obtain ⟨vs, q1, q2⟩ := S.obj i _ q
          refine ⟨vs, q1.mono (fun _ _ => rfl) (Nat.le_refl _) sq, ?_⟩
          rcases q2 with ⟨od2, z⟩ | z
          · refine .inl ⟨od2, ?_⟩
            rw [upd_ne (fun y => by
              rw [y, e0] at z
              have q' := Option.some.inj z
              cases q'
              exact (m0 od vs).2 rfl)]; exact z
          · exact .inr z
        | _ => exact absurd rfl nw
theorem Grow.unlock {l : Nat} {o o' : LO} {u : HO} {od : Obj} (S : Sim K ρ h H) (e : h[l]? = some o) (nr : isRol o = false) (nc : ∀ c fs, o ≠ .ins c fs) (nr1 : isRol o' = true) (eH : H (ρ l) = some u) (g : Grow (h.set l o') ρ (upd H (ρ l) (.frz od u)) h' ρ' H') (e' : h'[l]? = some o') : Grow h ρ H (h'.set l o) ρ' (upd H' (ρ' l) u) := by
  have hl := lt_of_get e
  have hl' := lt_of_get e'
  have eq := g.eq l (by rw [List.length_set]; exact hl)
  have gle := g.le
  rw [List.length_set] at gle
  refine ⟨by rw [List.length_set]; exact gle, fun i hi => g.eq i (by rw [List.length_set]; exact hi), fun a w q ni => ?_, fun a i ni => ?_, fun i w q => ?_, fun i c fs q => ?_⟩
  · have ne : a ≠ ρ l := fun z => ni ⟨l, o, e, nr, z.symm⟩
    rw [eq, upd_ne ne]
    refine g.fr a w (by rw [upd_ne ne]; exact q) fun ⟨i, w2, q2, n2, z2⟩ => ni ?_
    by_cases hi : i = l
    · subst hi
      rw [List.getElem?_set_self hl] at q2; cases q2
      rw [nr1] at n2; cases n2
    · rw [List.getElem?_set_ne (Ne.symm hi)] at q2
      exact ⟨i, w2, q2, n2, z2⟩
  · obtain ⟨i, w, q, nw, z⟩ := i
    by_cases hi : i = l
    · subst hi
      rw [eq] at z
      exact absurd ⟨i, o, e, nr, z⟩ ni
    · rw [List.getElem?_set_ne (Ne.symm hi)] at q
      have z2 := g.new a ⟨i, w, q, nw, z⟩ fun ⟨j, w2, q2, n2, z2⟩ => ni ?_
      · have ne : a ≠ ρ l := fun z3 => ni ⟨l, o, e, nr, z3.symm⟩
        rwa [upd_ne ne] at z2
      · by_cases hj : j = l
        · subst hj
          exact ⟨j, o, e, nr, z2⟩
        · rw [List.getElem?_set_ne (Ne.symm hj)] at q2
          exact ⟨j, w2, q2, n2, z2⟩
  · by_cases hi : i = l
    · subst hi
      rw [e] at q; cases q
      exact ⟨o, List.getElem?_set_self hl', rfl⟩
    · obtain ⟨w2, q2, r2⟩ := g.rol i w (by rw [List.getElem?_set_ne (Ne.symm hi)]; exact q)
      exact ⟨w2, by rw [List.getElem?_set_ne (Ne.symm hi)]; exact q2, r2⟩
  · by_cases hi : i = l
    · subst hi
      rw [e] at q; cases q
      exact absurd rfl (nc c fs)
    · obtain ⟨fs2, q2⟩ := g.cl i c fs (by rw [List.getElem?_set_ne (Ne.symm hi)]; exact q)
      exact ⟨fs2, by rw [List.getElem?_set_ne (Ne.symm hi)]; exact q2⟩
end

/-! ### names -/
def SR (K : PySem.W.Frag) (ρ : Nat → Addr) (n : Nat) (H : Hp) (s : En) (σ : St) : Prop := s.length = σ.length ∧ ∀ (i : Nat) (t : T), s[i]? = some (some t) → ∃ v, σ[i]? = some (some v) ∧ VR K ρ n H t v
section
variable {K : PySem.W.Frag} {ρ ρ' : Nat → Addr} {h h' : LH} {H H' : Hp} {s : En} {σ : St}
theorem SR.grow (S : Sim K ρ h H) (g : Grow h ρ H h' ρ' H') (r : SR K ρ h.length H s σ) : SR K ρ' h'.length H' s σ := ⟨r.1, fun i t e => by
  obtain ⟨v, e', q⟩ := r.2 i t e
  exact ⟨v, e', q.grow S g⟩⟩
theorem SR.set {n : Nat} (r : SR K ρ n H s σ) {i : Nat} {t : T} {v : V} (q : VR K ρ n H t v) : SR K ρ n H (s.set i (some t)) (σ.set i (some v)) := by
  refine ⟨by rw [List.length_set, List.length_set, r.1], fun j u e => ?_⟩
  by_cases hj : i = j
  · subst hj
    have hl := lt_of_get e
    rw [List.length_set] at hl
    rw [List.getElem?_set_self hl] at e
    cases e
    exact ⟨v, List.getElem?_set_self (by rw [← r.1]; exact hl), q⟩
  · rw [List.getElem?_set_ne hj] at e
    obtain ⟨w, e', q'⟩ := r.2 j u e
    exact ⟨w, by rw [List.getElem?_set_ne hj]; exact e', q'⟩
theorem SR.unset {n : Nat} (r : SR K ρ n H s σ) {i : Nat} : SR K ρ n H (s.set i none) (σ.set i none) := by
  refine ⟨by rw [List.length_set, List.length_set, r.1], fun j u e => ?_⟩
  by_cases hj : i = j
  · subst hj
    have hl := lt_of_get e
    rw [List.length_set] at hl
    rw [List.getElem?_set_self hl] at e
    cases e
  · rw [List.getElem?_set_ne hj] at e
    obtain ⟨w, e', q'⟩ := r.2 j u e
    exact ⟨w, by rw [List.getElem?_set_ne hj]; exact e', q'⟩
theorem SR.wipe {n : Nat} (r : SR K ρ n H s σ) : ∀ vs : List Nat, SR K ρ n H (wipeN s vs) (wipe σ vs)
  | [] => r
  | _ :: vs => (SR.wipe r vs).unset
end

/-! ### what is wanted behind a run -/
def XR (K : PySem.W.Frag) (ρ : Nat → Addr) (n : Nat) (H : Hp) (e : Ex) (c : Value) (d : Option Addr) : Prop :=
  c = .ref (He.ga K e.c) ∧ ((e.fs = [] ∧ d = none) ∨ ∃ dx fv, d = some dx ∧ H dx = some (.xd fv) ∧ PR K ρ n H e.fs fv)
def After {α : Type} (r : Res α) (k : α → LH → Prop) (x : Ex → LH → Prop) : Prop := match r with
  | .ok a h => k a h
  | .exc e h => x e h
  | .fail => False
abbrev Kt (α : Type) := (Nat → Addr) → LH → Hp → α → Prop
def Wg {α : Type} (K : PySem.W.Frag) (E : XK) (ρ : Nat → Addr) (h : LH) (H : Hp) (r : Res α) (k : Kt α) : Prop :=
  After r (fun a h' => ∀ ρ' H', Grow h ρ H h' ρ' H' → Sim K ρ' h' H' → k ρ' h' H' a) fun e h' => ∀ ρ' H' c d, Grow h ρ H h' ρ' H' → Sim K ρ' h' H' → XR K ρ' h'.length H' e c d → E c d H'
section
variable {α β : Type} {K : PySem.W.Frag} {E : XK} {ρ ρ' : Nat → Addr} {h h' : LH} {H H' : Hp} {k : Kt β} {k1 : Kt α}
theorem Wg.from_ {r : Res β} (g : Grow h ρ H h' ρ' H') (w : Wg K E ρ h H r k) : Wg K E ρ' h' H' r k := by
  cases r with
  | ok a h2 => exact fun ρ2 H2 g2 S2 => w ρ2 H2 (g.trans g2) S2
  | exc e h2 => exact fun ρ2 H2 c d g2 S2 x => w ρ2 H2 c d (g.trans g2) S2 x
  | fail => exact w
theorem Wg.bind {m : M α} {f : α → M β} (w : Wg K E ρ h H (bnd m f h) k)
    (q : ∀ a h1 ρ1 H1, Grow h ρ H h1 ρ1 H1 → Sim K ρ1 h1 H1 → Wg K E ρ1 h1 H1 (f a h1) k → k1 ρ1 h1 H1 a) : Wg K E ρ h H (m h) k1 := by
  unfold bnd at w
  cases e : m h with
  | ok a h1 =>
    rw [e] at w
    exact fun ρ1 H1 g S => q a h1 ρ1 H1 g S (Wg.from_ g w)
  | exc x h1 =>
    rw [e] at w
    exact w
  | fail =>
    rw [e] at w
    exact w
theorem Wg.ret_ {a : β} (S : Sim K ρ h H) (w : Wg K E ρ h H (ret a h) k) : k ρ h H a := w ρ H Grow.refl S
theorem Wg.fl_ {Q : Prop} (w : Wg K E ρ h H (fl h) k) : Q := False.elim w
theorem Wg.opt_ {o : Option β} (S : Sim K ρ h H) (w : Wg K E ρ h H (opt o h) k) : ∃ a, o = some a ∧ k ρ h H a := by
  cases o with
  | none => exact False.elim w
  | some a => exact ⟨a, rfl, w ρ H Grow.refl S⟩
theorem Wg.rdH_ {f : LH → Option α} {g : α → M β} (S : Sim K ρ h H) (w : Wg K E ρ h H (bnd (rdH f) g h) k) : ∃ a, f h = some a ∧ Wg K E ρ h H (g a h) k := by
  unfold bnd rdH at w
  cases e : f h with
  | none =>
    rw [e] at w
    exact False.elim w
  | some a =>
    rw [e] at w
    exact ⟨a, rfl, w⟩
theorem Wg.mono {r : Res β} {k' : Kt β} (w : Wg K E ρ h H r k) (q : ∀ ρ' h' H' a, Grow h ρ H h' ρ' H' → Sim K ρ' h' H' → k ρ' h' H' a → k' ρ' h' H' a) : Wg K E ρ h H r k' := by
  cases r with
  | ok a h2 => exact fun ρ2 H2 g2 S2 => q ρ2 h2 H2 a g2 S2 (w ρ2 H2 g2 S2)
  | exc e h2 => exact w
  | fail => exact w
end
/-- behind an expression -/
def qV (K : PySem.W.Frag) (Q : VK) : Kt T := fun ρ h H t => ∀ v, VR K ρ h.length H t v → Q v H
def qVs (K : PySem.W.Frag) (Q : List V → Hp → Prop) : Kt (List T) := fun ρ h H t => ∀ v, VRs K ρ h.length H t v → Q v H
def qB (Q : Bool → Hp → Prop) : Kt Bool := fun _ _ H b => Q b H
def qS (K : PySem.W.Frag) (D : Ends) : Kt Fl := fun ρ h H f => match f with
  | .nx s => ∀ σ, SR K ρ h.length H s σ → D.nx σ H
  | .rt t => ∀ v, VR K ρ h.length H t v → D.rt v H
  | .bk s => ∀ σ, SR K ρ h.length H s σ → D.bk σ H
  | .ct s => ∀ σ, SR K ρ h.length H s σ → D.ct σ H
section
variable (K : PySem.W.Frag) (E : XK)
def rdE (m : En → M T) : TE := fun σ H Q => ∃ ρ h s, Sim K ρ h H ∧ SR K ρ h.length H s σ ∧ Wg K E ρ h H (m s h) (qV K Q)
def rdT (m : En → M Bool) : TT := fun σ H Q => ∃ ρ h s, Sim K ρ h H ∧ SR K ρ h.length H s σ ∧ Wg K E ρ h H (m s h) (qB Q)
def rdA (m : En → M (List T)) : TA := fun σ H Q => ∃ ρ h s, Sim K ρ h H ∧ SR K ρ h.length H s σ ∧ Wg K E ρ h H (m s h) (qVs K Q)
def rdS (m : En → M Fl) : TS := fun D σ H => ∃ ρ h s, Sim K ρ h H ∧ SR K ρ h.length H s σ ∧ Wg K E ρ h H (m s h) (qS K D)
end
section
variable {X : Cx}
theorem PE.imp {e : Expr} {t u : TE} (p : PE X e t) (q : ∀ σ H Q, u σ H Q → t σ H Q) : PE X e u := ⟨fun pins s σ H Q I w => p.run pins s σ H Q I (q σ H Q w)⟩
theorem PT.imp {e : Expr} {t u : TT} (p : PT X e t) (q : ∀ σ H Q, u σ H Q → t σ H Q) : PT X e u := ⟨fun pins s σ H Q I w => p.run pins s σ H Q I (q σ H Q w)⟩
theorem PW.imp {e : Expr} {t u : TT} (p : PW X e t) (q : ∀ σ H Q, u σ H Q → t σ H Q) : PW X e u := ⟨fun wh pins s σ H Q I w => p.run wh pins s σ H Q I (q σ H Q w)⟩
theorem PA.imp {e : List Expr} {t u : TA} (p : PA X e t) (q : ∀ σ H Q, u σ H Q → t σ H Q) : PA X e u := ⟨fun pos pins s σ H Q I w => p.run pos pins s σ H Q I (q σ H Q w)⟩
theorem PS.imp {e : Stmt} {t u : TS} (p : PS X e t) (q : ∀ D σ H, u D σ H → t D σ H) : PS X e u := ⟨fun pins s σ H D I w => p.run pins s σ H D I (q D σ H w)⟩
theorem PSs.imp {e : List Stmt} {t u : TS} (p : PSs X e t) (q : ∀ D σ H, u D σ H → t D σ H) : PSs X e u := ⟨fun pins s σ H D I w => p.run pins s σ H D I (q D σ H w)⟩
theorem PI.imp {g e : Expr} {t u : TI} (p : PI X g e t) (q : ∀ σ H R, u σ H R → t σ H R) : PI X g e u := ⟨fun pins s σ H Q I w => p.run pins s σ H Q I (q σ H Q w)⟩
end
end Y

/-! L3c: operators, built-ins and objects by runs. -/
namespace Y
open PySem PySem.Spec L2

theorem big_line : big ≤ sizeLine := by rw [sizeLine_eq]; decide
theorem upd_ext {H : Hp} {p : Addr} {x : HO} (hp : H p = none) : ∀ a o, H a = some o → upd H p x a = some o := fun a o e => by rw [upd_ne (ne_of_none e hp)]; exact e
section
variable {K : PySem.W.Frag} {E : XK} {ρ : Nat → Addr} {h : LH} {H : Hp} {Q : VK} {t : T} {v : V}
theorem VR.up {p : Addr} {x : HO} (hp : H p = none) {n : Nat} (r : VR K ρ n H t v) : VR K (put1 ρ n p) (n + 1) (upd H p x) t v := r.mono (fun l hl => put1_lt hl) (by omega) (tupK_ext (upd_ext hp))
theorem VRs.up {p : Addr} {x : HO} (hp : H p = none) {n : Nat} {ts : List T} {vs : List V} (r : VRs K ρ n H ts vs) : VRs K (put1 ρ n p) (n + 1) (upd H p x) ts vs := r.mono (fun l hl => put1_lt hl) (by omega) (tupK_ext (upd_ext hp))
theorem PR.up {κ : Type} {p : Addr} {x : HO} (hp : H p = none) {n : Nat} {ts : List (κ × T)} {vs : List (κ × V)} (r : PR K ρ n H ts vs) : PR K (put1 ρ n p) (n + 1) (upd H p x) ts vs := r.mono (fun l hl => put1_lt hl) (by omega) (tupK_ext (upd_ext hp))
theorem k_ret (S : Sim K ρ h H) (w : Wg K E ρ h H (.ok t h) (qV K Q)) (r : VR K ρ h.length H t v) : Q v H := w ρ H Grow.refl S v r
theorem k_neu {o : LO} {u : HO} (S : Sim K ρ h H) (w : Wg K E ρ h H (neu o h) (qV K Q)) {p : Addr} (hp : H p = none) (nr : isRol o = false) (ho : OR K (put1 ρ h.length p) (h.length + 1) (upd H p u) o p) : Q (.ref p) (upd H p u) := by
  obtain ⟨S', g⟩ := S.neu hp (upd_ext hp) nr ho
  have q := w _ _ g S' (.ref (put1 ρ h.length p h.length)) (.ref (by simp))
  rwa [put1_at] at q
theorem k_lst {xs : List T} {vs : List V} (S : Sim K ρ h H) (w : Wg K E ρ h H (neu (.lst xs) h) (qV K Q)) (r : VRs K ρ h.length H xs vs) : ∀ p, H p = none → Q (.ref p) (upd H p (.lst vs)) :=
  fun p hp => k_neu S w hp rfl ⟨vs, r.up hp, upd_same⟩
theorem k_tup {xs : List T} {vs : List V} (S : Sim K ρ h H) (w : Wg K E ρ h H (.ok (.tup xs) h) (qV K Q)) (r : VRs K ρ h.length H xs vs) : ∀ p, H p = none → Q (.ref p) (upd H p (.tup vs)) := fun p hp => by
  obtain ⟨S', g⟩ := S.more (upd_ext (x := HO.tup vs) hp)
  exact w _ _ g S' _ (.tup upd_same (r.grow S g))
theorem k_wr {α : Type} {k : Kt α} {a : α} {l : Nat} {o o' : LO} {u : HO} (S : Sim K ρ h H) (e : h[l]? = some o) (nr : isRol o = false) (nr' : isRol o' = false) (w : Wg K E ρ h H (.ok a (h.set l o')) k)
    (ho : OR K ρ h.length (upd H (ρ l) u) o' (ρ l)) (hc : ∀ c fs, o = .ins c fs → ∃ fs', o' = .ins c fs' := by intro _ _ e; first | cases e; done | exact ⟨_, by cases e; rfl⟩) : k ρ (h.set l o') (upd H (ρ l) u) a := by
  obtain ⟨S', g⟩ := S.wr e nr nr' ho hc
  exact w _ _ g S'
theorem lst_of {xs : List T} (S : Sim K ρ h H) (r : VR K ρ h.length H t v) (e : lstOf h t = some xs) : ∃ a vs, v = .ref a ∧ SqL K H a vs ∧ VRs K ρ h.length H xs vs := by
  cases r with
  | @ref l hl =>
    have e1 : (h[l]?).bind LO.items = some xs := e
    obtain ⟨o, e2, e3⟩ := Option.bind_eq_some_iff.mp e1
    have q := S.obj l o e2
    cases o with
    | lst ys =>
      cases e3
      obtain ⟨vs, q1, q2⟩ := q
      exact ⟨_, vs, rfl, SqL.of q2, q1⟩
    | rol ys =>
      cases e3
      obtain ⟨vs, q1, q2⟩ := q
      refine ⟨_, vs, rfl, ?_, q1⟩
      rcases q2 with ⟨od, q2⟩ | q2
      · exact .inl (.inr ⟨od, q2⟩)
      · exact .inr q2
    | _ => cases e3
  | _ => cases e
theorem wlst_of {xs : List T} (S : Sim K ρ h H) (r : VR K ρ h.length H t v) (e : wlstOf h t = some xs) : ∃ l vs, t = .ref l ∧ v = .ref (ρ l) ∧ h[l]? = some (.lst xs) ∧ H (ρ l) = some (.lst vs) ∧ VRs K ρ h.length H xs vs := by
  cases r with
  | @ref l hl =>
    have e1 : (h[l]?).bind LO.wlist = some xs := e
    obtain ⟨o, e2, e3⟩ := Option.bind_eq_some_iff.mp e1
    have q := S.obj l o e2
    cases o with
    | lst ys =>
      cases e3
      obtain ⟨vs, q1, q2⟩ := q
      exact ⟨l, vs, rfl, rfl, e2, q2, q1⟩
    | _ => cases e3
  | _ => cases e
theorem seq_of {xs : List T} (S : Sim K ρ h H) (r : VR K ρ h.length H t v) (e : seqOf h t = some xs) : ∃ a vs, v = .ref a ∧ (SqL K H a vs ∨ SqT K H a vs) ∧ VRs K ρ h.length H xs vs := by
  cases r with
  | tup q1 q2 =>
    cases e
    exact ⟨_, _, rfl, .inr (SqT.of q1), q2⟩
  | kt q1 q2 =>
    cases e
    exact ⟨_, _, rfl, .inr q1, q2⟩
  | @ref l hl =>
    obtain ⟨a, vs, q1, q2, q3⟩ := lst_of S (VR.ref (K := K) hl) (show lstOf h (.ref l) = some xs from e)
    exact ⟨a, vs, q1, .inl q2, q3⟩
  | _ => cases e
/-- an object by its number -/
theorem obj_of {l : Nat} {o : LO} (S : Sim K ρ h H) (r : VR K ρ h.length H (.ref l) v) (e : h[l]? = some o) : v = .ref (ρ l) ∧ OR K ρ h.length H o (ρ l) := by
  cases r
  exact ⟨rfl, S.obj l o e⟩
end

/-! ### data -/
section
variable {K : PySem.W.Frag} {ρ : Nat → Addr} {h : LH} {H : Hp}
theorem dpAll_of (n : Nat) (ih : ∀ {t : T} {v : V} {d : PyData}, VR K ρ h.length H t v → datH h n t = some d → Dp K H v d) : ∀ {xs : List T} {vs : List V} {ds : List PyData}, VRs K ρ h.length H xs vs → allO (xs.map (datH h n)) = some ds → DpAll K H vs ds
  | _, _, ds, .nil, e => by
    cases e
    exact .nil
  | x :: xs, v :: vs, ds, .cons r rs, e => by
    have e1 : allO (datH h n x :: xs.map (datH h n)) = some ds := e
    cases q : datH h n x with
    | none =>
      rw [q] at e1
      cases e1
    | some d =>
      rw [q] at e1
      obtain ⟨ds', e2, e3⟩ := Option.map_eq_some_iff.mp (show (allO (xs.map (datH h n))).map (d :: ·) = some ds from e1)
      subst e3
      exact .cons (ih r q) (dpAll_of n ih rs e2)
theorem dp_of (S : Sim K ρ h H) : ∀ (n : Nat) {t : T} {v : V} {d : PyData}, VR K ρ h.length H t v → datH h n t = some d → Dp K H v d
  | n, _, _, d, .non, e => by
    cases n <;> (cases e; exact .non)
  | n, _, _, d, .bl b, e => by
    cases n <;> (cases e; exact .bl b)
  | n, _, _, d, .int b, e => by
    cases n <;> (cases e; exact .int b)
  | n, .str x, _, d, .str _, e => by
    have e' : (if PyData.strOk x = true then some (PyData.str x) else none) = some d := by cases n <;> exact e
    by_cases hx : PyData.strOk x = true
    · rw [if_pos hx] at e'
      cases e'
      exact .str x
    · rw [if_neg hx] at e'
      cases e'
  | n, _, _, d, .ty b, e => by
    cases n <;> cases e
  | 0, _, _, d, .ref hl, e => by cases e
  | 0, _, _, d, .tup q r, e => by cases e
  | 0, _, _, d, .kt q r, e => by cases e
  | n + 1, _, _, d, .tup q r, e => by
    obtain ⟨ds, e1, e2⟩ := Option.map_eq_some_iff.mp (show (allO (List.map (datH h n) _)).map PyData.tuple = some d from e)
    subst e2
    exact .tup (SqT.of q) (dpAll_of n (dp_of S n) r e1)
  | n + 1, _, _, d, .kt q r, e => by
    obtain ⟨ds, e1, e2⟩ := Option.map_eq_some_iff.mp (show (allO (List.map (datH h n) _)).map PyData.tuple = some d from e)
    subst e2
    exact .tup q (dpAll_of n (dp_of S n) r e1)
  | n + 1, .ref l, _, d, .ref hl, e => by
    have e0 : (match (h[l]?).bind LO.items with
      | some xs => (allO (xs.map (datH h n))).map PyData.list
      | none => none) = some d := e
    cases q : (h[l]?).bind LO.items with
    | none =>
      rw [q] at e0
      cases e0
    | some xs =>
      rw [q] at e0
      obtain ⟨a, vs, q1, q2, q3⟩ := lst_of S (VR.ref (K := K) (ρ := ρ) (H := H) hl) (show lstOf h (.ref l) = some xs from q)
      cases q1
      obtain ⟨ds, e1, e2⟩ := Option.map_eq_some_iff.mp e0
      subst e2
      exact .lst q2 (dpAll_of n (dp_of S n) q3 e1)
end

theorem allO_mem {h : LH} (n : Nat) (P : PyData → Prop) (ih : ∀ {t : T} {d : PyData}, datH h n t = some d → P d) : ∀ {xs : List T} {ds : List PyData}, allO (xs.map (datH h n)) = some ds → ∀ d ∈ ds, P d
  | [], ds, e => by
    cases e
    simp
  | x :: xs, ds, e => by
    have e1 : allO (datH h n x :: xs.map (datH h n)) = some ds := e
    cases q : datH h n x with
    | none =>
      rw [q] at e1
      cases e1
    | some d =>
      rw [q] at e1
      obtain ⟨ds', e2, e3⟩ := Option.map_eq_some_iff.mp (show (allO (xs.map (datH h n))).map (d :: ·) = some ds from e1)
      subst e3
      intro d' hd
      rcases List.mem_cons.mp hd with rfl | hd
      · exact ih q
      · exact allO_mem n P ih e2 d' hd
theorem canLayAll_mem : ∀ {ds : List PyData}, (∀ d ∈ ds, PyData.canLay0 d = true) → PyData.canLayAll0 ds = true
  | [], _ => by simp only [PyData.canLayAll0]
  | d :: ds, h => by
    simp only [PyData.canLayAll0, Bool.and_eq_true]
    exact ⟨h d (by simp), canLayAll_mem fun x hx => h x (by simp [hx])⟩
theorem depthAll_mem {k : Nat} : ∀ {ds : List PyData}, (∀ d ∈ ds, PyData.depth d ≤ k) → PyData.depthAll ds ≤ k
  | [], _ => by simp only [PyData.depthAll]; omega
  | d :: ds, h => by
    simp only [PyData.depthAll]
    have h1 := h d (by simp)
    have h2 := depthAll_mem (k := k) (ds := ds) fun x hx => h x (by simp [hx])
    omega
theorem dat_shape {h : LH} : ∀ (n : Nat) {t : T} {d : PyData}, datH h n t = some d → PyData.canLay0 d = true ∧ PyData.depth d ≤ n
  | n, .non, d, e => by cases n <;> (cases e; simp [PyData.canLay0, PyData.depth])
  | n, .bl _, d, e => by cases n <;> (cases e; simp [PyData.canLay0, PyData.depth])
  | n, .int _, d, e => by cases n <;> (cases e; simp [PyData.canLay0, PyData.depth])
  | n, .str x, d, e => by
    have e' : (if PyData.strOk x = true then some (PyData.str x) else none) = some d := by cases n <;> exact e
    by_cases hx : PyData.strOk x = true
    · rw [if_pos hx] at e'
      cases e'
      simp [PyData.canLay0, PyData.depth, hx]
    · rw [if_neg hx] at e'
      cases e'
  | n, .ty _, d, e => by cases n <;> cases e
  | 0, .tup _, d, e => by cases e
  | 0, .kt _, d, e => by cases e
  | 0, .ref _, d, e => by cases e
  | n + 1, .tup xs, d, e => by
    obtain ⟨ds, e1, e2⟩ := Option.map_eq_some_iff.mp (show (allO (List.map (datH h n) xs)).map PyData.tuple = some d from e)
    subst e2
    simp only [PyData.canLay0, PyData.depth]
    have m1 := allO_mem n (fun d => PyData.canLay0 d = true) (fun q => (dat_shape n q).1) e1
    have m2 := allO_mem n (fun d => PyData.depth d ≤ n) (fun q => (dat_shape n q).2) e1
    exact ⟨canLayAll_mem m1, Nat.succ_le_succ (depthAll_mem m2)⟩
  | n + 1, .kt xs, d, e => by
    obtain ⟨ds, e1, e2⟩ := Option.map_eq_some_iff.mp (show (allO (List.map (datH h n) xs)).map PyData.tuple = some d from e)
    subst e2
    simp only [PyData.canLay0, PyData.depth]
    have m1 := allO_mem n (fun d => PyData.canLay0 d = true) (fun q => (dat_shape n q).1) e1
    have m2 := allO_mem n (fun d => PyData.depth d ≤ n) (fun q => (dat_shape n q).2) e1
    exact ⟨canLayAll_mem m1, Nat.succ_le_succ (depthAll_mem m2)⟩
  | n + 1, .ref l, d, e => by
    have e0 : (match (h[l]?).bind LO.items with
      | some xs => (allO (xs.map (datH h n))).map PyData.list
      | none => none) = some d := e
    cases q : (h[l]?).bind LO.items with
    | none =>
      rw [q] at e0
      cases e0
    | some xs =>
      rw [q] at e0
      obtain ⟨ds, e1, e2⟩ := Option.map_eq_some_iff.mp e0
      subst e2
      simp only [PyData.canLay0, PyData.depth]
      have m1 := allO_mem n (fun d => PyData.canLay0 d = true) (fun q => (dat_shape n q).1) e1
      have m2 := allO_mem n (fun d => PyData.depth d ≤ n) (fun q => (dat_shape n q).2) e1
      exact ⟨canLayAll_mem m1, Nat.succ_le_succ (depthAll_mem m2)⟩
theorem dat_shaped {h : LH} {t : T} {d : PyData} (e : datH h 8 t = some d) : SeqAt.shaped d = true := by
  obtain ⟨h1, h2⟩ := dat_shape 8 e
  unfold SeqAt.shaped
  rw [h1, decide_eq_true (show PyData.depth d ≤ 64 by omega)]
  rfl

section
variable {K : PySem.W.Frag} {ρ : Nat → Addr} {n : Nat} {H : Hp}
theorem intsOf_V : ∀ {ts : List T} {vs : List V} {ns : List Int}, VRs K ρ n H ts vs → intsOf ts = some ns → vs = ns.map V.int
  | [], [], _, .nil, e => by cases e; rfl
  | t :: ts, v :: vs, ns, .cons r rs, e => by
    cases r with
    | int i =>
      obtain ⟨ms, e1, e2⟩ := Option.map_eq_some_iff.mp (show (intsOf ts).map (i :: ·) = some ns from e)
      subst e2
      rw [List.map_cons, intsOf_V rs e1]
    | _ => cases e
theorem strsOf_V : ∀ {ts : List T} {vs : List V} {ns : List Str}, VRs K ρ n H ts vs → strsOf ts = some ns → vs = ns.map V.str
  | [], [], _, .nil, e => by cases e; rfl
  | t :: ts, v :: vs, ns, .cons r rs, e => by
    cases r with
    | str i =>
      obtain ⟨ms, e1, e2⟩ := Option.map_eq_some_iff.mp (show (strsOf ts).map (i :: ·) = some ns from e)
      subst e2
      rw [List.map_cons, strsOf_V rs e1]
    | _ => cases e
end
/-! ### operators -/
section
variable {X : Cx} {E : XK}
/-- two values and what a run of both gives -/
def r2M (K : PySem.W.Frag) (E : XK) (f : T → T → M T) : R2 := fun x y H Q => ∃ ρ h t u, Sim K ρ h H ∧ VR K ρ h.length H t x ∧ VR K ρ h.length H u y ∧ Wg K E ρ h H (f t u h) (qV K Q)
theorem mulOk_ok {a b : Int} (e : mulOk a b = true) : CMul a b := by
  unfold mulOk at e
  rw [decide_eq_true_eq] at e
  exact e
theorem powOk_ok {a b : Int} (e : powOk a b = true) : CPow a b := by
  unfold powOk at e
  rw [decide_eq_true_eq] at e
  exact e
theorem opBin {o : Operator} : OpR X (binaryOp o) (r2M X.K E (binOp o)) := by
  rintro pins s σ H x y v u Q I rx ry ⟨ρ, h, t, w, S, r1, r2, W⟩
  unfold binOp at W
  cases r1 with
  | int a =>
    cases r2 with
    | int b =>
      obtain ⟨z, e, q⟩ := Wg.opt_ S W
      have fin : ∀ i, z = .int i → Q (.int i) H := fun i ez => q _ (by rw [ez]; exact .int i)
      cases o with
      | Add => cases e; exact op_add pins s σ H _ _ v u Q I rx ry ⟨a, b, rfl, rfl, fin _ rfl⟩
      | Sub => cases e; exact op_sub pins s σ H _ _ v u Q I rx ry ⟨a, b, rfl, rfl, fin _ rfl⟩
      | Mult =>
        have e' : (if mulOk a b = true then some (T.int (a * b)) else none) = some z := e
        by_cases c : mulOk a b = true
        · rw [if_pos c] at e'
          cases e'
          exact op_mul pins s σ H _ _ v u Q I rx ry ⟨a, b, rfl, rfl, mulOk_ok c, fin _ rfl⟩
        · rw [if_neg c] at e'; cases e'
      | FloorDiv =>
        have e' : (if divOk b = true then some (T.int (a / b)) else none) = some z := e
        by_cases c : divOk b = true
        · rw [if_pos c] at e'
          cases e'
          obtain ⟨c1, c2⟩ := Bool.and_eq_true_iff.mp c
          exact op_fdivW pins s σ H _ _ v u Q I rx ry ⟨a, b, rfl, rfl, ⟨of_decide_eq_true c1, of_decide_eq_true c2⟩, fin _ rfl⟩
        · rw [if_neg c] at e'; cases e'
      | Mod =>
        have e' : (if 0 < b then some (T.int (a % b)) else none) = some z := e
        by_cases c : 0 < b
        · rw [if_pos c] at e'
          cases e'
          exact op_mod pins s σ H _ _ v u Q I rx ry ⟨a, b, rfl, rfl, c, fin _ rfl⟩
        · rw [if_neg c] at e'; cases e'
      | Pow =>
        have e' : (if powOk a b = true then some (T.int (a ^ b.toNat)) else none) = some z := e
        by_cases c : powOk a b = true
        · rw [if_pos c] at e'
          cases e'
          exact op_pow pins s σ H _ _ v u Q I rx ry ⟨a, b, rfl, rfl, powOk_ok c, fin _ rfl⟩
        · rw [if_neg c] at e'; cases e'
      | LShift =>
        have e' : (if powOk a b = true then some (T.int (a * 2 ^ b.toNat)) else none) = some z := e
        by_cases c : powOk a b = true
        · rw [if_pos c] at e'
          cases e'
          exact op_shl pins s σ H _ _ v u Q I rx ry ⟨a, b, rfl, rfl, powOk_ok c, fin _ rfl⟩
        · rw [if_neg c] at e'; cases e'
      | RShift =>
        have e' : (if 0 ≤ b then some (T.int (a / 2 ^ b.toNat)) else none) = some z := e
        by_cases c : 0 ≤ b
        · rw [if_pos c] at e'
          cases e'
          exact op_shr pins s σ H _ _ v u Q I rx ry ⟨a, b, rfl, rfl, c, fin _ rfl⟩
        · rw [if_neg c] at e'; cases e'
      | BitAnd =>
        have e' : (if 0 ≤ a ∧ 0 ≤ b then some (T.int ((a.toNat &&& b.toNat : Nat) : Int)) else none) = some z := e
        by_cases c : 0 ≤ a ∧ 0 ≤ b
        · rw [if_pos c] at e'
          cases e'
          exact op_and pins s σ H _ _ v u Q I rx ry ⟨a, b, rfl, rfl, by
            have : Builtin.bitAnd a b = ((a.toNat &&& b.toNat : Nat) : Int) := by
              unfold Builtin.bitAnd
              rw [decide_eq_true c.1, decide_eq_true c.2]
            show Q (V.int (Builtin.bitAnd a b)) H; rw [this]; exact fin _ rfl⟩
        · rw [if_neg c] at e'; cases e'
      | _ => cases e
    | _ => exact False.elim W
  | str a =>
    cases r2 with
    | str b =>
      dsimp only at W
      split at W
      · rename_i c
        obtain ⟨rfl, c2⟩ := c
        exact op_add_str pins s σ H _ _ v u Q I rx ry ⟨a, b, rfl, rfl, Nat.le_trans c2 big_line, k_ret S W (.str _)⟩
      · exact False.elim W
    | _ => exact False.elim W
  | tup q1 p1 =>
    cases r2 with
    | tup q2 p2 =>
      dsimp only at W
      split at W
      · rename_i c
        obtain ⟨rfl, c2⟩ := c
        have l1 := p1.len
        have l2 := p2.len
        refine op_catA pins s σ H _ _ v u Q I rx ry ⟨_, _, _, _, rfl, rfl, SqT.of q1, SqT.of q2, ?_, fun c3 => ?_, fun _ c3 => ?_, fun _ _ => k_tup S W (p1.append p2)⟩
        · rw [← l1, ← l2]
          exact Nat.le_trans c2 big_line
        · rw [c3] at l1
          have z := List.length_eq_zero_iff.mp l1
          rw [z, List.nil_append] at W
          exact k_ret S W (.tup q2 p2)
        · rw [c3] at l2
          have z := List.length_eq_zero_iff.mp l2
          rw [z, List.append_nil] at W
          exact k_ret S W (.tup q1 p1)
      · exact False.elim W
    | int n =>
      dsimp only at W
      split at W
      · rename_i c
        obtain ⟨rfl, c1, c2, c3, c4⟩ := c
        have l1 := p1.len
        have rep : ∀ m : Nat, VRs X.K ρ h.length H (List.replicate m _).flatten (List.replicate m _).flatten := fun m => by
          induction m with
          | zero => exact .nil
          | succ m ih => rw [List.replicate_succ, List.replicate_succ, List.flatten_cons, List.flatten_cons]; exact p1.append ih
        refine op_repA pins s σ H _ _ v u Q I rx ry ⟨_, n, _, rfl, rfl, SqT.of q1, ?_, c2, c3, by omega, fun c5 => ?_, fun _ => k_tup S W (rep _)⟩
        · intro z
          rw [z] at l1
          exact c1 (List.length_eq_zero_iff.mp l1)
        · subst c5
          have e1 : (List.replicate (1 : Int).toNat ‹List T›).flatten = ‹List T› := by simp
          rw [e1] at W
          exact k_ret S W (.tup q1 p1)
      · exact False.elim W
    | _ => exact False.elim W
  | ref hl =>
    cases r2 with
    | ref hk =>
      dsimp only at W
      split at W
      · rename_i xs ys e1 e2
        split at W
        · rename_i c
          obtain ⟨rfl, c2⟩ := c
          obtain ⟨l, vs, a1, a2, a3, a4, a5⟩ := wlst_of S (VR.ref (K := X.K) (ρ := ρ) (H := H) hl) e1
          obtain ⟨k, ws, b1, b2, b3, b4, b5⟩ := wlst_of S (VR.ref (K := X.K) (ρ := ρ) (H := H) hk) e2
          cases a1
          cases b1
          refine op_cat pins s σ H _ _ v u Q I rx ry ⟨_, _, vs, ws, rfl, rfl, a4, b4, ?_, k_lst S W (a5.append b5)⟩
          rw [← a5.len, ← b5.len]
          exact Nat.le_trans c2 big_line
        · exact False.elim W
      · exact False.elim W
    | int n =>
      dsimp only at W
      split at W
      · rename_i xs e1
        split at W
        · rename_i c
          obtain ⟨rfl, c2, c3, c4⟩ := c
          obtain ⟨l, vs, a1, a2, a3, a4, a5⟩ := wlst_of S (VR.ref (K := X.K) (ρ := ρ) (H := H) hl) e1
          cases a1
          have hb : (big : Int) = 1000000 := rfl
          refine op_rep pins s σ H _ _ v u Q I rx ry ⟨_, n, vs, rfl, rfl, a4, by omega, by omega, ?_, k_lst S W ?_⟩
          · rw [← a5.len]
            exact Nat.le_trans c4 big_line
          · have rep : ∀ m : Nat, VRs X.K ρ h.length H (List.replicate m xs).flatten (List.replicate m vs).flatten := fun m => by
              induction m with
              | zero => exact .nil
              | succ m ih => rw [List.replicate_succ, List.replicate_succ, List.flatten_cons, List.flatten_cons]; exact a5.append ih
            exact rep _
        · exact False.elim W
      · exact False.elim W
    | _ => exact False.elim W
  | _ => exact False.elim W
end

section
variable {K : PySem.W.Frag} {ρ : Nat → Addr} {h : LH} {H : Hp} {n : Nat}
theorem VR.flat {t : T} {v : V} (r : VR K ρ n H t v) (f : flatT t = true) : flatV v = true := by
  cases r with
  | non => rfl
  | bl _ => rfl
  | int _ => rfl
  | str _ => rfl
  | _ => cases f
theorem VRs.flat : ∀ {ts : List T} {vs : List V}, VRs K ρ n H ts vs → ts.all flatT = true → vs.all flatV = true
  | _, _, .nil, _ => rfl
  | _, _, .cons r rs, f => by
    rw [List.all_cons, Bool.and_eq_true] at f ⊢
    exact ⟨r.flat f.1, rs.flat f.2⟩
theorem eqFlat_eq {t u : T} {v w : V} (r : VR K ρ n H t v) (q : VR K ρ n H u w) (f : flatT t = true) (g : flatT u = true) : eqV v w = eqFlat t u := by
  cases r <;> cases q <;> first | rfl | cases f | cases g
theorem inSeq_eq {x : T} {y : V} (r : VR K ρ n H x y) (f : flatT x = true) : ∀ {ts : List T} {vs : List V}, VRs K ρ n H ts vs → ts.all flatT = true → inV y vs = inSeq x ts
  | _, _, .nil, _ => rfl
  | _, _, .cons q qs, g => by
    rw [List.all_cons, Bool.and_eq_true] at g
    unfold inV inSeq
    rw [List.any_cons, List.any_cons]
    have e := inSeq_eq r f qs g.2
    unfold inV inSeq at e
    rw [e, eqFlat_eq q r g.1 f]
theorem VR.isNon {t : T} {v : V} (r : VR K ρ n H t v) : decide (v = .non) = decide (t = .non) := by
  cases r <;> first | rfl | (rw [decide_eq_false (fun e => nomatch e), decide_eq_false (fun e => nomatch e)])
theorem keyOf_eq {t : T} {v : V} {k : Key} (r : VR K ρ n H t v) (e : keyOf t = some k) : v = kV k := by
  cases r <;> cases e <;> rfl
theorem keysOf_eq : ∀ {ts : List T} {vs : List V} {ks : List Key}, VRs K ρ n H ts vs → keysOf ts = some ks → vs = ks.map kV
  | [], [], _, .nil, e => by cases e; rfl
  | t :: ts, _ :: _, ks, .cons r rs, e => by
    have e1 : (match keyOf t, keysOf ts with
      | some k, some ks => some (k :: ks)
      | _, _ => none) = some ks := e
    split at e1
    · rename_i k ks' e2 e3
      cases e1
      rw [List.map_cons, keyOf_eq r e2, keysOf_eq rs e3]
    · cases e1
theorem kget_cons {κ : Type} [DecidableEq κ] {j k : κ} {t : T} {l : List (κ × T)} : kget ((j, t) :: l) k = if j = k then some t else kget l k := by
  unfold kget
  by_cases e : j = k
  · rw [if_pos e, List.find?_cons_of_pos (by simp [e])]
    rfl
  · rw [if_neg e, List.find?_cons_of_neg (by simp [e])]
theorem valV_cons {κ : Type} [DecidableEq κ] {j k : κ} {t : V} {l : List (κ × V)} : valV ((j, t) :: l) k = if j = k then some t else valV l k := by
  unfold valV
  by_cases e : j = k
  · rw [if_pos e, List.find?_cons_of_pos (by simp [e])]
    rfl
  · rw [if_neg e, List.find?_cons_of_neg (by simp [e])]
theorem kget_eq {κ : Type} [DecidableEq κ] {k : κ} : ∀ {l : List (κ × T)} {r : List (κ × V)}, PR K ρ n H l r → (kget l k = none ∧ valV r k = none) ∨ ∃ t v, kget l k = some t ∧ valV r k = some v ∧ VR K ρ n H t v
  | [], [], .nil => .inl ⟨rfl, rfl⟩
  | (j, t) :: l, (_, v) :: r, .cons q qs => by
    rw [kget_cons, valV_cons]
    by_cases e : j = k
    · rw [if_pos e, if_pos e]
      exact .inr ⟨t, v, rfl, rfl, q⟩
    · rw [if_neg e, if_neg e]
      exact kget_eq qs
theorem PR.len {κ : Type} : ∀ {l : List (κ × T)} {r : List (κ × V)}, PR K ρ n H l r → l.length = r.length
  | _, _, .nil => rfl
  | _, _, .cons _ qs => by rw [List.length_cons, List.length_cons, PR.len qs]
theorem PR.append {κ : Type} : ∀ {l m : List (κ × T)} {r q : List (κ × V)}, PR K ρ n H l r → PR K ρ n H m q → PR K ρ n H (l ++ m) (r ++ q)
  | _, _, _, _, .nil, s => s
  | _, _, _, _, .cons a b, s => .cons a (PR.append b s)
theorem PR.any {κ : Type} {f : κ → Bool} : ∀ {l : List (κ × T)} {r : List (κ × V)}, PR K ρ n H l r → (l.any fun p => f p.1) = r.any fun p => f p.1
  | _, _, .nil => rfl
  | _, _, .cons _ b => by rw [List.any_cons, List.any_cons, PR.any b]
theorem PR.repl {κ : Type} [DecidableEq κ] {k : κ} {t : T} {v : V} (q : VR K ρ n H t v) : ∀ {l : List (κ × T)} {r : List (κ × V)}, PR K ρ n H l r → PR K ρ n H (l.map fun kv => if kv.1 = k then (kv.1, t) else kv) (r.map fun kv => if kv.1 = k then (kv.1, v) else kv)
  | _, _, .nil => .nil
  | _, _, .cons (k := j) a b => by
    rw [List.map_cons, List.map_cons]
    dsimp only
    by_cases e : j = k
    · rw [if_pos e, if_pos e]
      exact .cons q (PR.repl q b)
    · rw [if_neg e, if_neg e]
      exact .cons a (PR.repl q b)
theorem PR.put {κ : Type} [DecidableEq κ] {k : κ} {t : T} {v : V} (q : VR K ρ n H t v) {l : List (κ × T)} {r : List (κ × V)} (p : PR K ρ n H l r) : PR K ρ n H (kput l k t) (putK r k v) := by
  unfold kput putK
  rw [PR.any (f := fun j => decide (j = k)) p]
  split
  · exact p.repl q
  · exact p.append (.cons q .nil)
theorem PR.drop {κ : Type} [DecidableEq κ] {k : κ} : ∀ {l : List (κ × T)} {r : List (κ × V)}, PR K ρ n H l r → PR K ρ n H (kdrop l k) (dropK r k)
  | _, _, .nil => .nil
  | _, _, .cons (k := j) a b => by
    unfold kdrop dropK
    have ih := PR.drop (k := k) b
    unfold kdrop dropK at ih
    by_cases e : j = k
    · rw [List.filter_cons_of_neg (by simp [e]), List.filter_cons_of_neg (by simp [e])]
      exact ih
    · rw [List.filter_cons_of_pos (by simp [e]), List.filter_cons_of_pos (by simp [e])]
      exact .cons a ih
/-- what a dict holds at a key -/
theorem dget_of {l : Nat} {o : LO} {k : T} {y : V} {r : Option T} (S : Sim K ρ h H) (e : h[l]? = some o) (ry : VR K ρ h.length H k y) (hg : dgetO o k = some r) :
    ∃ r', DGet H (ρ l) y r' ∧ ((r = none ∧ r' = none) ∨ ∃ t v, r = some t ∧ r' = some v ∧ VR K ρ h.length H t v) := by
  have q := S.obj l o e
  cases o with
  | dK kvs =>
    obtain ⟨kv, p, ea⟩ := q
    obtain ⟨kk, e1, e2⟩ := Option.map_eq_some_iff.mp (show (keyOf k).map (fun k => kget kvs k) = some r from hg)
    refine ⟨valV kv kk, .inl ⟨kv, kk, .inl ea, keyOf_eq ry e1, rfl⟩, ?_⟩
    rw [← e2]
    exact kget_eq p
  | lkK kvs =>
    obtain ⟨kv, od, p, ea⟩ := q
    obtain ⟨kk, e1, e2⟩ := Option.map_eq_some_iff.mp (show (keyOf k).map (fun k => kget kvs k) = some r from hg)
    refine ⟨valV kv kk, .inl ⟨kv, kk, .inr ⟨od, ea⟩, keyOf_eq ry e1, rfl⟩, ?_⟩
    rw [← e2]
    exact kget_eq p
  | dT kvs =>
    obtain ⟨kv, p, ea⟩ := q
    cases ry with
    | tup q1 q2 =>
      obtain ⟨kk, e1, e2⟩ := Option.map_eq_some_iff.mp (show (keysOf _).map (fun k => kget kvs k) = some r from hg)
      have e3 := keysOf_eq q2 e1
      rw [e3] at q1
      refine ⟨valV kv kk, .inr ⟨kv, kk, _, .inl ea, rfl, q1, rfl⟩, ?_⟩
      rw [← e2]
      exact kget_eq p
    | _ => cases hg
  | lkT kvs =>
    obtain ⟨kv, od, p, ea⟩ := q
    cases ry with
    | tup q1 q2 =>
      obtain ⟨kk, e1, e2⟩ := Option.map_eq_some_iff.mp (show (keysOf _).map (fun k => kget kvs k) = some r from hg)
      have e3 := keysOf_eq q2 e1
      rw [e3] at q1
      refine ⟨valV kv kk, .inr ⟨kv, kk, _, .inr ⟨od, ea⟩, rfl, q1, rfl⟩, ?_⟩
      rw [← e2]
      exact kget_eq p
    | _ => cases hg
  | _ => cases hg
end
end Y

/-! L3d: comparisons, truth, subscripts, built-ins by runs. -/
namespace Y
open PySem PySem.Spec L2
theorem Sim.tupK {K : PySem.W.Frag} {ρ : Nat → Addr} {h : LH} {H : Hp} (S : Sim K ρ h H) {l : Nat} {o : LO} {u : HO} (e : h[l]? = some o) (nr : isRol o = false) : TupK K H (upd H (ρ l) u) := by
  obtain ⟨u0, e0, m0⟩ := (S.obj l o e).at nr
  exact ⟨fun a vs q => by
    rw [upd_ne (fun z => by rw [z, e0] at q; cases q; cases m0)]; exact q, fun a vs q => by
    rcases q with (q | ⟨od, q⟩) | q
    · refine .inl (.inl ?_)
      rw [upd_ne (fun z => by rw [z, e0] at q; cases q; cases m0)]; exact q
    · refine .inl (.inr ⟨od, ?_⟩)
      rw [upd_ne (fun z => by rw [z, e0] at q; cases q; cases m0)]; exact q
    · exact .inr q⟩
section
variable {K : PySem.W.Frag} {ρ : Nat → Addr} {h : LH} {H : Hp} {l : Nat} {o : LO} {u : HO} {n : Nat}
theorem VR.wr (S : Sim K ρ h H) (e : h[l]? = some o) (nr : isRol o = false) {t : T} {v : V} (r : VR K ρ n H t v) : VR K ρ n (upd H (ρ l) u) t v := r.mono (fun _ _ => rfl) (Nat.le_refl _) (S.tupK e nr)
theorem VRs.wr (S : Sim K ρ h H) (e : h[l]? = some o) (nr : isRol o = false) {t : List T} {v : List V} (r : VRs K ρ n H t v) : VRs K ρ n (upd H (ρ l) u) t v := r.mono (fun _ _ => rfl) (Nat.le_refl _) (S.tupK e nr)
theorem PR.wr {κ : Type} (S : Sim K ρ h H) (e : h[l]? = some o) (nr : isRol o = false) {t : List (κ × T)} {v : List (κ × V)} (r : PR K ρ n H t v) : PR K ρ n (upd H (ρ l) u) t v := r.mono (fun _ _ => rfl) (Nat.le_refl _) (S.tupK e nr)
end
section
variable {X : Cx} {E : XK}
def r2B (K : PySem.W.Frag) (E : XK) (f : T → T → M Bool) : R2 := fun x y H Q => ∃ ρ h t u, Sim K ρ h H ∧ VR K ρ h.length H t x ∧ VR K ρ h.length H u y ∧ Wg K E ρ h H (f t u h) (qB fun b H' => Q (.bl b) H')
theorem sign_one {x : Str} (e : x.length = 1) : x = ⟨#[x.cps.getD 0 0]⟩ := by
  obtain ⟨c⟩ := x
  have e' : c.size = 1 := e
  have : c = #[c.getD 0 0] := by
    apply Array.ext
    · simpa using e'
    · intro i h1 h2
      have : i = 0 := by simpa using h2
      subst this
      simp [Array.getD, e']
  exact congrArg Str.mk this
/-- in, not in: what is asked -/
theorem in_leaf (hu : X.A.units + 65 < cLine) {pins : List (Addr × Obj)} {s : Shared} {σ : L2.St} {H : Hp} {x y : V} {v u : Value} {Q : VK} {ρ : Nat → Addr} {h : LH} {t w : T} {b : Bool} (I : Inv X pins σ H s) (rx : RelV x v) (ry : RelV y u) (S : Sim X.K ρ h H)
    (r1 : VR X.K ρ h.length H t x) (r2 : VR X.K ρ h.length H w y) (e : inH h t w = some b) :
    (Q (.bl b) H → wpAny (model X.prog X.w) X.A (compareOp .In v u) (EP X pins σ Q) X.xe s) ∧ (Q (.bl (!b)) H → wpAny (model X.prog X.w) X.A (compareOp .NotIn v u) (EP X pins σ Q) X.xe s) := by
  have hu1 : X.A.units + 1 < cLine := by omega
  have seq : ∀ {a : Addr} {xs : List T} {vs : List V}, y = .ref a → (SqL X.K H a vs ∨ SqT X.K H a vs) → VRs X.K ρ h.length H xs vs → (if flatT t = true ∧ xs.all flatT = true then some (inSeq t xs) else none) = some b →
      (Q (.bl b) H → wpAny (model X.prog X.w) X.A (compareOp .In v u) (EP X pins σ Q) X.xe s) ∧ (Q (.bl (!b)) H → wpAny (model X.prog X.w) X.A (compareOp .NotIn v u) (EP X pins σ Q) X.xe s) := by
    intro a xs vs ey hs rs e
    by_cases c : flatT t = true ∧ xs.all flatT = true
    · rw [if_pos c] at e
      cases e
      have ee := inSeq_eq r1 c.1 rs c.2
      refine ⟨fun q => op_in_seq pins s σ H x y v u Q I rx ry ⟨a, vs, ey, hs, r1.flat c.1, rs.flat c.2, ?_⟩, fun q => op_notIn_seq pins s σ H x y v u Q I rx ry ⟨a, vs, ey, hs, r1.flat c.1, rs.flat c.2, ?_⟩⟩
      · rw [if_neg Bool.false_ne_true, ee]; exact q
      · rw [if_pos rfl, ee]; exact q
    · rw [if_neg c] at e; cases e
  cases r2 with
  | tup q1 q2 => exact seq rfl (.inr (SqT.of q1)) q2 (by cases r1 <;> exact e)
  | kt q1 q2 => exact seq rfl (.inr q1) q2 (by cases r1 <;> exact e)
  | str z =>
    cases r1 with
    | str x0 =>
      have e' : (if x0.length = 1 ∧ z.length ≤ big then some (decide (x0.cps.getD 0 0 ∈ z.cps.toList)) else none) = some b := e
      by_cases c : x0.length = 1 ∧ z.length ≤ big
      · rw [if_pos c] at e'
        cases e'
        have hx := sign_one c.1
        generalize x0.cps.getD 0 0 = cc at hx ⊢
        subst hx
        exact ⟨fun q => op_in_sign pins s σ H _ _ v u Q I rx ry ⟨cc, z, rfl, rfl, q⟩, fun q => op_notIn_sign pins s σ H _ _ v u Q I rx ry ⟨cc, z, rfl, rfl, q⟩⟩
      · rw [if_neg c] at e'; cases e'
    | _ => cases e
  | @ref l hl =>
    have e0 : (match h[l]? with
      | some o => match o.items with
        | some xs => if flatT t = true ∧ xs.all flatT = true then some (inSeq t xs) else inTup h l t
        | none => (dgetO o t).map (·.isSome)
      | none => none) = some b := by cases r1 <;> exact e
    cases q : h[l]? with
    | none => rw [q] at e0; cases e0
    | some o =>
      rw [q] at e0
      dsimp only at e0
      cases q2 : o.items with
      | some xs =>
        rw [q2] at e0
        dsimp only at e0
        obtain ⟨a, vs, a1, a2, a3⟩ := lst_of S (VR.ref (K := X.K) (ρ := ρ) (H := H) hl) (show (h[l]?).bind LO.items = some xs by rw [q]; exact q2)
        by_cases cf : flatT t = true ∧ xs.all flatT = true
        · rw [if_pos cf] at e0
          exact seq a1 (.inl a2) a3 (by rw [if_pos cf]; exact e0)
        · rw [if_neg cf] at e0
          cases t with
          | tup as =>
            have e3 : (match datH h 8 (.tup as), datH h 8 (.ref l) with
              | some d, some (.list ds) => some (ds.any fun z => PyData.eqv z d)
              | _, _ => none) = some b := e0
            split at e3
            · rename_i d ds z1 z2
              cases e3
              have rl : VR X.K ρ h.length H (.ref l) (.ref (ρ l)) := VR.ref hl
              exact ⟨fun q => op_inD hu pins s σ H _ _ v u Q I rx ry ⟨d, ds, dp_of S 8 r1 z1, dp_of S 8 rl z2, dat_shaped z1, dat_shaped z2, q⟩, fun q => op_notInD hu pins s σ H _ _ v u Q I rx ry ⟨d, ds, dp_of S 8 r1 z1, dp_of S 8 rl z2, dat_shaped z1, dat_shaped z2, q⟩⟩
            · cases e3
          | _ => cases e0
      | none =>
        rw [q2] at e0
        obtain ⟨r, e1, e2⟩ := Option.map_eq_some_iff.mp e0
        obtain ⟨r', d, z⟩ := dget_of S q r1 e1
        have eb : r'.isSome = b := by
          rw [← e2]
          rcases z with ⟨z1, z2⟩ | ⟨t1, v1, z1, z2, _⟩
          · rw [z1, z2]; rfl
          · rw [z1, z2]; rfl
        cases (show u = Value.ref (ρ l) from ry)
        exact ⟨fun hq => d_in hu1 I d rx fun s' I' => ⟨.bl r'.isSome, H, I', rfl, by rw [eb]; exact hq⟩, fun hq => d_notIn hu1 I d rx fun s' I' => ⟨.bl (!r'.isSome), H, I', rfl, by rw [eb]; exact hq⟩⟩
  | _ => cases r1 <;> cases e
theorem opCmp (hu5 : X.A.units + 65 < cLine) {o : CmpOp} : OpR X (compareOp o) (r2B X.K E (cmpOp o)) := by
  have hu : X.A.units + 64 < cLine := by omega
  rintro pins s σ H x y v u Q I rx ry ⟨ρ, h, t, w, S, r1, r2, W⟩
  have intC : ∀ {p : Int → Int → Bool} {o : CmpOp} (ho : OpR X (compareOp o) (rI0 fun i j => .bl (p i j))) (hc : ∀ i j, cmpI o i j = some (p i j))
      (ht : ∀ ns ms z, cmpTT o ns ms = some z → ∀ {a b : Addr}, SqT X.K H a (ns.map V.int) → SqT X.K H b (ms.map V.int) → x = .ref a → y = .ref b → Q (.bl z) H → wpAny (model X.prog X.w) X.A (compareOp o v u) (EP X pins σ Q) X.xe s),
      Wg X.K E ρ h H (opt (cmpO o t w) h) (qB fun b H' => Q (.bl b) H') → wpAny (model X.prog X.w) X.A (compareOp o v u) (EP X pins σ Q) X.xe s := by
    intro p o ho hc ht W
    obtain ⟨z, e, q⟩ := Wg.opt_ S W
    cases r1 with
    | int a =>
      cases r2 with
      | int b =>
        have e' : cmpI o a b = some z := e
        rw [hc] at e'
        cases e'
        exact ho pins s σ H _ _ v u Q I rx ry ⟨a, b, rfl, rfl, q⟩
      | _ => cases e
    | tup q1 p1 =>
      cases r2 with
      | tup q2 p2 =>
        have e' : (match intsOf _, intsOf _ with
          | some ns, some ms => cmpTT o ns ms
          | _, _ => none) = some z := e
        split at e'
        · rename_i ns ms z1 z2
          have v1 := intsOf_V p1 z1
          have v2 := intsOf_V p2 z2
          rw [v1] at q1
          rw [v2] at q2
          exact ht ns ms z e' (SqT.of q1) (SqT.of q2) rfl rfl q
        · cases e'
      | _ => cases e
    | _ => cases r2 <;> cases e
  cases o with
  | Eq =>
    obtain ⟨z, e, q⟩ := Wg.opt_ S (show Wg X.K E ρ h H (opt (eqH h t w) h) _ from W)
    unfold eqH at e
    split at e
    · rename_i d1 d2 e1 e2
      cases e
      exact op_eqD hu pins s σ H x y v u Q I rx ry ⟨d1, d2, dp_of S 8 r1 e1, dp_of S 8 r2 e2, dat_shaped e1, dat_shaped e2, q⟩
    · cases e
  | NotEq =>
    obtain ⟨z, e, q⟩ := Wg.opt_ S (show Wg X.K E ρ h H (opt ((eqH h t w).map (!·)) h) _ from W)
    unfold eqH at e
    split at e
    · rename_i d1 d2 e1 e2
      cases e
      exact op_neD hu pins s σ H x y v u Q I rx ry ⟨d1, d2, dp_of S 8 r1 e1, dp_of S 8 r2 e2, dat_shaped e1, dat_shaped e2, q⟩
    · cases e
  | Lt => exact intC op_lt (fun _ _ => rfl) (fun ns ms z e a b h1 h2 ex ey q => by cases e; exact op_ltT (by omega) pins s σ H x y v u Q I rx ry ⟨a, b, ns, ms, ex, ey, h1, h2, q⟩) W
  | LtE => exact intC op_le (fun _ _ => rfl) (fun ns ms z e a b h1 h2 ex ey q => by cases e; exact op_leI (by omega) pins s σ H x y v u Q I rx ry ⟨a, b, ns, ms, ex, ey, h1, h2, q⟩) W
  | Gt => exact intC op_gt (fun _ _ => rfl) (fun ns ms z e => by cases e) W
  | GtE => exact intC op_ge (fun _ _ => rfl) (fun ns ms z e => by cases e) W
  | Is =>
    cases r2 with
    | non => exact op_isN pins s σ H _ _ v u Q I rx ry ⟨rfl, by rw [r1.isNon]; exact W ρ H Grow.refl S⟩
    | _ => exact False.elim W
  | IsNot =>
    cases r2 with
    | non => exact op_notN pins s σ H _ _ v u Q I rx ry ⟨rfl, by rw [r1.isNon]; exact W ρ H Grow.refl S⟩
    | _ => exact False.elim W
  | In =>
    obtain ⟨z, e, q⟩ := Wg.opt_ S (show Wg X.K E ρ h H (opt (inH h t w) h) _ from W)
    exact (in_leaf hu5 I rx ry S r1 r2 e).1 q
  | NotIn =>
    obtain ⟨z, e, q⟩ := Wg.opt_ S (show Wg X.K E ρ h H (opt ((inH h t w).map (!·)) h) _ from W)
    obtain ⟨b, e1, e2⟩ := Option.map_eq_some_iff.mp e
    subst e2
    exact (in_leaf hu5 I rx ry S r1 r2 e1).2 q
/-- a value's truth -/
theorem tru_leaf {K : PySem.W.Frag} {H : Hp} {x : V} {ρ : Nat → Addr} {h : LH} {t : T} {b : Bool} (S : Sim K ρ h H) (r : VR K ρ h.length H t x) (e : truH h t = some b) : TruV K x H b := by
  cases r with
  | non => cases e; rfl
  | bl c => cases e; rfl
  | int i => cases e; rfl
  | str z =>
    have e' : (if z.length ≤ big then some (z.length != 0) else none) = some b := e
    by_cases c : z.length ≤ big
    · rw [if_pos c] at e'
      cases e'
      refine ⟨Nat.le_trans c big_line, ?_⟩
      cases z.length <;> rfl
    · rw [if_neg c] at e'; cases e'
  | ty z => cases e
  | @tup xs a vs q1 q2 =>
    cases e
    refine .inr (.inl ⟨vs, SqT.of q1, ?_⟩)
    cases q2 <;> rfl
  | @kt xs a vs q1 q2 =>
    cases e
    refine .inr (.inl ⟨vs, q1, ?_⟩)
    cases q2 <;> rfl
  | @ref l hl =>
    have e0 : (match h[l]? with
      | some (.lst xs) => some (!xs.isEmpty)
      | some (.rol xs) => some (!xs.isEmpty)
      | some (.dK kvs) => some (!kvs.isEmpty)
      | _ => none) = some b := e
    cases q : h[l]? with
    | none => rw [q] at e0; cases e0
    | some o =>
      rw [q] at e0
      have so := S.obj l o q
      cases o with
      | lst xs =>
        cases e0
        obtain ⟨vs, a1, a2⟩ := so
        exact .inl ⟨vs, SqL.of a2, by cases a1 <;> rfl⟩
      | rol xs =>
        cases e0
        obtain ⟨vs, a1, a2⟩ := so
        refine .inl ⟨vs, ?_, by cases a1 <;> rfl⟩
        rcases a2 with ⟨od, a2⟩ | a2
        · exact .inl (.inr ⟨od, a2⟩)
        · exact .inr a2
      | dK kvs =>
        cases e0
        obtain ⟨kv, a1, a2⟩ := so
        exact .inr (.inr ⟨kv, a2, by cases a1 <;> rfl⟩)
      | _ => cases e0

/-! ### subscripts -/
/-- d[k] as a subscript by values -/
def rIxD : R2 := fun x y H Q => ∃ a v, x = .ref a ∧ DGet H a y (some v) ∧ Q v H
theorem ix_dict (hu : X.A.units + 1 < cLine) : IxR X rIxD := by
  rintro value slice pins s σ H x y v u Q I rx ry ⟨a, z, rfl, g, q⟩ hs
  cases rx
  have hT := dict_typeIs I g
  unfold PyProof.Rows.subscriptTail
  refine wpAny_bind ?_
  rw [getitemInPython_of_ne hT.not_modules]
  refine wpAny_bind (wpAny_specialOf hT PySem.F.slot_dict_getitem.lookup ?_)
  have fin : wpAny (model X.prog X.w) X.A (subscripted slice false (.ref a) u) (fun r s₃ => wpAny (model X.prog X.w) X.A (letTemporaryGo value (.ref a) r >>= fun _ => pure r) (EP X pins σ Q) X.xe s₃) X.xe s := by
    rw [hs]
    exact wpAny_operating (wpAny_mono (d_getItem hu I g ry fun w' s' I' rw' => (⟨z, H, I', rw', q⟩ : EP X pins σ Q w' s')) (fun r s₃ h₃ => wpAny_bind (wpAny_letTemporaryGo (wpAny_pure h₃))) fun _ _ x => x)
  first
    | exact wpAny_pure (wpAny_bind fin)
    | exact wpAny_bind (wpAny_pure (wpAny_bind fin))
    | exact wpAny_bind fin
def r2T (K : PySem.W.Frag) (E : XK) (f : T → T → M T) : R2 := r2M K E f
theorem atN_eq (n : Nat) (i : Int) : atN n i = ixN n i := rfl
theorem opIx (hu : X.A.units + 64 < cLine) : IxR X (r2M X.K E ixT) := by
  rintro value slice pins s σ H x y v u Q I rx ry ⟨ρ, h, t, w, S, r1, r2, W⟩ hs
  have seqC : ∀ {a : Addr} {xs : List T} {vs : List V} {i : Int} {z : T}, x = .ref a → y = .int i → (SqL X.K H a vs ∨ SqT X.K H a vs) → VRs X.K ρ h.length H xs vs → atT xs i = some z → (∀ zv, VR X.K ρ h.length H z zv → Q zv H) →
      wpAny (model X.prog X.w) X.A (PyProof.Rows.subscriptTail value slice v u) (EP X pins σ Q) X.xe s := by
    intro a xs vs i z ex ey hq rs e q
    obtain ⟨j, e1, e2⟩ := Option.bind_eq_some_iff.mp (show (atN xs.length i).bind (fun j => xs[j]?) = some z from e)
    obtain ⟨zv, e3, rz⟩ := rs.get e2
    have ea : atI vs i = some zv := by
      unfold atI
      rw [← rs.len, ← atN_eq, e1]
      exact e3
    rcases hq with hq | hq
    · exact ix_list value slice pins s σ H x y v u Q I rx ry ⟨a, vs, i, zv, ex, ey, hq, ea, q zv rz⟩ hs
    · exact ix_tup value slice pins s σ H x y v u Q I rx ry ⟨a, vs, i, zv, ex, ey, hq, ea, q zv rz⟩ hs
  unfold ixT at W
  have W' : ∃ z, ixH h t w = some z ∧ ∀ zv, VR X.K ρ h.length H z zv → Q zv H := by
    unfold rdH at W
    split at W
    · rename_i z ez
      exact ⟨z, ez, fun zv rz => W ρ H Grow.refl S zv rz⟩
    · exact False.elim W
  obtain ⟨z, e, q⟩ := W'
  clear W
  have itemC : ∀ {a : Addr} {xs : List T} {vs : List V}, x = .ref a → (SqL X.K H a vs ∨ SqT X.K H a vs) → VRs X.K ρ h.length H xs vs → atV xs w = some z → wpAny (model X.prog X.w) X.A (PyProof.Rows.subscriptTail value slice v u) (EP X pins σ Q) X.xe s := by
    intro a xs vs ex hq rs e
    cases r2 with
    | int i => exact seqC ex rfl hq rs e q
    | _ => cases e
  cases r1 with
  | tup q1 q2 => exact itemC rfl (.inr (SqT.of q1)) q2 e
  | kt q1 q2 => exact itemC rfl (.inr q1) q2 e
  | str x0 =>
    cases r2 with
    | int i =>
      have e' : (if x0.length ≤ big then ((atN x0.cps.toList.length i).bind fun j => x0.cps.toList[j]?).map fun c => T.str ⟨#[c]⟩ else none) = some z := e
      by_cases c : x0.length ≤ big
      · rw [if_pos c] at e'
        obtain ⟨cc, e1, e2⟩ := Option.map_eq_some_iff.mp e'
        subst e2
        exact ix_str value slice pins s σ H _ _ v u Q I rx ry ⟨x0, i, cc, rfl, rfl, Nat.le_trans c big_line, e1, q _ (.str _)⟩ hs
      · rw [if_neg c] at e'; cases e'
    | _ => cases e
  | @ref l hl =>
    have e0 : (match h[l]? with
      | some o => ixO o w
      | none => none) = some z := e
    cases hq : h[l]? with
    | none => rw [hq] at e0; cases e0
    | some o =>
      rw [hq] at e0
      have e1 : ixO o w = some z := e0
      unfold ixO at e1
      cases hi : o.items with
      | some xs =>
        rw [hi] at e1
        obtain ⟨a, vs, a1, a2, a3⟩ := lst_of S (VR.ref (K := X.K) (ρ := ρ) (H := H) hl) (show (h[l]?).bind LO.items = some xs by rw [hq]; exact hi)
        exact itemC a1 (.inl a2) a3 e1
      | none =>
        rw [hi] at e1
        obtain ⟨r, e1, e2⟩ := Option.bind_eq_some_iff.mp e1
        obtain ⟨r', d, zz⟩ := dget_of S hq r2 e1
        have e2' : r = some z := e2
        rcases zz with ⟨z1, _⟩ | ⟨t1, v1, z1, z2, rz⟩
        · rw [z1] at e2'; cases e2'
        · rw [z1] at e2'
          cases e2'
          subst z2
          exact ix_dict (by omega) value slice pins s σ H _ _ v u Q I rx ry ⟨_, v1, rfl, d, q v1 rz⟩ hs
  | _ => cases e
/-- a[b] = v -/
def rSetM (K : PySem.W.Frag) (E : XK) : TSet := fun o i z H Q => ∃ ρ h a b t, Sim K ρ h H ∧ VR K ρ h.length H a o ∧ VR K ρ h.length H b i ∧ VR K ρ h.length H t z ∧ Wg K E ρ h H (setIx a b t h) (fun _ _ H' _ => Q H')
theorem opSet (hu : X.A.units + 64 < cLine) : PSet X (rSetM X.K E) := by
  rintro pins s σ H o i z ov iv u Q I ro ri rz ⟨ρ, h, a, b, t, S, r1, r2, r3, W⟩
  unfold setIx wrH at W
  cases r1 with
  | @ref l hl =>
    dsimp only at W
    cases hq : h[l]? with
    | none => rw [hq] at W; exact False.elim W
    | some ob =>
      rw [hq] at W
      have so := S.obj l ob hq
      cases ob with
      | lst xs =>
        dsimp only at W
        cases r2 with
        | int k =>
          dsimp only at W
          cases ha : atN xs.length k with
          | none => rw [ha] at W; exact False.elim W
          | some j =>
            rw [ha] at W
            obtain ⟨vs, p1, p2⟩ := so
            refine set_list pins s σ H _ _ z ov iv u Q I ro ri rz ⟨ρ l, vs, k, j, rfl, rfl, p2, ?_, ?_⟩
            · rw [← p1.len]; exact ha
            · exact k_wr (o' := .lst (xs.set j t)) S hq rfl rfl W ⟨vs.set j z, (p1.set r3 j).wr S hq rfl, upd_same⟩
        | _ => exact False.elim W
      | dK kvs =>
        obtain ⟨kv, p1, p2⟩ := so
        dsimp only at W
        have e0 : dputO (.dK kvs) b t = (match keyOf b with
          | some k => if kvs.length < 1000000 then some (.dK (kput kvs k t)) else none
          | none => none) := by cases b <;> rfl
        rw [e0] at W
        cases hk : keyOf b with
        | none => rw [hk] at W; exact False.elim W
        | some k =>
          rw [hk] at W
          dsimp only at W
          by_cases c : kvs.length < 1000000
          · rw [if_pos c] at W
            have hl2 : kv.length < sizeLine := by rw [← p1.len, sizeLine_eq]; omega
            have ei := keyOf_eq r2 hk
            subst ei
            cases (show ov = Value.ref (ρ l) from ro)
            exact d_setItem (by omega) I (DPut.k p2 hl2) ri rz fun s' I' => ⟨_, I', k_wr (o' := .dK (kput kvs k t)) S hq rfl rfl W ⟨putK kv k z, (p1.put r3).wr S hq rfl, upd_same⟩⟩
          · rw [if_neg c] at W; exact False.elim W
      | dT kvs =>
        obtain ⟨kv, p1, p2⟩ := so
        dsimp only at W
        cases r2 with
        | tup q1 q2 =>
          rename_i ks _ _
          have e0 : dputO (.dT kvs) (.tup ks) t = (match keysOf ks with
            | some k => if kvs.length < 1000000 then some (.dT (kput kvs k t)) else none
            | none => none) := rfl
          rw [e0] at W
          cases hk : keysOf ks with
          | none => rw [hk] at W; exact False.elim W
          | some k =>
            rw [hk] at W
            dsimp only at W
            by_cases c : kvs.length < 1000000
            · rw [if_pos c] at W
              have hl2 : kv.length < sizeLine := by rw [← p1.len, sizeLine_eq]; omega
              have ei := keysOf_eq q2 hk
              rw [ei] at q1
              cases (show ov = Value.ref (ρ l) from ro)
              exact d_setItem (by omega) I (DPut.t p2 q1 hl2) ri rz fun s' I' => ⟨_, I', k_wr (o' := .dT (kput kvs k t)) S hq rfl rfl W ⟨putK kv k z, (p1.put r3).wr S hq rfl, upd_same⟩⟩
            · rw [if_neg c] at W; exact False.elim W
        | _ => exact False.elim W
      | rol xs => exact False.elim (by cases r2 <;> exact W)
      | lkK xs => exact False.elim (by cases r2 <;> exact W)
      | lkT xs => exact False.elim (by cases r2 <;> exact W)
      | ins c fs => exact False.elim (by cases r2 <;> exact W)
  | _ => exact False.elim W
end
end Y

/-! max of a list with a default -/
namespace Y
open PySem PyProof.Rows
section
variable {prog : Program} {w : World} {A : Around} {R : Result → Shared → Prop} {I : Addr} {fp wr : List Addr} {n : Nat} {P : Nat → Value → Prop} {St : Nat → Heap → Prop} {kws : List (Str × Value)}
theorem maxK_go (W : Walks prog w A.in1 I fp wr n P St) (bt : Nat → Nat → Bool) (hcmp : CmpOf prog w A.in1 .Gt P bt) (S : Addr) (hSf : S ∉ fp) :
    ∀ (k j : Nat) (s : Shared) (vb : Value) (c : Nat), n - (j + 1) = k → j + 1 ≤ n → St (j + 1) s.heap → P (argBest bt j) vb →
    s.heap.get? S = some { cls := .type "list", dict := none, data := .seq #[vb, vb] c, slots := #[] } →
    (∀ v h' tk, P (argBest bt (n - 1)) v → (∀ b o, b ∉ wr → b ≠ S → s.heap.get? b = some o → h'.get? b = some o) → R (.ok (.ret v)) { s with heap := h', toks := tk }) →
    codeAny (model prog w) A (.builtin "max.loop" ⟨[.ref I, .none, .ref S], kws⟩) R s := by
  have hSw : S ∉ wr := fun h => hSf (W.sub _ h)
  have hname : (toString "max" ++ toString ".loop" : String) = "max.loop" := by decide
  intro k
  induction k with
  | zero =>
    intro j s vb c hk hj hst hPb hS hR
    have hin : j + 1 = n := by omega
    refine codeAny_builtin F.entry_max_loop ?_
    rw [Around.under_plainId F.plain_max_loop _]
    show wpAny _ A.in1 (seqItems? (.ref S) >>= _) _ _ s
    refine wpAny_bind (wpAny_seqItems hS rfl ?_)
    show wpAny _ A.in1 (tryCatch (pyNext (.ref I)) _ >>= _) _ _ s
    refine wpAny_bind (wpAny_tryCatch (W.done s _ _ (hin ▸ hst) fun h' tk hk' => ?_))
    have hS' := hk' S _ hSw hS
    show wpAny _ A.in1 (updateSeq S (fun _ => #[]) >>= _) _ _ _
    refine wpAny_bind ?_
    refine wpAny_updateSeq hS' rfl (wpAny_bind (wpAny_letGo (wpAny_pure ?_)))
    refine hR vb _ tk (by rw [← hin]; exact hPb) fun b o hbw hbS e => (Heap.get?_update_other _ _ (Ne.symm hbS)).trans (hk' b o hbw e)
  | succ k ih =>
    intro j s vb c hk hj hst hPb hS hR
    have hlt : j + 1 < n := by omega
    refine codeAny_builtin F.entry_max_loop ?_
    rw [Around.under_plainId F.plain_max_loop _]
    show wpAny _ A.in1 (seqItems? (.ref S) >>= _) _ _ s
    refine wpAny_bind (wpAny_seqItems hS rfl ?_)
    show wpAny _ A.in1 (tryCatch (pyNext (.ref I)) _ >>= _) _ _ s
    refine wpAny_bind (wpAny_tryCatch (W.item (j + 1) s _ _ hlt hst fun v h' tk hP hst' hk' => ?_))
    have hS' := hk' S _ hSw hS
    show wpAny _ A.in1 (tryCatch (holding [v, v] (richCompare .Gt v vb >>= _)) _ >>= _) _ _ _
    refine wpAny_bind (wpAny_tryCatch (wpAny_holding (wpAny_bind (hcmp (j + 1) (argBest bt j) v vb _ _ _ hP hPb ?_))))
    refine wpAny_bind (wpAny_holding (wpAny_truthy_bool ?_))
    refine wpAny_bind (wpAny_letGo (wpAny_pure ?_))
    cases hb : bt (j + 1) (argBest bt j) with
    | true =>
      simp only [if_true]
      refine wpAny_bind ?_
      refine wpAny_updateSeq hS' rfl (wpAny_bind (wpAny_letGo ?_))
      rw [hname]
      refine wpAny_pure ⟨plainId_quiet F.plain_max_loop _, ih (j + 1) _ v _ (by omega) hlt (W.frame _ _ _ hst' fun b hbf o e => ?_) (by simp only [argBest, hb, if_true]; exact hP) (Heap.get?_update_self _ hS' rfl)
        fun v' h'' tk'' hP' hk'' => ?_⟩
      · exact (Heap.get?_update_other _ _ (fun h : S = b => hSf (by rw [h]; exact hbf))).trans e
      · exact hR v' h'' tk'' hP' fun b o hbw hbS e => hk'' b o hbw hbS ((Heap.get?_update_other _ _ (Ne.symm hbS)).trans (hk' b o hbw e))
    | false =>
      simp only [Bool.false_eq_true, if_false]
      refine wpAny_bind (wpAny_letGo ?_)
      rw [hname]
      refine wpAny_pure ⟨plainId_quiet F.plain_max_loop _, ih (j + 1) _ vb c (by omega) hlt hst' (by simp only [argBest, hb, Bool.false_eq_true, if_false]; exact hPb) hS' fun v' h'' tk'' hP' hk'' => ?_⟩
      exact hR v' h'' tk'' hP' fun b o hbw hbS e => hk'' b o hbw hbS (hk' b o hbw e)
theorem maxK_first (W : Walks prog w A.in1 I fp wr n P St) (bt : Nat → Nat → Bool) (hcmp : CmpOf prog w A.in1 .Gt P bt) (S : Addr) (hSf : S ∉ fp) {d : Value} {x : Str} {s : Shared} {c : Nat} (hst : St 0 s.heap)
    (hS : s.heap.get? S = some { cls := .type "list", dict := none, data := .seq #[] c, slots := #[] })
    (hR : ∀ v h' tk, (n = 0 ∧ v = d ∨ 0 < n ∧ P (argBest bt (n - 1)) v) → (∀ b o, b ∉ wr → b ≠ S → s.heap.get? b = some o → h'.get? b = some o) → R (.ok (.ret v)) { s with heap := h', toks := tk }) :
    codeAny (model prog w) A (.builtin "max.loop" ⟨[.ref I, .none, .ref S], [(x, d)]⟩) R s := by
  have hSw : S ∉ wr := fun h => hSf (W.sub _ h)
  have hname : (toString "max" ++ toString ".loop" : String) = "max.loop" := by decide
  refine codeAny_builtin F.entry_max_loop ?_
  rw [Around.under_plainId F.plain_max_loop _]
  show wpAny _ A.in1 (seqItems? (.ref S) >>= _) _ _ s
  refine wpAny_bind (wpAny_seqItems hS rfl ?_)
  show wpAny _ A.in1 (tryCatch (pyNext (.ref I)) _ >>= _) _ _ s
  rcases Nat.eq_zero_or_pos n with hn | hn
  · refine wpAny_bind (wpAny_tryCatch (W.done s _ _ (hn ▸ hst) fun h' tk hk' => ?_))
    refine wpAny_bind (wpAny_rule (wpAny_pure ?_))
    exact hR d h' tk (.inl ⟨hn, rfl⟩) fun b o hbw _ e => hk' b o hbw e
  · refine wpAny_bind (wpAny_tryCatch (W.item 0 s _ _ hn hst fun v h' tk hP hst' hk' => ?_))
    have hS' := hk' S _ hSw hS
    show wpAny _ A.in1 (updateSeq S (fun _ => #[v, v]) >>= _) _ _ _
    refine wpAny_bind ?_
    refine wpAny_updateSeq hS' rfl ?_
    rw [hname]
    refine wpAny_pure ⟨plainId_quiet F.plain_max_loop _, maxK_go W bt hcmp S hSf _ 0 _ v _ rfl hn (W.frame _ _ _ hst' fun b hbf o e => ?_) hP (Heap.get?_update_self _ hS' rfl) fun v' h'' tk'' hP' hk'' => ?_⟩
    · exact (Heap.get?_update_other _ _ (fun h : S = b => hSf (by rw [h]; exact hbf))).trans e
    · exact hR v' h'' tk'' (.inr ⟨hn, hP'⟩) fun b o hbw hbS e => hk'' b o hbw hbS ((Heap.get?_update_other _ _ (Ne.symm hbS)).trans (hk' b o hbw e))
end
section
variable {prog : Program} {w : World} {A : Around} {E : Value → Shared → Prop} {s : Shared}
theorem args_maxD (x d : Value) : argsOk "max" ⟨[x], [(Str.ofString "default", d)]⟩ := by unfold argsOk; kernel_rfl
theorem call_maxD {x d : Value} {Q : Value → Shared → Prop}
    (h : wpAny (model prog w) A.in1 (pyIter x) (fun it s₂ => ∃ I fp wr n P St bt, it = .ref I ∧ Walks prog w A.in1 I fp wr n P St ∧ St 0 s₂.heap ∧ (∀ b ∈ fp, b < s₂.heap.objs.size) ∧ CmpOf prog w A.in1 .Gt P bt ∧
      ∀ v h' tk, (n = 0 ∧ v = d ∨ 0 < n ∧ P (argBest bt (n - 1)) v) → (∀ b o, b ∉ wr → s₂.heap.get? b = some o → h'.get? b = some o) → Q v { s₂ with heap := h', toks := tk }) E s) :
    wpAny (model prog w) A (call (.builtin "max") [x] [(Str.ofString "default", d)]) Q E s := by
  have hname : (toString "max" ++ toString ".loop" : String) = "max.loop" := by decide
  have ha := args_maxD x d
  refine wpAny_call (codeAny_call_builtin F.plain_max F.entry_max ?_)
  simp only [checkBuiltinCall, F.kind_max]
  have fin : wpAny (model prog w) A.in1 (Builtin.«max» ⟨[x], [(Str.ofString "default", d)]⟩) (fun fin s' => match fin with
      | .done f => (match (Except.ok f : Result) with | .ok (.ret v) => Q v s' | .ok _ => False | .error e => E e s')
      | .again c' => c'.quiet = true ∧ codeAny (model prog w) A c' (fun r s' => match r with | .ok (.ret v) => Q v s' | .ok _ => False | .error e => E e s') s') E s := by
    show wpAny _ A.in1 (Builtin.Builtins.bindParams "max" ["key", "default"] 0 ⟨[], [(Str.ofString "default", d)]⟩ >>= _) _ _ s
    refine wpAny_bind (wpAny_of_eq (show Builtin.Builtins.bindParams "max" ["key", "default"] 0 ⟨[], [(Str.ofString "default", d)]⟩ = pure [none, some d] from rfl) ?_)
    refine wpAny_bind (wpAny_pure ?_)
    refine wpAny_bind (wpAny_mono h (fun it s₂ h₂ => ?_) fun _ _ e => e)
    obtain ⟨I, fp, wr, n, P, St, bt, rfl, W, hst, hfp, hcmp, hQ⟩ := h₂
    refine wpAny_bind (wpAny_newObj_type ?_)
    have hSf : s₂.heap.objs.size ∉ fp := fun hm => Nat.lt_irrefl _ (hfp _ hm)
    rw [hname]
    refine wpAny_pure ⟨plainId_quiet F.plain_max_loop _, maxK_first W bt hcmp s₂.heap.objs.size hSf (W.frame _ _ _ hst fun b _ o e => Heap.get?_push_of_some _ e) (Heap.get?_push_size _ rfl) fun v h' tk hP hk => ?_⟩
    exact hQ v h' tk hP fun b o hbw e => hk b o hbw (Nat.ne_of_lt (Heap.lt_size e)) (Heap.get?_push_of_some _ e)
  cases hsig : Manifest.signature? "max" with
  | none => exact wpAny_pure fin
  | some sig =>
    simp only [argsOk, hsig] at ha
    have h2 : Bind.checkArgs "max" sig ⟨[x], [(Str.ofString "default", d)]⟩ = pure () := ha
    show wpAny _ A.in1 (Bind.checkArgs "max" sig ⟨[x], [(Str.ofString "default", d)]⟩) _ _ s
    rw [h2]; exact wpAny_pure fin
theorem maxD_raw {l : Addr} {its : List Value} {ns : List Int} {d : Value} {Q : Value → Shared → Prop} (hh : A.handled = none) (hl : s.heap.IsList l its.toArray) (hi : IntsAre its ns)
    (h : ∀ h' tk v, (∀ b o, s.heap.get? b = some o → h'.get? b = some o) → (ns = [] ∧ v = d ∨ ∃ M t', v = .int M t' ∧ M ∈ ns ∧ ∀ a, a ∈ ns → a ≤ M) → Q v { s with heap := h', toks := tk }) : wpAny (model prog w) A (call (.builtin "max") [.ref l] [(Str.ofString "default", d)]) Q E s := by
  obtain ⟨xs, e⟩ := hi.allInts.items
  have hn : numsOf (intItems xs).toList = ns := by rw [← e]; exact hi.numsOf
  rw [nums_intItems] at hn
  subst hn
  rw [e] at hl
  refine call_maxD (iter_intList hl fun s₂ e st hfp hlI => ?_)
  subst e
  refine ⟨_, _, _, _, _, _, _, rfl, Walks.list (A := A.in1) hh _ l hlI (intItems xs), st, hfp, CmpOf.ints_gt (numAt xs) (fun _ _ => intItems_at), fun v h' tk hP hk => ?_⟩
  refine h h' tk v (old_kept hk) ?_
  rcases hP with ⟨h0, rfl⟩ | ⟨h0, hP⟩
  · refine .inl ⟨?_, rfl⟩
    have : xs.size = 0 := by simpa [intItems] using h0
    rw [List.map_eq_nil_iff]
    simpa using this
  · have hsz : 0 < xs.size := by simpa [intItems] using h0
    have hv : (intItems xs)[argBest (fun i j => decide (numAt xs i > numAt xs j)) (xs.size - 1)]? = some v := by simpa [intItems] using hP
    obtain ⟨t, rfl⟩ := intItems_at hv
    obtain ⟨h1, h2⟩ := argBest_gt (numAt xs) (xs.size - 1)
    refine .inr ⟨_, t, rfl, ?_, fun a ha => ?_⟩
    · rw [numAt_eq]; exact PySem.getD_mem (by rw [List.length_map, Array.length_toList]; omega)
    · obtain ⟨j, hj, rfl⟩ := mem_getD ha
      rw [List.length_map, Array.length_toList] at hj
      rw [← numAt_eq]; exact h2 j (by omega)
end
end Y

/-! the least of a tuple of numbers -/
namespace Y
open PySem PyProof.Rows
section
variable {prog : Program} {w : World} {A : Around} {E : Value → Shared → Prop} {s : Shared}
theorem minT_raw {l : Addr} {its : List Value} {ns : List Int} {Q : Value → Shared → Prop} (hh : A.handled = none) (hl : s.heap.IsTuple l its.toArray) (hi : IntsAre its ns) (hne : 0 < ns.length)
    (h : ∀ h' tk M t', (∀ b o, s.heap.get? b = some o → h'.get? b = some o) → M ∈ ns → (∀ a, a ∈ ns → M ≤ a) → Q (.int M t') { s with heap := h', toks := tk }) : wpAny (model prog w) A (call (.builtin "min") [.ref l]) Q E s := by
  obtain ⟨xs, ex⟩ := hi.allInts.items
  have hns : numsOf (intItems xs).toList = ns := by rw [← ex]; exact hi.numsOf
  rw [nums_intItems] at hns
  subst hns
  rw [ex] at hl
  have hlt : l < s.heap.objs.size := by
    obtain ⟨_, z, _⟩ := hl
    exact Heap.lt_size z
  have hpos : 0 < xs.size := by simpa using hne
  refine call_min_walk (wpAny_pyIter_tuple hl ?_)
  refine ⟨_, [_, l], _, _, _, _, _, rfl, Walks.tuple (A := A.in1) hh _ l (Nat.ne_of_lt hlt) (intItems xs), ⟨⟨_, Heap.get?_push_size _ rfl, rfl, rfl⟩, hl.push _⟩, fun b hb => ?_, by simpa [intItems] using hpos, CmpOf.ints_lt (numAt xs) (fun _ _ => intItems_at), fun v h' tk hP hk => ?_⟩
  · show b < (s.heap.push _).objs.size
    rw [Heap.size_push]
    simp only [List.mem_cons, List.not_mem_nil, or_false] at hb
    rcases hb with z | z
    · rw [z]; exact Nat.lt_succ_self _
    · rw [z]; exact Nat.lt_succ_of_lt hlt
  · have hv : (intItems xs)[argBest (fun i j => decide (numAt xs i < numAt xs j)) (xs.size - 1)]? = some v := by simpa [intItems] using hP
    obtain ⟨t, rfl⟩ := intItems_at hv
    obtain ⟨h1, h2⟩ := argBest_lt (numAt xs) (xs.size - 1)
    refine h h' tk _ t (fun b o z => hk b o (fun hb => ?_) (Heap.get?_push_of_some _ z)) ?_ fun a ha => ?_
    · exact absurd (Heap.lt_size z) (by rw [List.mem_singleton.mp hb]; exact Nat.lt_irrefl _)
    · rw [numAt_eq]; exact PySem.getD_mem (by rw [List.length_map, Array.length_toList]; exact Nat.lt_of_le_of_lt h1 (Nat.sub_lt hpos Nat.one_pos))
    · obtain ⟨j, hj, rfl⟩ := mem_getD ha
      rw [List.length_map, Array.length_toList] at hj
      rw [← numAt_eq]; exact h2 j (Nat.le_sub_one_of_lt hj)
end
end Y

/-! L3e: built-in functions and methods, isinstance, fields, slices by runs. -/
namespace Y
open PySem PySem.Spec L2
def rM (K : PySem.W.Frag) (E : XK) (f : List T → M T) : List V → Hp → VK → Prop := fun xs H Q => ∃ ρ h ts, Sim K ρ h H ∧ VRs K ρ h.length H ts xs ∧ Wg K E ρ h H (f ts h) (qV K Q)
section
variable {K : PySem.W.Frag} {ρ : Nat → Addr} {n : Nat} {H : Hp}
theorem VRs.inv1 {t : T} {vs : List V} (r : VRs K ρ n H [t] vs) : ∃ v, vs = [v] ∧ VR K ρ n H t v := by
  cases r with
  | cons a b => cases b; exact ⟨_, rfl, a⟩
theorem VRs.inv2 {t u : T} {vs : List V} (r : VRs K ρ n H [t, u] vs) : ∃ v w, vs = [v, w] ∧ VR K ρ n H t v ∧ VR K ρ n H u w := by
  cases r with
  | cons a b =>
    obtain ⟨w, rfl, q⟩ := b.inv1
    exact ⟨_, w, rfl, a, q⟩
theorem VR.intV {i : Int} {v : V} (r : VR K ρ n H (.int i) v) : v = .int i := by cases r; rfl
theorem VR.blV {i : Bool} {v : V} (r : VR K ρ n H (.bl i) v) : v = .bl i := by cases r; rfl
theorem blsOf_V : ∀ {ts : List T} {vs : List V} {ns : List Bool}, VRs K ρ n H ts vs → blsOf ts = some ns → vs = ns.map V.bl
  | [], [], _, .nil, e => by cases e; rfl
  | t :: ts, v :: vs, ns, .cons r rs, e => by
    cases r with
    | bl i =>
      obtain ⟨ms, e1, e2⟩ := Option.map_eq_some_iff.mp (show (blsOf ts).map (i :: ·) = some ns from e)
      subst e2
      rw [List.map_cons, blsOf_V rs e1]
    | _ => cases e
end
section
variable {X : Cx} {E : XK}
/-- a run of a built-in comes to an end with one argument -/
theorem arg1 {f : BF} {ρ : Nat → Addr} {h : LH} {H : Hp} {ts : List T} {vs : List V} {Q : VK} (S : Sim X.K ρ h H) (r : VRs X.K ρ h.length H ts vs) (W : Wg X.K E ρ h H (biF f ts h) (qV X.K Q)) (hf : f ≠ .max2 ∧ f ≠ .min2) : ∃ t v, ts = [t] ∧ vs = [v] ∧ VR X.K ρ h.length H t v := by
  cases ts with
  | nil => cases f <;> exact False.elim W
  | cons t r1 =>
    cases r1 with
    | nil =>
      obtain ⟨v, ev, rv⟩ := r.inv1
      exact ⟨t, v, rfl, ev, rv⟩
    | cons u r2 =>
      cases f with
      | max2 => exact absurd rfl hf.1
      | min2 => exact absurd rfl hf.2
      | abs => cases t <;> exact False.elim W
      | int => cases t <;> exact False.elim W
      | _ => exact False.elim W
theorem lenD : CallR X (.builtin "len") (rM X.K E (biF .len)) := by
  rintro pins s σ H xs us Q I rs ⟨ρ, h, ts, S, r, W⟩
  obtain ⟨t, v, rfl, rfl, rv⟩ := arg1 S r W ⟨by decide, by decide⟩
  obtain ⟨z, e, q⟩ := Wg.opt_ S (show Wg X.K E ρ h H (opt ((lenH h t).map fun (n : Nat) => T.int (n : Int)) h) _ from W)
  obtain ⟨n, e1, e2⟩ := Option.map_eq_some_iff.mp e
  subst e2
  have fin : Q (.int n) H := q _ (.int _)
  cases rv with
  | tup q1 q2 =>
    cases e1
    exact call_len pins s σ H _ us Q I rs ⟨_, _, rfl, .inr ⟨_, SqT.of q1, rfl⟩, by rw [← q2.len]; exact fin⟩
  | kt q1 q2 =>
    cases e1
    exact call_len pins s σ H _ us Q I rs ⟨_, _, rfl, .inr ⟨_, q1, rfl⟩, by rw [← q2.len]; exact fin⟩
  | str x =>
    have e1' : (if x.length ≤ big then some x.length else none) = some n := e1
    by_cases c : x.length ≤ big
    · rw [if_pos c] at e1'
      cases e1'
      exact call_len pins s σ H _ us Q I rs ⟨_, _, rfl, ⟨Nat.le_trans c big_line, rfl⟩, fin⟩
    · rw [if_neg c] at e1'; cases e1'
  | @ref l hl =>
    have e0 : (match h[l]? with
      | some (.lst xs) => some xs.length
      | some (.rol xs) => some xs.length
      | some (.dK kvs) => some kvs.length
      | _ => none) = some n := e1
    cases hq : h[l]? with
    | none => rw [hq] at e0; cases e0
    | some o =>
      rw [hq] at e0
      have so := S.obj l o hq
      cases o with
      | lst xs =>
        cases e0
        obtain ⟨vs, a1, a2⟩ := so
        exact call_len pins s σ H _ us Q I rs ⟨_, _, rfl, .inl ⟨_, SqL.of a2, rfl⟩, by rw [← a1.len]; exact fin⟩
      | rol xs =>
        cases e0
        obtain ⟨a, vs, a1, a2, a3⟩ := lst_of S (VR.ref (K := X.K) (ρ := ρ) (H := H) hl) (show (h[l]?).bind LO.items = some xs by rw [hq]; rfl)
        cases a1
        exact call_len pins s σ H _ us Q I rs ⟨_, _, rfl, .inl ⟨_, a2, rfl⟩, by rw [← a3.len]; exact fin⟩
      | dK kvs =>
        cases e0
        obtain ⟨kv, a1, a2⟩ := so
        exact call_lenD pins s σ H _ us Q I rs ⟨_, kv, rfl, a2, by rw [← a1.len]; exact fin⟩
      | _ => cases e0
  | _ => cases e1
theorem absD : CallR X (.builtin "abs") (rM X.K E (biF .abs)) := by
  rintro pins s σ H xs us Q I rs ⟨ρ, h, ts, S, r, W⟩
  obtain ⟨t, v, rfl, rfl, rv⟩ := arg1 S r W ⟨by decide, by decide⟩
  cases rv with
  | int i => exact call_abs pins s σ H _ us Q I rs ⟨i, rfl, k_ret S W (.int _)⟩
  | _ => exact False.elim W
theorem two {f : BF} {ρ : Nat → Addr} {h : LH} {H : Hp} {ts : List T} {vs : List V} {Q : VK} (S : Sim X.K ρ h H) (r : VRs X.K ρ h.length H ts vs) (W : Wg X.K E ρ h H (biF f ts h) (qV X.K Q)) (hf : f = .max2 ∨ f = .min2) : ∃ i j, ts = [.int i, .int j] ∧ vs = [.int i, .int j] := by
  cases r with
  | nil => rcases hf with rfl | rfl <;> exact False.elim W
  | cons a b =>
    cases a with
    | int i =>
      cases b with
      | nil => rcases hf with rfl | rfl <;> exact False.elim W
      | cons c d =>
        cases c with
        | int j =>
          cases d with
          | nil => exact ⟨i, j, rfl, rfl⟩
          | cons _ _ => rcases hf with rfl | rfl <;> exact False.elim W
        | _ => rcases hf with rfl | rfl <;> exact False.elim W
    | _ =>
      rcases hf with rfl | rfl
      · cases b with
        | nil => exact False.elim W
        | cons _ d => cases d <;> exact False.elim W
      · cases b with
        | nil => exact False.elim W
        | cons _ d => cases d <;> exact False.elim W
theorem maxD (hc : X.calm = true) : CallR X (.builtin "max") (rM X.K E (biF .max2)) := by
  rintro pins s σ H xs us Q I rs ⟨ρ, h, ts, S, r, W⟩
  obtain ⟨i, j, rfl, rfl⟩ := two S r W (.inl rfl)
  exact call_max2 hc pins s σ H _ us Q I rs ⟨i, j, rfl, k_ret S W (.int _)⟩
theorem minD (hc : X.calm = true) : CallR X (.builtin "min") (rM X.K E (biF .min2)) := by
  rintro pins s σ H xs us Q I rs ⟨ρ, h, ts, S, r, W⟩
  obtain ⟨i, j, rfl, rfl⟩ := two S r W (.inr rfl)
  exact call_min2 hc pins s σ H _ us Q I rs ⟨i, j, rfl, k_ret S W (.int _)⟩
theorem intD : CallR X (.type "int") (rM X.K E (biF .int)) := by
  rintro pins s σ H xs us Q I rs ⟨ρ, h, ts, S, r, W⟩
  obtain ⟨t, v, rfl, rfl, rv⟩ := arg1 S r W ⟨by decide, by decide⟩
  cases rv with
  | int i => exact call_int1 pins s σ H _ us Q I rs (.inl ⟨i, rfl, k_ret S W (.int _)⟩)
  | bl i => exact call_int1 pins s σ H _ us Q I rs (.inr ⟨i, rfl, k_ret S W (.int _)⟩)
  | _ => exact False.elim W
theorem sumD (hc : X.calm = true) : CallR X (.builtin "sum") (rM X.K E (biF .sum)) := by
  rintro pins s σ H xs us Q I rs ⟨ρ, h, ts, S, r, W⟩
  obtain ⟨t, v, rfl, rfl, rv⟩ := arg1 S r W ⟨by decide, by decide⟩
  obtain ⟨z, e, q⟩ := Wg.opt_ S (show Wg X.K E ρ h H (opt (((lstOf h t).bind intsOf).map fun ns => T.int ns.sum) h) _ from W)
  obtain ⟨ns, e1, e2⟩ := Option.map_eq_some_iff.mp e
  subst e2
  obtain ⟨xs, e3, e4⟩ := Option.bind_eq_some_iff.mp e1
  obtain ⟨a, vs, rfl, a2, a3⟩ := lst_of S rv e3
  have := intsOf_V a3 e4
  subst this
  exact cr_sum hc pins s σ H _ us Q I rs ⟨a, ns, rfl, a2, q _ (.int _)⟩
theorem allD (hc : X.calm = true) : CallR X (.builtin "all") (rM X.K E (biF .all)) := by
  rintro pins s σ H xs us Q I rs ⟨ρ, h, ts, S, r, W⟩
  obtain ⟨t, v, rfl, rfl, rv⟩ := arg1 S r W ⟨by decide, by decide⟩
  obtain ⟨z, e, q⟩ := Wg.opt_ S (show Wg X.K E ρ h H (opt (((lstOf h t).bind blsOf).map fun bs => T.bl (bs.all id)) h) _ from W)
  obtain ⟨ns, e1, e2⟩ := Option.map_eq_some_iff.mp e
  subst e2
  obtain ⟨xs, e3, e4⟩ := Option.bind_eq_some_iff.mp e1
  obtain ⟨a, vs, rfl, a2, a3⟩ := lst_of S rv e3
  have := blsOf_V a3 e4
  subst this
  exact cr_all hc pins s σ H _ us Q I rs ⟨a, ns, rfl, a2, q _ (.bl _)⟩
theorem anyD (hc : X.calm = true) : CallR X (.builtin "any") (rM X.K E (biF .any)) := by
  rintro pins s σ H xs us Q I rs ⟨ρ, h, ts, S, r, W⟩
  obtain ⟨t, v, rfl, rfl, rv⟩ := arg1 S r W ⟨by decide, by decide⟩
  obtain ⟨z, e, q⟩ := Wg.opt_ S (show Wg X.K E ρ h H (opt (((lstOf h t).bind blsOf).map fun bs => T.bl (bs.any id)) h) _ from W)
  obtain ⟨ns, e1, e2⟩ := Option.map_eq_some_iff.mp e
  subst e2
  obtain ⟨xs, e3, e4⟩ := Option.bind_eq_some_iff.mp e1
  obtain ⟨a, vs, rfl, a2, a3⟩ := lst_of S rv e3
  have := blsOf_V a3 e4
  subst this
  exact cr_any hc pins s σ H _ us Q I rs ⟨a, ns, rfl, a2, q _ (.bl _)⟩
theorem listD : CallR X (.type "list") (rM X.K E (biF .list)) := by
  rintro pins s σ H xs us Q I rs ⟨ρ, h, ts, S, r, W⟩
  obtain ⟨t, v, rfl, rfl, rv⟩ := arg1 S r W ⟨by decide, by decide⟩
  have W' : Wg X.K E ρ h H (match seqOf h t with
    | some xs => neu (.lst xs) h
    | none => .fail) (qV X.K Q) := W
  cases e : seqOf h t with
  | none => rw [e] at W'; exact False.elim W'
  | some xs =>
    rw [e] at W'
    obtain ⟨a, vs, rfl, a2, a3⟩ := seq_of S rv e
    exact call_list_of pins s σ H _ us Q I rs ⟨a, vs, rfl, a2, k_lst S W' a3⟩
theorem tupleD : CallR X (.type "tuple") (rM X.K E (biF .tuple)) := by
  rintro pins s σ H xs us Q I rs ⟨ρ, h, ts, S, r, W⟩
  obtain ⟨t, v, rfl, rfl, rv⟩ := arg1 S r W ⟨by decide, by decide⟩
  have lst : Wg X.K E ρ h H (opt ((lstOf h t).map .tup) h) (qV X.K Q) → wpAny (model X.prog X.w) X.A (call (.type "tuple") us) (EP X pins σ Q) X.xe s := fun W => by
    unfold opt at W
    cases e : lstOf h t with
    | none => rw [e] at W; exact False.elim W
    | some xs =>
      rw [e] at W
      obtain ⟨a, vs, rfl, a2, a3⟩ := lst_of S rv e
      exact call_tuple_of pins s σ H _ us Q I rs ⟨a, vs, rfl, .inl ⟨a2, k_tup S W a3⟩⟩
  cases rv with
  | tup q1 q2 => exact call_tuple_of pins s σ H _ us Q I rs ⟨_, _, rfl, .inr ⟨SqT.of q1, k_ret S W (.tup q1 q2)⟩⟩
  | kt q1 q2 => exact call_tuple_of pins s σ H _ us Q I rs ⟨_, _, rfl, .inr ⟨q1, k_ret S W (.kt q1 q2)⟩⟩
  | _ => exact lst W

theorem dkA_of {K : PySem.W.Frag} {ρ : Nat → Addr} {h : LH} {H : Hp} {t : T} {v : V} {kvs : List (Key × T)} (S : Sim K ρ h H) (r : VR K ρ h.length H t v) (e : dkAt h t = some kvs) : ∃ l kv, t = .ref l ∧ v = .ref (ρ l) ∧ h[l]? = some (.dK kvs) ∧ PR K ρ h.length H kvs kv ∧ H (ρ l) = some (.dK kv) := by
  cases r with
  | @ref l hl =>
    have e0 : (match h[l]? with
      | some (.dK kvs) => some kvs
      | _ => none) = some kvs := e
    cases hq : h[l]? with
    | none => rw [hq] at e0; cases e0
    | some o =>
      rw [hq] at e0
      have so := S.obj l o hq
      cases o with
      | dK k2 =>
        cases e0
        obtain ⟨kv, a1, a2⟩ := so
        exact ⟨l, kv, rfl, rfl, hq, a1, a2⟩
      | _ => cases e0
  | _ => cases e
theorem keyT_VR {K : PySem.W.Frag} {ρ : Nat → Addr} {n : Nat} {H : Hp} : ∀ {kvs : List (Key × T)} {kv : List (Key × V)}, PR K ρ n H kvs kv → VRs K ρ n H (kvs.map fun p => tOfKey p.1) (kv.map fun p => kV p.1)
  | _, _, .nil => .nil
  | _, _, .cons (k := k) _ qs => .cons (by cases k <;> constructor) (keyT_VR qs)
theorem listDD (hc : X.calm = true) : CallR X (.type "list") (rM X.K E (biF .listD)) := by
  rintro pins s σ H xs us Q I rs ⟨ρ, h, ts, S, r, W⟩
  obtain ⟨t, v, rfl, rfl, rv⟩ := arg1 S r W ⟨by decide, by decide⟩
  have W' : Wg X.K E ρ h H (match dkAt h t with
    | some kvs => neu (.lst (kvs.map fun kv => tOfKey kv.1)) h
    | none => .fail) (qV X.K Q) := W
  cases e : dkAt h t with
  | none => rw [e] at W'; exact False.elim W'
  | some kvs =>
    rw [e] at W'
    obtain ⟨l, kv, rfl, rfl, e1, e2, e3⟩ := dkA_of S rv e
    exact call_listD hc pins s σ H _ us Q I rs ⟨_, kv, rfl, .inl e3, k_lst S W' (keyT_VR e2)⟩
theorem dictDD : CallR X (.type "dict") (rM X.K E (biF .dictD)) := by
  rintro pins s σ H xs us Q I rs ⟨ρ, h, ts, S, r, W⟩
  obtain ⟨t, v, rfl, rfl, rv⟩ := arg1 S r W ⟨by decide, by decide⟩
  have W' : Wg X.K E ρ h H (match dkAt h t with
    | some kvs => neu (.dK kvs) h
    | none => .fail) (qV X.K Q) := W
  cases e : dkAt h t with
  | none => rw [e] at W'; exact False.elim W'
  | some kvs =>
    rw [e] at W'
    obtain ⟨l, kv, rfl, rfl, e1, e2, e3⟩ := dkA_of S rv e
    exact call_dictD pins s σ H _ us Q I rs ⟨_, kv, rfl, .inl e3, fun p hp => k_neu (o := .dK kvs) S W' hp rfl ⟨kv, e2.up hp, upd_same⟩⟩
theorem ints_VR {K : PySem.W.Frag} {ρ : Nat → Addr} {n : Nat} {H : Hp} : ∀ ns : List Int, VRs K ρ n H (ns.map T.int) (ns.map V.int)
  | [] => .nil
  | _ :: ns => .cons (.int _) (ints_VR ns)
theorem strs_VR {K : PySem.W.Frag} {ρ : Nat → Addr} {n : Nat} {H : Hp} : ∀ ns : List Str, VRs K ρ n H (ns.map T.str) (ns.map V.str)
  | [] => .nil
  | _ :: ns => .cons (.str _) (strs_VR ns)
theorem sortedD : CallR X (.builtin "sorted") (rM X.K E (biF .sorted)) := by
  rintro pins s σ H xs us Q I rs ⟨ρ, h, ts, S, r, W⟩
  obtain ⟨t, v, rfl, rfl, rv⟩ := arg1 S r W ⟨by decide, by decide⟩
  have W' : Wg X.K E ρ h H (match (lstOf h t).bind sortT with
    | some ys => neu (.lst ys) h
    | none => .fail) (qV X.K Q) := W
  cases e : (lstOf h t).bind sortT with
  | none => rw [e] at W'; exact False.elim W'
  | some ys =>
    rw [e] at W'
    obtain ⟨xs, e1, e2⟩ := Option.bind_eq_some_iff.mp e
    obtain ⟨a, vs, rfl, a2, a3⟩ := lst_of S rv e1
    have e3 : (match intsOf xs with
      | some ns => some ((sortI ns).map T.int)
      | none => match strsOf xs with
        | some ss => if ss.length < 64 then some ((sortS ss).map T.str) else none
        | none => none) = some ys := e2
    split at e3
    · rename_i ns z
      cases e3
      have := intsOf_V a3 z
      subst this
      exact cr_sortedI pins s σ H _ us Q I rs ⟨a, ns, rfl, a2, fun ns' p p1 p2 hp => by
        have := sortI_only p1 p2
        subst this
        exact k_lst S W' (ints_VR _) p hp⟩
    · split at e3
      · rename_i ss z
        split at e3
        · rename_i c
          cases e3
          have := strsOf_V a3 z
          subst this
          exact cr_sortedS pins s σ H _ us Q I rs ⟨a, ss, rfl, a2, c, fun ns' p p1 p2 hp => by
            have := sortS_only p1 p2
            subst this
            exact k_lst S W' (strs_VR _) p hp⟩
        · cases e3
      · cases e3
theorem strD : CallR X (.type "str") (rM X.K E (biF .str)) := by
  rintro pins s σ H xs us Q I rs ⟨ρ, h, ts, S, r, W⟩
  obtain ⟨t, v, rfl, rfl, rv⟩ := arg1 S r W ⟨by decide, by decide⟩
  cases rv with
  | int i =>
    have W' : Wg X.K E ρ h H (if i.natAbs.log2 < 1920 then .ok (.str ((toString i : String) : Str)) h else .fail) (qV X.K Q) := W
    split at W'
    · rename_i c
      exact call_str_int pins s σ H _ us Q I rs ⟨i, rfl, c, k_ret S W' (.str _)⟩
    · exact False.elim W'
  | str x => exact SkE.call_str_str pins s σ H _ us Q I rs ⟨x, rfl, k_ret S W (.str _)⟩
  | _ => exact False.elim W

/-! ### lists by their methods -/
def rMt (K : PySem.W.Frag) (E : XK) (m : BM) : V → List V → Hp → VK → Prop := fun x xs H Q => ∃ ρ h t ts, Sim K ρ h H ∧ VR K ρ h.length H t x ∧ VRs K ρ h.length H ts xs ∧ Wg K E ρ h H (bmF m t ts h) (qV K Q)
def isLm : BM → Bool
  | .append => true
  | .clear => true
  | .pop => true
  | .extend => true
  | .popi => true
  | .lindex => true
  | _ => false
def isDm : BM → Bool
  | .dupd => true
  | .dget => true
  | .dpop => true
  | .dclear => true
  | _ => false
theorem bmF_dic {m : BM} {h : LH} {l : Nat} {ts : List T} {o : LO} (hm : isLm m = true) (e : dicAt h (.ref l) = some o) : bmF m (.ref l) ts h = .fail := by
  unfold bmF
  dsimp only
  rw [e]
  cases m <;> first | cases hm; done | rfl
theorem bmF_lst {m : BM} {h : LH} {l : Nat} {ts : List T} (e : dicAt h (.ref l) = none) : bmF m (.ref l) ts h = (match wlstOf h (.ref l) with
    | some xs => match m, ts with
      | .append, [x] => if xs.length < big then .ok .non (h.set l (.lst (xs ++ [x]))) else .fail
      | .clear, [] => .ok .non (h.set l (.lst []))
      | .pop, [] => match xs[xs.length - 1]? with
        | some y => .ok y (h.set l (.lst xs.dropLast))
        | none => .fail
      | .extend, [x] => match wlstOf h x with
        | some ys => if xs.length + ys.length ≤ big then .ok .non (h.set l (.lst (xs ++ ys))) else .fail
        | none => .fail
      | .popi, [.int i] => match atN xs.length i with
        | some j => match xs[j]? with
          | some y => if -(2 ^ 63) ≤ i ∧ i < 2 ^ 63 then .ok y (h.set l (.lst (xs.eraseIdx j))) else .fail
          | none => .fail
        | none => .fail
      | .lindex, [y] => if flatT y = true ∧ xs.all flatT = true then opt ((xs.findIdx? fun x => eqFlat x y).map fun (j : Nat) => T.int (j : Int)) h else opt (dixH h (.ref l) y) h
      | _, _ => .fail
    | none => .fail) := by
  unfold bmF
  dsimp only
  rw [e]
  try rfl
theorem recv {m : BM} (hm : isLm m = true) {ρ : Nat → Addr} {h : LH} {H : Hp} {t : T} {ts : List T} {v : V} {Q : VK} (S : Sim X.K ρ h H) (r : VR X.K ρ h.length H t v) (W : Wg X.K E ρ h H (bmF m t ts h) (qV X.K Q)) :
    ∃ l xs vs, t = .ref l ∧ v = .ref (ρ l) ∧ h[l]? = some (.lst xs) ∧ H (ρ l) = some (.lst vs) ∧ VRs X.K ρ h.length H xs vs := by
  cases r with
  | @ref l hl =>
    cases ed : dicAt h (.ref l) with
    | some o => rw [bmF_dic hm ed] at W; exact False.elim W
    | none =>
    rw [bmF_lst ed] at W
    cases e : wlstOf h (.ref l) with
    | none => rw [e] at W; exact False.elim W
    | some xs =>
      obtain ⟨l', vs, e1, e2, e3, e4, e5⟩ := wlst_of S (VR.ref (K := X.K) (ρ := ρ) (H := H) hl) e
      cases e1
      exact ⟨l, xs, vs, rfl, rfl, e3, e4, e5⟩
  | str x => cases m <;> first | cases hm; done | exact False.elim W
  | _ => exact False.elim W
theorem bm_at {m : BM} {h : LH} {l : Nat} {xs : List T} {ts : List T} (e : h[l]? = some (.lst xs)) : bmF m (.ref l) ts h = (match m, ts with
      | .append, [x] => if xs.length < big then .ok .non (h.set l (.lst (xs ++ [x]))) else .fail
      | .clear, [] => .ok .non (h.set l (.lst []))
      | .pop, [] => match xs[xs.length - 1]? with
        | some y => .ok y (h.set l (.lst xs.dropLast))
        | none => .fail
      | .extend, [x] => match wlstOf h x with
        | some ys => if xs.length + ys.length ≤ big then .ok .non (h.set l (.lst (xs ++ ys))) else .fail
        | none => .fail
      | .popi, [.int i] => match atN xs.length i with
        | some j => match xs[j]? with
          | some y => if -(2 ^ 63) ≤ i ∧ i < 2 ^ 63 then .ok y (h.set l (.lst (xs.eraseIdx j))) else .fail
          | none => .fail
        | none => .fail
      | .lindex, [y] => if flatT y = true ∧ xs.all flatT = true then opt ((xs.findIdx? fun x => eqFlat x y).map fun (j : Nat) => T.int (j : Int)) h else opt (dixH h (.ref l) y) h
      | _, _ => .fail) := by
  have e1 : wlstOf h (.ref l) = some xs := by
    show (h[l]?).bind LO.wlist = some xs
    rw [e]; rfl
  have e0 : dicAt h (.ref l) = none := by
    unfold dicAt
    dsimp only
    rw [e]; rfl
  rw [bmF_lst e0, e1] <;> rfl
theorem appendD : MtM X "list.append" (rMt X.K E .append) := by
  rintro pins s σ H x xs v us Q I rx rs ⟨ρ, h, t, ts, S, r, q, W⟩
  obtain ⟨l, ys, vs, rfl, rfl, e1, e2, e3⟩ := recv rfl S r W
  rw [bm_at e1] at W
  cases q with
  | nil => exact False.elim W
  | cons a b =>
    cases b with
    | cons _ _ => exact False.elim W
    | nil =>
      rename_i u w
      have W' : Wg X.K E ρ h H (if ys.length < big then .ok .non (h.set l (.lst (ys ++ [u]))) else .fail) (qV X.K Q) := W
      by_cases c : ys.length < big
      · rw [if_pos c] at W'
        refine mt_append pins s σ H _ _ v us Q I rx rs ⟨ρ l, vs, w, rfl, rfl, e2, ?_, ?_⟩
        · rw [← e3.len]
          exact Nat.lt_of_lt_of_le c big_line
        · exact k_wr (o' := .lst (ys ++ [u])) S e1 rfl rfl W' ⟨vs ++ [w], (e3.append (.cons a .nil)).wr S e1 rfl, upd_same⟩ (fun _ _ e => nomatch e) _ .non
      · rw [if_neg c] at W'; exact False.elim W'
theorem clearD : MtM X "list.clear" (rMt X.K E .clear) := by
  rintro pins s σ H x xs v us Q I rx rs ⟨ρ, h, t, ts, S, r, q, W⟩
  obtain ⟨l, ys, vs, rfl, rfl, e1, e2, e3⟩ := recv rfl S r W
  rw [bm_at e1] at W
  cases q with
  | nil => exact mt_clear pins s σ H _ _ v us Q I rx rs ⟨ρ l, vs, rfl, rfl, e2, k_wr (o' := .lst []) S e1 rfl rfl W ⟨[], .nil, upd_same⟩ (fun _ _ e => nomatch e) _ .non⟩
  | cons _ _ => exact False.elim W
theorem popD : MtM X "list.pop" (rMt X.K E .pop) := by
  rintro pins s σ H x xs v us Q I rx rs ⟨ρ, h, t, ts, S, r, q, W⟩
  obtain ⟨l, ys, vs, rfl, rfl, e1, e2, e3⟩ := recv rfl S r W
  rw [bm_at e1] at W
  cases q with
  | nil =>
    have W' : Wg X.K E ρ h H (match ys[ys.length - 1]? with
      | some y => .ok y (h.set l (.lst ys.dropLast))
      | none => .fail) (qV X.K Q) := W
    cases e : ys[ys.length - 1]? with
    | none => rw [e] at W'; exact False.elim W'
    | some y =>
      rw [e] at W'
      obtain ⟨w, e4, rw'⟩ := e3.get e
      rw [e3.len] at e4
      exact mt_pop pins s σ H _ _ v us Q I rx rs ⟨ρ l, vs, w, rfl, rfl, e2, e4, k_wr (o' := .lst ys.dropLast) S e1 rfl rfl W' ⟨vs.dropLast, e3.dropLast.wr S e1 rfl, upd_same⟩ (fun _ _ e => nomatch e) _ (by
        rw [List.length_set]
        exact rw'.wr S e1 rfl)⟩
  | cons _ _ => exact False.elim W
theorem extendD : MtM X "list.extend" (rMt X.K E .extend) := by
  rintro pins s σ H x xs v us Q I rx rs ⟨ρ, h, t, ts, S, r, q, W⟩
  obtain ⟨l, ys, vs, rfl, rfl, e1, e2, e3⟩ := recv rfl S r W
  rw [bm_at e1] at W
  cases q with
  | nil => exact False.elim W
  | cons a b =>
    cases b with
    | cons _ _ => exact False.elim W
    | nil =>
      rename_i u w
      have W' : Wg X.K E ρ h H (match wlstOf h u with
        | some zs => if ys.length + zs.length ≤ big then .ok .non (h.set l (.lst (ys ++ zs))) else .fail
        | none => .fail) (qV X.K Q) := W
      cases e : wlstOf h u with
      | none => rw [e] at W'; exact False.elim W'
      | some zs =>
        rw [e] at W'
        dsimp only at W'
        obtain ⟨k, ws, b1, b2, b3, b4, b5⟩ := wlst_of S a e
        subst b2
        by_cases c : ys.length + zs.length ≤ big
        · rw [if_pos c] at W'
          refine mt_extend pins s σ H _ _ v us Q I rx rs ⟨ρ l, ρ k, vs, ws, rfl, rfl, e2, b4, ?_, ?_⟩
          · rw [← e3.len, ← b5.len]
            exact Nat.le_trans c big_line
          · exact k_wr (o' := .lst (ys ++ zs)) S e1 rfl rfl W' ⟨vs ++ ws, (e3.append b5).wr S e1 rfl, upd_same⟩ (fun _ _ e => nomatch e) _ .non
        · rw [if_neg c] at W'; exact False.elim W'

/-! ### dicts by their methods -/
theorem dicRecv {m : BM} (hm : isDm m = true) {ρ : Nat → Addr} {h : LH} {H : Hp} {t : T} {ts : List T} {v : V} {Q : VK} (S : Sim X.K ρ h H) (r : VR X.K ρ h.length H t v) (W : Wg X.K E ρ h H (bmF m t ts h) (qV X.K Q)) :
    ∃ l o, t = .ref l ∧ v = .ref (ρ l) ∧ h[l]? = some o ∧ isDic o = true ∧ dicAt h (.ref l) = some o := by
  cases r with
  | @ref l hl =>
    cases ed : dicAt h (.ref l) with
    | none =>
      rw [bmF_lst ed] at W
      cases e : wlstOf h (.ref l) with
      | none => rw [e] at W; exact False.elim W
      | some xs =>
        rw [e] at W
        cases m <;> first | cases hm; done | exact False.elim W
    | some o =>
      refine ⟨l, o, rfl, rfl, ?_⟩
      unfold dicAt at ed
      dsimp only at ed
      cases e : h[l]? with
      | none => rw [e] at ed; cases ed
      | some o' =>
        rw [e] at ed
        dsimp only at ed
        by_cases c : isDic o' = true
        · rw [if_pos c] at ed
          cases ed
          exact ⟨rfl, c, by unfold dicAt; dsimp only; rw [e]; exact if_pos c⟩
        · rw [if_neg c] at ed; cases ed
  | str x => cases m <;> first | cases hm; done | exact False.elim W
  | _ => exact False.elim W
theorem getD_vr {ρ : Nat → Addr} {n : Nat} {H : Hp} {r : Option T} {r' : Option V} {x : T} {y : V} (zz : (r = none ∧ r' = none) ∨ ∃ t v, r = some t ∧ r' = some v ∧ VR X.K ρ n H t v) (q : VR X.K ρ n H x y) : VR X.K ρ n H (r.getD x) (r'.getD y) := by
  rcases zz with ⟨a, b⟩ | ⟨t, v, a, b, z⟩
  · subst a b; exact q
  · subst a b; exact z
theorem dgetD (hu : X.A.units + 64 < cLine) : MtM X "dict.get" (rMt X.K E .dget) := by
  rintro pins s σ H x xs v us Q I rx rs ⟨ρ, h, t, ts, S, r, q, W⟩
  obtain ⟨l, o, rfl, rfl, e1, d1, e2⟩ := dicRecv rfl S r W
  unfold bmF at W
  dsimp only at W
  rw [e2] at W
  obtain rfl : v = Value.ref (ρ l) := rx
  cases q with
  | nil => exact False.elim W
  | cons a b =>
    rename_i k y _ _
    cases b with
    | nil =>
      obtain ⟨u, rfl, ru⟩ := rs.one
      dsimp only at W
      cases hg : dgetO o k with
      | none => rw [hg] at W; exact False.elim W
      | some g =>
        rw [hg] at W
        obtain ⟨r', dg, zz⟩ := dget_of S e1 a hg
        exact d_get1 (by omega) I dg ru fun w' s' I' rw' => ⟨_, H, I', rw', W ρ H Grow.refl S _ (getD_vr zz .non)⟩
    | cons c b =>
      rename_i k2 y2 _ _
      cases b with
      | cons _ _ => exact False.elim W
      | nil =>
        obtain ⟨u, u2, rfl, ru, ru2⟩ := rs.two
        dsimp only at W
        cases hg : dgetO o k with
        | none => rw [hg] at W; exact False.elim W
        | some g =>
          rw [hg] at W
          obtain ⟨r', dg, zz⟩ := dget_of S e1 a hg
          exact d_get2 (by omega) I dg ru ru2 fun w' s' I' rw' => ⟨_, H, I', rw', W ρ H Grow.refl S _ (getD_vr zz c)⟩
theorem PR.upd {ρ : Nat → Addr} {n : Nat} {H : Hp} {more : List (Key × T)} {mv : List (Key × V)} (m : PR X.K ρ n H more mv) : ∀ {kvs : List (Key × T)} {kv : List (Key × V)}, PR X.K ρ n H kvs kv → PR X.K ρ n H (kupd kvs more) (mv.foldl (fun d p => putK d p.1 p.2) kv) := by
  induction m with
  | nil => exact fun s => s
  | cons a b ih => exact fun s => ih (s.put a)
theorem KV.updM {mv : List (Key × V)} {ms : List (Key × Value)} (m : KV mv ms) : ∀ {kv : List (Key × V)} {vs : List (Key × Value)}, KV kv vs → KV (mv.foldl (fun d p => putK d p.1 p.2) kv) (merged vs ms) := by
  unfold KV at m
  induction m with
  | nil => exact fun s => s
  | @cons p q ps qs h t ih =>
    intro kv vs s
    obtain ⟨k, y⟩ := p
    obtain ⟨k', u⟩ := q
    obtain ⟨h1, h2⟩ := h
    have h1' : k = k' := h1
    subst h1'
    exact ih (s.put k h2)
theorem upd_len : ∀ {mv kv : List (Key × V)}, (mv.foldl (fun d p => putK d p.1 p.2) kv).length ≤ kv.length + mv.length
  | [], _ => Nat.le_refl _
  | p :: mv, kv => by
    have := upd_len (mv := mv) (kv := putK kv p.1 p.2)
    have h2 := length_putK kv p.1 p.2
    rw [List.foldl_cons, List.length_cons]
    omega
theorem dupdD : MtM X "dict.update" (rMt X.K E .dupd) := by
  rintro pins s σ H x xs v us Q I rx rs ⟨ρ, h, t, ts, S, r, q, W⟩
  obtain ⟨l, o, rfl, rfl, e1, d1, e2⟩ := dicRecv rfl S r W
  unfold bmF at W
  dsimp only at W
  rw [e2] at W
  obtain rfl : v = Value.ref (ρ l) := rx
  cases q with
  | nil => exact False.elim W
  | cons a b =>
    cases b with
    | cons _ _ => cases a <;> exact False.elim W
    | nil =>
      obtain ⟨u, rfl, ru⟩ := rs.one
      cases a with
      | @ref k hk =>
        dsimp only at W
        cases o with
        | dK kvs =>
          cases e3 : h[k]? with
          | none => rw [e3] at W; exact False.elim W
          | some o2 =>
            rw [e3] at W
            cases o2 with
            | dK more =>
              dsimp only at W
              by_cases c : l ≠ k ∧ kvs.length + more.length ≤ big
              · rw [if_pos c] at W
                obtain ⟨kv, p1, p2⟩ := S.obj l _ e1
                obtain ⟨mv, m1, m2⟩ := S.obj k _ e3
                obtain rfl : u = Value.ref (ρ k) := ru
                obtain ⟨z, hd, vs, rel, dd⟩ := dk_of I.hok p2
                obtain ⟨z2, hd2, vs2, rel2, dd2⟩ := dk_of I.hok m2
                have ne : ρ l ≠ ρ k := fun z => c.1 (S.inj l k _ _ e1 e3 rfl rfl z)
                have hz : kv.length + mv.length ≤ sizeLine := by
                  rw [← p1.len, ← m1.len]
                  exact Nat.le_trans c.2 big_line
                have hz2 : vs.length + vs2.length ≤ sizeLine := by rw [← rel.length, ← rel2.length]; exact hz
                refine call_meetsIn PySem.F.slot_dict_update dd.typeIs PySem.F.entry_dict_update (PySem.F.args_dict_update_2 _ _) (meets_dict_update (mixKind X.prog X.w) (ρ l) (ρ k) ne hd2) ⟨vs, vs2, dd, dd2, hz2, fun h' dd' _ hs => ?_⟩
                have he : ∃ q, h'.get? (ρ l) = some q := let ⟨q, _, _, hq, _⟩ := dd'; ⟨q, hq⟩
                refine ⟨.non, _, d_write I (by rw [p2]; exact True.intro) hs he (dk_new (Nat.le_trans upd_len hz) hd (KV.updM rel2 rel) dd'), rfl, ?_⟩
                exact k_wr (o' := .dK (kupd kvs more)) S e1 rfl rfl W ⟨_, (PR.upd m1 p1).wr S e1 rfl, upd_same⟩ (fun _ _ e => nomatch e) _ .non
              · rw [if_neg c] at W; exact False.elim W
            | _ => exact False.elim W
        | _ => exact False.elim W
      | _ => exact False.elim W

theorem dpopD : MtM X "dict.pop" (rMt X.K E .dpop) := by
  rintro pins s σ H x xs v us Q I rx rs ⟨ρ, h, t, ts, S, r, q, W⟩
  obtain ⟨l, o, rfl, rfl, e1, d1, e2⟩ := dicRecv rfl S r W
  unfold bmF at W
  dsimp only at W
  rw [e2] at W
  obtain rfl : v = Value.ref (ρ l) := rx
  cases q with
  | nil => exact False.elim W
  | cons a b =>
    rename_i k y _ _
    cases b with
    | cons _ _ => exact False.elim W
    | nil =>
      obtain ⟨u, rfl, ru⟩ := rs.one
      dsimp only at W
      cases hg : dgetO o k with
      | none => rw [hg] at W; exact False.elim W
      | some g =>
        rw [hg] at W
        cases g with
        | none => exact False.elim W
        | some tv =>
          cases hd : ddelO o k with
          | none => rw [hd] at W; exact False.elim W
          | some o' =>
            rw [hd] at W
            dsimp only at W
            cases o with
            | dK kvs =>
              obtain ⟨kv, p1, p2⟩ := S.obj l _ e1
              obtain ⟨kk, k1, k2⟩ := Option.map_eq_some_iff.mp (show (keyOf k).map (fun k => LO.dK (kdrop kvs k)) = some o' from hd)
              have k3 : kget kvs kk = some tv := by
                have h3 : (keyOf k).map (fun k => kget kvs k) = some (some tv) := hg
                rw [k1] at h3
                exact Option.some.inj h3
              have ek := keyOf_eq a k1
              subst ek
              rcases kget_eq (k := kk) p1 with ⟨z, _⟩ | ⟨t2, v2, z1, z2, z3⟩
              · rw [z] at k3; cases k3
              · rw [z1] at k3; cases k3
                subst k2
                exact d_pop I p2 ru z2 (.inl rfl) fun w' s' I' rw' => ⟨_, _, I', rw', k_wr (o' := .dK (kdrop kvs kk)) S e1 rfl rfl W ⟨_, (p1.drop (k := kk)).wr S e1 rfl, upd_same⟩ (fun _ _ e => nomatch e) _ (by
                  rw [List.length_set]
                  exact z3.wr S e1 rfl)⟩
            | _ => cases hd
/-! ### slices -/
theorem cut_eq (xs : List T) (vs : List V) (hl : xs.length = vs.length) (lo hi : Option Int) {K : PySem.W.Frag} {ρ : Nat → Addr} {n : Nat} {H : Hp} (r : VRs K ρ n H xs vs) : VRs K ρ n H (cutT xs lo hi) (cutV vs lo hi) := by
  unfold cutT cutV
  rw [hl]
  exact (r.drop _).take _
def rSlM (K : PySem.W.Frag) (E : XK) : V → Option Int → Option Int → Hp → VK → Prop := fun x lo hi H Q => ∃ ρ h t, Sim K ρ h H ∧ VR K ρ h.length H t x ∧ Wg K E ρ h H (slT t lo hi h) (qV K Q)
theorem slL : SlR X (rSlM X.K E) := by
  rintro pins s σ H x v vl vu lo hi sl Q I rx hs pl pu ⟨ρ, h, t, S, r, W⟩
  unfold slT at W
  cases r with
  | @ref l hl =>
    dsimp only at W
    cases e : lstOf h (.ref l) with
    | none => rw [e] at W; exact False.elim W
    | some xs =>
      rw [e] at W
      obtain ⟨a, vs, a1, a2, a3⟩ := lst_of S (VR.ref (K := X.K) (ρ := ρ) (H := H) hl) e
      exact sl_list pins s σ H _ v vl vu lo hi sl Q I rx hs pl pu ⟨a, vs, a1, a2, k_lst S W (cut_eq xs vs a3.len lo hi a3)⟩
  | @tup xs a vs q1 q2 =>
    refine sl_tupA pins s σ H _ v vl vu lo hi sl Q I rx hs pl pu ⟨_, _, rfl, SqT.of q1, fun c => ?_, fun _ => k_tup S W (cut_eq xs vs q2.len lo hi q2)⟩
    have e : cutT xs lo hi = xs := by
      unfold cutT
      rw [q2.len, c.1, c.2, ← q2.len, List.drop_zero, Nat.sub_zero, List.take_length]
    dsimp only at W
    rw [e] at W
    exact k_ret S W (.tup q1 q2)
  | str z =>
    dsimp only at W
    split at W
    · rename_i c
      exact sl_str pins s σ H _ v vl vu lo hi sl Q I rx hs pl pu ⟨z, rfl, Nat.le_trans c big_line, k_ret S W (.str _)⟩
    · exact False.elim W
  | _ => exact False.elim W
/-! ### more methods -/
theorem sjoinD : MtM X "str.join" (rMt X.K E .sjoin) := by
  rintro pins s σ H x xs v us Q I rx rs ⟨ρ, h, t, ts, S, r, q, W⟩
  cases r with
  | str a =>
    cases q with
    | nil => exact False.elim W
    | cons q0 q1 =>
      cases q1 with
      | nil =>
        rename_i t0 v0
        have W' : Wg X.K E ρ h H (match (seqOf h t0).bind strsOf with
          | some ys => if (ys.map (·.length)).sum + ys.length * a.length ≤ big then .ok (.str (Txt.join a ys)) h else .fail
          | none => .fail) (qV X.K Q) := W
        cases e : (seqOf h t0).bind strsOf with
        | none => rw [e] at W'; exact False.elim W'
        | some ys =>
          rw [e] at W'
          dsimp only at W'
          split at W'
          · rename_i c
            obtain ⟨ts2, e1, e2⟩ := Option.bind_eq_some_iff.mp e
            obtain ⟨a2, vs, rfl, h1, h2⟩ := seq_of S q0 e1
            have := strsOf_V h2 e2
            subst this
            exact mt_join pins s σ H _ _ v us Q I rx rs ⟨a, a2, ys, rfl, rfl, h1, Nat.le_trans c (by decide), k_ret S W' (.str _)⟩
          · exact False.elim W'
      | cons _ _ => exact False.elim W
  | ref hl =>
    have : ∀ l ts, bmF .sjoin (.ref l) ts h = .fail := fun l ts => by
      unfold bmF
      dsimp only
      cases dicAt h (.ref l) with
      | some o => rfl
      | none => cases wlstOf h (.ref l) <;> rfl
    rw [this] at W
    exact False.elim W
  | _ => exact False.elim W
theorem dclearD : MtM X "dict.clear" (rMt X.K E .dclear) := by
  rintro pins s σ H x xs v us Q I rx rs ⟨ρ, h, t, ts, S, r, q, W⟩
  obtain ⟨l, o, rfl, ev, e1, e2, e3⟩ := dicRecv rfl S r W
  unfold bmF at W
  dsimp only at W
  rw [e3] at W
  cases q with
  | nil =>
    cases o with
    | dK kvs =>
      obtain ⟨kv, p1, p2⟩ := S.obj l _ e1
      exact mtd_clear pins s σ H _ _ v us Q I rx rs ⟨ρ l, kv, ev, rfl, p2, k_wr (o' := .dK []) S e1 rfl rfl W ⟨[], .nil, upd_same⟩ (fun _ _ e => nomatch e) _ .non⟩
    | _ => exact False.elim W
  | cons _ _ => cases o <;> exact False.elim W
theorem atN_seq {n : Nat} {i : Int} {j : Nat} (e : atN n i = some j) : seqIndex? i n = some j := by
  unfold atN at e
  unfold seqIndex?
  by_cases c : 0 ≤ i
  · rw [if_pos c] at e
    by_cases d : i < n
    · rw [if_pos d] at e
      cases e
      have c2 : ¬ i < 0 := by omega
      simp only [if_neg c2]
      rw [if_pos (by rw [Bool.and_eq_true, decide_eq_true_eq, decide_eq_true_eq]; exact ⟨c, d⟩)]
    · rw [if_neg d] at e; cases e
  · rw [if_neg c] at e
    have c2 : i < 0 := by omega
    by_cases d : -(n : Int) ≤ i
    · rw [if_pos d] at e
      cases e
      simp only [if_pos c2]
      rw [if_pos (by rw [Bool.and_eq_true, decide_eq_true_eq, decide_eq_true_eq]; constructor <;> omega)]
    · rw [if_neg d] at e; cases e
theorem VRs.erase {K : PySem.W.Frag} {ρ : Nat → Addr} {n : Nat} {H : Hp} : ∀ {ts : List T} {vs : List V} (j : Nat), VRs K ρ n H ts vs → VRs K ρ n H (ts.eraseIdx j) (vs.eraseIdx j)
  | _, _, _, .nil => .nil
  | _, _, 0, .cons _ r => r
  | _, _, j + 1, .cons a r => .cons a (VRs.erase j r)
theorem popiD : MtM X "list.pop" (rMt X.K E .popi) := by
  rintro pins s σ H x xs v us Q I rx rs ⟨ρ, h, t, ts, S, r, q, W⟩
  obtain ⟨l, ys, vs, rfl, rfl, e1, e2, e3⟩ := recv rfl S r W
  rw [bm_at e1] at W
  cases q with
  | nil => exact False.elim W
  | cons a b =>
    cases b with
    | cons _ _ => cases a <;> exact False.elim W
    | nil =>
      cases a with
      | int i =>
        have W' : Wg X.K E ρ h H (match atN ys.length i with
          | some j => match ys[j]? with
            | some y => if -(2 ^ 63) ≤ i ∧ i < 2 ^ 63 then .ok y (h.set l (.lst (ys.eraseIdx j))) else .fail
            | none => .fail
          | none => .fail) (qV X.K Q) := W
        cases ej : atN ys.length i with
        | none => rw [ej] at W'; exact False.elim W'
        | some j =>
          rw [ej] at W'
          dsimp only at W'
          cases ey : ys[j]? with
          | none => rw [ey] at W'; exact False.elim W'
          | some y =>
            rw [ey] at W'
            dsimp only at W'
            split at W'
            · rename_i c
              obtain ⟨w, e4, rw'⟩ := e3.get ey
              rw [e3.len] at ej
              exact mt_popAt pins s σ H _ _ v us Q I rx rs ⟨ρ l, vs, i, j, w, rfl, rfl, e2, c.1, c.2, atN_seq ej, e4, k_wr (o' := .lst (ys.eraseIdx j)) S e1 rfl rfl W' ⟨vs.eraseIdx j, (e3.erase j).wr S e1 rfl, upd_same⟩ (fun _ _ e => nomatch e) _ (by
                rw [List.length_set]
                exact rw'.wr S e1 rfl)⟩
            · exact False.elim W'
      | _ => exact False.elim W
theorem lindexD (hu : X.A.units + 65 < cLine) : MtM X "list.index" (rMt X.K E .lindex) := by
  rintro pins s σ H x xs v us Q I rx rs ⟨ρ, h, t, ts, S, r, q, W⟩
  obtain ⟨l, ys, vs, rfl, rfl, e1, e2, e3⟩ := recv rfl S r W
  rw [bm_at e1] at W
  cases q with
  | nil => exact False.elim W
  | cons a b =>
    cases b with
    | cons _ _ => exact False.elim W
    | nil =>
      rename_i u w
      have W' : Wg X.K E ρ h H (if flatT u = true ∧ ys.all flatT = true then opt ((ys.findIdx? fun x => eqFlat x u).map fun (j : Nat) => T.int (j : Int)) h else opt (dixH h (.ref l) u) h) (qV X.K Q) := W
      split at W'
      · rename_i c
        obtain ⟨z, ez, q⟩ := Wg.opt_ S W'
        obtain ⟨j, e4, e5⟩ := Option.map_eq_some_iff.mp ez
        subst e5
        obtain ⟨lj, hj, hno⟩ := List.findIdx?_eq_some_iff_getElem.mp e4
        have fj : ∀ (i : Nat) (p : i < ys.length), flatT ys[i] = true := fun i p => List.all_eq_true.mp c.2 _ (List.getElem_mem p)
        obtain ⟨wj, g1, g2⟩ := e3.get (List.getElem?_eq_getElem lj)
        exact mt_index pins s σ H _ _ v us Q I rx rs ⟨ρ l, vs, w, j, wj, rfl, rfl, SqL.of e2, a.flat c.1, e3.flat c.2, g1, by rw [eqFlat_eq g2 a (fj j lj) c.1]; exact hj, fun m z' lm hz => by
          have lm' : m < ys.length := by omega
          obtain ⟨wm, y1, y2⟩ := e3.get (List.getElem?_eq_getElem lm')
          rw [y1] at hz
          cases hz
          rw [eqFlat_eq y2 a (fj m lm') c.1]
          simpa using hno m lm, q _ (.int _)⟩
      · obtain ⟨z, ez, q⟩ := Wg.opt_ S W'
        unfold dixH at ez
        cases e6 : datH h 8 (.ref l) with
        | none => rw [e6] at ez; cases ez
        | some dl =>
          cases e7 : datH h 8 u with
          | none => rw [e6, e7] at ez; cases dl <;> cases ez
          | some d =>
            rw [e6, e7] at ez
            cases dl with
            | list ds =>
              obtain ⟨j, e4, e5⟩ := Option.map_eq_some_iff.mp ez
              subst e5
              obtain ⟨lj, hj, hno⟩ := List.findIdx?_eq_some_iff_getElem.mp e4
              have rl : VR X.K ρ h.length H (.ref l) (.ref (ρ l)) := VR.ref (lt_of_get e1)
              exact mt_indexD hu pins s σ H _ _ v us Q I rx rs ⟨ρ l, w, d, ds, j, ds[j], rfl, rfl, dp_of S 8 rl e6, dp_of S 8 a e7, dat_shaped e6, dat_shaped e7, List.getElem?_eq_getElem lj, hj, fun m z' lm hz => by
                have lm' : m < ds.length := by omega
                rw [List.getElem?_eq_getElem lm'] at hz
                cases hz
                simpa using hno m lm, q _ (.int _)⟩
            | _ => cases ez
theorem noRef {m : BM} (hm : m = .sstrip ∨ m = .supper ∨ m = .sindex) (h : LH) (l : Nat) (ts : List T) : bmF m (.ref l) ts h = .fail := by
  unfold bmF
  dsimp only
  rcases hm with rfl | rfl | rfl <;>
  · cases dicAt h (.ref l) with
    | some o => rfl
    | none => cases wlstOf h (.ref l) <;> rfl
theorem sstripD : MtR X "str.strip" (rMt X.K E .sstrip) := by
  rintro pins s σ H x xs v us Q I rx rs ⟨ρ, h, t, ts, S, r, q, W⟩
  cases r with
  | str a =>
    cases q with
    | nil => exact False.elim W
    | cons q0 q1 =>
      cases q1 with
      | cons _ _ => cases q0 <;> exact False.elim W
      | nil =>
        cases q0 with
        | str b =>
          have W' : Wg X.K E ρ h H (if a.length ≤ big then .ok (.str (Txt.stripChars a b)) h else .fail) (qV X.K Q) := W
          split at W'
          · rename_i c
            exact mt_stripChars pins s σ H _ _ v us Q I rx rs ⟨a, b, rfl, rfl, Nat.le_trans c (by decide), k_ret S W' (.str _)⟩
          · exact False.elim W'
        | _ => exact False.elim W
  | ref hl => rw [noRef (.inl rfl)] at W; exact False.elim W
  | _ => exact False.elim W
theorem supperD : MtR X "str.upper" (rMt X.K E .supper) := by
  rintro pins s σ H x xs v us Q I rx rs ⟨ρ, h, t, ts, S, r, q, W⟩
  cases r with
  | str a =>
    cases q with
    | nil =>
      have W' : Wg X.K E ρ h H (if a.length ≤ big then .ok (.str (Txt.upper a)) h else .fail) (qV X.K Q) := W
      split at W'
      · rename_i c
        exact mt_upper pins s σ H _ _ v us Q I rx rs ⟨a, rfl, rfl, Nat.le_trans c (by decide), k_ret S W' (.str _)⟩
      · exact False.elim W'
    | cons _ _ => exact False.elim W
  | ref hl => rw [noRef (.inr (.inl rfl))] at W; exact False.elim W
  | _ => exact False.elim W
theorem sindexD : MtR X "str.index" (rMt X.K E .sindex) := by
  rintro pins s σ H x xs v us Q I rx rs ⟨ρ, h, t, ts, S, r, q, W⟩
  cases r with
  | str a =>
    cases q with
    | nil => exact False.elim W
    | cons q0 q1 =>
      cases q1 with
      | cons _ _ => cases q0 <;> exact False.elim W
      | nil =>
        cases q0 with
        | str b =>
          obtain ⟨z, ez, q⟩ := Wg.opt_ S (show Wg X.K E ρ h H (opt ((Txt.index0 a b).map fun (j : Nat) => T.int (j : Int)) h) _ from W)
          obtain ⟨j, e4, e5⟩ := Option.map_eq_some_iff.mp ez
          subst e5
          obtain ⟨t, rfl⟩ := rx
          cases rs with
          | cons r1 rs =>
            cases rs
            obtain ⟨u, rfl⟩ := r1
            cases oc : Builtin.Str.occurrences a b 0 a.length 1 with
            | nil => unfold Txt.index0 at e4; rw [oc] at e4; cases e4
            | cons k rest =>
              have : k = j := by unfold Txt.index0 at e4; rw [oc] at e4; exact Option.some.inj e4
              subst this
              exact PySem.SC.index oc ⟨.int (k : Nat), H, I.tok _, ⟨_, rfl⟩, q _ (.int _)⟩
        | _ => exact False.elim W
  | ref hl => rw [noRef (.inr (.inr rfl))] at W; exact False.elim W
  | _ => exact False.elim W
theorem minI_is {ns : List Int} {m : Int} (h1 : m ∈ ns) (h2 : ∀ y ∈ ns, m ≤ y) : minI ns = m := by
  cases ns with
  | nil => simp at h1
  | cons a r =>
    have fold : ∀ (l : List Int) (z : Int), l.foldl (fun m x => if x < m then x else m) z ≤ z ∧ (∀ y ∈ l, l.foldl (fun m x => if x < m then x else m) z ≤ y) ∧ (l.foldl (fun m x => if x < m then x else m) z = z ∨ l.foldl (fun m x => if x < m then x else m) z ∈ l) := by
      intro l
      induction l with
      | nil => intro z; simp
      | cons b l ih =>
        intro z
        rw [List.foldl_cons]
        obtain ⟨y1, y2, y3⟩ := ih (if b < z then b else z)
        have hle : (if b < z then b else z) ≤ z ∧ (if b < z then b else z) ≤ b := by split <;> constructor <;> omega
        refine ⟨Int.le_trans y1 hle.1, fun y hy => ?_, ?_⟩
        · rcases List.mem_cons.mp hy with rfl | hy
          · exact Int.le_trans y1 hle.2
          · exact y2 y hy
        · rcases y3 with y3 | y3
          · rw [y3]
            split
            · exact .inr List.mem_cons_self
            · exact .inl rfl
          · exact .inr (List.mem_cons_of_mem _ y3)
    obtain ⟨y1, y2, y3⟩ := fold r a
    show r.foldl _ a = m
    refine Int.le_antisymm ?_ ?_
    · rcases List.mem_cons.mp h1 with rfl | h
      · exact y1
      · exact y2 m h
    · rcases y3 with y3 | y3
      · rw [y3]; exact h2 a List.mem_cons_self
      · exact h2 _ (List.mem_cons_of_mem _ y3)
theorem maxI_is {ns : List Int} {m : Int} (h1 : m ∈ ns) (h2 : ∀ y ∈ ns, y ≤ m) : maxI ns = m := by
  cases ns with
  | nil => simp at h1
  | cons a r =>
    have fold : ∀ (l : List Int) (z : Int), z ≤ l.foldl (fun m x => if x > m then x else m) z ∧ (∀ y ∈ l, y ≤ l.foldl (fun m x => if x > m then x else m) z) ∧ (l.foldl (fun m x => if x > m then x else m) z = z ∨ l.foldl (fun m x => if x > m then x else m) z ∈ l) := by
      intro l
      induction l with
      | nil => intro z; simp
      | cons b l ih =>
        intro z
        rw [List.foldl_cons]
        obtain ⟨y1, y2, y3⟩ := ih (if b > z then b else z)
        have hle : z ≤ (if b > z then b else z) ∧ b ≤ (if b > z then b else z) := by split <;> constructor <;> omega
        refine ⟨Int.le_trans hle.1 y1, fun y hy => ?_, ?_⟩
        · rcases List.mem_cons.mp hy with rfl | hy
          · exact Int.le_trans hle.2 y1
          · exact y2 y hy
        · rcases y3 with y3 | y3
          · rw [y3]
            split
            · exact .inr List.mem_cons_self
            · exact .inl rfl
          · exact .inr (List.mem_cons_of_mem _ y3)
    obtain ⟨y1, y2, y3⟩ := fold r a
    show r.foldl _ a = m
    refine Int.le_antisymm ?_ ?_
    · rcases y3 with y3 | y3
      · rw [y3]; exact h2 a List.mem_cons_self
      · exact h2 _ (List.mem_cons_of_mem _ y3)
    · rcases List.mem_cons.mp h1 with rfl | h
      · exact y1
      · exact y2 m h
theorem minLD (hc : X.calm = true) : CallR X (.builtin "min") (rM X.K E (biF .minL)) := by
  rintro pins s σ H xs us Q I rs ⟨ρ, h, ts, S, r, W⟩
  obtain ⟨t, v, rfl, rfl, rv⟩ := arg1 S r W ⟨by decide, by decide⟩
  obtain ⟨z, e, q⟩ := Wg.opt_ S (show Wg X.K E ρ h H (opt (((seqOf h t).bind intsOf).bind fun ns => if ns = [] then none else some (T.int (minI ns))) h) _ from W)
  obtain ⟨ns, e1, e2⟩ := Option.bind_eq_some_iff.mp e
  split at e2
  · cases e2
  · rename_i c
    cases e2
    obtain ⟨xs, e3, e4⟩ := Option.bind_eq_some_iff.mp e1
    obtain ⟨a, vs, rfl, a2, a3⟩ := seq_of S rv e3
    have := intsOf_V a3 e4
    subst this
    rcases a2 with a2 | a2
    rotate_left
    · obtain ⟨its, r2, ht, _⟩ := I.tuple a2
      rw [Vals.ref1 rs]
      exact minT_raw (I.ok.hd hc) ht r2.ints (List.length_pos_iff.mpr c) fun h' tk m t' hk m1 m2 => ⟨.int _, H, I.kept hk, ⟨_, rfl⟩, by rw [← minI_is m1 m2]; exact q _ (.int _)⟩
    exact cr_min hc pins s σ H _ us Q I rs ⟨a, ns, rfl, a2, List.length_pos_iff.mpr c, fun m m1 m2 => by rw [← minI_is m1 m2]; exact q _ (.int _)⟩
theorem maxLD (hc : X.calm = true) : CallR X (.builtin "max") (rM X.K E (biF .maxL)) := by
  rintro pins s σ H xs us Q I rs ⟨ρ, h, ts, S, r, W⟩
  obtain ⟨t, v, rfl, rfl, rv⟩ := arg1 S r W ⟨by decide, by decide⟩
  obtain ⟨z, e, q⟩ := Wg.opt_ S (show Wg X.K E ρ h H (opt (((lstOf h t).bind intsOf).bind fun ns => if ns = [] then none else some (T.int (maxI ns))) h) _ from W)
  obtain ⟨ns, e1, e2⟩ := Option.bind_eq_some_iff.mp e
  split at e2
  · cases e2
  · rename_i c
    cases e2
    obtain ⟨xs, e3, e4⟩ := Option.bind_eq_some_iff.mp e1
    obtain ⟨a, vs, rfl, a2, a3⟩ := lst_of S rv e3
    have := intsOf_V a3 e4
    subst this
    exact cr_max hc pins s σ H _ us Q I rs ⟨a, ns, rfl, a2, List.length_pos_iff.mpr c, fun m m1 m2 => by rw [← maxI_is m1 m2]; exact q _ (.int _)⟩
end
end Y

/-! L3f: fields, isinstance, dict displays, augmented stores by runs. -/
namespace Y
open PySem PySem.Spec L2
section
variable {α β : Type} {K : PySem.W.Frag} {E : XK} {ρ ρ' : Nat → Addr} {h h' : LH} {H H' : Hp} {k : Kt β} {k1 : Kt α}
theorem Wg.rd_ {f : LH → Option β} (S : Sim K ρ h H) (w : Wg K E ρ h H (rdH f h) k) : ∃ a, f h = some a ∧ k ρ h H a := by
  unfold rdH at w
  cases e : f h with
  | none => rw [e] at w; exact False.elim w
  | some a => rw [e] at w; exact ⟨a, rfl, w ρ H Grow.refl S⟩
theorem getF_of {fs : List (Str × T)} {fv : List (Str × V)} {n : Nat} {f : Str} {t : T} (p : PR K ρ n H fs fv) (e : getF fs f = some t) : (f, t) ∈ fs ∧ ∃ v, fv.lookup f = some v ∧ VR K ρ n H t v := by
  unfold getF at e
  induction p with
  | nil => cases e
  | @cons g u v ts vs r rs ih =>
    rw [List.lookup_cons] at e
    rw [List.lookup_cons]
    cases hg : (f == g) with
    | true =>
      rw [hg] at e
      cases e
      have := eq_of_beq hg
      subst this
      exact ⟨by simp, v, rfl, r⟩
    | false =>
      rw [hg] at e
      obtain ⟨h1, h2⟩ := ih e
      exact ⟨List.mem_cons_of_mem _ h1, h2⟩
theorem putF_of {fs : List (Str × T)} {fv : List (Str × V)} {n : Nat} {f : Str} {t : T} {v : V} (p : PR K ρ n H fs fv) (r : VR K ρ n H t v) : PR K ρ n H (putF f t fs) (L2.putF f v fv) := by
  induction p with
  | nil => exact .cons r .nil
  | @cons g u w ts vs q rs ih =>
    unfold putF L2.putF
    by_cases e : g = f
    · subst e
      rw [if_pos rfl, if_pos rfl]
      exact .cons r rs
    · rw [if_neg e, if_neg e]
      exact .cons q ih
theorem putF_mem {f : Str} {t : T} : ∀ {fs : List (Str × T)} {p : Str × T}, p ∈ putF f t fs → p.1 = f ∨ p ∈ fs
  | [], p, m => by
    have := List.mem_singleton.mp m
    subst this
    exact .inl rfl
  | (g, u) :: r, p, m => by
    unfold putF at m
    by_cases e : g = f
    · rw [if_pos e] at m
      rcases List.mem_cons.mp m with m | m
      · subst m; exact .inl rfl
      · exact .inr (List.mem_cons_of_mem _ m)
    · rw [if_neg e] at m
      rcases List.mem_cons.mp m with m | m
      · subst m; exact .inr (List.mem_cons_self ..)
      · rcases putF_mem m with m | m
        · exact .inl m
        · exact .inr (List.mem_cons_of_mem _ m)
end
section
variable {X : Cx} {E : XK}
theorem rd_fld {m : En → M T} {f : Str} : ∀ σ H Q, rdE X.K E (fun s => bnd (m s) fun x => fldT x f) σ H Q → tFld X.K (rdE X.K E m) f σ H Q := by
  rintro σ H Q ⟨ρ, h, s, S, R, W⟩
  refine ⟨ρ, h, s, S, R, W.bind fun t h1 ρ1 H1 g S1 W1 => ?_⟩
  intro v rv
  obtain ⟨z, e, q⟩ := Wg.rd_ S1 W1
  cases rv with
  | @ref l hl =>
    dsimp only at e
    cases ho : h1[l]? with
    | none => rw [ho] at e; cases e
    | some o =>
      rw [ho] at e
      cases o with
      | ins c fs =>
        have so := S1.obj l _ ho
        obtain ⟨dx, fv, p, ea, hc, hn⟩ := so
        obtain ⟨m1, w, e2, r2⟩ := getF_of p e
        exact ⟨_, _, dx, fv, w, rfl, ea, hc, hn _ m1, e2, q _ r2⟩
      | _ => cases e
  | _ => cases e
/-- a field is set -/
theorem set_fld {okF : Str → Str → Bool} (hok : ∀ c f, okF c f = true → NoAttr X.K (He.ga X.K c) f) {ρ : Nat → Addr} {h : LH} {H : Hp} {t u : T} {x y : V} {f : Str} {k : Kt Unit} (S : Sim X.K ρ h H) (r : VR X.K ρ h.length H t x) (q : VR X.K ρ h.length H u y)
    (W : Wg X.K E ρ h H (setFld okF t f u h) k) : ∃ a c dx fs, x = .ref a ∧ H a = some (.ins (He.ga X.K c) dx fs) ∧ Cls X.K (He.ga X.K c) ∧ NoAttr X.K (He.ga X.K c) f ∧ fs.length < 1000 ∧
      ∃ h', Sim X.K ρ h' (upd H a (.ins (He.ga X.K c) dx (L2.putF f y fs))) ∧ Grow h ρ H h' ρ (upd H a (.ins (He.ga X.K c) dx (L2.putF f y fs))) ∧ k ρ h' (upd H a (.ins (He.ga X.K c) dx (L2.putF f y fs))) () := by
  unfold setFld wrH at W
  cases r with
  | @ref l hl =>
    dsimp only at W
    cases ho : h[l]? with
    | none => rw [ho] at W; exact False.elim W
    | some o =>
      rw [ho] at W
      cases o with
      | ins c fs =>
        dsimp only at W
        have so := S.obj l _ ho
        obtain ⟨dx, fv, p, ea, hc, hn⟩ := so
        by_cases cc : fs.length < 900 ∧ ((getF fs f).isSome = true ∨ okF c f = true)
        · rw [if_pos cc] at W
          have nf : NoAttr X.K (He.ga X.K c) f := by
            rcases cc.2 with z | z
            · obtain ⟨w, e⟩ := Option.isSome_iff_exists.mp z
              exact hn _ (getF_of p e).1
            · exact hok _ _ z
          have ho' : OR X.K ρ h.length (upd H (ρ l) (.ins (He.ga X.K c) dx (L2.putF f y fv))) (.ins c (putF f u fs)) (ρ l) :=
            ⟨dx, _, (putF_of p q).wr S ho rfl, upd_same, hc, fun p hp => (putF_mem hp).elim (fun z => by rw [z]; exact nf) (hn p)⟩
          obtain ⟨S', g'⟩ := S.wr (o' := .ins c (putF f u fs)) (u := .ins (He.ga X.K c) dx (L2.putF f y fv)) ho rfl rfl ho'
          refine ⟨_, c, dx, fv, rfl, ea, hc, nf, ?_, _, S', g', W _ _ g' S'⟩
          rw [← p.len]; omega
        · rw [if_neg cc] at W; exact False.elim W
      | _ => exact False.elim W
  | _ => exact False.elim W
end
/-! ### isinstance -/
def tyN : Ty → String
  | .none => "NoneType"
  | .bool => "bool"
  | .int => "int"
  | .str => "str"
  | .tuple => "tuple"
  | .list => "list"
  | .dict => "dict"
theorem kit_tys (a b : Ty) (hb : b ≠ .none) : kitB (tyN a) (tyN b) = some (isiOne (.ty a) (.ty b)) := by
  revert a b
  have : ∀ a ∈ [Ty.none, .bool, .int, .str, .tuple, .list, .dict], ∀ b ∈ [Ty.bool, .int, .str, .tuple, .list, .dict], kitB (tyN a) (tyN b) = some (isiOne (.ty a) (.ty b)) := by decide +kernel
  intro a b hb
  exact this a (by cases a <;> decide) b (by cases b <;> first | decide | exact absurd rfl hb)
def kdV (K : PySem.W.Frag) : Kd → Value
  | .ty t => .type (tyN t)
  | .cls c => .ref (He.ga K c)
/-- what is known of the classes that isinstance asks of -/
structure IsiOk (K : PySem.W.Frag) (cls : List Str) : Prop where
  cc : ∀ c ∈ cls, ∀ d ∈ cls, PySem.W.kitOne K (.ref (He.ga K c)) (.ref (He.ga K d)) = some (decide (c = d))
  ct : ∀ c ∈ cls, ∀ t : Ty, t ≠ .none → PySem.W.kitOne K (.ref (He.ga K c)) (.type (tyN t)) = some false
  tc : ∀ c ∈ cls, ∀ t : Ty, PySem.W.kitOne K (.type (tyN t)) (.ref (He.ga K c)) = some false
  gate : ∀ c ∈ cls, PySem.W.findIn K (.ref (He.ga K c)) "__class__" = some (some (.builtin "object.__class__")) ∧ PySem.W.mroIn K (He.ga K c) (.type "object") = some true
  gg : ∀ c ∈ cls, PySem.W.specialIn K (.builtin "object.__class__") "__get__" = some (some (.builtin "getset_descriptor.__get__")) ∧ PySem.W.takesIn K (.builtin "object.__class__") = some true
def kdOk (cls : List Str) : Kd → Bool
  | .ty t => decide (t ≠ .none)
  | .cls c => decide (c ∈ cls)
section
variable {K : PySem.W.Frag} {ρ : Nat → Addr} {h : LH} {H : Hp} {cls : List Str}
theorem ty_of {t : T} {v : V} {k : Kd} (io : IsiOk K cls) (hk : ∀ c, k = .cls c → c ∈ cls) (S : Sim K ρ h H) (r : VR K ρ h.length H t v) (e : tyOf h t = some k) : TyX K H v (kdV K k) := by
  cases r with
  | non => cases e; exact .base .non
  | bl b => cases e; exact .base (.bl b)
  | int b => cases e; exact .base (.int b)
  | str b => cases e; exact .base (.str b)
  | ty x => cases e
  | @tup xs a vs q1 q2 => cases e; exact .base (.tup q1)
  | @kt xs a vs q1 q2 =>
    cases e
    rcases q1 with (q1 | ⟨o, q1⟩) | ⟨o, its, n, q1, q3, _⟩
    · exact .base (.tup q1)
    · exact .fTuple q1
    · exact .kTuple q1 q3
  | @ref l hl =>
    have e0 : (match h[l]? with
      | some (.lst _) => some (Kd.ty .list)
      | some (.dK _) => some (Kd.ty .dict)
      | some (.dT _) => some (Kd.ty .dict)
      | some (.ins c _) => some (Kd.cls c)
      | _ => none) = some k := e
    cases ho : h[l]? with
    | none => rw [ho] at e0; cases e0
    | some o =>
      rw [ho] at e0
      have so := S.obj l o ho
      cases o with
      | lst xs => cases e0; obtain ⟨vs, _, q⟩ := so; exact .base (.lst q)
      | dK xs => cases e0; obtain ⟨vs, _, q⟩ := so; exact .base (.dK q)
      | dT xs => cases e0; obtain ⟨vs, _, q⟩ := so; exact .base (.dT q)
      | ins c fs =>
        cases e0
        obtain ⟨dx, fv, _, q, hc, _⟩ := so
        have g := io.gate c (hk c rfl)
        have gg := io.gg c (hk c rfl)
        exact .base (.ins q hc g.1 gg.1 gg.2 g.2)
      | _ => cases e0
theorem kit_one {a b : Kd} (io : IsiOk K cls) (ha : ∀ c, a = .cls c → c ∈ cls) (hb : kdOk cls b = true) : PySem.W.kitOne K (kdV K a) (kdV K b) = some (isiOne a b) := by
  cases a with
  | ty s =>
    cases b with
    | ty t => exact kit_ty (kit_tys s t (of_decide_eq_true hb))
    | cls d =>
      rw [show isiOne (.ty s) (.cls d) = false by simp [isiOne]]
      exact io.tc d (of_decide_eq_true hb) s
  | cls c =>
    cases b with
    | ty t =>
      rw [show isiOne (.cls c) (.ty t) = false by simp [isiOne]]
      exact io.ct c (ha c rfl) t (of_decide_eq_true hb)
    | cls d =>
      rw [show isiOne (.cls c) (.cls d) = decide (c = d) by simp [isiOne]]
      exact io.cc c (ha c rfl) d (of_decide_eq_true hb)
theorem kit_any {a : Kd} (io : IsiOk K cls) (ha : ∀ c, a = .cls c → c ∈ cls) : ∀ {cs : List Kd}, cs.all (kdOk cls) = true → PySem.W.kitAny K (kdV K a) (cs.map (kdV K)) = some (cs.any (isiOne a))
  | [], _ => kitAny_nil
  | c :: cs, hc => by
    rw [List.all_cons, Bool.and_eq_true] at hc
    rw [List.map_cons, List.any_cons]
    refine kitAny_cons (kit_one io ha hc.1) (fun e => ?_) (fun e => by rw [e]; rfl)
    rw [e, Bool.false_or]
    exact kit_any io ha hc.2
end
end Y

/-! L3g: dict displays, comprehensions, loops by runs. -/
namespace Y
open PySem PySem.Spec L2
section
variable {K : PySem.W.Frag} {ρ ρ' : Nat → Addr} {h h' : LH} {H H' : Hp} {n : Nat}
def VPs (K : PySem.W.Frag) (ρ : Nat → Addr) (n : Nat) (H : Hp) (l : List (T × T)) (vs : List (V × V)) : Prop := VRs K ρ n H (l.map (·.1)) (vs.map (·.1)) ∧ VRs K ρ n H (l.map (·.2)) (vs.map (·.2))
theorem dicPut_of : ∀ {l : List (T × T)} {vs : List (V × V)} {kvs r : List (Key × T)} {kv : List (Key × V)}, VPs K ρ n H l vs → dicPut kvs l = some r → PR K ρ n H kvs kv → ∃ more : List (Key × V), vs = more.map (fun kv => (kV kv.1, kv.2)) ∧ more.length = l.length ∧ PR K ρ n H r (mergeK kv more)
  | [], [], kvs, r, kv, _, e, p => by cases e; exact ⟨[], rfl, rfl, p⟩
  | [], _ :: _, _, _, _, q, _, _ => by cases q.1
  | _ :: _, [], _, _, _, q, _, _ => by cases q.1
  | (k, t) :: l, (y, v) :: vs, kvs, r, kv, q, e, p => by
    obtain ⟨q1, q2⟩ := q
    cases q1 with
    | cons a1 b1 =>
      cases q2 with
      | cons a2 b2 =>
        unfold dicPut at e
        cases hk : keyOf k with
        | none => rw [hk] at e; cases e
        | some kk =>
          rw [hk] at e
          obtain ⟨more, e1, e2, e3⟩ := dicPut_of (l := l) (vs := vs) ⟨b1, b2⟩ e (p.put (k := kk) a2)
          refine ⟨(kk, v) :: more, ?_, by rw [List.length_cons, List.length_cons, e2], e3⟩
          rw [List.map_cons, ← e1]
          have : y = kV kk := keyOf_eq a1 hk
          rw [this]
end
section
variable {X : Cx} {E : XK} {Φ : Pm}
def trsOf (K : PySem.W.Frag) (E : XK) (Φ : Pm) : Ps → List (TE × TE)
  | .nil => []
  | .cons k v ps => (rdE K E (ev Φ k), rdE K E (ev Φ v)) :: trsOf K E Φ ps
theorem rd_kv : ∀ (ps : Ps) {σ : St} {ρ : Nat → Addr} {h : LH} {H : Hp} {s : En} {Q : List (V × V) → Hp → Prop}, Sim X.K ρ h H → SR X.K ρ h.length H s σ → Wg X.K E ρ h H (evKV Φ ps s h) (fun ρ' h' H' l => ∀ vs, VPs X.K ρ' h'.length H' l vs → Q vs H') → tPairs (trsOf X.K E Φ ps) σ H Q
  | .nil, σ, ρ, h, H, s, Q, S, R, W => by
    unfold evKV at W
    exact (Wg.ret_ S W) [] ⟨.nil, .nil⟩
  | .cons k v ps, σ, ρ, h, H, s, Q, S, R, W => by
    unfold evKV at W
    refine ⟨ρ, h, s, S, R, W.bind fun t h1 ρ1 H1 g1 S1 W1 => ?_⟩
    intro x rx
    refine ⟨ρ1, h1, s, S1, R.grow S g1, W1.bind fun u h2 ρ2 H2 g2 S2 W2 => ?_⟩
    intro y ry
    refine rd_kv ps S2 ((R.grow S g1).grow S1 g2) (W2.bind fun l h3 ρ3 H3 g3 S3 W3 => ?_)
    intro vs rv
    refine (Wg.ret_ S3 W3) ((x, y) :: vs) ⟨.cons ((rx.grow S1 g2).grow S2 g3) rv.1, .cons (ry.grow S2 g3) rv.2⟩
theorem notIm {K : PySem.W.Frag} {ρ : Nat → Addr} {h : LH} {H : Hp} (S : Sim K ρ h H) {p : Addr} (hp : H p = none) : ¬ Im h ρ p := fun i => by
  obtain ⟨u, e, _⟩ := S.im i
  rw [hp] at e; cases e
theorem rd_disp (ps : Ps) : ∀ σ H Q, rdE X.K E (fun s => bnd (evKV Φ ps s) fun p => match dicOf p with
    | some kvs => neu (.dK kvs)
    | none => fl) σ H Q → tDisp (trsOf X.K E Φ ps) σ H Q := by
  rintro σ H Q ⟨ρ, h, s, S, R, W⟩ p hp
  obtain ⟨S0, g0⟩ := S.more (upd_ext (x := HO.dK []) hp)
  refine rd_kv ps S0 (R.grow S g0) ?_
  unfold bnd at W
  dsimp only at W
  cases e : evKV Φ ps s h with
  | fail => rw [e] at W; exact W
  | exc x h2 => rw [e] at W; exact Wg.from_ (r := .exc x h2) g0 W
  | ok l h2 =>
    rw [e] at W
    intro ρ2 H2 g2 S2 vs rv
    have hp2 : H2 p = some (.dK []) := g2.fr _ _ upd_same (notIm S hp)
    refine ⟨hp2, ?_⟩
    dsimp only at W
    unfold dicOf at W
    by_cases c : l.length ≤ 15
    · rw [if_pos c] at W
      cases ed : dicPut [] l with
      | none => rw [ed] at W; exact False.elim W
      | some kvs =>
        rw [ed] at W
        have W' : Wg X.K E ρ h H (.ok (T.ref h2.length) (h2 ++ [LO.dK kvs])) (qV X.K Q) := W
        obtain ⟨more, e1, e2, e3⟩ := dicPut_of rv ed .nil
        refine ⟨more, e1, by rw [e2]; exact c, ?_⟩
        have m0 : mutHO (.dK []) = true := rfl
        have tk : TupK X.K H2 (upd H2 p (.dK (mergeK [] more))) := ⟨fun a vs q => by
          rw [upd_ne (fun z => by rw [z, hp2] at q; cases q)]; exact q, fun a vs q => by
          rcases q with (q | ⟨od, q⟩) | q
          · refine .inl (.inl ?_)
            rw [upd_ne (fun z => by rw [z, hp2] at q; cases q)]; exact q
          · refine .inl (.inr ⟨od, ?_⟩)
            rw [upd_ne (fun z => by rw [z, hp2] at q; cases q)]; exact q
          · exact .inr q⟩
        have ho : OR X.K (put1 ρ2 h2.length p) (h2.length + 1) (upd H2 p (.dK (mergeK [] more))) (.dK kvs) p := ⟨mergeK [] more, e3.mono (fun l hl => put1_lt hl) (by omega) tk, upd_same⟩
        obtain ⟨S3, g3⟩ := Sim.late S hp g2 S2 hp2 rfl rfl ho
        have q := W' _ _ g3 S3 (.ref (put1 ρ2 h2.length p h2.length)) (.ref (by simp))
        rwa [put1_at] at q
    · rw [if_neg c] at W; exact False.elim W
end

/-! ### what is walked -/
/-- what an iterator gives, from these objects on -/
def Fd (K : PySem.W.Frag) (J : It) (ρ0 : Nat → Addr) (h0 : LH) (H0 : Hp) (ts : List T) (gd : Gd) : Prop :=
  ∀ ρ h H, Sim K ρ h H → (∀ l, l < h0.length → ρ l = ρ0 l) → h0.length ≤ h.length → TupK K H0 H → FrzK H0 H → gdOk h gd = true →
    (∀ i t, ts[i]? = some t → J.go i H ∧ ∀ x H', J.yld i H x H' → (∀ a o, H a = some o → H' a = some o) ∧ VR K ρ h.length H' t x) ∧ J.stop ts.length H
def qI (K : PySem.W.Frag) (R : It → Hp → Prop) : Kt (List T × Gd) := fun ρ h H p => (∀ q ∈ p.2, q.1 < h.length) → ∀ J, Fd K J ρ h H p.1 p.2 → R J H
def rdI (K : PySem.W.Frag) (E : XK) (m : En → M (List T × Gd)) : TI := fun σ H R => ∃ ρ h s, Sim K ρ h H ∧ SR K ρ h.length H s σ ∧ Wg K E ρ h H (m s h) (qI K R)
section
variable {K : PySem.W.Frag} {E : XK} {ρ : Nat → Addr} {h : LH} {H : Hp}
theorem rngT_get {lo : Int} {n i : Nat} {t : T} (e : (rngT lo n)[i]? = some t) : i < n ∧ t = .int (lo + i) := by
  unfold rngT at e
  rw [List.getElem?_map] at e
  obtain ⟨j, e1, e2⟩ := Option.map_eq_some_iff.mp e
  have hl := lt_of_get e1
  rw [List.length_range] at hl
  rw [List.getElem?_range hl] at e1
  cases e1
  exact ⟨hl, e2.symm⟩
theorem fd_rng {lo : Int} {n : Nat} {gd : Gd} : Fd K (Itr lo n) ρ h H (rngT lo n) gd := by
  intro ρ2 h2 H2 S2 e1 e2 tk fk gk
  refine ⟨fun i t e => ?_, ?_⟩
  · obtain ⟨h1, rfl⟩ := rngT_get e
    refine ⟨h1, fun x H' hy => ?_⟩
    obtain ⟨rfl, rfl⟩ := hy
    exact ⟨fun _ _ e => e, .int _⟩
  · show n ≤ (rngT lo n).length
    unfold rngT
    rw [List.length_map, List.length_range]
    exact Nat.le_refl _
theorem VRs.getN {n : Nat} : ∀ {ts : List T} {vs : List V} {i : Nat}, VRs K ρ n H ts vs → ts[i]? = none → vs[i]? = none
  | _, _, i, r, e => by
    rw [List.getElem?_eq_none_iff] at e ⊢
    rw [← r.len]; exact e
theorem fd_tup {xs : List T} {a : Addr} {vs : List V} {gd : Gd} (q : SqT K H a vs) (r : VRs K ρ h.length H xs vs) : Fd K (Itt K a) ρ h H xs gd := by
  intro ρ2 h2 H2 S2 e1 e2 tk fk gk
  have q2 := tk.k _ _ q
  have r2 : VRs K ρ2 h2.length H2 xs vs := r.mono e1 e2 tk
  refine ⟨fun i t e => ?_, ?_⟩
  · obtain ⟨v, ev, rv⟩ := r2.get e
    refine ⟨⟨vs, v, q2, ev⟩, fun x H' hy => ?_⟩
    obtain ⟨rfl, hy⟩ := hy
    have := hy vs q2
    rw [ev] at this
    cases this
    exact ⟨fun _ _ e => e, rv⟩
  · exact ⟨vs, q2, by rw [r2.len]; exact Nat.le_refl _⟩
theorem gdOk_at {gd : Gd} {l : Nat} {o : LO} (g : gdOk h gd = true) (m : (l, o) ∈ gd) : h[l]? = some o := by
  unfold gdOk at g
  exact of_decide_eq_true (List.all_eq_true.mp g _ m)
theorem items_of {o : LO} {a : Addr} {xs : List T} {n : Nat} (q : OR K ρ n H o a) (e : o.items = some xs) : ∃ vs, SqL K H a vs ∧ VRs K ρ n H xs vs := by
  cases o with
  | lst ys =>
    cases e
    obtain ⟨vs, q1, q2⟩ := q
    exact ⟨vs, SqL.of q2, q1⟩
  | rol ys =>
    cases e
    obtain ⟨vs, q1, q2⟩ := q
    refine ⟨vs, ?_, q1⟩
    rcases q2 with ⟨od, q2⟩ | q2
    · exact .inl (.inr ⟨od, q2⟩)
    · exact .inr q2
  | _ => cases e
theorem fd_lst {xs : List T} {l : Nat} {o : LO} {gd : Gd} (hl : l < h.length) (m : (l, o) ∈ gd) (eo : o.items = some xs) : Fd K (Itl K (ρ l)) ρ h H xs gd := by
  intro ρ2 h2 H2 S2 e1 e2 tk fk gk
  have ho := gdOk_at gk m
  obtain ⟨vs, q2, r2⟩ := items_of (S2.obj l o ho) eo
  rw [e1 l hl] at q2
  refine ⟨fun i t e => ?_, ?_⟩
  · obtain ⟨v, ev, rv⟩ := r2.get e
    refine ⟨⟨vs, v, q2, ev⟩, fun x H' hy => ?_⟩
    obtain ⟨rfl, hy⟩ := hy
    have := hy vs q2
    rw [ev] at this
    cases this
    exact ⟨fun _ _ e => e, rv⟩
  · exact ⟨vs, q2, by rw [r2.len]; exact Nat.le_refl _⟩
theorem enumT_get : ∀ {xs : List T} {k i : Nat} {t : T}, (enumT k xs)[i]? = some t → ∃ x, xs[i]? = some x ∧ t = .tup [.int ((k + i : Nat) : Int), x]
  | [], k, i, t, e => by simp [enumT] at e
  | x :: xs, k, 0, t, e => by
    simp [enumT] at e
    exact ⟨x, rfl, by rw [← e]; simp⟩
  | x :: xs, k, i + 1, t, e => by
    obtain ⟨y, e1, e2⟩ := enumT_get (xs := xs) (k := k + 1) (i := i) (t := t) (by simpa [enumT] using e)
    refine ⟨y, by simpa using e1, ?_⟩
    rw [e2, show k + 1 + i = k + (i + 1) by omega]
theorem enumT_len : ∀ {xs : List T} {k : Nat}, (enumT k xs).length = xs.length
  | [], _ => rfl
  | x :: xs, k => by unfold enumT; rw [List.length_cons, List.length_cons, enumT_len]
theorem fd_enum {xs : List T} {l : Nat} {o : LO} {gd : Gd} (hl : l < h.length) (m : (l, o) ∈ gd) (eo : o.items = some xs) : Fd K (Ite K (ρ l)) ρ h H (enumT 0 xs) gd := by
  intro ρ2 h2 H2 S2 e1 e2 tk fk gk
  have ho := gdOk_at gk m
  obtain ⟨vs, q2, r2⟩ := items_of (S2.obj l o ho) eo
  rw [e1 l hl] at q2
  refine ⟨fun i t e => ?_, ?_⟩
  · obtain ⟨y, ey, et⟩ := enumT_get e
    obtain ⟨v, ev, rv⟩ := r2.get ey
    refine ⟨⟨vs, v, q2, ev⟩, fun x H' hy => ?_⟩
    obtain ⟨T0, x0, rfl, hn, rfl, hx⟩ := hy
    have := hx vs q2
    rw [ev] at this
    cases this
    refine ⟨upd_ext hn, ?_⟩
    subst et
    rw [Nat.zero_add]
    exact .tup upd_same (.cons (.int _) (.cons (rv.mono (fun _ _ => rfl) (Nat.le_refl _) (tupK_ext (upd_ext hn))) .nil))
  · exact ⟨vs, q2, by rw [enumT_len, r2.len]; exact Nat.le_refl _⟩
theorem zipT_get : ∀ {xs ys : List T} {i : Nat} {t : T}, (zipT xs ys)[i]? = some t → ∃ x y, xs[i]? = some x ∧ ys[i]? = some y ∧ t = .tup [x, y]
  | [], ys, i, t, e => by simp [zipT] at e
  | x :: xs, [], i, t, e => by simp [zipT] at e
  | x :: xs, y :: ys, 0, t, e => by
    simp [zipT] at e
    exact ⟨x, y, rfl, rfl, e.symm⟩
  | x :: xs, y :: ys, i + 1, t, e => by
    obtain ⟨a, b, e1, e2, e3⟩ := zipT_get (xs := xs) (ys := ys) (i := i) (t := t) (by simpa [zipT] using e)
    exact ⟨a, b, by simpa using e1, by simpa using e2, e3⟩
theorem zipT_len : ∀ {xs ys : List T}, xs.length = ys.length → (zipT xs ys).length = xs.length
  | [], _, _ => rfl
  | x :: xs, [], e => by cases e
  | x :: xs, y :: ys, e => by
    unfold zipT
    rw [List.length_cons, List.length_cons, zipT_len (by simpa using e)]
theorem zipT_min : ∀ {xs ys : List T}, (zipT xs ys).length = min xs.length ys.length
  | [], _ => by simp [zipT]
  | x :: xs, [] => by simp [zipT]
  | x :: xs, y :: ys => by
    unfold zipT
    rw [List.length_cons, List.length_cons, List.length_cons, zipT_min]
    omega
theorem fd_zip {xs ys : List T} {l k : Nat} {o o' : LO} {gd : Gd} (hl : l < h.length) (hk : k < h.length) (m : (l, o) ∈ gd) (m' : (k, o') ∈ gd) (eo : o.items = some xs) (eo' : o'.items = some ys) :
    Fd K (Itz K (ρ l) (ρ k)) ρ h H (zipT xs ys) gd := by
  intro ρ2 h2 H2 S2 e1 e2 tk fk gk
  have ho := gdOk_at gk m
  have ho' := gdOk_at gk m'
  obtain ⟨vs, q2, r2⟩ := items_of (S2.obj l o ho) eo
  obtain ⟨ws, p2, s2⟩ := items_of (S2.obj k o' ho') eo'
  rw [e1 l hl] at q2
  rw [e1 k hk] at p2
  refine ⟨fun i t e => ?_, ?_⟩
  · obtain ⟨x0, y0, ex, ey, et⟩ := zipT_get e
    obtain ⟨v, ev, rv⟩ := r2.get ex
    obtain ⟨w, ew, rw'⟩ := s2.get ey
    refine ⟨⟨vs, ws, v, w, q2, p2, ev, ew⟩, fun x H' hy => ?_⟩
    obtain ⟨T0, x1, y1, rfl, hn, rfl, hx, hy⟩ := hy
    have := hx vs q2
    rw [ev] at this
    cases this
    have := hy ws p2
    rw [ew] at this
    cases this
    refine ⟨upd_ext hn, ?_⟩
    subst et
    exact .tup upd_same (.cons (rv.mono (fun _ _ => rfl) (Nat.le_refl _) (tupK_ext (upd_ext hn))) (.cons (rw'.mono (fun _ _ => rfl) (Nat.le_refl _) (tupK_ext (upd_ext hn))) .nil))
  · exact ⟨vs, ws, q2, p2, by rw [zipT_min, r2.len, s2.len]; omega⟩
end
end Y

/-! L3h: targets, sources, comprehensions, loops. -/
namespace Y
open PySem PySem.Spec L2
section
variable {α β : Type} {K : PySem.W.Frag} {E : XK} {ρ ρ' : Nat → Addr} {h h' : LH} {H H' : Hp} {k : Kt β} {k1 : Kt α}
theorem Wg.bindE {m : M α} {f : α → M β} (w : Wg K E ρ h H (bnd m f h) k)
    (q : ∀ a h1 ρ1 H1, m h = .ok a h1 → Grow h ρ H h1 ρ1 H1 → Sim K ρ1 h1 H1 → Wg K E ρ1 h1 H1 (f a h1) k → k1 ρ1 h1 H1 a) : Wg K E ρ h H (m h) k1 := by
  unfold bnd at w
  cases e : m h with
  | ok a h1 =>
    rw [e] at w
    exact fun ρ1 H1 g S => q a h1 ρ1 H1 e g S (Wg.from_ g w)
  | exc x h1 =>
    rw [e] at w
    exact w
  | fail =>
    rw [e] at w
    exact w
theorem Wg.rb_ {f : LH → Option α} {g : α → M β} (S : Sim K ρ h H) (w : Wg K E ρ h H (bnd (rdH f) g h) k) : ∃ a, f h = some a ∧ Wg K E ρ h H (g a h) k := Wg.rdH_ S w
end
/-! ### names stored -/
mutual
def slotsG : G → List Nat
  | .name i => [i]
  | .tup gs => slotsGs gs
def slotsGs : Gs → List Nat
  | .nil => []
  | .cons g gs => slotsG g ++ slotsGs gs
end
mutual
def gOf (K : PySem.W.Frag) : G → TG
  | .name i => gName i
  | .tup gs => gTup K (gsLen gs) (gsOf K gs)
def gsOf (K : PySem.W.Frag) : Gs → TGs
  | .nil => gNil
  | .cons g gs => gCons (gOf K g) (gsOf K gs)
end
theorem wipe_at {σ : St} {i : Nat} : ∀ {vs : List Nat}, (wipe σ vs)[i]? = if i ∈ vs ∧ i < σ.length then some none else σ[i]?
  | [] => by simp [wipe]
  | v :: vs => by
    unfold wipe
    rw [List.getElem?_set, wipe_length, wipe_at (vs := vs)]
    by_cases hv : v = i
    · subst hv
      by_cases hl : v < σ.length
      · simp [hl]
      · simp [hl]
    · have hv' : ¬ i = v := fun z => hv z.symm
      simp [hv, hv']
theorem wipe_wipe {σ : St} {vs : List Nat} : wipe (wipe σ vs) vs = wipe σ vs := by
  apply List.ext_getElem?
  intro i
  rw [wipe_at, wipe_at, wipe_length]
  split <;> rfl
theorem wipe_set {σ : St} {vs : List Nat} {i : Nat} {x : Option V} (hi : i ∈ vs) : wipe (σ.set i x) vs = wipe σ vs := by
  apply List.ext_getElem?
  intro j
  rw [wipe_at, wipe_at, List.length_set]
  by_cases c : j ∈ vs ∧ j < σ.length
  · rw [if_pos c, if_pos c]
  · rw [if_neg c, if_neg c]
    by_cases hj : i = j
    · subst hj
      have hl : ¬ i < σ.length := fun z => c ⟨hi, z⟩
      rw [List.getElem?_eq_none (by rw [List.length_set]; omega), List.getElem?_eq_none (by omega)]
    · rw [List.getElem?_set_ne hj]
theorem asgGs_len : ∀ (gs : Gs) {ts : List T} {s s' : En}, asgGs gs ts s = some s' → ts.length = gsLen gs
  | .nil, [], _, _, _ => rfl
  | .nil, _ :: _, _, _, e => by cases e
  | .cons _ _, [], _, _, e => by cases e
  | .cons g gs, t :: ts, s, s', e => by
    have e0 : (match asgG g t s with
      | some s' => asgGs gs ts s'
      | none => none) = some s' := e
    cases e1 : asgG g t s with
    | none => rw [e1] at e0; cases e0
    | some s1 =>
      rw [e1] at e0
      unfold gsLen
      rw [List.length_cons, asgGs_len gs e0]
section
variable {K : PySem.W.Frag} {ρ : Nat → Addr} {n : Nat} {H : Hp}
mutual
theorem rd_g : ∀ (g : G) {t : T} {v : V} {s s' : En} {σ : St} {Q : St → Hp → Prop}, asgG g t s = some s' → VR K ρ n H t v → SR K ρ n H s σ →
    (∀ σ', SR K ρ n H s' σ' → (∀ vs : List Nat, (∀ i ∈ slotsG g, i ∈ vs) → wipe σ' vs = wipe σ vs) → Q σ' H) → gOf K g v σ H Q
  | .name i, t, v, s, s', σ, Q, e, r, R, q => by
    unfold asgG at e
    cases e
    exact q _ (R.set r) fun vs hv => wipe_set (hv i (by simp [slotsG]))
  | .tup gs, t, v, s, s', σ, Q, e, r, R, q => by
    unfold gOf
    cases r with
    | @tup xs a vs q1 q2 => exact ⟨a, vs, rfl, SqT.of q1, by rw [← q2.len]; exact asgGs_len gs e, rd_gs gs e q2 R fun σ' R' hw => q σ' R' (by simpa only [slotsG] using hw)⟩
    | @kt xs a vs q1 q2 => exact ⟨a, vs, rfl, q1, by rw [← q2.len]; exact asgGs_len gs e, rd_gs gs e q2 R fun σ' R' hw => q σ' R' (by simpa only [slotsG] using hw)⟩
    | _ => cases e
theorem rd_gs : ∀ (gs : Gs) {ts : List T} {vs : List V} {s s' : En} {σ : St} {Q : St → Hp → Prop}, asgGs gs ts s = some s' → VRs K ρ n H ts vs → SR K ρ n H s σ →
    (∀ σ', SR K ρ n H s' σ' → (∀ vs : List Nat, (∀ i ∈ slotsGs gs, i ∈ vs) → wipe σ' vs = wipe σ vs) → Q σ' H) → gsOf K gs vs σ H Q
  | .nil, ts, vs, s, s', σ, Q, e, r, R, q => by
    cases r with
    | nil =>
      cases e
      exact ⟨rfl, q σ R fun _ _ => rfl⟩
    | cons _ _ => cases e
  | .cons g gs, ts, vs, s, s', σ, Q, e, r, R, q => by
    cases r with
    | nil => cases e
    | @cons t v ts vs a b =>
      have e0 : (match asgG g t s with
        | some s' => asgGs gs ts s'
        | none => none) = some s' := e
      cases e1 : asgG g t s with
      | none => rw [e1] at e0; cases e0
      | some s1 =>
        rw [e1] at e0
        refine ⟨v, vs, rfl, rd_g g e1 a R fun σ1 R1 hw => ?_⟩
        exact rd_gs gs e0 b R1 fun σ2 R2 hw2 => q σ2 R2 fun ws hs => by
            rw [hw2 ws fun i hi => hs i (by simp [slotsGs, hi]), hw ws fun i hi => hs i (by simp [slotsGs, hi])]
end
end

theorem Grow.reD {h1 h : LH} {ρ1 ρ : Nat → Addr} {H1 H : Hp} {D : Addr} {O1 O2 : HO} (g : Grow h1 ρ1 (upd H1 D O1) h ρ H) : Grow h1 ρ1 (upd H1 D O2) h ρ (upd H D O2) := by
  refine ⟨g.le, g.eq, fun a o e ni => ?_, fun a i ni => ?_, g.rol, g.cl⟩
  · by_cases ha : a = D
    · subst ha
      rw [upd_same] at e ⊢
      exact e
    · rw [upd_ne ha] at e ⊢
      exact g.fr a o (by rw [upd_ne ha]; exact e) ni
  · have z := g.new a i ni
    by_cases ha : a = D
    · subst ha
      rw [upd_same] at z; cases z
    · rw [upd_ne ha] at z ⊢; exact z
theorem upd_self {H : Hp} {p : Addr} {o : HO} (e : H p = some o) : upd H p o = H := by
  funext a
  by_cases ha : a = p
  · subst ha; rw [upd_same, e]
  · rw [upd_ne ha]
theorem tupK_un {K : PySem.W.Frag} {H : Hp} {D : Addr} {xs : List V} {u : HO} (e : H D = some (.lst xs)) : TupK K H (upd H D u) := ⟨fun a vs q => by
    rw [upd_ne (fun z => by rw [z, e] at q; cases q)]; exact q, fun a vs q => by
    rcases q with (q | ⟨od, q⟩) | q
    · refine .inl (.inl ?_)
      rw [upd_ne (fun z => by rw [z, e] at q; cases q)]; exact q
    · refine .inl (.inr ⟨od, ?_⟩)
      rw [upd_ne (fun z => by rw [z, e] at q; cases q)]; exact q
    · exact .inr q⟩
theorem Sim.un {K : PySem.W.Frag} {ρ : Nat → Addr} {h : LH} {H : Hp} {D : Addr} {xs : List V} {u : HO} (S : Sim K ρ h H) (ni : ¬ Im h ρ D) (e : H D = some (.lst xs)) : Sim K ρ h (upd H D u) := by
  refine ⟨S.inj, fun i o q => (S.obj i o q).move (fun _ _ => rfl) (Nat.le_refl _) (tupK_un e) (fun nr => upd_ne fun z => ni ⟨i, o, q, nr, z⟩) (fun vs z _ => ?_) (fun od u z => by rw [upd_ne (fun y => by rw [y, e] at z; cases z)]; exact z)⟩
  rcases z with ⟨od, z⟩ | z
  · refine .inl ⟨od, ?_⟩
    rw [upd_ne (fun y => by rw [y, e] at z; cases z)]; exact z
  · exact .inr z
/-! ### sources -/
section
variable {X : Cx} {E : XK} {m m2 : En → M T}
theorem PI.or {g e : Expr} {t u : TI} (p : PI X g e t) (q : PI X g e u) : PI X g e (fun σ H R => t σ H R ∨ u σ H R) := ⟨fun pins s σ H R I w => w.elim (p.run pins s σ H R I) (q.run pins s σ H R I)⟩
theorem gd0 {n : Nat} : ∀ q ∈ ([] : Gd), q.1 < n := fun q hq => by cases hq
theorem rd_seq : ∀ σ H R, rdI X.K E (fun s => bnd (m s) walkT) σ H R → iList X.K (rdE X.K E m) σ H R ∨ iTup X.K (rdE X.K E m) σ H R := by
  rintro σ H R ⟨ρ, h, s, S, Rs, W⟩
  have L : (∀ t h1, m s h = .ok t h1 → ∃ l, t = .ref l) → iList X.K (rdE X.K E m) σ H R := fun ht => by
    refine ⟨ρ, h, s, S, Rs, W.bindE fun t h1 ρ1 H1 e g S1 W1 => ?_⟩
    intro v rv
    obtain ⟨l, rfl⟩ := ht t h1 e
    obtain ⟨p, e1, q⟩ := Wg.rd_ S1 W1
    cases rv with
    | ref hl =>
      dsimp only at e1
      cases ho : h1[l]? with
      | none => rw [ho] at e1; cases e1
      | some o =>
        rw [ho] at e1
        obtain ⟨xs, e2, e3⟩ := Option.map_eq_some_iff.mp e1
        subst e3
        obtain ⟨vs, q2, r2⟩ := items_of (S1.obj l o ho) e2
        exact ⟨_, rfl, ⟨vs, q2⟩, q (fun z hz => by
          have := List.mem_singleton.mp hz
          subst this
          exact lt_of_get ho) _ (fd_lst (lt_of_get ho) (by simp) e2)⟩
  cases e : m s h with
  | ok t h1 =>
    by_cases ht : ∃ l, t = .ref l
    · exact .inl (L fun t' h' e' => by rw [e] at e'; cases e'; exact ht)
    · refine .inr ⟨ρ, h, s, S, Rs, W.bindE fun t' h1' ρ1 H1 e' g S1 W1 => ?_⟩
      intro v rv
      rw [e] at e'
      cases e'
      obtain ⟨p, e1, q⟩ := Wg.rd_ S1 W1
      cases rv with
      | tup q1 q2 => cases e1; exact ⟨_, rfl, ⟨_, SqT.of q1⟩, q gd0 _ (fd_tup (SqT.of q1) q2)⟩
      | kt q1 q2 => cases e1; exact ⟨_, rfl, ⟨_, q1⟩, q gd0 _ (fd_tup q1 q2)⟩
      | @ref l hl => exact absurd ⟨l, rfl⟩ ht
      | _ => cases e1
  | exc x h1 => exact .inl (L fun t' h' e' => by rw [e] at e'; cases e')
  | fail => exact .inl (L fun t' h' e' => by rw [e] at e'; cases e')
theorem rngOk_of {a : Int} (e : rngOk a = true) : -(2 ^ 62) ≤ a ∧ a < 2 ^ 62 := by
  unfold rngOk at e
  rw [decide_eq_true_eq] at e
  omega
theorem rd_rng1 : ∀ σ H R, rdI X.K E (fun s => bnd (m s) fun x => match x with
    | .int j => if rngOk j = true then ret (rngT 0 j.toNat, []) else fl
    | _ => fl) σ H R → iRng1 (tCons (rdE X.K E m) tNil) σ H R := by
  rintro σ H R ⟨ρ, h, s, S, Rs, W⟩
  refine ⟨ρ, h, s, S, Rs, W.bind fun t h1 ρ1 H1 g S1 W1 => ?_⟩
  intro v rv
  cases rv with
  | int j =>
    dsimp only at W1
    by_cases c : rngOk j = true
    · rw [if_pos c] at W1
      obtain ⟨c1, c2⟩ := rngOk_of c
      exact ⟨j, rfl, c1, c2, Wg.ret_ S1 W1 gd0 _ fd_rng⟩
    · rw [if_neg c] at W1; exact False.elim W1
  | _ => exact False.elim W1
theorem rd_rng2 : ∀ σ H R, rdI X.K E (fun s => bnd (m s) fun x => bnd (m2 s) fun y => match x, y with
    | .int i, .int j => if rngOk i = true ∧ rngOk j = true then ret (rngT i (j - i).toNat, []) else fl
    | _, _ => fl) σ H R → iRng2 (tCons (rdE X.K E m) (tCons (rdE X.K E m2) tNil)) σ H R := by
  rintro σ H R ⟨ρ, h, s, S, Rs, W⟩
  refine ⟨ρ, h, s, S, Rs, W.bind fun t h1 ρ1 H1 g S1 W1 => ?_⟩
  intro v rv
  refine ⟨ρ1, h1, s, S1, Rs.grow S g, W1.bind fun u h2 ρ2 H2 g2 S2 W2 => ?_⟩
  intro w rw'
  cases rv with
  | int i =>
    cases rw' with
    | int j =>
      dsimp only at W2
      by_cases c : rngOk i = true ∧ rngOk j = true
      · rw [if_pos c] at W2
        obtain ⟨c1, c2⟩ := rngOk_of c.1
        obtain ⟨c3, c4⟩ := rngOk_of c.2
        exact ⟨i, j, rfl, ⟨c1, c2, c3, c4⟩, Wg.ret_ S2 W2 gd0 _ fd_rng⟩
      · rw [if_neg c] at W2; exact False.elim W2
    | _ => exact False.elim W2
  | _ => exact False.elim W2
theorem lwalk_of {h : LH} {t : T} {p : List T × Gd} (e : (match t with
    | .ref l => match h[l]? with
      | some o => o.items.map fun xs => (xs, [(l, o)])
      | none => none
    | _ => none) = some p) : ∃ l o xs, t = .ref l ∧ h[l]? = some o ∧ o.items = some xs ∧ p = (xs, [(l, o)]) := by
  cases t with
  | ref l =>
    dsimp only at e
    cases ho : h[l]? with
    | none => rw [ho] at e; cases e
    | some o =>
      rw [ho] at e
      obtain ⟨xs, e2, e3⟩ := Option.map_eq_some_iff.mp e
      exact ⟨l, o, xs, rfl, ho, e2, e3.symm⟩
  | _ => cases e
theorem walkT_of {h : LH} {t : T} {p : List T × Gd} (e : (match t with
    | .tup xs => some (xs, [])
    | .kt xs => some (xs, [])
    | .ref l => match h[l]? with
      | some o => o.items.map fun xs => (xs, [(l, o)])
      | none => none
    | _ => none) = some p) : (∃ xs, tupOf t = some xs ∧ p = (xs, [])) ∨ ∃ l o xs, t = .ref l ∧ h[l]? = some o ∧ o.items = some xs ∧ p = (xs, [(l, o)]) := by
  cases t with
  | tup xs => exact .inl ⟨xs, rfl, (Option.some.inj e).symm⟩
  | kt xs => exact .inl ⟨xs, rfl, (Option.some.inj e).symm⟩
  | ref l => exact .inr (lwalk_of e)
  | _ => cases e
theorem tup_of {K : PySem.W.Frag} {ρ : Nat → Addr} {n : Nat} {H : Hp} {t : T} {v : V} {xs : List T} (r : VR K ρ n H t v) (e : tupOf t = some xs) : ∃ a vs, v = .ref a ∧ SqT K H a vs ∧ VRs K ρ n H xs vs := by
  cases r with
  | tup q1 q2 => cases e; exact ⟨_, _, rfl, SqT.of q1, q2⟩
  | kt q1 q2 => cases e; exact ⟨_, _, rfl, q1, q2⟩
  | _ => cases e
theorem fd_enumT {K : PySem.W.Frag} {ρ : Nat → Addr} {h : LH} {H : Hp} {xs : List T} {a : Addr} {vs : List V} {gd : Gd} (q : SqT K H a vs) (r : VRs K ρ h.length H xs vs) : Fd K (IteT K a) ρ h H (enumT 0 xs) gd := by
  intro ρ2 h2 H2 S2 e1 e2 tk fk gk
  have q2 := tk.k _ _ q
  have r2 : VRs K ρ2 h2.length H2 xs vs := r.mono e1 e2 tk
  refine ⟨fun i t e => ?_, ?_⟩
  · obtain ⟨y, ey, et⟩ := enumT_get e
    obtain ⟨v, ev, rv⟩ := r2.get ey
    refine ⟨⟨vs, v, q2, ev⟩, fun x H' hy => ?_⟩
    obtain ⟨T0, x0, rfl, hn, rfl, hx⟩ := hy
    have := hx vs q2
    rw [ev] at this
    cases this
    refine ⟨upd_ext hn, ?_⟩
    subst et
    rw [Nat.zero_add]
    exact .tup upd_same (.cons (.int _) (.cons (rv.mono (fun _ _ => rfl) (Nat.le_refl _) (tupK_ext (upd_ext hn))) .nil))
  · exact ⟨vs, q2, by rw [enumT_len, r2.len]; exact Nat.le_refl _⟩
theorem rd_enum : ∀ σ H R, rdI X.K E (fun s => bnd (m s) fun x => bnd (walkT x) fun p => ret (enumT 0 p.1, p.2)) σ H R → iEnumA X.K (tCons (rdE X.K E m) tNil) σ H R := by
  rintro σ H R ⟨ρ, h, s, S, Rs, W⟩
  refine ⟨ρ, h, s, S, Rs, W.bind fun t h1 ρ1 H1 g S1 W1 => ?_⟩
  intro v rv
  obtain ⟨p, e, W2⟩ := Wg.rdH_ S1 W1
  rcases walkT_of e with ⟨xs, e2, rfl⟩ | ⟨l, o, xs, rfl, ho, e2, rfl⟩
  · obtain ⟨a, vs, rfl, q1, r1⟩ := tup_of rv e2
    exact ⟨_, vs, rfl, .inr ⟨q1, Wg.ret_ S1 W2 gd0 _ (fd_enumT q1 r1)⟩⟩
  · cases rv
    obtain ⟨vs, q2, r2⟩ := items_of (S1.obj l o ho) e2
    exact ⟨_, vs, rfl, .inl ⟨q2, Wg.ret_ S1 W2 (fun z hz => by
      have := List.mem_singleton.mp hz
      subst this
      exact lt_of_get ho) _ (fd_enum (lt_of_get ho) (by simp) e2)⟩⟩
theorem fd_sgn {K : PySem.W.Frag} {ρ : Nat → Addr} {h : LH} {H : Hp} {z : Str} {gd : Gd} : Fd K (Its z) ρ h H (sgnT z) gd := by
  intro ρ2 h2 H2 S2 e1 e2 tk fk gk
  have len : (sgnT z).length = z.cps.size := by unfold sgnT; simp
  refine ⟨fun i t e => ?_, ?_⟩
  · have hi := lt_of_get e
    rw [len] at hi
    refine ⟨hi, fun x H' hy => ?_⟩
    obtain ⟨rfl, c, ec, rfl⟩ := hy
    refine ⟨fun _ _ e => e, ?_⟩
    unfold sgnT at e
    rw [List.getElem?_map] at e
    obtain ⟨c', e3, rfl⟩ := Option.map_eq_some_iff.mp e
    rw [Array.getElem?_toList, ec] at e3
    cases e3
    exact .str _
  · show z.cps.size ≤ (sgnT z).length
    rw [len]; exact Nat.le_refl _
theorem rd_sgn : ∀ σ H R, rdI X.K E (fun s => bnd (m s) fun x => match x with
    | .str z => if z.length ≤ big then ret (sgnT z, []) else fl
    | _ => fl) σ H R → iStr (rdE X.K E m) σ H R := by
  rintro σ H R ⟨ρ, h, s, S, Rs, W⟩
  refine ⟨ρ, h, s, S, Rs, W.bind fun t h1 ρ1 H1 g S1 W1 => ?_⟩
  intro v rv
  cases rv with
  | str z =>
    dsimp only at W1
    by_cases c : z.length ≤ big
    · rw [if_pos c] at W1
      exact ⟨z, rfl, Wg.ret_ S1 W1 gd0 _ fd_sgn⟩
    · rw [if_neg c] at W1; exact False.elim W1
  | _ => exact False.elim W1
theorem fd_zipT {K : PySem.W.Frag} {ρ : Nat → Addr} {h : LH} {H : Hp} {xs ys : List T} {a b : Addr} {vs ws : List V} {gd : Gd} (q : SqT K H a vs) (r : VRs K ρ h.length H xs vs) (q' : SqT K H b ws) (r' : VRs K ρ h.length H ys ws) : Fd K (RZ.ItzT K a b) ρ h H (zipT xs ys) gd := by
  intro ρ2 h2 H2 S2 e1 e2 tk fk gk
  have q2 := tk.k _ _ q
  have p2 := tk.k _ _ q'
  have r2 : VRs K ρ2 h2.length H2 xs vs := r.mono e1 e2 tk
  have s2 : VRs K ρ2 h2.length H2 ys ws := r'.mono e1 e2 tk
  refine ⟨fun i t e => ?_, ?_⟩
  · obtain ⟨x0, y0, ex, ey, et⟩ := zipT_get e
    obtain ⟨v, ev, rv⟩ := r2.get ex
    obtain ⟨w, ew, rw'⟩ := s2.get ey
    refine ⟨⟨vs, ws, v, w, q2, p2, ev, ew⟩, fun x H' hy => ?_⟩
    obtain ⟨T0, x1, y1, rfl, hn, rfl, hx, hy⟩ := hy
    have := hx vs q2
    rw [ev] at this
    cases this
    have := hy ws p2
    rw [ew] at this
    cases this
    refine ⟨upd_ext hn, ?_⟩
    subst et
    exact .tup upd_same (.cons (rv.mono (fun _ _ => rfl) (Nat.le_refl _) (tupK_ext (upd_ext hn))) (.cons (rw'.mono (fun _ _ => rfl) (Nat.le_refl _) (tupK_ext (upd_ext hn))) .nil))
  · exact ⟨vs, ws, q2, p2, by rw [zipT_min, r2.len, s2.len]; omega⟩
theorem zipM_lst {x y : T} {h : LH} (e : tupOf x = none ∨ tupOf y = none) : zipM x y h = (bnd (lwalk x) fun p => bnd (lwalk y) fun q => if p.1.length = q.1.length then ret (zipT p.1 q.1, p.2 ++ q.2) else fl) h := by
  unfold zipM
  rcases e with e | e
  · rw [e]
  · rw [e]
    cases tupOf x <;> rfl
theorem rd_zip : ∀ σ H R, rdI X.K E (fun s => bnd (m s) fun x => bnd (m2 s) fun y => zipM x y) σ H R →
    RZ.iZipA X.K (tCons (rdE X.K E m) (tCons (rdE X.K E m2) tNil)) σ H R := by
  rintro σ H R ⟨ρ, h, s, S, Rs, W⟩
  refine ⟨ρ, h, s, S, Rs, W.bind fun t h1 ρ1 H1 g S1 W1 => ?_⟩
  intro v rv
  refine ⟨ρ1, h1, s, S1, Rs.grow S g, W1.bind fun u h2 ρ2 H2 g2 S2 W2 => ?_⟩
  intro w rw'
  have rv2 := rv.grow S1 g2
  by_cases tt : ∃ xs ys, tupOf t = some xs ∧ tupOf u = some ys
  · obtain ⟨xs, ys, e1, e2⟩ := tt
    obtain ⟨a, vs, rfl, q1, r1⟩ := tup_of rv2 e1
    obtain ⟨b, ws, rfl, q2, r2⟩ := tup_of rw' e2
    unfold zipM at W2
    rw [e1, e2] at W2
    dsimp only at W2
    by_cases c : xs.length = ys.length
    · rw [if_pos c] at W2
      exact ⟨_, _, vs, ws, rfl, .inr ⟨q1, q2, Wg.ret_ S2 W2 gd0 _ (fd_zipT q1 r1 q2 r2)⟩⟩
    · rw [if_neg c] at W2; exact False.elim W2
  · have no : tupOf t = none ∨ tupOf u = none := by
      cases e1 : tupOf t with
      | none => exact .inl rfl
      | some xs => cases e2 : tupOf u with
        | none => exact .inr rfl
        | some ys => exact absurd ⟨xs, ys, e1, e2⟩ tt
    rw [zipM_lst no] at W2
    obtain ⟨p, e, W3⟩ := Wg.rdH_ S2 W2
    obtain ⟨l, o, xs, rfl, ho, e2, rfl⟩ := lwalk_of e
    obtain ⟨p', e', W4⟩ := Wg.rdH_ S2 W3
    obtain ⟨k, o', ys, rfl, ho', e2', rfl⟩ := lwalk_of e'
    cases rv2
    cases rw'
    dsimp only at W4
    by_cases c : xs.length = ys.length
    · rw [if_pos c] at W4
      obtain ⟨vs, q2, r2⟩ := items_of (S2.obj l o ho) e2
      obtain ⟨ws, p2, s2⟩ := items_of (S2.obj k o' ho') e2'
      refine ⟨_, _, vs, ws, rfl, .inl ⟨q2, p2, Wg.ret_ S2 W4 (fun z hz => ?_) _ (fd_zip (lt_of_get ho) (lt_of_get ho') (by simp) (by simp) e2 e2')⟩⟩
      simp only [List.mem_append, List.mem_singleton] at hz
      rcases hz with rfl | rfl
      · exact lt_of_get ho
      · exact lt_of_get ho'
    · rw [if_neg c] at W4; exact False.elim W4
theorem zipU_lst {x y : T} {h : LH} (e : tupOf x = none ∨ tupOf y = none) : zipU x y h = (bnd (lwalk x) fun p => bnd (lwalk y) fun q => ret (zipT p.1 q.1, p.2 ++ q.2)) h := by
  unfold zipU
  rcases e with e | e
  · rw [e]
  · rw [e]
    cases tupOf x <;> rfl
theorem rd_zipU : ∀ σ H R, rdI X.K E (fun s => bnd (m s) fun x => bnd (m2 s) fun y => zipU x y) σ H R →
    RZ.iZipA X.K (tCons (rdE X.K E m) (tCons (rdE X.K E m2) tNil)) σ H R := by
  rintro σ H R ⟨ρ, h, s, S, Rs, W⟩
  refine ⟨ρ, h, s, S, Rs, W.bind fun t h1 ρ1 H1 g S1 W1 => ?_⟩
  intro v rv
  refine ⟨ρ1, h1, s, S1, Rs.grow S g, W1.bind fun u h2 ρ2 H2 g2 S2 W2 => ?_⟩
  intro w rw'
  have rv2 := rv.grow S1 g2
  by_cases tt : ∃ xs ys, tupOf t = some xs ∧ tupOf u = some ys
  · obtain ⟨xs, ys, e1, e2⟩ := tt
    obtain ⟨a, vs, rfl, q1, r1⟩ := tup_of rv2 e1
    obtain ⟨b, ws, rfl, q2, r2⟩ := tup_of rw' e2
    unfold zipU at W2
    rw [e1, e2] at W2
    exact ⟨_, _, vs, ws, rfl, .inr ⟨q1, q2, Wg.ret_ S2 W2 gd0 _ (fd_zipT q1 r1 q2 r2)⟩⟩
  · have no : tupOf t = none ∨ tupOf u = none := by
      cases e1 : tupOf t with
      | none => exact .inl rfl
      | some xs => cases e2 : tupOf u with
        | none => exact .inr rfl
        | some ys => exact absurd ⟨xs, ys, e1, e2⟩ tt
    rw [zipU_lst no] at W2
    obtain ⟨p, e, W3⟩ := Wg.rdH_ S2 W2
    obtain ⟨l, o, xs, rfl, ho, e2, rfl⟩ := lwalk_of e
    obtain ⟨p', e', W4⟩ := Wg.rdH_ S2 W3
    obtain ⟨k, o', ys, rfl, ho', e2', rfl⟩ := lwalk_of e'
    cases rv2
    cases rw'
    obtain ⟨vs, q2, r2⟩ := items_of (S2.obj l o ho) e2
    obtain ⟨ws, p2, s2⟩ := items_of (S2.obj k o' ho') e2'
    refine ⟨_, _, vs, ws, rfl, .inl ⟨q2, p2, Wg.ret_ S2 W4 (fun z hz => ?_) _ (fd_zip (lt_of_get ho) (lt_of_get ho') (by simp) (by simp) e2 e2')⟩⟩
    simp only [List.mem_append, List.mem_singleton] at hz
    rcases hz with rfl | rfl
    · exact lt_of_get ho
    · exact lt_of_get ho'
theorem fd_zsL {K : PySem.W.Frag} {ρ : Nat → Addr} {h : LH} {H : Hp} {xs ys : List T} {l k : Nat} {o o' : LO} {gd : Gd} (hl : l < h.length) (hk : k < h.length) (m : (l, o) ∈ gd) (m' : (k, o') ∈ gd) (eo : o.items = some xs) (eo' : o'.items = some ys) (el : xs.length = ys.length) :
    Fd K (ItSL K (ρ l) (ρ k)) ρ h H (zipT xs ys) gd := by
  intro ρ2 h2 H2 S2 e1 e2 tk fk gk
  have ho := gdOk_at gk m
  have ho' := gdOk_at gk m'
  obtain ⟨vs, q2, r2⟩ := items_of (S2.obj l o ho) eo
  obtain ⟨ws, p2, s2⟩ := items_of (S2.obj k o' ho') eo'
  rw [e1 l hl] at q2
  rw [e1 k hk] at p2
  refine ⟨fun i t e => ?_, ?_⟩
  · obtain ⟨x0, y0, ex, ey, et⟩ := zipT_get e
    obtain ⟨v, ev, rv⟩ := r2.get ex
    obtain ⟨w, ew, rw'⟩ := s2.get ey
    refine ⟨⟨vs, ws, v, w, q2, p2, by rw [← r2.len, ← s2.len]; exact el, ev, ew⟩, fun x H' hy => ?_⟩
    obtain ⟨T0, x1, y1, rfl, hn, rfl, hx, hy⟩ := hy
    have := hx vs q2
    rw [ev] at this
    cases this
    have := hy ws p2
    rw [ew] at this
    cases this
    refine ⟨upd_ext hn, ?_⟩
    subst et
    exact .tup upd_same (.cons (rv.mono (fun _ _ => rfl) (Nat.le_refl _) (tupK_ext (upd_ext hn))) (.cons (rw'.mono (fun _ _ => rfl) (Nat.le_refl _) (tupK_ext (upd_ext hn))) .nil))
  · exact ⟨vs, ws, q2, p2, by rw [zipT_len el, r2.len], by rw [zipT_len el, el, s2.len]⟩
theorem fd_zsT {K : PySem.W.Frag} {ρ : Nat → Addr} {h : LH} {H : Hp} {xs ys : List T} {a b : Addr} {vs ws : List V} {gd : Gd} (q : SqT K H a vs) (r : VRs K ρ h.length H xs vs) (q' : SqT K H b ws) (r' : VRs K ρ h.length H ys ws) (el : xs.length = ys.length) : Fd K (ItST K a b) ρ h H (zipT xs ys) gd := by
  intro ρ2 h2 H2 S2 e1 e2 tk fk gk
  have q2 := tk.k _ _ q
  have p2 := tk.k _ _ q'
  have r2 : VRs K ρ2 h2.length H2 xs vs := r.mono e1 e2 tk
  have s2 : VRs K ρ2 h2.length H2 ys ws := r'.mono e1 e2 tk
  refine ⟨fun i t e => ?_, ?_⟩
  · obtain ⟨x0, y0, ex, ey, et⟩ := zipT_get e
    obtain ⟨v, ev, rv⟩ := r2.get ex
    obtain ⟨w, ew, rw'⟩ := s2.get ey
    refine ⟨⟨vs, ws, v, w, q2, p2, by rw [← r2.len, ← s2.len]; exact el, ev, ew⟩, fun x H' hy => ?_⟩
    obtain ⟨T0, x1, y1, rfl, hn, rfl, hx, hy⟩ := hy
    have := hx vs q2
    rw [ev] at this
    cases this
    have := hy ws p2
    rw [ew] at this
    cases this
    refine ⟨upd_ext hn, ?_⟩
    subst et
    exact .tup upd_same (.cons (rv.mono (fun _ _ => rfl) (Nat.le_refl _) (tupK_ext (upd_ext hn))) (.cons (rw'.mono (fun _ _ => rfl) (Nat.le_refl _) (tupK_ext (upd_ext hn))) .nil))
  · exact ⟨vs, ws, q2, p2, by rw [zipT_len el, r2.len], by rw [zipT_len el, el, s2.len]⟩
theorem rd_zipS : ∀ σ H R, rdI X.K E (fun s => bnd (m s) fun x => bnd (m2 s) fun y => zipM x y) σ H R →
    iZipS X.K (tCons (rdE X.K E m) (tCons (rdE X.K E m2) tNil)) σ H R := by
  rintro σ H R ⟨ρ, h, s, S, Rs, W⟩
  refine ⟨ρ, h, s, S, Rs, W.bind fun t h1 ρ1 H1 g S1 W1 => ?_⟩
  intro v rv
  refine ⟨ρ1, h1, s, S1, Rs.grow S g, W1.bind fun u h2 ρ2 H2 g2 S2 W2 => ?_⟩
  intro w rw'
  have rv2 := rv.grow S1 g2
  by_cases tt : ∃ xs ys, tupOf t = some xs ∧ tupOf u = some ys
  · obtain ⟨xs, ys, e1, e2⟩ := tt
    obtain ⟨a, vs, rfl, q1, r1⟩ := tup_of rv2 e1
    obtain ⟨b, ws, rfl, q2, r2⟩ := tup_of rw' e2
    unfold zipM at W2
    rw [e1, e2] at W2
    dsimp only at W2
    by_cases c : xs.length = ys.length
    · rw [if_pos c] at W2
      exact ⟨_, _, vs, ws, rfl, .inr ⟨q1, q2, Wg.ret_ S2 W2 gd0 _ (fd_zsT q1 r1 q2 r2 c)⟩⟩
    · rw [if_neg c] at W2; exact False.elim W2
  · have no : tupOf t = none ∨ tupOf u = none := by
      cases e1 : tupOf t with
      | none => exact .inl rfl
      | some xs => cases e2 : tupOf u with
        | none => exact .inr rfl
        | some ys => exact absurd ⟨xs, ys, e1, e2⟩ tt
    rw [zipM_lst no] at W2
    obtain ⟨p, e, W3⟩ := Wg.rdH_ S2 W2
    obtain ⟨l, o, xs, rfl, ho, e2, rfl⟩ := lwalk_of e
    obtain ⟨p', e', W4⟩ := Wg.rdH_ S2 W3
    obtain ⟨k, o', ys, rfl, ho', e2', rfl⟩ := lwalk_of e'
    cases rv2
    cases rw'
    dsimp only at W4
    by_cases c : xs.length = ys.length
    · rw [if_pos c] at W4
      obtain ⟨vs, q2, r2⟩ := items_of (S2.obj l o ho) e2
      obtain ⟨ws, p2, s2⟩ := items_of (S2.obj k o' ho') e2'
      refine ⟨_, _, vs, ws, rfl, .inl ⟨q2, p2, Wg.ret_ S2 W4 (fun z hz => ?_) _ (fd_zsL (lt_of_get ho) (lt_of_get ho') (by simp) (by simp) e2 e2' c)⟩⟩
      simp only [List.mem_append, List.mem_singleton] at hz
      rcases hz with rfl | rfl
      · exact lt_of_get ho
      · exact lt_of_get ho'
    · rw [if_neg c] at W4; exact False.elim W4
theorem zip_VRs {K : PySem.W.Frag} {ρ : Nat → Addr} {n : Nat} {H : Hp} : ∀ {xs ys : List T} {vs ws : List V} {as : List Addr}, VRs K ρ n H xs vs → VRs K ρ n H ys ws → xs.length = ys.length → as.length = vs.length →
    (∀ (i : Nat) (a : Addr) (x y : V), as[i]? = some a → vs[i]? = some x → ws[i]? = some y → H a = some (.tup [x, y])) → VRs K ρ n H (zipT xs ys) (as.map V.ref)
  | _, _, _, _, [], .nil, .nil, _, _, _ => .nil
  | _, _, _, _, _ :: _, .nil, _, _, h, _ => by cases h
  | _, _, _, _, [], .cons _ _, _, _, h, _ => by cases h
  | _, _, _, _, _, .nil, .cons _ _, h, _, _ => by cases h
  | _, _, _, _, _, .cons _ _, .nil, h, _, _ => by cases h
  | _, _, _, _, a :: as, .cons r r1, .cons q q1, h, h2, f => .cons (.tup (f 0 a _ _ rfl rfl rfl) (.cons r (.cons q .nil))) (zip_VRs r1 q1 (by simpa using h) (by simpa using h2) fun i b x y e1 e2 e3 => f (i + 1) b x y (by simpa using e1) (by simpa using e2) (by simpa using e3))
theorem rd_lzip : ∀ σ H Q, rdE X.K E (fun s => bnd (m s) fun x => bnd (m2 s) fun y => bnd (zipM x y) fun p => if p.1.length ≤ big then neu (.lst p.1) else fl) σ H Q →
    tLzip X.K (tCons (rdE X.K E m) (tCons (rdE X.K E m2) tNil)) σ H Q := by
  rintro σ H Q ⟨ρ, h, s, S, Rs, W⟩
  refine ⟨ρ, h, s, S, Rs, W.bind fun t h1 ρ1 H1 g S1 W1 => ?_⟩
  intro v rv
  refine ⟨ρ1, h1, s, S1, Rs.grow S g, W1.bind fun u h2 ρ2 H2 g2 S2 W2 => ?_⟩
  intro w rw'
  have rv2 := rv.grow S1 g2
  have fin : ∀ (xs ys : List T) (vs ws : List V), VRs X.K ρ2 h2.length H2 xs vs → VRs X.K ρ2 h2.length H2 ys ws → xs.length = ys.length → Wg X.K E ρ2 h2 H2 (neu (.lst (zipT xs ys)) h2) (qV X.K Q) → vs.length = ws.length ∧
      ∀ (as : List Addr) (p : Addr), as.length = vs.length → as.Nodup → (∀ c ∈ as, H2 c = none) → p ∉ as → H2 p = none → Q (.ref p) (upd (addP H2 as (vs.zip ws)) p (.lst (as.map V.ref))) := fun xs ys vs ws r1 r2 el W3 => by
    have e0 : vs.length = ws.length := by rw [← r1.len, ← r2.len, el]
    refine ⟨e0, fun as p la nd na pn hp => ?_⟩
    have ext : ∀ a o, H2 a = some o → addP H2 as (vs.zip ws) a = some o := fun a o e => by
      rw [addP_off fun hm => by rw [na a hm] at e; cases e]
      exact e
    obtain ⟨S3, g3⟩ := S2.more ext
    have r1' := r1.grow S2 g3
    have r2' := r2.grow S2 g3
    have hp3 : addP H2 as (vs.zip ws) p = none := by rw [addP_off pn]; exact hp
    refine k_lst S3 (Wg.from_ g3 W3) ?_ p hp3
    exact zip_VRs r1' r2' el (by rw [la]) (fun i a x y ea ex ey => addP_at (p := (x, y)) nd ea (List.getElem?_zip_eq_some.mpr ⟨ex, ey⟩))
  by_cases tt : ∃ xs ys, tupOf t = some xs ∧ tupOf u = some ys
  · obtain ⟨xs, ys, e1, e2⟩ := tt
    obtain ⟨a, vs, rfl, q1, r1⟩ := tup_of rv2 e1
    obtain ⟨b, ws, rfl, q2, r2⟩ := tup_of rw' e2
    unfold zipM at W2
    rw [e1, e2] at W2
    dsimp only at W2
    by_cases c : xs.length = ys.length
    · rw [if_pos c] at W2
      have W3 : Wg X.K E ρ2 h2 H2 ((if (zipT xs ys).length ≤ big then neu (.lst (zipT xs ys)) else fl : M T) h2) (qV X.K Q) := W2
      split at W3
      · rename_i lb
        obtain ⟨f1, f2⟩ := fin xs ys vs ws r1 r2 c W3
        exact ⟨_, _, vs, ws, rfl, .inr ⟨q1, q2⟩, f1, by rw [zipT_len c, r1.len] at lb; exact lb, f2⟩
      · exact False.elim W3
    · rw [if_neg c] at W2; exact False.elim W2
  · have no : tupOf t = none ∨ tupOf u = none := by
      cases e1 : tupOf t with
      | none => exact .inl rfl
      | some xs => cases e2 : tupOf u with
        | none => exact .inr rfl
        | some ys => exact absurd ⟨xs, ys, e1, e2⟩ tt
    have W2' : Wg X.K E ρ2 h2 H2 (bnd (bnd (lwalk t) fun p => bnd (lwalk u) fun q => if p.1.length = q.1.length then ret (zipT p.1 q.1, p.2 ++ q.2) else fl) (fun p => if p.1.length ≤ big then neu (.lst p.1) else fl) h2) (qV X.K Q) := by
      have e : bnd (zipM t u) (fun p => if p.1.length ≤ big then neu (.lst p.1) else fl) h2 = bnd (bnd (lwalk t) fun p => bnd (lwalk u) fun q => if p.1.length = q.1.length then ret (zipT p.1 q.1, p.2 ++ q.2) else fl) (fun p => if p.1.length ≤ big then neu (.lst p.1) else fl) h2 := by
        unfold bnd
        rw [zipM_lst no]
        rfl
      rw [← e]; exact W2
    have W2b : Wg X.K E ρ2 h2 H2 (bnd (lwalk t) (fun p => bnd (lwalk u) fun q => bnd (if p.1.length = q.1.length then ret (zipT p.1 q.1, p.2 ++ q.2) else fl) fun p => if p.1.length ≤ big then neu (.lst p.1) else fl) h2) (qV X.K Q) := by
      have e : bnd (bnd (lwalk t) fun p => bnd (lwalk u) fun q => if p.1.length = q.1.length then ret (zipT p.1 q.1, p.2 ++ q.2) else fl) (fun p => if p.1.length ≤ big then neu (.lst p.1) else fl) h2 =
          bnd (lwalk t) (fun p => bnd (lwalk u) fun q => bnd (if p.1.length = q.1.length then ret (zipT p.1 q.1, p.2 ++ q.2) else fl) fun p => if p.1.length ≤ big then neu (.lst p.1) else fl) h2 := by
        unfold bnd
        cases lwalk t h2 with
        | ok a h3 =>
          dsimp only
          cases lwalk u h3 <;> rfl
        | exc _ _ => rfl
        | fail => rfl
      rw [← e]; exact W2'
    obtain ⟨p, e, W3⟩ := Wg.rdH_ S2 W2b
    obtain ⟨l, o, xs, rfl, ho, e2, rfl⟩ := lwalk_of e
    obtain ⟨p', e', W4⟩ := Wg.rdH_ S2 W3
    obtain ⟨k, o', ys, rfl, ho', e2', rfl⟩ := lwalk_of e'
    cases rv2
    cases rw'
    dsimp only at W4
    by_cases c : xs.length = ys.length
    · rw [if_pos c] at W4
      have W5 : Wg X.K E ρ2 h2 H2 ((if (zipT xs ys).length ≤ big then neu (.lst (zipT xs ys)) else fl : M T) h2) (qV X.K Q) := W4
      split at W5
      · rename_i lb
        obtain ⟨vs, q2, r2⟩ := items_of (S2.obj l o ho) e2
        obtain ⟨ws, p2, s2⟩ := items_of (S2.obj k o' ho') e2'
        obtain ⟨f1, f2⟩ := fin xs ys vs ws r2 s2 c W5
        exact ⟨_, _, vs, ws, rfl, .inl ⟨q2, p2⟩, f1, by rw [zipT_len c, r2.len] at lb; exact lb, f2⟩
      · exact False.elim W5
    · rw [if_neg c] at W4; exact False.elim W4
/-! ### a star in targets -/
def gsSt (K : PySem.W.Frag) (i : Nat) : Gs → TGs
  | .nil => gCons (gName i) gNil
  | .cons g gs => gCons (gOf K g) (gsSt K i gs)
def gmOf (K : PySem.W.Frag) : GM → TG
  | .g g => gOf K g
  | .star gs i => gStar K (gsLen gs) (gsSt K i gs)
  | .pair g m => gTup K 2 (gCons (gOf K g) (gCons (gmOf K m) gNil))
def qE (K : PySem.W.Frag) (σQ : St → Hp → Prop) : Kt En := fun ρ h H s' => ∀ σ', SR K ρ h.length H s' σ' → σQ σ' H
theorem rd_gsSt {K : PySem.W.Frag} {ρ : Nat → Addr} {n : Nat} {H : Hp} {i : Nat} : ∀ (gs : Gs) {ts : List T} {vs : List V} {s s' : En} {σ : St} {Q : St → Hp → Prop} {t : T} {v : V}, asgGs gs ts s = some s' → VRs K ρ n H ts vs → SR K ρ n H s σ → VR K ρ n H t v →
    (∀ σ', SR K ρ n H (s'.set i (some t)) σ' → Q σ' H) → gsSt K i gs (vs ++ [v]) σ H Q
  | .nil, ts, vs, s, s', σ, Q, t, v, e, r, R, rv, q => by
    cases r with
    | nil =>
      cases e
      exact ⟨v, [], rfl, rfl, q _ (R.set rv)⟩
    | cons _ _ => cases e
  | .cons g gs, ts, vs, s, s', σ, Q, t, v, e, r, R, rv, q => by
    cases r with
    | nil => cases e
    | @cons u w ts vs a b =>
      have e0 : (match asgG g u s with
        | some s' => asgGs gs ts s'
        | none => none) = some s' := e
      cases e1 : asgG g u s with
      | none => rw [e1] at e0; cases e0
      | some s1 =>
        rw [e1] at e0
        exact ⟨w, vs ++ [v], rfl, rd_g g e1 a R fun σ1 R1 _ => rd_gsSt gs e0 b R1 rv q⟩
theorem Wg.optb {α β : Type} {K : PySem.W.Frag} {E : XK} {ρ : Nat → Addr} {h : LH} {H : Hp} {o : Option α} {f : α → M β} {k : Kt β} (W : Wg K E ρ h H (bnd (opt o) f h) k) : ∃ a, o = some a ∧ Wg K E ρ h H (f a h) k := by
  unfold bnd opt at W
  cases o with
  | none => exact False.elim W
  | some a => exact ⟨a, rfl, W⟩
theorem rd_gm {K : PySem.W.Frag} {E : XK} : ∀ (m : GM) {t : T} {v : V} {ρ : Nat → Addr} {h : LH} {H : Hp} {s : En} {σ : St} {Q : St → Hp → Prop}, Sim K ρ h H → SR K ρ h.length H s σ → VR K ρ h.length H t v → Wg K E ρ h H (asgM m t s h) (qE K Q) → gmOf K m v σ H Q
  | .g g, t, v, ρ, h, H, s, σ, Q, S, R, r, W => by
    have W' : Wg K E ρ h H (opt (asgG g t s) h) (qE K Q) := W
    obtain ⟨s', e, q⟩ := Wg.opt_ S W'
    exact rd_g g e r R fun σ' R' _ => q σ' R'
  | .star gs i, t, v, ρ, h, H, s, σ, Q, S, R, r, W => by
    unfold asgM at W
    cases e : tupOf t with
    | none => rw [e] at W; exact False.elim W
    | some xs =>
      rw [e] at W
      dsimp only at W
      split at W
      · rename_i c
        obtain ⟨a, vs, rfl, q1, q2⟩ := tup_of r e
        obtain ⟨s1, e1, W2⟩ := Wg.optb W
        refine ⟨a, vs, rfl, q1, by rw [← q2.len]; exact c.1, by rw [← q2.len]; exact c.2, fun p hp => ?_⟩
        have ho : OR K (put1 ρ h.length p) (h.length + 1) (upd H p (.lst (vs.drop (gsLen gs)))) (.lst (xs.drop (gsLen gs))) p := ⟨_, (q2.drop _).up hp, upd_same⟩
        obtain ⟨S', g'⟩ := S.neu hp (upd_ext (x := HO.lst (vs.drop (gsLen gs))) hp) rfl ho
        have W3 : Wg K E (put1 ρ h.length p) (h ++ [LO.lst (xs.drop (gsLen gs))]) (upd H p (.lst (vs.drop (gsLen gs)))) (ret (s1.set i (some (T.ref h.length))) (h ++ [LO.lst (xs.drop (gsLen gs))])) (qE K Q) := Wg.from_ g' W2
        have q := Wg.ret_ S' W3
        refine rd_gsSt (K := K) (ρ := put1 ρ h.length p) (n := (h ++ [LO.lst (xs.drop (gsLen gs))]).length) gs e1 ((q2.take _).grow S g') (R.grow S g') (t := T.ref h.length) (v := V.ref p) ?_ fun σ' R' => q σ' R'
        have := VR.ref (K := K) (ρ := put1 ρ h.length p) (n := (h ++ [LO.lst (xs.drop (gsLen gs))]).length) (H := upd H p (.lst (vs.drop (gsLen gs)))) (l := h.length) (by simp)
        rwa [put1_at] at this
      · exact False.elim W
  | .pair g m, t, v, ρ, h, H, s, σ, Q, S, R, r, W => by
    unfold asgM at W
    cases e : tupOf t with
    | none => rw [e] at W; exact False.elim W
    | some xs =>
      rw [e] at W
      obtain ⟨a, vs, rfl, q1, q2⟩ := tup_of r e
      cases q2 with
      | nil => exact False.elim W
      | cons r0 q2 =>
        cases q2 with
        | nil => exact False.elim W
        | cons r1 q2 =>
          cases q2 with
          | cons _ _ => exact False.elim W
          | nil =>
            rename_i x0 v0 x1 v1
            have W' : Wg K E ρ h H (bnd (opt (asgG g x0 s)) (fun s1 => asgM m x1 s1) h) (qE K Q) := W
            obtain ⟨s1, e1, W2⟩ := Wg.optb W'
            refine ⟨a, [v0, v1], rfl, q1, rfl, v0, [v1], rfl, rd_g g e1 r0 R fun σ1 R1 _ => ⟨v1, [], rfl, ?_⟩⟩
            exact rd_gm m S R1 r1 (W2.mono fun ρ' h' H' s' _ _ q σ' R' => ⟨rfl, q σ' R'⟩)
/-! ### a locked dict's keys, values, pairs -/
theorem PR.getE {κ : Type} {K : PySem.W.Frag} {ρ : Nat → Addr} {n : Nat} {H : Hp} : ∀ {ts : List (κ × T)} {vs : List (κ × V)} {i : Nat} {k : κ} {t : T}, PR K ρ n H ts vs → ts[i]? = some (k, t) → ∃ v, vs[i]? = some (k, v) ∧ VR K ρ n H t v
  | _, _, _, _, _, .nil, e => by simp at e
  | _, _, 0, k, t, .cons r _, e => by
    simp at e
    obtain ⟨rfl, rfl⟩ := e
    exact ⟨_, rfl, r⟩
  | _, _, i + 1, k, t, .cons _ r, e => by
    obtain ⟨v, h1, h2⟩ := PR.getE (i := i) r (by simpa using e)
    exact ⟨v, by simpa using h1, h2⟩
theorem vr_key {K : PySem.W.Frag} {ρ : Nat → Addr} {n : Nat} {H : Hp} (k : Key) : VR K ρ n H (tOfKey k) (kV k) := by
  cases k with
  | inl i => exact .int i
  | inr x => exact .str x
theorem vrs_keys {K : PySem.W.Frag} {ρ : Nat → Addr} {n : Nat} {H : Hp} : ∀ ks : List Key, VRs K ρ n H (ks.map tOfKey) (ks.map kV)
  | [] => .nil
  | k :: ks => .cons (vr_key k) (vrs_keys ks)
theorem map_get {α β : Type} {f : α → β} {xs : List α} {i : Nat} {t : β} (e : (xs.map f)[i]? = some t) : ∃ x, xs[i]? = some x ∧ t = f x := by
  rw [List.getElem?_map] at e
  obtain ⟨x, e1, rfl⟩ := Option.map_eq_some_iff.mp e
  exact ⟨x, e1, rfl⟩
section
variable {K : PySem.W.Frag} {ρ : Nat → Addr} {h : LH} {H : Hp} {l : Nat} {od : Obj}
theorem fd_dv {kvs : List (Key × T)} {kv : List (Key × V)} {gd : Gd} (r : PR K ρ h.length H kvs kv) (e : H (ρ l) = some (.frz od (.dK kv))) : Fd K (Itd (ρ l) od kv) ρ h H (kvs.map fun kv => kv.2) gd := by
  intro ρ2 h2 H2 S2 e1 e2 tk fk gk
  have r2 := r.mono e1 e2 tk
  have eH := fk _ _ _ e
  refine ⟨fun i t q => ?_, ⟨eH, by rw [List.length_map, r2.len]; exact Nat.le_refl _⟩⟩
  obtain ⟨⟨k, t'⟩, q1, rfl⟩ := map_get q
  obtain ⟨v, q2, rv⟩ := r2.getE q1
  refine ⟨⟨eH, lt_of_get q2⟩, fun x H' hy => ?_⟩
  obtain ⟨rfl, k', hy⟩ := hy
  rw [q2] at hy; cases hy
  exact ⟨fun _ _ e => e, rv⟩
theorem fd_dk {kvs : List (Key × T)} {kv : List (Key × V)} {gd : Gd} (r : PR K ρ h.length H kvs kv) (e : H (ρ l) = some (.frz od (.dK kv))) : Fd K (Itk (ρ l) od kv) ρ h H (kvs.map fun kv => tOfKey kv.1) gd := by
  intro ρ2 h2 H2 S2 e1 e2 tk fk gk
  have r2 := r.mono e1 e2 tk
  have eH := fk _ _ _ e
  refine ⟨fun i t q => ?_, ⟨eH, by rw [List.length_map, r2.len]; exact Nat.le_refl _⟩⟩
  obtain ⟨⟨k, t'⟩, q1, rfl⟩ := map_get q
  obtain ⟨v, q2, rv⟩ := r2.getE q1
  refine ⟨⟨eH, lt_of_get q2⟩, fun x H' hy => ?_⟩
  obtain ⟨rfl, k', v', hy, rfl⟩ := hy
  rw [q2] at hy; cases hy
  exact ⟨fun _ _ e => e, vr_key k⟩
theorem fd_dkt {kvs : List (List Key × T)} {kv : List (List Key × V)} {gd : Gd} (r : PR K ρ h.length H kvs kv) (e : H (ρ l) = some (.frz od (.dT kv))) : Fd K (Itkt (ρ l) od kv) ρ h H (kvs.map fun kv => .tup (kv.1.map tOfKey)) gd := by
  intro ρ2 h2 H2 S2 e1 e2 tk fk gk
  have r2 := r.mono e1 e2 tk
  have eH := fk _ _ _ e
  refine ⟨fun i t q => ?_, ⟨eH, by rw [List.length_map, r2.len]; exact Nat.le_refl _⟩⟩
  obtain ⟨⟨k, t'⟩, q1, rfl⟩ := map_get q
  obtain ⟨v, q2, rv⟩ := r2.getE q1
  refine ⟨⟨eH, lt_of_get q2⟩, fun x H' hy => ?_⟩
  obtain ⟨rfl, k', v', q, hy, rfl, hq⟩ := hy
  rw [q2] at hy; cases hy
  exact ⟨fun _ _ e => e, .tup hq (vrs_keys k)⟩
theorem fd_di {kvs : List (Key × T)} {kv : List (Key × V)} {gd : Gd} (r : PR K ρ h.length H kvs kv) (e : H (ρ l) = some (.frz od (.dK kv))) : Fd K (Iti (ρ l) od kv) ρ h H (kvs.map fun kv => .tup [tOfKey kv.1, kv.2]) gd := by
  intro ρ2 h2 H2 S2 e1 e2 tk fk gk
  have r2 := r.mono e1 e2 tk
  have eH := fk _ _ _ e
  refine ⟨fun i t q => ?_, ⟨eH, by rw [List.length_map, r2.len]; exact Nat.le_refl _⟩⟩
  obtain ⟨⟨k, t'⟩, q1, rfl⟩ := map_get q
  obtain ⟨v, q2, rv⟩ := r2.getE q1
  refine ⟨⟨eH, lt_of_get q2⟩, fun x H' hy => ?_⟩
  obtain ⟨T0, k', v', hy, rfl, hn, rfl⟩ := hy
  rw [q2] at hy; cases hy
  exact ⟨upd_ext hn, .tup upd_same (.cons (vr_key k) (.cons (rv.mono (fun _ _ => rfl) (Nat.le_refl _) (tupK_ext (upd_ext hn))) .nil))⟩
end
theorem rd_dv : ∀ σ H R, rdI X.K E (fun s => bnd (m s) dvT) σ H R → iVals (rdE X.K E m) σ H R := by
  rintro σ H R ⟨ρ, h, s, S, Rs, W⟩
  refine ⟨ρ, h, s, S, Rs, W.bind fun t h1 ρ1 H1 g S1 W1 => ?_⟩
  intro v rv
  obtain ⟨p, e1, q⟩ := Wg.rd_ S1 W1
  cases rv with
  | @ref l hl =>
    dsimp only at e1
    cases ho : h1[l]? with
    | none => rw [ho] at e1; cases e1
    | some o =>
      rw [ho] at e1
      cases o with
      | lkK kvs =>
        cases e1
        obtain ⟨kv, od, pr, eH⟩ := S1.obj l _ ho
        exact ⟨_, od, kv, rfl, eH, q (fun z hz => by
          have := List.mem_singleton.mp hz
          subst this
          exact lt_of_get ho) _ (fd_dv pr eH)⟩
      | _ => cases e1
  | _ => cases e1
theorem rd_di : ∀ σ H R, rdI X.K E (fun s => bnd (m s) diT) σ H R → iItems (rdE X.K E m) σ H R := by
  rintro σ H R ⟨ρ, h, s, S, Rs, W⟩
  refine ⟨ρ, h, s, S, Rs, W.bind fun t h1 ρ1 H1 g S1 W1 => ?_⟩
  intro v rv
  obtain ⟨p, e1, q⟩ := Wg.rd_ S1 W1
  cases rv with
  | @ref l hl =>
    dsimp only at e1
    cases ho : h1[l]? with
    | none => rw [ho] at e1; cases e1
    | some o =>
      rw [ho] at e1
      cases o with
      | lkK kvs =>
        cases e1
        obtain ⟨kv, od, pr, eH⟩ := S1.obj l _ ho
        exact ⟨_, od, kv, rfl, eH, q (fun z hz => by
          have := List.mem_singleton.mp hz
          subst this
          exact lt_of_get ho) _ (fd_di pr eH)⟩
      | _ => cases e1
  | _ => cases e1
theorem rd_dk : ∀ σ H R, rdI X.K E (fun s => bnd (m s) dkT) σ H R → iKeys (rdE X.K E m) σ H R := by
  rintro σ H R ⟨ρ, h, s, S, Rs, W⟩
  refine ⟨ρ, h, s, S, Rs, W.bind fun t h1 ρ1 H1 g S1 W1 => ?_⟩
  intro v rv
  obtain ⟨p, e1, q⟩ := Wg.rd_ S1 W1
  cases rv with
  | @ref l hl =>
    dsimp only at e1
    cases ho : h1[l]? with
    | none => rw [ho] at e1; cases e1
    | some o =>
      rw [ho] at e1
      cases o with
      | lkK kvs =>
        cases e1
        obtain ⟨kv, od, pr, eH⟩ := S1.obj l _ ho
        exact ⟨_, od, rfl, .inl ⟨kv, eH, q (fun z hz => by
          have := List.mem_singleton.mp hz
          subst this
          exact lt_of_get ho) _ (fd_dk pr eH)⟩⟩
      | lkT kvs =>
        cases e1
        obtain ⟨kv, od, pr, eH⟩ := S1.obj l _ ho
        exact ⟨_, od, rfl, .inr ⟨kv, eH, q (fun z hz => by
          have := List.mem_singleton.mp hz
          subst this
          exact lt_of_get ho) _ (fd_dkt pr eH)⟩⟩
      | _ => cases e1
  | _ => cases e1
end
end Y

/-! L3i: comprehensions, for, while, tests. -/
namespace Y
open PySem PySem.Spec L2
theorem bnd_ok {α β : Type} {m : M α} {f : α → M β} {h h2 : LH} {b : β} (e : bnd m f h = .ok b h2) : ∃ a h1, m h = .ok a h1 ∧ f a h1 = .ok b h2 := by
  unfold bnd at e
  cases q : m h with
  | ok a h1 => rw [q] at e; exact ⟨a, h1, rfl, e⟩
  | exc x h1 => rw [q] at e; cases e
  | fail => rw [q] at e; cases e
theorem rdH_ok {α : Type} {f : LH → Option α} {h h2 : LH} {a : α} (e : rdH f h = .ok a h2) : f h = some a ∧ h2 = h := by
  unfold rdH at e
  cases q : f h with
  | none => rw [q] at e; cases e
  | some b => rw [q] at e; cases e; exact ⟨rfl, rfl⟩
theorem nox_ok {α : Type} {m : M α} {h h2 : LH} {a : α} (e : nox m h = .ok a h2) : m h = .ok a h2 := by
  unfold nox at e
  cases q : m h with
  | ok b h1 => rw [q] at e; exact e
  | exc x h1 => rw [q] at e; cases e
  | fail => rw [q] at e; cases e
theorem nox_exc {α : Type} {m : M α} {h h2 : LH} {x : Ex} : nox m h ≠ .exc x h2 := by
  unfold nox
  cases m h with
  | ok b h1 => exact fun e => nomatch e
  | exc x h1 => exact fun e => nomatch e
  | fail => exact fun e => nomatch e
theorem ret_ok {α : Type} {h h2 : LH} {a b : α} (e : ret a h = .ok b h2) : b = a ∧ h2 = h := by
  unfold ret at e; cases e; exact ⟨rfl, rfl⟩
theorem bnd_exc {α β : Type} {m : M α} {f : α → M β} {h h2 : LH} {x : Ex} (e : bnd m f h = .exc x h2) : m h = .exc x h2 ∨ ∃ a h1, m h = .ok a h1 ∧ f a h1 = .exc x h2 := by
  unfold bnd at e
  cases q : m h with
  | ok a h1 => rw [q] at e; exact .inr ⟨a, h1, rfl, e⟩
  | exc y h1 => rw [q] at e; cases e; exact .inl rfl
  | fail => rw [q] at e; cases e
theorem rdH_exc {α : Type} {f : LH → Option α} {h h2 : LH} {x : Ex} : rdH f h ≠ .exc x h2 := by
  unfold rdH
  cases f h <;> exact fun e => nomatch e
theorem lcGo_exc {gd : Gd} {tgt : T → En → Option En} {tst : En → M Bool} {elt : En → M T} : ∀ (ts : List T) (s : En) {h h2 : LH} {x : Ex}, lcGo gd tgt tst elt ts s h ≠ .exc x h2
  | [], s, h, h2, x => fun e => by
    unfold lcGo at e
    rcases bnd_exc e with e | ⟨_, _, _, e⟩
    · exact rdH_exc e
    · cases e
  | t :: ts, s, h, h2, x => fun e => by
    unfold lcGo at e
    rcases bnd_exc e with e | ⟨s1, h1, _, e⟩
    · exact rdH_exc e
    · rcases bnd_exc e with e | ⟨b, h3, _, e⟩
      · exact nox_exc e
      · by_cases c : b = true
        · rw [if_pos c] at e
          rcases bnd_exc e with e | ⟨y, h4, _, e⟩
          · exact nox_exc e
          · rcases bnd_exc e with e | ⟨ys, h5, _, e⟩
            · exact lcGo_exc ts s e
            · cases e
        · rw [if_neg c] at e
          exact lcGo_exc ts s e
def E0 : XK := fun _ _ _ => False
section
variable {X : Cx} {E : XK}
theorem rd_lc {mi : En → M (List T × Gd)} {g : G} {mc : En → M Bool} {me : En → M T} {vs : List Nat} (hg : ∀ i ∈ slotsG g, i ∈ vs) :
    ∀ σ H Q, rdE X.K E (fun s => bnd (mi s) fun p => bnd (lcGo p.2 (asgG g) mc me p.1 (wipeN s vs)) fun xs => if xs.length ≤ big then neu (.lst xs) else fl) σ H Q →
      tLc (rdI X.K E mi) (gOf X.K g) (rdT X.K E0 mc) (rdE X.K E0 me) vs σ H Q := by
  rintro σ H Q ⟨ρ, h, s, S, R, W⟩
  refine ⟨ρ, h, s, S, R, W.bind fun p h1 ρ1 H1 g1 S1 W1 => ?_⟩
  intro hgd J fd D hD
  have R1 := R.grow S g1
  -- the whole of the turns
  have run : ∃ xs h2, lcGo p.2 (asgG g) mc me p.1 (wipeN s vs) h1 = .ok xs h2 ∧ xs.length ≤ big ∧ Wg X.K E ρ1 h1 H1 (neu (.lst xs) h2) (qV X.K Q) := by
    unfold bnd at W1
    cases e : lcGo p.2 (asgG g) mc me p.1 (wipeN s vs) h1 with
    | ok xs h2 =>
      rw [e] at W1
      dsimp only at W1
      by_cases c : xs.length ≤ big
      · rw [if_pos c] at W1
        exact ⟨xs, h2, rfl, c, W1⟩
      · rw [if_neg c] at W1; exact False.elim W1
    | exc x h2 => exact absurd e (lcGo_exc _ _)
    | fail => rw [e] at W1; exact False.elim W1
  obtain ⟨xs, h2, er, hz, Wf⟩ := run
  have mD : ∀ ys : List V, Sim X.K ρ1 h1 (upd H1 D (.lst ys)) ∧ Grow h1 ρ1 H1 h1 ρ1 (upd H1 D (.lst ys)) := fun ys => S1.more (upd_ext hD)
  have nD := notIm S1 hD
  -- what follows from the growth
  have tk1 : ∀ {ys : List V} {ρ3 : Nat → Addr} {h3 : LH} {H3 : Hp}, Grow h1 ρ1 (upd H1 D (.lst ys)) h3 ρ3 H3 → Grow h1 ρ1 H1 h3 ρ3 H3 := fun {ys} _ _ _ g3 => (mD ys).2.trans g3
  have atD : ∀ {ys : List V} {ρ3 : Nat → Addr} {h3 : LH} {H3 : Hp}, Grow h1 ρ1 (upd H1 D (.lst ys)) h3 ρ3 H3 → H3 D = some (.lst ys) := fun g3 => g3.fr _ _ upd_same nD
  have niD : ∀ {ys : List V} {ρ3 : Nat → Addr} {h3 : LH} {H3 : Hp}, Grow h1 ρ1 (upd H1 D (.lst ys)) h3 ρ3 H3 → ¬ Im h3 ρ3 D := fun g3 i => by
    have z := g3.new D i nD
    rw [upd_same] at z; cases z
  refine ⟨fun i m H => i ≤ p.1.length ∧ m = p.1.length - i ∧ ∃ ρ3 h3 ys done xr, Sim X.K ρ3 h3 H ∧ Grow h1 ρ1 (upd H1 D (.lst ys)) h3 ρ3 H ∧ VRs X.K ρ3 h3.length H done ys ∧
    lcGo p.2 (asgG g) mc me (p.1.drop i) (wipeN s vs) h3 = .ok xr h2 ∧ done ++ xr = xs, ⟨_, Nat.zero_le _, rfl, ρ1, h1, [], [], xs, (mD []).1, Grow.refl, .nil, er, rfl⟩, ?_⟩
  rintro i m H3 ⟨hi, rfl, ρ3, h3, ys, done, xr, S3, g3, rd, el, ex⟩
  cases hd : p.1.drop i with
  | nil =>
    left
    have il : i = p.1.length := by
      have := congrArg List.length hd
      simp at this
      omega
    rw [hd] at el
    unfold lcGo at el
    obtain ⟨u, h4, e1, e2⟩ := bnd_ok el
    obtain ⟨e1, rfl⟩ := rdH_ok e1
    obtain ⟨rfl, rfl⟩ := ret_ok e2
    have gk : gdOk h2 p.2 = true := by
      by_cases c : gdOk h2 p.2 = true
      · exact c
      · rw [if_neg c] at e1; cases e1
    have g3' := tk1 g3
    refine ⟨by rw [il]; exact (fd ρ3 h2 H3 S3 g3'.eq g3'.le (g3'.tupK S1) (g3'.frz S1) gk).2, ?_⟩
    have W' : Wg X.K E ρ1 h1 H1 (.ok (T.ref h2.length) (h2 ++ [LO.lst xs])) (qV X.K Q) := Wf
    rw [List.append_nil] at ex
    subst ex
    have hp := atD g3
    have ho : OR X.K (put1 ρ3 h2.length D) (h2.length + 1) (upd H3 D (.lst ys)) (.lst done) D := ⟨ys, by
      rw [upd_self hp]
      exact rd.mono (fun l hl => put1_lt hl) (by omega) (tupK_ext fun _ _ e => e), upd_same⟩
    obtain ⟨S4, g4⟩ := Sim.late S1 hD g3 S3 hp rfl rfl ho
    rw [upd_self hp] at S4 g4
    have q := W' _ _ g4 S4 (.ref (put1 ρ3 h2.length D h2.length)) (.ref (by simp))
    rwa [put1_at] at q
  | cons t ts =>
    right
    have il : i < p.1.length := by
      have := congrArg List.length hd
      simp at this
      omega
    have et : p.1[i]? = some t := by
      have := List.getElem?_drop (xs := p.1) (i := i) (j := 0)
      rw [hd] at this
      simpa using this.symm
    have ed : p.1.drop (i + 1) = ts := by
      rw [← List.drop_drop, hd]; rfl
    rw [hd] at el
    unfold lcGo at el
    obtain ⟨s1, h4, e1, e2⟩ := bnd_ok el
    obtain ⟨e1, rfl⟩ := rdH_ok e1
    have gk : gdOk h4 p.2 = true := by
      by_cases c : gdOk h4 p.2 = true
      · exact c
      · rw [if_neg c] at e1; cases e1
    rw [if_pos gk] at e1
    obtain ⟨b, h5, e3, e4⟩ := bnd_ok e2
    have e3 := nox_ok e3
    have g3' := tk1 g3
    obtain ⟨go, hy⟩ := (fd ρ3 h4 H3 S3 g3'.eq g3'.le (g3'.tupK S1) (g3'.frz S1) gk).1 i t et
    refine ⟨go, fun H' => ∃ m', m' < p.1.length - i ∧ (i + 1 ≤ p.1.length ∧ m' = p.1.length - (i + 1) ∧ ∃ ρ3 h3 ys done xr, Sim X.K ρ3 h3 H' ∧ Grow h1 ρ1 (upd H1 D (.lst ys)) h3 ρ3 H' ∧ VRs X.K ρ3 h3.length H' done ys ∧
      lcGo p.2 (asgG g) mc me (p.1.drop (i + 1)) (wipeN s vs) h3 = .ok xr h2 ∧ done ++ xr = xs), fun H' q => q, fun x H4 y4 => ?_⟩
    obtain ⟨hx, rt⟩ := hy x H4 y4
    obtain ⟨S4, g4⟩ := S3.more hx
    have g34 := g3.trans g4
    have R4 : SR X.K ρ3 h4.length H4 (wipeN s vs) (wipe σ vs) := ((R1.grow (mD ys |>.1 |> fun _ => S1) (mD ys).2).grow (mD ys).1 g34).wipe vs
    refine rd_g g e1 rt R4 fun σ2 R2 hw => ⟨by rw [hw vs hg, wipe_wipe], ?_⟩
    refine ⟨ρ3, h4, s1, S4, R2, ?_⟩
    rw [e3]
    intro ρ5 H5 g5 S5
    show if b = true then _ else _
    have g35 := g34.trans g5
    have rd5 := (rd.grow S3 g4).grow S4 g5
    by_cases cb : b = true
    · rw [if_pos cb]
      rw [if_pos cb] at e4
      obtain ⟨z, h6, e5, e6⟩ := bnd_ok e4
      have e5 := nox_ok e5
      obtain ⟨zs, h7, e7, e8⟩ := bnd_ok e6
      obtain ⟨rfl, rfl⟩ := ret_ok e8
      refine ⟨ρ5, h5, s1, S5, R2.grow S4 g5, ?_⟩
      rw [e5]
      intro ρ6 H6 g6 S6 y ry
      have g36 := g35.trans g6
      have hD6 := atD g36
      have rd6 := rd5.grow S5 g6
      refine ⟨ys, hD6, ?_, p.1.length - (i + 1), by omega, by omega, rfl, ρ6, h6, ys ++ [y], done ++ [z], zs, S6.un (niD g36) hD6, g36.reD, ?_, by rw [ed]; exact e7, by rw [List.append_assoc]; exact ex⟩
      · rw [← rd6.len]
        have := congrArg List.length ex
        rw [List.length_append, List.length_cons] at this
        exact Nat.lt_of_lt_of_le (by omega) big_line
      · exact (rd6.append (.cons ry .nil)).mono (fun _ _ => rfl) (Nat.le_refl _) (tupK_un hD6)
    · rw [if_neg cb]
      rw [if_neg cb] at e4
      exact ⟨p.1.length - (i + 1), by omega, by omega, rfl, ρ5, h5, ys, done, xr, S5, g35, rd5, by rw [ed]; exact e4, ex⟩
theorem rd_for {mi : En → M (List T × Gd)} {g : G} {mb : En → M Fl} : ∀ D σ H, rdS X.K E (fun s => bnd (mi s) fun p => forGo p.2 g mb p.1 s) D σ H → tFor (rdI X.K E mi) (gOf X.K g) (rdS X.K E mb) D σ H := by
  rintro D σ H ⟨ρ, h, s, S, R, W⟩
  refine ⟨ρ, h, s, S, R, W.bind fun p h1 ρ1 H1 g1 S1 W1 => ?_⟩
  intro hgd J fd
  have R1 := R.grow S g1
  refine ⟨fun i m σ H => i ≤ p.1.length ∧ m = p.1.length - i ∧ ∃ ρ3 h3 s3, Sim X.K ρ3 h3 H ∧ SR X.K ρ3 h3.length H s3 σ ∧ Grow h1 ρ1 H1 h3 ρ3 H ∧ Wg X.K E ρ3 h3 H (forGo p.2 g mb (p.1.drop i) s3 h3) (qS X.K D),
    ⟨_, Nat.zero_le _, rfl, ρ1, h1, s, S1, R1, Grow.refl, W1⟩, ?_⟩
  rintro i m σ3 H3 ⟨hi, rfl, ρ3, h3, s3, S3, R3, g3, W3⟩
  cases hd : p.1.drop i with
  | nil =>
    left
    have il : i = p.1.length := by
      have := congrArg List.length hd
      simp at this
      omega
    rw [hd] at W3
    unfold forGo at W3
    obtain ⟨u, e1, W4⟩ := Wg.rdH_ S3 W3
    have gk : gdOk h3 p.2 = true := by
      by_cases c : gdOk h3 p.2 = true
      · exact c
      · rw [if_neg c] at e1; cases e1
    exact ⟨by rw [il]; exact (fd ρ3 h3 H3 S3 g3.eq g3.le (g3.tupK S1) (g3.frz S1) gk).2, Wg.ret_ S3 W4 σ3 R3⟩
  | cons t ts =>
    right
    have il : i < p.1.length := by
      have := congrArg List.length hd
      simp at this
      omega
    have et : p.1[i]? = some t := by
      have := List.getElem?_drop (xs := p.1) (i := i) (j := 0)
      rw [hd] at this
      simpa using this.symm
    have ed : p.1.drop (i + 1) = ts := by
      rw [← List.drop_drop, hd]; rfl
    rw [hd] at W3
    unfold forGo at W3
    obtain ⟨s4, e1, W4⟩ := Wg.rdH_ S3 W3
    have gk : gdOk h3 p.2 = true := by
      by_cases c : gdOk h3 p.2 = true
      · exact c
      · rw [if_neg c] at e1; cases e1
    rw [if_pos gk] at e1
    obtain ⟨go, hy⟩ := (fd ρ3 h3 H3 S3 g3.eq g3.le (g3.tupK S1) (g3.frz S1) gk).1 i t et
    refine ⟨go, fun σ' H' => ∃ m', m' < p.1.length - i ∧ (i + 1 ≤ p.1.length ∧ m' = p.1.length - (i + 1) ∧ ∃ ρ3 h3 s3, Sim X.K ρ3 h3 H' ∧ SR X.K ρ3 h3.length H' s3 σ' ∧ Grow h1 ρ1 H1 h3 ρ3 H' ∧ Wg X.K E ρ3 h3 H' (forGo p.2 g mb (p.1.drop (i + 1)) s3 h3) (qS X.K D)), fun σ' H' q => q, fun x H4 y4 => ?_⟩
    obtain ⟨hx, rt⟩ := hy x H4 y4
    obtain ⟨S4, g4⟩ := S3.more hx
    refine rd_g g e1 rt (R3.grow S3 g4) fun σ2 R2 _ => ?_
    refine ⟨ρ3, h3, s4, S4, R2, (Wg.from_ g4 W4).bind fun f h5 ρ5 H5 g5 S5 W5 => ?_⟩
    have nxt : ∀ s2, Wg X.K E ρ5 h5 H5 (forGo p.2 g mb ts s2 h5) (qS X.K D) → ∀ σ', SR X.K ρ5 h5.length H5 s2 σ' → ∃ m', m' < p.1.length - i ∧ (i + 1 ≤ p.1.length ∧ m' = p.1.length - (i + 1) ∧ ∃ ρ3 h3 s3, Sim X.K ρ3 h3 H5 ∧ SR X.K ρ3 h3.length H5 s3 σ' ∧ Grow h1 ρ1 H1 h3 ρ3 H5 ∧ Wg X.K E ρ3 h3 H5 (forGo p.2 g mb (p.1.drop (i + 1)) s3 h3) (qS X.K D)) :=
      fun s2 W6 σ' R6 => ⟨_, by omega, by omega, rfl, ρ5, h5, s2, S5, R6, (g3.trans g4).trans g5, by rw [ed]; exact W6⟩
    cases f with
    | nx s2 => exact nxt s2 W5
    | ct s2 => exact nxt s2 W5
    | bk s2 => exact fun σ' R6 => Wg.ret_ S5 W5 σ' R6
    | rt v => exact Wg.ret_ (E := E) (k := qS X.K D) (a := Fl.rt v) S5 W5
theorem rd_forM {mi : En → M (List T × Gd)} {m0 : GM} {mb : En → M Fl} : ∀ D σ H, rdS X.K E (fun s => bnd (mi s) fun p => forGoM p.2 m0 mb p.1 s) D σ H → tFor (rdI X.K E mi) (gmOf X.K m0) (rdS X.K E mb) D σ H := by
  rintro D σ H ⟨ρ, h, s, S, R, W⟩
  refine ⟨ρ, h, s, S, R, W.bind fun p h1 ρ1 H1 g1 S1 W1 => ?_⟩
  intro hgd J fd
  have R1 := R.grow S g1
  refine ⟨fun i m σ H => i ≤ p.1.length ∧ m = p.1.length - i ∧ ∃ ρ3 h3 s3, Sim X.K ρ3 h3 H ∧ SR X.K ρ3 h3.length H s3 σ ∧ Grow h1 ρ1 H1 h3 ρ3 H ∧ Wg X.K E ρ3 h3 H (forGoM p.2 m0 mb (p.1.drop i) s3 h3) (qS X.K D),
    ⟨_, Nat.zero_le _, rfl, ρ1, h1, s, S1, R1, Grow.refl, W1⟩, ?_⟩
  rintro i m σ3 H3 ⟨hi, rfl, ρ3, h3, s3, S3, R3, g3, W3⟩
  cases hd : p.1.drop i with
  | nil =>
    left
    have il : i = p.1.length := by
      have := congrArg List.length hd
      simp at this
      omega
    rw [hd] at W3
    unfold forGoM at W3
    obtain ⟨u, e1, W4⟩ := Wg.rdH_ S3 W3
    have gk : gdOk h3 p.2 = true := by
      by_cases c : gdOk h3 p.2 = true
      · exact c
      · rw [if_neg c] at e1; cases e1
    exact ⟨by rw [il]; exact (fd ρ3 h3 H3 S3 g3.eq g3.le (g3.tupK S1) (g3.frz S1) gk).2, Wg.ret_ S3 W4 σ3 R3⟩
  | cons t ts =>
    right
    have il : i < p.1.length := by
      have := congrArg List.length hd
      simp at this
      omega
    have et : p.1[i]? = some t := by
      have := List.getElem?_drop (xs := p.1) (i := i) (j := 0)
      rw [hd] at this
      simpa using this.symm
    have ed : p.1.drop (i + 1) = ts := by
      rw [← List.drop_drop, hd]; rfl
    rw [hd] at W3
    unfold forGoM at W3
    obtain ⟨s4, e1, W4⟩ := Wg.rdH_ S3 W3
    have gk : gdOk h3 p.2 = true := by
      by_cases c : gdOk h3 p.2 = true
      · exact c
      · rw [if_neg c] at e1; cases e1
    obtain ⟨go, hy⟩ := (fd ρ3 h3 H3 S3 g3.eq g3.le (g3.tupK S1) (g3.frz S1) gk).1 i t et
    refine ⟨go, fun σ' H' => ∃ m', m' < p.1.length - i ∧ (i + 1 ≤ p.1.length ∧ m' = p.1.length - (i + 1) ∧ ∃ ρ3 h3 s3, Sim X.K ρ3 h3 H' ∧ SR X.K ρ3 h3.length H' s3 σ' ∧ Grow h1 ρ1 H1 h3 ρ3 H' ∧ Wg X.K E ρ3 h3 H' (forGoM p.2 m0 mb (p.1.drop (i + 1)) s3 h3) (qS X.K D)), fun σ' H' q => q, fun x H4 y4 => ?_⟩
    obtain ⟨hx, rt⟩ := hy x H4 y4
    obtain ⟨S4, g4⟩ := S3.more hx
    refine rd_gm (E := E) m0 S4 (R3.grow S3 g4) rt ((Wg.from_ g4 W4).bind fun s5 h6 ρ6 H6 g6 S6 W6 σ2 R2 => ?_)
    refine ⟨ρ6, h6, s5, S6, R2, W6.bind fun f h5 ρ5 H5 g7 S5 W5 => ?_⟩
    have g5 := g6.trans g7
    have nxt : ∀ s2, Wg X.K E ρ5 h5 H5 (forGoM p.2 m0 mb ts s2 h5) (qS X.K D) → ∀ σ', SR X.K ρ5 h5.length H5 s2 σ' → ∃ m', m' < p.1.length - i ∧ (i + 1 ≤ p.1.length ∧ m' = p.1.length - (i + 1) ∧ ∃ ρ3 h3 s3, Sim X.K ρ3 h3 H5 ∧ SR X.K ρ3 h3.length H5 s3 σ' ∧ Grow h1 ρ1 H1 h3 ρ3 H5 ∧ Wg X.K E ρ3 h3 H5 (forGoM p.2 m0 mb (p.1.drop (i + 1)) s3 h3) (qS X.K D)) :=
      fun s2 W6 σ' R6 => ⟨_, by omega, by omega, rfl, ρ5, h5, s2, S5, R6, (g3.trans g4).trans g5, by rw [ed]; exact W6⟩
    cases f with
    | nx s2 => exact nxt s2 W5
    | ct s2 => exact nxt s2 W5
    | bk s2 => exact fun σ' R6 => Wg.ret_ S5 W5 σ' R6
    | rt v => exact Wg.ret_ (E := E) (k := qS X.K D) (a := Fl.rt v) S5 W5
theorem lc2_exc {gd : Gd} {tgt : T → En → Option En} {inn : En → M (List T)} (hi : ∀ s h x h2, inn s h ≠ .exc x h2) : ∀ (ts : List T) (s : En) {h h2 : LH} {x : Ex}, lc2Go gd tgt inn ts s h ≠ .exc x h2
  | [], s, h, h2, x => fun e => by
    unfold lc2Go at e
    rcases bnd_exc e with e | ⟨_, _, _, e⟩
    · exact rdH_exc e
    · cases e
  | t :: ts, s, h, h2, x => fun e => by
    unfold lc2Go at e
    rcases bnd_exc e with e | ⟨s1, h1, _, e⟩
    · exact rdH_exc e
    · rcases bnd_exc e with e | ⟨b, h3, _, e⟩
      · exact hi _ _ _ _ e
      · rcases bnd_exc e with e | ⟨ys, h5, _, e⟩
        · exact lc2_exc hi ts s e
        · cases e
theorem gd_of {gd : Gd} {h : LH} {α : Type} {o : Option α} {a : α} (e : (if gdOk h gd = true then o else none) = some a) : gdOk h gd = true ∧ o = some a := by
  by_cases c : gdOk h gd = true
  · rw [if_pos c] at e; exact ⟨c, e⟩
  · rw [if_neg c] at e; cases e
theorem ifT {α β : Prop} (h : α) : if (true : Bool) = true then α else β := by rw [if_pos rfl]; exact h
theorem TupK.trans {K : PySem.W.Frag} {H1 H2 H3 : Hp} (a : TupK K H1 H2) (b : TupK K H2 H3) : TupK K H1 H3 := ⟨fun x vs q => b.t x vs (a.t x vs q), fun x vs q => b.k x vs (a.k x vs q)⟩
/-- a run's growth with the list that is made at D -/
structure GrD (K : PySem.W.Frag) (D : Addr) (h1 : LH) (ρ1 : Nat → Addr) (H1 : Hp) (h : LH) (ρ : Nat → Addr) (H : Hp) : Prop where
  le : h1.length ≤ h.length
  eq : ∀ l, l < h1.length → ρ l = ρ1 l
  tk : TupK K H1 H
  fz : FrzK H1 H
theorem GrD.step {K : PySem.W.Frag} {D : Addr} {h1 h h' : LH} {ρ1 ρ ρ' : Nat → Addr} {H1 H H' : Hp} (a : GrD K D h1 ρ1 H1 h ρ H) (S : Sim K ρ h H) (g : Grow h ρ H h' ρ' H') : GrD K D h1 ρ1 H1 h' ρ' H' :=
  ⟨Nat.le_trans a.le g.le, fun l hl => (g.eq l (Nat.lt_of_lt_of_le hl a.le)).trans (a.eq l hl), a.tk.trans (g.tupK S), fun x od u e => g.frz S x od u (a.fz x od u e)⟩
theorem GrD.un {K : PySem.W.Frag} {D : Addr} {h1 h : LH} {ρ1 ρ : Nat → Addr} {H1 H : Hp} {xs : List V} {u : HO} (a : GrD K D h1 ρ1 H1 h ρ H) (e : H D = some (.lst xs)) : GrD K D h1 ρ1 H1 h ρ (upd H D u) :=
  ⟨a.le, a.eq, a.tk.trans (tupK_un e), fun x od w z => by
    have z2 := a.fz x od w z
    rw [upd_ne (fun y => by rw [y, e] at z2; cases z2)]; exact z2⟩
theorem rd_lc2 {mi mi1 : En → M (List T × Gd)} {g g1 : G} {me : En → M T} {vs vs1 : List Nat} (hg : ∀ i ∈ slotsG g, i ∈ vs) (hg1 : ∀ i ∈ slotsG g1, i ∈ vs1) :
    ∀ σ H Q, rdE X.K E (fun s => bnd (mi s) fun p => bnd (lc2Go p.2 (asgG g) (fun s1 => bnd (nox (mi1 s1)) fun p1 => lcGo p1.2 (asgG g1) (fun _ => ret true) me p1.1 (wipeN s1 vs1)) p.1 (wipeN s vs)) fun xs => if xs.length ≤ big then neu (.lst xs) else fl) σ H Q →
      tLc2 (rdI X.K E mi) (gOf X.K g) (rdT X.K E0 fun _ => ret true) (rdI X.K E0 mi1) (gOf X.K g1) (rdT X.K E0 fun _ => ret true) (rdE X.K E0 me) vs vs1 σ H Q := by
  rintro σ H Q ⟨ρ, h, s, S, R, W⟩
  refine ⟨ρ, h, s, S, R, W.bind fun p h1 ρ1 H1 g1' S1 W1 => ?_⟩
  intro hgd J fd D hD
  have R1 := R.grow S g1'
  let inn : En → M (List T) := fun s1 => bnd (nox (mi1 s1)) fun p1 => lcGo p1.2 (asgG g1) (fun _ => ret true) me p1.1 (wipeN s1 vs1)
  have run : ∃ xs h2, lc2Go p.2 (asgG g) inn p.1 (wipeN s vs) h1 = .ok xs h2 ∧ xs.length ≤ big ∧ Wg X.K E ρ1 h1 H1 (neu (.lst xs) h2) (qV X.K Q) := by
    have W1' : Wg X.K E ρ1 h1 H1 (bnd (lc2Go p.2 (asgG g) inn p.1 (wipeN s vs)) (fun xs => if xs.length ≤ big then neu (.lst xs) else fl) h1) (qV X.K Q) := W1
    unfold bnd at W1'
    cases e : lc2Go p.2 (asgG g) inn p.1 (wipeN s vs) h1 with
    | ok xs h2 =>
      rw [e] at W1'
      dsimp only at W1'
      by_cases c : xs.length ≤ big
      · rw [if_pos c] at W1'
        exact ⟨xs, h2, rfl, c, W1'⟩
      · rw [if_neg c] at W1'; exact False.elim W1'
    | exc x h2 =>
      refine absurd e (lc2_exc (fun s h x h2 e => ?_) _ _)
      rcases bnd_exc e with e | ⟨_, _, _, e⟩
      · exact nox_exc e
      · exact lcGo_exc _ _ e
    | fail => rw [e] at W1'; exact False.elim W1'
  obtain ⟨xs, h2, er, hz, Wf⟩ := run
  have mD : ∀ ys : List V, Sim X.K ρ1 h1 (upd H1 D (.lst ys)) ∧ Grow h1 ρ1 H1 h1 ρ1 (upd H1 D (.lst ys)) := fun ys => S1.more (upd_ext hD)
  have nD := notIm S1 hD
  have tk1 : ∀ {ys : List V} {ρ3 : Nat → Addr} {h3 : LH} {H3 : Hp}, Grow h1 ρ1 (upd H1 D (.lst ys)) h3 ρ3 H3 → Grow h1 ρ1 H1 h3 ρ3 H3 := fun {ys} _ _ _ g3 => (mD ys).2.trans g3
  have atD : ∀ {ys : List V} {ρ3 : Nat → Addr} {h3 : LH} {H3 : Hp}, Grow h1 ρ1 (upd H1 D (.lst ys)) h3 ρ3 H3 → H3 D = some (.lst ys) := fun g3 => g3.fr _ _ upd_same nD
  have niD : ∀ {ys : List V} {ρ3 : Nat → Addr} {h3 : LH} {H3 : Hp}, Grow h1 ρ1 (upd H1 D (.lst ys)) h3 ρ3 H3 → ¬ Im h3 ρ3 D := fun g3 i => by
    have z := g3.new D i nD
    rw [upd_same] at z; cases z
  have srW : ∀ {ys : List V} {ρ3 : Nat → Addr} {h3 : LH} {H3 : Hp}, Grow h1 ρ1 (upd H1 D (.lst ys)) h3 ρ3 H3 → SR X.K ρ3 h3.length H3 (wipeN s vs) (wipe σ vs) := fun {ys} _ _ _ g3 => (((R1.grow S1 (mD ys).2).grow (mD ys).1 g3)).wipe vs
  refine ⟨fun i m H => i ≤ p.1.length ∧ m = p.1.length - i ∧ ∃ ρ3 h3 ys done xr, Sim X.K ρ3 h3 H ∧ Grow h1 ρ1 (upd H1 D (.lst ys)) h3 ρ3 H ∧ VRs X.K ρ3 h3.length H done ys ∧
    lc2Go p.2 (asgG g) inn (p.1.drop i) (wipeN s vs) h3 = .ok xr h2 ∧ done ++ xr = xs, ⟨_, Nat.zero_le _, rfl, ρ1, h1, [], [], xs, (mD []).1, Grow.refl, .nil, er, rfl⟩, ?_⟩
  rintro i m H3 ⟨hi, rfl, ρ3, h3, ys, done, xr, S3, g3, rd, el, ex⟩
  cases hd : p.1.drop i with
  | nil =>
    left
    have il : i = p.1.length := by
      have := congrArg List.length hd
      simp at this
      omega
    rw [hd] at el
    unfold lc2Go at el
    obtain ⟨u, h4, e1, e2⟩ := bnd_ok el
    obtain ⟨e1, rfl⟩ := rdH_ok e1
    obtain ⟨rfl, rfl⟩ := ret_ok e2
    obtain ⟨gk, _⟩ := gd_of e1
    have g3' := tk1 g3
    refine ⟨by rw [il]; exact (fd ρ3 h2 H3 S3 g3'.eq g3'.le (g3'.tupK S1) (g3'.frz S1) gk).2, ?_⟩
    have W' : Wg X.K E ρ1 h1 H1 (.ok (T.ref h2.length) (h2 ++ [LO.lst xs])) (qV X.K Q) := Wf
    rw [List.append_nil] at ex
    subst ex
    have hp := atD g3
    have ho : OR X.K (put1 ρ3 h2.length D) (h2.length + 1) (upd H3 D (.lst ys)) (.lst done) D := ⟨ys, by
      rw [upd_self hp]
      exact rd.mono (fun l hl => put1_lt hl) (by omega) (tupK_ext fun _ _ e => e), upd_same⟩
    obtain ⟨S4, g4⟩ := Sim.late S1 hD g3 S3 hp rfl rfl ho
    rw [upd_self hp] at S4 g4
    have q := W' _ _ g4 S4 (.ref (put1 ρ3 h2.length D h2.length)) (.ref (by simp))
    rwa [put1_at] at q
  | cons t ts =>
    right
    have il : i < p.1.length := by
      have := congrArg List.length hd
      simp at this
      omega
    have et : p.1[i]? = some t := by
      have := List.getElem?_drop (xs := p.1) (i := i) (j := 0)
      rw [hd] at this
      simpa using this.symm
    have ed : p.1.drop (i + 1) = ts := by
      rw [← List.drop_drop, hd]; rfl
    rw [hd] at el
    unfold lc2Go at el
    obtain ⟨s1, h4, e1, e2⟩ := bnd_ok el
    obtain ⟨e1, rfl⟩ := rdH_ok e1
    obtain ⟨gk, e1⟩ := gd_of e1
    obtain ⟨zs, h5, e3, e4⟩ := bnd_ok e2
    obtain ⟨rest, h6, e5, e6⟩ := bnd_ok e4
    obtain ⟨rfl, rfl⟩ := ret_ok e6
    have g3' := tk1 g3
    obtain ⟨go, hy⟩ := (fd ρ3 h4 H3 S3 g3'.eq g3'.le (g3'.tupK S1) (g3'.frz S1) gk).1 i t et
    let Nx : Hp → Prop := fun H' => ∃ m', m' < p.1.length - i ∧ (i + 1 ≤ p.1.length ∧ m' = p.1.length - (i + 1) ∧ ∃ ρ3 h3 ys done xr, Sim X.K ρ3 h3 H' ∧ Grow h1 ρ1 (upd H1 D (.lst ys)) h3 ρ3 H' ∧ VRs X.K ρ3 h3.length H' done ys ∧
      lc2Go p.2 (asgG g) inn (p.1.drop (i + 1)) (wipeN s vs) h3 = .ok xr h2 ∧ done ++ xr = xs)
    refine ⟨go, Nx, fun H' q => q, fun x H4 y4 => ?_⟩
    obtain ⟨hx, rt⟩ := hy x H4 y4
    obtain ⟨S4, g4⟩ := S3.more hx
    have g34 := g3.trans g4
    refine rd_g g e1 rt (srW g34) fun σ2 R2 hw => ⟨by rw [hw vs hg, wipe_wipe], ?_⟩
    refine ⟨ρ3, h4, s1, S4, R2, ?_⟩
    intro ρ5 H5 g5 S5
    show if (true : Bool) = true then _ else Nx H5
    rw [if_pos rfl]
    have R5 := R2.grow S4 g5
    have g35 := g34.trans g5
    have rd5 := (rd.grow S3 g4).grow S4 g5
    -- the inner walk
    obtain ⟨p1, h7, i1, i2⟩ := bnd_ok e3
    have i1 := nox_ok i1
    refine ⟨ρ5, h4, s1, S5, R5, ?_⟩
    rw [i1]
    intro ρ7 H7 g7 S7
    intro hgd1 J1 fd1
    have R7 := R5.grow S5 g7
    have g37 := g35.trans g7
    have rd7 := rd5.grow S5 g7
    refine ⟨fun j k H => j ≤ p1.1.length ∧ k = p1.1.length - j ∧ ∃ ρ8 h8 ys8 done8 xr8, Sim X.K ρ8 h8 H ∧ Grow h1 ρ1 (upd H1 D (.lst ys8)) h8 ρ8 H ∧ GrD X.K D h7 ρ7 H7 h8 ρ8 H ∧ VRs X.K ρ8 h8.length H done8 ys8 ∧ SR X.K ρ8 h8.length H s1 σ2 ∧
      lcGo p1.2 (asgG g1) (fun _ => ret true) me (p1.1.drop j) (wipeN s1 vs1) h8 = .ok xr8 h5 ∧ done8 ++ xr8 = done ++ zs, ⟨_, Nat.zero_le _, rfl, ρ7, h7, ys, done, zs, S7, g37, ⟨Nat.le_refl _, fun _ _ => rfl, tupK_ext fun _ _ e => e, fun _ _ _ e => e⟩, rd7, R7, i2, rfl⟩, ?_⟩
    rintro j k H8 ⟨hj, rfl, ρ8, h8, ys8, done8, xr8, S8, g8, gD8, rd8, R8, el8, ex8⟩
    cases hd8 : p1.1.drop j with
    | nil =>
      left
      have jl : j = p1.1.length := by
        have := congrArg List.length hd8
        simp at this
        omega
      rw [hd8] at el8
      unfold lcGo at el8
      obtain ⟨u, h9, f1, f2⟩ := bnd_ok el8
      obtain ⟨f1, rfl⟩ := rdH_ok f1
      obtain ⟨rfl, rfl⟩ := ret_ok f2
      obtain ⟨gk8, _⟩ := gd_of f1
      refine ⟨by rw [jl]; exact (fd1 ρ8 h5 H8 S8 gD8.eq gD8.le gD8.tk gD8.fz gk8).2, ?_⟩
      rw [List.append_nil] at ex8
      exact ⟨p.1.length - (i + 1), by omega, by omega, rfl, ρ8, h5, ys8, done8, rest, S8, g8, rd8, by rw [ed]; exact e5, by rw [ex8, List.append_assoc]; exact ex⟩
    | cons t8 ts8 =>
      right
      have jl : j < p1.1.length := by
        have := congrArg List.length hd8
        simp at this
        omega
      have et8 : p1.1[j]? = some t8 := by
        have := List.getElem?_drop (xs := p1.1) (i := j) (j := 0)
        rw [hd8] at this
        simpa using this.symm
      have ed8 : p1.1.drop (j + 1) = ts8 := by
        rw [← List.drop_drop, hd8]; rfl
      rw [hd8] at el8
      unfold lcGo at el8
      obtain ⟨s9, h9, f1, f2⟩ := bnd_ok el8
      obtain ⟨f1, rfl⟩ := rdH_ok f1
      obtain ⟨gk8, f1g⟩ := gd_of f1
      obtain ⟨b, h10, f3, f4⟩ := bnd_ok f2
      have f3 := nox_ok f3
      obtain ⟨rfl, rfl⟩ := ret_ok f3
      rw [if_pos rfl] at f4
      obtain ⟨z, h11, f5, f6⟩ := bnd_ok f4
      have f5 := nox_ok f5
      obtain ⟨zr, h12, f7, f8⟩ := bnd_ok f6
      obtain ⟨rfl, rfl⟩ := ret_ok f8
      obtain ⟨go8, hy8⟩ := (fd1 ρ8 h10 H8 S8 gD8.eq gD8.le gD8.tk gD8.fz gk8).1 j t8 et8
      let Nx1 : Hp → Prop := fun H' => ∃ k', k' < p1.1.length - j ∧ (j + 1 ≤ p1.1.length ∧ k' = p1.1.length - (j + 1) ∧ ∃ ρ8 h8 ys8 done8 xr8, Sim X.K ρ8 h8 H' ∧ Grow h1 ρ1 (upd H1 D (.lst ys8)) h8 ρ8 H' ∧ GrD X.K D h7 ρ7 H7 h8 ρ8 H' ∧ VRs X.K ρ8 h8.length H' done8 ys8 ∧ SR X.K ρ8 h8.length H' s1 σ2 ∧
        lcGo p1.2 (asgG g1) (fun _ => ret true) me (p1.1.drop (j + 1)) (wipeN s1 vs1) h8 = .ok xr8 h5 ∧ done8 ++ xr8 = done ++ zs)
      refine ⟨go8, Nx1, fun H' q => q, fun x9 H9 y9 => ?_⟩
      obtain ⟨hx9, rt9⟩ := hy8 x9 H9 y9
      obtain ⟨S9, g9⟩ := S8.more hx9
      have R9 := R8.grow S8 g9
      refine rd_g g1 f1g rt9 (R9.wipe vs1) fun σ3 R10 hw3 => ⟨by rw [hw3 vs1 hg1, wipe_wipe], ?_⟩
      refine ⟨ρ8, h10, s9, S9, R10, ?_⟩
      intro ρ10 H10 g10 S10
      show if (true : Bool) = true then _ else Nx1 H10
      rw [if_pos rfl]
      refine ⟨ρ10, h10, s9, S10, R10.grow S9 g10, ?_⟩
      rw [f5]
      intro ρ11 H11 g11 S11 y ry
      have gA := ((g8.trans g9).trans g10).trans g11
      have gDA := ((gD8.step S8 g9).step S9 g10).step S10 g11
      have hD11 := atD gA
      have rd11 := ((rd8.grow S8 g9).grow S9 g10).grow S10 g11
      have R11 := (R9.grow S9 g10).grow S10 g11
      refine ⟨ys8, hD11, ?_, p1.1.length - (j + 1), by omega, by omega, rfl, ρ11, h11, ys8 ++ [y], done8 ++ [z], zr, S11.un (niD gA) hD11, gA.reD, gDA.un hD11, ?_, ?_, by rw [ed8]; exact f7, by rw [List.append_assoc]; exact ex8⟩
      · rw [← rd11.len]
        have e1 := congrArg List.length ex8
        have e2 := congrArg List.length ex
        simp only [List.length_append, List.length_cons] at e1 e2
        exact Nat.lt_of_lt_of_le (by omega) big_line
      · exact (rd11.append (.cons ry .nil)).mono (fun _ _ => rfl) (Nat.le_refl _) (tupK_un hD11)
      · exact ⟨R11.1, fun i t e => let ⟨v, q1, q2⟩ := R11.2 i t e; ⟨v, q1, q2.mono (fun _ _ => rfl) (Nat.le_refl _) (tupK_un hD11)⟩⟩
theorem rd_while {mc : En → M Bool} {mb : En → M Fl} {n : Nat} : ∀ D σ H, rdS X.K E (fun s => whileGo mc mb n s) D σ H → tWhile (rdT X.K E mc) (rdS X.K E mb) D σ H := by
  rintro D σ H ⟨ρ, h, s, S, R, W⟩
  refine ⟨fun m σ H => ∃ ρ3 h3 s3, Sim X.K ρ3 h3 H ∧ SR X.K ρ3 h3.length H s3 σ ∧ Wg X.K E ρ3 h3 H (whileGo mc mb m s3 h3) (qS X.K D), ⟨n, ρ, h, s, S, R, W⟩, ?_⟩
  rintro m σ3 H3 ⟨ρ3, h3, s3, S3, R3, W3⟩
  cases m with
  | zero => exact False.elim W3
  | succ m =>
    unfold whileGo at W3
    refine ⟨ρ3, h3, s3, S3, R3, W3.bind fun b h4 ρ4 H4 g4 S4 W4 => ?_⟩
    show if b = true then _ else _
    by_cases c : b = true
    · rw [if_pos c]
      rw [if_pos c] at W4
      refine ⟨fun σ' H' => ∃ m', m' < m + 1 ∧ ∃ ρ3 h3 s3, Sim X.K ρ3 h3 H' ∧ SR X.K ρ3 h3.length H' s3 σ' ∧ Wg X.K E ρ3 h3 H' (whileGo mc mb m' s3 h3) (qS X.K D), fun _ _ q => q, ρ4, h4, s3, S4, R3.grow S3 g4, W4.bind fun f h5 ρ5 H5 g5 S5 W5 => ?_⟩
      cases f with
      | nx s2 => exact fun σ' R6 => ⟨m, by omega, ρ5, h5, s2, S5, R6, W5⟩
      | ct s2 => exact fun σ' R6 => ⟨m, by omega, ρ5, h5, s2, S5, R6, W5⟩
      | bk s2 => exact fun σ' R6 => Wg.ret_ S5 W5 σ' R6
      | rt v => exact Wg.ret_ (E := E) (k := qS X.K D) (a := Fl.rt v) S5 W5
    · rw [if_neg c]
      rw [if_neg c] at W4
      exact Wg.ret_ S4 W4 σ3 (R3.grow S3 g4)
end
end Y

/-! L3j: expressions and statements by runs. -/
namespace Y
open PySem PySem.Spec L2
section
variable {X : Cx} {E : XK} {m m1 m2 m3 : En → M T} {mb mb1 mb2 : En → M Bool} {ma : En → M (List T)} {ms ms2 : En → M Fl}
theorem rd_var {i : Nat} : ∀ σ H Q, rdE X.K E (fun s => getV s i) σ H Q → tVar i σ H Q := by
  rintro σ H Q ⟨ρ, h, s, S, R, W⟩
  obtain ⟨z, e, q⟩ := Wg.opt_ S W
  obtain ⟨o, e1, e2⟩ := Option.bind_eq_some_iff.mp e
  obtain ⟨v, e3, r⟩ := R.2 i z (by rw [e1]; exact congrArg some e2)
  exact ⟨v, e3, q v r⟩
theorem rd_c {t : T} {v : V} (hv : ∀ ρ n H, VR X.K ρ n H t v) : ∀ σ H Q, rdE X.K E (fun _ => ret t) σ H Q → tC v σ H Q := by
  rintro σ H Q ⟨ρ, h, s, S, R, W⟩
  exact Wg.ret_ S W v (hv _ _ _)
theorem rd_tup : ∀ σ H Q, rdE X.K E (fun s => bnd (ma s) fun xs => if xs.length ≤ big then ret (.tup xs) else fl) σ H Q → tTup (rdA X.K E ma) σ H Q := by
  rintro σ H Q ⟨ρ, h, s, S, R, W⟩
  refine ⟨ρ, h, s, S, R, W.bind fun ts h1 ρ1 H1 g S1 W1 => ?_⟩
  intro vs rv
  by_cases c : ts.length ≤ big
  · rw [if_pos c] at W1
    exact ⟨by rw [← rv.len]; exact Nat.le_trans c big_line, k_tup S1 W1 rv⟩
  · rw [if_neg c] at W1; exact False.elim W1
theorem rd_lst : ∀ σ H Q, rdE X.K E (fun s => bnd (ma s) fun xs => if xs.length ≤ big then neu (.lst xs) else fl) σ H Q → tLst (rdA X.K E ma) σ H Q := by
  rintro σ H Q ⟨ρ, h, s, S, R, W⟩
  refine ⟨ρ, h, s, S, R, W.bind fun ts h1 ρ1 H1 g S1 W1 => ?_⟩
  intro vs rv
  by_cases c : ts.length ≤ big
  · rw [if_pos c] at W1
    exact ⟨by rw [← rv.len]; exact Nat.le_trans c big_line, k_lst S1 W1 rv⟩
  · rw [if_neg c] at W1; exact False.elim W1
theorem rd_newK : ∀ σ H Q, rdE X.K E (fun _ => neu (.dK [])) σ H Q → tDNewK σ H Q := by
  rintro σ H Q ⟨ρ, h, s, S, R, W⟩ p hp
  exact k_neu S W hp rfl ⟨[], .nil, upd_same⟩
theorem rd_newT : ∀ σ H Q, rdE X.K E (fun _ => neu (.dT [])) σ H Q → tDNewT σ H Q := by
  rintro σ H Q ⟨ρ, h, s, S, R, W⟩ p hp
  exact k_neu S W hp rfl ⟨[], .nil, upd_same⟩
theorem rd_op {f : T → T → M T} : ∀ σ H Q, rdE X.K E (fun s => bnd (m1 s) fun x => bnd (m2 s) fun y => f x y) σ H Q → tOp (r2M X.K E f) (rdE X.K E m1) (rdE X.K E m2) σ H Q := by
  rintro σ H Q ⟨ρ, h, s, S, R, W⟩
  refine ⟨ρ, h, s, S, R, W.bind fun t h1 ρ1 H1 g S1 W1 => ?_⟩
  intro v rv
  refine ⟨ρ1, h1, s, S1, R.grow S g, W1.bind fun u h2 ρ2 H2 g2 S2 W2 => ?_⟩
  intro w rw'
  exact ⟨ρ2, h2, t, u, S2, rv.grow S1 g2, rw', W2⟩
theorem rd_cmp {f : T → T → M Bool} : ∀ σ H Q, rdE X.K E (fun s => bnd (m1 s) fun x => bnd (m2 s) fun y => bnd (f x y) fun c => ret (.bl c)) σ H Q → tOp (r2B X.K E f) (rdE X.K E m1) (rdE X.K E m2) σ H Q := by
  rintro σ H Q ⟨ρ, h, s, S, R, W⟩
  refine ⟨ρ, h, s, S, R, W.bind fun t h1 ρ1 H1 g S1 W1 => ?_⟩
  intro v rv
  refine ⟨ρ1, h1, s, S1, R.grow S g, W1.bind fun u h2 ρ2 H2 g2 S2 W2 => ?_⟩
  intro w rw'
  exact ⟨ρ2, h2, t, u, S2, rv.grow S1 g2, rw', W2.bind fun b h3 ρ3 H3 g3 S3 W3 => Wg.ret_ S3 W3 _ (.bl b)⟩
theorem rd_cmpB {f : T → T → M Bool} : ∀ σ H Q, rdT X.K E (fun s => bnd (m1 s) fun x => bnd (m2 s) fun y => f x y) σ H Q → tTest (tOp (r2B X.K E f) (rdE X.K E m1) (rdE X.K E m2)) σ H Q := by
  rintro σ H Q ⟨ρ, h, s, S, R, W⟩
  refine ⟨ρ, h, s, S, R, W.bind fun t h1 ρ1 H1 g S1 W1 => ?_⟩
  intro v rv
  refine ⟨ρ1, h1, s, S1, R.grow S g, W1.bind fun u h2 ρ2 H2 g2 S2 W2 => ?_⟩
  intro w rw'
  exact ⟨ρ2, h2, t, u, S2, rv.grow S1 g2, rw', W2.mono fun ρ3 h3 H3 b g3 S3 q => ⟨b, rfl, q⟩⟩
theorem rd_neg : ∀ σ H Q, rdE X.K E (fun s => bnd (m s) fun x => match x with
    | .int i => ret (.int (-i))
    | _ => fl) σ H Q → tUn (rU fun i => .int (-i)) (rdE X.K E m) σ H Q := by
  rintro σ H Q ⟨ρ, h, s, S, R, W⟩
  refine ⟨ρ, h, s, S, R, W.bind fun t h1 ρ1 H1 g S1 W1 => ?_⟩
  intro v rv
  cases rv with
  | int i => exact ⟨i, rfl, Wg.ret_ S1 W1 _ (.int _)⟩
  | _ => exact False.elim W1
theorem rd_chain {f1 f2 : T → T → M Bool} : ∀ σ H Q, rdE X.K E (fun s => bnd (m1 s) fun x => bnd (m2 s) fun y => bnd (f1 x y) fun k => if k = true then bnd (m3 s) fun z => bnd (f2 y z) fun j => ret (.bl j) else ret (.bl false)) σ H Q →
    tChain (r2B X.K E f1) (r2B X.K E f2) (rdE X.K E m1) (rdE X.K E m2) (rdE X.K E m3) σ H Q := by
  rintro σ H Q ⟨ρ, h, s, S, R, W⟩
  refine ⟨ρ, h, s, S, R, W.bind fun t h1 ρ1 H1 g S1 W1 => ?_⟩
  intro v rv
  refine ⟨ρ1, h1, s, S1, R.grow S g, W1.bind fun u h2 ρ2 H2 g2 S2 W2 => ?_⟩
  intro w rw'
  refine ⟨ρ2, h2, t, u, S2, rv.grow S1 g2, rw', W2.bind fun b h3 ρ3 H3 g3 S3 W3 => ?_⟩
  refine ⟨b, rfl, ?_⟩
  by_cases c : b = true
  · rw [if_pos c] at W3
    rw [if_pos c]
    refine ⟨ρ3, h3, s, S3, ((R.grow S g).grow S1 g2).grow S2 g3, W3.bind fun z h4 ρ4 H4 g4 S4 W4 => ?_⟩
    intro y ry
    exact ⟨ρ4, h4, u, z, S4, (rw'.grow S2 g3).grow S3 g4, ry, W4.bind fun j h5 ρ5 H5 g5 S5 W5 => Wg.ret_ S5 W5 _ (.bl j)⟩
  · rw [if_neg c] at W3
    rw [if_neg c]
    exact Wg.ret_ S3 W3 _ (.bl false)
theorem rd_chainB {f1 f2 : T → T → M Bool} : ∀ σ H Q, rdT X.K E (fun s => bnd (m1 s) fun x => bnd (m2 s) fun y => bnd (f1 x y) fun k => if k = true then bnd (m3 s) fun z => f2 y z else ret false) σ H Q →
    tTest (tChain (r2B X.K E f1) (r2B X.K E f2) (rdE X.K E m1) (rdE X.K E m2) (rdE X.K E m3)) σ H Q := by
  rintro σ H Q ⟨ρ, h, s, S, R, W⟩
  refine ⟨ρ, h, s, S, R, W.bind fun t h1 ρ1 H1 g S1 W1 => ?_⟩
  intro v rv
  refine ⟨ρ1, h1, s, S1, R.grow S g, W1.bind fun u h2 ρ2 H2 g2 S2 W2 => ?_⟩
  intro w rw'
  refine ⟨ρ2, h2, t, u, S2, rv.grow S1 g2, rw', W2.bind fun b h3 ρ3 H3 g3 S3 W3 => ?_⟩
  refine ⟨b, rfl, ?_⟩
  by_cases c : b = true
  · rw [if_pos c] at W3
    rw [if_pos c]
    refine ⟨ρ3, h3, s, S3, ((R.grow S g).grow S1 g2).grow S2 g3, W3.bind fun z h4 ρ4 H4 g4 S4 W4 => ?_⟩
    intro y ry
    exact ⟨ρ4, h4, u, z, S4, (rw'.grow S2 g3).grow S3 g4, ry, W4.mono fun ρ5 h5 H5 j g5 S5 q => ⟨j, rfl, q⟩⟩
  · rw [if_neg c] at W3
    rw [if_neg c]
    exact ⟨false, rfl, Wg.ret_ S3 W3⟩
theorem rd_and : ∀ σ H Q, rdE X.K E (fun s => bnd (m1 s) fun x => bnd (tru x) fun k => if k = true then m2 s else ret x) σ H Q → tAndT X.K (rdE X.K E m1) (rdE X.K E m2) σ H Q := by
  rintro σ H Q ⟨ρ, h, s, S, R, W⟩
  refine ⟨ρ, h, s, S, R, W.bind fun t h1 ρ1 H1 g S1 W1 => ?_⟩
  intro v rv
  obtain ⟨k, e, W2⟩ := Wg.rdH_ S1 W1
  refine ⟨k, tru_leaf S1 rv e, ?_⟩
  by_cases c : k = true
  · rw [if_pos c] at W2
    rw [if_pos c]
    exact ⟨ρ1, h1, s, S1, R.grow S g, W2⟩
  · rw [if_neg c] at W2
    rw [if_neg c]
    exact Wg.ret_ S1 W2 _ rv
theorem rd_or : ∀ σ H Q, rdE X.K E (fun s => bnd (m1 s) fun x => bnd (tru x) fun k => if k = true then ret x else m2 s) σ H Q → tOrT X.K (rdE X.K E m1) (rdE X.K E m2) σ H Q := by
  rintro σ H Q ⟨ρ, h, s, S, R, W⟩
  refine ⟨ρ, h, s, S, R, W.bind fun t h1 ρ1 H1 g S1 W1 => ?_⟩
  intro v rv
  obtain ⟨k, e, W2⟩ := Wg.rdH_ S1 W1
  refine ⟨k, tru_leaf S1 rv e, ?_⟩
  by_cases c : k = true
  · rw [if_pos c] at W2
    rw [if_pos c]
    exact Wg.ret_ S1 W2 _ rv
  · rw [if_neg c] at W2
    rw [if_neg c]
    exact ⟨ρ1, h1, s, S1, R.grow S g, W2⟩
theorem rd_not : ∀ σ H Q, rdE X.K E (fun s => bnd (m s) fun x => bnd (tru x) fun k => ret (.bl (!k))) σ H Q → tNotT X.K (rdE X.K E m) σ H Q := by
  rintro σ H Q ⟨ρ, h, s, S, R, W⟩
  refine ⟨ρ, h, s, S, R, W.bind fun t h1 ρ1 H1 g S1 W1 => ?_⟩
  intro v rv
  obtain ⟨k, e, W2⟩ := Wg.rdH_ S1 W1
  exact ⟨k, tru_leaf S1 rv e, Wg.ret_ S1 W2 _ (.bl _)⟩
theorem rd_truth : ∀ σ H Q, rdT X.K E (fun s => bnd (m s) tru) σ H Q → rdE X.K E m σ H fun x H' => ∃ k, TruV X.K x H' k ∧ Q k H' := by
  rintro σ H Q ⟨ρ, h, s, S, R, W⟩
  refine ⟨ρ, h, s, S, R, W.bind fun t h1 ρ1 H1 g S1 W1 => ?_⟩
  intro v rv
  obtain ⟨k, e, q⟩ := Wg.rd_ S1 W1
  exact ⟨k, tru_leaf S1 rv e, q⟩
theorem rd_andB : ∀ σ H Q, rdT X.K E (fun s => bnd (mb1 s) fun k => if k = true then mb2 s else ret false) σ H Q → tAnd (rdT X.K E mb1) (rdT X.K E mb2) σ H Q := by
  rintro σ H Q ⟨ρ, h, s, S, R, W⟩
  refine ⟨ρ, h, s, S, R, W.bind fun k h1 ρ1 H1 g S1 W1 => ?_⟩
  show if k = true then _ else _
  by_cases c : k = true
  · rw [if_pos c] at W1
    rw [if_pos c]
    exact ⟨ρ1, h1, s, S1, R.grow S g, W1⟩
  · rw [if_neg c] at W1
    rw [if_neg c]
    exact Wg.ret_ S1 W1
theorem rd_orB : ∀ σ H Q, rdT X.K E (fun s => bnd (mb1 s) fun k => if k = true then ret true else mb2 s) σ H Q → tOr (rdT X.K E mb1) (rdT X.K E mb2) σ H Q := by
  rintro σ H Q ⟨ρ, h, s, S, R, W⟩
  refine ⟨ρ, h, s, S, R, W.bind fun k h1 ρ1 H1 g S1 W1 => ?_⟩
  show if k = true then _ else _
  by_cases c : k = true
  · rw [if_pos c] at W1
    rw [if_pos c]
    exact Wg.ret_ S1 W1
  · rw [if_neg c] at W1
    rw [if_neg c]
    exact ⟨ρ1, h1, s, S1, R.grow S g, W1⟩
theorem rd_notB : ∀ σ H Q, rdT X.K E (fun s => bnd (mb s) fun k => ret (!k)) σ H Q → tNot (rdT X.K E mb) σ H Q := by
  rintro σ H Q ⟨ρ, h, s, S, R, W⟩
  refine ⟨ρ, h, s, S, R, W.bind fun k h1 ρ1 H1 g S1 W1 => ?_⟩
  exact Wg.ret_ (E := E) (k := qB Q) (a := !k) S1 W1
theorem rd_if : ∀ σ H Q, rdE X.K E (fun s => bnd (mb s) fun k => if k = true then m1 s else m2 s) σ H Q → tIf (rdT X.K E mb) (rdE X.K E m1) (rdE X.K E m2) σ H Q := by
  rintro σ H Q ⟨ρ, h, s, S, R, W⟩
  refine ⟨ρ, h, s, S, R, W.bind fun k h1 ρ1 H1 g S1 W1 => ?_⟩
  show if k = true then _ else _
  by_cases c : k = true
  · rw [if_pos c] at W1
    rw [if_pos c]
    exact ⟨ρ1, h1, s, S1, R.grow S g, W1⟩
  · rw [if_neg c] at W1
    rw [if_neg c]
    exact ⟨ρ1, h1, s, S1, R.grow S g, W1⟩
theorem rd_nil : ∀ σ H Q, rdA X.K E (fun _ => ret []) σ H Q → tNil σ H Q := by
  rintro σ H Q ⟨ρ, h, s, S, R, W⟩
  exact Wg.ret_ S W [] .nil
theorem rd_cons : ∀ σ H Q, rdA X.K E (fun s => bnd (m s) fun x => bnd (ma s) fun xs => ret (x :: xs)) σ H Q → tCons (rdE X.K E m) (rdA X.K E ma) σ H Q := by
  rintro σ H Q ⟨ρ, h, s, S, R, W⟩
  refine ⟨ρ, h, s, S, R, W.bind fun t h1 ρ1 H1 g S1 W1 => ?_⟩
  intro v rv
  refine ⟨ρ1, h1, s, S1, R.grow S g, W1.bind fun u h2 ρ2 H2 g2 S2 W2 => ?_⟩
  intro w rw'
  exact Wg.ret_ S2 W2 _ (.cons (rv.grow S1 g2) rw')
theorem rd_cb {f : List T → M T} : ∀ σ H Q, rdE X.K E (fun s => bnd (ma s) f) σ H Q → tCB (rM X.K E f) (rdA X.K E ma) σ H Q := by
  rintro σ H Q ⟨ρ, h, s, S, R, W⟩
  refine ⟨ρ, h, s, S, R, W.bind fun t h1 ρ1 H1 g S1 W1 => ?_⟩
  intro v rv
  exact ⟨ρ1, h1, t, S1, rv, W1⟩
def rdO (K : PySem.W.Frag) (E : XK) (m : En → M (Option Int)) : TO := fun σ H Q => ∃ ρ h s, Sim K ρ h H ∧ SR K ρ h.length H s σ ∧ Wg K E ρ h H (m s h) (fun _ _ H' o => Q o H')
theorem rd_no : ∀ σ H Q, rdO X.K E (fun _ => ret none) σ H Q → tNoPart σ H Q := by
  rintro σ H Q ⟨ρ, h, s, S, R, W⟩
  exact Wg.ret_ S W
theorem rd_part : ∀ σ H Q, rdO X.K E (fun s => bnd (m s) fun x => match partT x with
    | some i => ret (some i)
    | none => fl) σ H Q → tPart (rdE X.K E m) σ H Q := by
  rintro σ H Q ⟨ρ, h, s, S, R, W⟩
  refine ⟨ρ, h, s, S, R, W.bind fun t h1 ρ1 H1 g S1 W1 => ?_⟩
  intro v rv
  cases rv with
  | int i => exact ⟨i, rfl, Wg.ret_ S1 W1⟩
  | _ => exact False.elim W1
theorem rd_slc {mo mo2 : En → M (Option Int)} : ∀ σ H Q, rdE X.K E (fun s => bnd (m s) fun x => bnd (mo s) fun l => bnd (mo2 s) fun u => slT x l u) σ H Q → tSl (rSlM X.K E) (rdE X.K E m) (rdO X.K E mo) (rdO X.K E mo2) σ H Q := by
  rintro σ H Q ⟨ρ, h, s, S, R, W⟩
  refine ⟨ρ, h, s, S, R, W.bind fun t h1 ρ1 H1 g S1 W1 => ?_⟩
  intro v rv
  refine ⟨ρ1, h1, s, S1, R.grow S g, W1.bind fun l h2 ρ2 H2 g2 S2 W2 => ?_⟩
  refine ⟨ρ2, h2, s, S2, (R.grow S g).grow S1 g2, W2.bind fun u h3 ρ3 H3 g3 S3 W3 => ?_⟩
  exact ⟨ρ3, h3, t, S3, (rv.grow S1 g2).grow S2 g3, W3⟩
/-! ### list(range(..)) -/
theorem rngT_V {K : PySem.W.Frag} {ρ : Nat → Addr} {n : Nat} {H : Hp} {i : Int} : ∀ l : List Nat, VRs K ρ n H (l.map fun (k : Nat) => T.int (i + (k : Int))) (l.map fun k => V.int (i + (k : Nat)))
  | [] => .nil
  | k :: l => .cons (.int _) (rngT_V l)
theorem lrg_ok {K : PySem.W.Frag} {E : XK} {ρ : Nat → Addr} {h : LH} {H : Hp} {tp : Bool} {i j : Int} {k : Kt T} (W : Wg K E ρ h H (lrgT tp i j h) k) : RgOk i j ∧ Wg K E ρ h H ((if tp = true then ret (T.tup (rngT i (j - i).toNat)) else neu (.lst (rngT i (j - i).toNat))) h) k := by
  unfold lrgT at W
  by_cases c : rngOk i = true ∧ rngOk j = true ∧ (j - i).toNat ≤ big
  · rw [if_pos c] at W
    obtain ⟨c1, c2, c3⟩ := c
    unfold rngOk at c1 c2
    rw [decide_eq_true_eq] at c1 c2
    exact ⟨⟨by omega, by omega, by omega, by omega, Nat.le_trans c3 (by decide)⟩, W⟩
  · rw [if_neg c] at W; exact False.elim W
theorem rd_lstRg1 : ∀ σ H Q, rdE X.K E (fun s => bnd (m s) fun x => match x with
    | .int j => lrgT false 0 j
    | _ => fl) σ H Q → tLstRg (tRg1 (rdE X.K E m)) σ H Q := by
  rintro σ H Q ⟨ρ, h, s, S, R, W⟩
  refine ⟨ρ, h, s, S, R, W.bind fun t h1 ρ1 H1 g S1 W1 => ?_⟩
  intro v rv
  cases rv with
  | int j =>
    obtain ⟨c, W2⟩ := lrg_ok W1
    exact ⟨j, rfl, c, k_lst S1 W2 (rngT_V _)⟩
  | _ => exact False.elim W1
theorem rd_tupRg1 : ∀ σ H Q, rdE X.K E (fun s => bnd (m s) fun x => match x with
    | .int j => lrgT true 0 j
    | _ => fl) σ H Q → tTupRg (tRg1 (rdE X.K E m)) σ H Q := by
  rintro σ H Q ⟨ρ, h, s, S, R, W⟩
  refine ⟨ρ, h, s, S, R, W.bind fun t h1 ρ1 H1 g S1 W1 => ?_⟩
  intro v rv
  cases rv with
  | int j =>
    obtain ⟨c, W2⟩ := lrg_ok W1
    exact ⟨j, rfl, c, k_tup S1 W2 (rngT_V _)⟩
  | _ => exact False.elim W1
theorem rd_lstRg2 : ∀ σ H Q, rdE X.K E (fun s => bnd (m1 s) fun x => bnd (m2 s) fun y => match x, y with
    | .int i, .int j => lrgT false i j
    | _, _ => fl) σ H Q → tLstRg (tRg2 (rdE X.K E m1) (rdE X.K E m2)) σ H Q := by
  rintro σ H Q ⟨ρ, h, s, S, R, W⟩
  refine ⟨ρ, h, s, S, R, W.bind fun t h1 ρ1 H1 g S1 W1 => ?_⟩
  intro v rv
  refine ⟨ρ1, h1, s, S1, R.grow S g, W1.bind fun u h2 ρ2 H2 g2 S2 W2 => ?_⟩
  intro w rw'
  cases rv with
  | int i =>
    cases rw' with
    | int j =>
      obtain ⟨c, W3⟩ := lrg_ok W2
      exact ⟨i, j, rfl, rfl, c, k_lst S2 W3 (rngT_V _)⟩
    | _ => exact False.elim W2
  | _ => exact False.elim W2
theorem rd_tupRg2 : ∀ σ H Q, rdE X.K E (fun s => bnd (m1 s) fun x => bnd (m2 s) fun y => match x, y with
    | .int i, .int j => lrgT true i j
    | _, _ => fl) σ H Q → tTupRg (tRg2 (rdE X.K E m1) (rdE X.K E m2)) σ H Q := by
  rintro σ H Q ⟨ρ, h, s, S, R, W⟩
  refine ⟨ρ, h, s, S, R, W.bind fun t h1 ρ1 H1 g S1 W1 => ?_⟩
  intro v rv
  refine ⟨ρ1, h1, s, S1, R.grow S g, W1.bind fun u h2 ρ2 H2 g2 S2 W2 => ?_⟩
  intro w rw'
  cases rv with
  | int i =>
    cases rw' with
    | int j =>
      obtain ⟨c, W3⟩ := lrg_ok W2
      exact ⟨i, j, rfl, rfl, c, k_tup S2 W3 (rngT_V _)⟩
    | _ => exact False.elim W2
  | _ => exact False.elim W2
/-! ### isinstance -/
theorem isi_of {cls : List Str} {cs : List Kd} {h : LH} {t : T} {b : Bool} (e : isiH cls h t cs = some b) : ∃ k, tyOf h t = some k ∧ (∀ c, k = .cls c → c ∈ cls) ∧ b = cs.any (isiOne k) := by
  unfold isiH at e
  obtain ⟨k, e1, e2⟩ := Option.bind_eq_some_iff.mp e
  by_cases c : kdIn cls k = true
  · rw [if_pos c] at e2
    cases e2
    refine ⟨k, e1, fun x hx => ?_, rfl⟩
    subst hx
    exact of_decide_eq_true c
  · rw [if_neg c] at e2; cases e2
theorem rd_isi1 {cls : List Str} {k : Kd} {c : V} (io : IsiOk X.K cls) (hk : kdOk cls k = true) (hc : ClsV c (kdV X.K k)) : ∀ σ H Q, rdE X.K E (fun s => bnd (m s) fun x => bnd (rdH fun h => isiH cls h x [k]) fun b => ret (.bl b)) σ H Q →
    tCB (rIsi X.K) (tCons (rdE X.K E m) (tCons (tC c) tNil)) σ H Q := by
  rintro σ H Q ⟨ρ, h, s, S, R, W⟩
  refine ⟨ρ, h, s, S, R, W.bind fun t h1 ρ1 H1 g S1 W1 => ?_⟩
  intro v rv
  obtain ⟨b, e, W2⟩ := Wg.rdH_ S1 W1
  obtain ⟨k', e1, e2, rfl⟩ := isi_of e
  have ka := kit_one io e2 hk
  refine ⟨v, c, _, _, _, rfl, hc, ty_of io e2 S1 rv e1, ka, ?_⟩
  have := Wg.ret_ S1 W2 _ (.bl _)
  rwa [List.any_cons, List.any_nil, Bool.or_false] at this
theorem rd_isiT {cls : List Str} {ks : List Kd} {cs : List V} {tcs : TA} (io : IsiOk X.K cls) (hk : ks.all (kdOk cls) = true) (hc : Paired ClsV cs (ks.map (kdV X.K))) (hl : cs.length ≤ sizeLine) (ht : ∀ σ H (Q : List V → Hp → Prop), Q cs H → tcs σ H Q) :
    ∀ σ H Q, rdE X.K E (fun s => bnd (m s) fun x => bnd (rdH fun h => isiH cls h x ks) fun b => ret (.bl b)) σ H Q → tCB (rIsiT X.K) (tCons (rdE X.K E m) (tCons (tTup tcs) tNil)) σ H Q := by
  rintro σ H Q ⟨ρ, h, s, S, R, W⟩
  refine ⟨ρ, h, s, S, R, W.bind fun t h1 ρ1 H1 g S1 W1 => ?_⟩
  intro v rv
  obtain ⟨b, e, W2⟩ := Wg.rdH_ S1 W1
  obtain ⟨k', e1, e2, rfl⟩ := isi_of e
  refine ht _ _ _ ⟨hl, fun p hp => ?_⟩
  obtain ⟨S2, g2⟩ := S1.more (upd_ext (x := HO.tup cs) hp)
  have W3 := Wg.from_ g2 W2
  exact ⟨v, p, cs, _, _, _, rfl, upd_same, hc, ty_of io e2 S2 (rv.grow S1 g2) e1, kit_any io e2 hk, Wg.ret_ S2 W3 _ (.bl _)⟩
theorem rd_isiB {cls : List Str} {ks : List Kd} : ∀ σ H Q, rdT X.K E (fun s => bnd (m s) fun x => rdH fun h => isiH cls h x ks) σ H Q → rdE X.K E (fun s => bnd (m s) fun x => bnd (rdH fun h => isiH cls h x ks) fun b => ret (.bl b)) σ H fun x H' => ∃ k, TruV X.K x H' k ∧ Q k H' := by
  rintro σ H Q ⟨ρ, h, s, S, R, W⟩
  refine ⟨ρ, h, s, S, R, ?_⟩
  have e : ∀ h, bnd (m s) (fun x => bnd (rdH fun h => isiH cls h x ks) fun b => ret (T.bl b)) h = bnd (bnd (m s) fun x => rdH fun h => isiH cls h x ks) (fun b => ret (T.bl b)) h := fun h => by
    unfold bnd
    cases m s h <;> rfl
  show Wg X.K E ρ h H (bnd (m s) (fun x => bnd (rdH fun h => isiH cls h x ks) fun b => ret (T.bl b)) h) _
  rw [e]
  unfold bnd at W ⊢
  dsimp only at W
  cases q : m s h with
  | ok t h1 =>
    rw [q] at W
    dsimp only at W ⊢
    cases q2 : rdH (fun h => isiH cls h t ks) h1 with
    | ok b h2 =>
      rw [q2] at W
      exact fun ρ' H' g' S' v rv => by
        cases rv
        exact ⟨b, rfl, W ρ' H' g' S'⟩
    | exc x h2 => rw [q2] at W; exact W
    | fail => rw [q2] at W; exact W
  | exc x h1 => rw [q] at W; exact W
  | fail => rw [q] at W; exact W
/-! ### built-in methods -/
theorem rd_bm0 {md : BM} (hm : isLm md = true) : ∀ σ H Q, rdE X.K E (fun s => bnd (m s) fun x => bnd (rdH fun h => bmK md h x) fun _ => bnd (ret []) fun xs => bmF md x xs) σ H Q → tBM0 X.K "list" (rMt X.K E md) (rdE X.K E m) σ H Q := by
  rintro σ H Q ⟨ρ, h, s, S, R, W⟩
  refine ⟨ρ, h, s, S, R, W.bind fun t h1 ρ1 H1 g S1 W1 => ?_⟩
  intro v rv
  obtain ⟨u, e, W2⟩ := Wg.rdH_ S1 W1
  have e1 : ∃ xs, wlstOf h1 t = some xs := by
    cases md <;> first | cases hm; done | (obtain ⟨xs, e1, _⟩ := Option.map_eq_some_iff.mp e; exact ⟨xs, e1⟩)
  obtain ⟨xs, e1⟩ := e1
  obtain ⟨l, vs, rfl, rfl, e3, e4, e5⟩ := wlst_of S1 rv e1
  exact ⟨.inl ⟨rfl, vs, SqL.of e4⟩, ρ1, h1, _, [], S1, rv, .nil, W2⟩
theorem rd_bm {md : BM} (hm : isLm md = true) : ∀ σ H Q, rdE X.K E (fun s => bnd (m s) fun x => bnd (rdH fun h => bmK md h x) fun _ => bnd (ma s) fun xs => bmF md x xs) σ H Q → tBM X.K "list" (rMt X.K E md) (rdE X.K E m) (rdA X.K E ma) σ H Q := by
  rintro σ H Q ⟨ρ, h, s, S, R, W⟩
  refine ⟨ρ, h, s, S, R, W.bind fun t h1 ρ1 H1 g S1 W1 => ?_⟩
  intro v rv
  obtain ⟨u, e, W2⟩ := Wg.rdH_ S1 W1
  have e1 : ∃ xs, wlstOf h1 t = some xs := by
    cases md <;> first | cases hm; done | (obtain ⟨xs, e1, _⟩ := Option.map_eq_some_iff.mp e; exact ⟨xs, e1⟩)
  obtain ⟨xs, e1⟩ := e1
  obtain ⟨l, vs, rfl, rfl, e3, e4, e5⟩ := wlst_of S1 rv e1
  refine ⟨.inl ⟨rfl, vs, SqL.of e4⟩, ρ1, h1, s, S1, R.grow S g, W2.bind fun ts h2 ρ2 H2 g2 S2 W3 => ?_⟩
  intro ws rw'
  exact ⟨ρ2, h2, _, ts, S2, rv.grow S1 g2, rw', W3⟩
theorem rd_bmD {md : BM} (hm : isDm md = true) : ∀ σ H Q, rdE X.K E (fun s => bnd (m s) fun x => bnd (rdH fun h => bmK md h x) fun _ => bnd (ma s) fun xs => bmF md x xs) σ H Q → tBM X.K "dict" (rMt X.K E md) (rdE X.K E m) (rdA X.K E ma) σ H Q := by
  rintro σ H Q ⟨ρ, h, s, S, R, W⟩
  refine ⟨ρ, h, s, S, R, W.bind fun t h1 ρ1 H1 g S1 W1 => ?_⟩
  intro v rv
  obtain ⟨u, e, W2⟩ := Wg.rdH_ S1 W1
  have e1 : ∃ o, dicAt h1 t = some o := by
    cases md <;> first | cases hm; done | (obtain ⟨o, e1, _⟩ := Option.map_eq_some_iff.mp e; exact ⟨o, e1⟩)
  obtain ⟨o, e1⟩ := e1
  have ty : tyV X.K "dict" v H1 := by
    cases rv with
    | @ref l hl =>
      unfold dicAt at e1
      dsimp only at e1
      cases e2 : h1[l]? with
      | none => rw [e2] at e1; cases e1
      | some o2 =>
        have so := S1.obj l o2 e2
        rw [e2] at e1
        dsimp only at e1
        cases o2 with
        | dK kvs =>
          obtain ⟨kv, _, q⟩ := so
          exact .inr (.inr (.inl ⟨rfl, .inl ⟨kv, q⟩⟩))
        | dT kvs =>
          obtain ⟨kv, _, q⟩ := so
          exact .inr (.inr (.inl ⟨rfl, .inr ⟨kv, q⟩⟩))
        | _ => cases e1
    | _ => cases e1
  refine ⟨ty, ρ1, h1, s, S1, R.grow S g, W2.bind fun ts h2 ρ2 H2 g2 S2 W3 => ?_⟩
  intro ws rw'
  exact ⟨ρ2, h2, _, ts, S2, rv.grow S1 g2, rw', W3⟩
theorem rd_bmD0 {md : BM} (hm : isDm md = true) : ∀ σ H Q, rdE X.K E (fun s => bnd (m s) fun x => bnd (rdH fun h => bmK md h x) fun _ => bnd (ret []) fun xs => bmF md x xs) σ H Q → tBM0 X.K "dict" (rMt X.K E md) (rdE X.K E m) σ H Q := by
  rintro σ H Q ⟨ρ, h, s, S, R, W⟩
  refine ⟨ρ, h, s, S, R, W.bind fun t h1 ρ1 H1 g S1 W1 => ?_⟩
  intro v rv
  obtain ⟨u, e, W2⟩ := Wg.rdH_ S1 W1
  have e1 : ∃ o, dicAt h1 t = some o := by
    cases md <;> first | cases hm; done | (obtain ⟨o, e1, _⟩ := Option.map_eq_some_iff.mp e; exact ⟨o, e1⟩)
  obtain ⟨o, e1⟩ := e1
  have ty : tyV X.K "dict" v H1 := by
    cases rv with
    | @ref l hl =>
      unfold dicAt at e1
      dsimp only at e1
      cases e2 : h1[l]? with
      | none => rw [e2] at e1; cases e1
      | some o2 =>
        have so := S1.obj l o2 e2
        rw [e2] at e1
        dsimp only at e1
        cases o2 with
        | dK kvs =>
          obtain ⟨kv, _, q⟩ := so
          exact .inr (.inr (.inl ⟨rfl, .inl ⟨kv, q⟩⟩))
        | dT kvs =>
          obtain ⟨kv, _, q⟩ := so
          exact .inr (.inr (.inl ⟨rfl, .inr ⟨kv, q⟩⟩))
        | _ => cases e1
    | _ => cases e1
  exact ⟨ty, ρ1, h1, _, [], S1, rv, .nil, W2⟩
theorem rd_bmS {md : BM} (hm : md = .sjoin ∨ md = .sstrip ∨ md = .supper ∨ md = .sindex) : ∀ σ H Q, rdE X.K E (fun s => bnd (m s) fun x => bnd (rdH fun h => bmK md h x) fun _ => bnd (ma s) fun xs => bmF md x xs) σ H Q → tBM X.K "str" (rMt X.K E md) (rdE X.K E m) (rdA X.K E ma) σ H Q := by
  rintro σ H Q ⟨ρ, h, s, S, R, W⟩
  refine ⟨ρ, h, s, S, R, W.bind fun t h1 ρ1 H1 g S1 W1 => ?_⟩
  intro v rv
  obtain ⟨u, e, W2⟩ := Wg.rdH_ S1 W1
  have ty : tyV X.K "str" v H1 := by
    cases rv with
    | str x => rfl
    | _ => rcases hm with rfl | rfl | rfl | rfl <;> cases e
  refine ⟨ty, ρ1, h1, s, S1, R.grow S g, W2.bind fun ts h2 ρ2 H2 g2 S2 W3 => ?_⟩
  intro ws rw'
  exact ⟨ρ2, h2, _, ts, S2, rv.grow S1 g2, rw', W3⟩
theorem rd_bmS0 {md : BM} (hm : md = .supper) : ∀ σ H Q, rdE X.K E (fun s => bnd (m s) fun x => bnd (rdH fun h => bmK md h x) fun _ => bnd (ret []) fun xs => bmF md x xs) σ H Q → tBM0 X.K "str" (rMt X.K E md) (rdE X.K E m) σ H Q := by
  subst hm
  rintro σ H Q ⟨ρ, h, s, S, R, W⟩
  refine ⟨ρ, h, s, S, R, W.bind fun t h1 ρ1 H1 g S1 W1 => ?_⟩
  intro v rv
  obtain ⟨u, e, W2⟩ := Wg.rdH_ S1 W1
  have ty : tyV X.K "str" v H1 := by
    cases rv with
    | str x => rfl
    | _ => cases e
  exact ⟨ty, ρ1, h1, _, [], S1, rv, .nil, W2⟩
/-! ### under a lock -/
theorem unlk_ok {α : Type} {l : Nat} {lk o : LO} {r : Res α} {K : PySem.W.Frag} {ρ : Nat → Addr} {h : LH} {H : Hp} {k : Kt α} (W : Wg K E ρ h H (unlk l lk o r) k) : ∃ a h', r = .ok a h' ∧ h'[l]? = some lk ∧ Wg K E ρ h H (.ok a (h'.set l o)) k := by
  cases r with
  | ok a h' =>
    have W' : Wg K E ρ h H (if h'[l]? = some lk then .ok a (h'.set l o) else .fail) k := W
    by_cases c : h'[l]? = some lk
    · rw [if_pos c] at W'
      exact ⟨a, h', rfl, c, W'⟩
    · rw [if_neg c] at W'; exact False.elim W'
  | exc e h' => exact False.elim W
  | fail => exact False.elim W
theorem lkOf_r {o lk : LO} (e : lkOf o = some lk) : isRol o = false ∧ isRol lk = true ∧ isR0 lk = false ∧ ∀ c fs, o ≠ .ins c fs := by
  cases o <;> first | (cases e; done) | (cases e; exact ⟨rfl, rfl, rfl, fun _ _ z => nomatch z⟩)
theorem tupK_lock {K : PySem.W.Frag} {H : Hp} {d : Addr} {u v : HO} (e : H d = some u) (m : ∀ vs, u ≠ .tup vs ∧ ∀ od, u ≠ .frz od (.tup vs)) : TupK K H (upd H d v) := ⟨fun a vs q => by
    rw [upd_ne (fun z => by rw [z, e] at q; exact (m vs).1 (Option.some.inj q))]; exact q, fun a vs q => by
    rcases q with (q | ⟨od, q⟩) | q
    · refine .inl (.inl ?_)
      rw [upd_ne (fun z => by rw [z, e] at q; exact (m vs).1 (Option.some.inj q))]; exact q
    · refine .inl (.inr ⟨od, ?_⟩)
      rw [upd_ne (fun z => by rw [z, e] at q; exact (m vs).2 od (Option.some.inj q))]; exact q
    · exact .inr q⟩
/-- the lock of a run -/
theorem lock_of {α : Type} {K : PySem.W.Frag} {mm : M T} {r : M α} {ρ : Nat → Addr} {h : LH} {H : Hp} {k : Kt α} (S : Sim K ρ h H) (W : Wg K E ρ h H (lockM mm r h) k) :
    ∃ d u, H d = some u ∧ Mut (some u) ∧ ∀ od, ∃ hL, Sim K ρ hL (upd H d (.frz od u)) ∧ hL.length = h.length ∧ TupK K H (upd H d (.frz od u)) ∧
      ∃ a h', r hL = .ok a h' ∧ ∀ ρ' H', Grow hL ρ (upd H d (.frz od u)) h' ρ' H' → Sim K ρ' h' H' → H' d = some (.frz od u) ∧ ∃ h3, h3.length = h'.length ∧ TupK K H' (upd H' d u) ∧ k ρ' h3 (upd H' d u) a := by
  unfold lockM at W
  cases em : mm h with
  | exc e h1 => rw [em] at W; exact False.elim W
  | fail => rw [em] at W; exact False.elim W
  | ok t h1 =>
    rw [em] at W
    cases t with
    | ref l =>
      dsimp only at W
      cases ho : h[l]? with
      | none => rw [ho] at W; exact False.elim W
      | some o =>
        rw [ho] at W
        dsimp only at W
        cases hk : lkOf o with
        | none => rw [hk] at W; exact False.elim W
        | some lk =>
          rw [hk] at W
          dsimp only at W
          obtain ⟨a, h', er, el, W'⟩ := unlk_ok W
          obtain ⟨nr, nr1, n0, nc⟩ := lkOf_r hk
          have so := S.obj l o ho
          -- the two kinds
          have two : ∃ u, H (ρ l) = some u ∧ Mut (some u) ∧ mutHO u = true ∧ (∀ vs, u ≠ .tup vs ∧ ∀ od, u ≠ .frz od (.tup vs)) ∧ (∀ od vs, HO.frz od u ≠ .frz od (.tup vs) ∧ HO.frz od u ≠ .frz od (.lst vs)) ∧
              (∀ ρ2 n H1 H2 od, OR K ρ2 n H1 o (ρ l) → H1 (ρ l) = some u → TupK K H1 H2 → H2 (ρ l) = some (.frz od u) → OR K ρ2 n H2 lk (ρ l)) ∧
              (∀ ρ2 n H1 H2 od, OR K ρ2 n H1 lk (ρ l) → H1 (ρ l) = some (.frz od u) → TupK K H1 H2 → H2 (ρ l) = some u → OR K ρ2 n H2 o (ρ l)) := by
            cases o with
            | dK kvs =>
              cases hk
              obtain ⟨kv, p, q⟩ := so
              refine ⟨_, q, trivial, rfl, fun vs => ⟨(fun z => nomatch z), fun od z => nomatch z⟩, fun od vs => ⟨(fun z => by cases z), fun z => by cases z⟩, fun ρ2 n H1 H2 od r e1 tk e2 => ?_, fun ρ2 n H1 H2 od r e1 tk e2 => ?_⟩
              · obtain ⟨kv2, p2, q2⟩ := r
                rw [e1] at q2; cases q2
                exact ⟨kv, od, p2.mono (fun _ _ => rfl) (Nat.le_refl _) tk, e2⟩
              · obtain ⟨kv2, od2, p2, q2⟩ := r
                rw [e1] at q2; cases q2
                exact ⟨kv, p2.mono (fun _ _ => rfl) (Nat.le_refl _) tk, e2⟩
            | dT kvs =>
              cases hk
              obtain ⟨kv, p, q⟩ := so
              refine ⟨_, q, trivial, rfl, fun vs => ⟨(fun z => nomatch z), fun od z => nomatch z⟩, fun od vs => ⟨(fun z => by cases z), fun z => by cases z⟩, fun ρ2 n H1 H2 od r e1 tk e2 => ?_, fun ρ2 n H1 H2 od r e1 tk e2 => ?_⟩
              · obtain ⟨kv2, p2, q2⟩ := r
                rw [e1] at q2; cases q2
                exact ⟨kv, od, p2.mono (fun _ _ => rfl) (Nat.le_refl _) tk, e2⟩
              · obtain ⟨kv2, od2, p2, q2⟩ := r
                rw [e1] at q2; cases q2
                exact ⟨kv, p2.mono (fun _ _ => rfl) (Nat.le_refl _) tk, e2⟩
            | _ => cases hk
          obtain ⟨u, eu, mu, m0, mt, mf, toL, toO⟩ := two
          refine ⟨ρ l, u, eu, mu, fun od => ?_⟩
          have tL : TupK K H (upd H (ρ l) (.frz od u)) := tupK_lock eu mt
          have SL : Sim K ρ (h.set l lk) (upd H (ρ l) (.frz od u)) := S.lock ho nr nr1 n0 eu m0 (toL _ _ _ _ od so eu tL upd_same)
          refine ⟨h.set l lk, SL, List.length_set .., tL, a, h', er, fun ρ' H' g S' => ?_⟩
          have fz : H' (ρ l) = some (.frz od u) := g.frz SL _ _ _ upd_same
          have eq : ρ' l = ρ l := g.eq l (by rw [List.length_set]; exact lt_of_get ho)
          have tU : TupK K H' (upd H' (ρ l) u) := tupK_lock fz fun vs => ⟨(fun z => nomatch z), fun od2 z => (mf od vs).1 (by cases z; rfl)⟩
          refine ⟨fz, h'.set l o, List.length_set .., tU, ?_⟩
          have so' := S'.obj l lk el
          rw [eq] at so'
          have SU : Sim K ρ' (h'.set l o) (upd H' (ρ' l) u) := S'.unlock el n0 nr (by rw [eq]; exact fz) mf (by rw [eq]; exact toO _ _ _ _ od so' fz tU upd_same)
          have gU := Grow.unlock S ho nr nc nr1 eu g el
          rw [eq] at SU gU
          exact W' ρ' _ gU SU
    | _ => exact False.elim W
theorem SR.tk {K : PySem.W.Frag} {ρ : Nat → Addr} {n n' : Nat} {H H' : Hp} {s : En} {σ : St} (R : SR K ρ n H s σ) (hn : n ≤ n') (tk : TupK K H H') : SR K ρ n' H' s σ := ⟨R.1, fun i t e => by
  obtain ⟨v, e1, r⟩ := R.2 i t e
  exact ⟨v, e1, r.mono (fun _ _ => rfl) hn tk⟩⟩
theorem rd_lockE {me : En → M T} : ∀ σ H Q, rdE X.K E (fun s => lockM (m s) (me s)) σ H Q → tLockE (rdE X.K E me) σ H Q := by
  rintro σ H Q ⟨ρ, h, s, S, R, W⟩
  obtain ⟨d, u, e1, mu, q⟩ := lock_of S W
  refine ⟨d, u, e1, mu, fun od => ?_⟩
  obtain ⟨hL, SL, hl, tL, a, h', er, fin⟩ := q od
  refine ⟨ρ, hL, s, SL, R.tk (by omega) tL, ?_⟩
  rw [er]
  intro ρ' H' g S' v rv
  obtain ⟨fz, h3, l3, t3, k3⟩ := fin ρ' H' g S'
  exact ⟨fz, k3 v (rv.mono (fun _ _ => rfl) (by omega) t3)⟩
theorem rd_lockS {ms : En → M Fl} : ∀ D σ H, rdS X.K E (fun s => lockM (m s) (ms s)) D σ H → tLock (rdS X.K E ms) D σ H := by
  rintro D σ H ⟨ρ, h, s, S, R, W⟩
  obtain ⟨d, u, e1, mu, q⟩ := lock_of S W
  refine ⟨d, u, e1, mu, fun od => ?_⟩
  obtain ⟨hL, SL, hl, tL, a, h', er, fin⟩ := q od
  refine ⟨ρ, hL, s, SL, R.tk (by omega) tL, ?_⟩
  rw [er]
  intro ρ' H' g S'
  obtain ⟨fz, h3, l3, t3, k3⟩ := fin ρ' H' g S'
  cases a with
  | nx s2 => exact fun σ2 R2 => ⟨fz, k3 σ2 (R2.tk (by omega) t3)⟩
  | rt v => exact fun v2 r2 => ⟨fz, k3 v2 (r2.mono (fun _ _ => rfl) (by omega) t3)⟩
  | bk s2 => exact fun σ2 R2 => ⟨fz, k3 σ2 (R2.tk (by omega) t3)⟩
  | ct s2 => exact fun σ2 R2 => ⟨fz, k3 σ2 (R2.tk (by omega) t3)⟩
/-! ### statements -/
theorem rs_nx : ∀ D σ H, rdS X.K E (fun s => ret (.nx s)) D σ H → tNext D σ H := by
  rintro D σ H ⟨ρ, h, s, S, R, W⟩
  exact Wg.ret_ S W σ R
theorem rs_bk : ∀ D σ H, rdS X.K E (fun s => ret (.bk s)) D σ H → tBreak D σ H := by
  rintro D σ H ⟨ρ, h, s, S, R, W⟩
  exact Wg.ret_ S W σ R
theorem rs_ct : ∀ D σ H, rdS X.K E (fun s => ret (.ct s)) D σ H → tCont D σ H := by
  rintro D σ H ⟨ρ, h, s, S, R, W⟩
  exact Wg.ret_ S W σ R
theorem rs_ret0 : ∀ D σ H, rdS X.K E (fun _ => ret (.rt .non)) D σ H → tRetN D σ H := by
  rintro D σ H ⟨ρ, h, s, S, R, W⟩
  exact Wg.ret_ S W _ .non
theorem rs_ret : ∀ D σ H, rdS X.K E (fun s => bnd (m s) fun v => ret (.rt v)) D σ H → tRet (rdE X.K E m) D σ H := by
  rintro D σ H ⟨ρ, h, s, S, R, W⟩
  exact ⟨ρ, h, s, S, R, W.bind fun t h1 ρ1 H1 g S1 W1 => Wg.ret_ (E := E) (k := qS X.K D) (a := Fl.rt t) S1 W1⟩
theorem rs_expr : ∀ D σ H, rdS X.K E (fun s => bnd (m s) fun _ => ret (.nx s)) D σ H → tDrop (rdE X.K E m) D σ H := by
  rintro D σ H ⟨ρ, h, s, S, R, W⟩
  exact ⟨ρ, h, s, S, R, W.bind fun t h1 ρ1 H1 g S1 W1 => fun v _ => Wg.ret_ S1 W1 σ (R.grow S g)⟩
theorem rs_if : ∀ D σ H, rdS X.K E (fun s => bnd (mb s) fun k => if k = true then ms s else ms2 s) D σ H → tIfS (rdT X.K E mb) (rdS X.K E ms) (rdS X.K E ms2) D σ H := by
  rintro D σ H ⟨ρ, h, s, S, R, W⟩
  refine ⟨ρ, h, s, S, R, W.bind fun k h1 ρ1 H1 g S1 W1 => ?_⟩
  show if k = true then _ else _
  by_cases c : k = true
  · rw [if_pos c] at W1
    rw [if_pos c]
    exact ⟨ρ1, h1, s, S1, R.grow S g, W1⟩
  · rw [if_neg c] at W1
    rw [if_neg c]
    exact ⟨ρ1, h1, s, S1, R.grow S g, W1⟩
theorem rs_seq : ∀ D σ H, rdS X.K E (fun s => bnd (ms s) fun f => match f with
    | .nx s' => ms2 s'
    | f => ret f) D σ H → tSeq (rdS X.K E ms) (rdS X.K E ms2) D σ H := by
  rintro D σ H ⟨ρ, h, s, S, R, W⟩
  refine ⟨ρ, h, s, S, R, W.bind fun f h1 ρ1 H1 g S1 W1 => ?_⟩
  cases f with
  | nx s' => exact fun σ' R' => ⟨ρ1, h1, s', S1, R', W1⟩
  | rt v => exact Wg.ret_ (E := E) (k := qS X.K D) (a := Fl.rt v) S1 W1
  | bk s' => exact Wg.ret_ (E := E) (k := qS X.K D) (a := Fl.bk s') S1 W1
  | ct s' => exact Wg.ret_ (E := E) (k := qS X.K D) (a := Fl.ct s') S1 W1
theorem rs_asgG {g : G} : ∀ D σ H, rdS X.K E (fun s => bnd (m s) fun v => bnd (opt (asgG g v s)) fun s' => ret (.nx s')) D σ H → tAsg (rdE X.K E m) (gOf X.K g) D σ H := by
  rintro D σ H ⟨ρ, h, s, S, R, W⟩
  refine ⟨ρ, h, s, S, R, W.bind fun t h1 ρ1 H1 g1 S1 W1 => ?_⟩
  intro v rv
  have W2 : ∃ s', asgG g t s = some s' ∧ Wg X.K E ρ1 h1 H1 (ret (Fl.nx s') h1) (qS X.K D) := by
    unfold bnd opt at W1
    cases e : asgG g t s with
    | none => rw [e] at W1; exact False.elim W1
    | some s' => rw [e] at W1; exact ⟨s', rfl, W1⟩
  obtain ⟨s', e, W2⟩ := W2
  exact rd_g g e rv (R.grow S g1) fun σ' R' _ => Wg.ret_ S1 W2 σ' R'
theorem rs_asgM {m0 : GM} : ∀ D σ H, rdS X.K E (fun s => bnd (m s) fun v => bnd (asgM m0 v s) fun s' => ret (.nx s')) D σ H → tAsg (rdE X.K E m) (gmOf X.K m0) D σ H := by
  rintro D σ H ⟨ρ, h, s, S, R, W⟩
  refine ⟨ρ, h, s, S, R, W.bind fun t h1 ρ1 H1 g1 S1 W1 => ?_⟩
  intro v rv
  exact rd_gm (E := E) m0 S1 (R.grow S g1) rv (W1.bind fun s' h2 ρ2 H2 g2 S2 W2 σ' R' => Wg.ret_ S2 W2 σ' R')
theorem rs_asgF {okF : Str → Str → Bool} {f : Str} (hok : ∀ c f, okF c f = true → NoAttr X.K (He.ga X.K c) f) : ∀ D σ H, rdS X.K E (fun s => bnd (m s) fun v => bnd (bnd (m2 s) fun x => bnd (setFld okF x f v) fun _ => ret s) fun s' => ret (.nx s')) D σ H → sFld X.K (rdE X.K E m2) (rdE X.K E m) f D σ H := by
  rintro D σ H ⟨ρ, h, s, S, R, W⟩
  refine ⟨ρ, h, s, S, R, W.bind fun t h1 ρ1 H1 g1 S1 W1 => ?_⟩
  intro v rv
  have W2 : Wg X.K E ρ1 h1 H1 (bnd (m2 s) (fun x => bnd (setFld okF x f t) fun _ => ret (Fl.nx s)) h1) (qS X.K D) := by
    have e : ∀ h, bnd (bnd (m2 s) fun x => bnd (setFld okF x f t) fun _ => ret s) (fun s' => ret (Fl.nx s')) h = bnd (m2 s) (fun x => bnd (setFld okF x f t) fun _ => ret (Fl.nx s)) h := fun h => by
      unfold bnd
      cases m2 s h with
      | ok a h' =>
        dsimp only
        cases setFld okF a f t h' <;> rfl
      | exc _ _ => rfl
      | fail => rfl
    rw [← e]; exact W1
  refine ⟨ρ1, h1, s, S1, R.grow S g1, W2.bind fun u h2 ρ2 H2 g2 S2 W3 => ?_⟩
  intro w rw'
  have W4 : Wg X.K E ρ2 h2 H2 (setFld okF u f t h2) (fun ρ' h' H' _ => SR X.K ρ' h'.length H' s σ → D.nx σ H') := W3.bind fun _ h3 ρ3 H3 g3 S3 W5 => fun R3 => Wg.ret_ S3 W5 σ R3
  obtain ⟨a, c, dx, fs, e1, e2, e3, e4, e5, h', S', g', q⟩ := set_fld hok S2 rw' (rv.grow S1 g2) W4
  exact ⟨a, _, dx, fs, e1, e2, e3, e4, e5, q ((((R.grow S g1).grow S1 g2).grow S2 g'))⟩
theorem rs_asgI : ∀ D σ H, rdS X.K E (fun s => bnd (m s) fun v => bnd (bnd (m1 s) fun x => bnd (m2 s) fun y => bnd (setIx x y v) fun _ => ret s) fun s' => ret (.nx s')) D σ H → tAsg (rdE X.K E m) (gSub (rdE X.K E m1) (rdE X.K E m2) (rSetM X.K E)) D σ H := by
  rintro D σ H ⟨ρ, h, s, S, R, W⟩
  refine ⟨ρ, h, s, S, R, W.bind fun t h1 ρ1 H1 g1 S1 W1 => ?_⟩
  intro v rv
  have W2 : Wg X.K E ρ1 h1 H1 (bnd (m1 s) (fun x => bnd (m2 s) fun y => bnd (setIx x y t) fun _ => ret (Fl.nx s)) h1) (qS X.K D) := by
    have e : ∀ h, bnd (bnd (m1 s) fun x => bnd (m2 s) fun y => bnd (setIx x y t) fun _ => ret s) (fun s' => ret (Fl.nx s')) h = bnd (m1 s) (fun x => bnd (m2 s) fun y => bnd (setIx x y t) fun _ => ret (Fl.nx s)) h := fun h => by
      unfold bnd
      cases m1 s h with
      | ok a h' =>
        dsimp only
        cases m2 s h' with
        | ok b h'' =>
          dsimp only
          cases setIx a b t h'' <;> rfl
        | exc _ _ => rfl
        | fail => rfl
      | exc _ _ => rfl
      | fail => rfl
    rw [← e]; exact W1
  refine ⟨ρ1, h1, s, S1, R.grow S g1, W2.bind fun u h2 ρ2 H2 g2 S2 W3 => ?_⟩
  intro w rw'
  refine ⟨ρ2, h2, s, S2, (R.grow S g1).grow S1 g2, W3.bind fun z h3 ρ3 H3 g3 S3 W4 => ?_⟩
  intro y ry
  exact ⟨ρ3, h3, u, z, t, S3, rw'.grow S2 g3, ry, (rv.grow S1 g2).grow S2 g3, W4.bind fun _ h4 ρ4 H4 g4 S4 W5 => Wg.ret_ S4 W5 σ ((((R.grow S g1).grow S1 g2).grow S2 g3).grow S3 g4)⟩
/-- two, three plain names -/
theorem rs_par2 {i j : Nat} : ∀ D σ H, rdS X.K E (fun s => bnd (bnd (ma s) fun xs => if xs.length ≤ big then ret (T.tup xs) else fl) fun v => bnd (opt (asgG (.tup (.cons (.name i) (.cons (.name j) .nil))) v s)) fun s' => ret (.nx s')) D σ H → tPar i j (rdA X.K E ma) D σ H := by
  rintro D σ H ⟨ρ, h, s, S, R, W⟩
  have e : ∀ h, bnd (bnd (ma s) fun xs => if xs.length ≤ big then ret (T.tup xs) else fl) (fun v => bnd (opt (asgG (.tup (.cons (.name i) (.cons (.name j) .nil))) v s)) fun s' => ret (Fl.nx s')) h = bnd (ma s) (fun xs => if xs.length ≤ big then bnd (opt (asgG (.tup (.cons (.name i) (.cons (.name j) .nil))) (T.tup xs) s)) fun s' => ret (Fl.nx s') else fl) h := fun h => by
    unfold bnd
    cases ma s h with
    | ok a h' =>
      dsimp only
      by_cases c : a.length ≤ big
      · rw [if_pos c, if_pos c]; rfl
      · rw [if_neg c, if_neg c]; rfl
    | exc _ _ => rfl
    | fail => rfl
  have W := (e h) ▸ (show Wg X.K E ρ h H (bnd _ _ h) (qS X.K D) from W)
  refine ⟨ρ, h, s, S, R, W.bind fun ts h1 ρ1 H1 g1 S1 W1 => ?_⟩
  intro vs rv
  by_cases c : ts.length ≤ big
  · rw [if_pos c] at W1
    cases rv with
    | nil => exact False.elim W1
    | cons a r =>
      cases r with
      | nil => exact False.elim W1
      | cons b r =>
        cases r with
        | nil => exact ⟨_, _, rfl, Wg.ret_ (a := Fl.nx ((s.set i (some _)).set j (some _))) S1 W1 _ (((R.grow S g1).set a).set b)⟩
        | cons _ _ => exact False.elim W1
  · rw [if_neg c] at W1; exact False.elim W1
theorem rs_par3 {i j l : Nat} : ∀ D σ H, rdS X.K E (fun s => bnd (bnd (ma s) fun xs => if xs.length ≤ big then ret (T.tup xs) else fl) fun v => bnd (opt (asgG (.tup (.cons (.name i) (.cons (.name j) (.cons (.name l) .nil)))) v s)) fun s' => ret (.nx s')) D σ H → tPar3 i j l (rdA X.K E ma) D σ H := by
  rintro D σ H ⟨ρ, h, s, S, R, W⟩
  have e : ∀ h, bnd (bnd (ma s) fun xs => if xs.length ≤ big then ret (T.tup xs) else fl) (fun v => bnd (opt (asgG (.tup (.cons (.name i) (.cons (.name j) (.cons (.name l) .nil)))) v s)) fun s' => ret (Fl.nx s')) h = bnd (ma s) (fun xs => if xs.length ≤ big then bnd (opt (asgG (.tup (.cons (.name i) (.cons (.name j) (.cons (.name l) .nil)))) (T.tup xs) s)) fun s' => ret (Fl.nx s') else fl) h := fun h => by
    unfold bnd
    cases ma s h with
    | ok a h' =>
      dsimp only
      by_cases c : a.length ≤ big
      · rw [if_pos c, if_pos c]; rfl
      · rw [if_neg c, if_neg c]; rfl
    | exc _ _ => rfl
    | fail => rfl
  have W := (e h) ▸ (show Wg X.K E ρ h H (bnd _ _ h) (qS X.K D) from W)
  refine ⟨ρ, h, s, S, R, W.bind fun ts h1 ρ1 H1 g1 S1 W1 => ?_⟩
  intro vs rv
  by_cases c : ts.length ≤ big
  · rw [if_pos c] at W1
    cases rv with
    | nil => exact False.elim W1
    | cons a r =>
      cases r with
      | nil => exact False.elim W1
      | cons b r =>
        cases r with
        | nil => exact False.elim W1
        | cons d r =>
          cases r with
          | nil => exact ⟨_, _, _, rfl, Wg.ret_ (a := Fl.nx (((s.set i (some _)).set j (some _)).set l (some _))) S1 W1 _ ((((R.grow S g1).set a).set b).set d)⟩
          | cons _ _ => exact False.elim W1
  · rw [if_neg c] at W1; exact False.elim W1
end
end Y
namespace Y
open PySem PySem.Spec L2
section
variable {X : Cx} {E : XK} {m m1 : En → M T}
def augI : Operator → Option (Int → Int → Int)
  | .Add => some fun i j => i + j
  | .Sub => some fun i j => i - j
  | _ => none
theorem augI_of {o : Operator} {f : Int → Int → Int} {i j : Int} (e : augI o = some f) : binI o i j = some (.int (f i j)) := by
  cases o <;> cases e <;> rfl
theorem rs_aug {i : Nat} {o : Operator} {f : Int → Int → Int} (ho : augI o = some f) : ∀ D σ H, rdS X.K E (fun s => bnd (getV s i) fun x => bnd (m s) fun y => bnd (match x, y with
    | .int _, .int _ => binOp o x y
    | _, _ => fl) fun z => ret (.nx (s.set i (some z)))) D σ H → tAug i (rdE X.K E m) (ipI f) D σ H := by
  rintro D σ H ⟨ρ, h, s, S, R, W⟩
  have W1 : ∃ x, s[i]? = some (some x) ∧ Wg X.K E ρ h H (bnd (m s) (fun y => bnd (match x, y with
    | .int _, .int _ => binOp o x y
    | _, _ => fl) fun z => ret (Fl.nx (s.set i (some z)))) h) (qS X.K D) := by
    unfold bnd getV opt at W
    cases e : (s[i]?).bind id with
    | none => dsimp only at W; rw [e] at W; exact False.elim W
    | some x =>
      dsimp only at W
      rw [e] at W
      obtain ⟨o', e1, e2⟩ := Option.bind_eq_some_iff.mp e
      exact ⟨x, by rw [e1]; exact congrArg some e2, W⟩
  obtain ⟨x, ex, W2⟩ := W1
  obtain ⟨v, ev, rv⟩ := R.2 i x ex
  refine ⟨v, ev, ρ, h, s, S, R, W2.bind fun t h1 ρ1 H1 g S1 W3 => ?_⟩
  intro w rw'
  cases rv with
  | int a =>
    cases rw' with
    | int b =>
      dsimp only at W3
      have e : binOp o (.int a) (.int b) h1 = .ok (.int (f a b)) h1 := by
        show opt (binI o a b) h1 = _
        rw [augI_of ho]; rfl
      unfold bnd at W3
      rw [e] at W3
      exact ⟨a, b, rfl, rfl, Wg.ret_ (a := Fl.nx (s.set i (some (.int (f a b))))) S1 W3 _ ((R.grow S g).set (.int _))⟩
    | _ => exact False.elim W3
  | _ => exact False.elim W3
def rI2 (f : Int → Int → Int) : V → V → Hp → VK → Prop := fun x y H Q => ∃ i j, x = .int i ∧ y = .int j ∧ Q (.int (f i j)) H
theorem inI {o : Operator} {f : Int → Int → Int} (ho : augI o = some f) : InOp X o (rI2 f) := by
  cases o <;> cases ho
  · exact in_add
  · exact in_sub
theorem ipI_of {o : Operator} {f : Int → Int → Int} (ho : augI o = some f) : PIp X o (ipI f) := by
  cases o <;> cases ho
  · exact ip_add
  · exact ip_sub
theorem rs_augF {okF : Str → Str → Bool} {o : Operator} {f : Int → Int → Int} {fd : Str} (ho : augI o = some f) (hok : ∀ c f, okF c f = true → NoAttr X.K (He.ga X.K c) f) : ∀ D σ H, rdS X.K E (fun s => bnd (m1 s) fun x => bnd (fldT x fd) fun v => bnd (m s) fun y => bnd (match v, y with
    | .int _, .int _ => binOp o v y
    | _, _ => fl) fun z => bnd (setFld okF x fd z) fun _ => ret (.nx s)) D σ H → sFldAug X.K (rdE X.K E m1) (rdE X.K E m) (rI2 f) fd D σ H := by
  rintro D σ H ⟨ρ, h, s, S, R, W⟩
  refine ⟨ρ, h, s, S, R, W.bind fun t h1 ρ1 H1 g S1 W1 => ?_⟩
  intro v rv
  obtain ⟨z, e, W2⟩ := Wg.rdH_ S1 W1
  cases rv with
  | @ref l hl =>
    dsimp only at e
    cases ho1 : h1[l]? with
    | none => rw [ho1] at e; cases e
    | some ob =>
      rw [ho1] at e
      cases ob with
      | ins c fs =>
        obtain ⟨dx, fv, p, ea, hc, hn⟩ := S1.obj l _ ho1
        obtain ⟨m1', w, e2, r2⟩ := getF_of p e
        refine ⟨_, _, dx, fv, w, rfl, ea, hc, hn _ m1', e2, ρ1, h1, s, S1, R.grow S g, W2.bind fun u h2 ρ2 H2 g2 S2 W3 => ?_⟩
        intro y ry
        cases r2 with
        | int a =>
          cases ry with
          | int b =>
            dsimp only at W3
            have eb : binOp o (.int a) (.int b) h2 = .ok (.int (f a b)) h2 := by
              show opt (binI o a b) h2 = _
              rw [augI_of ho]; rfl
            have W4 : Wg X.K E ρ2 h2 H2 (bnd (setFld okF (.ref l) fd (.int (f a b))) (fun _ => ret (Fl.nx s)) h2) (qS X.K D) := by
              have e : bnd (binOp o (.int a) (.int b)) (fun z => bnd (setFld okF (.ref l) fd z) fun _ => ret (Fl.nx s)) h2 = bnd (setFld okF (.ref l) fd (.int (f a b))) (fun _ => ret (Fl.nx s)) h2 := by
                unfold bnd
                rw [eb]
              rw [← e]; exact W3
            have W5 : Wg X.K E ρ2 h2 H2 (setFld okF (.ref l) fd (.int (f a b)) h2) (fun ρ' h' H' _ => SR X.K ρ' h'.length H' s σ → D.nx σ H') := W4.bind fun _ h3 ρ3 H3 g3 S3 W5 => fun R3 => Wg.ret_ (a := Fl.nx s) S3 W5 σ R3
            have hl2 : l < h2.length := Nat.lt_of_lt_of_le hl g2.le
            obtain ⟨a', c', dx', fs', e1, e2', e3, e4, e5, h', S', g', q⟩ := set_fld hok S2 (VR.ref hl2) (VR.int (f a b)) W5
            cases e1
            obtain ⟨fs2, ef⟩ := g2.cl l c fs ho1
            obtain ⟨dx2, fv2, _, ea2, _⟩ := S2.obj l _ ef
            rw [ea2] at e2'
            have z := Option.some.inj e2'
            injection z with z1 z2 z3
            subst z2 z3
            rw [← g2.eq l hl]
            rw [← z1] at q
            exact ⟨a, b, rfl, rfl, dx2, fv2, ea2, e5, by rw [← z1] at g'; exact q (((R.grow S g).grow S1 g2).grow S2 g')⟩
          | _ => exact False.elim W3
        | _ => exact False.elim W3
      | _ => cases e
  | _ => cases e
end
end Y

/-! L3k: the check that a core text is a def's text. -/
namespace Y
open PySem PySem.Spec L2
def plainX : Expr → Bool
  | .Starred .. => false
  | _ => true
theorem star_cons {e : Expr} {es : List Expr} {env : Env} (h : plainX e = true) : starEach (e :: es) env = (false, eval e env) :: starEach es env := by
  cases e <;> first | rfl | cases h
theorem star_any {pos : Pos} {env : Env} : ∀ {es : List Expr}, es.all plainX = true → (backTo pos (starEach es env)).any (·.1) = false
  | [], _ => rfl
  | e :: es, h => by
    rw [List.all_cons, Bool.and_eq_true] at h
    rw [star_cons h.1]
    show (false || (backTo pos (starEach es env)).any (·.1)) = false
    rw [star_any h.2]; rfl
theorem star_all {pos : Pos} {env : Env} : ∀ {es : List Expr}, es.all plainX = true → (backTo pos (starEach es env)).all (fun x => !x.1) = true
  | [], _ => rfl
  | e :: es, h => by
    rw [List.all_cons, Bool.and_eq_true] at h
    rw [star_cons h.1]
    show (true && (backTo pos (starEach es env)).all (fun x => !x.1)) = true
    rw [star_all h.2]; rfl
theorem asg_cons {e : Expr} {es : List Expr} {env : Env} (h : plainX e = true) : assignEach (e :: es) env = (false, assign e env) :: assignEach es env := by
  cases e <;> first | rfl | cases h
theorem asg_len {env : Env} : ∀ {es : List Expr}, es.all plainX = true → (assignEach es env).length = es.length
  | [], _ => rfl
  | e :: es, h => by
    rw [List.all_cons, Bool.and_eq_true] at h
    rw [asg_cons h.1, List.length_cons, List.length_cons, asg_len h.2]
theorem asg_find {env : Env} : ∀ {es : List Expr}, es.all plainX = true → (assignEach es env).findIdx? (·.1) = none
  | [], _ => rfl
  | e :: es, h => by
    rw [List.all_cons, Bool.and_eq_true] at h
    rw [asg_cons h.1, List.findIdx?_cons, asg_find h.2]
    rfl
def baseOk : Expr → Bool
  | .Call (.Name _ _) [] [] _ => false
  | _ => true
theorem base_of {o : Expr} {f : Str} {env : Env} {w : Sem Value} (h : baseOk o = true) : attributeBase o f env w = w := by
  unfold attributeBase
  split
  · cases h
  · rfl
def noSlice : Expr → Bool
  | .Slice .. => false
  | _ => true
theorem plainIx_of {i : Expr} (h : noSlice i = true) : PlainIx i := fun o v => by
  cases i <;> first | rfl | cases h
def notSet : Expr → Bool
  | .Set .. => false
  | _ => true
theorem folded_of {e : Expr} {env : Env} (h : notSet e = true) : ∀ x, foldedSetIterable e env x = pure x := fun x => by
  cases e <;> first | rfl | cases h
def noComp : Expr → Bool
  | .ListComp .. => false
  | .SetComp .. => false
  | .DictComp .. => false
  | _ => true
theorem swaps_of {e : Expr} {t : Option Expr} {l : Nat} {env : Env} (h : noComp e = true) : swapsWith e t l env = pure false := by
  cases e <;> first | rfl | cases h
theorem swaps_attr {e o : Expr} {f : Str} {p : Pos} {l : Nat} {env : Env} : swapsWith e (some (.Attribute o f p)) l env = pure false := by
  cases e <;> rfl
theorem swaps_sub {e o i : Expr} {p : Pos} {l : Nat} {env : Env} : swapsWith e (some (.Subscript o i p)) l env = pure false := by
  cases e <;> rfl
theorem swaps_tup {e : Expr} {ts : List Expr} {k : Nat} {p : Pos} {l : Nat} {env : Env} : swapsWith e (some (.Tuple ts k p)) l env = pure false := by
  cases e <;> rfl
def isTup : Expr → Bool
  | .Tuple .. => true
  | _ => false
theorem swapped_of {e : Expr} {ts : List Expr} {k : Nat} {p : Pos} {env : Env} (h : isTup e = false) : swappedStores [.Tuple ts k p] e env = pure none := by
  cases e <;> first | rfl | cases h
theorem swapped_sub {e o i : Expr} {p : Pos} {env : Env} : swappedStores [.Subscript o i p] e env = pure none := by
  cases e <;> rfl
def isStar : Expr → Bool
  | .Starred .. => true
  | _ => false
def locNm (sc : Scope) (line : Nat) : Expr → Option Str
  | .Name id pos => if sc.names.lookup id == some .local && pos.line == line then some id else none
  | _ => none
def swR (sc : Scope) (ts vs : List Expr) : Option (Option (List Str)) :=
  if (!(ts.length == 2 || ts.length == 3) || vs.length != ts.length) = true then some none
  else if vs.any isStar = true then some none
  else
    let names := ts.filterMap (locNm sc ((ts.head?.map (·.pos.line)).getD 0))
    if (names.length != ts.length || names.eraseDups.length != names.length) = true then some none
    else if vs.all (foldedForSure 8) = true then some none
    else if vs.all (constantsAlone 8) = true then none
    else some (some names)
theorem swapped_tup {sc : Scope} {ts vs : List Expr} {k k2 : Nat} {p p2 : Pos} {env : Env} {r : Option (List Str)} (hs : env.scope = sc) (hk : sc.kind = .function) (h : swR sc ts vs = some r) : swappedStores [.Tuple ts k p] (.Tuple vs k2 p2) env = pure r := by
  subst hs
  have hb : (env.blockKind != .function) = false := by
    unfold Env.blockKind
    rw [hk]; rfl
  unfold swR at h
  unfold swappedStores
  simp only [hb, Bool.or_false]
  show (if (!(ts.length == 2 || ts.length == 3) || vs.length != ts.length) = true then pure none
    else if vs.any isStar = true then pure none
    else if ((ts.filterMap (locNm env.scope ((ts.head?.map (·.pos.line)).getD 0))).length != ts.length || (ts.filterMap (locNm env.scope ((ts.head?.map (·.pos.line)).getD 0))).eraseDups.length != (ts.filterMap (locNm env.scope ((ts.head?.map (·.pos.line)).getD 0))).length) = true then pure none
    else if vs.all (foldedForSure 8) = true then pure none
    else if vs.all (constantsAlone 8) = true then _ else pure (some (ts.filterMap (locNm env.scope ((ts.head?.map (·.pos.line)).getD 0))))) = pure r
  by_cases c1 : (!(ts.length == 2 || ts.length == 3) || vs.length != ts.length) = true
  · rw [if_pos c1] at h ⊢
    cases h; rfl
  · rw [if_neg c1] at h ⊢
    by_cases c2 : vs.any isStar = true
    · rw [if_pos c2] at h ⊢
      cases h; rfl
    · rw [if_neg c2] at h ⊢
      dsimp only at h
      generalize ts.filterMap (locNm env.scope ((ts.head?.map (·.pos.line)).getD 0)) = nm at h ⊢
      by_cases c3 : (nm.length != ts.length || nm.eraseDups.length != nm.length) = true
      · rw [if_pos c3] at h ⊢
        cases h; rfl
      · rw [if_neg c3] at h ⊢
        by_cases c4 : vs.all (foldedForSure 8) = true
        · rw [if_pos c4] at h ⊢
          cases h; rfl
        · rw [if_neg c4] at h ⊢
          by_cases c5 : vs.all (constantsAlone 8) = true
          · rw [if_pos c5] at h; cases h
          · rw [if_neg c5] at h ⊢
            cases h; rfl
/-- a method call's tree -/
theorem meth_ht {o : Expr} {m : Str} {apos pos : Pos} {args : List Expr} {kws : List Keyword} {env : Env} (hb : baseOk o = true) (hl : (apos.endLine == pos.line) = true) (hs : args.all plainX = true) (hk : (backToKw pos (keywordEach kws env)).all (·.1.isSome) = true) (hn : args.length + kws.length < 29) :
    eval (.Call (.Attribute o m apos) args kws pos) env = (do
      let ov ← eval o env
      standAt apos.atName
      let (f, first) ← holding [ov] (getMethod ov m (do return (← importBound o env).getD true))
      callWith pos f first (backTo pos (starEach args env)) (backToKw pos (keywordEach kws env))) := by
  have e : eval (.Call (.Attribute o m apos) args kws pos) env = (do
    let ov ← attributeBase o m env (eval o env)
    standAt apos.atName
    methodCall o m apos pos env ov (args.length + kws.length) (backTo pos (starEach args env)) (backToKw pos (keywordEach kws env))) := rfl
  rw [e, base_of hb]
  have f : methodCallForm (args.length + kws.length) (backTo pos (starEach args env)) (backToKw pos (keywordEach kws env)) = true := by
    unfold methodCallForm
    rw [star_all hs, hk]
    show (true && true && decide (args.length + kws.length + (if (backToKw pos (keywordEach kws env)).isEmpty = true then 0 else 1) < 30)) = true
    rw [decide_eq_true (by split <;> omega)]; rfl
  unfold methodCall
  rw [f]
  have g : methodCallPos true o env apos pos = pure pos := by
    unfold methodCallPos
    rw [hl]; rfl
  rw [g]
  rfl
theorem pw_of {X : Cx} {op : BoolOp} {vs : List Expr} {pos : Pos} {t : TT} (h : PT X (.BoolOp op vs pos) t) : PW X (.BoolOp op vs pos) t := ⟨fun wh pins s σ H Q I w => h.run pins s σ H Q I w⟩
end Y

/-! L3l: the check. -/
namespace Y
open PySem PySem.Spec L2
def okNm (x : Str) : Bool := !(x == ("__debug__" : Str)) && !(x == ("__classdict__" : Str))
def visB (sc : Scope) (x : Str) : Bool := match sc.names.lookup x with
  | some .local => true
  | some .cell => true
  | some .free => true
  | _ => false
def globB (sc : Scope) (x : Str) : Bool := match sc.names.lookup x with
  | some .globalImplicit => true
  | _ => false
def stB (sc : Scope) (x : Str) : Bool := match sc.names.lookup x with
  | some .local => true
  | some .cell => true
  | _ => false
def cstB : T → Const → Bool
  | .non, .none => true
  | .bl a, .bool b => a == b
  | .int a, .int b => a == b
  | .str a, .str b => decide (a = b)
  | _, _ => false
def bfN : BF → Str
  | .len => "len"
  | .abs => "abs"
  | .max2 => "max"
  | .min2 => "min"
  | .int => "int"
  | .sum => "sum"
  | .all => "all"
  | .any => "any"
  | .list => "list"
  | .tuple => "tuple"
  | .listD => "list"
  | .dictD => "dict"
  | .sorted => "sorted"
  | .str => "str"
  | .minL => "min"
  | .maxL => "max"
def bmN : BM → Str
  | .append => "append"
  | .clear => "clear"
  | .pop => "pop"
  | .extend => "extend"
  | .dupd => "update"
  | .dget => "get"
  | .dpop => "pop"
  | .dclear => "clear"
  | .sjoin => "join"
  | .popi => "pop"
  | .lindex => "index"
  | .sstrip => "strip"
  | .supper => "upper"
  | .sindex => "index"
/-- what may be called without arguments -/
def is0 (m : BM) : Bool := (isLm m && !(decide (m = .popi) || decide (m = .lindex))) || decide (m = .dclear) || decide (m = .supper)
def dfK : Str := "default"
def tyS : Ty → Str
  | .none => "NoneType"
  | .bool => "bool"
  | .int => "int"
  | .str => "str"
  | .tuple => "tuple"
  | .list => "list"
  | .dict => "dict"
section
variable (Γ : Prog) (N : List Str)
def chkK (sc : Scope) : Kd → Expr → Bool
  | .ty t, .Name x _ => decide (t ≠ .none) && decide (x = tyS t) && globB sc x && decide (x ∈ Γ.bl)
  | .cls c, .Name x _ => decide (x = c) && globB sc x && okNm x && decide (c ∈ Γ.cls)
  | _, _ => false
def chkKs (sc : Scope) : List Kd → List Expr → Bool
  | [], [] => true
  | k :: ks, e :: es => plainX e && chkK Γ sc k e && chkKs sc ks es
  | _, _ => false
def chkIs (sc : Scope) (cs : List Kd) (tp : Bool) (e : Expr) : Bool := match tp, e with
  | true, .Tuple es _ _ => decide (es.length ≤ 20) && chkKs Γ sc cs es
  | false, e => match cs with
    | [k] => plainX e && chkK Γ sc k e
    | _ => false
  | _, _ => false
mutual
def chkG (st : Str → Bool) : G → Expr → Bool
  | .name i, e => match e with
    | .Name x _ => decide (N[i]? = some x) && st x
    | _ => false
  | .tup gs, e => match e with
    | .Tuple es _ _ => chkGs st gs es
    | _ => false
def chkGs (st : Str → Bool) : Gs → List Expr → Bool
  | .nil, es => match es with
    | [] => true
    | _ => false
  | .cons g gs, es => match es with
    | e :: es => plainX e && chkG st g e && chkGs st gs es
    | _ => false
end
def chkSt (st : Str → Bool) (i : Nat) : Gs → List Expr → Bool
  | .nil, es => match es with
    | [.Starred (.Name x _) _] => decide (N[i]? = some x) && st x
    | _ => false
  | .cons g gs, es => match es with
    | e :: es => plainX e && chkG N st g e && chkSt st i gs es
    | _ => false
def chkM (st : Str → Bool) : GM → Expr → Bool
  | .g g, e => chkG N st g e
  | .star gs i, e => match e with
    | .Tuple es _ _ => chkSt N st i gs es
    | _ => false
  | .pair g m, e => match e with
    | .Tuple [e1, e2] _ _ => plainX e1 && plainX e2 && chkG N st g e1 && chkM st m e2
    | _ => false
mutual
def chkE : E → Scope → Expr → Bool
  | .var i, sc, e => match e with
    | .Name x _ => decide (N[i]? = some x) && visB sc x && okNm x
    | _ => false
  | .cst t, _, e => match e with
    | .Constant c _ _ => cstB t c
    | _ => false
  | .glo y t, sc, e => match e with
    | .Name x _ => decide (x = y) && globB sc x && okNm x && decide (Γ.cs.lookup x = some t)
    | _ => false
  | .tup es, sc, e => match e with
    | .Tuple l _ _ => chkEs es sc l
    | _ => false
  | .lst es, sc, e => match e with
    | .List l _ => chkEs es sc l
    | _ => false
  | .dic ps, sc, e => match e with
    | .Dict ks vs _ => decide (ks.length ≤ 15) && decide (ks.length = vs.length) && !ks.isEmpty && chkPs ps sc ks vs
    | _ => false
  | .dict0 _, _, e => match e with
    | .Dict [] [] _ => true
    | _ => false
  | .bin o a b, sc, e => match e with
    | .BinOp l o' r _ => decide (o = o') && chkE a sc l && chkE b sc r
    | _ => false
  | .neg a, sc, e => match e with
    | .UnaryOp .USub x _ => chkE a sc x
    | _ => false
  | .cmp o a b, sc, e => match e with
    | .Compare l [o'] [r] _ => decide (o = o') && !behindInMarks o' r && chkE a sc l && chkE b sc r
    | _ => false
  | .chain o1 o2 a b c, sc, e => match e with
    | .Compare l [p1, p2] [r, q] _ => decide (o1 = p1) && decide (o2 = p2) && !lastMarks [p1, p2] [r, q] && chkE a sc l && chkE b sc r && chkE c sc q
    | _ => false
  | .and2 a b, sc, e => match e with
    | .BoolOp .And [x, y] _ => chkE a sc x && chkE b sc y
    | .BoolOp .And (x :: y :: z :: r) pos => chkE a sc x && chkE b sc (.BoolOp .And (y :: z :: r) pos)
    | _ => false
  | .or2 a b, sc, e => match e with
    | .BoolOp .Or [x, y] _ => chkE a sc x && chkE b sc y
    | .BoolOp .Or (x :: y :: z :: r) pos => chkE a sc x && chkE b sc (.BoolOp .Or (y :: z :: r) pos)
    | _ => false
  | .not a, sc, e => match e with
    | .UnaryOp .Not x _ => chkE a sc x
    | _ => false
  | .ite c a b, sc, e => match e with
    | .IfExp t x y _ => chkB c sc t && chkE a sc x && chkE b sc y
    | _ => false
  | .fld a f, sc, e => match e with
    | .Attribute x f' _ => decide (f' = f) && baseOk x && chkE a sc x
    | _ => false
  | .ix a b, sc, e => match e with
    | .Subscript x i _ => noSlice i && chkE a sc x && chkE b sc i
    | _ => false
  | .slc a lo hi, sc, e => match e with
    | .Subscript x (.Slice l u none _) _ => chkE a sc x && chkO lo sc l && chkO hi sc u
    | _ => false
  | .call f args ks, sc, e => match e with
    | .Call (.Name x _) es kws _ => decide (x = f) && globB sc x && okNm x && hasM Γ (f, none) && chkEs args sc es && chkKw ks sc kws
    | _ => false
  | .new c args ks, sc, e => match e with
    | .Call (.Name x _) es kws _ => decide (x = c) && globB sc x && okNm x && hasM Γ (c, some "__init__") && chkEs args sc es && chkKw ks sc kws
    | _ => false
  | .meth a m args ks, sc, e => match e with
    | .Call (.Attribute o m' apos) es kws pos => decide (m' = m) && baseOk o && (apos.endLine == pos.line) && decide (es.length + kws.length < 29) && chkE a sc o && chkEs args sc es && chkKw ks sc kws
    | _ => false
  | .bi f args, sc, e => match e with
    | .Call (.Name x _) (e1 :: es) [] _ => decide (x = bfN f) && globB sc x && decide (x ∈ Γ.bl) && chkEs args sc (e1 :: es)
    | _ => false
  | .bm a m args, sc, e => match e with
    | .Call (.Attribute o m' apos) es [] pos => decide (m' = bmN m) && baseOk o && (apos.endLine == pos.line) && decide (es.length < 29) && (is0 m || !es.isEmpty) && chkE a sc o && chkEs args sc es
    | _ => false
  | .isi a cs tp, sc, e => match e with
    | .Call (.Name x _) [v, k] [] _ => decide (x = ("isinstance" : Str)) && globB sc x && decide (x ∈ Γ.bl) && plainX v && plainX k && chkE a sc v && cs.all (kdOk Γ.cls) && chkIs Γ sc cs tp k
    | _ => false
  | .lc g src c el own, sc, e => match e with
    | .ListComp elt [⟨tg, iter, ifs, 0⟩] scope _ => blkC N sc scope own && (slotsG g).all (fun i => (own.map (·.2)).contains i) && notSet iter && chkG N (stB scope) g tg && chkI src sc tg iter && chkF c (relS scope sc) ifs && chkE el (relS scope sc) elt
    | _ => false
  | .lrg1 tp a, sc, e => match e with
    | .Call (.Name x _) [.Call (.Name y _) [z] [] _] [] _ => decide (x = (if tp = true then ("tuple" : Str) else "list")) && decide (y = ("range" : Str)) && globB sc x && globB sc y && decide (x ∈ Γ.bl) && decide (y ∈ Γ.bl) && plainX z && chkE a sc z
    | _ => false
  | .lrg2 tp a b, sc, e => match e with
    | .Call (.Name x _) [.Call (.Name y _) [z, w] [] _] [] _ => decide (x = (if tp = true then ("tuple" : Str) else "list")) && decide (y = ("range" : Str)) && globB sc x && globB sc y && decide (x ∈ Γ.bl) && decide (y ∈ Γ.bl) && plainX z && plainX w && chkE a sc z && chkE b sc w
    | _ => false
  | .lockE _ a, sc, e => chkE a sc e
  | .lzip a b, sc, e => match e with
    | .Call (.Name x _) [.Call (.Name y _) [z, w] [] _] [] _ => decide (x = ("list" : Str)) && decide (y = ("zip" : Str)) && globB sc x && globB sc y && decide (x ∈ Γ.bl) && decide (y ∈ Γ.bl) && plainX z && plainX w && chkE a sc z && chkE b sc w
    | _ => false
  | .maxd a d, sc, e => match e with
    | .Call (.Name x _) [e1] [⟨some k, e2, _⟩] _ => decide (x = bfN .maxL) && decide (k = dfK) && globB sc x && decide (x ∈ Γ.bl) && plainX e1 && chkE a sc e1 && chkE d sc e2
    | _ => false
  | .revE a, sc, e => match e with
    | .Subscript x (.Slice none none (some (.UnaryOp .USub (.Constant (.int 1) _ _) _)) _) _ => chkE a sc x
    | _ => false
  | .lc2 g src g1 src1 el own vs1, sc, e => match e with
    | .ListComp elt [⟨tg, iter, [], 0⟩, ⟨tg1, iter1, [], 0⟩] scope _ => blkC N sc scope own && (slotsG g).all (fun i => (own.map (·.2)).contains i) && (slotsG g1).all (fun i => vs1.contains i) && vs1.all (fun i => (own.map (·.2)).contains i) && notSet iter && notSet iter1 &&
      chkG N (stB scope) g tg && chkI src sc tg iter && chkG N (stB scope) g1 tg1 && chkI src1 (relS scope sc) tg1 iter1 && chkE el (relS scope sc) elt
    | _ => false
  | .olen args, sc, e => match e with
    | .Call (.Name x _) (e1 :: es) [] _ => decide (x = ("len" : Str)) && globB sc x && decide (x ∈ Γ.bl) && chkEs args sc (e1 :: es)
    | _ => false
  | .oeq ne a b, sc, e => match e with
    | .Compare l [o'] [r] _ => decide (o' = (if ne = true then CmpOp.NotEq else .Eq)) && !behindInMarks o' r && chkE a sc l && chkE b sc r
    | _ => false
  | .nev, _, _ => true
def chkEs : Es → Scope → List Expr → Bool
  | .nil, _, l => match l with
    | [] => true
    | _ => false
  | .cons a as, sc, l => match l with
    | e :: es => plainX e && chkE a sc e && chkEs as sc es
    | _ => false
def chkKw : Ks → Scope → List Keyword → Bool
  | .nil, _, l => match l with
    | [] => true
    | _ => false
  | .cons k a as, sc, l => match l with
    | ⟨some x, e, _⟩ :: es => decide (x = k) && chkE a sc e && chkKw as sc es
    | _ => false
def chkPs : Ps → Scope → List (Option Expr) → List Expr → Bool
  | .nil, _, l, r => match l, r with
    | [], [] => true
    | _, _ => false
  | .cons k v ps, sc, l, r => match l, r with
    | some x :: l, y :: r => chkE k sc x && chkE v sc y && chkPs ps sc l r
    | _, _ => false
def chkO : Eo → Scope → Option Expr → Bool
  | .no, _, o => o.isNone
  | .yes a, sc, o => match o with
    | some e => chkE a sc e
    | none => false
def chkF : Eo → Scope → List Expr → Bool
  | .no, _, l => match l with
    | [] => true
    | _ => false
  | .yes a, sc, l => match l with
    | [e] => chkB a sc e
    | _ => false
def chkB : E → Scope → Expr → Bool
  | .cmp o a b, sc, e => match e with
    | .Compare l [o'] [r] _ => decide (o = o') && !behindInMarks o' r && chkE a sc l && chkE b sc r
    | _ => false
  | .chain o1 o2 a b c, sc, e => match e with
    | .Compare l [p1, p2] [r, q] _ => decide (o1 = p1) && decide (o2 = p2) && !lastMarks [p1, p2] [r, q] && chkE a sc l && chkE b sc r && chkE c sc q
    | _ => false
  | .and2 a b, sc, e => match e with
    | .BoolOp .And [x, y] _ => chkB a sc x && chkB b sc y
    | .BoolOp .And (x :: y :: z :: r) pos => chkB a sc x && chkB b sc (.BoolOp .And (y :: z :: r) pos)
    | _ => false
  | .or2 a b, sc, e => match e with
    | .BoolOp .Or [x, y] _ => chkB a sc x && chkB b sc y
    | .BoolOp .Or (x :: y :: z :: r) pos => chkB a sc x && chkB b sc (.BoolOp .Or (y :: z :: r) pos)
    | _ => false
  | .not a, sc, e => match e with
    | .UnaryOp .Not x _ => chkB a sc x
    | _ => false
  | .var i, sc, e => match e with
    | .Name x _ => decide (N[i]? = some x) && visB sc x && okNm x
    | _ => false
  | .cst t, _, e => match e with
    | .Constant c _ _ => cstB t c
    | _ => false
  | .glo y t, sc, e => match e with
    | .Name x _ => decide (x = y) && globB sc x && okNm x && decide (Γ.cs.lookup x = some t)
    | _ => false
  | .fld a f, sc, e => match e with
    | .Attribute x f' _ => decide (f' = f) && baseOk x && chkE a sc x
    | _ => false
  | .ix a b, sc, e => match e with
    | .Subscript x i _ => noSlice i && chkE a sc x && chkE b sc i
    | _ => false
  | .call f args ks, sc, e => match e with
    | .Call (.Name x _) es kws _ => decide (x = f) && globB sc x && okNm x && hasM Γ (f, none) && chkEs args sc es && chkKw ks sc kws
    | _ => false
  | .meth a m args ks, sc, e => match e with
    | .Call (.Attribute o m' apos) es kws pos => decide (m' = m) && baseOk o && (apos.endLine == pos.line) && decide (es.length + kws.length < 29) && chkE a sc o && chkEs args sc es && chkKw ks sc kws
    | _ => false
  | .bi f args, sc, e => match e with
    | .Call (.Name x _) (e1 :: es) [] _ => decide (x = bfN f) && globB sc x && decide (x ∈ Γ.bl) && chkEs args sc (e1 :: es)
    | _ => false
  | .bm a m args, sc, e => match e with
    | .Call (.Attribute o m' apos) es [] pos => decide (m' = bmN m) && baseOk o && (apos.endLine == pos.line) && decide (es.length < 29) && (is0 m || !es.isEmpty) && chkE a sc o && chkEs args sc es
    | _ => false
  | .isi a cs tp, sc, e => match e with
    | .Call (.Name x _) [v, k] [] _ => decide (x = ("isinstance" : Str)) && globB sc x && decide (x ∈ Γ.bl) && plainX v && plainX k && chkE a sc v && cs.all (kdOk Γ.cls) && chkIs Γ sc cs tp k
    | _ => false
  | .oeq ne a b, sc, e => match e with
    | .Compare l [o'] [r] _ => decide (o' = (if ne = true then CmpOp.NotEq else .Eq)) && !behindInMarks o' r && chkE a sc l && chkE b sc r
    | _ => false
  | .nev, _, _ => true
  | _, _, _ => false
def chkI : I → Scope → Expr → Expr → Bool
  | .seq a, sc, _, e => chkE a sc e
  | .rng1 a, sc, _, e => match e with
    | .Call (.Name x _) [y] [] _ => decide (x = ("range" : Str)) && globB sc x && decide (x ∈ Γ.bl) && plainX y && chkE a sc y
    | _ => false
  | .rng2 a b, sc, _, e => match e with
    | .Call (.Name x _) [y, z] [] _ => decide (x = ("range" : Str)) && globB sc x && decide (x ∈ Γ.bl) && plainX y && plainX z && chkE a sc y && chkE b sc z
    | _ => false
  | .dkeys m a, sc, _, e => !m && chkE a sc e
  | .dvals a, sc, _, e => match e with
    | .Call (.Attribute o v apos) [] [] pos => decide (v = ("values" : Str)) && baseOk o && (apos.endLine == pos.line) && chkE a sc o
    | _ => false
  | .ditms a, sc, tg, e => match e with
    | .Call (.Attribute o v apos) [] [] pos => decide (v = ("items" : Str)) && baseOk o && (apos.endLine == pos.line) && isTup tg && chkE a sc o
    | _ => false
  | .enum a, sc, tg, e => match e with
    | .Call (.Name x _) [y] [] _ => decide (x = ("enumerate" : Str)) && globB sc x && decide (x ∈ Γ.bl) && isTup tg && plainX y && chkE a sc y
    | _ => false
  | .zip a b, sc, tg, e => match e with
    | .Call (.Name x _) [y, z] [] _ => decide (x = ("zip" : Str)) && globB sc x && decide (x ∈ Γ.bl) && isTup tg && plainX y && plainX z && chkE a sc y && chkE b sc z
    | _ => false
  | .sgn a, sc, _, e => chkE a sc e
  | .zipN a b, sc, tg, e => match e with
    | .Call (.Name x _) [y, z] [] _ => decide (x = ("zip" : Str)) && globB sc x && decide (x ∈ Γ.bl) && isTup tg && plainX y && plainX z && chkE a sc y && chkE b sc z
    | _ => false
  | .zipS a b, sc, tg, e => match e with
    | .Call (.Name x _) [y, z] [⟨some k, .Constant (.bool true) _ _, _⟩] _ => decide (x = ("zip" : Str)) && decide (k = ("strict" : Str)) && globB sc x && decide (x ∈ Γ.bl) && isTup tg && plainX y && plainX z && chkE a sc y && chkE b sc z
    | _ => false
end
end
end Y

/-! L3q: how arguments are bound. -/
namespace Y
open PySem PySem.Spec L2
section
variable {α β : Type}
theorem loop1 {A B : List Str} {f : Str × Value → List (Str × Value) × List (Str × Value) → Sem (ForInStep (List (Str × Value) × List (Str × Value)))}
    (hf : ∀ p S, (A.contains p.1 || B.contains p.1) = true → (S.lookup p.1).isNone = true → f p (S, []) = pure (.yield (S ++ [p], []))) : ∀ (kw S : List (Str × Value)), kwOkA A B S kw = true → forIn kw (S, ([] : List (Str × Value))) f = pure (S ++ kw, [])
  | [], S, _ => by rw [List.forIn_nil, List.append_nil]
  | p :: r, S, h => by
    unfold kwOkA at h
    rw [Bool.and_eq_true, Bool.and_eq_true] at h
    rw [List.forIn_cons, hf p S h.1.1 h.1.2, pure_bind]
    dsimp only
    rw [loop1 hf r _ h.2, List.append_assoc]
    rfl
theorem loop2 {f : Str × Value → List (Str × Value) → Sem (ForInStep (List (Str × Value)))}
    (hf : ∀ p S, f p S = pure (.yield (if (S.lookup p.1).isNone = true then S ++ [p] else S))) : ∀ (l S : List (Str × Value)), forIn l S f = pure (addD S l)
  | [], S => by rw [List.forIn_nil]; rfl
  | p :: r, S => by
    rw [List.forIn_cons, hf p S, pure_bind]
    dsimp only
    rw [loop2 hf r _]
    rfl
theorem lookup_app {S T : List (Str × α)} {n : Str} (h : (S.lookup n).isSome = true) : ((S ++ T).lookup n).isSome = true := by
  induction S with
  | nil => cases h
  | cons p S ih =>
    rw [List.cons_append]
    rw [List.lookup_cons] at h ⊢
    cases e : (n == p.1) with
    | true => rfl
    | false =>
      rw [e] at h
      exact ih h
theorem loop3 {M : Model} {h : Heap} {kd : List (Str × Value)} {f : Str → List (Str × Value) × List Str → Sem (ForInStep (List (Str × Value) × List Str))}
    (hf1 : ∀ n S, (S.lookup n).isNone = false → f n (S, []) = pure (.yield (S, [])))
    (hf2 : ∀ n S v, (S.lookup n).isNone = true → kd.lookup n = some v → PySem.W.Looks M h (f n (S, [])) (.yield (S ++ [(n, v)], []))) : ∀ (B : List Str) (S : List (Str × Value)),
    (∀ n ∈ B, (S.lookup n).isSome = true ∨ (kd.lookup n).isSome = true) → PySem.W.Looks M h (forIn B (S, ([] : List Str)) f) (addK kd S B, [])
  | [], S, _ => by
    rw [List.forIn_nil]
    exact .of_pure rfl
  | n :: r, S, hB => by
    rw [List.forIn_cons]
    cases e : (S.lookup n).isNone with
    | false =>
      rw [hf1 n S e, pure_bind]
      dsimp only
      unfold addK
      rw [e, if_neg (by decide)]
      exact loop3 hf1 hf2 r S fun m hm => hB m (List.mem_cons_of_mem _ hm)
    | true =>
      have hs : (kd.lookup n).isSome = true := by
        rcases hB n (List.mem_cons_self ..) with z | z
        · rw [Option.isNone_iff_eq_none] at e
          rw [e] at z; cases z
        · exact z
      obtain ⟨v, ev⟩ := Option.isSome_iff_exists.mp hs
      refine (hf2 n S v e ev).andThen ?_
      dsimp only
      unfold addK
      rw [e, if_pos rfl, ev]
      exact loop3 hf1 hf2 r _ fun m hm => (hB m (List.mem_cons_of_mem _ hm)).imp lookup_app id
theorem bound_zip {A : List Str} {S : List (Str × α)} : ∀ {l : List Str}, (l.filterMap fun n => (S.lookup n).map (n, ·)).length = l.length → l.zip ((l.filterMap fun n => (S.lookup n).map (n, ·)).map (·.2)) = l.filterMap fun n => (S.lookup n).map (n, ·)
  | [], _ => rfl
  | n :: l, h => by
    cases e : S.lookup n with
    | none =>
      rw [List.filterMap_cons, e] at h
      have := List.length_filterMap_le (fun n => (S.lookup n).map (n, ·)) l
      simp only [Option.map_none, List.length_cons] at h
      omega
    | some v =>
      rw [List.filterMap_cons, e] at h ⊢
      simp only [Option.map_some, List.length_cons] at h ⊢
      rw [List.map_cons, List.zip_cons_cons, bound_zip (A := A) (by omega)]
end
theorem bind_run {K : PySem.W.Frag} {fd : FuncData} {A B : List Str} {us dl ws : List Value} {kw kd : List (Str × Value)} {s : Shared} (KX : K.In s.heap)
    (h1 : fd.params.posonlyargs = []) (h2 : fd.params.args.map (·.arg) = A) (h3 : fd.params.vararg = none) (h4 : fd.params.kwonlyargs.map (·.arg) = B) (h5 : fd.params.kwarg = none)
    (hd : (dl = [] ∧ fd.defaults = .none) ∨ ∃ T o n, fd.defaults = .ref T ∧ K.lookup T = some o ∧ o.data = .seq dl.toArray n)
    (hk : ∀ n v, kd.lookup n = some v → ∃ D, fd.kwdefaults = .ref D ∧ PySem.W.nsIn K D n = some (some v))
    (hb : bindA A B dl kd us kw = some ws) : BindsTo s fd ⟨us, kw⟩ ((A ++ B).zip ws) := by
  unfold bindA at hb
  split at hb
  · rename_i c
    cases hb
    simp only [Bool.and_eq_true, decide_eq_true_eq] at c
    obtain ⟨⟨⟨⟨⟨c1, c2⟩, c3⟩, c4⟩, c5⟩, c6⟩ := c
    unfold boundA at c6 ⊢
    rw [bound_zip (A := A) c6]
    intro M Ar E Q hq
    unfold bindArgs
    simp only [h1, h2, h3, h4, h5, List.map_nil, List.nil_append]
    rw [loop1 (A := A) (B := B) ?hf kw _ c3]
    case hf =>
      intro p S q1 q2
      have q3 : (List.lookup p.1 S).isSome = false := by
        cases e : List.lookup p.1 S with
        | none => rfl
        | some v => rw [e] at q2; cases q2
      simp only [q1, q3, if_true, if_false, Bool.false_eq_true]
    rw [pure_bind]
    have hsq : ∀ {k : Option (Array Value) → Sem (List (Str × Value))}, wpAny M Ar (k (if dl = [] ∧ fd.defaults = .none then none else some dl.toArray)) Q E s → wpAny M Ar (seqItems? fd.defaults >>= k) Q E s := fun {k} hk2 => by
      rcases hd with ⟨z1, z2⟩ | ⟨T, o, n, z1, z2, z3⟩
      · rw [if_pos ⟨z1, z2⟩] at hk2
        rw [z2]
        exact hk2
      · rw [if_neg (fun z => by rw [z1] at z; cases z.2)] at hk2
        rw [z1]
        exact wpAny_bind (wpAny_seqItems (KX _ _ z2) z3 hk2)
    refine hsq ?_
    have hdl : ((if dl = [] ∧ fd.defaults = .none then none else some dl.toArray : Option (Array Value)).getD #[]).toList = dl := by
      by_cases z : dl = [] ∧ fd.defaults = .none
      · rw [if_pos z, z.1]; rfl
      · rw [if_neg z]; simp
    rw [hdl]
    have g1 : (decide (us.length > A.length) && (none : Option Arg).isNone) = false := by
      rw [decide_eq_false (by omega)]; rfl
    have g2 : dl.length - A.length = 0 := by omega
    simp only [g1, g2, List.drop_zero, if_false, Bool.false_eq_true]
    have g3 : (!(List.filter (fun n => (List.lookup n (A.zip us ++ kw)).isNone) (List.take (A.length - dl.length) A)).isEmpty) = false := by
      have : (missA A (A.length - dl.length) (A.zip us ++ kw)).isEmpty = true := c4
      unfold missA at this
      rw [this]; rfl
    simp only [g3, if_false, Bool.false_eq_true]
    rw [loop2 ?hg]
    case hg =>
      intro p S
      split <;> rfl
    rw [pure_bind]
    refine wpAny_bind ((loop3 (h := s.heap) (kd := kd) (fun n S q => ?_) (fun n S v q1 q2 => ?_) B (addD (A.zip us ++ kw) ((A.drop (A.length - dl.length)).zip dl)) (fun n hn => ?_)).here ?_)
    · simp only [q, if_false, Bool.false_eq_true]
    · obtain ⟨D, d1, d2⟩ := hk n v q2
      simp only [q1, if_true, d1]
      exact (PySem.W.looks_nsIn KX d2).andThen (.of_pure rfl)
    · have := List.all_eq_true.mp c5 n hn
      rwa [Bool.or_eq_true] at this
    exact wpAny_pure hq
  · cases hb

section
variable {α β : Type} {R : α → β → Prop}
inductive Rl (R : α → β → Prop) : List α → List β → Prop where
  | nil : Rl R [] []
  | cons {a : α} {b : β} {as : List α} {bs : List β} : R a b → Rl R as bs → Rl R (a :: as) (b :: bs)
inductive Rk (R : α → β → Prop) : List (Str × α) → List (Str × β) → Prop where
  | nil : Rk R [] []
  | cons {k : Str} {a : α} {b : β} {as : List (Str × α)} {bs : List (Str × β)} : R a b → Rk R as bs → Rk R ((k, a) :: as) ((k, b) :: bs)
theorem Rl.len : ∀ {as : List α} {bs : List β}, Rl R as bs → as.length = bs.length
  | _, _, .nil => rfl
  | _, _, .cons _ r => by rw [List.length_cons, List.length_cons, r.len]
theorem Rk.len : ∀ {as : List (Str × α)} {bs : List (Str × β)}, Rk R as bs → as.length = bs.length
  | _, _, .nil => rfl
  | _, _, .cons _ r => by rw [List.length_cons, List.length_cons, r.len]
theorem Rk.append : ∀ {as as2 : List (Str × α)} {bs bs2 : List (Str × β)}, Rk R as bs → Rk R as2 bs2 → Rk R (as ++ as2) (bs ++ bs2)
  | _, _, _, _, .nil, s => s
  | _, _, _, _, .cons a r, s => .cons a (r.append s)
theorem Rk.look {n : Str} : ∀ {as : List (Str × α)} {bs : List (Str × β)}, Rk R as bs → (as.lookup n = none ∧ bs.lookup n = none) ∨ ∃ a b, as.lookup n = some a ∧ bs.lookup n = some b ∧ R a b
  | _, _, .nil => .inl ⟨rfl, rfl⟩
  | _, _, .cons (k := k) r rs => by
    rw [List.lookup_cons, List.lookup_cons]
    cases e : (n == k) with
    | true => exact .inr ⟨_, _, rfl, rfl, r⟩
    | false => exact rs.look
theorem Rk.isN {n : Str} {as : List (Str × α)} {bs : List (Str × β)} (r : Rk R as bs) : (as.lookup n).isNone = (bs.lookup n).isNone := by
  rcases r.look (n := n) with ⟨a, b⟩ | ⟨_, _, a, b, _⟩ <;> rw [a, b] <;> rfl
theorem Rk.isS {n : Str} {as : List (Str × α)} {bs : List (Str × β)} (r : Rk R as bs) : (as.lookup n).isSome = (bs.lookup n).isSome := by
  rcases r.look (n := n) with ⟨a, b⟩ | ⟨_, _, a, b, _⟩ <;> rw [a, b] <;> rfl
theorem Rk.zip : ∀ {A : List Str} {as : List α} {bs : List β}, Rl R as bs → Rk R (A.zip as) (A.zip bs)
  | [], _, _, _ => .nil
  | _ :: _, _, _, .nil => .nil
  | _ :: A, _, _, .cons r rs => .cons r (Rk.zip rs)
theorem Rk.addD : ∀ {l : List (Str × α)} {l' : List (Str × β)} {S : List (Str × α)} {S' : List (Str × β)}, Rk R S S' → Rk R l l' → Rk R (addD S l) (addD S' l')
  | _, _, _, _, s, .nil => s
  | _, _, S, S', s, .cons (k := k) r rs => by
    unfold Y.addD
    refine Rk.addD ?_ rs
    dsimp only
    rw [s.isN]
    split
    · exact s.append (.cons r .nil)
    · exact s
theorem Rk.addK {kd : List (Str × α)} {kd' : List (Str × β)} (d : Rk R kd kd') : ∀ {B : List Str} {S : List (Str × α)} {S' : List (Str × β)}, Rk R S S' → Rk R (addK kd S B) (addK kd' S' B)
  | [], _, _, s => s
  | n :: B, S, S', s => by
    unfold Y.addK
    refine Rk.addK d ?_
    rw [s.isN]
    split
    · rcases d.look (n := n) with ⟨a, b⟩ | ⟨_, _, a, b, r⟩
      · rw [a, b]; exact s
      · rw [a, b]; exact s.append (.cons r .nil)
    · exact s
theorem Rk.kwOk {A B : List Str} : ∀ {l : List (Str × α)} {l' : List (Str × β)} {S : List (Str × α)} {S' : List (Str × β)}, Rk R S S' → Rk R l l' → kwOkA A B S l = kwOkA A B S' l'
  | _, _, _, _, _, .nil => rfl
  | _, _, _, _, s, .cons (k := k) r rs => by
    unfold kwOkA
    dsimp only
    rw [s.isN, Rk.kwOk (s.append (.cons r .nil)) rs]
theorem Rk.bound {S : List (Str × α)} {S' : List (Str × β)} (s : Rk R S S') : ∀ l : List Str, Rk R (l.filterMap fun n => (S.lookup n).map (n, ·)) (l.filterMap fun n => (S'.lookup n).map (n, ·))
  | [] => .nil
  | n :: l => by
    rw [List.filterMap_cons, List.filterMap_cons]
    rcases s.look (n := n) with ⟨a, b⟩ | ⟨_, _, a, b, r⟩
    · rw [a, b]; exact s.bound l
    · rw [a, b]; exact .cons r (s.bound l)
theorem Rk.vals : ∀ {as : List (Str × α)} {bs : List (Str × β)}, Rk R as bs → Rl R (as.map (·.2)) (bs.map (·.2))
  | _, _, .nil => .nil
  | _, _, .cons r rs => .cons r rs.vals
theorem bindA_rel {A B : List Str} {dl : List α} {dl' : List β} {kd : List (Str × α)} {kd' : List (Str × β)} {us ws : List α} {us' : List β} {kw : List (Str × α)} {kw' : List (Str × β)} (r1 : Rl R us us') (r2 : Rk R kw kw') (r3 : Rl R dl dl') (r4 : Rk R kd kd')
    (h : bindA A B dl kd us kw = some ws) : ∃ ws', bindA A B dl' kd' us' kw' = some ws' ∧ Rl R ws ws' := by
  have z : Rk R (A.zip us) (A.zip us') := Rk.zip r1
  have s1 := z.append r2
  have s2 : Rk R (addD (A.zip us ++ kw) ((A.drop (A.length - dl.length)).zip dl)) (addD (A.zip us' ++ kw') ((A.drop (A.length - dl'.length)).zip dl')) := by
    rw [r3.len]
    exact s1.addD (Rk.zip r3)
  have s3 : Rk R (slotsA A B dl kd us kw) (slotsA A B dl' kd' us' kw') := Rk.addK r4 s2
  have b := s3.bound (A ++ B)
  unfold bindA at h ⊢
  split at h
  · rename_i c
    cases h
    have e : missA A (A.length - dl'.length) (A.zip us' ++ kw') = missA A (A.length - dl.length) (A.zip us ++ kw) := by
      unfold missA
      rw [r3.len]
      congr 1
      funext n
      exact s1.isN.symm
    have e2 : (B.all fun n => ((addD (A.zip us' ++ kw') ((A.drop (A.length - dl'.length)).zip dl')).lookup n).isSome || (kd'.lookup n).isSome) = (B.all fun n => ((addD (A.zip us ++ kw) ((A.drop (A.length - dl.length)).zip dl)).lookup n).isSome || (kd.lookup n).isSome) := by
      congr 1
      funext n
      rw [s2.isS, r4.isS]
    have e3 : (boundA A B (slotsA A B dl' kd' us' kw')).length = (boundA A B (slotsA A B dl kd us kw)).length := b.len.symm
    rw [← r1.len, ← Rk.kwOk z r2, e, e2, e3]
    rw [r3.len] at c
    rw [← r3.len] at c ⊢
    rw [if_pos c]
    exact ⟨_, rfl, b.vals⟩
  · cases h
end
end Y

/-! L3m: what stands ahead of a walk; calls. -/
namespace Y
open PySem PySem.Spec L2
def addr (K : PySem.W.Frag) : Str × Option Str → Addr
  | (f, none) => He.ga K f
  | (c, some m) => He.ma K (He.ga K c) m
/-- what is known of the module -/
structure Md (K : PySem.W.Frag) (mg : Str → Option Value) (Γ : Prog) : Prop where
  fn : ∀ f d, Γ.fns.lookup (f, none) = some d → mg f = some (.ref (He.ga K f)) ∧ PySem.W.keepIn K (.ref (He.ga K f)) = true
  mt : ∀ c m d, Γ.fns.lookup (c, some m) = some d → Meth K (He.ga K c) m (He.ma K (He.ga K c) m)
  mak : ∀ c d, Γ.fns.lookup (c, some ("__init__" : Str)) = some d → Mk K (He.ga K c) (He.ma K (He.ga K c) ("__init__" : Str)) ∧ mg c = some (.ref (He.ga K c)) ∧ Cls K (He.ga K c)
  okf : ∀ c f, Γ.okF c f = true → NoAttr K (He.ga K c) f
  isi : IsiOk K Γ.cls
  clg : ∀ c ∈ Γ.cls, mg c = some (.ref (He.ga K c))
  cst : ∀ x t, Γ.cs.lookup x = some t → ∃ v, (∃ u, mg x = some u ∧ RelV v u) ∧ ∀ ρ n H, VR K ρ n H t v
  blt : ∀ x ∈ Γ.bl, mg x = none
  ne : ∀ c ∈ Γ.nes, PySem.W.mroIn K (He.ga K c) (.type "object") = some true ∧ PySem.W.findIn K (.ref (He.ga K c)) "__ne__" = some (some (.builtin "object.__ne__"))
theorem noF_of {K : PySem.W.Frag} {ρ : Nat → Addr} {n : Nat} {H : Hp} {fs : List (Str × T)} {fv : List (Str × V)} {mm : Str} (p : PR K ρ n H fs fv) (z : getF fs mm = none) : fv.lookup mm = none := by
  unfold getF at z
  induction p with
  | nil => rfl
  | @cons g u v ts vs r rs ih =>
    rw [List.lookup_cons] at z ⊢
    cases hg : (mm == g) with
    | true => rw [hg] at z; cases z
    | false =>
      rw [hg] at z
      exact ih z
/-- a value that is the same at every heap -/
def CV (K : PySem.W.Frag) (t : T) (u : Value) : Prop := ∃ v, RelV v u ∧ ∀ ρ n H, VR K ρ n H t v
/-- the arguments are bound -/
structure BindOk (K : PySem.W.Frag) (fd : FuncData) (d : FD) : Prop where
  n1 : fd.params.posonlyargs = []
  n2 : fd.params.args.map (·.arg) = d.ps
  n3 : fd.params.vararg = none
  n4 : fd.params.kwonlyargs.map (·.arg) = d.ko
  n5 : fd.params.kwarg = none
  df : ∃ dl : List Value, Rl (CV K) d.dfl dl ∧ ((dl = [] ∧ fd.defaults = .none) ∨ ∃ T o n, fd.defaults = .ref T ∧ K.lookup T = some o ∧ o.data = .seq dl.toArray n)
  kd : ∃ kd : List (Str × Value), Rk (CV K) d.kd kd ∧ ∀ n v, kd.lookup n = some v → ∃ D, fd.kwdefaults = .ref D ∧ PySem.W.nsIn K D n = some (some v)
/-- what a def promises -/
def spC (K : PySem.W.Frag) (Γ : Prog) (n : Nat) (d : FD) : Sp := fun vs H Q E => vs.length = (d.ps ++ d.ko).length ∧ ∃ ρ h ts, Sim K ρ h H ∧ VRs K ρ h.length H ts vs ∧ Wg K E ρ h H (clB Γ n d ts h) (qV K Q)
structure Cxt (X : Cx) (E : XK) (Γ : Prog) (N : List Str) (n : Nat) (sc : Scope) : Prop where
  hsc : X.env.scope = sc
  hN : X.N = N
  nd : N.Nodup
  calm : X.calm = true
  room : Room (2 * n + 1) X.A
  md : Md X.K X.mg Γ
  fns : ∀ key d, Γ.fns.lookup key = some d → ∃ fd, FnOk X.prog X.w X.K X.mg X.base (CX X.prog X.w) (2 * n) (addr X.K key) fd (d.ps ++ d.ko) (spC X.K Γ n d) ∧ BindOk X.K fd d
  ps : Passes (CX X.prog X.w) X E
theorem passL {X : Cx} (h : ∀ e s, ¬ X.xe e s ∨ True) : Passes (CX X.prog X.w) X E0 := fun _ _ _ _ _ _ _ ⟨_, _, _, _, _, _, _, _, _, _, _, _, q⟩ => q.elim
theorem Cxt.blk {X : Cx} {E : XK} {Γ : Prog} {N : List Str} {n : Nat} {sc : Scope} (c : Cxt X E Γ N n sc) {s : Shared} {H : Hp} {scope : Scope} {cl : List (Str × Addr)} {C : Addr} {fp : List Addr} :
    Cxt (X.blk s H scope (compEnvC scope cl C X.env) fp) E0 Γ N n (relS scope sc) := by
  obtain ⟨rfl, h2, h3, h4, h5, h6, h7, h8⟩ := c
  exact ⟨rfl, h2, h3, h4, h5, h6, h7, passL fun _ _ => .inr trivial⟩
theorem evs_len {Φ : Pm} : ∀ (es : Es) {s : En} {h h' : LH} {xs : List T}, evs Φ es s h = .ok xs h' → xs.length = esLen es
  | .nil, s, h, h', xs, e => by
    obtain ⟨rfl, _⟩ := ret_ok (show ret [] h = .ok xs h' from e)
    rfl
  | .cons a as, s, h, h', xs, e => by
    obtain ⟨t, h1, e1, e2⟩ := bnd_ok (show bnd (ev Φ a s) (fun x => bnd (evs Φ as s) fun xs => ret (x :: xs)) h = .ok xs h' from e)
    obtain ⟨ts, h2, e3, e4⟩ := bnd_ok e2
    obtain ⟨rfl, _⟩ := ret_ok e4
    unfold esLen
    rw [List.length_cons, evs_len as e3]
theorem chkEs_len {Γ : Prog} {N : List Str} {sc : Scope} : ∀ (es : Es) {l : List Expr}, chkEs Γ N es sc l = true → l.length = esLen es ∧ l.all plainX = true
  | .nil, [], _ => ⟨rfl, rfl⟩
  | .nil, _ :: _, h => by
    unfold chkEs at h; cases h
  | .cons _ _, [], h => by
    unfold chkEs at h; cases h
  | .cons a as, e :: es, h => by
    unfold chkEs at h
    simp only [Bool.and_eq_true] at h
    obtain ⟨h1, h2⟩ := chkEs_len as h.2
    unfold esLen
    exact ⟨by rw [List.length_cons, h1], by rw [List.all_cons, h.1.1, h2]; rfl⟩
theorem hasM_of {Γ : Prog} {key : Str × Option Str} (h : hasM Γ key = true) : ∃ d, Γ.fns.lookup key = some d := Option.isSome_iff_exists.mp h
theorem chkKw_of {Γ : Prog} {N : List Str} {sc : Scope} {env : Env} {pos : Pos} : ∀ (ks : Ks) {l : List Keyword}, chkKw Γ N ks sc l = true →
    (backToKw pos (keywordEach l env)).all (·.1.isSome) = true ∧ (backToKw pos (keywordEach l env)).filterMap (·.1) = ksN ks ∧ (backToKw pos (keywordEach l env)).any (·.1.isNone) = false
  | .nil, [], _ => ⟨rfl, rfl, rfl⟩
  | .nil, _ :: _, h => by unfold chkKw at h; cases h
  | .cons _ _ _, [], h => by unfold chkKw at h; cases h
  | .cons k a as, ⟨none, e, p⟩ :: l, h => by unfold chkKw at h; cases h
  | .cons k a as, ⟨some x, e, p⟩ :: l, h => by
    unfold chkKw at h
    simp only [Bool.and_eq_true, decide_eq_true_eq] at h
    obtain ⟨h1, h2, h3⟩ := chkKw_of (env := env) (pos := pos) as h.2
    have e1 : backToKw pos (keywordEach (⟨some x, e, p⟩ :: l) env) = (some x, do let v ← eval e env; standAt pos; pure v) :: backToKw pos (keywordEach l env) := rfl
    rw [e1]
    refine ⟨by rw [List.all_cons, h1]; rfl, ?_, by rw [List.any_cons, h3]; rfl⟩
    rw [List.filterMap_cons]
    unfold ksN
    rw [h2, h.1.1]
theorem evK_len {Φ : Pm} : ∀ (ks : Ks) {s : En} {h h' : LH} {xs : List T}, evK Φ ks s h = .ok xs h' → xs.length = (ksN ks).length
  | .nil, s, h, h', xs, e => by
    obtain ⟨rfl, _⟩ := ret_ok (show ret [] h = .ok xs h' from e)
    rfl
  | .cons k a as, s, h, h', xs, e => by
    obtain ⟨t, h1, e1, e2⟩ := bnd_ok (show bnd (ev Φ a s) (fun x => bnd (evK Φ as s) fun xs => ret (x :: xs)) h = .ok xs h' from e)
    obtain ⟨ts, h2, e3, e4⟩ := bnd_ok e2
    obtain ⟨rfl, _⟩ := ret_ok e4
    unfold ksN
    rw [List.length_cons, List.length_cons, evK_len as e3]
/-- a value stands for one of the machine -/
def RU (K : PySem.W.Frag) (ρ : Nat → Addr) (n : Nat) (H : Hp) (t : T) (u : Value) : Prop := ∃ v, VR K ρ n H t v ∧ RelV v u
section
variable {K : PySem.W.Frag} {ρ : Nat → Addr} {n : Nat} {H : Hp}
theorem rl_of : ∀ {ts : List T} {vs : List V} {us : List Value}, VRs K ρ n H ts vs → Vals vs us → Rl (RU K ρ n H) ts us
  | _, _, _, .nil, .nil => .nil
  | _, _, _, .cons a b, .cons c d => .cons ⟨_, a, c⟩ (rl_of b d)
theorem of_rl : ∀ {ts : List T} {us : List Value}, Rl (RU K ρ n H) ts us → ∃ vs, VRs K ρ n H ts vs ∧ Vals vs us
  | _, _, .nil => ⟨[], .nil, .nil⟩
  | _, _, .cons ⟨v, a, b⟩ r => by
    obtain ⟨vs, q1, q2⟩ := of_rl r
    exact ⟨v :: vs, .cons a q1, .cons b q2⟩
theorem Rl.imp {α β : Type} {R S : α → β → Prop} (h : ∀ a b, R a b → S a b) : ∀ {as : List α} {bs : List β}, Rl R as bs → Rl S as bs
  | _, _, .nil => .nil
  | _, _, .cons a b => .cons (h _ _ a) (b.imp h)
theorem Rk.imp {α β : Type} {R S : α → β → Prop} (h : ∀ a b, R a b → S a b) : ∀ {as : List (Str × α)} {bs : List (Str × β)}, Rk R as bs → Rk S as bs
  | _, _, .nil => .nil
  | _, _, .cons a b => .cons (h _ _ a) (b.imp h)
theorem CV.ru {t : T} {u : Value} (c : CV K t u) : RU K ρ n H t u := let ⟨v, r, q⟩ := c; ⟨v, q _ _ _, r⟩
/-- bound by the evaluator, bound by the machine -/
theorem BindOk.run {fd : FuncData} {d : FD} (B : BindOk K fd d) {s : Shared} (KX : K.In s.heap) {ts tz xs : List T} {us uz : List Value} {ks : List Str} (r1 : Rl (RU K ρ n H) ts us) (r2 : Rl (RU K ρ n H) tz uz) (e : d.fill ts (ks.zip tz) = some xs) :
    ∃ ws vs, BindsTo s fd ⟨us, ks.zip uz⟩ ((d.ps ++ d.ko).zip ws) ∧ VRs K ρ n H xs vs ∧ Vals vs ws ∧ xs.length = (d.ps ++ d.ko).length := by
  obtain ⟨dl, d1, d2⟩ := B.df
  obtain ⟨kd, k1, k2⟩ := B.kd
  obtain ⟨ws, e2, r⟩ := bindA_rel r1 (Rk.zip r2) (d1.imp fun _ _ => CV.ru) (k1.imp fun _ _ => CV.ru) e
  obtain ⟨vs, q1, q2⟩ := of_rl r
  refine ⟨ws, vs, bind_run KX B.n1 B.n2 B.n3 B.n4 B.n5 d2 k2 e2, q1, q2, ?_⟩
  unfold FD.fill bindA at e
  split at e
  · rename_i c
    cases e
    simp only [Bool.and_eq_true, decide_eq_true_eq] at c
    rw [List.length_map]; exact c.2
  · cases e
end
theorem cl_at {Γ : Prog} {n : Nat} {key : Str × Option Str} {d : FD} (e : Γ.fns.lookup key = some d) (ts : List T) (kw : List (Str × T)) (h : LH) : cl Γ n key ts kw h = (match d.fill ts kw with
    | some xs => clB Γ n d xs h
    | none => .fail) := by
  unfold cl
  rw [e]
  dsimp only
  cases d.fill ts kw <;> rfl
section
variable {X : Cx} {E : XK} {Γ : Prog} {N : List Str} {n : Nat} {sc : Scope} {m : En → M T}
/-- a def runs -/
theorem run_cl {pins : List (Addr × Obj)} {σ : St} {H : Hp} {s : Shared} {Q : VK} {key : Str × Option Str} {d : FD} {ρ : Nat → Addr} {h : LH} {ts tz : List T} {us uz : List Value} {ks : List Str} (c : Cxt X E Γ N n sc) (e : Γ.fns.lookup key = some d)
    (I : Inv X pins σ H s) (S : Sim X.K ρ h H) (r1 : Rl (RU X.K ρ h.length H) ts us) (r2 : Rl (RU X.K ρ h.length H) tz uz) (W : Wg X.K E ρ h H (cl Γ n key ts (ks.zip tz) h) (qV X.K Q)) :
    wpAny (model X.prog X.w) X.A (call (.ref (addr X.K key)) us (ks.zip uz)) (EP X pins σ Q) X.xe s := by
  obtain ⟨fd, F, B⟩ := c.fns _ d e
  rw [cl_at e] at W
  cases ef : d.fill ts (ks.zip tz) with
  | none => rw [ef] at W; exact False.elim W
  | some xs =>
    rw [ef] at W
    obtain ⟨ws, vs, b1, b2, b3, b4⟩ := B.run I.kIn r1 r2 ef
    have hs : spC X.K Γ n d vs H Q E := ⟨by rw [← b2.len]; exact b4, ρ, h, xs, S, b2, W⟩
    refine wpAny_call (codeAny_mono (F.run X.A X.stack s H ⟨us, ks.zip uz⟩ ws vs Q E (c.room.mono (by omega)) I.env0 b1 b3 hs) fun r s' hq => ?_)
    cases r with
    | error e => exact c.ps pins σ H s e s' I hq
    | ok fl =>
      cases fl with
      | ret u => exact I.after hq
      | next => exact False.elim hq
      | brk => exact False.elim hq
      | cont => exact False.elim hq
/-- a def runs, somewhere below -/
theorem run_clA {A : Around} (room : Room (2 * n) A) (fr : A.frames = X.A.frames) {pins : List (Addr × Obj)} {σ : St} {H : Hp} {s : Shared} {Q : VK} {key : Str × Option Str} {d : FD} {ρ : Nat → Addr} {h : LH} {ts tz : List T} {us uz : List Value} {ks : List Str} (c : Cxt X E Γ N n sc) (e : Γ.fns.lookup key = some d)
    (I : Inv X pins σ H s) (S : Sim X.K ρ h H) (r1 : Rl (RU X.K ρ h.length H) ts us) (r2 : Rl (RU X.K ρ h.length H) tz uz) (W : Wg X.K E ρ h H (cl Γ n key ts (ks.zip tz) h) (qV X.K Q)) :
    wpAny (model X.prog X.w) A (call (.ref (addr X.K key)) us (ks.zip uz)) (EP X pins σ Q) X.xe s := by
  obtain ⟨fd, F, B⟩ := c.fns _ d e
  rw [cl_at e] at W
  cases ef : d.fill ts (ks.zip tz) with
  | none => rw [ef] at W; exact False.elim W
  | some xs =>
    rw [ef] at W
    obtain ⟨ws, vs, b1, b2, b3, b4⟩ := B.run I.kIn r1 r2 ef
    have e0 : Env0 X.prog X.w X.K X.mg X.base A X.stack s H := by
      have e := I.env0
      exact ⟨by rw [fr]; exact e.frames, e.mod, e.bs, e.bsz, e.funs, e.frf, e.hok, e.bare⟩
    have hs : spC X.K Γ n d vs H Q E := ⟨by rw [← b2.len]; exact b4, ρ, h, xs, S, b2, W⟩
    refine wpAny_call (codeAny_mono (F.run A X.stack s H ⟨us, ks.zip uz⟩ ws vs Q E room e0 b1 b3 hs) fun r s' hq => ?_)
    cases r with
    | error e => exact c.ps pins σ H s e s' I hq
    | ok fl =>
      cases fl with
      | ret u => exact I.after hq
      | next => exact False.elim hq
      | brk => exact False.elim hq
      | cont => exact False.elim hq
/-- == and != of instances by their own == -/
theorem opOwn (c : Cxt X E Γ N n sc) (ne : Bool) : OpR X (compareOp (if ne = true then CmpOp.NotEq else .Eq)) (r2B X.K E (ownEq (Phi Γ n) ne)) := by
  rintro pins s σ H x y v u Q I rx ry ⟨ρ, h, t, w, S, r1, r2, W⟩
  obtain ⟨k, e1, W2⟩ := Wg.rdH_ S (show Wg X.K E ρ h H (bnd (rdH fun h => eqcls (hasM Γ) Γ.nes ne h t w) (fun c => bnd (cl Γ n (c, some "__eq__") [t, w] []) fun v => match v with
    | .bl k => ret (if ne = true then !k else k)
    | _ => fl) h) _ from W)
  cases r1 with
  | @ref l hl =>
    cases r2 with
    | @ref l2 hl2 =>
      obtain rfl : v = Value.ref (ρ l) := rx
      obtain rfl : u = Value.ref (ρ l2) := ry
      unfold eqcls at e1
      dsimp only at e1
      cases h1 : h[l]? with
      | none => rw [h1] at e1; cases e1
      | some o1 =>
        cases h2 : h[l2]? with
        | none => rw [h1, h2] at e1; cases o1 <;> cases e1
        | some o2 =>
          rw [h1, h2] at e1
          cases o1 with
          | ins c1 f1 =>
            cases o2 with
            | ins c2 f2 =>
              dsimp only at e1
              by_cases cd : c1 = c2 ∧ hasM Γ (c1, some ("__eq__" : Str)) = true ∧ (ne = false ∨ c1 ∈ Γ.nes)
              · rw [if_pos cd] at e1
                cases e1
                obtain ⟨rfl, ha, hne⟩ := cd
                obtain ⟨d, e⟩ := hasM_of ha
                have me := c.md.mt _ _ d e
                obtain ⟨dx, fv, p, ea, hc, _⟩ := S.obj l _ h1
                obtain ⟨dx2, fv2, p2, eb, hc2, _⟩ := S.obj l2 _ h2
                obtain ⟨mA, J, _⟩ := ins_get I.hok ea
                obtain ⟨mB, J', _⟩ := ins_get I.hok eb
                obtain ⟨od, J, _⟩ := J.look
                obtain ⟨od', J', _⟩ := J'.look
                obtain ⟨m, hF⟩ := I.fr
                have W3 : Wg X.K E ρ h H (cl Γ n (k, some ("__eq__" : Str)) [.ref l, .ref l2] [] h) (qV X.K fun z H' => ∃ kk, z = .bl kk ∧ Q (.bl (if ne = true then !kk else kk)) H') := W2.bind fun z h4 ρ4 H4 g4 S4 W4 => by
                  intro z' rz
                  cases rz with
                  | bl k => exact ⟨k, rfl, W4 _ _ Grow.refl S4⟩
                  | _ => exact False.elim W4
                have ar : Rl (RU X.K ρ h.length H) [T.ref l, T.ref l2] [Value.ref (ρ l), Value.ref (ρ l2)] := .cons ⟨.ref (ρ l), VR.ref hl, rfl⟩ (.cons ⟨.ref (ρ l2), VR.ref hl2, rfl⟩ .nil)
                cases ne with
                | false =>
                  show wpAny (model X.prog X.w) X.A (richCompare .Eq (.ref (ρ l)) (.ref (ρ l2))) (EP X pins σ Q) X.xe s
                  refine PySem.W.cmp_K (op := .Eq) (tb := .ref (He.ga X.K k)) c.room.units0 hF I.ok.mod.kin J J'.type (by simp [PySem.W.notFirst]) me.at_ me.fn ?_
                  refine wpAny_mono (run_cl (key := (k, some ("__eq__" : Str))) (us := [.ref (ρ l), .ref (ρ l2)]) (uz := []) (tz := []) (ks := []) c e I S ar .nil W3) (fun z s' hz => ?_) fun _ _ e => e
                  obtain ⟨z', H', I', rz, k, rfl, q⟩ := hz
                  cases rz
                  exact ⟨.bl k, H', I', rfl, q⟩
                | true =>
                  show wpAny (model X.prog X.w) X.A (richCompare .NotEq (.ref (ρ l)) (.ref (ρ l2))) (EP X pins σ Q) X.xe s
                  obtain ⟨n1, n2⟩ := c.md.ne k (hne.resolve_left (by decide))
                  refine ne_K (by have := c.room.un; omega) hF I.ok.mod.kin J J' n1 n2 me.at_ me.fn ?_
                  refine wpAny_mono (run_clA (key := (k, some ("__eq__" : Str))) (us := [.ref (ρ l), .ref (ρ l2)]) (uz := []) (tz := []) (ks := []) c.room.in1 rfl c e I S ar .nil W3) (fun z s' hz => ?_) fun _ _ e => e
                  obtain ⟨z', H', I', rz, k, rfl, q⟩ := hz
                  cases rz
                  exact ⟨k, rfl, .bl (!k), H', I', rfl, q⟩
              · rw [if_neg cd] at e1; cases e1
            | _ => cases e1
          | _ => cases e1
    | _ => cases e1
  | _ => cases r2 <;> cases e1
/-- len of an instance -/
theorem lenOwn (c : Cxt X E Γ N n sc) : CallR X (.builtin "len") (rM X.K E (ownLen (Phi Γ n))) := by
  rintro pins s σ H xs us Q I rs ⟨ρ, h, ts, S, r, W⟩
  cases r with
  | nil => exact False.elim W
  | cons a b =>
    cases b with
    | cons _ _ => exact False.elim W
    | nil =>
      rename_i t v
      obtain ⟨k, e1, W2⟩ := Wg.rdH_ S (show Wg X.K E ρ h H (bnd (rdH fun h => mcls (hasM Γ) h t "__len__") (fun c => bnd (cl Γ n (c, some "__len__") [t] []) fun v => match v with
        | T.int i => if 0 ≤ i ∧ i < 2 ^ 63 then ret (T.int i) else (fl : M T)
        | _ => fl) h) (qV X.K Q) from W)
      obtain ⟨u, rfl, ru⟩ := vals1 rs
      cases a with
      | @ref l hl =>
        obtain rfl : u = Value.ref (ρ l) := ru
        unfold mcls at e1
        dsimp only at e1
        cases h1 : h[l]? with
        | none => rw [h1] at e1; cases e1
        | some o1 =>
          rw [h1] at e1
          cases o1 with
          | ins c1 f1 =>
            dsimp only at e1
            by_cases cd : (getF f1 "__len__").isNone = true ∧ hasM Γ (c1, some ("__len__" : Str)) = true
            · rw [if_pos cd] at e1
              cases e1
              obtain ⟨d, e⟩ := hasM_of cd.2
              have me := c.md.mt _ _ d e
              obtain ⟨dx, fv, p, ea, hc, _⟩ := S.obj l _ h1
              obtain ⟨mA, J, _⟩ := ins_get I.hok ea
              obtain ⟨od, J, _⟩ := J.look
              obtain ⟨m, hF⟩ := I.fr
              have W3 : Wg X.K E ρ h H (cl Γ n (k, some ("__len__" : Str)) [.ref l] [] h) (qV X.K fun z H' => ∃ i, z = .int i ∧ (0 ≤ i ∧ i < 2 ^ 63) ∧ Q (.int i) H') := W2.bind fun z h4 ρ4 H4 g4 S4 W4 => by
                intro z' rz
                cases rz with
                | int i =>
                  dsimp only at W4
                  split at W4
                  · rename_i ci
                    exact ⟨i, rfl, ci, Wg.ret_ S4 W4 _ (.int i)⟩
                  · exact False.elim W4
                | _ => exact False.elim W4
              have ar : Rl (RU X.K ρ h.length H) [T.ref l] [Value.ref (ρ l)] := .cons ⟨.ref (ρ l), VR.ref hl, rfl⟩ .nil
              refine PySem.W.len_K hF I.ok.mod.kin J me.at_ me.fn ?_
              refine wpAny_mono (run_clA (key := (k, some ("__len__" : Str))) (us := [.ref (ρ l)]) (uz := []) (tz := []) (ks := []) c.room.in1 rfl c e I S ar .nil W3) (fun z s' hz => ?_) fun _ _ e => e
              obtain ⟨z', H', I', rz, i, rfl, ci, q⟩ := hz
              obtain ⟨tk, rfl⟩ := rz
              exact ⟨ci, .int i, H', I'.tok _, ⟨_, rfl⟩, q⟩
            · rw [if_neg cd] at e1; cases e1
          | _ => cases e1
      | _ => cases e1
/-- the arguments' values, then the call -/
theorem run_args {pins : List (Addr × Obj)} {σ : St} {H : Hp} {s0 : Shared} {Q : Value → Shared → Prop} {args : Es} {ks : Ks} {es : List Expr} {kws : List Keyword} {pos : Pos} {f : Value} {first : List Value} {ρ : Nat → Addr} {h : LH} {s : En} {k : Kt T} {g : List T → List T → M T}
    (I : Inv X pins σ H s0) (hk : PySem.W.keepIn X.K f = true) (hp : es.all plainX = true) (hl : es.length = esLen args) (hks : chkKw Γ N ks sc kws = true)
    (A : PA X es (rdA X.K E (evs (Phi Γ n) args))) (P : PK X kws (rdA X.K E (evK (Phi Γ n) ks))) (S : Sim X.K ρ h H) (R : SR X.K ρ h.length H s σ)
    (W : Wg X.K E ρ h H (bnd (evs (Phi Γ n) args s) (fun xs => bnd (evK (Phi Γ n) ks s) fun zs => g xs zs) h) k)
    (fin : ∀ us uz ts tz ρ2 h2 H2 s2, Inv X pins σ H2 s2 → Grow h ρ H h2 ρ2 H2 → Sim X.K ρ2 h2 H2 → Rl (RU X.K ρ2 h2.length H2) ts us → Rl (RU X.K ρ2 h2.length H2) tz uz → Wg X.K E ρ2 h2 H2 (g ts tz h2) k →
      wpAny (model X.prog X.w) X.A (call f (first ++ us) ((ksN ks).zip uz)) Q X.xe s2) :
    wpAny (model X.prog X.w) X.A (callWith pos f first (backTo pos (starEach es X.env)) (backToKw pos (keywordEach kws X.env))) Q X.xe s0 := by
  obtain ⟨k1, k2, k3⟩ := chkKw_of (env := X.env) (pos := pos) ks hks
  have step2 : ∀ {us : List Value} {vs : List V} {ts : List T} {ρ1 : Nat → Addr} {h1 : LH} {H1 : Hp} {s1 : Shared}, Inv X pins σ H1 s1 → Vals vs us → Grow h ρ H h1 ρ1 H1 → Sim X.K ρ1 h1 H1 → VRs X.K ρ1 h1.length H1 ts vs →
      Wg X.K E ρ1 h1 H1 (bnd (evK (Phi Γ n) ks s) (fun zs => g ts zs) h1) k →
      wpAny (model X.prog X.w) X.A (evalAll ((backToKw pos (keywordEach kws X.env)).map (·.2))) (fun ws s₂ => X.K.In s₂.heap ∧ wpAny (model X.prog X.w) X.A (call f (first ++ us) (((backToKw pos (keywordEach kws X.env)).filterMap (·.1)).zip ws)) Q X.xe s₂) X.xe s1 :=
    fun {us vs ts ρ1 h1 H1 s1} I1 ru g1 S1 r1 W1 => by
      have K2 := P.run pos pins s1 σ H1 (fun zs H2 => ∃ ρ2 h2 tz, Grow h1 ρ1 H1 h2 ρ2 H2 ∧ Sim X.K ρ2 h2 H2 ∧ VRs X.K ρ2 h2.length H2 tz zs ∧ Wg X.K E ρ2 h2 H2 (g ts tz h2) k) I1
        ⟨ρ1, h1, s, S1, R.grow S g1, W1.bind fun tz h2 ρ2 H2 g2 S2 W2 => fun zs rz => ⟨ρ2, h2, tz, g2, S2, rz, W2⟩⟩
      refine thn K2 fun ws s2 ⟨zs, H2, I2, rw', ρ2, h2, tz, g2, S2, rz, W2⟩ => ⟨I2.kIn, ?_⟩
      rw [k2]
      exact fin us ws ts tz ρ2 h2 H2 s2 I2 (g1.trans g2) S2 (rl_of (r1.grow S1 g2) ru) (rl_of rz rw') W2
  cases es with
  | nil =>
    refine PySem.W.callWith_KW0 (h₀ := X.base) I.ok.mod.kin hk k1 ?_ (by show (false || _) = false; rw [k3]; rfl)
    cases args with
    | nil => exact step2 (us := []) (vs := []) (ts := []) I .nil Grow.refl S .nil W
    | cons _ _ => cases hl
  | cons e es =>
    have hp' := hp
    rw [List.all_cons, Bool.and_eq_true] at hp
    have A0 := A.run pos pins s0 σ H (fun vs H1 => ∃ ρ1 h1 ts, Grow h ρ H h1 ρ1 H1 ∧ Sim X.K ρ1 h1 H1 ∧ VRs X.K ρ1 h1.length H1 ts vs ∧ Wg X.K E ρ1 h1 H1 (bnd (evK (Phi Γ n) ks s) (fun zs => g ts zs) h1) k) I
      ⟨ρ, h, s, S, R, W.bind fun ts h1 ρ1 H1 g1 S1 W1 => fun vs rv => ⟨ρ1, h1, ts, g1, S1, rv, W1⟩⟩
    refine PySem.W.callWith_KW (h₀ := X.base) I.ok.mod.kin hk k1 (thn A0 fun us s1 ⟨vs, H1, I1, ru, ρ1, h1, ts, g1, S1, rv, W1⟩ => step2 I1 ru g1 S1 rv W1) ?_ (star_cons hp.1)
    rw [star_any hp', k3]; rfl
theorem gl_of (c : Cxt X E Γ N n sc) {x : Str} (hg : globB sc x = true) : Gl X x := by
  unfold Gl Env.kindOf
  rw [c.hsc]
  unfold globB at hg
  split at hg
  · assumption
  · cases hg
theorem nodbg {x : Str} (hn : okNm x = true) : (x == ("__debug__" : Str)) = false := by
  unfold okNm at hn
  simp only [Bool.and_eq_true, Bool.not_eq_true'] at hn
  exact hn.1
theorem ok_call {f x : Str} {args : Es} {ks : Ks} {es : List Expr} {kws : List Keyword} {p pos : Pos} (c : Cxt X E Γ N n sc) (hx : x = f) (hg : globB sc x = true) (hn : okNm x = true) (ha : hasM Γ (f, none) = true) (hl : es.length = esLen args) (hp : es.all plainX = true) (hks : chkKw Γ N ks sc kws = true)
    (A : PA X es (rdA X.K E (evs (Phi Γ n) args))) (P : PK X kws (rdA X.K E (evK (Phi Γ n) ks))) :
    PE X (.Call (.Name x p) es kws pos) (rdE X.K E (fun s => bnd (evs (Phi Γ n) args s) fun xs => bnd (evK (Phi Γ n) ks s) fun zs => cl Γ n (f, none) xs ((ksN ks).zip zs))) := by
  subst hx
  obtain ⟨d, e⟩ := hasM_of ha
  obtain ⟨m1, m2⟩ := c.md.fn _ d e
  refine ⟨fun pins s0 σ H Q I w => ?_⟩
  obtain ⟨ρ, h, s, S, R, W⟩ := w
  refine wpAny_Call_Name_kw (ld_glob I (gl_of c hg) m1 ?_ (nodbg hn))
  refine run_args (first := []) I m2 hp hl hks A P S R W fun us uz ts tz ρ2 h2 H2 s2 I2 g2 S2 r1 r2 W2 => ?_
  exact run_cl (key := (x, none)) c e I2 S2 r1 r2 W2
theorem ok_meth {mm : Str} {args : Es} {ks : Ks} {o : Expr} {es : List Expr} {kws : List Keyword} {apos pos : Pos} (c : Cxt X E Γ N n sc) (hb : baseOk o = true) (hln : (apos.endLine == pos.line) = true) (h30 : es.length + kws.length < 29) (hl : es.length = esLen args) (hp : es.all plainX = true) (hks : chkKw Γ N ks sc kws = true)
    (O : PE X o (rdE X.K E m)) (A : PA X es (rdA X.K E (evs (Phi Γ n) args))) (P : PK X kws (rdA X.K E (evK (Phi Γ n) ks))) :
    PE X (.Call (.Attribute o mm apos) es kws pos) (rdE X.K E (fun s => bnd (m s) fun x => bnd (rdH fun h => mcls (hasM Γ) h x mm) fun c => bnd (evs (Phi Γ n) args s) fun xs => bnd (evK (Phi Γ n) ks s) fun zs => cl Γ n (c, some mm) (x :: xs) ((ksN ks).zip zs))) := by
  refine ⟨fun pins s0 σ H Q I w => ?_⟩
  obtain ⟨ρ, h, s, S, R, W⟩ := w
  have ht := meth_ht (m := mm) (env := X.env) hb hln hp (chkKw_of (env := X.env) (pos := pos) ks hks).1 h30
  have W' : rdE X.K E m σ H fun x H1 => ∃ l ρ1 h1 k, Grow h ρ H h1 ρ1 H1 ∧ Sim X.K ρ1 h1 H1 ∧ l < h1.length ∧ x = .ref (ρ1 l) ∧ mcls (hasM Γ) h1 (.ref l) mm = some k ∧
      Wg X.K E ρ1 h1 H1 (bnd (evs (Phi Γ n) args s) (fun xs => bnd (evK (Phi Γ n) ks s) fun zs => cl Γ n (k, some mm) (.ref l :: xs) ((ksN ks).zip zs)) h1) (qV X.K Q) :=
    ⟨ρ, h, s, S, R, W.bind fun t h1 ρ1 H1 g S1 W1 => by
      intro v rv
      obtain ⟨k, e1, W2⟩ := Wg.rdH_ S1 W1
      cases rv with
      | @ref l hlt => exact ⟨l, ρ1, h1, k, g, S1, hlt, rfl, e1, W2⟩
      | _ => cases e1⟩
  refine PySem.W.methodCall_KW (thn (O.run pins s0 σ H _ I W') fun u s1 ⟨x, H1, I1, rx, l, ρ1, h1, k, g, S1, hlt, ex, e1, W2⟩ => ?_) ht
  subst ex
  obtain rfl : u = Value.ref (ρ1 l) := rx
  unfold mcls at e1
  dsimp only at e1
  cases ho : h1[l]? with
  | none => rw [ho] at e1; cases e1
  | some ob =>
    rw [ho] at e1
    cases ob with
    | ins cc fs =>
      dsimp only at e1
      by_cases cd : (getF fs mm).isNone = true ∧ hasM Γ (cc, some mm) = true
      · rw [if_pos cd] at e1
        cases e1
        obtain ⟨d, e⟩ := hasM_of cd.2
        have me := c.md.mt _ _ d e
        obtain ⟨dx, fv, p, ea, hc, hn⟩ := S1.obj l _ ho
        refine getmeth_ok I1 ea hc me (noF_of p (Option.isNone_iff_eq_none.mp cd.1)) ?_
        refine run_args (first := [.ref (ρ1 l)]) I1 me.kp hp hl hks A P S1 (R.grow S g) W2 fun us uz ts tz ρ2 h2 H2 s2 I2 g2 S2 r1 r2 W3 => ?_
        exact run_cl (key := (k, some mm)) (us := .ref (ρ1 l) :: us) c e I2 S2 (.cons ⟨.ref (ρ1 l), (VR.ref (K := X.K) (ρ := ρ1) (H := H1) hlt).grow S1 g2, rfl⟩ r1) r2 W3
      · rw [if_neg cd] at e1; cases e1
    | _ => cases e1
theorem ok_new {f x : Str} {args : Es} {ks : Ks} {es : List Expr} {kws : List Keyword} {p pos : Pos} (c : Cxt X E Γ N n sc) (hx : x = f) (hg : globB sc x = true) (hn : okNm x = true) (ha : hasM Γ (f, some ("__init__" : Str)) = true) (hl : es.length = esLen args) (hp : es.all plainX = true) (hks : chkKw Γ N ks sc kws = true)
    (A : PA X es (rdA X.K E (evs (Phi Γ n) args))) (P : PK X kws (rdA X.K E (evK (Phi Γ n) ks))) :
    PE X (.Call (.Name x p) es kws pos) (rdE X.K E (fun s => bnd (evs (Phi Γ n) args s) fun xs => bnd (evK (Phi Γ n) ks s) fun zs => bnd (neu (.ins f [])) fun y => bnd (cl Γ n (f, some ("__init__" : Str)) (y :: xs) ((ksN ks).zip zs)) fun v => if v = .non then ret y else fl)) := by
  subst hx
  obtain ⟨d, e⟩ := hasM_of ha
  obtain ⟨m1, m2, m3⟩ := c.md.mak _ d e
  refine ⟨fun pins s0 σ H Q I w => ?_⟩
  obtain ⟨ρ, h, s, S, R, W⟩ := w
  refine wpAny_Call_Name_kw (ld_glob I (gl_of c hg) m2 ?_ (nodbg hn))
  refine run_args (g := fun xs zs => bnd (neu (.ins x [])) fun y => bnd (cl Γ n (x, some ("__init__" : Str)) (y :: xs) ((ksN ks).zip zs)) fun v => if v = .non then ret y else fl) (first := []) I m1.kp hp hl hks A P S R W fun us uz ts tz ρ1 h1 H1 s1 I1 g1 S1 r1 r2 W1 => ?_
  -- the new instance
  have hy : H1 (s1.heap.objs.size + 1) = none := I1.hok.fresh (Nat.le_succ _)
  have hdx : H1 s1.heap.objs.size = none := I1.hok.fresh (Nat.le_refl _)
  have hne : s1.heap.objs.size ≠ s1.heap.objs.size + 1 := Nat.ne_of_lt (Nat.lt_succ_self _)
  have I2 := Inv.made (C := He.ga X.K x) I1
  obtain ⟨S2, g2⟩ := S1.more (upd_ext (x := HO.own (s1.heap.objs.size + 1)) hdx)
  have hy2 : upd H1 s1.heap.objs.size (HO.own (s1.heap.objs.size + 1)) (s1.heap.objs.size + 1) = none := by rw [upd_ne (Ne.symm hne)]; exact hy
  have ho : OR X.K (put1 ρ1 h1.length (s1.heap.objs.size + 1)) (h1.length + 1) (upd (upd H1 s1.heap.objs.size (HO.own (s1.heap.objs.size + 1))) (s1.heap.objs.size + 1) (.ins (He.ga X.K x) s1.heap.objs.size [])) (.ins x []) (s1.heap.objs.size + 1) := ⟨_, [], .nil, upd_same, m3, fun p hp => by cases hp⟩
  obtain ⟨S3, g3⟩ := S2.neu hy2 (upd_ext hy2) rfl ho
  have g23 := g2.trans g3
  have W2 : Wg X.K E (put1 ρ1 h1.length (s1.heap.objs.size + 1)) (h1 ++ [LO.ins x []]) (upd (upd H1 s1.heap.objs.size (HO.own (s1.heap.objs.size + 1))) (s1.heap.objs.size + 1) (.ins (He.ga X.K x) s1.heap.objs.size [])) (bnd (cl Γ n (x, some ("__init__" : Str)) (.ref h1.length :: ts) ((ksN ks).zip tz)) (fun v => if v = .non then ret (T.ref h1.length) else fl) (h1 ++ [LO.ins x []])) (qV X.K Q) :=
    Wg.from_ g23 W1
  have rx : VR X.K (put1 ρ1 h1.length (s1.heap.objs.size + 1)) (h1 ++ [LO.ins x []]).length (upd (upd H1 s1.heap.objs.size (HO.own (s1.heap.objs.size + 1))) (s1.heap.objs.size + 1) (.ins (He.ga X.K x) s1.heap.objs.size [])) (.ref h1.length) (.ref (s1.heap.objs.size + 1)) := by
    have := VR.ref (K := X.K) (ρ := put1 ρ1 h1.length (s1.heap.objs.size + 1)) (H := upd (upd H1 s1.heap.objs.size (HO.own (s1.heap.objs.size + 1))) (s1.heap.objs.size + 1) (.ins (He.ga X.K x) s1.heap.objs.size [])) (show h1.length < (h1 ++ [LO.ins x []]).length by simp)
    rwa [put1_at] at this
  have W3 : Wg X.K E (put1 ρ1 h1.length (s1.heap.objs.size + 1)) (h1 ++ [LO.ins x []]) (upd (upd H1 s1.heap.objs.size (HO.own (s1.heap.objs.size + 1))) (s1.heap.objs.size + 1) (.ins (He.ga X.K x) s1.heap.objs.size [])) (cl Γ n (x, some ("__init__" : Str)) (.ref h1.length :: ts) ((ksN ks).zip tz) (h1 ++ [LO.ins x []])) (qV X.K fun v H2 => v = .non ∧ Q (.ref (s1.heap.objs.size + 1)) H2) := W2.bind fun v h4 ρ4 H4 g4 S4 W4 => by
    intro w rw'
    by_cases cv : v = .non
    · rw [if_pos cv] at W4
      subst cv
      cases rw'
      exact ⟨rfl, Wg.ret_ S4 W4 _ (rx.grow S3 g4)⟩
    · rw [if_neg cv] at W4; exact False.elim W4
  -- its __init__ runs
  obtain ⟨fd, F, B⟩ := c.fns _ d e
  rw [cl_at e] at W3
  cases ef : d.fill (.ref h1.length :: ts) ((ksN ks).zip tz) with
  | none => rw [ef] at W3; exact False.elim W3
  | some xs =>
    rw [ef] at W3
    have ru : ∀ t u, RU X.K ρ1 h1.length H1 t u → RU X.K (put1 ρ1 h1.length (s1.heap.objs.size + 1)) (h1 ++ [LO.ins x []]).length (upd (upd H1 s1.heap.objs.size (HO.own (s1.heap.objs.size + 1))) (s1.heap.objs.size + 1) (.ins (He.ga X.K x) s1.heap.objs.size [])) t u := fun t u ⟨v, a, b⟩ => ⟨v, a.grow S1 g23, b⟩
    obtain ⟨ws, vs, b1, b2, b3, b4⟩ := B.run I2.kIn (us := .ref (s1.heap.objs.size + 1) :: us) (.cons ⟨.ref (s1.heap.objs.size + 1), rx, rfl⟩ (r1.imp ru)) (r2.imp ru) ef
    have hs : spC X.K Γ n d vs _ (fun v H2 => v = .non ∧ Q (.ref (s1.heap.objs.size + 1)) H2) E := ⟨by rw [← b2.len]; exact b4, _, _, xs, S3, b2, W3⟩
    refine wpAny_call (make_map (f := He.ma X.K (He.ga X.K x) ("__init__" : Str)) I1.kIn m1.makes m1.init (beq_iff_eq.mp m1.fn) (codeAny_mono (F.run _ X.stack _ _ ⟨Value.ref (s1.heap.objs.size + 1) :: us, (ksN ks).zip uz⟩ ws vs _ E (Room.make (k := 2 * n) c.room (He.ga X.K x) us ((ksN ks).zip uz))
      (I2.env0.make (He.ga X.K x) us ((ksN ks).zip uz)) b1 b3 hs) fun r s' hq' => ?_))
    cases r with
    | error e => exact c.ps pins σ _ _ e s' I2 hq'
    | ok fl =>
      cases fl with
      | ret u =>
        obtain ⟨v, H', I3, rv, ev, q3⟩ := I2.after hq'
        subst ev
        exact ⟨rv, ⟨V.ref (s1.heap.objs.size + 1), H', I3, rfl, q3⟩⟩
      | next => exact False.elim hq'
      | brk => exact False.elim hq'
      | cont => exact False.elim hq'
end
end Y

/-! max with a default, xs[::-1] by runs -/
namespace Y
open PySem PySem.Spec L2 PyProof.Rows
abbrev dfS : Str := Str.ofString "default"
section
variable {X : Cx} {E : XK} {m m2 : En → M T}
theorem VRs.rev {K : PySem.W.Frag} {ρ : Nat → Addr} {n : Nat} {H : Hp} : ∀ {ts : List T} {vs : List V}, VRs K ρ n H ts vs → VRs K ρ n H ts.reverse vs.reverse
  | _, _, .nil => .nil
  | _, _, .cons r rs => by
    rw [List.reverse_cons, List.reverse_cons]
    exact rs.rev.append (.cons r .nil)
def rMaxK (X : Cx) (E : XK) : List V → List V → Hp → VK → Prop := fun xs zs H Q => ∃ ρ h t u, Sim X.K ρ h H ∧ VRs X.K ρ h.length H [t] xs ∧ VRs X.K ρ h.length H [u] zs ∧ Wg X.K E ρ h H (maxM t u h) (qV X.K Q)
theorem maxKD (hc : X.calm = true) : CallRK X (.builtin "max") [dfS] (rMaxK X E) := by
  rintro pins s σ H xs zs us ws Q I rs rz ⟨ρ, h, t, u, S, r, r2, W⟩
  obtain ⟨v, rfl, rv⟩ := r.inv1
  obtain ⟨w, rfl, rw'⟩ := r2.inv1
  obtain ⟨z, e, q⟩ := Wg.opt_ S (show Wg X.K E ρ h H (opt (((lstOf h t).bind intsOf).bind fun ns => (intOf u).map fun i => T.int (if ns = [] then i else maxI ns)) h) _ from W)
  obtain ⟨ns, e1, e2⟩ := Option.bind_eq_some_iff.mp e
  obtain ⟨xs, e3, e4⟩ := Option.bind_eq_some_iff.mp e1
  obtain ⟨i, e5, rfl⟩ := Option.map_eq_some_iff.mp e2
  obtain ⟨a, vs, rfl, a2, a3⟩ := lst_of S rv e3
  have := intsOf_V a3 e4
  subst this
  have eu : u = .int i := by
    cases u <;> first | (cases e5; rfl) | cases e5
  subst eu
  cases rw'
  obtain rfl := Vals.ref1 rs
  obtain ⟨w1, rfl, t1, rfl⟩ := vals1 rz
  obtain ⟨its, rv2, hl, _⟩ := I.list a2
  refine maxD_raw (I.ok.hd hc) hl.isList rv2.ints fun h' tk v hk hv => ?_
  rcases hv with ⟨rfl, rfl⟩ | ⟨M, t', rfl, m1, m2⟩
  · exact ⟨.int _, H, I.kept hk, ⟨_, rfl⟩, q _ (.int _)⟩
  · have ne : ns ≠ [] := fun e => by subst e; cases m1
    refine ⟨.int M, H, I.kept hk, ⟨_, rfl⟩, ?_⟩
    have := q _ (.int _)
    rw [if_neg ne, maxI_is m1 m2] at this
    exact this
theorem rd_maxd : ∀ σ H Q, rdE X.K E (fun s => bnd (m s) fun x => bnd (m2 s) fun y => maxM x y) σ H Q → tCKw (rMaxK X E) (tCons (rdE X.K E m) tNil) (tCons (rdE X.K E m2) tNil) σ H Q := by
  rintro σ H Q ⟨ρ, h, s, S, R, W⟩
  refine ⟨ρ, h, s, S, R, W.bind fun t h1 ρ1 H1 g S1 W1 => ?_⟩
  intro v rv
  refine ⟨ρ1, h1, s, S1, R.grow S g, W1.bind fun u h2 ρ2 H2 g2 S2 W2 => ?_⟩
  intro w rw'
  exact ⟨ρ2, h2, t, u, S2, .cons (rv.grow S1 g2) .nil, .cons rw' .nil, W2⟩
theorem rd_rev : ∀ σ H Q, rdE X.K E (fun s => bnd (m s) revM) σ H Q → tRevL X.K (rdE X.K E m) σ H Q := by
  rintro σ H Q ⟨ρ, h, s, S, R, W⟩
  refine ⟨ρ, h, s, S, R, W.bind fun t h1 ρ1 H1 g S1 W1 => ?_⟩
  intro v rv
  have W' : Wg X.K E ρ1 h1 H1 (match lstOf h1 t with
    | some xs => neu (.lst xs.reverse) h1
    | none => .fail) (qV X.K Q) := W1
  cases e : lstOf h1 t with
  | none => rw [e] at W'; exact False.elim W'
  | some xs =>
    rw [e] at W'
    obtain ⟨a, vs, rfl, a2, a3⟩ := lst_of S1 rv e
    exact ⟨a, vs, rfl, a2, k_lst S1 W' a3.rev⟩
end
end Y

/-! L3n: the check is sound for expressions. -/
namespace Y
open PySem PySem.Spec L2
section
variable {X : Cx} {E : XK} {Γ : Prog} {N : List Str} {n : Nat} {sc : Scope} {m m1 m2 m3 : En → M T}
theorem Cxt.gl (c : Cxt X E Γ N n sc) {x : Str} (h : globB sc x = true) : Gl X x := by
  unfold Gl Env.kindOf
  rw [c.hsc]
  unfold globB at h
  split at h
  · assumption
  · cases h
theorem Cxt.vis (c : Cxt X E Γ N n sc) {x : Str} (h : visB sc x = true) : Vis X.env.scope x := by
  unfold Vis
  rw [c.hsc]
  unfold visB at h
  split at h
  · exact .inl (by assumption)
  · exact .inr (.inl (by assumption))
  · exact .inr (.inr (by assumption))
  · cases h
theorem okNm_of {x : Str} (h : okNm x = true) : (x == ("__debug__" : Str)) = false ∧ (x == ("__classdict__" : Str)) = false := by
  unfold okNm at h
  simp only [Bool.and_eq_true, Bool.not_eq_true'] at h
  exact h
theorem Cxt.u (c : Cxt X E Γ N n sc) : X.A.units + 64 < cLine := c.room.units
theorem Cxt.u65 (c : Cxt X E Γ N n sc) : X.A.units + 65 < cLine := by have := c.room.un; omega
theorem ok_var {i : Nat} {x : Str} {p : Pos} (c : Cxt X E Γ N n sc) (h1 : N[i]? = some x) (h2 : visB sc x = true) (h3 : okNm x = true) : PE X (.Name x p) (rdE X.K E (fun s => getV s i)) :=
  PE.imp (pe_var (by rw [c.hN]; exact h1) (c.vis h2) (okNm_of h3).1 (okNm_of h3).2) rd_var
theorem ok_cst {t : T} {k : Const} {j : Nat} {p : Pos} (h : cstB t k = true) : PE X (.Constant k j p) (rdE X.K E (fun _ => ret t)) := by
  cases t <;> cases k <;> first | cases h; done | skip
  · exact PE.imp pe_non (rd_c fun _ _ _ => .non)
  · cases eq_of_beq h; exact PE.imp pe_bl (rd_c fun _ _ _ => .bl _)
  · cases eq_of_beq h; exact PE.imp pe_int (rd_c fun _ _ _ => .int _)
  · cases of_decide_eq_true h; exact PE.imp pe_str (rd_c fun _ _ _ => .str _)
theorem ok_glo {x y : Str} {t : T} {p : Pos} (c : Cxt X E Γ N n sc) (h2 : globB sc x = true) (h3 : okNm x = true) (h4 : Γ.cs.lookup x = some t) : PE X (.Name x p) (rdE X.K E (fun _ => ret t)) := by
  obtain ⟨v, ⟨u, hu, rv⟩, r⟩ := c.md.cst x t h4
  exact PE.imp (pe_glob (c.gl h2) hu rv (okNm_of h3).1) (rd_c r)
theorem ok_fld {f : Str} {e : Expr} {p : Pos} (hb : baseOk e = true) (A : PE X e (rdE X.K E m)) : PE X (.Attribute e f p) (rdE X.K E (fun s => bnd (m s) fun x => fldT x f)) := PE.imp (pe_fld A (base_of hb)) rd_fld
theorem ok_ix {e i : Expr} {p : Pos} (c : Cxt X E Γ N n sc) (hb : noSlice i = true) (A : PE X e (rdE X.K E m1)) (B : PE X i (rdE X.K E m2)) : PE X (.Subscript e i p) (rdE X.K E (fun s => bnd (m1 s) fun x => bnd (m2 s) fun y => ixT x y)) :=
  PE.imp (pe_ix (opIx c.u) A B (plainIx_of hb)) rd_op
theorem ok_maxd {k : Str} {e1 e2 : Expr} {p kp pos : Pos} (c : Cxt X E Γ N n sc) (hg : globB sc (bfN .maxL) = true) (hbl : bfN .maxL ∈ Γ.bl) (hp : plainX e1 = true) (hk : k = dfK) (A : PE X e1 (rdE X.K E m1)) (B : PE X e2 (rdE X.K E m2)) :
    PE X (.Call (.Name (bfN .maxL) p) [e1] [⟨some k, e2, kp⟩] pos) (rdE X.K E (fun s => bnd (m1 s) fun x => bnd (m2 s) fun y => maxM x y)) := by
  subst hk
  have g := c.gl hg
  have mm := c.md.blt _ hbl
  have h1 := star_cons (env := X.env) (es := []) hp
  refine PE.imp ?_ rd_maxd
  exact pe_callBK (ks := [dfS]) (maxKD c.calm) g mm (by decide +kernel) (pa_cons A pa_nil h1) (pk_cons B pk_nil) (by decide) (by decide) (by rw [h1]; rfl) (by rw [h1]; rfl) (by rfl) (by rfl) (by rfl)
theorem ok_bi {f : BF} {args : Es} {e : Expr} {es : List Expr} {p pos : Pos} (c : Cxt X E Γ N n sc) (hg : globB sc (bfN f) = true) (hbl : bfN f ∈ Γ.bl) (hp : (e :: es).all plainX = true)
    (A : PA X (e :: es) (rdA X.K E (evs (Phi Γ n) args))) : PE X (.Call (.Name (bfN f) p) (e :: es) [] pos) (rdE X.K E (fun s => bnd (evs (Phi Γ n) args s) fun xs => biF f xs)) := by
  have g := c.gl hg
  have mm := c.md.blt _ hbl
  rw [List.all_cons, Bool.and_eq_true] at hp
  have h1 := star_cons (env := X.env) (es := es) hp.1
  have h2 := star_any (pos := pos) (env := X.env) hp.2
  refine PE.imp ?_ rd_cb
  cases f with
  | len => exact pe_callB lenD g mm (by decide +kernel) A (by decide) (by decide) h1 h2
  | abs => exact pe_callB absD g mm (by decide +kernel) A (by decide) (by decide) h1 h2
  | max2 => exact pe_callB (maxD c.calm) g mm (by decide +kernel) A (by decide) (by decide) h1 h2
  | min2 => exact pe_callB (minD c.calm) g mm (by decide +kernel) A (by decide) (by decide) h1 h2
  | int => exact pe_callTy intD g mm (by decide +kernel) A (by decide) (by decide) h1 h2
  | sum => exact pe_callB (sumD c.calm) g mm (by decide +kernel) A (by decide) (by decide) h1 h2
  | all => exact pe_callB (allD c.calm) g mm (by decide +kernel) A (by decide) (by decide) h1 h2
  | any => exact pe_callB (anyD c.calm) g mm (by decide +kernel) A (by decide) (by decide) h1 h2
  | list => exact pe_callTy listD g mm (by decide +kernel) A (by decide) (by decide) h1 h2
  | tuple => exact pe_callTy tupleD g mm (by decide +kernel) A (by decide) (by decide) h1 h2
  | listD => exact pe_callTy (listDD c.calm) g mm (by decide +kernel) A (by decide) (by decide) h1 h2
  | dictD => exact pe_callTy dictDD g mm (by decide +kernel) A (by decide) (by decide) h1 h2
  | sorted => exact pe_callB sortedD g mm (by decide +kernel) A (by decide) (by decide) h1 h2
  | str => exact pe_callTy strD g mm (by decide +kernel) A (by decide) (by decide) h1 h2
  | minL => exact pe_callB (minLD c.calm) g mm (by decide +kernel) A (by decide) (by decide) h1 h2
  | maxL => exact pe_callB (maxLD c.calm) g mm (by decide +kernel) A (by decide) (by decide) h1 h2
theorem ok_olen {args : Es} {e : Expr} {es : List Expr} {p pos : Pos} (c : Cxt X E Γ N n sc) (hg : globB sc ("len" : Str) = true) (hbl : ("len" : Str) ∈ Γ.bl) (hp : (e :: es).all plainX = true)
    (A : PA X (e :: es) (rdA X.K E (evs (Phi Γ n) args))) : PE X (.Call (.Name ("len" : Str) p) (e :: es) [] pos) (rdE X.K E (fun s => bnd (evs (Phi Γ n) args s) fun xs => ownLen (Phi Γ n) xs)) := by
  have g := c.gl hg
  have mm := c.md.blt _ hbl
  have hp' := hp
  rw [List.all_cons, Bool.and_eq_true] at hp
  have h1 := star_cons (env := X.env) (es := es) hp.1
  have h2 := star_any (pos := pos) (env := X.env) hp.2
  exact PE.imp (pe_callB (lenOwn c) g mm (by decide +kernel) A (by decide) (by decide) h1 h2) rd_cb
theorem ok_bm {md : BM} {args : Es} {o : Expr} {es : List Expr} {apos pos : Pos} (hu : X.A.units + 65 < cLine) (hm : (is0 md || !es.isEmpty) = true) (hb : baseOk o = true) (hln : (apos.endLine == pos.line) = true) (h29 : es.length < 29) (hl : es.length = esLen args) (hp : es.all plainX = true)
    (O : PE X o (rdE X.K E m)) (A : PA X es (rdA X.K E (evs (Phi Γ n) args))) :
    PE X (.Call (.Attribute o (bmN md) apos) es [] pos) (rdE X.K E (fun s => bnd (m s) fun x => bnd (rdH fun h => bmK md h x) fun _ => bnd (evs (Phi Γ n) args s) fun xs => bmF md x xs)) := by
  have hbase : attributeBase o (bmN md) X.env (eval o X.env) = eval o X.env := base_of hb
  cases es with
  | nil =>
    cases args with
    | nil =>
      have hm0 : is0 md = true := by simpa using hm
      by_cases hc : md = .dclear
      · subst hc
        exact PE.imp (pe_bm0 F.plainAttrs_dict F.slot_dict_clear F.type_dict_clear dclearD O hbase hln) (rd_bmD0 rfl)
      by_cases hu : md = .supper
      · subst hu
        exact PE.imp (pe_bm0 F.plainAttrs_str F.slot_str_upper F.type_str_upper supperD O hbase hln) (rd_bmS0 rfl)
      have hm2 : (isLm md && !(decide (md = .popi) || decide (md = .lindex))) = true := by
        unfold is0 at hm0
        rw [decide_eq_false hc, decide_eq_false hu, Bool.or_false, Bool.or_false] at hm0
        exact hm0
      have hm' : isLm md = true := (Bool.and_eq_true_iff.mp hm2).1
      refine PE.imp ?_ (rd_bm0 hm')
      cases md with
      | dupd => cases hm'
      | dget => cases hm'
      | dpop => cases hm'
      | dclear => cases hm'
      | sjoin => cases hm'
      | sstrip => cases hm'
      | supper => cases hm'
      | sindex => cases hm'
      | popi => cases hm2
      | lindex => cases hm2
      | append => exact pe_bm0 F.plainAttrs_list F.slot_list_append F.type_list_append appendD O hbase hln
      | clear => exact pe_bm0 F.plainAttrs_list F.slot_list_clear F.type_list_clear clearD O hbase hln
      | pop => exact pe_bm0 F.plainAttrs_list F.slot_list_pop F.type_list_pop popD O hbase hln
      | extend => exact pe_bm0 F.plainAttrs_list F.slot_list_extend F.type_list_extend extendD O hbase hln
    | cons _ _ => cases hl
  | cons e es =>
    have hp' := hp
    rw [List.all_cons, Bool.and_eq_true] at hp
    have h1 := star_cons (env := X.env) (es := es) hp.1
    have h2 := star_any (pos := pos) (env := X.env) hp.2
    have hfew : ((backTo pos (starEach (e :: es) X.env)).all (fun x => !x.1) && (backToKw pos (keywordEach [] X.env)).all (fun x => x.1.isSome)
      && decide ((e :: es).length + ([] : List Keyword).length + (if ([] : List Keyword).isEmpty then 0 else 1) < 30)) = true := by
      rw [star_all hp']
      show (true && true && decide ((e :: es).length + 0 + 0 < 30)) = true
      rw [decide_eq_true (by omega)]; rfl
    cases md with
    | dupd => exact PE.imp (pe_bm F.plainAttrs_dict F.slot_dict_update F.type_dict_update dupdD O A hbase hfew hln h1 h2) (rd_bmD rfl)
    | dget => exact PE.imp (pe_bm F.plainAttrs_dict F.slot_dict_get F.type_dict_get (dgetD (by omega)) O A hbase hfew hln h1 h2) (rd_bmD rfl)
    | dpop => exact PE.imp (pe_bm F.plainAttrs_dict F.slot_dict_pop F.type_dict_pop dpopD O A hbase hfew hln h1 h2) (rd_bmD rfl)
    | dclear => exact PE.imp (pe_bm F.plainAttrs_dict F.slot_dict_clear F.type_dict_clear dclearD O A hbase hfew hln h1 h2) (rd_bmD rfl)
    | sjoin => exact PE.imp (pe_bm F.plainAttrs_str F.slot_str_join F.type_str_join sjoinD O A hbase hfew hln h1 h2) (rd_bmS (.inl rfl))
    | popi => exact PE.imp (pe_bm F.plainAttrs_list F.slot_list_pop F.type_list_pop popiD O A hbase hfew hln h1 h2) (rd_bm rfl)
    | lindex => exact PE.imp (pe_bm F.plainAttrs_list F.slot_list_index F.type_list_index (lindexD hu) O A hbase hfew hln h1 h2) (rd_bm rfl)
    | sstrip => exact PE.imp (pe_bm F.plainAttrs_str F.slot_str_strip F.type_str_strip sstripD O A hbase hfew hln h1 h2) (rd_bmS (.inr (.inl rfl)))
    | supper => exact PE.imp (pe_bm F.plainAttrs_str F.slot_str_upper F.type_str_upper supperD O A hbase hfew hln h1 h2) (rd_bmS (.inr (.inr (.inl rfl))))
    | sindex => exact PE.imp (pe_bm F.plainAttrs_str F.slot_str_index F.type_str_index sindexD O A hbase hfew hln h1 h2) (rd_bmS (.inr (.inr (.inr rfl))))
    | append => exact PE.imp (pe_bm F.plainAttrs_list F.slot_list_append F.type_list_append appendD O A hbase hfew hln h1 h2) (rd_bm rfl)
    | clear => exact PE.imp (pe_bm F.plainAttrs_list F.slot_list_clear F.type_list_clear clearD O A hbase hfew hln h1 h2) (rd_bm rfl)
    | pop => exact PE.imp (pe_bm F.plainAttrs_list F.slot_list_pop F.type_list_pop popD O A hbase hfew hln h1 h2) (rd_bm rfl)
    | extend => exact PE.imp (pe_bm F.plainAttrs_list F.slot_list_extend F.type_list_extend extendD O A hbase hfew hln h1 h2) (rd_bm rfl)
/-! ### isinstance -/
theorem boot_ty (t : Ty) (h : t ≠ .none) : bootBuiltins (tyS t) = some (.type (tyN t)) ∧ tyS t ≠ ("__name__" : Str) ∧ (tyS t == ("__debug__" : Str)) = false := by
  cases t with
  | none => exact absurd rfl h
  | bool => exact ⟨by decide +kernel, by decide, by decide⟩
  | int => exact ⟨by decide +kernel, by decide, by decide⟩
  | str => exact ⟨by decide +kernel, by decide, by decide⟩
  | tuple => exact ⟨by decide +kernel, by decide, by decide⟩
  | list => exact ⟨by decide +kernel, by decide, by decide⟩
  | dict => exact ⟨by decide +kernel, by decide, by decide⟩
theorem ok_kd {k : Kd} {e : Expr} (c : Cxt X E Γ N n sc) (h : chkK Γ sc k e = true) : ∃ v, ClsV v (kdV X.K k) ∧ PE X e (tC v) := by
  cases k with
  | ty t =>
    cases e with
    | Name x p =>
      unfold chkK at h
      simp only [Bool.and_eq_true, decide_eq_true_eq] at h
      obtain ⟨⟨⟨h1, h2⟩, h3⟩, h4⟩ := h
      obtain ⟨b1, b2, b3⟩ := boot_ty t h1
      subst h2
      exact ⟨.ty (tyN t), .ty _, pe_bltn (c.gl h3) (c.md.blt _ h4) b1 rfl b2 b3⟩
    | _ => cases h
  | cls d =>
    cases e with
    | Name x p =>
      unfold chkK at h
      simp only [Bool.and_eq_true, decide_eq_true_eq] at h
      obtain ⟨⟨⟨h1, h2⟩, h3⟩, h4⟩ := h
      subst h1
      exact ⟨.ref (He.ga X.K x), .own _, pe_glob (c.gl h2) (c.md.clg _ h4) rfl (okNm_of h3).1⟩
    | _ => cases h
theorem ok_kds (c : Cxt X E Γ N n sc) : ∀ {ks : List Kd} {es : List Expr}, chkKs Γ sc ks es = true → ∃ (vs : List V) (t : TA), Paired ClsV vs (ks.map (kdV X.K)) ∧ vs.length = es.length ∧ PA X es t ∧ ∀ σ H (Q : List V → Hp → Prop), Q vs H → t σ H Q
  | [], [], _ => ⟨[], tNil, .nil, rfl, pa_nil, fun _ _ _ q => q⟩
  | [], _ :: _, h => by cases h
  | _ :: _, [], h => by cases h
  | k :: ks, e :: es, h => by
    unfold chkKs at h
    simp only [Bool.and_eq_true] at h
    obtain ⟨v, h1, h2⟩ := ok_kd c h.1.2
    obtain ⟨vs, t, q1, q2, q3, q4⟩ := ok_kds c h.2
    exact ⟨v :: vs, _, .cons h1 q1, by rw [List.length_cons, List.length_cons, q2], pa_cons h2 q3 (star_cons h.1.1), fun σ H Q q => q4 σ H _ q⟩
theorem ok_isi {cs : List Kd} {tp : Bool} {v k : Expr} {p pos : Pos} (c : Cxt X E Γ N n sc) (hg : globB sc ("isinstance" : Str) = true) (hbl : ("isinstance" : Str) ∈ Γ.bl) (hv : plainX v = true) (hk : plainX k = true) (hc : cs.all (kdOk Γ.cls) = true) (h : chkIs Γ sc cs tp k = true)
    (A : PE X v (rdE X.K E m)) : PE X (.Call (.Name ("isinstance" : Str) p) [v, k] [] pos) (rdE X.K E (fun s => bnd (m s) fun x => bnd (rdH fun h => isiH Γ.cls h x cs) fun b => ret (.bl b))) := by
  have g := c.gl hg
  have mm := c.md.blt _ hbl
  have h1 := star_cons (env := X.env) (es := [k]) hv
  have h2 : (backTo pos (starEach [k] X.env)).any (·.1) = false := star_any (by rw [List.all_cons, hk]; rfl)
  cases tp with
  | false =>
    unfold chkIs at h
    cases cs with
    | nil => cases h
    | cons k0 ks =>
      cases ks with
      | cons _ _ => cases h
      | nil =>
        dsimp only at h
        rw [Bool.and_eq_true] at h
        obtain ⟨w, hw, P⟩ := ok_kd c h.2
        rw [List.all_cons, Bool.and_eq_true] at hc
        exact PE.imp (pe_callB call_isi g mm (by decide +kernel) (pa_cons A (pa_cons P pa_nil (star_cons hk)) h1) (by decide) (by decide) h1 h2) (rd_isi1 c.md.isi hc.1 hw)
  | true =>
    cases k with
    | Tuple es kk pp =>
      unfold chkIs at h
      dsimp only at h
      rw [Bool.and_eq_true, decide_eq_true_eq] at h
      obtain ⟨vs, t, q1, q2, q3, q4⟩ := ok_kds c h.2
      exact PE.imp (pe_callB call_isiT g mm (by decide +kernel) (pa_cons A (pa_cons (pe_tup q3) pa_nil (star_cons hk)) h1) (by decide) (by decide) h1 h2) (rd_isiT c.md.isi hc q1 (by rw [q2]; exact Nat.le_trans h.1 (by rw [sizeLine_eq]; decide)) q4)
    | _ => cases h
end
end Y

/-! L3o: the check is sound: targets, sources, comprehensions, all expressions. -/
namespace Y
open PySem PySem.Spec L2
section
variable {X : Cx} {Γ : Prog} {N : List Str} {st : Str → Bool}
theorem chkGs_len : ∀ (gs : Gs) {es : List Expr}, chkGs N st gs es = true → es.length = gsLen gs ∧ es.all plainX = true
  | .nil, [], _ => ⟨rfl, rfl⟩
  | .nil, _ :: _, h => by unfold chkGs at h; cases h
  | .cons _ _, [], h => by unfold chkGs at h; cases h
  | .cons g gs, e :: es, h => by
    unfold chkGs at h
    simp only [Bool.and_eq_true] at h
    obtain ⟨h1, h2⟩ := chkGs_len gs h.2
    unfold gsLen
    exact ⟨by rw [List.length_cons, h1], by rw [List.all_cons, h.1.1, h2]; rfl⟩
mutual
theorem sndG (hc : X.calm = true) (hN : X.N = N) (nd : N.Nodup) (hst : ∀ x, st x = true → Loc X.env.scope x ∧ (X.fn x = true ∨ X.env.scope.names.lookup x = some .local)) : ∀ (g : G) {e : Expr}, chkG N st g e = true → PG X e (gOf X.K g)
  | .name i, e, h => by
    unfold chkG at h
    cases e with
    | Name x p =>
      simp only [Bool.and_eq_true, decide_eq_true_eq] at h
      obtain ⟨h1, h2⟩ := hst x h.2
      subst hN
      exact pg_name nd h.1 h1 h2
    | _ => cases h
  | .tup gs, e, h => by
    unfold chkG at h
    cases e with
    | Tuple es k p =>
      obtain ⟨h1, h2⟩ := chkGs_len gs h
      exact pg_tup hc (sndGs hc hN nd hst gs h) (by rw [asg_len h2, h1]) (asg_find h2)
    | _ => cases h
theorem sndGs (hc : X.calm = true) (hN : X.N = N) (nd : N.Nodup) (hst : ∀ x, st x = true → Loc X.env.scope x ∧ (X.fn x = true ∨ X.env.scope.names.lookup x = some .local)) : ∀ (gs : Gs) {es : List Expr}, chkGs N st gs es = true → PGs X es (gsOf X.K gs)
  | .nil, [], _ => pgs_nil
  | .nil, _ :: _, h => by unfold chkGs at h; cases h
  | .cons _ _, [], h => by unfold chkGs at h; cases h
  | .cons g gs, e :: es, h => by
    unfold chkGs at h
    simp only [Bool.and_eq_true] at h
    exact pgs_cons (sndG hc hN nd hst g h.1.2) (sndGs hc hN nd hst gs h.2) (by rw [asg_cons h.1.1]; rfl)
end
theorem chkSt_len {i : Nat} {env : Env} : ∀ (gs : Gs) {es : List Expr}, chkSt N st i gs es = true → (assignEach es env).length = gsLen gs + 1 ∧ (assignEach es env).findIdx? (·.1) = some (gsLen gs)
  | .nil, es, h => by
    unfold chkSt at h
    split at h
    · exact ⟨rfl, rfl⟩
    · cases h
  | .cons g gs, [], h => by unfold chkSt at h; cases h
  | .cons g gs, e :: es, h => by
    unfold chkSt at h
    simp only [Bool.and_eq_true] at h
    obtain ⟨h1, h2⟩ := chkSt_len (env := env) gs h.2
    unfold gsLen
    rw [asg_cons h.1.1, List.findIdx?_cons, h2]
    exact ⟨by rw [List.length_cons, h1], rfl⟩
theorem sndSt (hc : X.calm = true) (hN : X.N = N) (nd : N.Nodup) (hst : ∀ x, st x = true → Loc X.env.scope x ∧ (X.fn x = true ∨ X.env.scope.names.lookup x = some .local)) {i : Nat} : ∀ (gs : Gs) {es : List Expr}, chkSt N st i gs es = true → PGs X es (gsSt X.K i gs)
  | .nil, es, h => by
    unfold chkSt at h
    split at h
    · simp only [Bool.and_eq_true, decide_eq_true_eq] at h
      obtain ⟨h1, h2⟩ := hst _ h.2
      subst hN
      exact pgs_star (pg_name nd h.1 h1 h2)
    · cases h
  | .cons g gs, [], h => by unfold chkSt at h; cases h
  | .cons g gs, e :: es, h => by
    unfold chkSt at h
    simp only [Bool.and_eq_true] at h
    exact pgs_cons (sndG hc hN nd hst g h.1.2) (sndSt hc hN nd hst gs h.2) (by rw [asg_cons h.1.1]; rfl)
theorem sndM (hc : X.calm = true) (hN : X.N = N) (nd : N.Nodup) (hst : ∀ x, st x = true → Loc X.env.scope x ∧ (X.fn x = true ∨ X.env.scope.names.lookup x = some .local)) : ∀ (m : GM) {e : Expr}, chkM N st m e = true → PG X e (gmOf X.K m)
  | .g g, e, h => sndG hc hN nd hst g h
  | .star gs i, e, h => by
    unfold chkM at h
    cases e with
    | Tuple es k p =>
      obtain ⟨h1, h2⟩ := chkSt_len (env := X.env) gs h
      exact pg_star hc (sndSt hc hN nd hst gs h) h1 h2
    | _ => cases h
  | .pair g m, e, h => by
    unfold chkM at h
    split at h
    · simp only [Bool.and_eq_true] at h
      obtain ⟨⟨⟨h1, h2⟩, h3⟩, h4⟩ := h
      refine pg_tup hc (pgs_cons (sndG hc hN nd hst g h3) (pgs_cons (sndM hc hN nd hst m h4) pgs_nil (by rw [asg_cons h2]; rfl)) (by rw [asg_cons h1]; rfl)) (by rw [asg_cons h1, asg_cons h2]; rfl) (by rw [asg_cons h1, asg_cons h2]; rfl)
    · cases h
end
section
variable {X : Cx} {E : XK} {Γ : Prog} {N : List Str} {n : Nat} {sc : Scope} {m m1 m2 : En → M T}
theorem ok_rng1 {tg y : Expr} {p pos : Pos} (c : Cxt X E Γ N n sc) (hg : globB sc ("range" : Str) = true) (hbl : ("range" : Str) ∈ Γ.bl) (hy : plainX y = true) (A : PE X y (rdE X.K E m)) : PI X tg (.Call (.Name ("range" : Str) p) [y] [] pos) (rdI X.K E (fun s => bnd (m s) fun x => match x with
    | .int j => if rngOk j = true then ret (rngT 0 j.toNat, []) else fl
    | _ => fl)) := PI.imp (pi_range1 (c.gl hg) (c.md.blt _ hbl) (pa_cons A pa_nil (star_cons hy)) (star_cons hy)) rd_rng1
theorem ok_rng2 {tg y z : Expr} {p pos : Pos} (c : Cxt X E Γ N n sc) (hg : globB sc ("range" : Str) = true) (hbl : ("range" : Str) ∈ Γ.bl) (hy : plainX y = true) (hz : plainX z = true) (A : PE X y (rdE X.K E m1)) (B : PE X z (rdE X.K E m2)) :
    PI X tg (.Call (.Name ("range" : Str) p) [y, z] [] pos) (rdI X.K E (fun s => bnd (m1 s) fun x => bnd (m2 s) fun y => match x, y with
    | .int i, .int j => if rngOk i = true ∧ rngOk j = true then ret (rngT i (j - i).toNat, []) else fl
    | _, _ => fl)) := PI.imp (pi_range2 (c.gl hg) (c.md.blt _ hbl) (pa_cons A (pa_cons B pa_nil (star_cons hz)) (star_cons hy)) (by rw [star_cons hy, star_cons hz]; rfl) (star_cons hz)) rd_rng2
theorem ok_enum {tg y : Expr} {p pos : Pos} (c : Cxt X E Γ N n sc) (hg : globB sc ("enumerate" : Str) = true) (hbl : ("enumerate" : Str) ∈ Γ.bl) (ht : isTup tg = true) (hy : plainX y = true) (A : PE X y (rdE X.K E m)) :
    PI X tg (.Call (.Name ("enumerate" : Str) p) [y] [] pos) (rdI X.K E (fun s => bnd (m s) fun x => bnd (walkT x) fun p => ret (enumT 0 p.1, p.2))) := by
  cases tg with
  | Tuple es k pp => exact PI.imp (pi_enumA (c.gl hg) (c.md.blt _ hbl) (pa_cons A pa_nil (star_cons hy)) (star_cons hy)) rd_enum
  | _ => cases ht
theorem ok_zip {tg y z : Expr} {p pos : Pos} (c : Cxt X E Γ N n sc) (hg : globB sc ("zip" : Str) = true) (hbl : ("zip" : Str) ∈ Γ.bl) (ht : isTup tg = true) (hy : plainX y = true) (hz : plainX z = true) (A : PE X y (rdE X.K E m1)) (B : PE X z (rdE X.K E m2)) :
    PI X tg (.Call (.Name ("zip" : Str) p) [y, z] [] pos) (rdI X.K E (fun s => bnd (m1 s) fun x => bnd (m2 s) fun y => zipM x y)) := by
  cases tg with
  | Tuple es k pp => exact PI.imp (RZ.pi_zipA (c.gl hg) (c.md.blt _ hbl) (pa_cons A (pa_cons B pa_nil (star_cons hz)) (star_cons hy)) (star_cons hy) (star_any (by rw [List.all_cons, hz]; rfl))) rd_zip
  | _ => cases ht
theorem ok_zipN {tg y z : Expr} {p pos : Pos} (c : Cxt X E Γ N n sc) (hg : globB sc ("zip" : Str) = true) (hbl : ("zip" : Str) ∈ Γ.bl) (ht : isTup tg = true) (hy : plainX y = true) (hz : plainX z = true) (A : PE X y (rdE X.K E m1)) (B : PE X z (rdE X.K E m2)) :
    PI X tg (.Call (.Name ("zip" : Str) p) [y, z] [] pos) (rdI X.K E (fun s => bnd (m1 s) fun x => bnd (m2 s) fun y => zipU x y)) := by
  cases tg with
  | Tuple es k pp => exact PI.imp (RZ.pi_zipA (c.gl hg) (c.md.blt _ hbl) (pa_cons A (pa_cons B pa_nil (star_cons hz)) (star_cons hy)) (star_cons hy) (star_any (by rw [List.all_cons, hz]; rfl))) rd_zipU
  | _ => cases ht
theorem ok_zipS {tg y z : Expr} {p p2 kp pos : Pos} {j : Nat} (c : Cxt X E Γ N n sc) (hg : globB sc ("zip" : Str) = true) (hbl : ("zip" : Str) ∈ Γ.bl) (ht : isTup tg = true) (hy : plainX y = true) (hz : plainX z = true) (A : PE X y (rdE X.K E m1)) (B : PE X z (rdE X.K E m2)) :
    PI X tg (.Call (.Name ("zip" : Str) p) [y, z] [⟨some "strict", .Constant (.bool true) j p2, kp⟩] pos) (rdI X.K E (fun s => bnd (m1 s) fun x => bnd (m2 s) fun y => zipM x y)) := by
  cases tg with
  | Tuple es k pp => exact PI.imp (pi_zipS (c.gl hg) (c.md.blt _ hbl) (pa_cons A (pa_cons B pa_nil (star_cons hz)) (star_cons hy)) (star_cons hy) (star_any (by rw [List.all_cons, List.all_cons, hy, hz]; rfl))) rd_zipS
  | _ => cases ht
theorem PTs.imp {ifs : List Expr} {t u : TT} (p : PTs X ifs t) (q : ∀ σ H Q, u σ H Q → t σ H Q) : PTs X ifs u := ⟨fun pins s σ H Q I w => p.run pins s σ H Q I (q σ H Q w)⟩
theorem rd_yes : ∀ σ H Q, rdT X.K E (fun _ => ret true) σ H Q → tYes σ H Q := by
  rintro σ H Q ⟨ρ, h, s, S, R, W⟩
  exact Wg.ret_ S W
/-- names a comprehension stores -/
theorem blk_st {scope : Scope} {s : Shared} {H : Hp} {cl : List (Str × Addr)} {C : Addr} {fp : List Addr} (hsc : X.env.scope = sc) : ∀ x, stB scope x = true → Loc (X.blk s H scope (compEnvC scope cl C X.env) fp).env.scope x ∧
    ((X.blk s H scope (compEnvC scope cl C X.env) fp).fn x = true ∨ (X.blk s H scope (compEnvC scope cl C X.env) fp).env.scope.names.lookup x = some .local) := by
  intro x hx
  subst hsc
  unfold stB at hx
  split at hx
  · rename_i e
    have k : (relS scope X.env.scope).names.lookup x = some .local := lookup_relS_keep (by decide) e
    exact ⟨.inl k, .inr k⟩
  · rename_i e
    have k : (relS scope X.env.scope).names.lookup x = some .cell := lookup_relS_keep (by decide) e
    refine ⟨.inr k, .inl ?_⟩
    show (scope.names.lookup x == some .cell) = true
    rw [e]; rfl
  · cases hx
end
mutual
theorem sndE {Γ : Prog} {N : List Str} {n : Nat} : ∀ (a : E) {X : Cx} {E : XK} {sc : Scope} {e : Expr}, Cxt X E Γ N n sc → chkE Γ N a sc e = true → PE X e (rdE X.K E (ev (Phi Γ n) a))
  | .var i, X, E, sc, e, c, h => by
    unfold chkE at h
    cases e with
    | Name x p =>
      simp only [Bool.and_eq_true, decide_eq_true_eq] at h
      exact ok_var c h.1.1 h.1.2 h.2
    | _ => cases h
  | .cst t, X, E, sc, e, c, h => by
    unfold chkE at h
    cases e with
    | Constant k j p => exact ok_cst h
    | _ => cases h
  | .glo y t, X, E, sc, e, c, h => by
    unfold chkE at h
    cases e with
    | Name x p =>
      simp only [Bool.and_eq_true, decide_eq_true_eq] at h
      exact ok_glo (y := y) c h.1.1.2 h.1.2 h.2
    | _ => cases h
  | .tup es, X, E, sc, e, c, h => by
    unfold chkE at h
    cases e with
    | Tuple l k p => exact PE.imp (pe_tup (sndEs es c h)) rd_tup
    | _ => cases h
  | .lst es, X, E, sc, e, c, h => by
    unfold chkE at h
    cases e with
    | List l p => exact PE.imp (pe_lst (sndEs es c h)) rd_lst
    | _ => cases h
  | .dic ps, X, E, sc, e, c, h => by
    unfold chkE at h
    cases e with
    | Dict ks vs p =>
      simp only [Bool.and_eq_true, decide_eq_true_eq] at h
      obtain ⟨⟨⟨h1, h2⟩, h3⟩, h4⟩ := h
      obtain ⟨q1, q2⟩ := sndPs ps (pos := p) c h4
      exact PE.imp (pe_disp q1 q2 h2 (fun z => by rw [z] at h3; cases h3) h1) (rd_disp ps)
    | _ => cases h
  | .dict0 tk, X, E, sc, e, c, h => by
    unfold chkE at h
    split at h
    · cases tk with
      | false => exact PE.imp pe_dnewK rd_newK
      | true => exact PE.imp pe_dnewT rd_newT
    · cases h
  | .bin o a b, X, E, sc, e, c, h => by
    unfold chkE at h
    cases e with
    | BinOp l o' r p =>
      simp only [Bool.and_eq_true, decide_eq_true_eq] at h
      obtain ⟨⟨h1, h2⟩, h3⟩ := h
      subst h1
      exact PE.imp (pe_op opBin (sndE a c h2) (sndE b c h3)) rd_op
    | _ => cases h
  | .neg a, X, E, sc, e, c, h => by
    unfold chkE at h
    split at h
    · exact PE.imp (pe_un un_neg (sndE a c h)) rd_neg
    · cases h
  | .cmp o a b, X, E, sc, e, c, h => by
    unfold chkE at h
    split at h
    · simp only [Bool.and_eq_true, decide_eq_true_eq, Bool.not_eq_true'] at h
      obtain ⟨⟨⟨h1, h2⟩, h3⟩, h4⟩ := h
      subst h1
      exact PE.imp (pe_cmpR (opCmp c.u65) (sndE a c h3) (sndE b c h4) h2) rd_cmp
    · cases h
  | .chain o1 o2 a b d, X, E, sc, e, c, h => by
    unfold chkE at h
    split at h
    · simp only [Bool.and_eq_true, decide_eq_true_eq, Bool.not_eq_true'] at h
      obtain ⟨⟨⟨⟨⟨h1, h2⟩, h3⟩, h4⟩, h5⟩, h6⟩ := h
      subst h1 h2
      exact PE.imp (pe_chain (opCmp c.u65) (opCmp c.u65) (sndE a c h4) (sndE b c h5) (sndE d c h6) h3) rd_chain
    · cases h
  | .and2 a b, X, E, sc, e, c, h => by
    unfold chkE at h
    split at h
    · rw [Bool.and_eq_true] at h
      exact PE.imp (pe_andT (sndE a c h.1) (pe_one (sndE b c h.2))) rd_and
    · rw [Bool.and_eq_true] at h
      exact PE.imp (pe_andT (sndE a c h.1) (sndE b c h.2)) rd_and
    · cases h
  | .or2 a b, X, E, sc, e, c, h => by
    unfold chkE at h
    split at h
    · rw [Bool.and_eq_true] at h
      exact PE.imp (pe_orT (sndE a c h.1) (pe_one (sndE b c h.2))) rd_or
    · rw [Bool.and_eq_true] at h
      exact PE.imp (pe_orT (sndE a c h.1) (sndE b c h.2)) rd_or
    · cases h
  | .not a, X, E, sc, e, c, h => by
    unfold chkE at h
    split at h
    · exact PE.imp (pe_notT (sndE a c h)) rd_not
    · cases h
  | .ite t a b, X, E, sc, e, c, h => by
    unfold chkE at h
    split at h
    · simp only [Bool.and_eq_true] at h
      exact PE.imp (pe_ifExp (sndB t c h.1.1) (sndE a c h.1.2) (sndE b c h.2)) rd_if
    · cases h
  | .fld a f, X, E, sc, e, c, h => by
    unfold chkE at h
    split at h
    · simp only [Bool.and_eq_true, decide_eq_true_eq] at h
      obtain ⟨⟨h1, h2⟩, h3⟩ := h
      subst h1
      exact ok_fld h2 (sndE a c h3)
    · cases h
  | .ix a b, X, E, sc, e, c, h => by
    unfold chkE at h
    split at h
    · simp only [Bool.and_eq_true] at h
      exact ok_ix c h.1.1 (sndE a c h.1.2) (sndE b c h.2)
    · cases h
  | .slc a lo hi, X, E, sc, e, c, h => by
    unfold chkE at h
    split at h
    · simp only [Bool.and_eq_true] at h
      exact PE.imp (pe_slice slL (sndE a c h.1.1) (sndO lo c h.1.2) (sndO hi c h.2)) rd_slc
    · cases h
  | .call f args ks, X, E, sc, e, c, h => by
    unfold chkE at h
    split at h
    · simp only [Bool.and_eq_true, decide_eq_true_eq] at h
      obtain ⟨⟨⟨⟨⟨h1, h2⟩, h3⟩, h4⟩, h5⟩, h6⟩ := h
      obtain ⟨l1, l2⟩ := chkEs_len args h5
      exact ok_call c h1 h2 h3 h4 l1 l2 h6 (sndEs args c h5) (sndKw ks c h6)
    · cases h
  | .new f args ks, X, E, sc, e, c, h => by
    unfold chkE at h
    split at h
    · simp only [Bool.and_eq_true, decide_eq_true_eq] at h
      obtain ⟨⟨⟨⟨⟨h1, h2⟩, h3⟩, h4⟩, h5⟩, h6⟩ := h
      obtain ⟨l1, l2⟩ := chkEs_len args h5
      exact ok_new c h1 h2 h3 h4 l1 l2 h6 (sndEs args c h5) (sndKw ks c h6)
    · cases h
  | .meth a mm args ks, X, E, sc, e, c, h => by
    unfold chkE at h
    split at h
    · simp only [Bool.and_eq_true, decide_eq_true_eq] at h
      obtain ⟨⟨⟨⟨⟨⟨h1, h2⟩, h3⟩, h4⟩, h5⟩, h6⟩, h7⟩ := h
      subst h1
      obtain ⟨l1, l2⟩ := chkEs_len args h6
      exact ok_meth c h2 h3 h4 l1 l2 h7 (sndE a c h5) (sndEs args c h6) (sndKw ks c h7)
    · cases h
  | .bi f args, X, E, sc, e, c, h => by
    unfold chkE at h
    split at h
    · simp only [Bool.and_eq_true, decide_eq_true_eq] at h
      obtain ⟨⟨⟨h1, h2⟩, h3⟩, h4⟩ := h
      subst h1
      exact ok_bi c h2 h3 (chkEs_len args h4).2 (sndEs args c h4)
    · cases h
  | .bm a md args, X, E, sc, e, c, h => by
    unfold chkE at h
    split at h
    · simp only [Bool.and_eq_true, decide_eq_true_eq] at h
      obtain ⟨⟨⟨⟨⟨⟨h1, h2⟩, h3⟩, h4⟩, h0⟩, h5⟩, h6⟩ := h
      subst h1
      obtain ⟨l1, l2⟩ := chkEs_len args h6
      exact ok_bm c.u65 h0 h2 h3 h4 l1 l2 (sndE a c h5) (sndEs args c h6)
    · cases h
  | .isi a cs tp, X, E, sc, e, c, h => by
    unfold chkE at h
    split at h
    · simp only [Bool.and_eq_true, decide_eq_true_eq] at h
      obtain ⟨⟨⟨⟨⟨⟨⟨h1, h2⟩, h3⟩, h4⟩, h5⟩, h6⟩, h7⟩, h8⟩ := h
      subst h1
      exact ok_isi c h2 h3 h4 h5 h7 h8 (sndE a c h6)
    · cases h
  | .lc g src cd el own, X, E, sc, e, c, h => by
    unfold chkE at h
    split at h
    · simp only [Bool.and_eq_true] at h
      obtain ⟨⟨⟨⟨⟨⟨h1, h2⟩, h3⟩, h4⟩, h5⟩, h6⟩, h7⟩ := h
      have bk := blkOk_by h1
      have hN : X.N.Nodup := by rw [c.hN]; exact c.nd
      refine PE.imp (pe_lc c.calm hN (sndI src c h5) (by rw [c.hN, c.hsc]; exact bk) (fun s H C cl fp => sndG (X := X.blk s H _ _ fp) c.calm c.hN c.nd (blk_st c.hsc) g h4) (fun s H C cl fp => sndF cd c.blk h6) (fun s H C cl fp => sndE el c.blk h7) (folded_of h3)) (rd_lc fun i hi => ?_)
      have := List.all_eq_true.mp h2 i hi
      simpa using this
    · cases h
  | .maxd a d, X, E, sc, e, c, h => by
    unfold chkE at h
    split at h
    · simp only [Bool.and_eq_true, decide_eq_true_eq] at h
      obtain ⟨⟨⟨⟨⟨⟨h1, h2⟩, h3⟩, h4⟩, h5⟩, h6⟩, h7⟩ := h
      subst h1
      exact ok_maxd c h3 h4 h5 h2 (sndE a c h6) (sndE d c h7)
    · cases h
  | .revE a, X, E, sc, e, c, h => by
    unfold chkE at h
    split at h
    · exact PE.imp (pe_revL (sndE a c h)) rd_rev
    · cases h
  | .lc2 g src g1 src1 el own vs1, X, E, sc, e, c, h => by
    unfold chkE at h
    split at h
    · simp only [Bool.and_eq_true] at h
      obtain ⟨⟨⟨⟨⟨⟨⟨⟨⟨⟨h1, h2⟩, h3⟩, h4⟩, h5⟩, h6⟩, h7⟩, h8⟩, h9⟩, h10⟩, h11⟩ := h
      have bk := blkOk_by h1
      have hN : X.N.Nodup := by rw [c.hN]; exact c.nd
      refine PE.imp (pe_lc2 (tt := rdT X.K E0 fun _ => ret true) (tt1 := rdT X.K E0 fun _ => ret true) c.calm hN (sndI src c h8) (by rw [c.hN, c.hsc]; exact bk) (fun i hi => by have := List.all_eq_true.mp h4 i hi; simpa using this)
        (fun s H C cl fp => sndG (X := X.blk s H _ _ fp) c.calm c.hN c.nd (blk_st c.hsc) g h7) (fun s H C cl fp => PTs.imp pts_nil rd_yes) (fun s H C cl fp => sndI src1 c.blk h10) (fun s H C cl fp => sndG (X := X.blk s H _ _ fp) c.calm c.hN c.nd (blk_st c.hsc) g1 h9) (fun s H C cl fp => PTs.imp pts_nil rd_yes) (fun s H C cl fp => sndE el c.blk h11) (folded_of h5) (fun env => folded_of h6))
        (rd_lc2 (fun i hi => ?_) fun i hi => ?_)
      · have := List.all_eq_true.mp h2 i hi
        simpa using this
      · have := List.all_eq_true.mp h3 i hi
        simpa using this
    · cases h
  | .lzip a b, X, E, sc, e, c, h => by
    unfold chkE at h
    split at h
    · simp only [Bool.and_eq_true, decide_eq_true_eq] at h
      obtain ⟨⟨⟨⟨⟨⟨⟨⟨⟨h1, h2⟩, h3⟩, h4⟩, h5⟩, h6⟩, h7⟩, h8⟩, h9⟩, h10⟩ := h
      subst h1 h2
      exact PE.imp (pe_lzip c.calm (c.gl h3) (c.md.blt _ h5) (c.gl h4) (c.md.blt _ h6) (pa_cons (sndE a c h9) (pa_cons (sndE b c h10) pa_nil (star_cons h8)) (star_cons h7)) (star_cons h7) (star_any (by rw [List.all_cons, h8]; rfl)) (star_cons rfl)) rd_lzip
    · cases h
  | .lockE d a, X, E, sc, e, c, h => by
    unfold chkE at h
    exact PE.imp (pe_lock (sndE a c h)) rd_lockE
  | .olen args, X, E, sc, e, c, h => by
    unfold chkE at h
    split at h
    · simp only [Bool.and_eq_true, decide_eq_true_eq] at h
      obtain ⟨⟨⟨h1, h2⟩, h3⟩, h4⟩ := h
      subst h1
      exact ok_olen c h2 h3 (chkEs_len args h4).2 (sndEs args c h4)
    · cases h
  | .oeq ne a b, X, E, sc, e, c, h => by
    unfold chkE at h
    split at h
    · simp only [Bool.and_eq_true, decide_eq_true_eq, Bool.not_eq_true'] at h
      obtain ⟨⟨⟨h1, h2⟩, h3⟩, h4⟩ := h
      subst h1
      exact PE.imp (pe_cmpR (opOwn c ne) (sndE a c h3) (sndE b c h4) h2) rd_cmp
    · cases h
  | .nev, X, E, sc, e, c, h => ⟨fun pins s σ H Q I w => by
    obtain ⟨ρ, h, t, S, R, W⟩ := w
    exact False.elim W⟩
  | .lrg1 tp a, X, E, sc, e, c, h => by
    unfold chkE at h
    split at h
    · simp only [Bool.and_eq_true, decide_eq_true_eq] at h
      obtain ⟨⟨⟨⟨⟨⟨⟨h1, h2⟩, h3⟩, h4⟩, h5⟩, h6⟩, h7⟩, h8⟩ := h
      subst h1 h2
      cases tp with
      | true => exact PE.imp (pe_tupRg c.calm (c.gl h3) (c.md.blt _ h5) (prg_1 (c.gl h4) (c.md.blt _ h6) (sndE a c h8) (star_cons h7)) (star_cons rfl)) rd_tupRg1
      | false => exact PE.imp (pe_listRg c.calm (c.gl h3) (c.md.blt _ h5) (prg_1 (c.gl h4) (c.md.blt _ h6) (sndE a c h8) (star_cons h7)) (star_cons rfl)) rd_lstRg1
    · cases h
  | .lrg2 tp a b, X, E, sc, e, c, h => by
    unfold chkE at h
    split at h
    · simp only [Bool.and_eq_true, decide_eq_true_eq] at h
      obtain ⟨⟨⟨⟨⟨⟨⟨⟨⟨h1, h2⟩, h3⟩, h4⟩, h5⟩, h6⟩, h7⟩, h8⟩, h9⟩, h10⟩ := h
      subst h1 h2
      cases tp with
      | true => exact PE.imp (pe_tupRg c.calm (c.gl h3) (c.md.blt _ h5) (prg_2 (c.gl h4) (c.md.blt _ h6) (sndE a c h9) (sndE b c h10) (star_cons h7) (star_cons h8) (star_any (by rw [List.all_cons, h8]; rfl))) (star_cons rfl)) rd_tupRg2
      | false => exact PE.imp (pe_listRg c.calm (c.gl h3) (c.md.blt _ h5) (prg_2 (c.gl h4) (c.md.blt _ h6) (sndE a c h9) (sndE b c h10) (star_cons h7) (star_cons h8) (star_any (by rw [List.all_cons, h8]; rfl))) (star_cons rfl)) rd_lstRg2
    · cases h
theorem sndEs {Γ : Prog} {N : List Str} {n : Nat} : ∀ (as : Es) {X : Cx} {E : XK} {sc : Scope} {es : List Expr}, Cxt X E Γ N n sc → chkEs Γ N as sc es = true → PA X es (rdA X.K E (evs (Phi Γ n) as))
  | .nil, X, E, sc, [], c, h => ⟨fun pos pins s σ H Q I w => pa_nil.run pos pins s σ H Q I (rd_nil σ H Q w)⟩
  | .nil, X, E, sc, _ :: _, c, h => by unfold chkEs at h; cases h
  | .cons _ _, X, E, sc, [], c, h => by unfold chkEs at h; cases h
  | .cons a as, X, E, sc, e :: es, c, h => by
    unfold chkEs at h
    simp only [Bool.and_eq_true] at h
    exact PA.imp (pa_cons (sndE a c h.1.2) (sndEs as c h.2) (star_cons h.1.1)) rd_cons
theorem sndKw {Γ : Prog} {N : List Str} {n : Nat} : ∀ (ks : Ks) {X : Cx} {E : XK} {sc : Scope} {l : List Keyword}, Cxt X E Γ N n sc → chkKw Γ N ks sc l = true → PK X l (rdA X.K E (evK (Phi Γ n) ks))
  | .nil, X, E, sc, [], c, h => ⟨fun pos pins s σ H Q I w => pk_nil.run pos pins s σ H Q I (rd_nil σ H Q w)⟩
  | .nil, X, E, sc, _ :: _, c, h => by unfold chkKw at h; cases h
  | .cons _ _ _, X, E, sc, [], c, h => by unfold chkKw at h; cases h
  | .cons k a as, X, E, sc, ⟨none, e, p⟩ :: l, c, h => by unfold chkKw at h; cases h
  | .cons k a as, X, E, sc, ⟨some x, e, p⟩ :: l, c, h => by
    unfold chkKw at h
    simp only [Bool.and_eq_true] at h
    exact ⟨fun pos pins s σ H Q I w => (pk_cons (sndE a c h.1.2) (sndKw as c h.2)).run pos pins s σ H Q I (rd_cons σ H Q w)⟩
theorem sndPs {Γ : Prog} {N : List Str} {n : Nat} : ∀ (ps : Ps) {X : Cx} {E : XK} {sc : Scope} {ks : List (Option Expr)} {vs : List Expr} {pos : Pos}, Cxt X E Γ N n sc → chkPs Γ N ps sc ks vs = true → PPs X pos ks vs (trsOf X.K E (Phi Γ n) ps) ∧ ks.all (·.isSome) = true
  | .nil, X, E, sc, ks, vs, pos, c, h => by
    unfold chkPs at h
    split at h
    · exact ⟨pps_nil, rfl⟩
    · cases h
  | .cons k v ps, X, E, sc, ks, vs, pos, c, h => by
    unfold chkPs at h
    split at h
    · simp only [Bool.and_eq_true] at h
      obtain ⟨q1, q2⟩ := sndPs ps (pos := pos) c h.2
      exact ⟨pps_cons (sndE k c h.1.1) (sndE v c h.1.2) q1, by rw [List.all_cons, q2]; rfl⟩
    · cases h
theorem sndO {Γ : Prog} {N : List Str} {n : Nat} : ∀ (o : Eo) {X : Cx} {E : XK} {sc : Scope} {e : Option Expr}, Cxt X E Γ N n sc → chkO Γ N o sc e = true → PO X e (rdO X.K E (evP (Phi Γ n) o))
  | .no, X, E, sc, e, c, h => by
    unfold chkO at h
    cases e with
    | none => exact ⟨fun pins s σ H Q I w => po_none.run pins s σ H Q I (rd_no σ H Q w)⟩
    | some _ => cases h
  | .yes a, X, E, sc, e, c, h => by
    unfold chkO at h
    cases e with
    | none => cases h
    | some e => exact ⟨fun pins s σ H Q I w => (po_some (sndE a c h)).run pins s σ H Q I (rd_part σ H Q w)⟩
theorem sndF {Γ : Prog} {N : List Str} {n : Nat} : ∀ (o : Eo) {X : Cx} {E : XK} {sc : Scope} {es : List Expr}, Cxt X E Γ N n sc → chkF Γ N o sc es = true → PTs X es (rdT X.K E (evC (Phi Γ n) o))
  | .no, X, E, sc, es, c, h => by
    unfold chkF at h
    split at h
    · exact PTs.imp pts_nil rd_yes
    · cases h
  | .yes a, X, E, sc, es, c, h => by
    unfold chkF at h
    split at h
    · exact pts_one (sndB a c h)
    · cases h
theorem sndB {Γ : Prog} {N : List Str} {n : Nat} : ∀ (a : E) {X : Cx} {E : XK} {sc : Scope} {e : Expr}, Cxt X E Γ N n sc → chkB Γ N a sc e = true → PT X e (rdT X.K E (evB (Phi Γ n) a))
  | .cmp o a b, X, E, sc, e, c, h => by
    unfold chkB at h
    split at h
    · simp only [Bool.and_eq_true, decide_eq_true_eq, Bool.not_eq_true'] at h
      obtain ⟨⟨⟨h1, h2⟩, h3⟩, h4⟩ := h
      subst h1
      exact PT.imp (pt_cmpR (opCmp c.u65) (sndE a c h3) (sndE b c h4) h2) rd_cmpB
    · cases h
  | .chain o1 o2 a b d, X, E, sc, e, c, h => by
    unfold chkB at h
    split at h
    · simp only [Bool.and_eq_true, decide_eq_true_eq, Bool.not_eq_true'] at h
      obtain ⟨⟨⟨⟨⟨h1, h2⟩, h3⟩, h4⟩, h5⟩, h6⟩ := h
      subst h1 h2
      exact PT.imp (pt_chain (opCmp c.u65) (opCmp c.u65) (sndE a c h4) (sndE b c h5) (sndE d c h6) h3) rd_chainB
    · cases h
  | .and2 a b, X, E, sc, e, c, h => by
    unfold chkB at h
    split at h
    · rw [Bool.and_eq_true] at h
      exact PT.imp (pw_and (sndB a c h.1) (pw_and1 (sndB b c h.2))).pt rd_andB
    · rw [Bool.and_eq_true] at h
      exact PT.imp (pw_and (sndB a c h.1) (pw_of (sndB b c h.2))).pt rd_andB
    · cases h
  | .or2 a b, X, E, sc, e, c, h => by
    unfold chkB at h
    split at h
    · rw [Bool.and_eq_true] at h
      exact PT.imp (pw_or (sndB a c h.1) (pw_or1 (sndB b c h.2))).pt rd_orB
    · rw [Bool.and_eq_true] at h
      exact PT.imp (pw_or (sndB a c h.1) (pw_of (sndB b c h.2))).pt rd_orB
    · cases h
  | .not a, X, E, sc, e, c, h => by
    unfold chkB at h
    split at h
    · exact PT.imp (pt_not (sndB a c h)) rd_notB
    · cases h
  | .var i, X, E, sc, e, c, h => by
    unfold chkB at h
    cases e with
    | Name x p =>
      simp only [Bool.and_eq_true, decide_eq_true_eq] at h
      exact PT.imp (pt_truth (ok_var c h.1.1 h.1.2 h.2) fun _ => rfl) rd_truth
    | _ => cases h
  | .cst t, X, E, sc, e, c, h => by
    unfold chkB at h
    cases e with
    | Constant k j p => exact PT.imp (pt_truth (ok_cst h) fun _ => rfl) (rd_truth (m := fun _ => ret t))
    | _ => cases h
  | .glo y t, X, E, sc, e, c, h => by
    unfold chkB at h
    cases e with
    | Name x p =>
      simp only [Bool.and_eq_true, decide_eq_true_eq] at h
      exact PT.imp (pt_truth (ok_glo (y := y) c h.1.1.2 h.1.2 h.2) fun _ => rfl) (rd_truth (m := fun _ => ret t))
    | _ => cases h
  | .fld a f, X, E, sc, e, c, h => by
    unfold chkB at h
    split at h
    · simp only [Bool.and_eq_true, decide_eq_true_eq] at h
      obtain ⟨⟨h1, h2⟩, h3⟩ := h
      subst h1
      exact PT.imp (pt_truth (ok_fld h2 (sndE a c h3)) fun _ => rfl) rd_truth
    · cases h
  | .ix a b, X, E, sc, e, c, h => by
    unfold chkB at h
    split at h
    · simp only [Bool.and_eq_true] at h
      exact PT.imp (pt_truth (ok_ix c h.1.1 (sndE a c h.1.2) (sndE b c h.2)) fun _ => rfl) rd_truth
    · cases h
  | .call f args ks, X, E, sc, e, c, h => by
    unfold chkB at h
    split at h
    · simp only [Bool.and_eq_true, decide_eq_true_eq] at h
      obtain ⟨⟨⟨⟨⟨h1, h2⟩, h3⟩, h4⟩, h5⟩, h6⟩ := h
      obtain ⟨l1, l2⟩ := chkEs_len args h5
      exact PT.imp (pt_truth (ok_call c h1 h2 h3 h4 l1 l2 h6 (sndEs args c h5) (sndKw ks c h6)) fun _ => rfl) rd_truth
    · cases h
  | .meth a mm args ks, X, E, sc, e, c, h => by
    unfold chkB at h
    split at h
    · simp only [Bool.and_eq_true, decide_eq_true_eq] at h
      obtain ⟨⟨⟨⟨⟨⟨h1, h2⟩, h3⟩, h4⟩, h5⟩, h6⟩, h7⟩ := h
      subst h1
      obtain ⟨l1, l2⟩ := chkEs_len args h6
      exact PT.imp (pt_truth (ok_meth c h2 h3 h4 l1 l2 h7 (sndE a c h5) (sndEs args c h6) (sndKw ks c h7)) fun _ => rfl) rd_truth
    · cases h
  | .bi f args, X, E, sc, e, c, h => by
    unfold chkB at h
    split at h
    · simp only [Bool.and_eq_true, decide_eq_true_eq] at h
      obtain ⟨⟨⟨h1, h2⟩, h3⟩, h4⟩ := h
      subst h1
      exact PT.imp (pt_truth (ok_bi c h2 h3 (chkEs_len args h4).2 (sndEs args c h4)) fun _ => rfl) rd_truth
    · cases h
  | .bm a md args, X, E, sc, e, c, h => by
    unfold chkB at h
    split at h
    · simp only [Bool.and_eq_true, decide_eq_true_eq] at h
      obtain ⟨⟨⟨⟨⟨⟨h1, h2⟩, h3⟩, h4⟩, h0⟩, h5⟩, h6⟩ := h
      subst h1
      obtain ⟨l1, l2⟩ := chkEs_len args h6
      exact PT.imp (pt_truth (ok_bm c.u65 h0 h2 h3 h4 l1 l2 (sndE a c h5) (sndEs args c h6)) fun _ => rfl) rd_truth
    · cases h
  | .isi a cs tp, X, E, sc, e, c, h => by
    unfold chkB at h
    split at h
    · simp only [Bool.and_eq_true, decide_eq_true_eq] at h
      obtain ⟨⟨⟨⟨⟨⟨⟨h1, h2⟩, h3⟩, h4⟩, h5⟩, h6⟩, h7⟩, h8⟩ := h
      subst h1
      exact PT.imp (pt_truth (ok_isi c h2 h3 h4 h5 h7 h8 (sndE a c h6)) fun _ => rfl) rd_isiB
    · cases h
  | .tup _, _, _, _, _, _, h => by unfold chkB at h; cases h
  | .lst _, _, _, _, _, _, h => by unfold chkB at h; cases h
  | .dic _, _, _, _, _, _, h => by unfold chkB at h; cases h
  | .dict0 _, _, _, _, _, _, h => by unfold chkB at h; cases h
  | .bin _ _ _, _, _, _, _, _, h => by unfold chkB at h; cases h
  | .neg _, _, _, _, _, _, h => by unfold chkB at h; cases h
  | .ite _ _ _, _, _, _, _, _, h => by unfold chkB at h; cases h
  | .slc _ _ _, _, _, _, _, _, h => by unfold chkB at h; cases h
  | .new _ _ _, _, _, _, _, _, h => by unfold chkB at h; cases h
  | .lc _ _ _ _ _, _, _, _, _, _, h => by unfold chkB at h; cases h
  | .lrg1 _ _, _, _, _, _, _, h => by unfold chkB at h; cases h
  | .lzip _ _, _, _, _, _, _, h => by unfold chkB at h; cases h
  | .maxd _ _, _, _, _, _, _, h => by unfold chkB at h; cases h
  | .revE _, _, _, _, _, _, h => by unfold chkB at h; cases h
  | .lc2 _ _ _ _ _ _ _, _, _, _, _, _, h => by unfold chkB at h; cases h
  | .lrg2 _ _ _, _, _, _, _, _, h => by unfold chkB at h; cases h
  | .olen _, _, _, _, _, _, h => by unfold chkB at h; cases h
  | .oeq ne a b, X, E, sc, e, c, h => by
    unfold chkB at h
    split at h
    · simp only [Bool.and_eq_true, decide_eq_true_eq, Bool.not_eq_true'] at h
      obtain ⟨⟨⟨h1, h2⟩, h3⟩, h4⟩ := h
      subst h1
      exact PT.imp (pt_cmpR (opOwn c ne) (sndE a c h3) (sndE b c h4) h2) rd_cmpB
    · cases h
  | .lockE _ _, _, _, _, _, _, h => by unfold chkB at h; cases h
  | .nev, X, E, sc, e, c, h => ⟨fun pins s σ H Q I w => by
    obtain ⟨ρ, h, t, S, R, W⟩ := w
    exact False.elim W⟩
theorem sndI {Γ : Prog} {N : List Str} {n : Nat} : ∀ (i : I) {X : Cx} {E : XK} {sc : Scope} {tg e : Expr}, Cxt X E Γ N n sc → chkI Γ N i sc tg e = true → PI X tg e (rdI X.K E (evI (Phi Γ n) i))
  | .seq a, X, E, sc, tg, e, c, h => by
    unfold chkI at h
    exact PI.imp (PI.or (pi_list (sndE a c h)) (pi_tup (sndE a c h))) rd_seq
  | .rng1 a, X, E, sc, tg, e, c, h => by
    unfold chkI at h
    split at h
    · simp only [Bool.and_eq_true, decide_eq_true_eq] at h
      obtain ⟨⟨⟨⟨h1, h2⟩, h3⟩, h4⟩, h5⟩ := h
      subst h1
      exact ok_rng1 c h2 h3 h4 (sndE a c h5)
    · cases h
  | .rng2 a b, X, E, sc, tg, e, c, h => by
    unfold chkI at h
    split at h
    · simp only [Bool.and_eq_true, decide_eq_true_eq] at h
      obtain ⟨⟨⟨⟨⟨⟨h1, h2⟩, h3⟩, h4⟩, h5⟩, h6⟩, h7⟩ := h
      subst h1
      exact ok_rng2 c h2 h3 h4 h5 (sndE a c h6) (sndE b c h7)
    · cases h
  | .dkeys m a, X, E, sc, tg, e, c, h => by
    unfold chkI at h
    simp only [Bool.and_eq_true] at h
    exact PI.imp (pi_keys (sndE a c h.2)) rd_dk
  | .dvals a, X, E, sc, tg, e, c, h => by
    unfold chkI at h
    split at h
    · simp only [Bool.and_eq_true] at h
      obtain ⟨⟨⟨h1, h2⟩, h3⟩, h4⟩ := h
      have h1 := of_decide_eq_true h1
      subst h1
      exact PI.imp (pi_values (sndE a c h4) (base_of h2) h3) rd_dv
    · cases h
  | .ditms a, X, E, sc, tg, e, c, h => by
    unfold chkI at h
    split at h
    · simp only [Bool.and_eq_true] at h
      obtain ⟨⟨⟨⟨h1, h2⟩, h3⟩, ht⟩, h4⟩ := h
      have h1 := of_decide_eq_true h1
      subst h1
      cases tg with
      | Tuple elts kk tpos => exact PI.imp (pi_items (sndE a c h4) (base_of h2) h3) rd_di
      | _ => cases ht
    · cases h
  | .enum a, X, E, sc, tg, e, c, h => by
    unfold chkI at h
    split at h
    · simp only [Bool.and_eq_true, decide_eq_true_eq] at h
      obtain ⟨⟨⟨⟨⟨h1, h2⟩, h3⟩, h4⟩, h5⟩, h6⟩ := h
      subst h1
      exact ok_enum c h2 h3 h4 h5 (sndE a c h6)
    · cases h
  | .zip a b, X, E, sc, tg, e, c, h => by
    unfold chkI at h
    split at h
    · simp only [Bool.and_eq_true, decide_eq_true_eq] at h
      obtain ⟨⟨⟨⟨⟨⟨⟨h1, h2⟩, h3⟩, h4⟩, h5⟩, h6⟩, h7⟩, h8⟩ := h
      subst h1
      exact ok_zip c h2 h3 h4 h5 h6 (sndE a c h7) (sndE b c h8)
    · cases h
  | .sgn a, X, E, sc, tg, e, c, h => by
    unfold chkI at h
    exact PI.imp (pi_str (sndE a c h)) rd_sgn
  | .zipN a b, X, E, sc, tg, e, c, h => by
    unfold chkI at h
    split at h
    · simp only [Bool.and_eq_true, decide_eq_true_eq] at h
      obtain ⟨⟨⟨⟨⟨⟨⟨h1, h2⟩, h3⟩, h4⟩, h5⟩, h6⟩, h7⟩, h8⟩ := h
      subst h1
      exact ok_zipN c h2 h3 h4 h5 h6 (sndE a c h7) (sndE b c h8)
    · cases h
  | .zipS a b, X, E, sc, tg, e, c, h => by
    unfold chkI at h
    split at h
    · simp only [Bool.and_eq_true, decide_eq_true_eq] at h
      obtain ⟨⟨⟨⟨⟨⟨⟨⟨h1, h1'⟩, h2⟩, h3⟩, h4⟩, h5⟩, h6⟩, h7⟩, h8⟩ := h
      subst h1 h1'
      exact ok_zipS c h2 h3 h4 h5 h6 (sndE a c h7) (sndE b c h8)
    · cases h
end
end Y

/-! L3p: the check for statements, defs. -/
namespace Y
open PySem PySem.Spec L2
section
variable (Γ : Prog) (N : List Str) (sc : Scope)
/-- name = [..], stored within the comprehension -/
def swLc (x : Str) (px pv : Pos) (scope : Scope) : Bool := decide (sc.names.lookup x = some .local) && (px.line == pv.line) && !(scope.names.any fun (n, k) => n == x && (k == .local || k == .cell))
def chkA (t : Tg) (a : E) (st : Stmt) : Bool := match t, st with
  | .g (.name i), .Assign [.Name x px] v _ => decide (N[i]? = some x) && stB sc x && (match a, v with
    | .lc g src cd el own, .ListComp elt [⟨tg, iter, ifs, 0⟩] scope pv =>
      if swLc sc x px pv scope = true then blkC N sc scope own && (slotsG g).all (fun i => (own.map (·.2)).contains i) && notSet iter && chkG N (stB scope) g tg && chkI Γ N src sc tg iter && chkF Γ N cd (relS scope sc) ifs && chkE Γ N el (relS scope sc) elt
      else (!(px.line == pv.line) || decide (sc.names.lookup x = some .cell)) && chkE Γ N a sc v
    | a, v => noComp v && chkE Γ N a sc v)
  | .g (.tup gs), .Assign [.Tuple ts _ _] v _ => (match v with
    | .Tuple vs _ _ => (match swR sc ts vs with
      | some none => chkE Γ N a sc v && chkG N (stB sc) (.tup gs) (.Tuple ts 0 v.pos)
      | some (some _) => (match gs, ts, a with
        | .cons (.name i) (.cons (.name j) .nil), [.Name x _, .Name y _], .tup as => decide (N[i]? = some x) && decide (N[j]? = some y) && decide (i ≠ j) && decide (sc.names.lookup x = some .local) && decide (sc.names.lookup y = some .local) && decide (swR sc ts vs = some (some [x, y])) && decide (vs.length = 2) && chkEs Γ N as sc vs
        | .cons (.name i) (.cons (.name j) (.cons (.name l) .nil)), [.Name x _, .Name y _, .Name z _], .tup as => decide (N[i]? = some x) && decide (N[j]? = some y) && decide (N[l]? = some z) && decide (i ≠ j) && decide (i ≠ l) && decide (j ≠ l) && decide (sc.names.lookup x = some .local) && decide (sc.names.lookup y = some .local) && decide (sc.names.lookup z = some .local) &&
          decide (swR sc ts vs = some (some [x, y, z])) && decide (vs.length = 3) && chkEs Γ N as sc vs
        | _, _, _ => false)
      | none => false)
    | v => noComp v && chkE Γ N a sc v && chkG N (stB sc) (.tup gs) (.Tuple ts 0 v.pos))
  | .fld o f, .Assign [.Attribute x f' _] v _ => decide (f' = f) && baseOk x && chkE Γ N a sc v && chkE Γ N o sc x
  | .ix o i, .Assign [.Subscript x y _] v _ => noSlice y && chkE Γ N a sc v && chkE Γ N o sc x && chkE Γ N i sc y
  | _, _ => false
mutual
def chkS : S → Stmt → Bool
  | .asg t a, st => chkA Γ N sc t a st
  | .aug t o a, st => match t, st with
    | .g (.name i), .AugAssign (.Name x _) o' v _ => decide (o' = o) && (augI o).isSome && decide (N[i]? = some x) && stB sc x && chkE Γ N a sc v
    | .fld b f, .AugAssign (.Attribute x f' _) o' v _ => decide (o' = o) && (augI o).isSome && decide (f' = f) && chkE Γ N b sc x && chkE Γ N a sc v
    | _, _ => false
  | .expr a, st => match st with
    | .Expr v _ => noComp v && chkE Γ N a sc v
    | _ => false
  | .retE a, st => match st with
    | .Return (some v) _ => chkE Γ N a sc v
    | _ => false
  | .ret0, st => match st with
    | .Return none _ => true
    | _ => false
  | .ifS c a b, st => match st with
    | .If t x y _ => chkB Γ N c sc t && chkSs a x && chkSs b y
    | _ => false
  | .forS g src body, st => match st with
    | .For tg iter x [] _ => notSet iter && chkG N (stB sc) g tg && chkI Γ N src sc tg iter && chkSs body x
    | _ => false
  | .asgM m a, st => match st with
    | .Assign [.Tuple ts k p] v _ => noComp v && !isTup v && chkE Γ N a sc v && chkM N (stB sc) m (.Tuple ts k p)
    | _ => false
  | .forM m src body, st => match st with
    | .For tg iter x [] _ => notSet iter && chkM N (stB sc) m tg && chkI Γ N src sc tg iter && chkSs body x
    | _ => false
  | .whileS c body, st => match st with
    | .While t x [] _ => chkB Γ N c sc t && chkSs body x
    | _ => false
  | .pass, st => match st with
    | .Pass _ => true
    | _ => false
  | .brk, st => match st with
    | .Break _ => true
    | _ => false
  | .cont, st => match st with
    | .Continue _ => true
    | _ => false
  | .doc, st => match st with
    | .Expr (.Constant (.str _) _ _) _ => true
    | _ => false
  | .lockS _ s, st => chkS s st
  | .nev, _ => true
def chkSs : Ss → List Stmt → Bool
  | .nil, l => match l with
    | [] => true
    | _ => false
  | .cons s ss, l => match l with
    | st :: r => chkS s st && chkSs ss r
    | _ => false
end
end
/-- the context of a def's body -/
structure Sxt (X : Cx) (E : XK) (Γ : Prog) (N : List Str) (n : Nat) (sc : Scope) : Prop where
  c : Cxt X E Γ N n sc
  kd : sc.kind = .function
  fn : ∀ x, X.fn x = true
  own : PassesOwn (model X.prog X.w) X.A X.env X.xe
section
variable {X : Cx} {F : XK} {Γ : Prog} {N : List Str} {n : Nat} {sc : Scope}
theorem Sxt.st (c : Sxt X F Γ N n sc) {x : Str} (h : stB sc x = true) : L2.Loc X.env.scope x ∧ (X.fn x = true ∨ X.env.scope.names.lookup x = some .local) := by
  refine ⟨?_, .inl (c.fn x)⟩
  unfold L2.Loc
  rw [c.c.hsc]
  unfold stB at h
  split at h
  · exact .inl (by assumption)
  · exact .inr (by assumption)
  · cases h
theorem Sxt.tup (c : Sxt X F Γ N n sc) {gs : Gs} {ts : List Expr} {k : Nat} {p q : Pos} (h : chkG N (stB sc) (.tup gs) (.Tuple ts 0 q) = true) : PG X (.Tuple ts k p) (gOf X.K (.tup gs)) :=
  sndG c.c.calm c.c.hN c.c.nd (fun x hx => c.st hx) (.tup gs) (by unfold chkG at h ⊢; exact h)
theorem sole_tup {e : Expr} {ts : List Expr} {k : Nat} {p : Pos} {l : Nat} {env : Env} : swapsWithSole [.Tuple ts k p] e l env = pure false := by
  show swapsWith e (some (.Tuple ts k p)) l env = _
  exact swaps_tup
theorem sole_sub {e o i : Expr} {p : Pos} {l : Nat} {env : Env} : swapsWithSole [.Subscript o i p] e l env = pure false := by
  show swapsWith e (some (.Subscript o i p)) l env = _
  exact swaps_sub
theorem not_comp {v : Expr} {l : Nat} {env : Env} (h : noComp v = true) : swapsWith v none l env = pure false := swaps_of h
theorem sndA (c : Sxt X F Γ N n sc) {t : Tg} {a : E} {st : Stmt} (h : chkA Γ N sc t a st = true) : PS X st (rdS X.K F (ex (Phi Γ n) (.asg t a))) := by
  have hN : X.N.Nodup := by rw [c.c.hN]; exact c.c.nd
  unfold chkA at h
  split at h
  · rename_i i x px v p
    simp only [Bool.and_eq_true, decide_eq_true_eq] at h
    obtain ⟨⟨h1, h2⟩, h3⟩ := h
    obtain ⟨l1, l2⟩ := c.st h2
    have hi : X.N[i]? = some x := by rw [c.c.hN]; exact h1
    split at h3
    · rename_i g src cd el own elt tg iter ifs scope pv
      split at h3
      · rename_i hsw
        simp only [Bool.and_eq_true] at h3
        obtain ⟨⟨⟨⟨⟨⟨q1, q2⟩, q3⟩, q4⟩, q5⟩, q6⟩, q7⟩ := h3
        unfold swLc at hsw
        simp only [Bool.and_eq_true, decide_eq_true_eq, Bool.not_eq_true'] at hsw
        obtain ⟨⟨w1, w2⟩, w3⟩ := hsw
        have bk := blkOk_by q1
        have hy : X.env.scope.names.lookup x = some .local := by rw [c.c.hsc]; exact w1
        refine PS.imp (ps_setLc (g := gOf X.K g) (tt := rdT X.K E0 (evC (Phi Γ n) cd)) (te := rdE X.K E0 (ev (Phi Γ n) el)) c.c.calm hN hi hy (sw_true (by rw [c.c.hsc]; exact c.kd) hy w2 w3) (sndI src c.c q5) (by rw [c.c.hN, c.c.hsc]; exact bk) (fun s H C cl fp => sndG (X := X.blk s H _ _ fp) c.c.calm c.c.hN c.c.nd (blk_st c.c.hsc) g q4) (fun s H C cl fp => sndF cd c.c.blk q6) (fun s H C cl fp => sndE el c.c.blk q7) (folded_of q3)) fun D σ H w => ?_
        obtain ⟨ρ, h, s, S, R, W⟩ := rs_asgG (g := .name i) D σ H w
        exact rd_lc (fun i hi => by
          have := List.all_eq_true.mp q2 i hi
          simpa using this) σ H _ ⟨ρ, h, s, S, R, W⟩
      · rw [Bool.and_eq_true] at h3
        refine PS.imp (ps_set hN hi l1 (sndE _ c.c h3.2) ?_ l2) (rs_asgG (g := .name i))
        have hl := h3.1
        rw [Bool.or_eq_true] at hl
        unfold swapsWith
        dsimp only
        rcases hl with hl | hl
        · have : (px.line == pv.line) = false := by simpa using hl
          show pure (_ && _ && (px.line == pv.line) && _) = pure false
          rw [this, Bool.and_false, Bool.false_and]
        · have e1 : X.env.kindOf x = some .cell := by
            show X.env.scope.names.lookup x = _
            rw [c.c.hsc]
            exact of_decide_eq_true hl
          show pure (_ && (X.env.kindOf x == some .local) && _ && _) = pure false
          rw [e1]
          show pure (_ && false && _ && _) = pure false
          rw [Bool.and_false, Bool.false_and, Bool.false_and]
    · rw [Bool.and_eq_true] at h3
      exact PS.imp (ps_set hN hi l1 (sndE _ c.c h3.2) (swaps_of h3.1) l2) (rs_asgG (g := .name i))
  · rename_i gs ts k p v p2
    split at h
    · rename_i vs k2 p3
      split at h
      · rename_i hs
        rw [Bool.and_eq_true] at h
        exact PS.imp (ps_asg (sndE _ c.c h.1) (c.tup h.2) sole_tup (swapped_tup c.c.hsc c.kd hs) rfl) (rs_asgG (g := .tup gs))
      · split at h
        · rename_i i j x px y py as _
          simp only [Bool.and_eq_true, decide_eq_true_eq] at h
          obtain ⟨⟨⟨⟨⟨⟨⟨h1, h2⟩, h3⟩, h4⟩, h5⟩, h6⟩, h7⟩, h8⟩ := h
          match vs, h7, h6, h8 with
          | [va, vb], _, h6, h8 =>
            exact PS.imp (ps_par c.c.calm hN (by rw [c.c.hN]; exact h1) (by rw [c.c.hN]; exact h2) h3 (by rw [c.c.hsc]; exact h4) (by rw [c.c.hsc]; exact h5) (sndEs as c.c h8) (swapped_tup c.c.hsc c.kd h6) sole_tup) rs_par2
        · rename_i i j l x px y py z pz as _
          simp only [Bool.and_eq_true, decide_eq_true_eq] at h
          obtain ⟨⟨⟨⟨⟨⟨⟨⟨⟨⟨⟨h1, h2⟩, h3⟩, h4⟩, h5⟩, h6⟩, h7⟩, h8⟩, h9⟩, h10⟩, h11⟩, h12⟩ := h
          match vs, h11, h10, h12 with
          | [va, vb, vc], _, h10, h12 =>
            exact PS.imp (ps_par3 c.c.calm hN (by rw [c.c.hN]; exact h1) (by rw [c.c.hN]; exact h2) (by rw [c.c.hN]; exact h3) h4 h5 h6 (by rw [c.c.hsc]; exact h7) (by rw [c.c.hsc]; exact h8) (by rw [c.c.hsc]; exact h9) (sndEs as c.c h12) (swapped_tup c.c.hsc c.kd h10) sole_tup) rs_par3
        · cases h
      · cases h
    · rename_i hv
      simp only [Bool.and_eq_true] at h
      have ht : isTup v = false := by
        cases v <;> first | rfl | exact absurd rfl (hv _ _ _)
      exact PS.imp (ps_asg (sndE _ c.c h.1.2) (c.tup h.2) sole_tup (swapped_of ht) rfl) (rs_asgG (g := .tup gs))
  · rename_i o f x f' p v p2
    simp only [Bool.and_eq_true, decide_eq_true_eq] at h
    obtain ⟨⟨⟨h1, h2⟩, h3⟩, h4⟩ := h
    subst h1
    exact PS.imp (ps_fld (sndE o c.c h4) (sndE a c.c h3) swaps_attr) (rs_asgF c.c.md.okf)
  · rename_i o i x y p v p2
    simp only [Bool.and_eq_true] at h
    obtain ⟨⟨⟨h1, h2⟩, h3⟩, h4⟩ := h
    refine PS.imp (ps_asg (sndE a c.c h2) (pg_sub (sndE o c.c h3) (sndE i c.c h4) (opSet c.c.u) (fun v => ?_)) sole_sub swapped_sub rfl) rs_asgI
    cases y <;> first | rfl | cases h1
  · cases h
mutual
theorem sndS (c : Sxt X F Γ N n sc) : ∀ (s : S) {st : Stmt}, chkS Γ N sc s st = true → PS X st (rdS X.K F (ex (Phi Γ n) s))
  | .asg t a, st, h => sndA c (by unfold chkS at h; exact h)
  | .aug t o a, st, h => by
    have hN : X.N.Nodup := by rw [c.c.hN]; exact c.c.nd
    unfold chkS at h
    split at h
    · rename_i i x px o' v p
      simp only [Bool.and_eq_true, decide_eq_true_eq] at h
      obtain ⟨⟨⟨⟨h1, h2⟩, h3⟩, h4⟩, h5⟩ := h
      obtain ⟨f, hf⟩ := Option.isSome_iff_exists.mp h2
      subst h1
      obtain ⟨l1, l2⟩ := c.st h4
      exact PS.imp (ps_aug hN (by rw [c.c.hN]; exact h3) l1 (sndE a c.c h5) (ipI_of hf) l2) (rs_aug hf)
    · rename_i b f x f' p o' v p2
      simp only [Bool.and_eq_true, decide_eq_true_eq] at h
      obtain ⟨⟨⟨⟨h1, h2⟩, h3⟩, h4⟩, h5⟩ := h
      obtain ⟨g, hg⟩ := Option.isSome_iff_exists.mp h2
      subst h1 h3
      exact PS.imp (ps_fldaug (sndE b c.c h4) (sndE a c.c h5) (inI hg)) (rs_augF hg c.c.md.okf)
    · cases h
  | .expr a, st, h => by
    unfold chkS at h
    split at h
    · rw [Bool.and_eq_true] at h
      exact PS.imp (ps_expr (sndE a c.c h.2) (swaps_of h.1)) rs_expr
    · cases h
  | .retE a, st, h => by
    unfold chkS at h
    split at h
    · exact PS.imp (ps_ret (sndE a c.c h)) rs_ret
    · cases h
  | .ret0, st, h => by
    unfold chkS at h
    split at h
    · exact PS.imp ps_retN rs_ret0
    · cases h
  | .ifS t a b, st, h => by
    unfold chkS at h
    split at h
    · simp only [Bool.and_eq_true] at h
      exact PS.imp (ps_if (sndB t c.c h.1.1) (sndSs c a h.1.2) (sndSs c b h.2)) rs_if
    · cases h
  | .forS g src body, st, h => by
    unfold chkS at h
    split at h
    · simp only [Bool.and_eq_true] at h
      obtain ⟨⟨⟨h1, h2⟩, h3⟩, h4⟩ := h
      exact PS.imp (ps_for c.own c.c.calm (sndI src c.c h3) (sndG c.c.calm c.c.hN c.c.nd (fun x hx => c.st hx) g h2) (sndSs c body h4) (folded_of h1)) rd_for
    · cases h
  | .asgM m a, st, h => by
    unfold chkS at h
    split at h
    · simp only [Bool.and_eq_true, Bool.not_eq_true'] at h
      obtain ⟨⟨⟨h1, h2⟩, h3⟩, h4⟩ := h
      exact PS.imp (ps_asg (sndE _ c.c h3) (sndM c.c.calm c.c.hN c.c.nd (fun x hx => c.st hx) m h4) sole_tup (swapped_of h2) rfl) rs_asgM
    · cases h
  | .forM m src body, st, h => by
    unfold chkS at h
    split at h
    · simp only [Bool.and_eq_true] at h
      obtain ⟨⟨⟨h1, h2⟩, h3⟩, h4⟩ := h
      exact PS.imp (ps_for c.own c.c.calm (sndI src c.c h3) (sndM c.c.calm c.c.hN c.c.nd (fun x hx => c.st hx) m h2) (sndSs c body h4) (folded_of h1)) rd_forM
    · cases h
  | .whileS t body, st, h => by
    unfold chkS at h
    split at h
    · simp only [Bool.and_eq_true] at h
      exact PS.imp (ps_while c.own (sndB t c.c h.1) (sndSs c body h.2)) rd_while
    · cases h
  | .pass, st, h => by
    unfold chkS at h
    split at h
    · exact PS.imp ps_pass rs_nx
    · cases h
  | .brk, st, h => by
    unfold chkS at h
    split at h
    · exact PS.imp ps_break rs_bk
    · cases h
  | .cont, st, h => by
    unfold chkS at h
    split at h
    · exact PS.imp ps_continue rs_ct
    · cases h
  | .doc, st, h => by
    unfold chkS at h
    split at h
    · exact PS.imp ps_doc rs_nx
    · cases h
  | .lockS d s, st, h => by
    unfold chkS at h
    exact PS.imp (ps_lock (sndS c s h)) rd_lockS
  | .nev, st, h => ⟨fun pins s σ H D I w => by
    obtain ⟨ρ, h, t, S, R, W⟩ := w
    exact False.elim W⟩
theorem sndSs (c : Sxt X F Γ N n sc) : ∀ (ss : Ss) {sts : List Stmt}, chkSs Γ N sc ss sts = true → PSs X sts (rdS X.K F (exs (Phi Γ n) ss))
  | .nil, [], _ => PSs.imp pss_nil rs_nx
  | .nil, _ :: _, h => by unfold chkSs at h; cases h
  | .cons _ _, [], h => by unfold chkSs at h; cases h
  | .cons s ss, st :: sts, h => by
    unfold chkSs at h
    simp only [Bool.and_eq_true] at h
    exact PSs.imp (pss_cons (sndS c s h.1) (sndSs c ss h.2)) rs_seq
end
end
end Y

/-! L3r: one look at the module; all defs keep their promises. -/
namespace Y
open PySem PySem.Spec L2
/-! ### the look -/
mutual
def cvB (K : PySem.W.Frag) : T → Value → Bool
  | .non, u => match u with
    | .none => true
    | _ => false
  | .bl a, u => match u with
    | .bool b => a == b
    | _ => false
  | .int i, u => match u with
    | .int j _ => decide (i = j)
    | _ => false
  | .str x, u => match u with
    | .str y _ => decide (x = y)
    | _ => false
  | .kt xs, u => match u with
    | .ref a => (match K.lookup a with
      | some ⟨.type c, _, .seq its _, _⟩ => decide (c = "tuple") && decide (its.size ≤ sizeLine) && cvsB K xs its.toList
      | _ => false)
    | _ => false
  | _, _ => false
def cvsB (K : PySem.W.Frag) : List T → List Value → Bool
  | [], us => us.isEmpty
  | x :: xs, us => match us with
    | u :: us => cvB K x u && cvsB K xs us
    | [] => false
end
mutual
theorem cv_of {K : PySem.W.Frag} : ∀ {t : T} {u : Value}, cvB K t u = true → CV K t u
  | .non, u, h => by
    unfold cvB at h
    split at h
    · exact ⟨.non, rfl, fun _ _ _ => .non⟩
    · cases h
  | .bl a, u, h => by
    unfold cvB at h
    split at h
    · have := eq_of_beq h
      subst this
      exact ⟨.bl a, rfl, fun _ _ _ => .bl a⟩
    · cases h
  | .int i, u, h => by
    unfold cvB at h
    split at h
    · have := of_decide_eq_true h
      subst this
      exact ⟨.int i, ⟨_, rfl⟩, fun _ _ _ => .int i⟩
    · cases h
  | .str x, u, h => by
    unfold cvB at h
    split at h
    · have := of_decide_eq_true h
      subst this
      exact ⟨.str x, ⟨_, rfl⟩, fun _ _ _ => .str x⟩
    · cases h
  | .kt xs, u, h => by
    unfold cvB at h
    split at h
    · rename_i a
      split at h
      · rename_i c dd its nn sl e
        simp only [Bool.and_eq_true, decide_eq_true_eq] at h
        obtain ⟨⟨h1, h2⟩, h3⟩ := h
        obtain ⟨vs, r, q⟩ := cvs_of h3
        subst h1
        exact ⟨.ref a, rfl, fun ρ n H => .kt (.inr ⟨_, its, nn, e, rfl, rfl, h2, r⟩) (q ρ n H)⟩
      · cases h
    · cases h
  | .tup _, _, h => by unfold cvB at h; cases h
  | .ref _, _, h => by unfold cvB at h; cases h
  | .ty _, _, h => by unfold cvB at h; cases h
theorem cvs_of {K : PySem.W.Frag} : ∀ {ts : List T} {us : List Value}, cvsB K ts us = true → ∃ vs, Vals vs us ∧ ∀ ρ n H, VRs K ρ n H ts vs
  | [], [], _ => ⟨[], .nil, fun _ _ _ => .nil⟩
  | [], _ :: _, h => by unfold cvsB at h; cases h
  | _ :: _, [], h => by unfold cvsB at h; cases h
  | t :: ts, u :: us, h => by
    unfold cvsB at h
    rw [Bool.and_eq_true] at h
    obtain ⟨v, r, q⟩ := cv_of h.1
    obtain ⟨vs, r2, q2⟩ := cvs_of h.2
    exact ⟨v :: vs, .cons r r2, fun ρ n H => .cons (q ρ n H) (q2 ρ n H)⟩
end
theorem cvs_rl {K : PySem.W.Frag} : ∀ {ts : List T} {us : List Value}, cvsB K ts us = true → Rl (CV K) ts us
  | [], [], _ => .nil
  | [], _ :: _, h => by unfold cvsB at h; cases h
  | _ :: _, [], h => by unfold cvsB at h; cases h
  | t :: ts, u :: us, h => by
    unfold cvsB at h
    rw [Bool.and_eq_true] at h
    exact .cons (cv_of h.1) (cvs_rl h.2)
/-- defaults -/
def dfB (K : PySem.W.Frag) (dfl : List T) (dV : Value) : Bool := match dV with
  | .none => dfl.isEmpty
  | .ref T => (match K.lookup T with
    | some ⟨_, _, .seq its _, _⟩ => cvsB K dfl its.toList
    | _ => false)
  | _ => false
theorem df_of {K : PySem.W.Frag} {dfl : List T} {dV : Value} (h : dfB K dfl dV = true) : ∃ dl : List Value, Rl (CV K) dfl dl ∧ ((dl = [] ∧ dV = .none) ∨ ∃ T o n, dV = .ref T ∧ K.lookup T = some o ∧ o.data = .seq dl.toArray n) := by
  unfold dfB at h
  split at h
  · cases dfl with
    | nil => exact ⟨[], .nil, .inl ⟨rfl, rfl⟩⟩
    | cons _ _ => cases h
  · rename_i a
    split at h
    · rename_i oc od its nn sl e
      exact ⟨its.toList, cvs_rl h, .inr ⟨a, _, nn, rfl, e, by simp⟩⟩
    · cases h
  · cases h
def kdVal (K : PySem.W.Frag) (D : Addr) (x : Str) : Value := match PySem.W.nsIn K D x with
  | some (some u) => u
  | _ => .none
def kdB (K : PySem.W.Frag) (kd : List (Str × T)) (kV : Value) : Bool := match kd with
  | [] => true
  | kd => match kV with
    | .ref D => kd.all fun p => (match PySem.W.nsIn K D p.1 with
      | some (some u) => cvB K p.2 u
      | _ => false)
    | _ => false
theorem kd_of {K : PySem.W.Frag} {kd : List (Str × T)} {kV : Value} (h : kdB K kd kV = true) : ∃ k2 : List (Str × Value), Rk (CV K) kd k2 ∧ ∀ n v, k2.lookup n = some v → ∃ D, kV = .ref D ∧ PySem.W.nsIn K D n = some (some v) := by
  cases kd with
  | nil => exact ⟨[], .nil, fun n v e => by cases e⟩
  | cons p ps =>
    unfold kdB at h
    dsimp only at h
    split at h
    · rename_i D
      generalize p :: ps = l at h
      induction l with
      | nil => exact ⟨[], .nil, fun n v e => by cases e⟩
      | cons q qs ih =>
        rw [List.all_cons, Bool.and_eq_true] at h
        obtain ⟨k2, r, z⟩ := ih h.2
        have h1 := h.1
        obtain ⟨x, t⟩ := q
        split at h1
        · rename_i u e
          refine ⟨(x, u) :: k2, .cons (cv_of h1) r, fun n v en => ?_⟩
          rw [List.lookup_cons] at en
          cases hn : (n == x) with
          | true =>
            rw [hn] at en
            cases en
            rw [eq_of_beq hn]
            exact ⟨D, rfl, e⟩
          | false =>
            rw [hn] at en
            exact z n v en
        · cases h1
    · cases h
def nmB (p : Arguments) (d : FD) : Bool := p.posonlyargs.isEmpty && decide (p.args.map (·.arg) = d.ps) && p.vararg.isNone && decide (p.kwonlyargs.map (·.arg) = d.ko) && p.kwarg.isNone
def defB (K : PySem.W.Frag) (Γ : Prog) (key : Str × Option Str) (d : FD) : Bool := match K.lookup (addr K key) with
  | some ⟨_, _, .func fd, _⟩ => (match fd.body with
    | .stmts b => PySem.W.codeIn K fd.code fd.qualname && nmB fd.params d && dfB K d.dfl fd.defaults && kdB K d.kd fd.kwdefaults && (fd.globals == mainGlobals) && fd.closure.isEmpty && (fd.builtins == builtinsNs) &&
      C8.scC d.N (d.ps ++ d.ko) fd.scope && chkSs Γ d.N fd.scope d.bd b
    | _ => false)
  | _ => false
def keyB (K : PySem.W.Frag) (key : Str × Option Str) : Bool := match key with
  | (f, none) => (He.Fa.glo f).ok K && PySem.W.keepIn K (.ref (He.ga K f))
  | (c, some m) => (He.Fa.meth c m).ok K && (!(m == ("__init__" : Str)) || ((He.Fa.mkr c).ok K && (He.Fa.glo c).ok K && (He.Fa.cls c).ok K))
def allTy : List Ty := [.none, .bool, .int, .str, .tuple, .list, .dict]
def isiB (K : PySem.W.Frag) (cls : List Str) : Bool :=
  cls.isEmpty || ((cls.all fun c => cls.all fun d => decide (PySem.W.kitOne K (.ref (He.ga K c)) (.ref (He.ga K d)) = some (decide (c = d)))) &&
    (cls.all fun c => allTy.all fun t => decide (t = .none) || decide (PySem.W.kitOne K (.ref (He.ga K c)) (.type (tyN t)) = some false)) &&
    (cls.all fun c => allTy.all fun t => decide (PySem.W.kitOne K (.type (tyN t)) (.ref (He.ga K c)) = some false)) &&
    (cls.all fun c => He.eqO (PySem.W.findIn K (.ref (He.ga K c)) "__class__") (some (some (.builtin "object.__class__"))) && decide (PySem.W.mroIn K (He.ga K c) (.type "object") = some true)) &&
    He.eqO (PySem.W.specialIn K (.builtin "object.__class__") "__get__") (some (some (.builtin "getset_descriptor.__get__"))) && decide (PySem.W.takesIn K (.builtin "object.__class__") = some true))
def cstOk (K : PySem.W.Frag) (p : Str × T) : Bool := match PySem.W.nsIn K mainGlobals p.1 with
  | some (some u) => cvB K p.2 u
  | _ => false
def look1 (Γ : Prog) (K : PySem.W.Frag) : Bool := Γ.fns.all fun p => keyB K p.1
def look2 (Γ : Prog) (K : PySem.W.Frag) : Bool := Γ.fns.all fun p => defB K Γ p.1 p.2
def neB (K : PySem.W.Frag) (c : Str) : Bool := (PySem.W.mroIn K (He.ga K c) (.type "object") == some true) && (PySem.W.findIn K (.ref (He.ga K c)) "__ne__" == some (some (.builtin "object.__ne__")))
def look3 (Γ : Prog) (K : PySem.W.Frag) : Bool := (Γ.flds.all fun p => p.2.all fun f => (He.Fa.noat p.1 f).ok K) && isiB K Γ.cls && (Γ.cls.all fun c => (He.Fa.glo c).ok K) && (Γ.cs.all (cstOk K)) && (Γ.bl.all fun x => (He.Fa.free x).ok K) && Γ.nes.all (neB K)
def lookB (Γ : Prog) (K : PySem.W.Frag) : Bool := look1 Γ K && look2 Γ K && look3 Γ K

/-! ### what it tells -/
theorem look_mem {α : Type} {β : Type} [BEq α] [LawfulBEq α] : ∀ {l : List (α × β)} {k : α} {v : β}, l.lookup k = some v → (k, v) ∈ l
  | [], _, _, e => by cases e
  | (j, w) :: l, k, v, e => by
    rw [List.lookup_cons] at e
    cases h : (k == j) with
    | true =>
      rw [h] at e
      cases e
      rw [eq_of_beq h]
      exact List.mem_cons_self ..
    | false =>
      rw [h] at e
      exact List.mem_cons_of_mem _ (look_mem e)
theorem isi_by {K : PySem.W.Frag} {cls : List Str} (h : isiB K cls = true) : IsiOk K cls := by
  unfold isiB at h
  rw [Bool.or_eq_true] at h
  rcases h with h | h
  · have e : cls = [] := List.isEmpty_iff.mp h
    subst e
    have no : ∀ c : Str, c ∈ ([] : List Str) → False := fun c hc => (List.mem_nil_iff c).mp hc
    exact ⟨fun c hc => (no c hc).elim, fun c hc => (no c hc).elim, fun c hc => (no c hc).elim, fun c hc => (no c hc).elim, fun c hc => (no c hc).elim⟩
  · simp only [Bool.and_eq_true, List.all_eq_true, decide_eq_true_eq, Bool.or_eq_true] at h
    obtain ⟨⟨⟨⟨⟨h1, h2⟩, h3⟩, h4⟩, h5⟩, h6⟩ := h
    have ty : ∀ t : Ty, t ∈ allTy := fun t => by cases t <;> decide
    refine ⟨h1, fun c hc t ht => ?_, fun c hc t => h3 c hc t (ty t), fun c hc => ⟨He.eqO_ok (h4 c hc).1, (h4 c hc).2⟩, fun c hc => ⟨He.eqO_ok h5, h6⟩⟩
    rcases h2 c hc t (ty t) with z | z
    · exact absurd z ht
    · exact z
theorem md_by {K : PySem.W.Frag} {Γ : Prog} {h : Heap} {mg : Str → Option Value} (KX : K.In h) (G : h.Ns mainGlobals mg) (l1 : look1 Γ K = true) (l3 : look3 Γ K = true) : Md K mg Γ := by
  unfold look1 at l1
  unfold look3 at l3
  simp only [Bool.and_eq_true, List.all_eq_true] at l1 l3
  obtain ⟨⟨⟨⟨⟨q1, q2⟩, q3⟩, q4⟩, q5⟩, q6⟩ := l3
  refine ⟨fun f d e => ?_, fun c m d e => ?_, fun c d e => ?_, fun c f e => ?_, isi_by q2, fun c hc => He.glo_ok KX G (q3 c hc), fun x t e => ?_, fun x hx => He.free_ok KX G (q5 x hx), fun c hc => ?_⟩
  · have k := l1 _ (look_mem e)
    unfold keyB at k
    dsimp only at k
    rw [Bool.and_eq_true] at k
    exact ⟨He.glo_ok KX G k.1, k.2⟩
  · have k := l1 _ (look_mem e)
    unfold keyB at k
    dsimp only at k
    rw [Bool.and_eq_true] at k
    exact He.meth_ok k.1
  · have k := l1 _ (look_mem e)
    unfold keyB at k
    dsimp only at k
    simp only [Bool.and_eq_true, Bool.or_eq_true] at k
    rcases k.2 with z | z
    · simp at z
    · exact ⟨He.mkr_ok z.1.1, He.glo_ok KX G z.1.2, He.cls_ok z.2⟩
  · unfold Prog.okF okFd at e
    split at e
    · rename_i l el
      exact He.noat_ok (q1 _ (look_mem el) f (by simpa using e))
    · cases e
  · have k := q4 _ (look_mem e)
    unfold cstOk at k
    split at k
    · rename_i u eu
      obtain ⟨v, r, z⟩ := cv_of k
      exact ⟨v, ⟨u, PySem.W.mg_of KX G eu, r⟩, z⟩
    · cases k
  · have k := q6 c hc
    unfold neB at k
    rw [Bool.and_eq_true] at k
    exact ⟨eq_of_beq k.1, eq_of_beq k.2⟩
section
variable {P : Program} {w : World} {K : PySem.W.Frag} {mg : Str → Option Value} {base : Heap} {Γ : Prog}
theorem sr_start {ρ : Nat → Addr} {n : Nat} {H : Hp} {ts : List T} {vs : List V} {N : List Str} (r : VRs K ρ n H ts vs) : SR K ρ n H (ts.map some ++ List.replicate (N.length - ts.length) none) (L2.start N vs) := by
  unfold L2.start
  rw [r.len]
  refine ⟨by simp [r.len], fun i t e => ?_⟩
  by_cases hi : i < ts.length
  · rw [List.getElem?_append_left (by simpa using hi), List.getElem?_map] at e
    obtain ⟨u, e1, e2⟩ := Option.map_eq_some_iff.mp e
    cases e2
    obtain ⟨v, e3, q⟩ := r.get e1
    refine ⟨v, ?_, q⟩
    have hv : i < vs.length := by rw [← r.len]; exact hi
    rw [List.getElem?_append_left (by simpa using hv), List.getElem?_map, e3]
    rfl
  · rw [List.getElem?_append_right (by simpa using hi)] at e
    have := List.getElem?_replicate (n := N.length - vs.length) (a := (none : Option T)) (i := i - (ts.map some).length)
    rw [this] at e
    split at e <;> cases e
/-- a def's body keeps its promise -/
theorem def_ok (KX : Md K mg Γ) {key : Str × Option Str} {d : FD} (hd : defB K Γ key d = true) (n : Nat)
    (ih : ∀ key d, Γ.fns.lookup key = some d → ∃ fd, FnOk P w K mg base (CX P w) (2 * n) (addr K key) fd (d.ps ++ d.ko) (spC K Γ n d) ∧ BindOk K fd d) :
    ∃ fd, FnOk P w K mg base (CX P w) (2 * (n + 1)) (addr K key) fd (d.ps ++ d.ko) (spC K Γ (n + 1) d) ∧ BindOk K fd d ∧ ∃ oc od sl, K.lookup (addr K key) = some ⟨oc, od, .func fd, sl⟩ := by
  unfold defB at hd
  split at hd
  · rename_i oc od fd sl lk
    split at hd
    · rename_i b eb
      simp only [Bool.and_eq_true] at hd
      obtain ⟨⟨⟨⟨⟨⟨⟨⟨h1, h2⟩, h3⟩, h4⟩, h5⟩, h6⟩, h7⟩, h8⟩, h9⟩ := hd
      obtain ⟨n1, n2, n3, n4, n5, n6, n7, n8, n9, n10, n11, n12, n13, n14, n15⟩ := fd
      dsimp only at h1 h2 h3 h4 h5 h6 h7 h8 h9 eb
      have e6 : n6 = mainGlobals := eq_of_beq h5
      have e7 : n7 = [] := List.isEmpty_iff.mp h6
      have e15 : n15 = builtinsNs := eq_of_beq h7
      subst eb e6 e7 e15
      have S := C8.fnScope_by h8
      unfold nmB at h2
      simp only [Bool.and_eq_true, decide_eq_true_eq, List.isEmpty_iff, Option.isNone_iff_eq_none] at h2
      obtain ⟨⟨⟨⟨m1, m2⟩, m3⟩, m4⟩, m5⟩ := h2
      refine ⟨_, FnOk.mono (j := 2 * n + 1 + 1) (fn_of (N := d.N) (ps := d.ps ++ d.ko) (name := n1) (qual := n2) (params := n3) (body := b) (scope := n5) (dV := n8) (kV := n9) (doc := n10) (pm := n11) (an := n12) (cdv := n13) (ct := n14) lk h1 S (fun vs H Q E q => q.1) fun A outer s H vs Q E hr hs => ?_) (by omega), ⟨m1, m2, m3, m4, m5, df_of h3, kd_of h4⟩, oc, od, sl, lk⟩
      obtain ⟨hlen, ρ, h, ts, Sm, r, W⟩ := hs
      rw [clB_succ] at W
      have tk := takes_of (X := cxOf (CX P w) P w K mg base d.N n2 n5 (addr K key) n13 A outer s H E) (E := E) rfl rfl rfl rfl
      have C : Cxt (cxOf (CX P w) P w K mg base d.N n2 n5 (addr K key) n13 A outer s H E) E Γ d.N n n5 := ⟨rfl, rfl, S.nd, rfl, hr, KX, ih, fun pins σ H s e s' I x => passes_call tk (fun _ _ _ _ h => h) pins σ H s e s' I x⟩
      have Sx : Sxt (cxOf (CX P w) P w K mg base d.N n2 n5 (addr K key) n13 A outer s H E) E Γ d.N n n5 := ⟨C, S.kind, fun _ => rfl, passes_of rfl⟩
      refine ⟨_, sndSs Sx d.bd h9, ρ, h, _, Sm, sr_start r, ?_⟩
      unfold body at W
      refine W.bind fun f h1 ρ1 H1 g1 S1 W1 => ?_
      cases f with
      | nx s' => exact fun σ' R' => Wg.ret_ S1 W1 _ .non
      | rt v => exact Wg.ret_ (E := E) (k := qV K Q) (a := v) S1 W1
      | bk s' => exact False.elim W1
      | ct s' => exact False.elim W1
    · cases hd
  · cases hd
/-- all defs keep their promises, calls n deep -/
theorem defs_ok (KX : Md K mg Γ) (l2 : look2 Γ K = true) : ∀ n key d, Γ.fns.lookup key = some d → ∃ fd, FnOk P w K mg base (CX P w) (2 * n) (addr K key) fd (d.ps ++ d.ko) (spC K Γ n d) ∧ BindOk K fd d ∧ ∃ oc od sl, K.lookup (addr K key) = some ⟨oc, od, .func fd, sl⟩
  | 0, key, d, e => by
    unfold look2 at l2
    have hd := List.all_eq_true.mp l2 _ (look_mem e)
    unfold defB at hd
    dsimp only at hd
    split at hd
    · rename_i oc od fd sl lk
      split at hd
      · rename_i b eb
        simp only [Bool.and_eq_true] at hd
        obtain ⟨⟨⟨⟨⟨⟨⟨⟨h1, h2⟩, h3⟩, h4⟩, h5⟩, h6⟩, h7⟩, h8⟩, h9⟩ := hd
        unfold nmB at h2
        simp only [Bool.and_eq_true, decide_eq_true_eq, List.isEmpty_iff, Option.isNone_iff_eq_none] at h2
        obtain ⟨⟨⟨⟨m1, m2⟩, m3⟩, m4⟩, m5⟩ := h2
        exact ⟨fd, ⟨fun vs H Q E q => q.1, fun A outer s H args us vs Q E _ _ _ _ hs => by
          obtain ⟨_, ρ, h, ts, _, _, W⟩ := hs
          exact False.elim W⟩, ⟨m1, m2, m3, m4, m5, df_of h3, kd_of h4⟩, oc, od, sl, lk⟩
      · cases hd
    · cases hd
  | n + 1, key, d, e => by
    have hd := List.all_eq_true.mp (show (Γ.fns.all fun p => defB K Γ p.1 p.2) = true from l2) _ (look_mem e)
    exact def_ok KX hd n fun key d e => by
      obtain ⟨fd, h1, h2, _⟩ := defs_ok KX l2 n key d e
      exact ⟨fd, h1, h2⟩
end
end Y

/-! L3s: the head's look, a law's end. -/
namespace Y
open PySem PySem.Spec PyProof.Rows L2
/-! ### the written part -/
def refsY (o : Obj) : List Addr := match o.data with
  | .seq its _ => its.toList.flatMap He.refV
  | .dict es _ => es.toList.flatMap fun e => He.refV e.val
  | .func fd => He.refV fd.code ++ He.refV fd.defaults ++ He.refV fd.kwdefaults
  | .cls cd => [cd.ns]
  | _ => []
def lvY (g : Addr → Option Obj) : Nat → List Addr → List Addr
  | 0, fr => fr
  | n + 1, fr => fr ++ lvY g n (fr.flatMap fun a => match g a with
    | some o => refsY o
    | none => [])
/-- the law's def takes one argument as it is -/
def lawB (K : PySem.W.Frag) (lw : Str) : Bool := match K.lookup (He.ga K lw) with
  | some ⟨_, _, .func fd, _⟩ => (match fd.defaults with
    | .none => true
    | _ => false)
  | _ => false
def okY (Γ : Prog) (lw : Str) (K : PySem.W.Frag) : Bool := lookB Γ K && lawB K lw && (He.Fa.glo lw).ok K
def obY (n : Nat) (Γ : Prog) (lw : Str) (g : Addr → Option Obj) : Bool := okY Γ lw (He.frG g (lvY g n [mainGlobals]))
def hookY (n : Nat) (Γ : Prog) (lw : Str) : PySem.W.Hook where
  α := Bool
  obs := fun s => obY n Γ lw s.heap.get?
  val := fun _ => true
  says := fun _ h => ∃ K : PySem.W.Frag, K.In h ∧ okY Γ lw K = true
  of := fun _ _ e => ⟨_, He.frG_in, e⟩
  keeps := fun _ _ _ ⟨K, hK, c⟩ k => ⟨K, PySem.W.Frag.In.keeps hK k, c⟩
theorem obY_eq {n : Nat} {Γ : Prog} {lw : Str} (s : PySem.W.SharedT) : obY n Γ lw (HandSHeadRun.getT s) = (hookY n Γ lw).obs s.abs := by
  have e : HandSHeadRun.getT s = s.abs.heap.get? := funext (HandSHeadRun.getT_eq s)
  show obY n Γ lw _ = obY n Γ lw _
  rw [e]
/-- the run's equation by its three parts -/
theorem run3 {σ α β γ : Type} {o : Option σ} {f : σ → α} {g : σ → β} {k : σ → γ} {a : α} {b : β} {c : γ} (h1 : o.map f = some a) (h2 : o.map g = some b) (h3 : o.map k = some c) : o.map (fun s => (f s, g s, k s)) = some (a, b, c) := by
  cases o with
  | none => cases h1
  | some s =>
    cases h1
    cases h2
    cases h3
    rfl
/-! ### the law -/
theorem walk_ofW {l : PySem.W.OpenLaw} {n k : Nat} {q : Program} {loose : List Str} {XP : (Str → Option Value) → Heap → Prop} {YP : World → Heap → Prop} {d : DefRec} {CX : World → CXT} {x : Str}
    (hn : l.most = some n) (hn2 : n ≤ sizeLine) (hdf : d.params.defaults = []) (hr : Room k callerA)
    (F : ∀ (w : World) (mg : Str → Option Value) (fa : Addr) (h : Heap), YP w h → h.Ns mainGlobals mg → mg d.name = some (.ref fa) →
      ∃ (K : PySem.W.Frag) (fd : FuncData) (sp : Sp), K.In h ∧ (∀ (s : Shared) (u : Value), BindsTo s fd ⟨[u], []⟩ [(x, u)]) ∧
        (∀ (H : Hp) (a : Addr) (ns : List Int), ns.length ≤ n → Only H → SqL K H a (ns.map V.int) → sp [.ref a] H (fun v _ => v = .bl true) fun _ _ _ => False) ∧
        ∀ base : Heap, K.In base → base.Ns mainGlobals mg → FnOk l.prog w K mg base (CX w) k fa fd [x] sp)
    (hCX : ∀ (w : World) (H : Hp) (s : Shared) (e : Value) (s' : Shared), CX w [] H s (fun _ _ _ => False) e s' → False) :
    PySem.W.WalkO q loose XP YP l.row.toRowW d [] (fun f vs => PySem.call f vs) := by
  refine Att.attach_call hn hdf fun w s₀ s₁ mg mb fa o pm cd doc a vs ns G Y ho hd hcd hmg hobj hints hlen hg => ?_
  obtain ⟨K, fd, sp, KX, hb, hsp, hF⟩ := F w mg fa _ Y G.T.g hmg
  exact law_call KX G.T.g G.T.b G.T.builtins G.T.nolimit hg hobj hints (Nat.le_trans hlen hn2) hr hF hb (fun H hO hS => hsp H a ns hlen hO hS) fun H e s' => hCX w H s₁ e s'
theorem vrs_ints {K : PySem.W.Frag} {ρ : Nat → Addr} {n : Nat} {H : Hp} : ∀ ns : List Int, VRs K ρ n H (ns.map T.int) (ns.map V.int)
  | [] => .nil
  | i :: ns => .cons (.int i) (vrs_ints ns)
/-- what is left of a law: the evaluator's answer -/
def LawOk (Γ : Prog) (lw : Str) (n D : Nat) : Prop := ∃ d x, Γ.fns.lookup (lw, none) = some d ∧ d.ps = [x] ∧ d.ko = [] ∧ d.dfl = [] ∧ d.kd = [] ∧ ∀ ns : List Int, ns.length ≤ n → ∃ h', clB Γ D d [.ref 0] [.rol (ns.map T.int)] = .ok (.bl true) h'
theorem law_facts {l : PySem.W.OpenLaw} {n D : Nat} {Γ : Prog} {lw x : Str} (LO : LawOk Γ lw n D) (hx : ∀ d, Γ.fns.lookup (lw, none) = some d → d.ps = [x]) {w : World} {mg : Str → Option Value} {fa : Addr} {h : Heap} (Yh : ∃ K : PySem.W.Frag, K.In h ∧ okY Γ lw K = true) (G : h.Ns mainGlobals mg) (hfa : mg lw = some (.ref fa)) :
    ∃ (K : PySem.W.Frag) (fd : FuncData) (sp : Sp), K.In h ∧ (∀ (s : Shared) (u : Value), BindsTo s fd ⟨[u], []⟩ [(x, u)]) ∧
      (∀ (H : Hp) (a : Addr) (ns : List Int), ns.length ≤ n → Only H → SqL K H a (ns.map V.int) → sp [.ref a] H (fun v _ => v = .bl true) fun _ _ _ => False) ∧
      ∀ base : Heap, K.In base → base.Ns mainGlobals mg → FnOk l.prog w K mg base (CX l.prog w) (2 * D) fa fd [x] sp := by
  obtain ⟨K, KX, c⟩ := Yh
  unfold okY lookB at c
  simp only [Bool.and_eq_true] at c
  obtain ⟨⟨⟨⟨c1, c2⟩, c3⟩, c4⟩, c5⟩ := c
  obtain ⟨d, x', ed, e1, e2, e3, e4, run⟩ := LO
  have exx : x' = x := by
    have := hx d ed
    rw [e1] at this
    exact (List.cons.inj this).1
  subst exx
  have eg := hfa.symm.trans (He.glo_ok KX G c5)
  cases eg
  -- its function object
  have hd := List.all_eq_true.mp (show (Γ.fns.all fun p => defB K Γ p.1 p.2) = true from c2) _ (look_mem ed)
  have MD := md_by KX G c1 c3
  obtain ⟨fd, F0, B, oc, od, sl, lk⟩ := defs_ok (P := l.prog) (w := w) (base := h) MD c2 D (lw, none) d ed
  have hdn : fd.defaults = .none := by
    unfold lawB at c4
    rw [show K.lookup (He.ga K lw) = _ from lk] at c4
    dsimp only at c4
    split at c4
    · assumption
    · cases c4
  have Fn : ∀ base : Heap, K.In base → base.Ns mainGlobals mg → FnOk l.prog w K mg base (CX l.prog w) (2 * D) (addr K (lw, none)) fd (d.ps ++ d.ko) (spC K Γ D d) := fun base KB GB => by
    obtain ⟨fd2, F2, _, oc2, od2, sl2, lk2⟩ := defs_ok (P := l.prog) (w := w) (base := base) (md_by KB GB c1 c3) c2 D (lw, none) d ed
    rw [lk] at lk2
    cases lk2
    exact F2
  refine ⟨K, fd, spC K Γ D d, KX, fun s u => ?_, fun H a ns hl hO hS => ?_, fun base KB GB => ?_⟩
  · have b := bind_run (K := []) (fd := fd) (A := d.ps) (B := d.ko) (us := [u]) (dl := []) (kw := []) (kd := []) (s := s) (ws := [u]) (fun _ _ e => by cases e) B.n1 B.n2 B.n3 B.n4 B.n5 (.inl ⟨rfl, hdn⟩) (fun n v e => by cases e) (by
      rw [e1, e2]
      simp [bindA, kwOkA, missA, addD, boundA, slotsA, addK])
    rw [e1, e2] at b
    exact b
  · refine ⟨by rw [e1, e2]; rfl, fun _ => a, [.rol (ns.map T.int)], [.ref 0], ⟨fun i j o o' h1 h2 h3 h4 _ => ?_, fun i o e => ?_⟩, .cons (.ref (by simp)) .nil, ?_⟩
    · cases i with
      | zero => cases h1; cases h3
      | succ i => simp at h1
    · cases i with
      | zero =>
        cases e
        refine ⟨ns.map V.int, vrs_ints ns, ?_⟩
        rcases hS with (hS | ⟨o, hS⟩) | hS
        · rcases hO a with z | ⟨o, xs, z⟩
          · rw [z] at hS; cases hS
          · rw [z] at hS; cases hS
        · exact .inl ⟨o, hS⟩
        · exact .inr hS
      | succ i => simp at e
    · obtain ⟨h', er⟩ := run ns hl
      rw [er]
      intro ρ' H' _ _ v rv
      cases rv
      rfl
  · have := Fn base KB GB
    rw [e1, e2] at this
    exact this
end Y

/-! L4a: the evaluator by rewriting. -/
namespace Y
open PySem
section
variable {Φ : Pm} {h : LH} {s : En}
set_option autoImplicit true in
@[simp] theorem ev_var1 : ev Φ (.var i) s h = (getV s i) h := (rfl)
set_option autoImplicit true in
@[simp] theorem ev_cst2 : ev Φ (.cst t) s h = (ret t) h := (rfl)
set_option autoImplicit true in
@[simp] theorem ev_glo3 : ev Φ (.glo x t) s h = (ret t) h := (rfl)
set_option autoImplicit true in
@[simp] theorem ev_tup4 : ev Φ (.tup es) s h = (bnd (evs Φ es s) fun xs => if xs.length ≤ big then ret (.tup xs) else fl) h := (rfl)
set_option autoImplicit true in
@[simp] theorem ev_lst5 : ev Φ (.lst es) s h = (bnd (evs Φ es s) fun xs => if xs.length ≤ big then neu (.lst xs) else fl) h := (rfl)
set_option autoImplicit true in
@[simp] theorem ev_dic6 : ev Φ (.dic ps) s h = (bnd (evKV Φ ps s) fun p => match dicOf p with
    | some kvs => neu (.dK kvs)
    | none => fl) h := (rfl)
set_option autoImplicit true in
@[simp] theorem ev_dict07 : ev Φ (.dict0 tk) s h = (neu (if tk = true then .dT [] else .dK [])) h := (rfl)
set_option autoImplicit true in
@[simp] theorem ev_bin8 : ev Φ (.bin o a b) s h = (bnd (ev Φ a s) fun x => bnd (ev Φ b s) fun y => binOp o x y) h := (rfl)
set_option autoImplicit true in
@[simp] theorem ev_neg9 : ev Φ (.neg a) s h = (bnd (ev Φ a s) fun x => match x with
    | .int i => ret (.int (-i))
    | _ => fl) h := (rfl)
set_option autoImplicit true in
@[simp] theorem ev_cmp10 : ev Φ (.cmp o a b) s h = (bnd (ev Φ a s) fun x => bnd (ev Φ b s) fun y => bnd (cmpOp o x y) fun c => ret (.bl c)) h := (rfl)
set_option autoImplicit true in
@[simp] theorem ev_chain11 : ev Φ (.chain o1 o2 a b c) s h = (bnd (ev Φ a s) fun x => bnd (ev Φ b s) fun y => bnd (cmpOp o1 x y) fun k => if k = true then bnd (ev Φ c s) fun z => bnd (cmpOp o2 y z) fun j => ret (.bl j) else ret (.bl false)) h := (rfl)
set_option autoImplicit true in
@[simp] theorem ev_and212 : ev Φ (.and2 a b) s h = (bnd (ev Φ a s) fun x => bnd (tru x) fun k => if k = true then ev Φ b s else ret x) h := (rfl)
set_option autoImplicit true in
@[simp] theorem ev_or213 : ev Φ (.or2 a b) s h = (bnd (ev Φ a s) fun x => bnd (tru x) fun k => if k = true then ret x else ev Φ b s) h := (rfl)
set_option autoImplicit true in
@[simp] theorem ev_not14 : ev Φ (.not a) s h = (bnd (ev Φ a s) fun x => bnd (tru x) fun k => ret (.bl (!k))) h := (rfl)
set_option autoImplicit true in
@[simp] theorem ev_ite15 : ev Φ (.ite c a b) s h = (bnd (evB Φ c s) fun k => if k = true then ev Φ a s else ev Φ b s) h := (rfl)
set_option autoImplicit true in
@[simp] theorem ev_fld16 : ev Φ (.fld a f) s h = (bnd (ev Φ a s) fun x => fldT x f) h := (rfl)
set_option autoImplicit true in
@[simp] theorem ev_ix17 : ev Φ (.ix a b) s h = (bnd (ev Φ a s) fun x => bnd (ev Φ b s) fun y => ixT x y) h := (rfl)
set_option autoImplicit true in
@[simp] theorem ev_slc18 : ev Φ (.slc a lo hi) s h = (bnd (ev Φ a s) fun x => bnd (evP Φ lo s) fun l => bnd (evP Φ hi s) fun u => slT x l u) h := (rfl)
set_option autoImplicit true in
@[simp] theorem ev_call19 : ev Φ (.call f args ks) s h = (bnd (evs Φ args s) fun xs => bnd (evK Φ ks s) fun zs => Φ.call (f, none) xs ((ksN ks).zip zs)) h := (rfl)
set_option autoImplicit true in
@[simp] theorem ev_new20 : ev Φ (.new c args ks) s h = (bnd (evs Φ args s) fun xs => bnd (evK Φ ks s) fun zs => bnd (neu (.ins c [])) fun x => bnd (Φ.call (c, some "__init__") (x :: xs) ((ksN ks).zip zs)) fun v => if v = .non then ret x else fl) h := (rfl)
set_option autoImplicit true in
@[simp] theorem ev_meth21 : ev Φ (.meth a m args ks) s h = (bnd (ev Φ a s) fun x => bnd (rdH fun h => mcls Φ.has h x m) fun c => bnd (evs Φ args s) fun xs => bnd (evK Φ ks s) fun zs => Φ.call (c, some m) (x :: xs) ((ksN ks).zip zs)) h := (rfl)
set_option autoImplicit true in
@[simp] theorem ev_bi22 : ev Φ (.bi f args) s h = (bnd (evs Φ args s) fun xs => biF f xs) h := (rfl)
set_option autoImplicit true in
@[simp] theorem ev_bm23 : ev Φ (.bm a m args) s h = (bnd (ev Φ a s) fun x => bnd (rdH fun h => bmK m h x) fun _ => bnd (evs Φ args s) fun xs => bmF m x xs) h := (rfl)
set_option autoImplicit true in
@[simp] theorem ev_isi24 : ev Φ (.isi a cs tp) s h = (bnd (ev Φ a s) fun x => bnd (rdH fun h => isiH Φ.cls h x cs) fun b => ret (.bl b)) h := (rfl)
set_option autoImplicit true in
@[simp] theorem ev_lc25 : ev Φ (.lc g src c e own) s h = (bnd (evI Φ src s) fun p => bnd (lcGo p.2 (asgG g) (evC Φ c) (ev Φ e) p.1 (wipeN s (own.map (·.2)))) fun xs => if xs.length ≤ big then neu (.lst xs) else fl) h := (rfl)
set_option autoImplicit true in
@[simp] theorem ev_lrg126 : ev Φ (.lrg1 tp a) s h = (bnd (ev Φ a s) fun x => match x with
    | .int j => lrgT tp 0 j
    | _ => fl) h := (rfl)
set_option autoImplicit true in
@[simp] theorem ev_lrg227 : ev Φ (.lrg2 tp a b) s h = (bnd (ev Φ a s) fun x => bnd (ev Φ b s) fun y => match x, y with
    | .int i, .int j => lrgT tp i j
    | _, _ => fl) h := (rfl)
set_option autoImplicit true in
@[simp] theorem ev_nev28 : ev Φ (.nev) s h = (fl) h := (rfl)
set_option autoImplicit true in
@[simp] theorem evs_nil1 : evs Φ (.nil) s h = (ret []) h := (rfl)
set_option autoImplicit true in
@[simp] theorem evs_cons2 : evs Φ (.cons e es) s h = (bnd (ev Φ e s) fun x => bnd (evs Φ es s) fun xs => ret (x :: xs)) h := (rfl)
set_option autoImplicit true in
@[simp] theorem evK_nil1 : evK Φ (.nil) s h = (ret []) h := (rfl)
set_option autoImplicit true in
@[simp] theorem evK_cons2 : evK Φ (.cons k e ks) s h = (bnd (ev Φ e s) fun x => bnd (evK Φ ks s) fun xs => ret (x :: xs)) h := (rfl)
set_option autoImplicit true in
@[simp] theorem evKV_nil1 : evKV Φ (.nil) s h = (ret []) h := (rfl)
set_option autoImplicit true in
@[simp] theorem evKV_cons2 : evKV Φ (.cons k v ps) s h = (bnd (ev Φ k s) fun x => bnd (ev Φ v s) fun y => bnd (evKV Φ ps s) fun p => ret ((x, y) :: p)) h := (rfl)
set_option autoImplicit true in
@[simp] theorem evP_no1 : evP Φ (.no) s h = (ret none) h := (rfl)
set_option autoImplicit true in
@[simp] theorem evP_yes2 : evP Φ (.yes e) s h = (bnd (ev Φ e s) fun x => match partT x with
    | some i => ret (some i)
    | none => fl) h := (rfl)
set_option autoImplicit true in
@[simp] theorem evC_no1 : evC Φ (.no) s h = (ret true) h := (rfl)
set_option autoImplicit true in
@[simp] theorem evC_yes2 : evC Φ (.yes e) s h = (evB Φ e s) h := (rfl)
set_option autoImplicit true in
@[simp] theorem evB_cmp1 : evB Φ (.cmp o a b) s h = (bnd (ev Φ a s) fun x => bnd (ev Φ b s) fun y => cmpOp o x y) h := (rfl)
set_option autoImplicit true in
@[simp] theorem evB_chain2 : evB Φ (.chain o1 o2 a b c) s h = (bnd (ev Φ a s) fun x => bnd (ev Φ b s) fun y => bnd (cmpOp o1 x y) fun k => if k = true then bnd (ev Φ c s) fun z => cmpOp o2 y z else ret false) h := (rfl)
set_option autoImplicit true in
@[simp] theorem evB_and23 : evB Φ (.and2 a b) s h = (bnd (evB Φ a s) fun k => if k = true then evB Φ b s else ret false) h := (rfl)
set_option autoImplicit true in
@[simp] theorem evB_or24 : evB Φ (.or2 a b) s h = (bnd (evB Φ a s) fun k => if k = true then ret true else evB Φ b s) h := (rfl)
set_option autoImplicit true in
@[simp] theorem evB_not5 : evB Φ (.not a) s h = (bnd (evB Φ a s) fun k => ret (!k)) h := (rfl)
set_option autoImplicit true in
@[simp] theorem evB_var6 : evB Φ (.var i) s h = (bnd (getV s i) tru) h := (rfl)
set_option autoImplicit true in
@[simp] theorem evB_cst7 : evB Φ (.cst t) s h = (tru t) h := (rfl)
set_option autoImplicit true in
@[simp] theorem evB_glo8 : evB Φ (.glo x t) s h = (tru t) h := (rfl)
set_option autoImplicit true in
@[simp] theorem evB_fld9 : evB Φ (.fld a f) s h = (bnd (bnd (ev Φ a s) fun x => fldT x f) tru) h := (rfl)
set_option autoImplicit true in
@[simp] theorem evB_ix10 : evB Φ (.ix a b) s h = (bnd (bnd (ev Φ a s) fun x => bnd (ev Φ b s) fun y => ixT x y) tru) h := (rfl)
set_option autoImplicit true in
@[simp] theorem evB_call11 : evB Φ (.call f args ks) s h = (bnd (bnd (evs Φ args s) fun xs => bnd (evK Φ ks s) fun zs => Φ.call (f, none) xs ((ksN ks).zip zs)) tru) h := (rfl)
set_option autoImplicit true in
@[simp] theorem evB_meth12 : evB Φ (.meth a m args ks) s h = (bnd (bnd (ev Φ a s) fun x => bnd (rdH fun h => mcls Φ.has h x m) fun c => bnd (evs Φ args s) fun xs => bnd (evK Φ ks s) fun zs => Φ.call (c, some m) (x :: xs) ((ksN ks).zip zs)) tru) h := (rfl)
set_option autoImplicit true in
@[simp] theorem evB_bi13 : evB Φ (.bi f args) s h = (bnd (bnd (evs Φ args s) fun xs => biF f xs) tru) h := (rfl)
set_option autoImplicit true in
@[simp] theorem evB_bm14 : evB Φ (.bm a m args) s h = (bnd (bnd (ev Φ a s) fun x => bnd (rdH fun h => bmK m h x) fun _ => bnd (evs Φ args s) fun xs => bmF m x xs) tru) h := (rfl)
set_option autoImplicit true in
@[simp] theorem evB_isi15 : evB Φ (.isi a cs tp) s h = (bnd (ev Φ a s) fun x => rdH fun h => isiH Φ.cls h x cs) h := (rfl)
set_option autoImplicit true in
@[simp] theorem evI_seq1 : evI Φ (.seq e) s h = (bnd (ev Φ e s) walkT) h := (rfl)
set_option autoImplicit true in
@[simp] theorem evI_rng12 : evI Φ (.rng1 a) s h = (bnd (ev Φ a s) fun x => match x with
    | .int j => if rngOk j = true then ret (rngT 0 j.toNat, []) else fl
    | _ => fl) h := (rfl)
set_option autoImplicit true in
@[simp] theorem evI_rng23 : evI Φ (.rng2 a b) s h = (bnd (ev Φ a s) fun x => bnd (ev Φ b s) fun y => match x, y with
    | .int i, .int j => if rngOk i = true ∧ rngOk j = true then ret (rngT i (j - i).toNat, []) else fl
    | _, _ => fl) h := (rfl)
set_option autoImplicit true in
@[simp] theorem evI_enum4 : evI Φ (.enum e) s h = (bnd (ev Φ e s) fun x => bnd (walkT x) fun p => ret (enumT 0 p.1, p.2)) h := (rfl)
set_option autoImplicit true in
@[simp] theorem evI_zip5 : evI Φ (.zip a b) s h = (bnd (ev Φ a s) fun x => bnd (ev Φ b s) fun y => zipM x y) h := (rfl)
set_option autoImplicit true in
@[simp] theorem ex_asg1 : ex Φ (.asg t e) s h = (bnd (ev Φ e s) fun v => bnd (asgT Φ t v s) fun s' => ret (.nx s')) h := (rfl)
set_option autoImplicit true in
@[simp] theorem ex_aug2 : ex Φ (.aug (.g (.name i)) o e) s h = (bnd (getV s i) fun x => bnd (ev Φ e s) fun y => bnd (match x, y with
    | .int _, .int _ => binOp o x y
    | _, _ => fl) fun z => ret (.nx (s.set i (some z)))) h := (rfl)
set_option autoImplicit true in
@[simp] theorem ex_aug3 : ex Φ (.aug (.fld a f) o e) s h = (bnd (ev Φ a s) fun x => bnd (fldT x f) fun v => bnd (ev Φ e s) fun y => bnd (match v, y with
    | .int _, .int _ => binOp o v y
    | _, _ => fl) fun z => bnd (setFld Φ.okF x f z) fun _ => ret (.nx s)) h := (rfl)
set_option autoImplicit true in
@[simp] theorem ex_expr5 : ex Φ (.expr e) s h = (bnd (ev Φ e s) fun _ => ret (.nx s)) h := (rfl)
set_option autoImplicit true in
@[simp] theorem ex_retE6 : ex Φ (.retE e) s h = (bnd (ev Φ e s) fun v => ret (.rt v)) h := (rfl)
set_option autoImplicit true in
@[simp] theorem ex_ret07 : ex Φ (.ret0) s h = (ret (.rt .non)) h := (rfl)
set_option autoImplicit true in
@[simp] theorem ex_ifS8 : ex Φ (.ifS c a b) s h = (bnd (evB Φ c s) fun k => if k = true then exs Φ a s else exs Φ b s) h := (rfl)
set_option autoImplicit true in
@[simp] theorem ex_forS9 : ex Φ (.forS g src bd2) s h = (bnd (evI Φ src s) fun p => forGo p.2 g (exs Φ bd2) p.1 s) h := (rfl)
set_option autoImplicit true in
@[simp] theorem ex_whileS10 : ex Φ (.whileS c bd2) s h = (whileGo (evB Φ c) (exs Φ bd2) 100000 s) h := (rfl)
set_option autoImplicit true in
@[simp] theorem ex_pass11 : ex Φ (.pass) s h = (ret (.nx s)) h := (rfl)
set_option autoImplicit true in
@[simp] theorem ex_doc12 : ex Φ (.doc) s h = (ret (.nx s)) h := (rfl)
set_option autoImplicit true in
@[simp] theorem ex_brk13 : ex Φ (.brk) s h = (ret (.bk s)) h := (rfl)
set_option autoImplicit true in
@[simp] theorem ex_cont14 : ex Φ (.cont) s h = (ret (.ct s)) h := (rfl)
set_option autoImplicit true in
@[simp] theorem ex_nev15 : ex Φ (.nev) s h = (fl) h := (rfl)
set_option autoImplicit true in
@[simp] theorem exs_nil1 : exs Φ (.nil) s h = (ret (.nx s)) h := (rfl)
set_option autoImplicit true in
@[simp] theorem exs_cons2 : exs Φ (.cons st ss) s h = (bnd (ex Φ st s) fun f => match f with
    | .nx s' => exs Φ ss s'
    | f => ret f) h := (rfl)

end
/-! ### steps -/
def bndR {α β : Type} (r : Res α) (f : α → M β) : Res β := match r with
  | .ok a h => f a h
  | .exc e h => .exc e h
  | .fail => .fail
def optR {α : Type} (o : Option α) (h : LH) : Res α := match o with
  | some a => .ok a h
  | none => .fail
section
variable {α β : Type} {h h' : LH}
@[simp] theorem bnd_app (m : M α) (f : α → M β) : bnd m f h = bndR (m h) f := (rfl)
@[simp] theorem bndR_ok (a : α) (f : α → M β) : bndR (.ok a h) f = f a h := (rfl)
@[simp] theorem bndR_exc (e : Ex) (f : α → M β) : bndR (.exc e h) f = .exc e h := (rfl)
@[simp] theorem bndR_fail (f : α → M β) : bndR .fail f = .fail := (rfl)
@[simp] theorem ret_app (a : α) : ret a h = .ok a h := (rfl)
@[simp] theorem fl_app : (fl : M α) h = .fail := (rfl)
@[simp] theorem opt_app (o : Option α) : opt o h = optR o h := (rfl)
@[simp] theorem optR_some (a : α) : optR (some a) h = .ok a h := (rfl)
@[simp] theorem optR_none : optR (none : Option α) h = .fail := (rfl)
@[simp] theorem rdH_app (f : LH → Option α) : rdH f h = optR (f h) h := by
  unfold rdH optR
  cases f h <;> rfl
def wrR (o : Option LH) : Res Unit := match o with
  | some h => .ok () h
  | none => .fail
@[simp] theorem wrH_app (f : LH → Option LH) : wrH f h = wrR (f h) := by
  unfold wrH wrR
  cases f h <;> rfl
@[simp] theorem wrR_some : wrR (some h) = .ok () h := (rfl)
@[simp] theorem neu_app (o : LO) : neu o h = .ok (.ref h.length) (h ++ [o]) := (rfl)
@[simp] theorem ite_app {c : Prop} [Decidable c] (f g : M α) : (if c then f else g) h = if c then f h else g h := by split <;> rfl
@[simp] theorem ite_bndR {c : Prop} [Decidable c] (f g : Res α) (k : α → M β) : bndR (if c then f else g) k = if c then bndR f k else bndR g k := by split <;> rfl
end
/-! ### values, objects -/
section
variable {h : LH} {s : En} {i : Nat} {x y : Int}
@[simp] theorem getV_app : getV s i h = optR ((s[i]?).bind id) h := (rfl)
@[simp] theorem asgG_name (t : T) : asgG (.name i) t s = some (s.set i (some t)) := (rfl)
@[simp] theorem asgG_tup (gs : Gs) (xs : List T) : asgG (.tup gs) (.tup xs) s = asgGs gs xs s := (rfl)
@[simp] theorem asgG_kt (gs : Gs) (xs : List T) : asgG (.tup gs) (.kt xs) s = asgGs gs xs s := (rfl)
@[simp] theorem asgGs_nil : asgGs .nil [] s = some s := (rfl)
@[simp] theorem asgGs_cons (g : G) (gs : Gs) (t : T) (ts : List T) : asgGs (.cons g gs) (t :: ts) s = (asgG g t s).bind (asgGs gs ts) := by
  show (match asgG g t s with
    | some s' => asgGs gs ts s'
    | none => none) = _
  cases asgG g t s <;> rfl
variable {Φ : Pm}
@[simp] theorem asgT_g (g : G) (v : T) : asgT Φ (.g g) v s h = optR (asgG g v s) h := (rfl)
@[simp] theorem asgT_fld (a : E) (f : Str) (v : T) : asgT Φ (.fld a f) v s h = (bnd (ev Φ a s) fun x => bnd (setFld Φ.okF x f v) fun _ => ret s) h := (rfl)
@[simp] theorem asgT_ix (a b : E) (v : T) : asgT Φ (.ix a b) v s h = (bnd (ev Φ a s) fun x => bnd (ev Φ b s) fun y => bnd (setIx x y v) fun _ => ret s) h := (rfl)
@[simp] theorem binOp_int (o : Operator) : binOp o (.int x) (.int y) h = optR (binI o x y) h := (rfl)
@[simp] theorem binI_add : binI .Add x y = some (.int (x + y)) := (rfl)
@[simp] theorem binI_sub : binI .Sub x y = some (.int (x - y)) := (rfl)
@[simp] theorem binI_mul : binI .Mult x y = if mulOk x y = true then some (.int (x * y)) else none := (rfl)
@[simp] theorem binI_div : binI .FloorDiv x y = if divOk y = true then some (.int (x / y)) else none := (rfl)
@[simp] theorem binI_mod : binI .Mod x y = if 0 < y then some (.int (x % y)) else none := (rfl)
@[simp] theorem binI_pow : binI .Pow x y = if powOk x y = true then some (.int (x ^ y.toNat)) else none := (rfl)
theorem mulOk_l (h : -(2 ^ 64) < x ∧ x < 2 ^ 64) : mulOk x y = true := decide_eq_true (.inl h)
theorem mulOk_r (h : -(2 ^ 64) < y ∧ y < 2 ^ 64) : mulOk x y = true := decide_eq_true (.inr h)
@[simp] theorem cmp_lt : cmpOp .Lt (.int x) (.int y) h = .ok (decide (x < y)) h := (rfl)
@[simp] theorem cmp_le : cmpOp .LtE (.int x) (.int y) h = .ok (decide (x ≤ y)) h := (rfl)
@[simp] theorem cmp_gt : cmpOp .Gt (.int x) (.int y) h = .ok (decide (y < x)) h := (rfl)
@[simp] theorem cmp_ge : cmpOp .GtE (.int x) (.int y) h = .ok (decide (y ≤ x)) h := (rfl)
@[simp] theorem cmp_eq (a b : T) : cmpOp .Eq a b h = optR (eqH h a b) h := (rfl)
@[simp] theorem cmp_ne (a b : T) : cmpOp .NotEq a b h = optR ((eqH h a b).map (!·)) h := (rfl)
@[simp] theorem cmp_is (a : T) : cmpOp .Is a .non h = .ok (decide (a = .non)) h := (rfl)
@[simp] theorem cmp_isn (a : T) : cmpOp .IsNot a .non h = .ok (!decide (a = .non)) h := (rfl)
@[simp] theorem cmp_in (a b : T) : cmpOp .In a b h = optR (inH h a b) h := (rfl)
@[simp] theorem cmp_nin (a b : T) : cmpOp .NotIn a b h = optR ((inH h a b).map (!·)) h := (rfl)
@[simp] theorem tru_app (t : T) : tru t h = optR (truH h t) h := rdH_app _
@[simp] theorem truH_bl (b : Bool) : truH h (.bl b) = some b := (rfl)
@[simp] theorem truH_int : truH h (.int x) = some (x != 0) := (rfl)
@[simp] theorem truH_non : truH h .non = some false := (rfl)
@[simp] theorem ixT_app (a b : T) : ixT a b h = optR (ixH h a b) h := rdH_app _
@[simp] theorem ixH_tup (xs : List T) (b : T) : ixH h (.tup xs) b = atV xs b := (rfl)
@[simp] theorem ixH_kt (xs : List T) (b : T) : ixH h (.kt xs) b = atV xs b := (rfl)
@[simp] theorem ixH_ref (l : Nat) (b : T) : ixH h (.ref l) b = (h[l]?).bind fun o => ixO o b := by
  show (match h[l]? with
    | some o => ixO o b
    | none => none) = _
  cases h[l]? <;> rfl
@[simp] theorem ixO_lst (xs : List T) (b : T) : ixO (.lst xs) b = atV xs b := (rfl)
@[simp] theorem ixO_rol (xs : List T) (b : T) : ixO (.rol xs) b = atV xs b := (rfl)
@[simp] theorem ixO_dK (kvs : List (Key × T)) (b : T) : ixO (.dK kvs) b = ((keyOf b).bind fun k => kget kvs k) := by
  show ((keyOf b).map fun k => kget kvs k).bind id = _
  cases keyOf b <;> rfl
@[simp] theorem keyOf_int : keyOf (.int x) = some (.inl x) := (rfl)
@[simp] theorem keyOf_str (z : Str) : keyOf (.str z) = some (.inr z) := (rfl)
@[simp] theorem atV_int (xs : List T) : atV xs (.int x) = atT xs x := (rfl)
@[simp] theorem setIx_lst {l : Nat} {xs : List T} (v : T) (e : h[l]? = some (.lst xs)) : setIx (.ref l) (.int x) v h = wrR ((atN xs.length x).map fun j => h.set l (.lst (xs.set j v))) := by
  unfold setIx
  rw [wrH_app]
  simp only [e]
@[simp] theorem set_get (l : Nat) (o : LO) : (h.set l o)[l]? = (h[l]?).map fun _ => o := by
  by_cases e : l < h.length
  · rw [List.getElem?_set_self e, List.getElem?_eq_getElem e]; rfl
  · rw [List.getElem?_eq_none (by rw [List.length_set]; omega), List.getElem?_eq_none (by omega)]; rfl
@[simp] theorem set_set (l : Nat) (o o' : LO) : (h.set l o).set l o' = h.set l o' := List.set_set ..
theorem app_get {l : Nat} {t : LH} {o : LO} (e : h[l]? = some o) : (h ++ t)[l]? = some o := by
  rw [List.getElem?_append_left (lt_of_get e)]; exact e
@[simp] theorem new_get {o : LO} {t : LH} : (h ++ o :: t)[h.length]? = some o := by simp
/-! ### equality, kinds -/
@[simp] theorem eqH_int : eqH h (.int x) (.int y) = some (decide (x = y)) := (rfl)
@[simp] theorem eqH_bl (a b : Bool) : eqH h (.bl a) (.bl b) = some (decide (a = b)) := by cases a <;> cases b <;> rfl
@[simp] theorem eqH_non : eqH h .non .non = some true := (rfl)
@[simp] theorem eqH_intnon : eqH h (.int x) .non = some false := (rfl)
@[simp] theorem eqH_nonint : eqH h .non (.int x) = some false := (rfl)
theorem allO_ints : ∀ ns : List Int, allO ((ns.map T.int).map (datH h 7)) = some (ns.map PyData.int)
  | [] => rfl
  | n :: ns => by
    show (allO ((ns.map T.int).map (datH h 7))).map (PyData.int n :: ·) = _
    rw [allO_ints ns]; rfl
theorem eqvAll_ints : ∀ ns ms : List Int, PyData.eqvAll (ns.map PyData.int) (ms.map PyData.int) = decide (ns = ms)
  | [], [] => rfl
  | [], _ :: _ => rfl
  | _ :: _, [] => rfl
  | n :: ns, m :: ms => by
    show (n == m && PyData.eqvAll (ns.map PyData.int) (ms.map PyData.int)) = _
    rw [eqvAll_ints ns ms]
    by_cases e : n = m
    · by_cases e2 : ns = ms
      · simp [e, e2]
      · simp [e, e2]
    · simp [e]
/-- two lists of whole numbers -/
theorem eqH_lst {l k : Nat} {ns ms : List Int} (e1 : (h[l]?).bind LO.items = some (ns.map T.int)) (e2 : (h[k]?).bind LO.items = some (ms.map T.int)) : eqH h (.ref l) (.ref k) = some (decide (ns = ms)) := by
  have d : ∀ (l : Nat) (ns : List Int), (h[l]?).bind LO.items = some (ns.map T.int) → datH h 8 (.ref l) = some (.list (ns.map PyData.int)) := fun l ns e => by
    show (match (h[l]?).bind LO.items with
      | some xs => (allO (xs.map (datH h 7))).map PyData.list
      | none => none) = _
    rw [e]
    show (allO ((ns.map T.int).map (datH h 7))).map PyData.list = _
    rw [allO_ints]; rfl
  unfold eqH
  rw [d l ns e1, d k ms e2]
  show some (PyData.eqvAll _ _) = _
  rw [eqvAll_ints]
/-! ### loops -/
theorem forGo_inv {gd : Gd} {g : G} {mb : En → M Fl} (I : Nat → En → LH → Prop) : ∀ (ts : List T) (k : Nat) {s : En} {h : LH}, I k s h →
    (∀ i t s h, ts[i]? = some t → I (k + i) s h → gdOk h gd = true ∧ ∃ s1 s2 h2, asgG g t s = some s1 ∧ mb s1 h = .ok (.nx s2) h2 ∧ I (k + i + 1) s2 h2) →
    (∀ s h, I (k + ts.length) s h → gdOk h gd = true) → ∃ s' h', forGo gd g mb ts s h = .ok (.nx s') h' ∧ I (k + ts.length) s' h'
  | [], k, s, h, i0, _, stop => by
    refine ⟨s, h, ?_, i0⟩
    unfold forGo
    have := stop s h i0
    simp [this]
  | t :: ts, k, s, h, i0, step, stop => by
    obtain ⟨g1, s1, s2, h2, e1, e2, i1⟩ := step 0 t s h rfl i0
    obtain ⟨s', h', e3, i3⟩ := forGo_inv I ts (k + 1) (s := s2) (h := h2) i1 (fun i t s h e q => by
      have := step (i + 1) t s h (by simpa using e) (by rw [show k + (i + 1) = k + 1 + i by omega]; exact q)
      rw [show k + (i + 1) = k + 1 + i by omega] at this
      exact this) (fun s h q => stop s h (by rw [List.length_cons, show k + (ts.length + 1) = k + 1 + ts.length by omega]; exact q))
    refine ⟨s', h', ?_, by rw [List.length_cons, show k + (ts.length + 1) = k + 1 + ts.length by omega]; exact i3⟩
    unfold forGo
    simp [g1, e1, e2]
    exact e3
/-- a walk over a range -/
theorem for_rng {v : Nat} {mb : En → M Fl} {lo : Int} {n : Nat} {s : En} {h : LH} (I : Nat → En → LH → Prop) (i0 : I 0 s h)
    (step : ∀ (i : Nat) s h, i < n → I i s h → ∃ s2 h2, mb (s.set v (some (.int (lo + i)))) h = .ok (.nx s2) h2 ∧ I (i + 1) s2 h2) : ∃ s' h', forGo [] (.name v) mb (rngT lo n) s h = .ok (.nx s') h' ∧ I n s' h' := by
  have hl : (rngT lo n).length = n := by unfold rngT; simp
  obtain ⟨s', h', e, q⟩ := forGo_inv (gd := []) (g := .name v) (mb := mb) I (rngT lo n) 0 i0 (fun i t s h e q => by
    obtain ⟨hi, rfl⟩ := rngT_get e
    rw [Nat.zero_add] at q ⊢
    obtain ⟨s2, h2, e2, q2⟩ := step i s h hi q
    exact ⟨rfl, _, s2, h2, rfl, e2, q2⟩) (fun _ _ _ => rfl)
  rw [Nat.zero_add, hl] at q
  exact ⟨s', h', e, q⟩
theorem rngT_succ (lo : Int) (n : Nat) : rngT lo (n + 1) = rngT lo n ++ [.int (lo + n)] := by
  unfold rngT
  rw [List.range_succ, List.map_append]; rfl
theorem rngT_ints (lo : Int) (n : Nat) : rngT lo n = ((List.range n).map fun i : Nat => lo + (i : Int)).map T.int := by
  unfold rngT
  rw [List.map_map]; rfl
@[simp] theorem bmK_append (l : Nat) : bmK .append h (.ref l) = (wlstOf h (.ref l)).map fun _ => () := (rfl)
theorem wlst_at {l : Nat} {xs : List T} (e : h[l]? = some (.lst xs)) : wlstOf h (.ref l) = some xs := by
  show (h[l]?).bind LO.wlist = some xs
  rw [e]; rfl
theorem append_at {l : Nat} {xs : List T} (t : T) (e : h[l]? = some (.lst xs)) : bmF .append (.ref l) [t] h = if xs.length < big then .ok .non (h.set l (.lst (xs ++ [t]))) else .fail := bm_at e
@[simp] theorem lrgT_app (tp : Bool) : lrgT tp x y h = if rngOk x = true ∧ rngOk y = true ∧ (y - x).toNat ≤ big then (if tp = true then .ok (.tup (rngT x (y - x).toNat)) h else .ok (.ref h.length) (h ++ [.lst (rngT x (y - x).toNat)])) else .fail := by
  unfold lrgT
  split
  · split <;> rfl
  · rfl
end
end Y

/-! L4b: the draws. -/
namespace Y
open PySem
def TAKE : FD := { ps := [(sl 1990466642053554134062773984), (sl 8853948731609364192)], N := [(sl 1990466642053554134062773984), (sl 8853948731609364192), (sl 57912952725485280), (sl 1086831649764471781088)], bd :=
    (.cons (.ifS (.cmp .Gt (.ix (.var 0) (.cst (.int 0))) (.cst (.int 0))) (.cons (.asg (.g (.name 3)) (.bin .Mod (.ix (.var 0) (.cst (.int 0))) (.var 1)))
    (.cons (.asg (.ix (.var 0) (.cst (.int 0))) (.bin .FloorDiv (.ix (.var 0) (.cst (.int 0))) (.var 1)))
    (.cons (.retE (.var 3))
    .nil))) .nil)
    (.cons (.asg (.ix (.var 0) (.cst (.int 2))) (.bin .Add (.ix (.var 0) (.cst (.int 2))) (.cst (.int 1))))
    (.cons (.asg (.g (.name 2)) (.bin .Mod (.bin .Mult (.bin .Add (.ix (.var 0) (.cst (.int 1))) (.bin .Mult (.cst (.int 104729)) (.ix (.var 0) (.cst (.int 2))))) (.cst (.int 69623))) (.cst (.int 2147483647))))
    (.cons (.asg (.ix (.var 0) (.cst (.int 1))) (.bin .Add (.bin .Mod (.bin .Add (.bin .Mult (.var 2) (.cst (.int 48271))) (.cst (.int 30103))) (.cst (.int 2147483629))) (.cst (.int 1))))
    (.cons (.retE (.bin .Mod (.bin .FloorDiv (.bin .Add (.bin .Mult (.var 2) (.cst (.int 2147483647))) (.ix (.var 0) (.cst (.int 1)))) (.cst (.int 8191))) (.var 1)))
    .nil))))) }
/-- a draw's box -/
def Bx (h : LH) (b : Nat) : Prop := ∃ a s c : Int, h[b]? = some (.lst [.int a, .int s, .int c])
theorem take_ok {Γ : Prog} {n b : Nat} {m : Int} {h : LH} (hb : Bx h b) (hm : 0 < m) (hm2 : m.natAbs.log2 < 9000) :
    ∃ r a s c : Int, clB Γ (n + 1) TAKE [.ref b, .int m] h = .ok (.int r) (h.set b (.lst [.int a, .int s, .int c])) ∧ 0 ≤ r ∧ r < m := by
  obtain ⟨a, s, c, e⟩ := hb
  have hd : divOk m = true := by
    unfold divOk
    rw [decide_eq_true hm, decide_eq_true hm2]; rfl
  have n8 : divOk 8191 = true := by decide
  by_cases ha : 0 < a
  · refine ⟨a % m, a / m, s, c, ?_, Int.emod_nonneg _ (by omega), Int.emod_lt_of_pos _ hm⟩
    simp [clB_succ, body, TAKE, e, atT, atN, ha, hm, hd]
  · generalize hr : clB Γ (n + 1) TAKE [.ref b, .int m] h = r
    simp [clB_succ, body, TAKE, e, atT, atN, ha, hm, hd, mulOk_l, mulOk_r, n8] at hr
    subst hr
    exact ⟨_, _, _, _, rfl, Int.emod_nonneg _ (by omega), Int.emod_lt_of_pos _ hm⟩
theorem Bx.set {h : LH} {b : Nat} (hb : Bx h b) (a s c : Int) : Bx (h.set b (.lst [.int a, .int s, .int c])) b := by
  obtain ⟨a', s', c', e⟩ := hb
  exact ⟨a, s, c, by rw [set_get, e]; rfl⟩
def BOX (p q : Int) : FD := { ps := [(sl 139179163952130779821792), (sl 3736874825440)], N := [(sl 139179163952130779821792), (sl 3736874825440), (sl 7916091357798119136), (sl 7335690505576560352)], bd :=
    (.cons (.asg (.g (.name 2)) (.bin .Add (.bin .Mult (.cst (.int p)) (.var 1)) (.cst (.int q))))
    (.cons (.ifS (.cmp .Lt (.var 1) (.bi .len (.cons (.var 0) .nil))) (.cons (.asg (.g (.name 2)) (.ix (.var 0) (.var 1)))
    .nil) (.cons (.ifS (.cmp .Gt (.bi .len (.cons (.var 0) .nil)) (.cst (.int 0))) (.cons (.asg (.g (.name 2)) (.bin .Add (.var 2) (.bin .Mult (.bin .Mod (.ix (.var 0) (.bin .Mod (.var 1) (.bi .len (.cons (.var 0) .nil)))) (.cst (.int 2147483629))) (.cst (.int 69623)))))
    .nil) .nil)
    .nil))
    (.cons (.asg (.g (.name 3)) (.bin .Add (.bin .Mod (.bin .Add (.bin .Mult (.bin .Mod (.var 2) (.cst (.int 2147483629))) (.cst (.int 48271))) (.bin .Mult (.cst (.int 40692)) (.var 1))) (.cst (.int 2147483629))) (.cst (.int 1))))
    (.cons (.retE (.lst (.cons (.ix (.lst (.cons (.cst (.int 0)) (.cons (.var 2) .nil))) (.bi .int (.cons (.cmp .GtE (.var 2) (.bin .Pow (.cst (.int 10)) (.cst (.int 18)))) .nil))) (.cons (.var 3) (.cons (.cst (.int 0)) .nil)))))
    .nil)))) }
/-- the script as it stands -/
def Scr (h : LH) (l : Nat) (ns : List Int) : Prop := h[l]? = some (.rol (ns.map T.int))
theorem box_ok {Γ : Prog} {n l : Nat} {p q k : Int} (hp : mulOk p k = true) {ns : List Int} {h : LH} (hs : Scr h l ns) (hk : 0 ≤ k) : ∃ (x a s : Int), clB Γ (n + 1) (BOX p q) [.ref l, .int k] h = .ok (.ref (h.length + 1)) (h ++ [.lst [.int 0, .int x], .lst [.int a, .int s, .int 0]]) := by
  generalize hr : clB Γ (n + 1) (BOX p q) [.ref l, .int k] h = r
  unfold Scr at hs
  have p18 : powOk 10 18 = true := by decide
  have hbig : (2 : Nat) ≤ big ∧ (3 : Nat) ≤ big := by decide
  by_cases c1 : k < ns.length
  · obtain ⟨j, rfl⟩ := Int.eq_ofNat_of_zero_le hk
    have hj : j < ns.length := by omega
    by_cases c2 : (1000000000000000000 : Int) ≤ ns[j]
    · simp [clB_succ, body, BOX, hs, atT, atN, hk, c1, c2, hj, mulOk_l, mulOk_r, p18, biF, lenH, hbig, hp, app_get hs] at hr
      exact ⟨_, _, _, hr.symm⟩
    · simp [clB_succ, body, BOX, hs, atT, atN, hk, c1, c2, hj, mulOk_l, mulOk_r, p18, biF, lenH, hbig, hp, app_get hs] at hr
      exact ⟨_, _, _, hr.symm⟩
  · have nk : ¬ k < 0 := by omega
    by_cases c3 : ns = []
    · subst c3
      by_cases c2 : (1000000000000000000 : Int) ≤ p * k + q
      · simp [clB_succ, body, BOX, hs, atT, atN, hk, nk, c1, c2, mulOk_l, mulOk_r, p18, biF, lenH, hbig, hp, app_get hs] at hr
        exact ⟨_, _, _, hr.symm⟩
      · simp [clB_succ, body, BOX, hs, atT, atN, hk, nk, c1, c2, mulOk_l, mulOk_r, p18, biF, lenH, hbig, hp, app_get hs] at hr
        exact ⟨_, _, _, hr.symm⟩
    · have c4 : (0 : Int) < ns.length := by
        have := List.length_pos_iff.mpr c3
        omega
      have c5 : 0 < ns.length := List.length_pos_iff.mpr c3
      have e1 : 0 ≤ k % (ns.length : Int) := Int.emod_nonneg _ (by omega)
      have e2 : k % (ns.length : Int) < ns.length := Int.emod_lt_of_pos _ c4
      obtain ⟨j, ej⟩ := Int.eq_ofNat_of_zero_le e1
      rw [ej] at e2
      have hj : j < ns.length := by omega
      by_cases c2 : (1000000000000000000 : Int) ≤ p * k + q + ns[j] % 2147483629 * 69623
      · simp [clB_succ, body, BOX, hs, atT, atN, hk, c1, c2, c3, c4, c5, ej, hj, e2, mulOk_l, mulOk_r, p18, biF, lenH, hbig, hp, app_get hs] at hr
        exact ⟨_, _, _, hr.symm⟩
      · simp [clB_succ, body, BOX, hs, atT, atN, hk, c1, c2, c3, c4, c5, ej, hj, e2, mulOk_l, mulOk_r, p18, biF, lenH, hbig, hp, app_get hs] at hr
        exact ⟨_, _, _, hr.symm⟩
/-- the same with the objects by what is asked of them -/
theorem take_h {Γ : Prog} (n : Nat) {b : Nat} (m : Int) {h : LH} (hb : Bx h b) (hm : 0 < m) (hm2 : m < 2 ^ 64) :
    ∃ r h', clB Γ (n + 1) TAKE [.ref b, .int m] h = .ok (.int r) h' ∧ 0 ≤ r ∧ r < m ∧ Bx h' b ∧ (∀ l, l ≠ b → h'[l]? = h[l]?) ∧ h'.length = h.length := by
  have l2 : m.natAbs.log2 < 9000 := by
    have : m.natAbs < 2 ^ 64 := by omega
    have := (Nat.log2_lt (n := m.natAbs) (k := 64) (by omega)).mpr this
    omega
  obtain ⟨r, a, s, c, e, h1, h2⟩ := take_ok (Γ := Γ) (n := n) hb hm l2
  exact ⟨r, _, e, h1, h2, hb.set a s c, fun l hl => List.getElem?_set_ne (Ne.symm hl), List.length_set ..⟩
theorem box_h {Γ : Prog} (n : Nat) {p q : Int} (hp : -(2 ^ 64) < p ∧ p < 2 ^ 64) {l : Nat} {k : Int} {ns : List Int} {h : LH} (hs : Scr h l ns) (hk : 0 ≤ k) :
    ∃ b h', clB Γ (n + 1) (BOX p q) [.ref l, .int k] h = .ok (.ref b) h' ∧ Bx h' b ∧ (∀ (l : Nat) (o : LO), h[l]? = some o → h'[l]? = some o) ∧ h.length < b ∧ h'.length = b + 1 := by
  obtain ⟨x, a, s, e⟩ := box_ok (Γ := Γ) (n := n) (q := q) (mulOk_l hp) hs hk
  exact ⟨_, _, e, ⟨a, s, 0, by simp⟩, fun l o e => app_get e, by omega, by simp⟩
end Y

/-! L4c: objects that stay, fields, choices. -/
namespace Y
open PySem
/-- all objects but b's stay -/
def Kp (b : Nat) (h h' : LH) : Prop := ∀ (l : Nat) (o : LO), l ≠ b → h[l]? = some o → h'[l]? = some o
theorem Kp.refl {b : Nat} {h : LH} : Kp b h h := fun _ _ _ e => e
theorem Kp.trans {b : Nat} {h h1 h2 : LH} (a : Kp b h h1) (c : Kp b h1 h2) : Kp b h h2 := fun l o n e => c l o n (a l o n e)
theorem Kp.app {b : Nat} {h h1 : LH} (a : Kp b h h1) (t : LH) : Kp b h (h1 ++ t) := fun l o n e => app_get (a l o n e)
theorem Kp.of_eq {b : Nat} {h h1 : LH} (a : ∀ l, l ≠ b → h1[l]? = h[l]?) : Kp b h h1 := fun l o n e => by rw [a l n]; exact e
theorem Kp.set {b : Nat} {h h1 : LH} (a : Kp b h h1) {k : Nat} (o' : LO) (hk : h[k]? = none) : Kp b h (h1.set k o') := fun l o n e => by
  have : k ≠ l := fun z => by rw [z, e] at hk; cases hk
  rw [List.getElem?_set_ne this]; exact a l o n e
theorem Bx.app {b : Nat} {h : LH} (B : Bx h b) (t : LH) : Bx (h ++ t) b := by
  obtain ⟨a, s, c, e⟩ := B
  exact ⟨a, s, c, app_get e⟩
theorem Bx.lt {b : Nat} {h : LH} (B : Bx h b) : b < h.length := by
  obtain ⟨a, s, c, e⟩ := B
  exact lt_of_get e
theorem take_k {Γ : Prog} (n : Nat) {b : Nat} (m : Int) {h : LH} (hb : Bx h b) (hm : 0 < m) (hm2 : m < 2 ^ 64) :
    ∃ r h', clB Γ (n + 1) TAKE [.ref b, .int m] h = .ok (.int r) h' ∧ 0 ≤ r ∧ r < m ∧ Bx h' b ∧ Kp b h h' ∧ h'.length = h.length := by
  obtain ⟨r, h', e, h1, h2, h3, h4, h5⟩ := take_h (Γ := Γ) n m hb hm hm2
  exact ⟨r, h', e, h1, h2, h3, .of_eq h4, h5⟩
theorem pick2 {a b r : Int} (h0 : 0 ≤ r) (h1 : r < 2) : ∃ i, (i = a ∨ i = b) ∧ atT [.int a, .int b] r = some (.int i) := by
  rcases (by omega : r = 0 ∨ r = 1) with rfl | rfl
  · exact ⟨a, .inl rfl, rfl⟩
  · exact ⟨b, .inr rfl, rfl⟩
theorem pick3 {a b c r : Int} (h0 : 0 ≤ r) (h1 : r < 3) : ∃ i, (i = a ∨ i = b ∨ i = c) ∧ atT [.int a, .int b, .int c] r = some (.int i) := by
  rcases (by omega : r = 0 ∨ r = 1 ∨ r = 2) with rfl | rfl | rfl
  · exact ⟨a, .inl rfl, rfl⟩
  · exact ⟨b, .inr (.inl rfl), rfl⟩
  · exact ⟨c, .inr (.inr rfl), rfl⟩
@[simp] theorem initS : ("__init__" : Str) = sl 54469456771592288 := by decide +kernel
@[simp] theorem sl_beq {a b : Nat} : (sl a == sl b) = decide (a = b) := by
  by_cases e : a = b
  · subst e; simp
  · rw [decide_eq_false e]
    apply Bool.eq_false_iff.mpr
    intro z
    exact e (sl_inj.mp (eq_of_beq z))
@[simp] theorem sl_eq {a b : Nat} : (sl a = sl b) = (a = b) := sl_inj
section
variable {h : LH} {l : Nat} {c f : Str} {fs : List (Str × T)} {x y : Int}
theorem setFld_at {okF : Str → Str → Bool} (v : T) (e : h[l]? = some (.ins c fs)) : setFld okF (.ref l) f v h = if fs.length < 900 ∧ ((getF fs f).isSome = true ∨ okF c f = true) then .ok () (h.set l (.ins c (putF f v fs))) else .fail := by
  unfold setFld
  rw [wrH_app]
  simp only [e]
  split <;> rfl
theorem fldT_at (e : h[l]? = some (.ins c fs)) : fldT (.ref l) f h = optR (getF fs f) h := by
  unfold fldT
  rw [rdH_app]
  simp only [e]
theorem mcls_at {has : Str × Option Str → Bool} (e : h[l]? = some (.ins c fs)) : mcls has h (.ref l) f = if (getF fs f).isNone = true ∧ has (c, some f) = true then some c else none := by
  unfold mcls
  simp only [e]
theorem rep_ints : ∀ k : Nat, (List.replicate k [T.int x]).flatten = (List.replicate k x).map T.int
  | 0 => rfl
  | k + 1 => by rw [List.replicate_succ, List.flatten_cons, rep_ints k, List.replicate_succ]; rfl
theorem intsOf_map : ∀ ns : List Int, intsOf (ns.map T.int) = some ns
  | [] => rfl
  | n :: ns => by
    show (intsOf (ns.map T.int)).map (n :: ·) = _
    rw [intsOf_map ns]; rfl
theorem sum_rep : ∀ k : Nat, (List.replicate k x).sum = x * k
  | 0 => by simp
  | k + 1 => by
    rw [List.replicate_succ, List.sum_cons, sum_rep k]
    push_cast
    rw [Int.mul_add, Int.mul_one, Int.add_comm]
/-- [x] * k -/
theorem mulL_at {xs : List T} (e : h[l]? = some (.lst xs)) (h1 : y ≤ big) (h2 : -(big : Int) ≤ y) (h3 : xs.length * y.toNat ≤ big) : binOp .Mult (.ref l) (.int y) h = .ok (.ref h.length) (h ++ [.lst (List.replicate y.toNat xs).flatten]) := by
  have w := wlst_at e
  show (match wlstOf h (.ref l) with
    | some xs => if Operator.Mult = Operator.Mult ∧ y ≤ big ∧ -(big : Int) ≤ y ∧ xs.length * y.toNat ≤ big then neu (.lst (List.replicate y.toNat xs).flatten) h else .fail
    | none => .fail) = _
  rw [w]
  dsimp only
  rw [if_pos ⟨rfl, h1, h2, h3⟩]
  rfl
theorem addL_at {k : Nat} {xs ys : List T} (e : h[l]? = some (.lst xs)) (e2 : h[k]? = some (.lst ys)) (h3 : xs.length + ys.length ≤ big) : binOp .Add (.ref l) (.ref k) h = .ok (.ref h.length) (h ++ [.lst (xs ++ ys)]) := by
  have w := wlst_at e
  have w2 := wlst_at e2
  show (match wlstOf h (.ref l), wlstOf h (.ref k) with
    | some xs, some ys => if Operator.Add = Operator.Add ∧ xs.length + ys.length ≤ big then neu (.lst (xs ++ ys)) h else .fail
    | _, _ => .fail) = _
  rw [w, w2]
  dsimp only
  rw [if_pos ⟨rfl, h3⟩]
  rfl
theorem sum_at {ns : List Int} (e : h[l]? = some (.lst (ns.map T.int))) : biF .sum [.ref l] h = .ok (.int ns.sum) h := by
  show opt (((lstOf h (.ref l)).bind intsOf).map fun ns => T.int ns.sum) h = _
  have : lstOf h (.ref l) = some (ns.map T.int) := by
    show (h[l]?).bind LO.items = _
    rw [e]; rfl
  rw [this]
  show opt ((intsOf (ns.map T.int)).map fun ns => T.int ns.sum) h = _
  rw [intsOf_map]; rfl
theorem len_at {xs : List T} (e : h[l]? = some (.lst xs)) : biF .len [.ref l] h = .ok (.int xs.length) h := by
  show opt ((lenH h (.ref l)).map fun (n : Nat) => T.int (n : Int)) h = _
  have : lenH h (.ref l) = some xs.length := by
    unfold lenH
    dsimp only
    rw [e]
  rw [this]; rfl
theorem len_rol {xs : List T} (e : h[l]? = some (.rol xs)) : biF .len [.ref l] h = .ok (.int xs.length) h := by
  show opt ((lenH h (.ref l)).map fun (n : Nat) => T.int (n : Int)) h = _
  have : lenH h (.ref l) = some xs.length := by
    unfold lenH
    dsimp only
    rw [e]
  rw [this]; rfl
@[simp] theorem min2_app : biF .min2 [.int x, .int y] h = .ok (.int (if y < x then y else x)) h := (rfl)
@[simp] theorem max2_app : biF .max2 [.int x, .int y] h = .ok (.int (if y > x then y else x)) h := (rfl)
@[simp] theorem int_app : biF .int [.int x] h = .ok (.int x) h := (rfl)
@[simp] theorem intb_app {b : Bool} : biF .int [.bl b] h = .ok (.int (if b then 1 else 0)) h := (rfl)
@[simp] theorem isi_int_int {cls : List Str} : isiH cls h (.int x) [.ty .int] = some true := (rfl)
@[simp] theorem isi_int_bool {cls : List Str} : isiH cls h (.int x) [.ty .bool] = some false := (rfl)
@[simp] theorem isi_bl_bool {cls : List Str} {b : Bool} : isiH cls h (.bl b) [.ty .bool] = some true := (rfl)
theorem slT_at {xs : List T} {lo hi : Option Int} (e : h[l]? = some (.lst xs)) : slT (.ref l) lo hi h = .ok (.ref h.length) (h ++ [.lst (cutT xs lo hi)]) := by
  have : lstOf h (.ref l) = some xs := by
    show (h[l]?).bind LO.items = _
    rw [e]; rfl
  show (match lstOf h (.ref l) with
    | some xs => neu (.lst (cutT xs lo hi)) h
    | none => .fail) = _
  rw [this]; rfl
theorem walkT_at {xs : List T} (e : h[l]? = some (.lst xs)) : walkT (.ref l) h = .ok (xs, [(l, .lst xs)]) h := by
  unfold walkT
  rw [rdH_app]
  simp only [e]
  rfl
theorem gdOk_one {o : LO} (e : h[l]? = some o) : gdOk h [(l, o)] = true := by
  unfold gdOk
  simp [e]
/-- a walk over whole numbers in a list -/
theorem for_ints {v : Nat} {mb : En → M Fl} {is : List Int} {s : En} (I : En → LH → Prop) (i0 : I s h) (st : ∀ s h, I s h → h[l]? = some (.lst (is.map T.int)))
    (step : ∀ (i : Int) s h, i ∈ is → I s h → ∃ s2 h2, mb (s.set v (some (.int i))) h = .ok (.nx s2) h2 ∧ I s2 h2) : ∃ s' h', forGo [(l, .lst (is.map T.int))] (.name v) mb (is.map T.int) s h = .ok (.nx s') h' ∧ I s' h' := by
  obtain ⟨s', h', e, q⟩ := forGo_inv (gd := [(l, .lst (is.map T.int))]) (g := .name v) (mb := mb) (fun _ => I) (is.map T.int) 0 i0 (fun i t s h e q => by
    rw [List.getElem?_map] at e
    obtain ⟨j, e1, rfl⟩ := Option.map_eq_some_iff.mp e
    obtain ⟨s2, h2, e2, q2⟩ := step j s h (List.mem_of_getElem? e1) q
    exact ⟨gdOk_one (st s h q), _, s2, h2, rfl, e2, q2⟩) (fun s h q => gdOk_one (st s h q))
  exact ⟨s', h', e, q⟩
end
@[simp] theorem zipM_rr {l k : Nat} : zipM (.ref l) (.ref k) = bnd (lwalk (.ref l)) fun p => bnd (lwalk (.ref k)) fun q => if p.1.length = q.1.length then ret (zipT p.1 q.1, p.2 ++ q.2) else fl := (rfl)
@[simp] theorem zipM_tt {xs ys : List T} : zipM (.tup xs) (.tup ys) = if xs.length = ys.length then ret (zipT xs ys, []) else fl := (rfl)
end Y

/-! L4d: objects that all stay; flat things compared. -/
namespace Y
open PySem
/-- all objects stay -/
def Ka (h h' : LH) : Prop := ∀ (l : Nat) (o : LO), h[l]? = some o → h'[l]? = some o
theorem Ka.refl {h : LH} : Ka h h := fun _ _ e => e
theorem Ka.trans {h h1 h2 : LH} (a : Ka h h1) (c : Ka h1 h2) : Ka h h2 := fun l o e => c l o (a l o e)
theorem Ka.app {h h1 : LH} (a : Ka h h1) (t : LH) : Ka h (h1 ++ t) := fun l o e => app_get (a l o e)
theorem Ka.kp {b : Nat} {h h1 : LH} (a : Ka h h1) : Kp b h h1 := fun l o _ e => a l o e
theorem Ka.bx {b : Nat} {h h1 : LH} (a : Ka h h1) (B : Bx h b) : Bx h1 b := by
  obtain ⟨x, y, z, e⟩ := B
  exact ⟨x, y, z, a _ _ e⟩
/-- two things of the same kinds and the same content -/
def ALIKE : FD := { ps := [(sl 939625892901331449568), (sl 57943361093940960)], N := [(sl 939625892901331449568), (sl 57943361093940960), (sl 69132231936358112), (sl 57912952725485280), (sl 1068097287021032683232)], bd :=
    (.cons (.ifS (.isi (.var 1) [.ty .tuple, .ty .list] true) (.cons (.ifS (.or2 (.cmp .NotEq (.isi (.var 0) [.ty .tuple] false) (.isi (.var 1) [.ty .tuple] false)) (.cmp .NotEq (.isi (.var 0) [.ty .list] false) (.isi (.var 1) [.ty .list] false))) (.cons (.retE (.cst (.bl false)))
    .nil) .nil)
    (.cons (.retE (.and2 (.cmp .Eq (.bi .len (.cons (.var 0) .nil)) (.bi .len (.cons (.var 1) .nil))) (.bi .all (.cons (.lc (.tup (.cons (.name 3) (.cons (.name 4) .nil))) (.zip (.var 0) (.var 1)) .no (.call (sl 948626323390693160672) (.cons (.var 3) (.cons (.var 4) .nil)) .nil) [((sl 57912952725485280), 3), ((sl 1068097287021032683232), 4)]) .nil))))
    .nil)) .nil)
    (.cons (.ifS (.isi (.var 1) [.ty .dict] false) (.cons (.ifS (.or2 (.not (.isi (.var 0) [.ty .dict] false)) (.cmp .NotEq (.bi .sorted (.cons (.bi .listD (.cons (.var 0) .nil)) .nil)) (.bi .sorted (.cons (.bi .listD (.cons (.var 1) .nil)) .nil)))) (.cons (.retE (.cst (.bl false)))
    .nil) .nil)
    (.cons (.retE (.bi .all (.cons (.lockE (.var 1) (.lc (.name 2) (.dkeys false (.var 1)) .no (.call (sl 948626323390693160672) (.cons (.ix (.var 0) (.var 2)) (.cons (.ix (.var 1) (.var 2)) .nil)) .nil) [((sl 69132231936358112), 2)])) .nil)))
    .nil)) .nil)
    (.cons (.ifS (.or2 (.cmp .NotEq (.isi (.var 0) [.ty .bool] false) (.isi (.var 1) [.ty .bool] false)) (.cmp .NotEq (.isi (.var 0) [.ty .str] false) (.isi (.var 1) [.ty .str] false))) (.cons (.retE (.cst (.bl false)))
    .nil) .nil)
    (.cons (.retE (.and2 (.not (.isi (.var 0) [.ty .tuple, .ty .list, .ty .dict] true)) (.cmp .Eq (.var 0) (.var 1))))
    .nil)))) }
/-- a dict of texts and whole numbers -/
abbrev siT (kvs : List (Str × Int)) : List (Key × T) := kvs.map fun p => (.inr p.1, .int p.2)
mutual
inductive Al (h : LH) : Nat → T → T → Prop where
  | int (d : Nat) (i : Int) : Al h d (.int i) (.int i)
  | bl (d : Nat) (b : Bool) : Al h d (.bl b) (.bl b)
  | non (d : Nat) : Al h d .non .non
  | str {d : Nat} {x : Str} : PyData.strOk x = true → Al h d (.str x) (.str x)
  | dic {d l k : Nat} {kvs : List (Str × Int)} : l ≠ k → kvs.length < 64 → (kvs.map (·.1)).Nodup → (∀ p ∈ kvs, PyData.strOk p.1 = true) → h[l]? = some (.dK (siT kvs)) → h[k]? = some (.dK (siT kvs)) → Al h (d + 1) (.ref l) (.ref k)
  | tup {d : Nat} {xs ys : List T} : xs.length ≤ big → AlL h d xs ys → Al h (d + 1) (.tup xs) (.tup ys)
  | lst {d l k : Nat} {xs ys : List T} : xs.length ≤ big → h[l]? = some (.lst xs) → h[k]? = some (.lst ys) → AlL h d xs ys → Al h (d + 1) (.ref l) (.ref k)
inductive AlL (h : LH) : Nat → List T → List T → Prop where
  | nil (d : Nat) : AlL h d [] []
  | cons {d : Nat} {x y : T} {xs ys : List T} : Al h d x y → AlL h d xs ys → AlL h d (x :: xs) (y :: ys)
end
mutual
theorem Al.ka {h h' : LH} (K : Ka h h') : ∀ {d : Nat} {a b : T}, Al h d a b → Al h' d a b
  | _, _, _, .int d i => .int d i
  | _, _, _, .bl d i => .bl d i
  | _, _, _, .non d => .non d
  | _, _, _, .str hx => .str hx
  | _, _, _, .dic a b c d e1 e2 => .dic a b c d (K _ _ e1) (K _ _ e2)
  | _, _, _, .tup b r => .tup b (AlL.ka K r)
  | _, _, _, .lst b e1 e2 r => .lst b (K _ _ e1) (K _ _ e2) (AlL.ka K r)
theorem AlL.ka {h h' : LH} (K : Ka h h') : ∀ {d : Nat} {a b : List T}, AlL h d a b → AlL h' d a b
  | _, _, _, .nil d => .nil d
  | _, _, _, .cons a b => .cons (Al.ka K a) (AlL.ka K b)
end
theorem AlL.len {h : LH} : ∀ {d : Nat} {a b : List T}, AlL h d a b → a.length = b.length
  | _, _, _, .nil _ => rfl
  | _, _, _, .cons _ b => by rw [List.length_cons, List.length_cons, AlL.len b]
theorem gdOk_ka {h h' : LH} {gd : Gd} (K : Ka h h') (g : gdOk h gd = true) : gdOk h' gd = true := by
  unfold gdOk at g ⊢
  rw [List.all_eq_true] at g ⊢
  intro p hp
  have := of_decide_eq_true (g p hp)
  exact decide_eq_true (K _ _ this)
def ALK : Str × Option Str := (sl 948626323390693160672, none)
theorem lc_alike {Φ : Pm} {gd : Gd} {d : Nat} (hc : ∀ (a b : T) (h : LH), Al h d a b → ∃ h', Φ.call ALK [a, b] [] h = .ok (.bl true) h' ∧ Ka h h') : ∀ (xs ys : List T) (s : En) (h : LH), AlL h d xs ys → gdOk h gd = true → 5 ≤ s.length →
    ∃ h', lcGo gd (asgG (.tup (.cons (.name 3) (.cons (.name 4) .nil)))) (evC Φ .no) (ev Φ (.call (sl 948626323390693160672) (.cons (.var 3) (.cons (.var 4) .nil)) .nil)) (zipT xs ys) s h = .ok (List.replicate xs.length (.bl true)) h' ∧ Ka h h'
  | [], _, s, h, _, g, _ => ⟨h, by
      unfold zipT lcGo
      simp [g], .refl⟩
  | x :: xs, [], s, h, r, _, _ => by cases r
  | x :: xs, y :: ys, s, h, r, g, hl => by
    cases r with
    | cons a b =>
      obtain ⟨h1, e1, K1⟩ := hc x y h a
      obtain ⟨h2, e2, K2⟩ := lc_alike hc xs ys s h1 (b.ka K1) (gdOk_ka K1 g) hl
      refine ⟨h2, ?_, K1.trans K2⟩
      unfold zipT lcGo
      have g3 : ((s.set 3 (some x)).set 4 (some y))[3]? = some (some x) := by
        rw [List.getElem?_set_ne (by decide), List.getElem?_set_self (by omega)]
      have g4 : ((s.set 3 (some x)).set 4 (some y))[4]? = some (some y) := by
        rw [List.getElem?_set_self (by rw [List.length_set]; omega)]
      unfold ALK at e1
      simp [g, nox, g3, g4, ksN, e1, e2, List.replicate_succ]
end Y

/-! L4e: `_law_alike` over alike things. -/
namespace Y
open PySem
section
variable {cls : List Str} {h : LH}
@[simp] theorem isi_int_s {x : Int} : isiH cls h (.int x) [.ty .str] = some false := (rfl)
@[simp] theorem isi_int_t {x : Int} : isiH cls h (.int x) [.ty .tuple] = some false := (rfl)
@[simp] theorem isi_int_d {x : Int} : isiH cls h (.int x) [.ty .dict] = some false := (rfl)
@[simp] theorem isi_int_l {x : Int} : isiH cls h (.int x) [.ty .list] = some false := (rfl)
@[simp] theorem isi_int_tl {x : Int} : isiH cls h (.int x) [.ty .tuple, .ty .list] = some false := (rfl)
@[simp] theorem isi_int_tld {x : Int} : isiH cls h (.int x) [.ty .tuple, .ty .list, .ty .dict] = some false := (rfl)
@[simp] theorem isi_bl_s {x : Bool} : isiH cls h (.bl x) [.ty .str] = some false := (rfl)
@[simp] theorem isi_bl_d {x : Bool} : isiH cls h (.bl x) [.ty .dict] = some false := (rfl)
@[simp] theorem isi_bl_tl {x : Bool} : isiH cls h (.bl x) [.ty .tuple, .ty .list] = some false := (rfl)
@[simp] theorem isi_bl_tld {x : Bool} : isiH cls h (.bl x) [.ty .tuple, .ty .list, .ty .dict] = some false := (rfl)
@[simp] theorem isi_non_s : isiH cls h .non [.ty .str] = some false := (rfl)
@[simp] theorem isi_non_b : isiH cls h .non [.ty .bool] = some false := (rfl)
@[simp] theorem isi_non_d : isiH cls h .non [.ty .dict] = some false := (rfl)
@[simp] theorem isi_non_tl : isiH cls h .non [.ty .tuple, .ty .list] = some false := (rfl)
@[simp] theorem isi_non_tld : isiH cls h .non [.ty .tuple, .ty .list, .ty .dict] = some false := (rfl)
@[simp] theorem isi_str_s {x : Str} : isiH cls h (.str x) [.ty .str] = some true := (rfl)
@[simp] theorem isi_str_b {x : Str} : isiH cls h (.str x) [.ty .bool] = some false := (rfl)
@[simp] theorem isi_str_d {x : Str} : isiH cls h (.str x) [.ty .dict] = some false := (rfl)
@[simp] theorem isi_str_tl {x : Str} : isiH cls h (.str x) [.ty .tuple, .ty .list] = some false := (rfl)
@[simp] theorem isi_str_tld {x : Str} : isiH cls h (.str x) [.ty .tuple, .ty .list, .ty .dict] = some false := (rfl)
theorem isi_tup {xs : List T} {cs : List Kd} : isiH cls h (.tup xs) cs = some (cs.any (isiOne (.ty .tuple))) := by
  simp [isiH, tyOf, kdIn]
theorem isi_lst {l : Nat} {xs : List T} {cs : List Kd} (e : h[l]? = some (.lst xs)) : isiH cls h (.ref l) cs = some (cs.any (isiOne (.ty .list))) := by
  simp [isiH, tyOf, e, kdIn]
end
theorem alike_int {Φ : Pm} {h : LH} (i : Int) : body Φ ALIKE.bd ALIKE.N.length [.int i, .int i] h = .ok (.bl true) h := by
  simp [body, ALIKE, ksN]
theorem alike_bl {Φ : Pm} {h : LH} (i : Bool) : body Φ ALIKE.bd ALIKE.N.length [.bl i, .bl i] h = .ok (.bl true) h := by
  simp [body, ALIKE, ksN]
theorem alike_non {Φ : Pm} {h : LH} : body Φ ALIKE.bd ALIKE.N.length [.non, .non] h = .ok (.bl true) h := by
  simp [body, ALIKE, ksN]
theorem lwalk_at {h : LH} {l : Nat} {xs : List T} (e : h[l]? = some (.lst xs)) : lwalk (.ref l) h = .ok (xs, [(l, .lst xs)]) h := by
  simp [lwalk, e]
  rfl
theorem blsOf_rep (n : Nat) : blsOf (List.replicate n (.bl true)) = some (List.replicate n true) := by
  induction n with
  | zero => rfl
  | succ n ih => rw [List.replicate_succ, List.replicate_succ]; show (blsOf _).map _ = _; rw [ih]; rfl
theorem all_rep {h : LH} {l n : Nat} (e : h[l]? = some (.lst (List.replicate n (.bl true)))) : biF .all [.ref l] h = .ok (.bl true) h := by
  show opt (((lstOf h (.ref l)).bind blsOf).map fun bs => T.bl (bs.all id)) h = _
  have : lstOf h (.ref l) = some (List.replicate n (.bl true)) := by
    unfold lstOf
    simp [e]
    rfl
  rw [this, Option.bind_some, blsOf_rep]
  simp [opt]
theorem alike_lst {Φ : Pm} {h : LH} {d l k : Nat} {xs ys : List T} (hb : xs.length ≤ big) (hc : ∀ (a b : T) (h : LH), Al h d a b → ∃ h', Φ.call ALK [a, b] [] h = .ok (.bl true) h' ∧ Ka h h') (e1 : h[l]? = some (.lst xs)) (e2 : h[k]? = some (.lst ys)) (r : AlL h d xs ys) :
    ∃ h', body Φ ALIKE.bd ALIKE.N.length [.ref l, .ref k] h = .ok (.bl true) h' ∧ Ka h h' := by
  obtain ⟨h1, q1, K1⟩ := lc_alike hc xs ys [some (.ref l), some (.ref k), none, none, none] h r (gd := [(l, .lst xs), (k, .lst ys)]) (by simp [gdOk, e1, e2]) (by simp)
  refine ⟨h1 ++ [.lst (List.replicate xs.length (.bl true))], ?_, K1.app _⟩
  have q2 := all_rep (h := h1 ++ [.lst (List.replicate xs.length (.bl true))]) (l := h1.length) (n := xs.length) (by simp)
  have q3 : decide ((xs.length : Int) = (ys.length : Int)) = true := by simp [r.len]
  simp [body, ALIKE, ksN, isi_lst e1, isi_lst e2, isiOne, len_at e1, len_at e2, lwalk_at e1, lwalk_at e2, wipeN, q1, q2, q3, r.len.symm, hb]
theorem len_tup {h : LH} {xs : List T} : biF .len [.tup xs] h = .ok (.int xs.length) h := rfl
theorem alike_tup {Φ : Pm} {h : LH} {d : Nat} {xs ys : List T} (hb : xs.length ≤ big) (hc : ∀ (a b : T) (h : LH), Al h d a b → ∃ h', Φ.call ALK [a, b] [] h = .ok (.bl true) h' ∧ Ka h h') (r : AlL h d xs ys) :
    ∃ h', body Φ ALIKE.bd ALIKE.N.length [.tup xs, .tup ys] h = .ok (.bl true) h' ∧ Ka h h' := by
  obtain ⟨h1, q1, K1⟩ := lc_alike hc xs ys [some (.tup xs), some (.tup ys), none, none, none] h r (gd := []) (by simp [gdOk]) (by simp)
  refine ⟨h1 ++ [.lst (List.replicate xs.length (.bl true))], ?_, K1.app _⟩
  have q2 := all_rep (h := h1 ++ [.lst (List.replicate xs.length (.bl true))]) (l := h1.length) (n := xs.length) (by simp)
  have q3 : decide ((xs.length : Int) = (ys.length : Int)) = true := by simp [r.len]
  simp [body, ALIKE, ksN, isi_tup, isiOne, len_tup, wipeN, q1, q2, q3, r.len.symm, hb]
theorem alike_str {Φ : Pm} {h : LH} {x : Str} (hx : PyData.strOk x = true) : body Φ ALIKE.bd ALIKE.N.length [.str x, .str x] h = .ok (.bl true) h := by
  have d : datH h 8 (.str x) = some (.str x) := by
    show (if PyData.strOk x = true then some (PyData.str x) else none) = _
    rw [if_pos hx]
  have e : eqH h (.str x) (.str x) = some true := by
    unfold eqH
    rw [d]
    show some (x == x) = _
    simp
  simp [body, ALIKE, ksN, e]
theorem allO_strs {h : LH} : ∀ ss : List Str, (∀ s ∈ ss, PyData.strOk s = true) → allO ((ss.map T.str).map (datH h 7)) = some (ss.map PyData.str)
  | [], _ => rfl
  | s :: ss, hs => by
    have d : datH h 7 (.str s) = some (.str s) := by
      show (if PyData.strOk s = true then some (PyData.str s) else none) = _
      rw [if_pos (hs s (by simp))]
    rw [List.map_cons, List.map_cons, d]
    show (allO ((ss.map T.str).map (datH h 7))).map (PyData.str s :: ·) = _
    rw [allO_strs ss fun x hx => hs x (by simp [hx])]; rfl
theorem eqvAll_strs : ∀ ss : List Str, PyData.eqvAll (ss.map PyData.str) (ss.map PyData.str) = true
  | [] => rfl
  | s :: ss => by
    show (s == s && PyData.eqvAll (ss.map PyData.str) (ss.map PyData.str)) = true
    rw [eqvAll_strs ss]; simp
/-- a list of texts and itself -/
theorem eqH_strs {h : LH} {l k : Nat} {ss : List Str} (hs : ∀ s ∈ ss, PyData.strOk s = true) (e1 : h[l]? = some (.lst (ss.map T.str))) (e2 : h[k]? = some (.lst (ss.map T.str))) : eqH h (.ref l) (.ref k) = some true := by
  have d : ∀ (l : Nat), h[l]? = some (.lst (ss.map T.str)) → datH h 8 (.ref l) = some (.list (ss.map PyData.str)) := fun l e => by
    show (match (h[l]?).bind LO.items with
      | some xs => (allO (xs.map (datH h 7))).map PyData.list
      | none => none) = _
    rw [e]
    show (allO ((ss.map T.str).map (datH h 7))).map PyData.list = _
    rw [allO_strs ss hs]; rfl
  unfold eqH
  rw [d l e1, d k e2]
  show some (PyData.eqvAll _ _) = _
  rw [eqvAll_strs]
theorem sortT_strs {ss : List Str} (h : ss.length < 64) : sortT (ss.map T.str) = some ((sortS ss).map T.str) := by
  cases ss with
  | nil =>
    show some ((sortI []).map T.int) = some ((sortS []).map T.str)
    simp [sortI, sortS]
  | cons s ss =>
    have e : ∀ xs : List Str, strsOf (xs.map T.str) = some xs := fun xs => by
      induction xs with
      | nil => rfl
      | cons x xs ih =>
        show (strsOf (xs.map T.str)).map (x :: ·) = _
        rw [ih]; rfl
    unfold sortT
    rw [e]
    show (if (s :: ss).length < 64 then some ((sortS (s :: ss)).map T.str) else none) = _
    rw [if_pos h]
end Y

/-! L5a: what stands of the objects, piece by piece; runs by what is wanted behind them. -/
namespace Y
open PySem
abbrev Fr := List (Nat × LO)
/-- a piece of the objects: one object, or some by a word -/
inductive HP where
  | one (l : Nat) (o : LO) | abs (P : Fr → Prop)
def HP.on : HP → Fr → Prop
  | .one l o, f => f = [(l, o)]
  | .abs P, f => P f
def OnL : List HP → Fr → Prop
  | [], f => f = []
  | P :: Ps, f => ∃ g r, f = g ++ r ∧ P.on g ∧ OnL Ps r
def Frs (h : LH) (f : Fr) : Prop := (f.map (·.1)).Nodup ∧ ∀ p ∈ f, h[p.1]? = some p.2
/-- these pieces stand, apart from one another -/
def Sat (h : LH) (Ps : List HP) : Prop := ∃ f, OnL Ps f ∧ Frs h f
/-- P taken out of Ps leaves R -/
inductive Rem : List HP → HP → List HP → Prop where
  | head {P : HP} {R : List HP} : Rem (P :: R) P R
  | tail {P Q : HP} {R S : List HP} : Rem R P S → Rem (Q :: R) P (Q :: S)
section
variable {h h' : LH} {P Q : HP} {Ps Qs R : List HP} {l : Nat} {o o' : LO}
theorem Frs.perm {f g : Fr} (p : f.Perm g) (q : Frs h f) : Frs h g := ⟨(p.map _).nodup_iff.mp q.1, fun x hx => q.2 x (p.mem_iff.mpr hx)⟩
theorem OnL.app : ∀ {Ps Qs : List HP} {f : Fr}, OnL (Ps ++ Qs) f ↔ ∃ g r, f = g ++ r ∧ OnL Ps g ∧ OnL Qs r
  | [], Qs, f => ⟨fun a => ⟨[], f, rfl, rfl, a⟩, fun ⟨g, r, e, a, b⟩ => by
      have a' : g = [] := a
      subst a'; subst e; exact b⟩
  | P :: Ps, Qs, f => by
    constructor
    · rintro ⟨g, r, rfl, a, b⟩
      obtain ⟨g2, r2, rfl, a2, b2⟩ := OnL.app.mp b
      exact ⟨g ++ g2, r2, by simp, ⟨g, g2, rfl, a, a2⟩, b2⟩
    · rintro ⟨g, r, rfl, ⟨g1, g2, rfl, a, a2⟩, b⟩
      exact ⟨g1, g2 ++ r, by simp, a, OnL.app.mpr ⟨g2, r, rfl, a2, b⟩⟩
theorem Rem.on : ∀ {Ps : List HP} {P : HP} {R : List HP} {f : Fr}, Rem Ps P R → OnL Ps f → ∃ g, g.Perm f ∧ OnL (P :: R) g
  | _, _, _, f, .head, a => ⟨f, .refl _, a⟩
  | _, _, _, f, .tail r, ⟨g, r2, e, a, b⟩ => by
    obtain ⟨g2, p, g3, r3, rfl, b2, b3⟩ := Rem.on r b
    subst e
    refine ⟨g3 ++ (g ++ r3), ?_, g3, g ++ r3, rfl, b2, g, r3, rfl, a, b3⟩
    refine List.Perm.trans ?_ (List.Perm.append_left g p)
    rw [← List.append_assoc, ← List.append_assoc]
    exact List.Perm.append_right _ List.perm_append_comm
theorem Sat.rem (H : Sat h Ps) (r : Rem Ps P R) : Sat h (P :: R) := by
  obtain ⟨f, a, q⟩ := H
  obtain ⟨g, p, b⟩ := r.on a
  exact ⟨g, b, q.perm p.symm⟩
theorem Sat.drop (H : Sat h (P :: R)) : Sat h R := by
  obtain ⟨f, ⟨g, r, rfl, a, b⟩, q⟩ := H
  refine ⟨r, b, ?_, fun p hp => q.2 p (List.mem_append_right _ hp)⟩
  have := q.1
  rw [List.map_append] at this
  exact (List.nodup_append.mp this).2.1
theorem Sat.dropApp : ∀ {Qs : List HP}, Sat h (Qs ++ R) → Sat h R
  | [], H => H
  | _ :: Qs, H => Sat.dropApp (Qs := Qs) H.drop
theorem Sat.swap (H : Sat h (P :: Q :: R)) : Sat h (Q :: P :: R) := H.rem (.tail .head)
theorem Sat.get1 (H : Sat h (.one l o :: R)) : h[l]? = some o := by
  obtain ⟨f, ⟨g, r, rfl, a, b⟩, q⟩ := H
  have a' : g = [(l, o)] := a
  subst a'
  exact q.2 (l, o) (by simp)
theorem Sat.get (H : Sat h Ps) (r : Rem Ps (.one l o) R) : h[l]? = some o := (H.rem r).get1
theorem Frs.fresh {f : Fr} (q : Frs h f) : h.length ∉ f.map (·.1) := fun hm => by
  obtain ⟨p, hp, e⟩ := List.mem_map.mp hm
  have := lt_of_get (q.2 p hp)
  omega
theorem Sat.neu (H : Sat h Ps) (o : LO) : Sat (h ++ [o]) (.one h.length o :: Ps) := by
  obtain ⟨f, a, q⟩ := H
  refine ⟨(h.length, o) :: f, ⟨[(h.length, o)], f, rfl, rfl, a⟩, ?_, fun p hp => ?_⟩
  · rw [List.map_cons, List.nodup_cons]
    exact ⟨q.fresh, q.1⟩
  · rcases List.mem_cons.mp hp with rfl | hp
    · exact new_get
    · exact app_get (q.2 p hp)
theorem Sat.set (H : Sat h (.one l o :: R)) (o' : LO) : Sat (h.set l o') (.one l o' :: R) := by
  have e := H.get1
  obtain ⟨f, ⟨g, r, rfl, a, b⟩, q⟩ := H
  have a' : g = [(l, o)] := a
  subst a'
  refine ⟨(l, o') :: r, ⟨[(l, o')], r, rfl, rfl, b⟩, by simpa using q.1, fun p hp => ?_⟩
  rcases List.mem_cons.mp hp with rfl | hr
  · rw [set_get, e]; rfl
  · have n : p.1 ≠ l := fun z => by
      have := q.1
      simp at this
      obtain ⟨a, b2⟩ := p
      dsimp only at z
      subst z
      exact this.1 _ hr
    rw [List.getElem?_set_ne (Ne.symm n)]
    exact q.2 p (by simp [hr])
theorem Sat.ka (K : Ka h h') (H : Sat h Ps) : Sat h' Ps := by
  obtain ⟨f, a, q⟩ := H
  exact ⟨f, a, q.1, fun p hp => K _ _ (q.2 p hp)⟩
theorem Sat.ne {l k : Nat} {o o' : LO} (H : Sat h (.one l o :: R)) (r : Rem R (.one k o') Qs) : l ≠ k := fun z => by
  subst z
  obtain ⟨f, ⟨g, f2, rfl, a, b⟩, q⟩ := H
  have a' : g = [(l, o)] := a
  subst a'
  obtain ⟨g3, p, g4, r4, rfl, c, d⟩ := r.on b
  have c' : g4 = [(l, o')] := c
  subst c'
  have q1 := q.1
  simp only [List.map_append, List.map_cons, List.map_nil, List.singleton_append, List.nodup_cons] at q1
  exact q1.1 (List.mem_map.mpr ⟨(l, o'), p.mem_iff.mp (by simp), rfl⟩)
/-- a piece opened and closed -/
theorem Sat.opn {α : Type} {φ : α → Prop} {Qs : α → List HP} (H : Sat h (.abs (fun f => ∃ a, φ a ∧ OnL (Qs a) f) :: R)) : ∃ a, φ a ∧ Sat h (Qs a ++ R) := by
  obtain ⟨f, ⟨g, r, rfl, ⟨a, c, d⟩, b⟩, q⟩ := H
  exact ⟨a, c, g ++ r, OnL.app.mpr ⟨g, r, rfl, d, b⟩, q⟩
theorem Sat.cls {α : Type} {φ : α → Prop} {Qs : α → List HP} (a : α) (c : φ a) (H : Sat h (Qs a ++ R)) : Sat h (.abs (fun f => ∃ a, φ a ∧ OnL (Qs a) f) :: R) := by
  obtain ⟨f, b, q⟩ := H
  obtain ⟨g, r, rfl, d, e⟩ := OnL.app.mp b
  exact ⟨g ++ r, ⟨g, r, rfl, ⟨a, c, d⟩, e⟩, q⟩
/-- some pieces as one -/
abbrev HP.all (Qs : List HP) : HP := .abs (OnL Qs)
theorem Sat.all : Sat h (.all Qs :: R) ↔ Sat h (Qs ++ R) := by
  constructor
  · rintro ⟨f, ⟨g, r, rfl, a, b⟩, q⟩
    exact ⟨g ++ r, OnL.app.mpr ⟨g, r, rfl, a, b⟩, q⟩
  · rintro ⟨f, b, q⟩
    obtain ⟨g, r, rfl, d, e⟩ := OnL.app.mp b
    exact ⟨g ++ r, ⟨g, r, rfl, d, e⟩, q⟩
theorem OnL.perm : ∀ {Ps Qs : List HP}, Ps.Perm Qs → ∀ {f : Fr}, OnL Ps f → ∃ g, g.Perm f ∧ OnL Qs g
  | _, _, .nil, f, a => ⟨f, .refl _, a⟩
  | _, _, .cons x p, f, ⟨g, r, e, a, b⟩ => by
    obtain ⟨r', p', b'⟩ := OnL.perm p b
    subst e
    exact ⟨g ++ r', p'.append_left g, g, r', rfl, a, b'⟩
  | _, _, .swap x y l, f, ⟨g, r, e, a, g2, r2, e2, a2, b2⟩ => by
    subst e e2
    refine ⟨g2 ++ (g ++ r2), ?_, g2, g ++ r2, rfl, a2, g, r2, rfl, a, b2⟩
    rw [← List.append_assoc, ← List.append_assoc]
    exact List.Perm.append_right _ List.perm_append_comm
  | _, _, .trans p q, f, a => by
    obtain ⟨g, p1, b⟩ := OnL.perm p a
    obtain ⟨g2, p2, c⟩ := OnL.perm q b
    exact ⟨g2, p2.trans p1, c⟩
theorem Sat.perm (p : Ps.Perm Qs) (H : Sat h Ps) : Sat h Qs := by
  obtain ⟨f, a, q⟩ := H
  obtain ⟨g, p2, b⟩ := OnL.perm p a
  exact ⟨g, b, q.perm p2.symm⟩
/-- what is known of single objects -/
@[reducible] def Facts (h : LH) : List HP → Prop
  | [] => True
  | .one l o :: R => h[l]? = some o ∧ Facts h R
  | .abs _ :: R => Facts h R
theorem Sat.facts : ∀ {Ps : List HP}, Sat h Ps → Facts h Ps
  | [], _ => trivial
  | .one _ _ :: R, H => ⟨H.get1, Sat.facts (Ps := R) H.drop⟩
  | .abs _ :: R, H => Sat.facts (Ps := R) H.drop
end
/-! ### what is wanted behind a run -/
abbrev WT {α : Type} (Q : α → LH → Prop) (X : Ex → LH → Prop) : Type := Unit
/-- Q behind an answer, X behind what is raised (the last argument keeps rewriting out of Q and X) -/
def W {α : Type} (r : Res α) (Q : α → LH → Prop) (X : Ex → LH → Prop) (_ : WT Q X) : Prop := match r with
  | .ok a h => Q a h
  | .exc e h => X e h
  | .fail => False
def noX : Ex → LH → Prop := fun _ _ => False
section
variable {α β : Type} {h h' : LH} {Q : α → LH → Prop} {X : Ex → LH → Prop} {Ps R : List HP}
theorem W_ok {a : α} {t : WT Q X} : W (.ok a h) Q X t = Q a h := (rfl)
theorem W_exc {e : Ex} {t : WT Q X} : W (.exc e h : Res α) Q X t = X e h := (rfl)
theorem W_fail {t : WT Q X} : W (.fail : Res α) Q X t = False := (rfl)
theorem W_bndR {r : Res β} {f : β → M α} {t : WT Q X} : W (bndR r f) Q X t = W r (fun a h => W (f a h) Q X ⟨⟩) X ⟨⟩ := by cases r <;> rfl
theorem W_bnd {m : M β} {f : β → M α} {t : WT Q X} : W (bnd m f h) Q X t = W (m h) (fun a h => W (f a h) Q X ⟨⟩) X ⟨⟩ := by rw [bnd_app]; exact W_bndR
theorem W_ret {a : α} {t : WT Q X} : W (ret a h) Q X t = Q a h := (rfl)
theorem W_fl {t : WT Q X} : W ((fl : M α) h) Q X t = False := (rfl)
theorem W.mono {r : Res α} {Q' : α → LH → Prop} {X' : Ex → LH → Prop} {t : WT Q X} {t' : WT Q' X'} (w : W r Q X t) (q : ∀ a h, Q a h → Q' a h) (x : ∀ e h, X e h → X' e h) : W r Q' X' t' := by
  cases r with
  | ok a h => exact q a h w
  | exc e h => exact x e h w
  | fail => exact w
abbrev WIT (A B : Prop) : Type := Unit
/-- a choice (the last argument keeps rewriting out of A and B) -/
def Wif (c A B : Prop) (_ : WIT A B) : Prop := (c → A) ∧ (¬ c → B)
theorem W_ite {c : Prop} {_ : Decidable c} {r r' : Res α} {t : WT Q X} : W (if c then r else r') Q X t = Wif c (W r Q X ⟨⟩) (W r' Q X ⟨⟩) ⟨⟩ := by
  apply propext
  unfold Wif
  split
  · rename_i p; exact ⟨fun w => ⟨fun _ => w, fun n => absurd p n⟩, fun w => w.1 p⟩
  · rename_i p; exact ⟨fun w => ⟨fun n => absurd n p, fun _ => w⟩, fun w => w.2 p⟩
theorem W_iteM {c : Prop} {_ : Decidable c} {m m' : M α} {t : WT Q X} : W ((if c then m else m') h) Q X t = Wif c (W (m h) Q X ⟨⟩) (W (m' h) Q X ⟨⟩) ⟨⟩ := by
  have e : (if c then m else m') h = if c then m h else m' h := by split <;> rfl
  rw [e]
  exact W_ite
theorem Wif_t {A B : Prop} {t : WIT A B} : Wif True A B t = A := by
  unfold Wif; simp
theorem Wif_f {A B : Prop} {t : WIT A B} : Wif False A B t = B := by
  unfold Wif; simp
theorem W_pos {c A B : Prop} {t : WIT A B} (p : c) (w : A) : Wif c A B t := ⟨fun _ => w, fun n => absurd p n⟩
theorem W_neg {c A B : Prop} {t : WIT A B} (p : ¬ c) (w : B) : Wif c A B t := ⟨fun n => absurd n p, fun _ => w⟩
theorem W_or {c A B : Prop} {t : WIT A B} (w : c → A) (w' : ¬ c → B) : Wif c A B t := ⟨w, w'⟩
theorem W_ex {r : Res α} : (∃ a h', r = .ok a h' ∧ Q a h') ↔ W r Q noX ⟨⟩ := by
  constructor
  · rintro ⟨a, h', rfl, q⟩; exact q
  · intro w
    cases r with
    | ok a h => exact ⟨a, h, rfl, w⟩
    | exc e h => exact False.elim w
    | fail => exact False.elim w
end
section
variable {h : LH} {Q : T → LH → Prop} {Qu : Unit → LH → Prop} {X : Ex → LH → Prop} {Ps R : List HP} {l : Nat}
theorem W_neu {o : LO} {t : WT Q X} (H : Sat h Ps) (k : ∀ l h', Sat h' (.one l o :: Ps) → Q (.ref l) h') : W (neu o h) Q X t := by
  rw [neu_app]
  exact k _ _ (H.neu o)
theorem W_wr {o o' : LO} {t : WT Qu X} (H : Sat h Ps) (r : Rem Ps (.one l o) R) (k : ∀ h', Sat h' (.one l o' :: R) → Qu () h') : W (wrR (some (h.set l o'))) Qu X t := k _ ((H.rem r).set o')
end
/-! ### objects read -/
def fldO (o : LO) (f : Str) : Option T := match o with
  | .ins _ fs => getF fs f
  | _ => none
def mclO (has : Str × Option Str → Bool) (o : LO) (m : Str) : Option Str := match o with
  | .ins c fs => if (getF fs m).isNone = true ∧ has (c, some m) = true then some c else none
  | _ => none
def setO (okF : Str → Str → Bool) (o : LO) (f : Str) (v : T) : Option LO := match o with
  | .ins c fs => if fs.length < 900 ∧ ((getF fs f).isSome = true ∨ okF c f = true) then some (.ins c (putF f v fs)) else none
  | _ => none
def sixO (o : LO) (b v : T) : Option LO := match o with
  | .lst xs => match b with
    | .int i => (atN xs.length i).map fun j => .lst (xs.set j v)
    | _ => none
  | o => dputO o b v
def lenO (o : LO) : Option Nat := match o with
  | .lst xs => some xs.length
  | .rol xs => some xs.length
  | .dK kvs => some kvs.length
  | _ => none
def truO (o : LO) : Option Bool := match o with
  | .lst xs => some (!xs.isEmpty)
  | .rol xs => some (!xs.isEmpty)
  | .dK kvs => some (!kvs.isEmpty)
  | _ => none
def inO (a : T) (o : LO) : Option Bool := match o.items with
  | some xs => if flatT a = true ∧ xs.all flatT = true then some (inSeq a xs) else none
  | none => (dgetO o a).map (·.isSome)
def kdO (o : LO) : Option Kd := match o with
  | .lst _ => some (.ty .list)
  | .dK _ => some (.ty .dict)
  | .dT _ => some (.ty .dict)
  | .ins c _ => some (.cls c)
  | _ => none
section
variable {h : LH} {l : Nat} {f m : Str} {v b : T}
theorem fldT_r : fldT (.ref l) f h = optR ((h[l]?).bind fun o => fldO o f) h := by
  unfold fldT
  rw [rdH_app]
  dsimp only
  cases h[l]? with
  | none => rfl
  | some o => cases o <;> rfl
theorem mcls_r {has : Str × Option Str → Bool} : mcls has h (.ref l) m = (h[l]?).bind fun o => mclO has o m := by
  unfold mcls
  dsimp only
  cases h[l]? with
  | none => rfl
  | some o => cases o <;> rfl
theorem setFld_r {okF : Str → Str → Bool} : setFld okF (.ref l) f v h = wrR ((h[l]?).bind fun o => (setO okF o f v).map fun o' => h.set l o') := by
  unfold setFld
  rw [wrH_app]
  dsimp only
  cases h[l]? with
  | none => rfl
  | some o => cases o with
    | ins c fs =>
      show wrR (if _ then _ else _) = wrR (Option.map _ (if _ then _ else _))
      split <;> rfl
    | _ => rfl
theorem setIx_r : setIx (.ref l) b v h = wrR ((h[l]?).bind fun o => (sixO o b v).map fun o' => h.set l o') := by
  unfold setIx
  rw [wrH_app]
  dsimp only
  cases h[l]? with
  | none => rfl
  | some o => cases o with
    | lst xs =>
      cases b with
      | int i =>
        show wrR (Option.map _ (atN xs.length i)) = wrR (Option.map _ (Option.map _ (atN xs.length i)))
        rw [Option.map_map]; rfl
      | _ => rfl
    | _ => rfl
theorem lenH_r : lenH h (.ref l) = (h[l]?).bind lenO := by
  unfold lenH
  dsimp only
  cases h[l]? with
  | none => rfl
  | some o => cases o <;> rfl
theorem truH_r : truH h (.ref l) = (h[l]?).bind truO := by
  unfold truH
  dsimp only
  cases h[l]? with
  | none => rfl
  | some o => cases o <;> rfl
theorem inH_int_r {i : Int} : inH h (.int i) (.ref l) = (h[l]?).bind (inO (.int i)) := by
  unfold inH
  dsimp only
  cases h[l]? <;> rfl
theorem tyOf_r : tyOf h (.ref l) = (h[l]?).bind kdO := by
  unfold tyOf
  dsimp only
  cases h[l]? with
  | none => rfl
  | some o => cases o <;> rfl
theorem walkT_r : walkT (.ref l) h = optR ((h[l]?).bind fun o => o.items.map fun xs => (xs, [(l, o)])) h := by
  unfold walkT
  rw [rdH_app]
  dsimp only
  cases h[l]? <;> rfl
theorem lwalk_r : lwalk (.ref l) h = optR ((h[l]?).bind fun o => o.items.map fun xs => (xs, [(l, o)])) h := by
  unfold lwalk
  rw [rdH_app]
  dsimp only
  cases h[l]? <;> rfl
theorem wlst_r : wlstOf h (.ref l) = (h[l]?).bind LO.wlist := (rfl)
theorem lstOf_r : lstOf h (.ref l) = (h[l]?).bind LO.items := (rfl)
theorem seqOf_r : seqOf h (.ref l) = (h[l]?).bind LO.items := (rfl)
end
end Y

/-! L5b: the evaluator's equations under a wish; loops; built-in things by the objects read. -/
namespace Y
open PySem
set_option autoImplicit true in
theorem w_ev_var1 : W (ev Φ (.var i) s h) Q X tg = W ((getV s i) h) Q X tg := (rfl)
set_option autoImplicit true in
theorem w_ev_cst2 : W (ev Φ (.cst t) s h) Q X tg = W ((ret t) h) Q X tg := (rfl)
set_option autoImplicit true in
theorem w_ev_glo3 : W (ev Φ (.glo x t) s h) Q X tg = W ((ret t) h) Q X tg := (rfl)
set_option autoImplicit true in
theorem w_ev_tup4 : W (ev Φ (.tup es) s h) Q X tg = W ((bnd (evs Φ es s) fun xs => if xs.length ≤ big then ret (.tup xs) else fl) h) Q X tg := (rfl)
set_option autoImplicit true in
theorem w_ev_lst5 : W (ev Φ (.lst es) s h) Q X tg = W ((bnd (evs Φ es s) fun xs => if xs.length ≤ big then neu (.lst xs) else fl) h) Q X tg := (rfl)
set_option autoImplicit true in
theorem w_ev_dic6 : W (ev Φ (.dic ps) s h) Q X tg = W ((bnd (evKV Φ ps s) fun p => match dicOf p with
    | some kvs => neu (.dK kvs)
    | none => fl) h) Q X tg := (rfl)
set_option autoImplicit true in
theorem w_ev_dict07 : W (ev Φ (.dict0 tk) s h) Q X tg = W ((neu (if tk = true then .dT [] else .dK [])) h) Q X tg := (rfl)
set_option autoImplicit true in
theorem w_ev_bin8 : W (ev Φ (.bin o a b) s h) Q X tg = W ((bnd (ev Φ a s) fun x => bnd (ev Φ b s) fun y => binOp o x y) h) Q X tg := (rfl)
set_option autoImplicit true in
theorem w_ev_neg9 : W (ev Φ (.neg a) s h) Q X tg = W ((bnd (ev Φ a s) fun x => match x with
    | .int i => ret (.int (-i))
    | _ => fl) h) Q X tg := (rfl)
set_option autoImplicit true in
theorem w_ev_cmp10 : W (ev Φ (.cmp o a b) s h) Q X tg = W ((bnd (ev Φ a s) fun x => bnd (ev Φ b s) fun y => bnd (cmpOp o x y) fun c => ret (.bl c)) h) Q X tg := (rfl)
set_option autoImplicit true in
theorem w_ev_chain11 : W (ev Φ (.chain o1 o2 a b c) s h) Q X tg = W ((bnd (ev Φ a s) fun x => bnd (ev Φ b s) fun y => bnd (cmpOp o1 x y) fun k => if k = true then bnd (ev Φ c s) fun z => bnd (cmpOp o2 y z) fun j => ret (.bl j) else ret (.bl false)) h) Q X tg := (rfl)
set_option autoImplicit true in
theorem w_ev_and212 : W (ev Φ (.and2 a b) s h) Q X tg = W ((bnd (ev Φ a s) fun x => bnd (tru x) fun k => if k = true then ev Φ b s else ret x) h) Q X tg := (rfl)
set_option autoImplicit true in
theorem w_ev_or213 : W (ev Φ (.or2 a b) s h) Q X tg = W ((bnd (ev Φ a s) fun x => bnd (tru x) fun k => if k = true then ret x else ev Φ b s) h) Q X tg := (rfl)
set_option autoImplicit true in
theorem w_ev_not14 : W (ev Φ (.not a) s h) Q X tg = W ((bnd (ev Φ a s) fun x => bnd (tru x) fun k => ret (.bl (!k))) h) Q X tg := (rfl)
set_option autoImplicit true in
theorem w_ev_ite15 : W (ev Φ (.ite c a b) s h) Q X tg = W ((bnd (evB Φ c s) fun k => if k = true then ev Φ a s else ev Φ b s) h) Q X tg := (rfl)
set_option autoImplicit true in
theorem w_ev_fld16 : W (ev Φ (.fld a f) s h) Q X tg = W ((bnd (ev Φ a s) fun x => fldT x f) h) Q X tg := (rfl)
set_option autoImplicit true in
theorem w_ev_ix17 : W (ev Φ (.ix a b) s h) Q X tg = W ((bnd (ev Φ a s) fun x => bnd (ev Φ b s) fun y => ixT x y) h) Q X tg := (rfl)
set_option autoImplicit true in
theorem w_ev_slc18 : W (ev Φ (.slc a lo hi) s h) Q X tg = W ((bnd (ev Φ a s) fun x => bnd (evP Φ lo s) fun l => bnd (evP Φ hi s) fun u => slT x l u) h) Q X tg := (rfl)
set_option autoImplicit true in
theorem w_ev_call19 : W (ev Φ (.call f args ks) s h) Q X tg = W ((bnd (evs Φ args s) fun xs => bnd (evK Φ ks s) fun zs => Φ.call (f, none) xs ((ksN ks).zip zs)) h) Q X tg := (rfl)
set_option autoImplicit true in
theorem w_ev_new20 : W (ev Φ (.new c args ks) s h) Q X tg = W ((bnd (evs Φ args s) fun xs => bnd (evK Φ ks s) fun zs => bnd (neu (.ins c [])) fun x => bnd (Φ.call (c, some "__init__") (x :: xs) ((ksN ks).zip zs)) fun v => if v = .non then ret x else fl) h) Q X tg := (rfl)
set_option autoImplicit true in
theorem w_ev_meth21 : W (ev Φ (.meth a m args ks) s h) Q X tg = W ((bnd (ev Φ a s) fun x => bnd (rdH fun h => mcls Φ.has h x m) fun c => bnd (evs Φ args s) fun xs => bnd (evK Φ ks s) fun zs => Φ.call (c, some m) (x :: xs) ((ksN ks).zip zs)) h) Q X tg := (rfl)
set_option autoImplicit true in
theorem w_ev_bi22 : W (ev Φ (.bi f args) s h) Q X tg = W ((bnd (evs Φ args s) fun xs => biF f xs) h) Q X tg := (rfl)
set_option autoImplicit true in
theorem w_ev_bm23 : W (ev Φ (.bm a m args) s h) Q X tg = W ((bnd (ev Φ a s) fun x => bnd (rdH fun h => bmK m h x) fun _ => bnd (evs Φ args s) fun xs => bmF m x xs) h) Q X tg := (rfl)
set_option autoImplicit true in
theorem w_ev_isi24 : W (ev Φ (.isi a cs tp) s h) Q X tg = W ((bnd (ev Φ a s) fun x => bnd (rdH fun h => isiH Φ.cls h x cs) fun b => ret (.bl b)) h) Q X tg := (rfl)
set_option autoImplicit true in
theorem w_ev_lc25 : W (ev Φ (.lc g src c e own) s h) Q X tg = W ((bnd (evI Φ src s) fun p => bnd (lcGo p.2 (asgG g) (evC Φ c) (ev Φ e) p.1 (wipeN s (own.map (·.2)))) fun xs => if xs.length ≤ big then neu (.lst xs) else fl) h) Q X tg := (rfl)
set_option autoImplicit true in
theorem w_ev_lrg126 : W (ev Φ (.lrg1 tp a) s h) Q X tg = W ((bnd (ev Φ a s) fun x => match x with
    | .int j => lrgT tp 0 j
    | _ => fl) h) Q X tg := (rfl)
set_option autoImplicit true in
theorem w_ev_lrg227 : W (ev Φ (.lrg2 tp a b) s h) Q X tg = W ((bnd (ev Φ a s) fun x => bnd (ev Φ b s) fun y => match x, y with
    | .int i, .int j => lrgT tp i j
    | _, _ => fl) h) Q X tg := (rfl)
set_option autoImplicit true in
theorem w_ev_lockE28 : W (ev Φ (.lockE d e) s h) Q X tg = W ((lockM (ev Φ d s) (ev Φ e s)) h) Q X tg := (rfl)
set_option autoImplicit true in
theorem w_ev_nev29 : W (ev Φ (.nev) s h) Q X tg = W ((fl) h) Q X tg := (rfl)
set_option autoImplicit true in
theorem w_evs_nil1 : W (evs Φ (.nil) s h) Q X tg = W ((ret []) h) Q X tg := (rfl)
set_option autoImplicit true in
theorem w_evs_cons2 : W (evs Φ (.cons e es) s h) Q X tg = W ((bnd (ev Φ e s) fun x => bnd (evs Φ es s) fun xs => ret (x :: xs)) h) Q X tg := (rfl)
set_option autoImplicit true in
theorem w_evK_nil1 : W (evK Φ (.nil) s h) Q X tg = W ((ret []) h) Q X tg := (rfl)
set_option autoImplicit true in
theorem w_evK_cons2 : W (evK Φ (.cons kk e ks) s h) Q X tg = W ((bnd (ev Φ e s) fun x => bnd (evK Φ ks s) fun xs => ret (x :: xs)) h) Q X tg := (rfl)
set_option autoImplicit true in
theorem w_evKV_nil1 : W (evKV Φ (.nil) s h) Q X tg = W ((ret []) h) Q X tg := (rfl)
set_option autoImplicit true in
theorem w_evKV_cons2 : W (evKV Φ (.cons k v ps) s h) Q X tg = W ((bnd (ev Φ k s) fun x => bnd (ev Φ v s) fun y => bnd (evKV Φ ps s) fun p => ret ((x, y) :: p)) h) Q X tg := (rfl)
set_option autoImplicit true in
theorem w_evP_no1 : W (evP Φ (.no) s h) Q X tg = W ((ret none) h) Q X tg := (rfl)
set_option autoImplicit true in
theorem w_evP_yes2 : W (evP Φ (.yes e) s h) Q X tg = W ((bnd (ev Φ e s) fun x => match partT x with
    | some i => ret (some i)
    | none => fl) h) Q X tg := (rfl)
set_option autoImplicit true in
theorem w_evC_no1 : W (evC Φ (.no) s h) Q X tg = W ((ret true) h) Q X tg := (rfl)
set_option autoImplicit true in
theorem w_evC_yes2 : W (evC Φ (.yes e) s h) Q X tg = W ((evB Φ e s) h) Q X tg := (rfl)
set_option autoImplicit true in
theorem w_evB_cmp1 : W (evB Φ (.cmp o a b) s h) Q X tg = W ((bnd (ev Φ a s) fun x => bnd (ev Φ b s) fun y => cmpOp o x y) h) Q X tg := (rfl)
set_option autoImplicit true in
theorem w_evB_chain2 : W (evB Φ (.chain o1 o2 a b c) s h) Q X tg = W ((bnd (ev Φ a s) fun x => bnd (ev Φ b s) fun y => bnd (cmpOp o1 x y) fun k => if k = true then bnd (ev Φ c s) fun z => cmpOp o2 y z else ret false) h) Q X tg := (rfl)
set_option autoImplicit true in
theorem w_evB_and23 : W (evB Φ (.and2 a b) s h) Q X tg = W ((bnd (evB Φ a s) fun k => if k = true then evB Φ b s else ret false) h) Q X tg := (rfl)
set_option autoImplicit true in
theorem w_evB_or24 : W (evB Φ (.or2 a b) s h) Q X tg = W ((bnd (evB Φ a s) fun k => if k = true then ret true else evB Φ b s) h) Q X tg := (rfl)
set_option autoImplicit true in
theorem w_evB_not5 : W (evB Φ (.not a) s h) Q X tg = W ((bnd (evB Φ a s) fun k => ret (!k)) h) Q X tg := (rfl)
set_option autoImplicit true in
theorem w_evB_var6 : W (evB Φ (.var i) s h) Q X tg = W ((bnd (getV s i) tru) h) Q X tg := (rfl)
set_option autoImplicit true in
theorem w_evB_cst7 : W (evB Φ (.cst t) s h) Q X tg = W ((tru t) h) Q X tg := (rfl)
set_option autoImplicit true in
theorem w_evB_glo8 : W (evB Φ (.glo x t) s h) Q X tg = W ((tru t) h) Q X tg := (rfl)
set_option autoImplicit true in
theorem w_evB_fld9 : W (evB Φ (.fld a f) s h) Q X tg = W ((bnd (bnd (ev Φ a s) fun x => fldT x f) tru) h) Q X tg := (rfl)
set_option autoImplicit true in
theorem w_evB_ix10 : W (evB Φ (.ix a b) s h) Q X tg = W ((bnd (bnd (ev Φ a s) fun x => bnd (ev Φ b s) fun y => ixT x y) tru) h) Q X tg := (rfl)
set_option autoImplicit true in
theorem w_evB_call11 : W (evB Φ (.call f args ks) s h) Q X tg = W ((bnd (bnd (evs Φ args s) fun xs => bnd (evK Φ ks s) fun zs => Φ.call (f, none) xs ((ksN ks).zip zs)) tru) h) Q X tg := (rfl)
set_option autoImplicit true in
theorem w_evB_meth12 : W (evB Φ (.meth a m args ks) s h) Q X tg = W ((bnd (bnd (ev Φ a s) fun x => bnd (rdH fun h => mcls Φ.has h x m) fun c => bnd (evs Φ args s) fun xs => bnd (evK Φ ks s) fun zs => Φ.call (c, some m) (x :: xs) ((ksN ks).zip zs)) tru) h) Q X tg := (rfl)
set_option autoImplicit true in
theorem w_evB_bi13 : W (evB Φ (.bi f args) s h) Q X tg = W ((bnd (bnd (evs Φ args s) fun xs => biF f xs) tru) h) Q X tg := (rfl)
set_option autoImplicit true in
theorem w_evB_bm14 : W (evB Φ (.bm a m args) s h) Q X tg = W ((bnd (bnd (ev Φ a s) fun x => bnd (rdH fun h => bmK m h x) fun _ => bnd (evs Φ args s) fun xs => bmF m x xs) tru) h) Q X tg := (rfl)
set_option autoImplicit true in
theorem w_evB_isi15 : W (evB Φ (.isi a cs tp) s h) Q X tg = W ((bnd (ev Φ a s) fun x => rdH fun h => isiH Φ.cls h x cs) h) Q X tg := (rfl)
set_option autoImplicit true in
theorem w_evI_seq1 : W (evI Φ (.seq e) s h) Q X tg = W ((bnd (ev Φ e s) walkT) h) Q X tg := (rfl)
set_option autoImplicit true in
theorem w_evI_rng12 : W (evI Φ (.rng1 a) s h) Q X tg = W ((bnd (ev Φ a s) fun x => match x with
    | .int j => if rngOk j = true then ret (rngT 0 j.toNat, []) else fl
    | _ => fl) h) Q X tg := (rfl)
set_option autoImplicit true in
theorem w_evI_rng23 : W (evI Φ (.rng2 a b) s h) Q X tg = W ((bnd (ev Φ a s) fun x => bnd (ev Φ b s) fun y => match x, y with
    | .int i, .int j => if rngOk i = true ∧ rngOk j = true then ret (rngT i (j - i).toNat, []) else fl
    | _, _ => fl) h) Q X tg := (rfl)
set_option autoImplicit true in
theorem w_evI_dkeys4 : W (evI Φ (.dkeys mm e) s h) Q X tg = W ((bnd (ev Φ e s) dkT) h) Q X tg := (rfl)
set_option autoImplicit true in
theorem w_evI_dvals5 : W (evI Φ (.dvals e) s h) Q X tg = W ((bnd (ev Φ e s) dvT) h) Q X tg := (rfl)
set_option autoImplicit true in
theorem w_evI_ditms6 : W (evI Φ (.ditms e) s h) Q X tg = W ((bnd (ev Φ e s) diT) h) Q X tg := (rfl)
set_option autoImplicit true in
theorem w_evI_enum7 : W (evI Φ (.enum e) s h) Q X tg = W ((bnd (ev Φ e s) fun x => bnd (walkT x) fun p => ret (enumT 0 p.1, p.2)) h) Q X tg := (rfl)
set_option autoImplicit true in
theorem w_evI_zip8 : W (evI Φ (.zip a b) s h) Q X tg = W ((bnd (ev Φ a s) fun x => bnd (ev Φ b s) fun y => zipM x y) h) Q X tg := (rfl)
set_option autoImplicit true in
theorem w_ex_asg1 : W (ex Φ (.asg t e) s h) Q X tg = W ((bnd (ev Φ e s) fun v => bnd (asgT Φ t v s) fun s' => ret (.nx s')) h) Q X tg := (rfl)
set_option autoImplicit true in
theorem w_ex_aug2 : W (ex Φ (.aug (.g (.name i)) o e) s h) Q X tg = W ((bnd (getV s i) fun x => bnd (ev Φ e s) fun y => bnd (match x, y with
    | .int _, .int _ => binOp o x y
    | _, _ => fl) fun z => ret (.nx (s.set i (some z)))) h) Q X tg := (rfl)
set_option autoImplicit true in
theorem w_ex_aug3 : W (ex Φ (.aug (.fld a f) o e) s h) Q X tg = W ((bnd (ev Φ a s) fun x => bnd (fldT x f) fun v => bnd (ev Φ e s) fun y => bnd (match v, y with
    | .int _, .int _ => binOp o v y
    | _, _ => fl) fun z => bnd (setFld Φ.okF x f z) fun _ => ret (.nx s)) h) Q X tg := (rfl)
set_option autoImplicit true in
theorem w_ex_expr5 : W (ex Φ (.expr e) s h) Q X tg = W ((bnd (ev Φ e s) fun _ => ret (.nx s)) h) Q X tg := (rfl)
set_option autoImplicit true in
theorem w_ex_retE6 : W (ex Φ (.retE e) s h) Q X tg = W ((bnd (ev Φ e s) fun v => ret (.rt v)) h) Q X tg := (rfl)
set_option autoImplicit true in
theorem w_ex_ret07 : W (ex Φ (.ret0) s h) Q X tg = W ((ret (.rt .non)) h) Q X tg := (rfl)
set_option autoImplicit true in
theorem w_ex_ifS8 : W (ex Φ (.ifS c a b) s h) Q X tg = W ((bnd (evB Φ c s) fun k => if k = true then exs Φ a s else exs Φ b s) h) Q X tg := (rfl)
set_option autoImplicit true in
theorem w_ex_forS9 : W (ex Φ (.forS g src bd2) s h) Q X tg = W ((bnd (evI Φ src s) fun p => forGo p.2 g (exs Φ bd2) p.1 s) h) Q X tg := (rfl)
set_option autoImplicit true in
theorem w_ex_whileS10 : W (ex Φ (.whileS c bd2) s h) Q X tg = W ((whileGo (evB Φ c) (exs Φ bd2) 100000 s) h) Q X tg := (rfl)
set_option autoImplicit true in
theorem w_ex_pass11 : W (ex Φ (.pass) s h) Q X tg = W ((ret (.nx s)) h) Q X tg := (rfl)
set_option autoImplicit true in
theorem w_ex_doc12 : W (ex Φ (.doc) s h) Q X tg = W ((ret (.nx s)) h) Q X tg := (rfl)
set_option autoImplicit true in
theorem w_ex_brk13 : W (ex Φ (.brk) s h) Q X tg = W ((ret (.bk s)) h) Q X tg := (rfl)
set_option autoImplicit true in
theorem w_ex_cont14 : W (ex Φ (.cont) s h) Q X tg = W ((ret (.ct s)) h) Q X tg := (rfl)
set_option autoImplicit true in
theorem w_ex_nev15 : W (ex Φ (.nev) s h) Q X tg = W ((fl) h) Q X tg := (rfl)
set_option autoImplicit true in
theorem w_ex_lockS16 : W (ex Φ (.lockS d st) s h) Q X tg = W ((lockM (ev Φ d s) (ex Φ st s)) h) Q X tg := (rfl)
set_option autoImplicit true in
theorem w_exs_nil1 : W (exs Φ (.nil) s h) Q X tg = W ((ret (.nx s)) h) Q X tg := (rfl)
set_option autoImplicit true in
theorem w_exs_cons2 : W (exs Φ (.cons st ss) s h) Q X tg = W ((bnd (ex Φ st s) fun f => match f with
    | .nx s' => exs Φ ss s'
    | f => ret f) h) Q X tg := (rfl)
section
variable {α β : Type} {h h' : LH} {X : Ex → LH → Prop} {s : En} {l k : Nat} {x y : Int} {c : Str}
theorem optR_ite {c : Prop} {_ : Decidable c} {o o' : Option α} : optR (if c then o else o') h = if c then optR o h else optR o' h := by split <;> rfl
theorem wrR_ite {c : Prop} {_ : Decidable c} {o o' : Option LH} : wrR (if c then o else o') = if c then wrR o else wrR o' := by split <;> rfl
theorem wrR_none : wrR none = .fail := (rfl)
theorem obind_ite {c : Prop} {_ : Decidable c} {o o' : Option α} {f : α → Option β} : (if c then o else o').bind f = if c then o.bind f else o'.bind f := by split <;> rfl
theorem omap_ite {c : Prop} {_ : Decidable c} {o o' : Option α} {f : α → β} : (if c then o else o').map f = if c then o.map f else o'.map f := by split <;> rfl
theorem optR_map {o : Option α} {f : α → β} : optR (o.map f) h = bndR (optR o h) fun a => ret (f a) := by cases o <;> rfl
/-! a for's turns, by what holds ahead of each -/
theorem W_for {gd : Gd} {g : G} {mb : En → M Fl} {Q : Fl → LH → Prop} {t : WT Q X} (I : Nat → En → LH → Prop) {ts : List T} (i0 : I 0 s h)
    (step : ∀ i v s h, ts[i]? = some v → I i s h → gdOk h gd = true ∧ ∃ s1, asgG g v s = some s1 ∧ W (mb s1 h) (fun f h' => match f with
      | .nx s2 => I (i + 1) s2 h'
      | .ct s2 => I (i + 1) s2 h'
      | .bk s2 => Q (.nx s2) h'
      | .rt v => Q (.rt v) h') X ⟨⟩)
    (stop : ∀ s h, I ts.length s h → gdOk h gd = true ∧ Q (.nx s) h) : W (forGo gd g mb ts s h) Q X t := by
  have go : ∀ (us : List T) (j : Nat) (s : En) (h : LH), (∀ i, us[i]? = ts[j + i]?) → j + us.length = ts.length → I j s h → W (forGo gd g mb us s h) Q X t := by
    intro us
    induction us with
    | nil =>
      intro j s h _ hl i
      rw [List.length_nil, Nat.add_zero] at hl
      subst hl
      obtain ⟨g1, q⟩ := stop s h i
      unfold forGo
      simp [g1]
      exact q
    | cons v us ih =>
      intro j s h hu hl i
      obtain ⟨g1, s1, e1, w⟩ := step j v s h (by have := hu 0; simpa using this.symm) i
      unfold forGo
      simp only [bnd_app, rdH_app, g1, if_true, e1, optR_some, bndR_ok]
      rw [W_bndR]
      refine w.mono (fun f h' q => ?_) fun _ _ z => z
      have r : ∀ s2, I (j + 1) s2 h' → W (forGo gd g mb us s2 h') Q X ⟨⟩ := fun s2 i2 => ih (j + 1) s2 h' (fun i => by
        have := hu (i + 1)
        rw [List.getElem?_cons_succ] at this
        rw [this, show j + (i + 1) = j + 1 + i by omega]) (by rw [List.length_cons] at hl; omega) i2
      cases f with
      | nx s2 => exact r s2 q
      | ct s2 => exact r s2 q
      | bk s2 => exact q
      | rt v => exact q
  exact go ts 0 s h (fun i => by rw [Nat.zero_add]) (Nat.zero_add _) i0
theorem W_rng {v : Nat} {mb : En → M Fl} {Q : Fl → LH → Prop} {t : WT Q X} {lo : Int} {n : Nat} (I : Nat → En → LH → Prop) (i0 : I 0 s h)
    (step : ∀ (i : Nat) s h, i < n → I i s h → W (mb (s.set v (some (.int (lo + i)))) h) (fun f h' => match f with
      | .nx s2 => I (i + 1) s2 h'
      | .ct s2 => I (i + 1) s2 h'
      | .bk s2 => Q (.nx s2) h'
      | .rt v => Q (.rt v) h') X ⟨⟩)
    (stop : ∀ s h, I n s h → Q (.nx s) h) : W (forGo [] (.name v) mb (rngT lo n) s h) Q X t := by
  have hl : (rngT lo n).length = n := by unfold rngT; simp
  refine W_for I i0 (fun i w s h e q => ?_) (fun s h q => ⟨rfl, stop s h (hl ▸ q)⟩)
  obtain ⟨hi, rfl⟩ := rngT_get e
  exact ⟨rfl, _, rfl, step i s h hi q⟩
/-! a comprehension's turns -/
theorem W_nox {m : M α} {Q : α → LH → Prop} {t : WT Q X} (w : W (m h) Q noX ⟨⟩) : W (nox m h) Q X t := by
  unfold nox
  cases e : m h with
  | ok a h' => rw [e] at w; exact w
  | exc a h' => rw [e] at w; exact False.elim w
  | fail => rw [e] at w; exact False.elim w
theorem W_lc {gd : Gd} {tgt : T → En → Option En} {tst : En → M Bool} {elt : En → M T} {Q : List T → LH → Prop} {t : WT Q X} (I : Nat → List T → LH → Prop) {ts : List T} (i0 : I 0 [] h)
    (step : ∀ i v xs h, ts[i]? = some v → I i xs h → gdOk h gd = true ∧ ∃ s1, tgt v s = some s1 ∧ W (tst s1 h) (fun b h' => if b = true then W (elt s1 h') (fun x h2 => I (i + 1) (xs ++ [x]) h2) noX ⟨⟩ else I (i + 1) xs h') noX ⟨⟩)
    (stop : ∀ xs h, I ts.length xs h → gdOk h gd = true ∧ Q xs h) : W (lcGo gd tgt tst elt ts s h) Q X t := by
  have go : ∀ (us : List T) (j : Nat) (xs : List T) (h : LH), (∀ i, us[i]? = ts[j + i]?) → j + us.length = ts.length → I j xs h → W (lcGo gd tgt tst elt us s h) (fun ys h' => Q (xs ++ ys) h') X ⟨⟩ := by
    intro us
    induction us with
    | nil =>
      intro j xs h _ hl i
      rw [List.length_nil, Nat.add_zero] at hl
      subst hl
      obtain ⟨g1, q⟩ := stop xs h i
      unfold lcGo
      simp [g1]
      show Q (xs ++ []) h
      rw [List.append_nil]
      exact q
    | cons v us ih =>
      intro j xs h hu hl i
      obtain ⟨g1, s1, e1, w⟩ := step j v xs h (by have := hu 0; simpa using this.symm) i
      unfold lcGo
      simp only [bnd_app, rdH_app, g1, if_true, e1, optR_some, bndR_ok]
      rw [W_bndR]
      refine W_nox (w.mono (fun b h' q => ?_) fun _ _ z => z)
      have r : ∀ xs h', I (j + 1) xs h' → W (lcGo gd tgt tst elt us s h') (fun ys h' => Q (xs ++ ys) h') X ⟨⟩ := fun xs h' i2 => ih (j + 1) xs h' (fun i => by
        have := hu (i + 1)
        rw [List.getElem?_cons_succ] at this
        rw [this, show j + (i + 1) = j + 1 + i by omega]) (by rw [List.length_cons] at hl; omega) i2
      cases b with
      | false => exact r xs h' q
      | true =>
        rw [if_pos rfl] at q
        simp only [if_true]
        rw [W_bnd]
        refine W_nox (q.mono (fun x h2 q2 => ?_) fun _ _ z => z)
        rw [W_bnd]
        refine (r (xs ++ [x]) h2 q2).mono (fun ys h3 q3 => ?_) fun _ _ z => z
        rw [W_ret]
        rwa [List.append_assoc] at q3
  refine (go ts 0 [] h (fun i => by rw [Nat.zero_add]) (Nat.zero_add _) i0).mono (fun ys h' q => q) fun _ _ z => z
theorem W_while {cd : En → M Bool} {mb : En → M Fl} {Q : Fl → LH → Prop} {t : WT Q X} (I : Nat → En → LH → Prop)
    (step : ∀ k s h, I k s h → W (cd s h) (fun b h1 => if b = true then ∃ k', k = k' + 1 ∧ W (mb s h1) (fun f h' => match f with
      | .nx s2 => I k' s2 h'
      | .ct s2 => I k' s2 h'
      | .bk s2 => Q (.nx s2) h'
      | .rt v => Q (.rt v) h') X ⟨⟩ else Q (.nx s) h1) X ⟨⟩) : ∀ (n k : Nat) (s : En) (h : LH), k < n → I k s h → W (whileGo cd mb n s h) Q X t := by
  intro n
  induction n with
  | zero => intro k s h hk; omega
  | succ n ih =>
    intro k s h hk i
    unfold whileGo
    rw [W_bnd]
    refine (step k s h i).mono (fun b h1 q => ?_) fun _ _ z => z
    cases b with
    | false =>
      simp only [Bool.false_eq_true, if_false] at q ⊢
      rw [W_ret]; exact q
    | true =>
      rw [if_pos rfl] at q
      obtain ⟨k', rfl, w⟩ := q
      simp only [if_true]
      rw [W_bnd]
      refine w.mono (fun f h' q => ?_) fun _ _ z => z
      cases f with
      | nx s2 => exact ih k' s2 h' (by omega) q
      | ct s2 => exact ih k' s2 h' (by omega) q
      | bk s2 => exact q
      | rt v => exact q
/-! ### built-in things by the objects read -/
theorem addLL_r : binOp .Add (.ref l) (.ref k) h = bndR (optR ((h[l]?).bind LO.wlist) h) fun xs => bnd (opt ((h[k]?).bind LO.wlist)) fun ys => if xs.length + ys.length ≤ big then neu (.lst (xs ++ ys)) else fl := by
  show (match (h[l]?).bind LO.wlist, (h[k]?).bind LO.wlist with
    | some xs, some ys => if Operator.Add = Operator.Add ∧ xs.length + ys.length ≤ big then neu (.lst (xs ++ ys)) h else .fail
    | _, _ => .fail) = _
  cases (h[l]?).bind LO.wlist with
  | none => cases (h[k]?).bind LO.wlist <;> rfl
  | some xs => cases (h[k]?).bind LO.wlist with
    | none => rfl
    | some ys =>
      simp only [optR_some, bndR_ok, bnd_app, opt_app]
      by_cases q : xs.length + ys.length ≤ big
      · rw [if_pos ⟨trivial, q⟩, if_pos q]
      · rw [if_neg (fun z => q z.2), if_neg q]; rfl
theorem mulLI_r : binOp .Mult (.ref l) (.int y) h = bndR (optR ((h[l]?).bind LO.wlist) h) fun xs => if y ≤ big ∧ -(big : Int) ≤ y ∧ xs.length * y.toNat ≤ big then neu (.lst (List.replicate y.toNat xs).flatten) else fl := by
  show (match (h[l]?).bind LO.wlist with
    | some xs => if Operator.Mult = Operator.Mult ∧ y ≤ big ∧ -(big : Int) ≤ y ∧ xs.length * y.toNat ≤ big then neu (.lst (List.replicate y.toNat xs).flatten) h else .fail
    | none => .fail) = _
  cases (h[l]?).bind LO.wlist with
  | none => rfl
  | some xs =>
    simp only [optR_some, bndR_ok, true_and]
    split <;> rfl
def addT0 (xs ys : List T) (h : LH) : Res T := if xs = [] ∧ ys.length ≤ big then .ok (.tup ys) h else .fail
theorem addTT_r {xs ys : List T} : binOp .Add (.tup xs) (.tup ys) h = if xs ≠ [] ∧ xs.length + ys.length ≤ big then .ok (.tup (xs ++ ys)) h else addT0 xs ys h := by
  show (if Operator.Add = Operator.Add ∧ xs.length + ys.length ≤ big then (.ok (.tup (xs ++ ys)) h : Res T) else .fail) = _
  unfold addT0
  by_cases c : xs = []
  · subst c
    simp
  · simp [c]
theorem addT0_n {ys : List T} : addT0 [] ys h = if ys.length ≤ big then .ok (.tup ys) h else .fail := by
  unfold addT0
  simp
theorem addSS_r {xs ys : Str} : binOp .Add (.str xs) (.str ys) h = if xs.length + ys.length ≤ big then .ok (.str (xs ++ ys)) h else .fail := by
  show (if Operator.Add = Operator.Add ∧ xs.length + ys.length ≤ big then (.ok (.str (xs ++ ys)) h : Res T) else .fail) = _
  simp only [true_and]
theorem slT_r {lo hi : Option Int} : slT (.ref l) lo hi h = bndR (optR ((h[l]?).bind LO.items) h) fun xs => neu (.lst (cutT xs lo hi)) := by
  show (match (h[l]?).bind LO.items with
    | some xs => neu (.lst (cutT xs lo hi)) h
    | none => .fail) = _
  cases (h[l]?).bind LO.items <;> rfl
theorem slT_t {xs : List T} {lo hi : Option Int} : slT (.tup xs) lo hi h = .ok (.tup (cutT xs lo hi)) h := (rfl)
theorem len_r {t : T} : biF .len [t] h = optR ((lenH h t).map fun (n : Nat) => T.int (n : Int)) h := (rfl)
theorem abs_r : biF .abs [.int x] h = .ok (.int (if x < 0 then -x else x)) h := (rfl)
theorem sum_r : biF .sum [.ref l] h = optR ((((h[l]?).bind LO.items).bind intsOf).map fun ns => T.int ns.sum) h := (rfl)
theorem all_r : biF .all [.ref l] h = optR ((((h[l]?).bind LO.items).bind blsOf).map fun bs => T.bl (bs.all id)) h := (rfl)
theorem any_r : biF .any [.ref l] h = optR ((((h[l]?).bind LO.items).bind blsOf).map fun bs => T.bl (bs.any id)) h := (rfl)
theorem list_r : biF .list [.ref l] h = bndR (optR ((h[l]?).bind LO.items) h) fun xs => neu (.lst xs) := by
  show (match (h[l]?).bind LO.items with
    | some xs => neu (.lst xs) h
    | none => .fail) = _
  cases (h[l]?).bind LO.items <;> rfl
theorem list_t {xs : List T} : biF .list [.tup xs] h = neu (.lst xs) h := (rfl)
theorem list_kt {xs : List T} : biF .list [.kt xs] h = neu (.lst xs) h := (rfl)
theorem tuple_r : biF .tuple [.ref l] h = optR (((h[l]?).bind LO.items).map T.tup) h := (rfl)
theorem tuple_t {xs : List T} : biF .tuple [.tup xs] h = .ok (.tup xs) h := (rfl)
theorem bmK_app : bmK .append h (.ref l) = ((h[l]?).bind LO.wlist).map fun _ => () := (rfl)
theorem bmK_clr : bmK .clear h (.ref l) = ((h[l]?).bind LO.wlist).map fun _ => () := (rfl)
theorem bmK_pop : bmK .pop h (.ref l) = ((h[l]?).bind LO.wlist).map fun _ => () := (rfl)
theorem bmK_ext : bmK .extend h (.ref l) = ((h[l]?).bind LO.wlist).map fun _ => () := (rfl)
def dicO (o : LO) : Option LO := if isDic o = true then some o else none
theorem dicAt_r : dicAt h (.ref l) = (h[l]?).bind dicO := by
  unfold dicAt dicO
  dsimp only
  cases h[l]? <;> rfl
theorem bmK_upd : bmK .dupd h (.ref l) = ((h[l]?).bind dicO).map fun _ => () := by rw [← dicAt_r]; rfl
theorem bmK_get : bmK .dget h (.ref l) = ((h[l]?).bind dicO).map fun _ => () := by rw [← dicAt_r]; rfl
theorem bmK_dpop : bmK .dpop h (.ref l) = ((h[l]?).bind dicO).map fun _ => () := by rw [← dicAt_r]; rfl
theorem bm_split {m : BM} {ts : List T} {A : Res T} (c : ∀ o, h[l]? = some o → isDic o = true → bmF m (.ref l) ts h = A) (b : dicAt h (.ref l) = none → bmF m (.ref l) ts h = A) : bmF m (.ref l) ts h = A := by
  by_cases q : ∃ o, h[l]? = some o ∧ isDic o = true
  · obtain ⟨o, e, d⟩ := q
    exact c o e d
  · refine b ?_
    rw [dicAt_r]
    cases e : h[l]? with
    | none => rfl
    | some o =>
      show dicO o = none
      unfold dicO
      rw [if_neg (fun z => q ⟨o, e, z⟩)]
theorem dic_wl {o : LO} (d : isDic o = true) : o.wlist = none := by cases o <;> first | rfl | cases d
theorem append_r {v : T} : bmF .append (.ref l) [v] h = bndR (wrR ((h[l]?).bind fun o => (o.wlist).bind fun xs => if xs.length < big then some (h.set l (.lst (xs ++ [v]))) else none)) fun _ => ret .non := by
  refine bm_split (fun o e d => ?_) fun e0 => ?_
  · rw [bmF_dic rfl (by rw [dicAt_r, e]; exact if_pos d), e]
    simp only [Option.bind_some, dic_wl d, Option.bind_none, wrR_none, bndR_fail]
  · rw [bmF_lst e0]
    show (match (h[l]?).bind LO.wlist with
      | some xs => if xs.length < big then (.ok .non (h.set l (.lst (xs ++ [v]))) : Res T) else .fail
      | none => .fail) = _
    cases h[l]? with
    | none => rfl
    | some o =>
      show (match o.wlist with
        | some xs => if xs.length < big then (.ok .non (h.set l (.lst (xs ++ [v]))) : Res T) else .fail
        | none => .fail) = bndR (wrR (o.wlist.bind _)) _
      cases o.wlist with
      | none => rfl
      | some xs =>
        show (if xs.length < big then (.ok .non (h.set l (.lst (xs ++ [v]))) : Res T) else .fail) = bndR (wrR (if xs.length < big then _ else _)) _
        split <;> rfl
theorem clear_r : bmF .clear (.ref l) [] h = bndR (wrR ((h[l]?).bind fun o => (o.wlist).map fun _ => h.set l (.lst []))) fun _ => ret .non := by
  refine bm_split (fun o e d => ?_) fun e0 => ?_
  · rw [bmF_dic rfl (by rw [dicAt_r, e]; exact if_pos d), e]
    simp only [Option.bind_some, dic_wl d, Option.map_none, wrR_none, bndR_fail]
  · rw [bmF_lst e0]
    show (match (h[l]?).bind LO.wlist with
      | some xs => (.ok .non (h.set l (.lst [])) : Res T)
      | none => .fail) = _
    cases h[l]? with
    | none => rfl
    | some o =>
      show (match o.wlist with
        | some xs => (.ok .non (h.set l (.lst [])) : Res T)
        | none => .fail) = bndR (wrR (o.wlist.map _)) _
      cases o.wlist <;> rfl
theorem extend_r {k : Nat} : bmF .extend (.ref l) [.ref k] h = bndR (optR ((h[k]?).bind LO.wlist) h) fun ys => fun h => bndR (wrR ((h[l]?).bind fun o => (o.wlist).bind fun xs => if xs.length + ys.length ≤ big then some (h.set l (.lst (xs ++ ys))) else none)) fun _ => ret .non := by
  refine bm_split (fun o e d => ?_) fun e0 => ?_
  · rw [bmF_dic rfl (by rw [dicAt_r, e]; exact if_pos d)]
    cases (h[k]?).bind LO.wlist with
    | none => rfl
    | some ys =>
      simp only [optR_some, bndR_ok, e, Option.bind_some, dic_wl d, Option.bind_none, wrR_none, bndR_fail]
  · rw [bmF_lst e0]
    show (match (h[l]?).bind LO.wlist with
      | some xs => (match (h[k]?).bind LO.wlist with
        | some ys => if xs.length + ys.length ≤ big then (.ok .non (h.set l (.lst (xs ++ ys))) : Res T) else .fail
        | none => .fail)
      | none => .fail) = _
    cases (h[k]?).bind LO.wlist with
    | none => cases (h[l]?).bind LO.wlist <;> rfl
    | some ys =>
      simp only [optR_some, bndR_ok]
      cases h[l]? with
      | none => rfl
      | some o =>
        simp only [Option.bind_some]
        cases o.wlist with
        | none => rfl
        | some xs =>
          show (if xs.length + ys.length ≤ big then (.ok .non (h.set l (.lst (xs ++ ys))) : Res T) else .fail) = bndR (wrR (if xs.length + ys.length ≤ big then _ else _)) _
          split <;> rfl
theorem dicAt_of {o : LO} (e : h[l]? = some o) (d : isDic o = true) : dicAt h (.ref l) = some o := by rw [dicAt_r, e]; exact if_pos d
theorem get1_at {o : LO} {k : T} {v : Option T} (e : h[l]? = some o) (d : isDic o = true) (g : dgetO o k = some v) : bmF .dget (.ref l) [k] h = .ok (v.getD .non) h := by
  have a := dicAt_of e d
  unfold bmF
  dsimp only
  rw [a]
  dsimp only
  rw [g]
theorem get2_at {o : LO} {k x : T} {v : Option T} (e : h[l]? = some o) (d : isDic o = true) (g : dgetO o k = some v) : bmF .dget (.ref l) [k, x] h = .ok (v.getD x) h := by
  have a := dicAt_of e d
  unfold bmF
  dsimp only
  rw [a]
  dsimp only
  rw [g]
theorem dpop_at {o o' : LO} {k v : T} (e : h[l]? = some o) (d : isDic o = true) (g : dgetO o k = some (some v)) (q : ddelO o k = some o') : bmF .dpop (.ref l) [k] h = .ok v (h.set l o') := by
  have a := dicAt_of e d
  unfold bmF
  dsimp only
  rw [a]
  dsimp only
  rw [g, q]
theorem upd_at {k : Nat} {kvs more : List (Key × T)} (e : h[l]? = some (.dK kvs)) (e2 : h[k]? = some (.dK more)) (c : l ≠ k) (b : kvs.length + more.length ≤ big) : bmF .dupd (.ref l) [.ref k] h = .ok .non (h.set l (.dK (kupd kvs more))) := by
  have a := dicAt_of e rfl
  unfold bmF
  dsimp only
  rw [a, e2]
  dsimp only
  rw [if_pos ⟨c, b⟩]
theorem clB_body {Γ : Prog} {n : Nat} {d : FD} {ts : List T} : clB Γ (n + 1) d ts h = body (Phi Γ n) d.bd d.N.length ts h := (rfl)
theorem body_r {Φ : Pm} {ss : Ss} {n : Nat} {args : List T} : body Φ ss n args h = (bnd (exs Φ ss (args.map some ++ List.replicate (n - args.length) none)) fun f => match f with
  | .nx _ => ret .non
  | .rt v => ret v
  | _ => fl) h := (rfl)
end
section
variable {h : LH} {cls : List Str} {x : Int} {b : Bool} {z : Str} {xs : List T} {cs : List Kd}
theorem isiH_r {t : T} : isiH cls h t cs = (tyOf h t).bind fun k => if kdIn cls k = true then some (cs.any (isiOne k)) else none := (rfl)
theorem tyOf_non : tyOf h .non = some (.ty .none) := (rfl)
theorem tyOf_bl : tyOf h (.bl b) = some (.ty .bool) := (rfl)
theorem tyOf_int : tyOf h (.int x) = some (.ty .int) := (rfl)
theorem tyOf_str : tyOf h (.str z) = some (.ty .str) := (rfl)
theorem tyOf_tup : tyOf h (.tup xs) = some (.ty .tuple) := (rfl)
theorem tyOf_kt : tyOf h (.kt xs) = some (.ty .tuple) := (rfl)
theorem kdIn_ty {t : Ty} : kdIn cls (.ty t) = true := (rfl)
theorem isiOne_tt {s t : Ty} : isiOne (.ty s) (.ty t) = (decide (s = t) || (decide (s = .bool) && decide (t = .int))) := by
  cases s <;> cases t <;> rfl
theorem isiOne_tc {s : Ty} {c : Str} : isiOne (.ty s) (.cls c) = false := by
  cases s <;> rfl
theorem isiOne_ct {s : Ty} {c : Str} : isiOne (.cls c) (.ty s) = false := (rfl)
theorem isiOne_cc {c d : Str} : isiOne (.cls c) (.cls d) = decide (c = d) := by
  unfold isiOne
  by_cases e : c = d
  · subst e; simp
  · have : ¬ Kd.cls c = Kd.cls d := fun z => e (Kd.cls.inj z)
    simp [e, this]
theorem lenH_tup : lenH h (.tup xs) = some xs.length := (rfl)
theorem lenH_kt : lenH h (.kt xs) = some xs.length := (rfl)
theorem lenO_lst : lenO (.lst xs) = some xs.length := (rfl)
theorem lenO_rol : lenO (.rol xs) = some xs.length := (rfl)
theorem lenO_dK {kvs : List (Key × T)} : lenO (.dK kvs) = some kvs.length := (rfl)
theorem truO_lst : truO (.lst xs) = some (!xs.isEmpty) := (rfl)
theorem truO_rol : truO (.rol xs) = some (!xs.isEmpty) := (rfl)
theorem items_lst : LO.items (.lst xs) = some xs := (rfl)
theorem items_rol : LO.items (.rol xs) = some xs := (rfl)
theorem wlist_lst : LO.wlist (.lst xs) = some xs := (rfl)
theorem kdO_lst : kdO (.lst xs) = some (.ty .list) := (rfl)
theorem kdO_dK {kvs : List (Key × T)} : kdO (.dK kvs) = some (.ty .dict) := (rfl)
theorem kdO_ins {c : Str} {fs : List (Str × T)} : kdO (.ins c fs) = some (.cls c) := (rfl)
theorem fldO_ins {c f : Str} {fs : List (Str × T)} : fldO (.ins c fs) f = getF fs f := (rfl)
theorem mclO_ins {has : Str × Option Str → Bool} {c f : Str} {fs : List (Str × T)} : mclO has (.ins c fs) f = if (getF fs f).isNone = true ∧ has (c, some f) = true then some c else none := (rfl)
theorem setO_ins {okF : Str → Str → Bool} {c f : Str} {v : T} {fs : List (Str × T)} : setO okF (.ins c fs) f v = if fs.length < 900 ∧ ((getF fs f).isSome = true ∨ okF c f = true) then some (.ins c (putF f v fs)) else none := (rfl)
theorem sixO_lst {v : T} : sixO (.lst xs) (.int x) v = (atN xs.length x).map fun j => .lst (xs.set j v) := (rfl)
theorem sixO_dK {v t : T} {kvs : List (Key × T)} : sixO (.dK kvs) t v = (keyOf t).bind fun k => if kvs.length < 1000000 then some (.dK (kput kvs k v)) else none := by
  show (match keyOf t with
    | some k => if kvs.length < 1000000 then some (LO.dK (kput kvs k v)) else none
    | none => none) = _
  cases keyOf t <;> rfl
theorem inO_lst : inO (.int x) (.lst xs) = if flatT (.int x) = true ∧ xs.all flatT = true then some (inSeq (.int x) xs) else none := (rfl)
theorem getF_nil {f : Str} : getF [] f = none := (rfl)
theorem getF_cons {f g : Str} {v : T} {fs : List (Str × T)} : getF ((g, v) :: fs) f = if g = f then some v else getF fs f := by
  unfold getF
  rw [List.lookup_cons]
  by_cases e : g = f
  · subst e; simp
  · have : (f == g) = false := by
      apply Bool.eq_false_iff.mpr
      intro z
      exact e (eq_of_beq z).symm
    simp [this, e]
theorem putF_nil {f : Str} {v : T} : putF f v [] = [(f, v)] := (rfl)
theorem putF_cons {f g : Str} {u v : T} {fs : List (Str × T)} : putF f v ((g, u) :: fs) = if g = f then (f, v) :: fs else (g, u) :: putF f v fs := (rfl)
theorem kget_n {κ : Type} [DecidableEq κ] {k : κ} : kget [] k = none := (rfl)
theorem kget_c {κ : Type} [DecidableEq κ] {k k' : κ} {v : T} {kvs : List (κ × T)} : kget ((k', v) :: kvs) k = if k' = k then some v else kget kvs k := by
  unfold kget
  rw [List.find?_cons]
  by_cases e : k' = k
  · simp [e]
  · simp [e]
/-- a key put -/
def kputG {κ : Type} [DecidableEq κ] (kvs : List (κ × T)) (k : κ) (v : T) : List (κ × T) := match kvs with
  | [] => [(k, v)]
  | (k', u) :: r => if k' = k then (k', v) :: r.map (fun kv => if kv.1 = k then (kv.1, v) else kv) else (k', u) :: kputG r k v
theorem kput_G {κ : Type} [DecidableEq κ] {k : κ} {v : T} : ∀ {kvs : List (κ × T)}, kput kvs k v = kputG kvs k v
  | [] => rfl
  | (k', u) :: r => by
    have ih := kput_G (k := k) (v := v) (kvs := r)
    unfold kput at ih ⊢
    unfold kputG
    by_cases e : k' = k
    · subst e
      simp
    · simp only [List.any_cons, e, decide_false, Bool.false_or, List.map_cons, if_false]
      rw [← ih]
      split <;> simp
theorem kputG_nil {κ : Type} [DecidableEq κ] {k : κ} {v : T} : kputG [] k v = [(k, v)] := (rfl)
theorem kputG_cons {κ : Type} [DecidableEq κ] {k k' : κ} {u v : T} {r : List (κ × T)} : kputG ((k', u) :: r) k v = if k' = k then (k', v) :: r.map (fun kv => if kv.1 = k then (kv.1, v) else kv) else (k', u) :: kputG r k v := (rfl)
theorem divOk_of {m : Int} (h1 : 0 < m) (h2 : m < 2 ^ 64) : divOk m = true := by
  have : m.natAbs.log2 < 9000 := by
    have : m.natAbs < 2 ^ 64 := by omega
    have := (Nat.log2_lt (n := m.natAbs) (k := 64) (by omega)).mpr this
    omega
  unfold divOk
  rw [decide_eq_true h1, decide_eq_true this]; rfl
end
end Y

/-! L5c: what a program has; more equations for walks. -/
namespace Y
open PySem
class Has (Γ : Prog) (key : Str × Option Str) (d : outParam FD) : Prop where
  h : Γ.fns.lookup key = some d
class HasF (Γ : Prog) (c f : Str) : Prop where
  h : okFd Γ.flds c f = true
class HasC (Γ : Prog) (c : Str) : Prop where
  h : c ∈ Γ.cls
theorem cl_via {Γ : Prog} {key : Str × Option Str} {d : FD} [H : Has Γ key d] {n : Nat} {args ts : List T} {kw : List (Str × T)} (e : d.fill args kw = some ts) : cl Γ n key args kw = clB Γ n d ts := by
  unfold cl
  rw [H.h]
  dsimp only
  rw [e]
theorem hasM_i {Γ : Prog} {key : Str × Option Str} {d : FD} [H : Has Γ key d] : hasM Γ key = true := by
  unfold hasM
  rw [H.h]; rfl
theorem okF_i {Γ : Prog} {c f : Str} [H : HasF Γ c f] : okFd Γ.flds c f = true := H.h
theorem kdIn_i {Γ : Prog} {c : Str} [H : HasC Γ c] : kdIn Γ.cls (.cls c) = true := decide_eq_true H.h
section
variable {α : Type} {h : LH} {Q : T → LH → Prop} {X : Ex → LH → Prop} {x : Int} {a b c d e f g i j k : T} {r : List T}
theorem at_nat {xs : List T} {n : Nat} (hn : n < xs.length) : atT xs (n : Int) = xs[n]? := by simp [atT, atN, hn]
theorem at0 : atT (a :: r) 0 = some a := (at_nat (n := 0) (by simp)).trans rfl
theorem at1 : atT (a :: b :: r) 1 = some b := (at_nat (n := 1) (by simp)).trans rfl
theorem at2 : atT (a :: b :: c :: r) 2 = some c := (at_nat (n := 2) (by simp)).trans rfl
theorem at3 : atT (a :: b :: c :: d :: r) 3 = some d := (at_nat (n := 3) (by simp)).trans rfl
theorem at4 : atT (a :: b :: c :: d :: e :: r) 4 = some e := (at_nat (n := 4) (by simp)).trans rfl
theorem at5 : atT (a :: b :: c :: d :: e :: f :: r) 5 = some f := (at_nat (n := 5) (by simp)).trans rfl
theorem at6 : atT (a :: b :: c :: d :: e :: f :: g :: r) 6 = some g := (at_nat (n := 6) (by simp)).trans rfl
theorem at_mem {xs : List T} (h0 : 0 ≤ x) (h1 : x < xs.length) : ∃ v, v ∈ xs ∧ atT xs x = some v := by
  obtain ⟨n, rfl⟩ := Int.eq_ofNat_of_zero_le h0
  have hn : n < xs.length := by omega
  exact ⟨xs[n], List.getElem_mem hn, by rw [at_nat hn, List.getElem?_eq_getElem hn]⟩
/-- an item by a number that is known by its bounds alone -/
theorem W_at {xs : List T} {t : WT Q X} (h0 : 0 ≤ x) (h1 : x < xs.length) (q : ∀ v, v ∈ xs → Q v h) : W (optR (atT xs x) h) Q X t := by
  obtain ⟨v, m, e⟩ := at_mem h0 h1
  rw [e]
  exact q v m
theorem eqH_ss {y z : Str} (hy : PyData.strOk y = true) (hz : PyData.strOk z = true) : eqH h (.str y) (.str z) = some (decide (y = z)) := by
  have d : ∀ y : Str, PyData.strOk y = true → datH h 8 (.str y) = some (.str y) := fun y q => by
    show (if PyData.strOk y = true then some (PyData.str y) else none) = _
    rw [if_pos q]
  unfold eqH
  rw [d y hy, d z hz]
  show some (y == z) = _
  by_cases q : y = z
  · subst q; simp
  · have : (y == z) = false := by
      apply Bool.eq_false_iff.mpr
      intro w; exact q (eq_of_beq w)
    simp [q, this]
theorem beq_ff (b : Bool) : (b == false) = !b := by cases b <;> rfl
end
theorem dicOf_r {p : List (T × T)} : dicOf p = if p.length ≤ 15 then dicPut [] p else none := (rfl)
theorem dicPut_nil {kvs : List (Key × T)} : dicPut kvs [] = some kvs := (rfl)
theorem dicPut_cons {kvs : List (Key × T)} {k v : T} {ps : List (T × T)} : dicPut kvs ((k, v) :: ps) = (keyOf k).bind fun k => dicPut (kput kvs k v) ps := by
  show (match keyOf k with
    | some k => dicPut (kput kvs k v) ps
    | none => none) = _
  cases keyOf k <;> rfl
/-- at l there stands an instance of c, with these fields -/
def IsC (l : Nat) (c : Str) (fl : List Str) (P : Fr → Prop) : Prop := ∀ f, P f → ∃ fs, (l, LO.ins c fs) ∈ f ∧ fs.map (·.1) = fl
theorem getF_isNone {m : Str} : ∀ {fs : List (Str × T)}, m ∉ fs.map (·.1) → getF fs m = none
  | [], _ => rfl
  | (g, u) :: fs, nf => by
    rw [getF_cons, if_neg (fun e => nf (by simp [e]))]
    exact getF_isNone (fun e => nf (by simp at e ⊢; exact .inr e))
theorem Sat.isC {h : LH} {Ps R : List HP} {P : Fr → Prop} {l : Nat} {c : Str} {fl : List Str} (H : Sat h Ps) (r : Rem Ps (.abs P) R) (ic : IsC l c fl P) : ∃ fs, h[l]? = some (.ins c fs) ∧ fs.map (·.1) = fl := by
  obtain ⟨f, ⟨g, r, rfl, a, b⟩, q⟩ := H.rem r
  obtain ⟨fs, m, e⟩ := ic g a
  exact ⟨fs, q.2 _ (List.mem_append_left _ m), e⟩
theorem W_mc {Γ : Prog} {h : LH} {Q : Str → LH → Prop} {X : Ex → LH → Prop} {t : WT Q X} {Ps R : List HP} {P : Fr → Prop} {l : Nat} {c m : Str} {fl : List Str} {d : FD} (H : Sat h Ps) (r : Rem Ps (.abs P) R) (ic : IsC l c fl P) (nf : m ∉ fl) [Has Γ (c, some m) d] (q : Q c h) : W (optR ((h[l]?).bind fun o => mclO (hasM Γ) o m) h) Q X t := by
  obtain ⟨fs, e, z⟩ := H.isC r ic
  rw [e]
  show W (optR (if (getF fs m).isNone = true ∧ hasM Γ (c, some m) = true then some c else none) h) Q X t
  rw [if_pos ⟨by rw [getF_isNone (by rw [z]; exact nf)]; rfl, hasM_i⟩]
  exact q
theorem W_kd {cls : List Str} {cs : List Kd} {h : LH} {Q : Bool → LH → Prop} {X : Ex → LH → Prop} {t : WT Q X} {Ps R : List HP} {P : Fr → Prop} {l : Nat} {c : Str} {fl : List Str} (H : Sat h Ps) (r : Rem Ps (.abs P) R) (ic : IsC l c fl P) (kc : kdIn cls (.cls c) = true) (q : Q (cs.any (isiOne (.cls c))) h) : W (optR (((h[l]?).bind kdO).bind fun k => if kdIn cls k = true then some (cs.any (isiOne k)) else none) h) Q X t := by
  obtain ⟨fs, e, z⟩ := H.isC r ic
  rw [e]
  show W (optR (if kdIn cls (.cls c) = true then some (cs.any (isiOne (.cls c))) else none) h) Q X t
  rw [if_pos kc]
  exact q
theorem Rem.perm : ∀ {Ps : List HP} {P : HP} {R : List HP}, Rem Ps P R → Ps.Perm (P :: R)
  | _, _, _, .head => .refl _
  | _, _, _, .tail r => ((Rem.perm r).cons _).trans (.swap _ _ _)
/-- Qs are some of Ps -/
inductive Sub : List HP → List HP → Prop where
  | rfl {Ps : List HP} : Sub Ps Ps
  | cons {P : HP} {Ps R Qs : List HP} : Rem Ps P R → Sub R Qs → Sub Ps (P :: Qs)
  | drop {P : HP} {Ps Qs : List HP} : Sub Ps Qs → Sub (P :: Ps) Qs
theorem Sat.under {h : LH} {P : HP} {R S : List HP} (q : ∀ f, Frs h f → ∀ a b, f = a ++ b → OnL R b → ∃ c, OnL S c ∧ Frs h (a ++ c)) (H : Sat h (P :: R)) : Sat h (P :: S) := by
  obtain ⟨f, ⟨g, r, rfl, a, b⟩, z⟩ := H
  obtain ⟨c, d, e⟩ := q _ z g r rfl b
  exact ⟨g ++ c, ⟨g, c, rfl, a, d⟩, e⟩
theorem Sub.on {h : LH} : ∀ {Ps Qs : List HP}, Sub Ps Qs → ∀ {a f : Fr}, OnL Ps f → Frs h (a ++ f) → ∃ g, OnL Qs g ∧ Frs h (a ++ g)
  | _, _, .rfl, a, f, o, z => ⟨f, o, z⟩
  | _, _, .cons r s, a, f, o, z => by
    obtain ⟨g, p, g1, g2, rfl, o1, o2⟩ := r.on o
    have z2 : Frs h ((a ++ g1) ++ g2) := by
      rw [List.append_assoc]
      exact z.perm (List.Perm.append_left a p.symm)
    obtain ⟨g3, o3, z3⟩ := Sub.on s o2 z2
    exact ⟨g1 ++ g3, ⟨g1, g3, Eq.refl _, o1, o3⟩, by rw [← List.append_assoc]; exact z3⟩
  | _, _, .drop s, a, f, ⟨g1, g2, e, o1, o2⟩, z => by
    subst e
    have z2 : Frs h (a ++ g2) := by
      refine ⟨?_, fun p hp => z.2 p (by rcases List.mem_append.mp hp with q | q <;> simp [q])⟩
      have := z.1
      rw [List.map_append, List.map_append] at this
      rw [List.map_append]
      exact List.Sublist.nodup (List.Sublist.append (List.Sublist.refl _) (List.sublist_append_right _ _)) this
    exact Sub.on s o2 z2
theorem Sat.sub {h : LH} {Ps Qs : List HP} (H : Sat h Ps) (s : Sub Ps Qs) : Sat h Qs := by
  obtain ⟨f, o, z⟩ := H
  obtain ⟨g, o2, z2⟩ := s.on (a := []) o z
  exact ⟨g, o2, z2⟩
section
variable {h : LH} {Q : T → LH → Prop} {X : Ex → LH → Prop} {x : Int}
def isI : T → Bool
  | .int _ => true
  | _ => false
/-- a whole number of a list by a number that is known by its bounds alone -/
theorem W_atI {xs : List T} {t : WT Q X} (a : xs.all isI = true) (h0 : 0 ≤ x) (h1 : x < xs.length) (q : ∀ i, .int i ∈ xs → Q (.int i) h) : W (optR (atT xs x) h) Q X t := by
  refine W_at h0 h1 fun v m => ?_
  have := List.all_eq_true.mp a v m
  cases v with
  | int i => exact q i m
  | _ => cases this
end
theorem rngOk_i {a : Int} (h : -(2 ^ 60) ≤ a ∧ a < 2 ^ 60) : rngOk a = true := decide_eq_true h
/-- a law by a wish -/
theorem law_W {Γ : Prog} {d : FD} {ns : List Int} (w : ∀ h, Sat h [.one 0 (.rol (ns.map T.int))] → W (clB Γ 90 d [.ref 0] h) (fun v _ => v = .bl true) noX ⟨⟩) : ∃ h', clB Γ 90 d [.ref 0] [.rol (ns.map T.int)] = .ok (.bl true) h' := by
  obtain ⟨a, h', e, q⟩ := W_ex.mpr (w [.rol (ns.map T.int)] ⟨[(0, .rol (ns.map T.int))], ⟨_, _, rfl, rfl, rfl⟩, by simp [Frs]⟩)
  subst q
  exact ⟨h', e⟩
/-- how often a law's outer loop goes round -/
def many (a b n : Int) : Int := if (if n < b then n else b) > a then (if n < b then n else b) else a
theorem many_le {a b n : Int} (h : a ≤ b) : many a b n ≤ b := by unfold many; split <;> split <;> omega
theorem many_ge {a b n : Int} : a ≤ many a b n := by unfold many; split <;> split <;> omega
theorem many_is {a b n : Int} : (if (if n < b then n else b) > a then (if n < b then n else b) else a) = many a b n := (rfl)
end Y

/-! L5d: many pieces at once. -/
namespace Y
open PySem
theorem wipeN_nil {s : En} : wipeN s [] = s := (rfl)
theorem wipeN_cons {s : En} {v : Nat} {vs : List Nat} : wipeN s (v :: vs) = (wipeN s vs).set v none := (rfl)
theorem perm_erase {α : Type} : ∀ {K : List α} {i : Nat} {x : α}, K[i]? = some x → K.Perm (x :: K.eraseIdx i)
  | [], _, _, e => by simp at e
  | y :: K, 0, x, e => by
    simp at e; subst e
    exact .refl _
  | y :: K, i + 1, x, e => by
    have := perm_erase (K := K) (i := i) (x := x) (by simpa using e)
    exact (this.cons y).trans (.swap _ _ _)
theorem perm_set {α : Type} (y : α) : ∀ {K : List α} {i : Nat}, i < K.length → (K.set i y).Perm (y :: K.eraseIdx i)
  | [], _, e => by simp at e
  | z :: K, 0, e => .refl _
  | z :: K, i + 1, e => ((perm_set y (K := K) (i := i) (by simpa using e)).cons z).trans (.swap _ _ _)
section
variable {α : Type} {h : LH} {Qs R : List HP} {P : HP} {K : List α} {f : α → HP} {i : Nat} {x : α}
theorem all_cons : Sat h (.all (P :: Qs) :: R) ↔ Sat h (P :: .all Qs :: R) := by
  rw [Sat.all]
  constructor
  · intro H
    exact (Sat.all.mpr (H.perm (List.perm_middle.symm : (P :: (Qs ++ R)).Perm (Qs ++ P :: R)))).swap
  · intro H
    exact (Sat.all.mp H.swap).perm List.perm_middle
theorem all_take (H : Sat h (.all (K.map f) :: R)) (e : K[i]? = some x) : Sat h (f x :: .all ((K.eraseIdx i).map f) :: R) := by
  have := Sat.all.mp H
  refine all_cons.mp (Sat.all.mpr (this.perm ?_))
  rw [← List.map_cons (f := f)]
  exact List.Perm.append_right _ ((perm_erase e).map f)
theorem all_put (y : α) (H : Sat h (f y :: .all ((K.eraseIdx i).map f) :: R)) (e : i < K.length) : Sat h (.all ((K.set i y).map f) :: R) := by
  have := Sat.all.mp (all_cons.mpr H)
  refine Sat.all.mpr (this.perm ?_)
  rw [← List.map_cons (f := f)]
  exact List.Perm.append_right _ ((perm_set y e).map f).symm
theorem all_nil (H : Sat h R) : Sat h (.all ([] : List HP) :: R) := Sat.all.mpr H
theorem all_snoc (H : Sat h (f x :: .all (K.map f) :: R)) : Sat h (.all ((K ++ [x]).map f) :: R) := by
  have := Sat.all.mp (all_cons.mpr H)
  refine Sat.all.mpr (this.perm ?_)
  rw [List.map_append]
  refine List.Perm.append_right _ ?_
  exact (List.perm_append_comm (l₁ := [f x]) (l₂ := K.map f))
theorem set_self {α : Type} : ∀ {K : List α} {i : Nat} {x : α}, K[i]? = some x → K.set i x = K
  | [], _, _, e => by simp at e
  | y :: K, 0, x, e => by simp at e; subst e; rfl
  | y :: K, i + 1, x, e => by
    rw [List.set_cons_succ, set_self (by simpa using e)]
end
theorem zipT_map {α : Type} {f g : α → T} : ∀ {K : List α}, zipT (K.map f) (K.map g) = K.map fun x => .tup [f x, g x]
  | [] => rfl
  | x :: K => by
    show T.tup [f x, g x] :: zipT (K.map f) (K.map g) = _
    rw [zipT_map]; rfl
theorem cut1 {t : T} {ts : List T} : cutT (t :: ts) none (some 1) = [t] := by
  unfold cutT HT.sIx
  simp
theorem flat_rep {α : Type} {t : α} : ∀ k : Nat, (List.replicate k [t]).flatten = List.replicate k t
  | 0 => rfl
  | k + 1 => by rw [List.replicate_succ, List.flatten_cons, flat_rep k, List.replicate_succ]; rfl
theorem gd_one {h : LH} {l : Nat} {o : LO} (e : h[l]? = some o) : gdOk h [(l, o)] = true := gdOk_one e
theorem gd_two {h : LH} {l k : Nat} {o o' : LO} (e : h[l]? = some o) (e' : h[k]? = some o') : gdOk h [(l, o), (k, o')] = true := by
  unfold gdOk
  simp [e, e']
theorem get_map {α : Type} {f : α → T} {K : List α} {i : Nat} {v : T} (e : (K.map f)[i]? = some v) : ∃ x, K[i]? = some x ∧ v = f x := by
  rw [List.getElem?_map] at e
  obtain ⟨x, e1, rfl⟩ := Option.map_eq_some_iff.mp e
  exact ⟨x, e1, rfl⟩
theorem at_map {α : Type} {f : α → T} {K : List α} {r : Int} (h0 : 0 ≤ r) (h1 : r < K.length) : ∃ (i : Nat) (x : α), r = i ∧ K[i]? = some x ∧ atT (K.map f) r = some (f x) := by
  obtain ⟨i, rfl⟩ := Int.eq_ofNat_of_zero_le h0
  have hi : i < K.length := by omega
  refine ⟨i, K[i], rfl, List.getElem?_eq_getElem hi, ?_⟩
  rw [at_nat (by rw [List.length_map]; exact hi), List.getElem?_map, List.getElem?_eq_getElem hi]; rfl
theorem atT_map {α : Type} {f : α → T} {K : List α} {i : Nat} {x : α} (e : K[i]? = some x) : atT (K.map f) (i : Int) = some (f x) := by
  have hi := (List.getElem?_eq_some_iff.mp e).1
  rw [at_nat (by rw [List.length_map]; exact hi), List.getElem?_map, e]; rfl
theorem map_set {α β : Type} {f : α → β} {K : List α} {i : Nat} {x y : α} (e : K[i]? = some x) (q : f y = f x) : (K.set i y).map f = K.map f := by
  rw [List.map_set, q, ← List.map_set, set_self e]
theorem blsOf_t {n : Nat} : blsOf (List.replicate n (.bl true)) = some (List.replicate n true) := blsOf_rep n
theorem all_tt {n : Nat} : (List.replicate n true).all id = true := by simp
theorem rep_snoc {α : Type} {n : Nat} {t : α} : List.replicate n t ++ [t] = List.replicate (n + 1) t := by
  rw [← List.replicate_succ']
theorem W_cut {α : Type} {r : Res α} {Q : α → LH → Prop} {X : Ex → LH → Prop} {t : WT Q X} (Q1 : α → LH → Prop) (w : W r Q1 X ⟨⟩) (k : ∀ a h, Q1 a h → Q a h) : W r Q X t := w.mono k fun _ _ z => z
theorem W_join {α : Type} {c : Prop} {r r' : Res α} {Q : α → LH → Prop} {X : Ex → LH → Prop} {t1 t2 : WT Q X} {t : WIT (W r Q X t1) (W r' Q X t2)} (Q1 : α → LH → Prop) (w : Wif c (W r Q1 X ⟨⟩) (W r' Q1 X ⟨⟩) ⟨⟩) (k : ∀ a h, Q1 a h → Q a h) : Wif c (W r Q X t1) (W r' Q X t2) t := ⟨fun p => (w.1 p).mono k fun _ _ z => z, fun p => (w.2 p).mono k fun _ _ z => z⟩
theorem W_atM {α : Type} {f : α → T} {K : List α} {i : Nat} {x : α} {h : LH} {Q : T → LH → Prop} {X : Ex → LH → Prop} {t : WT Q X} (e : K[i]? = some x) (q : Q (f x) h) : W (optR (atT (K.map f) (i : Int)) h) Q X t := by
  rw [atT_map e]; exact q
theorem nat_of {r : Int} {n : Nat} (h0 : 0 ≤ r) (h1 : r < n) : ∃ i : Nat, i < n ∧ r = i := by
  obtain ⟨i, rfl⟩ := Int.eq_ofNat_of_zero_le h0
  exact ⟨i, by omega, rfl⟩
end Y

/-! L5e: dicts under a wish; locks. -/
namespace Y
open PySem
section
variable {h : LH} {l k : Nat} {kvs more : List (Key × T)} {i : Int}
theorem dicO_dK : dicO (.dK kvs) = some (.dK kvs) := (rfl)
theorem inO_dK : inO (.int i) (.dK kvs) = some (kget kvs (.inl i)).isSome := (rfl)
theorem inH_str_r {x : Str} : inH h (.str x) (.ref l) = (h[l]?).bind (inO (.str x)) := by
  unfold inH
  dsimp only
  cases h[l]? <;> rfl
theorem inO_dKs {x : Str} : inO (.str x) (.dK kvs) = some (kget kvs (.inr x)).isSome := (rfl)
theorem truO_dK : truO (.dK kvs) = some (!kvs.isEmpty) := (rfl)
theorem kupd_nil : kupd kvs [] = kvs := (rfl)
theorem kupd_cons {k : Key} {v : T} : kupd kvs ((k, v) :: more) = kupd (kput kvs k v) more := (rfl)
def dvO (l : Nat) (o : LO) : Option (List T × Gd) := match o with
  | .lkK kvs => some (kvs.map fun kv => kv.2, [(l, .lkK kvs)])
  | _ => none
def diO (l : Nat) (o : LO) : Option (List T × Gd) := match o with
  | .lkK kvs => some (kvs.map fun kv => .tup [tOfKey kv.1, kv.2], [(l, .lkK kvs)])
  | _ => none
def dkO (l : Nat) (o : LO) : Option (List T × Gd) := match o with
  | .lkK kvs => some (kvs.map fun kv => tOfKey kv.1, [(l, .lkK kvs)])
  | .lkT kvs => some (kvs.map fun kv => .tup (kv.1.map tOfKey), [(l, .lkT kvs)])
  | _ => none
theorem dvT_r : dvT (.ref l) h = optR ((h[l]?).bind (dvO l)) h := by
  unfold dvT
  rw [rdH_app]
  dsimp only
  cases h[l]? with
  | none => rfl
  | some o => cases o <;> rfl
theorem diT_r : diT (.ref l) h = optR ((h[l]?).bind (diO l)) h := by
  unfold diT
  rw [rdH_app]
  dsimp only
  cases h[l]? with
  | none => rfl
  | some o => cases o <;> rfl
theorem dkT_r : dkT (.ref l) h = optR ((h[l]?).bind (dkO l)) h := by
  unfold dkT
  rw [rdH_app]
  dsimp only
  cases h[l]? with
  | none => rfl
  | some o => cases o <;> rfl
theorem dvO_lk : dvO l (.lkK kvs) = some (kvs.map fun kv => kv.2, [(l, .lkK kvs)]) := (rfl)
theorem diO_lk : diO l (.lkK kvs) = some (kvs.map fun kv => .tup [tOfKey kv.1, kv.2], [(l, .lkK kvs)]) := (rfl)
theorem dkO_lk : dkO l (.lkK kvs) = some (kvs.map fun kv => tOfKey kv.1, [(l, .lkK kvs)]) := (rfl)
end
section
variable {h : LH} {Q : T → LH → Prop} {X : Ex → LH → Prop} {Ps R R2 : List HP} {l k : Nat} {kvs more : List (Key × T)} {t : WT Q X}
theorem W_upd {res : List (Key × T)} (H : Sat h Ps) (r : Rem Ps (.one l (.dK kvs)) R) (r2 : Rem R (.one k (.dK more)) R2) (b : kvs.length + more.length ≤ big) (e : kupd kvs more = res) (q : ∀ h', Sat h' (.one l (.dK res) :: R) → Q .non h') : W (bmF .dupd (.ref l) [.ref k] h) Q X t := by
  subst e
  have H1 := H.rem r
  rw [upd_at H1.get1 (H1.drop.get r2) (H1.ne r2) b]
  exact q _ (H1.set _)
theorem W_get1 {o : LO} {key : T} {v : Option T} (H : Sat h Ps) (r : Rem Ps (.one l o) R) (d : isDic o = true) (g : dgetO o key = some v) (q : Q (v.getD .non) h) : W (bmF .dget (.ref l) [key] h) Q X t := by
  rw [get1_at (H.get r) d g]; exact q
theorem W_get2 {o : LO} {key x : T} {v : Option T} (H : Sat h Ps) (r : Rem Ps (.one l o) R) (d : isDic o = true) (g : dgetO o key = some v) (q : Q (v.getD x) h) : W (bmF .dget (.ref l) [key, x] h) Q X t := by
  rw [get2_at (H.get r) d g]; exact q
theorem W_dpop {o o' : LO} {key v : T} (H : Sat h Ps) (r : Rem Ps (.one l o) R) (d : isDic o = true) (g : dgetO o key = some (some v)) (e : ddelO o key = some o') (q : ∀ h', Sat h' (.one l o' :: R) → Q v h') : W (bmF .dpop (.ref l) [key] h) Q X t := by
  have H1 := H.rem r
  rw [dpop_at H1.get1 d g e]
  exact q _ (H1.set _)
end
theorem W_lock {α : Type} {Q : α → LH → Prop} {X : Ex → LH → Prop} {t : WT Q X} {h : LH} {Ps R : List HP} {l : Nat} {kvs : List (Key × T)} {m : M T} {r : M α} (hm : W (m h) (fun v _ => v = .ref l) noX ⟨⟩) (H : Sat h Ps) (rr : Rem Ps (.one l (.dK kvs)) R)
    (q : ∀ h', Sat h' (.one l (.lkK kvs) :: R) → W (r h') (fun a h2 => ∃ R', Sat h2 (.one l (.lkK kvs) :: R') ∧ ∀ h3, Sat h3 (.one l (.dK kvs) :: R') → Q a h3) noX ⟨⟩) : W (lockM m r h) Q X t := by
  obtain ⟨v, h1, e1, e2⟩ := W_ex.mpr hm
  subst e2
  have H1 := H.rem rr
  have H2 := H1.set (.lkK kvs)
  obtain ⟨a, h2, e3, R', H3, q3⟩ := W_ex.mpr (q _ H2)
  unfold lockM
  rw [e1]
  dsimp only
  rw [H1.get1]
  show W (unlk l (.lkK kvs) (.dK kvs) (r (h.set l (.lkK kvs)))) Q X t
  rw [e3]
  show W (if h2[l]? = some (.lkK kvs) then .ok a (h2.set l (.dK kvs)) else .fail) Q X t
  rw [if_pos H3.get1]
  exact q3 _ (H3.set _)
theorem walkT_t {xs : List T} {h : LH} : walkT (.tup xs) h = .ok (xs, []) h := (rfl)
theorem walkT_kt {xs : List T} {h : LH} : walkT (.kt xs) h = .ok (xs, []) h := (rfl)
theorem flat_ints : ∀ ks : List Int, (ks.map T.int).all flatT = true
  | [] => rfl
  | _ :: ks => flat_ints ks
theorem inSeq_ints {x : Int} : ∀ ks : List Int, inSeq (.int x) (ks.map T.int) = decide (x ∈ ks)
  | [] => rfl
  | k :: ks => by
    have ih := inSeq_ints (x := x) ks
    unfold inSeq at ih ⊢
    rw [List.map_cons, List.any_cons, ih]
    show ((k == x) || decide (x ∈ ks)) = decide (x ∈ k :: ks)
    by_cases e : x = k
    · subst e; simp
    · have : (k == x) = false := by simpa using fun z => e z.symm
      simp [this, e]
theorem inO_ints {x : Int} {ks : List Int} : inO (.int x) (.lst (ks.map T.int)) = some (decide (x ∈ ks)) := by
  show (if flatT (.int x) = true ∧ (ks.map T.int).all flatT = true then some (inSeq (.int x) (ks.map T.int)) else none) = _
  rw [if_pos ⟨rfl, flat_ints ks⟩, inSeq_ints]
theorem blsOf_map {α : Type} {f : α → Bool} : ∀ {xs : List α}, blsOf (xs.map fun x => T.bl (f x)) = some (xs.map f)
  | [] => rfl
  | x :: xs => by
    show (blsOf (xs.map fun x => T.bl (f x))).map (f x :: ·) = _
    rw [blsOf_map]; rfl
theorem all_map {α : Type} {f : α → Bool} {xs : List α} : (xs.map f).all id = xs.all f := by
  rw [List.all_map]; rfl
theorem any_map {α : Type} {f : α → Bool} {xs : List α} : (xs.map f).any id = xs.any f := by
  rw [List.any_map]; rfl
theorem take_succ' {α : Type} {xs : List α} {i : Nat} {x : α} (e : xs[i]? = some x) : xs.take (i + 1) = xs.take i ++ [x] := by
  rw [List.take_add_one, e]; rfl
end Y

/-! L5f: texts, sorted things, copies of dicts, tuples by a number and in order. -/
namespace Y
open PySem
section
variable {h : LH} {l k : Nat} {kvs more : List (Key × T)} {i x y : Int} {z w : Str}
theorem mulTI_r {xs : List T} : binOp .Mult (.tup xs) (.int y) h = if xs ≠ [] ∧ 0 ≤ y ∧ y ≤ 1000 ∧ xs.length ≤ 1000 then .ok (.tup (List.replicate y.toNat xs).flatten) h else .fail := by
  show (if Operator.Mult = Operator.Mult ∧ xs ≠ [] ∧ 0 ≤ y ∧ y ≤ 1000 ∧ xs.length ≤ 1000 then (.ok (.tup (List.replicate y.toNat xs).flatten) h : Res T) else .fail) = _
  simp only [true_and]
theorem slT_s {lo hi : Option Int} : slT (.str z) lo hi h = if z.length ≤ big then .ok (.str (L2.cutS z lo hi)) h else .fail := (rfl)
def dkO1 : LO → Option (List (Key × T))
  | .dK kvs => some kvs
  | _ => none
theorem dkAt_r : dkAt h (.ref l) = (h[l]?).bind dkO1 := by
  unfold dkAt
  dsimp only
  cases h[l]? with
  | none => rfl
  | some o => cases o <;> rfl
theorem dkO1_dK : dkO1 (.dK kvs) = some kvs := (rfl)
theorem listD_r : biF .listD [.ref l] h = bndR (optR ((h[l]?).bind dkO1) h) fun kvs => neu (.lst (kvs.map fun kv => tOfKey kv.1)) := by
  rw [← dkAt_r]
  show (match dkAt h (.ref l) with
    | some kvs => neu (.lst (kvs.map fun (kv : Key × T) => tOfKey kv.1)) h
    | none => Res.fail) = _
  cases dkAt h (.ref l) <;> rfl
theorem dictD_r : biF .dictD [.ref l] h = bndR (optR ((h[l]?).bind dkO1) h) fun kvs => neu (.dK kvs) := by
  rw [← dkAt_r]
  show (match dkAt h (.ref l) with
    | some kvs => neu (.dK kvs) h
    | none => .fail) = _
  cases dkAt h (.ref l) <;> rfl
theorem sorted_r : biF .sorted [.ref l] h = bndR (optR (((h[l]?).bind LO.items).bind sortT) h) fun ys => neu (.lst ys) := by
  show (match ((h[l]?).bind LO.items).bind sortT with
    | some ys => neu (.lst ys) h
    | none => .fail) = _
  cases ((h[l]?).bind LO.items).bind sortT <;> rfl
theorem str_i : biF .str [.int i] h = if i.natAbs.log2 < 1920 then .ok (.str ((toString i : String) : Str)) h else .fail := (rfl)
theorem str_s : biF .str [.str z] h = .ok (.str z) h := (rfl)
theorem bmK_dclr : bmK .dclear h (.ref l) = ((h[l]?).bind dicO).map fun _ => () := by rw [← dicAt_r]; rfl
theorem bmK_join : bmK .sjoin h (.str z) = some () := (rfl)
theorem strsOf_map : ∀ ss : List Str, strsOf (ss.map T.str) = some ss
  | [] => rfl
  | s :: ss => by
    show (strsOf (ss.map T.str)).map (s :: ·) = _
    rw [strsOf_map ss]; rfl
theorem join_at {ss : List Str} (e : (h[l]?).bind LO.items = some (ss.map T.str)) (b : (ss.map fun s : Str => s.length).sum + ss.length * z.length ≤ big) : bmF .sjoin (.str z) [.ref l] h = .ok (.str (Txt.join z ss)) h := by
  show (match ((h[l]?).bind LO.items).bind strsOf with
    | some (ys : List Str) => if (ys.map fun s : Str => s.length).sum + ys.length * z.length ≤ big then Res.ok (T.str (Txt.join z ys)) h else Res.fail
    | none => Res.fail) = _
  rw [e, Option.bind_some, strsOf_map]
  exact if_pos b
theorem cmp_leT {xs ys : List T} : cmpOp .LtE (.tup xs) (.tup ys) h = optR (match intsOf xs, intsOf ys with
    | some ns, some ms => some (L2.lexLeI ns ms)
    | _, _ => none) h := by
  show opt (match intsOf xs, intsOf ys with
    | some ns, some ms => cmpTT .LtE ns ms
    | _, _ => none) h = _
  cases intsOf xs <;> cases intsOf ys <;> rfl
theorem cmp_le2 {a b c d : Int} : cmpOp .LtE (.tup [.int a, .int b]) (.tup [.int c, .int d]) h = .ok (decide (a < c ∨ a = c ∧ b ≤ d)) h := by
  show Res.ok (L2.lexLeI [a, b] [c, d]) h = _
  congr 1
  show (if a = c then (if b = d then true else decide (b ≤ d)) else decide (a ≤ c)) = _
  by_cases c1 : a = c
  · subst c1
    rw [if_pos rfl]
    by_cases c2 : b = d
    · subst c2; simp
    · rw [if_neg c2]; simp
  · rw [if_neg c1]
    apply decide_eq_decide.mpr
    omega
theorem cmp_lt2 {a b c d : Int} : cmpOp .Lt (.tup [.int a, .int b]) (.tup [.int c, .int d]) h = .ok (decide (a < c ∨ a = c ∧ b < d)) h := by
  show Res.ok (HT.lexLt [a, b] [c, d]) h = _
  congr 1
  show (if a = c then (if b = d then false else decide (b < d)) else decide (a < c)) = _
  by_cases c1 : a = c
  · subst c1
    rw [if_pos rfl]
    by_cases c2 : b = d
    · subst c2; simp
    · rw [if_neg c2]; simp
  · rw [if_neg c1]
    apply decide_eq_decide.mpr
    omega
theorem ixO_lkK {b : T} : ixO (.lkK kvs) b = ((keyOf b).bind fun k => kget kvs k) := by
  show ((keyOf b).map fun k => kget kvs k).bind id = _
  cases keyOf b <;> rfl
theorem ixT_s {v : T} : ixT (.str z) v h = optR (ixS z v) h := (rfl)
end
section
variable {h : LH} {Q : T → LH → Prop} {X : Ex → LH → Prop} {Ps R R2 : List HP} {l k : Nat} {kvs more : List (Key × T)} {t : WT Q X}
theorem W_dclear (H : Sat h Ps) (r : Rem Ps (.one l (.dK kvs)) R) (q : ∀ h', Sat h' (.one l (.dK []) :: R) → Q .non h') : W (bmF .dclear (.ref l) [] h) Q X t := by
  have H1 := H.rem r
  have e : bmF .dclear (.ref l) [] h = .ok .non (h.set l (.dK [])) := by
    unfold bmF
    dsimp only
    rw [dicAt_r, H1.get1]
    rfl
  rw [e]
  exact q _ (H1.set _)
theorem W_join2 {z : Str} {ss : List Str} (H : Sat h Ps) (r : Rem Ps (.one l (.lst (ss.map T.str))) R) (b : (ss.map fun s : Str => s.length).sum + ss.length * z.length ≤ big) (q : Q (.str (Txt.join z ss)) h) : W (bmF .sjoin (.str z) [.ref l] h) Q X t := by
  rw [join_at (by rw [H.get r]; rfl) b]
  exact q
theorem W_ixS {z : Str} {i : Int} (h0 : 0 ≤ i) (h1 : i < z.length) (hb : z.length ≤ big) (q : ∀ c, (⟨#[c]⟩ : Str).length = 1 → c ∈ z.cps.toList → Q (.str ⟨#[c]⟩) h) : W (optR (ixS z (.int i)) h) Q X t := by
  obtain ⟨j, rfl⟩ := Int.eq_ofNat_of_zero_le h0
  have hj : j < z.cps.toList.length := by
    have : z.length = z.cps.toList.length := by simp [Str.length]
    omega
  have e : ixS z (.int (j : Int)) = some (.str ⟨#[z.cps.toList[j]]⟩) := by
    show (if z.length ≤ big then ((atN z.cps.toList.length (j : Int)).bind fun j => z.cps.toList[j]?).map fun c => T.str ⟨#[c]⟩ else none) = _
    rw [if_pos hb]
    unfold atN
    rw [if_pos (by omega), if_pos (by omega)]
    simp [List.getElem?_eq_getElem hj]
  rw [e]
  exact q _ rfl (List.getElem_mem hj)
end
/-! own ==, !=, len -/
theorem eqS : ("__eq__" : Str) = sl 3324545445984 := by decide +kernel
theorem lenS : ("__len__" : Str) = sl 425541011992672 := by decide +kernel
class HasN (Γ : Prog) (c : Str) : Prop where
  h : c ∈ Γ.nes
section
variable {Φ : Pm} {h : LH} {s : En} {args : Es} {a b : E} {ne : Bool}
theorem w_ev_olen {Q : T → LH → Prop} {X : Ex → LH → Prop} {tg : WT Q X} : W (ev Φ (.olen args) s h) Q X tg = W ((bnd (evs Φ args s) fun xs => ownLen Φ xs) h) Q X tg := (rfl)
theorem w_ev_oeq {Q : T → LH → Prop} {X : Ex → LH → Prop} {tg : WT Q X} : W (ev Φ (.oeq ne a b) s h) Q X tg = W ((bnd (ev Φ a s) fun x => bnd (ev Φ b s) fun y => bnd (ownEq Φ ne x y) fun c => ret (.bl c)) h) Q X tg := (rfl)
theorem w_evB_oeq {Q : Bool → LH → Prop} {X : Ex → LH → Prop} {tg : WT Q X} : W (evB Φ (.oeq ne a b) s h) Q X tg = W ((bnd (ev Φ a s) fun x => bnd (ev Φ b s) fun y => ownEq Φ ne x y) h) Q X tg := (rfl)
end
section
variable {Γ : Prog} {n : Nat} {h : LH} {X : Ex → LH → Prop} {Ps R R2 : List HP} {P P2 : Fr → Prop} {x y : Nat} {c : Str} {fl fl2 : List Str} {d : FD}
theorem W_oeq0 {ne : Bool} {Q : Bool → LH → Prop} {t : WT Q X} (H : Sat h Ps) (r : Rem Ps (.abs P) R) (ic : IsC x c fl P) (r2 : Rem R (.abs P2) R2) (ic2 : IsC y c fl2 P2) [i : Has Γ (c, some (sl 3324545445984)) d] (hn : ne = false ∨ c ∈ Γ.nes)
    (q : W (cl Γ n (c, some (sl 3324545445984)) [.ref x, .ref y] [] h) (fun v h' => ∃ k, v = .bl k ∧ Q (if ne = true then !k else k) h') X ⟨⟩) : W (ownEq (Phi Γ n) ne (.ref x) (.ref y) h) Q X t := by
  obtain ⟨fs, e1, _⟩ := H.isC r ic
  obtain ⟨fs2, e2, _⟩ := (H.rem r).drop.isC r2 ic2
  have e : eqcls (Phi Γ n).has (Phi Γ n).nes ne h (.ref x) (.ref y) = some c := by
    unfold eqcls
    simp only [e1, e2, Phi_has, Phi_nes, eqS]
    exact if_pos ⟨trivial, hasM_i, hn⟩
  unfold ownEq
  rw [W_bnd, rdH_app, e, optR_some]
  rw [W_ok]
  rw [W_bnd, Phi_call, eqS]
  refine q.mono (fun v h' z => ?_) fun _ _ z => z
  obtain ⟨k, rfl, z⟩ := z
  exact z
theorem W_olen {Q : T → LH → Prop} {t : WT Q X} (H : Sat h Ps) (r : Rem Ps (.abs P) R) (ic : IsC x c fl P) (nf : sl 425541011992672 ∉ fl) [i : Has Γ (c, some (sl 425541011992672)) d]
    (q : W (cl Γ n (c, some (sl 425541011992672)) [.ref x] [] h) (fun v h' => ∃ i, v = .int i ∧ (0 ≤ i ∧ i < 2 ^ 63) ∧ Q v h') X ⟨⟩) : W (ownLen (Phi Γ n) [.ref x] h) Q X t := by
  obtain ⟨fs, e1, z⟩ := H.isC r ic
  have e : mcls (Phi Γ n).has h (.ref x) "__len__" = some c := by
    unfold mcls
    simp only [e1, Phi_has, lenS]
    exact if_pos ⟨by rw [getF_isNone (by rw [z]; exact nf)]; rfl, hasM_i⟩
  unfold ownLen
  rw [W_bnd, rdH_app, e, optR_some]
  rw [W_ok]
  rw [W_bnd, Phi_call, lenS]
  refine q.mono (fun v h' z => ?_) fun _ _ z => z
  obtain ⟨i, rfl, zi, z⟩ := z
  simp only [if_pos zi]
  exact z
theorem W_oeq {Q : Bool → LH → Prop} {t : WT Q X} (H : Sat h Ps) (r : Rem Ps (.abs P) R) (ic : IsC x c fl P) (r2 : Rem R (.abs P2) R2) (ic2 : IsC y c fl2 P2) [i : Has Γ (c, some (sl 3324545445984)) d]
    (q : W (cl Γ n (c, some (sl 3324545445984)) [.ref x, .ref y] [] h) (fun v h' => ∃ k, v = .bl k ∧ Q k h') X ⟨⟩) : W (ownEq (Phi Γ n) false (.ref x) (.ref y) h) Q X t :=
  W_oeq0 H r ic r2 ic2 (.inl rfl) q
theorem W_one {Q : Bool → LH → Prop} {t : WT Q X} (H : Sat h Ps) (r : Rem Ps (.abs P) R) (ic : IsC x c fl P) (r2 : Rem R (.abs P2) R2) (ic2 : IsC y c fl2 P2) [i : Has Γ (c, some (sl 3324545445984)) d] [hn : HasN Γ c]
    (q : W (cl Γ n (c, some (sl 3324545445984)) [.ref x, .ref y] [] h) (fun v h' => ∃ k, v = .bl k ∧ Q (!k) h') X ⟨⟩) : W (ownEq (Phi Γ n) true (.ref x) (.ref y) h) Q X t :=
  W_oeq0 H r ic r2 ic2 (.inr hn.h) q
end
end Y

/-! L5g: list(zip), two for, zip strict, a star in targets, bits, pop, index. -/
namespace Y
open PySem
section
variable {Φ : Pm} {h : LH} {s : En} {args : Es} {a b e : E} {g g1 : G} {src src1 : I} {own : List (Str × Nat)} {vs1 : List Nat} {m : GM} {bd : Ss}
theorem w_ev_lzip {Q : T → LH → Prop} {X : Ex → LH → Prop} {tg : WT Q X} : W (ev Φ (.lzip a b) s h) Q X tg = W ((bnd (ev Φ a s) fun x => bnd (ev Φ b s) fun y => bnd (zipM x y) fun p => if p.1.length ≤ big then neu (.lst p.1) else fl) h) Q X tg := (rfl)
theorem w_ev_lc2 {Q : T → LH → Prop} {X : Ex → LH → Prop} {tg : WT Q X} : W (ev Φ (.lc2 g src g1 src1 e own vs1) s h) Q X tg = W ((bnd (evI Φ src s) fun p => bnd (lc2Go p.2 (asgG g) (fun s1 => bnd (nox (evI Φ src1 s1)) fun p1 => lcGo p1.2 (asgG g1) (fun _ => ret true) (ev Φ e) p1.1 (wipeN s1 vs1)) p.1 (wipeN s (own.map (·.2)))) fun xs => if xs.length ≤ big then neu (.lst xs) else fl) h) Q X tg := (rfl)
theorem w_evI_zipS {Q : List T × Gd → LH → Prop} {X : Ex → LH → Prop} {tg : WT Q X} : W (evI Φ (.zipS a b) s h) Q X tg = W ((bnd (ev Φ a s) fun x => bnd (ev Φ b s) fun y => zipM x y) h) Q X tg := (rfl)
theorem w_ex_asgM {Q : Fl → LH → Prop} {X : Ex → LH → Prop} {tg : WT Q X} : W (ex Φ (.asgM m e) s h) Q X tg = W ((bnd (ev Φ e s) fun v => bnd (asgM m v s) fun s' => ret (.nx s')) h) Q X tg := (rfl)
theorem w_ex_forM {Q : Fl → LH → Prop} {X : Ex → LH → Prop} {tg : WT Q X} : W (ex Φ (.forM m src bd) s h) Q X tg = W ((bnd (evI Φ src s) fun p => forGoM p.2 m (exs Φ bd) p.1 s) h) Q X tg := (rfl)
end
section
variable {h : LH} {Q : T → LH → Prop} {X : Ex → LH → Prop} {Ps R : List HP} {l k : Nat} {t : WT Q X} {x y : Int}
theorem W_pop {xs : List T} {v : T} (H : Sat h Ps) (r : Rem Ps (.one l (.lst (xs ++ [v]))) R) (q : ∀ h', Sat h' (.one l (.lst xs) :: R) → Q v h') : W (bmF .pop (.ref l) [] h) Q X t := by
  have H1 := H.rem r
  rw [bm_at (H.get r)]
  show W (match (xs ++ [v])[(xs ++ [v]).length - 1]? with
    | some y => .ok y (h.set l (.lst (xs ++ [v]).dropLast))
    | none => .fail) Q X t
  rw [show (xs ++ [v])[(xs ++ [v]).length - 1]? = some v by simp, show (xs ++ [v]).dropLast = xs by simp]
  exact q _ (H1.set _)
theorem bin_shl : binI .LShift x y = if powOk x y = true then some (.int (x * 2 ^ y.toNat)) else none := (rfl)
theorem bin_shr : binI .RShift x y = if 0 ≤ y then some (.int (x / 2 ^ y.toNat)) else none := (rfl)
theorem bin_and : binI .BitAnd x y = if 0 ≤ x ∧ 0 ≤ y then some (.int ((x.toNat &&& y.toNat : Nat) : Int)) else none := (rfl)
theorem upper_s {z : Str} : bmF .supper (.str z) [] h = if z.length ≤ big then .ok (.str (Txt.upper z)) h else .fail := (rfl)
theorem strip_s {z w : Str} : bmF .sstrip (.str z) [.str w] h = if z.length ≤ big then .ok (.str (Txt.stripChars z w)) h else .fail := (rfl)
theorem index_s {z w : Str} : bmF .sindex (.str z) [.str w] h = optR ((Txt.index0 z w).map fun (j : Nat) => T.int (j : Int)) h := (rfl)
theorem bmK_upper {z : Str} : bmK .supper h (.str z) = some () := (rfl)
theorem bmK_strip {z : Str} : bmK .sstrip h (.str z) = some () := (rfl)
theorem bmK_index {z : Str} : bmK .sindex h (.str z) = some () := (rfl)
theorem bmK_popi : bmK .popi h (.ref l) = ((h[l]?).bind LO.wlist).map fun _ => () := (rfl)
end
end Y

/-! L5h: parts of lists; items of lists of whole numbers; new lists. -/
namespace Y
open PySem
theorem cutT_to {xs : List T} {n : Nat} : cutT xs none (some (n : Int)) = xs.take n := by
  unfold cutT
  rw [HT.sIx_none, HT.sIx_nat, List.drop_zero, Nat.sub_zero, List.take_eq_take_iff]
  omega
theorem cutT_from {xs : List T} {n : Nat} : cutT xs (some (n : Int)) none = xs.drop n := by
  unfold cutT
  rw [HT.sIx_none, HT.sIx_nat]
  by_cases h : n ≤ xs.length
  · rw [Nat.min_eq_left h, List.take_of_length_le (by rw [List.length_drop]; exact Nat.le_refl _)]
  · rw [Nat.min_eq_right (by omega), Nat.sub_self, List.take_zero, List.drop_of_length_le (by omega)]
theorem cutT_all {xs : List T} : cutT xs none none = xs := by
  unfold cutT
  rw [HT.sIx_none, HT.sIx_none]
  simp
section
variable {h : LH} {Q : T → LH → Prop} {X : Ex → LH → Prop} {x : Int} {t : WT Q X} {Ps R : List HP} {l : Nat}
theorem W_atMI {ks : List Int} (h0 : 0 ≤ x) (h1 : x < ks.length) (q : ∀ i, i ∈ ks → Q (.int i) h) : W (optR (atT (ks.map T.int) x) h) Q X t := by
  obtain ⟨j, hj, rfl⟩ := nat_of h0 h1
  have e : ks[j]? = some ks[j] := List.getElem?_eq_getElem hj
  exact W_atM e (q _ (List.getElem_mem hj))
/-- a whole number of a list between bounds -/
def isB (lo hi : Int) : T → Bool
  | .int i => decide (lo ≤ i) && decide (i ≤ hi)
  | _ => false
theorem W_atB (lo hi : Int) {xs : List T} (a : xs.all (isB lo hi) = true) (h0 : 0 ≤ x) (h1 : x < xs.length) (q : ∀ i, lo ≤ i → i ≤ hi → Q (.int i) h) : W (optR (atT xs x) h) Q X t := by
  refine W_at h0 h1 fun v m => ?_
  have := List.all_eq_true.mp a v m
  cases v with
  | int i =>
    simp only [isB, Bool.and_eq_true, decide_eq_true_eq] at this
    exact q i this.1 this.2
  | _ => cases this
end
end Y

/-! L5i: comprehensions and loops that keep all pieces; stars; signs; zip; two for. -/
namespace Y
open PySem
section
variable {Φ : Pm} {α β : Type} {h : LH} {X : Ex → LH → Prop} {Ps R : List HP} {s : En} {gd : Gd}
theorem W_lcM {K : List α} {g f : α → T} {tgt : T → En → Option En} {elt : En → M T} {Q : List T → LH → Prop} {t : WT Q X} (H : Sat h Ps) (hg : ∀ h', Sat h' Ps → gdOk h' gd = true)
    (step : ∀ x ∈ K, ∀ h', Sat h' Ps → ∃ s1, tgt (g x) s = some s1 ∧ W (elt s1 h') (fun v h2 => v = f x ∧ Sat h2 Ps) noX ⟨⟩) (q : ∀ h', Sat h' Ps → Q (K.map f) h') : W (lcGo gd tgt (evC Φ .no) elt (K.map g) s h) Q X t := by
  refine W_lc (fun i xs h => xs = (K.take i).map f ∧ Sat h Ps) ⟨rfl, H⟩ ?_ ?_
  · rintro i v xs h e ⟨rfl, H⟩
    obtain ⟨x, ex, rfl⟩ := get_map e
    obtain ⟨s1, e1, w⟩ := step x (List.mem_of_getElem? ex) h H
    refine ⟨hg _ H, s1, e1, ?_⟩
    show W (ret true h) _ _ _
    rw [W_ret, if_pos rfl]
    refine w.mono (fun v h2 z => ?_) fun _ _ z => z
    obtain ⟨rfl, H2⟩ := z
    exact ⟨by rw [take_succ' ex, List.map_append]; rfl, H2⟩
  · rintro xs h ⟨rfl, H⟩
    refine ⟨hg _ H, ?_⟩
    have e : K.take (K.map g).length = K := by rw [List.length_map, List.take_length]
    rw [e]
    exact q _ H
theorem filter_take {p : α → Bool} {K : List α} {i : Nat} {x : α} (ex : K[i]? = some x) : (K.take (i + 1)).filter p = if p x = true then (K.take i).filter p ++ [x] else (K.take i).filter p := by
  rw [take_succ' ex, List.filter_append, List.filter_cons, List.filter_nil]
  split <;> simp
theorem W_lcF {K : List α} {g f : α → T} {p : α → Bool} {tgt : T → En → Option En} {tst : En → M Bool} {elt : En → M T} {Q : List T → LH → Prop} {t : WT Q X} (H : Sat h Ps) (hg : ∀ h', Sat h' Ps → gdOk h' gd = true)
    (step : ∀ x ∈ K, ∀ h', Sat h' Ps → ∃ s1, tgt (g x) s = some s1 ∧ W (tst s1 h') (fun b h2 => b = p x ∧ Sat h2 Ps) noX ⟨⟩ ∧ (p x = true → ∀ h2, Sat h2 Ps → W (elt s1 h2) (fun v h3 => v = f x ∧ Sat h3 Ps) noX ⟨⟩)) (q : ∀ h', Sat h' Ps → Q ((K.filter p).map f) h') : W (lcGo gd tgt tst elt (K.map g) s h) Q X t := by
  refine W_lc (fun i xs h => xs = ((K.take i).filter p).map f ∧ Sat h Ps) ⟨rfl, H⟩ ?_ ?_
  · rintro i v xs h e ⟨rfl, H⟩
    obtain ⟨x, ex, rfl⟩ := get_map e
    obtain ⟨s1, e1, w, w2⟩ := step x (List.mem_of_getElem? ex) h H
    refine ⟨hg _ H, s1, e1, w.mono (fun b h2 z => ?_) fun _ _ z => z⟩
    obtain ⟨rfl, H2⟩ := z
    rw [filter_take ex]
    by_cases c : p x = true
    · rw [if_pos c, if_pos c]
      refine (w2 c _ H2).mono (fun v h3 z => ?_) fun _ _ z => z
      obtain ⟨rfl, H3⟩ := z
      exact ⟨by rw [List.map_append]; rfl, H3⟩
    · rw [if_neg c, if_neg c]
      exact ⟨rfl, H2⟩
  · rintro xs h ⟨rfl, H⟩
    refine ⟨hg _ H, ?_⟩
    have e : K.take (K.map g).length = K := by rw [List.length_map, List.take_length]
    rw [e]
    exact q _ H
theorem W_forP {K : List α} {g : α → T} {G0 : G} {mb : En → M Fl} {Q : Fl → LH → Prop} {t : WT Q X} (J : En → Prop) (H : Sat h Ps) (j0 : J s) (hg : ∀ h', Sat h' Ps → gdOk h' gd = true)
    (step : ∀ x ∈ K, ∀ s h', J s → Sat h' Ps → ∃ s1, asgG G0 (g x) s = some s1 ∧ W (mb s1 h') (fun f h2 => ∃ s2, f = .nx s2 ∧ J s2 ∧ Sat h2 Ps) X ⟨⟩) (q : ∀ s2 h', J s2 → Sat h' Ps → Q (.nx s2) h') : W (forGo gd G0 mb (K.map g) s h) Q X t := by
  refine W_for (fun i s h => J s ∧ Sat h Ps) ⟨j0, H⟩ ?_ ?_
  · rintro i v s h e ⟨j, H⟩
    obtain ⟨x, ex, rfl⟩ := get_map e
    obtain ⟨s1, e1, w⟩ := step x (List.mem_of_getElem? ex) s h j H
    refine ⟨hg _ H, s1, e1, w.mono (fun f h2 z => ?_) fun _ _ z => z⟩
    obtain ⟨s2, rfl, z⟩ := z
    exact z
  · rintro s h ⟨j, H⟩
    exact ⟨hg _ H, q _ _ j H⟩
theorem W_forM {m : GM} {mb : En → M Fl} {Q : Fl → LH → Prop} {t : WT Q X} (I : Nat → En → LH → Prop) {ts : List T} (i0 : I 0 s h)
    (step : ∀ i v s h, ts[i]? = some v → I i s h → gdOk h gd = true ∧ W (asgM m v s h) (fun s1 h1 => W (mb s1 h1) (fun f h' => match f with
      | .nx s2 => I (i + 1) s2 h'
      | .ct s2 => I (i + 1) s2 h'
      | .bk s2 => Q (.nx s2) h'
      | .rt v => Q (.rt v) h') X ⟨⟩) X ⟨⟩)
    (stop : ∀ s h, I ts.length s h → gdOk h gd = true ∧ Q (.nx s) h) : W (forGoM gd m mb ts s h) Q X t := by
  have go : ∀ (us : List T) (j : Nat) (s : En) (h : LH), (∀ i, us[i]? = ts[j + i]?) → j + us.length = ts.length → I j s h → W (forGoM gd m mb us s h) Q X t := by
    intro us
    induction us with
    | nil =>
      intro j s h _ hl i
      rw [List.length_nil, Nat.add_zero] at hl
      subst hl
      obtain ⟨g1, q⟩ := stop s h i
      unfold forGoM
      simp [g1]
      exact q
    | cons v us ih =>
      intro j s h hu hl i
      obtain ⟨g1, w⟩ := step j v s h (by have := hu 0; simpa using this.symm) i
      unfold forGoM
      simp only [bnd_app, rdH_app, g1, if_true, optR_some, bndR_ok]
      rw [W_bndR]
      refine w.mono (fun s1 h1 w => ?_) fun _ _ z => z
      rw [W_bnd]
      refine w.mono (fun f h' q => ?_) fun _ _ z => z
      have r : ∀ s2, I (j + 1) s2 h' → W (forGoM gd m mb us s2 h') Q X ⟨⟩ := fun s2 i2 => ih (j + 1) s2 h' (fun i => by
        have := hu (i + 1)
        rw [List.getElem?_cons_succ] at this
        rw [this, show j + (i + 1) = j + 1 + i by omega]) (by rw [List.length_cons] at hl; omega) i2
      cases f with
      | nx s2 => exact r s2 q
      | ct s2 => exact r s2 q
      | bk s2 => exact q
      | rt v => exact q
  exact go ts 0 s h (fun i => by rw [Nat.zero_add]) (Nat.zero_add _) i0
theorem W_forMP {K : List α} {g : α → T} {m : GM} {mb : En → M Fl} {Q : Fl → LH → Prop} {t : WT Q X} (J : En → Prop) (H : Sat h Ps) (j0 : J s) (hg : ∀ h', Sat h' Ps → gdOk h' gd = true)
    (step : ∀ x ∈ K, ∀ s h', J s → Sat h' Ps → W (asgM m (g x) s h') (fun s1 h1 => W (mb s1 h1) (fun f h2 => ∃ s2, f = .nx s2 ∧ J s2 ∧ Sat h2 Ps) X ⟨⟩) X ⟨⟩) (q : ∀ s2 h', J s2 → Sat h' Ps → Q (.nx s2) h') : W (forGoM gd m mb (K.map g) s h) Q X t := by
  refine W_forM (fun i s h => J s ∧ Sat h Ps) ⟨j0, H⟩ ?_ ?_
  · rintro i v s h e ⟨j, H⟩
    obtain ⟨x, ex, rfl⟩ := get_map e
    refine ⟨hg _ H, (step x (List.mem_of_getElem? ex) s h j H).mono (fun s1 h1 w => w.mono (fun f h2 z => ?_) fun _ _ z => z) fun _ _ z => z⟩
    obtain ⟨s2, rfl, z⟩ := z
    exact z
  · rintro s h ⟨j, H⟩
    exact ⟨hg _ H, q _ _ j H⟩
/-- one of many pieces used -/
theorem all_use {K : List α} {f : α → HP} {x : α} (H : Sat h (.all (K.map f) :: R)) (m : x ∈ K) : ∃ R', Sat h (f x :: R') ∧ ∀ h', Sat h' (f x :: R') → Sat h' (.all (K.map f) :: R) := by
  obtain ⟨i, hi⟩ := List.getElem?_of_mem m
  have hl := (List.getElem?_eq_some_iff.mp hi).1
  refine ⟨_, all_take H hi, fun h' H' => ?_⟩
  have := all_put x H' hl
  rwa [set_self hi] at this
end
section
variable {h : LH} {s : En} {g : G} {m : GM} {gs : Gs} {x y : T} {xs ys : List T} {i : Nat}
theorem asgM_g : asgM (.g g) x s h = optR (asgG g x s) h := (rfl)
theorem asgM_pair : asgM (.pair g m) (.tup [x, y]) s h = bndR (optR (asgG g x s) h) fun s1 => asgM m y s1 := by
  show bnd (opt (asgG g x s)) (fun s1 => asgM m y s1) h = _
  rw [bnd_app]
  cases asgG g x s <;> rfl
theorem asgM_star : asgM (.star gs i) (.tup xs) s h = if gsLen gs ≤ xs.length ∧ xs.length ≤ 10000 then bndR (optR (asgGs gs (xs.take (gsLen gs)) s) h) (fun s1 => bnd (neu (.lst (xs.drop (gsLen gs)))) fun t => ret (s1.set i (some t))) else .fail := by
  show (if gsLen gs ≤ xs.length ∧ xs.length ≤ 10000 then bnd (opt (asgGs gs (xs.take (gsLen gs)) s)) (fun s1 => bnd (neu (.lst (xs.drop (gsLen gs)))) fun t => ret (s1.set i (some t))) else fl) h = _
  split
  · rw [bnd_app]
    cases asgGs gs (xs.take (gsLen gs)) s <;> rfl
  · rfl
theorem asgM_starK : asgM (.star gs i) (.kt xs) s h = if gsLen gs ≤ xs.length ∧ xs.length ≤ 10000 then bndR (optR (asgGs gs (xs.take (gsLen gs)) s) h) (fun s1 => bnd (neu (.lst (xs.drop (gsLen gs)))) fun t => ret (s1.set i (some t))) else .fail := asgM_star
theorem gsLen_nil : gsLen .nil = 0 := (rfl)
theorem gsLen_cons : gsLen (.cons g gs) = gsLen gs + 1 := (rfl)
theorem zipU_tt : zipU (.tup xs) (.tup ys) = ret (zipT xs ys, []) := (rfl)
theorem zipM_kt : zipM (.kt xs) (.tup ys) = if xs.length = ys.length then ret (zipT xs ys, []) else fl := (rfl)
theorem zipT_nil : zipT [] ys = [] := by cases ys <;> rfl
theorem zipT_nil2 : zipT xs [] = [] := by cases xs <;> rfl
theorem zipT_cons : zipT (x :: xs) (y :: ys) = .tup [x, y] :: zipT xs ys := (rfl)
theorem enumT_map {α : Type} {f : α → T} {K : List α} : enumT 0 (K.map f) = K.zipIdx.map fun p => .tup [.int ((p.2 : Nat) : Int), f p.1] := by
  refine List.ext_getElem? fun i => ?_
  rw [List.getElem?_map, List.getElem?_zipIdx]
  cases e : (enumT 0 (K.map f))[i]? with
  | none =>
    have : K[i]? = none := by
      rw [List.getElem?_eq_none_iff] at e ⊢
      rw [enumT_len, List.length_map] at e
      exact e
    rw [this]; rfl
  | some t =>
    obtain ⟨x, ex, rfl⟩ := enumT_get e
    obtain ⟨y, ey, rfl⟩ := get_map ex
    rw [ey]
    simp
theorem idx_mem {α : Type} {K : List α} {p : α × Nat} (m : p ∈ K.zipIdx) : K[p.2]? = some p.1 := by
  obtain ⟨x, i⟩ := p
  exact List.mem_zipIdx_iff_getElem?.mp m
end
section
variable {Φ : Pm} {h : LH} {s : En} {a b e : E} {gd : Gd} {tgt : T → En → Option En} {inn : En → M (List T)} {x : T} {xs : List T}
theorem w_evI_sgn {Q : List T × Gd → LH → Prop} {X : Ex → LH → Prop} {tg : WT Q X} : W (evI Φ (.sgn e) s h) Q X tg = W ((bnd (ev Φ e s) fun x => match x with
    | .str z => if z.length ≤ big then ret (sgnT z, []) else fl
    | _ => fl) h) Q X tg := (rfl)
theorem w_evI_zipN {Q : List T × Gd → LH → Prop} {X : Ex → LH → Prop} {tg : WT Q X} : W (evI Φ (.zipN a b) s h) Q X tg = W ((bnd (ev Φ a s) fun x => bnd (ev Φ b s) fun y => zipU x y) h) Q X tg := (rfl)
theorem w_lc2_nil {Q : List T → LH → Prop} {X : Ex → LH → Prop} {tg : WT Q X} : W (lc2Go gd tgt inn [] s h) Q X tg = W ((bnd (rdH fun h => if gdOk h gd = true then some () else none) fun _ => ret []) h) Q X tg := (rfl)
theorem w_lc2_cons {Q : List T → LH → Prop} {X : Ex → LH → Prop} {tg : WT Q X} : W (lc2Go gd tgt inn (x :: xs) s h) Q X tg = W ((bnd (rdH fun h => if gdOk h gd = true then tgt x s else none) fun s1 => bnd (inn s1) fun ys => bnd (lc2Go gd tgt inn xs s) fun xs => ret (ys ++ xs)) h) Q X tg := (rfl)
theorem w_for_nil {g : G} {mb : En → M Fl} {Q : Fl → LH → Prop} {X : Ex → LH → Prop} {tg : WT Q X} : W (forGo gd g mb [] s h) Q X tg = W ((bnd (rdH fun h => if gdOk h gd = true then some () else none) fun _ => ret (.nx s)) h) Q X tg := (rfl)
theorem w_for_cons {g : G} {mb : En → M Fl} {Q : Fl → LH → Prop} {X : Ex → LH → Prop} {tg : WT Q X} : W (forGo gd g mb (x :: xs) s h) Q X tg = W ((bnd (rdH fun h => if gdOk h gd = true then asgG g x s else none) fun s1 => bnd (mb s1) fun f => match f with
    | .nx s2 => forGo gd g mb xs s2
    | .ct s2 => forGo gd g mb xs s2
    | .bk s2 => ret (.nx s2)
    | .rt v => ret (.rt v)) h) Q X tg := (rfl)
theorem blsOf_nil : blsOf [] = some [] := (rfl)
theorem blsOf_cons {b : Bool} {r : List T} : blsOf (.bl b :: r) = (blsOf r).map (b :: ·) := (rfl)
theorem gdOk_nil : gdOk h [] = true := (rfl)
theorem W_noxR {α : Type} {m : M α} {Q : α → LH → Prop} {X : Ex → LH → Prop} {t : WT Q X} (w : W (m h) Q noX ⟨⟩) : W (nox m h) Q X t := W_nox w
end
end Y

/-! max with a default, xs[::-1] -/
namespace Y
open PySem
section
variable {Φ : Pm} {h : LH} {s : En} {a d : E}
theorem w_ev_maxd {Q : T → LH → Prop} {X : Ex → LH → Prop} {tg : WT Q X} : W (ev Φ (.maxd a d) s h) Q X tg = W ((bnd (ev Φ a s) fun x => bnd (ev Φ d s) fun y => maxM x y) h) Q X tg := (rfl)
theorem w_ev_revE {Q : T → LH → Prop} {X : Ex → LH → Prop} {tg : WT Q X} : W (ev Φ (.revE a) s h) Q X tg = W ((bnd (ev Φ a s) revM) h) Q X tg := (rfl)
end
section
variable {h : LH} {Q : T → LH → Prop} {X : Ex → LH → Prop} {Ps R : List HP} {l : Nat} {t : WT Q X}
theorem intsOf_m : ∀ ns : List Int, intsOf (ns.map T.int) = some ns
  | [] => rfl
  | n :: ns => by
    show (intsOf (ns.map T.int)).map (n :: ·) = _
    rw [intsOf_m ns]; rfl
theorem W_maxd {ns : List Int} {i : Int} (H : Sat h Ps) (r : Rem Ps (.one l (.lst (ns.map T.int))) R) (q : Q (.int (if ns = [] then i else maxI ns)) h) : W (maxM (.ref l) (.int i) h) Q X t := by
  have e : maxM (.ref l) (.int i) h = .ok (.int (if ns = [] then i else maxI ns)) h := by
    unfold maxM
    have e1 : lstOf h (.ref l) = some (ns.map T.int) := by
      show (h[l]?).bind LO.items = _
      rw [H.get r]; rfl
    rw [e1, Option.bind_some, intsOf_m]
    rfl
  rw [e]
  exact q
theorem W_rev {xs : List T} (H : Sat h Ps) (r : Rem Ps (.one l (.lst xs)) R) (q : ∀ k h', Sat h' (.one k (.lst xs.reverse) :: Ps) → Q (.ref k) h') : W (revM (.ref l) h) Q X t := by
  have e : revM (.ref l) h = neu (.lst xs.reverse) h := by
    unfold revM
    have e1 : lstOf h (.ref l) = some xs := by
      show (h[l]?).bind LO.items = _
      rw [H.get r]; rfl
    rw [e1]
  rw [e]
  exact W_neu H q
theorem maxI_mem {ns : List Int} (ne : ns ≠ []) : maxI ns ∈ ns ∧ ∀ y ∈ ns, y ≤ maxI ns := by
  cases ns with
  | nil => exact absurd rfl ne
  | cons a r =>
    have fold : ∀ (l : List Int) (z : Int), z ≤ l.foldl (fun m x => if x > m then x else m) z ∧ (∀ y ∈ l, y ≤ l.foldl (fun m x => if x > m then x else m) z) ∧ (l.foldl (fun m x => if x > m then x else m) z = z ∨ l.foldl (fun m x => if x > m then x else m) z ∈ l) := by
      intro l
      induction l with
      | nil => intro z; simp
      | cons b l ih =>
        intro z
        rw [List.foldl_cons]
        obtain ⟨y1, y2, y3⟩ := ih (if b > z then b else z)
        have hle : z ≤ (if b > z then b else z) ∧ b ≤ (if b > z then b else z) := by split <;> constructor <;> omega
        refine ⟨Int.le_trans hle.1 y1, fun y hy => ?_, ?_⟩
        · rcases List.mem_cons.mp hy with rfl | hy
          · exact Int.le_trans hle.2 y1
          · exact y2 y hy
        · rcases y3 with y3 | y3
          · rw [y3]
            split
            · exact .inr List.mem_cons_self
            · exact .inl rfl
          · exact .inr (List.mem_cons_of_mem _ y3)
    obtain ⟨y1, y2, y3⟩ := fold r a
    refine ⟨?_, fun y hy => ?_⟩
    · rcases y3 with y3 | y3
      · show r.foldl _ a ∈ _
        rw [y3]; exact List.mem_cons_self
      · exact List.mem_cons_of_mem _ y3
    · rcases List.mem_cons.mp hy with rfl | hy
      · exact y1
      · exact y2 y hy
end
end Y

namespace Y
open PySem
/-- term_by: 0:hands 1:hand 2:count -/
def P_term_by : FD := { ps := [(sl 31352156521), (sl 213643625), (sl 31641679972)], N := [(sl 31352156521), (sl 213643625), (sl 31641679972)], bd :=
    (.cons (.retE (.bin .Add (.bin .Mult (.var 0) (.var 2)) (.var 1)))
    .nil) }
theorem cl_term_by_0_count_hands_hand {Γ : Prog} [Has Γ ((sl 539989290840949), none) P_term_by] {n : Nat} {k0 k1 k2 : T} : cl Γ n ((sl 539989290840949), none) [] [((sl 31641679972), k0), ((sl 31352156521), k1), ((sl 213643625), k2)] = clB Γ n P_term_by [k1, k2, k0] := cl_via (by kernel_rfl)
theorem cl_term_by_3 {Γ : Prog} [Has Γ ((sl 539989290840949), none) P_term_by] {n : Nat} {a0 a1 a2 : T} : cl Γ n ((sl 539989290840949), none) [a0, a1, a2] [] = clB Γ n P_term_by [a0, a1, a2] := cl_via (by kernel_rfl)
theorem cl_term_by_0_count_hand_hands {Γ : Prog} [Has Γ ((sl 539989290840949), none) P_term_by] {n : Nat} {k0 k1 k2 : T} : cl Γ n ((sl 539989290840949), none) [] [((sl 31641679972), k0), ((sl 213643625), k1), ((sl 31352156521), k2)] = clB Γ n P_term_by [k2, k1, k0] := cl_via (by kernel_rfl)
/-- hand_by: 0:hands 1:term -/
def P_hand_by : FD := { ps := [(sl 31352156521), (sl 232584053)], N := [(sl 31352156521), (sl 232584053)], bd :=
    (.cons (.retE (.bin .Mod (.var 1) (.var 0)))
    .nil) }
theorem cl_hand_by_0_term_hands {Γ : Prog} [Has Γ ((sl 539989271900521), none) P_hand_by] {n : Nat} {k0 k1 : T} : cl Γ n ((sl 539989271900521), none) [] [((sl 232584053), k0), ((sl 31352156521), k1)] = clB Γ n P_hand_by [k1, k0] := cl_via (by kernel_rfl)
theorem cl_hand_by_2 {Γ : Prog} [Has Γ ((sl 539989271900521), none) P_hand_by] {n : Nat} {a0 a1 : T} : cl Γ n ((sl 539989271900521), none) [a0, a1] [] = clB Γ n P_hand_by [a0, a1] := cl_via (by kernel_rfl)
/-- Keeper.__init__: 0:self 1:hands 2:keeps -/
def P_Keeper___init__ : FD := { ps := [(sl 217805684), (sl 31352156521), (sl 31377175404)], N := [(sl 217805684), (sl 31352156521), (sl 31377175404)], bd :=
    (.cons (.asg (.fld (.var 0) (sl 31352156521)) (.var 1))
    (.cons (.asg (.fld (.var 0) (sl 31366902126)) (.var 2))
    (.cons (.asg (.fld (.var 0) (sl 232584053)) (.cst (.int 0)))
    (.cons (.asg (.fld (.var 0) (sl 244938726)) (.cst .non))
    (.cons (.asg (.fld (.var 0) (sl 31371096949)) (.lst .nil))
    .nil))))) }
theorem cl_Keeper_init_3 {Γ : Prog} [Has Γ ((sl 3978988991308), some (sl 54469456771592288)) P_Keeper___init__] {n : Nat} {a0 a1 a2 : T} : cl Γ n ((sl 3978988991308), some (sl 54469456771592288)) [a0, a1, a2] [] = clB Γ n P_Keeper___init__ [a0, a1, a2] := cl_via (by kernel_rfl)
theorem cl_Keeper_init_1_keeps_hands {Γ : Prog} [Has Γ ((sl 3978988991308), some (sl 54469456771592288)) P_Keeper___init__] {n : Nat} {a0 k0 k1 : T} : cl Γ n ((sl 3978988991308), some (sl 54469456771592288)) [a0] [((sl 31377175404), k0), ((sl 31352156521), k1)] = clB Γ n P_Keeper___init__ [a0, k1, k0] := cl_via (by kernel_rfl)
/-- Keeper.lets_by: 0:self 1:reading 2:term -/
def P_Keeper_lets_by : FD := { ps := [(sl 217805684), (sl 461239435703155), (sl 232584053)], N := [(sl 217805684), (sl 461239435703155), (sl 232584053)], bd :=
    (.cons (.ifS (.cmp .Lt (.var 2) (.fld (.var 0) (sl 232584053))) (.cons (.retE (.cst (.bl false)))
    .nil) .nil)
    (.cons (.ifS (.or2 (.cmp .Is (.fld (.var 0) (sl 244938726)) (.cst .non)) (.cmp .GtE (.var 1) (.fld (.var 0) (sl 244938726)))) (.cons (.retE (.cst (.bl true)))
    .nil) .nil)
    (.cons (.retE (.cmp .Eq (.call (sl 539989271900521) (.cons (.fld (.var 0) (sl 31352156521)) (.cons (.var 2) .nil)) .nil) (.call (sl 539989271900521) (.cons (.fld (.var 0) (sl 31352156521)) (.cons (.fld (.var 0) (sl 232584053)) .nil)) .nil)))
    .nil))) }
theorem cl_Keeper_lets_by_3 {Γ : Prog} [Has Γ ((sl 3978988991308), some (sl 539989303456621)) P_Keeper_lets_by] {n : Nat} {a0 a1 a2 : T} : cl Γ n ((sl 3978988991308), some (sl 539989303456621)) [a0, a1, a2] [] = clB Γ n P_Keeper_lets_by [a0, a1, a2] := cl_via (by kernel_rfl)
/-- Keeper.asked: 0:self 1:reading 2:term -/
def P_Keeper_asked : FD := { ps := [(sl 217805684), (sl 461239435703155), (sl 232584053)], N := [(sl 217805684), (sl 461239435703155), (sl 232584053)], bd :=
    (.cons (.ifS (.not (.meth (.var 0) (sl 539989303456621) (.cons (.var 1) (.cons (.var 2) .nil)) .nil)) (.cons (.retE (.cst (.bl false)))
    .nil) .nil)
    (.cons (.asg (.fld (.var 0) (sl 232584053)) (.var 2))
    (.cons (.asg (.fld (.var 0) (sl 244938726)) (.bin .Add (.var 1) (.fld (.var 0) (sl 31366902126))))
    (.cons (.expr (.bm (.fld (.var 0) (sl 31371096949)) .append (.cons (.var 2) .nil)))
    (.cons (.retE (.cst (.bl true)))
    .nil))))) }
theorem cl_Keeper_asked_3 {Γ : Prog} [Has Γ ((sl 3978988991308), some (sl 27327674978)) P_Keeper_asked] {n : Nat} {a0 a1 a2 : T} : cl Γ n ((sl 3978988991308), some (sl 27327674978)) [a0, a1, a2] [] = clB Γ n P_Keeper_asked [a0, a1, a2] := cl_via (by kernel_rfl)
theorem cl_Keeper_asked_1_term_reading {Γ : Prog} [Has Γ ((sl 3978988991308), some (sl 27327674978)) P_Keeper_asked] {n : Nat} {a0 k0 k1 : T} : cl Γ n ((sl 3978988991308), some (sl 27327674978)) [a0] [((sl 232584053), k0), ((sl 461239435703155), k1)] = clB Γ n P_Keeper_asked [a0, k1, k0] := cl_via (by kernel_rfl)
/-- Keeper.roused: 0:self 1:reading -/
def P_Keeper_roused : FD := { ps := [(sl 217805684), (sl 461239435703155)], N := [(sl 217805684), (sl 461239435703155)], bd :=
    (.cons (.ifS (.cmp .IsNot (.fld (.var 0) (sl 244938726)) (.cst .non)) (.cons (.asg (.fld (.var 0) (sl 244938726)) (.bin .Add (.var 1) (.fld (.var 0) (sl 31366902126))))
    .nil) .nil)
    .nil) }
theorem cl_Keeper_roused_2 {Γ : Prog} [Has Γ ((sl 3978988991308), some (sl 3497959209075)) P_Keeper_roused] {n : Nat} {a0 a1 : T} : cl Γ n ((sl 3978988991308), some (sl 3497959209075)) [a0, a1] [] = clB Γ n P_Keeper_roused [a0, a1] := cl_via (by kernel_rfl)
theorem cl_Keeper_roused_1_reading {Γ : Prog} [Has Γ ((sl 3978988991308), some (sl 3497959209075)) P_Keeper_roused] {n : Nat} {a0 k0 : T} : cl Γ n ((sl 3978988991308), some (sl 3497959209075)) [a0] [((sl 461239435703155), k0)] = clB Γ n P_Keeper_roused [a0, k0] := cl_via (by kernel_rfl)
/-- Keeper.kept_term: 0:self -/
def P_Keeper_kept_term : FD := { ps := [(sl 217805684)], N := [(sl 217805684)], bd :=
    (.cons (.retE (.fld (.var 0) (sl 232584053)))
    .nil) }
theorem cl_Keeper_kept_term_1 {Γ : Prog} [Has Γ ((sl 3978988991308), some (sl 7991527235666080620)) P_Keeper_kept_term] {n : Nat} {a0 : T} : cl Γ n ((sl 3978988991308), some (sl 7991527235666080620)) [a0] [] = clB Γ n P_Keeper_kept_term [a0] := cl_via (by kernel_rfl)
/-- Keeper.until: 0:self -/
def P_Keeper_until : FD := { ps := [(sl 217805684)], N := [(sl 217805684)], bd :=
    (.cons (.retE (.fld (.var 0) (sl 244938726)))
    .nil) }
theorem cl_Keeper_until_1 {Γ : Prog} [Has Γ ((sl 3978988991308), some (sl 29483694070)) P_Keeper_until] {n : Nat} {a0 : T} : cl Γ n ((sl 3978988991308), some (sl 29483694070)) [a0] [] = clB Γ n P_Keeper_until [a0] := cl_via (by kernel_rfl)
/-- Keeper.granted: 0:self -/
def P_Keeper_granted : FD := { ps := [(sl 217805684)], N := [(sl 217805684)], bd :=
    (.cons (.retE (.bi .list (.cons (.fld (.var 0) (sl 31371096949)) .nil)))
    .nil) }
theorem cl_Keeper_granted_1 {Γ : Prog} [Has Γ ((sl 3978988991308), some (sl 447739032287720)) P_Keeper_granted] {n : Nat} {a0 : T} : cl Γ n ((sl 3978988991308), some (sl 447739032287720)) [a0] [] = clB Γ n P_Keeper_granted [a0] := cl_via (by kernel_rfl)
/-- Keeper.copied: 0:self 1:found -/
def P_Keeper_copied : FD := { ps := [(sl 217805684)], N := [(sl 217805684), (sl 27346712679)], bd :=
    (.cons (.asg (.g (.name 1)) (.new (sl 3978988991308) (.cons (.fld (.var 0) (sl 31352156521)) (.cons (.fld (.var 0) (sl 31366902126)) .nil)) .nil))
    (.cons S.nev
    (.cons (.retE (.var 1))
    .nil))) }
theorem cl_Keeper_copied_1 {Γ : Prog} [Has Γ ((sl 3978988991308), some (sl 3497938155620)) P_Keeper_copied] {n : Nat} {a0 : T} : cl Γ n ((sl 3978988991308), some (sl 3497938155620)) [a0] [] = clB Γ n P_Keeper_copied [a0] := cl_via (by kernel_rfl)
abbrev n_Keeper : Str := sl 3978988991308
abbrev n_hands : Str := sl 31352156521
abbrev n_marks : Str := sl 31366902126
abbrev n_term : Str := sl 232584053
abbrev n_ends : Str := sl 244938726
abbrev n_terms : Str := sl 31371096949
abbrev n_lets_by : Str := sl 539989303456621
abbrev n_hand_by : Str := sl 539989271900521
abbrev K_term_by : Str × Option Str := ((sl 539989290840949), none)
abbrev K_hand_by : Str × Option Str := ((sl 539989271900521), none)
abbrev K_Keeper___init__ : Str × Option Str := ((sl 3978988991308), some (sl 54469456771592288))
abbrev K_Keeper_lets_by : Str × Option Str := ((sl 3978988991308), some (sl 539989303456621))
abbrev K_Keeper_asked : Str × Option Str := ((sl 3978988991308), some (sl 27327674978))
abbrev K_Keeper_roused : Str × Option Str := ((sl 3978988991308), some (sl 3497959209075))
abbrev K_Keeper_kept_term : Str × Option Str := ((sl 3978988991308), some (sl 7991527235666080620))
abbrev K_Keeper_until : Str × Option Str := ((sl 3978988991308), some (sl 29483694070))
abbrev K_Keeper_granted : Str × Option Str := ((sl 3978988991308), some (sl 447739032287720))
abbrev K_Keeper_copied : Str × Option Str := ((sl 3978988991308), some (sl 3497938155620))
local macro_rules | `(tactic| walk_at "rem") => `(tactic| first | with_reducible exact Rem.head | (with_reducible apply Rem.tail; walk_at "rem"))
local macro_rules | `(tactic| walk_at "cond") => `(tactic| first | with_reducible exact Nat.zero_le _ | with_reducible assumption | omega | (simp only [big]; omega) | exact mulOk_l (by omega) | exact mulOk_r (by omega) | exact divOk_of (by omega) (by omega) | exact rngOk_i (by omega) | (simp only [big, List.length_cons, List.length_nil, List.length_map, List.length_append] <;> omega) | (refine ⟨by walk_at "cond", ?_⟩; walk_at "cond") | (refine .inl ?_; walk_at "cond") | (refine .inr ?_; walk_at "cond"))
local macro_rules | `(tactic| walk_at "sub") => `(tactic| first | with_reducible exact Sub.rfl | (with_reducible apply Sub.cons; walk_at "rem"; walk_at "sub") | (with_reducible apply Sub.drop; walk_at "sub"))
local macro_rules | `(tactic| walk_at "nf") => `(tactic| (simp only [List.mem_cons, List.not_mem_nil, sl_inj, Nat.reduceEqDiff, or_self, or_false, not_false_eq_true]))
local macro_rules | `(tactic| walk_at "ev") => `(tactic| simp only [↓w_ev_var1, ↓w_ev_cst2, ↓w_ev_glo3, ↓w_ev_tup4, ↓w_ev_lst5, ↓w_ev_dic6, ↓w_ev_dict07, ↓w_ev_bin8, ↓w_ev_neg9, ↓w_ev_cmp10, ↓w_ev_chain11, ↓w_ev_and212, ↓w_ev_or213, ↓w_ev_not14, ↓w_ev_ite15, ↓w_ev_fld16, ↓w_ev_ix17, ↓w_ev_slc18, ↓w_ev_call19, ↓w_ev_new20, ↓w_ev_meth21, ↓w_ev_bi22, ↓w_ev_bm23, ↓w_ev_isi24, ↓w_ev_lc25, ↓w_ev_lrg126, ↓w_ev_lrg227, ↓w_ev_lockE28, ↓w_ev_nev29, ↓w_evs_nil1, ↓w_evs_cons2, ↓w_evK_nil1, ↓w_evK_cons2, ↓w_evKV_nil1, ↓w_evKV_cons2, ↓w_evP_no1, ↓w_evP_yes2, ↓w_evC_no1, ↓w_evC_yes2, ↓w_evB_cmp1, ↓w_evB_chain2, ↓w_evB_and23, ↓w_evB_or24, ↓w_evB_not5, ↓w_evB_var6, ↓w_evB_cst7, ↓w_evB_glo8, ↓w_evB_fld9, ↓w_evB_ix10, ↓w_evB_call11, ↓w_evB_meth12, ↓w_evB_bi13, ↓w_evB_bm14, ↓w_evB_isi15, ↓w_evI_seq1, ↓w_evI_rng12, ↓w_evI_rng23, ↓w_evI_dkeys4, ↓w_evI_dvals5, ↓w_evI_ditms6, ↓w_evI_enum7, ↓w_evI_zip8, ↓w_ex_asg1, ↓w_ex_aug2, ↓w_ex_aug3, ↓w_ex_expr5, ↓w_ex_retE6, ↓w_ex_ret07, ↓w_ex_ifS8, ↓w_ex_forS9, ↓w_ex_whileS10, ↓w_ex_pass11, ↓w_ex_doc12, ↓w_ex_brk13, ↓w_ex_cont14, ↓w_ex_nev15, ↓w_ex_lockS16, ↓w_exs_nil1, ↓w_exs_cons2, ↓W_bnd, ↓W_bndR, ↓W_ok, ↓W_ret, ↓W_fl, ↓W_fail, ↓W_iteM, ↓W_ite, Wif_t, Wif_f, ↓body_r, getV_app, opt_app, rdH_app, wrH_app, optR_some, optR_none, wrR_none, optR_ite, wrR_ite, obind_ite, omap_ite, optR_map, Option.bind_some, Option.bind_none, Option.map_some, Option.map_none, id_eq, Option.isSome_some, Option.isSome_none, Option.isNone_some, Option.isNone_none,
 asgG_name, asgG_tup, asgG_kt, asgGs_nil, asgGs_cons, asgT_g, asgT_fld, asgT_ix, List.getElem?_cons_zero, List.getElem?_cons_succ, List.set_cons_zero, List.set_cons_succ, List.length_cons, List.length_nil, List.map_cons, List.map_nil, List.replicate_succ, List.replicate_zero, List.cons_append, List.nil_append, List.append_nil, List.zip_cons_cons, List.zip_nil_left, List.zip_nil_right, ksN,
 binOp_int, binI_add, binI_sub, binI_mul, binI_div, binI_mod, binI_pow, cmp_lt, cmp_le, cmp_gt, cmp_ge, cmp_eq, cmp_ne, cmp_is, cmp_isn, cmp_in, cmp_nin, tru_app, truH_bl, truH_int, truH_non, truH_r, truO_lst, truO_rol, ixT_app, ixH_tup, ixH_kt, ixH_ref, ixO_lst, ixO_rol, ixO_dK, keyOf_int, keyOf_str, atV_int, at0, at1, at2, at3, at4, at5, at6,
 eqH_int, eqH_bl, eqH_non, eqH_intnon, eqH_nonint, fldT_r, fldO_ins, mcls_r, mclO_ins, setFld_r, setO_ins, setIx_r, sixO_lst, sixO_dK, lenH_r, lenH_tup, lenH_kt, lenO_lst, lenO_rol, lenO_dK, inH_int_r, inO_ints, walkT_t, walkT_kt, blsOf_map, all_map, any_map, isiH_r, tyOf_r, tyOf_non, tyOf_bl, tyOf_int, tyOf_str, tyOf_tup, tyOf_kt, kdO_lst, kdO_dK, kdO_ins, kdIn_ty, kdIn_i, isiOne_tt, isiOne_tc, isiOne_ct, isiOne_cc, List.any_cons, List.any_nil, walkT_r, lwalk_r, items_lst, items_rol, wlist_lst, wlst_r, lstOf_r, seqOf_r,
 getF_nil, getF_cons, putF_nil, putF_cons, kget_n, kget_c, kput_G, kputG_nil, kputG_cons, addLL_r, mulLI_r, addTT_r, addSS_r, slT_r, slT_t, len_r, abs_r, sum_r, all_r, any_r, list_r, list_t, list_kt, tuple_r, tuple_t, bmK_app, bmK_clr, bmK_pop, bmK_ext, bmK_upd, bmK_get, bmK_dpop, dicO_dK, inO_dK, inH_str_r, inO_dKs, truO_dK, dvT_r, diT_r, dkT_r, dvO_lk, diO_lk, dkO_lk, extend_r, append_r, clear_r, min2_app, max2_app, int_app, intb_app, lrgT_app, atN,
 Phi_call, Phi_okF, Phi_has, Phi_cls, hasM_i, okF_i, sl_inj, initS, decide_eq_true_eq, decide_true, decide_false, Bool.not_true, Bool.not_false, Bool.not_eq_true, Bool.not_eq_eq_eq_not, decide_not, decide_eq_false_iff_not, bne_iff_ne, ne_eq, not_false_eq_true, not_true_eq_false, reduceCtorEq, Sum.inl.injEq, Sum.inr.injEq, T.int.injEq, T.bl.injEq, and_self, and_true, true_and, and_false, false_and, or_true, true_or, or_false, false_or, if_true, if_false, Bool.true_eq_false, Bool.false_eq_true, Bool.or_true, Bool.or_false, Bool.true_or, Bool.false_or, Bool.and_true, Bool.true_and, Bool.and_false, Bool.false_and, beq_ff, eq_self, Nat.le_refl, Int.zero_add, partT, List.isEmpty_cons, List.isEmpty_nil, dicOf_r, dicPut_nil, dicPut_cons, Nat.reduceEqDiff, Nat.reduceSub, Nat.reduceAdd, Nat.reduceMul, Nat.reduceLT, Nat.reduceLeDiff, Int.reduceEq, Int.reduceNe, Int.reduceLT, Int.reduceLE, Int.reduceAdd, Int.reduceSub, Int.reduceMul, Int.reduceToNat, Int.reduceNeg, Int.reduceDiv, Int.reduceMod, Int.reducePow, Nat.zero_add, Nat.sub_self, Nat.reduceBEq, Int.ofNat_eq_natCast, reduceIte, List.length_map, List.length_append, List.length_set, wipeN_nil, wipeN_cons, blsOf_t, all_tt, List.length_replicate, cut1, flat_rep, zipM_rr, zipM_tt, mulTI_r, slT_s, dkO1_dK, listD_r, dictD_r, sorted_r, str_i, str_s, bmK_dclr, bmK_join, cmp_le2, cmp_lt2, ixT_s, ixO_lkK, ↓w_ev_olen, ↓w_ev_oeq, ↓w_evB_oeq, bin_shl, bin_shr, bin_and, upper_s, strip_s, index_s, bmK_upper, bmK_strip, bmK_index, bmK_popi, ↓w_ev_lzip, ↓w_ev_lc2, ↓w_evI_zipS, ↓w_ex_asgM, ↓w_ex_forM, gsLen_nil, gsLen_cons, asgM_g, asgM_pair, asgM_star, asgM_starK, zipU_tt, zipM_kt, List.take_succ_cons, List.drop_succ_cons, List.take_zero, List.drop_zero, ↓w_evI_sgn, ↓w_evI_zipN, gdOk_nil, zipT_nil, zipT_nil2, zipT_cons, blsOf_nil, blsOf_cons, List.all_cons, List.all_nil, w_ev_maxd, w_ev_revE
, addT0_n, cl_Keeper_asked_1_term_reading, cl_Keeper_asked_3, cl_Keeper_copied_1, cl_Keeper_granted_1, cl_Keeper_init_1_keeps_hands, cl_Keeper_init_3, cl_Keeper_kept_term_1, cl_Keeper_lets_by_3, cl_Keeper_roused_1_reading, cl_Keeper_roused_2, cl_Keeper_until_1, cl_hand_by_0_term_hands, cl_hand_by_2, cl_term_by_0_count_hand_hands, cl_term_by_0_count_hands_hand, cl_term_by_3, (‹Sat _ _›).facts])
local macro_rules | `(tactic| walk_at "H") => `(tactic| exact (‹Sat _ _›).sub (by walk_at "sub"))
local macro_rules | `(tactic| walk_at "call") => `(tactic| fail)
local macro_rules | `(tactic| walk_at "st") => `(tactic| first | walk_at "ev" | (with_reducible refine W_neu (by assumption) ?_; intro _ _ _) | (with_reducible apply W_wr; assumption; walk_at "rem"; intro _ _) | walk_at "call" | (with_reducible apply W_pos; walk_at "cond") | (with_reducible apply W_neg; walk_at "cond"))
local macro_rules | `(tactic| walk_at "go") => `(tactic| repeat walk_at "st")
/-- a keeper: how many hands, its marks, the term kept, until when, all terms granted -/
structure KS where
  hands : Int
  marks : Int
  term : Int
  ends : Option Int
  terms : List Int
@[reducible] def oT : Option Int → T
  | none => .non
  | some i => .int i
theorem oT_none : oT none = .non := (rfl)
theorem oT_some {i : Int} : oT (some i) = .int i := (rfl)
abbrev keF (hn mk tm : Int) (en : T) (l : Nat) : List (Str × T) := [(n_hands, .int hn), (n_marks, .int mk), (n_term, .int tm), (n_ends, en), (n_terms, .ref l)]
abbrev keQ (l : Nat) (s : KS) (k : Nat) : List HP := [.one l (.ins n_Keeper (keF s.hands s.marks s.term (oT s.ends) k)), .one k (.lst (s.terms.map T.int))]
def keP (l : Nat) (s : KS) : Fr → Prop := fun f => ∃ k, True ∧ OnL (keQ l s k) f
theorem ke_opn {h : LH} {l : Nat} {s : KS} {Ps R : List HP} (H : Sat h Ps) (r : Rem Ps (.abs (keP l s)) R) : ∃ k, Sat h (.one l (.ins n_Keeper (keF s.hands s.marks s.term (oT s.ends) k)) :: .one k (.lst (s.terms.map T.int)) :: R) := by
  obtain ⟨k, _, H⟩ := (H.rem r).opn (Qs := keQ l s) (φ := fun _ => True)
  exact ⟨k, H⟩
theorem ke_cls {h : LH} {l k : Nat} {hn mk tm : Int} {en : Option Int} {ts : List Int} {R : List HP} (H : Sat h (.one l (.ins n_Keeper (keF hn mk tm (oT en) k)) :: .one k (.lst (ts.map T.int)) :: R)) : Sat h (.abs (keP l ⟨hn, mk, tm, en, ts⟩) :: R) :=
  Sat.cls (Qs := keQ l ⟨hn, mk, tm, en, ts⟩) (φ := fun _ => True) k trivial H
theorem keP_c {l : Nat} {s : KS} : IsC l n_Keeper [n_hands, n_marks, n_term, n_ends, n_terms] (keP l s) := fun f ⟨k, _, g, r, e, a, b⟩ => by
  have a' : g = _ := a
  subst a'; subst e
  exact ⟨_, List.mem_append_left _ (List.mem_singleton.mpr rfl), rfl⟩
section
variable {Γ : Prog} {n l : Nat} {s : KS} {h : LH} {Q : T → LH → Prop} {X : Ex → LH → Prop} {t : WT Q X} {Ps R : List HP}
theorem kept_s (H : Sat h Ps) (r : Rem Ps (.abs (keP l s)) R) (q : Q (.int s.term) h) : W (clB Γ (n + 1) P_Keeper_kept_term [.ref l] h) Q X t := by
  obtain ⟨k, H⟩ := ke_opn H r
  rw [clB_body]; simp only [P_Keeper_kept_term]
  walk_at "go"
  exact q
theorem until_s (H : Sat h Ps) (r : Rem Ps (.abs (keP l s)) R) (q : Q (oT s.ends) h) : W (clB Γ (n + 1) P_Keeper_until [.ref l] h) Q X t := by
  obtain ⟨k, H⟩ := ke_opn H r
  rw [clB_body]; simp only [P_Keeper_until]
  walk_at "go"
  exact q
theorem granted_s (H : Sat h Ps) (r : Rem Ps (.abs (keP l s)) R) (q : ∀ m h', Sat h' (.one m (.lst (s.terms.map T.int)) :: Ps) → Q (.ref m) h') : W (clB Γ (n + 1) P_Keeper_granted [.ref l] h) Q X t := by
  have H0 := H
  obtain ⟨k, H1⟩ := ke_opn H r
  rw [clB_body]; simp only [P_Keeper_granted]
  walk_at "ev"
  refine W_neu H0 ?_
  intro m h' H2
  walk_at "go"
  exact q m h' H2
theorem hand_s {hn m : Int} (p : 0 < hn) (q : Q (.int (m % hn)) h) : W (clB Γ (n + 1) P_hand_by [.int hn, .int m] h) Q X t := by
  have H : Sat h [] := ⟨[], rfl, by simp [Frs]⟩
  rw [clB_body]; simp only [P_hand_by]
  walk_at "go"
  exact q
theorem term_s {hn m k : Int} (p : -(2 ^ 64) < hn ∧ hn < 2 ^ 64) (q : Q (.int (hn * k + m)) h) : W (clB Γ (n + 1) P_term_by [.int hn, .int m, .int k] h) Q X t := by
  have H : Sat h [] := ⟨[], rfl, by simp [Frs]⟩
  rw [clB_body]; simp only [P_term_by]
  walk_at "go"
  exact q
theorem keeper_s [HasF Γ n_Keeper n_hands] [HasF Γ n_Keeper n_marks] [HasF Γ n_Keeper n_term] [HasF Γ n_Keeper n_ends] [HasF Γ n_Keeper n_terms] {hn mk : Int} (H : Sat h Ps) (r : Rem Ps (.one l (.ins n_Keeper [])) R) (q : ∀ h', Sat h' (.abs (keP l ⟨hn, mk, 0, none, []⟩) :: R) → Q .non h') : W (clB Γ (n + 1) P_Keeper___init__ [.ref l, .int hn, .int mk] h) Q X t := by
  replace H := H.rem r
  rw [clB_body]; simp only [P_Keeper___init__]
  walk_at "go"
  exact q _ (ke_cls (en := none) (ts := []) (by assumption))
def KS.lets (s : KS) (rd m : Int) : Bool := decide (s.term ≤ m) && (match s.ends with
  | none => true
  | some u => decide (u ≤ rd) || decide (m % s.hands = s.term % s.hands))
local macro_rules | `(tactic| walk_at "call") => `(tactic| first | (with_reducible apply hand_s; walk_at "cond"))
theorem lets_s [Has Γ K_hand_by P_hand_by] {rd m : Int} (p : 0 < s.hands) (H : Sat h Ps) (r : Rem Ps (.abs (keP l s)) R) (q : Q (.bl (s.lets rd m)) h) : W (clB Γ (n + 2) P_Keeper_lets_by [.ref l, .int rd, .int m] h) Q X t := by
  obtain ⟨k, H⟩ := ke_opn H r
  obtain ⟨hn, mk, tm, en, ts⟩ := s
  simp only [KS.lets] at *
  rw [clB_body]; simp only [P_Keeper_lets_by]
  walk_at "go"
  refine W_or (fun c => ?_) (fun c => ?_)
  · walk_at "go"
    have : ¬ tm ≤ m := by omega
    simpa [this] using q
  · have c2 : tm ≤ m := by omega
    simp only [c2, decide_true, Bool.true_and] at q
    cases en with
    | none =>
      try simp only [oT_none] at *
      walk_at "go"
      exact q
    | some u =>
      try simp only [oT_some] at *
      walk_at "go"
      refine W_or (fun c => ?_) (fun c => ?_)
      · walk_at "go"
        simpa [c] using q
      · walk_at "go"
        simpa [c] using q
local macro_rules | `(tactic| walk_at "call") => `(tactic| first | (with_reducible apply lets_s; walk_at "cond"; assumption; walk_at "rem") | (with_reducible apply (W_mc (ic := keP_c)); assumption; walk_at "rem"; walk_at "nf"))
/-- asked: whether it was granted, and what stands behind it -/
def KS.asked (s : KS) (rd m : Int) : KS := if s.lets rd m = true then { s with term := m, ends := some (rd + s.marks), terms := s.terms ++ [m] } else s
theorem asked_s [Has Γ K_hand_by P_hand_by] [Has Γ K_Keeper_lets_by P_Keeper_lets_by] [HasF Γ n_Keeper n_term] [HasF Γ n_Keeper n_ends] {rd m : Int} (p : 0 < s.hands) (b : s.terms.length < big) (H : Sat h Ps) (r : Rem Ps (.abs (keP l s)) R) (q : ∀ h', Sat h' (.abs (keP l (s.asked rd m)) :: R) → Q (.bl (s.lets rd m)) h') : W (clB Γ (n + 3) P_Keeper_asked [.ref l, .int rd, .int m] h) Q X t := by
  replace H := H.rem r
  rw [clB_body]; simp only [P_Keeper_asked]
  walk_at "go"
  obtain ⟨k, H1⟩ := ke_opn H .head
  refine W_or (fun c => ?_) (fun c => ?_)
  · walk_at "go"
    simp only [KS.asked, c] at q
    exact q _ H
  · walk_at "go"
    simp only [KS.asked, c, if_true] at q
    exact q _ (ke_cls (en := some _) (ts := s.terms ++ [m]) (by simpa using (‹Sat _ _›).swap))
def KS.roused (s : KS) (rd : Int) : KS := match s.ends with
  | none => s
  | some _ => { s with ends := some (rd + s.marks) }
theorem roused_s [HasF Γ n_Keeper n_ends] {rd : Int} (H : Sat h Ps) (r : Rem Ps (.abs (keP l s)) R) (q : ∀ h', Sat h' (.abs (keP l (s.roused rd)) :: R) → Q .non h') : W (clB Γ (n + 1) P_Keeper_roused [.ref l, .int rd] h) Q X t := by
  replace H := H.rem r
  rw [clB_body]; simp only [P_Keeper_roused]
  obtain ⟨hn, mk, tm, en, ts⟩ := s
  obtain ⟨k, H1⟩ := ke_opn H .head
  cases en with
  | none =>
    try simp only [oT_none] at *
    walk_at "go"
    exact q _ H
  | some u =>
    try simp only [oT_some] at *
    walk_at "go"
    exact q _ (ke_cls (en := some _) (by assumption))
end
theorem KS.asked_len {s : KS} {rd m : Int} : (s.asked rd m).terms.length ≤ s.terms.length + 1 := by
  unfold KS.asked
  split <;> simp
theorem KS.asked_h {s : KS} {rd m : Int} : (s.asked rd m).hands = s.hands := by
  unfold KS.asked
  split <;> rfl
theorem KS.asked_m {s : KS} {rd m : Int} : (s.asked rd m).marks = s.marks := by
  unfold KS.asked
  split <;> rfl
end Y

namespace Y
open PySem
/-- _law_take: 0:_law_box_here 1:_law_many 2:_law_one 3:_law_digit -/
def P__law_take : FD := { ps := [(sl 1990466642053554134062773984), (sl 8853948731609364192)], N := [(sl 1990466642053554134062773984), (sl 8853948731609364192), (sl 57912952725485280), (sl 1086831649764471781088)], bd :=
    (.cons (.ifS (.cmp .Gt (.ix (.var 0) (.cst (.int 0))) (.cst (.int 0))) (.cons (.asg (.g (.name 3)) (.bin .Mod (.ix (.var 0) (.cst (.int 0))) (.var 1)))
    (.cons (.asg (.ix (.var 0) (.cst (.int 0))) (.bin .FloorDiv (.ix (.var 0) (.cst (.int 0))) (.var 1)))
    (.cons (.retE (.var 3))
    .nil))) .nil)
    (.cons (.asg (.ix (.var 0) (.cst (.int 2))) (.bin .Add (.ix (.var 0) (.cst (.int 2))) (.cst (.int 1))))
    (.cons (.asg (.g (.name 2)) (.bin .Mod (.bin .Mult (.bin .Add (.ix (.var 0) (.cst (.int 1))) (.bin .Mult (.cst (.int 104729)) (.ix (.var 0) (.cst (.int 2))))) (.cst (.int 69623))) (.cst (.int 2147483647))))
    (.cons (.asg (.ix (.var 0) (.cst (.int 1))) (.bin .Add (.bin .Mod (.bin .Add (.bin .Mult (.var 2) (.cst (.int 48271))) (.cst (.int 30103))) (.cst (.int 2147483629))) (.cst (.int 1))))
    (.cons (.retE (.bin .Mod (.bin .FloorDiv (.bin .Add (.bin .Mult (.var 2) (.cst (.int 2147483647))) (.ix (.var 0) (.cst (.int 1)))) (.cst (.int 8191))) (.var 1)))
    .nil))))) }
theorem cl__law_take_2 {Γ : Prog} [Has Γ ((sl 7411108241508710112), none) P__law_take] {n : Nat} {a0 a1 : T} : cl Γ n ((sl 7411108241508710112), none) [a0, a1] [] = clB Γ n P__law_take [a0, a1] := cl_via (by kernel_rfl)
/-- _law_box: 0:_law_script 1:_law_k 2:_law_cell 3:_law_seed -/
def P__law_box : FD := { ps := [(sl 139179163952130779821792), (sl 3736874825440)], N := [(sl 139179163952130779821792), (sl 3736874825440), (sl 7916091357798119136), (sl 7335690505576560352)], bd :=
    (.cons (.asg (.g (.name 2)) (.bin .Add (.bin .Mult (.cst (.int 7919)) (.var 1)) (.cst (.int 11))))
    (.cons (.ifS (.cmp .Lt (.var 1) (.bi .len (.cons (.var 0) .nil))) (.cons (.asg (.g (.name 2)) (.ix (.var 0) (.var 1)))
    .nil) (.cons (.ifS (.cmp .Gt (.bi .len (.cons (.var 0) .nil)) (.cst (.int 0))) (.cons (.asg (.g (.name 2)) (.bin .Add (.var 2) (.bin .Mult (.bin .Mod (.ix (.var 0) (.bin .Mod (.var 1) (.bi .len (.cons (.var 0) .nil)))) (.cst (.int 2147483629))) (.cst (.int 69623)))))
    .nil) .nil)
    .nil))
    (.cons (.asg (.g (.name 3)) (.bin .Add (.bin .Mod (.bin .Add (.bin .Mult (.bin .Mod (.var 2) (.cst (.int 2147483629))) (.cst (.int 48271))) (.bin .Mult (.cst (.int 40692)) (.var 1))) (.cst (.int 2147483629))) (.cst (.int 1))))
    (.cons (.retE (.lst (.cons (.ix (.lst (.cons (.cst (.int 0)) (.cons (.var 2) .nil))) (.bi .int (.cons (.cmp .GtE (.var 2) (.bin .Pow (.cst (.int 10)) (.cst (.int 18)))) .nil))) (.cons (.var 3) (.cons (.cst (.int 0)) .nil)))))
    .nil)))) }
theorem cl__law_box_2 {Γ : Prog} [Has Γ ((sl 68612953210402528), none) P__law_box] {n : Nat} {a0 a1 : T} : cl Γ n ((sl 68612953210402528), none) [a0, a1] [] = clB Γ n P__law_box [a0, a1] := cl_via (by kernel_rfl)
/-- _law_box: 0:_law_script 1:_law_k 2:_law_cell 3:_law_seed -/
def P__law_box_v2 : FD := { ps := [(sl 139179163952130779821792), (sl 3736874825440)], N := [(sl 139179163952130779821792), (sl 3736874825440), (sl 7916091357798119136), (sl 7335690505576560352)], bd :=
    (.cons (.asg (.g (.name 2)) (.bin .Add (.bin .Mult (.cst (.int 6421)) (.var 1)) (.cst (.int 17))))
    (.cons (.ifS (.cmp .Lt (.var 1) (.bi .len (.cons (.var 0) .nil))) (.cons (.asg (.g (.name 2)) (.ix (.var 0) (.var 1)))
    .nil) (.cons (.ifS (.cmp .Gt (.bi .len (.cons (.var 0) .nil)) (.cst (.int 0))) (.cons (.asg (.g (.name 2)) (.bin .Add (.var 2) (.bin .Mult (.bin .Mod (.ix (.var 0) (.bin .Mod (.var 1) (.bi .len (.cons (.var 0) .nil)))) (.cst (.int 2147483629))) (.cst (.int 69623)))))
    .nil) .nil)
    .nil))
    (.cons (.asg (.g (.name 3)) (.bin .Add (.bin .Mod (.bin .Add (.bin .Mult (.bin .Mod (.var 2) (.cst (.int 2147483629))) (.cst (.int 48271))) (.bin .Mult (.cst (.int 40692)) (.var 1))) (.cst (.int 2147483629))) (.cst (.int 1))))
    (.cons (.retE (.lst (.cons (.ix (.lst (.cons (.cst (.int 0)) (.cons (.var 2) .nil))) (.bi .int (.cons (.cmp .GtE (.var 2) (.bin .Pow (.cst (.int 10)) (.cst (.int 18)))) .nil))) (.cons (.var 3) (.cons (.cst (.int 0)) .nil)))))
    .nil)))) }
theorem cl_v2__law_box_2 {Γ : Prog} [Has Γ ((sl 68612953210402528), none) P__law_box_v2] {n : Nat} {a0 a1 : T} : cl Γ n ((sl 68612953210402528), none) [a0, a1] [] = clB Γ n P__law_box_v2 [a0, a1] := cl_via (by kernel_rfl)
/-- _law_box: 0:_law_script 1:_law_k 2:_law_whole_cell 3:_law_seed -/
def P__law_box_v3 : FD := { ps := [(sl 139179163952130779821792), (sl 3736874825440)], N := [(sl 139179163952130779821792), (sl 3736874825440), (sl 34815337977579317679110640678624), (sl 7335690505576560352)], bd :=
    (.cons (.asg (.g (.name 2)) (.bin .Add (.bin .Mult (.cst (.int 7919)) (.var 1)) (.cst (.int 11))))
    (.cons (.ifS (.cmp .Lt (.var 1) (.bi .len (.cons (.var 0) .nil))) (.cons (.asg (.g (.name 2)) (.ix (.var 0) (.var 1)))
    .nil) (.cons (.ifS (.cmp .Gt (.bi .len (.cons (.var 0) .nil)) (.cst (.int 0))) (.cons (.asg (.g (.name 2)) (.bin .Add (.var 2) (.bin .Mult (.bin .Mod (.ix (.var 0) (.bin .Mod (.var 1) (.bi .len (.cons (.var 0) .nil)))) (.cst (.int 2147483629))) (.cst (.int 69623)))))
    .nil) .nil)
    .nil))
    (.cons (.asg (.g (.name 3)) (.bin .Add (.bin .Mod (.bin .Add (.bin .Mult (.bin .Mod (.var 2) (.cst (.int 2147483629))) (.cst (.int 48271))) (.bin .Mult (.cst (.int 40692)) (.var 1))) (.cst (.int 2147483629))) (.cst (.int 1))))
    (.cons (.retE (.lst (.cons (.ix (.lst (.cons (.cst (.int 0)) (.cons (.var 2) .nil))) (.bi .int (.cons (.cmp .GtE (.var 2) (.bin .Pow (.cst (.int 10)) (.cst (.int 18)))) .nil))) (.cons (.var 3) (.cons (.cst (.int 0)) .nil)))))
    .nil)))) }
theorem cl_v3__law_box_2 {Γ : Prog} [Has Γ ((sl 68612953210402528), none) P__law_box_v3] {n : Nat} {a0 a1 : T} : cl Γ n ((sl 68612953210402528), none) [a0, a1] [] = clB Γ n P__law_box_v3 [a0, a1] := cl_via (by kernel_rfl)
/-- _law_alike: 0:_law_found 1:_law_due 2:_law_key 3:_law_one 4:_law_other -/
def P__law_alike : FD := { ps := [(sl 939625892901331449568), (sl 57943361093940960)], N := [(sl 939625892901331449568), (sl 57943361093940960), (sl 69132231936358112), (sl 57912952725485280), (sl 1068097287021032683232)], bd :=
    (.cons (.ifS (.isi (.var 1) [.ty .tuple, .ty .list] true) (.cons (.ifS (.or2 (.cmp .NotEq (.isi (.var 0) [.ty .tuple] false) (.isi (.var 1) [.ty .tuple] false)) (.cmp .NotEq (.isi (.var 0) [.ty .list] false) (.isi (.var 1) [.ty .list] false))) (.cons (.retE (.cst (.bl false)))
    .nil) .nil)
    (.cons (.retE (.and2 (.cmp .Eq (.bi .len (.cons (.var 0) .nil)) (.bi .len (.cons (.var 1) .nil))) (.bi .all (.cons (.lc (.tup (.cons (.name 3) (.cons (.name 4) .nil))) (.zip (.var 0) (.var 1)) .no (.call (sl 948626323390693160672) (.cons (.var 3) (.cons (.var 4) .nil)) .nil) [((sl 57912952725485280), 3), ((sl 1068097287021032683232), 4)]) .nil))))
    .nil)) .nil)
    (.cons (.ifS (.isi (.var 1) [.ty .dict] false) (.cons (.ifS (.or2 (.not (.isi (.var 0) [.ty .dict] false)) (.cmp .NotEq (.bi .sorted (.cons (.bi .listD (.cons (.var 0) .nil)) .nil)) (.bi .sorted (.cons (.bi .listD (.cons (.var 1) .nil)) .nil)))) (.cons (.retE (.cst (.bl false)))
    .nil) .nil)
    (.cons (.retE (.bi .all (.cons (.lockE (.var 1) (.lc (.name 2) (.dkeys false (.var 1)) .no (.call (sl 948626323390693160672) (.cons (.ix (.var 0) (.var 2)) (.cons (.ix (.var 1) (.var 2)) .nil)) .nil) [((sl 69132231936358112), 2)])) .nil)))
    .nil)) .nil)
    (.cons (.ifS (.or2 (.cmp .NotEq (.isi (.var 0) [.ty .bool] false) (.isi (.var 1) [.ty .bool] false)) (.cmp .NotEq (.isi (.var 0) [.ty .str] false) (.isi (.var 1) [.ty .str] false))) (.cons (.retE (.cst (.bl false)))
    .nil) .nil)
    (.cons (.retE (.and2 (.not (.isi (.var 0) [.ty .tuple, .ty .list, .ty .dict] true)) (.cmp .Eq (.var 0) (.var 1))))
    .nil)))) }
theorem cl__law_alike_2 {Γ : Prog} [Has Γ ((sl 948626323390693160672), none) P__law_alike] {n : Nat} {a0 a1 : T} : cl Γ n ((sl 948626323390693160672), none) [a0, a1] [] = clB Γ n P__law_alike [a0, a1] := cl_via (by kernel_rfl)
abbrev K__law_take : Str × Option Str := ((sl 7411108241508710112), none)
abbrev K__law_box : Str × Option Str := ((sl 68612953210402528), none)
abbrev K__law_box_v2 : Str × Option Str := ((sl 68612953210402528), none)
abbrev K__law_box_v3 : Str × Option Str := ((sl 68612953210402528), none)
abbrev K__law_alike : Str × Option Str := ((sl 948626323390693160672), none)
local macro_rules | `(tactic| walk_at "rem") => `(tactic| first | with_reducible exact Rem.head | (with_reducible apply Rem.tail; walk_at "rem"))
local macro_rules | `(tactic| walk_at "cond") => `(tactic| first | with_reducible exact Nat.zero_le _ | with_reducible assumption | omega | (simp only [big]; omega) | exact mulOk_l (by omega) | exact mulOk_r (by omega) | exact divOk_of (by omega) (by omega) | exact rngOk_i (by omega) | (simp only [big, List.length_cons, List.length_nil, List.length_map, List.length_append] <;> omega) | (refine ⟨by walk_at "cond", ?_⟩; walk_at "cond") | (refine .inl ?_; walk_at "cond") | (refine .inr ?_; walk_at "cond"))
local macro_rules | `(tactic| walk_at "sub") => `(tactic| first | with_reducible exact Sub.rfl | (with_reducible apply Sub.cons; walk_at "rem"; walk_at "sub") | (with_reducible apply Sub.drop; walk_at "sub"))
local macro_rules | `(tactic| walk_at "nf") => `(tactic| (simp only [List.mem_cons, List.not_mem_nil, sl_inj, Nat.reduceEqDiff, or_self, or_false, not_false_eq_true]))
local macro_rules | `(tactic| walk_at "ev") => `(tactic| simp only [↓w_ev_var1, ↓w_ev_cst2, ↓w_ev_glo3, ↓w_ev_tup4, ↓w_ev_lst5, ↓w_ev_dic6, ↓w_ev_dict07, ↓w_ev_bin8, ↓w_ev_neg9, ↓w_ev_cmp10, ↓w_ev_chain11, ↓w_ev_and212, ↓w_ev_or213, ↓w_ev_not14, ↓w_ev_ite15, ↓w_ev_fld16, ↓w_ev_ix17, ↓w_ev_slc18, ↓w_ev_call19, ↓w_ev_new20, ↓w_ev_meth21, ↓w_ev_bi22, ↓w_ev_bm23, ↓w_ev_isi24, ↓w_ev_lc25, ↓w_ev_lrg126, ↓w_ev_lrg227, ↓w_ev_lockE28, ↓w_ev_nev29, ↓w_evs_nil1, ↓w_evs_cons2, ↓w_evK_nil1, ↓w_evK_cons2, ↓w_evKV_nil1, ↓w_evKV_cons2, ↓w_evP_no1, ↓w_evP_yes2, ↓w_evC_no1, ↓w_evC_yes2, ↓w_evB_cmp1, ↓w_evB_chain2, ↓w_evB_and23, ↓w_evB_or24, ↓w_evB_not5, ↓w_evB_var6, ↓w_evB_cst7, ↓w_evB_glo8, ↓w_evB_fld9, ↓w_evB_ix10, ↓w_evB_call11, ↓w_evB_meth12, ↓w_evB_bi13, ↓w_evB_bm14, ↓w_evB_isi15, ↓w_evI_seq1, ↓w_evI_rng12, ↓w_evI_rng23, ↓w_evI_dkeys4, ↓w_evI_dvals5, ↓w_evI_ditms6, ↓w_evI_enum7, ↓w_evI_zip8, ↓w_ex_asg1, ↓w_ex_aug2, ↓w_ex_aug3, ↓w_ex_expr5, ↓w_ex_retE6, ↓w_ex_ret07, ↓w_ex_ifS8, ↓w_ex_forS9, ↓w_ex_whileS10, ↓w_ex_pass11, ↓w_ex_doc12, ↓w_ex_brk13, ↓w_ex_cont14, ↓w_ex_nev15, ↓w_ex_lockS16, ↓w_exs_nil1, ↓w_exs_cons2, ↓W_bnd, ↓W_bndR, ↓W_ok, ↓W_ret, ↓W_fl, ↓W_fail, ↓W_iteM, ↓W_ite, Wif_t, Wif_f, ↓body_r, getV_app, opt_app, rdH_app, wrH_app, optR_some, optR_none, wrR_none, optR_ite, wrR_ite, obind_ite, omap_ite, optR_map, Option.bind_some, Option.bind_none, Option.map_some, Option.map_none, id_eq, Option.isSome_some, Option.isSome_none, Option.isNone_some, Option.isNone_none,
 asgG_name, asgG_tup, asgG_kt, asgGs_nil, asgGs_cons, asgT_g, asgT_fld, asgT_ix, List.getElem?_cons_zero, List.getElem?_cons_succ, List.set_cons_zero, List.set_cons_succ, List.length_cons, List.length_nil, List.map_cons, List.map_nil, List.replicate_succ, List.replicate_zero, List.cons_append, List.nil_append, List.append_nil, List.zip_cons_cons, List.zip_nil_left, List.zip_nil_right, ksN,
 binOp_int, binI_add, binI_sub, binI_mul, binI_div, binI_mod, binI_pow, cmp_lt, cmp_le, cmp_gt, cmp_ge, cmp_eq, cmp_ne, cmp_is, cmp_isn, cmp_in, cmp_nin, tru_app, truH_bl, truH_int, truH_non, truH_r, truO_lst, truO_rol, ixT_app, ixH_tup, ixH_kt, ixH_ref, ixO_lst, ixO_rol, ixO_dK, keyOf_int, keyOf_str, atV_int, at0, at1, at2, at3, at4, at5, at6,
 eqH_int, eqH_bl, eqH_non, eqH_intnon, eqH_nonint, fldT_r, fldO_ins, mcls_r, mclO_ins, setFld_r, setO_ins, setIx_r, sixO_lst, sixO_dK, lenH_r, lenH_tup, lenH_kt, lenO_lst, lenO_rol, lenO_dK, inH_int_r, inO_ints, walkT_t, walkT_kt, blsOf_map, all_map, any_map, isiH_r, tyOf_r, tyOf_non, tyOf_bl, tyOf_int, tyOf_str, tyOf_tup, tyOf_kt, kdO_lst, kdO_dK, kdO_ins, kdIn_ty, kdIn_i, isiOne_tt, isiOne_tc, isiOne_ct, isiOne_cc, List.any_cons, List.any_nil, walkT_r, lwalk_r, items_lst, items_rol, wlist_lst, wlst_r, lstOf_r, seqOf_r,
 getF_nil, getF_cons, putF_nil, putF_cons, kget_n, kget_c, kput_G, kputG_nil, kputG_cons, addLL_r, mulLI_r, addTT_r, addSS_r, slT_r, slT_t, len_r, abs_r, sum_r, all_r, any_r, list_r, list_t, list_kt, tuple_r, tuple_t, bmK_app, bmK_clr, bmK_pop, bmK_ext, bmK_upd, bmK_get, bmK_dpop, dicO_dK, inO_dK, inH_str_r, inO_dKs, truO_dK, dvT_r, diT_r, dkT_r, dvO_lk, diO_lk, dkO_lk, extend_r, append_r, clear_r, min2_app, max2_app, int_app, intb_app, lrgT_app, atN,
 Phi_call, Phi_okF, Phi_has, Phi_cls, hasM_i, okF_i, sl_inj, initS, decide_eq_true_eq, decide_true, decide_false, Bool.not_true, Bool.not_false, Bool.not_eq_true, Bool.not_eq_eq_eq_not, decide_not, decide_eq_false_iff_not, bne_iff_ne, ne_eq, not_false_eq_true, not_true_eq_false, reduceCtorEq, Sum.inl.injEq, Sum.inr.injEq, T.int.injEq, T.bl.injEq, and_self, and_true, true_and, and_false, false_and, or_true, true_or, or_false, false_or, if_true, if_false, Bool.true_eq_false, Bool.false_eq_true, Bool.or_true, Bool.or_false, Bool.true_or, Bool.false_or, Bool.and_true, Bool.true_and, Bool.and_false, Bool.false_and, beq_ff, eq_self, Nat.le_refl, Int.zero_add, partT, List.isEmpty_cons, List.isEmpty_nil, dicOf_r, dicPut_nil, dicPut_cons, Nat.reduceEqDiff, Nat.reduceSub, Nat.reduceAdd, Nat.reduceMul, Nat.reduceLT, Nat.reduceLeDiff, Int.reduceEq, Int.reduceNe, Int.reduceLT, Int.reduceLE, Int.reduceAdd, Int.reduceSub, Int.reduceMul, Int.reduceToNat, Int.reduceNeg, Int.reduceDiv, Int.reduceMod, Int.reducePow, Nat.zero_add, Nat.sub_self, Nat.reduceBEq, Int.ofNat_eq_natCast, reduceIte, List.length_map, List.length_append, List.length_set, wipeN_nil, wipeN_cons, blsOf_t, all_tt, List.length_replicate, cut1, flat_rep, zipM_rr, zipM_tt, mulTI_r, slT_s, dkO1_dK, listD_r, dictD_r, sorted_r, str_i, str_s, bmK_dclr, bmK_join, cmp_le2, cmp_lt2, ixT_s, ixO_lkK, ↓w_ev_olen, ↓w_ev_oeq, ↓w_evB_oeq, bin_shl, bin_shr, bin_and, upper_s, strip_s, index_s, bmK_upper, bmK_strip, bmK_index, bmK_popi, ↓w_ev_lzip, ↓w_ev_lc2, ↓w_evI_zipS, ↓w_ex_asgM, ↓w_ex_forM, gsLen_nil, gsLen_cons, asgM_g, asgM_pair, asgM_star, asgM_starK, zipU_tt, zipM_kt, List.take_succ_cons, List.drop_succ_cons, List.take_zero, List.drop_zero, ↓w_evI_sgn, ↓w_evI_zipN, gdOk_nil, zipT_nil, zipT_nil2, zipT_cons, blsOf_nil, blsOf_cons, List.all_cons, List.all_nil, w_ev_maxd, w_ev_revE
, addT0_n, cl_Keeper_asked_1_term_reading, cl_Keeper_asked_3, cl_Keeper_copied_1, cl_Keeper_granted_1, cl_Keeper_init_1_keeps_hands, cl_Keeper_init_3, cl_Keeper_kept_term_1, cl_Keeper_lets_by_3, cl_Keeper_roused_1_reading, cl_Keeper_roused_2, cl_Keeper_until_1, cl__law_alike_2, cl__law_box_2, cl__law_take_2, cl_hand_by_0_term_hands, cl_hand_by_2, cl_term_by_0_count_hand_hands, cl_term_by_0_count_hands_hand, cl_term_by_3, cl_v2__law_box_2, cl_v3__law_box_2, (‹Sat _ _›).facts])
local macro_rules | `(tactic| walk_at "H") => `(tactic| exact (‹Sat _ _›).sub (by walk_at "sub"))
local macro_rules | `(tactic| walk_at "call") => `(tactic| fail)
local macro_rules | `(tactic| walk_at "st") => `(tactic| first | walk_at "ev" | (with_reducible refine W_neu (by assumption) ?_; intro _ _ _) | (with_reducible apply W_wr; assumption; walk_at "rem"; intro _ _) | walk_at "call" | (with_reducible apply W_pos; walk_at "cond") | (with_reducible apply W_neg; walk_at "cond"))
local macro_rules | `(tactic| walk_at "go") => `(tactic| repeat walk_at "st")
/-! the draws -/
theorem take_is : P__law_take = TAKE := rfl
abbrev bxQ (b : Nat) (p : Int × Int × Int) : List HP := [.one b (.lst [.int p.1, .int p.2.1, .int p.2.2])]
def bx (b : Nat) : Fr → Prop := fun f => ∃ p, True ∧ OnL (bxQ b p) f
section
variable {Γ : Prog} {n l b : Nat} {h : LH} {Q : T → LH → Prop} {X : Ex → LH → Prop} {t : WT Q X} {Ps R : List HP}
theorem take_s {m : Int} (H : Sat h Ps) (r : Rem Ps (.abs (bx b)) R) (m0 : 0 < m) (m1 : m < 2 ^ 64) (q : ∀ i h', 0 ≤ i → i < m → Sat h' Ps → Q (.int i) h') : W (clB Γ (n + 1) P__law_take [.ref b, .int m] h) Q X t := by
  obtain ⟨p, _, H1⟩ := (H.rem r).opn (Qs := bxQ b) (φ := fun _ => True)
  have l2 : m.natAbs.log2 < 9000 := by
    have : m.natAbs < 2 ^ 64 := by omega
    have := (Nat.log2_lt (n := m.natAbs) (k := 64) (by omega)).mpr this
    omega
  obtain ⟨i, a, s, c, e, h1, h2⟩ := take_ok (Γ := Γ) (n := n) (b := b) (h := h) ⟨_, _, _, H1.get1⟩ m0 l2
  rw [take_is, e]
  exact q i _ h1 h2 (((H1.set _).cls (Qs := bxQ b) (φ := fun _ => True) (a, s, c) trivial).perm r.perm.symm)
theorem box_w {p c k : Int} {ns : List Int} (hp : mulOk p k = true) (H : Sat h Ps) (r : Rem Ps (.one l (.rol (ns.map T.int))) R) (hk : 0 ≤ k) (q : ∀ b h', Sat h' (.abs (bx b) :: Ps) → Q (.ref b) h') : W (clB Γ (n + 1) (BOX p c) [.ref l, .int k] h) Q X t := by
  obtain ⟨x, a, s, e⟩ := box_ok (Γ := Γ) (n := n) (q := c) hp (h := h) (l := l) (H.get r) hk
  rw [e]
  have H2 := (H.neu (.lst [.int 0, .int x])).neu (.lst [.int a, .int s, .int 0])
  rw [List.length_append, List.append_assoc] at H2
  exact q _ _ ((H2.rem (.tail .head)).drop.cls (Qs := bxQ _) (φ := fun _ => True) (a, s, 0) trivial)
end
/-! alike -/
theorem alike_is : P__law_alike = ALIKE := rfl
theorem Sat.of2 {h : LH} {l k : Nat} {o o2 : LO} (e1 : h[l]? = some o) (e2 : h[k]? = some o2) (ne : l ≠ k) : Sat h [.one l o, .one k o2] :=
  ⟨[(l, o), (k, o2)], ⟨[(l, o)], [(k, o2)], rfl, rfl, ⟨[(k, o2)], [], rfl, rfl, rfl⟩⟩, by simp [ne], fun p hp => by
    simp only [List.mem_cons, List.not_mem_nil, or_false] at hp
    rcases hp with rfl | rfl
    · exact e1
    · exact e2⟩
theorem Sat.of3 {h : LH} {l k m : Nat} {o o2 o3 : LO} (e1 : h[l]? = some o) (e2 : h[k]? = some o2) (e3 : h[m]? = some o3) (ne : l ≠ k) (ne2 : l ≠ m) (ne3 : k ≠ m) : Sat h [.one l o, .one k o2, .one m o3] :=
  ⟨[(l, o), (k, o2), (m, o3)], ⟨[(l, o)], [(k, o2), (m, o3)], rfl, rfl, ⟨[(k, o2)], [(m, o3)], rfl, rfl, ⟨[(m, o3)], [], rfl, rfl, rfl⟩⟩⟩, by simp [ne, ne2, ne3], fun p hp => by
    simp only [List.mem_cons, List.not_mem_nil, or_false] at hp
    rcases hp with rfl | rfl | rfl
    · exact e1
    · exact e2
    · exact e3⟩
theorem siT_keys {kvs : List (Str × Int)} : (siT kvs).map (fun kv => tOfKey kv.1) = (kvs.map (·.1)).map T.str := by
  rw [List.map_map, List.map_map]; rfl
theorem siT_get : ∀ {kvs : List (Str × Int)} {p : Str × Int}, (kvs.map (·.1)).Nodup → p ∈ kvs → kget (siT kvs) (.inr p.1) = some (.int p.2)
  | [], _, _, m => by cases m
  | q :: kvs, p, nd, m => by
    rw [List.map_cons, List.nodup_cons] at nd
    show kget ((.inr q.1, .int q.2) :: siT kvs) (.inr p.1) = _
    rw [kget_cons]
    rcases List.mem_cons.mp m with rfl | m
    · rw [if_pos rfl]
    · rw [if_neg (fun z => nd.1 (by rw [Sum.inr.inj z]; exact List.mem_map.mpr ⟨p, m, rfl⟩)), siT_get nd.2 m]
theorem W_eqS {h : LH} {Q : Bool → LH → Prop} {X : Ex → LH → Prop} {t : WT Q X} {Ps R R2 : List HP} {a b : Nat} {ss : List Str} (hs : ∀ s ∈ ss, PyData.strOk s = true) (H : Sat h Ps) (r : Rem Ps (.one a (.lst (ss.map T.str))) R) (r2 : Rem Ps (.one b (.lst (ss.map T.str))) R2) (q : Q true h) : W (optR (eqH h (.ref a) (.ref b)) h) Q X t := by
  rw [eqH_strs hs (H.get r) (H.get r2)]
  exact q
theorem alikeI_s {Γ : Prog} {n : Nat} {i : Int} {h : LH} {Q : T → LH → Prop} {X : Ex → LH → Prop} {t : WT Q X} (q : Q (.bl true) h) : W (clB Γ (n + 1) P__law_alike [.int i, .int i] h) Q X t := by
  rw [alike_is, clB_succ, alike_int]
  exact q
section
local macro_rules | `(tactic| walk_at "call") => `(tactic| (with_reducible apply alikeI_s))
theorem alikeD_s {Γ : Prog} [Has Γ K__law_alike P__law_alike] {n l k : Nat} {kvs : List (Str × Int)} {h : LH} {Q : T → LH → Prop} {X : Ex → LH → Prop} {t : WT Q X} {R : List HP} (h64 : kvs.length < 64) (nd : (kvs.map (·.1)).Nodup) (ok : ∀ p ∈ kvs, PyData.strOk p.1 = true)
    (H : Sat h (.one l (.dK (siT kvs)) :: .one k (.dK (siT kvs)) :: R)) (q : ∀ h', Sat h' (.one l (.dK (siT kvs)) :: .one k (.dK (siT kvs)) :: R) → Q (.bl true) h') : W (clB Γ (n + 2) P__law_alike [.ref l, .ref k] h) Q X t := by
  rw [clB_body]; simp only [P__law_alike]
  walk_at "go"
  have es : sortT (List.map (fun kv => tOfKey kv.1) (siT kvs)) = some ((sortS (kvs.map (·.1))).map T.str) := by
    rw [siT_keys]
    exact sortT_strs (by simpa using h64)
  rw [es]
  walk_at "go"
  rw [es]
  walk_at "go"
  have hs : ∀ s ∈ sortS (kvs.map (·.1)), PyData.strOk s = true := fun s m => by
    have m' : s ∈ kvs.map (·.1) := (List.mergeSort_perm _ _).mem_iff.mp m
    obtain ⟨p, hp, rfl⟩ := List.mem_map.mp m'
    exact ok p hp
  with_reducible refine W_eqS hs (‹Sat _ _›) (by walk_at "rem") (by walk_at "rem") ?_
  walk_at "go"
  refine W_lock (l := k) (kvs := siT kvs) ?_ (‹Sat _ _›) (by walk_at "rem") fun h' H1 => ?_
  · walk_at "go"
  walk_at "go"
  rw [siT_keys]
  refine W_lc (fun i xs h => xs = List.replicate i (.bl true) ∧ Sat h (.one k (.lkK (siT kvs)) :: .one l (.dK (siT kvs)) :: R)) ⟨rfl, H1.sub (by walk_at "sub")⟩ ?_ ?_
  · rintro i v xs h e ⟨rfl, H⟩
    obtain ⟨s, es, rfl⟩ := get_map e
    obtain ⟨p, ep, rfl⟩ := map_get es
    have g := siT_get nd (List.mem_of_getElem? ep)
    refine ⟨gd_one (H.get .head), _, rfl, ?_⟩
    walk_at "go"
    rw [g]
    walk_at "go"
    rw [g]
    walk_at "go"
    exact ⟨by rw [rep_snoc]; rfl, H⟩
  · rintro xs h ⟨rfl, H⟩
    refine ⟨gd_one (H.get .head), ?_⟩
    rw [List.length_map, List.length_map]
    walk_at "go"
    rename_i lz _ HZ
    refine ⟨_, HZ.sub (Qs := .one k (.lkK (siT kvs)) :: .one lz _ :: .one l _ :: R) (by walk_at "sub"), fun h3 H3 => ?_⟩
    walk_at "go"
    exact q _ (H3.sub (by walk_at "sub"))
end
theorem alike_ok {Γ : Prog} [Has Γ K__law_alike P__law_alike] (hcl : ∀ (n : Nat) (a b : T), cl Γ n ALK [a, b] [] = clB Γ n ALIKE [a, b]) (n : Nat) : ∀ (d : Nat) (a b : T) (h : LH), Al h d a b → ∃ h', clB Γ (n + d + 1) ALIKE [a, b] h = .ok (.bl true) h' ∧ Ka h h'
  | d, a, b, h, r => by
    rw [clB_succ]
    cases r with
    | int d i => exact ⟨h, alike_int i, .refl⟩
    | bl d i => exact ⟨h, alike_bl i, .refl⟩
    | non d => exact ⟨h, alike_non, .refl⟩
    | str hx => exact ⟨h, alike_str hx, .refl⟩
    | dic ne h64 nd ok e1 e2 =>
      rename_i d l k kvs
      have run : ∀ R, Sat h (.one l (.dK (siT kvs)) :: .one k (.dK (siT kvs)) :: R) → ∃ h', clB Γ (n + (d + 1) + 1) ALIKE [.ref l, .ref k] h = .ok (.bl true) h' ∧ Sat h' (.one l (.dK (siT kvs)) :: .one k (.dK (siT kvs)) :: R) := fun R H => by
        have := W_ex.mpr (alikeD_s (Γ := Γ) (n := n + d) (Q := fun v h' => v = .bl true ∧ Sat h' (.one l (.dK (siT kvs)) :: .one k (.dK (siT kvs)) :: R)) (t := ⟨⟩) h64 nd ok H fun h' H' => ⟨rfl, H'⟩)
        obtain ⟨v, h', e, rfl, H'⟩ := this
        rw [alike_is] at e
        exact ⟨h', e, H'⟩
      rw [← clB_succ]
      obtain ⟨h', e, H'⟩ := run [] (Sat.of2 e1 e2 ne)
      refine ⟨h', e, fun m o em => ?_⟩
      by_cases c1 : l = m
      · subst c1
        rw [e1] at em
        cases em
        exact H'.get1
      by_cases c2 : k = m
      · subst c2
        rw [e2] at em
        cases em
        exact H'.drop.get1
      obtain ⟨h2, e', H2⟩ := run [.one m o] (Sat.of3 e1 e2 em ne c1 c2)
      rw [e] at e'
      cases e'
      exact H2.drop.drop.get1
    | tup hb r =>
      rename_i d xs ys
      refine alike_tup hb (d := d) ?_ r
      intro x y h q
      rw [Phi_call, hcl]
      exact alike_ok hcl n d x y h q
    | lst hb e1 e2 r =>
      rename_i d l k xs ys
      refine alike_lst hb (d := d) ?_ e1 e2 r
      intro x y h q
      rw [Phi_call, hcl]
      exact alike_ok hcl n d x y h q
theorem alike_s {Γ : Prog} [Has Γ K__law_alike P__law_alike] {n d : Nat} {a b : T} {h : LH} {Q : T → LH → Prop} {X : Ex → LH → Prop} {t : WT Q X} {Ps : List HP} (H : Sat h Ps) (al : Al h d a b) (q : ∀ h', Sat h' Ps → Q (.bl true) h') : W (clB Γ (n + d + 1) P__law_alike [a, b] h) Q X t := by
  obtain ⟨h', e, K⟩ := alike_ok (Γ := Γ) (fun n a b => by rw [← alike_is]; exact cl__law_alike_2) n d a b h al
  rw [alike_is, e]
  exact q h' (H.ka K)
theorem al_ints {h : LH} {d : Nat} : ∀ {ns : List Int}, AlL h d (ns.map T.int) (ns.map T.int)
  | [] => .nil d
  | n :: _ => .cons (.int d n) al_ints
end Y

namespace Y
open PySem
def P__law_alike_v2_L1 : Ss :=
    (.cons (.asg (.g (.tup (.cons (.name 3) (.cons (.name 4) .nil)))) (.bm (.var 2) .pop .nil))
    (.cons (.ifS (.isi (.var 4) [.ty .tuple, .ty .list] true) (.cons (.ifS (.or2 (.cmp .NotEq (.isi (.var 3) [.ty .tuple] false) (.isi (.var 4) [.ty .tuple] false)) (.cmp .NotEq (.isi (.var 3) [.ty .list] false) (.isi (.var 4) [.ty .list] false))) (.cons (.retE (.cst (.bl false)))
    .nil) .nil)
    (.cons (.ifS (.cmp .NotEq (.bi .len (.cons (.var 3) .nil)) (.bi .len (.cons (.var 4) .nil))) (.cons (.retE (.cst (.bl false)))
    .nil) .nil)
    (.cons (.expr (.bm (.var 2) .extend (.cons (.lzip (.var 3) (.var 4)) .nil)))
    .nil))) (.cons (.ifS (.or2 (.isi (.var 3) [.ty .tuple, .ty .list] true) (.cmp .NotEq (.isi (.var 3) [.ty .bool] false) (.isi (.var 4) [.ty .bool] false))) (.cons (.retE (.cst (.bl false)))
    .nil) (.cons (.ifS (.or2 (.cmp .NotEq (.isi (.var 3) [.ty .int] false) (.isi (.var 4) [.ty .int] false)) (.cmp .NotEq (.var 3) (.var 4))) (.cons (.retE (.cst (.bl false)))
    .nil) .nil)
    .nil))
    .nil))
    .nil))
/-- _law_alike: 0:_law_found 1:_law_due 2:_law_left 3:_law_one 4:_law_other -/
def P__law_alike_v2 : FD := { ps := [(sl 939625892901331449568), (sl 57943361093940960)], N := [(sl 939625892901331449568), (sl 57943361093940960), (sl 8489174719618660064), (sl 57912952725485280), (sl 1068097287021032683232)], bd :=
    (.cons (.asg (.g (.name 2)) (.lst (.cons (.tup (.cons (.var 0) (.cons (.var 1) .nil))) .nil)))
    (.cons (.whileS (.cmp .Gt (.bi .len (.cons (.var 2) .nil)) (.cst (.int 0))) P__law_alike_v2_L1)
    (.cons (.retE (.cst (.bl true)))
    .nil))) }
theorem cl_v2__law_alike_2 {Γ : Prog} [Has Γ ((sl 948626323390693160672), none) P__law_alike_v2] {n : Nat} {a0 a1 : T} : cl Γ n ((sl 948626323390693160672), none) [a0, a1] [] = clB Γ n P__law_alike_v2 [a0, a1] := cl_via (by kernel_rfl)
abbrev K__law_alike_v2 : Str × Option Str := ((sl 948626323390693160672), none)
local macro_rules | `(tactic| walk_at "rem") => `(tactic| first | with_reducible exact Rem.head | (with_reducible apply Rem.tail; walk_at "rem"))
local macro_rules | `(tactic| walk_at "cond") => `(tactic| first | with_reducible exact Nat.zero_le _ | with_reducible assumption | omega | (simp only [big]; omega) | exact mulOk_l (by omega) | exact mulOk_r (by omega) | exact divOk_of (by omega) (by omega) | exact rngOk_i (by omega) | (simp only [big, List.length_cons, List.length_nil, List.length_map, List.length_append] <;> omega) | (refine ⟨by walk_at "cond", ?_⟩; walk_at "cond") | (refine .inl ?_; walk_at "cond") | (refine .inr ?_; walk_at "cond"))
local macro_rules | `(tactic| walk_at "sub") => `(tactic| first | with_reducible exact Sub.rfl | (with_reducible apply Sub.cons; walk_at "rem"; walk_at "sub") | (with_reducible apply Sub.drop; walk_at "sub"))
local macro_rules | `(tactic| walk_at "nf") => `(tactic| (simp only [List.mem_cons, List.not_mem_nil, sl_inj, Nat.reduceEqDiff, or_self, or_false, not_false_eq_true]))
local macro_rules | `(tactic| walk_at "ev") => `(tactic| simp only [↓w_ev_var1, ↓w_ev_cst2, ↓w_ev_glo3, ↓w_ev_tup4, ↓w_ev_lst5, ↓w_ev_dic6, ↓w_ev_dict07, ↓w_ev_bin8, ↓w_ev_neg9, ↓w_ev_cmp10, ↓w_ev_chain11, ↓w_ev_and212, ↓w_ev_or213, ↓w_ev_not14, ↓w_ev_ite15, ↓w_ev_fld16, ↓w_ev_ix17, ↓w_ev_slc18, ↓w_ev_call19, ↓w_ev_new20, ↓w_ev_meth21, ↓w_ev_bi22, ↓w_ev_bm23, ↓w_ev_isi24, ↓w_ev_lc25, ↓w_ev_lrg126, ↓w_ev_lrg227, ↓w_ev_lockE28, ↓w_ev_nev29, ↓w_evs_nil1, ↓w_evs_cons2, ↓w_evK_nil1, ↓w_evK_cons2, ↓w_evKV_nil1, ↓w_evKV_cons2, ↓w_evP_no1, ↓w_evP_yes2, ↓w_evC_no1, ↓w_evC_yes2, ↓w_evB_cmp1, ↓w_evB_chain2, ↓w_evB_and23, ↓w_evB_or24, ↓w_evB_not5, ↓w_evB_var6, ↓w_evB_cst7, ↓w_evB_glo8, ↓w_evB_fld9, ↓w_evB_ix10, ↓w_evB_call11, ↓w_evB_meth12, ↓w_evB_bi13, ↓w_evB_bm14, ↓w_evB_isi15, ↓w_evI_seq1, ↓w_evI_rng12, ↓w_evI_rng23, ↓w_evI_dkeys4, ↓w_evI_dvals5, ↓w_evI_ditms6, ↓w_evI_enum7, ↓w_evI_zip8, ↓w_ex_asg1, ↓w_ex_aug2, ↓w_ex_aug3, ↓w_ex_expr5, ↓w_ex_retE6, ↓w_ex_ret07, ↓w_ex_ifS8, ↓w_ex_forS9, ↓w_ex_whileS10, ↓w_ex_pass11, ↓w_ex_doc12, ↓w_ex_brk13, ↓w_ex_cont14, ↓w_ex_nev15, ↓w_ex_lockS16, ↓w_exs_nil1, ↓w_exs_cons2, ↓W_bnd, ↓W_bndR, ↓W_ok, ↓W_ret, ↓W_fl, ↓W_fail, ↓W_iteM, ↓W_ite, Wif_t, Wif_f, ↓body_r, getV_app, opt_app, rdH_app, wrH_app, optR_some, optR_none, wrR_none, optR_ite, wrR_ite, obind_ite, omap_ite, optR_map, Option.bind_some, Option.bind_none, Option.map_some, Option.map_none, id_eq, Option.isSome_some, Option.isSome_none, Option.isNone_some, Option.isNone_none,
 asgG_name, asgG_tup, asgG_kt, asgGs_nil, asgGs_cons, asgT_g, asgT_fld, asgT_ix, List.getElem?_cons_zero, List.getElem?_cons_succ, List.set_cons_zero, List.set_cons_succ, List.length_cons, List.length_nil, List.map_cons, List.map_nil, List.replicate_succ, List.replicate_zero, List.cons_append, List.nil_append, List.append_nil, List.zip_cons_cons, List.zip_nil_left, List.zip_nil_right, ksN,
 binOp_int, binI_add, binI_sub, binI_mul, binI_div, binI_mod, binI_pow, cmp_lt, cmp_le, cmp_gt, cmp_ge, cmp_eq, cmp_ne, cmp_is, cmp_isn, cmp_in, cmp_nin, tru_app, truH_bl, truH_int, truH_non, truH_r, truO_lst, truO_rol, ixT_app, ixH_tup, ixH_kt, ixH_ref, ixO_lst, ixO_rol, ixO_dK, keyOf_int, keyOf_str, atV_int, at0, at1, at2, at3, at4, at5, at6,
 eqH_int, eqH_bl, eqH_non, eqH_intnon, eqH_nonint, fldT_r, fldO_ins, mcls_r, mclO_ins, setFld_r, setO_ins, setIx_r, sixO_lst, sixO_dK, lenH_r, lenH_tup, lenH_kt, lenO_lst, lenO_rol, lenO_dK, inH_int_r, inO_ints, walkT_t, walkT_kt, blsOf_map, all_map, any_map, isiH_r, tyOf_r, tyOf_non, tyOf_bl, tyOf_int, tyOf_str, tyOf_tup, tyOf_kt, kdO_lst, kdO_dK, kdO_ins, kdIn_ty, kdIn_i, isiOne_tt, isiOne_tc, isiOne_ct, isiOne_cc, List.any_cons, List.any_nil, walkT_r, lwalk_r, items_lst, items_rol, wlist_lst, wlst_r, lstOf_r, seqOf_r,
 getF_nil, getF_cons, putF_nil, putF_cons, kget_n, kget_c, kput_G, kputG_nil, kputG_cons, addLL_r, mulLI_r, addTT_r, addSS_r, slT_r, slT_t, len_r, abs_r, sum_r, all_r, any_r, list_r, list_t, list_kt, tuple_r, tuple_t, bmK_app, bmK_clr, bmK_pop, bmK_ext, bmK_upd, bmK_get, bmK_dpop, dicO_dK, inO_dK, inH_str_r, inO_dKs, truO_dK, dvT_r, diT_r, dkT_r, dvO_lk, diO_lk, dkO_lk, extend_r, append_r, clear_r, min2_app, max2_app, int_app, intb_app, lrgT_app, atN,
 Phi_call, Phi_okF, Phi_has, Phi_cls, hasM_i, okF_i, sl_inj, initS, decide_eq_true_eq, decide_true, decide_false, Bool.not_true, Bool.not_false, Bool.not_eq_true, Bool.not_eq_eq_eq_not, decide_not, decide_eq_false_iff_not, bne_iff_ne, ne_eq, not_false_eq_true, not_true_eq_false, reduceCtorEq, Sum.inl.injEq, Sum.inr.injEq, T.int.injEq, T.bl.injEq, and_self, and_true, true_and, and_false, false_and, or_true, true_or, or_false, false_or, if_true, if_false, Bool.true_eq_false, Bool.false_eq_true, Bool.or_true, Bool.or_false, Bool.true_or, Bool.false_or, Bool.and_true, Bool.true_and, Bool.and_false, Bool.false_and, beq_ff, eq_self, Nat.le_refl, Int.zero_add, partT, List.isEmpty_cons, List.isEmpty_nil, dicOf_r, dicPut_nil, dicPut_cons, Nat.reduceEqDiff, Nat.reduceSub, Nat.reduceAdd, Nat.reduceMul, Nat.reduceLT, Nat.reduceLeDiff, Int.reduceEq, Int.reduceNe, Int.reduceLT, Int.reduceLE, Int.reduceAdd, Int.reduceSub, Int.reduceMul, Int.reduceToNat, Int.reduceNeg, Int.reduceDiv, Int.reduceMod, Int.reducePow, Nat.zero_add, Nat.sub_self, Nat.reduceBEq, Int.ofNat_eq_natCast, reduceIte, List.length_map, List.length_append, List.length_set, wipeN_nil, wipeN_cons, blsOf_t, all_tt, List.length_replicate, cut1, flat_rep, zipM_rr, zipM_tt, mulTI_r, slT_s, dkO1_dK, listD_r, dictD_r, sorted_r, str_i, str_s, bmK_dclr, bmK_join, cmp_le2, cmp_lt2, ixT_s, ixO_lkK, ↓w_ev_olen, ↓w_ev_oeq, ↓w_evB_oeq, bin_shl, bin_shr, bin_and, upper_s, strip_s, index_s, bmK_upper, bmK_strip, bmK_index, bmK_popi, ↓w_ev_lzip, ↓w_ev_lc2, ↓w_evI_zipS, ↓w_ex_asgM, ↓w_ex_forM, gsLen_nil, gsLen_cons, asgM_g, asgM_pair, asgM_star, asgM_starK, zipU_tt, zipM_kt, List.take_succ_cons, List.drop_succ_cons, List.take_zero, List.drop_zero, ↓w_evI_sgn, ↓w_evI_zipN, gdOk_nil, zipT_nil, zipT_nil2, zipT_cons, blsOf_nil, blsOf_cons, List.all_cons, List.all_nil, w_ev_maxd, w_ev_revE
, addT0_n, cl_Keeper_asked_1_term_reading, cl_Keeper_asked_3, cl_Keeper_copied_1, cl_Keeper_granted_1, cl_Keeper_init_1_keeps_hands, cl_Keeper_init_3, cl_Keeper_kept_term_1, cl_Keeper_lets_by_3, cl_Keeper_roused_1_reading, cl_Keeper_roused_2, cl_Keeper_until_1, cl__law_alike_2, cl__law_box_2, cl__law_take_2, cl_hand_by_0_term_hands, cl_hand_by_2, cl_term_by_0_count_hand_hands, cl_term_by_0_count_hands_hand, cl_term_by_3, cl_v2__law_alike_2, cl_v2__law_box_2, cl_v3__law_box_2, (‹Sat _ _›).facts])
local macro_rules | `(tactic| walk_at "H") => `(tactic| exact (‹Sat _ _›).sub (by walk_at "sub"))
local macro_rules | `(tactic| walk_at "call") => `(tactic| fail)
local macro_rules | `(tactic| walk_at "st") => `(tactic| first | walk_at "ev" | (with_reducible refine W_neu (by assumption) ?_; intro _ _ _) | (with_reducible apply W_wr; assumption; walk_at "rem"; intro _ _) | walk_at "call" | (with_reducible apply W_pos; walk_at "cond") | (with_reducible apply W_neg; walk_at "cond"))
local macro_rules | `(tactic| walk_at "go") => `(tactic| repeat walk_at "st")
/-! alike by a stack -/
mutual
def plT : T → Bool
  | .int _ => true
  | .bl _ => true
  | .non => true
  | .str x => PyData.strOk x
  | .tup xs => plTs xs
  | .kt xs => plTs xs
  | _ => false
def plTs : List T → Bool
  | [] => true
  | x :: xs => plT x && plTs xs
end
mutual
def szT : T → Nat
  | .tup xs => szTs xs + 1
  | .kt xs => szTs xs + 1
  | _ => 1
def szTs : List T → Nat
  | [] => 0
  | x :: xs => szT x + szTs xs
end
abbrev dup (x : T) : T := .tup [x, x]
theorem zip_dup : ∀ xs : List T, zipT xs xs = xs.map dup
  | [] => rfl
  | x :: xs => by
    unfold zipT
    rw [zip_dup xs]; rfl
theorem pl_app : ∀ {xs ys : List T}, plTs (xs ++ ys) = (plTs xs && plTs ys)
  | [], ys => by simp [plTs]
  | x :: xs, ys => by
    show (plT x && plTs (xs ++ ys)) = ((plT x && plTs xs) && plTs ys)
    rw [pl_app, Bool.and_assoc]
theorem sz_app : ∀ {xs ys : List T}, szTs (xs ++ ys) = szTs xs + szTs ys
  | [], ys => by simp [szTs]
  | x :: xs, ys => by
    show szT x + szTs (xs ++ ys) = (szT x + szTs xs) + szTs ys
    rw [sz_app, Nat.add_assoc]
theorem sz_len : ∀ {xs : List T}, xs.length ≤ szTs xs
  | [] => Nat.le_refl _
  | x :: xs => by
    have := sz_len (xs := xs)
    have h1 : 1 ≤ szT x := by cases x <;> simp [szT]
    unfold szTs
    rw [List.length_cons]
    omega
section
variable {Γ : Prog} {n l k lf : Nat} {h : LH} {Q : T → LH → Prop} {X : Ex → LH → Prop} {t : WT Q X} {Ps R R2 : List HP} {f d : Option T}
theorem tup_nk {h : LH} {x : T} {k : Kd} {cs : List Kd} {b : Bool} (e : tyOf h x = some k) (hk : kdIn (Phi Γ n).cls k = true) (hb : cs.any (isiOne k) = b) : isiH (Phi Γ n).cls h x cs = some b := by
  unfold isiH
  rw [e, Option.bind_some, if_pos hk, hb]
theorem one_s [Has Γ K__law_alike_v2 P__law_alike_v2] {a b : Option T} {sk : List T} {x : T} (px : plT x = true) (ps : plTs sk = true) (z : szTs sk + szT x ≤ 99999) (H : Sat h (.one lf (.lst (sk.map dup ++ [dup x])) :: Ps)) {Q : Fl → LH → Prop} {t : WT Q X}
    (q : ∀ h' sk', plTs sk' = true → szTs sk' + 1 ≤ szTs sk + szT x → Sat h' (.one lf (.lst (sk'.map dup)) :: Ps) → Q (.nx [f, d, some (.ref lf), some x, some x]) h') :
    W (exs (Phi Γ n) P__law_alike_v2_L1 [f, d, some (.ref lf), a, b] h) Q X t := by
  simp only [P__law_alike_v2_L1]
  have hp : ∀ {Q : T → LH → Prop} {X : Ex → LH → Prop} {t : WT Q X}, (∀ h', Sat h' (.one lf (.lst (sk.map dup)) :: Ps) → Q (dup x) h') → W (bmF .pop (.ref lf) [] h) Q X t := fun q => W_pop H .head q
  have lsk := sz_len (xs := sk)
  cases x with
  | tup xs =>
    have lxs := sz_len (xs := xs)
    unfold szT at z
    walk_at "go"
    refine hp fun h1 H1 => ?_
    walk_at "go"
    rw [zip_dup]
    refine W_pos (by simp only [big]; rw [List.length_map]; omega) ?_
    walk_at "go"
    refine q _ (sk ++ xs) (by rw [pl_app, ps]; exact px) (by rw [sz_app]; simp only [szT]; omega) ?_
    rw [List.map_append]
    exact (‹Sat _ (.one _ (.lst (_ ++ _)) :: _)›).sub (by walk_at "sub")
  | kt xs =>
    have lxs := sz_len (xs := xs)
    unfold szT at z
    walk_at "go"
    refine hp fun h1 H1 => ?_
    walk_at "go"
    have ez : zipM (.kt xs) (.kt xs) = if xs.length = xs.length then ret (zipT xs xs, []) else fl := rfl
    rw [ez, if_pos rfl, zip_dup]
    walk_at "go"
    try (refine W_pos (by first | omega | (simp only [big]; omega) | (simp only [big, List.length_map]; omega)) ?_; walk_at "go")
    refine q _ (sk ++ xs) (by rw [pl_app, ps]; exact px) (by rw [sz_app]; simp only [szT]; omega) ?_
    rw [List.map_append]
    exact (‹Sat _ (.one _ (.lst (_ ++ _)) :: _)›).sub (by walk_at "sub")
  | int i =>
    walk_at "go"
    refine hp fun h1 H1 => ?_
    walk_at "go"
    exact q _ sk ps (by simp [szT]) ‹Sat _ _›
  | bl i =>
    walk_at "go"
    refine hp fun h1 H1 => ?_
    walk_at "go"
    exact q _ sk ps (by simp [szT]) ‹Sat _ _›
  | non =>
    walk_at "go"
    refine hp fun h1 H1 => ?_
    walk_at "go"
    exact q _ sk ps (by simp [szT]) ‹Sat _ _›
  | str y =>
    walk_at "go"
    refine hp fun h1 H1 => ?_
    walk_at "go"
    rw [eqH_ss px px]
    walk_at "go"
    exact q _ sk ps (by simp [szT]) ‹Sat _ _›
  | ref _ => cases px
  | ty _ => cases px
/-- the stack, walked to its end -/
theorem stack_s [Has Γ K__law_alike_v2 P__law_alike_v2] {a b : Option T} {sk : List T} (ps : plTs sk = true) (z : szTs sk ≤ 99990) (H : Sat h (.one lf (.lst (sk.map dup)) :: Ps)) {Q : Fl → LH → Prop} {t : WT Q X}
    (q : ∀ h' a b, Sat h' Ps → Q (.nx [f, d, some (.ref lf), a, b]) h') : W (whileGo (evB (Phi Γ n) (.cmp .Gt (.bi .len (.cons (.var 2) .nil)) (.cst (.int 0)))) (exs (Phi Γ n) P__law_alike_v2_L1) 100000 [f, d, some (.ref lf), a, b] h) Q X t := by
  refine W_while (fun k s h => ∃ a b sk, s = [f, d, some (.ref lf), a, b] ∧ plTs sk = true ∧ szTs sk ≤ k ∧ k ≤ 99990 ∧ Sat h (.one lf (.lst (sk.map dup)) :: Ps)) ?_ 100000 (szTs sk) _ _ (by omega) ⟨a, b, sk, rfl, ps, Nat.le_refl _, z, H⟩
  rintro k s h ⟨a, b, sk, rfl, ps, zk, kb, H⟩
  walk_at "go"
  rcases List.eq_nil_or_concat sk with rfl | ⟨sk0, x, rfl⟩
  · simp only [List.length_nil, Int.natCast_zero, Int.lt_irrefl, decide_false, Bool.false_eq_true, if_false]
    exact q _ _ _ H.drop
  · rw [List.concat_eq_append] at *
    have pos : (0 : Int) < ((sk0 ++ [x]).length : Nat) := by simp
    rw [if_pos pos]
    rw [pl_app] at ps
    simp only [plTs, Bool.and_true, Bool.and_eq_true] at ps
    have zs : szTs (sk0 ++ [x]) = szTs sk0 + szT x := by rw [sz_app]; simp [szTs]
    have sx : 1 ≤ szT x := by cases x <;> simp [szT]
    rw [List.map_append] at H
    refine ⟨k - 1, by omega, one_s ps.2 ps.1 (by omega) H fun h' sk' p' z' H' => ⟨_, _, sk', rfl, p', by omega, by omega, H'⟩⟩
theorem alike_x [Has Γ K__law_alike_v2 P__law_alike_v2] {x : T} (px : plT x = true) (z : szT x ≤ 99000) (H : Sat h Ps) (q : ∀ h', Sat h' Ps → Q (.bl true) h') : W (clB Γ (n + 1) P__law_alike_v2 [x, x] h) Q X t := by
  rw [clB_body]; simp only [P__law_alike_v2]
  walk_at "go"
  refine stack_s (sk := [x]) (by simp [plTs, px]) (by simp [szTs]; omega) ‹Sat _ (.one _ _ :: _)› fun h' a b H' => ?_
  walk_at "go"
  exact q _ H'
theorem two_s [Has Γ K__law_alike_v2 P__law_alike_v2] {a b : Option T} {xs : List T} (z : szTs xs ≤ 99000) (H : Sat h (.one lf (.lst [.tup [.ref l, .ref k]]) :: .one l (.lst xs) :: .one k (.lst xs) :: R)) {Q : Fl → LH → Prop} {t : WT Q X}
    (q : ∀ h', Sat h' (.one lf (.lst (xs.map dup)) :: .one l (.lst xs) :: .one k (.lst xs) :: R) → Q (.nx [f, d, some (.ref lf), some (.ref l), some (.ref k)]) h') :
    W (exs (Phi Γ n) P__law_alike_v2_L1 [f, d, some (.ref lf), a, b] h) Q X t := by
  simp only [P__law_alike_v2_L1]
  have hp : ∀ {Q : T → LH → Prop} {X : Ex → LH → Prop} {t : WT Q X}, (∀ h', Sat h' (.one lf (.lst []) :: .one l (.lst xs) :: .one k (.lst xs) :: R) → Q (.tup [.ref l, .ref k]) h') → W (bmF .pop (.ref lf) [] h) Q X t := fun q => W_pop (xs := []) H .head q
  have lxs := sz_len (xs := xs)
  walk_at "go"
  refine hp fun h1 H1 => ?_
  walk_at "go"
  rw [zip_dup]
  try (refine W_pos (by first | omega | (simp only [big]; omega) | (simp only [big, List.length_map]; omega)) ?_; walk_at "go")
  refine q _ ((‹Sat _ (.one lf _ :: _)›).sub (by walk_at "sub"))
theorem alike_l0 [Has Γ K__law_alike_v2 P__law_alike_v2] {xs : List T} (px : plTs xs = true) (z : szTs xs ≤ 99000) (H : Sat h (.one l (.lst xs) :: .one k (.lst xs) :: R)) (q : ∀ h', Sat h' (.one l (.lst xs) :: .one k (.lst xs) :: R) → Q (.bl true) h') : W (clB Γ (n + 1) P__law_alike_v2 [.ref l, .ref k] h) Q X t := by
  rw [clB_body]; simp only [P__law_alike_v2]
  walk_at "go"
  rename_i lf h0 H0
  refine W_cut (fun r h' => ∃ a b, r = .nx [some (.ref l), some (.ref k), some (.ref lf), a, b] ∧ Sat h' (.one l (.lst xs) :: .one k (.lst xs) :: R)) ?_ ?_
  · refine W_while (fun k2 s h => ∃ a b, s = [some (.ref l), some (.ref k), some (.ref lf), a, b] ∧ k2 ≤ 99995 ∧ ((szTs xs + 1 ≤ k2 ∧ Sat h (.one lf (.lst [.tup [.ref l, .ref k]]) :: .one l (.lst xs) :: .one k (.lst xs) :: R)) ∨
      ∃ sk, plTs sk = true ∧ szTs sk ≤ k2 ∧ Sat h (.one lf (.lst (sk.map dup)) :: .one l (.lst xs) :: .one k (.lst xs) :: R))) ?_ 100000 (szTs xs + 1) _ _ (by omega) ⟨none, none, rfl, by omega, .inl ⟨Nat.le_refl _, H0⟩⟩
    rintro k2 s h ⟨a, b, rfl, kb, ⟨zk, H⟩ | ⟨sk, ps, zk, H⟩⟩
    · walk_at "go"
      refine ⟨k2 - 1, by omega, two_s z H fun h' H' => ⟨_, _, rfl, by omega, .inr ⟨xs, px, by omega, H'⟩⟩⟩
    · walk_at "go"
      rcases List.eq_nil_or_concat sk with rfl | ⟨sk0, x, rfl⟩
      · simp only [List.length_nil, Int.natCast_zero, Int.lt_irrefl, decide_false, Bool.false_eq_true, if_false]
        exact ⟨_, _, rfl, H.drop⟩
      · rw [List.concat_eq_append] at *
        have pos : (0 : Int) < ((sk0 ++ [x]).length : Nat) := by simp
        rw [if_pos pos]
        rw [pl_app] at ps
        simp only [plTs, Bool.and_true, Bool.and_eq_true] at ps
        have zs : szTs (sk0 ++ [x]) = szTs sk0 + szT x := by rw [sz_app]; simp [szTs]
        have sx : 1 ≤ szT x := by cases x <;> simp [szT]
        rw [List.map_append] at H
        refine ⟨k2 - 1, by omega, one_s ps.2 ps.1 (by omega) H fun h' sk' p' z' H' => ⟨_, _, rfl, by omega, .inr ⟨sk', p', by omega, H'⟩⟩⟩
  · rintro r h' ⟨a, b, rfl, H'⟩
    walk_at "go"
    exact q _ H'
theorem alike_l [Has Γ K__law_alike_v2 P__law_alike_v2] {xs : List T} (px : plTs xs = true) (z : szTs xs ≤ 99000) (H : Sat h Ps) (r : Rem Ps (.one l (.lst xs)) R) (r2 : Rem R (.one k (.lst xs)) R2) (q : ∀ h', Sat h' Ps → Q (.bl true) h') : W (clB Γ (n + 1) P__law_alike_v2 [.ref l, .ref k] h) Q X t :=
  have p : Ps.Perm (.one l (.lst xs) :: .one k (.lst xs) :: R2) := r.perm.trans (List.Perm.cons _ r2.perm)
  alike_l0 px z (H.perm p) fun h' H' => q h' (H'.perm p.symm)
end
end Y

namespace Y
open PySem
def P_Knots___init___L1 : Ss :=
    (.cons (.expr (.meth (.var 0) (sl 1684853) (.cons (.var 3) (.cons (.var 4) (.cons (.var 5) .nil))) .nil))
    .nil)
/-- Knots.__init__: 0:self 1:many 2:ties 3:a 4:b 5:most -/
def P_Knots___init__ : FD := { ps := [(sl 217805684), (sl 257683822), (sl 244954485)], N := [(sl 217805684), (sl 257683822), (sl 244954485), (sl 98), (sl 99), (sl 247281774)], dfl := [(.kt [])], bd :=
    (.cons (.asg (.fld (.var 0) (sl 69171474465699945)) (.var 1))
    (.cons (.asg (.fld (.var 0) (sl 213497205)) (.lst .nil))
    (.cons (.forS (.tup (.cons (.name 3) (.cons (.name 4) (.cons (.name 5) .nil)))) (.seq (.var 2)) P_Knots___init___L1)
    .nil))) }
theorem cl_Knots_init_2 {Γ : Prog} [Has Γ ((sl 31385728972), some (sl 54469456771592288)) P_Knots___init__] {n : Nat} {a0 a1 : T} : cl Γ n ((sl 31385728972), some (sl 54469456771592288)) [a0, a1] [] = clB Γ n P_Knots___init__ [a0, a1, (.kt [])] := cl_via (by kernel_rfl)
theorem cl_Knots_init_2_ties {Γ : Prog} [Has Γ ((sl 31385728972), some (sl 54469456771592288)) P_Knots___init__] {n : Nat} {a0 a1 k0 : T} : cl Γ n ((sl 31385728972), some (sl 54469456771592288)) [a0, a1] [((sl 244954485), k0)] = clB Γ n P_Knots___init__ [a0, a1, k0] := cl_via (by kernel_rfl)
theorem cl_Knots_init_3 {Γ : Prog} [Has Γ ((sl 31385728972), some (sl 54469456771592288)) P_Knots___init__] {n : Nat} {a0 a1 a2 : T} : cl Γ n ((sl 31385728972), some (sl 54469456771592288)) [a0, a1, a2] [] = clB Γ n P_Knots___init__ [a0, a1, a2] := cl_via (by kernel_rfl)
theorem cl_Knots_init_1_ties_many {Γ : Prog} [Has Γ ((sl 31385728972), some (sl 54469456771592288)) P_Knots___init__] {n : Nat} {a0 k0 k1 : T} : cl Γ n ((sl 31385728972), some (sl 54469456771592288)) [a0] [((sl 244954485), k0), ((sl 257683822), k1)] = clB Γ n P_Knots___init__ [a0, k1, k0] := cl_via (by kernel_rfl)
/-- Knots.__len__: 0:self -/
def P_Knots___len__ : FD := { ps := [(sl 217805684)], N := [(sl 217805684)], bd :=
    (.cons (.retE (.bi .len (.cons (.fld (.var 0) (sl 213497205)) .nil)))
    .nil) }
theorem cl_Knots_len_1 {Γ : Prog} [Has Γ ((sl 31385728972), some (sl 425541011992672)) P_Knots___len__] {n : Nat} {a0 : T} : cl Γ n ((sl 31385728972), some (sl 425541011992672)) [a0] [] = clB Γ n P_Knots___len__ [a0] := cl_via (by kernel_rfl)
/-- Knots.tie: 0:self 1:a 2:b 3:most -/
def P_Knots_tie : FD := { ps := [(sl 217805684), (sl 98), (sl 99), (sl 247281774)], N := [(sl 217805684), (sl 98), (sl 99), (sl 247281774)], bd :=
    (.cons (.expr (.bm (.fld (.var 0) (sl 213497205)) .append (.cons (.tup (.cons (.var 1) (.cons (.var 2) (.cons (.var 3) .nil)))) .nil)))
    .nil) }
theorem cl_Knots_tie_4 {Γ : Prog} [Has Γ ((sl 31385728972), some (sl 1684853)) P_Knots_tie] {n : Nat} {a0 a1 a2 a3 : T} : cl Γ n ((sl 31385728972), some (sl 1684853)) [a0, a1, a2, a3] [] = clB Γ n P_Knots_tie [a0, a1, a2, a3] := cl_via (by kernel_rfl)
theorem cl_Knots_tie_1_most_b_a {Γ : Prog} [Has Γ ((sl 31385728972), some (sl 1684853)) P_Knots_tie] {n : Nat} {a0 k0 k1 k2 : T} : cl Γ n ((sl 31385728972), some (sl 1684853)) [a0] [((sl 247281774), k0), ((sl 99), k1), ((sl 98), k2)] = clB Γ n P_Knots_tie [a0, k2, k1, k0] := cl_via (by kernel_rfl)
/-- Knots.ties: 0:self -/
def P_Knots_ties : FD := { ps := [(sl 217805684)], N := [(sl 217805684)], bd :=
    (.cons (.retE (.bi .list (.cons (.fld (.var 0) (sl 213497205)) .nil)))
    .nil) }
theorem cl_Knots_ties_1 {Γ : Prog} [Has Γ ((sl 31385728972), some (sl 244954485)) P_Knots_ties] {n : Nat} {a0 : T} : cl Γ n ((sl 31385728972), some (sl 244954485)) [a0] [] = clB Γ n P_Knots_ties [a0] := cl_via (by kernel_rfl)
/-- _law_numbers: 0:_law_box_here 1:_law_wide -/
def P__law_numbers : FD := { ps := [(sl 1990466642053554134062773984)], N := [(sl 1990466642053554134062773984), (sl 7407202879286064864)], bd :=
    (.cons (.asg (.g (.name 1)) (.ix (.lst (.cons (.cst (.int 3)) (.cons (.cst (.int 5)) (.cons (.cst (.int 20)) (.cons (.cst (.int 2000)) .nil))))) (.call (sl 7411108241508710112) (.cons (.var 0) (.cons (.cst (.int 4)) .nil)) .nil)))
    (.cons (.retE (.bin .Sub (.call (sl 7411108241508710112) (.cons (.var 0) (.cons (.bin .Add (.bin .Mult (.cst (.int 2)) (.var 1)) (.cst (.int 1))) .nil)) .nil) (.var 1)))
    .nil)) }
theorem cl__law_numbers_1 {Γ : Prog} [Has Γ ((sl 17666140400891498593826528), none) P__law_numbers] {n : Nat} {a0 : T} : cl Γ n ((sl 17666140400891498593826528), none) [a0] [] = clB Γ n P__law_numbers [a0] := cl_via (by kernel_rfl)
def P__law_some_ties_L1 : Ss :=
    (.cons (.asg (.g (.tup (.cons (.name 8) (.cons (.name 9) .nil)))) (.tup (.cons (.call (sl 7411108241508710112) (.cons (.var 0) (.cons (.var 1) .nil)) .nil) (.cons (.call (sl 7411108241508710112) (.cons (.var 0) (.cons (.var 1) .nil)) .nil) .nil))))
    (.cons (.asg (.g (.name 7)) (.call (sl 17666140400891498593826528) (.cons (.var 0) .nil) .nil))
    (.cons (.ifS (.cmp .Gt (.var 5) (.cst (.int 0))) (.cons (.asg (.g (.name 7)) (.bin .Add (.bin .Sub (.ix (.var 3) (.var 9)) (.ix (.var 3) (.var 8))) (.ix (.lst (.cons (.cst (.int 0)) (.cons (.cst (.int 0)) (.cons (.cst (.int 1)) (.cons (.bi .abs (.cons (.var 7) .nil)) .nil))))) (.call (sl 7411108241508710112) (.cons (.var 0) (.cons (.cst (.int 4)) .nil)) .nil))))
    .nil) .nil)
    (.cons (.expr (.bm (.var 6) .append (.cons (.tup (.cons (.var 8) (.cons (.var 9) (.cons (.bi .max2 (.cons (.bin .Sub (.cst (.int 0)) (.cst (.int 2000))) (.cons (.bi .min2 (.cons (.cst (.int 2000)) (.cons (.var 7) .nil))) .nil))) .nil)))) .nil)))
    .nil))))
/-- _law_some_ties: 0:_law_box_here 1:_law_many 2:_law_count 3:_law_ticks 4:_law_k 5:_law_form 6:_law_found 7:_law_number 8:_law_a 9:_law_b -/
def P__law_some_ties : FD := { ps := [(sl 1990466642053554134062773984), (sl 8853948731609364192), (sl 1087199845387928647392)], N := [(sl 1990466642053554134062773984), (sl 8853948731609364192), (sl 1087199845387928647392), (sl 1077750141665634989792), (sl 3736874825440), (sl 7991570735100901088), (sl 939625892901331449568), (sl 136716016479375560586976), (sl 3393277441760), (sl 3427637180128)], bd :=
    (.cons (.asg (.g (.tup (.cons (.name 5) (.cons (.name 6) .nil)))) (.tup (.cons (.call (sl 7411108241508710112) (.cons (.var 0) (.cons (.cst (.int 3)) .nil)) .nil) (.cons (.lst .nil) .nil))))
    (.cons (.asg (.g (.name 3)) (.lc (.name 4) (.rng1 (.var 1)) .no (.call (sl 7411108241508710112) (.cons (.var 0) (.cons (.ix (.lst (.cons (.cst (.int 4)) (.cons (.cst (.int 30)) .nil))) (.call (sl 7411108241508710112) (.cons (.var 0) (.cons (.cst (.int 2)) .nil)) .nil)) .nil)) .nil) [((sl 3736874825440), 4)]))
    (.cons (.forS (.name 4) (.rng1 (.var 2)) P__law_some_ties_L1)
    (.cons (.retE (.var 6))
    .nil)))) }
theorem cl__law_some_ties_3 {Γ : Prog} [Has Γ ((sl 289191213341004827581170104032), none) P__law_some_ties] {n : Nat} {a0 a1 a2 : T} : cl Γ n ((sl 289191213341004827581170104032), none) [a0, a1, a2] [] = clB Γ n P__law_some_ties [a0, a1, a2] := cl_via (by kernel_rfl)
/-- _law_some_knots: 0:_law_box_here 1:_law_many -/
def P__law_some_knots : FD := { ps := [(sl 1990466642053554134062773984)], N := [(sl 1990466642053554134062773984), (sl 8853948731609364192)], bd :=
    (.cons (.asg (.g (.name 1)) (.bin .Add (.cst (.int 1)) (.call (sl 7411108241508710112) (.cons (.var 0) (.cons (.ix (.lst (.cons (.cst (.int 3)) (.cons (.cst (.int 6)) (.cons (.cst (.int 9)) (.cons (.cst (.int 20)) .nil))))) (.call (sl 7411108241508710112) (.cons (.var 0) (.cons (.cst (.int 4)) .nil)) .nil)) .nil)) .nil)))
    (.cons (.retE (.tup (.cons (.var 1) (.cons (.call (sl 289191213341004827581170104032) (.cons (.var 0) (.cons (.var 1) (.cons (.call (sl 7411108241508710112) (.cons (.var 0) (.cons (.ix (.lst (.cons (.cst (.int 4)) (.cons (.bin .Add (.bin .Mult (.cst (.int 2)) (.var 1)) (.cst (.int 2))) (.cons (.bin .Mult (.cst (.int 4)) (.var 1)) .nil)))) (.call (sl 7411108241508710112) (.cons (.var 0) (.cons (.cst (.int 3)) .nil)) .nil)) .nil)) .nil) .nil))) .nil) .nil))))
    .nil)) }
theorem cl__law_some_knots_1 {Γ : Prog} [Has Γ ((sl 37053728673122679244889846757088), none) P__law_some_knots] {n : Nat} {a0 : T} : cl Γ n ((sl 37053728673122679244889846757088), none) [a0] [] = clB Γ n P__law_some_knots [a0] := cl_via (by kernel_rfl)
abbrev n_Knots : Str := sl 31385728972
abbrev n_how_many : Str := sl 69171474465699945
abbrev n_tied : Str := sl 213497205
abbrev K_Knots___init__ : Str × Option Str := ((sl 31385728972), some (sl 54469456771592288))
abbrev K_Knots___len__ : Str × Option Str := ((sl 31385728972), some (sl 425541011992672))
abbrev K_Knots_tie : Str × Option Str := ((sl 31385728972), some (sl 1684853))
abbrev K_Knots_ties : Str × Option Str := ((sl 31385728972), some (sl 244954485))
abbrev K__law_numbers : Str × Option Str := ((sl 17666140400891498593826528), none)
abbrev K__law_some_ties : Str × Option Str := ((sl 289191213341004827581170104032), none)
abbrev K__law_some_knots : Str × Option Str := ((sl 37053728673122679244889846757088), none)
local macro_rules | `(tactic| walk_at "rem") => `(tactic| first | with_reducible exact Rem.head | (with_reducible apply Rem.tail; walk_at "rem"))
local macro_rules | `(tactic| walk_at "cond") => `(tactic| first | with_reducible exact Nat.zero_le _ | with_reducible assumption | omega | (simp only [big]; omega) | exact mulOk_l (by omega) | exact mulOk_r (by omega) | exact divOk_of (by omega) (by omega) | exact rngOk_i (by omega) | (simp only [big, List.length_cons, List.length_nil, List.length_map, List.length_append] <;> omega) | (refine ⟨by walk_at "cond", ?_⟩; walk_at "cond") | (refine .inl ?_; walk_at "cond") | (refine .inr ?_; walk_at "cond"))
local macro_rules | `(tactic| walk_at "sub") => `(tactic| first | with_reducible exact Sub.rfl | (with_reducible apply Sub.cons; walk_at "rem"; walk_at "sub") | (with_reducible apply Sub.drop; walk_at "sub"))
local macro_rules | `(tactic| walk_at "nf") => `(tactic| (simp only [List.mem_cons, List.not_mem_nil, sl_inj, Nat.reduceEqDiff, or_self, or_false, not_false_eq_true]))
local macro_rules | `(tactic| walk_at "ev") => `(tactic| simp only [↓w_ev_var1, ↓w_ev_cst2, ↓w_ev_glo3, ↓w_ev_tup4, ↓w_ev_lst5, ↓w_ev_dic6, ↓w_ev_dict07, ↓w_ev_bin8, ↓w_ev_neg9, ↓w_ev_cmp10, ↓w_ev_chain11, ↓w_ev_and212, ↓w_ev_or213, ↓w_ev_not14, ↓w_ev_ite15, ↓w_ev_fld16, ↓w_ev_ix17, ↓w_ev_slc18, ↓w_ev_call19, ↓w_ev_new20, ↓w_ev_meth21, ↓w_ev_bi22, ↓w_ev_bm23, ↓w_ev_isi24, ↓w_ev_lc25, ↓w_ev_lrg126, ↓w_ev_lrg227, ↓w_ev_lockE28, ↓w_ev_nev29, ↓w_evs_nil1, ↓w_evs_cons2, ↓w_evK_nil1, ↓w_evK_cons2, ↓w_evKV_nil1, ↓w_evKV_cons2, ↓w_evP_no1, ↓w_evP_yes2, ↓w_evC_no1, ↓w_evC_yes2, ↓w_evB_cmp1, ↓w_evB_chain2, ↓w_evB_and23, ↓w_evB_or24, ↓w_evB_not5, ↓w_evB_var6, ↓w_evB_cst7, ↓w_evB_glo8, ↓w_evB_fld9, ↓w_evB_ix10, ↓w_evB_call11, ↓w_evB_meth12, ↓w_evB_bi13, ↓w_evB_bm14, ↓w_evB_isi15, ↓w_evI_seq1, ↓w_evI_rng12, ↓w_evI_rng23, ↓w_evI_dkeys4, ↓w_evI_dvals5, ↓w_evI_ditms6, ↓w_evI_enum7, ↓w_evI_zip8, ↓w_ex_asg1, ↓w_ex_aug2, ↓w_ex_aug3, ↓w_ex_expr5, ↓w_ex_retE6, ↓w_ex_ret07, ↓w_ex_ifS8, ↓w_ex_forS9, ↓w_ex_whileS10, ↓w_ex_pass11, ↓w_ex_doc12, ↓w_ex_brk13, ↓w_ex_cont14, ↓w_ex_nev15, ↓w_ex_lockS16, ↓w_exs_nil1, ↓w_exs_cons2, ↓W_bnd, ↓W_bndR, ↓W_ok, ↓W_ret, ↓W_fl, ↓W_fail, ↓W_iteM, ↓W_ite, Wif_t, Wif_f, ↓body_r, getV_app, opt_app, rdH_app, wrH_app, optR_some, optR_none, wrR_none, optR_ite, wrR_ite, obind_ite, omap_ite, optR_map, Option.bind_some, Option.bind_none, Option.map_some, Option.map_none, id_eq, Option.isSome_some, Option.isSome_none, Option.isNone_some, Option.isNone_none,
 asgG_name, asgG_tup, asgG_kt, asgGs_nil, asgGs_cons, asgT_g, asgT_fld, asgT_ix, List.getElem?_cons_zero, List.getElem?_cons_succ, List.set_cons_zero, List.set_cons_succ, List.length_cons, List.length_nil, List.map_cons, List.map_nil, List.replicate_succ, List.replicate_zero, List.cons_append, List.nil_append, List.append_nil, List.zip_cons_cons, List.zip_nil_left, List.zip_nil_right, ksN,
 binOp_int, binI_add, binI_sub, binI_mul, binI_div, binI_mod, binI_pow, cmp_lt, cmp_le, cmp_gt, cmp_ge, cmp_eq, cmp_ne, cmp_is, cmp_isn, cmp_in, cmp_nin, tru_app, truH_bl, truH_int, truH_non, truH_r, truO_lst, truO_rol, ixT_app, ixH_tup, ixH_kt, ixH_ref, ixO_lst, ixO_rol, ixO_dK, keyOf_int, keyOf_str, atV_int, at0, at1, at2, at3, at4, at5, at6,
 eqH_int, eqH_bl, eqH_non, eqH_intnon, eqH_nonint, fldT_r, fldO_ins, mcls_r, mclO_ins, setFld_r, setO_ins, setIx_r, sixO_lst, sixO_dK, lenH_r, lenH_tup, lenH_kt, lenO_lst, lenO_rol, lenO_dK, inH_int_r, inO_ints, walkT_t, walkT_kt, blsOf_map, all_map, any_map, isiH_r, tyOf_r, tyOf_non, tyOf_bl, tyOf_int, tyOf_str, tyOf_tup, tyOf_kt, kdO_lst, kdO_dK, kdO_ins, kdIn_ty, kdIn_i, isiOne_tt, isiOne_tc, isiOne_ct, isiOne_cc, List.any_cons, List.any_nil, walkT_r, lwalk_r, items_lst, items_rol, wlist_lst, wlst_r, lstOf_r, seqOf_r,
 getF_nil, getF_cons, putF_nil, putF_cons, kget_n, kget_c, kput_G, kputG_nil, kputG_cons, addLL_r, mulLI_r, addTT_r, addSS_r, slT_r, slT_t, len_r, abs_r, sum_r, all_r, any_r, list_r, list_t, list_kt, tuple_r, tuple_t, bmK_app, bmK_clr, bmK_pop, bmK_ext, bmK_upd, bmK_get, bmK_dpop, dicO_dK, inO_dK, inH_str_r, inO_dKs, truO_dK, dvT_r, diT_r, dkT_r, dvO_lk, diO_lk, dkO_lk, extend_r, append_r, clear_r, min2_app, max2_app, int_app, intb_app, lrgT_app, atN,
 Phi_call, Phi_okF, Phi_has, Phi_cls, hasM_i, okF_i, sl_inj, initS, decide_eq_true_eq, decide_true, decide_false, Bool.not_true, Bool.not_false, Bool.not_eq_true, Bool.not_eq_eq_eq_not, decide_not, decide_eq_false_iff_not, bne_iff_ne, ne_eq, not_false_eq_true, not_true_eq_false, reduceCtorEq, Sum.inl.injEq, Sum.inr.injEq, T.int.injEq, T.bl.injEq, and_self, and_true, true_and, and_false, false_and, or_true, true_or, or_false, false_or, if_true, if_false, Bool.true_eq_false, Bool.false_eq_true, Bool.or_true, Bool.or_false, Bool.true_or, Bool.false_or, Bool.and_true, Bool.true_and, Bool.and_false, Bool.false_and, beq_ff, eq_self, Nat.le_refl, Int.zero_add, partT, List.isEmpty_cons, List.isEmpty_nil, dicOf_r, dicPut_nil, dicPut_cons, Nat.reduceEqDiff, Nat.reduceSub, Nat.reduceAdd, Nat.reduceMul, Nat.reduceLT, Nat.reduceLeDiff, Int.reduceEq, Int.reduceNe, Int.reduceLT, Int.reduceLE, Int.reduceAdd, Int.reduceSub, Int.reduceMul, Int.reduceToNat, Int.reduceNeg, Int.reduceDiv, Int.reduceMod, Int.reducePow, Nat.zero_add, Nat.sub_self, Nat.reduceBEq, Int.ofNat_eq_natCast, reduceIte, List.length_map, List.length_append, List.length_set, wipeN_nil, wipeN_cons, blsOf_t, all_tt, List.length_replicate, cut1, flat_rep, zipM_rr, zipM_tt, mulTI_r, slT_s, dkO1_dK, listD_r, dictD_r, sorted_r, str_i, str_s, bmK_dclr, bmK_join, cmp_le2, cmp_lt2, ixT_s, ixO_lkK, ↓w_ev_olen, ↓w_ev_oeq, ↓w_evB_oeq, bin_shl, bin_shr, bin_and, upper_s, strip_s, index_s, bmK_upper, bmK_strip, bmK_index, bmK_popi, ↓w_ev_lzip, ↓w_ev_lc2, ↓w_evI_zipS, ↓w_ex_asgM, ↓w_ex_forM, gsLen_nil, gsLen_cons, asgM_g, asgM_pair, asgM_star, asgM_starK, zipU_tt, zipM_kt, List.take_succ_cons, List.drop_succ_cons, List.take_zero, List.drop_zero, ↓w_evI_sgn, ↓w_evI_zipN, gdOk_nil, zipT_nil, zipT_nil2, zipT_cons, blsOf_nil, blsOf_cons, List.all_cons, List.all_nil, w_ev_maxd, w_ev_revE
, addT0_n, cl_Keeper_asked_1_term_reading, cl_Keeper_asked_3, cl_Keeper_copied_1, cl_Keeper_granted_1, cl_Keeper_init_1_keeps_hands, cl_Keeper_init_3, cl_Keeper_kept_term_1, cl_Keeper_lets_by_3, cl_Keeper_roused_1_reading, cl_Keeper_roused_2, cl_Keeper_until_1, cl_Knots_init_1_ties_many, cl_Knots_init_2, cl_Knots_init_2_ties, cl_Knots_init_3, cl_Knots_len_1, cl_Knots_tie_1_most_b_a, cl_Knots_tie_4, cl_Knots_ties_1, cl__law_alike_2, cl__law_box_2, cl__law_numbers_1, cl__law_some_knots_1, cl__law_some_ties_3, cl__law_take_2, cl_hand_by_0_term_hands, cl_hand_by_2, cl_term_by_0_count_hand_hands, cl_term_by_0_count_hands_hand, cl_term_by_3, cl_v2__law_alike_2, cl_v2__law_box_2, cl_v3__law_box_2, (‹Sat _ _›).facts])
local macro_rules | `(tactic| walk_at "H") => `(tactic| exact (‹Sat _ _›).sub (by walk_at "sub"))
local macro_rules | `(tactic| walk_at "call") => `(tactic| fail)
local macro_rules | `(tactic| walk_at "st") => `(tactic| first | walk_at "ev" | (with_reducible refine W_neu (by assumption) ?_; intro _ _ _) | (with_reducible apply W_wr; assumption; walk_at "rem"; intro _ _) | walk_at "call" | (with_reducible apply W_pos; walk_at "cond") | (with_reducible apply W_neg; walk_at "cond"))
local macro_rules | `(tactic| walk_at "go") => `(tactic| repeat walk_at "st")
/-! knots -/
abbrev Tie := Int × Int × Int
abbrev tieT (x : Tie) : T := .tup [.int x.1, .int x.2.1, .int x.2.2]
abbrev knF (m : Int) (k : Nat) : List (Str × T) := [(n_how_many, .int m), (n_tied, .ref k)]
abbrev knQ (l : Nat) (m : Int) (ts : List Tie) (k : Nat) : List HP := [.one l (.ins n_Knots (knF m k)), .one k (.lst (ts.map tieT))]
def knP (l : Nat) (m : Int) (ts : List Tie) : Fr → Prop := fun f => ∃ k, True ∧ OnL (knQ l m ts k) f
theorem kn_opn {h : LH} {l : Nat} {m : Int} {ts : List Tie} {Ps R : List HP} (H : Sat h Ps) (r : Rem Ps (.abs (knP l m ts)) R) : ∃ k, Sat h (.one l (.ins n_Knots (knF m k)) :: .one k (.lst (ts.map tieT)) :: R) := by
  obtain ⟨k, _, H⟩ := (H.rem r).opn (Qs := knQ l m ts) (φ := fun _ => True)
  exact ⟨k, H⟩
theorem kn_cls {h : LH} {l k : Nat} {m : Int} {ts : List Tie} {R : List HP} (H : Sat h (.one l (.ins n_Knots (knF m k)) :: .one k (.lst (ts.map tieT)) :: R)) : Sat h (.abs (knP l m ts) :: R) :=
  Sat.cls (Qs := knQ l m ts) (φ := fun _ => True) k trivial H
theorem knP_c {l : Nat} {m : Int} {ts : List Tie} : IsC l n_Knots [n_how_many, n_tied] (knP l m ts) := fun f ⟨k, _, g, r, e, a, b⟩ => by
  have a' : g = _ := a
  subst a'; subst e
  exact ⟨_, List.mem_append_left _ (List.mem_singleton.mpr rfl), rfl⟩
section
variable {Γ : Prog} {n l b : Nat} {m : Int} {ts : List Tie} {h : LH} {Q : T → LH → Prop} {X : Ex → LH → Prop} {t : WT Q X} {Ps R : List HP}
theorem klen_s (H : Sat h Ps) (r : Rem Ps (.abs (knP l m ts)) R) (q : Q (.int ((ts.length : Nat) : Int)) h) : W (clB Γ (n + 1) P_Knots___len__ [.ref l] h) Q X t := by
  obtain ⟨k, H⟩ := kn_opn H r
  rw [clB_body]; simp only [P_Knots___len__]
  walk_at "go"
  exact q
theorem tie_s {a c w : Int} (H : Sat h Ps) (r : Rem Ps (.abs (knP l m ts)) R) (hl : ts.length < 100000) (q : ∀ h', Sat h' (.abs (knP l m (ts ++ [(a, c, w)])) :: R) → Q .non h') : W (clB Γ (n + 1) P_Knots_tie [.ref l, .int a, .int c, .int w] h) Q X t := by
  obtain ⟨k, H⟩ := kn_opn H r
  rw [clB_body]; simp only [P_Knots_tie]
  walk_at "go"
  refine q _ (kn_cls (k := k) ?_)
  rw [List.map_append]
  exact (‹Sat _ _›).sub (by simp only [List.map_cons, List.map_nil, tieT]; walk_at "sub")
theorem ties_s (H : Sat h Ps) (r : Rem Ps (.abs (knP l m ts)) R) (q : ∀ k h', Sat h' (.one k (.lst (ts.map tieT)) :: Ps) → Q (.ref k) h') : W (clB Γ (n + 1) P_Knots_ties [.ref l] h) Q X t := by
  have H0 := H
  obtain ⟨k, H⟩ := kn_opn H r
  rw [clB_body]; simp only [P_Knots_ties]
  walk_at "ev"
  refine W_neu H0 ?_
  intro m h' H2
  walk_at "go"
  exact q _ _ H2
local macro_rules | `(tactic| walk_at "call") => `(tactic| first | (with_reducible apply tie_s; assumption; walk_at "rem"; walk_at "cond"; intro _ _) | (with_reducible apply (W_mc (ic := knP_c)); assumption; walk_at "rem"; walk_at "nf"))
theorem kloop_s [Has Γ K_Knots_tie P_Knots_tie] {gd : Gd} {v : T} {a3 a4 a5 : Option T} (hl : ts.length < 100000) (hg : ∀ h ts', Sat h (.abs (knP l m ts') :: R) → gdOk h gd = true) (H : Sat h (.abs (knP l m []) :: R)) {Q : Fl → LH → Prop} {t : WT Q X}
    (q : ∀ h' a3 a4 a5, Sat h' (.abs (knP l m ts) :: R) → Q (.nx [some (.ref l), some (.int m), some v, a3, a4, a5]) h') :
    W (forGo gd (.tup (.cons (.name 3) (.cons (.name 4) (.cons (.name 5) .nil)))) (exs (Phi Γ (n + 1)) P_Knots___init___L1) (ts.map tieT) [some (.ref l), some (.int m), some v, a3, a4, a5] h) Q X t := by
  refine W_for (fun i s h => ∃ a3 a4 a5, s = [some (.ref l), some (.int m), some v, a3, a4, a5] ∧ Sat h (.abs (knP l m (ts.take i)) :: R)) ⟨_, _, _, rfl, H⟩ ?_ ?_
  · rintro i w s h e ⟨a3, a4, a5, rfl, H⟩
    obtain ⟨x, ex, rfl⟩ := get_map e
    have hi := lt_of_get ex
    have hl2 : (ts.take i).length < 100000 := by rw [List.length_take]; omega
    refine ⟨hg _ _ H, _, rfl, ?_⟩
    simp only [P_Knots___init___L1]
    walk_at "go"
    refine ⟨_, _, _, rfl, ?_⟩
    rw [take_succ' ex]
    exact ‹Sat _ _›
  · rintro s h ⟨a3, a4, a5, rfl, H⟩
    refine ⟨hg _ _ H, q _ _ _ _ ?_⟩
    rw [List.length_map, List.take_length] at H
    exact H
theorem knots_r [Has Γ K_Knots_tie P_Knots_tie] [HasF Γ n_Knots n_how_many] [HasF Γ n_Knots n_tied] {k : Nat} {R2 : List HP} (hl : ts.length < 100000) (H : Sat h Ps) (r : Rem Ps (.one l (.ins n_Knots [])) R) (r2 : Rem R (.one k (.lst (ts.map tieT))) R2) (q : ∀ h', Sat h' (.abs (knP l m ts) :: R) → Q .non h') : W (clB Γ (n + 2) P_Knots___init__ [.ref l, .int m, .ref k] h) Q X t := by
  have H1 := H.rem r
  rw [clB_body]; simp only [P_Knots___init__]
  have e1 := H1.get (.tail r2)
  walk_at "ev"
  have H2 := H1
  walk_at "go"
  have H3 := (‹Sat _ (.one l _ :: _)›)
  have ge := H3.get (.tail (.tail r2))
  rw [ge]
  walk_at "go"
  refine kloop_s (ts := ts) (m := m) (R := R) hl (fun h ts' H => gd_one (H.get (.tail r2))) (kn_cls (ts := []) H3) fun h' a3 a4 a5 H' => ?_
  walk_at "go"
  exact q _ H'
theorem knots_t [Has Γ K_Knots_tie P_Knots_tie] [HasF Γ n_Knots n_how_many] [HasF Γ n_Knots n_tied] (hl : ts.length < 100000) (H : Sat h Ps) (r : Rem Ps (.one l (.ins n_Knots [])) R) (q : ∀ h', Sat h' (.abs (knP l m ts) :: R) → Q .non h') : W (clB Γ (n + 2) P_Knots___init__ [.ref l, .int m, .tup (ts.map tieT)] h) Q X t := by
  have H1 := H.rem r
  rw [clB_body]; simp only [P_Knots___init__]
  walk_at "go"
  refine kloop_s (ts := ts) (m := m) (R := R) hl (fun h ts' H => rfl) (kn_cls (ts := []) (by assumption)) fun h' a3 a4 a5 H' => ?_
  walk_at "go"
  exact q _ H'
theorem knots_k [Has Γ K_Knots_tie P_Knots_tie] [HasF Γ n_Knots n_how_many] [HasF Γ n_Knots n_tied] (H : Sat h Ps) (r : Rem Ps (.one l (.ins n_Knots [])) R) (q : ∀ h', Sat h' (.abs (knP l m []) :: R) → Q .non h') : W (clB Γ (n + 2) P_Knots___init__ [.ref l, .int m, .kt []] h) Q X t := by
  have H1 := H.rem r
  rw [clB_body]; simp only [P_Knots___init__]
  walk_at "go"
  refine kloop_s (ts := []) (m := m) (R := R) (by simp) (fun h ts' H => rfl) (kn_cls (ts := []) (by assumption)) fun h' a3 a4 a5 H' => ?_
  walk_at "go"
  exact q _ H'
/-! ties drawn -/
local macro_rules | `(tactic| walk_at "call") => `(tactic| first | (with_reducible apply take_s; assumption; walk_at "rem"; walk_at "cond"; walk_at "cond"; intro _ _ _ _ _) | (with_reducible apply (W_atB 3 2000); (with_unfolding_all rfl); walk_at "cond"; walk_at "cond"; intro _ _ _))
theorem numbers_s [Has Γ K__law_take P__law_take] (H : Sat h Ps) (r : Rem Ps (.abs (bx b)) R) (q : ∀ i h', -2000 ≤ i → i ≤ 2000 → Sat h' Ps → Q (.int i) h') : W (clB Γ (n + 2) P__law_numbers [.ref b] h) Q X t := by
  have H0 := H.rem r
  have p := r.perm
  rw [clB_body]; simp only [P__law_numbers]
  walk_at "go"
  exact q _ _ (by omega) (by omega) (‹Sat _ (.one _ _ :: _)›.drop.perm p.symm)
abbrev tieOk (m : Int) (x : Tie) : Prop := 0 ≤ x.1 ∧ x.1 < m ∧ 0 ≤ x.2.1 ∧ x.2.1 < m ∧ -2000 ≤ x.2.2 ∧ x.2.2 ≤ 2000
local macro_rules | `(tactic| walk_at "call") => `(tactic| first | (with_reducible apply take_s; assumption; walk_at "rem"; walk_at "cond"; walk_at "cond"; intro _ _ _ _ _) | (with_reducible apply numbers_s; assumption; walk_at "rem"; intro _ _ _ _ _) | (with_reducible apply (W_atB 4 30); (with_unfolding_all rfl); walk_at "cond"; walk_at "cond"; intro _ _ _) | (with_reducible apply W_atMI; walk_at "cond"; walk_at "cond"; intro _ _) | (with_reducible apply W_atI; (with_unfolding_all rfl); walk_at "cond"; walk_at "cond"; intro _ _))
theorem someties_s [Has Γ K__law_take P__law_take] [Has Γ K__law_numbers P__law_numbers] {c : Int} (m0 : 1 ≤ m) (m1 : m ≤ 1000) (c0 : 0 ≤ c) (c1 : c ≤ 10000) (H : Sat h (.abs (bx b) :: R)) (q : ∀ k (ts : List Tie) h', ts.length = c.toNat → (∀ x ∈ ts, tieOk m x) → Sat h' (.one k (.lst (ts.map tieT)) :: .abs (bx b) :: R) → Q (.ref k) h') : W (clB Γ (n + 3) P__law_some_ties [.ref b, .int m, .int c] h) Q X t := by
  rw [clB_body]; simp only [P__law_some_ties]
  walk_at "go"
  rename_i fo _ _ _ _ lf h0 H0
  refine W_lc (fun i xs h => ∃ ks : List Int, xs = ks.map T.int ∧ ks.length = i ∧ Sat h (.one lf (.lst []) :: .abs (bx b) :: R)) ⟨[], rfl, rfl, H0⟩ ?_ ?_
  · rintro i v xs h e ⟨ks, rfl, hk, H⟩
    refine ⟨rfl, _, rfl, ?_⟩
    walk_at "go"
    rename_i j h2 j0 j1 H2
    refine ⟨ks ++ [j], by simp, by simp [hk], ?_⟩
    exact H2.sub (by walk_at "sub")
  · rintro xs h ⟨ks, rfl, hk, H⟩
    refine ⟨rfl, ?_⟩
    have hl : (rngT 0 m.toNat).length = m.toNat := by unfold rngT; simp
    rw [hl] at hk
    walk_at "go"
    rename_i lt h3 H3
    refine W_rng (fun j s h => ∃ a4 a7 a8 a9, ∃ ts : List Tie, s = [some (.ref b), some (.int m), some (.int c), some (.ref lt), a4, some (.int fo), some (.ref lf), a7, a8, a9] ∧ ts.length = j ∧ (∀ x ∈ ts, tieOk m x) ∧ Sat h (.one lf (.lst (ts.map tieT)) :: .one lt (.lst (ks.map T.int)) :: .abs (bx b) :: R)) ⟨_, _, _, _, [], rfl, rfl, by simp, H3.sub (by simp only [List.map_nil]; walk_at "sub")⟩ ?_ ?_
    · rintro j s h hj ⟨a4, a7, a8, a9, ts, rfl, hts, ok, H⟩
      simp only [P__law_some_ties_L1]
      walk_at "go"
      rename_i x1 _ x10 x11 _ x2 _ x20 x21 _ x3 _ _ _ HX
      have okk : ∀ z : Int, ∀ x ∈ ts ++ [((x1, x2, (if (if z < 2000 then z else 2000) > -2000 then (if z < 2000 then z else 2000) else -2000)) : Tie)], tieOk m x := by
        intro z x hx
        rcases List.mem_append.mp hx with hx | hx
        · exact ok x hx
        · rw [List.mem_singleton.mp hx]
          refine ⟨x10, x11, x20, x21, ?_⟩
          simp only
          split <;> split <;> omega
      refine W_or (fun c1 => ?_) (fun c1 => ?_)
      · walk_at "go"
        refine ⟨_, _, _, _, ts ++ [(x1, x2, ?z)], rfl, ?h1, ?h2, ?h3⟩
        case h3 =>
          rw [List.map_append]
          exact (‹Sat _ (.one lf _ :: _)›).sub (by simp only [List.map_cons, List.map_nil, tieT]; walk_at "sub")
        case h1 => rw [List.length_append, hts]; rfl
        case h2 => exact okk _
      · walk_at "go"
        refine ⟨_, _, _, _, ts ++ [(x1, x2, ?z2)], rfl, ?g1, ?g2, ?g3⟩
        case g3 =>
          rw [List.map_append]
          exact (‹Sat _ (.one lf _ :: _)›).sub (by simp only [List.map_cons, List.map_nil, tieT]; walk_at "sub")
        case g1 => rw [List.length_append, hts]; rfl
        case g2 => exact okk _
    · rintro s h ⟨a4, a7, a8, a9, ts, rfl, hts, ok, H⟩
      walk_at "go"
      exact q _ ts _ hts ok (H.sub (by walk_at "sub"))
local macro_rules | `(tactic| walk_at "call") => `(tactic| first | (with_reducible apply take_s; assumption; walk_at "rem"; walk_at "cond"; walk_at "cond"; intro _ _ _ _ _) | (with_reducible apply someties_s; walk_at "cond"; walk_at "cond"; walk_at "cond"; walk_at "cond"; walk_at "H"; intro _ _ _ _ _ _) | (with_reducible apply (W_atB 3 20); (with_unfolding_all rfl); walk_at "cond"; walk_at "cond"; intro _ _ _) | (with_reducible apply W_atI; (with_unfolding_all rfl); walk_at "cond"; walk_at "cond"; intro _ _))
theorem someknots_s [Has Γ K__law_take P__law_take] [Has Γ K__law_numbers P__law_numbers] [Has Γ K__law_some_ties P__law_some_ties] (H : Sat h (.abs (bx b) :: R)) (q : ∀ m k (ts : List Tie) h', 1 ≤ m → m ≤ 20 → ts.length ≤ 100 → (∀ x ∈ ts, tieOk m x) → Sat h' (.one k (.lst (ts.map tieT)) :: .abs (bx b) :: R) → Q (.tup [.int m, .ref k]) h') : W (clB Γ (n + 4) P__law_some_knots [.ref b] h) Q X t := by
  rw [clB_body]; simp only [P__law_some_knots]
  walk_at "go"
  rename_i m0 _ _ _ _ i _ _ _ _ l2 _ _ j _ _ _ _ jj mj
  simp only [List.mem_cons, T.int.injEq, List.not_mem_nil, or_false] at mj
  have j0 : 4 ≤ jj ∧ jj ≤ 84 := by omega
  walk_at "go"
  rename_i ts _ hts ok _
  exact q _ _ ts _ (by omega) (by omega) (by omega) ok ((‹Sat _ (.one _ (.lst (ts.map tieT)) :: _)›).sub (by walk_at "sub"))
end
end Y

/-! PK: knots in plain Lean: moved, settled, rings. -/
namespace Y
namespace PK
abbrev Tie := Int × Int × Int
def upI {α : Type} (f : Int → α) (b : Int) (x : α) : Int → α := fun i => if i = b then x else f i
theorem upI_s {α : Type} {f : Int → α} {b : Int} {x : α} : upI f b x b = x := if_pos rfl
theorem upI_n {α : Type} {f : Int → α} {b i : Int} {x : α} (h : i ≠ b) : upI f b x i = f i := if_neg h
structure KI where
  t : Int → Int
  bf : Int → Option Tie
  last : Option Int
def mv1 (s : KI) (e : Tie) : KI := if s.t e.1 + e.2.2 < s.t e.2.1 then ⟨upI s.t e.2.1 (s.t e.1 + e.2.2), upI s.bf e.2.1 (some e), some e.2.1⟩ else s
def mvs (ts : List Tie) (t : Int → Int) (bf : Int → Option Tie) : KI := ts.foldl mv1 ⟨t, bf, none⟩
/-- so many rounds at most; whether the last one moved nothing -/
def rnd (ts : List Tie) : Nat → (Int → Int) → (Int → Option Tie) → Bool × (Int → Int) × (Int → Option Tie)
  | 0, t, bf => (false, t, bf)
  | k + 1, t, bf => if (mvs ts t bf).last = none then (true, (mvs ts t bf).t, (mvs ts t bf).bf) else rnd ts k (mvs ts t bf).t (mvs ts t bf).bf
def slackE (t : Int → Int) (e : Tie) : Bool := decide (t e.1 + e.2.2 < t e.2.1)
def pre (bf : Int → Option Tie) (v : Int) : Int := match bf v with
  | some e => e.1
  | none => v
theorem pre_at {bf : Int → Option Tie} {v : Int} {e : Tie} (h : bf v = some e) : pre bf v = e.1 := by
  unfold pre
  rw [h]
def itr (f : Int → Int) : Nat → Int → Int
  | 0, x => x
  | n + 1, x => itr f n (f x)
theorem itr_add {f : Int → Int} : ∀ {a b : Nat} {x : Int}, itr f (a + b) x = itr f b (itr f a x)
  | 0, b, x => by rw [Nat.zero_add]; rfl
  | a + 1, b, x => by
    rw [Nat.add_right_comm]
    exact itr_add (a := a) (b := b) (x := f x)
theorem itr_s {f : Int → Int} {a : Nat} {x : Int} : itr f (a + 1) x = f (itr f a x) := itr_add (a := a) (b := 1)
/-- paths back along before: from v, so many ties, to z, their sum -/
inductive PP (bf : Int → Option Tie) : Int → Nat → Int → Int → Prop
  | nil (v : Int) : PP bf v 0 v 0
  | cons {v z s : Int} {k : Nat} {e : Tie} : bf v = some e → PP bf e.1 k z s → PP bf v (k + 1) z (s + e.2.2)
/-- walks of so many ties to v, their sum -/
inductive WK (ts : List Tie) : Int → Nat → Int → Prop
  | nil (v : Int) : WK ts v 0 0
  | cons {s : Int} {k : Nat} {e : Tie} : e ∈ ts → WK ts e.1 k s → WK ts e.2.1 (k + 1) (s + e.2.2)
structure Inv (ts : List Tie) (t : Int → Int) (bf : Int → Option Tie) : Prop where
  pe : ∀ v e, bf v = some e → e ∈ ts ∧ e.2.1 = v ∧ t e.1 + e.2.2 ≤ t v
  z : ∀ v, bf v = none → t v = 0
  neg : ∀ v k s, 0 < k → PP bf v k v s → s < 0
section
variable {ts : List Tie} {t : Int → Int} {bf : Int → Option Tie} {e : Tie}
theorem PP.wk (hp : ∀ v e, bf v = some e → e ∈ ts ∧ e.2.1 = v) {v z s : Int} {k : Nat} (p : PP bf v k z s) : WK ts v k s := by
  induction p with
  | nil v => exact .nil v
  | @cons v z s k e h p ih =>
    obtain ⟨h1, h2⟩ := hp v e h
    have := WK.cons h1 ih
    rwa [h2] at this
/-- with one tie more, that isn't held -/
theorem more (I : Inv ts t bf) (he : t e.1 + e.2.2 < t e.2.1) {v z s : Int} {k : Nat} (p : PP (upI bf e.2.1 (some e)) v k z s) : t z + s ≤ t v ∧ (PP bf v k z s ∨ t z + s < t v) := by
  induction p with
  | nil v => exact ⟨by omega, .inl (.nil v)⟩
  | @cons v z s k e2 h p ih =>
    by_cases c : v = e.2.1
    · subst c
      rw [upI_s] at h
      cases h
      exact ⟨by omega, .inr (by omega)⟩
    · rw [upI_n c] at h
      have := (I.pe v e2 h).2.2
      refine ⟨by omega, ?_⟩
      rcases ih.2 with q | q
      · exact .inl (.cons h q)
      · exact .inr (by omega)
theorem more_neg (I : Inv ts t bf) (he : t e.1 + e.2.2 < t e.2.1) {v s : Int} {k : Nat} (hk : 0 < k) (p : PP (upI bf e.2.1 (some e)) v k v s) : s < 0 := by
  rcases (more I he p).2 with q | q
  · exact I.neg v k s hk q
  · omega
theorem relax (I : Inv ts t bf) (m : e ∈ ts) (he : t e.1 + e.2.2 < t e.2.1) : Inv ts (upI t e.2.1 (t e.1 + e.2.2)) (upI bf e.2.1 (some e)) := by
  have le : ∀ i, upI t e.2.1 (t e.1 + e.2.2) i ≤ t i := fun i => by
    by_cases c : i = e.2.1
    · subst c; rw [upI_s]; omega
    · rw [upI_n c]; omega
  refine ⟨fun v e2 h => ?_, fun v h => ?_, fun v k s hk p => more_neg I he hk p⟩
  · by_cases c : v = e.2.1
    · subst c
      rw [upI_s] at h
      cases h
      refine ⟨m, rfl, ?_⟩
      rw [upI_s]
      have := le e.1
      omega
    · rw [upI_n c] at h
      obtain ⟨h1, h2, h3⟩ := I.pe v e2 h
      refine ⟨h1, h2, ?_⟩
      rw [upI_n c]
      have := le e2.1
      omega
  · by_cases c : v = e.2.1
    · subst c; rw [upI_s] at h; cases h
    · rw [upI_n c] at h ⊢
      exact I.z v h
end
section
variable {ts : List Tie}
theorem fold_inv : ∀ (l : List Tie) (s : KI), (∀ e ∈ l, e ∈ ts) → Inv ts s.t s.bf → Inv ts (l.foldl mv1 s).t (l.foldl mv1 s).bf
  | [], s, _, I => I
  | e :: l, s, hl, I => by
    rw [List.foldl_cons]
    refine fold_inv l _ (fun x hx => hl x (List.mem_cons_of_mem _ hx)) ?_
    unfold mv1
    split
    · rename_i c
      exact relax I (hl e (List.mem_cons_self ..)) c
    · exact I
theorem mv1_le {s : KI} {e : Tie} (i : Int) : (mv1 s e).t i ≤ s.t i := by
  unfold mv1
  split
  · rename_i c
    by_cases h : i = e.2.1
    · subst h
      show upI _ _ _ _ ≤ _
      rw [upI_s]; omega
    · show upI _ _ _ _ ≤ _
      rw [upI_n h]; omega
  · omega
theorem fold_le : ∀ (l : List Tie) (s : KI) (i : Int), (l.foldl mv1 s).t i ≤ s.t i
  | [], s, i => Int.le_refl _
  | e :: l, s, i => Int.le_trans (fold_le l _ i) (mv1_le i)
theorem fold_rel : ∀ (l : List Tie) (s : KI), ∀ e ∈ l, (l.foldl mv1 s).t e.2.1 ≤ s.t e.1 + e.2.2
  | e :: l, s, x, hx => by
    rw [List.foldl_cons]
    rcases List.mem_cons.mp hx with rfl | hx
    · refine Int.le_trans (fold_le l _ _) ?_
      unfold mv1
      split
      · show upI _ _ _ _ ≤ _
        rw [upI_s]; omega
      · rename_i c; omega
    · exact Int.le_trans (fold_rel l _ x hx) (by have := mv1_le (s := s) (e := e) x.1; omega)
theorem last_some : ∀ (l : List Tie) (s : KI), s.last ≠ none → (l.foldl mv1 s).last ≠ none
  | [], s, h => h
  | e :: l, s, h => by
    rw [List.foldl_cons]
    refine last_some l _ ?_
    unfold mv1
    split
    · exact fun z => by cases z
    · exact h
theorem fold_none : ∀ (l : List Tie) (s : KI), (l.foldl mv1 s).last = none → l.foldl mv1 s = s ∧ ∀ e ∈ l, s.t e.2.1 ≤ s.t e.1 + e.2.2
  | [], s, _ => ⟨rfl, fun e h => by cases h⟩
  | e :: l, s, h => by
    rw [List.foldl_cons] at h ⊢
    by_cases c : s.t e.1 + e.2.2 < s.t e.2.1
    · have hn : (mv1 s e).last ≠ none := by
        unfold mv1
        rw [if_pos c]
        exact fun z => by cases z
      exact absurd h (last_some l _ hn)
    · have e1 : mv1 s e = s := by unfold mv1; rw [if_neg c]
      rw [e1] at h ⊢
      obtain ⟨h1, h2⟩ := fold_none l s h
      refine ⟨h1, fun x hx => ?_⟩
      rcases List.mem_cons.mp hx with rfl | hx
      · omega
      · exact h2 x hx
/-- so many rounds bar all walks of so many ties -/
def Rn (ts : List Tie) (k : Nat) (t : Int → Int) : Prop := ∀ v j s, j ≤ k → WK ts v j s → t v ≤ s
theorem rn_next {k : Nat} {t : Int → Int} {bf : Int → Option Tie} (r : Rn ts k t) : Rn ts (k + 1) (mvs ts t bf).t := by
  intro v j s hj w
  cases w with
  | nil => exact Int.le_trans (fold_le ts _ _) (r v 0 0 (by omega) (.nil v))
  | cons m w2 =>
    have h1 := fold_rel ts ⟨t, bf, none⟩ _ m
    have h2 := r _ _ _ (by omega) w2
    show (ts.foldl mv1 ⟨t, bf, none⟩).t _ ≤ _
    have : (KI.mk t bf none).t = t := rfl
    rw [this] at h1
    omega
theorem rnd_ok : ∀ (k : Nat) (t : Int → Int) (bf : Int → Option Tie) (j : Nat), Inv ts t bf → Rn ts j t → Inv ts (rnd ts k t bf).2.1 (rnd ts k t bf).2.2 ∧ ((rnd ts k t bf).1 = true → ∀ e ∈ ts, (rnd ts k t bf).2.1 e.2.1 ≤ (rnd ts k t bf).2.1 e.1 + e.2.2) ∧ ((rnd ts k t bf).1 = false → Rn ts (j + k) (rnd ts k t bf).2.1)
  | 0, t, bf, j, I, r => ⟨I, (fun h => Bool.noConfusion h), fun _ => r⟩
  | k + 1, t, bf, j, I, r => by
    unfold rnd
    have I2 := fold_inv ts ⟨t, bf, none⟩ (fun _ h => h) I
    split
    · rename_i c
      obtain ⟨h1, h2⟩ := fold_none ts ⟨t, bf, none⟩ c
      refine ⟨I2, fun _ => ?_, fun z => by cases z⟩
      show ∀ e ∈ ts, (ts.foldl mv1 ⟨t, bf, none⟩).t e.2.1 ≤ (ts.foldl mv1 ⟨t, bf, none⟩).t e.1 + e.2.2
      rw [h1]
      exact h2
    · obtain ⟨q1, q2, q3⟩ := rnd_ok k _ _ (j + 1) I2 (rn_next (bf := bf) r)
      refine ⟨q1, q2, fun z => ?_⟩
      have := q3 z
      rwa [show j + 1 + k = j + (k + 1) by omega] at this
theorem inv0 : Inv ts (fun _ => 0) (fun _ => none) := ⟨(fun v e h => nomatch h), fun _ _ => rfl, fun v k s hk p => by
  cases p with
  | nil => omega
  | cons h _ => cases h⟩
theorem rn0 : Rn ts 0 (fun _ => 0) := fun v j s hj w => by
  cases w with
  | nil => exact Int.le_refl _
  | cons _ _ => omega
end
/-! the chain back -/
theorem pigeonI : ∀ (m : Nat) (x : Nat → Int), (∀ i, i ≤ m → 0 ≤ x i ∧ x i < m) → ∃ i j, i < j ∧ j ≤ m ∧ x i = x j := by
  intro m
  induction m with
  | zero => intro x h; have := h 0 (Nat.le_refl _); omega
  | succ m ih =>
    intro x h
    by_cases c : ∃ i, i ≤ m ∧ x i = x (m + 1)
    · obtain ⟨i, hi, e⟩ := c
      exact ⟨i, m + 1, by omega, Nat.le_refl _, e⟩
    · -- swap out x (m+1)
      have h1 := h (m + 1) (Nat.le_refl _)
      obtain ⟨i, j, hij, hj, e⟩ := ih (fun i => if x i = m then x (m + 1) else x i) (fun i hi => by
        have h2 := h i (by omega)
        have h3 : x i ≠ x (m + 1) := fun z => c ⟨i, hi, z⟩
        show 0 ≤ (if x i = m then x (m + 1) else x i) ∧ (if x i = m then x (m + 1) else x i) < m
        split
        · constructor <;> omega
        · constructor <;> omega)
      have hi3 : x i ≠ x (m + 1) := fun z => c ⟨i, by omega, z⟩
      have hj3 : x j ≠ x (m + 1) := fun z => c ⟨j, hj, z⟩
      refine ⟨i, j, hij, by omega, ?_⟩
      have e' : (if x i = m then x (m + 1) else x i) = (if x j = m then x (m + 1) else x j) := e
      split at e' <;> split at e' <;> omega
section
variable {ts : List Tie} {t : Int → Int} {bf : Int → Option Tie} {e : Tie} {m : Nat}
theorem pp_itr : ∀ (k : Nat) (v : Int), (∀ i, i < k → bf (itr (pre bf) i v) ≠ none) → ∃ s, PP bf v k (itr (pre bf) k v) s
  | 0, v, _ => ⟨0, .nil v⟩
  | k + 1, v, h => by
    have h0 := h 0 (by omega)
    cases c : bf v with
    | none => exact absurd c h0
    | some e2 =>
      have ep : pre bf v = e2.1 := pre_at c
      obtain ⟨s, p⟩ := pp_itr k (pre bf v) fun i hi => h (i + 1) (by omega)
      rw [ep] at p
      refine ⟨s + e2.2.2, ?_⟩
      have : itr (pre bf) (k + 1) v = itr (pre bf) k e2.1 := by rw [← ep]; rfl
      rw [this]
      exact .cons c p
/-- nothing stops the way back -/
theorem chain (I : Inv ts t bf) (r : Rn ts (m - 1) t) (hok : ∀ e ∈ ts, 0 ≤ e.1 ∧ e.1 < m ∧ 0 ≤ e.2.1 ∧ e.2.1 < m) (hm : e ∈ ts) (he : t e.1 + e.2.2 < t e.2.1) : ∀ k, (upI bf e.2.1 (some e)) (itr (pre (upI bf e.2.1 (some e))) k e.2.1) ≠ none := by
  have hp : ∀ v e2, (upI bf e.2.1 (some e)) v = some e2 → e2 ∈ ts ∧ e2.2.1 = v := fun v e2 h => by
    by_cases c : v = e.2.1
    · subst c
      rw [upI_s] at h
      cases h
      exact ⟨hm, rfl⟩
    · rw [upI_n c] at h
      exact ⟨(I.pe v e2 h).1, (I.pe v e2 h).2.1⟩
  intro k
  induction k using Nat.strongRecOn with
  | _ k ih =>
    intro hn
    obtain ⟨s, p⟩ := pp_itr (bf := upI bf e.2.1 (some e)) k e.2.1 ih
    by_cases hk : k < m
    · have h1 := r _ _ _ (by omega) (p.wk hp)
      have hne : itr (pre (upI bf e.2.1 (some e))) k e.2.1 ≠ e.2.1 := fun z => by
        rw [z, upI_s] at hn
        cases hn
      have hz := I.z _ (by rwa [upI_n hne] at hn)
      rcases (more I he p).2 with q | q
      · cases k with
        | zero => exact hne rfl
        | succ k =>
          cases p with
          | @cons _ _ s0 _ e2 h p0 =>
            rw [upI_s] at h
            cases h
            have := (more I he p0).1
            omega
      · omega
    · -- the way is longer than there are things
      have inr : ∀ i, i ≤ m → 0 ≤ itr (pre (upI bf e.2.1 (some e))) i e.2.1 ∧ itr (pre (upI bf e.2.1 (some e))) i e.2.1 < m := fun i hi => by
        cases i with
        | zero => exact (hok e hm).2.2
        | succ i =>
          rw [itr_s]
          have := ih i (by omega)
          cases c : (upI bf e.2.1 (some e)) (itr (pre (upI bf e.2.1 (some e))) i e.2.1) with
          | none => exact absurd c this
          | some e2 =>
            have : pre (upI bf e.2.1 (some e)) (itr (pre (upI bf e.2.1 (some e))) i e.2.1) = e2.1 := pre_at c
            rw [this]
            have := hok e2 (hp _ _ c).1
            exact ⟨this.1, this.2.1⟩
      obtain ⟨i, j, hij, hj, ex⟩ := pigeonI m _ inr
      have : itr (pre (upI bf e.2.1 (some e))) (i + (k - j)) e.2.1 = itr (pre (upI bf e.2.1 (some e))) k e.2.1 := by
        rw [itr_add, ex, ← itr_add]
        congr 1
        omega
      exact ih (i + (k - j)) (by omega) (by rw [this]; exact hn)
end
/-! rings -/
/-- ties one behind the other -/
def wayB : Int → List Tie → Int → Bool
  | a, [], b => decide (a = b)
  | a, e :: r, b => decide (e.1 = a) && wayB e.2.1 r b
def sumW (l : List Tie) : Int := (l.map fun e => e.2.2).sum
/-- the ties met on the way back from y, the last one first -/
def back (bf : Int → Option Tie) (y : Int) : Nat → List Tie
  | 0 => []
  | k + 1 => (match bf (itr (pre bf) k y) with
    | some e => [e]
    | none => []) ++ back bf y k
theorem back_c {bf : Int → Option Tie} {y : Int} {k : Nat} {e : Tie} (c : bf (itr (pre bf) k y) = some e) : back bf y (k + 1) = e :: back bf y k := by
  rw [back, c]
  rfl
structure RingOk (ts rg : List Tie) : Prop where
  ne : rg ≠ []
  mem : ∀ e ∈ rg, e ∈ ts
  way : ∀ a r b, rg = (a, r) :: b → wayB a rg a = true
  neg : sumW rg < 0
section
variable {ts : List Tie} {t : Int → Int} {bf : Int → Option Tie} {e : Tie} {m : Nat}
theorem back_way (hp : ∀ v e, bf v = some e → e ∈ ts ∧ e.2.1 = v) {y : Int} (hs : ∀ k, bf (itr (pre bf) k y) ≠ none) : ∀ k, wayB (itr (pre bf) k y) (back bf y k) y = true ∧ (∀ e ∈ back bf y k, e ∈ ts) ∧ (back bf y k).length = k
  | 0 => by
    refine ⟨?_, (fun e h => nomatch h), rfl⟩
    show decide (y = y) = true
    simp
  | k + 1 => by
    obtain ⟨h1, h2, h3⟩ := back_way hp hs k
    unfold back
    cases c : bf (itr (pre bf) k y) with
    | none => exact absurd c (hs k)
    | some e2 =>
      obtain ⟨q1, q2⟩ := hp _ _ c
      have ep : itr (pre bf) (k + 1) y = e2.1 := by
        rw [itr_s]
        exact pre_at c
      refine ⟨?_, fun x hx => ?_, by simp [h3]⟩
      · show (decide (e2.1 = itr (pre bf) (k + 1) y) && wayB e2.2.1 (back bf y k) y) = true
        rw [ep, decide_eq_true rfl, q2, h1]; rfl
      · rcases List.mem_cons.mp (show x ∈ e2 :: back bf y k from hx) with rfl | hx
        · exact q1
        · exact h2 x hx
theorem back_pp {y : Int} (hs : ∀ k, bf (itr (pre bf) k y) ≠ none) : ∀ k (z s : Int) (j : Nat), PP bf (itr (pre bf) k y) j z s → PP bf y (k + j) z (sumW (back bf y k) + s)
  | 0, z, s, j, p => by
    rw [Nat.zero_add]
    have : sumW (back bf y 0) + s = s := by show (0 : Int) + s = s; omega
    rw [this]
    exact p
  | k + 1, z, s, j, p => by
    cases c : bf (itr (pre bf) k y) with
    | none => exact absurd c (hs k)
    | some e2 =>
      have ep : itr (pre bf) (k + 1) y = e2.1 := by
        rw [itr_s]
        exact pre_at c
      rw [ep] at p
      have := back_pp hs k z (s + e2.2.2) (j + 1) (.cons c p)
      have e1 : sumW (back bf y (k + 1)) = e2.2.2 + sumW (back bf y k) := by
        rw [back_c c]
        show ((e2 :: back bf y k).map fun e => e.2.2).sum = _
        rw [List.map_cons, List.sum_cons]; rfl
      rw [e1, show k + 1 + j = k + (j + 1) by omega, show e2.2.2 + sumW (back bf y k) + s = sumW (back bf y k) + (s + e2.2.2) by omega]
      exact this
/-- the ring that is found -/
theorem ring_ok (I : Inv ts t bf) (r : Rn ts (m - 1) t) (hok : ∀ e ∈ ts, 0 ≤ e.1 ∧ e.1 < m ∧ 0 ≤ e.2.1 ∧ e.2.1 < m) (hm : e ∈ ts) (he : t e.1 + e.2.2 < t e.2.1) (y : Int) (hy : y = itr (pre (upI bf e.2.1 (some e))) m e.2.1) :
    (∀ k, (upI bf e.2.1 (some e)) (itr (pre (upI bf e.2.1 (some e))) k y) ≠ none) ∧ (∃ c, 0 < c ∧ c ≤ m ∧ itr (pre (upI bf e.2.1 (some e))) c y = y) ∧
    ∀ c, 0 < c → itr (pre (upI bf e.2.1 (some e))) c y = y → RingOk ts (back (upI bf e.2.1 (some e)) y c) := by
  have ch := chain I r hok hm he
  have hp : ∀ v e2, (upI bf e.2.1 (some e)) v = some e2 → e2 ∈ ts ∧ e2.2.1 = v := fun v e2 h => by
    by_cases c : v = e.2.1
    · subst c
      rw [upI_s] at h
      cases h
      exact ⟨hm, rfl⟩
    · rw [upI_n c] at h
      exact ⟨(I.pe v e2 h).1, (I.pe v e2 h).2.1⟩
  have neg : ∀ v k s, 0 < k → PP (upI bf e.2.1 (some e)) v k v s → s < 0 := fun v k s hk p => more_neg I he hk p
  generalize upI bf e.2.1 (some e) = bf2 at *
  have hs : ∀ k, bf2 (itr (pre bf2) k y) ≠ none := fun k => by
    rw [hy, ← itr_add]
    exact ch _
  have inr : ∀ i, i ≤ m → 0 ≤ itr (pre bf2) i e.2.1 ∧ itr (pre bf2) i e.2.1 < m := fun i hi => by
    cases i with
    | zero => exact (hok e hm).2.2
    | succ i =>
      rw [itr_s]
      cases c : bf2 (itr (pre bf2) i e.2.1) with
      | none => exact absurd c (ch i)
      | some e2 =>
        have : pre bf2 (itr (pre bf2) i e.2.1) = e2.1 := pre_at c
        rw [this]
        have := hok e2 (hp _ _ c).1
        exact ⟨this.1, this.2.1⟩
  refine ⟨hs, ?_, fun c hc ec => ?_⟩
  · obtain ⟨i, j, hij, hj, ex⟩ := pigeonI m _ inr
    refine ⟨j - i, by omega, by omega, ?_⟩
    have e1 : y = itr (pre bf2) (m - i) (itr (pre bf2) i e.2.1) := by
      rw [← itr_add, hy]
      congr 1
      omega
    have e2 : itr (pre bf2) (j - i) y = itr (pre bf2) (m - i) (itr (pre bf2) j e.2.1) := by
      rw [hy, ← itr_add, ← itr_add]
      congr 1
      omega
    rw [e2, ← ex, ← e1]
  · obtain ⟨h1, h2, h3⟩ := back_way hp hs c
    rw [ec] at h1
    refine ⟨fun z => by rw [z] at h3; simp at h3; omega, h2, fun a r b z => ?_, ?_⟩
    · have : a = y := by
        rw [z] at h1
        unfold wayB at h1
        rw [Bool.and_eq_true, decide_eq_true_eq] at h1
        exact h1.1
      rw [this]; exact h1
    · have := back_pp hs c (itr (pre bf2) c y) 0 0 (.nil _)
      rw [ec] at this
      have := neg y (c + 0) _ (by omega) this
      omega
end
/-- how often it goes on till it is back at y (less one) -/
def per (bf : Int → Option Tie) (y : Int) (m : Nat) : Nat := ((List.range m).find? fun i => decide (itr (pre bf) (i + 1) y = y)).getD 0
theorem per_ok {bf : Int → Option Tie} {y : Int} {m : Nat} (h : ∃ c, 0 < c ∧ c ≤ m ∧ itr (pre bf) c y = y) : itr (pre bf) (per bf y m + 1) y = y ∧ per bf y m < m ∧ ∀ i, i < per bf y m → itr (pre bf) (i + 1) y ≠ y := by
  obtain ⟨c, c0, cm, ec⟩ := h
  unfold per
  cases hf : (List.range m).find? fun i => decide (itr (pre bf) (i + 1) y = y) with
  | none =>
    have := List.find?_eq_none.mp hf (c - 1) (List.mem_range.mpr (by omega))
    rw [show c - 1 + 1 = c by omega, ec] at this
    simp at this
  | some j =>
    obtain ⟨h1, as, bs, h2, h3⟩ := List.find?_eq_some_iff_append.mp hf
    refine ⟨of_decide_eq_true h1, List.mem_range.mp (by rw [h2]; simp), fun i hi => ?_⟩
    show itr (pre bf) (i + 1) y ≠ y
    have hi' : i < j := hi
    have le : as = List.range j := by
      have h4 : as.length = j := by
        have h5 : (List.range m)[as.length]? = some j := by rw [h2]; simp
        have h6 : as.length < m := by
          have := congrArg List.length h2
          simp at this; omega
        rw [List.getElem?_range h6] at h5
        exact Option.some.inj h5
      have h7 : (List.range m).take as.length = as := by rw [h2]; simp
      rw [← h7, h4, List.take_range]
      congr 1
      have := List.mem_range.mp (show j ∈ List.range m by rw [h2]; simp)
      omega
    have := h3 i (by rw [le]; exact List.mem_range.mpr hi')
    simpa using this
/-! what settles -/
def outR (ts : List Tie) (m : Nat) : Bool × (Int → Int) × (Int → Option Tie) := rnd ts m (fun _ => 0) (fun _ => none)
def outE (ts : List Tie) (m : Nat) : Option Tie := if (outR ts m).1 = true then none else ts.find? (slackE (outR ts m).2.1)
def bfE (ts : List Tie) (m : Nat) (e : Tie) : Int → Option Tie := upI (outR ts m).2.2 e.2.1 (some e)
def ringAt (bf : Int → Option Tie) (v : Int) (m : Nat) : List Tie := back bf (itr (pre bf) m v) (per bf (itr (pre bf) m v) m + 1)
def ringOf (ts : List Tie) (m : Nat) (e : Tie) : List Tie := ringAt (bfE ts m e) e.2.1 m
section
variable {ts : List Tie} {m : Nat} {e : Tie}
theorem out_ok : outE ts m = none → ∀ e ∈ ts, (outR ts m).2.1 e.2.1 ≤ (outR ts m).2.1 e.1 + e.2.2 := by
  intro h
  obtain ⟨_, h2, _⟩ := rnd_ok (ts := ts) m _ _ 0 inv0 rn0
  unfold outE at h
  split at h
  · rename_i c
    exact h2 c
  · intro e he
    have := List.find?_eq_none.mp h e he
    unfold slackE at this
    simp only [decide_eq_true_eq] at this
    exact Int.not_lt.mp this
structure ChOk (bf : Int → Option Tie) (v : Int) (m : Nat) : Prop where
  some_ : ∀ k, bf (itr (pre bf) k v) ≠ none
  rg : ∀ k, 0 ≤ itr (pre bf) k v ∧ itr (pre bf) k v < m
  c : ∃ c, 0 < c ∧ c ≤ m ∧ itr (pre bf) c (itr (pre bf) m v) = itr (pre bf) m v
theorem ring_out (hok : ∀ e ∈ ts, 0 ≤ e.1 ∧ e.1 < m ∧ 0 ≤ e.2.1 ∧ e.2.1 < m) (h : outE ts m = some e) : RingOk ts (ringOf ts m e) ∧ ChOk (bfE ts m e) e.2.1 m := by
  obtain ⟨I, _, h3⟩ := rnd_ok (ts := ts) m _ _ 0 inv0 rn0
  unfold outE at h
  split at h
  · cases h
  · rename_i c
    have hm := List.mem_of_find?_eq_some h
    have he := List.find?_some h
    unfold slackE at he
    rw [decide_eq_true_eq] at he
    have r := h3 (show (outR ts m).1 = false by simpa using c)
    have r2 : Rn ts (m - 1) (outR ts m).2.1 := fun v j s hj w => r v j s (by omega) w
    obtain ⟨q1, q2, q3⟩ := ring_ok I r2 hok hm he _ rfl
    have p := per_ok (m := m) q2
    have ch := chain I r2 hok hm he
    refine ⟨q3 _ (Nat.succ_pos _) p.1, ⟨ch, fun k => ?_, q2⟩⟩
    have hp : ∀ v e2, (bfE ts m e) v = some e2 → e2 ∈ ts := fun v e2 h => by
      unfold bfE at h
      by_cases c : v = e.2.1
      · subst c
        rw [upI_s] at h
        cases h
        exact hm
      · rw [upI_n c] at h
        exact (I.pe v e2 h).1
    cases k with
    | zero => exact (hok e hm).2.2
    | succ k =>
      rw [itr_s]
      cases c : (bfE ts m e) (itr (pre (bfE ts m e)) k e.2.1) with
      | none => exact absurd c (ch k)
      | some e2 =>
        rw [pre_at c]
        have := hok e2 (hp _ _ c)
        exact ⟨this.1, this.2.1⟩
end
end PK
end Y

namespace Y
open PySem
def P_Knots_moved_L1 : Ss :=
    (.cons (.asg (.g (.tup (.cons (.name 5) (.cons (.name 6) (.cons (.name 7) .nil))))) (.var 4))
    (.cons (.ifS (.and2 (.cmp .IsNot (.ix (.var 1) (.var 5)) (.cst .non)) (.or2 (.cmp .Is (.ix (.var 1) (.var 6)) (.cst .non)) (.cmp .Lt (.bin .Add (.ix (.var 1) (.var 5)) (.var 7)) (.ix (.var 1) (.var 6))))) (.cons (.asg (.ix (.var 1) (.var 6)) (.bin .Add (.ix (.var 1) (.var 5)) (.var 7)))
    (.cons (.asg (.ix (.var 2) (.var 6)) (.var 4))
    (.cons (.asg (.g (.name 3)) (.var 6))
    .nil))) .nil)
    .nil))
/-- Knots.moved: 0:self 1:ticks 2:before 3:last 4:tie 5:a 6:b 7:most -/
def P_Knots_moved : FD := { ps := [(sl 217805684), (sl 31366657397), (sl 3535799972707)], N := [(sl 217805684), (sl 31366657397), (sl 3535799972707), (sl 247279981), (sl 1684853), (sl 98), (sl 99), (sl 247281774)], mu := [1, 2], bd :=
    (.cons (.asg (.g (.name 3)) (.cst .non))
    (.cons (.forS (.name 4) (.seq (.fld (.var 0) (sl 213497205))) P_Knots_moved_L1)
    (.cons (.retE (.var 3))
    .nil))) }
theorem cl_Knots_moved_3 {Γ : Prog} [Has Γ ((sl 31385728972), some (sl 27327854702)) P_Knots_moved] {n : Nat} {a0 a1 a2 : T} : cl Γ n ((sl 31385728972), some (sl 27327854702)) [a0, a1, a2] [] = clB Γ n P_Knots_moved [a0, a1, a2] := cl_via (by kernel_rfl)
def P_Knots_settled_L1 : Ss :=
    (.cons (.asg (.g (.tup (.cons (.name 5) (.cons (.name 6) (.cons (.name 7) .nil))))) (.var 4))
    (.cons (.ifS (.cmp .Lt (.bin .Add (.ix (.var 1) (.var 5)) (.var 7)) (.ix (.var 1) (.var 6))) (.cons (.asg (.ix (.var 2) (.var 6)) (.var 4))
    (.cons (.retE (.tup (.cons (.cst .non) (.cons (.call (sl 496627288372595) (.cons (.var 2) (.cons (.var 6) .nil)) .nil) .nil))))
    .nil)) .nil)
    .nil))
def P_Knots_settled_L2 : Ss :=
    (.cons (.ifS (.cmp .Is (.meth (.var 0) (sl 27327854702) (.cons (.var 1) (.cons (.var 2) .nil)) .nil) (.cst .non)) (.cons (.retE (.tup (.cons (.var 1) (.cons (.cst .non) .nil))))
    .nil) .nil)
    .nil)
/-- Knots.settled: 0:self 1:ticks 2:before 3:turn 4:tie 5:a 6:b 7:most -/
def P_Knots_settled : FD := { ps := [(sl 217805684)], N := [(sl 217805684), (sl 31366657397), (sl 3535799972707), (sl 234683253), (sl 1684853), (sl 98), (sl 99), (sl 247281774)], bd :=
    (.cons (.asg (.g (.name 1)) (.bin .Mult (.lst (.cons (.cst (.int 0)) .nil)) (.fld (.var 0) (sl 69171474465699945))))
    (.cons (.asg (.g (.name 2)) (.bin .Mult (.lst (.cons (.cst .non) .nil)) (.fld (.var 0) (sl 69171474465699945))))
    (.cons (.forS (.name 3) (.rng1 (.fld (.var 0) (sl 69171474465699945))) P_Knots_settled_L2)
    (.cons (.forS (.name 4) (.seq (.fld (.var 0) (sl 213497205))) P_Knots_settled_L1)
    (.cons (.retE (.tup (.cons (.var 1) (.cons (.cst .non) .nil))))
    .nil))))) }
theorem cl_Knots_settled_1 {Γ : Prog} [Has Γ ((sl 31385728972), some (sl 447736897696628)) P_Knots_settled] {n : Nat} {a0 : T} : cl Γ n ((sl 31385728972), some (sl 447736897696628)) [a0] [] = clB Γ n P_Knots_settled [a0] := cl_via (by kernel_rfl)
/-- Knots.history: 0:self 1:ticks 2:ring -/
def P_Knots_history : FD := { ps := [(sl 217805684)], N := [(sl 217805684), (sl 31366657397), (sl 219936115)], bd :=
    (.cons (.asg (.g (.tup (.cons (.name 1) (.cons (.name 2) .nil)))) (.meth (.var 0) (sl 447736897696628) .nil .nil))
    (.cons (.ifS (.cmp .Is (.var 1) (.cst .non)) (.cons (.retE (.cst .non))
    .nil) .nil)
    (.cons (.retE (.call (sl 1087548830687801653735) (.cons (.var 1) .nil) .nil))
    .nil))) }
theorem cl_Knots_history_1 {Γ : Prog} [Has Γ ((sl 31385728972), some (sl 540543356319081)) P_Knots_history] {n : Nat} {a0 : T} : cl Γ n ((sl 31385728972), some (sl 540543356319081)) [a0] [] = clB Γ n P_Knots_history [a0] := cl_via (by kernel_rfl)
/-- Knots.ring: 0:self 1:ticks 2:ring -/
def P_Knots_ring : FD := { ps := [(sl 217805684)], N := [(sl 217805684), (sl 31366657397), (sl 219936115)], bd :=
    (.cons (.asg (.g (.tup (.cons (.name 1) (.cons (.name 2) .nil)))) (.meth (.var 0) (sl 447736897696628) .nil .nil))
    (.cons (.retE (.var 2))
    .nil)) }
theorem cl_Knots_ring_1 {Γ : Prog} [Has Γ ((sl 31385728972), some (sl 219936115)) P_Knots_ring] {n : Nat} {a0 : T} : cl Γ n ((sl 31385728972), some (sl 219936115)) [a0] [] = clB Γ n P_Knots_ring [a0] := cl_via (by kernel_rfl)
def P_ring_to_L1 : Ss :=
    (.cons (.expr (.bm (.var 4) .append (.cons (.ix (.var 0) (.ix (.ix (.var 4) (.neg (.cst (.int 1)))) (.cst (.int 0)))) .nil)))
    .nil)
def P_ring_to_L2 : Ss :=
    (.cons (.asg (.g (.name 2)) (.ix (.ix (.var 0) (.var 2)) (.cst (.int 0))))
    .nil)
/-- ring_to: 0:before 1:thing 2:here 3:tie 4:found -/
def P_ring_to : FD := { ps := [(sl 3535799972707), (sl 28151821557)], N := [(sl 3535799972707), (sl 28151821557), (sl 215806825), (sl 1684853), (sl 27346712679)], bd :=
    (.cons (.asg (.g (.name 2)) (.var 1))
    (.cons (.forS (.name 3) (.seq (.var 0)) P_ring_to_L2)
    (.cons (.asg (.g (.name 4)) (.lst (.cons (.ix (.var 0) (.var 2)) .nil)))
    (.cons (.whileS (.cmp .NotEq (.ix (.ix (.var 4) (.neg (.cst (.int 1)))) (.cst (.int 0))) (.var 2)) P_ring_to_L1)
    (.cons (.retE (.bi .tuple (.cons (.revE (.var 4)) .nil)))
    .nil))))) }
theorem cl_ring_to_2 {Γ : Prog} [Has Γ ((sl 496627288372595), none) P_ring_to] {n : Nat} {a0 a1 : T} : cl Γ n ((sl 496627288372595), none) [a0, a1] [] = clB Γ n P_ring_to [a0, a1] := cl_via (by kernel_rfl)
/-- from_least: 0:ticks 1:least 2:tick -/
def P_from_least : FD := { ps := [(sl 31366657397)], N := [(sl 31366657397), (sl 31651836781), (sl 228144501)], bd :=
    (.cons (.asg (.g (.name 1)) (.bi .minL (.cons (.var 0) .nil)))
    (.cons (.retE (.bi .tuple (.cons (.lc (.name 2) (.seq (.var 0)) .no (.bin .Sub (.var 2) (.var 1)) [((sl 228144501), 2)]) .nil)))
    .nil)) }
theorem cl_from_least_1 {Γ : Prog} [Has Γ ((sl 1087548830687801653735), none) P_from_least] {n : Nat} {a0 : T} : cl Γ n ((sl 1087548830687801653735), none) [a0] [] = clB Γ n P_from_least [a0] := cl_via (by kernel_rfl)
/-- _law_is_history: 0:_law_many 1:_law_some 2:_law_found 3:_law_a 4:_law_b 5:_law_number 6:_law_one -/
def P__law_is_history : FD := { ps := [(sl 8853948731609364192), (sl 7412295679706969824), (sl 939625892901331449568)], N := [(sl 8853948731609364192), (sl 7412295679706969824), (sl 939625892901331449568), (sl 3393277441760), (sl 3427637180128), (sl 136716016479375560586976), (sl 57912952725485280)], bd :=
    (.cons (.ifS (.or2 (.not (.isi (.var 2) [.ty .tuple] false)) (.cmp .NotEq (.bi .len (.cons (.var 2) .nil)) (.var 0))) (.cons (.retE (.cst (.bl false)))
    .nil) .nil)
    (.cons (.ifS (.or2 (.not (.bi .all (.cons (.lc (.name 6) (.seq (.var 2)) .no (.and2 (.isi (.var 6) [.ty .int] false) (.not (.isi (.var 6) [.ty .bool] false))) [((sl 57912952725485280), 6)]) .nil))) (.cmp .NotEq (.bi .minL (.cons (.var 2) .nil)) (.cst (.int 0)))) (.cons (.retE (.cst (.bl false)))
    .nil) .nil)
    (.cons (.retE (.bi .all (.cons (.lc (.tup (.cons (.name 3) (.cons (.name 4) (.cons (.name 5) .nil)))) (.seq (.var 1)) .no (.cmp .LtE (.ix (.var 2) (.var 4)) (.bin .Add (.ix (.var 2) (.var 3)) (.var 5))) [((sl 3393277441760), 3), ((sl 3427637180128), 4), ((sl 136716016479375560586976), 5)]) .nil)))
    .nil))) }
theorem cl__law_is_history_3 {Γ : Prog} [Has Γ ((sl 38950253729539421531846378829536), none) P__law_is_history] {n : Nat} {a0 a1 a2 : T} : cl Γ n ((sl 38950253729539421531846378829536), none) [a0, a1, a2] [] = clB Γ n P__law_is_history [a0, a1, a2] := cl_via (by kernel_rfl)
def P__law_is_way_L1 : Ss :=
    (.cons (.ifS (.cmp .NotEq (.var 5) (.var 4)) (.cons (.retE (.cst (.bl false)))
    .nil) .nil)
    (.cons (.asg (.g (.name 4)) (.var 6))
    .nil))
/-- _law_is_way: 0:_law_some 1:_law_way 2:_law_a 3:_law_b 4:_law_here 5:_law_begin 6:_law_end 7:_law_number 8:_law_tie -/
def P__law_is_way : FD := { ps := [(sl 7412295679706969824), (sl 69115052067174112), (sl 3393277441760), (sl 3427637180128)], N := [(sl 7412295679706969824), (sl 69115052067174112), (sl 3393277441760), (sl 3427637180128), (sl 7415066071051843296), (sl 1031491399882437605088), (sl 57349659174680288), (sl 136716016479375560586976), (sl 57891134291621600)], bd :=
    (.cons (.ifS (.or2 (.not (.isi (.var 1) [.ty .tuple] false)) (.not (.bi .all (.cons (.lc (.name 8) (.seq (.var 1)) .no (.and2 (.isi (.var 8) [.ty .tuple] false) (.cmp .In (.var 8) (.var 0))) [((sl 57891134291621600), 8)]) .nil)))) (.cons (.retE (.cst (.bl false)))
    .nil) .nil)
    (.cons (.ifS (.not (.call (sl 948626323390693160672) (.cons (.var 1) (.cons (.bi .tuple (.cons (.lc (.name 8) (.seq (.var 1)) .no (.ix (.var 0) (.bm (.var 0) .lindex (.cons (.var 8) .nil))) [((sl 57891134291621600), 8)]) .nil)) .nil)) .nil)) (.cons (.retE (.cst (.bl false)))
    .nil) .nil)
    (.cons (.asg (.g (.name 4)) (.var 2))
    (.cons (.forS (.tup (.cons (.name 5) (.cons (.name 6) (.cons (.name 7) .nil)))) (.seq (.var 1)) P__law_is_way_L1)
    (.cons (.retE (.cmp .Eq (.var 4) (.var 3)))
    .nil))))) }
theorem cl__law_is_way_4 {Γ : Prog} [Has Γ ((sl 144944769655457577481952), none) P__law_is_way] {n : Nat} {a0 a1 a2 a3 : T} : cl Γ n ((sl 144944769655457577481952), none) [a0, a1, a2, a3] [] = clB Γ n P__law_is_way [a0, a1, a2, a3] := cl_via (by kernel_rfl)
/-- _law_is_ring: 0:_law_some 1:_law_found 2:_law_a 3:_law_b 4:_law_number -/
def P__law_is_ring : FD := { ps := [(sl 7412295679706969824), (sl 939625892901331449568)], N := [(sl 7412295679706969824), (sl 939625892901331449568), (sl 3393277441760), (sl 3427637180128), (sl 136716016479375560586976)], bd :=
    (.cons (.ifS (.or2 (.not (.isi (.var 1) [.ty .tuple] false)) (.or2 (.cmp .Eq (.var 1) (.tup .nil)) (.not (.call (sl 144944769655457577481952) (.cons (.var 0) (.cons (.var 1) (.cons (.ix (.ix (.var 1) (.cst (.int 0))) (.cst (.int 0))) (.cons (.ix (.ix (.var 1) (.cst (.int 0))) (.cst (.int 0))) .nil)))) .nil)))) (.cons (.retE (.cst (.bl false)))
    .nil) .nil)
    (.cons (.retE (.cmp .Lt (.bi .sum (.cons (.lc (.tup (.cons (.name 2) (.cons (.name 3) (.cons (.name 4) .nil)))) (.seq (.var 1)) .no (.var 4) [((sl 3393277441760), 2), ((sl 3427637180128), 3), ((sl 136716016479375560586976), 4)]) .nil)) (.cst (.int 0))))
    .nil)) }
theorem cl__law_is_ring_2 {Γ : Prog} [Has Γ ((sl 15848067343506069972891360), none) P__law_is_ring] {n : Nat} {a0 a1 : T} : cl Γ n ((sl 15848067343506069972891360), none) [a0, a1] [] = clB Γ n P__law_is_ring [a0, a1] := cl_via (by kernel_rfl)
/-- _law_has_history: 0:_law_knots 1:_law_many 2:_law_some 3:_law_found 4:_law_ring -/
def P__law_has_history : FD := { ps := [(sl 1078405437092412307168), (sl 8853948731609364192), (sl 7412295679706969824)], N := [(sl 1078405437092412307168), (sl 8853948731609364192), (sl 7412295679706969824), (sl 939625892901331449568), (sl 7556947395097442016)], bd :=
    (.cons (.asg (.g (.tup (.cons (.name 3) (.cons (.name 4) .nil)))) (.tup (.cons (.meth (.var 0) (sl 540543356319081) .nil .nil) (.cons (.meth (.var 0) (sl 219936115) .nil .nil) .nil))))
    (.cons (.ifS (.cmp .Is (.var 3) (.cst .non)) (.cons (.retE (.ix (.lst (.cons (.cst .non) (.cons (.cst (.bl false)) .nil))) (.bi .int (.cons (.call (sl 15848067343506069972891360) (.cons (.var 2) (.cons (.var 4) .nil)) .nil) .nil))))
    .nil) .nil)
    (.cons (.retE (.ix (.lst (.cons (.cst .non) (.cons (.cst (.bl true)) .nil))) (.bi .int (.cons (.and2 (.cmp .Is (.var 4) (.cst .non)) (.call (sl 38950253729539421531846378829536) (.cons (.var 1) (.cons (.var 2) (.cons (.var 3) .nil))) .nil)) .nil))))
    .nil))) }
theorem cl__law_has_history_3 {Γ : Prog} [Has Γ ((sl 4985632477381045956041454959245024), none) P__law_has_history] {n : Nat} {a0 a1 a2 : T} : cl Γ n ((sl 4985632477381045956041454959245024), none) [a0, a1, a2] [] = clB Γ n P__law_has_history [a0, a1, a2] := cl_via (by kernel_rfl)
abbrev K_Knots_moved : Str × Option Str := ((sl 31385728972), some (sl 27327854702))
abbrev K_Knots_settled : Str × Option Str := ((sl 31385728972), some (sl 447736897696628))
abbrev K_Knots_history : Str × Option Str := ((sl 31385728972), some (sl 540543356319081))
abbrev K_Knots_ring : Str × Option Str := ((sl 31385728972), some (sl 219936115))
abbrev K_ring_to : Str × Option Str := ((sl 496627288372595), none)
abbrev K_from_least : Str × Option Str := ((sl 1087548830687801653735), none)
abbrev K__law_is_history : Str × Option Str := ((sl 38950253729539421531846378829536), none)
abbrev K__law_is_way : Str × Option Str := ((sl 144944769655457577481952), none)
abbrev K__law_is_ring : Str × Option Str := ((sl 15848067343506069972891360), none)
abbrev K__law_has_history : Str × Option Str := ((sl 4985632477381045956041454959245024), none)
local macro_rules | `(tactic| walk_at "rem") => `(tactic| first | with_reducible exact Rem.head | (with_reducible apply Rem.tail; walk_at "rem"))
local macro_rules | `(tactic| walk_at "cond") => `(tactic| first | with_reducible exact Nat.zero_le _ | with_reducible assumption | omega | (simp only [big]; omega) | exact mulOk_l (by omega) | exact mulOk_r (by omega) | exact divOk_of (by omega) (by omega) | exact rngOk_i (by omega) | (simp only [big, List.length_cons, List.length_nil, List.length_map, List.length_append] <;> omega) | (refine ⟨by walk_at "cond", ?_⟩; walk_at "cond") | (refine .inl ?_; walk_at "cond") | (refine .inr ?_; walk_at "cond"))
local macro_rules | `(tactic| walk_at "sub") => `(tactic| first | with_reducible exact Sub.rfl | (with_reducible apply Sub.cons; walk_at "rem"; walk_at "sub") | (with_reducible apply Sub.drop; walk_at "sub"))
local macro_rules | `(tactic| walk_at "nf") => `(tactic| (simp only [List.mem_cons, List.not_mem_nil, sl_inj, Nat.reduceEqDiff, or_self, or_false, not_false_eq_true]))
local macro_rules | `(tactic| walk_at "ev") => `(tactic| simp only [↓w_ev_var1, ↓w_ev_cst2, ↓w_ev_glo3, ↓w_ev_tup4, ↓w_ev_lst5, ↓w_ev_dic6, ↓w_ev_dict07, ↓w_ev_bin8, ↓w_ev_neg9, ↓w_ev_cmp10, ↓w_ev_chain11, ↓w_ev_and212, ↓w_ev_or213, ↓w_ev_not14, ↓w_ev_ite15, ↓w_ev_fld16, ↓w_ev_ix17, ↓w_ev_slc18, ↓w_ev_call19, ↓w_ev_new20, ↓w_ev_meth21, ↓w_ev_bi22, ↓w_ev_bm23, ↓w_ev_isi24, ↓w_ev_lc25, ↓w_ev_lrg126, ↓w_ev_lrg227, ↓w_ev_lockE28, ↓w_ev_nev29, ↓w_evs_nil1, ↓w_evs_cons2, ↓w_evK_nil1, ↓w_evK_cons2, ↓w_evKV_nil1, ↓w_evKV_cons2, ↓w_evP_no1, ↓w_evP_yes2, ↓w_evC_no1, ↓w_evC_yes2, ↓w_evB_cmp1, ↓w_evB_chain2, ↓w_evB_and23, ↓w_evB_or24, ↓w_evB_not5, ↓w_evB_var6, ↓w_evB_cst7, ↓w_evB_glo8, ↓w_evB_fld9, ↓w_evB_ix10, ↓w_evB_call11, ↓w_evB_meth12, ↓w_evB_bi13, ↓w_evB_bm14, ↓w_evB_isi15, ↓w_evI_seq1, ↓w_evI_rng12, ↓w_evI_rng23, ↓w_evI_dkeys4, ↓w_evI_dvals5, ↓w_evI_ditms6, ↓w_evI_enum7, ↓w_evI_zip8, ↓w_ex_asg1, ↓w_ex_aug2, ↓w_ex_aug3, ↓w_ex_expr5, ↓w_ex_retE6, ↓w_ex_ret07, ↓w_ex_ifS8, ↓w_ex_forS9, ↓w_ex_whileS10, ↓w_ex_pass11, ↓w_ex_doc12, ↓w_ex_brk13, ↓w_ex_cont14, ↓w_ex_nev15, ↓w_ex_lockS16, ↓w_exs_nil1, ↓w_exs_cons2, ↓W_bnd, ↓W_bndR, ↓W_ok, ↓W_ret, ↓W_fl, ↓W_fail, ↓W_iteM, ↓W_ite, Wif_t, Wif_f, ↓body_r, getV_app, opt_app, rdH_app, wrH_app, optR_some, optR_none, wrR_none, optR_ite, wrR_ite, obind_ite, omap_ite, optR_map, Option.bind_some, Option.bind_none, Option.map_some, Option.map_none, id_eq, Option.isSome_some, Option.isSome_none, Option.isNone_some, Option.isNone_none,
 asgG_name, asgG_tup, asgG_kt, asgGs_nil, asgGs_cons, asgT_g, asgT_fld, asgT_ix, List.getElem?_cons_zero, List.getElem?_cons_succ, List.set_cons_zero, List.set_cons_succ, List.length_cons, List.length_nil, List.map_cons, List.map_nil, List.replicate_succ, List.replicate_zero, List.cons_append, List.nil_append, List.append_nil, List.zip_cons_cons, List.zip_nil_left, List.zip_nil_right, ksN,
 binOp_int, binI_add, binI_sub, binI_mul, binI_div, binI_mod, binI_pow, cmp_lt, cmp_le, cmp_gt, cmp_ge, cmp_eq, cmp_ne, cmp_is, cmp_isn, cmp_in, cmp_nin, tru_app, truH_bl, truH_int, truH_non, truH_r, truO_lst, truO_rol, ixT_app, ixH_tup, ixH_kt, ixH_ref, ixO_lst, ixO_rol, ixO_dK, keyOf_int, keyOf_str, atV_int, at0, at1, at2, at3, at4, at5, at6,
 eqH_int, eqH_bl, eqH_non, eqH_intnon, eqH_nonint, fldT_r, fldO_ins, mcls_r, mclO_ins, setFld_r, setO_ins, setIx_r, sixO_lst, sixO_dK, lenH_r, lenH_tup, lenH_kt, lenO_lst, lenO_rol, lenO_dK, inH_int_r, inO_ints, walkT_t, walkT_kt, blsOf_map, all_map, any_map, isiH_r, tyOf_r, tyOf_non, tyOf_bl, tyOf_int, tyOf_str, tyOf_tup, tyOf_kt, kdO_lst, kdO_dK, kdO_ins, kdIn_ty, kdIn_i, isiOne_tt, isiOne_tc, isiOne_ct, isiOne_cc, List.any_cons, List.any_nil, walkT_r, lwalk_r, items_lst, items_rol, wlist_lst, wlst_r, lstOf_r, seqOf_r,
 getF_nil, getF_cons, putF_nil, putF_cons, kget_n, kget_c, kput_G, kputG_nil, kputG_cons, addLL_r, mulLI_r, addTT_r, addSS_r, slT_r, slT_t, len_r, abs_r, sum_r, all_r, any_r, list_r, list_t, list_kt, tuple_r, tuple_t, bmK_app, bmK_clr, bmK_pop, bmK_ext, bmK_upd, bmK_get, bmK_dpop, dicO_dK, inO_dK, inH_str_r, inO_dKs, truO_dK, dvT_r, diT_r, dkT_r, dvO_lk, diO_lk, dkO_lk, extend_r, append_r, clear_r, min2_app, max2_app, int_app, intb_app, lrgT_app, atN,
 Phi_call, Phi_okF, Phi_has, Phi_cls, hasM_i, okF_i, sl_inj, initS, decide_eq_true_eq, decide_true, decide_false, Bool.not_true, Bool.not_false, Bool.not_eq_true, Bool.not_eq_eq_eq_not, decide_not, decide_eq_false_iff_not, bne_iff_ne, ne_eq, not_false_eq_true, not_true_eq_false, reduceCtorEq, Sum.inl.injEq, Sum.inr.injEq, T.int.injEq, T.bl.injEq, and_self, and_true, true_and, and_false, false_and, or_true, true_or, or_false, false_or, if_true, if_false, Bool.true_eq_false, Bool.false_eq_true, Bool.or_true, Bool.or_false, Bool.true_or, Bool.false_or, Bool.and_true, Bool.true_and, Bool.and_false, Bool.false_and, beq_ff, eq_self, Nat.le_refl, Int.zero_add, partT, List.isEmpty_cons, List.isEmpty_nil, dicOf_r, dicPut_nil, dicPut_cons, Nat.reduceEqDiff, Nat.reduceSub, Nat.reduceAdd, Nat.reduceMul, Nat.reduceLT, Nat.reduceLeDiff, Int.reduceEq, Int.reduceNe, Int.reduceLT, Int.reduceLE, Int.reduceAdd, Int.reduceSub, Int.reduceMul, Int.reduceToNat, Int.reduceNeg, Int.reduceDiv, Int.reduceMod, Int.reducePow, Nat.zero_add, Nat.sub_self, Nat.reduceBEq, Int.ofNat_eq_natCast, reduceIte, List.length_map, List.length_append, List.length_set, wipeN_nil, wipeN_cons, blsOf_t, all_tt, List.length_replicate, cut1, flat_rep, zipM_rr, zipM_tt, mulTI_r, slT_s, dkO1_dK, listD_r, dictD_r, sorted_r, str_i, str_s, bmK_dclr, bmK_join, cmp_le2, cmp_lt2, ixT_s, ixO_lkK, ↓w_ev_olen, ↓w_ev_oeq, ↓w_evB_oeq, bin_shl, bin_shr, bin_and, upper_s, strip_s, index_s, bmK_upper, bmK_strip, bmK_index, bmK_popi, ↓w_ev_lzip, ↓w_ev_lc2, ↓w_evI_zipS, ↓w_ex_asgM, ↓w_ex_forM, gsLen_nil, gsLen_cons, asgM_g, asgM_pair, asgM_star, asgM_starK, zipU_tt, zipM_kt, List.take_succ_cons, List.drop_succ_cons, List.take_zero, List.drop_zero, ↓w_evI_sgn, ↓w_evI_zipN, gdOk_nil, zipT_nil, zipT_nil2, zipT_cons, blsOf_nil, blsOf_cons, List.all_cons, List.all_nil, w_ev_maxd, w_ev_revE
, addT0_n, cl_Keeper_asked_1_term_reading, cl_Keeper_asked_3, cl_Keeper_copied_1, cl_Keeper_granted_1, cl_Keeper_init_1_keeps_hands, cl_Keeper_init_3, cl_Keeper_kept_term_1, cl_Keeper_lets_by_3, cl_Keeper_roused_1_reading, cl_Keeper_roused_2, cl_Keeper_until_1, cl_Knots_history_1, cl_Knots_init_1_ties_many, cl_Knots_init_2, cl_Knots_init_2_ties, cl_Knots_init_3, cl_Knots_len_1, cl_Knots_moved_3, cl_Knots_ring_1, cl_Knots_settled_1, cl_Knots_tie_1_most_b_a, cl_Knots_tie_4, cl_Knots_ties_1, cl__law_alike_2, cl__law_box_2, cl__law_has_history_3, cl__law_is_history_3, cl__law_is_ring_2, cl__law_is_way_4, cl__law_numbers_1, cl__law_some_knots_1, cl__law_some_ties_3, cl__law_take_2, cl_from_least_1, cl_hand_by_0_term_hands, cl_hand_by_2, cl_ring_to_2, cl_term_by_0_count_hand_hands, cl_term_by_0_count_hands_hand, cl_term_by_3, cl_v2__law_alike_2, cl_v2__law_box_2, cl_v3__law_box_2, (‹Sat _ _›).facts])
local macro_rules | `(tactic| walk_at "H") => `(tactic| exact (‹Sat _ _›).sub (by walk_at "sub"))
local macro_rules | `(tactic| walk_at "call") => `(tactic| fail)
local macro_rules | `(tactic| walk_at "st") => `(tactic| first | walk_at "ev" | (with_reducible refine W_neu (by assumption) ?_; intro _ _ _) | (with_reducible apply W_wr; assumption; walk_at "rem"; intro _ _) | walk_at "call" | (with_reducible apply W_pos; walk_at "cond") | (with_reducible apply W_neg; walk_at "cond"))
local macro_rules | `(tactic| walk_at "go") => `(tactic| repeat walk_at "st")
/-! knots settled -/
abbrev tkT (m : Nat) (t : Int → Int) : List T := (List.range m).map fun (i : Nat) => T.int (t i)
def otT : Option Tie → T
  | none => .non
  | some e => tieT e
def oiT : Option Int → T
  | none => .non
  | some e => .int e
abbrev bfT (m : Nat) (bf : Int → Option Tie) : List T := (List.range m).map fun (i : Nat) => otT (bf i)
theorem set_up {α : Type} {m j : Nat} {f : Int → α} {x : α} {g : α → T} : ((List.range m).map fun (i : Nat) => g (f i)).set j (g x) = (List.range m).map fun (i : Nat) => g (PK.upI f j x i) := by
  apply List.ext_getElem
  · simp
  · intro i h1 h2
    simp only [List.length_set, List.length_map, List.length_range] at h1
    rw [List.getElem_set]
    simp only [List.getElem_map, List.getElem_range]
    unfold PK.upI
    by_cases c : j = i
    · subst c; simp
    · have : ¬ ((i : Int) = (j : Int)) := by omega
      rw [if_neg c, if_neg this]
theorem set_tk {m j : Nat} {tk : Int → Int} {x : Int} : (tkT m tk).set j (T.int x) = tkT m (PK.upI tk j x) := set_up (g := T.int)
theorem set_bf {m j : Nat} {bf : Int → Option Tie} {x : Tie} : (bfT m bf).set j (tieT x) = bfT m (PK.upI bf j (some x)) := set_up (g := otT) (x := some x)
theorem rg_get {m i : Nat} (h : i < m) : (List.range m)[i]? = some i := List.getElem?_range h
section
variable {Γ : Prog} {n l b tl bl m : Nat} {mm : Int} {ts : List Tie} {h : LH} {Q : T → LH → Prop} {X : Ex → LH → Prop} {t : WT Q X} {Ps R : List HP}
abbrev tiesIn (ts : List Tie) (m : Nat) : Prop := ∀ e ∈ ts, 0 ≤ e.1 ∧ e.1 < m ∧ 0 ≤ e.2.1 ∧ e.2.1 < m
theorem W_tk {tk : Int → Int} {i : Nat} (hi : i < m) (q : Q (.int (tk i)) h) : W (optR (atT (tkT m tk) (i : Int)) h) Q X t := by
  have e : atT (tkT m tk) (i : Int) = some (.int (tk i)) := by
    unfold atT atN
    rw [if_pos (by omega), if_pos (by simp; omega)]
    simp [hi]
  rw [e]
  exact q
theorem W_bf {bf : Int → Option Tie} {i : Nat} (hi : i < m) (q : Q (otT (bf i)) h) : W (optR (atT (bfT m bf) (i : Int)) h) Q X t := by
  have e : atT (bfT m bf) (i : Int) = some (otT (bf i)) := by
    unfold atT atN
    rw [if_pos (by omega), if_pos (by simp; omega)]
    simp [hi]
  rw [e]
  exact q
local macro_rules | `(tactic| walk_at "call") => `(tactic| first | (with_reducible apply W_tk; walk_at "cond") | (with_reducible apply W_bf; walk_at "cond"))
theorem moved_s {tk : Int → Int} {bf : Int → Option Tie} (ok : tiesIn ts m) (H : Sat h (.abs (knP l mm ts) :: .one tl (.lst (tkT m tk)) :: .one bl (.lst (bfT m bf)) :: R))
    (q : ∀ h', Sat h' (.abs (knP l mm ts) :: .one tl (.lst (tkT m (PK.mvs ts tk bf).t)) :: .one bl (.lst (bfT m (PK.mvs ts tk bf).bf)) :: R) → Q (oiT (PK.mvs ts tk bf).last) h') : W (clB Γ (n + 1) P_Knots_moved [.ref l, .ref tl, .ref bl] h) Q X t := by
  obtain ⟨k, H1⟩ := kn_opn H .head
  rw [clB_body]; simp only [P_Knots_moved]
  walk_at "go"
  refine W_for (fun i s h => ∃ a4 a5 a6 a7, s = [some (.ref l), some (.ref tl), some (.ref bl), some (oiT ((ts.take i).foldl PK.mv1 ⟨tk, bf, none⟩).last), a4, a5, a6, a7] ∧
    Sat h (.one l (.ins n_Knots (knF mm k)) :: .one k (.lst (ts.map tieT)) :: .one tl (.lst (tkT m ((ts.take i).foldl PK.mv1 ⟨tk, bf, none⟩).t)) :: .one bl (.lst (bfT m ((ts.take i).foldl PK.mv1 ⟨tk, bf, none⟩).bf)) :: R)) ⟨_, _, _, _, rfl, H1⟩ ?_ ?_
  · rintro i w s h e ⟨a4, a5, a6, a7, rfl, H2⟩
    obtain ⟨x, ex, rfl⟩ := get_map e
    have nx : (ts.take (i + 1)).foldl PK.mv1 ⟨tk, bf, none⟩ = PK.mv1 ((ts.take i).foldl PK.mv1 ⟨tk, bf, none⟩) x := by
      rw [take_succ' ex, List.foldl_append]; rfl
    rw [nx]
    generalize (ts.take i).foldl PK.mv1 ⟨tk, bf, none⟩ = S at *
    obtain ⟨t0, b0, la⟩ := S
    have okx := ok x (List.mem_of_getElem? ex)
    obtain ⟨a, c, w⟩ := x
    obtain ⟨i1, rfl⟩ := Int.eq_ofNat_of_zero_le okx.1
    obtain ⟨i2, rfl⟩ := Int.eq_ofNat_of_zero_le okx.2.2.1
    simp only at okx
    refine ⟨gd_one (H2.get (.tail .head)), _, rfl, ?_⟩
    have g1 : (List.range m)[i1]? = some i1 := rg_get (by omega)
    have g2 : (List.range m)[i2]? = some i2 := rg_get (by omega)
    simp only [P_Knots_moved_L1]
    walk_at "go"
    refine W_or (fun c => ?_) (fun c => ?_)
    · have r2 : (i2 : Int) < ((List.range m).length : Int) := by rw [List.length_range]; omega
      walk_at "go"
      have HZ := ‹Sat _ (.one bl _ :: _)›
      simp only [Int.toNat_natCast, set_tk, set_bf] at HZ
      unfold PK.mv1
      rw [if_pos c]
      exact ⟨_, _, _, _, rfl, HZ.sub (by walk_at "sub")⟩
    · walk_at "go"
      unfold PK.mv1
      rw [if_neg c]
      exact ⟨_, _, _, _, rfl, H2⟩
  · rintro s h ⟨a4, a5, a6, a7, rfl, H2⟩
    refine ⟨gd_one (H2.get (.tail .head)), ?_⟩
    rw [List.length_map, List.take_length] at H2 ⊢
    walk_at "go"
    exact q _ (kn_cls (k := k) H2)
theorem bf_get {bf : Int → Option Tie} {i : Nat} {x : T} (e : (bfT m bf)[i]? = some x) : i < m ∧ x = otT (bf i) := by
  rw [List.getElem?_map] at e
  obtain ⟨j, e1, e2⟩ := Option.map_eq_some_iff.mp e
  have hl := lt_of_get e1
  rw [List.length_range] at hl
  rw [List.getElem?_range hl] at e1
  cases e1
  exact ⟨hl, e2.symm⟩
theorem bf_len {bf : Int → Option Tie} : (bfT m bf).length = m := by simp
theorem W_bfA {bf : Int → Option Tie} {v : Int} {e : Tie} (hv : 0 ≤ v ∧ v < m) (eb : bf v = some e) (q : Q (tieT e) h) : W (optR (atT (bfT m bf) v) h) Q X t := by
  obtain ⟨i, rfl⟩ := Int.eq_ofNat_of_zero_le hv.1
  refine W_bf (by omega) ?_
  rw [eb]
  exact q
theorem W_m1 {xs : List T} {x : T} (q : Q x h) : W (optR (atT (xs ++ [x]) (-1)) h) Q X t := by
  have e : atT (xs ++ [x]) (-1) = some x := by
    unfold atT atN
    rw [if_neg (by omega), if_pos (by simp; omega)]
    have : (-1 + ((xs ++ [x]).length : Int)).toNat = xs.length := by simp; omega
    rw [Option.bind_some, this]
    simp
  rw [e]
  exact q
theorem back_le {bf : Int → Option Tie} {y : Int} : ∀ k, (PK.back bf y k).length ≤ k
  | 0 => by simp [PK.back]
  | k + 1 => by
    have := back_le (bf := bf) (y := y) k
    rw [PK.back, List.length_append]
    split <;> simp <;> omega
theorem ringto_s {bf : Int → Option Tie} {v : Int} (m2 : m ≤ 100) (ch : PK.ChOk bf v m) (H : Sat h (.one bl (.lst (bfT m bf)) :: R))
    (q : ∀ h', Sat h' R → Q (.tup ((PK.ringAt bf v m).map tieT)) h') : W (clB Γ (n + 1) P_ring_to [.ref bl, .int v] h) Q X t := by
  rw [clB_body]; simp only [P_ring_to]
  walk_at "go"
  have at1 : ∀ k, ∃ e, bf (PK.itr (PK.pre bf) k v) = some e ∧ PK.itr (PK.pre bf) (k + 1) v = e.1 := fun k => by
    cases c : bf (PK.itr (PK.pre bf) k v) with
    | none => exact absurd c (ch.some_ k)
    | some e => exact ⟨e, rfl, by rw [PK.itr_s]; exact PK.pre_at c⟩
  refine W_for (fun i s h => ∃ a3, s = [some (.ref bl), some (.int v), some (.int (PK.itr (PK.pre bf) i v)), a3, none] ∧ Sat h (.one bl (.lst (bfT m bf)) :: R)) ⟨_, rfl, H⟩ ?_ ?_
  · rintro i w s h e ⟨a3, rfl, H2⟩
    obtain ⟨hi, rfl⟩ := bf_get e
    obtain ⟨e2, ee, en⟩ := at1 i
    refine ⟨gd_one (H2.get .head), _, rfl, ?_⟩
    simp only [P_ring_to_L2]
    have rg := ch.rg i
    rw [en]
    generalize PK.itr (PK.pre bf) i v = y at *
    walk_at "ev"
    refine W_bfA rg ee ?_
    walk_at "go"
    exact ⟨_, rfl, H2⟩
  · rintro s h ⟨a3, rfl, H2⟩
    refine ⟨gd_one (H2.get .head), ?_⟩
    rw [bf_len]
    have rg := ch.rg m
    obtain ⟨p1, p2, p3⟩ := PK.per_ok ch.c
    have at2 : ∀ k, ∃ e, bf (PK.itr (PK.pre bf) k (PK.itr (PK.pre bf) m v)) = some e ∧ PK.itr (PK.pre bf) (k + 1) (PK.itr (PK.pre bf) m v) = e.1 := fun k => by
      have := at1 (m + k)
      rw [PK.itr_add, show m + k + 1 = m + (k + 1) by omega, PK.itr_add] at this
      exact this
    have rg2 : ∀ k, 0 ≤ PK.itr (PK.pre bf) k (PK.itr (PK.pre bf) m v) ∧ PK.itr (PK.pre bf) k (PK.itr (PK.pre bf) m v) < m := fun k => by
      have := ch.rg (m + k)
      rwa [PK.itr_add] at this
    unfold PK.ringAt at q
    generalize PK.itr (PK.pre bf) m v = y at *
    obtain ⟨e0, ee0, en0⟩ := at2 0
    walk_at "ev"
    refine W_bfA rg ee0 ?_
    walk_at "go"
    rename_i fl h0 H0
    refine W_while (fun k s h => ∃ j e, k + j = PK.per bf y m ∧ bf (PK.itr (PK.pre bf) j y) = some e ∧ s = [some (.ref bl), some (.int v), some (.int y), a3, some (.ref fl)] ∧ Sat h (.one fl (.lst (((PK.back bf y j).map tieT).reverse ++ [tieT e])) :: .one bl (.lst (bfT m bf)) :: R)) ?_ 100000 (PK.per bf y m) _ _ (by omega) ⟨0, e0, by omega, ee0, rfl, H0⟩
    rintro k s h ⟨j, e, hk, ee, rfl, HJ⟩
    have en : PK.itr (PK.pre bf) (j + 1) y = e.1 := by rw [PK.itr_s]; exact PK.pre_at ee
    obtain ⟨e2, ee2, _⟩ := at2 (j + 1)
    have rj := rg2 (j + 1)
    rw [en] at ee2 rj
    walk_at "ev"
    refine W_m1 ?_
    walk_at "go"
    have bc : PK.back bf y (j + 1) = e :: PK.back bf y j := PK.back_c ee
    by_cases c : e.1 = y
    · have hj : j = PK.per bf y m := by
        by_cases c2 : j = PK.per bf y m
        · exact c2
        · exact absurd (en.trans c) (p3 j (by omega))
      subst hj
      rw [if_neg (fun z => z c)]
      have lb : ((PK.back bf y (PK.per bf y m)).map tieT).length ≤ 100 := by
        rw [List.length_map]
        have := back_le (bf := bf) (y := y) (PK.per bf y m)
        omega
      refine W_rev HJ .head fun lr h2 H2 => ?_
      rw [List.reverse_append, List.reverse_reverse] at H2
      walk_at "go"
      rw [bc] at q
      exact q _ (H2.drop.drop.drop)
    · rw [if_pos c]
      have hj : j ≠ PK.per bf y m := fun z => c (by rw [← en, z]; exact p1)
      refine ⟨k - 1, by omega, ?_⟩
      simp only [P_ring_to_L1]
      walk_at "ev"
      refine W_m1 ?_
      walk_at "ev"
      refine W_bfA rj ee2 ?_
      walk_at "go"
      refine W_pos (by
        rw [List.length_reverse, List.length_map]
        have := back_le (bf := bf) (y := y) j
        simp only [big]; omega) ?_
      walk_at "go"
      refine ⟨j + 1, e2, by omega, by rw [en]; exact ee2, ?_⟩
      rw [bc, List.map_cons, List.reverse_cons]
      exact ‹Sat _ (.one fl _ :: _)›
local macro_rules | `(tactic| walk_at "call") => `(tactic| first | (with_reducible apply moved_s; walk_at "cond"; walk_at "H"; intro _ _))
local macro_rules | `(tactic| walk_at "call") => `(tactic| first | (with_reducible apply ringto_s; walk_at "cond"; assumption; walk_at "H"; intro _ _) | (with_reducible apply moved_s; assumption; walk_at "H"; intro _ _) | (with_reducible apply (W_mc (ic := knP_c)); assumption; walk_at "rem"; walk_at "nf"))
theorem find_take {p : Tie → Bool} {ts : List Tie} {i : Nat} {x : Tie} (ex : ts[i]? = some x) (f : (ts.take i).find? p = none) : (p x = true → ts.find? p = some x) ∧ (p x = false → (ts.take (i + 1)).find? p = none) := by
  have hi := lt_of_get ex
  have e1 : ts = ts.take i ++ x :: ts.drop (i + 1) := by
    have e2 : ts.drop i = x :: ts.drop (i + 1) := by
      rw [List.drop_eq_getElem_cons hi]
      congr 1
      rw [List.getElem?_eq_getElem hi] at ex
      exact Option.some.inj ex
    rw [← e2, List.take_append_drop]
  constructor
  · intro h
    rw [e1, List.find?_append, f]
    simp [h]
  · intro h
    rw [take_succ' ex, List.find?_append, f]
    simp [h]
theorem settled_s [Has Γ K_Knots_moved P_Knots_moved] [Has Γ K_ring_to P_ring_to] (ok : tiesIn ts m) (m1 : 1 ≤ m) (m2 : m ≤ 100) (H : Sat h (.abs (knP l m ts) :: R))
    (q1 : PK.outE ts m = none → ∀ tl h', Sat h' (.one tl (.lst (tkT m (PK.outR ts m).2.1)) :: .abs (knP l m ts) :: R) → Q (.tup [.ref tl, .non]) h')
    (q2 : ∀ e, PK.outE ts m = some e → ∀ h', Sat h' (.abs (knP l m ts) :: R) → Q (.tup [.non, .tup ((PK.ringOf ts m e).map tieT)]) h') : W (clB Γ (n + 2) P_Knots_settled [.ref l] h) Q X t := by
  obtain ⟨k, H1⟩ := kn_opn H .head
  rw [clB_body]; simp only [P_Knots_settled]
  walk_at "go"
  rename_i _ _ _ tl _ _ _ _ _ bl h0 H0
  have ez : List.replicate ((m : Int)).toNat (T.int 0) = tkT m (fun _ => 0) := by
    rw [Int.toNat_natCast]
    apply List.ext_getElem
    · simp
    · intro i h1 h2; simp
  have en : List.replicate ((m : Int)).toNat T.non = bfT m (fun _ => none) := by
    rw [Int.toNat_natCast]
    apply List.ext_getElem
    · simp
    · intro i h1 h2; simp [otT]
  have H2 : Sat h0 (.abs (knP l m ts) :: .one tl (.lst (tkT m fun _ => 0)) :: .one bl (.lst (bfT m fun _ => none)) :: R) := by
    rw [ez, en] at H0
    exact kn_cls (k := k) (H0.sub (by walk_at "sub"))
  clear H0
  rw [Int.toNat_natCast]
  refine W_rng (fun j s h => ∃ a3 tk bf, s = [some (.ref l), some (.ref tl), some (.ref bl), a3, none, none, none, none] ∧ PK.rnd ts (m - j) tk bf = PK.outR ts m ∧ Sat h (.abs (knP l m ts) :: .one tl (.lst (tkT m tk)) :: .one bl (.lst (bfT m bf)) :: R)) ⟨_, _, _, rfl, rfl, H2⟩ ?_ ?_
  · rintro j s h hj ⟨a3, tk, bf, rfl, er, H⟩
    simp only [P_Knots_settled_L2]
    have e1 : m - j = (m - (j + 1)) + 1 := by omega
    rw [e1, PK.rnd] at er
    walk_at "go"
    have HZ := ‹Sat _ (.abs _ :: _)›
    cases c : (PK.mvs ts tk bf).last with
    | none =>
      rw [if_pos c] at er
      refine W_pos rfl ?_
      walk_at "go"
      have eo : PK.outE ts m = none := by unfold PK.outE; rw [← er]; rfl
      refine q1 eo tl _ ?_
      rw [← er]
      exact HZ.sub (by walk_at "sub")
    | some v =>
      rw [if_neg (by rw [c]; exact fun z => by cases z)] at er
      refine W_neg (fun z => by cases z) ?_
      walk_at "go"
      exact ⟨_, _, _, rfl, er, HZ⟩
  · rintro s h ⟨a3, tk, bf, rfl, er, H⟩
    rw [Nat.sub_self, PK.rnd] at er
    have e1 : (PK.outR ts m).2.1 = tk := by rw [← er]
    have e2 : (PK.outR ts m).2.2 = bf := by rw [← er]
    have e3 : PK.outE ts m = ts.find? (PK.slackE tk) := by
      unfold PK.outE
      rw [← er]; rfl
    obtain ⟨k2, H2⟩ := kn_opn H .head
    walk_at "go"
    refine W_for (fun i s h => ∃ a4 a5 a6 a7, s = [some (.ref l), some (.ref tl), some (.ref bl), a3, a4, a5, a6, a7] ∧ (ts.take i).find? (PK.slackE tk) = none ∧ Sat h (.one l (.ins n_Knots (knF m k2)) :: .one k2 (.lst (ts.map tieT)) :: .one tl (.lst (tkT m tk)) :: .one bl (.lst (bfT m bf)) :: R)) ⟨_, _, _, _, rfl, rfl, H2⟩ ?_ ?_
    · rintro i w s h e ⟨a4, a5, a6, a7, rfl, fi, H3⟩
      obtain ⟨x, ex, rfl⟩ := get_map e
      have okx := ok x (List.mem_of_getElem? ex)
      have fi2 := find_take (p := PK.slackE tk) ex fi
      have e4 : bf = (PK.outR ts m).2.2 := e2.symm
      have ring : PK.slackE tk x = true → PK.outE ts m = some x := fun z => by rw [e3]; exact fi2.1 z
      refine ⟨gd_one (H3.get (.tail .head)), _, rfl, ?_⟩
      obtain ⟨a, c, w⟩ := x
      obtain ⟨i1, rfl⟩ := Int.eq_ofNat_of_zero_le okx.1
      obtain ⟨i2, rfl⟩ := Int.eq_ofNat_of_zero_le okx.2.2.1
      simp only at okx
      simp only [P_Knots_settled_L1]
      walk_at "go"
      refine W_or (fun c => ?_) (fun c => ?_)
      · have eo := ring (decide_eq_true c)
        have ch := (PK.ring_out ok eo).2
        have r2 : (i2 : Int) < ((List.range m).length : Int) := by rw [List.length_range]; omega
        have eb : PK.bfE ts m ((i1 : Int), (i2 : Int), w) = PK.upI bf i2 (some ((i1 : Int), (i2 : Int), w)) := by
          unfold PK.bfE
          rw [e2]
        rw [eb] at ch
        have eq := q2 _ eo
        unfold PK.ringOf at eq
        rw [eb] at eq
        walk_at "ev"
        refine W_pos (by omega) ?_
        walk_at "ev"
        refine W_pos r2 ?_
        rw [Int.toNat_natCast, set_bf]
        walk_at "go"
        have HB : Sat _ (.one bl (.lst (bfT m (PK.upI bf i2 (some ((i1 : Int), (i2 : Int), w))))) :: .one l (.ins n_Knots (knF m k2)) :: .one k2 (.lst (ts.map tieT)) :: .one tl (.lst (tkT m tk)) :: R) := (‹Sat _ (.one bl _ :: _)›).sub (by walk_at "sub")
        refine ringto_s m2 ch HB fun h4 H4 => ?_
        walk_at "go"
        exact eq _ ((kn_cls (k := k2) H4).sub (by walk_at "sub"))
      · walk_at "go"
        exact ⟨_, _, _, _, rfl, fi2.2 (decide_eq_false c), H3⟩
    · rintro s h ⟨a4, a5, a6, a7, rfl, fi, H3⟩
      refine ⟨gd_one (H3.get (.tail .head)), ?_⟩
      rw [List.length_map, List.take_length] at fi
      walk_at "go"
      refine q1 (by rw [e3]; exact fi) tl _ ?_
      rw [e1]
      exact (kn_cls (k := k2) H3).sub (by walk_at "sub")
end
end Y

namespace Y
open PySem
local macro_rules | `(tactic| walk_at "rem") => `(tactic| first | with_reducible exact Rem.head | (with_reducible apply Rem.tail; walk_at "rem"))
local macro_rules | `(tactic| walk_at "cond") => `(tactic| first | with_reducible exact Nat.zero_le _ | with_reducible assumption | omega | (simp only [big]; omega) | exact mulOk_l (by omega) | exact mulOk_r (by omega) | exact divOk_of (by omega) (by omega) | exact rngOk_i (by omega) | (simp only [big, List.length_cons, List.length_nil, List.length_map, List.length_append] <;> omega) | (refine ⟨by walk_at "cond", ?_⟩; walk_at "cond") | (refine .inl ?_; walk_at "cond") | (refine .inr ?_; walk_at "cond"))
local macro_rules | `(tactic| walk_at "sub") => `(tactic| first | with_reducible exact Sub.rfl | (with_reducible apply Sub.cons; walk_at "rem"; walk_at "sub") | (with_reducible apply Sub.drop; walk_at "sub"))
local macro_rules | `(tactic| walk_at "nf") => `(tactic| (simp only [List.mem_cons, List.not_mem_nil, sl_inj, Nat.reduceEqDiff, or_self, or_false, not_false_eq_true]))
local macro_rules | `(tactic| walk_at "ev") => `(tactic| simp only [↓w_ev_var1, ↓w_ev_cst2, ↓w_ev_glo3, ↓w_ev_tup4, ↓w_ev_lst5, ↓w_ev_dic6, ↓w_ev_dict07, ↓w_ev_bin8, ↓w_ev_neg9, ↓w_ev_cmp10, ↓w_ev_chain11, ↓w_ev_and212, ↓w_ev_or213, ↓w_ev_not14, ↓w_ev_ite15, ↓w_ev_fld16, ↓w_ev_ix17, ↓w_ev_slc18, ↓w_ev_call19, ↓w_ev_new20, ↓w_ev_meth21, ↓w_ev_bi22, ↓w_ev_bm23, ↓w_ev_isi24, ↓w_ev_lc25, ↓w_ev_lrg126, ↓w_ev_lrg227, ↓w_ev_lockE28, ↓w_ev_nev29, ↓w_evs_nil1, ↓w_evs_cons2, ↓w_evK_nil1, ↓w_evK_cons2, ↓w_evKV_nil1, ↓w_evKV_cons2, ↓w_evP_no1, ↓w_evP_yes2, ↓w_evC_no1, ↓w_evC_yes2, ↓w_evB_cmp1, ↓w_evB_chain2, ↓w_evB_and23, ↓w_evB_or24, ↓w_evB_not5, ↓w_evB_var6, ↓w_evB_cst7, ↓w_evB_glo8, ↓w_evB_fld9, ↓w_evB_ix10, ↓w_evB_call11, ↓w_evB_meth12, ↓w_evB_bi13, ↓w_evB_bm14, ↓w_evB_isi15, ↓w_evI_seq1, ↓w_evI_rng12, ↓w_evI_rng23, ↓w_evI_dkeys4, ↓w_evI_dvals5, ↓w_evI_ditms6, ↓w_evI_enum7, ↓w_evI_zip8, ↓w_ex_asg1, ↓w_ex_aug2, ↓w_ex_aug3, ↓w_ex_expr5, ↓w_ex_retE6, ↓w_ex_ret07, ↓w_ex_ifS8, ↓w_ex_forS9, ↓w_ex_whileS10, ↓w_ex_pass11, ↓w_ex_doc12, ↓w_ex_brk13, ↓w_ex_cont14, ↓w_ex_nev15, ↓w_ex_lockS16, ↓w_exs_nil1, ↓w_exs_cons2, ↓W_bnd, ↓W_bndR, ↓W_ok, ↓W_ret, ↓W_fl, ↓W_fail, ↓W_iteM, ↓W_ite, Wif_t, Wif_f, ↓body_r, getV_app, opt_app, rdH_app, wrH_app, optR_some, optR_none, wrR_none, optR_ite, wrR_ite, obind_ite, omap_ite, optR_map, Option.bind_some, Option.bind_none, Option.map_some, Option.map_none, id_eq, Option.isSome_some, Option.isSome_none, Option.isNone_some, Option.isNone_none,
 asgG_name, asgG_tup, asgG_kt, asgGs_nil, asgGs_cons, asgT_g, asgT_fld, asgT_ix, List.getElem?_cons_zero, List.getElem?_cons_succ, List.set_cons_zero, List.set_cons_succ, List.length_cons, List.length_nil, List.map_cons, List.map_nil, List.replicate_succ, List.replicate_zero, List.cons_append, List.nil_append, List.append_nil, List.zip_cons_cons, List.zip_nil_left, List.zip_nil_right, ksN,
 binOp_int, binI_add, binI_sub, binI_mul, binI_div, binI_mod, binI_pow, cmp_lt, cmp_le, cmp_gt, cmp_ge, cmp_eq, cmp_ne, cmp_is, cmp_isn, cmp_in, cmp_nin, tru_app, truH_bl, truH_int, truH_non, truH_r, truO_lst, truO_rol, ixT_app, ixH_tup, ixH_kt, ixH_ref, ixO_lst, ixO_rol, ixO_dK, keyOf_int, keyOf_str, atV_int, at0, at1, at2, at3, at4, at5, at6,
 eqH_int, eqH_bl, eqH_non, eqH_intnon, eqH_nonint, fldT_r, fldO_ins, mcls_r, mclO_ins, setFld_r, setO_ins, setIx_r, sixO_lst, sixO_dK, lenH_r, lenH_tup, lenH_kt, lenO_lst, lenO_rol, lenO_dK, inH_int_r, inO_ints, walkT_t, walkT_kt, blsOf_map, all_map, any_map, isiH_r, tyOf_r, tyOf_non, tyOf_bl, tyOf_int, tyOf_str, tyOf_tup, tyOf_kt, kdO_lst, kdO_dK, kdO_ins, kdIn_ty, kdIn_i, isiOne_tt, isiOne_tc, isiOne_ct, isiOne_cc, List.any_cons, List.any_nil, walkT_r, lwalk_r, items_lst, items_rol, wlist_lst, wlst_r, lstOf_r, seqOf_r,
 getF_nil, getF_cons, putF_nil, putF_cons, kget_n, kget_c, kput_G, kputG_nil, kputG_cons, addLL_r, mulLI_r, addTT_r, addSS_r, slT_r, slT_t, len_r, abs_r, sum_r, all_r, any_r, list_r, list_t, list_kt, tuple_r, tuple_t, bmK_app, bmK_clr, bmK_pop, bmK_ext, bmK_upd, bmK_get, bmK_dpop, dicO_dK, inO_dK, inH_str_r, inO_dKs, truO_dK, dvT_r, diT_r, dkT_r, dvO_lk, diO_lk, dkO_lk, extend_r, append_r, clear_r, min2_app, max2_app, int_app, intb_app, lrgT_app, atN,
 Phi_call, Phi_okF, Phi_has, Phi_cls, hasM_i, okF_i, sl_inj, initS, decide_eq_true_eq, decide_true, decide_false, Bool.not_true, Bool.not_false, Bool.not_eq_true, Bool.not_eq_eq_eq_not, decide_not, decide_eq_false_iff_not, bne_iff_ne, ne_eq, not_false_eq_true, not_true_eq_false, reduceCtorEq, Sum.inl.injEq, Sum.inr.injEq, T.int.injEq, T.bl.injEq, and_self, and_true, true_and, and_false, false_and, or_true, true_or, or_false, false_or, if_true, if_false, Bool.true_eq_false, Bool.false_eq_true, Bool.or_true, Bool.or_false, Bool.true_or, Bool.false_or, Bool.and_true, Bool.true_and, Bool.and_false, Bool.false_and, beq_ff, eq_self, Nat.le_refl, Int.zero_add, partT, List.isEmpty_cons, List.isEmpty_nil, dicOf_r, dicPut_nil, dicPut_cons, Nat.reduceEqDiff, Nat.reduceSub, Nat.reduceAdd, Nat.reduceMul, Nat.reduceLT, Nat.reduceLeDiff, Int.reduceEq, Int.reduceNe, Int.reduceLT, Int.reduceLE, Int.reduceAdd, Int.reduceSub, Int.reduceMul, Int.reduceToNat, Int.reduceNeg, Int.reduceDiv, Int.reduceMod, Int.reducePow, Nat.zero_add, Nat.sub_self, Nat.reduceBEq, Int.ofNat_eq_natCast, reduceIte, List.length_map, List.length_append, List.length_set, wipeN_nil, wipeN_cons, blsOf_t, all_tt, List.length_replicate, cut1, flat_rep, zipM_rr, zipM_tt, mulTI_r, slT_s, dkO1_dK, listD_r, dictD_r, sorted_r, str_i, str_s, bmK_dclr, bmK_join, cmp_le2, cmp_lt2, ixT_s, ixO_lkK, ↓w_ev_olen, ↓w_ev_oeq, ↓w_evB_oeq, bin_shl, bin_shr, bin_and, upper_s, strip_s, index_s, bmK_upper, bmK_strip, bmK_index, bmK_popi, ↓w_ev_lzip, ↓w_ev_lc2, ↓w_evI_zipS, ↓w_ex_asgM, ↓w_ex_forM, gsLen_nil, gsLen_cons, asgM_g, asgM_pair, asgM_star, asgM_starK, zipU_tt, zipM_kt, List.take_succ_cons, List.drop_succ_cons, List.take_zero, List.drop_zero, ↓w_evI_sgn, ↓w_evI_zipN, gdOk_nil, zipT_nil, zipT_nil2, zipT_cons, blsOf_nil, blsOf_cons, List.all_cons, List.all_nil, w_ev_maxd, w_ev_revE
, addT0_n, cl_Keeper_asked_1_term_reading, cl_Keeper_asked_3, cl_Keeper_copied_1, cl_Keeper_granted_1, cl_Keeper_init_1_keeps_hands, cl_Keeper_init_3, cl_Keeper_kept_term_1, cl_Keeper_lets_by_3, cl_Keeper_roused_1_reading, cl_Keeper_roused_2, cl_Keeper_until_1, cl_Knots_history_1, cl_Knots_init_1_ties_many, cl_Knots_init_2, cl_Knots_init_2_ties, cl_Knots_init_3, cl_Knots_len_1, cl_Knots_moved_3, cl_Knots_ring_1, cl_Knots_settled_1, cl_Knots_tie_1_most_b_a, cl_Knots_tie_4, cl_Knots_ties_1, cl__law_alike_2, cl__law_box_2, cl__law_has_history_3, cl__law_is_history_3, cl__law_is_ring_2, cl__law_is_way_4, cl__law_numbers_1, cl__law_some_knots_1, cl__law_some_ties_3, cl__law_take_2, cl_from_least_1, cl_hand_by_0_term_hands, cl_hand_by_2, cl_ring_to_2, cl_term_by_0_count_hand_hands, cl_term_by_0_count_hands_hand, cl_term_by_3, cl_v2__law_alike_2, cl_v2__law_box_2, cl_v3__law_box_2, (‹Sat _ _›).facts])
local macro_rules | `(tactic| walk_at "H") => `(tactic| exact (‹Sat _ _›).sub (by walk_at "sub"))
local macro_rules | `(tactic| walk_at "call") => `(tactic| fail)
local macro_rules | `(tactic| walk_at "st") => `(tactic| first | walk_at "ev" | (with_reducible refine W_neu (by assumption) ?_; intro _ _ _) | (with_reducible apply W_wr; assumption; walk_at "rem"; intro _ _) | walk_at "call" | (with_reducible apply W_pos; walk_at "cond") | (with_reducible apply W_neg; walk_at "cond"))
local macro_rules | `(tactic| walk_at "go") => `(tactic| repeat walk_at "st")
/-! histories, rings told -/
def tkL (ts : List Tie) (m : Nat) : List Int := (List.range m).map fun (i : Nat) => (PK.outR ts m).2.1 i
def hsL (ts : List Tie) (m : Nat) : List Int := (tkL ts m).map fun x => x - minI (tkL ts m)
def histT (ts : List Tie) (m : Nat) : T := match PK.outE ts m with
  | none => .tup ((hsL ts m).map T.int)
  | some _ => .non
def ringT (ts : List Tie) (m : Nat) : T := match PK.outE ts m with
  | none => .non
  | some e => .tup ((PK.ringOf ts m e).map tieT)
theorem tkT_L {ts : List Tie} {m : Nat} : tkT m (PK.outR ts m).2.1 = (tkL ts m).map T.int := by
  unfold tkL
  rw [List.map_map]; rfl
theorem minI_mem {ns : List Int} (ne : ns ≠ []) : minI ns ∈ ns ∧ ∀ y ∈ ns, minI ns ≤ y := by
  cases ns with
  | nil => exact absurd rfl ne
  | cons a r =>
    have fold : ∀ (l : List Int) (z : Int), l.foldl (fun m x => if x < m then x else m) z ≤ z ∧ (∀ y ∈ l, l.foldl (fun m x => if x < m then x else m) z ≤ y) ∧ (l.foldl (fun m x => if x < m then x else m) z = z ∨ l.foldl (fun m x => if x < m then x else m) z ∈ l) := by
      intro l
      induction l with
      | nil => intro z; simp
      | cons b l ih =>
        intro z
        rw [List.foldl_cons]
        obtain ⟨y1, y2, y3⟩ := ih (if b < z then b else z)
        have hle : (if b < z then b else z) ≤ z ∧ (if b < z then b else z) ≤ b := by split <;> constructor <;> omega
        refine ⟨Int.le_trans y1 hle.1, fun y hy => ?_, ?_⟩
        · rcases List.mem_cons.mp hy with rfl | hy
          · exact Int.le_trans y1 hle.2
          · exact y2 y hy
        · rcases y3 with y3 | y3
          · rw [y3]
            split
            · exact .inr List.mem_cons_self
            · exact .inl rfl
          · exact .inr (List.mem_cons_of_mem _ y3)
    obtain ⟨y1, y2, y3⟩ := fold r a
    refine ⟨?_, fun y hy => ?_⟩
    · rcases y3 with y3 | y3
      · show r.foldl _ a ∈ _
        rw [y3]; exact List.mem_cons_self
      · exact List.mem_cons_of_mem _ y3
    · rcases List.mem_cons.mp hy with rfl | hy
      · exact y1
      · exact y2 y hy
theorem minI_shift {L : List Int} (ne : L ≠ []) : minI (L.map fun x => x - minI L) = 0 := by
  have h1 := minI_mem ne
  have ne2 : (L.map fun x => x - minI L) ≠ [] := fun z => ne (List.map_eq_nil_iff.mp z)
  have h2 := minI_mem ne2
  obtain ⟨x, hx, ex⟩ := List.mem_map.mp h2.1
  have h3 := h2.2 (minI L - minI L) (List.mem_map.mpr ⟨minI L, h1.1, rfl⟩)
  have h4 := h1.2 x hx
  omega
section
variable {Γ : Prog} {n l b k m : Nat} {ts : List Tie} {h : LH} {Q : T → LH → Prop} {X : Ex → LH → Prop} {t : WT Q X} {Ps R : List HP}
theorem W_minL {ns : List Int} (ne : ns ≠ []) (H : Sat h Ps) (r : Rem Ps (.one l (.lst (ns.map T.int))) R) (q : Q (.int (minI ns)) h) : W (biF .minL [.ref l] h) Q X t := by
  have e : biF .minL [.ref l] h = .ok (.int (minI ns)) h := by
    unfold biF
    dsimp only
    have e1 : seqOf h (.ref l) = some (ns.map T.int) := by
      show (h[l]?).bind LO.items = _
      rw [H.get r]; rfl
    rw [e1, Option.bind_some, intsOf_m, Option.bind_some, if_neg ne]
    rfl
  rw [e]
  exact q
theorem W_minT {ns : List Int} (ne : ns ≠ []) (q : Q (.int (minI ns)) h) : W (biF .minL [.tup (ns.map T.int)] h) Q X t := by
  have e : biF .minL [.tup (ns.map T.int)] h = .ok (.int (minI ns)) h := by
    unfold biF
    dsimp only
    have e1 : seqOf h (.tup (ns.map T.int)) = some (ns.map T.int) := rfl
    rw [e1, Option.bind_some, intsOf_m, Option.bind_some, if_neg ne]
    rfl
  rw [e]
  exact q
theorem W_minK {hf : Int → Int} (m1 : 1 ≤ m) (q : Q (.int (minI ((List.range m).map fun (i : Nat) => hf i))) h) : W (biF .minL [.tup (tkT m hf)] h) Q X t := by
  have e : tkT m hf = ((List.range m).map fun (i : Nat) => hf i).map T.int := by rw [List.map_map]; rfl
  rw [e]
  refine W_minT (fun z => ?_) q
  have := congrArg List.length z
  simp at this
  omega
theorem fromleast_s {ns : List Int} (ne : ns ≠ []) (hl : ns.length ≤ 100) (H : Sat h (.one k (.lst (ns.map T.int)) :: R)) (q : ∀ h', Sat h' (.one k (.lst (ns.map T.int)) :: R) → Q (.tup ((ns.map fun x => x - minI ns).map T.int)) h') : W (clB Γ (n + 1) P_from_least [.ref k] h) Q X t := by
  rw [clB_body]; simp only [P_from_least]
  walk_at "go"
  refine W_minL ne H .head ?_
  walk_at "go"
  refine W_lcM (Φ := Phi Γ n) (gd := [(k, .lst (ns.map T.int))]) (K := ns) (g := T.int) (f := fun x => T.int (x - minI ns)) H (fun h' H' => gd_one (H'.get .head)) (fun x hx h2 H2 => ⟨_, rfl, ?_⟩) fun h2 H2 => ?_
  · walk_at "go"
    exact H2
  rw [show ns.map (fun x => T.int (x - minI ns)) = (ns.map fun x => x - minI ns).map T.int by rw [List.map_map]; rfl]
  walk_at "go"
  exact q _ (‹Sat _ _›.drop)
local macro_rules | `(tactic| walk_at "call") => `(tactic| first | (with_reducible apply (W_mc (ic := knP_c)); assumption; walk_at "rem"; walk_at "nf") | (with_reducible apply W_tk; walk_at "cond") | (with_reducible apply W_bf; walk_at "cond"))
theorem history_s [Has Γ K_Knots_moved P_Knots_moved] [Has Γ K_ring_to P_ring_to] [Has Γ K_Knots_settled P_Knots_settled] [Has Γ K_from_least P_from_least] (ok : tiesIn ts m) (m1 : 1 ≤ m) (m2 : m ≤ 100) (H : Sat h (.abs (knP l m ts) :: R)) (q : ∀ h', Sat h' (.abs (knP l m ts) :: R) → Q (histT ts m) h') : W (clB Γ (n + 3) P_Knots_history [.ref l] h) Q X t := by
  rw [clB_body]; simp only [P_Knots_history]
  walk_at "go"
  refine settled_s ok m1 m2 H (fun e tl h' H' => ?_) fun e ee h' H' => ?_
  · rw [tkT_L] at H'
    walk_at "go"
    have nl : (tkL ts m).length = m := by unfold tkL; simp
    refine fromleast_s (ns := tkL ts m) (fun z => by rw [z] at nl; simp at nl; omega) (by omega) H' fun h2 H2 => ?_
    walk_at "go"
    have := q _ H2.drop
    unfold histT at this
    rw [e] at this
    exact this
  · walk_at "go"
    have := q _ H'
    unfold histT at this
    rw [ee] at this
    exact this
theorem ring_s [Has Γ K_Knots_moved P_Knots_moved] [Has Γ K_ring_to P_ring_to] [Has Γ K_Knots_settled P_Knots_settled] (ok : tiesIn ts m) (m1 : 1 ≤ m) (m2 : m ≤ 100) (H : Sat h (.abs (knP l m ts) :: R)) (q : ∀ h', Sat h' (.abs (knP l m ts) :: R) → Q (ringT ts m) h') : W (clB Γ (n + 3) P_Knots_ring [.ref l] h) Q X t := by
  rw [clB_body]; simp only [P_Knots_ring]
  walk_at "go"
  refine settled_s ok m1 m2 H (fun e tl h' H' => ?_) fun e ee h' H' => ?_
  · walk_at "go"
    have := q _ H'.drop
    unfold ringT at this
    rw [e] at this
    exact this
  · walk_at "go"
    have := q _ H'
    unfold ringT at this
    rw [ee] at this
    exact this
/-! what the law looks at -/
def tieD (e : Tie) : PyData := .tuple [.int e.1, .int e.2.1, .int e.2.2]
theorem dat_tie {n : Nat} {e : Tie} : datH h (n + 1) (tieT e) = some (tieD e) := by
  show (allO ([T.int e.1, .int e.2.1, .int e.2.2].map (datH h n))).map PyData.tuple = _
  cases n <;> rfl
theorem dat_ties {l : Nat} (e : h[l]? = some (.lst (ts.map tieT))) : datH h 8 (.ref l) = some (.list (ts.map tieD)) := by
  show (match (h[l]?).bind LO.items with
    | some xs => (allO (xs.map (datH h 7))).map PyData.list
    | none => none) = _
  rw [e]
  show (allO ((ts.map tieT).map (datH h 7))).map PyData.list = _
  have : ∀ l : List Tie, allO ((l.map tieT).map (datH h 7)) = some (l.map tieD) := fun l => by
    induction l with
    | nil => rfl
    | cons x l ih =>
      rw [List.map_cons, List.map_cons, dat_tie (n := 6)]
      show (allO ((l.map tieT).map (datH h 7))).map (tieD x :: ·) = _
      rw [ih]; rfl
  rw [this]; rfl
theorem eqv_tie {e e' : Tie} : PyData.eqv (tieD e) (tieD e') = decide (e = e') := by
  obtain ⟨a, c, w⟩ := e
  obtain ⟨a', c', w'⟩ := e'
  show PyData.eqvAll [.int a, .int c, .int w] [.int a', .int c', .int w'] = _
  have : ∀ i j : Int, PyData.eqv (.int i) (.int j) = decide (i = j) := fun i j => by
    show (i == j) = _
    rw [Bool.eq_iff_iff]; simp
  show (PyData.eqv (.int a) (.int a') && (PyData.eqv (.int c) (.int c') && (PyData.eqv (.int w) (.int w') && true))) = _
  rw [this, this, this, Bool.eq_iff_iff]
  simp [Prod.ext_iff]
theorem in_tie {l : Nat} {e : Tie} (el : h[l]? = some (.lst (ts.map tieT))) : inH h (tieT e) (.ref l) = some (decide (e ∈ ts)) := by
  show (match h[l]? with
    | some o => (match o.items with
      | some xs => if flatT (tieT e) = true ∧ xs.all flatT = true then some (inSeq (tieT e) xs) else inTup h l (tieT e)
      | none => (dgetO o (tieT e)).map Option.isSome)
    | none => none) = _
  rw [el]
  show (if flatT (tieT e) = true ∧ (ts.map tieT).all flatT = true then some (inSeq (tieT e) (ts.map tieT)) else inTup h l (tieT e)) = _
  rw [if_neg (fun z => Bool.false_ne_true z.1)]
  show (match datH h 8 (tieT e), datH h 8 (.ref l) with
    | some d, some (.list ds) => some (ds.any fun z => PyData.eqv z d)
    | _, _ => none) = _
  rw [dat_tie (n := 7), dat_ties el]
  show some ((ts.map tieD).any fun z => PyData.eqv z (tieD e)) = _
  congr 1
  rw [List.any_map, Bool.eq_iff_iff]
  simp only [List.any_eq_true, Function.comp, eqv_tie, decide_eq_true_eq]
  exact ⟨fun ⟨x, hx, ex⟩ => ex ▸ hx, fun hx => ⟨e, hx, rfl⟩⟩
theorem ix_tie {l : Nat} {e : Tie} (el : h[l]? = some (.lst (ts.map tieT))) (m : e ∈ ts) : ∃ j : Nat, bmF .lindex (.ref l) [tieT e] h = .ok (.int (j : Int)) h ∧ ts[j]? = some e := by
  have hj : ∃ j, (ts.map tieD).findIdx? (fun z => PyData.eqv z (tieD e)) = some j := by
    cases hf : (ts.map tieD).findIdx? (fun z => PyData.eqv z (tieD e)) with
    | some j => exact ⟨j, rfl⟩
    | none =>
      rw [List.findIdx?_eq_none_iff] at hf
      have := hf (tieD e) (List.mem_map_of_mem m)
      rw [eqv_tie] at this
      simp at this
  obtain ⟨j, hj⟩ := hj
  refine ⟨j, ?_, ?_⟩
  · have dn : dicAt h (.ref l) = none := by
      show (match h[l]? with
        | some o => if isDic o = true then some o else none
        | none => none) = none
      rw [el]; rfl
    have wl : wlstOf h (.ref l) = some (ts.map tieT) := by
      show (h[l]?).bind LO.wlist = _
      rw [el]; rfl
    unfold bmF
    dsimp only
    rw [dn, wl]
    show (if flatT (tieT e) = true ∧ _ then _ else opt (dixH h (.ref l) (tieT e)) h) = _
    rw [if_neg (fun z => Bool.false_ne_true z.1)]
    have : dixH h (.ref l) (tieT e) = some (.int (j : Int)) := by
      unfold dixH
      rw [dat_tie (n := 7), dat_ties el]
      show ((ts.map tieD).findIdx? fun z => PyData.eqv z (tieD e)).map (fun (j : Nat) => T.int (j : Int)) = _
      rw [hj]; rfl
    rw [this]; rfl
  · obtain ⟨hl, h1, h2⟩ := List.findIdx?_eq_some_iff_getElem.mp hj
    rw [List.length_map] at hl
    rw [List.getElem_map, eqv_tie, decide_eq_true_eq] at h1
    rw [List.getElem?_eq_getElem hl, h1]
theorem dat_tup {rg : List Tie} : datH h 8 (.tup (rg.map tieT)) = some (.tuple (rg.map tieD)) := by
  show (allO ((rg.map tieT).map (datH h 7))).map PyData.tuple = _
  have : ∀ l : List Tie, allO ((l.map tieT).map (datH h 7)) = some (l.map tieD) := fun l => by
    induction l with
    | nil => rfl
    | cons x l ih =>
      rw [List.map_cons, List.map_cons, dat_tie (n := 6)]
      show (allO ((l.map tieT).map (datH h 7))).map (tieD x :: ·) = _
      rw [ih]; rfl
  rw [this]; rfl
theorem eq_tup0 {x : Tie} {rg : List Tie} : eqH h (.tup (tieT x :: rg.map tieT)) (.tup []) = some false := by
  have e1 := dat_tup (h := h) (rg := x :: rg)
  have e2 : datH h 8 (.tup []) = some (.tuple []) := rfl
  unfold eqH
  rw [show T.tup (tieT x :: rg.map tieT) = .tup ((x :: rg).map tieT) from rfl, e1, e2]
  rfl
theorem ishist_s {ls : Nat} {hf : Int → Int} (m1 : 1 ≤ m) (m2 : m ≤ 100) (hz : minI ((List.range m).map fun (i : Nat) => hf i) = 0) (ok : tiesIn ts m) (ht : ∀ e ∈ ts, hf e.2.1 ≤ hf e.1 + e.2.2) (hl : ts.length ≤ 1000) (H : Sat h (.one ls (.lst (ts.map tieT)) :: R)) (q : ∀ h', Sat h' (.one ls (.lst (ts.map tieT)) :: R) → Q (.bl true) h') : W (clB Γ (n + 1) P__law_is_history [.int (m : Int), .ref ls, .tup (tkT m hf)] h) Q X t := by
  rw [clB_body]; simp only [P__law_is_history]
  walk_at "go"
  refine W_neg (by simp) ?_
  walk_at "go"
  refine W_lcM (Φ := Phi Γ n) (gd := []) (K := List.range m) (g := fun (i : Nat) => T.int (hf i)) (f := fun _ => T.bl true) H (fun h' H' => rfl) (fun x hx h2 H2 => ⟨_, rfl, ?_⟩) fun h2 H2 => ?_
  · walk_at "go"
    exact H2
  have lr : (List.range m).length ≤ 100 := by rw [List.length_range]; exact m2
  walk_at "go"
  refine W_neg (by simp) ?_
  walk_at "go"
  refine W_minK m1 ?_
  rw [hz]
  walk_at "go"
  have H3 := (‹Sat _ _›)
  refine W_lcM (Φ := Phi Γ n) (gd := [(ls, .lst (ts.map tieT))]) (K := ts) (g := tieT) (f := fun _ => T.bl true) H3 (fun h' H' => gd_one (H'.get (.tail .head))) (fun x hx h4 H4 => ?_) fun h4 H4 => ?_
  · have okx := ok x hx
    have hx2 := ht x hx
    obtain ⟨a, c, w⟩ := x
    obtain ⟨i1, rfl⟩ := Int.eq_ofNat_of_zero_le okx.1
    obtain ⟨i2, rfl⟩ := Int.eq_ofNat_of_zero_le okx.2.2.1
    simp only at okx hx2
    refine ⟨_, rfl, ?_⟩
    walk_at "go"
    exact ⟨hx2, H4⟩
  walk_at "go"
  rename_i HF
  rw [show (ts.all fun _ => true) = true by simp]
  exact q _ HF.drop.drop
theorem pl_ties : ∀ {rg : List Tie}, plTs (rg.map tieT) = true
  | [] => rfl
  | x :: rg => by
    rw [List.map_cons]
    show (plT (tieT x) && plTs (rg.map tieT)) = true
    rw [pl_ties]; rfl
theorem sz_ties : ∀ {rg : List Tie}, szTs (rg.map tieT) ≤ 20 * rg.length
  | [] => by simp [szTs]
  | x :: rg => by
    rw [List.map_cons]
    have := sz_ties (rg := rg)
    show szT (tieT x) + szTs (rg.map tieT) ≤ _
    have e : szT (tieT x) = 4 := rfl
    rw [e, List.length_cons]
    omega
theorem isway_s [Has Γ K__law_alike_v2 P__law_alike_v2] {ls : Nat} {rg : List Tie} {a c : Int} (hl : rg.length ≤ 1000) (mem : ∀ e ∈ rg, e ∈ ts) (wy : PK.wayB a rg c = true) (H : Sat h (.one ls (.lst (ts.map tieT)) :: R)) (q : ∀ h', Sat h' (.one ls (.lst (ts.map tieT)) :: R) → Q (.bl true) h') : W (clB Γ (n + 2) P__law_is_way [.ref ls, .tup (rg.map tieT), .int a, .int c] h) Q X t := by
  rw [clB_body]; simp only [P__law_is_way]
  walk_at "go"
  refine W_lcM (Φ := Phi Γ (n + 1)) (gd := []) (K := rg) (g := tieT) (f := fun _ => T.bl true) H (fun h' H' => rfl) (fun x hx h2 H2 => ⟨_, rfl, ?_⟩) fun h2 H2 => ?_
  · have e1 := in_tie (e := x) (H2.get .head)
    rw [decide_eq_true (mem x hx)] at e1
    walk_at "go"
    rw [e1]
    walk_at "go"
    exact H2
  walk_at "go"
  refine W_neg (by simp) ?_
  walk_at "go"
  have H3 := (‹Sat _ _›)
  refine W_lcM (Φ := Phi Γ (n + 1)) (gd := []) (K := rg) (g := tieT) (f := tieT) H3 (fun h' H' => rfl) (fun x hx h2 H2 => ⟨_, rfl, ?_⟩) fun h2 H2 => ?_
  · obtain ⟨j, e1, e2⟩ := ix_tie (e := x) (H2.get (.tail .head)) (mem x hx)
    have e0 : bmK .lindex h2 (.ref ls) = some () := by
      show (((h2[ls]?).bind LO.wlist)).map (fun _ => ()) = _
      rw [H2.get (.tail .head)]; rfl
    walk_at "go"
    rw [e0]
    walk_at "go"
    rw [e1]
    walk_at "go"
    with_reducible refine W_atM e2 ?_
    exact ⟨rfl, H2⟩
  walk_at "go"
  have sz := sz_ties (rg := rg)
  refine alike_x (pl_ties (rg := rg)) (by show szTs (rg.map tieT) + 1 ≤ _; omega) ‹Sat _ (.one _ (.lst (rg.map tieT)) :: _)› fun h4 H4 => ?_
  walk_at "go"
  have H5 : Sat h4 (.one ls (.lst (ts.map tieT)) :: R) := H4.drop.drop
  clear H4 H3 H2
  refine W_for (fun i s h => ∃ a' a5 a6 a7, s = [some (.ref ls), some (.tup (rg.map tieT)), some (.int a), some (.int c), some (.int a'), a5, a6, a7, none] ∧ PK.wayB a' (rg.drop i) c = true ∧ Sat h (.one ls (.lst (ts.map tieT)) :: R)) ⟨_, _, _, _, rfl, wy, H5⟩ ?_ ?_
  · rintro i w s h e ⟨a', a5, a6, a7, rfl, wi, H6⟩
    obtain ⟨x, ex, rfl⟩ := get_map e
    have hi := lt_of_get ex
    have ed : rg.drop i = x :: rg.drop (i + 1) := by
      rw [List.drop_eq_getElem_cons hi]
      congr 1
      rw [List.getElem?_eq_getElem hi] at ex
      exact Option.some.inj ex
    rw [ed, PK.wayB, Bool.and_eq_true, decide_eq_true_eq] at wi
    obtain ⟨w1, w2⟩ := wi
    refine ⟨rfl, _, rfl, ?_⟩
    simp only [P__law_is_way_L1]
    obtain ⟨b0, b1, b2⟩ := x
    simp only at w1 w2
    subst w1
    walk_at "go"
    exact ⟨_, _, _, _, rfl, w2, H6⟩
  · rintro s h ⟨a', a5, a6, a7, rfl, wi, H6⟩
    rw [List.length_map, List.drop_length, PK.wayB, decide_eq_true_eq] at wi
    refine ⟨rfl, ?_⟩
    walk_at "go"
    rw [decide_eq_true wi]
    exact q _ H6
local macro_rules | `(tactic| walk_at "call") => `(tactic| first | (with_reducible apply isway_s; walk_at "cond"; assumption; assumption; walk_at "H"; intro _ _) | (with_reducible apply (W_mc (ic := knP_c)); assumption; walk_at "rem"; walk_at "nf") | (with_reducible apply history_s; assumption; walk_at "cond"; walk_at "cond"; walk_at "H"; intro _ _) | (with_reducible apply ring_s; assumption; walk_at "cond"; walk_at "cond"; walk_at "H"; intro _ _))
theorem isring_s [Has Γ K__law_alike_v2 P__law_alike_v2] [Has Γ K__law_is_way P__law_is_way] {ls : Nat} {rg : List Tie} (hl : rg.length ≤ 1000) (ok : PK.RingOk ts rg) (H : Sat h (.one ls (.lst (ts.map tieT)) :: R)) (q : ∀ h', Sat h' (.one ls (.lst (ts.map tieT)) :: R) → Q (.bl true) h') : W (clB Γ (n + 3) P__law_is_ring [.ref ls, .tup (rg.map tieT)] h) Q X t := by
  obtain ⟨x, rr, rfl⟩ : ∃ x rr, rg = x :: rr := by
    cases rg with
    | nil => exact absurd rfl ok.ne
    | cons x rr => exact ⟨x, rr, rfl⟩
  have way := ok.way x.1 x.2 rr rfl
  have neg := ok.neg
  rw [clB_body]; simp only [P__law_is_ring]
  walk_at "go"
  rw [eq_tup0]
  walk_at "go"
  refine isway_s (rg := x :: rr) hl ok.mem way H fun h2 H2 => ?_
  walk_at "go"
  refine W_lcM (Φ := Phi Γ (n + 2)) (gd := []) (K := x :: rr) (g := tieT) (f := fun e => T.int e.2.2) H2 (fun h' H' => rfl) (fun x hx h2 H2 => ⟨_, rfl, ?_⟩) fun h3 H3 => ?_
  · walk_at "go"
    exact H2
  have hl2 : rr.length + 1 ≤ 1000 := hl
  rw [show (x :: rr).map (fun e => T.int e.2.2) = ((x :: rr).map fun e => e.2.2).map T.int by rw [List.map_map]; rfl]
  generalize hw : ((x :: rr).map fun e => e.2.2) = ws
  have hs : ws.sum < 0 := by rw [← hw]; exact neg
  have lw : ws.length ≤ 1000 := by rw [← hw, List.length_map]; exact hl
  walk_at "go"
  rw [intsOf_m]
  walk_at "go"
  rw [decide_eq_true hs]
  exact q _ (‹Sat _ (.one _ (.lst (ws.map T.int)) :: _)›).drop
theorem has_s [Has Γ K__law_alike_v2 P__law_alike_v2] [Has Γ K__law_is_way P__law_is_way] [Has Γ K__law_is_ring P__law_is_ring] [Has Γ K__law_is_history P__law_is_history] [Has Γ K_Knots_moved P_Knots_moved] [Has Γ K_ring_to P_ring_to] [Has Γ K_Knots_settled P_Knots_settled] [Has Γ K_from_least P_from_least] [Has Γ K_Knots_history P_Knots_history] [Has Γ K_Knots_ring P_Knots_ring] {ls : Nat} (ok : tiesIn ts m) (m1 : 1 ≤ m) (m2 : m ≤ 100) (hl : ts.length ≤ 1000) (H : Sat h (.abs (knP l m ts) :: .one ls (.lst (ts.map tieT)) :: R)) (q : ∀ h', Sat h' (.abs (knP l m ts) :: .one ls (.lst (ts.map tieT)) :: R) → Q (.bl (decide (PK.outE ts m = none))) h') : W (clB Γ (n + 4) P__law_has_history [.ref l, .int (m : Int), .ref ls] h) Q X t := by
  rw [clB_body]; simp only [P__law_has_history]
  walk_at "go"
  have HZ := ‹Sat _ (.abs _ :: _)›
  cases e : PK.outE ts m with
  | none =>
    have nl : (tkL ts m).length = m := by unfold tkL; simp
    have ne : tkL ts m ≠ [] := fun z => by rw [z] at nl; simp at nl; omega
    have e1 : histT ts m = .tup (tkT m fun i => (PK.outR ts m).2.1 i - minI (tkL ts m)) := by
      unfold histT
      rw [e]
      show T.tup ((hsL ts m).map T.int) = _
      congr 1
      unfold hsL
      rw [List.map_map]
      unfold tkL
      rw [List.map_map]; rfl
    have e2 : ringT ts m = .non := by unfold ringT; rw [e]
    rw [e1, e2]
    refine W_neg (fun z => by cases z) ?_
    walk_at "go"
    have hz := minI_shift ne
    have hz2 : minI ((List.range m).map fun (i : Nat) => (PK.outR ts m).2.1 i - minI (tkL ts m)) = 0 := by
      rw [← hz]
      congr 1
      conv => rhs; unfold tkL
      rw [List.map_map]; rfl
    have hr := PK.out_ok e
    refine ishist_s (ls := ls) m1 m2 hz2 ok (fun x hx => by have := hr x hx; omega) hl ((‹Sat _ (.one _ (.lst [.non, .bl true]) :: _)›).sub (by walk_at "sub")) fun h2 H2 => ?_
    walk_at "go"
    have := q _ (H2.sub (by walk_at "sub"))
    rw [e, decide_eq_true rfl] at this
    exact this
  | some x =>
    obtain ⟨r1, r2⟩ := PK.ring_out ok e
    have e1 : histT ts m = .non := by unfold histT; rw [e]
    have e2 : ringT ts m = .tup ((PK.ringOf ts m x).map tieT) := by unfold ringT; rw [e]
    rw [e1, e2]
    walk_at "go"
    have lr : (PK.ringOf ts m x).length ≤ 1000 := by
      have := back_le (bf := PK.bfE ts m x) (y := PK.itr (PK.pre (PK.bfE ts m x)) m x.2.1) (PK.per (PK.bfE ts m x) (PK.itr (PK.pre (PK.bfE ts m x)) m x.2.1) m + 1)
      have p := (PK.per_ok r2.c).2.1
      show (PK.back _ _ _).length ≤ _
      omega
    refine isring_s (ls := ls) lr r1 ((‹Sat _ (.one _ (.lst [.non, .bl false]) :: _)›).sub (by walk_at "sub")) fun h2 H2 => ?_
    walk_at "go"
    have := q _ (H2.sub (by walk_at "sub"))
    rw [e, decide_eq_false (fun z => by cases z)] at this
    exact this
end
end Y

set_option maxHeartbeats 0
namespace Y
open PySem
def P__law_long_ring_L1 : Ss :=
    (.cons (.expr (.bm (.var 7) .append (.cons (.bm (.var 6) .popi (.cons (.call (sl 7411108241508710112) (.cons (.var 0) (.cons (.bi .len (.cons (.var 6) .nil)) .nil)) .nil) .nil)) .nil)))
    .nil)
/-- _law_long_ring: 0:_law_box_here 1:_law_many 2:_law_k 3:_law_ticks 4:_law_found 5:_law_at 6:_law_left 7:_law_order 8:_law_a 9:_law_b 10:_law_number -/
def P__law_long_ring : FD := { ps := [(sl 1990466642053554134062773984), (sl 8853948731609364192)], N := [(sl 1990466642053554134062773984), (sl 8853948731609364192), (sl 3736874825440), (sl 1077750141665634989792), (sl 939625892901331449568), (sl 517964719240928), (sl 8489174719618660064), (sl 1068095026425125975776), (sl 3393277441760), (sl 3427637180128), (sl 136716016479375560586976)], bd :=
    (.cons (.asg (.g (.tup (.cons (.name 6) (.cons (.name 7) .nil)))) (.tup (.cons (.lrg1 false (.var 1)) (.cons (.lst .nil) .nil))))
    (.cons (.forS (.name 2) (.rng1 (.var 1)) P__law_long_ring_L1)
    (.cons (.asg (.g (.name 3)) (.lc (.name 2) (.rng1 (.var 1)) .no (.call (sl 7411108241508710112) (.cons (.var 0) (.cons (.cst (.int 30)) .nil)) .nil) [((sl 3736874825440), 2)]))
    (.cons (.asg (.g (.name 4)) (.lc (.tup (.cons (.name 8) (.cons (.name 9) .nil))) (.zip (.var 7) (.bin .Add (.slc (.var 7) (.yes (.cst (.int 1))) .no) (.slc (.var 7) .no (.yes (.cst (.int 1)))))) .no (.tup (.cons (.var 8) (.cons (.var 9) (.cons (.bin .Sub (.ix (.var 3) (.var 9)) (.ix (.var 3) (.var 8))) .nil)))) [((sl 3393277441760), 8), ((sl 3427637180128), 9)]))
    (.cons (.asg (.g (.name 5)) (.call (sl 7411108241508710112) (.cons (.var 0) (.cons (.var 1) .nil)) .nil))
    (.cons (.asg (.g (.tup (.cons (.name 8) (.cons (.name 9) (.cons (.name 10) .nil))))) (.ix (.var 4) (.var 5)))
    (.cons (.asg (.ix (.var 4) (.var 5)) (.tup (.cons (.var 8) (.cons (.var 9) (.cons (.bin .Sub (.var 10) (.cst (.int 1))) .nil)))))
    (.cons (.retE (.lc (.name 2) (.rng1 (.var 1)) .no (.bm (.var 4) .popi (.cons (.call (sl 7411108241508710112) (.cons (.var 0) (.cons (.bi .len (.cons (.var 4) .nil)) .nil)) .nil) .nil)) [((sl 3736874825440), 2)]))
    .nil)))))))) }
theorem cl__law_long_ring_2 {Γ : Prog} [Has Γ ((sl 259654735355141644047437313760), none) P__law_long_ring] {n : Nat} {a0 a1 : T} : cl Γ n ((sl 259654735355141644047437313760), none) [a0, a1] [] = clB Γ n P__law_long_ring [a0, a1] := cl_via (by kernel_rfl)
def P_law_L1 : Ss :=
    (.cons (.asg (.g (.name 2)) (.call (sl 68612953210402528) (.cons (.var 0) (.cons (.var 1) .nil)) .nil))
    (.cons (.asg (.g (.tup (.cons (.name 5) (.cons (.name 6) .nil)))) (.call (sl 37053728673122679244889846757088) (.cons (.var 2) .nil) .nil))
    (.cons (.ifS (.cmp .Eq (.call (sl 7411108241508710112) (.cons (.var 2) (.cons (.cst (.int 16)) .nil)) .nil) (.cst (.int 0))) (.cons (.asg (.g (.tup (.cons (.name 5) (.cons (.name 6) .nil)))) (.tup (.cons (.cst (.int 60)) (.cons (.call (sl 289191213341004827581170104032) (.cons (.var 2) (.cons (.cst (.int 60)) (.cons (.cst (.int 199)) .nil))) .nil) .nil))))
    .nil) .nil)
    (.cons (.ifS (.cmp .Eq (.call (sl 7411108241508710112) (.cons (.var 2) (.cons (.cst (.int 8)) .nil)) .nil) (.cst (.int 0))) (.cons (.asg (.g (.name 5)) (.bin .Add (.cst (.int 2)) (.call (sl 7411108241508710112) (.cons (.var 2) (.cons (.ix (.lst (.cons (.cst (.int 10)) (.cons (.cst (.int 59)) .nil))) (.call (sl 7411108241508710112) (.cons (.var 2) (.cons (.cst (.int 2)) .nil)) .nil)) .nil)) .nil)))
    (.cons (.asg (.g (.name 6)) (.call (sl 259654735355141644047437313760) (.cons (.var 2) (.cons (.var 5) .nil)) .nil))
    .nil)) .nil)
    (.cons (.ifS (.and2 (.cmp .Eq (.call (sl 7411108241508710112) (.cons (.var 2) (.cons (.cst (.int 6)) .nil)) .nil) (.cst (.int 0))) (.cmp .Gt (.bi .len (.cons (.var 6) .nil)) (.cst (.int 0)))) (.cons (.asg (.g (.tup (.cons (.name 7) (.cons (.name 8) (.cons (.name 9) .nil))))) (.ix (.var 6) (.call (sl 7411108241508710112) (.cons (.var 2) (.cons (.bi .len (.cons (.var 6) .nil)) .nil)) .nil)))
    (.cons (.asg (.g (.name 6)) (.bin .Add (.var 6) (.lst (.cons (.tup (.cons (.var 8) (.cons (.var 7) (.cons (.bi .max2 (.cons (.bin .Sub (.cst (.int 0)) (.cst (.int 2000))) (.cons (.bin .Sub (.bin .Sub (.cst (.int 0)) (.var 9)) (.call (sl 7411108241508710112) (.cons (.var 2) (.cons (.cst (.int 2)) .nil)) .nil)) .nil))) .nil)))) .nil))))
    .nil)) .nil)
    (.cons (.asg (.g (.name 3)) (.new (sl 31385728972) (.cons (.var 5) (.cons (.var 6) .nil)) .nil))
    (.cons (.asg (.g (.name 4)) (.call (sl 4985632477381045956041454959245024) (.cons (.var 3) (.cons (.var 5) (.cons (.var 6) .nil))) .nil))
    (.cons (.ifS (.or2 (.cmp .Is (.var 4) (.cst .non)) (.cmp .NotEq (.tup (.cons (.meth (.var 3) (sl 540543356319081) .nil .nil) (.cons (.meth (.var 3) (sl 219936115) .nil .nil) .nil))) (.tup (.cons (.meth (.var 3) (sl 540543356319081) .nil .nil) (.cons (.meth (.var 3) (sl 219936115) .nil .nil) .nil))))) (.cons (.retE (.cst (.bl false)))
    .nil) .nil)
    (.cons (.ifS (.not (.call (sl 948626323390693160672) (.cons (.meth (.var 3) (sl 244954485) .nil .nil) (.cons (.var 6) .nil)) .nil)) (.cons (.retE (.cst (.bl false)))
    .nil) .nil)
    .nil)))))))))
/-- law: 0:_law_script 1:_law_k 2:_law_box_here 3:_law_knots 4:_law_found 5:_law_many 6:_law_some 7:_law_a 8:_law_b 9:_law_number -/
def P_law : FD := { ps := [(sl 139179163952130779821792)], N := [(sl 139179163952130779821792), (sl 3736874825440), (sl 1990466642053554134062773984), (sl 1078405437092412307168), (sl 939625892901331449568), (sl 8853948731609364192), (sl 7412295679706969824), (sl 3393277441760), (sl 3427637180128), (sl 136716016479375560586976)], bd :=
    (.cons (.forS (.name 1) (.rng1 (.bi .max2 (.cons (.cst (.int 2)) (.cons (.bi .min2 (.cons (.cst (.int 6)) (.cons (.bi .len (.cons (.var 0) .nil)) .nil))) .nil)))) P_law_L1)
    (.cons (.retE (.cst (.bl true)))
    .nil)) }
def Gm : Prog := {
  fns := [(((sl 496627288372595), none), P_ring_to),
  (((sl 1087548830687801653735), none), P_from_least),
  (((sl 31385728972), some (sl 54469456771592288)), P_Knots___init__),
  (((sl 31385728972), some (sl 425541011992672)), P_Knots___len__),
  (((sl 31385728972), some (sl 1684853)), P_Knots_tie),
  (((sl 31385728972), some (sl 244954485)), P_Knots_ties),
  (((sl 31385728972), some (sl 27327854702)), P_Knots_moved),
  (((sl 31385728972), some (sl 447736897696628)), P_Knots_settled),
  (((sl 31385728972), some (sl 540543356319081)), P_Knots_history),
  (((sl 31385728972), some (sl 219936115)), P_Knots_ring),
  (((sl 68612953210402528), none), P__law_box),
  (((sl 7411108241508710112), none), P__law_take),
  (((sl 948626323390693160672), none), P__law_alike_v2),
  (((sl 17666140400891498593826528), none), P__law_numbers),
  (((sl 289191213341004827581170104032), none), P__law_some_ties),
  (((sl 37053728673122679244889846757088), none), P__law_some_knots),
  (((sl 38950253729539421531846378829536), none), P__law_is_history),
  (((sl 144944769655457577481952), none), P__law_is_way),
  (((sl 15848067343506069972891360), none), P__law_is_ring),
  (((sl 4985632477381045956041454959245024), none), P__law_has_history),
  (((sl 259654735355141644047437313760), none), P__law_long_ring),
  (((sl 1978733), none), P_law)],
  flds := [((sl 31385728972), [(sl 69171474465699945), (sl 213497205)])],
  cs := [],
  bl := [(sl 1913314), (sl 1799906), (sl 230439011), (sl 1931242), (sl 948052629667830217322), (sl 1831789), (sl 247281005), (sl 1995118), (sl 1832302), (sl 27600351603), (sl 1817460), (sl 27610872693), (sl 1865083)],
  cls := [],
  nes := [],
  fz := [] }
instance : Has Gm ((sl 496627288372595), none) P_ring_to := ⟨by kernel_rfl⟩
instance : Has Gm ((sl 1087548830687801653735), none) P_from_least := ⟨by kernel_rfl⟩
instance : Has Gm ((sl 31385728972), some (sl 54469456771592288)) P_Knots___init__ := ⟨by kernel_rfl⟩
instance : Has Gm ((sl 31385728972), some (sl 425541011992672)) P_Knots___len__ := ⟨by kernel_rfl⟩
instance : Has Gm ((sl 31385728972), some (sl 1684853)) P_Knots_tie := ⟨by kernel_rfl⟩
instance : Has Gm ((sl 31385728972), some (sl 244954485)) P_Knots_ties := ⟨by kernel_rfl⟩
instance : Has Gm ((sl 31385728972), some (sl 27327854702)) P_Knots_moved := ⟨by kernel_rfl⟩
instance : Has Gm ((sl 31385728972), some (sl 447736897696628)) P_Knots_settled := ⟨by kernel_rfl⟩
instance : Has Gm ((sl 31385728972), some (sl 540543356319081)) P_Knots_history := ⟨by kernel_rfl⟩
instance : Has Gm ((sl 31385728972), some (sl 219936115)) P_Knots_ring := ⟨by kernel_rfl⟩
instance : Has Gm ((sl 68612953210402528), none) P__law_box := ⟨by kernel_rfl⟩
instance : Has Gm ((sl 7411108241508710112), none) P__law_take := ⟨by kernel_rfl⟩
instance : Has Gm ((sl 948626323390693160672), none) P__law_alike_v2 := ⟨by kernel_rfl⟩
instance : Has Gm ((sl 17666140400891498593826528), none) P__law_numbers := ⟨by kernel_rfl⟩
instance : Has Gm ((sl 289191213341004827581170104032), none) P__law_some_ties := ⟨by kernel_rfl⟩
instance : Has Gm ((sl 37053728673122679244889846757088), none) P__law_some_knots := ⟨by kernel_rfl⟩
instance : Has Gm ((sl 38950253729539421531846378829536), none) P__law_is_history := ⟨by kernel_rfl⟩
instance : Has Gm ((sl 144944769655457577481952), none) P__law_is_way := ⟨by kernel_rfl⟩
instance : Has Gm ((sl 15848067343506069972891360), none) P__law_is_ring := ⟨by kernel_rfl⟩
instance : Has Gm ((sl 4985632477381045956041454959245024), none) P__law_has_history := ⟨by kernel_rfl⟩
instance : Has Gm ((sl 259654735355141644047437313760), none) P__law_long_ring := ⟨by kernel_rfl⟩
instance : Has Gm ((sl 1978733), none) P_law := ⟨by kernel_rfl⟩
instance : HasF Gm (sl 31385728972) (sl 69171474465699945) := ⟨by kernel_rfl⟩
instance : HasF Gm (sl 31385728972) (sl 213497205) := ⟨by kernel_rfl⟩
abbrev K__law_long_ring : Str × Option Str := ((sl 259654735355141644047437313760), none)
abbrev K_law : Str × Option Str := ((sl 1978733), none)
local macro_rules | `(tactic| walk_at "rem") => `(tactic| first | with_reducible exact Rem.head | (with_reducible apply Rem.tail; walk_at "rem"))
local macro_rules | `(tactic| walk_at "cond") => `(tactic| first | with_reducible exact Nat.zero_le _ | with_reducible assumption | omega | (simp only [big]; omega) | exact mulOk_l (by omega) | exact mulOk_r (by omega) | exact divOk_of (by omega) (by omega) | exact rngOk_i (by omega) | (simp only [big, List.length_cons, List.length_nil, List.length_map, List.length_append] <;> omega) | (refine ⟨by walk_at "cond", ?_⟩; walk_at "cond") | (refine .inl ?_; walk_at "cond") | (refine .inr ?_; walk_at "cond"))
local macro_rules | `(tactic| walk_at "sub") => `(tactic| first | with_reducible exact Sub.rfl | (with_reducible apply Sub.cons; walk_at "rem"; walk_at "sub") | (with_reducible apply Sub.drop; walk_at "sub"))
local macro_rules | `(tactic| walk_at "nf") => `(tactic| (simp only [List.mem_cons, List.not_mem_nil, sl_inj, Nat.reduceEqDiff, or_self, or_false, not_false_eq_true]))
local macro_rules | `(tactic| walk_at "ev") => `(tactic| simp only [↓w_ev_var1, ↓w_ev_cst2, ↓w_ev_glo3, ↓w_ev_tup4, ↓w_ev_lst5, ↓w_ev_dic6, ↓w_ev_dict07, ↓w_ev_bin8, ↓w_ev_neg9, ↓w_ev_cmp10, ↓w_ev_chain11, ↓w_ev_and212, ↓w_ev_or213, ↓w_ev_not14, ↓w_ev_ite15, ↓w_ev_fld16, ↓w_ev_ix17, ↓w_ev_slc18, ↓w_ev_call19, ↓w_ev_new20, ↓w_ev_meth21, ↓w_ev_bi22, ↓w_ev_bm23, ↓w_ev_isi24, ↓w_ev_lc25, ↓w_ev_lrg126, ↓w_ev_lrg227, ↓w_ev_lockE28, ↓w_ev_nev29, ↓w_evs_nil1, ↓w_evs_cons2, ↓w_evK_nil1, ↓w_evK_cons2, ↓w_evKV_nil1, ↓w_evKV_cons2, ↓w_evP_no1, ↓w_evP_yes2, ↓w_evC_no1, ↓w_evC_yes2, ↓w_evB_cmp1, ↓w_evB_chain2, ↓w_evB_and23, ↓w_evB_or24, ↓w_evB_not5, ↓w_evB_var6, ↓w_evB_cst7, ↓w_evB_glo8, ↓w_evB_fld9, ↓w_evB_ix10, ↓w_evB_call11, ↓w_evB_meth12, ↓w_evB_bi13, ↓w_evB_bm14, ↓w_evB_isi15, ↓w_evI_seq1, ↓w_evI_rng12, ↓w_evI_rng23, ↓w_evI_dkeys4, ↓w_evI_dvals5, ↓w_evI_ditms6, ↓w_evI_enum7, ↓w_evI_zip8, ↓w_ex_asg1, ↓w_ex_aug2, ↓w_ex_aug3, ↓w_ex_expr5, ↓w_ex_retE6, ↓w_ex_ret07, ↓w_ex_ifS8, ↓w_ex_forS9, ↓w_ex_whileS10, ↓w_ex_pass11, ↓w_ex_doc12, ↓w_ex_brk13, ↓w_ex_cont14, ↓w_ex_nev15, ↓w_ex_lockS16, ↓w_exs_nil1, ↓w_exs_cons2, ↓W_bnd, ↓W_bndR, ↓W_ok, ↓W_ret, ↓W_fl, ↓W_fail, ↓W_iteM, ↓W_ite, Wif_t, Wif_f, ↓body_r, getV_app, opt_app, rdH_app, wrH_app, optR_some, optR_none, wrR_none, optR_ite, wrR_ite, obind_ite, omap_ite, optR_map, Option.bind_some, Option.bind_none, Option.map_some, Option.map_none, id_eq, Option.isSome_some, Option.isSome_none, Option.isNone_some, Option.isNone_none,
 asgG_name, asgG_tup, asgG_kt, asgGs_nil, asgGs_cons, asgT_g, asgT_fld, asgT_ix, List.getElem?_cons_zero, List.getElem?_cons_succ, List.set_cons_zero, List.set_cons_succ, List.length_cons, List.length_nil, List.map_cons, List.map_nil, List.replicate_succ, List.replicate_zero, List.cons_append, List.nil_append, List.append_nil, List.zip_cons_cons, List.zip_nil_left, List.zip_nil_right, ksN,
 binOp_int, binI_add, binI_sub, binI_mul, binI_div, binI_mod, binI_pow, cmp_lt, cmp_le, cmp_gt, cmp_ge, cmp_eq, cmp_ne, cmp_is, cmp_isn, cmp_in, cmp_nin, tru_app, truH_bl, truH_int, truH_non, truH_r, truO_lst, truO_rol, ixT_app, ixH_tup, ixH_kt, ixH_ref, ixO_lst, ixO_rol, ixO_dK, keyOf_int, keyOf_str, atV_int, at0, at1, at2, at3, at4, at5, at6,
 eqH_int, eqH_bl, eqH_non, eqH_intnon, eqH_nonint, fldT_r, fldO_ins, mcls_r, mclO_ins, setFld_r, setO_ins, setIx_r, sixO_lst, sixO_dK, lenH_r, lenH_tup, lenH_kt, lenO_lst, lenO_rol, lenO_dK, inH_int_r, inO_ints, walkT_t, walkT_kt, blsOf_map, all_map, any_map, isiH_r, tyOf_r, tyOf_non, tyOf_bl, tyOf_int, tyOf_str, tyOf_tup, tyOf_kt, kdO_lst, kdO_dK, kdO_ins, kdIn_ty, kdIn_i, isiOne_tt, isiOne_tc, isiOne_ct, isiOne_cc, List.any_cons, List.any_nil, walkT_r, lwalk_r, items_lst, items_rol, wlist_lst, wlst_r, lstOf_r, seqOf_r,
 getF_nil, getF_cons, putF_nil, putF_cons, kget_n, kget_c, kput_G, kputG_nil, kputG_cons, addLL_r, mulLI_r, addTT_r, addSS_r, slT_r, slT_t, len_r, abs_r, sum_r, all_r, any_r, list_r, list_t, list_kt, tuple_r, tuple_t, bmK_app, bmK_clr, bmK_pop, bmK_ext, bmK_upd, bmK_get, bmK_dpop, dicO_dK, inO_dK, inH_str_r, inO_dKs, truO_dK, dvT_r, diT_r, dkT_r, dvO_lk, diO_lk, dkO_lk, extend_r, append_r, clear_r, min2_app, max2_app, int_app, intb_app, lrgT_app, atN,
 Phi_call, Phi_okF, Phi_has, Phi_cls, hasM_i, okF_i, sl_inj, initS, decide_eq_true_eq, decide_true, decide_false, Bool.not_true, Bool.not_false, Bool.not_eq_true, Bool.not_eq_eq_eq_not, decide_not, decide_eq_false_iff_not, bne_iff_ne, ne_eq, not_false_eq_true, not_true_eq_false, reduceCtorEq, Sum.inl.injEq, Sum.inr.injEq, T.int.injEq, T.bl.injEq, and_self, and_true, true_and, and_false, false_and, or_true, true_or, or_false, false_or, if_true, if_false, Bool.true_eq_false, Bool.false_eq_true, Bool.or_true, Bool.or_false, Bool.true_or, Bool.false_or, Bool.and_true, Bool.true_and, Bool.and_false, Bool.false_and, beq_ff, eq_self, Nat.le_refl, Int.zero_add, partT, List.isEmpty_cons, List.isEmpty_nil, dicOf_r, dicPut_nil, dicPut_cons, Nat.reduceEqDiff, Nat.reduceSub, Nat.reduceAdd, Nat.reduceMul, Nat.reduceLT, Nat.reduceLeDiff, Int.reduceEq, Int.reduceNe, Int.reduceLT, Int.reduceLE, Int.reduceAdd, Int.reduceSub, Int.reduceMul, Int.reduceToNat, Int.reduceNeg, Int.reduceDiv, Int.reduceMod, Int.reducePow, Nat.zero_add, Nat.sub_self, Nat.reduceBEq, Int.ofNat_eq_natCast, reduceIte, List.length_map, List.length_append, List.length_set, wipeN_nil, wipeN_cons, blsOf_t, all_tt, List.length_replicate, cut1, flat_rep, zipM_rr, zipM_tt, mulTI_r, slT_s, dkO1_dK, listD_r, dictD_r, sorted_r, str_i, str_s, bmK_dclr, bmK_join, cmp_le2, cmp_lt2, ixT_s, ixO_lkK, ↓w_ev_olen, ↓w_ev_oeq, ↓w_evB_oeq, bin_shl, bin_shr, bin_and, upper_s, strip_s, index_s, bmK_upper, bmK_strip, bmK_index, bmK_popi, ↓w_ev_lzip, ↓w_ev_lc2, ↓w_evI_zipS, ↓w_ex_asgM, ↓w_ex_forM, gsLen_nil, gsLen_cons, asgM_g, asgM_pair, asgM_star, asgM_starK, zipU_tt, zipM_kt, List.take_succ_cons, List.drop_succ_cons, List.take_zero, List.drop_zero, ↓w_evI_sgn, ↓w_evI_zipN, gdOk_nil, zipT_nil, zipT_nil2, zipT_cons, blsOf_nil, blsOf_cons, List.all_cons, List.all_nil, w_ev_maxd, w_ev_revE
, addT0_n, cl_Keeper_asked_1_term_reading, cl_Keeper_asked_3, cl_Keeper_copied_1, cl_Keeper_granted_1, cl_Keeper_init_1_keeps_hands, cl_Keeper_init_3, cl_Keeper_kept_term_1, cl_Keeper_lets_by_3, cl_Keeper_roused_1_reading, cl_Keeper_roused_2, cl_Keeper_until_1, cl_Knots_history_1, cl_Knots_init_1_ties_many, cl_Knots_init_2, cl_Knots_init_2_ties, cl_Knots_init_3, cl_Knots_len_1, cl_Knots_moved_3, cl_Knots_ring_1, cl_Knots_settled_1, cl_Knots_tie_1_most_b_a, cl_Knots_tie_4, cl_Knots_ties_1, cl__law_alike_2, cl__law_box_2, cl__law_has_history_3, cl__law_is_history_3, cl__law_is_ring_2, cl__law_is_way_4, cl__law_long_ring_2, cl__law_numbers_1, cl__law_some_knots_1, cl__law_some_ties_3, cl__law_take_2, cl_from_least_1, cl_hand_by_0_term_hands, cl_hand_by_2, cl_ring_to_2, cl_term_by_0_count_hand_hands, cl_term_by_0_count_hands_hand, cl_term_by_3, cl_v2__law_alike_2, cl_v2__law_box_2, cl_v3__law_box_2, (‹Sat _ _›).facts])
local macro_rules | `(tactic| walk_at "H") => `(tactic| exact (‹Sat _ _›).sub (by walk_at "sub"))
local macro_rules | `(tactic| walk_at "call") => `(tactic| fail)
local macro_rules | `(tactic| walk_at "st") => `(tactic| first | walk_at "ev" | (with_reducible refine W_neu (by assumption) ?_; intro _ _ _) | (with_reducible apply W_wr; assumption; walk_at "rem"; intro _ _) | walk_at "call" | (with_reducible apply W_pos; walk_at "cond") | (with_reducible apply W_neg; walk_at "cond"))
local macro_rules | `(tactic| walk_at "go") => `(tactic| repeat walk_at "st")
theorem box_is : P__law_box = BOX 7919 11 := rfl
section
variable {n b : Nat} {h : LH} {ns : List Int} {X : Ex → LH → Prop} {R Ps : List HP}
theorem er_map {α β : Type} {f : α → β} : ∀ {K : List α} {j : Nat}, (K.map f).eraseIdx j = (K.eraseIdx j).map f
  | [], j => rfl
  | x :: K, 0 => rfl
  | x :: K, j + 1 => by
    rw [List.map_cons, List.eraseIdx_cons_succ, List.eraseIdx_cons_succ, List.map_cons, er_map]
theorem W_popi {α : Type} {l : Nat} {K : List α} {f : α → T} {i : Int} {Q : T → LH → Prop} {t : WT Q X} (h0 : 0 ≤ i) (h1 : i < K.length) (h2 : i < 2 ^ 63) (H : Sat h (.one l (.lst (K.map f)) :: R)) (q : ∀ x j h', K[j]? = some x → Sat h' (.one l (.lst ((K.eraseIdx j).map f)) :: R) → Q (f x) h') : W (bmF .popi (.ref l) [.int i] h) Q X t := by
  obtain ⟨j, rfl⟩ := Int.eq_ofNat_of_zero_le h0
  have hj : j < K.length := by omega
  have g : h[l]? = some (.lst (K.map f)) := H.get .head
  have e : bmF .popi (.ref l) [.int (j : Int)] h = .ok (f K[j]) (h.set l (.lst ((K.eraseIdx j).map f))) := by
    have dn : dicAt h (.ref l) = none := by
      show (match h[l]? with
        | some o => if isDic o = true then some o else none
        | none => none) = none
      rw [g]; rfl
    have wl : wlstOf h (.ref l) = some (K.map f) := by
      show (h[l]?).bind LO.wlist = _
      rw [g]; rfl
    unfold bmF
    dsimp only
    rw [dn, wl]
    dsimp only
    have a : atN (K.map f).length (j : Int) = some j := by
      unfold atN
      rw [if_pos (by omega), if_pos (by rw [List.length_map]; omega)]
      simp
    rw [a]
    dsimp only
    rw [List.getElem?_map, List.getElem?_eq_getElem hj]
    show (if -(2 ^ 63) ≤ (j : Int) ∧ (j : Int) < 2 ^ 63 then Res.ok (f K[j]) (h.set l (.lst ((K.map f).eraseIdx j))) else .fail) = _
    rw [if_pos ⟨by omega, h2⟩]
    rw [er_map]
  rw [e]
  exact q _ j _ (List.getElem?_eq_getElem hj) (H.set _)
theorem W_zipL {l k : Nat} {xs ys : List T} {R2 : List HP} {Q : List T × Gd → LH → Prop} {t : WT Q X} (H : Sat h Ps) (r : Rem Ps (.one l (.lst xs)) R) (r2 : Rem Ps (.one k (.lst ys)) R2) (e : xs.length = ys.length) (q : Q (zipT xs ys, [(l, .lst xs), (k, .lst ys)]) h) : W (zipM (.ref l) (.ref k) h) Q X t := by
  have g1 := H.get r
  have g2 := H.get r2
  have ez : zipM (.ref l) (.ref k) h = .ok (zipT xs ys, [(l, .lst xs), (k, .lst ys)]) h := by
    show bnd (lwalk (.ref l)) (fun p => bnd (lwalk (.ref k)) fun q => if p.1.length = q.1.length then ret (zipT p.1 q.1, p.2 ++ q.2) else fl) h = _
    have e1 : ∀ (j : Nat) (zs : List T), h[j]? = some (.lst zs) → lwalk (.ref j) h = .ok (zs, [(j, .lst zs)]) h := fun j zs ej => by
      unfold lwalk rdH
      dsimp only
      rw [ej]; rfl
    unfold bnd
    rw [e1 l xs g1]
    dsimp only
    rw [e1 k ys g2]
    dsimp only
    rw [if_pos e]
    rfl
  rw [ez]
  exact q
theorem zipT_ints : ∀ {xs ys : List Int}, zipT (xs.map T.int) (ys.map T.int) = (xs.zip ys).map fun p => .tup [.int p.1, .int p.2]
  | [], _ => by simp [zipT]
  | x :: xs, [] => by simp [zipT]
  | x :: xs, y :: ys => by
    show T.tup [.int x, .int y] :: zipT (xs.map T.int) (ys.map T.int) = _
    rw [zipT_ints]; rfl
local macro_rules | `(tactic| walk_at "call") => `(tactic| first | (with_reducible apply take_s; assumption; walk_at "rem"; walk_at "cond"; walk_at "cond"; intro _ _ _ _ _) | (with_reducible apply W_atMI; walk_at "cond"; walk_at "cond"; intro _ _))
theorem long_s {m : Int} (m1 : 2 ≤ m) (m2 : m ≤ 60) (H : Sat h (.abs (bx b) :: R)) {Q : T → LH → Prop} {t : WT Q X} (q : ∀ k (ts : List Tie) h', ts.length = m.toNat → (∀ x ∈ ts, 0 ≤ x.1 ∧ x.1 < m ∧ 0 ≤ x.2.1 ∧ x.2.1 < m) → Sat h' (.one k (.lst (ts.map tieT)) :: .abs (bx b) :: R) → Q (.ref k) h') : W (clB Gm (n + 2) P__law_long_ring [.ref b, .int m] h) Q X t := by
  rw [clB_body]; simp only [P__law_long_ring]
  walk_at "go"
  have H2 := H.neu (.lst (rngT 0 (m - 0).toNat))
  generalize h ++ [LO.lst (rngT 0 (m - 0).toNat)] = h2 at *
  generalize List.length h = lf at *
  rw [Int.sub_zero] at H2
  have er : rngT 0 m.toNat = ((List.range m.toNat).map fun (i : Nat) => (i : Int)).map T.int := by
    unfold rngT
    rw [List.map_map]
    apply List.map_congr_left
    intro i _
    show T.int (0 + (i : Int)) = T.int i
    rw [Int.zero_add]
  rw [er] at H2
  walk_at "go"
  rename_i lo h3 H3
  refine W_rng (fun j s h => ∃ a2, ∃ (K O : List Int), s = [some (.ref b), some (.int m), a2, none, none, none, some (.ref lf), some (.ref lo), none, none, none] ∧ K.length + j = m.toNat ∧ O.length = j ∧ (∀ x ∈ K, 0 ≤ x ∧ x < m) ∧ (∀ x ∈ O, 0 ≤ x ∧ x < m) ∧ Sat h (.one lo (.lst (O.map T.int)) :: .one lf (.lst (K.map T.int)) :: .abs (bx b) :: R)) ⟨_, _, [], rfl, by simp, rfl, fun x hx => ?_, by simp, H3⟩ ?_ ?_
  · obtain ⟨i, hi, rfl⟩ := List.mem_map.mp hx
    have := List.mem_range.mp hi
    omega
  · rintro j s h hj ⟨a2, K, O, rfl, hK, hO, k1, o1, H4⟩
    simp only [P__law_long_ring_L1]
    walk_at "go"
    refine W_popi (K := K) (f := T.int) (R := .one lo (.lst (O.map T.int)) :: .abs (bx b) :: R) (by assumption) (by assumption) (by omega) ((‹Sat _ (.one lo _ :: _)›).sub (by walk_at "sub")) fun x j' h5 ex H5 => ?_
    walk_at "go"
    refine ⟨_, K.eraseIdx j', O ++ [x], rfl, ?_, by simp [hO], fun y hy => k1 y (List.mem_of_mem_eraseIdx hy), fun y hy => ?_, ?_⟩
    · have hj' := lt_of_get ex
      rw [List.length_eraseIdx_of_lt hj']
      omega
    · rcases List.mem_append.mp hy with hy | hy
      · exact o1 y hy
      · rw [List.mem_singleton.mp hy]
        exact k1 x (List.mem_of_getElem? ex)
    · rw [List.map_append]
      exact (‹Sat _ (.one lo _ :: _)›).sub (by simp only [List.map_cons, List.map_nil]; walk_at "sub")
  · rintro s h ⟨a2, K, O, rfl, hK, hO, k1, o1, H4⟩
    walk_at "go"
    refine W_lc (fun i xs h => ∃ ks : List Int, xs = ks.map T.int ∧ ks.length = i ∧ Sat h (.one lo (.lst (O.map T.int)) :: .abs (bx b) :: R)) ⟨[], rfl, rfl, H4.sub (by walk_at "sub")⟩ ?_ ?_
    · rintro i v xs h e ⟨ks, rfl, hk, H⟩
      refine ⟨rfl, _, rfl, ?_⟩
      walk_at "go"
      rename_i j h2 j0 j1 H2
      exact ⟨ks ++ [j], by simp, by simp [hk], H2.sub (by walk_at "sub")⟩
    rintro xs h5 ⟨ks, rfl, hk, H5⟩
    refine ⟨rfl, ?_⟩
    have hl : (rngT 0 m.toNat).length = m.toNat := by unfold rngT; simp
    rw [hl] at hk
    have kl : ks.length ≤ 60 := by omega
    walk_at "go"
    rename_i lk _ _ _ _ _ _ h6 H6
    have c1 : cutT (O.map T.int) none (some 1) = (O.take 1).map T.int := by
      rw [List.map_take]
      exact cutT_to (n := 1)
    have c2 : cutT (O.map T.int) (some 1) none = (O.drop 1).map T.int := by
      rw [List.map_drop]
      exact cutT_from (n := 1)
    rw [c1, c2] at H6 ⊢
    rw [← List.map_append]
    have lo2 : O.length ≤ 60 := by omega
    have rl : (O.drop 1 ++ O.take 1).length = O.length := by simp only [List.length_append, List.length_drop, List.length_take]; omega
    have ro : ∀ x ∈ O.drop 1 ++ O.take 1, 0 ≤ x ∧ x < m := fun x hx => by
      rcases List.mem_append.mp hx with hx | hx
      · exact o1 x (List.mem_of_mem_drop hx)
      · exact o1 x (List.mem_of_mem_take hx)
    refine W_pos (by simp only [List.length_map, List.length_drop, List.length_take, big]; omega) ?_
    generalize O.drop 1 ++ O.take 1 = O2 at *
    refine W_neu H6 fun lr h7 H7 => ?_
    have H8 : Sat h7 (.one lr (.lst (O2.map T.int)) :: .one lo (.lst (O.map T.int)) :: .one lk (.lst (ks.map T.int)) :: .abs (bx b) :: R) := H7.sub (by walk_at "sub")
    clear H7 H6
    refine W_zipL H8 (.tail .head) .head (by rw [List.length_map, List.length_map, rl]) ?_
    rw [zipT_ints]
    walk_at "ev"
    refine W_lc (fun i xs h => ∃ ts : List Tie, xs = ts.map tieT ∧ ts.length = i ∧ (∀ x ∈ ts, 0 ≤ x.1 ∧ x.1 < m ∧ 0 ≤ x.2.1 ∧ x.2.1 < m) ∧ Sat h (.one lr (.lst (O2.map T.int)) :: .one lo (.lst (O.map T.int)) :: .one lk (.lst (ks.map T.int)) :: .abs (bx b) :: R)) ⟨[], rfl, rfl, by simp, H8⟩ ?_ ?_
    · rintro i v xs h e ⟨ts, rfl, ht, tk, H⟩
      obtain ⟨p, ep, rfl⟩ := get_map e
      have mp := List.of_mem_zip (List.mem_of_getElem? ep)
      have p1 := o1 _ mp.1
      have p2 := ro _ mp.2
      obtain ⟨u, v⟩ := p
      simp only at p1 p2
      refine ⟨gd_two (H.get (.tail .head)) (H.get .head), _, rfl, ?_⟩
      walk_at "go"
      rename_i i1 _ i2 _
      refine ⟨ts ++ [(u, v, i1 - i2)], by rw [List.map_append]; rfl, by simp [ht], fun y hy => ?_, H⟩
      rcases List.mem_append.mp hy with hy | hy
      · exact tk y hy
      · rw [List.mem_singleton.mp hy]
        exact ⟨p1.1, p1.2, p2.1, p2.2⟩
    rintro xs h8 ⟨ts, rfl, ht, tk, H9⟩
    refine ⟨gd_two (H9.get (.tail .head)) (H9.get .head), ?_⟩
    have tl : ts.length = m.toNat := by
      rw [ht, List.length_map, List.length_zip, rl]
      omega
    have tl2 : ts.length ≤ 60 := by omega
    walk_at "go"
    rename_i lt h9 _ i h10 i0 i1 H10
    obtain ⟨j, hj, rfl⟩ := nat_of (n := ts.length) i0 (by omega)
    obtain ⟨x, ex⟩ : ∃ x, ts[j]? = some x := ⟨_, List.getElem?_eq_getElem hj⟩
    have kx := tk x (List.mem_of_getElem? ex)
    with_reducible refine W_atM ex ?_
    obtain ⟨u, v, w⟩ := x
    have r2 : (j : Int) < (ts.length : Int) := by omega
    walk_at "go"
    have HZ := ‹Sat _ (.one lt _ :: _)›
    simp only [Int.toNat_natCast] at HZ
    have es : (ts.map tieT).set j (.tup [.int u, .int v, .int (w - 1)]) = (ts.set j (u, v, w - 1)).map tieT := by rw [List.map_set]
    rw [es] at HZ
    have tk2 : ∀ x ∈ ts.set j (u, v, w - 1), 0 ≤ x.1 ∧ x.1 < m ∧ 0 ≤ x.2.1 ∧ x.2.1 < m := fun x hx => by
      rcases List.mem_or_eq_of_mem_set hx with hx | rfl
      · exact tk x hx
      · exact kx
    have tl3 : (ts.set j (u, v, w - 1)).length = m.toNat := by rw [List.length_set]; exact tl
    generalize ts.set j (u, v, w - 1) = K0 at *
    have HW : Sat _ (.one lt (.lst (K0.map tieT)) :: .abs (bx b) :: R) := HZ.sub (by walk_at "sub")
    refine W_lc (fun i xs h => ∃ (K O : List Tie), xs = O.map tieT ∧ K.length + i = m.toNat ∧ O.length = i ∧ (∀ x ∈ K, 0 ≤ x.1 ∧ x.1 < m ∧ 0 ≤ x.2.1 ∧ x.2.1 < m) ∧ (∀ x ∈ O, 0 ≤ x.1 ∧ x.1 < m ∧ 0 ≤ x.2.1 ∧ x.2.1 < m) ∧ Sat h (.one lt (.lst (K.map tieT)) :: .abs (bx b) :: R)) ⟨K0, [], rfl, by omega, rfl, tk2, by simp, HW⟩ ?_ ?_
    · rintro i y xs h e ⟨K, O, rfl, hK, hO, k1, o1, H4⟩
      obtain ⟨hi, rfl⟩ := rngT_get e
      refine ⟨rfl, _, rfl, ?_⟩
      walk_at "go"
      refine W_popi (K := K) (f := tieT) (R := .abs (bx b) :: R) (by assumption) (by assumption) (by omega) (‹Sat _ (.one lt _ :: _)›) fun x j' h5 ex H5 => ?_
      refine ⟨K.eraseIdx j', O ++ [x], by rw [List.map_append]; rfl, ?_, by simp [hO], fun y hy => k1 y (List.mem_of_mem_eraseIdx hy), fun y hy => ?_, H5⟩
      · have hj' := lt_of_get ex
        rw [List.length_eraseIdx_of_lt hj']
        omega
      · rcases List.mem_append.mp hy with hy | hy
        · exact o1 y hy
        · rw [List.mem_singleton.mp hy]
          exact k1 x (List.mem_of_getElem? ex)
    rintro xs h11 ⟨K, O, rfl, hK, hO, k1, o1, H11⟩
    have hl : (rngT 0 m.toNat).length = m.toNat := by unfold rngT; simp
    rw [hl] at hO
    refine ⟨rfl, ?_⟩
    walk_at "go"
    exact q _ O _ hO o1 ((‹Sat _ (.one _ (.lst (O.map tieT)) :: _)›).sub (by walk_at "sub"))
abbrev tkI (m : Int) (x : Tie) : Prop := 0 ≤ x.1 ∧ x.1 < m ∧ 0 ≤ x.2.1 ∧ x.2.1 < m
local macro_rules | `(tactic| walk_at "call") => `(tactic| first | (with_reducible apply take_s; assumption; walk_at "rem"; walk_at "cond"; walk_at "cond"; intro _ _ _ _ _) | (rw [box_is]; with_reducible apply box_w; walk_at "cond"; assumption; walk_at "rem"; walk_at "cond"; intro _ _ _) | (with_reducible apply someknots_s; walk_at "H"; intro _ _ _ _ _ _ _ _ _) | (with_reducible apply someties_s; walk_at "cond"; walk_at "cond"; walk_at "cond"; walk_at "cond"; walk_at "H"; intro _ _ _ _ _ _) | (with_reducible apply long_s; walk_at "cond"; walk_at "cond"; walk_at "H"; intro _ _ _ _ _ _) | (with_reducible apply W_atMI; walk_at "cond"; walk_at "cond"; intro _ _) | (with_reducible apply (W_atB 10 59); (with_unfolding_all rfl); walk_at "cond"; walk_at "cond"; intro _ _ _))
theorem eqH_self {x : T} {d : PyData} (e : datH h 8 x = some d) : eqH h x x = some true := by
  unfold eqH
  rw [e]
  show some (PyData.eqv d d) = _
  rw [SeqAt.eqv_refl d (SeqAt.canLay_of_shaped (dat_shaped e))]
theorem dat_ints {j : Nat} {ks : List Int} : allO ((ks.map T.int).map (datH h j)) = some (ks.map PyData.int) := by
  induction ks with
  | nil => rfl
  | cons x ks ih =>
    rw [List.map_cons, List.map_cons]
    have : datH h j (.int x) = some (.int x) := by cases j <;> rfl
    rw [this]
    show (allO ((ks.map T.int).map (datH h j))).map (PyData.int x :: ·) = _
    rw [ih]; rfl
theorem dat_tl {j : Nat} {l : List Tie} : allO ((l.map tieT).map (datH h (j + 1))) = some (l.map tieD) := by
  induction l with
  | nil => rfl
  | cons x l ih =>
    rw [List.map_cons, List.map_cons, dat_tie]
    show (allO ((l.map tieT).map (datH h (j + 1)))).map (tieD x :: ·) = _
    rw [ih]; rfl
theorem dat_hist {j M : Nat} {ts : List Tie} : ∃ d, datH h (j + 1) (histT ts M) = some d := by
  unfold histT
  cases PK.outE ts M with
  | none => exact ⟨.tuple ((hsL ts M).map PyData.int), by
      show (allO (((hsL ts M).map T.int).map (datH h j))).map PyData.tuple = _
      rw [dat_ints]; rfl⟩
  | some e => exact ⟨.none, rfl⟩
theorem dat_ring {j M : Nat} {ts : List Tie} : ∃ d, datH h (j + 2) (ringT ts M) = some d := by
  unfold ringT
  cases PK.outE ts M with
  | none => exact ⟨.none, rfl⟩
  | some e => exact ⟨.tuple ((PK.ringOf ts M e).map tieD), by
      show (allO (((PK.ringOf ts M e).map tieT).map (datH h (j + 1)))).map PyData.tuple = _
      rw [dat_tl]; rfl⟩
theorem eq_hr {M : Nat} {ts : List Tie} : eqH h (.tup [histT ts M, ringT ts M]) (.tup [histT ts M, ringT ts M]) = some true := by
  obtain ⟨d1, e1⟩ := dat_hist (h := h) (j := 6) (M := M) (ts := ts)
  obtain ⟨d2, e2⟩ := dat_ring (h := h) (j := 5) (M := M) (ts := ts)
  refine eqH_self (d := .tuple [d1, d2]) ?_
  show (allO [datH h 7 (histT ts M), datH h 7 (ringT ts M)]).map PyData.tuple = _
  rw [e1, e2]; rfl
local macro_rules | `(tactic| walk_at "call") => `(tactic| first | (with_reducible apply (W_mc (ic := knP_c)); assumption; walk_at "rem"; walk_at "nf") | (with_reducible apply history_s; assumption; walk_at "cond"; walk_at "cond"; walk_at "H"; intro _ _) | (with_reducible apply ring_s; assumption; walk_at "cond"; walk_at "cond"; walk_at "H"; intro _ _) | (with_reducible apply ties_s; assumption; walk_at "rem"; intro _ _ _))
theorem in1b {k ls : Nat} {m : Int} {ts : List Tie} {a3 a4 a7 a8 a9 : Option T} (mA : 1 ≤ m) (mB : m ≤ 60) (tl : ts.length ≤ 200) (tk : ∀ x ∈ ts, tkI m x) (H : Sat h (.one ls (.lst (ts.map tieT)) :: R)) {Q : Fl → LH → Prop} {t : WT Q X}
    (q : ∀ a3 a4 h', Sat h' R → Q (.nx [some (.ref 0), some (.int (k : Int)), some (.ref b), a3, a4, some (.int m), some (.ref ls), a7, a8, a9]) h') :
    W (exs (Phi Gm (n + 8)) (.cons (.asg (.g (.name 3)) (.new (sl 31385728972) (.cons (.var 5) (.cons (.var 6) .nil)) .nil))
    (.cons (.asg (.g (.name 4)) (.call (sl 4985632477381045956041454959245024) (.cons (.var 3) (.cons (.var 5) (.cons (.var 6) .nil))) .nil))
    (.cons (.ifS (.or2 (.cmp .Is (.var 4) (.cst .non)) (.cmp .NotEq (.tup (.cons (.meth (.var 3) (sl 540543356319081) .nil .nil) (.cons (.meth (.var 3) (sl 219936115) .nil .nil) .nil))) (.tup (.cons (.meth (.var 3) (sl 540543356319081) .nil .nil) (.cons (.meth (.var 3) (sl 219936115) .nil .nil) .nil))))) (.cons (.retE (.cst (.bl false)))
    .nil) .nil)
    (.cons (.ifS (.not (.call (sl 948626323390693160672) (.cons (.meth (.var 3) (sl 244954485) .nil .nil) (.cons (.var 6) .nil)) .nil)) (.cons (.retE (.cst (.bl false)))
    .nil) .nil)
    .nil)))) [some (.ref 0), some (.int (k : Int)), some (.ref b), a3, a4, some (.int m), some (.ref ls), a7, a8, a9] h) Q X t := by
  obtain ⟨M, rfl⟩ : ∃ M : Nat, m = (M : Int) := ⟨m.toNat, by omega⟩
  have ok : tiesIn ts M := tk
  have m1 : 1 ≤ M := by omega
  have m2 : M ≤ 100 := by omega
  walk_at "go"
  refine knots_r (ts := ts) (by omega) ‹Sat _ (.one _ (.ins _ []) :: _)› .head .head fun h2 H2 => ?_
  walk_at "go"
  refine has_s ok m1 m2 (by omega) H2 fun h3 H3 => ?_
  walk_at "go"
  rw [eq_hr]
  walk_at "go"
  have sz := sz_ties (rg := ts)
  have HZ := ‹Sat _ (.one _ (.lst (ts.map tieT)) :: .abs _ :: _)›
  refine alike_l (xs := ts.map tieT) pl_ties (by omega) HZ .head (.tail .head) fun h4 H4 => ?_
  walk_at "go"
  exact q _ _ _ H4.drop.drop.drop
theorem in1c {ss : Ss} {k ls : Nat} {m : Int} {ts : List Tie} {a3 a4 a7 a8 a9 : Option T} (mA : 1 ≤ m) (mB : m ≤ 60) (tl : ts.length ≤ 200) (tk : ∀ x ∈ ts, tkI m x) (hL : (.cons (.asg (.g (.name 3)) (.new (sl 31385728972) (.cons (.var 5) (.cons (.var 6) .nil)) .nil))
    (.cons (.asg (.g (.name 4)) (.call (sl 4985632477381045956041454959245024) (.cons (.var 3) (.cons (.var 5) (.cons (.var 6) .nil))) .nil))
    (.cons (.ifS (.or2 (.cmp .Is (.var 4) (.cst .non)) (.cmp .NotEq (.tup (.cons (.meth (.var 3) (sl 540543356319081) .nil .nil) (.cons (.meth (.var 3) (sl 219936115) .nil .nil) .nil))) (.tup (.cons (.meth (.var 3) (sl 540543356319081) .nil .nil) (.cons (.meth (.var 3) (sl 219936115) .nil .nil) .nil))))) (.cons (.retE (.cst (.bl false)))
    .nil) .nil)
    (.cons (.ifS (.not (.call (sl 948626323390693160672) (.cons (.meth (.var 3) (sl 244954485) .nil .nil) (.cons (.var 6) .nil)) .nil)) (.cons (.retE (.cst (.bl false)))
    .nil) .nil)
    .nil)))) = ss) (H : Sat h (.one ls (.lst (ts.map tieT)) :: R)) {Q : Fl → LH → Prop} {t : WT Q X}
    (q : ∀ a3 a4 h', Sat h' R → Q (.nx [some (.ref 0), some (.int (k : Int)), some (.ref b), a3, a4, some (.int m), some (.ref ls), a7, a8, a9]) h') :
    W (exs (Phi Gm (n + 8)) ss [some (.ref 0), some (.int (k : Int)), some (.ref b), a3, a4, some (.int m), some (.ref ls), a7, a8, a9] h) Q X t :=
  @Eq.ndrec Ss _ (fun ss => W (exs (Phi Gm (n + 8)) ss [some (.ref 0), some (.int (k : Int)), some (.ref b), a3, a4, some (.int m), some (.ref ls), a7, a8, a9] h) Q X t) (in1b mA mB tl tk H q) ss hL
theorem in1 {k : Nat} {a2 a3 a4 a5 a6 a7 a8 a9 : Option T} (hk : k < 10) (H : Sat h [.one 0 (.rol (ns.map T.int))]) {Q : Fl → LH → Prop} {t : WT Q X}
    (q : ∀ a2 a3 a4 a5 a6 a7 a8 a9 h', Sat h' [.one 0 (.rol (ns.map T.int))] → Q (.nx [some (.ref 0), some (.int (k : Int)), a2, a3, a4, a5, a6, a7, a8, a9]) h') :
    W (exs (Phi Gm (n + 8)) P_law_L1 [some (.ref 0), some (.int (k : Int)), a2, a3, a4, a5, a6, a7, a8, a9] h) Q X t := by
  simp only [P_law_L1]
  walk_at "go"
  rename_i b _ _ m l0 ts0 _ mA mB tl0 tk0 H0 z _ _ _ Hz
  have B0 : ∀ x ∈ ts0, tkI m x := fun x hx => ⟨(tk0 x hx).1, (tk0 x hx).2.1, (tk0 x hx).2.2.1, (tk0 x hx).2.2.2.1⟩
  refine W_join (fun f h' => ∃ (m : Int) (ls : Nat) (ts : List Tie), f = .nx [some (.ref 0), some (.int (k : Int)), some (.ref b), a3, a4, some (.int m), some (.ref ls), a7, a8, a9] ∧ 1 ≤ m ∧ m ≤ 60 ∧ ts.length ≤ 199 ∧ (∀ x ∈ ts, tkI m x) ∧ Sat h' (.one ls (.lst (ts.map tieT)) :: .abs (bx b) :: [.one 0 (.rol (ns.map T.int))])) ?_ ?_
  · refine W_or (fun c => ?_) (fun c => ?_)
    · walk_at "go"
      rename_i l1 ts1 _ e1 tk1 HH
      exact ⟨60, l1, ts1, rfl, by omega, by omega, by rw [e1]; decide, fun x hx => ⟨(tk1 x hx).1, (tk1 x hx).2.1, (tk1 x hx).2.2.1, (tk1 x hx).2.2.2.1⟩, HH.sub (by walk_at "sub")⟩
    · walk_at "go"
      exact ⟨m, l0, ts0, rfl, mA, by omega, by omega, B0, Hz⟩
  rintro f h1 ⟨m, ls, ts, rfl, mA, mB, tl, tk, H1⟩
  clear Hz H0 B0 tk0
  walk_at "go"
  rename_i z8 _ _ _ H2
  refine W_join (fun f h' => ∃ (m : Int) (ls : Nat) (ts : List Tie), f = .nx [some (.ref 0), some (.int (k : Int)), some (.ref b), a3, a4, some (.int m), some (.ref ls), a7, a8, a9] ∧ 1 ≤ m ∧ m ≤ 60 ∧ ts.length ≤ 199 ∧ (∀ x ∈ ts, tkI m x) ∧ Sat h' (.one ls (.lst (ts.map tieT)) :: .abs (bx b) :: [.one 0 (.rol (ns.map T.int))])) ?_ ?_
  · refine W_or (fun c => ?_) (fun c => ?_)
    · walk_at "go"
      rename_i l2 ts2 _ e2 tk2 HH
      exact ⟨_, l2, ts2, rfl, by omega, by omega, by omega, tk2, HH.sub (by walk_at "sub")⟩
    · walk_at "go"
      exact ⟨m, ls, ts, rfl, mA, mB, tl, tk, H2⟩
  rintro f h3 ⟨m, ls, ts, rfl, mA, mB, tl, tk, H3⟩
  clear H2 H1
  generalize hL : ((Ss.cons (.asg (.g (.name 3)) (.new (sl 31385728972) (.cons (.var 5) (.cons (.var 6) .nil)) .nil))
    (.cons (.asg (.g (.name 4)) (.call (sl 4985632477381045956041454959245024) (.cons (.var 3) (.cons (.var 5) (.cons (.var 6) .nil))) .nil))
    (.cons (.ifS (.or2 (.cmp .Is (.var 4) (.cst .non)) (.cmp .NotEq (.tup (.cons (.meth (.var 3) (sl 540543356319081) .nil .nil) (.cons (.meth (.var 3) (sl 219936115) .nil .nil) .nil))) (.tup (.cons (.meth (.var 3) (sl 540543356319081) .nil .nil) (.cons (.meth (.var 3) (sl 219936115) .nil .nil) .nil))))) (.cons (.retE (.cst (.bl false)))
    .nil) .nil)
    (.cons (.ifS (.not (.call (sl 948626323390693160672) (.cons (.meth (.var 3) (sl 244954485) .nil .nil) (.cons (.var 6) .nil)) .nil)) (.cons (.retE (.cst (.bl false)))
    .nil) .nil)
    .nil)))) : Ss) = ss
  have fin : ∀ {ls : Nat} {ts : List Tie} {a7 a8 a9 : Option T} {h' : LH}, ts.length ≤ 200 → (∀ x ∈ ts, tkI m x) → Sat h' (.one ls (.lst (ts.map tieT)) :: [.one 0 (.rol (ns.map T.int))]) → W (exs (Phi Gm (n + 8)) ss [some (.ref 0), some (.int (k : Int)), some (.ref b), a3, a4, some (.int m), some (.ref ls), a7, a8, a9] h') Q X ⟨⟩ := fun {ls ts a7 a8 a9 h'} z1 z2 z3 => in1c mA mB z1 z2 hL z3 fun a3 a4 h' H' => q _ _ _ _ _ _ _ _ _ H'
  walk_at "go"
  rename_i z6 _ _ _ H4
  clear H3
  refine W_or (fun c => ?_) (fun c => ?_)
  · walk_at "go"
    refine W_or (fun c2 => ?_) (fun c2 => ?_)
    · walk_at "go"
      rename_i i h5 i0 i1 H5
      obtain ⟨j, hj, rfl⟩ := nat_of (n := ts.length) i0 (by omega)
      obtain ⟨x, ex⟩ : ∃ x, ts[j]? = some x := ⟨_, List.getElem?_eq_getElem hj⟩
      have kx := tk x (List.mem_of_getElem? ex)
      with_reducible refine W_atM ex ?_
      obtain ⟨u, v, w⟩ := x
      walk_at "go"
      rename_i z2 _ _ _ _ _ _ _ lz hz HZ
      refine fin (ts := ts ++ [(v, u, if 0 - w - z2 > -2000 then 0 - w - z2 else -2000)]) (by rw [List.length_append, List.length_singleton]; omega) (fun y hy => ?_) ?_
      · rcases List.mem_append.mp hy with hy | hy
        · exact tk y hy
        · rw [List.mem_singleton.mp hy]
          exact ⟨kx.2.2.1, kx.2.2.2, kx.1, kx.2.1⟩
      · rw [List.map_append]
        exact HZ.sub (by simp only [List.map_cons, List.map_nil, tieT]; walk_at "sub")
    · walk_at "go"
      exact fin (by omega) tk (H4.sub (by walk_at "sub"))
  · rw [W_ret]
    walk_at "go"
    exact fin (by omega) tk (H4.sub (by walk_at "sub"))
end
theorem law_ok : LawOk Gm (sl 1978733) 63 90 := by
  refine ⟨P_law, sl 139179163952130779821792, by kernel_rfl, rfl, rfl, rfl, rfl, fun ns hn => law_W fun h H => ?_⟩
  rw [clB_body]; simp only [P_law]
  walk_at "go"
  simp only [many_is]
  have m1 := many_le (a := 2) (b := 6) (n := (ns.length : Int)) (by omega)
  have m2 := many_ge (a := 2) (b := 6) (n := (ns.length : Int))
  generalize many 2 6 (ns.length : Int) = mm at m1 m2 ⊢
  walk_at "go"
  refine W_rng (fun j s h => ∃ a1 a2 a3 a4 a5 a6 a7 a8 a9, s = [some (.ref 0), a1, a2, a3, a4, a5, a6, a7, a8, a9] ∧ Sat h [.one 0 (.rol (ns.map T.int))]) ⟨_, _, _, _, _, _, _, _, _, rfl, H⟩ ?_ ?_
  · rintro k s h hk ⟨a1, a2, a3, a4, a5, a6, a7, a8, a9, rfl, H⟩
    simp only [List.set_cons_succ, List.set_cons_zero, Int.zero_add]
    rw [show Phi Gm 89 = Phi Gm (81 + 8) from rfl]
    with_reducible refine in1 (n := 81) (k := k) (by omega) H fun a2 a3 a4 a5 a6 a7 a8 a9 h' H' => ?_
    exact ⟨_, _, _, _, _, _, _, _, _, rfl, H'⟩
  · rintro s h ⟨a1, a2, a3, a4, a5, a6, a7, a8, a9, rfl, H⟩
    walk_at "go"
end Y
namespace Hd
open PySem PySem.W PySem.Calls PyProof.Rows HandSHeadRun
abbrev R : OpenRow := OpenLaw.row PySem.Challenge.rw_leasefence_k49_a_history_or_a_ring
abbrev qv : Program := view R.prog [17]
def names0 : List PySem.Str := ["_wall", "ring_to", "from_least", "Knots", "_law_box", "_law_take", "_law_alike", "_law_numbers", "_law_some_ties", "_law_some_knots", "_law_is_history", "_law_is_way", "_law_is_ring", "_law_has_history", "_law_long_ring"]
def names : List PySem.Str := names0
abbrev lw : PySem.Str := Y.sl 1978733
abbrev hk : PySem.W.Hook := Y.hookY 5 Y.Gm lw
def ob (s : PySem.W.SharedT) : Bool := Y.obY 5 Y.Gm lw (HandSHeadRun.getT s)
theorem ob_eq (s : PySem.W.SharedT) : ob s = hk.obs s.abs := Y.obY_eq s
theorem runA (w : World) (os : OsState) : ((endF (stepQ (denQ tabQ) R.prog w) 30000 R.prog w os).map fun s => looksF R.prog (boot_heap w.params) s.abs) = some true := by kernel_rfl
theorem runB (w : World) (os : OsState) : ((endF (stepQ (denQ tabQ) R.prog w) 30000 R.prog w os).map fun s => seenQ qv names (importedModules R.prog.main.body) (fun s => xlAt qv [] s && recOk R.toRowW.records s) s.abs) = some (openGood qv names) := by kernel_rfl
theorem runC (w : World) (os : OsState) : ((endF (stepQ (denQ tabQ) R.prog w) 30000 R.prog w os).map fun s => ob s) = some true := by kernel_rfl
theorem run (w : World) : HandSHeadRun.RunEq R qv hk ob 30000 names w := fun os => Y.run3 (runA w os) (runB w os) (runC w os)
end Hd
open PySem PySem.W PySem.Calls PyProof.Rows
theorem PySem.Challenge.cw_leasefence_k49_a_history_or_a_ring_holds : PySem.Challenge.rw_leasefence_k49_a_history_or_a_ring.Holds := by
  w_on; o_law
  refine HandSHeadRun.head_any (r := OpenLaw.row PySem.Challenge.rw_leasefence_k49_a_history_or_a_ring) (q := view (OpenLaw.row PySem.Challenge.rw_leasefence_k49_a_history_or_a_ring).prog [17]) (H := Hd.hk) (ob := Hd.ob) (M := 30000) (loose := Hd.names) (d := HandSHeadRun.topDef (OpenLaw.row PySem.Challenge.rw_leasefence_k49_a_history_or_a_ring).prog 17) (kwd := []) Hd.ob_eq
    (by kernel_rfl) (fun s => by kernel_rfl) Hd.run (by kernel_rfl) (by kernel_rfl) (by kernel_rfl) (by rfl) (by first | assumption | decide +kernel) (by decide +kernel) ⟨rfl, rfl, rfl, rfl, rfl, by decide +kernel⟩ ?hw ?hc
  case hw => w_witness2
  case hc =>
    refine Y.walk_ofW (l := PySem.Challenge.rw_leasefence_k49_a_history_or_a_ring) (n := 63) (k := 2 * 90) (x := Y.sl 139179163952130779821792) (CX := fun w => L2.CX (PySem.Challenge.rw_leasefence_k49_a_history_or_a_ring).prog w) rfl (by decide) (by kernel_rfl) ⟨rfl, by decide, by decide⟩ ?F (fun _ _ _ _ _ z => by obtain ⟨_, _, _, _, _, _, _, _, _, _, _, _, q⟩ := z; exact q)
    intro w mg fa h Yh G hmg0
    have hmg : mg Hd.lw = some (.ref fa) := by
      have e : (HandSHeadRun.topDef (OpenLaw.row PySem.Challenge.rw_leasefence_k49_a_history_or_a_ring).prog 17).name = Hd.lw := by kernel_rfl
      rw [← e]
      exact hmg0
    exact Y.law_facts (l := PySem.Challenge.rw_leasefence_k49_a_history_or_a_ring) Y.law_ok (fun d e => by
      have e2 : Y.Gm.fns.lookup (Hd.lw, none) = some Y.P_law := by kernel_rfl
      rw [e2] at e
      cases e
      rfl) Yh G hmg
