import PyProof.Rows.All
import Wide.All
import OpenK.AllK
import Wide.FinOn
import HandS.ForMost
import HandS.Defaults
import HandS.HeadHook1
import HandS.HeadHook2
import PyProof.WalksMore
import PyProof.MinMaxWalk
import PyProof.InstEq
import KE.KDictZip
import Flt.Ops
import HandS.Flt
import KE.KTurns
import HandS.Walk
import HandS.IsInst
import HandS.Star
import HandS.Style
import HandS.WideBits
import HandS.Evl
import KE.KStateDown
import HandS.More
import HandS.WordsExc
import HandS.Head0
import HandS.Head1
import HandS.Head2
import HandS.HeadEnd
import PySem.Challenge.RW_carryways_k04_whole_houses_made_of_house
set_option Elab.async false
set_option linter.all false
set_option maxRecDepth 100000
set_option maxHeartbeats 4000000
/-! the text by places -/
namespace K4
open PySem PySem.Spec PyProof.Rows L2
def top (i : Nat) : Stmt := PySem.Challenge.pw_carryways_k04_whole_houses_made_of_house.main.body.getD i (.Pass ⟨0, 0, 0, 0⟩)
abbrev s_is_whole : Stmt := top 9
abbrev s_is_count : Stmt := top 10
abbrev s_are_counts : Stmt := top 11
abbrev s_is_base : Stmt := top 13
abbrev s_init : Stmt := inClass (top 14) 0
abbrev s_bases : Stmt := inClass (top 14) 1
abbrev s_rooms : Stmt := inClass (top 14) 2
abbrev s_places : Stmt := inClass (top 14) 3
abbrev s_eq : Stmt := inClass (top 14) 4
abbrev s_check_house : Stmt := top 15
abbrev s_check_place : Stmt := top 16
abbrev s_check_low_place : Stmt := top 17
abbrev s_weights_of : Stmt := top 18
abbrev s_sums_up_to : Stmt := top 19
abbrev s_rows_in : Stmt := top 20
abbrev s_weights : Stmt := top 21
abbrev s_held_up_to : Stmt := top 22
abbrev s_many_rows : Stmt := top 23
abbrev s_is_within : Stmt := top 24
abbrev s_check_alike : Stmt := top 25
abbrev s_lesser_house : Stmt := top 26
abbrev s_greater_house : Stmt := top 27
abbrev s_roomed : Stmt := top 28
abbrev s_with_room : Stmt := top 29
abbrev s_stretch : Stmt := top 30
abbrev s_set_behind : Stmt := top 31
abbrev s_tightened : Stmt := top 32
abbrev s_l_purse : Stmt := top 34
abbrev s_l_mixed : Stmt := top 35
abbrev s_l_draw : Stmt := top 36
abbrev s_l_purses : Stmt := top 37
abbrev s_l_one_of : Stmt := top 38
abbrev s_l_exact : Stmt := top 39
abbrev s_l_weights : Stmt := top 40
abbrev s_l_many_rows : Stmt := top 41
abbrev s_l_house : Stmt := top 42
abbrev s_l_great_house : Stmt := top 43
abbrev s_l_made : Stmt := top 44
abbrev s_l_told_of : Stmt := top 45
abbrev s_l_two_right : Stmt := top 46
abbrev s_l_places_right : Stmt := top 47
abbrev s_l_behind_right : Stmt := top 48
abbrev s_law : Stmt := top 49
end K4

set_option maxHeartbeats 4000000
/-! rules that the layer lacks: calls by keywords alone, powers of greater ints, != by an own ==, min and max of a pair, zip with a name for target -/
namespace K4
open PySem PySem.Spec PyProof.Rows L2
/-! ### f(k = v, ..) -/
section
variable {X : Cx} {CX : CXT} {k : Nat} {f : Addr} {fd : FuncData} {ps ks : List Str} {sp : Sp} {E : XK} {x : Str} {p pos : Pos} {kws : List Keyword} {tk : TA} {g : List Value → List Value → List Value} {gV : List V → List V → List V}
/-- how the keywords' values come to the parameters; n of them -/
structure KwB (K : PySem.W.Frag) (fd : FuncData) (ps ks : List Str) (g : List Value → List Value) (gV : List V → List V) : Prop where
  to : ∀ (s : Shared) (ws : List Value), K.In s.heap → ws.length = ks.length → BindsTo s fd ⟨[], ks.zip ws⟩ (ps.zip (g ws))
  rel : ∀ {zs : List V} {ws : List Value}, Vals zs ws → Vals (gV zs) (g ws)
def tKw (n : Nat) (sp : Sp) (gV : List V → List V) (E : XK) (tk : TA) : TE := fun σ H Q => tk σ H fun zs H1 => zs.length = n ∧ sp (gV zs) H1 Q E
theorem pe_kw {g : List Value → List Value} {gV : List V → List V} (F : FnOk X.prog X.w X.K X.mg X.base CX k f fd ps sp) (hr : Room k X.A) (hg : Gl X x) (hm : X.mg x = some (.ref f)) (hk : PySem.W.keepIn X.K (.ref f) = true) (hb : KwB X.K fd ps ks g gV) (hx : Passes CX X E) (hkw : PK X kws tk)
    (hall : (backToKw pos (keywordEach kws X.env)).all (·.1.isSome) = true := by rfl) (hks : (backToKw pos (keywordEach kws X.env)).filterMap (·.1) = ks := by rfl) (hdb : (x == ("__debug__" : Str)) = false := by decide)
    (hpl : ((backTo pos (starEach [] X.env)).any (·.1) || (backToKw pos (keywordEach kws X.env)).any (·.1.isNone)) = false := by rfl) :
    PE X (.Call (.Name x p) [] kws pos) (tKw ks.length sp gV E tk) := by
  refine ⟨fun pins s σ H Q I h => wpAny_Call_Name_kw (ld_glob I hg hm ?_ hdb)⟩
  refine PySem.W.callWith_KW0 (h₀ := X.base) I.ok.mod.kin hk hall (thn (hkw.run pos pins s σ H _ I h) fun ws s2 ⟨zs, H2, I2, rz, l2, q2⟩ => ⟨I2.kIn, ?_⟩) hpl
  rw [hks]
  refine wpAny_call (codeAny_mono (F.run X.A X.stack s2 H2 ⟨[], ks.zip ws⟩ (g ws) (gV zs) Q E hr I2.env0 (hb.to s2 ws I2.kIn (rz.length.symm.trans l2)) (hb.rel rz) q2) fun r s' hq => ?_)
  cases r with
  | error e => exact hx pins σ H2 s2 e s' I2 hq
  | ok fl => cases fl <;> first | exact I2.after hq | exact False.elim hq
end
/-! ### powers -/
def CPowW (i j : Int) : Prop := 0 ≤ j ∧ (Builtin.Int.intBits i : Int) * j ≤ 2 ^ 27
theorem op_powW {X : Cx} : OpR X (binaryOp .Pow) (rI CPowW fun i j => .int (i ^ j.toNat)) := opI fun _ _ _ _ _ _ _ hc q => pow_int hc.1 hc.2 q
/-! ### min, max of a pair -/
section
variable {prog : Program} {w : World} {A : Around} {E : Value → Shared → Prop} {s : Shared} {l : Addr} {u v : Value}
theorem iter_tup {its : Array Value} {Q : Value → Shared → Prop} (hl : s.heap.IsTuple l its)
    (h : (s.heap.push { cls := .type "tuple_iterator", data := .fields #[.ref l, .int 0 0] }).IsTupleIter s.heap.objs.size l 0 → (s.heap.push { cls := .type "tuple_iterator", data := .fields #[.ref l, .int 0 0] }).IsTuple l its → l ≠ s.heap.objs.size → (∀ b ∈ [s.heap.objs.size, l], b < (s.heap.push { cls := .type "tuple_iterator", data := .fields #[.ref l, .int 0 0] }).objs.size) →
      Q (.ref s.heap.objs.size) { s with heap := s.heap.push { cls := .type "tuple_iterator", data := .fields #[.ref l, .int 0 0] } }) : wpAny (model prog w) A (pyIter (.ref l)) Q E s := by
  have lt : l < s.heap.objs.size := hl.elim fun _ e => Heap.lt_size e.1
  refine wpAny_pyIter_tuple hl (h ⟨_, Heap.get?_push_size _ rfl, rfl, rfl⟩ (hl.push _) (Nat.ne_of_lt lt) fun b hb => ?_)
  rw [Heap.size_push]
  have e : b = s.heap.objs.size ∨ b = l := by simpa using hb
  rcases e with e | e
  · rw [e]
    exact Nat.lt_succ_self _
  · rw [e]
    exact Nat.lt_succ_of_lt lt
theorem min_pair {Q : Value → Shared → Prop} {i j : Int} {t t' : Tok} (hh : A.handled = none) (hl : s.heap.IsTuple l #[.int i t, .int j t'])
    (h : ∀ h' tk t2, (∀ d o, s.heap.get? d = some o → h'.get? d = some o) → Q (.int (if j < i then j else i) t2) { s with heap := h', toks := tk }) :
    wpAny (model prog w) A (call (.builtin "min") [.ref l]) Q E s := by
  refine call_min_walk (iter_tup hl fun a1 a2 a3 a4 => ⟨_, _, _, _, _, _, _, rfl, Walks.tuple (A := A.in1) hh _ l a3 _, ⟨a1, a2⟩, a4, by simp, Flt.cmpOf_lt _ (by simp [Flt.NumV.int]), fun v h' tk hP hk => ?_⟩)
  have kp : ∀ d o, s.heap.get? d = some o → h'.get? d = some o := fun d o e => hk d o (fun m => by
    have q : d = s.heap.objs.size := by simpa using m
    exact absurd (q ▸ Heap.lt_size e) (Nat.lt_irrefl _)) (Heap.get?_push_of_some _ e)
  by_cases c : j < i
  · have e : v = .int j t' := by simpa [argBest, Flt.ltV, c, eq_comm] using hP
    have q := h h' tk t' kp
    rw [if_pos c] at q
    rw [e]
    exact q
  · have e : v = .int i t := by simpa [argBest, Flt.ltV, c, eq_comm] using hP
    have q := h h' tk t kp
    rw [if_neg c] at q
    rw [e]
    exact q
theorem max_pair {Q : Value → Shared → Prop} {i j : Int} {t t' : Tok} (hh : A.handled = none) (hl : s.heap.IsTuple l #[.int i t, .int j t'])
    (h : ∀ h' tk t2, (∀ d o, s.heap.get? d = some o → h'.get? d = some o) → Q (.int (if i < j then j else i) t2) { s with heap := h', toks := tk }) :
    wpAny (model prog w) A (call (.builtin "max") [.ref l]) Q E s := by
  refine call_max_walk (iter_tup hl fun a1 a2 a3 a4 => ⟨_, _, _, _, _, _, _, rfl, Walks.tuple (A := A.in1) hh _ l a3 _, ⟨a1, a2⟩, a4, by simp, Flt.cmpOf_gt _ (by simp [Flt.NumV.int]), fun v h' tk hP hk => ?_⟩)
  have kp : ∀ d o, s.heap.get? d = some o → h'.get? d = some o := fun d o e => hk d o (fun m => by
    have q : d = s.heap.objs.size := by simpa using m
    exact absurd (q ▸ Heap.lt_size e) (Nat.lt_irrefl _)) (Heap.get?_push_of_some _ e)
  by_cases c : i < j
  · have e : v = .int j t' := by simpa [argBest, Flt.ltV, c, eq_comm] using hP
    have q := h h' tk t' kp
    rw [if_pos c] at q
    rw [e]
    exact q
  · have e : v = .int i t := by simpa [argBest, Flt.ltV, c, eq_comm] using hP
    have q := h h' tk t kp
    rw [if_neg c] at q
    rw [e]
    exact q
end
section
variable {X : Cx}
def rMinP (K : PySem.W.Frag) : List V → Hp → VK → Prop := fun vs H Q => ∃ (p : Addr) (i j : Int), vs = [.ref p] ∧ SqT K H p [.int i, .int j] ∧ Q (.int (if j < i then j else i)) H
def rMaxP (K : PySem.W.Frag) : List V → Hp → VK → Prop := fun vs H Q => ∃ (p : Addr) (i j : Int), vs = [.ref p] ∧ SqT K H p [.int i, .int j] ∧ Q (.int (if i < j then j else i)) H
theorem cr_minP (hc : X.calm = true) : CallR X (.builtin "min") (rMinP X.K) := by
  intro pins s σ H vs us Q I r h
  obtain ⟨p, i, j, rfl, hs, q⟩ := h
  obtain ⟨its, rv, hl, _⟩ := I.tuple hs
  obtain ⟨u1, u2, rfl, ⟨t, rfl⟩, ⟨t', rfl⟩⟩ := vals2 rv
  rw [Vals.ref1 r]
  exact min_pair (I.ok.hd hc) hl fun h' tk t2 k => ⟨.int _, H, I.kept k, ⟨_, rfl⟩, q⟩
theorem cr_maxP (hc : X.calm = true) : CallR X (.builtin "max") (rMaxP X.K) := by
  intro pins s σ H vs us Q I r h
  obtain ⟨p, i, j, rfl, hs, q⟩ := h
  obtain ⟨its, rv, hl, _⟩ := I.tuple hs
  obtain ⟨u1, u2, rfl, ⟨t, rfl⟩, ⟨t', rfl⟩⟩ := vals2 rv
  rw [Vals.ref1 r]
  exact max_pair (I.ok.hd hc) hl fun h' tk t2 k => ⟨.int _, H, I.kept k, ⟨_, rfl⟩, q⟩
end
/-! ### a != b by the class's own == and object's != -/
section
variable {prog : Program} {w : World} {A : Around} {E : Value → Shared → Prop} {s : Shared} {K : PySem.W.Frag} {x y C f : Addr} {ox oy : Obj} {od ody : Option Obj}
theorem ne_own {Q : Value → Shared → Prop} (hu : A.units + 1 < cLine) (X : K.In s.heap) (I : PySem.W.InstAt s.heap x ox C od) (J : PySem.W.InstAt s.heap y oy C ody) (hm : PySem.W.mroIn K C (.type "object") = some true)
    (hn : PySem.W.findIn K (.ref C) "__ne__" = some (some (.builtin "object.__ne__"))) (he : PySem.W.findIn K (.ref C) "__eq__" = some (some (.ref f))) (hf : PySem.W.isFn K (.ref f) = true)
    (h : wpAny (model prog w) A.in1 (call (.ref f) [.ref x, .ref y]) (fun v s' => ∃ b, v = .bool b ∧ Q (.bool (!b)) s') E s) : wpAny (model prog w) A (richCompare .NotEq (.ref x) (.ref y)) Q E s := by
  have entry : wpAny (model prog w) A.in1 (Builtin.«object.__ne__» ⟨[.ref x, .ref y], []⟩) (fun r s' => ∃ b, r = .done (.ret (.bool (!b))) ∧ Q (.bool (!b)) s') E s := by
    unfold Builtin.«object.__ne__»
    repeat (first
      | with_reducible refine wpAny_cRoomFor (show A.in1.units < cLine from hu) ?_
      | (refine wpAny_bind (m := callSpecialIfBound? (.ref x) (Str.ofString "__eq__") [.ref y]) (PySem.W.ifBound_K X I he hf (wpAny_mono h (fun v s' z => ?_) fun _ _ e => e)))
      | wp_step)
    obtain ⟨b, rfl, q⟩ := z
    refine wpAny_bind (m := truthy (.bool b)) (wpAny_truthy_bool ?_)
    exact wpAny_pure ⟨b, rfl, q⟩
  have run : wpAny (model prog w) A (call (.builtin "object.__ne__") [.ref x, .ref y]) (fun v s' => ∃ b, v = .bool (!b) ∧ Q (.bool (!b)) s') E s :=
    wpAny_call (codeAny_call_builtin F.cmp_object.ne.plain F.cmpEntry_ne (PySem.W.check_slot F.cmpKind_ne F.cmpSplit_ne (I.type.andThen (PySem.W.looks_mroIn X hm)) (F.cmpArgs_ne _ _)
      (wpAny_mono entry (fun r s' z => by
        obtain ⟨b, rfl, q⟩ := z
        exact ⟨b, rfl, q⟩) fun _ _ e => e)))
  have one : wpAny (model prog w) A (tryCompare (.ref x) "__ne__" (.ref y)) (fun r s' => ∃ v, r = some v ∧ Q v s') E s := by
    unfold tryCompare
    refine wpAny_bind ?_
    simp only [callSpecialIfBound?, bindSpecialIfBound?]
    refine wpAny_holding (wpAny_bind (wpAny_bind (wpAny_bind (I.type.here ((PySem.W.looks_findIn X hn).here ?_)))))
    have fin : wpAny (model prog w) A (call (.builtin "object.__ne__") ([.ref x] ++ [.ref y]) >>= fun v => pure (some v)) (fun r s₁ => wpAny (model prog w) A (match r with | some .notImplemented | none => pure none | some v => pure (some v)) (fun r s' => ∃ v, r = some v ∧ Q v s') E s₁) E s :=
      wpAny_bind (wpAny_mono run (fun v s' z => by
        obtain ⟨b, rfl, q⟩ := z
        exact wpAny_pure (wpAny_pure ⟨_, rfl, q⟩)) fun _ _ e => e)
    refine wpAny_bind (wpAny_askSetting (wpAny_ite ?_))
    split
    · exact wpAny_bind (wpAny_of_eq (F.cmp_object.ne.bind _) (wpAny_pure (by exact fin)))
    · exact wpAny_tryCatch (wpAny_bind (wpAny_of_eq (F.cmp_object.ne.bind _) (wpAny_pure (by exact fin))))
  unfold richCompare
  simp only [oneThing_ref, cmpInfo_NotEq]
  refine wpAny_holding (wpAny_bind (wpAny_cRoomFor (Nat.lt_of_succ_lt hu) ?_))
  refine wpAny_bind (I.type.here (wpAny_bind (J.type.here ?_)))
  rw [show (Value.ref C != Value.ref C) = false from by simp]
  simp only [Bool.false_eq_true, if_false]
  refine wpAny_bind (wpAny_pure ?_)
  simp only [Bool.false_eq_true, if_false]
  refine wpAny_bind (wpAny_mono one (fun r s' z => ?_) fun _ _ e => e)
  obtain ⟨v, rfl, q⟩ := z
  exact wpAny_pure q
end
section
variable {X : Cx} {CX : CXT} {n : Nat} {f C : Addr} {fd : FuncData} {ps : List Str} {sp : Sp} {E : XK}
def rNeH (C : Addr) (sp : Sp) (E : XK) : R2 := fun x y H Q => ∃ a b dx dy fs gs, x = .ref a ∧ y = .ref b ∧ H a = some (.ins C dx fs) ∧ H b = some (.ins C dy gs) ∧ sp [.ref a, .ref b] H (fun v H' => ∃ k, v = .bl k ∧ Q (.bl (!k)) H') E
theorem op_neH (F : FnOk X.prog X.w X.K X.mg X.base CX n f fd ps sp) (hr : Room (n + 1) X.A) (hb : Binds X.K fd ps []) (hx : Passes CX X E) (hm : PySem.W.mroIn X.K C (.type "object") = some true)
    (hn : PySem.W.findIn X.K (.ref C) "__ne__" = some (some (.builtin "object.__ne__"))) (he : Meth X.K C "__eq__" f) : OpR X (compareOp .NotEq) (rNeH C sp E) := by
  intro pins s σ H x y v u Q I rx ry h
  obtain ⟨a, b, dx, dy, fs, gs, rfl, rfl, ha, hb', hs⟩ := h
  cases rx
  cases ry
  obtain ⟨mA, O, _⟩ := ins_get I.hok ha
  obtain ⟨mB, O', _⟩ := ins_get I.hok hb'
  obtain ⟨od, J, _⟩ := O.look
  obtain ⟨od', J', _⟩ := O'.look
  show wpAny (model X.prog X.w) X.A (richCompare .NotEq (.ref a) (.ref b)) (EP X pins σ Q) X.xe s
  refine ne_own (by have := hr.units; omega) I.kIn J J' hm hn he.at_ he.fn ?_
  have hl := F.len _ _ _ _ hs
  refine wpAny_call (codeAny_mono (F.run X.A.in1 X.stack s H ⟨[.ref a, .ref b], []⟩ [.ref a, .ref b] [.ref a, .ref b] _ E hr.in1 I.env0.in1 (by simpa using hb s [.ref a, .ref b] I.kIn (by simpa using hl)) (.cons rfl (.cons rfl .nil)) hs) fun r s' hq => ?_)
  cases r with
  | error e => exact hx pins σ H s e s' I hq
  | ok fl =>
    cases fl <;> first
      | exact False.elim hq
      | (obtain ⟨z, H', I', rz, k, rfl, q⟩ := I.after hq
         cases rz
         exact ⟨k, rfl, .bl (!k), H', I', rfl, q⟩)
end
end K4

set_option maxHeartbeats 4000000
/-! zip of two lists, the target a name: the pair that was given out may still be there, or not -/
namespace K4
open PySem PySem.Spec PyProof.Rows L2
/-- the zip at z has given out nothing, or the tuple at T -/
def Zs (h : Heap) (z TI TO : Addr) : Prop := IsZip h z TI TO .none ∨ ∃ T f, IsZipHeld h z TI TO T f
section
variable {prog : Program} {w : World} {A : Around} {E : Value → Shared → Prop} {s : Shared} {z TI TO T i1 i2 l1 l2 : Addr} {fl : Bool} {k1 k2 : Nat} {xs ys : Array Value} {x y a b : Value}
theorem gone {t : Addr} {Q : Option Obj → Shared → Prop} (e : s.heap.get? t = none) (q : Q none s) : wpAny (model prog w) A (loadIfAlive t) Q E s := by
  have q' : Q (s.heap.get? t) s := by rw [e]; exact q
  exact fun _ _ _ => q'
theorem free_gone {Q : Bool → Shared → Prop} (zz : IsZipHeld s.heap z TI TO T fl) (e : s.heap.get? T = none) (q : Q true s) : wpAny (model prog w) A (Builtin.SmallTypes.ownedTupleIsFree (.ref z)) Q E s := by
  unfold Builtin.SmallTypes.ownedTupleIsFree
  refine wpAny_bind (wpAny_field zz rfl (x := rawInt T) rfl ?_)
  show wpAny _ _ (loadIfAlive (Int.toNat (T : Int)) >>= _) _ _ _
  rw [Int.toNat_natCast]
  exact wpAny_bind (gone e (wpAny_pure q))
/-- the next pair where the one given out is gone -/
theorem gone_item {Q : Value → Shared → Prop} (D : ZipApart z TI TO i1 i2 l1 l2) (zz : IsZipHeld s.heap z TI TO T fl) (e : s.heap.get? T = none) (pI : IsPair s.heap TI (.ref i1) (.ref i2)) (pO : IsPair s.heap TO a b)
    (j1 : s.heap.IsListIter i1 l1 k1) (j2 : s.heap.IsListIter i2 l2 k2) (m1 : s.heap.IsList l1 xs) (m2 : s.heap.IsList l2 ys) (ex : xs[k1]? = some x) (ey : ys[k2]? = some y)
    (go : ∀ g, IsZip g z TI TO (rawInt s.heap.objs.size) → IsPair g TO x y → g.IsListIter i1 l1 (k1 + 1) → g.IsListIter i2 l2 (k2 + 1) → IsPair g s.heap.objs.size x y → g.objs.size = s.heap.objs.size + 1 →
      (∀ c o, c ≠ z → c ≠ TO → c ≠ i1 → c ≠ i2 → s.heap.get? c = some o → g.get? c = some o) → Q (.ref s.heap.objs.size) { s with heap := g }) :
    wpAny (model prog w) A (Builtin.«zip.__next__» ⟨[.ref z], []⟩) (fun r s' => ∃ v, r = .done (.ret v) ∧ Q v s') E s := by
  show wpAny _ _ (field (.ref z) 2 >>= _) _ _ _
  refine wpAny_bind (wpAny_field zz rfl (x := Value.bool false) rfl ?_)
  show wpAny _ _ (field (.ref z) 3 >>= _) _ _ _
  refine wpAny_bind (wpAny_field zz rfl (x := Value.ref TI) rfl ?_)
  refine wpAny_bind (wpAny_seqItems pI rfl ?_)
  show wpAny _ _ (Builtin.SmallTypes.ownedTupleIsFree (Value.ref z) >>= _) _ _ _
  refine wpAny_bind (free_gone zz e ?_)
  simp only [if_true]
  refine wpAny_bind (wpAny_rule (wpAny_bind (wpAny_field zz rfl (x := Value.ref TO) rfl ?_)))
  refine wpAny_bind (wpAny_setField_rec zz (by simp) fun g1 z1 c1 => wpAny_bind ?_)
  have y1 : g1.get? z = some { cls := .type "zip", dict := none, data := .fields #[.ellipsis, .bool fl, .bool false, .ref TI, .ref TO], slots := #[] } := z1
  simp only [List.zipIdx_cons, List.zipIdx_nil, List.forIn_cons, List.forIn_nil]
  refine wpAny_bind (wpAny_bind (wpAny_onRaise ?_))
  show wpAny _ _ (Builtin.SmallTypes.nextOf (Value.ref i1) >>= _) _ _ _
  refine wpAny_bind (wpAny_nextOf_list_item (j1.extBut c1.extBut D.i1z) (m1.extBut c1.extBut D.l1z) ex fun g2 n1 c2 => wpAny_pure ?_)
  have o2 : IsPair g2 TO a b := c2.extBut _ _ D.TOi1 (c1.extBut _ _ D.TOz pO)
  refine wpAny_bind (wpAny_seqItems o2 rfl (wpAny_bind (wpAny_updateSeq_pair o2 fun g3 o3 c3 => wpAny_bind (wpAny_letGo (wpAny_pure ?_)))))
  replace o3 : IsPair g3 TO x b := o3
  refine wpAny_bind (wpAny_bind (wpAny_onRaise ?_))
  show wpAny _ _ (Builtin.SmallTypes.nextOf (Value.ref i2) >>= _) _ _ _
  have j23 : g3.IsListIter i2 l2 k2 := ((j2.extBut c1.extBut D.i2z).extBut c2.extBut D.i12.symm).extBut c3.extBut D.TOi2.symm
  have m23 : g3.IsList l2 ys := ((m2.extBut c1.extBut D.l2z).extBut c2.extBut D.l2i1).extBut c3.extBut D.l2TO
  refine wpAny_bind (wpAny_nextOf_list_item j23 m23 ey fun g4 n2 c4 => wpAny_pure ?_)
  have o4 : IsPair g4 TO x b := c4.extBut _ _ D.TOi2 o3
  refine wpAny_bind (wpAny_seqItems o4 rfl (wpAny_bind (wpAny_updateSeq_pair o4 fun g5 o5 c5 => wpAny_bind (wpAny_letGo (wpAny_pure (wpAny_pure ?_))))))
  replace o5 : IsPair g5 TO x y := o5
  refine wpAny_bind (wpAny_seqItems o5 rfl (wpAny_bind (wpAny_newTuple ?_)))
  have es : g5.objs.size = s.heap.objs.size := by rw [c5.1, c4.1, c3.1, c2.1, c1.1]
  have k5 : ∀ c o, c ≠ TO → c ≠ i1 → c ≠ i2 → g1.get? c = some o → g5.get? c = some o := fun c o d2 d3 d4 q => c5.extBut _ _ d2 (c4.extBut _ _ d4 (c3.extBut _ _ d2 (c2.extBut _ _ d3 q)))
  have y5 := k5 _ _ D.TOz.symm D.i1z.symm D.i2z.symm y1
  have n15 : g5.IsListIter i1 l1 (k1 + 1) := ((n1.extBut c3.extBut D.TOi1.symm).extBut c4.extBut D.i12).extBut c5.extBut D.TOi1.symm
  have n25 : g5.IsListIter i2 l2 (k2 + 1) := n2.extBut c5.extBut D.TOi2.symm
  have zl : z < g5.objs.size := Heap.lt_size y5
  show wpAny _ _ (Builtin.SmallTypes.ownedTupleHandOut (Value.ref z) (Value.ref g5.objs.size) >>= _) _ _ _
  refine wpAny_bind ?_
  unfold Builtin.SmallTypes.ownedTupleHandOut
  have y6 := Heap.get?_push_of_some ({ cls := .type "tuple", data := .seq #[x, y] } : Obj) y5
  refine wpAny_bind (wpAny_setField_rec y6 (by simp) fun g7 y7 c7 => wpAny_setField_rec y7 (by simp) fun g8 y8 c8 => ?_)
  replace y8 : IsZip g8 z TI TO (rawInt g5.objs.size) := y8
  have up : ∀ c o, c ≠ z → g5.get? c = some o → g8.get? c = some o := fun c o d1 q => c8.extBut _ _ d1 (c7.extBut _ _ d1 (Heap.get?_push_of_some _ q))
  have p8 : IsPair g8 g5.objs.size x y := c8.extBut _ _ (Nat.ne_of_gt zl) (c7.extBut _ _ (Nat.ne_of_gt zl) (Heap.get?_push_size _ rfl))
  have e8 : g8.objs.size = g5.objs.size + 1 := by rw [c8.1, c7.1, Heap.size_push]
  rw [es] at y8 p8 e8
  refine wpAny_pure ⟨_, rfl, ?_⟩
  show Q (Value.ref g5.objs.size) _
  rw [es]
  exact go g8 y8 (up _ _ D.TOz o5) (n15.at fun o q => up _ o D.i1z q) (n25.at fun o q => up _ o D.i2z q) p8 e8 fun c o d1 d2 d3 d4 q => up c o d1 (k5 c o d2 d3 d4 (c1.extBut _ _ d1 q))
/-- the end where the pair given out is gone -/
theorem gone_end {Q : Fin → Shared → Prop} (hh : A.handled = none) (D : ZipApart z TI TO i1 i2 l1 l2) (zz : IsZipHeld s.heap z TI TO T fl) (e : s.heap.get? T = none) (pI : IsPair s.heap TI (.ref i1) (.ref i2)) (pO : IsPair s.heap TO a b)
    (j1 : s.heap.IsListIter i1 l1 k1) (j2 : s.heap.IsListIter i2 l2 k2) (m1 : s.heap.IsList l1 xs) (m2 : s.heap.IsList l2 ys) (out : xs[k1]? = none ∨ ys[k2]? = none)
    (go : ∀ g r, (∀ c o, c ≠ z → c ≠ TO → c ≠ i1 → c ≠ i2 → s.heap.get? c = some o → g.get? c = some o) → (∃ o, g.get? r = some o ∧ o.cls = .type "StopIteration") → E (.ref r) { s with heap := g }) :
    wpAny (model prog w) A (Builtin.«zip.__next__» ⟨[.ref z], []⟩) Q E s := by
  show wpAny _ _ (field (.ref z) 2 >>= _) _ _ _
  refine wpAny_bind (wpAny_field zz rfl (x := Value.bool false) rfl ?_)
  show wpAny _ _ (field (.ref z) 3 >>= _) _ _ _
  refine wpAny_bind (wpAny_field zz rfl (x := Value.ref TI) rfl ?_)
  refine wpAny_bind (wpAny_seqItems pI rfl ?_)
  show wpAny _ _ (Builtin.SmallTypes.ownedTupleIsFree (Value.ref z) >>= _) _ _ _
  refine wpAny_bind (free_gone zz e ?_)
  simp only [if_true]
  refine wpAny_bind (wpAny_rule (wpAny_bind (wpAny_field zz rfl (x := Value.ref TO) rfl ?_)))
  refine wpAny_bind (wpAny_setField_rec zz (by simp) fun g1 z1 c1 => wpAny_bind ?_)
  have y1 : g1.get? z = some { cls := .type "zip", dict := none, data := .fields #[.ellipsis, .bool fl, .bool false, .ref TI, .ref TO], slots := #[] } := z1
  simp only [List.zipIdx_cons, List.zipIdx_nil, List.forIn_cons, List.forIn_nil]
  refine wpAny_bind (wpAny_bind (wpAny_onRaise ?_))
  show wpAny _ _ (Builtin.SmallTypes.nextOf (Value.ref i1) >>= _) _ _ _
  cases ex : xs[k1]? with
  | none =>
    refine wpAny_bind (wpAny_nextOf_list_end hh (j1.extBut c1.extBut D.i1z) (m1.extBut c1.extBut D.l1z) ex fun g2 r c2 ⟨o, ho, hc⟩ => ?_)
    have y2 := c2 _ _ D.i1z.symm y1
    have rz : r ≠ z := fun q => by
      rw [q, y2] at ho
      rw [← Option.some.inj ho] at hc
      simp at hc
    exact wpAny_setField_rec y2 (by simp) fun g3 _ c3 => go g3 r (fun c o d1 _ d3 _ q => c3.extBut _ _ d1 (c2 _ _ d3 (c1.extBut _ _ d1 q))) ⟨o, c3.extBut _ _ rz ho, hc⟩
  | some x =>
    have ey : ys[k2]? = none := out.resolve_left (by rw [ex]; exact nofun)
    refine wpAny_bind (wpAny_nextOf_list_item (j1.extBut c1.extBut D.i1z) (m1.extBut c1.extBut D.l1z) ex fun g2 n1 c2 => wpAny_pure ?_)
    have o2 : IsPair g2 TO a b := c2.extBut _ _ D.TOi1 (c1.extBut _ _ D.TOz pO)
    refine wpAny_bind (wpAny_seqItems o2 rfl (wpAny_bind (wpAny_updateSeq_pair o2 fun g3 o3 c3 => wpAny_bind (wpAny_letGo (wpAny_pure ?_)))))
    refine wpAny_bind (wpAny_bind (wpAny_onRaise ?_))
    show wpAny _ _ (Builtin.SmallTypes.nextOf (Value.ref i2) >>= _) _ _ _
    have j23 : g3.IsListIter i2 l2 k2 := ((j2.extBut c1.extBut D.i2z).extBut c2.extBut D.i12.symm).extBut c3.extBut D.TOi2.symm
    have m23 : g3.IsList l2 ys := ((m2.extBut c1.extBut D.l2z).extBut c2.extBut D.l2i1).extBut c3.extBut D.l2TO
    refine wpAny_bind (wpAny_nextOf_list_end hh j23 m23 ey fun g4 r c4 ⟨o, ho, hc⟩ => ?_)
    have k4 : ∀ c o, c ≠ z → c ≠ TO → c ≠ i1 → c ≠ i2 → s.heap.get? c = some o → g4.get? c = some o := fun c o d1 d2 d3 d4 q => c4 _ _ d4 (c3.extBut _ _ d2 (c2.extBut _ _ d3 (c1.extBut _ _ d1 q)))
    have y4 := c4 _ _ D.i2z.symm (c3.extBut _ _ D.TOz.symm (c2.extBut _ _ D.i1z.symm y1))
    have rz : r ≠ z := fun q => by
      rw [q, y4] at ho
      rw [← Option.some.inj ho] at hc
      simp at hc
    exact wpAny_setField_rec y4 (by simp) fun g5 _ c5 => go g5 r (fun c o d1 d2 d3 d4 q => c5.extBut _ _ d1 (k4 c o d1 d2 d3 d4 q)) ⟨o, c5.extBut _ _ rz ho, hc⟩
theorem zs_type (zz : Zs s.heap z TI TO) : s.TypeIs (.ref z) "zip" := by
  rcases zz with zz | ⟨T, f, zz⟩
  · exact ⟨_, zz, rfl⟩
  · exact ⟨_, zz, rfl⟩
theorem zs_item {Q : Option Value → Shared → Prop} (D : ZipApart z TI TO i1 i2 l1 l2) (zz : Zs s.heap z TI TO) (pI : IsPair s.heap TI (.ref i1) (.ref i2)) (pO : IsPair s.heap TO a b)
    (j1 : s.heap.IsListIter i1 l1 k1) (j2 : s.heap.IsListIter i2 l2 k2) (m1 : s.heap.IsList l1 xs) (m2 : s.heap.IsList l2 ys) (ex : xs[k1]? = some x) (ey : ys[k2]? = some y)
    (go : ∀ g, Zs g z TI TO → (∃ a b, IsPair g TO a b) → g.IsListIter i1 l1 (k1 + 1) → g.IsListIter i2 l2 (k2 + 1) → IsPair g s.heap.objs.size x y → g.objs.size = s.heap.objs.size + 1 →
      (∀ c o, c ≠ z → c ≠ TO → c ≠ i1 → c ≠ i2 → s.heap.get? c = some o → g.get? c = some o) → Q (some (.ref s.heap.objs.size)) { s with heap := g }) : wpAny (model prog w) A (pyNext (.ref z)) Q E s := by
  rcases id zz with z0 | ⟨T, f, z1⟩
  · exact wpAny_pyNext_zip_item D z0 pI pO j1 j2 m1 m2 ex ey fun g a1 a2 a3 a4 a5 a6 a7 => go g (.inr ⟨_, false, a1⟩) ⟨_, _, a2⟩ a3 a4 a5 a6 a7
  · cases eT : s.heap.get? T with
    | some o => exact wpAny_pyNext_zip_item_held D z1 eT pI j1 j2 m1 m2 ex ey fun g a1 a3 a4 a5 a6 a7 => go g (.inr ⟨_, _, a1⟩) ⟨_, _, a7 _ _ D.TOz D.TOi1 D.TOi2 pO⟩ a3 a4 a5 a6 fun c o d1 _ d3 d4 q => a7 c o d1 d3 d4 q
    | none =>
      unfold pyNext
      exact wpAny_bind (wpAny_attempt (wpAny_callSpecial?_slot (name := Str.ofString "__next__") (zs_type zz) F.slot_zip_next (wpAny_call_entry F.slot_zip_next (zs_type zz) F.entry_zip_next
        (gone_item D z1 eT pI pO j1 j2 m1 m2 ex ey fun g a1 a2 a3 a4 a5 a6 a7 => wpAny_pure (go g (.inr ⟨_, false, a1⟩) ⟨_, _, a2⟩ a3 a4 a5 a6 a7)) (F.args_zip_next_1 _))))
theorem zs_end {Q : Option Value → Shared → Prop} (hh : A.handled = none) (D : ZipApart z TI TO i1 i2 l1 l2) (zz : Zs s.heap z TI TO) (pI : IsPair s.heap TI (.ref i1) (.ref i2)) (pO : IsPair s.heap TO a b)
    (j1 : s.heap.IsListIter i1 l1 k1) (j2 : s.heap.IsListIter i2 l2 k2) (m1 : s.heap.IsList l1 xs) (m2 : s.heap.IsList l2 ys) (out : xs[k1]? = none ∨ ys[k2]? = none)
    (go : ∀ g, (∀ c o, c ≠ z → c ≠ TO → c ≠ i1 → c ≠ i2 → s.heap.get? c = some o → g.get? c = some o) → Q none { s with heap := g }) : wpAny (model prog w) A (pyNext (.ref z)) Q E s := by
  rcases id zz with z0 | ⟨T, f, z1⟩
  · exact wpAny_pyNext_zip_end hh D z0 pI pO j1 j2 m1 m2 out go
  · cases eT : s.heap.get? T with
    | some o => exact wpAny_pyNext_zip_end_held hh D z1 eT pI j1 j2 m1 m2 out fun g k => go g fun c o d1 _ d3 d4 q => k c o d1 d3 d4 q
    | none =>
      unfold pyNext
      refine wpAny_bind (wpAny_attempt (wpAny_callSpecial?_slot (name := Str.ofString "__next__") (zs_type zz) F.slot_zip_next (wpAny_call_entry F.slot_zip_next (zs_type zz) F.entry_zip_next
        (gone_end hh D z1 eT pI pO j1 j2 m1 m2 out fun g r k ⟨o, ho, hc⟩ => ?_) (F.args_zip_next_1 _))))
      exact wpAny_bind (wpAny_isInstance (T := "StopIteration") (b := true) ⟨o, ho, hc⟩ isSubtype_stop (wpAny_pure (go g k)))
end
/-! ### the walk -/
theorem turn_zipN {P : Program} {w : World} {K : PySem.W.Frag} {v : Str} {vp : Pos} {a b z TI TO i1 i2 : Addr} (D : ZipApart z TI TO i1 i2 a b) :
    Turn P w K (.Name v vp) (Itz K a b) [z, TI, TO, i1, i2] z (fun i h => Zs h z TI TO ∧ IsPair h TI (.ref i1) (.ref i2) ∧ (∃ x y, IsPair h TO x y) ∧ h.IsListIter i1 a i ∧ h.IsListIter i2 b i) where
  mem := List.mem_cons_self ..
  obj := fun i h st c hc => by
    obtain ⟨zz, pI, ⟨x, y, pO⟩, ⟨o1, e1, _, d1⟩, ⟨o2, e2, _, d2⟩⟩ := st
    have e' : c = z ∨ c = TI ∨ c = TO ∨ c = i1 ∨ c = i2 := by simpa using hc
    rcases e' with rfl | rfl | rfl | rfl | rfl
    · rcases zz with zz | ⟨T, f, zz⟩ <;> exact ⟨_, zz, nofun⟩
    · exact ⟨_, pI, nofun⟩
    · exact ⟨_, pO, nofun⟩
    · exact ⟨o1, e1, fun v q => by rw [d1] at q; cases q⟩
    · exact ⟨o2, e2, fun v q => by rw [d2] at q; cases q⟩
  keep := fun i h h' st k => by
    obtain ⟨zz, pI, ⟨x, y, pO⟩, j1, j2⟩ := st
    refine ⟨?_, k _ (by simp) _ pI, ⟨x, y, k _ (by simp) _ pO⟩, j1.at fun o q => k _ (by simp) o q, j2.at fun o q => k _ (by simp) o q⟩
    rcases zz with zz | ⟨T, f, zz⟩
    · exact .inl (k _ (by simp) _ zz)
    · exact .inr ⟨T, f, k _ (by simp) _ zz⟩
  item := by
    intro X hP hw hK hc i pins s σ H E I hf st hg
    subst hP hw hK
    obtain ⟨zz, pI, ⟨x0, y0, pO⟩, j1, j2⟩ := st
    obtain ⟨xs, ys, x, y, hqx, hqy, hx, hy⟩ := hg
    obtain ⟨its, rv, p, _⟩ := I.list hqx
    obtain ⟨its2, rv2, p2, _⟩ := I.list hqy
    obtain ⟨u, hu, ru⟩ := rv.get hx
    obtain ⟨u2, hu2, ru2⟩ := rv2.get hy
    refine zs_item D zz pI pO j1 j2 p.isList p2.isList (x := u) (y := u2) (by simpa using hu) (by simpa using hu2) fun g z' pO' j1' j2' pT es k => ⟨_, rfl, ?_⟩
    show wpAny _ _ (pure ()) _ _ _
    refine wpAny_pure ?_
    have new : ObjOk X.prog X.w (upd H s.heap.objs.size (.tup [x, y])) g s.heap.objs.size (.tup [x, y]) := ⟨by show 2 ≤ sizeLine; decide, [u, u2], .cons ru (.cons ru2 .nil), ⟨_, pT, rfl, _, rfl⟩⟩
    have I1 : Inv X pins σ (upd H s.heap.objs.size (.tup [x, y])) { s with heap := g } :=
      I.turnedNew (t' := s.toks) (ch := [z, TI, TO, i1, i2]) (fun c o hb q => k c o (fun q' => hb (by simp [q'])) (fun q' => hb (by simp [q'])) (fun q' => hb (by simp [q'])) (fun q' => hb (by simp [q'])) q) hf (Nat.le_refl _) new
    refine ⟨.ref s.heap.objs.size, _, I1, rfl, ⟨_, x, y, rfl, I.hok.fresh (Nat.le_refl _), rfl, fun l hl => by rw [I.list_inj hl hqx]; exact hx, fun l hl => by rw [I.list_inj hl hqy]; exact hy⟩,
      ⟨z', k _ _ D.TIz D.TITO D.TIi1 D.TIi2 pI, pO', j1', j2'⟩, fun c hcm => ?_⟩
    have lt : c < s.heap.objs.size := by
      have e' : c = z ∨ c = TI ∨ c = TO ∨ c = i1 ∨ c = i2 := by simpa using hcm
      rcases e' with rfl | rfl | rfl | rfl | rfl
      · rcases zz with zz | ⟨T, f, zz⟩ <;> exact Heap.lt_size zz
      · exact Heap.lt_size pI
      · exact Heap.lt_size pO
      · exact j1.elim fun _ q => Heap.lt_size q.1
      · exact j2.elim fun _ q => Heap.lt_size q.1
    rw [upd_ne (Nat.ne_of_lt lt)]
    exact (hf c hcm).1
  done := by
    intro X hP hw hK hc i pins s σ H E I hf st hg
    subst hP hw hK
    obtain ⟨zz, pI, ⟨x0, y0, pO⟩, j1, j2⟩ := st
    obtain ⟨xs, ys, hqx, hqy, out⟩ := hg
    obtain ⟨its, rv, p, _⟩ := I.list hqx
    obtain ⟨its2, rv2, p2, _⟩ := I.list hqy
    have n1 := rv.length
    have n2 := rv2.length
    refine zs_end (I.ok.hd hc) D zz pI pO j1 j2 p.isList p2.isList ?_ fun g k => ⟨rfl, I.turnedL (t' := s.toks) (ch := [z, TI, TO, i1, i2]) (fun c o hb q =>
      k c o (fun q' => hb (by simp [q'])) (fun q' => hb (by simp [q'])) (fun q' => hb (by simp [q'])) (fun q' => hb (by simp [q'])) q) hf⟩
    rcases out with q | q
    · exact .inl (by simp; omega)
    · exact .inr (by simp; omega)
  self := fun A i s Q E st h => by
    rcases st.1 with zz | ⟨T, f, zz⟩
    · exact wpAny_pyIter_zip zz h
    · have hT : s.TypeIs (.ref z) "zip" := ⟨_, zz, rfl⟩
      refine wpAny_pyIter_slot hT F.slot_zip_iter (wpAny_call_entry F.slot_zip_iter hT F.entry_zip_iter ?_ (F.args_zip_iter_1 _))
      show wpAny _ _ (ret (Value.ref z)) _ _ s
      exact wpAny_pure ⟨_, rfl, "zip", _, hT, F.slot_zip_next.lookup, h⟩
theorem pi_zipN {X : Cx} {e e2 : Expr} {ta : TA} {v : Str} {p pos vp : Pos} (hg : Gl X "zip") (hm : X.mg "zip" = none) (ha : PA X [e, e2] ta)
    (hs : starEach [e, e2] X.env = (false, eval e X.env) :: starEach [e2] X.env := by rfl) (hpl : (backTo pos (starEach [e2] X.env)).any (·.1) = false := by rfl) :
    PI X (.Name v vp) (.Call (.Name "zip" p) [e, e2] [] pos) (iZip X.K ta) := by
  refine ⟨fun pins s σ H R I h => Call_ (ld_blt I hg hm PyProof.Rows.boot_zip (PyProof.Rows.callWith_type1 (thn (ha.run pos pins s σ H _ I h) fun us s1 ⟨vs, H1, I1, r1, q1⟩ => ?_) hs hpl))⟩
  obtain ⟨a, b, xs, ys, rfl, hqx, hqy, q⟩ := q1
  obtain ⟨u1, u2, rfl, e1, e2⟩ := vals2 r1
  cases e1
  cases e2
  obtain ⟨its, rv, p1, _⟩ := I1.list hqx
  obtain ⟨its2, rv2, p2, _⟩ := I1.list hqy
  refine call_zip_2 p1.isList p2.isList fun g z0 pI pO j1 j2 _ k => wpAny_pyIter_zip z0 ?_
  have I2 : Inv X pins σ H1 { s1 with heap := g } := I1.kept (t' := s1.toks) k
  refine ⟨s1.heap.objs.size + 4, [s1.heap.objs.size + 4, s1.heap.objs.size + 2, s1.heap.objs.size + 3, s1.heap.objs.size, s1.heap.objs.size + 1], _, _, H1, rfl, I2, turn_zipN (PySem.W.ktu_apart s1.heap.objs.size a b p1.lt p2.lt), ⟨.inl z0, pI, ⟨_, _, pO⟩, j1, j2⟩, fun c hcm => ?_, q⟩
  have hle : s1.heap.objs.size ≤ c := by
    simp only [List.mem_cons, List.not_mem_nil, or_false] at hcm
    rcases hcm with q | q | q | q | q <;> rw [q] <;> first | exact Nat.le_add_right _ _ | exact Nat.le_refl _
  exact I1.fpOk hle (I1.hok.fresh hle)
end K4

set_option maxHeartbeats 4000000
namespace K4
open PySem PySem.Spec PyProof.Rows L2
/-! ### heaps -/
theorem same_upd {H : Hp} {p : Addr} {o : HO} (h : H p = none) : Same H (upd H p o) := fun b x e => by
  rw [upd_ne (ne_of_none e h)]
  exact e
theorem Same.at {H H' : Hp} (s : Same H H') {a : Addr} {o : HO} (h : H a = some o) : H' a = some o := s a o h
/-- what H' has beyond H -/
def dif (H H' : Hp) : Hp := fun b => match H b with
  | none => H' b
  | some _ => none
theorem dif_at {H H' : Hp} {a : Addr} {o : HO} (h0 : H a = none) (h : H' a = some o) : dif H H' a = some o := by
  unfold dif
  rw [h0]
  exact h
theorem dif_of {H H' : Hp} {a : Addr} {o : HO} (h : dif H H' a = some o) : H a = none ∧ H' a = some o := by
  unfold dif at h
  cases e : H a with
  | none =>
    rw [e] at h
    exact ⟨rfl, h⟩
  | some u =>
    rw [e] at h
    cases h
theorem dif_in {H H' : Hp} : Same (dif H H') H' := fun _ _ h => (dif_of h).2
theorem dif_sub {H H1 H2 H3 : Hp} (a : Same H H1) (b : Same H2 H3) : Same (dif H1 H2) (dif H H3) := fun x o h => by
  obtain ⟨h1, h2⟩ := dif_of h
  exact dif_at (a.free h1) (b x o h2)
/-! ### what stands where -/
def IL (H : Hp) (a : Addr) (ns : List Int) : Prop := H a = some (.lst (ns.map V.int))
theorem IL.mono {H H' : Hp} {a : Addr} {ns : List Int} (s : Same H H') (h : IL H a ns) : IL H' a ns := s _ _ h
theorem IL.sq {K : PySem.W.Frag} {H : Hp} {a : Addr} {ns : List Int} (h : IL H a ns) : SqL K H a (ns.map V.int) := SqL.of h
theorem stsp : ¬ (("steps" : Str) = "space") := by decide +kernel
/-- a house's attributes -/
def hf (s r : Addr) : List (Str × V) := putF "space" (.ref r) (putF "steps" (.ref s) [])
theorem hf_eq (s r : Addr) : hf s r = ([("steps", V.ref s), ("space", V.ref r)] : List (Str × V)) := by
  show (if ("steps" : Str) = "space" then [(("steps" : Str), V.ref r)] else (("steps" : Str), V.ref s) :: putF "space" (V.ref r) []) = ([("steps", V.ref s), ("space", V.ref r)] : List (Str × V))
  rw [if_neg stsp]
  all_goals rfl
theorem hf_steps (s r : Addr) : (hf s r).lookup ("steps" : Str) = some (.ref s) := by
  unfold hf
  rw [lookup_putF, if_neg stsp, lookup_putF, if_pos rfl]
theorem hf_space (s r : Addr) : (hf s r).lookup ("space" : Str) = some (.ref r) := by
  unfold hf
  rw [lookup_putF, if_pos rfl]
theorem hf_no (s r : Addr) {m : Str} (h1 : ¬ m = "space") (h2 : ¬ m = "steps") : (hf s r).lookup m = none := by
  unfold hf
  rw [lookup_putF, if_neg h1, lookup_putF, if_neg h2]
  all_goals rfl
/-- a house stands at a -/
def Hs (C : Addr) (H : Hp) (a : Addr) (bs rs : List Int) : Prop := ∃ dx s r, H a = some (.ins C dx (hf s r)) ∧ IL H s bs ∧ IL H r rs
theorem Hs.mono {C : Addr} {H H' : Hp} {a : Addr} {bs rs : List Int} (e : Same H H') (h : Hs C H a bs rs) : Hs C H' a bs rs := by
  obtain ⟨dx, s, r, h1, h2, h3⟩ := h
  exact ⟨dx, s, r, e _ _ h1, h2.mono e, h3.mono e⟩
/-- the law's own house, a list of two lists -/
def Lh (H : Hp) (a : Addr) (bs rs : List Int) : Prop := ∃ b r, H a = some (.lst [.ref b, .ref r]) ∧ IL H b bs ∧ IL H r rs
theorem Lh.mono {H H' : Hp} {a : Addr} {bs rs : List Int} (e : Same H H') (h : Lh H a bs rs) : Lh H' a bs rs := by
  obtain ⟨b, r, h1, h2, h3⟩ := h
  exact ⟨b, r, e _ _ h1, h2.mono e, h3.mono e⟩
/-- bases and rooms of a house -/
structure Good (bs rs : List Int) : Prop where
  b2 : ∀ b ∈ bs, 2 ≤ b
  bm : ∀ b ∈ bs, b ≤ 1000
  r0 : ∀ r ∈ rs, 0 ≤ r
  rm : ∀ r ∈ rs, r ≤ 1000
  len : rs.length = bs.length + 1
  few : bs.length ≤ 100
/-- alike to a depth: ints, truth values, lists of such -/
def Ak : Nat → Hp → V → V → Prop
  | 0, _, x, y => (∃ i, x = .int i ∧ y = .int i) ∨ ∃ b, x = .bl b ∧ y = .bl b
  | n + 1, H, x, y => ((∃ i, x = .int i ∧ y = .int i) ∨ ∃ b, x = .bl b ∧ y = .bl b) ∨ ∃ a b xs ys, x = .ref a ∧ y = .ref b ∧ H a = some (.lst xs) ∧ H b = some (.lst ys) ∧ xs.length = ys.length ∧ xs.length ≤ 1000 ∧ ∀ (i : Nat) u v, xs[i]? = some u → ys[i]? = some v → Ak n H u v
theorem Ak.mono {H H' : Hp} (e : Same H H') : ∀ {n : Nat} {x y : V}, Ak n H x y → Ak n H' x y
  | 0, _, _, h => h
  | n + 1, x, y, h => by
    rcases h with h | ⟨a, b, xs, ys, h1, h2, h3, h4, h5, h6, h7⟩
    · exact .inl h
    · exact .inr ⟨a, b, xs, ys, h1, h2, e _ _ h3, e _ _ h4, h5, h6, fun i u v g1 g2 => (h7 i u v g1 g2).mono e⟩
theorem Ak.int {n : Nat} {H : Hp} (i : Int) : Ak n H (.int i) (.int i) := by
  cases n with
  | zero => exact .inl ⟨i, rfl, rfl⟩
  | succ n => exact .inl (.inl ⟨i, rfl, rfl⟩)
theorem Ak.bl {n : Nat} {H : Hp} (b : Bool) : Ak n H (.bl b) (.bl b) := by
  cases n with
  | zero => exact .inr ⟨b, rfl, rfl⟩
  | succ n => exact .inl (.inr ⟨b, rfl, rfl⟩)
theorem Ak.up {H : Hp} : ∀ {n : Nat} {x y : V}, Ak n H x y → Ak (n + 1) H x y
  | 0, x, y, h => .inl h
  | n + 1, x, y, h => by
    rcases h with h | ⟨a, b, xs, ys, h1, h2, h3, h4, h5, h6, h7⟩
    · exact .inl h
    · exact .inr ⟨a, b, xs, ys, h1, h2, h3, h4, h5, h6, fun i u v g1 g2 => (h7 i u v g1 g2).up⟩
theorem Ak.ints {n : Nat} {H : Hp} {a b : Addr} {ns : List Int} (h1 : IL H a ns) (h2 : IL H b ns) (hl : ns.length ≤ 1000) : Ak (n + 1) H (.ref a) (.ref b) :=
  .inr ⟨a, b, _, _, rfl, rfl, h1, h2, rfl, by rw [List.length_map]; exact hl, fun i u v g1 g2 => by
    rw [g1] at g2
    have e : u = v := Option.some.inj g2
    rw [List.getElem?_map] at g1
    cases q : ns[i]? with
    | none =>
      rw [q] at g1
      cases g1
    | some z =>
      rw [q] at g1
      have e2 : V.int z = u := Option.some.inj g1
      rw [← e, ← e2]
      exact Ak.int z⟩
/-- two written lists, item by item -/
theorem Ak.lst {n : Nat} {H : Hp} {a b : Addr} {xs ys : List V} (h1 : H a = some (.lst xs)) (h2 : H b = some (.lst ys)) (hl : xs.length ≤ 1000) (h : Paired (Ak n H) xs ys) : Ak (n + 1) H (.ref a) (.ref b) := by
  refine .inr ⟨a, b, xs, ys, rfl, rfl, h1, h2, Paired.length h, hl, ?_⟩
  clear h1 h2 hl
  induction h with
  | nil => intro i u v g1 g2; simp at g1
  | cons r t ih =>
    intro i u v g1 g2
    cases i with
    | zero =>
      simp at g1 g2
      subst g1
      subst g2
      exact r
    | succ i => exact ih i u v (by simpa using g1) (by simpa using g2)
theorem Lh.ak {n : Nat} {H : Hp} {a b : Addr} {bs rs : List Int} (h1 : Lh H a bs rs) (h2 : Lh H b bs rs) (hb : bs.length ≤ 1000) (hr : rs.length ≤ 1000) : Ak (n + 2) H (.ref a) (.ref b) := by
  obtain ⟨b1, r1, x1, x2, x3⟩ := h1
  obtain ⟨b2, r2, y1, y2, y3⟩ := h2
  exact Ak.lst x1 y1 (by show 2 ≤ 1000; decide) (.cons (Ak.ints x2 y2 hb) (.cons (Ak.ints x3 y3 hr) .nil))
/-! ### what the walk leans on -/
def Df (K : PySem.W.Frag) (mg : Str → Option Value) (x : Str) (st : Stmt) (dvs : List V) : Prop := ∃ f fd, FunD K x x (defArgs st) (defBody st) (defScope st) dvs [] f fd ∧ mg x = some (.ref f)
def Dm (K : PySem.W.Frag) (C : Addr) (x qual : Str) (st : Stmt) : Prop := ∃ f fd, FunD K x qual (defArgs st) (defBody st) (defScope st) [] [] f fd ∧ Meth K C x f
def Di (K : PySem.W.Frag) (C : Addr) : Prop := ∃ f fd, FunD K "__init__" "House.__init__" (defArgs s_init) (defBody s_init) (defScope s_init) [] [] f fd ∧ Mk K C f
structure Tx (K : PySem.W.Frag) (mg : Str → Option Value) (C : Addr) : Prop where
  cl : Cls K C
  nSt : NoAttr K C "steps"
  nSp : NoAttr K C "space"
  mgC : mg "House" = some (.ref C)
  mki : Di K C
  kcl : PySem.W.findIn K (.ref C) "__class__" = some (some (.builtin "object.__class__"))
  kget : PySem.W.specialIn K (.builtin "object.__class__") "__get__" = some (some (.builtin "getset_descriptor.__get__"))
  ktk : PySem.W.takesIn K (.builtin "object.__class__") = some true
  mro : PySem.W.mroIn K C (.type "object") = some true
  ne : PySem.W.findIn K (.ref C) "__ne__" = some (some (.builtin "object.__ne__"))
  d_is_whole : Df K mg "is_whole" s_is_whole []
  d_is_count : Df K mg "is_count" s_is_count [.non]
  d_are_counts : Df K mg "are_counts" s_are_counts []
  d_is_base : Df K mg "is_base" s_is_base []
  d_check_house : Df K mg "check_house" s_check_house []
  d_check_place : Df K mg "check_place" s_check_place []
  d_check_low_place : Df K mg "check_low_place" s_check_low_place []
  d_weights_of : Df K mg "weights_of" s_weights_of []
  d_sums_up_to : Df K mg "sums_up_to" s_sums_up_to []
  d_rows_in : Df K mg "rows_in" s_rows_in []
  d_weights : Df K mg "weights" s_weights []
  d_held_up_to : Df K mg "held_up_to" s_held_up_to []
  d_many_rows : Df K mg "many_rows" s_many_rows []
  d_is_within : Df K mg "is_within" s_is_within []
  d_check_alike : Df K mg "check_alike" s_check_alike []
  d_lesser_house : Df K mg "lesser_house" s_lesser_house []
  d_greater_house : Df K mg "greater_house" s_greater_house []
  d_roomed : Df K mg "roomed" s_roomed []
  d_with_room : Df K mg "with_room" s_with_room []
  d_stretch : Df K mg "stretch" s_stretch []
  d_set_behind : Df K mg "set_behind" s_set_behind []
  d_tightened : Df K mg "tightened" s_tightened []
  d_l_purse : Df K mg "_law_purse" s_l_purse []
  d_l_mixed : Df K mg "_law_mixed" s_l_mixed []
  d_l_draw : Df K mg "_law_draw" s_l_draw []
  d_l_purses : Df K mg "_law_purses" s_l_purses []
  d_l_one_of : Df K mg "_law_one_of" s_l_one_of []
  d_l_exact : Df K mg "_law_exact" s_l_exact []
  d_l_weights : Df K mg "_law_weights" s_l_weights []
  d_l_many_rows : Df K mg "_law_many_rows" s_l_many_rows []
  d_l_house : Df K mg "_law_house" s_l_house []
  d_l_great_house : Df K mg "_law_great_house" s_l_great_house []
  d_l_made : Df K mg "_law_made" s_l_made []
  d_l_told_of : Df K mg "_law_told_of" s_l_told_of []
  d_l_two_right : Df K mg "_law_two_right" s_l_two_right []
  d_l_places_right : Df K mg "_law_places_right" s_l_places_right []
  d_l_behind_right : Df K mg "_law_behind_right" s_l_behind_right []
  d_law : Df K mg "law" s_law []
  b_isinstance : mg "isinstance" = none
  b_int : mg "int" = none
  b_bool : mg "bool" = none
  b_list : mg "list" = none
  b_tuple : mg "tuple" = none
  b_dict : mg "dict" = none
  b_all : mg "all" = none
  b_len : mg "len" = none
  b_zip : mg "zip" = none
  b_min : mg "min" = none
  b_max : mg "max" = none
  b_sum : mg "sum" = none
  b_range : mg "range" = none
  b_enumerate : mg "enumerate" = none
  h_bases : Dm K C "bases" "House.bases" s_bases
  h_rooms : Dm K C "rooms" "House.rooms" s_rooms
  h_places : Dm K C "places" "House.places" s_places
  h_eq : Dm K C "__eq__" "House.__eq__" s_eq
section
variable {P : Program} {w : World} {K : PySem.W.Frag} {mg : Str → Option Value} {base : Heap} {C : Addr}
/-- a def's body keeps its promise -/
theorem fd_ok {x qual : Str} {st : Stmt} {dvs : List V} {f : Addr} {fd : FuncData} {N ps : List Str} {k : Nat} {sp : Sp} (F : FunD K x qual (defArgs st) (defBody st) (defScope st) dvs [] f fd) (S : FnScope N ps (defScope st)) (len : ∀ vs H Q E, sp vs H Q E → vs.length = ps.length)
    (hbody : ∀ (cdv : Value) (A : Around) (outer : List Env) (s : Shared) (H : Hp) (vs : List V) (Q : VK) (E : XK), Room k (A.deeper (envOfC qual (defScope st) s.heap.objs.size f cdv)) → sp vs H Q E →
      ∃ t, PSs (cxOf CX0 P w K mg base N qual (defScope st) f cdv A outer s H E).nox (defBody st) t ∧ t { nx := fun _ H' => Q .non H', rt := Q } (start N vs) H) : FnOk P w K mg base CX0 (k + 1) f fd ps sp :=
  F.ok S len fun cdv A outer s H vs Q E hr h => by
    obtain ⟨t, h1, h2⟩ := hbody cdv A outer s H vs Q E hr h
    exact ⟨t, h1.nox, h2⟩
/-- a def that is called by its name -/
def Ok (P : Program) (w : World) (K : PySem.W.Frag) (mg : Str → Option Value) (base : Heap) (k : Nat) (x : Str) (ps : List Str) (sp : Sp) : Prop :=
  ∃ f fd, FnOk P w K mg base CX0 k f fd ps sp ∧ mg x = some (.ref f) ∧ PySem.W.keepIn K (.ref f) = true ∧ Binds K fd ps []
/-- .. by keywords too -/
def OkK (P : Program) (w : World) (K : PySem.W.Frag) (mg : Str → Option Value) (base : Heap) (k : Nat) (x : Str) (ps ks : List Str) (g : {α : Type} → List α → List α) (sp : Sp) : Prop :=
  ∃ f fd, FnOk P w K mg base CX0 k f fd ps sp ∧ mg x = some (.ref f) ∧ PySem.W.keepIn K (.ref f) = true ∧ Binds K fd ps [] ∧ KwB K fd ps ks g g
def OkM (P : Program) (w : World) (K : PySem.W.Frag) (mg : Str → Option Value) (base : Heap) (C : Addr) (k : Nat) (x : Str) (ps : List Str) (sp : Sp) : Prop :=
  ∃ f fd, FnOk P w K mg base CX0 k f fd ps sp ∧ Meth K C x f ∧ Binds K fd ps []
theorem ok_mk {x : Str} {st : Stmt} {N ps : List Str} {k : Nat} {sp : Sp} (D : Df K mg x st []) (S : FnScope N ps (defScope st)) (len : ∀ vs H Q E, sp vs H Q E → vs.length = ps.length)
    (hb : ∀ (kV doc pm : Value) (an : Option Addr) (cdv ct : Value) (us : List Value), us.length = ps.length → bindArgs (PySem.W.fnOf x x (defArgs st) (defBody st) (defScope st) .none kV doc pm an cdv ct) ⟨us, []⟩ = pure (ps.zip us))
    (hbody : ∀ (f : Addr) (cdv : Value) (A : Around) (outer : List Env) (s : Shared) (H : Hp) (vs : List V) (Q : VK) (E : XK), Room k (A.deeper (envOfC x (defScope st) s.heap.objs.size f cdv)) → sp vs H Q E →
      ∃ t, PSs (cxOf CX0 P w K mg base N x (defScope st) f cdv A outer s H E).nox (defBody st) t ∧ t { nx := fun _ H' => Q .non H', rt := Q } (start N vs) H) : Ok P w K mg base (k + 1) x ps sp := by
  obtain ⟨f, fd, F, m⟩ := D
  exact ⟨f, fd, fd_ok F S len (hbody f), m, F.kp, F.bindsN hb⟩
theorem ok_mkK {x : Str} {st : Stmt} {N ps ks : List Str} {k : Nat} {sp : Sp} {g : {α : Type} → List α → List α} (D : Df K mg x st []) (S : FnScope N ps (defScope st)) (len : ∀ vs H Q E, sp vs H Q E → vs.length = ps.length)
    (hb : ∀ (kV doc pm : Value) (an : Option Addr) (cdv ct : Value) (us : List Value), us.length = ps.length → bindArgs (PySem.W.fnOf x x (defArgs st) (defBody st) (defScope st) .none kV doc pm an cdv ct) ⟨us, []⟩ = pure (ps.zip us))
    (hk : ∀ (kV doc pm : Value) (an : Option Addr) (cdv ct : Value) (ws : List Value), ws.length = ks.length → bindArgs (PySem.W.fnOf x x (defArgs st) (defBody st) (defScope st) .none kV doc pm an cdv ct) ⟨[], ks.zip ws⟩ = pure (ps.zip (g ws)))
    (hg : ∀ {zs : List V} {ws : List Value}, Vals zs ws → Vals (g zs) (g ws))
    (hbody : ∀ (f : Addr) (cdv : Value) (A : Around) (outer : List Env) (s : Shared) (H : Hp) (vs : List V) (Q : VK) (E : XK), Room k (A.deeper (envOfC x (defScope st) s.heap.objs.size f cdv)) → sp vs H Q E →
      ∃ t, PSs (cxOf CX0 P w K mg base N x (defScope st) f cdv A outer s H E).nox (defBody st) t ∧ t { nx := fun _ H' => Q .non H', rt := Q } (start N vs) H) : OkK P w K mg base (k + 1) x ps ks g sp := by
  obtain ⟨f, fd, F, m⟩ := D
  refine ⟨f, fd, fd_ok F S len (hbody f), m, F.kp, F.bindsN hb, ?_, hg⟩
  obtain ⟨oc, od, dV, kV, doc, pm, an, cdv, ct, osl, rfl, lk, hcd, hD, hK⟩ := F.ex
  rcases hD with ⟨_, rfl⟩ | ⟨e, _⟩
  · exact fun s ws _ hl => .of_eq (hk kV doc pm an cdv ct ws hl)
  · exact absurd rfl e
theorem ok_mkM {x qual : Str} {st : Stmt} {N ps : List Str} {k : Nat} {sp : Sp} (D : Dm K C x qual st) (S : FnScope N ps (defScope st)) (len : ∀ vs H Q E, sp vs H Q E → vs.length = ps.length)
    (hb : ∀ (kV doc pm : Value) (an : Option Addr) (cdv ct : Value) (us : List Value), us.length = ps.length → bindArgs (PySem.W.fnOf x qual (defArgs st) (defBody st) (defScope st) .none kV doc pm an cdv ct) ⟨us, []⟩ = pure (ps.zip us))
    (hbody : ∀ (f : Addr) (cdv : Value) (A : Around) (outer : List Env) (s : Shared) (H : Hp) (vs : List V) (Q : VK) (E : XK), Room k (A.deeper (envOfC qual (defScope st) s.heap.objs.size f cdv)) → sp vs H Q E →
      ∃ t, PSs (cxOf CX0 P w K mg base N qual (defScope st) f cdv A outer s H E).nox (defBody st) t ∧ t { nx := fun _ H' => Q .non H', rt := Q } (start N vs) H) : OkM P w K mg base C (k + 1) x ps sp := by
  obtain ⟨f, fd, F, m⟩ := D
  exact ⟨f, fd, fd_ok F S len (hbody f), m, F.bindsN hb⟩
end
end K4

set_option maxHeartbeats 4000000
namespace K4
open PySem PySem.Spec PyProof.Rows L2
section
variable {P : Program} {w : World} {K : PySem.W.Frag} {mg : Str → Option Value} {base : Heap} {C : Addr}
/-! ### whole numbers, counts, lists of them -/
def sp_is_whole : Sp := fun vs H Q _ => ∃ i : Int, vs = [.int i] ∧ Q (.bl true) H
theorem sc_is_whole : FnScope ["value"] ["value"] (defScope s_is_whole) := ⟨rfl, rfl, rfl, by decide +kernel, rfl, by decide +kernel, by decide +kernel⟩
theorem ok_is_whole (T : Tx K mg C) : Ok P w K mg base 1 "is_whole" ["value"] (sp_is_whole) := by
  refine ok_mk T.d_is_whole sc_is_whole (fun vs H Q E h => ?_) (fun _ _ _ _ _ _ us hl => match us, hl with | [_], _ => rfl) (fun f cdv A outer s H vs Q E hr h => ?_)
  · obtain ⟨i, rfl, _⟩ := h
    rfl
  have hu := hu_of hr
  have hu64 := hr.units
  obtain ⟨i, rfl, q⟩ := h
  refine ⟨_, (pss_one (ps_ret (pe_and (pe_callB call_isi (by rfl) T.b_isinstance (by decide +kernel) (pa_cons (pv 0) (pa_cons (pe_bltn (v := .ty "int") (by rfl) T.b_int (by decide +kernel) rfl) pa_nil))) (pe_one (pe_not (pe_callB call_isi (by rfl) T.b_isinstance (by decide +kernel) (pa_cons (pv 0) (pa_cons (pe_bltn (v := .ty "bool") (by rfl) T.b_bool (by decide +kernel) rfl) pa_nil)))))))), ?_⟩
  refine ⟨_, rfl, _, _, _, _, true, rfl, .ty "int", .base (.int _), kit_ty (by decide +kernel), true, rfl, iteT ?_⟩
  exact ⟨_, rfl, _, _, _, _, false, rfl, .ty "bool", .base (.int _), kit_ty (by decide +kernel), false, rfl, q⟩
def sp_is_count : Sp := fun vs H Q _ => ∃ i : Int, vs = [.int i, .non] ∧ 0 ≤ i ∧ Q (.bl true) H
theorem sc_is_count : FnScope ["value", "most"] ["value", "most"] (defScope s_is_count) := ⟨rfl, rfl, rfl, by decide +kernel, rfl, by decide +kernel, by decide +kernel⟩
theorem ok_is_count (T : Tx K mg C) : ∃ f fd ds, FnOk P w K mg base CX0 2 f fd ["value", "most"] sp_is_count ∧ mg "is_count" = some (.ref f) ∧ PySem.W.keepIn K (.ref f) = true ∧ Binds K fd ["value", "most"] ds ∧ Vals [V.non] ds := by
  obtain ⟨f_is_whole, fd_is_whole, G_is_whole, m_is_whole, k_is_whole, b_is_whole⟩ := ok_is_whole (P := P) (w := w) (base := base) T
  obtain ⟨f, fd, F, m⟩ := T.d_is_count
  obtain ⟨ds, hv, hb⟩ := F.binds1 (ps := ["value", "most"]) 1 0 (by simp) rfl (fun Tt kV doc pm an cdv ct us its h1 h2 => by
    obtain ⟨u, rfl⟩ : ∃ u, us = [u] := List.length_eq_one_iff.mp h1
    obtain ⟨z, rfl⟩ : ∃ z, its = [z] := List.length_eq_one_iff.mp h2
    exact ⟨_, rfl, rfl⟩)
  refine ⟨f, fd, ds, ?_, m, F.kp, hb, hv⟩
  refine fd_ok F sc_is_count (fun vs H Q E h => ?_) (fun cdv A outer s H vs Q E hr h => ?_)
  · obtain ⟨i, rfl, _⟩ := h
    rfl
  have hu := hu_of hr
  obtain ⟨i, rfl, h0, q⟩ := h
  refine ⟨_, (pss_cons (ps_if (PW.pt (pw_or (pt_not (pt_val (pe_call G_is_whole (hr.mono (by decide)) (by rfl) m_is_whole k_is_whole b_is_whole .nil pass0 (pa_cons (pv 0) pa_nil)))) (pw_or1 (pt_cmpR op_lt (pv 0) pe_int (nomark _))))) (pss_one (ps_ret pe_bl)) pss_nil)
      (pss_one (ps_ret (pe_or (pe_cmpR op_isN (pv 1) pe_non (nomark _)) (pe_one (pe_cmpR op_le (pv 0) (pv 1) (nomark _))))))), ?_⟩
  refine ⟨_, rfl, i, rfl, true, rfl, iteF ?_⟩
  refine ⟨_, rfl, _, _, rfl, rfl, _, rfl, ?_⟩
  have e : decide (i < 0) = false := decide_eq_false (by omega)
  rw [e]
  refine iteF ?_
  exact ⟨_, rfl, rfl, true, rfl, iteT q⟩
def sp_are_counts : Sp := fun vs H Q _ => ∃ (a : Addr) (ns : List Int), vs = [.ref a] ∧ IL H a ns ∧ (∀ n ∈ ns, 0 ≤ n) ∧ ns.length ≤ 1000 ∧ ∀ H', Same H H' → Q (.bl true) H'
theorem int_at {ns : List Int} {i : Nat} {x : V} (h : (ns.map V.int)[i]? = some x) : ∃ n, x = .int n ∧ ns[i]? = some n ∧ n ∈ ns := by
  rw [List.getElem?_map] at h
  cases e : ns[i]? with
  | none =>
    rw [e] at h
    cases h
  | some n =>
    rw [e] at h
    exact ⟨n, (Option.some.inj h).symm, rfl, List.mem_of_getElem? e⟩
theorem all_const (n : Nat) : ((List.range n).map fun _ => true).all id = true := by
  rw [List.all_map]
  exact List.all_eq_true.mpr fun _ _ => rfl
theorem map_const (n : Nat) : ((List.range n).map fun _ => V.bl true) = ((List.range n).map fun _ => true).map V.bl := by
  rw [List.map_map]
  rfl
theorem rall_true {D : Addr} {n : Nat} {H : Hp} {Q : VK} (e : H D = some (.lst ((List.range n).map fun _ => V.bl true))) (q : Q (.bl true) H) : rAll K [.ref D] H Q :=
  ⟨D, _, rfl, SqL.of (by rw [map_const] at e; exact e), by rw [all_const]; exact q⟩
/-- a comprehension whose i-th item is v i; the objects that stood before stand -/
theorem lc_vals {J : It} {n : Nat} {G : Hp → Prop} {Y : Nat → Hp → V → Hp → Prop} (W : Walk J n G Y) (v : Nat → V) {g : TG} {te : TE} {vs : List Nat} {σ : L2.St} {H1 : Hp} {D : Addr} {Qd : Hp → Prop} (hD : H1 D = none) (hn : n ≤ 1000) (hG : ∀ H, Same H1 H → G H)
    (hs : ∀ (i : Nat) (x : V) (H H' : Hp) (Q : VK), i < n → Same H1 H → Y i H x H' → (∀ H3, Same H H3 → Q (v i) H3) → g x (wipe σ vs) H' fun σ2 H2 => wipe σ2 vs = wipe σ vs ∧ te σ2 H2 Q)
    (hd : ∀ H, Same H1 H → H D = some (.lst ((List.range n).map v)) → Qd H) :
    ∃ W : Nat → Nat → Hp → Prop, (∃ m, W 0 m (upd H1 D (.lst []))) ∧ ∀ i m H, W i m H →
      (J.stop i H ∧ Qd H) ∨ (J.go i H ∧ ∃ Nx : Hp → Prop, (∀ H', Nx H' → ∃ m', m' < m ∧ W (i + 1) m' H') ∧ ∀ x H', J.yld i H x H' → g x (wipe σ vs) H' fun σ2 H2 => wipe σ2 vs = wipe σ vs ∧ tYes σ2 H2 fun b H3 =>
        if b = true then te σ2 H3 fun y H4 => ∃ acc, H4 D = some (.lst acc) ∧ acc.length < sizeLine ∧ Nx (upd H4 D (.lst (acc ++ [y]))) else Nx H3) := by
  refine lc_it W (fun i H => Same H1 H ∧ H D = some (.lst ((List.range i).map v))) ⟨same_upd hD, upd_same⟩ (fun i H _ p => hG H p.1) ?_ (fun H p => hd H p.1 p.2)
  rintro i x H H' hi ⟨p1, p2⟩ y
  refine hs i x H H' _ hi p1 y fun H3 s3 => ⟨_, s3 _ _ p2, ?_, fun b o e => ?_, ?_⟩
  · rw [List.length_map, List.length_range]
    exact small1000 (by omega)
  · rw [upd_ne (ne_of_none e hD)]
    exact s3 _ _ (p1 _ _ e)
  · rw [upd_same, List.range_succ, List.map_append]
    rfl
theorem sc_are_counts : FnScope ["value", "late"] ["value"] (defScope s_are_counts) := ⟨rfl, rfl, rfl, by decide +kernel, rfl, by decide +kernel, by decide +kernel⟩
theorem ok_are_counts (T : Tx K mg C) : Ok P w K mg base 3 "are_counts" ["value"] (sp_are_counts) := by
  obtain ⟨f_is_count, fd_is_count, ds_is_count, G_is_count, m_is_count, k_is_count, b_is_count, v_is_count⟩ := ok_is_count (P := P) (w := w) (base := base) T
  refine ok_mk T.d_are_counts sc_are_counts (fun vs H Q E h => ?_) (fun _ _ _ _ _ _ us hl => match us, hl with | [_], _ => rfl) (fun f cdv A outer s H vs Q E hr h => ?_)
  · obtain ⟨a, ns, rfl, _⟩ := h
    rfl
  have hu := hu_of hr
  have hu64 := hr.units
  obtain ⟨a, ns, rfl, hA, h0, hl, q⟩ := h
  refine ⟨_, (pss_one (ps_ret (pe_and (pe_callB call_isi (by rfl) T.b_isinstance (by decide +kernel) (pa_cons (pv 0) (pa_cons (pe_bltn (v := .ty "list") (by rfl) T.b_list (by decide +kernel) rfl) pa_nil))) (pe_one (pe_callB (cr_all rfl) (by rfl) T.b_all (by decide +kernel) (pa_cons (pe_lc (own := [("late", 1)]) rfl sc_are_counts.nd (pi_list (pv 0)) (blkOk_by (own := [("late", 1)]) (N := ["value", "late"]) (sc := defScope s_are_counts) (by decide +kernel)) (fun _ _ _ _ _ => (pg_name (i := 1) sc_are_counts.nd rfl (Or.inl rfl))) (fun _ _ _ _ _ => pts_nil) (fun _ _ _ _ _ => (pe_call G_is_count (hr.mono (by decide)) (by rfl) m_is_count k_is_count b_is_count v_is_count pass0 (pa_cons (pv 1) pa_nil)))) pa_nil)))))), ?_⟩
  refine ⟨_, rfl, _, _, _, _, true, rfl, .ty "list", .base (.lst hA), kit_ty (by decide +kernel), true, rfl, iteT ?_⟩
  refine ⟨_, rfl, a, rfl, ⟨_, hA.sq⟩, fun D hD => ?_⟩
  refine lc_vals (walk_list (xs := ns.map V.int)) (fun _ => .bl true) hD (by rw [List.length_map]; exact hl) (fun H' s => (hA.mono s).sq) (fun i x H1 H2 Q' hi s y k => ?_) (fun H' s e => ?_)
  · obtain ⟨rfl, y⟩ := y
    obtain ⟨n, rfl, e1, e2⟩ := int_at y
    exact ⟨rfl, _, rfl, n, rfl, h0 n e2, k _ (Same.refl _)⟩
  · exact rall_true e (q H' s)
def sp_is_base : Sp := fun vs H Q _ => ∃ i : Int, vs = [.int i] ∧ 2 ≤ i ∧ Q (.bl true) H
theorem sc_is_base : FnScope ["value"] ["value"] (defScope s_is_base) := ⟨rfl, rfl, rfl, by decide +kernel, rfl, by decide +kernel, by decide +kernel⟩
theorem ok_is_base (T : Tx K mg C) : Ok P w K mg base 2 "is_base" ["value"] (sp_is_base) := by
  obtain ⟨f_is_whole, fd_is_whole, G_is_whole, m_is_whole, k_is_whole, b_is_whole⟩ := ok_is_whole (P := P) (w := w) (base := base) T
  refine ok_mk T.d_is_base sc_is_base (fun vs H Q E h => ?_) (fun _ _ _ _ _ _ us hl => match us, hl with | [_], _ => rfl) (fun f cdv A outer s H vs Q E hr h => ?_)
  · obtain ⟨i, rfl, _⟩ := h
    rfl
  have hu := hu_of hr
  have hu64 := hr.units
  obtain ⟨i, rfl, h2, q⟩ := h
  refine ⟨_, (pss_one (ps_ret (pe_and (pe_call G_is_whole (hr.mono (by decide)) (by rfl) m_is_whole k_is_whole b_is_whole .nil pass0 (pa_cons (pv 0) pa_nil)) (pe_one (pe_cmpR op_gt (pv 0) pe_int (nomark _)))))), ?_⟩
  refine ⟨_, rfl, i, rfl, true, rfl, iteT ?_⟩
  refine ⟨_, rfl, _, _, rfl, rfl, ?_⟩
  show Q (.bl (decide ((1 : Int) < i))) H
  rw [decide_eq_true (show (1 : Int) < i by omega)]
  exact q
/-! ### the class -/
def sp_init (C : Addr) : Sp := fun vs H Q _ => ∃ (x dx a b : Addr) (bs rs : List Int), vs = [.ref x, .ref a, .ref b] ∧ H x = some (.ins C dx []) ∧ IL H a bs ∧ IL H b rs ∧ Good bs rs ∧
  ∀ (H' : Hp) (s r : Addr), (∀ c o, H c = some o → c ≠ x → H' c = some o) → H s = none → H r = none → H' x = some (.ins C dx (hf s r)) → IL H' s bs → IL H' r rs → Q .non H'
theorem sc_init : FnScope ["self", "bases", "rooms", "base"] ["self", "bases", "rooms"] (defScope s_init) := ⟨rfl, rfl, rfl, by decide +kernel, rfl, by decide +kernel, by decide +kernel⟩
theorem ok_init (T : Tx K mg C) : ∃ f fd, FnOk P w K mg base CX0 4 f fd ["self", "bases", "rooms"] (sp_init C) ∧ Mk K C f ∧ Binds K fd ["self", "bases", "rooms"] [] := by
  obtain ⟨f_are_counts, fd_are_counts, G_are_counts, m_are_counts, k_are_counts, b_are_counts⟩ := ok_are_counts (P := P) (w := w) (base := base) T
  obtain ⟨f_is_base, fd_is_base, G_is_base, m_is_base, k_is_base, b_is_base⟩ := ok_is_base (P := P) (w := w) (base := base) T
  obtain ⟨f, fd, F, M⟩ := T.mki
  refine ⟨f, fd, ?_, M, F.bindsN fun _ _ _ _ _ _ us hl => match us, hl with | [_, _, _], _ => rfl⟩
  refine fd_ok F sc_init (fun vs H Q E h => ?_) (fun cdv A outer s H vs Q E hr h => ?_)
  · obtain ⟨x, dx, a, b, bs, rs, rfl, _⟩ := h
    rfl
  have hu := hu_of hr
  obtain ⟨x, dx, a, b, bs, rs, rfl, hX, hA, hB, g, q⟩ := h
  have hbl : bs.length ≤ 1000 := by have := g.few; omega
  have hrl : rs.length ≤ 1000 := by have := g.few; have := g.len; omega
  refine ⟨_, (pss_cons (ps_if (PW.pt (pw_or (pt_not (pt_val (pe_callB call_isi (by rfl) T.b_isinstance (by decide +kernel) (pa_cons (pv 1) (pa_cons (pe_bltn (v := .ty "list") (by rfl) T.b_list (by decide +kernel) rfl) pa_nil))))) (pw_or1 (pt_not (pt_val (pe_callB (cr_all rfl) (by rfl) T.b_all (by decide +kernel) (pa_cons (pe_lc (own := [("base", 3)]) rfl sc_init.nd (pi_list (pv 1)) (blkOk_by (own := [("base", 3)]) (N := ["self", "bases", "rooms", "base"]) (sc := defScope s_init) (by decide +kernel)) (fun _ _ _ _ _ => (pg_name (i := 3) sc_init.nd rfl (Or.inl rfl))) (fun _ _ _ _ _ => pts_nil) (fun _ _ _ _ _ => (pe_call G_is_base (hr.mono (by decide)) (by rfl) m_is_base k_is_base b_is_base .nil pass0 (pa_cons (pv 3) pa_nil)))) pa_nil))))))) (pss_one ps_never) pss_nil)
      (pss_cons (ps_if (PW.pt (pw_or (pt_not (pt_val (pe_call G_are_counts (hr.mono (by decide)) (by rfl) m_are_counts k_are_counts b_are_counts .nil pass0 (pa_cons (pv 2) pa_nil)))) (pw_or1 (pt_cmpR op_ne (pe_callB call_len_seq (by rfl) T.b_len PySem.boot_len (pa_cons (pv 2) pa_nil)) (pe_op op_add (pe_callB call_len_seq (by rfl) T.b_len PySem.boot_len (pa_cons (pv 1) pa_nil)) pe_int) (nomark _))))) (pss_one ps_never) pss_nil)
      (pss_cons (ps_fld (pv 0) (pe_callTy call_list_of (by rfl) T.b_list (by decide +kernel) (pa_cons (pv 1) pa_nil)) rfl)
      (pss_one (ps_fld (pv 0) (pe_callTy call_list_of (by rfl) T.b_list (by decide +kernel) (pa_cons (pv 2) pa_nil)) rfl))))), ?_⟩
  refine ⟨_, rfl, _, _, _, _, true, rfl, .ty "list", .base (.lst hA), kit_ty (by decide +kernel), true, rfl, iteF ?_⟩
  refine ⟨_, rfl, a, rfl, ⟨_, hA.sq⟩, fun D hD => ?_⟩
  refine lc_vals (walk_list (xs := bs.map V.int)) (fun _ => .bl true) hD (by rw [List.length_map]; exact hbl) (fun H' s => (hA.mono s).sq) (fun i z H1 H2 Q' hi s y k => ?_) (fun H1 s1 e => ?_)
  · obtain ⟨rfl, y⟩ := y
    obtain ⟨n, rfl, e1, e2⟩ := int_at y
    exact ⟨rfl, _, rfl, n, rfl, g.b2 n e2, k _ (Same.refl _)⟩
  refine ⟨D, _, rfl, SqL.of (by rw [map_const] at e; exact e), ?_⟩
  rw [all_const]
  refine ⟨true, rfl, iteF ?_⟩
  refine ⟨_, rfl, b, rs, rfl, hB.mono s1, g.r0, hrl, fun H2 s2 => ⟨true, rfl, iteF ?_⟩⟩
  have s12 := s1.trans s2
  have hA2 := hA.mono s12
  have hB2 := hB.mono s12
  have hX2 := s12 _ _ hX
  refine ⟨_, rfl, b, _, rfl, .inl hB2.sq, _, rfl, a, _, rfl, .inl hA2.sq, _, _, rfl, rfl, rfl, _, rfl, iteNS ?_ ?_⟩
  · rw [List.length_map, List.length_map, g.len]
    rfl
  refine ⟨_, rfl, a, _, rfl, .inl hA2.sq, fun s hs => ?_⟩
  have nxs : x ≠ s := ne_of_none hX2 hs
  refine ⟨_, rfl, x, C, dx, [], rfl, (by rw [upd_ne nxs]; exact hX2), T.cl, T.nSt, (by show 0 < 1000; decide), ?_⟩
  have nbx : b ≠ x := ne_of hB2 hX2 (by intro z; cases z)
  have nbs : b ≠ s := ne_of_none hB2 hs
  refine ⟨_, rfl, b, _, rfl, .inl (SqL.of (by rw [upd_ne nbx, upd_ne nbs]; exact hB2)), fun r hr0 => ?_⟩
  have nxr : x ≠ r := fun z => by
    rw [← z, upd_same] at hr0
    cases hr0
  have nsr : s ≠ r := fun z => by
    rw [← z, upd_ne nxs.symm, upd_same] at hr0
    cases hr0
  refine ⟨_, rfl, x, C, dx, _, rfl, (by rw [upd_ne nxr, upd_same]), T.cl, T.nSp, (by show 1 < 1000; decide), ?_⟩
  refine q _ s r (fun c o hc nc => ?_) (s12.free hs) ?_ upd_same ?_ ?_
  · have ncs : c ≠ s := ne_of_none (s12 _ _ hc) hs
    have ncr : c ≠ r := fun z => by
      rw [← z, upd_ne nc, upd_ne ncs, s12 _ _ hc] at hr0
      cases hr0
    rw [upd_ne nc, upd_ne ncr, upd_ne nc, upd_ne ncs]
    exact s12 _ _ hc
  · rw [upd_ne nxr.symm, upd_ne nsr.symm] at hr0
    exact s12.free hr0
  · show _ = _
    rw [upd_ne nxs.symm, upd_ne nsr, upd_ne nxs.symm, upd_same]
  · show _ = _
    rw [upd_ne nxr.symm, upd_same]
/-- House(a, b): a new house -/
theorem make_ok {H : Hp} {a b : Addr} {bs rs : List Int} {Q : VK} {E : XK} (hA : IL H a bs) (hB : IL H b rs) (g : Good bs rs) (q : ∀ H' x, Same H H' → Hs C (dif H H') x bs rs → Q (.ref x) H') :
    ∀ x dx, H x = none → H dx = none → dx ≠ x → sp_init C (.ref x :: ([.ref a, .ref b] ++ [])) (upd (upd H dx (.own x)) x (.ins C dx [])) (fun v H2 => v = .non ∧ Q (.ref x) H2) E := by
  intro x dx hx hdx hne
  have s0 : Same H (upd (upd H dx (.own x)) x (.ins C dx [])) := fun c o e => by
    rw [upd_ne (ne_of_none e hx), upd_ne (ne_of_none e hdx)]
    exact e
  refine ⟨x, dx, a, b, bs, rs, rfl, upd_same, hA.mono s0, hB.mono s0, g, fun H' s r k hs hr h1 h2 h3 => ⟨rfl, q H' x (fun c o e => k c o (s0 _ _ e) (ne_of_none e hx)) ⟨dx, s, r, dif_at hx h1, dif_at (s0.free hs) h2, dif_at (s0.free hr) h3⟩⟩⟩
def sp_bases (C : Addr) : Sp := fun vs H Q _ => ∃ (a : Addr) (bs rs : List Int), vs = [.ref a] ∧ Hs C H a bs rs ∧ ∀ p, H p = none → Q (.ref p) (upd H p (.lst (bs.map V.int)))
theorem sc_bases : FnScope ["self"] ["self"] (defScope s_bases) := ⟨rfl, rfl, rfl, by decide +kernel, rfl, by decide +kernel, by decide +kernel⟩
theorem ok_bases (T : Tx K mg C) : OkM P w K mg base C 1 "bases" ["self"] (sp_bases C) := by
  refine ok_mkM T.h_bases sc_bases (fun vs H Q E h => ?_) (fun _ _ _ _ _ _ us hl => match us, hl with | [_], _ => rfl) (fun f cdv A outer s H vs Q E hr h => ?_)
  · obtain ⟨a, bs, rs, rfl, _⟩ := h
    rfl
  have hu := hu_of hr
  have hu64 := hr.units
  obtain ⟨a, bs, rs, rfl, ⟨dx, s1, r1, h1, h2, h3⟩, q⟩ := h
  refine ⟨_, (pss_one (ps_ret (pe_callTy call_list_of (by rfl) T.b_list (by decide +kernel) (pa_cons (pe_fld (pv 0) rfl) pa_nil)))), ?_⟩
  exact ⟨_, rfl, a, C, dx, _, _, rfl, h1, T.cl, T.nSt, hf_steps _ _, s1, _, rfl, .inl h2.sq, q⟩
def sp_rooms (C : Addr) : Sp := fun vs H Q _ => ∃ (a : Addr) (bs rs : List Int), vs = [.ref a] ∧ Hs C H a bs rs ∧ ∀ p, H p = none → Q (.ref p) (upd H p (.lst (rs.map V.int)))
theorem sc_rooms : FnScope ["self"] ["self"] (defScope s_rooms) := ⟨rfl, rfl, rfl, by decide +kernel, rfl, by decide +kernel, by decide +kernel⟩
theorem ok_rooms (T : Tx K mg C) : OkM P w K mg base C 1 "rooms" ["self"] (sp_rooms C) := by
  refine ok_mkM T.h_rooms sc_rooms (fun vs H Q E h => ?_) (fun _ _ _ _ _ _ us hl => match us, hl with | [_], _ => rfl) (fun f cdv A outer s H vs Q E hr h => ?_)
  · obtain ⟨a, bs, rs, rfl, _⟩ := h
    rfl
  have hu := hu_of hr
  have hu64 := hr.units
  obtain ⟨a, bs, rs, rfl, ⟨dx, s1, r1, h1, h2, h3⟩, q⟩ := h
  refine ⟨_, (pss_one (ps_ret (pe_callTy call_list_of (by rfl) T.b_list (by decide +kernel) (pa_cons (pe_fld (pv 0) rfl) pa_nil)))), ?_⟩
  exact ⟨_, rfl, a, C, dx, _, _, rfl, h1, T.cl, T.nSp, hf_space _ _, r1, _, rfl, .inl h3.sq, q⟩
def sp_places (C : Addr) : Sp := fun vs H Q _ => ∃ (a : Addr) (bs rs : List Int), vs = [.ref a] ∧ Hs C H a bs rs ∧ Q (.int (rs.length : Int)) H
theorem sc_places : FnScope ["self"] ["self"] (defScope s_places) := ⟨rfl, rfl, rfl, by decide +kernel, rfl, by decide +kernel, by decide +kernel⟩
theorem ok_places (T : Tx K mg C) : OkM P w K mg base C 1 "places" ["self"] (sp_places C) := by
  refine ok_mkM T.h_places sc_places (fun vs H Q E h => ?_) (fun _ _ _ _ _ _ us hl => match us, hl with | [_], _ => rfl) (fun f cdv A outer s H vs Q E hr h => ?_)
  · obtain ⟨a, bs, rs, rfl, _⟩ := h
    rfl
  have hu := hu_of hr
  have hu64 := hr.units
  obtain ⟨a, bs, rs, rfl, ⟨dx, s1, r1, h1, h2, h3⟩, q⟩ := h
  refine ⟨_, (pss_one (ps_ret (pe_callB call_len_seq (by rfl) T.b_len PySem.boot_len (pa_cons (pe_fld (pv 0) rfl) pa_nil)))), ?_⟩
  refine ⟨_, rfl, a, C, dx, _, _, rfl, h1, T.cl, T.nSp, hf_space _ _, r1, _, rfl, .inl h3.sq, ?_⟩
  rw [List.length_map]
  exact q
/-! ### data -/
def dat (ns : List Int) : PyData := .list (ns.map PyData.int)
theorem dp_ints {H : Hp} : ∀ ns : List Int, DpAll K H (ns.map V.int) (ns.map PyData.int)
  | [] => .nil
  | n :: ns => .cons (.int n) (dp_ints ns)
theorem IL.dp {H : Hp} {a : Addr} {ns : List Int} (h : IL H a ns) : Dp K H (.ref a) (dat ns) := .lst h.sq (dp_ints ns)
theorem eqv_dat (xs ys : List Int) : PyData.eqv (dat xs) (dat ys) = decide (xs = ys) := by
  show PyData.eqv (.list _) (.list _) = _
  rw [PyData.eqv]
  exact PySem.W.ked_eqvAll xs ys
theorem eq_ints {H : Hp} {a b : Addr} {xs ys : List Int} {Q : VK} (h1 : IL H a xs) (h2 : IL H b ys) (q : Q (.bl (decide (xs = ys))) H) : rEqD K (.ref a) (.ref b) H Q :=
  ⟨_, _, h1.dp, h2.dp, PySem.W.ke_shaped_ints _, PySem.W.ke_shaped_ints _, by rw [eqv_dat]; exact q⟩
theorem ne_ints {H : Hp} {a b : Addr} {xs ys : List Int} {Q : VK} (h1 : IL H a xs) (h2 : IL H b ys) (q : Q (.bl (!decide (xs = ys))) H) : rNeD K (.ref a) (.ref b) H Q :=
  ⟨_, _, h1.dp, h2.dp, PySem.W.ke_shaped_ints _, PySem.W.ke_shaped_ints _, by rw [eqv_dat]; exact q⟩
theorem eq_yes {H : Hp} {a b : Addr} {xs : List Int} {Q : VK} (h1 : IL H a xs) (h2 : IL H b xs) (q : Q (.bl true) H) : rEqD K (.ref a) (.ref b) H Q := eq_ints h1 h2 (by rw [decide_eq_true rfl]; exact q)
theorem iteN {c A B : Prop} [Decidable c] (hc : ¬ c) (h : B) : if decide c = true then A else B := by
  rw [decide_eq_false hc]
  exact iteF h
theorem iteY {c A B : Prop} [Decidable c] (hc : c) (h : A) : if decide c = true then A else B := by
  rw [decide_eq_true hc]
  exact iteT h
theorem kit_self : PySem.W.kitOne K (.ref C) (.ref C) = some true := by
  unfold PySem.W.kitOne
  rw [if_pos (by simp)]
def sp_eq (C : Addr) : Sp := fun vs H Q _ => ∃ (a b : Addr) (bs rs : List Int), vs = [.ref a, .ref b] ∧ Hs C H a bs rs ∧ Hs C H b bs rs ∧ Q (.bl true) H
theorem sc_eq : FnScope ["self", "other"] ["self", "other"] (defScope s_eq) := ⟨rfl, rfl, rfl, by decide +kernel, rfl, by decide +kernel, by decide +kernel⟩
theorem ok_eq (T : Tx K mg C) : OkM P w K mg base C 1 "__eq__" ["self", "other"] (sp_eq C) := by
  refine ok_mkM T.h_eq sc_eq (fun vs H Q E h => ?_) (fun _ _ _ _ _ _ us hl => match us, hl with | [_, _], _ => rfl) (fun f cdv A outer s H vs Q E hr h => ?_)
  · obtain ⟨a, b, bs, rs, rfl, _⟩ := h
    rfl
  have hu := hu_of hr
  have hu64 := hr.units
  obtain ⟨a, b, bs, rs, rfl, ⟨dx, s1, r1, h1, h2, h3⟩, ⟨dy, s2, r2, g1, g2, g3⟩, q⟩ := h
  refine ⟨_, (pss_one (ps_ret (pe_and (pe_callB call_isi (by rfl) T.b_isinstance (by decide +kernel) (pa_cons (pv 1) (pa_cons (pe_glob (v := .ref C) rfl T.mgC rfl) pa_nil))) (pe_and (pe_cmpR (op_eqD hu64) (pe_fld (pv 0) rfl) (pe_fld (pv 1) rfl) (nomark _)) (pe_one (pe_cmpR (op_eqD hu64) (pe_fld (pv 0) rfl) (pe_fld (pv 1) rfl) (nomark _))))))), ?_⟩
  refine ⟨_, rfl, _, _, _, _, true, rfl, .own C, .base (.ins g1 T.cl T.kcl T.kget T.ktk T.mro), kit_self, true, rfl, iteT ?_⟩
  refine ⟨_, rfl, a, C, dx, _, _, rfl, h1, T.cl, T.nSt, hf_steps _ _, _, rfl, b, C, dy, _, _, rfl, g1, T.cl, T.nSt, hf_steps _ _, eq_yes h2 g2 ?_⟩
  refine ⟨true, rfl, iteT ?_⟩
  exact ⟨_, rfl, a, C, dx, _, _, rfl, h1, T.cl, T.nSp, hf_space _ _, _, rfl, b, C, dy, _, _, rfl, g1, T.cl, T.nSp, hf_space _ _, eq_yes h3 g3 q⟩
/-! ### checks -/
def sp_check_house (C : Addr) : Sp := fun vs H Q _ => ∃ (a : Addr) (bs rs : List Int), vs = [.ref a] ∧ Hs C H a bs rs ∧ Q .non H
theorem sc_check_house : FnScope ["value"] ["value"] (defScope s_check_house) := ⟨rfl, rfl, rfl, by decide +kernel, rfl, by decide +kernel, by decide +kernel⟩
theorem ok_check_house (T : Tx K mg C) : Ok P w K mg base 1 "check_house" ["value"] (sp_check_house C) := by
  refine ok_mk T.d_check_house sc_check_house (fun vs H Q E h => ?_) (fun _ _ _ _ _ _ us hl => match us, hl with | [_], _ => rfl) (fun f cdv A outer s H vs Q E hr h => ?_)
  · obtain ⟨a, bs, rs, rfl, _⟩ := h
    rfl
  have hu := hu_of hr
  have hu64 := hr.units
  obtain ⟨a, bs, rs, rfl, ⟨dx, s1, r1, h1, h2, h3⟩, q⟩ := h
  refine ⟨_, (pss_one (ps_if (pt_not (pt_val (pe_callB call_isi (by rfl) T.b_isinstance (by decide +kernel) (pa_cons (pv 0) (pa_cons (pe_glob (v := .ref C) rfl T.mgC rfl) pa_nil))))) (pss_one ps_never) pss_nil)), ?_⟩
  exact ⟨_, rfl, _, _, _, _, true, rfl, .own C, .base (.ins h1 T.cl T.kcl T.kget T.ktk T.mro), kit_self, true, rfl, iteF q⟩
def sp_check_place (C : Addr) : Sp := fun vs H Q _ => ∃ (a : Addr) (i : Int) (bs rs : List Int), vs = [.ref a, .int i] ∧ Hs C H a bs rs ∧ 0 ≤ i ∧ i < (rs.length : Int) ∧ Q .non H
theorem sc_check_place : FnScope ["house", "value"] ["house", "value"] (defScope s_check_place) := ⟨rfl, rfl, rfl, by decide +kernel, rfl, by decide +kernel, by decide +kernel⟩
theorem ok_check_place (T : Tx K mg C) : Ok P w K mg base 3 "check_place" ["house", "value"] (sp_check_place C) := by
  obtain ⟨f_is_count, fd_is_count, ds_is_count, G_is_count, m_is_count, k_is_count, b_is_count, v_is_count⟩ := ok_is_count (P := P) (w := w) (base := base) T
  refine ok_mk T.d_check_place sc_check_place (fun vs H Q E h => ?_) (fun _ _ _ _ _ _ us hl => match us, hl with | [_, _], _ => rfl) (fun f cdv A outer s H vs Q E hr h => ?_)
  · obtain ⟨a, i, bs, rs, rfl, _⟩ := h
    rfl
  have hu := hu_of hr
  have hu64 := hr.units
  obtain ⟨a, i, bs, rs, rfl, ⟨dx, s1, r1, h1, h2, h3⟩, i0, i1, q⟩ := h
  refine ⟨_, (pss_one (ps_if (PW.pt (pw_or (pt_not (pt_val (pe_call G_is_count (hr.mono (by decide)) (by rfl) m_is_count k_is_count b_is_count v_is_count pass0 (pa_cons (pv 1) pa_nil)))) (pw_or1 (pt_cmpR op_ge (pv 1) (pe_callB call_len_seq (by rfl) T.b_len PySem.boot_len (pa_cons (pe_fld (pv 0) rfl) pa_nil)) (nomark _))))) (pss_one ps_never) pss_nil)), ?_⟩
  refine ⟨_, rfl, i, rfl, i0, true, rfl, iteF ?_⟩
  refine ⟨_, rfl, _, rfl, a, C, dx, _, _, rfl, h1, T.cl, T.nSp, hf_space _ _, r1, _, rfl, .inl h3.sq, _, _, rfl, rfl, _, rfl, iteN ?_ q⟩
  rw [List.length_map]
  omega
def sp_check_low_place (C : Addr) : Sp := fun vs H Q _ => ∃ (a : Addr) (i : Int) (bs rs : List Int), vs = [.ref a, .int i] ∧ Hs C H a bs rs ∧ 0 ≤ i ∧ i < (bs.length : Int) ∧ Q .non H
theorem sc_check_low_place : FnScope ["house", "value"] ["house", "value"] (defScope s_check_low_place) := ⟨rfl, rfl, rfl, by decide +kernel, rfl, by decide +kernel, by decide +kernel⟩
theorem ok_check_low_place (T : Tx K mg C) : Ok P w K mg base 3 "check_low_place" ["house", "value"] (sp_check_low_place C) := by
  obtain ⟨f_is_count, fd_is_count, ds_is_count, G_is_count, m_is_count, k_is_count, b_is_count, v_is_count⟩ := ok_is_count (P := P) (w := w) (base := base) T
  refine ok_mk T.d_check_low_place sc_check_low_place (fun vs H Q E h => ?_) (fun _ _ _ _ _ _ us hl => match us, hl with | [_, _], _ => rfl) (fun f cdv A outer s H vs Q E hr h => ?_)
  · obtain ⟨a, i, bs, rs, rfl, _⟩ := h
    rfl
  have hu := hu_of hr
  have hu64 := hr.units
  obtain ⟨a, i, bs, rs, rfl, ⟨dx, s1, r1, h1, h2, h3⟩, i0, i1, q⟩ := h
  refine ⟨_, (pss_one (ps_if (PW.pt (pw_or (pt_not (pt_val (pe_call G_is_count (hr.mono (by decide)) (by rfl) m_is_count k_is_count b_is_count v_is_count pass0 (pa_cons (pv 1) pa_nil)))) (pw_or1 (pt_cmpR op_ge (pv 1) (pe_callB call_len_seq (by rfl) T.b_len PySem.boot_len (pa_cons (pe_fld (pv 0) rfl) pa_nil)) (nomark _))))) (pss_one ps_never) pss_nil)), ?_⟩
  refine ⟨_, rfl, i, rfl, i0, true, rfl, iteF ?_⟩
  refine ⟨_, rfl, _, rfl, a, C, dx, _, _, rfl, h1, T.cl, T.nSt, hf_steps _ _, s1, _, rfl, .inl h2.sq, _, _, rfl, rfl, _, rfl, iteN ?_ q⟩
  rw [List.length_map]
  omega
/-! ### weights, sums, rows -/
def wts : Int → List Int → List Int
  | c, [] => [c]
  | c, b :: bs => c :: wts (c * b) bs
theorem wts_len : ∀ (c : Int) (bs : List Int), (wts c bs).length = bs.length + 1
  | _, [] => rfl
  | c, b :: bs => congrArg Nat.succ (wts_len (c * b) bs)
theorem wts_snoc : ∀ (c b : Int) (bs : List Int), wts c (bs ++ [b]) = wts c bs ++ [bs.foldl (· * ·) c * b]
  | c, b, [] => rfl
  | c, b, x :: bs => congrArg (c :: ·) (wts_snoc (c * x) b bs)
theorem wts_last : ∀ (c : Int) (bs : List Int), ∃ ini, wts c bs = ini ++ [bs.foldl (· * ·) c]
  | c, [] => ⟨[], rfl⟩
  | c, b :: bs => by
    obtain ⟨ini, e⟩ := wts_last (c * b) bs
    exact ⟨c :: ini, congrArg (c :: ·) e⟩
theorem take_snoc {α : Type} {xs : List α} {i : Nat} {x : α} (h : xs[i]? = some x) : xs.take (i + 1) = xs.take i ++ [x] := by
  rw [List.take_add_one, h]
  rfl
theorem last_ix {c : Int} {bs : List Int} : atI ((wts c bs).map V.int) (-1) = some (.int (bs.foldl (· * ·) c)) := by
  obtain ⟨ini, e⟩ := wts_last c bs
  rw [e, List.map_append]
  exact atI_last _ _
def sp_weights_of (C : Addr) : Sp := fun vs H Q _ => ∃ (a : Addr) (bs rs : List Int), vs = [.ref a] ∧ Hs C H a bs rs ∧ Good bs rs ∧ ∀ H' p, Same H H' → IL (dif H H') p (wts 1 bs) → Q (.ref p) H'
theorem sc_weights_of : FnScope ["house", "found", "base"] ["house"] (defScope s_weights_of) := ⟨rfl, rfl, rfl, by decide +kernel, rfl, by decide +kernel, by decide +kernel⟩
theorem ok_weights_of (T : Tx K mg C) : Ok P w K mg base 1 "weights_of" ["house"] (sp_weights_of C) := by
  refine ok_mk T.d_weights_of sc_weights_of (fun vs H Q E h => ?_) (fun _ _ _ _ _ _ us hl => match us, hl with | [_], _ => rfl) (fun f cdv A outer s H vs Q E hr h => ?_)
  · obtain ⟨a, bs, rs, rfl, _⟩ := h
    rfl
  have hu := hu_of hr
  have hu64 := hr.units
  obtain ⟨a, bs, rs, rfl, ⟨dx, s1, r1, h1, h2, h3⟩, g, q⟩ := h
  refine ⟨_, (pss_cons (ps_set (i := 1) sc_weights_of.nd rfl (Or.inl rfl) (pe_lst (pa_cons pe_int pa_nil)))
      (pss_cons (ps_for PassesOwn.never rfl (pi_list (pe_fld (pv 0) rfl)) (pg_name (i := 2) sc_weights_of.nd rfl (Or.inl rfl)) (pss_one (ps_expr (pe_bm PySem.F.plainAttrs_list PySem.F.slot_list_append PySem.F.type_list_append mt_append (pv 1) (pa_cons (pe_op op_mul (pe_ix ix_list (pv 1) (pe_un un_neg pe_int) (fun _ _ => rfl)) (pv 2)) pa_nil)))))
      (pss_one (ps_ret (pv 1))))), ?_⟩
  refine ⟨by show 1 ≤ sizeLine; decide, fun p hp => ?_⟩
  have e1 : Same H (upd H p (.lst [.int 1])) := same_upd hp
  refine ⟨_, rfl, a, C, dx, _, _, rfl, e1 _ _ h1, T.cl, T.nSt, hf_steps _ _, s1, rfl, ⟨_, (h2.mono e1).sq⟩, for_list (K := K) (a := s1) (xs := bs.map V.int)
    (fun i σ H' => ∃ y, σ = [some (.ref a), some (.ref p), y] ∧ Same H H' ∧ IL H' p (wts 1 (bs.take i))) ⟨none, rfl, e1, upd_same⟩ (fun i σ H' _ ⟨_, _, e, _⟩ => (h2.mono e).sq) ?_ ?_⟩
  · rintro i x σ H' hi ⟨y, rfl, e, hP⟩
    obtain ⟨b, rfl, hb, mb⟩ := int_at hi
    have b1 := g.b2 b mb
    have b3 := g.bm b mb
    refine ⟨_, rfl, .inl ⟨rfl, _, SqL.of hP⟩, _, rfl, 1, rfl, p, _, -1, _, rfl, rfl, SqL.of hP, last_ix, _, rfl, _, b, rfl, rfl, .inr ⟨by omega, by omega⟩, p, _, _, rfl, rfl, hP, ?_, ?_⟩
    · rw [List.length_map, wts_len, List.length_take]
      exact small1000 (by have := g.few; omega)
    · refine ⟨_, rfl, fun c o hc => ?_, ?_⟩
      · rw [upd_ne (ne_of_none hc hp)]
        exact e _ _ hc
      · show _ = _
        rw [upd_same, take_snoc hb, wts_snoc, List.map_append]
        rfl
  · rintro σ H' ⟨y, rfl, e, hP⟩
    rw [List.length_map, List.take_length] at hP
    exact ⟨_, rfl, q H' p e (dif_at hp hP)⟩
/-- the sums from the first on -/
def held (ps : List Int) : List Int := (List.range ps.length).map fun i => (ps.take (i + 1)).sum
def prods (ms ws : List Int) : List Int := List.zipWith (· * ·) ms ws
theorem prods_len {ms ws : List Int} (h : ms.length = ws.length) : (prods ms ws).length = ms.length := by
  unfold prods
  rw [List.length_zipWith, h, Nat.min_self]
theorem prods_at {ms ws : List Int} {i : Nat} {m u : Int} (h1 : ms[i]? = some m) (h2 : ws[i]? = some u) : (prods ms ws)[i]? = some (m * u) := by
  unfold prods
  rw [List.getElem?_zipWith, h1, h2]
def sp_sums_up_to (C : Addr) : Sp := fun vs H Q _ => ∃ (a r : Addr) (bs rs ms : List Int), vs = [.ref a, .ref r] ∧ Hs C H a bs rs ∧ Good bs rs ∧ IL H r ms ∧ ms.length = bs.length + 1 ∧ (∀ m ∈ ms, 0 ≤ m ∧ m ≤ 1000) ∧
  ∀ H' p, Same H H' → IL (dif H H') p (held (prods ms (wts 1 bs))) → Q (.ref p) H'
theorem sc_sums_up_to : FnScope ["house", "row", "found", "much", "many", "weight"] ["house", "row"] (defScope s_sums_up_to) := ⟨rfl, rfl, rfl, by decide +kernel, rfl, by decide +kernel, by decide +kernel⟩
theorem ok_sums_up_to (T : Tx K mg C) : Ok P w K mg base 2 "sums_up_to" ["house", "row"] (sp_sums_up_to C) := by
  obtain ⟨f_weights_of, fd_weights_of, G_weights_of, m_weights_of, k_weights_of, b_weights_of⟩ := ok_weights_of (P := P) (w := w) (base := base) T
  refine ok_mk T.d_sums_up_to sc_sums_up_to (fun vs H Q E h => ?_) (fun _ _ _ _ _ _ us hl => match us, hl with | [_, _], _ => rfl) (fun f cdv A outer s H vs Q E hr h => ?_)
  · obtain ⟨a, r, bs, rs, ms, rfl, _⟩ := h
    rfl
  have hu := hu_of hr
  have hu64 := hr.units
  obtain ⟨a, r, bs, rs, ms, rfl, hh, g, hR, hl, hm, q⟩ := h
  refine ⟨_, (pss_cons (ps_par (i := 2) (j := 3) (by rfl) sc_sums_up_to.nd rfl rfl (by decide) rfl rfl (pa_cons (pe_lst pa_nil) (pa_cons pe_int pa_nil)) (by rfl))
      (pss_cons (ps_for PassesOwn.never rfl (pi_zip (by rfl) T.b_zip (pa_cons (pv 1) (pa_cons (pe_call G_weights_of (hr.mono (by decide)) (by rfl) m_weights_of k_weights_of b_weights_of .nil pass0 (pa_cons (pv 0) pa_nil)) pa_nil))) (pg_tup rfl (pgs_cons (pg_name (i := 4) sc_sums_up_to.nd rfl (Or.inl rfl)) (pgs_cons (pg_name (i := 5) sc_sums_up_to.nd rfl (Or.inl rfl)) pgs_nil))) (pss_cons (ps_aug (i := 3) sc_sums_up_to.nd rfl (Or.inl rfl) (pe_op op_mul (pv 4) (pv 5)) ip_add)
      (pss_one (ps_expr (pe_bm PySem.F.plainAttrs_list PySem.F.slot_list_append PySem.F.type_list_append mt_append (pv 2) (pa_cons (pv 3) pa_nil))))))
      (pss_one (ps_ret (pv 2))))), ?_⟩
  have lw : (wts 1 bs).length = ms.length := by rw [wts_len, hl]
  refine ⟨Nat.zero_le _, fun p hp => ⟨_, _, rfl, ?_⟩⟩
  have e1 : Same H (upd H p (.lst [])) := same_upd hp
  refine ⟨_, rfl, _, rfl, a, bs, rs, rfl, hh.mono e1, g, fun H2 u e2 hU => ?_⟩
  have hU2 : IL H2 u (wts 1 bs) := hU.mono dif_in
  have hp2 : H2 p = some (.lst []) := e2 _ _ upd_same
  refine ⟨r, u, _, _, rfl, (hR.mono (e1.trans e2)).sq, hU2.sq, for_it (walk_zip (n := ms.length) (by rw [List.length_map, List.length_map, lw, Nat.min_self]))
    (fun i σ H' => ∃ y z, σ = [some (.ref a), some (.ref r), some (.ref p), some (.int ((prods ms (wts 1 bs)).take i).sum), y, z] ∧ Same H H' ∧ IL H' u (wts 1 bs) ∧ IL H' p ((List.range i).map fun j => ((prods ms (wts 1 bs)).take (j + 1)).sum))
    ⟨none, none, rfl, e1.trans e2, hU2, hp2⟩ (fun i σ H' _ ⟨_, _, _, e, k, _⟩ => ⟨(hR.mono e).sq, k.sq⟩) ?_ ?_⟩
  · rintro i x σ H' H'' hi ⟨y, z, rfl, e, hU', hP⟩ ⟨t, x1, x2, rfl, nt, rfl, f1, f2⟩
    obtain ⟨m, rfl, hm1, mm⟩ := int_at f1
    obtain ⟨v, rfl, hv1, _⟩ := int_at f2
    have hb := hm m mm
    have e3 : Same H' (upd H' t (.tup [.int m, .int v])) := same_upd nt
    refine ⟨t, _, rfl, SqT.of upd_same, rfl, _, _, rfl, _, _, rfl, rfl, ?_⟩
    refine ⟨_, rfl, _, rfl, _, rfl, _, _, rfl, rfl, .inl ⟨by omega, by omega⟩, _, _, rfl, rfl, ?_⟩
    have hP3 := hP.mono e3
    refine ⟨_, rfl, .inl ⟨rfl, _, SqL.of hP3⟩, _, rfl, p, _, _, rfl, rfl, hP3, ?_, ?_⟩
    · rw [List.length_map, List.length_map, List.length_range]
      exact small1000 (by have := g.few; omega)
    · have es : ((prods ms (wts 1 bs)).take (i + 1)).sum = ((prods ms (wts 1 bs)).take i).sum + m * v := by
        rw [take_snoc (prods_at hm1 hv1), List.sum_append, List.sum_singleton]
      have npu : u ≠ p := fun z => by
        have z2 := (dif_of hU).1
        rw [z, upd_same] at z2
        cases z2
      refine ⟨_, _, by rw [es]; rfl, fun c o hc => ?_, ?_, ?_⟩
      · rw [upd_ne (ne_of_none hc hp)]
        exact e3 _ _ (e _ _ hc)
      · show _ = _
        rw [upd_ne npu]
        exact hU'.mono e3
      · show _ = _
        rw [upd_same, List.range_succ, List.map_append, List.map_append]
        show some (HO.lst (_ ++ [V.int (((prods ms (wts 1 bs)).take i).sum + m * v)])) = some (HO.lst (_ ++ [V.int ((prods ms (wts 1 bs)).take (i + 1)).sum]))
        rw [es]
  · rintro σ H' ⟨y, z, rfl, e, hU', hP⟩
    refine ⟨_, rfl, q H' p e (dif_at hp ?_)⟩
    unfold held
    rw [prods_len lw.symm]
    exact hP
def rowsN (rs : List Int) : Int := rs.foldl (fun m r => m * (r + 1)) 1
def sp_rows_in (C : Addr) : Sp := fun vs H Q _ => ∃ (a : Addr) (bs rs : List Int), vs = [.ref a] ∧ Hs C H a bs rs ∧ Good bs rs ∧ Q (.int (rowsN rs)) H
theorem sc_rows_in : FnScope ["house", "many", "room"] ["house"] (defScope s_rows_in) := ⟨rfl, rfl, rfl, by decide +kernel, rfl, by decide +kernel, by decide +kernel⟩
theorem ok_rows_in (T : Tx K mg C) : Ok P w K mg base 1 "rows_in" ["house"] (sp_rows_in C) := by
  refine ok_mk T.d_rows_in sc_rows_in (fun vs H Q E h => ?_) (fun _ _ _ _ _ _ us hl => match us, hl with | [_], _ => rfl) (fun f cdv A outer s H vs Q E hr h => ?_)
  · obtain ⟨a, bs, rs, rfl, _⟩ := h
    rfl
  have hu := hu_of hr
  have hu64 := hr.units
  obtain ⟨a, bs, rs, rfl, ⟨dx, s1, r1, h1, h2, h3⟩, g, q⟩ := h
  refine ⟨_, (pss_cons (ps_set (i := 1) sc_rows_in.nd rfl (Or.inl rfl) pe_int)
      (pss_cons (ps_for PassesOwn.never rfl (pi_list (pe_fld (pv 0) rfl)) (pg_name (i := 2) sc_rows_in.nd rfl (Or.inl rfl)) (pss_one (ps_aug (i := 1) sc_rows_in.nd rfl (Or.inl rfl) (pe_op op_add (pv 2) pe_int) iop_mul)))
      (pss_one (ps_ret (pv 1))))), ?_⟩
  refine ⟨_, rfl, a, C, dx, _, _, rfl, h1, T.cl, T.nSp, hf_space _ _, r1, rfl, ⟨_, h3.sq⟩, for_list (K := K) (a := r1) (xs := rs.map V.int)
    (fun i σ H' => ∃ y, σ = [some (.ref a), some (.int (rowsN (rs.take i))), y] ∧ H' = H) ⟨none, rfl, rfl⟩ (fun i σ H' _ ⟨_, _, e⟩ => by rw [e]; exact h3.sq) ?_ ?_⟩
  · rintro i x σ H' hi ⟨y, rfl, rfl⟩
    obtain ⟨b, rfl, hb, mb⟩ := int_at hi
    have b1 := g.r0 b mb
    have b3 := g.rm b mb
    refine ⟨_, rfl, _, rfl, _, _, rfl, rfl, _, _, rfl, rfl, .inr ⟨by omega, by omega⟩, some (.int b), ?_, rfl⟩
    unfold rowsN
    rw [take_snoc hb, List.foldl_append]
    rfl
  · rintro σ H' ⟨y, rfl, rfl⟩
    rw [List.length_map, List.take_length]
    exact ⟨_, rfl, q⟩
def sp_weights (C : Addr) : Sp := sp_weights_of C
theorem sc_weights : FnScope ["house"] ["house"] (defScope s_weights) := ⟨rfl, rfl, rfl, by decide +kernel, rfl, by decide +kernel, by decide +kernel⟩
theorem ok_weights (T : Tx K mg C) : Ok P w K mg base 2 "weights" ["house"] (sp_weights C) := by
  obtain ⟨f_weights_of, fd_weights_of, G_weights_of, m_weights_of, k_weights_of, b_weights_of⟩ := ok_weights_of (P := P) (w := w) (base := base) T
  obtain ⟨f_check_house, fd_check_house, G_check_house, m_check_house, k_check_house, b_check_house⟩ := ok_check_house (P := P) (w := w) (base := base) T
  refine ok_mk T.d_weights sc_weights (fun vs H Q E h => ?_) (fun _ _ _ _ _ _ us hl => match us, hl with | [_], _ => rfl) (fun f cdv A outer s H vs Q E hr h => ?_)
  · obtain ⟨a, bs, rs, rfl, _⟩ := h
    rfl
  have hu := hu_of hr
  have hu64 := hr.units
  obtain ⟨a, bs, rs, rfl, hh, g, q⟩ := h
  refine ⟨_, (pss_cons (ps_expr (pe_call G_check_house (hr.mono (by decide)) (by rfl) m_check_house k_check_house b_check_house .nil pass0 (pa_cons (pv 0) pa_nil)))
      (pss_one (ps_ret (pe_call G_weights_of (hr.mono (by decide)) (by rfl) m_weights_of k_weights_of b_weights_of .nil pass0 (pa_cons (pv 0) pa_nil))))), ?_⟩
  exact ⟨_, rfl, a, bs, rs, rfl, hh, _, rfl, a, bs, rs, rfl, hh, g, q⟩
def sp_held_up_to (C : Addr) : Sp := fun vs H Q _ => ∃ (a : Addr) (bs rs : List Int), vs = [.ref a] ∧ Hs C H a bs rs ∧ Good bs rs ∧ ∀ H' p, Same H H' → IL (dif H H') p (held (prods rs (wts 1 bs))) → Q (.ref p) H'
theorem sc_held_up_to : FnScope ["house"] ["house"] (defScope s_held_up_to) := ⟨rfl, rfl, rfl, by decide +kernel, rfl, by decide +kernel, by decide +kernel⟩
theorem ok_held_up_to (T : Tx K mg C) : Ok P w K mg base 3 "held_up_to" ["house"] (sp_held_up_to C) := by
  obtain ⟨f_sums_up_to, fd_sums_up_to, G_sums_up_to, m_sums_up_to, k_sums_up_to, b_sums_up_to⟩ := ok_sums_up_to (P := P) (w := w) (base := base) T
  obtain ⟨f_check_house, fd_check_house, G_check_house, m_check_house, k_check_house, b_check_house⟩ := ok_check_house (P := P) (w := w) (base := base) T
  refine ok_mk T.d_held_up_to sc_held_up_to (fun vs H Q E h => ?_) (fun _ _ _ _ _ _ us hl => match us, hl with | [_], _ => rfl) (fun f cdv A outer s H vs Q E hr h => ?_)
  · obtain ⟨a, bs, rs, rfl, _⟩ := h
    rfl
  have hu := hu_of hr
  have hu64 := hr.units
  obtain ⟨a, bs, rs, rfl, hh, g, q⟩ := h
  refine ⟨_, (pss_cons (ps_expr (pe_call G_check_house (hr.mono (by decide)) (by rfl) m_check_house k_check_house b_check_house .nil pass0 (pa_cons (pv 0) pa_nil)))
      (pss_one (ps_ret (pe_call G_sums_up_to (hr.mono (by decide)) (by rfl) m_sums_up_to k_sums_up_to b_sums_up_to .nil pass0 (pa_cons (pv 0) (pa_cons (pe_fld (pv 0) rfl) pa_nil)))))), ?_⟩
  obtain ⟨dx, s1, r1, h1, h2, h3⟩ := id hh
  refine ⟨_, rfl, a, bs, rs, rfl, hh, _, rfl, _, rfl, a, C, dx, _, _, rfl, h1, T.cl, T.nSp, hf_space _ _, a, r1, bs, rs, rs, rfl, hh, g, h3, g.len, fun m mm => ⟨g.r0 m mm, g.rm m mm⟩, q⟩
def sp_many_rows (C : Addr) : Sp := sp_rows_in C
theorem sc_many_rows : FnScope ["house"] ["house"] (defScope s_many_rows) := ⟨rfl, rfl, rfl, by decide +kernel, rfl, by decide +kernel, by decide +kernel⟩
theorem ok_many_rows (T : Tx K mg C) : Ok P w K mg base 2 "many_rows" ["house"] (sp_many_rows C) := by
  obtain ⟨f_rows_in, fd_rows_in, G_rows_in, m_rows_in, k_rows_in, b_rows_in⟩ := ok_rows_in (P := P) (w := w) (base := base) T
  obtain ⟨f_check_house, fd_check_house, G_check_house, m_check_house, k_check_house, b_check_house⟩ := ok_check_house (P := P) (w := w) (base := base) T
  refine ok_mk T.d_many_rows sc_many_rows (fun vs H Q E h => ?_) (fun _ _ _ _ _ _ us hl => match us, hl with | [_], _ => rfl) (fun f cdv A outer s H vs Q E hr h => ?_)
  · obtain ⟨a, bs, rs, rfl, _⟩ := h
    rfl
  have hu := hu_of hr
  have hu64 := hr.units
  obtain ⟨a, bs, rs, rfl, hh, g, q⟩ := h
  refine ⟨_, (pss_cons (ps_expr (pe_call G_check_house (hr.mono (by decide)) (by rfl) m_check_house k_check_house b_check_house .nil pass0 (pa_cons (pv 0) pa_nil)))
      (pss_one (ps_ret (pe_call G_rows_in (hr.mono (by decide)) (by rfl) m_rows_in k_rows_in b_rows_in .nil pass0 (pa_cons (pv 0) pa_nil))))), ?_⟩
  exact ⟨_, rfl, a, bs, rs, rfl, hh, _, rfl, a, bs, rs, rfl, hh, g, q⟩
end
end K4

set_option maxHeartbeats 4000000
namespace K4
open PySem PySem.Spec PyProof.Rows L2
section
variable {P : Program} {w : World} {K : PySem.W.Frag} {mg : Str → Option Value} {base : Heap} {C : Addr}
/-! ### rules within a comprehension: the written part named -/
theorem ix_listK {X : Cx} {K : PySem.W.Frag} (h : X.K = K) : IxR X (rIxL K) := h ▸ ix_list
theorem cr_minPK {X : Cx} {K : PySem.W.Frag} (h : X.K = K) (hc : X.calm = true) : CallR X (.builtin "min") (rMinP K) := h ▸ cr_minP hc
theorem cr_maxPK {X : Cx} {K : PySem.W.Frag} (h : X.K = K) (hc : X.calm = true) : CallR X (.builtin "max") (rMaxP K) := h ▸ cr_maxP hc
theorem pg_tupK {X : Cx} {K : PySem.W.Frag} {es : List Expr} {k : Nat} {t : TGs} {n : Nat} {pos : Pos} (h : X.K = K) (hc : X.calm = true) (hp : PGs X es t) (hn : (assignEach es X.env).length = n := by rfl) (hst : (assignEach es X.env).findIdx? (·.1) = none := by rfl) :
    PG X (.Tuple es k pos) (gTup K n t) := h ▸ pg_tup hc hp hn hst
/-! ### two lists, item by item -/
def byTwo (f : Int → Int → Int) (xs ys : List Int) : List Int := (List.range xs.length).map fun i => f (xs.getD i 0) (ys.getD i 0)
def allTwo (f : Int → Int → Bool) (xs ys : List Int) : Bool := ((List.range xs.length).map fun i => f (xs.getD i 0) (ys.getD i 0)).all id
def lo2 (i j : Int) : Int := if j < i then j else i
def hi2 (i j : Int) : Int := if i < j then j else i
def le2 (i j : Int) : Bool := decide (i ≤ j)
theorem getD_of {xs : List Int} {i : Nat} {x : Int} (h : xs[i]? = some x) : xs.getD i 0 = x := by
  rw [List.getD_eq_getElem?_getD, h]
  rfl
theorem mem_getD {xs : List Int} {i : Nat} (h : i < xs.length) : xs.getD i 0 ∈ xs := by
  rw [List.getD_eq_getElem?_getD, List.getElem?_eq_getElem h]
  exact List.getElem_mem h
theorem byTwo_len (f : Int → Int → Int) (xs ys : List Int) : (byTwo f xs ys).length = xs.length := by
  unfold byTwo
  rw [List.length_map, List.length_range]
theorem byTwo_mem {f : Int → Int → Int} {xs ys : List Int} {z : Int} (hl : xs.length = ys.length) (h : z ∈ byTwo f xs ys) : ∃ x ∈ xs, ∃ y ∈ ys, z = f x y := by
  unfold byTwo at h
  obtain ⟨i, hi, e⟩ := List.mem_map.mp h
  have hi2 : i < xs.length := List.mem_range.mp hi
  exact ⟨_, mem_getD hi2, _, mem_getD (by omega), e.symm⟩
/-- [a <= b for a, b in zip(x, y)] -/
theorem lc_le {a b : Addr} {xs ys : List Int} {i j : Nat} {vs : List Nat} {σ : L2.St} {H1 : Hp} {D : Addr} {Qd : Hp → Prop} (hD : H1 D = none) (hx : IL H1 a xs) (hy : IL H1 b ys) (hl : xs.length = ys.length) (hn : xs.length ≤ 1000)
    (hw : ∀ u v, wipe (((wipe σ vs).set i (some u)).set j (some v)) vs = wipe σ vs) (hi : ∀ u v : V, (((wipe σ vs).set i (some u)).set j (some v))[i]? = some (some u)) (hj : ∀ u v : V, (((wipe σ vs).set i (some u)).set j (some v))[j]? = some (some v))
    (hd : ∀ H, Same H1 H → (∃ bs : List Bool, H D = some (.lst (bs.map V.bl)) ∧ bs.all id = allTwo le2 xs ys) → Qd H) :
    ∃ W : Nat → Nat → Hp → Prop, (∃ m, W 0 m (upd H1 D (.lst []))) ∧ ∀ t m H, W t m H →
      ((Itz K a b).stop t H ∧ Qd H) ∨ ((Itz K a b).go t H ∧ ∃ Nx : Hp → Prop, (∀ H', Nx H' → ∃ m', m' < m ∧ W (t + 1) m' H') ∧ ∀ x H', (Itz K a b).yld t H x H' → gTup K 2 (gCons (gName i) (gCons (gName j) gNil)) x (wipe σ vs) H' fun σ2 H2 => wipe σ2 vs = wipe σ vs ∧ tYes σ2 H2 fun b H3 =>
        if b = true then tOp (rI0 fun i j => .bl (decide (i ≤ j))) (tVar i) (tVar j) σ2 H3 fun y H4 => ∃ acc, H4 D = some (.lst acc) ∧ acc.length < sizeLine ∧ Nx (upd H4 D (.lst (acc ++ [y]))) else Nx H3) := by
  refine lc_vals (walk_zip (n := xs.length) (by rw [List.length_map, List.length_map, ← hl, Nat.min_self])) (fun t => .bl (le2 (xs.getD t 0) (ys.getD t 0))) hD hn (fun H s => ⟨(hx.mono s).sq, (hy.mono s).sq⟩) ?_ (fun H s e => hd H s ⟨_, ?_, rfl⟩)
  · rintro t x H H' Q ht s ⟨T, x1, x2, rfl, nT, rfl, f1, f2⟩ k
    obtain ⟨u, rfl, e1, _⟩ := int_at f1
    obtain ⟨v, rfl, e2, _⟩ := int_at f2
    refine ⟨T, _, rfl, SqT.of upd_same, rfl, _, _, rfl, _, _, rfl, rfl, hw _ _, _, hi _ _, _, hj _ _, _, _, rfl, rfl, ?_⟩
    have q := k _ (same_upd (o := .tup [.int u, .int v]) nT)
    rw [getD_of e1, getD_of e2] at q
    exact q
  · rw [List.map_map]
    exact e
/-- [min(pair) for pair in zip(x, y)], [max(pair) ..] -/
theorem lc_pair {a b : Addr} {xs ys : List Int} {i : Nat} {vs : List Nat} {σ : L2.St} {H1 : Hp} {D : Addr} {Qd : Hp → Prop} {r : List V → Hp → VK → Prop} (f : Int → Int → Int) (hr : ∀ (p : Addr) (u v : Int) (H : Hp) (Q : VK), SqT K H p [.int u, .int v] → Q (.int (f u v)) H → r [.ref p] H Q)
    (hD : H1 D = none) (hx : IL H1 a xs) (hy : IL H1 b ys) (hl : xs.length = ys.length) (hn : xs.length ≤ 1000)
    (hw : ∀ u, wipe ((wipe σ vs).set i (some u)) vs = wipe σ vs) (hi : ∀ u : V, ((wipe σ vs).set i (some u))[i]? = some (some u))
    (hd : ∀ H, Same H1 H → IL H D (byTwo f xs ys) → Qd H) :
    ∃ W : Nat → Nat → Hp → Prop, (∃ m, W 0 m (upd H1 D (.lst []))) ∧ ∀ t m H, W t m H →
      ((Itz K a b).stop t H ∧ Qd H) ∨ ((Itz K a b).go t H ∧ ∃ Nx : Hp → Prop, (∀ H', Nx H' → ∃ m', m' < m ∧ W (t + 1) m' H') ∧ ∀ x H', (Itz K a b).yld t H x H' → gName i x (wipe σ vs) H' fun σ2 H2 => wipe σ2 vs = wipe σ vs ∧ tYes σ2 H2 fun b H3 =>
        if b = true then tCB r (tCons (tVar i) tNil) σ2 H3 fun y H4 => ∃ acc, H4 D = some (.lst acc) ∧ acc.length < sizeLine ∧ Nx (upd H4 D (.lst (acc ++ [y]))) else Nx H3) := by
  refine lc_vals (walk_zip (n := xs.length) (by rw [List.length_map, List.length_map, ← hl, Nat.min_self])) (fun t => .int (f (xs.getD t 0) (ys.getD t 0))) hD hn (fun H s => ⟨(hx.mono s).sq, (hy.mono s).sq⟩) ?_ (fun H s e => hd H s ?_)
  · rintro t x H H' Q ht s ⟨T, x1, x2, rfl, nT, rfl, f1, f2⟩ k
    obtain ⟨u, rfl, e1, _⟩ := int_at f1
    obtain ⟨v, rfl, e2, _⟩ := int_at f2
    refine ⟨hw _, _, hi _, hr T u v _ _ (SqT.of upd_same) ?_⟩
    have q := k _ (same_upd (o := .tup [.int u, .int v]) nT)
    rw [getD_of e1, getD_of e2] at q
    exact q
  · show _ = _
    unfold byTwo
    rw [List.map_map]
    exact e
/-! ### within, lesser, greater -/
def within (bs rs bs' rs' : List Int) : Bool := decide (bs = bs') && allTwo le2 rs rs'
def sp_is_within (C : Addr) : Sp := fun vs H Q _ => ∃ (a b : Addr) (bs rs bs' rs' : List Int), vs = [.ref a, .ref b] ∧ Hs C H a bs rs ∧ Hs C H b bs' rs' ∧ Good bs rs ∧ Good bs' rs' ∧ ∀ H', Same H H' → Q (.bl (within bs rs bs' rs')) H'
theorem sc_is_within : FnScope ["one", "other", "less", "more"] ["one", "other"] (defScope s_is_within) := ⟨rfl, rfl, rfl, by decide +kernel, rfl, by decide +kernel, by decide +kernel⟩
theorem ok_is_within (T : Tx K mg C) : OkK P w K mg base 2 "is_within" ["one", "other"] ["other", "one"] List.reverse (sp_is_within C) := by
  obtain ⟨f_check_house, fd_check_house, G_check_house, m_check_house, k_check_house, b_check_house⟩ := ok_check_house (P := P) (w := w) (base := base) T
  refine ok_mkK (g := List.reverse) T.d_is_within sc_is_within (fun vs H Q E h => ?_) (fun _ _ _ _ _ _ us hl => match us, hl with | [_, _], _ => rfl) (fun _ _ _ _ _ _ ws hl => match ws, hl with | [_, _], _ => rfl) (fun z => z.reverse) (fun f cdv A outer s H vs Q E hr h => ?_)
  · obtain ⟨a, b, bs, rs, bs', rs', rfl, _⟩ := h
    rfl
  have hu := hu_of hr
  have hu64 := hr.units
  obtain ⟨a, b, bs, rs, bs', rs', rfl, ha, hb, g, g', q⟩ := h
  refine ⟨_, (pss_cons (ps_expr (pe_call G_check_house (hr.mono (by decide)) (by rfl) m_check_house k_check_house b_check_house .nil pass0 (pa_cons (pv 0) pa_nil)))
      (pss_cons (ps_expr (pe_call G_check_house (hr.mono (by decide)) (by rfl) m_check_house k_check_house b_check_house .nil pass0 (pa_cons (pv 1) pa_nil)))
      (pss_one (ps_ret (pe_and (pe_cmpR (op_eqD hu64) (pe_fld (pv 0) rfl) (pe_fld (pv 1) rfl) (nomark _)) (pe_one (pe_callB (cr_all rfl) (by rfl) T.b_all (by decide +kernel) (pa_cons (pe_lc (own := [("less", 2), ("more", 3)]) rfl sc_is_within.nd (pi_zip (by rfl) T.b_zip (pa_cons (pe_fld (pv 0) rfl) (pa_cons (pe_fld (pv 1) rfl) pa_nil))) (blkOk_by (own := [("less", 2), ("more", 3)]) (N := ["one", "other", "less", "more"]) (sc := defScope s_is_within) (by decide +kernel)) (fun _ _ _ _ _ => (pg_tupK (K := K) (n := 2) rfl rfl (pgs_cons (pg_name (i := 2) sc_is_within.nd rfl (Or.inl rfl) (hf := Or.inr rfl)) (pgs_cons (pg_name (i := 3) sc_is_within.nd rfl (Or.inl rfl) (hf := Or.inr rfl)) pgs_nil)))) (fun _ _ _ _ _ => pts_nil) (fun _ _ _ _ _ => (pe_cmpR op_le (pv 2) (pv 3) (nomark _)))) pa_nil)))))))), ?_⟩
  obtain ⟨dx, s1, r1, h1, h2, h3⟩ := id ha
  obtain ⟨dy, s2, r2, k1, k2, k3⟩ := id hb
  refine ⟨_, rfl, a, bs, rs, rfl, ha, _, rfl, b, bs', rs', rfl, hb, ?_⟩
  refine ⟨_, rfl, a, C, dx, _, _, rfl, h1, T.cl, T.nSt, hf_steps _ _, _, rfl, b, C, dy, _, _, rfl, k1, T.cl, T.nSt, hf_steps _ _, eq_ints h2 k2 ?_⟩
  unfold within at q
  refine ⟨_, rfl, ?_⟩
  by_cases e : bs = bs'
  · rw [decide_eq_true e]
    rw [decide_eq_true e, Bool.true_and] at q
    have hl : rs.length = rs'.length := by rw [g.len, g'.len, e]
    refine iteT ⟨_, rfl, a, C, dx, _, _, rfl, h1, T.cl, T.nSp, hf_space _ _, _, rfl, b, C, dy, _, _, rfl, k1, T.cl, T.nSp, hf_space _ _, r1, r2, _, _, rfl, h3.sq, k3.sq, fun D hD => ?_⟩
    refine lc_le hD h3 k3 hl (by have := g.few; have := g.len; omega) (fun _ _ => rfl) (fun _ _ => rfl) (fun _ _ => rfl) fun H' s1 ⟨bs, e1, e2⟩ => ⟨D, bs, rfl, SqL.of e1, ?_⟩
    rw [e2]
    exact q H' s1
  · rw [decide_eq_false e]
    rw [decide_eq_false e, Bool.false_and] at q
    exact iteF (q H (Same.refl _))
def sp_check_alike (C : Addr) : Sp := fun vs H Q _ => ∃ (a b : Addr) (bs rs rs' : List Int), vs = [.ref a, .ref b] ∧ Hs C H a bs rs ∧ Hs C H b bs rs' ∧ Q .non H
theorem sc_check_alike : FnScope ["one", "other"] ["one", "other"] (defScope s_check_alike) := ⟨rfl, rfl, rfl, by decide +kernel, rfl, by decide +kernel, by decide +kernel⟩
theorem ok_check_alike (T : Tx K mg C) : Ok P w K mg base 2 "check_alike" ["one", "other"] (sp_check_alike C) := by
  obtain ⟨f_check_house, fd_check_house, G_check_house, m_check_house, k_check_house, b_check_house⟩ := ok_check_house (P := P) (w := w) (base := base) T
  refine ok_mk T.d_check_alike sc_check_alike (fun vs H Q E h => ?_) (fun _ _ _ _ _ _ us hl => match us, hl with | [_, _], _ => rfl) (fun f cdv A outer s H vs Q E hr h => ?_)
  · obtain ⟨a, b, bs, rs, rs', rfl, _⟩ := h
    rfl
  have hu := hu_of hr
  have hu64 := hr.units
  obtain ⟨a, b, bs, rs, rs', rfl, ha, hb, q⟩ := h
  refine ⟨_, (pss_cons (ps_expr (pe_call G_check_house (hr.mono (by decide)) (by rfl) m_check_house k_check_house b_check_house .nil pass0 (pa_cons (pv 0) pa_nil)))
      (pss_cons (ps_expr (pe_call G_check_house (hr.mono (by decide)) (by rfl) m_check_house k_check_house b_check_house .nil pass0 (pa_cons (pv 1) pa_nil)))
      (pss_one (ps_if (pt_cmpR (op_neD hu64) (pe_fld (pv 0) rfl) (pe_fld (pv 1) rfl) (nomark _)) (pss_one ps_never) pss_nil)))), ?_⟩
  obtain ⟨dx, s1, r1, h1, h2, h3⟩ := id ha
  obtain ⟨dy, s2, r2, k1, k2, k3⟩ := id hb
  refine ⟨_, rfl, a, bs, rs, rfl, ha, _, rfl, b, bs, rs', rfl, hb, ?_⟩
  refine ⟨_, rfl, a, C, dx, _, _, rfl, h1, T.cl, T.nSt, hf_steps _ _, _, rfl, b, C, dy, _, _, rfl, k1, T.cl, T.nSt, hf_steps _ _, ne_ints h2 k2 ?_⟩
  exact ⟨_, rfl, iteNS rfl q⟩
theorem good_two {f : Int → Int → Int} (hf : ∀ x y, f x y = x ∨ f x y = y) {bs rs rs' : List Int} (g : Good bs rs) (g' : Good bs rs') : Good bs (byTwo f rs rs') := by
  have hl : rs.length = rs'.length := by rw [g.len, g'.len]
  refine ⟨g.b2, g.bm, fun z hz => ?_, fun z hz => ?_, by rw [byTwo_len]; exact g.len, g.few⟩
  · obtain ⟨x, hx, y, hy, rfl⟩ := byTwo_mem hl hz
    rcases hf x y with e | e <;> rw [e]
    · exact g.r0 x hx
    · exact g'.r0 y hy
  · obtain ⟨x, hx, y, hy, rfl⟩ := byTwo_mem hl hz
    rcases hf x y with e | e <;> rw [e]
    · exact g.rm x hx
    · exact g'.rm y hy
theorem lo2_or (x y : Int) : lo2 x y = x ∨ lo2 x y = y := by
  unfold lo2
  split
  · exact .inr rfl
  · exact .inl rfl
theorem hi2_or (x y : Int) : hi2 x y = x ∨ hi2 x y = y := by
  unfold hi2
  split
  · exact .inr rfl
  · exact .inl rfl
def sp_two (C : Addr) (f : Int → Int → Int) : Sp := fun vs H Q _ => ∃ (a b : Addr) (bs rs rs' : List Int), vs = [.ref a, .ref b] ∧ Hs C H a bs rs ∧ Hs C H b bs rs' ∧ Good bs rs ∧ Good bs rs' ∧ ∀ H' x, Same H H' → Hs C (dif H H') x bs (byTwo f rs rs') → Q (.ref x) H'
theorem sc_lesser_house : FnScope ["one", "other", "pair"] ["one", "other"] (defScope s_lesser_house) := ⟨rfl, rfl, rfl, by decide +kernel, rfl, by decide +kernel, by decide +kernel⟩
theorem ok_lesser_house (T : Tx K mg C) : OkK P w K mg base 6 "lesser_house" ["one", "other"] ["other", "one"] List.reverse (sp_two C lo2) := by
  obtain ⟨f_init, fd_init, G_init, M_init, b_init⟩ := ok_init (P := P) (w := w) (base := base) T
  obtain ⟨f_check_alike, fd_check_alike, G_check_alike, m_check_alike, k_check_alike, b_check_alike⟩ := ok_check_alike (P := P) (w := w) (base := base) T
  refine ok_mkK (g := List.reverse) T.d_lesser_house sc_lesser_house (fun vs H Q E h => ?_) (fun _ _ _ _ _ _ us hl => match us, hl with | [_, _], _ => rfl) (fun _ _ _ _ _ _ ws hl => match ws, hl with | [_, _], _ => rfl) (fun z => z.reverse) (fun f cdv A outer s H vs Q E hr h => ?_)
  · obtain ⟨a, b, bs, rs, rs', rfl, _⟩ := h
    rfl
  have hu := hu_of hr
  have hu64 := hr.units
  obtain ⟨a, b, bs, rs, rs', rfl, ha, hb, g, g', q⟩ := h
  refine ⟨_, (pss_cons (ps_expr (pe_call G_check_alike (hr.mono (by decide)) (by rfl) m_check_alike k_check_alike b_check_alike .nil pass0 (pa_cons (pv 0) (pa_cons (pv 1) pa_nil))))
      (pss_one (ps_ret (pe_make M_init G_init (hr.mono (by decide)) (by rfl) T.mgC b_init .nil pass0 (pa_cons (pe_fld (pv 0) rfl) (pa_cons (pe_lc (own := [("pair", 2)]) rfl sc_lesser_house.nd (pi_zipN (by rfl) T.b_zip (pa_cons (pe_fld (pv 0) rfl) (pa_cons (pe_fld (pv 1) rfl) pa_nil))) (blkOk_by (own := [("pair", 2)]) (N := ["one", "other", "pair"]) (sc := defScope s_lesser_house) (by decide +kernel)) (fun _ _ _ _ _ => (pg_name (i := 2) sc_lesser_house.nd rfl (Or.inl rfl) (hf := Or.inr rfl))) (fun _ _ _ _ _ => pts_nil) (fun _ _ _ _ _ => (pe_callB (cr_minPK (K := K) rfl rfl) (by rfl) T.b_min (by decide +kernel) (pa_cons (pv 2) pa_nil)))) pa_nil)))))), ?_⟩
  obtain ⟨dx, s1, r1, h1, h2, h3⟩ := id ha
  obtain ⟨dy, s2, r2, k1, k2, k3⟩ := id hb
  have hl : rs.length = rs'.length := by rw [g.len, g'.len]
  refine ⟨_, rfl, _, rfl, a, b, bs, rs, rs', rfl, ha, hb, ?_⟩
  refine ⟨_, rfl, a, C, dx, _, _, rfl, h1, T.cl, T.nSt, hf_steps _ _, ?_⟩
  refine ⟨_, rfl, a, C, dx, _, _, rfl, h1, T.cl, T.nSp, hf_space _ _, _, rfl, b, C, dy, _, _, rfl, k1, T.cl, T.nSp, hf_space _ _, r1, r2, _, _, rfl, h3.sq, k3.sq, fun D hD => ?_⟩
  exact lc_pair lo2 (fun p u v H Q hp q => ⟨p, u, v, rfl, hp, q⟩) hD h3 k3 hl (by have := g.few; have := g.len; omega) (fun _ => rfl) (fun _ => rfl) fun H1 e1 hM => make_ok (h2.mono e1) hM (good_two lo2_or g g') fun H' x e2 hx => q H' x (e1.trans e2) (hx.mono (dif_sub e1 (Same.refl _)))
theorem sc_greater_house : FnScope ["one", "other", "pair"] ["one", "other"] (defScope s_greater_house) := ⟨rfl, rfl, rfl, by decide +kernel, rfl, by decide +kernel, by decide +kernel⟩
theorem ok_greater_house (T : Tx K mg C) : OkK P w K mg base 6 "greater_house" ["one", "other"] ["other", "one"] List.reverse (sp_two C hi2) := by
  obtain ⟨f_init, fd_init, G_init, M_init, b_init⟩ := ok_init (P := P) (w := w) (base := base) T
  obtain ⟨f_check_alike, fd_check_alike, G_check_alike, m_check_alike, k_check_alike, b_check_alike⟩ := ok_check_alike (P := P) (w := w) (base := base) T
  refine ok_mkK (g := List.reverse) T.d_greater_house sc_greater_house (fun vs H Q E h => ?_) (fun _ _ _ _ _ _ us hl => match us, hl with | [_, _], _ => rfl) (fun _ _ _ _ _ _ ws hl => match ws, hl with | [_, _], _ => rfl) (fun z => z.reverse) (fun f cdv A outer s H vs Q E hr h => ?_)
  · obtain ⟨a, b, bs, rs, rs', rfl, _⟩ := h
    rfl
  have hu := hu_of hr
  have hu64 := hr.units
  obtain ⟨a, b, bs, rs, rs', rfl, ha, hb, g, g', q⟩ := h
  refine ⟨_, (pss_cons (ps_expr (pe_call G_check_alike (hr.mono (by decide)) (by rfl) m_check_alike k_check_alike b_check_alike .nil pass0 (pa_cons (pv 0) (pa_cons (pv 1) pa_nil))))
      (pss_one (ps_ret (pe_make M_init G_init (hr.mono (by decide)) (by rfl) T.mgC b_init .nil pass0 (pa_cons (pe_fld (pv 0) rfl) (pa_cons (pe_lc (own := [("pair", 2)]) rfl sc_greater_house.nd (pi_zipN (by rfl) T.b_zip (pa_cons (pe_fld (pv 0) rfl) (pa_cons (pe_fld (pv 1) rfl) pa_nil))) (blkOk_by (own := [("pair", 2)]) (N := ["one", "other", "pair"]) (sc := defScope s_greater_house) (by decide +kernel)) (fun _ _ _ _ _ => (pg_name (i := 2) sc_greater_house.nd rfl (Or.inl rfl) (hf := Or.inr rfl))) (fun _ _ _ _ _ => pts_nil) (fun _ _ _ _ _ => (pe_callB (cr_maxPK (K := K) rfl rfl) (by rfl) T.b_max (by decide +kernel) (pa_cons (pv 2) pa_nil)))) pa_nil)))))), ?_⟩
  obtain ⟨dx, s1, r1, h1, h2, h3⟩ := id ha
  obtain ⟨dy, s2, r2, k1, k2, k3⟩ := id hb
  have hl : rs.length = rs'.length := by rw [g.len, g'.len]
  refine ⟨_, rfl, _, rfl, a, b, bs, rs, rs', rfl, ha, hb, ?_⟩
  refine ⟨_, rfl, a, C, dx, _, _, rfl, h1, T.cl, T.nSt, hf_steps _ _, ?_⟩
  refine ⟨_, rfl, a, C, dx, _, _, rfl, h1, T.cl, T.nSp, hf_space _ _, _, rfl, b, C, dy, _, _, rfl, k1, T.cl, T.nSp, hf_space _ _, r1, r2, _, _, rfl, h3.sq, k3.sq, fun D hD => ?_⟩
  exact lc_pair hi2 (fun p u v H Q hp q => ⟨p, u, v, rfl, hp, q⟩) hD h3 k3 hl (by have := g.few; have := g.len; omega) (fun _ => rfl) (fun _ => rfl) fun H1 e1 hM => make_ok (h2.mono e1) hM (good_two hi2_or g g') fun H' x e2 hx => q H' x (e1.trans e2) (hx.mono (dif_sub e1 (Same.refl _)))
/-! ### slices -/
theorem cut_to (xs : List V) (j : Nat) : cutV xs none (some (j : Int)) = xs.take j := by
  unfold cutV
  rw [HT.sIx_none, HT.sIx_nat, List.drop_zero, Nat.sub_zero]
  by_cases h : j ≤ xs.length
  · rw [Nat.min_eq_left h]
  · rw [Nat.min_eq_right (by omega), List.take_of_length_le (Nat.le_refl _), List.take_of_length_le (by omega)]
theorem cut_from (xs : List V) (j : Nat) : cutV xs (some (j : Int)) none = xs.drop j := by
  unfold cutV
  rw [HT.sIx_none, HT.sIx_nat]
  by_cases h : j ≤ xs.length
  · rw [Nat.min_eq_left h]
    exact List.take_of_length_le (by rw [List.length_drop]; omega)
  · rw [Nat.min_eq_right (by omega), List.drop_of_length_le (Nat.le_refl _), List.drop_of_length_le (by omega)]
    exact List.take_nil
theorem cut_mid (xs : List V) (i j : Nat) (hi : i ≤ xs.length) (hj : j ≤ xs.length) : cutV xs (some (i : Int)) (some (j : Int)) = (xs.drop i).take (j - i) := by
  unfold cutV
  rw [HT.sIx_nat, HT.sIx_nat, Nat.min_eq_left hi, Nat.min_eq_left hj]
/-- another room -/
def setAt (rs : List Int) (j : Nat) (r : Int) : List Int := (rs.take j ++ [r]) ++ rs.drop (j + 1)
theorem good_setAt {bs rs : List Int} {j : Nat} {r : Int} (g : Good bs rs) (hj : j < rs.length) (h0 : 0 ≤ r) (h1 : r ≤ 1000) : Good bs (setAt rs j r) := by
  have hm : ∀ z ∈ setAt rs j r, z = r ∨ z ∈ rs := fun z hz => by
    unfold setAt at hz
    rcases List.mem_append.mp hz with hz | hz
    · rcases List.mem_append.mp hz with hz | hz
      · exact .inr (List.mem_of_mem_take hz)
      · exact .inl (List.mem_singleton.mp hz)
    · exact .inr (List.mem_of_mem_drop hz)
  refine ⟨g.b2, g.bm, fun z hz => ?_, fun z hz => ?_, ?_, g.few⟩
  · rcases hm z hz with e | e
    · rw [e]; exact h0
    · exact g.r0 z e
  · rcases hm z hz with e | e
    · rw [e]; exact h1
    · exact g.rm z e
  · unfold setAt
    rw [List.length_append, List.length_append, List.length_take, List.length_drop, List.length_singleton]
    have := g.len
    omega
def sp_roomed (C : Addr) : Sp := fun vs H Q _ => ∃ (a : Addr) (j : Nat) (r : Int) (bs rs : List Int), vs = [.ref a, .int (j : Int), .int r] ∧ Hs C H a bs rs ∧ Good bs rs ∧ j < rs.length ∧ 0 ≤ r ∧ r ≤ 1000 ∧ ∀ H' x, Same H H' → Hs C (dif H H') x bs (setAt rs j r) → Q (.ref x) H'
theorem sc_roomed : FnScope ["house", "place", "room"] ["house", "place", "room"] (defScope s_roomed) := ⟨rfl, rfl, rfl, by decide +kernel, rfl, by decide +kernel, by decide +kernel⟩
theorem ok_roomed (T : Tx K mg C) : Ok P w K mg base 6 "roomed" ["house", "place", "room"] (sp_roomed C) := by
  obtain ⟨f_init, fd_init, G_init, M_init, b_init⟩ := ok_init (P := P) (w := w) (base := base) T
  refine ok_mk T.d_roomed sc_roomed (fun vs H Q E h => ?_) (fun _ _ _ _ _ _ us hl => match us, hl with | [_, _, _], _ => rfl) (fun f cdv A outer s H vs Q E hr h => ?_)
  · obtain ⟨a, j, r, bs, rs, rfl, _⟩ := h
    rfl
  have hu := hu_of hr
  have hu64 := hr.units
  obtain ⟨a, j, r, bs, rs, rfl, ⟨dx, s1, r1, h1, h2, h3⟩, g, hj, hr0, hr1, q⟩ := h
  refine ⟨_, (pss_one (ps_ret (pe_make M_init G_init (hr.mono (by decide)) (by rfl) T.mgC b_init .nil pass0 (pa_cons (pe_fld (pv 0) rfl) (pa_cons (pe_lst (StX.pa_star (pe_slice sl_list (pe_fld (pv 0) rfl) po_none (po_some (pv 1))) (pa_cons (pv 2) (StX.pa_star (pe_slice sl_list (pe_fld (pv 0) rfl) (po_some (pe_op op_add (pv 1) pe_int)) po_none) pa_nil)))) pa_nil))))), ?_⟩
  refine ⟨_, rfl, a, C, dx, _, _, rfl, h1, T.cl, T.nSt, hf_steps _ _, ?_⟩
  refine ⟨_, rfl, a, C, dx, _, _, rfl, h1, T.cl, T.nSp, hf_space _ _, _, rfl, j, rfl, r1, _, rfl, h3.sq, fun p hp => ⟨p, _, rfl, .inr (SqL.of upd_same), _, rfl, ?_⟩⟩
  have e1 : Same H (upd H p (.lst (cutV (rs.map V.int) none (some (j : Int))))) := same_upd hp
  refine ⟨_, rfl, a, C, dx, _, _, rfl, e1 _ _ h1, T.cl, T.nSp, hf_space _ _, _, rfl, _, _, rfl, rfl, _, rfl, r1, _, rfl, (h3.mono e1).sq, fun u hu' => ⟨u, _, rfl, .inr (SqL.of upd_same), ?_⟩⟩
  have e2 := e1.trans (same_upd (o := .lst (cutV (rs.map V.int) (some ((j : Int) + 1)) none)) hu')
  have ee : cutV (rs.map V.int) none (some (j : Int)) ++ V.int r :: (cutV (rs.map V.int) (some ((j : Int) + 1)) none ++ []) = (setAt rs j r).map V.int := by
    have e3 : ((j : Int) + 1) = ((j + 1 : Nat) : Int) := by omega
    rw [e3, cut_to, cut_from, List.append_nil]
    unfold setAt
    rw [List.map_append, List.map_append, List.map_take, List.map_drop, List.append_assoc]
    rfl
  refine ⟨?_, fun t ht => ?_⟩
  · show (cutV (rs.map V.int) none (some (j : Int)) ++ V.int r :: (cutV (rs.map V.int) (some ((j : Int) + 1)) none ++ [])).length ≤ sizeLine
    rw [ee, List.length_map]
    have := (good_setAt g hj hr0 hr1).len
    have := g.few
    exact Nat.le_of_lt (small1000 (by omega))
  have e3 := e2.trans (same_upd (o := .lst (cutV (rs.map V.int) none (some (j : Int)) ++ V.int r :: (cutV (rs.map V.int) (some ((j : Int) + 1)) none ++ []))) ht)
  exact make_ok (h2.mono e3) (show _ = _ by rw [← ee]; exact upd_same) (good_setAt g hj hr0 hr1) fun H' x e4 hx => q H' x (e3.trans e4) (hx.mono (dif_sub e3 (Same.refl _)))
def sp_with_room (C : Addr) : Sp := sp_roomed C
theorem sc_with_room : FnScope ["house", "place", "room"] ["house", "place", "room"] (defScope s_with_room) := ⟨rfl, rfl, rfl, by decide +kernel, rfl, by decide +kernel, by decide +kernel⟩
theorem ok_with_room (T : Tx K mg C) : OkK P w K mg base 7 "with_room" ["house", "place", "room"] ["room", "place", "house"] List.reverse (sp_with_room C) := by
  obtain ⟨f_roomed, fd_roomed, G_roomed, m_roomed, k_roomed, b_roomed⟩ := ok_roomed (P := P) (w := w) (base := base) T
  obtain ⟨f_is_count, fd_is_count, ds_is_count, G_is_count, m_is_count, k_is_count, b_is_count, v_is_count⟩ := ok_is_count (P := P) (w := w) (base := base) T
  obtain ⟨f_check_place, fd_check_place, G_check_place, m_check_place, k_check_place, b_check_place⟩ := ok_check_place (P := P) (w := w) (base := base) T
  obtain ⟨f_check_house, fd_check_house, G_check_house, m_check_house, k_check_house, b_check_house⟩ := ok_check_house (P := P) (w := w) (base := base) T
  refine ok_mkK (g := List.reverse) T.d_with_room sc_with_room (fun vs H Q E h => ?_) (fun _ _ _ _ _ _ us hl => match us, hl with | [_, _, _], _ => rfl) (fun _ _ _ _ _ _ ws hl => match ws, hl with | [_, _, _], _ => rfl) (fun z => z.reverse) (fun f cdv A outer s H vs Q E hr h => ?_)
  · obtain ⟨a, j, r, bs, rs, rfl, _⟩ := h
    rfl
  have hu := hu_of hr
  have hu64 := hr.units
  obtain ⟨a, j, r, bs, rs, rfl, hh, g, hj, hr0, hr1, q⟩ := h
  refine ⟨_, (pss_cons (ps_expr (pe_call G_check_house (hr.mono (by decide)) (by rfl) m_check_house k_check_house b_check_house .nil pass0 (pa_cons (pv 0) pa_nil)))
      (pss_cons (ps_expr (pe_call G_check_place (hr.mono (by decide)) (by rfl) m_check_place k_check_place b_check_place .nil pass0 (pa_cons (pv 0) (pa_cons (pv 1) pa_nil))))
      (pss_cons (ps_if (pt_not (pt_val (pe_call G_is_count (hr.mono (by decide)) (by rfl) m_is_count k_is_count b_is_count v_is_count pass0 (pa_cons (pv 2) pa_nil)))) (pss_one ps_never) pss_nil)
      (pss_one (ps_ret (pe_call G_roomed (hr.mono (by decide)) (by rfl) m_roomed k_roomed b_roomed .nil pass0 (pa_cons (pv 0) (pa_cons (pv 1) (pa_cons (pv 2) pa_nil))))))))), ?_⟩
  refine ⟨_, rfl, a, bs, rs, rfl, hh, _, rfl, _, rfl, a, j, bs, rs, rfl, hh, by omega, by omega, ?_⟩
  refine ⟨_, rfl, r, rfl, hr0, true, rfl, iteF ?_⟩
  exact ⟨_, rfl, _, rfl, _, rfl, a, j, r, bs, rs, rfl, hh, g, hj, hr0, hr1, q⟩
def sp_tightened (C : Addr) : Sp := fun vs H Q _ => ∃ (a : Addr) (j : Nat) (bs rs : List Int), vs = [.ref a, .int (j : Int)] ∧ Hs C H a bs rs ∧ Good bs rs ∧ j < bs.length ∧
  ∀ H' x, Same H H' → Hs C (dif H H') x bs (setAt rs j (if bs.getD j 0 - 1 < rs.getD j 0 then bs.getD j 0 - 1 else rs.getD j 0)) → Q (.ref x) H'
theorem map_at {xs : List Int} {j : Nat} (h : j < xs.length) : atI (xs.map V.int) (j : Int) = some (.int (xs.getD j 0)) := atI_nat (by rw [List.getElem?_map, List.getElem?_eq_getElem h, List.getD_eq_getElem?_getD, List.getElem?_eq_getElem h]; rfl)
theorem sc_tightened : FnScope ["house", "place"] ["house", "place"] (defScope s_tightened) := ⟨rfl, rfl, rfl, by decide +kernel, rfl, by decide +kernel, by decide +kernel⟩
theorem ok_tightened (T : Tx K mg C) : OkK P w K mg base 7 "tightened" ["house", "place"] ["place", "house"] List.reverse (sp_tightened C) := by
  obtain ⟨f_roomed, fd_roomed, G_roomed, m_roomed, k_roomed, b_roomed⟩ := ok_roomed (P := P) (w := w) (base := base) T
  obtain ⟨f_check_low_place, fd_check_low_place, G_check_low_place, m_check_low_place, k_check_low_place, b_check_low_place⟩ := ok_check_low_place (P := P) (w := w) (base := base) T
  obtain ⟨f_check_house, fd_check_house, G_check_house, m_check_house, k_check_house, b_check_house⟩ := ok_check_house (P := P) (w := w) (base := base) T
  refine ok_mkK (g := List.reverse) T.d_tightened sc_tightened (fun vs H Q E h => ?_) (fun _ _ _ _ _ _ us hl => match us, hl with | [_, _], _ => rfl) (fun _ _ _ _ _ _ ws hl => match ws, hl with | [_, _], _ => rfl) (fun z => z.reverse) (fun f cdv A outer s H vs Q E hr h => ?_)
  · obtain ⟨a, j, bs, rs, rfl, _⟩ := h
    rfl
  have hu := hu_of hr
  have hu64 := hr.units
  obtain ⟨a, j, bs, rs, rfl, hh, g, hj, q⟩ := h
  refine ⟨_, (pss_cons (ps_expr (pe_call G_check_house (hr.mono (by decide)) (by rfl) m_check_house k_check_house b_check_house .nil pass0 (pa_cons (pv 0) pa_nil)))
      (pss_cons (ps_expr (pe_call G_check_low_place (hr.mono (by decide)) (by rfl) m_check_low_place k_check_low_place b_check_low_place .nil pass0 (pa_cons (pv 0) (pa_cons (pv 1) pa_nil))))
      (pss_one (ps_ret (pe_call G_roomed (hr.mono (by decide)) (by rfl) m_roomed k_roomed b_roomed .nil pass0 (pa_cons (pv 0) (pa_cons (pv 1) (pa_cons (pe_callB (call_min2 rfl) (by rfl) T.b_min (by decide +kernel) (pa_cons (pe_ix ix_list (pe_fld (pv 0) rfl) (pv 1) (fun _ _ => rfl)) (pa_cons (pe_op op_sub (pe_ix ix_list (pe_fld (pv 0) rfl) (pv 1) (fun _ _ => rfl)) pe_int) pa_nil))) pa_nil)))))))), ?_⟩
  obtain ⟨dx, s1, r1, h1, h2, h3⟩ := id hh
  have hj2 : j < rs.length := by rw [g.len]; omega
  refine ⟨_, rfl, a, bs, rs, rfl, hh, _, rfl, _, rfl, a, j, bs, rs, rfl, hh, by omega, by omega, ?_⟩
  refine ⟨_, rfl, _, rfl, ?_⟩
  refine ⟨_, rfl, a, C, dx, _, _, rfl, h1, T.cl, T.nSp, hf_space _ _, _, rfl, r1, _, _, _, rfl, rfl, h3.sq, map_at hj2, ?_⟩
  refine ⟨_, rfl, a, C, dx, _, _, rfl, h1, T.cl, T.nSt, hf_steps _ _, _, rfl, s1, _, _, _, rfl, rfl, h2.sq, map_at hj, _, _, rfl, rfl, _, _, rfl, ?_⟩
  have b2 := g.b2 _ (mem_getD hj)
  have bm := g.bm _ (mem_getD hj)
  have r0 := g.r0 _ (mem_getD hj2)
  have rm := g.rm _ (mem_getD hj2)
  refine ⟨a, j, _, bs, rs, rfl, hh, g, hj2, ?_, ?_, q⟩
  · split <;> omega
  · split <;> omega
/-- a stretch of places -/
theorem good_stretch {bs rs : List Int} {i j : Nat} (g : Good bs rs) (hij : i ≤ j) (hj : j < rs.length) : Good ((bs.drop i).take (j - i)) ((rs.drop i).take (j + 1 - i)) := by
  have hl := g.len
  have hf := g.few
  refine ⟨fun b hb => g.b2 b (List.mem_of_mem_drop (List.mem_of_mem_take hb)), fun b hb => g.bm b (List.mem_of_mem_drop (List.mem_of_mem_take hb)), fun b hb => g.r0 b (List.mem_of_mem_drop (List.mem_of_mem_take hb)), fun b hb => g.rm b (List.mem_of_mem_drop (List.mem_of_mem_take hb)), ?_, ?_⟩
  · rw [List.length_take, List.length_take, List.length_drop, List.length_drop]
    omega
  · rw [List.length_take, List.length_drop]
    omega
def sp_stretch (C : Addr) : Sp := fun vs H Q _ => ∃ (a : Addr) (i j : Nat) (bs rs : List Int), vs = [.ref a, .int (i : Int), .int (j : Int)] ∧ Hs C H a bs rs ∧ Good bs rs ∧ i ≤ j ∧ j < rs.length ∧
  ∀ H' x, Same H H' → Hs C (dif H H') x ((bs.drop i).take (j - i)) ((rs.drop i).take (j + 1 - i)) → Q (.ref x) H'
theorem sc_stretch : FnScope ["house", "first", "last"] ["house", "first", "last"] (defScope s_stretch) := ⟨rfl, rfl, rfl, by decide +kernel, rfl, by decide +kernel, by decide +kernel⟩
theorem ok_stretch (T : Tx K mg C) : OkK P w K mg base 6 "stretch" ["house", "first", "last"] ["last", "first", "house"] List.reverse (sp_stretch C) := by
  obtain ⟨f_init, fd_init, G_init, M_init, b_init⟩ := ok_init (P := P) (w := w) (base := base) T
  obtain ⟨f_check_place, fd_check_place, G_check_place, m_check_place, k_check_place, b_check_place⟩ := ok_check_place (P := P) (w := w) (base := base) T
  obtain ⟨f_check_house, fd_check_house, G_check_house, m_check_house, k_check_house, b_check_house⟩ := ok_check_house (P := P) (w := w) (base := base) T
  refine ok_mkK (g := List.reverse) T.d_stretch sc_stretch (fun vs H Q E h => ?_) (fun _ _ _ _ _ _ us hl => match us, hl with | [_, _, _], _ => rfl) (fun _ _ _ _ _ _ ws hl => match ws, hl with | [_, _, _], _ => rfl) (fun z => z.reverse) (fun f cdv A outer s H vs Q E hr h => ?_)
  · obtain ⟨a, i, j, bs, rs, rfl, _⟩ := h
    rfl
  have hu := hu_of hr
  have hu64 := hr.units
  obtain ⟨a, i, j, bs, rs, rfl, hh, g, hij, hj, q⟩ := h
  refine ⟨_, (pss_cons (ps_expr (pe_call G_check_house (hr.mono (by decide)) (by rfl) m_check_house k_check_house b_check_house .nil pass0 (pa_cons (pv 0) pa_nil)))
      (pss_cons (ps_expr (pe_call G_check_place (hr.mono (by decide)) (by rfl) m_check_place k_check_place b_check_place .nil pass0 (pa_cons (pv 0) (pa_cons (pv 1) pa_nil))))
      (pss_cons (ps_expr (pe_call G_check_place (hr.mono (by decide)) (by rfl) m_check_place k_check_place b_check_place .nil pass0 (pa_cons (pv 0) (pa_cons (pv 2) pa_nil))))
      (pss_cons (ps_if (pt_cmpR op_lt (pv 2) (pv 1) (nomark _)) (pss_one ps_never) pss_nil)
      (pss_one (ps_ret (pe_make M_init G_init (hr.mono (by decide)) (by rfl) T.mgC b_init .nil pass0 (pa_cons (pe_slice sl_list (pe_fld (pv 0) rfl) (po_some (pv 1)) (po_some (pv 2))) (pa_cons (pe_slice sl_list (pe_fld (pv 0) rfl) (po_some (pv 1)) (po_some (pe_op op_add (pv 2) pe_int))) pa_nil))))))))), ?_⟩
  obtain ⟨dx, s1, r1, h1, h2, h3⟩ := id hh
  have hl := g.len
  refine ⟨_, rfl, a, bs, rs, rfl, hh, _, rfl, _, rfl, a, i, bs, rs, rfl, hh, by omega, by omega, _, rfl, _, rfl, a, j, bs, rs, rfl, hh, by omega, by omega, ?_⟩
  refine ⟨_, rfl, _, rfl, _, _, rfl, rfl, _, rfl, iteN (by omega) ?_⟩
  refine ⟨_, rfl, a, C, dx, _, _, rfl, h1, T.cl, T.nSt, hf_steps _ _, _, rfl, _, rfl, _, rfl, _, rfl, s1, _, rfl, h2.sq, fun p hp => ?_⟩
  have e1 : Same H (upd H p (.lst (cutV (bs.map V.int) (some (i : Int)) (some (j : Int))))) := same_upd hp
  refine ⟨_, rfl, a, C, dx, _, _, rfl, e1 _ _ h1, T.cl, T.nSp, hf_space _ _, _, rfl, _, rfl, _, rfl, _, _, rfl, rfl, _, rfl, r1, _, rfl, (h3.mono e1).sq, fun u hu' => ?_⟩
  have e2 := same_upd (o := .lst (cutV (rs.map V.int) (some (i : Int)) (some ((j : Int) + 1)))) hu'
  have hA : IL (upd H p (.lst (cutV (bs.map V.int) (some (i : Int)) (some (j : Int))))) p ((bs.drop i).take (j - i)) := by
    show _ = _
    rw [upd_same, cut_mid _ _ _ (by rw [List.length_map]; omega) (by rw [List.length_map]; omega), List.map_take, List.map_drop]
  have ej : ((j : Int) + 1) = ((j + 1 : Nat) : Int) := by omega
  have hB : IL (upd (upd H p (.lst (cutV (bs.map V.int) (some (i : Int)) (some (j : Int))))) u (.lst (cutV (rs.map V.int) (some (i : Int)) (some ((j : Int) + 1))))) u ((rs.drop i).take (j + 1 - i)) := by
    show _ = _
    rw [upd_same, ej, cut_mid _ _ _ (by rw [List.length_map]; omega) (by rw [List.length_map]; omega), List.map_take, List.map_drop]
  exact make_ok (hA.mono e2) hB (good_stretch g hij hj) fun H' x e4 hx => q H' x ((e1.trans e2).trans e4) (hx.mono (dif_sub (e1.trans e2) (Same.refl _)))
theorem good_behind {bs rs bs' rs' : List Int} {b : Int} (g : Good bs rs) (g' : Good bs' rs') (h2 : 2 ≤ b) (hm : b ≤ 1000) (hf : bs.length + bs'.length ≤ 90) : Good ((bs ++ [b]) ++ bs') (rs ++ rs') := by
  have hb : ∀ z ∈ (bs ++ [b]) ++ bs', z ∈ bs ∨ z = b ∨ z ∈ bs' := fun z hz => by
    rcases List.mem_append.mp hz with hz | hz
    · rcases List.mem_append.mp hz with hz | hz
      · exact .inl hz
      · exact .inr (.inl (List.mem_singleton.mp hz))
    · exact .inr (.inr hz)
  refine ⟨fun z hz => ?_, fun z hz => ?_, fun z hz => ?_, fun z hz => ?_, ?_, ?_⟩
  · rcases hb z hz with e | e | e
    · exact g.b2 z e
    · rw [e]; exact h2
    · exact g'.b2 z e
  · rcases hb z hz with e | e | e
    · exact g.bm z e
    · rw [e]; exact hm
    · exact g'.bm z e
  · rcases List.mem_append.mp hz with e | e
    · exact g.r0 z e
    · exact g'.r0 z e
  · rcases List.mem_append.mp hz with e | e
    · exact g.rm z e
    · exact g'.rm z e
  · rw [List.length_append, List.length_append, List.length_append, List.length_singleton, g.len, g'.len]
    omega
  · rw [List.length_append, List.length_append, List.length_singleton]
    omega
def sp_set_behind (C : Addr) : Sp := fun vs H Q _ => ∃ (a c : Addr) (b : Int) (bs rs bs' rs' : List Int), vs = [.ref a, .int b, .ref c] ∧ Hs C H a bs rs ∧ Hs C H c bs' rs' ∧ Good bs rs ∧ Good bs' rs' ∧ 2 ≤ b ∧ b ≤ 1000 ∧ bs.length + bs'.length ≤ 90 ∧
  ∀ H' x, Same H H' → Hs C (dif H H') x ((bs ++ [b]) ++ bs') (rs ++ rs') → Q (.ref x) H'
theorem sc_set_behind : FnScope ["one", "base", "other"] ["one", "base", "other"] (defScope s_set_behind) := ⟨rfl, rfl, rfl, by decide +kernel, rfl, by decide +kernel, by decide +kernel⟩
theorem ok_set_behind (T : Tx K mg C) : OkK P w K mg base 6 "set_behind" ["one", "base", "other"] ["other", "base", "one"] List.reverse (sp_set_behind C) := by
  obtain ⟨f_init, fd_init, G_init, M_init, b_init⟩ := ok_init (P := P) (w := w) (base := base) T
  obtain ⟨f_check_house, fd_check_house, G_check_house, m_check_house, k_check_house, b_check_house⟩ := ok_check_house (P := P) (w := w) (base := base) T
  obtain ⟨f_is_base, fd_is_base, G_is_base, m_is_base, k_is_base, b_is_base⟩ := ok_is_base (P := P) (w := w) (base := base) T
  refine ok_mkK (g := List.reverse) T.d_set_behind sc_set_behind (fun vs H Q E h => ?_) (fun _ _ _ _ _ _ us hl => match us, hl with | [_, _, _], _ => rfl) (fun _ _ _ _ _ _ ws hl => match ws, hl with | [_, _, _], _ => rfl) (fun z => z.reverse) (fun f cdv A outer s H vs Q E hr h => ?_)
  · obtain ⟨a, c, b, bs, rs, bs', rs', rfl, _⟩ := h
    rfl
  have hu := hu_of hr
  have hu64 := hr.units
  obtain ⟨a, c, b, bs, rs, bs', rs', rfl, ha, hc, g, g', h2, hm, hf, q⟩ := h
  refine ⟨_, (pss_cons (ps_expr (pe_call G_check_house (hr.mono (by decide)) (by rfl) m_check_house k_check_house b_check_house .nil pass0 (pa_cons (pv 0) pa_nil)))
      (pss_cons (ps_if (pt_not (pt_val (pe_call G_is_base (hr.mono (by decide)) (by rfl) m_is_base k_is_base b_is_base .nil pass0 (pa_cons (pv 1) pa_nil)))) (pss_one ps_never) pss_nil)
      (pss_cons (ps_expr (pe_call G_check_house (hr.mono (by decide)) (by rfl) m_check_house k_check_house b_check_house .nil pass0 (pa_cons (pv 2) pa_nil)))
      (pss_one (ps_ret (pe_make M_init G_init (hr.mono (by decide)) (by rfl) T.mgC b_init .nil pass0 (pa_cons (pe_lst (StX.pa_star (pe_fld (pv 0) rfl) (pa_cons (pv 1) (StX.pa_star (pe_fld (pv 2) rfl) pa_nil)))) (pa_cons (pe_lst (StX.pa_star (pe_fld (pv 0) rfl) (StX.pa_star (pe_fld (pv 2) rfl) pa_nil))) pa_nil)))))))), ?_⟩
  obtain ⟨dx, s1, r1, x1, x2, x3⟩ := id ha
  obtain ⟨dy, s2, r2, y1, y2, y3⟩ := id hc
  refine ⟨_, rfl, a, bs, rs, rfl, ha, _, rfl, b, rfl, h2, true, rfl, iteF ?_⟩
  refine ⟨_, rfl, c, bs', rs', rfl, hc, ?_⟩
  have gg := good_behind g g' h2 hm hf
  have e1 : bs.map V.int ++ V.int b :: (bs'.map V.int ++ []) = ((bs ++ [b]) ++ bs').map V.int := by
    rw [List.append_nil, List.map_append, List.map_append, List.append_assoc]
    rfl
  have e2 : rs.map V.int ++ (rs'.map V.int ++ []) = (rs ++ rs').map V.int := by rw [List.append_nil, List.map_append]
  refine ⟨_, rfl, a, C, dx, _, _, rfl, x1, T.cl, T.nSt, hf_steps _ _, s1, _, rfl, .inr x2.sq, _, rfl, _, rfl, c, C, dy, _, _, rfl, y1, T.cl, T.nSt, hf_steps _ _, s2, _, rfl, .inr y2.sq, ?_, fun p hp => ?_⟩
  · show (bs.map V.int ++ V.int b :: (bs'.map V.int ++ [])).length ≤ sizeLine
    rw [e1, List.length_map]
    have := gg.few
    exact Nat.le_of_lt (small1000 (by omega))
  have k1 := same_upd (o := .lst (bs.map V.int ++ V.int b :: (bs'.map V.int ++ []))) hp
  refine ⟨_, rfl, a, C, dx, _, _, rfl, k1 _ _ x1, T.cl, T.nSp, hf_space _ _, r1, _, rfl, .inr (x3.mono k1).sq, _, rfl, c, C, dy, _, _, rfl, k1 _ _ y1, T.cl, T.nSp, hf_space _ _, r2, _, rfl, .inr (y3.mono k1).sq, ?_, fun u hu' => ?_⟩
  · show (rs.map V.int ++ (rs'.map V.int ++ [])).length ≤ sizeLine
    rw [e2, List.length_map]
    have := gg.few
    have := gg.len
    exact Nat.le_of_lt (small1000 (by omega))
  have k2 := same_upd (o := .lst (rs.map V.int ++ (rs'.map V.int ++ []))) hu'
  exact make_ok (k2 _ _ (by rw [upd_same, e1])) (show _ = _ by rw [← e2]; exact upd_same) gg fun H' x e4 hx => q H' x ((k1.trans k2).trans e4) (hx.mono (dif_sub (k1.trans k2) (Same.refl _)))
end
end K4

set_option maxHeartbeats 4000000
namespace K4
open PySem PySem.Spec PyProof.Rows L2
section
variable {P : Program} {w : World} {K : PySem.W.Frag} {mg : Str → Option Value} {base : Heap} {C : Addr}
/-! ### exact comparison -/
def sp_exact (n : Nat) : Sp := fun vs H Q _ => ∃ x y : V, vs = [x, y] ∧ Ak n H x y ∧ ∀ H', Same H H' → Q (.bl true) H'
/-- what its own calls may lean on -/
def sp_pre : Nat → Sp
  | 0 => fun _ _ _ _ => False
  | n + 1 => sp_exact n
theorem kit_seq {a : String} {r1 r2 : Bool} (h1 : kitB a "list" = some r1) (h2 : kitB a "tuple" = some r2) : PySem.W.kitAny K (.type a) [.type "list", .type "tuple"] = some (r1 || r2) := by
  cases r1 with
  | true => exact kitAny_cons (kit_ty h1) (fun z => by cases z) (fun _ => rfl)
  | false =>
    refine kitAny_cons (kit_ty h1) (fun _ => ?_) (fun z => by cases z)
    cases r2 with
    | true => exact kitAny_cons (kit_ty h2) (fun z => by cases z) (fun _ => rfl)
    | false => exact kitAny_cons (kit_ty h2) (fun _ => kitAny_nil) (fun z => by cases z)
theorem cls2 : Paired ClsV [.ty "list", .ty "tuple"] [.type "list", .type "tuple"] := .cons (.ty _) (.cons (.ty _) .nil)
theorem sc_l_exact : FnScope ["_law_mine", "_law_theirs", "_law_alike", "_law_a", "_law_b", "_law_key"] ["_law_mine", "_law_theirs"] (defScope s_l_exact) := ⟨rfl, rfl, rfl, by decide +kernel, rfl, by decide +kernel, by decide +kernel⟩
theorem exact_step (T : Tx K mg C) {f_l_exact : Addr} {fd_l_exact : FuncData} (F : FunD K "_law_exact" "_law_exact" (defArgs s_l_exact) (defBody s_l_exact) (defScope s_l_exact) [] [] f_l_exact fd_l_exact) (m_l_exact : mg "_law_exact" = some (.ref f_l_exact)) (b_l_exact : Binds K fd_l_exact ["_law_mine", "_law_theirs"] [])
    (n : Nat) (G_l_exact : FnOk P w K mg base CX0 n f_l_exact fd_l_exact ["_law_mine", "_law_theirs"] (sp_pre n)) : FnOk P w K mg base CX0 (n + 1) f_l_exact fd_l_exact ["_law_mine", "_law_theirs"] (sp_exact n) := by
  have k_l_exact := F.kp
  refine fd_ok F sc_l_exact (fun vs H Q E h => ?_) (fun cdv A outer s H vs Q E hr h => ?_)
  · obtain ⟨x, y, rfl, _⟩ := h
    rfl
  have hu := hu_of hr
  obtain ⟨x, y, rfl, a, q⟩ := h
  refine ⟨_, (pss_cons (ps_if (pt_val (pe_callB call_isiT (by rfl) T.b_isinstance (by decide +kernel) (pa_cons (pv 0) (pa_cons (pe_tup (pa_cons (pe_bltn (v := .ty "list") (by rfl) T.b_list (by decide +kernel) rfl) (pa_cons (pe_bltn (v := .ty "tuple") (by rfl) T.b_tuple (by decide +kernel) rfl) pa_nil))) pa_nil)))) (pss_cons (ps_set (i := 2) sc_l_exact.nd rfl (Or.inl rfl) (pe_and (pe_cmpR op_eq (pe_callB call_isi (by rfl) T.b_isinstance (by decide +kernel) (pa_cons (pv 1) (pa_cons (pe_bltn (v := .ty "list") (by rfl) T.b_list (by decide +kernel) rfl) pa_nil))) (pe_callB call_isi (by rfl) T.b_isinstance (by decide +kernel) (pa_cons (pv 0) (pa_cons (pe_bltn (v := .ty "list") (by rfl) T.b_list (by decide +kernel) rfl) pa_nil))) (nomark _)) (pe_one (pe_cmpR op_eq (pe_callB call_isi (by rfl) T.b_isinstance (by decide +kernel) (pa_cons (pv 1) (pa_cons (pe_bltn (v := .ty "tuple") (by rfl) T.b_tuple (by decide +kernel) rfl) pa_nil))) (pe_callB call_isi (by rfl) T.b_isinstance (by decide +kernel) (pa_cons (pv 0) (pa_cons (pe_bltn (v := .ty "tuple") (by rfl) T.b_tuple (by decide +kernel) rfl) pa_nil))) (nomark _)))))
      (pss_one (ps_ret (pe_and (pv 2) (pe_and (pe_cmpR op_eq (pe_callB call_len_seq (by rfl) T.b_len PySem.boot_len (pa_cons (pv 0) pa_nil)) (pe_callB call_len_seq (by rfl) T.b_len PySem.boot_len (pa_cons (pv 1) pa_nil)) (nomark _)) (pe_one (pe_callB (cr_all rfl) (by rfl) T.b_all (by decide +kernel) (pa_cons (pe_lc (own := [("_law_a", 3), ("_law_b", 4)]) rfl sc_l_exact.nd (pi_zip (by rfl) T.b_zip (pa_cons (pv 0) (pa_cons (pv 1) pa_nil))) (blkOk_by (own := [("_law_a", 3), ("_law_b", 4)]) (N := ["_law_mine", "_law_theirs", "_law_alike", "_law_a", "_law_b", "_law_key"]) (sc := defScope s_l_exact) (by decide +kernel)) (fun _ _ _ _ _ => (pg_tupK (K := K) (n := 2) rfl rfl (pgs_cons (pg_name (i := 3) sc_l_exact.nd rfl (Or.inl rfl) (hf := Or.inr rfl)) (pgs_cons (pg_name (i := 4) sc_l_exact.nd rfl (Or.inl rfl) (hf := Or.inr rfl)) pgs_nil)))) (fun _ _ _ _ _ => pts_nil) (fun _ _ _ _ _ => (pe_call G_l_exact hr (by rfl) m_l_exact k_l_exact b_l_exact .nil pass0 (pa_cons (pv 3) (pa_cons (pv 4) pa_nil))))) pa_nil)))))))) pss_nil)
      (pss_cons (ps_if (pt_val (pe_callB call_isi (by rfl) T.b_isinstance (by decide +kernel) (pa_cons (pv 0) (pa_cons (pe_bltn (v := .ty "dict") (by rfl) T.b_dict (by decide +kernel) rfl) pa_nil)))) pss_never pss_nil)
      (pss_cons (ps_set (i := 2) sc_l_exact.nd rfl (Or.inl rfl) (pe_cmpR op_eq (pe_callB call_isi (by rfl) T.b_isinstance (by decide +kernel) (pa_cons (pv 0) (pa_cons (pe_bltn (v := .ty "int") (by rfl) T.b_int (by decide +kernel) rfl) pa_nil))) (pe_callB call_isi (by rfl) T.b_isinstance (by decide +kernel) (pa_cons (pv 1) (pa_cons (pe_bltn (v := .ty "int") (by rfl) T.b_int (by decide +kernel) rfl) pa_nil))) (nomark _)))
      (pss_one (ps_ret (pe_and (pv 2) (pe_and (pe_cmpR op_eq (pe_callB call_isi (by rfl) T.b_isinstance (by decide +kernel) (pa_cons (pv 0) (pa_cons (pe_bltn (v := .ty "bool") (by rfl) T.b_bool (by decide +kernel) rfl) pa_nil))) (pe_callB call_isi (by rfl) T.b_isinstance (by decide +kernel) (pa_cons (pv 1) (pa_cons (pe_bltn (v := .ty "bool") (by rfl) T.b_bool (by decide +kernel) rfl) pa_nil))) (nomark _)) (pe_one (pe_cmpR op_eq (pv 0) (pv 1) (nomark _)))))))))), ?_⟩
  have flat : ((∃ i, x = .int i ∧ y = .int i) ∨ ∃ b, x = .bl b ∧ y = .bl b) ∨ ∃ m, n = m + 1 ∧ ∃ a b xs ys, x = .ref a ∧ y = .ref b ∧ H a = some (.lst xs) ∧ H b = some (.lst ys) ∧ xs.length = ys.length ∧ xs.length ≤ 1000 ∧ ∀ (i : Nat) u v, xs[i]? = some u → ys[i]? = some v → Ak m H u v := by
    cases n with
    | zero => exact .inl a
    | succ m =>
      rcases a with a | a
      · exact .inl a
      · exact .inr ⟨m, rfl, a⟩
  clear a
  rcases flat with (⟨i, rfl, rfl⟩ | ⟨b, rfl, rfl⟩) | ⟨m, rfl, a, b, xs, ys, rfl, rfl, ha, hb, hl, hm, hi⟩
  · refine ⟨_, rfl, (by show 2 ≤ sizeLine; decide), fun t ht => ?_⟩
    refine ⟨_, t, _, _, _, false, rfl, upd_same, cls2, .base (.int _), kit_seq (a := "int") (r1 := false) (r2 := false) (by decide +kernel) (by decide +kernel), false, rfl, iteF ?_⟩
    refine ⟨_, rfl, _, _, _, _, false, rfl, .ty "dict", .base (.int _), kit_ty (by decide +kernel), false, rfl, iteF ?_⟩
    refine ⟨_, rfl, _, _, _, _, true, rfl, .ty "int", .base (.int _), kit_ty (by decide +kernel), _, rfl, _, _, _, _, true, rfl, .ty "int", .base (.int _), kit_ty (by decide +kernel), rfl, ?_⟩
    refine ⟨_, rfl, _, rfl, iteY rfl ?_⟩
    refine ⟨_, rfl, _, _, _, _, false, rfl, .ty "bool", .base (.int _), kit_ty (by decide +kernel), _, rfl, _, _, _, _, false, rfl, .ty "bool", .base (.int _), kit_ty (by decide +kernel), rfl, ?_⟩
    refine ⟨_, rfl, iteY rfl ⟨_, rfl, _, rfl, rfl, ?_⟩⟩
    have e : decide (V.int i = V.int i) = true := decide_eq_true rfl
    show Q (.bl (decide (V.int i = V.int i))) _
    rw [e]
    exact q _ (same_upd ht)
  · refine ⟨_, rfl, (by show 2 ≤ sizeLine; decide), fun t ht => ?_⟩
    refine ⟨_, t, _, _, _, false, rfl, upd_same, cls2, .base (.bl _), kit_seq (a := "bool") (r1 := false) (r2 := false) (by decide +kernel) (by decide +kernel), false, rfl, iteF ?_⟩
    refine ⟨_, rfl, _, _, _, _, false, rfl, .ty "dict", .base (.bl _), kit_ty (by decide +kernel), false, rfl, iteF ?_⟩
    refine ⟨_, rfl, _, _, _, _, true, rfl, .ty "int", .base (.bl _), kit_ty (by decide +kernel), _, rfl, _, _, _, _, true, rfl, .ty "int", .base (.bl _), kit_ty (by decide +kernel), rfl, ?_⟩
    refine ⟨_, rfl, _, rfl, iteY rfl ?_⟩
    refine ⟨_, rfl, _, _, _, _, true, rfl, .ty "bool", .base (.bl _), kit_ty (by decide +kernel), _, rfl, _, _, _, _, true, rfl, .ty "bool", .base (.bl _), kit_ty (by decide +kernel), rfl, ?_⟩
    refine ⟨_, rfl, iteY rfl ⟨_, rfl, _, rfl, rfl, ?_⟩⟩
    have e : decide (V.bl b = V.bl b) = true := decide_eq_true rfl
    show Q (.bl (decide (V.bl b = V.bl b))) _
    rw [e]
    exact q _ (same_upd ht)
  · refine ⟨_, rfl, (by show 2 ≤ sizeLine; decide), fun t ht => ?_⟩
    have e0 : Same H (upd H t (.tup [.ty "list", .ty "tuple"])) := same_upd ht
    refine ⟨_, t, _, _, _, true, rfl, upd_same, cls2, .base (.lst (e0 _ _ ha)), kit_seq (a := "list") (r1 := true) (r2 := false) (by decide +kernel) (by decide +kernel), true, rfl, iteT ?_⟩
    refine ⟨_, rfl, _, _, _, _, true, rfl, .ty "list", .base (.lst (e0 _ _ hb)), kit_ty (by decide +kernel), _, rfl, _, _, _, _, true, rfl, .ty "list", .base (.lst (e0 _ _ ha)), kit_ty (by decide +kernel), rfl, ?_⟩
    refine ⟨_, rfl, iteY rfl ⟨_, rfl, _, _, _, _, false, rfl, .ty "tuple", .base (.lst (e0 _ _ hb)), kit_ty (by decide +kernel), _, rfl, _, _, _, _, false, rfl, .ty "tuple", .base (.lst (e0 _ _ ha)), kit_ty (by decide +kernel), rfl, ?_⟩⟩
    refine ⟨_, rfl, _, rfl, iteY rfl ?_⟩
    refine ⟨_, rfl, a, _, rfl, .inl (SqL.of (e0 _ _ ha)), _, rfl, b, _, rfl, .inl (SqL.of (e0 _ _ hb)), rfl, ?_⟩
    refine ⟨_, rfl, iteY (by rw [hl]) ?_⟩
    refine ⟨_, rfl, _, rfl, a, b, _, _, rfl, SqL.of (e0 _ _ ha), SqL.of (e0 _ _ hb), fun D hD => ?_⟩
    refine lc_vals (walk_zip (n := xs.length) (by rw [← hl, Nat.min_self])) (fun _ => .bl true) hD hm (fun H' s => ⟨SqL.of (s _ _ (e0 _ _ ha)), SqL.of (s _ _ (e0 _ _ hb))⟩) ?_ (fun H' s e => rall_true e (q H' (e0.trans s)))
    rintro i x H1 H2 Q' hi' s ⟨T', x1, x2, rfl, nT, rfl, f1, f2⟩ k
    have s2 : Same H1 (upd H1 T' (.tup [x1, x2])) := same_upd nT
    refine ⟨T', _, rfl, SqT.of upd_same, rfl, _, _, rfl, _, _, rfl, rfl, rfl, ?_⟩
    exact ⟨_, rfl, _, rfl, x1, x2, rfl, (hi i x1 x2 f1 f2).mono ((e0.trans s).trans s2), fun H3 s3 => k H3 (s2.trans s3)⟩
theorem exact_any (T : Tx K mg C) {f : Addr} {fd : FuncData} (F : FunD K "_law_exact" "_law_exact" (defArgs s_l_exact) (defBody s_l_exact) (defScope s_l_exact) [] [] f fd) (m : mg "_law_exact" = some (.ref f)) (b : Binds K fd ["_law_mine", "_law_theirs"] []) :
    ∀ n : Nat, FnOk P w K mg base CX0 (n + 1) f fd ["_law_mine", "_law_theirs"] (sp_exact n)
  | 0 => exact_step T F m b 0 ⟨fun _ _ _ _ h => False.elim h, fun _ _ _ _ _ _ _ _ _ _ _ _ _ h => False.elim h⟩
  | n + 1 => exact_step T F m b (n + 1) (exact_any T F m b n)
theorem ok_l_exact (T : Tx K mg C) : Ok P w K mg base 4 "_law_exact" ["_law_mine", "_law_theirs"] (sp_exact 3) := by
  obtain ⟨f, fd, F, m⟩ := T.d_l_exact
  have b : Binds K fd ["_law_mine", "_law_theirs"] [] := F.bindsN fun _ _ _ _ _ _ us hl => match us, hl with | [_, _], _ => rfl
  exact ⟨f, fd, exact_any T F m b 3, m, F.kp, b⟩
/-! ### the law's own weights and rows -/
def sp_l_weights : Sp := fun vs H Q _ => ∃ (a : Addr) (bs rs : List Int), vs = [.ref a] ∧ Lh H a bs rs ∧ Good bs rs ∧ ∀ H' p, Same H H' → IL (dif H H') p (wts 1 bs) → Q (.ref p) H'
theorem sc_l_weights : FnScope ["_law_house_here", "_law_found", "_law_base"] ["_law_house_here"] (defScope s_l_weights) := ⟨rfl, rfl, rfl, by decide +kernel, rfl, by decide +kernel, by decide +kernel⟩
theorem ok_l_weights (T : Tx K mg C) : Ok P w K mg base 1 "_law_weights" ["_law_house_here"] (sp_l_weights) := by
  refine ok_mk T.d_l_weights sc_l_weights (fun vs H Q E h => ?_) (fun _ _ _ _ _ _ us hl => match us, hl with | [_], _ => rfl) (fun f cdv A outer s H vs Q E hr h => ?_)
  · obtain ⟨a, bs, rs, rfl, _⟩ := h
    rfl
  have hu := hu_of hr
  have hu64 := hr.units
  obtain ⟨a, bs, rs, rfl, ⟨s1, r1, h1, h2, h3⟩, g, q⟩ := h
  refine ⟨_, (pss_cons (ps_set (i := 1) sc_l_weights.nd rfl (Or.inl rfl) (pe_lst (pa_cons pe_int pa_nil)))
      (pss_cons (ps_for PassesOwn.never rfl (pi_list (pe_ix ix_list (pv 0) pe_int (fun _ _ => rfl))) (pg_name (i := 2) sc_l_weights.nd rfl (Or.inl rfl)) (pss_one (ps_expr (pe_bm PySem.F.plainAttrs_list PySem.F.slot_list_append PySem.F.type_list_append mt_append (pv 1) (pa_cons (pe_op op_mul (pe_ix ix_list (pv 1) (pe_un un_neg pe_int) (fun _ _ => rfl)) (pv 2)) pa_nil)))))
      (pss_one (ps_ret (pv 1))))), ?_⟩
  refine ⟨by show 1 ≤ sizeLine; decide, fun p hp => ?_⟩
  have e1 : Same H (upd H p (.lst [.int 1])) := same_upd hp
  refine ⟨_, rfl, a, _, _, _, rfl, rfl, SqL.of (e1 _ _ h1), atI_nat (j := 0) rfl, s1, rfl, ⟨_, (h2.mono e1).sq⟩, for_list (K := K) (a := s1) (xs := bs.map V.int)
    (fun i σ H' => ∃ y, σ = [some (.ref a), some (.ref p), y] ∧ Same H H' ∧ IL H' p (wts 1 (bs.take i))) ⟨none, rfl, e1, upd_same⟩ (fun i σ H' _ ⟨_, _, e, _⟩ => (h2.mono e).sq) ?_ ?_⟩
  · rintro i x σ H' hi ⟨y, rfl, e, hP⟩
    obtain ⟨b, rfl, hb, mb⟩ := int_at hi
    have b1 := g.b2 b mb
    have b3 := g.bm b mb
    refine ⟨_, rfl, .inl ⟨rfl, _, SqL.of hP⟩, _, rfl, 1, rfl, p, _, -1, _, rfl, rfl, SqL.of hP, last_ix, _, rfl, _, b, rfl, rfl, .inr ⟨by omega, by omega⟩, p, _, _, rfl, rfl, hP, ?_, ?_⟩
    · rw [List.length_map, wts_len, List.length_take]
      exact small1000 (by have := g.few; omega)
    · refine ⟨_, rfl, fun c o hc => ?_, ?_⟩
      · rw [upd_ne (ne_of_none hc hp)]
        exact e _ _ hc
      · show _ = _
        rw [upd_same, take_snoc hb, wts_snoc, List.map_append]
        rfl
  · rintro σ H' ⟨y, rfl, e, hP⟩
    rw [List.length_map, List.take_length] at hP
    exact ⟨_, rfl, q H' p e (dif_at hp hP)⟩
def sp_l_many_rows : Sp := fun vs H Q _ => ∃ (a : Addr) (bs rs : List Int), vs = [.ref a] ∧ Lh H a bs rs ∧ Good bs rs ∧ Q (.int (rowsN rs)) H
theorem sc_l_many_rows : FnScope ["_law_house_here", "_law_many", "_law_room"] ["_law_house_here"] (defScope s_l_many_rows) := ⟨rfl, rfl, rfl, by decide +kernel, rfl, by decide +kernel, by decide +kernel⟩
theorem ok_l_many_rows (T : Tx K mg C) : Ok P w K mg base 1 "_law_many_rows" ["_law_house_here"] (sp_l_many_rows) := by
  refine ok_mk T.d_l_many_rows sc_l_many_rows (fun vs H Q E h => ?_) (fun _ _ _ _ _ _ us hl => match us, hl with | [_], _ => rfl) (fun f cdv A outer s H vs Q E hr h => ?_)
  · obtain ⟨a, bs, rs, rfl, _⟩ := h
    rfl
  have hu := hu_of hr
  have hu64 := hr.units
  obtain ⟨a, bs, rs, rfl, ⟨s1, r1, h1, h2, h3⟩, g, q⟩ := h
  refine ⟨_, (pss_cons (ps_set (i := 1) sc_l_many_rows.nd rfl (Or.inl rfl) pe_int)
      (pss_cons (ps_for PassesOwn.never rfl (pi_list (pe_ix ix_list (pv 0) pe_int (fun _ _ => rfl))) (pg_name (i := 2) sc_l_many_rows.nd rfl (Or.inl rfl)) (pss_one (ps_set (i := 1) sc_l_many_rows.nd rfl (Or.inl rfl) (pe_op op_mul (pv 1) (pe_op op_add (pv 2) pe_int)))))
      (pss_one (ps_ret (pv 1))))), ?_⟩
  refine ⟨_, rfl, a, _, _, _, rfl, rfl, SqL.of h1, atI_nat (j := 1) rfl, r1, rfl, ⟨_, h3.sq⟩, for_list (K := K) (a := r1) (xs := rs.map V.int)
    (fun i σ H' => ∃ y, σ = [some (.ref a), some (.int (rowsN (rs.take i))), y] ∧ H' = H) ⟨none, rfl, rfl⟩ (fun i σ H' _ ⟨_, _, e⟩ => by rw [e]; exact h3.sq) ?_ ?_⟩
  · rintro i x σ H' hi ⟨y, rfl, rfl⟩
    obtain ⟨b, rfl, hb, mb⟩ := int_at hi
    have b1 := g.r0 b mb
    have b3 := g.rm b mb
    refine ⟨_, rfl, _, rfl, _, _, rfl, rfl, _, _, rfl, rfl, .inr ⟨by omega, by omega⟩, some (.int b), ?_, rfl⟩
    unfold rowsN
    rw [take_snoc hb, List.foldl_append]
    rfl
  · rintro σ H' ⟨y, rfl, rfl⟩
    rw [List.length_map, List.take_length]
    exact ⟨_, rfl, q⟩
def sp_l_made (C : Addr) : Sp := fun vs H Q _ => ∃ (a : Addr) (bs rs : List Int), vs = [.ref a] ∧ Lh H a bs rs ∧ Good bs rs ∧ ∀ H' x, Same H H' → Hs C (dif H H') x bs rs → Q (.ref x) H'
theorem sc_l_made : FnScope ["_law_house_here"] ["_law_house_here"] (defScope s_l_made) := ⟨rfl, rfl, rfl, by decide +kernel, rfl, by decide +kernel, by decide +kernel⟩
theorem ok_l_made (T : Tx K mg C) : Ok P w K mg base 6 "_law_made" ["_law_house_here"] (sp_l_made C) := by
  obtain ⟨f_init, fd_init, G_init, M_init, b_init⟩ := ok_init (P := P) (w := w) (base := base) T
  refine ok_mk T.d_l_made sc_l_made (fun vs H Q E h => ?_) (fun _ _ _ _ _ _ us hl => match us, hl with | [_], _ => rfl) (fun f cdv A outer s H vs Q E hr h => ?_)
  · obtain ⟨a, bs, rs, rfl, _⟩ := h
    rfl
  have hu := hu_of hr
  have hu64 := hr.units
  obtain ⟨a, bs, rs, rfl, ⟨s1, r1, h1, h2, h3⟩, g, q⟩ := h
  refine ⟨_, (pss_one (ps_ret (pe_make M_init G_init (hr.mono (by decide)) (by rfl) T.mgC b_init .nil pass0 (pa_cons (pe_callTy call_list_of (by rfl) T.b_list (by decide +kernel) (pa_cons (pe_ix ix_list (pv 0) pe_int (fun _ _ => rfl)) pa_nil)) (pa_cons (pe_callTy call_list_of (by rfl) T.b_list (by decide +kernel) (pa_cons (pe_ix ix_list (pv 0) pe_int (fun _ _ => rfl)) pa_nil)) pa_nil))))), ?_⟩
  refine ⟨_, rfl, a, _, _, _, rfl, rfl, SqL.of h1, atI_nat (j := 0) rfl, s1, _, rfl, .inl h2.sq, fun p hp => ?_⟩
  have e1 := same_upd (o := .lst (bs.map V.int)) hp
  refine ⟨_, rfl, a, _, _, _, rfl, rfl, SqL.of (e1 _ _ h1), atI_nat (j := 1) rfl, r1, _, rfl, .inl (h3.mono e1).sq, fun u hu' => ?_⟩
  have e2 := same_upd (o := .lst (rs.map V.int)) hu'
  exact make_ok (e2 _ _ upd_same) (show _ = _ from upd_same) g fun H' x e4 hx => q H' x ((e1.trans e2).trans e4) (hx.mono (dif_sub (e1.trans e2) (Same.refl _)))
/-! ### a house told -/
theorem prods_take {ms ws : List Int} (h : ms.length = ws.length) : ∀ n : Nat, n ≤ ms.length → (List.range n).map (fun i => ms.getD i 0 * ws.getD i 0) = (prods ms ws).take n
  | 0, _ => by simp
  | n + 1, hn => by
    have h1 : ms[n]? = some (ms.getD n 0) := by rw [List.getD_eq_getElem?_getD, List.getElem?_eq_getElem (by omega)]; rfl
    have h2 : ws[n]? = some (ws.getD n 0) := by rw [List.getD_eq_getElem?_getD, List.getElem?_eq_getElem (by omega)]; rfl
    rw [List.range_succ, List.map_append, prods_take h n (by omega), take_snoc (prods_at h1 h2)]
    rfl
def sp_l_told_of (C : Addr) : Sp := fun vs H Q _ => ∃ (a : Addr) (bs rs : List Int), vs = [.ref a] ∧ Hs C H a bs rs ∧ Good bs rs ∧ ∀ H' x, Same H H' → Lh (dif H H') x bs rs → Q (.ref x) H'
theorem sc_l_told_of : FnScope ["_law_made_here", "_law_house_here", "_law_held", "_law_at", "_law_late"] ["_law_made_here"] (defScope s_l_told_of) := ⟨rfl, rfl, rfl, by decide +kernel, rfl, by decide +kernel, by decide +kernel⟩
theorem ok_l_told_of (T : Tx K mg C) : Ok P w K mg base 6 "_law_told_of" ["_law_made_here"] (sp_l_told_of C) := by
  obtain ⟨f_l_exact, fd_l_exact, G_l_exact, m_l_exact, k_l_exact, b_l_exact⟩ := ok_l_exact (P := P) (w := w) (base := base) T
  obtain ⟨f_l_many_rows, fd_l_many_rows, G_l_many_rows, m_l_many_rows, k_l_many_rows, b_l_many_rows⟩ := ok_l_many_rows (P := P) (w := w) (base := base) T
  obtain ⟨f_l_weights, fd_l_weights, G_l_weights, m_l_weights, k_l_weights, b_l_weights⟩ := ok_l_weights (P := P) (w := w) (base := base) T
  obtain ⟨f_places, fd_places, G_places, h_places, b_places⟩ := ok_places (P := P) (w := w) (base := base) T
  obtain ⟨f_many_rows, fd_many_rows, G_many_rows, m_many_rows, k_many_rows, b_many_rows⟩ := ok_many_rows (P := P) (w := w) (base := base) T
  obtain ⟨f_held_up_to, fd_held_up_to, G_held_up_to, m_held_up_to, k_held_up_to, b_held_up_to⟩ := ok_held_up_to (P := P) (w := w) (base := base) T
  obtain ⟨f_weights, fd_weights, G_weights, m_weights, k_weights, b_weights⟩ := ok_weights (P := P) (w := w) (base := base) T
  obtain ⟨f_rooms, fd_rooms, G_rooms, h_rooms, b_rooms⟩ := ok_rooms (P := P) (w := w) (base := base) T
  obtain ⟨f_bases, fd_bases, G_bases, h_bases, b_bases⟩ := ok_bases (P := P) (w := w) (base := base) T
  refine ok_mk T.d_l_told_of sc_l_told_of (fun vs H Q E h => ?_) (fun _ _ _ _ _ _ us hl => match us, hl with | [_], _ => rfl) (fun f cdv A outer s H vs Q E hr h => ?_)
  · obtain ⟨a, bs, rs, rfl, _⟩ := h
    rfl
  have hu := hu_of hr
  have hu64 := hr.units
  obtain ⟨a, bs, rs, rfl, hh, g, q⟩ := h
  refine ⟨_, (pss_cons (ps_asg (pe_tup (pa_cons (pe_lst (pa_cons (pe_meth0 (pv 0) T.cl h_bases G_bases (hr.mono (by decide)) b_bases .nil pass0) (pa_cons (pe_meth0 (pv 0) T.cl h_rooms G_rooms (hr.mono (by decide)) b_rooms .nil pass0) pa_nil))) (pa_cons (pe_lst pa_nil) pa_nil))) (pg_tup rfl (pgs_cons (pg_name (i := 1) sc_l_told_of.nd rfl (Or.inr rfl)) (pgs_cons (pg_name (i := 2) sc_l_told_of.nd rfl (Or.inl rfl)) pgs_nil))))
      (pss_cons (ps_for PassesOwn.never rfl (pi_range1 (by rfl) T.b_range (pa_cons (pe_callB call_len_seq (by rfl) T.b_len PySem.boot_len (pa_cons (pe_ix ix_list (pv 1) pe_int (fun _ _ => rfl)) pa_nil)) pa_nil)) (pg_name (i := 3) sc_l_told_of.nd rfl (Or.inl rfl)) (pss_one (ps_expr (pe_bm PySem.F.plainAttrs_list PySem.F.slot_list_append PySem.F.type_list_append mt_append (pv 2) (pa_cons (pe_callB (cr_sum rfl) (by rfl) T.b_sum (by decide +kernel) (pa_cons (pe_lc (own := [("_law_late", 4)]) rfl sc_l_told_of.nd (pi_range1 (by rfl) T.b_range (pa_cons (pe_op op_add (pv 3) pe_int) pa_nil)) (blkOk_by (own := [("_law_late", 4)]) (N := ["_law_made_here", "_law_house_here", "_law_held", "_law_at", "_law_late"]) (sc := defScope s_l_told_of) (by decide +kernel)) (fun _ _ _ _ _ => (pg_name (i := 4) sc_l_told_of.nd rfl (Or.inl rfl) (hf := Or.inr rfl))) (fun _ _ _ _ _ => pts_nil) (fun _ _ _ _ _ => (pe_op op_mul (pe_ix (ix_listK (K := K) rfl) (pe_ix (ix_listK (K := K) rfl) (pv 1) pe_int (fun _ _ => rfl)) (pv 4) (fun _ _ => rfl)) (pe_ix (ix_listK (K := K) rfl) (pe_call G_l_weights (hr.mono (by decide)) (by rfl) m_l_weights k_l_weights b_l_weights .nil pass0 (pa_cons (pv 1) pa_nil)) (pv 4) (fun _ _ => rfl))))) pa_nil)) pa_nil)))))
      (pss_cons (ps_if (pt_not (pt_val (pe_call G_l_exact (hr.mono (by decide)) (by rfl) m_l_exact k_l_exact b_l_exact .nil pass0 (pa_cons (pe_lst (pa_cons (pe_call G_weights (hr.mono (by decide)) (by rfl) m_weights k_weights b_weights .nil pass0 (pa_cons (pv 0) pa_nil)) (pa_cons (pe_call G_held_up_to (hr.mono (by decide)) (by rfl) m_held_up_to k_held_up_to b_held_up_to .nil pass0 (pa_cons (pv 0) pa_nil)) (pa_cons (pe_call G_many_rows (hr.mono (by decide)) (by rfl) m_many_rows k_many_rows b_many_rows .nil pass0 (pa_cons (pv 0) pa_nil)) (pa_cons (pe_meth0 (pv 0) T.cl h_places G_places (hr.mono (by decide)) b_places .nil pass0) pa_nil))))) (pa_cons (pe_lst (pa_cons (pe_call G_l_weights (hr.mono (by decide)) (by rfl) m_l_weights k_l_weights b_l_weights .nil pass0 (pa_cons (pv 1) pa_nil)) (pa_cons (pv 2) (pa_cons (pe_call G_l_many_rows (hr.mono (by decide)) (by rfl) m_l_many_rows k_l_many_rows b_l_many_rows .nil pass0 (pa_cons (pv 1) pa_nil)) (pa_cons (pe_callB call_len_seq (by rfl) T.b_len PySem.boot_len (pa_cons (pv 2) pa_nil)) pa_nil))))) pa_nil))))) (pss_one (ps_ret pe_non)) pss_nil)
      (pss_one (ps_ret (pv 1)))))), ?_⟩
  have lr := g.len
  have lf := g.few
  have lw : rs.length = (wts 1 bs).length := by rw [wts_len, lr]
  have lp : (prods rs (wts 1 bs)).length = rs.length := prods_len lw
  have hno : ∀ s r : Addr, (hf s r).lookup ("bases" : Str) = none ∧ (hf s r).lookup ("rooms" : Str) = none ∧ (hf s r).lookup ("places" : Str) = none := fun s r => ⟨hf_no _ _ (by decide +kernel) (by decide +kernel), hf_no _ _ (by decide +kernel) (by decide +kernel), hf_no _ _ (by decide +kernel) (by decide +kernel)⟩
  obtain ⟨dx, s1, r1, h1, h2, h3⟩ := id hh
  -- [made.bases(), made.rooms()], []
  refine ⟨_, rfl, a, dx, _, rfl, h1, (hno _ _).1, a, bs, rs, rfl, hh, fun b hb => ?_⟩
  have e1 := same_upd (o := .lst (bs.map V.int)) hb
  refine ⟨_, rfl, a, dx, _, rfl, e1 _ _ h1, (hno _ _).2.1, a, bs, rs, rfl, hh.mono e1, fun r hr' => ?_⟩
  have e2 := same_upd (o := .lst (rs.map V.int)) hr'
  refine ⟨by show 2 ≤ sizeLine; decide, fun l hl => ?_⟩
  have e3 := same_upd (o := .lst [.ref b, .ref r]) hl
  refine ⟨Nat.zero_le _, fun p hp => ?_⟩
  have e4 := same_upd (o := .lst []) hp
  refine ⟨by show 2 ≤ sizeLine; decide, fun t ht => ?_⟩
  have e5 := same_upd (o := .tup [.ref l, .ref p]) ht
  refine ⟨t, _, rfl, SqT.of upd_same, rfl, _, _, rfl, _, _, rfl, rfl, ?_⟩
  have eA : Same H _ := (e1.trans e2).trans (e3.trans (e4.trans e5))
  have hB : IL _ b bs := (e2.trans (e3.trans (e4.trans e5))) _ _ upd_same
  have hR : IL _ r rs := (e3.trans (e4.trans e5)) _ _ upd_same
  have hL := (e4.trans e5) _ _ (upd_same (H := upd (upd H b (.lst (bs.map V.int))) r (.lst (rs.map V.int))) (a := l) (o := .lst [.ref b, .ref r]))
  have hP := e5 _ _ (upd_same (H := upd (upd (upd H b (.lst (bs.map V.int))) r (.lst (rs.map V.int))) l (.lst [.ref b, .ref r])) (a := p) (o := .lst []))
  have hp0 : H p = none := ((e1.trans e2).trans e3).free hp
  have hb0 : H b = none := hb
  have hr0 : H r = none := e1.free hr'
  have hl0 : H l = none := (e1.trans e2).free hl
  have nb : b ≠ p := ne_of_none (show _ = some (.lst (bs.map V.int)) from (e2.trans e3) _ _ upd_same) hp
  have nr : r ≠ p := ne_of_none (show _ = some (.lst (rs.map V.int)) from e3 _ _ upd_same) hp
  have nl : l ≠ p := ne_of_none upd_same hp
  generalize hG : upd (upd (upd (upd (upd H b (.lst (bs.map V.int))) r (.lst (rs.map V.int))) l (.lst [.ref b, .ref r])) p (.lst [])) t (.tup [.ref l, .ref p]) = H5 at eA hB hR hL hP ⊢
  clear hG e1 e2 e3 e4 e5
  -- the sums
  refine ⟨_, rfl, l, _, _, _, rfl, rfl, SqL.of hL, atI_nat (j := 1) rfl, r, _, rfl, .inl hR.sq, (rs.length : Int), ?_, by omega, by omega, ?_⟩
  · rw [List.length_map]
  refine for_range (lo := 0) (n := ((rs.length : Int)).toNat) (fun i σ H' => ∃ y z, σ = [some (.ref a), some (.ref l), some (.ref p), y, z] ∧ Same H H' ∧ IL H' b bs ∧ IL H' r rs ∧ H' l = some (.lst [.ref b, .ref r]) ∧ IL H' p ((List.range i).map fun j => ((prods rs (wts 1 bs)).take (j + 1)).sum))
    ⟨none, none, rfl, eA, hB, hR, hL, hP⟩ ?_ ?_
  · rintro i σ H' hi ⟨y, z, rfl, eH, iB, iR, iL, iP⟩
    have hi2 : i < rs.length := by omega
    refine ⟨_, rfl, .inl ⟨rfl, _, SqL.of iP⟩, ?_⟩
    refine ⟨_, rfl, _, _, rfl, rfl, ((i + 1 : Nat) : Int), ?_, by omega, by omega, fun D hD => ?_⟩
    · show [V.int (0 + (i : Int) + 1)] = _
      rw [show (0 : Int) + (i : Int) + 1 = ((i + 1 : Nat) : Int) by omega]
    refine lc_vals (walk_range (lo := 0) (n := (((i + 1 : Nat) : Int)).toNat)) (fun j => .int (rs.getD j 0 * (wts 1 bs).getD j 0)) hD (by omega) (fun _ _ => trivial) ?_ ?_
    · rintro j x H1 H2 Q' hj s ⟨rfl, rfl⟩ k
      have hj2 : j < rs.length := by omega
      have ej : (0 : Int) + (j : Int) = (j : Int) := by omega
      have r0 := g.r0 _ (mem_getD hj2)
      have rm := g.rm _ (mem_getD hj2)
      refine ⟨rfl, _, rfl, l, _, _, _, rfl, rfl, SqL.of (s _ _ iL), atI_nat (j := 1) rfl, _, rfl, r, _, _, _, rfl, congrArg V.int ej, (iR.mono s).sq, map_at hj2, ?_⟩
      refine ⟨_, rfl, l, bs, rs, rfl, ⟨b, r, s _ _ iL, iB.mono s, iR.mono s⟩, g, fun H3 u s3 hU => ?_⟩
      refine ⟨_, rfl, u, _, _, _, rfl, congrArg V.int ej, (hU.mono dif_in).sq, map_at (by omega), _, _, rfl, rfl, .inl ⟨by omega, by omega⟩, k H3 s3⟩
    · intro H1 s e
      have eI : IL H1 D ((List.range (i + 1)).map fun j => rs.getD j 0 * (wts 1 bs).getD j 0) := by
        show _ = _
        rw [List.map_map]
        exact e
      rw [prods_take lw (i + 1) (by omega)] at eI
      refine ⟨D, _, rfl, eI.sq, p, _, _, rfl, rfl, iP.mono s, ?_, ?_⟩
      · rw [List.length_map, List.length_map, List.length_range]
        exact small1000 (by omega)
      · refine ⟨_, _, rfl, fun c o hc => ?_, ?_, ?_, ?_, ?_⟩
        · rw [upd_ne (ne_of_none hc hp0)]
          exact s _ _ (eH _ _ hc)
        · show _ = _
          rw [upd_ne nb]
          exact iB.mono s
        · show _ = _
          rw [upd_ne nr]
          exact iR.mono s
        · rw [upd_ne nl]
          exact s _ _ iL
        · show _ = _
          rw [upd_same, List.range_succ, List.map_append, List.map_append]
          rfl
  · rintro σ H' ⟨y, z, rfl, eH, iB, iR, iL, iP⟩
    have iP2 : IL H' p (held (prods rs (wts 1 bs))) := by
      unfold held
      rw [lp]
      exact iP
    have iH : Lh H' l bs rs := ⟨b, r, iL, iB, iR⟩
    -- the two lists of four
    refine ⟨_, rfl, a, bs, rs, rfl, hh.mono eH, g, fun H1 w1 f1 k1 => ?_⟩
    have K1 := k1.mono dif_in
    refine ⟨_, rfl, a, bs, rs, rfl, hh.mono (eH.trans f1), g, fun H2 w2 f2 k2 => ?_⟩
    have K2 := k2.mono dif_in
    have eH2 := eH.trans (f1.trans f2)
    refine ⟨_, rfl, a, bs, rs, rfl, hh.mono eH2, g, ?_⟩
    refine ⟨_, rfl, a, dx, _, rfl, eH2 _ _ h1, (hno _ _).2.2, a, bs, rs, rfl, hh.mono eH2, ?_⟩
    refine ⟨by show 4 ≤ sizeLine; decide, fun u hu' => ?_⟩
    have f3 := same_upd (o := .lst [.ref w1, .ref w2, .int (rowsN rs), .int (rs.length : Int)]) hu'
    refine ⟨_, rfl, l, bs, rs, rfl, iH.mono ((f1.trans f2).trans f3), g, fun H4 w3 f4 k4 => ?_⟩
    have K4 := k4.mono dif_in
    have f14 := (f1.trans f2).trans (f3.trans f4)
    refine ⟨_, rfl, _, rfl, l, bs, rs, rfl, iH.mono f14, g, ?_⟩
    refine ⟨_, rfl, p, _, rfl, .inl (iP2.mono f14).sq, ?_⟩
    refine ⟨by show 4 ≤ sizeLine; decide, fun v hv => ?_⟩
    have f5 := same_upd (o := .lst [.ref w3, .ref p, .int (rowsN rs), .int (((held (prods rs (wts 1 bs))).map V.int).length : Int)]) hv
    have lh : (held (prods rs (wts 1 bs))).length = rs.length := by
      unfold held
      rw [List.length_map, List.length_range, lp]
    have ak : Ak 2 (upd H4 v (.lst [.ref w3, .ref p, .int (rowsN rs), .int (((held (prods rs (wts 1 bs))).map V.int).length : Int)])) (.ref u) (.ref v) := by
      refine Ak.lst ((f4.trans f5) _ _ upd_same) upd_same (by show 4 ≤ 1000; decide) ?_
      have el : ((rs.length : Nat) : Int) = (((held (prods rs (wts 1 bs))).map V.int).length : Int) := by rw [List.length_map, lh]
      exact .cons (Ak.ints (K1.mono (f2.trans (f3.trans (f4.trans f5)))) (K4.mono f5) (by rw [wts_len]; omega)) (.cons (Ak.ints (K2.mono (f3.trans (f4.trans f5))) (iP2.mono (f14.trans f5)) (by rw [lh]; omega)) (.cons (Ak.int _) (.cons (by rw [el]; exact Ak.int _) .nil)))
    refine ⟨_, _, rfl, ak.up, fun H6 f6 => ⟨true, rfl, iteF ?_⟩⟩
    have f16 := f14.trans (f5.trans f6)
    exact ⟨_, rfl, q H6 l (eH.trans f16) ⟨b, r, dif_at hl0 (f16 _ _ iL), dif_at hb0 (f16 _ _ iB), dif_at hr0 (f16 _ _ iR)⟩⟩
end
end K4

set_option maxHeartbeats 4000000
namespace K4
open PySem PySem.Spec PyProof.Rows L2
/-! ### the purse: the one thing that changes -/
def Purse (H : Hp) (p : Addr) (k : Nat) : Prop := ∃ x s n a : Int, H p = some (.lst [.int x, .int s, .int n, .int a]) ∧ 0 ≤ x ∧ 0 ≤ s ∧ s < 2147483629 ∧ 0 ≤ n ∧ n ≤ (k : Int) ∧ 0 ≤ a ∧ a ≤ 100
/-- S stands still, the purse at p has been drawn from k times at most -/
structure Pst (p : Addr) (k : Nat) (S H : Hp) : Prop where
  same : Same S H
  out : S p = none
  pu : Purse H p k
theorem Pst.less {p : Addr} {k : Nat} {S0 S H : Hp} (x : Pst p k S H) (e : Same S0 S) : Pst p k S0 H := ⟨e.trans x.same, e.free x.out, x.pu⟩
theorem Pst.up {p : Addr} {k j : Nat} {S H : Hp} (x : Pst p k S H) (h : k ≤ j) : Pst p j S H := by
  obtain ⟨u, s, n, a, h1, h2, h3, h4, h5, h6, h7⟩ := x.pu
  exact ⟨x.same, x.out, u, s, n, a, h1, h2, h3, h4, h5, by omega, h7⟩
theorem Pst.pure {p : Addr} {k : Nat} {S H H' : Hp} (x : Pst p k S H) (e : Same H H') : Pst p k S H' := by
  obtain ⟨u, s, n, a, h1, h2⟩ := x.pu
  exact ⟨x.same.trans e, x.out, u, s, n, a, e _ _ h1, h2⟩
theorem Pst.new {p q : Addr} {k : Nat} {S H : Hp} {o : HO} (x : Pst p k S H) (h : H q = none) : Pst p k (upd S q o) (upd H q o) := by
  obtain ⟨u, s, n, a, h1, h2⟩ := x.pu
  have npq : p ≠ q := ne_of_none h1 h
  refine ⟨fun b z e => ?_, by rw [upd_ne npq]; exact x.out, u, s, n, a, by rw [upd_ne npq]; exact h1, h2⟩
  by_cases hb : b = q
  · subst hb
    rw [upd_same] at e ⊢
    exact e
  · rw [upd_ne hb] at e ⊢
    exact x.same _ _ e
theorem Pst.newS {p q : Addr} {k : Nat} {S H : Hp} {o : HO} (x : Pst p k S H) (h : H q = none) : Same S (upd S q o) := same_upd (x.same.free h)
/-- S, and what H' has beyond H -/
def gr (S H H' : Hp) : Hp := fun b => match H b with
  | none => H' b
  | some _ => S b
theorem gr_new {S H H' : Hp} {b : Addr} {o : HO} (h : H b = none) (h2 : H' b = some o) : gr S H H' b = some o := by
  unfold gr
  rw [h]
  exact h2
theorem gr_old {S H H' : Hp} (e : Same S H) : Same S (gr S H H') := fun b o h => by
  unfold gr
  rw [e _ _ h]
  exact h
theorem gr_dif {S H H' : Hp} : Same (dif H H') (gr S H H') := fun b o h => by
  obtain ⟨h1, h2⟩ := dif_of h
  exact gr_new h1 h2
theorem Pst.grow {p : Addr} {k : Nat} {S H H' : Hp} (x : Pst p k S H) (e : Same H H') : Pst p k (gr S H H') H' := by
  refine ⟨fun b o h => ?_, ?_, (x.pure e).pu⟩
  · unfold gr at h
    cases q : H b with
    | none =>
      rw [q] at h
      exact h
    | some u =>
      rw [q] at h
      exact e _ _ (x.same _ _ h)
  · obtain ⟨u, s, n, a, h1, _⟩ := x.pu
    unfold gr
    rw [h1]
    exact x.out
/-- the purse is written anew -/
theorem Pst.put {p : Addr} {k : Nat} {S H : Hp} {j : Nat} {u s n a : Int} (x : Pst p k S H) (h1 : 0 ≤ u) (h2 : 0 ≤ s) (h3 : s < 2147483629) (h4 : 0 ≤ n) (h5 : n ≤ (j : Int)) (h6 : 0 ≤ a) (h7 : a ≤ 100) : Pst p j S (upd H p (.lst [.int u, .int s, .int n, .int a])) :=
  ⟨fun b o e => by
    have nb : b ≠ p := fun z => by
      rw [z, x.out] at e
      cases e
    rw [upd_ne nb]
    exact x.same _ _ e, x.out, u, s, n, a, upd_same, h1, h2, h3, h4, h5, h6, h7⟩
section
variable {P : Program} {w : World} {K : PySem.W.Frag} {mg : Str → Option Value} {base : Heap} {C : Addr}
theorem cut_ints (ns : List Int) (lo hi : Option Int) : ∃ ms : List Int, cutV (ns.map V.int) lo hi = ms.map V.int := by
  unfold cutV
  exact ⟨_, by rw [← List.map_drop, ← List.map_take]⟩
def sp_l_purse (K : PySem.W.Frag) : Sp := fun vs H Q _ => ∃ (a : Addr) (i : Int) (ns : List Int), vs = [.ref a, .int i] ∧ SqL K H a (ns.map V.int) ∧ 0 ≤ i ∧ i ≤ 100 ∧ ∀ H' p, Same H H' → H p = none → Purse H' p 0 → Q (.ref p) H'
theorem sc_l_purse : FnScope ["_law_script", "_law_at", "_law_seed"] ["_law_script", "_law_at"] (defScope s_l_purse) := ⟨rfl, rfl, rfl, by decide +kernel, rfl, by decide +kernel, by decide +kernel⟩
theorem ok_l_purse (T : Tx K mg C) : Ok P w K mg base 1 "_law_purse" ["_law_script", "_law_at"] (sp_l_purse K) := by
  refine ok_mk T.d_l_purse sc_l_purse (fun vs H Q E h => ?_) (fun _ _ _ _ _ _ us hl => match us, hl with | [_, _], _ => rfl) (fun f cdv A outer s H vs Q E hr h => ?_)
  · obtain ⟨a, i, ns, rfl, _⟩ := h
    rfl
  have hu := hu_of hr
  have hu64 := hr.units
  obtain ⟨a, i, ns, rfl, hS, i0, i1, q⟩ := h
  refine ⟨_, (pss_cons (ps_set (i := 2) sc_l_purse.nd rfl (Or.inl rfl) (pe_callB (cr_sum rfl) (by rfl) T.b_sum (by decide +kernel) (pa_cons (pe_slice sl_list (pv 0) (po_some (pv 1)) (po_some (pe_op op_add (pv 1) pe_int))) pa_nil)))
      (pss_one (ps_ret (pe_lst (pa_cons (pe_op op_mod (pe_callTy call_int1 (by rfl) T.b_int (by decide +kernel) (pa_cons (pe_callB (call_max2 rfl) (by rfl) T.b_max (by decide +kernel) (pa_cons (pe_op op_sub (pv 2) (pe_op op_powW pe_int pe_int)) (pa_cons pe_int pa_nil))) pa_nil)) (pe_op op_powW (pe_op op_powW pe_int pe_int) pe_int)) (pa_cons (pe_op op_mod (pe_callTy call_int1 (by rfl) T.b_int (by decide +kernel) (pa_cons (pv 2) pa_nil)) pe_int) (pa_cons pe_int (pa_cons (pv 1) pa_nil)))))))), ?_⟩
  refine ⟨_, rfl, _, rfl, i, rfl, _, rfl, _, _, rfl, rfl, _, rfl, a, _, rfl, hS, fun p hp => ?_⟩
  obtain ⟨ms, em⟩ := cut_ints ns (some i) (some (i + 1))
  have e1 : Same H (upd H p (.lst (cutV (ns.map V.int) (some i) (some (i + 1))))) := same_upd hp
  refine ⟨p, ms, rfl, SqL.of (by rw [← em]; exact upd_same), ?_⟩
  refine ⟨_, rfl, 10, 18, rfl, rfl, ⟨by decide, by decide +kernel⟩, _, _, rfl, rfl, _, _, rfl, .inl ⟨_, rfl, ?_⟩⟩
  refine ⟨10, 60, rfl, rfl, ⟨by decide, by decide +kernel⟩, _, 8, rfl, rfl, ⟨by decide, by decide +kernel⟩, ?_⟩
  have hM : (0 : Int) < ((10 : Int) ^ (60 : Int).toNat) ^ (8 : Int).toNat := by decide +kernel
  refine ⟨_, _, rfl, rfl, hM, ?_⟩
  refine ⟨_, rfl, .inl ⟨_, rfl, _, _, rfl, rfl, (by decide : (0 : Int) < 2147483629), _, rfl, ?_⟩⟩
  refine ⟨by show 4 ≤ sizeLine; decide, fun u hu' => ?_⟩
  exact q _ u (e1.trans (same_upd hu')) (e1.free hu') ⟨_, _, 0, i, upd_same, Int.emod_nonneg _ (Int.ne_of_gt hM), Int.emod_nonneg _ (by decide), Int.emod_lt_of_pos _ (by decide), by decide, by decide, i0, i1⟩
def sp_l_mixed : Sp := fun vs H Q _ => ∃ s n a : Int, vs = [.int s, .int n, .int a] ∧ 0 ≤ s ∧ s < 2147483629 ∧ 0 ≤ n ∧ n ≤ 1000000 ∧ 0 ≤ a ∧ a ≤ 100 ∧ ∀ r : Int, 0 ≤ r → Q (.int r) H
theorem sc_l_mixed : FnScope ["_law_seed", "_law_spin", "_law_at", "_law_mixed_here"] ["_law_seed", "_law_spin", "_law_at"] (defScope s_l_mixed) := ⟨rfl, rfl, rfl, by decide +kernel, rfl, by decide +kernel, by decide +kernel⟩
theorem ok_l_mixed (T : Tx K mg C) : Ok P w K mg base 1 "_law_mixed" ["_law_seed", "_law_spin", "_law_at"] (sp_l_mixed) := by
  refine ok_mk T.d_l_mixed sc_l_mixed (fun vs H Q E h => ?_) (fun _ _ _ _ _ _ us hl => match us, hl with | [_, _, _], _ => rfl) (fun f cdv A outer s H vs Q E hr h => ?_)
  · obtain ⟨s, n, a, rfl, _⟩ := h
    rfl
  have hu := hu_of hr
  have hu64 := hr.units
  obtain ⟨s, n, a, rfl, s0, s1, n0, n1, a0, a1, q⟩ := h
  refine ⟨_, (pss_cons (ps_set (i := 3) sc_l_mixed.nd rfl (Or.inl rfl) (pe_op op_add (pe_op op_mul (pv 0) pe_int) (pe_op op_mul (pe_op op_mul pe_int (pv 1)) (pv 1))))
      (pss_cons (ps_set (i := 3) sc_l_mixed.nd rfl (Or.inl rfl) (pe_op op_mod (pe_callTy call_int1 (by rfl) T.b_int (by decide +kernel) (pa_cons (pe_op op_add (pe_op op_add (pv 3) (pe_op op_mul pe_int (pv 2))) (pv 1)) pa_nil)) pe_int))
      (pss_cons (ps_set (i := 3) sc_l_mixed.nd rfl (Or.inl rfl) (pe_op op_mod (pe_callTy call_int1 (by rfl) T.b_int (by decide +kernel) (pa_cons (pe_op op_add (pe_op op_mul (pv 3) (pv 3)) pe_int) pa_nil)) pe_int))
      (pss_one (ps_ret (pe_op op_mod (pe_callTy call_int1 (by rfl) T.b_int (by decide +kernel) (pa_cons (pe_op op_mul (pv 3) pe_int) pa_nil)) pe_int)))))), ?_⟩
  refine ⟨_, rfl, _, _, rfl, rfl, .inl ⟨by omega, by omega⟩, _, rfl, _, _, rfl, rfl, .inl ⟨by omega, by omega⟩, _, rfl, _, _, rfl, rfl, .inr ⟨by omega, by omega⟩, _, _, rfl, rfl, ?_⟩
  generalize s * 69069 + 104729 * n * n = m0
  refine ⟨_, rfl, _, rfl, _, _, rfl, rfl, .inl ⟨by omega, by omega⟩, _, _, rfl, rfl, _, rfl, _, _, rfl, rfl, .inl ⟨_, rfl, _, _, rfl, rfl, (by decide : (0 : Int) < 2147483647), ?_⟩⟩
  have b0 := Int.emod_nonneg (m0 + 7919 * a + n) (show (2147483647 : Int) ≠ 0 by decide)
  have b1 := Int.emod_lt_of_pos (m0 + 7919 * a + n) (show (0 : Int) < 2147483647 by decide)
  generalize (m0 + 7919 * a + n) % 2147483647 = m1 at b0 b1 ⊢
  refine ⟨_, rfl, _, rfl, _, _, rfl, rfl, .inl ⟨by omega, by omega⟩, _, _, rfl, rfl, .inl ⟨_, rfl, _, _, rfl, rfl, (by decide : (0 : Int) < 2147483629), ?_⟩⟩
  have c0 := Int.emod_nonneg (m1 * m1 + 40503) (show (2147483629 : Int) ≠ 0 by decide)
  have c1 := Int.emod_lt_of_pos (m1 * m1 + 40503) (show (0 : Int) < 2147483629 by decide)
  generalize (m1 * m1 + 40503) % 2147483629 = m2 at c0 c1 ⊢
  refine ⟨_, rfl, _, _, rfl, rfl, .inl ⟨by omega, by omega⟩, .inl ⟨_, rfl, _, _, rfl, rfl, (by decide : (0 : Int) < 2147483587), ?_⟩⟩
  exact q _ (Int.emod_nonneg _ (by decide))
def sp_l_draw : Sp := fun vs H Q _ => ∃ (p : Addr) (m : Int) (k : Nat) (S : Hp), vs = [.ref p, .int m] ∧ 1 ≤ m ∧ m ≤ 1000 ∧ Pst p k S H ∧ k ≤ 90000 ∧ ∀ H' (r : Int), 0 ≤ r → r < m → Pst p (k + 1) S H' → Q (.int r) H'
theorem sc_l_draw : FnScope ["_law_purse_here", "_law_many", "_law_drawn", "_law_found", "_law_piece"] ["_law_purse_here", "_law_many"] (defScope s_l_draw) := ⟨rfl, rfl, rfl, by decide +kernel, rfl, by decide +kernel, by decide +kernel⟩
theorem ok_l_draw (T : Tx K mg C) : Ok P w K mg base 2 "_law_draw" ["_law_purse_here", "_law_many"] (sp_l_draw) := by
  obtain ⟨f_l_mixed, fd_l_mixed, G_l_mixed, m_l_mixed, k_l_mixed, b_l_mixed⟩ := ok_l_mixed (P := P) (w := w) (base := base) T
  refine ok_mk T.d_l_draw sc_l_draw (fun vs H Q E h => ?_) (fun _ _ _ _ _ _ us hl => match us, hl with | [_, _], _ => rfl) (fun f cdv A outer s H vs Q E hr h => ?_)
  · obtain ⟨p, m, k, S, rfl, _⟩ := h
    rfl
  have hu := hu_of hr
  have hu64 := hr.units
  obtain ⟨p, m, k, S, rfl, m1, m2, x, hk, q⟩ := h
  refine ⟨_, (pss_cons (ps_if (pt_cmpR op_gt (pe_ix ix_list (pv 0) pe_int (fun _ _ => rfl)) pe_int (nomark _)) (pss_cons (ps_set (i := 2) sc_l_draw.nd rfl (Or.inl rfl) (pe_op op_mod (pe_callTy call_int1 (by rfl) T.b_int (by decide +kernel) (pa_cons (pe_ix ix_list (pv 0) pe_int (fun _ _ => rfl)) pa_nil)) (pv 1)))
      (pss_cons (ps_asg (pe_op op_fdiv (pe_ix ix_list (pv 0) pe_int (fun _ _ => rfl)) (pv 1)) (pg_sub (pv 0) pe_int set_list))
      (pss_one (ps_ret (pv 2))))) pss_nil)
      (pss_cons (ps_set (i := 3) sc_l_draw.nd rfl (Or.inl rfl) pe_int)
      (pss_cons (ps_for PassesOwn.never rfl (pi_range1 (by rfl) T.b_range (pa_cons (pe_op op_add pe_int (pe_op op_fdiv (pe_bits (pv 1)) pe_int)) pa_nil)) (pg_name (i := 4) sc_l_draw.nd rfl (Or.inl rfl)) (pss_cons (ps_asg (pe_op op_add (pe_ix ix_list (pv 0) pe_int (fun _ _ => rfl)) pe_int) (pg_sub (pv 0) pe_int set_list))
      (pss_one (ps_set (i := 3) sc_l_draw.nd rfl (Or.inl rfl) (pe_op op_add (pe_op op_mul (pv 3) pe_int) (pe_call G_l_mixed (hr.mono (by decide)) (by rfl) m_l_mixed k_l_mixed b_l_mixed .nil pass0 (pa_cons (pe_ix ix_list (pv 0) pe_int (fun _ _ => rfl)) (pa_cons (pe_ix ix_list (pv 0) pe_int (fun _ _ => rfl)) (pa_cons (pe_ix ix_list (pv 0) pe_int (fun _ _ => rfl)) pa_nil)))))))))
      (pss_one (ps_ret (pe_op op_mod (pe_callTy call_int1 (by rfl) T.b_int (by decide +kernel) (pa_cons (pv 3) pa_nil)) (pv 1))))))), ?_⟩
  obtain ⟨u, s, n, a, hp, u0, s0, s1, n0, n1, a0, a1⟩ := id x.pu
  refine ⟨_, rfl, p, _, _, _, rfl, rfl, SqL.of hp, atI_nat (j := 0) rfl, _, _, rfl, rfl, _, rfl, ite2 (fun c => ?_) (fun c => ?_)⟩
  · -- the purse holds something
    refine ⟨_, rfl, p, _, _, _, rfl, rfl, SqL.of hp, atI_nat (j := 0) rfl, .inl ⟨_, rfl, _, rfl, _, _, rfl, rfl, (by omega : (0 : Int) < m), ?_⟩⟩
    refine ⟨_, rfl, p, _, _, _, rfl, rfl, SqL.of hp, atI_nat (j := 0) rfl, _, rfl, _, _, rfl, rfl, ⟨by omega, by omega⟩, ?_⟩
    refine ⟨_, rfl, p, _, _, 0, rfl, rfl, hp, rfl, ?_⟩
    refine ⟨_, rfl, q _ _ (Int.emod_nonneg _ (by omega)) (Int.emod_lt_of_pos _ (by omega)) ?_⟩
    exact x.put (Int.ediv_nonneg u0 (by omega)) s0 s1 n0 (by omega) a0 a1
  · -- by mixing
    have hb : Builtin.Int.intBits m ≤ 10 := PyProof.Rows.intBits_le (by omega)
    refine ⟨_, rfl, _, rfl, _, _, rfl, rfl, ⟨by decide, by decide⟩, _, _, rfl, rfl, (1 : Int), ?_, by decide, by decide, ?_⟩
    · have e : ((Builtin.Int.intBits m : Nat) : Int) / 28 = 0 := by omega
      show [V.int (1 + ((Builtin.Int.intBits m : Nat) : Int) / 28)] = [V.int 1]
      rw [e]
      rfl
    refine for_range (lo := 0) (n := 1) (fun i σ H' => ∃ y f, σ = [some (.ref p), some (.int m), none, some (.int f), y] ∧ 0 ≤ f ∧ Pst p (k + i) S H') ⟨none, 0, rfl, by decide, x⟩ ?_ ?_
    · rintro i σ H' hi ⟨y, f, rfl, f0, x'⟩
      obtain ⟨u, s, n, a, hp, u0, s0, s1, n0, n1, a0, a1⟩ := id x'.pu
      refine ⟨_, rfl, p, _, _, _, rfl, rfl, SqL.of hp, atI_nat (j := 2) rfl, _, _, rfl, rfl, _, rfl, p, _, _, 2, rfl, rfl, hp, rfl, ?_⟩
      have x2 : Pst p (k + i + 1) S (upd H' p (.lst [.int u, .int s, .int (n + 1), .int a])) := x'.put u0 s0 s1 (by omega) (by omega) a0 a1
      refine ⟨_, rfl, _, _, rfl, rfl, .inr ⟨by decide, by decide⟩, ?_⟩
      refine ⟨_, rfl, p, _, _, _, rfl, rfl, SqL.of upd_same, atI_nat (j := 1) rfl, _, rfl, p, _, _, _, rfl, rfl, SqL.of upd_same, atI_nat (j := 2) rfl, _, rfl, p, _, _, _, rfl, rfl, SqL.of upd_same, atI_nat (j := 3) rfl, ?_⟩
      refine ⟨s, n + 1, a, rfl, s0, s1, by omega, by omega, a0, a1, fun r r0 => ?_⟩
      exact ⟨_, _, rfl, rfl, _, _, rfl, by show (0 : Int) ≤ f * 2147483587 + r; omega, x2⟩
    · rintro σ H' ⟨y, f, rfl, f0, x'⟩
      exact ⟨_, rfl, .inl ⟨_, rfl, _, rfl, _, _, rfl, rfl, (by omega : (0 : Int) < m), q _ _ (Int.emod_nonneg _ (by omega)) (Int.emod_lt_of_pos _ (by omega)) x'⟩⟩
def sp_l_one_of : Sp := fun vs H Q _ => ∃ (p l : Addr) (ns : List Int) (k : Nat) (S : Hp), vs = [.ref p, .ref l] ∧ IL S l ns ∧ 1 ≤ ns.length ∧ ns.length ≤ 1000 ∧ Pst p k S H ∧ k ≤ 90000 ∧ ∀ H' (r : Int), r ∈ ns → Pst p (k + 1) S H' → Q (.int r) H'
theorem sc_l_one_of : FnScope ["_law_purse_here", "_law_some"] ["_law_purse_here", "_law_some"] (defScope s_l_one_of) := ⟨rfl, rfl, rfl, by decide +kernel, rfl, by decide +kernel, by decide +kernel⟩
theorem ok_l_one_of (T : Tx K mg C) : Ok P w K mg base 3 "_law_one_of" ["_law_purse_here", "_law_some"] (sp_l_one_of) := by
  obtain ⟨f_l_draw, fd_l_draw, G_l_draw, m_l_draw, k_l_draw, b_l_draw⟩ := ok_l_draw (P := P) (w := w) (base := base) T
  refine ok_mk T.d_l_one_of sc_l_one_of (fun vs H Q E h => ?_) (fun _ _ _ _ _ _ us hl => match us, hl with | [_, _], _ => rfl) (fun f cdv A outer s H vs Q E hr h => ?_)
  · obtain ⟨p, l, ns, k, S, rfl, _⟩ := h
    rfl
  have hu := hu_of hr
  have hu64 := hr.units
  obtain ⟨p, l, ns, k, S, rfl, hl, l1, l2, x, hk, q⟩ := h
  refine ⟨_, (pss_one (ps_ret (pe_ix ix_list (pv 1) (pe_call G_l_draw (hr.mono (by decide)) (by rfl) m_l_draw k_l_draw b_l_draw .nil pass0 (pa_cons (pv 0) (pa_cons (pe_callB call_len_seq (by rfl) T.b_len PySem.boot_len (pa_cons (pv 1) pa_nil)) pa_nil))) (fun _ _ => rfl)))), ?_⟩
  refine ⟨_, rfl, _, rfl, _, rfl, l, _, rfl, .inl (hl.mono x.same).sq, p, _, k, S, rfl, ?_, ?_, x, hk, fun H' r r0 r1 x' => ?_⟩
  · rw [List.length_map]; omega
  · rw [List.length_map]; omega
  rw [List.length_map] at r1
  obtain ⟨j, rfl⟩ : ∃ j : Nat, r = (j : Int) := ⟨r.toNat, by omega⟩
  have hj : j < ns.length := by omega
  exact ⟨l, _, _, _, rfl, rfl, (hl.mono x'.same).sq, map_at hj, q _ _ (mem_getD hj) x'⟩
end
end K4

set_option maxHeartbeats 4000000
namespace K4
open PySem PySem.Spec PyProof.Rows L2
/-! ### the static part takes an object in, an object outside it changes -/
theorem Pst.add {p q : Addr} {k : Nat} {S H : Hp} {o : HO} (x : Pst p k S H) (h : H q = some o) (n : q ≠ p) : Pst p k (upd S q o) H := by
  refine ⟨fun b z e => ?_, by rw [upd_ne n.symm]; exact x.out, x.pu⟩
  by_cases hb : b = q
  · subst hb
    rw [upd_same] at e
    rw [← e]
    exact h
  · rw [upd_ne hb] at e
    exact x.same _ _ e
theorem Pst.mut {p q : Addr} {k : Nat} {S H : Hp} {o : HO} (x : Pst p k S H) (n : q ≠ p) (h : S q = none) : Pst p k S (upd H q o) := by
  obtain ⟨u, s, m, a, h1, h2⟩ := x.pu
  refine ⟨fun b z e => ?_, x.out, u, s, m, a, by rw [upd_ne n.symm]; exact h1, h2⟩
  rw [upd_ne (ne_of_none e h)]
  exact x.same _ _ e
theorem Pst.ne {p q : Addr} {k : Nat} {S H : Hp} {o : HO} (x : Pst p k S H) (h : S q = some o) : q ≠ p := fun z => by
  rw [z, x.out] at h
  cases h
theorem Pst.neN {p q : Addr} {k : Nat} {S H : Hp} (x : Pst p k S H) (h : H q = none) : q ≠ p := fun z => by
  obtain ⟨u, s, m, a, h1, _⟩ := x.pu
  rw [z, h1] at h
  cases h
/-- a drawn house of n places -/
structure Hb (n : Nat) (bs rs : List Int) : Prop where
  n1 : 1 ≤ n
  n8 : n ≤ 8
  bl : bs.length + 1 = n
  rl : rs.length = n
  b2 : ∀ b ∈ bs, 2 ≤ b
  b60 : ∀ b ∈ bs, b ≤ 60
  r0 : ∀ r ∈ rs, 0 ≤ r
  r60 : ∀ r ∈ rs, r ≤ 60
theorem Hb.good {n : Nat} {bs rs : List Int} (h : Hb n bs rs) : Good bs rs :=
  ⟨h.b2, fun b hb => by have := h.b60 b hb; omega, h.r0, fun r hr => by have := h.r60 r hr; omega, by rw [h.rl, h.bl], by have := h.bl; have := h.n8; omega⟩
section
variable {P : Program} {w : World} {K : PySem.W.Frag} {mg : Str → Option Value} {base : Heap} {C : Addr}
/-! ### the purses -/
def sp_l_purses (K : PySem.W.Frag) : Sp := fun vs H Q _ => ∃ (a : Addr) (ns : List Int), vs = [.ref a, .int 2] ∧ SqL K H a (ns.map V.int) ∧ ns.length ≤ 63 ∧
  ∀ (H' : Hp) (l : Addr) (ps : List Addr), Same H H' → H l = none → H' l = some (.lst (ps.map V.ref)) → ps.length ≤ 2 → ps.Nodup → (∀ p ∈ ps, H p = none ∧ p ≠ l ∧ Purse H' p 0) → Q (.ref l) H'
theorem sc_l_purses : FnScope ["_law_script", "_law_few", "_law_at"] ["_law_script", "_law_few"] (defScope s_l_purses) := ⟨rfl, rfl, rfl, by decide +kernel, rfl, by decide +kernel, by decide +kernel⟩
theorem ok_l_purses (T : Tx K mg C) : Ok P w K mg base 2 "_law_purses" ["_law_script", "_law_few"] (sp_l_purses K) := by
  obtain ⟨f_l_purse, fd_l_purse, G_l_purse, m_l_purse, k_l_purse, b_l_purse⟩ := ok_l_purse (P := P) (w := w) (base := base) T
  refine ok_mk T.d_l_purses sc_l_purses (fun vs H Q E h => ?_) (fun _ _ _ _ _ _ us hl => match us, hl with | [_, _], _ => rfl) (fun f cdv A outer s H vs Q E hr h => ?_)
  · obtain ⟨a, ns, rfl, _⟩ := h
    rfl
  have hu := hu_of hr
  have hu64 := hr.units
  obtain ⟨a, ns, rfl, hS, hn, q⟩ := h
  refine ⟨_, (pss_one (ps_ret (pe_lc (own := [("_law_at", 2)]) rfl sc_l_purses.nd (pi_range1 (by rfl) T.b_range (pa_cons (pe_callB (call_max2 rfl) (by rfl) T.b_max (by decide +kernel) (pa_cons pe_int (pa_cons (pe_callB (call_min2 rfl) (by rfl) T.b_min (by decide +kernel) (pa_cons (pv 1) (pa_cons (pe_callB call_len_seq (by rfl) T.b_len PySem.boot_len (pa_cons (pv 0) pa_nil)) pa_nil))) pa_nil))) pa_nil)) (blkOk_by (own := [("_law_at", 2)]) (N := ["_law_script", "_law_few", "_law_at"]) (sc := defScope s_l_purses) (by decide +kernel)) (fun _ _ _ _ _ => (pg_name (i := 2) sc_l_purses.nd rfl (Or.inl rfl) (hf := Or.inr rfl))) (fun _ _ _ _ _ => pts_nil) (fun _ _ _ _ _ => (pe_call G_l_purse (hr.mono (by decide)) (by rfl) m_l_purse k_l_purse b_l_purse .nil pass0 (pa_cons (pv 0) (pa_cons (pv 2) pa_nil))))))), ?_⟩
  refine ⟨_, rfl, _, rfl, a, _, rfl, .inl hS, _, _, rfl, _, _, rfl, ?_⟩
  obtain ⟨t, et, t2⟩ : ∃ t : Nat, (if (if (((ns.map V.int).length : Nat) : Int) < 2 then (((ns.map V.int).length : Nat) : Int) else 2) > 1 then (if (((ns.map V.int).length : Nat) : Int) < 2 then (((ns.map V.int).length : Nat) : Int) else 2) else 1) = (t : Int) ∧ t ≤ 2 :=
    ⟨(if (if (((ns.map V.int).length : Nat) : Int) < 2 then (((ns.map V.int).length : Nat) : Int) else 2) > 1 then (if (((ns.map V.int).length : Nat) : Int) < 2 then (((ns.map V.int).length : Nat) : Int) else 2) else 1).toNat, by split <;> split <;> omega, by split <;> split <;> omega⟩
  refine ⟨(t : Int), by rw [et], by omega, by omega, fun D hD => ?_⟩
  refine lc_range (lo := 0) (n := ((t : Int)).toNat) (fun i H' => ∃ ps : List Addr, Same H H' ∧ H' D = some (.lst (ps.map V.ref)) ∧ ps.length = i ∧ ps.Nodup ∧ ∀ p ∈ ps, H p = none ∧ p ≠ D ∧ Purse H' p 0)
    ⟨[], same_upd hD, upd_same, rfl, List.nodup_nil, fun p hp => by cases hp⟩ ?_ ?_
  · rintro i H1 hi ⟨ps, s, e, el, nd, hp⟩
    refine ⟨rfl, _, rfl, _, rfl, a, _, ns, rfl, s.seq hS, by omega, by omega, fun H2 p s2 hpn pu => ⟨_, s2 _ _ e, ?_, ps ++ [p], fun c o hc => ?_, ?_, ?_, ?_, ?_⟩⟩
    · rw [List.length_map]
      exact small1000 (by omega)
    · rw [upd_ne (ne_of_none hc hD)]
      exact s2 _ _ (s _ _ hc)
    · rw [upd_same, List.map_append]
      rfl
    · rw [List.length_append, el]
      rfl
    · refine List.nodup_append.mpr ⟨nd, List.nodup_cons.mpr ⟨by simp, List.nodup_nil⟩, fun u hu' v hv => ?_⟩
      rw [List.mem_singleton.mp hv]
      obtain ⟨_, _, _, _, _, _, h1, _⟩ := hp u hu'
      exact ne_of_none h1 hpn
    · intro u hu'
      have npD : p ≠ D := (ne_of_none e hpn).symm
      rcases List.mem_append.mp hu' with hu' | hu'
      · obtain ⟨h1, h2, x, y, z, b, h3, h4⟩ := hp u hu'
        exact ⟨h1, h2, x, y, z, b, by rw [upd_ne h2]; exact s2 _ _ h3, h4⟩
      · rw [List.mem_singleton.mp hu']
        obtain ⟨x, y, z, b, h3, h4⟩ := pu
        exact ⟨s.free hpn, npD, x, y, z, b, by rw [upd_ne npD]; exact h3, h4⟩
  · rintro H1 ⟨ps, s, e, el, nd, hp⟩
    exact q H1 D ps s hD e (by omega) nd hp
/-! ### a drawn house -/
def menu : List Int := [2, 2, 2, 3, 3, 4, 5, 10, 12, 60]
theorem menu_ok : ∀ b ∈ menu, 2 ≤ b ∧ b ≤ 60 := by decide
def sp_l_house : Sp := fun vs H Q _ => ∃ (p : Addr) (n : Int) (k : Nat) (S : Hp), vs = [.ref p, .int n] ∧ 1 ≤ n ∧ n ≤ 8 ∧ Pst p k S H ∧ k ≤ 80000 ∧
  ∀ (H' S' : Hp) (l b r : Addr) (bs rs : List Int), Same S S' → S r = none → S' l = some (.lst [.ref b, .ref r]) → IL S' b bs → IL S' r rs → Hb n.toNat bs rs → Pst p (k + 40) S' H' → Q (.ref l) H'
theorem sc_l_house : FnScope ["_law_purse_here", "_law_places", "_law_bases", "_law_rooms", "_law_base", "_law_some", "_law_at"] ["_law_purse_here", "_law_places"] (defScope s_l_house) := ⟨rfl, rfl, rfl, by decide +kernel, rfl, by decide +kernel, by decide +kernel⟩
theorem ok_l_house (T : Tx K mg C) : Ok P w K mg base 4 "_law_house" ["_law_purse_here", "_law_places"] (sp_l_house) := by
  obtain ⟨f_l_one_of, fd_l_one_of, G_l_one_of, m_l_one_of, k_l_one_of, b_l_one_of⟩ := ok_l_one_of (P := P) (w := w) (base := base) T
  obtain ⟨f_l_draw, fd_l_draw, G_l_draw, m_l_draw, k_l_draw, b_l_draw⟩ := ok_l_draw (P := P) (w := w) (base := base) T
  refine ok_mk T.d_l_house sc_l_house (fun vs H Q E h => ?_) (fun _ _ _ _ _ _ us hl => match us, hl with | [_, _], _ => rfl) (fun f cdv A outer s H vs Q E hr h => ?_)
  · obtain ⟨p, n, k, S, rfl, _⟩ := h
    rfl
  have hu := hu_of hr
  have hu64 := hr.units
  obtain ⟨p, n, k, S, rfl, n1, n8, x, hk, q⟩ := h
  refine ⟨_, (pss_cons (ps_setLc (i := 2) (own := [("_law_at", 6)]) rfl sc_l_house.nd rfl rfl (sw_true rfl rfl rfl (by decide +kernel)) (pi_range1 (by rfl) T.b_range (pa_cons (pe_op op_sub (pv 1) pe_int) pa_nil)) (blkOk_by (own := [("_law_at", 6)]) (N := ["_law_purse_here", "_law_places", "_law_bases", "_law_rooms", "_law_base", "_law_some", "_law_at"]) (sc := defScope s_l_house) (by decide +kernel)) (fun _ _ _ _ _ => (pg_name (i := 6) sc_l_house.nd rfl (Or.inl rfl) (hf := Or.inr rfl))) (fun _ _ _ _ _ => pts_nil) (fun _ _ _ _ _ => (pe_call G_l_one_of (hr.mono (by decide)) (by rfl) m_l_one_of k_l_one_of b_l_one_of .nil pass0 (pa_cons (pv 0) (pa_cons (pe_lst (pa_cons pe_int (pa_cons pe_int (pa_cons pe_int (pa_cons pe_int (pa_cons pe_int (pa_cons pe_int (pa_cons pe_int (pa_cons pe_int (pa_cons pe_int (pa_cons pe_int pa_nil))))))))))) pa_nil)))))
      (pss_cons (ps_set (i := 3) sc_l_house.nd rfl (Or.inl rfl) (pe_lst pa_nil))
      (pss_cons (ps_for PassesOwn.never rfl (pi_list (pe_op op_cat (pv 2) (pe_lst (pa_cons pe_int pa_nil)))) (pg_name (i := 4) sc_l_house.nd rfl (Or.inl rfl)) (pss_cons (ps_set (i := 5) sc_l_house.nd rfl (Or.inl rfl) (pe_lst (pa_cons pe_int (pa_cons pe_int (pa_cons (pe_op op_sub (pv 4) pe_int) (pa_cons (pv 4) (pa_cons (pe_op op_add (pv 4) pe_int) (pa_cons (pe_op op_sub (pe_op op_mul pe_int (pv 4)) pe_int) (pa_cons (pe_op op_mul pe_int (pv 4)) pa_nil)))))))))
      (pss_one (ps_expr (pe_bm PySem.F.plainAttrs_list PySem.F.slot_list_append PySem.F.type_list_append mt_append (pv 3) (pa_cons (pe_callB (call_min2 rfl) (by rfl) T.b_min (by decide +kernel) (pa_cons pe_int (pa_cons (pe_call G_l_one_of (hr.mono (by decide)) (by rfl) m_l_one_of k_l_one_of b_l_one_of .nil pass0 (pa_cons (pv 0) (pa_cons (pe_op op_cat (pv 5) (pe_lst (pa_cons (pe_call G_l_draw (hr.mono (by decide)) (by rfl) m_l_draw k_l_draw b_l_draw .nil pass0 (pa_cons (pv 0) (pa_cons (pe_op op_add (pe_op op_mul pe_int (pv 4)) pe_int) pa_nil))) (pa_cons (pe_call G_l_draw (hr.mono (by decide)) (by rfl) m_l_draw k_l_draw b_l_draw .nil pass0 (pa_cons (pv 0) (pa_cons (pe_op op_mul pe_int (pv 4)) pa_nil))) pa_nil)))) pa_nil))) pa_nil))) pa_nil))))))
      (pss_one (ps_ret (pe_lst (pa_cons (pv 2) (pa_cons (pv 3) pa_nil)))))))), ?_⟩
  -- the bases
  refine ⟨_, rfl, _, _, rfl, rfl, n - 1, rfl, by omega, by omega, fun D hD => ?_⟩
  have nD : D ≠ p := x.neN hD
  have sD : S D = none := x.same.free hD
  refine lc_range (lo := 0) (n := (n - 1).toNat) (fun i H' => ∃ bs : List Int, Pst p (k + i) S H' ∧ IL H' D bs ∧ bs.length = i ∧ ∀ b ∈ bs, 2 ≤ b ∧ b ≤ 60)
    ⟨[], x.mut nD sD, upd_same, rfl, fun b hb => by cases hb⟩ ?_ ?_
  · rintro i H1 hi ⟨bs, x1, hb, el, hbs⟩
    refine ⟨rfl, _, rfl, by show 10 ≤ sizeLine; decide, fun l hl => ?_⟩
    have x2 := (x1.add hb nD).new (o := .lst (menu.map V.int)) hl
    refine ⟨p, l, menu, _, _, rfl, upd_same, by decide, by decide, x2, by omega, fun H3 r hr x3 => ?_⟩
    have hD3 : IL H3 D bs := x3.same _ _ (by rw [upd_ne (ne_of_none hb hl), upd_same])
    have s3 : Same S (upd (upd S D (.lst (bs.map V.int))) l (.lst (menu.map V.int))) := (same_upd sD).trans (same_upd ((x1.add hb nD).same.free hl))
    refine ⟨_, hD3, ?_, bs ++ [r], (x3.less s3).mut nD sD, ?_, ?_, fun b hb' => ?_⟩
    · rw [List.length_map]
      exact small1000 (by omega)
    · show _ = _
      rw [upd_same, List.map_append]
      rfl
    · rw [List.length_append, el]
      rfl
    · rcases List.mem_append.mp hb' with hb' | hb'
      · exact hbs b hb'
      · rw [List.mem_singleton.mp hb']
        exact menu_ok r hr
  rintro H1 ⟨bs, x1, hb, el, hbs⟩
  have xA := x1.add hb nD
  have sA : Same S (upd S D (.lst (bs.map V.int))) := same_upd sD
  have iA : IL (upd S D (.lst (bs.map V.int))) D bs := upd_same
  generalize upd S D (.lst (bs.map V.int)) = S1 at xA sA iA
  -- the rooms
  refine ⟨Nat.zero_le _, fun r hr0 => ?_⟩
  have nr : r ≠ p := xA.neN hr0
  have sr : S1 r = none := xA.same.free hr0
  have x2 : Pst p (k + (n - 1).toNat) S1 (upd H1 r (.lst [])) := xA.mut nr sr
  have h2 : IL (upd H1 r (.lst [])) r [] := upd_same
  generalize upd H1 r (.lst []) = H2 at x2 h2
  refine ⟨_, rfl, by show 1 ≤ sizeLine; decide, fun u hu' => ?_⟩
  have x3 := (x2.add h2 nr).new (o := .lst [.int 4]) hu'
  have eD : (upd (upd S1 r (.lst [])) u (.lst [.int 4])) D = some (.lst (bs.map V.int)) := by
    rw [upd_ne (ne_of_none (x2.same _ _ iA) hu'), upd_ne (ne_of_none iA sr)]
    exact iA
  refine ⟨D, u, _, _, rfl, rfl, x3.same _ _ eD, upd_same, ?_, fun L hL => ?_⟩
  · rw [List.length_map]
    exact Nat.le_of_lt (small1000 (by show bs.length + 1 ≤ 1000; omega))
  have eL : bs.map V.int ++ [V.int 4] = (bs ++ [4]).map V.int := by
    rw [List.map_append]
    rfl
  rw [eL]
  have x4 : Pst p (k + (n - 1).toNat) (upd (upd (upd S1 r (.lst [])) u (.lst [.int 4])) L (.lst ((bs ++ [4]).map V.int))) (upd (upd H2 u (.lst [.int 4])) L (.lst ((bs ++ [4]).map V.int))) := x3.new hL
  have hR : IL (upd (upd H2 u (.lst [.int 4])) L (.lst ((bs ++ [4]).map V.int))) r [] := by
    refine x4.same _ _ ?_
    have nru : r ≠ u := ne_of_none h2 hu'
    have nrL : r ≠ L := ne_of_none (show (upd H2 u (.lst [.int 4])) r = some (.lst []) by rw [upd_ne nru]; exact h2) hL
    rw [upd_ne nrL, upd_ne nru, upd_same]
    rfl
  have nLr : L ≠ r := fun z => by
    rw [z, upd_ne (ne_of_none h2 hu')] at hL
    rw [h2] at hL
    cases hL
  have sL : S1 L = none := x2.same.free (by
    by_cases z : L = u
    · rw [z]
      exact hu'
    · rw [upd_ne z] at hL
      exact hL)
  have x5 : Pst p (k + (n - 1).toNat) (upd S1 L (.lst ((bs ++ [4]).map V.int))) (upd (upd H2 u (.lst [.int 4])) L (.lst ((bs ++ [4]).map V.int))) := by
    refine x4.less fun c o hc => ?_
    by_cases z : c = L
    · subst z
      rw [upd_same] at hc ⊢
      exact hc
    · rw [upd_ne z] at hc ⊢
      have n1 : c ≠ u := ne_of_none (x2.same _ _ hc) hu'
      have n2 : c ≠ r := ne_of_none hc sr
      rw [upd_ne n1, upd_ne n2]
      exact hc
  have s5 : Same S1 (upd S1 L (.lst ((bs ++ [4]).map V.int))) := same_upd sL
  have iL : IL (upd S1 L (.lst ((bs ++ [4]).map V.int))) L (bs ++ [4]) := upd_same
  have r5 : (upd S1 L (.lst ((bs ++ [4]).map V.int))) r = none := by
    rw [upd_ne nLr.symm]
    exact sr
  generalize upd S1 L (.lst ((bs ++ [4]).map V.int)) = S5 at x5 s5 iL r5
  generalize upd (upd H2 u (.lst [.int 4])) L (.lst ((bs ++ [4]).map V.int)) = H5 at x5 hR x4
  clear x4 x3 eD
  refine ⟨L, rfl, ⟨_, (iL.mono x5.same).sq⟩, ?_⟩
  refine for_list (K := K) (a := L) (xs := (bs ++ [4]).map V.int) (fun i σ H' => ∃ y z rs, σ = [some (.ref p), some (.int n), some (.ref D), some (.ref r), y, z, none] ∧ Pst p (k + (n - 1).toNat + 3 * i) S5 H' ∧ IL H' r rs ∧ rs.length = i ∧ ∀ v ∈ rs, 0 ≤ v ∧ v ≤ 60)
    ⟨none, none, [], rfl, x5, hR, rfl, fun v hv => by cases hv⟩ (fun i σ H' _ ⟨_, _, _, _, x6, _⟩ => (iL.mono x6.same).sq) ?_ ?_
  · rintro i v σ H6 hi ⟨y, z, rs, rfl, x6, hR6, lr, hrs⟩
    obtain ⟨b, rfl, hb1, mb⟩ := int_at hi
    have bb : 2 ≤ b ∧ b ≤ 60 := by
      rcases List.mem_append.mp mb with m | m
      · exact hbs b m
      · rw [List.mem_singleton.mp m]
        decide
    have li : i < n.toNat := by
      have := (List.getElem?_eq_some_iff.mp hb1).1
      rw [List.length_append, el] at this
      have e1 : ([4] : List Int).length = 1 := rfl
      omega
    refine ⟨_, rfl, _, _, rfl, rfl, _, rfl, _, rfl, _, _, rfl, rfl, _, rfl, _, _, rfl, rfl, .inl ⟨by decide, by decide⟩, _, _, rfl, rfl, _, rfl, _, _, rfl, rfl, .inl ⟨by decide, by decide⟩, by show 7 ≤ sizeLine; decide, fun s hs => ?_⟩
    have x7 := (x6.add hR6 nr).new (o := .lst (([0, 1, b - 1, b, b + 1, 2 * b - 1, 2 * b] : List Int).map V.int)) hs
    have sS : Same S5 (upd (upd S5 r (.lst (rs.map V.int))) s (.lst (([0, 1, b - 1, b, b + 1, 2 * b - 1, 2 * b] : List Int).map V.int))) := (same_upd r5).trans (same_upd ((x6.add hR6 nr).same.free hs))
    have nrs : r ≠ s := ne_of_none hR6 hs
    have i7 : IL (upd (upd S5 r (.lst (rs.map V.int))) s (.lst (([0, 1, b - 1, b, b + 1, 2 * b - 1, 2 * b] : List Int).map V.int))) r rs := by
      show _ = _
      rw [upd_ne nrs, upd_same]
    have j7 : IL (upd (upd S5 r (.lst (rs.map V.int))) s (.lst (([0, 1, b - 1, b, b + 1, 2 * b - 1, 2 * b] : List Int).map V.int))) s [0, 1, b - 1, b, b + 1, 2 * b - 1, 2 * b] := upd_same
    generalize upd (upd S5 r (.lst (rs.map V.int))) s (.lst (([0, 1, b - 1, b, b + 1, 2 * b - 1, 2 * b] : List Int).map V.int)) = S7 at x7 sS i7 j7
    refine ⟨_, rfl, .inl ⟨rfl, _, (i7.mono x7.same).sq⟩, ?_⟩
    refine ⟨_, rfl, _, rfl, ?_⟩
    refine ⟨_, rfl, _, rfl, _, _, rfl, rfl, .inl ⟨by decide, by decide⟩, _, _, rfl, rfl, p, _, _, S7, rfl, by omega, by omega, x7, by omega, fun H8 d1 d10 d11 x8 => ?_⟩
    refine ⟨_, rfl, _, rfl, _, _, rfl, rfl, .inl ⟨by decide, by decide⟩, p, _, _, S7, rfl, by omega, by omega, x8, by omega, fun H9 d2 d20 d21 x9 => ?_⟩
    refine ⟨by show 2 ≤ sizeLine; decide, fun t ht => ?_⟩
    have x10 := x9.new (o := .lst (([d1, d2] : List Int).map V.int)) ht
    refine ⟨s, t, _, _, rfl, rfl, x10.same _ _ (by rw [upd_ne (ne_of_none (x9.same _ _ j7) ht)]; exact j7), upd_same, by show 9 ≤ sizeLine; decide, fun c hc => ?_⟩
    have x11 := x10.new (o := .lst (([0, 1, b - 1, b, b + 1, 2 * b - 1, 2 * b, d1, d2] : List Int).map V.int)) hc
    refine ⟨p, c, [0, 1, b - 1, b, b + 1, 2 * b - 1, 2 * b, d1, d2], _, _, rfl, upd_same, by show 1 ≤ 9; decide, by show 9 ≤ 1000; decide, x11, by omega, fun H12 e he x12 => ?_⟩
    have sT : Same S7 (upd S7 t (.lst (([d1, d2] : List Int).map V.int))) := x9.newS ht
    have sC : Same (upd S7 t (.lst (([d1, d2] : List Int).map V.int))) (upd (upd S7 t (.lst (([d1, d2] : List Int).map V.int))) c (.lst (([0, 1, b - 1, b, b + 1, 2 * b - 1, 2 * b, d1, d2] : List Int).map V.int))) := x10.newS hc
    have x13 := x12.less (sT.trans sC)
    have e0 : 0 ≤ e := by
      simp only [List.mem_cons, List.not_mem_nil, or_false] at he
      omega
    refine ⟨_, _, rfl, r, _, _, rfl, rfl, i7.mono x13.same, ?_, ?_⟩
    · rw [List.length_map]
      exact small1000 (by omega)
    · refine ⟨_, _, rs ++ [if e < 60 then e else 60], rfl, ((x13.less sS).mut nr r5).up (by omega), ?_, by rw [List.length_append, lr]; rfl, fun v hv => ?_⟩
      · show _ = _
        rw [upd_same, List.map_append]
        rfl
      · rcases List.mem_append.mp hv with hv | hv
        · exact hrs v hv
        · rw [List.mem_singleton.mp hv]
          split <;> omega
  · rintro σ H6 ⟨y, z, rs, rfl, x6, hR6, lr, hrs⟩
    rw [List.length_map, List.length_append, el] at lr x6
    have e1 : ([4] : List Int).length = 1 := rfl
    refine ⟨_, rfl, _, rfl, by show 2 ≤ sizeLine; decide, fun l hl => ?_⟩
    have x7 := ((x6.add hR6 nr).new (o := .lst [.ref D, .ref r]) hl)
    have nrl : r ≠ l := ne_of_none hR6 hl
    have nDl : D ≠ l := ne_of_none (x6.same _ _ (s5 _ _ iA)) hl
    have nDr : D ≠ r := ne_of_none iA sr
    refine q _ _ l D r bs rs ((sA.trans s5).trans ((same_upd r5).trans (same_upd ((x6.add hR6 nr).same.free hl)))) ((sA.trans s5).free r5) upd_same ?_ ?_ ?_ (x7.up (by omega))
    · show _ = _
      rw [upd_ne nDl, upd_ne nDr]
      exact s5 _ _ iA
    · show _ = _
      rw [upd_ne nrl, upd_same]
    · exact ⟨by omega, by omega, by omega, by omega, fun b hb => (hbs b hb).1, fun b hb => (hbs b hb).2, fun v hv => (hrs v hv).1, fun v hv => (hrs v hv).2⟩
end
end K4

set_option maxHeartbeats 4000000
namespace K4
open PySem PySem.Spec PyProof.Rows L2
/-- S without r -/
def hole (S : Hp) (r : Addr) : Hp := fun b => if b = r then none else S b
theorem hole_at (S : Hp) (r : Addr) : hole S r r = none := if_pos rfl
theorem hole_ne {S : Hp} {r b : Addr} (h : b ≠ r) : hole S r b = S b := if_neg h
theorem hole_same {S : Hp} {r : Addr} : Same (hole S r) S := fun b o h => by
  by_cases e : b = r
  · rw [e, hole_at] at h
    cases h
  · rw [hole_ne e] at h
    exact h
theorem same_hole {S0 S : Hp} {r : Addr} (e : Same S0 S) (h : S0 r = none) : Same S0 (hole S r) := fun b o hb => by
  rw [hole_ne (ne_of_none hb h)]
  exact e _ _ hb
theorem mem_set {xs : List Int} {j : Nat} {v z : Int} (h : z ∈ xs.set j v) : z ∈ xs ∨ z = v := List.mem_or_eq_of_mem_set h
section
variable {P : Program} {w : World} {K : PySem.W.Frag} {mg : Str → Option Value} {base : Heap} {C : Addr}
def sp_l_great_house : Sp := fun vs H Q _ => ∃ (p : Addr) (k : Nat) (S : Hp), vs = [.ref p] ∧ Pst p k S H ∧ k ≤ 70000 ∧
  ∀ (H' S' : Hp) (l : Addr) (n : Nat) (bs rs : List Int), Same S S' → Lh S' l bs rs → Hb n bs rs → Pst p (k + 100) S' H' → Q (.ref l) H'
theorem sc_l_great_house : FnScope ["_law_purse_here", "_law_house_here", "_law_at", "_law_base"] ["_law_purse_here"] (defScope s_l_great_house) := ⟨rfl, rfl, rfl, by decide +kernel, rfl, by decide +kernel, by decide +kernel⟩
theorem ok_l_great_house (T : Tx K mg C) : Ok P w K mg base 5 "_law_great_house" ["_law_purse_here"] (sp_l_great_house) := by
  obtain ⟨f_l_draw, fd_l_draw, G_l_draw, m_l_draw, k_l_draw, b_l_draw⟩ := ok_l_draw (P := P) (w := w) (base := base) T
  obtain ⟨f_l_house, fd_l_house, G_l_house, m_l_house, k_l_house, b_l_house⟩ := ok_l_house (P := P) (w := w) (base := base) T
  refine ok_mk T.d_l_great_house sc_l_great_house (fun vs H Q E h => ?_) (fun _ _ _ _ _ _ us hl => match us, hl with | [_], _ => rfl) (fun f cdv A outer s H vs Q E hr h => ?_)
  · obtain ⟨p, k, S, rfl, _⟩ := h
    rfl
  have hu := hu_of hr
  have hu64 := hr.units
  obtain ⟨p, k, S, rfl, x, hk, q⟩ := h
  refine ⟨_, (pss_cons (ps_set (i := 1) sc_l_great_house.nd rfl (Or.inl rfl) (pe_call G_l_house (hr.mono (by decide)) (by rfl) m_l_house k_l_house b_l_house .nil pass0 (pa_cons (pv 0) (pa_cons (pe_op op_add pe_int (pe_call G_l_draw (hr.mono (by decide)) (by rfl) m_l_draw k_l_draw b_l_draw .nil pass0 (pa_cons (pv 0) (pa_cons pe_int pa_nil)))) pa_nil))))
      (pss_cons (ps_for PassesOwn.never rfl (pi_enum (by rfl) T.b_enumerate (pa_cons (pe_ix ix_list (pv 1) pe_int (fun _ _ => rfl)) pa_nil)) (pg_tup rfl (pgs_cons (pg_name (i := 2) sc_l_great_house.nd rfl (Or.inl rfl)) (pgs_cons (pg_name (i := 3) sc_l_great_house.nd rfl (Or.inl rfl)) pgs_nil))) (pss_one (ps_if (PW.pt (pw_and (pt_cmpR op_gt (pe_call G_l_draw (hr.mono (by decide)) (by rfl) m_l_draw k_l_draw b_l_draw .nil pass0 (pa_cons (pv 0) (pa_cons pe_int pa_nil))) pe_int (nomark _)) (pw_and1 (pt_cmpR op_lt (pe_ix ix_list (pe_ix ix_list (pv 1) pe_int (fun _ _ => rfl)) (pv 2) (fun _ _ => rfl)) (pv 3) (nomark _))))) (pss_one (ps_asg (pe_callB (call_min2 rfl) (by rfl) T.b_min (by decide +kernel) (pa_cons pe_int (pa_cons (pe_op op_add (pv 3) (pe_call G_l_draw (hr.mono (by decide)) (by rfl) m_l_draw k_l_draw b_l_draw .nil pass0 (pa_cons (pv 0) (pa_cons pe_int pa_nil)))) pa_nil))) (pg_sub (pe_ix ix_list (pv 1) pe_int (fun _ _ => rfl)) (pv 2) set_list))) pss_nil)))
      (pss_one (ps_ret (pv 1))))), ?_⟩
  refine ⟨_, rfl, _, rfl, p, 4, k, S, rfl, by decide, by decide, x, by omega, fun H1 d d0 d1 x1 => ?_⟩
  refine ⟨_, _, rfl, rfl, p, _, k + 1, S, rfl, by omega, by omega, x1, by omega, fun H2 S1 l b r bs rs s1 nr hl hb hr hh x2 => ?_⟩
  have bl := hh.bl
  have rl := hh.rl
  have nlr : l ≠ r := fun z => by
    rw [z] at hl
    have h := hl.symm.trans hr
    have h2 := HO.lst.inj (Option.some.inj h)
    cases rs with
    | nil => cases h2
    | cons c cs => cases (List.cons.inj h2).1
  have nbr : b ≠ r := fun z => by
    unfold IL at hb hr
    rw [z] at hb
    have h := HO.lst.inj (Option.some.inj (hb.symm.trans hr))
    have h2 := congrArg List.length h
    rw [List.length_map, List.length_map] at h2
    omega
  have x3 : Pst p (k + 1 + 40) (hole S1 r) H2 := x2.less hole_same
  have h0 : hole S1 r r = none := hole_at _ _
  have hl0 : hole S1 r l = some (.lst [.ref b, .ref r]) := by rw [hole_ne nlr]; exact hl
  have hb0 : IL (hole S1 r) b bs := by
    show _ = _
    rw [hole_ne nbr]
    exact hb
  have s0 : Same S (hole S1 r) := same_hole s1 nr
  have npr : r ≠ p := x2.ne hr
  have hr2 : IL H2 r rs := hr.mono x2.same
  generalize hole S1 r = S2 at x3 h0 hl0 hb0 s0
  clear x2 hb hr hl s1
  refine ⟨_, rfl, l, _, _, _, rfl, rfl, SqL.of (x3.same _ _ hl0), atI_nat (j := 0) rfl, b, _, rfl, (hb0.mono x3.same).sq, ?_⟩
  refine for_it walk_enum (fun i σ H' => ∃ y z rs, σ = [some (.ref p), some (.ref l), y, z] ∧ Pst p (k + 1 + 40 + 2 * i) S2 H' ∧ IL H' r rs ∧ rs.length = bs.length + 1 ∧ ∀ v ∈ rs, 0 ≤ v ∧ v ≤ 60)
    ⟨none, none, rs, rfl, x3, hr2, by omega, fun v hv => ⟨hh.r0 v hv, hh.r60 v hv⟩⟩ (fun i σ H' _ ⟨_, _, _, _, x4, _⟩ => (hb0.mono x4.same).sq) ?_ ?_
  · rintro i v σ H3 H4 hi ⟨y, z, rs4, rfl, x4, hr4, l4, hv4⟩ ⟨t, u1, u2, rfl, nt, rfl, f1, f2⟩
    obtain ⟨c, rfl, hc, mc⟩ := int_at f2
    cases f1
    rw [List.length_map] at hi
    have n8 := hh.n8
    have c2 := hh.b2 c mc
    have c60 := hh.b60 c mc
    refine ⟨t, _, rfl, SqT.of upd_same, rfl, _, _, rfl, _, _, rfl, rfl, ?_⟩
    have x5 : Pst p (k + 1 + 40 + 2 * i) S2 (upd H3 t (.tup [.int (i : Int), .int c])) := x4.pure (same_upd nt)
    have hr5 : IL (upd H3 t (.tup [.int (i : Int), .int c])) r rs4 := hr4.mono (same_upd nt)
    refine ⟨_, rfl, p, 3, _, _, rfl, by decide, by decide, (x5.add hr5 npr), by omega, fun H6 d d0 d1 x6 => ?_⟩
    have hr6 : IL H6 r rs4 := x6.same _ _ upd_same
    have x6 := x6.less (same_upd h0)
    refine ⟨_, _, rfl, rfl, _, rfl, ite2 (fun _ => ?_) (fun _ => ?_)⟩
    · refine ⟨_, rfl, l, _, _, _, rfl, rfl, SqL.of (x6.same _ _ hl0), atI_nat (j := 1) rfl, _, rfl, r, _, _, _, rfl, rfl, hr6.sq, map_at (j := i) (by omega), _, rfl, _, _, rfl, rfl, _, rfl, ite2 (fun _ => ?_) (fun _ => ?_)⟩
      · refine ⟨_, rfl, _, rfl, p, 4, _, _, rfl, by decide, by decide, (x6.add hr6 npr), by omega, fun H7 d2 d20 d21 x7 => ?_⟩
        have hr7 : IL H7 r rs4 := x7.same _ _ upd_same
        have x7 := x7.less (same_upd h0)
        refine ⟨_, _, rfl, rfl, _, _, rfl, _, rfl, l, _, _, _, rfl, rfl, SqL.of (x7.same _ _ hl0), atI_nat (j := 1) rfl, _, rfl, r, _, _, i, rfl, rfl, hr7, Evl.ixN_nat (by rw [List.length_map]; omega), ?_⟩
        refine ⟨_, _, rs4.set i (if c + d2 < 60 then c + d2 else 60), rfl, (x7.mut npr h0).up (by omega), ?_, by rw [List.length_set]; exact l4, fun v hv => ?_⟩
        · show _ = _
          rw [upd_same, List.map_set]
        · rcases mem_set hv with hv | rfl
          · exact hv4 v hv
          · split <;> omega
      · exact ⟨_, _, rs4, rfl, x6.up (by omega), hr6, l4, hv4⟩
    · exact ⟨_, _, rs4, rfl, x6.up (by omega), hr6, l4, hv4⟩
  · rintro σ H3 ⟨y, z, rs4, rfl, x4, hr4, l4, hv4⟩
    rw [List.length_map] at x4
    have n8 := hh.n8
    refine ⟨_, rfl, q H3 _ l (5 + d).toNat bs rs4 (s0.trans (same_upd h0)) ⟨b, r, ?_, ?_, upd_same⟩ ?_ ((x4.add hr4 npr).up (by omega))⟩
    · rw [upd_ne nlr]
      exact hl0
    · show _ = _
      rw [upd_ne nbr]
      exact hb0
    · exact ⟨hh.n1, hh.n8, hh.bl, by omega, hh.b2, hh.b60, fun v hv => (hv4 v hv).1, fun v hv => (hv4 v hv).2⟩
end
end K4

set_option maxHeartbeats 4000000
namespace K4
open PySem PySem.Spec PyProof.Rows L2
section
variable {P : Program} {w : World} {K : PySem.W.Frag} {mg : Str → Option Value} {base : Heap} {C : Addr}
theorem map_setAt (xs : List Int) (i : Nat) (d : Int) : (xs.map V.int).take i ++ [V.int d] ++ (xs.map V.int).drop (i + 1) = (setAt xs i d).map V.int := by
  unfold setAt
  rw [List.map_append, List.map_append, List.map_take, List.map_drop]
  rfl
/-- house[j][:at] + [d] + house[j][at + 1:] -/
theorem seam {σ : L2.St} {H : Hp} {Q : VK} {l r : Addr} {s i : Nat} {jj d : Int} {ls : List V} {xs : List Int} {te : TE} (v1 : σ[1]? = some (some (.ref l))) (vs : σ[s]? = some (some (.int (i : Int)))) (hl : H l = some (.lst ls)) (hj : atI ls jj = some (.ref r)) (hr : IL H r xs) (hn : xs.length ≤ 400)
    (ht : ∀ H' Q', Same H H' → Q' (.int d) H' → te σ H' Q') (q : ∀ H' p, Same H H' → H p = none → IL H' p (setAt xs i d) → Q (.ref p) H') :
    tOp rCat (tOp rCat (tSl (rSlL K) (tOp (rIxL K) (tVar 1) (tC (.int jj))) tNoPart (tPart (tVar s))) (tLst (tCons te tNil))) (tSl (rSlL K) (tOp (rIxL K) (tVar 1) (tC (.int jj))) (tPart (tOp (rI0 fun i j => .int (i + j)) (tVar s) (tC (.int 1)))) tNoPart) σ H Q := by
  refine ⟨_, v1, l, _, _, _, rfl, rfl, SqL.of hl, hj, _, vs, _, rfl, r, _, rfl, hr.sq, fun a ha => ?_⟩
  have e1 := same_upd (o := .lst (cutV (xs.map V.int) none (some (i : Int)))) ha
  refine ht _ _ e1 ⟨by show 1 ≤ sizeLine; decide, fun c hc => ?_⟩
  have e2 := same_upd (o := .lst [.int d]) hc
  refine ⟨a, c, _, _, rfl, rfl, e2 _ _ upd_same, upd_same, ?_, fun u hu => ?_⟩
  · rw [cut_to, List.length_take, List.length_map]
    show _ + 1 ≤ sizeLine
    exact Nat.le_of_lt (small1000 (by omega))
  have e3 := same_upd (o := .lst (cutV (xs.map V.int) none (some (i : Int)) ++ [V.int d])) hu
  have e13 := e1.trans (e2.trans e3)
  refine ⟨_, v1, l, _, _, _, rfl, rfl, SqL.of (e13 _ _ hl), hj, _, vs, _, _, rfl, rfl, _, rfl, r, _, rfl, (hr.mono e13).sq, fun v hv => ?_⟩
  have e4 := same_upd (o := .lst (cutV (xs.map V.int) (some ((i : Int) + 1)) none)) hv
  refine ⟨u, v, _, _, rfl, rfl, e4 _ _ upd_same, upd_same, ?_, fun p hp => ?_⟩
  · rw [show ((i : Int) + 1) = ((i + 1 : Nat) : Int) by omega, cut_to, cut_from, List.length_append, List.length_take, List.length_drop, List.length_map, List.length_singleton]
    exact Nat.le_of_lt (small1000 (by omega))
  have e5 := same_upd (o := .lst (cutV (xs.map V.int) none (some (i : Int)) ++ [V.int d] ++ cutV (xs.map V.int) (some ((i : Int) + 1)) none)) hp
  refine q _ p (e13.trans (e4.trans e5)) ((e13.trans e4).free hp) ?_
  show _ = _
  rw [upd_same, show ((i : Int) + 1) = ((i + 1 : Nat) : Int) by omega, cut_to, cut_from, map_setAt]
def sp_l_places_right : Sp := fun vs H Q _ => ∃ (p l : Addr) (n k : Nat) (S : Hp) (bs rs : List Int), vs = [.ref p, .ref l] ∧ Lh S l bs rs ∧ Hb n bs rs ∧ Pst p k S H ∧ k ≤ 70000 ∧ ∀ H', Pst p (k + 100) S H' → Q (.bl true) H'
theorem sc_l_places_right : FnScope ["_law_purse_here", "_law_house_here", "_law_made_here", "_law_many", "_law_at", "_law_room", "_law_told", "_law_less", "_law_last"] ["_law_purse_here", "_law_house_here"] (defScope s_l_places_right) := ⟨rfl, rfl, rfl, by decide +kernel, rfl, by decide +kernel, by decide +kernel⟩
theorem ok_l_places_right (T : Tx K mg C) : Ok P w K mg base 8 "_law_places_right" ["_law_purse_here", "_law_house_here"] (sp_l_places_right) := by
  obtain ⟨f_l_exact, fd_l_exact, G_l_exact, m_l_exact, k_l_exact, b_l_exact⟩ := ok_l_exact (P := P) (w := w) (base := base) T
  obtain ⟨f_l_told_of, fd_l_told_of, G_l_told_of, m_l_told_of, k_l_told_of, b_l_told_of⟩ := ok_l_told_of (P := P) (w := w) (base := base) T
  obtain ⟨f_stretch, fd_stretch, G_stretch, m_stretch, k_stretch, b_stretch, w_stretch⟩ := ok_stretch (P := P) (w := w) (base := base) T
  obtain ⟨f_tightened, fd_tightened, G_tightened, m_tightened, k_tightened, b_tightened, w_tightened⟩ := ok_tightened (P := P) (w := w) (base := base) T
  obtain ⟨f_with_room, fd_with_room, G_with_room, m_with_room, k_with_room, b_with_room, w_with_room⟩ := ok_with_room (P := P) (w := w) (base := base) T
  obtain ⟨f_l_draw, fd_l_draw, G_l_draw, m_l_draw, k_l_draw, b_l_draw⟩ := ok_l_draw (P := P) (w := w) (base := base) T
  obtain ⟨f_l_made, fd_l_made, G_l_made, m_l_made, k_l_made, b_l_made⟩ := ok_l_made (P := P) (w := w) (base := base) T
  refine ok_mk T.d_l_places_right sc_l_places_right (fun vs H Q E h => ?_) (fun _ _ _ _ _ _ us hl => match us, hl with | [_, _], _ => rfl) (fun f cdv A outer s H vs Q E hr h => ?_)
  · obtain ⟨p, l, n, k, S, bs, rs, rfl, _⟩ := h
    rfl
  have hu := hu_of hr
  have hu64 := hr.units
  obtain ⟨p, l, n, k, S, bs, rs, rfl, hL, hh, x, hk, q⟩ := h
  refine ⟨_, (pss_cons (ps_par (i := 2) (j := 3) (by rfl) sc_l_places_right.nd rfl rfl (by decide) rfl rfl (pa_cons (pe_call G_l_made (hr.mono (by decide)) (by rfl) m_l_made k_l_made b_l_made .nil pass0 (pa_cons (pv 1) pa_nil)) (pa_cons (pe_callB call_len_seq (by rfl) T.b_len PySem.boot_len (pa_cons (pe_ix ix_list (pv 1) pe_int (fun _ _ => rfl)) pa_nil)) pa_nil)) (by rfl))
      (pss_cons (ps_for PassesOwn.never rfl (pi_range1 (by rfl) T.b_range (pa_cons (pv 3) pa_nil)) (pg_name (i := 4) sc_l_places_right.nd rfl (Or.inl rfl)) (pss_cons (ps_set (i := 5) sc_l_places_right.nd rfl (Or.inl rfl) (pe_call G_l_draw (hr.mono (by decide)) (by rfl) m_l_draw k_l_draw b_l_draw .nil pass0 (pa_cons (pv 0) (pa_cons pe_int pa_nil))))
      (pss_cons (ps_set (i := 6) sc_l_places_right.nd rfl (Or.inl rfl) (pe_kw G_with_room (hr.mono (by decide)) (by rfl) m_with_room k_with_room w_with_room pass0 (pk_cons (pv 5) (pk_cons (pv 4) (pk_cons (pv 2) pk_nil)))))
      (pss_cons (ps_if (pt_not (pt_val (pe_call G_l_exact (hr.mono (by decide)) (by rfl) m_l_exact k_l_exact b_l_exact .nil pass0 (pa_cons (pe_call G_l_told_of (hr.mono (by decide)) (by rfl) m_l_told_of k_l_told_of b_l_told_of .nil pass0 (pa_cons (pv 6) pa_nil)) (pa_cons (pe_lst (pa_cons (pe_ix ix_list (pv 1) pe_int (fun _ _ => rfl)) (pa_cons (pe_op op_cat (pe_op op_cat (pe_slice sl_list (pe_ix ix_list (pv 1) pe_int (fun _ _ => rfl)) po_none (po_some (pv 4))) (pe_lst (pa_cons (pv 5) pa_nil))) (pe_slice sl_list (pe_ix ix_list (pv 1) pe_int (fun _ _ => rfl)) (po_some (pe_op op_add (pv 4) pe_int)) po_none)) pa_nil))) pa_nil))))) (pss_one (ps_ret pe_bl)) pss_nil)
      (pss_cons (ps_if (pt_cmpR op_lt (pv 4) (pe_op op_sub (pv 3) pe_int) (nomark _)) (pss_cons (ps_set (i := 7) sc_l_places_right.nd rfl (Or.inl rfl) (pe_callB (call_min2 rfl) (by rfl) T.b_min (by decide +kernel) (pa_cons (pe_ix ix_list (pe_ix ix_list (pv 1) pe_int (fun _ _ => rfl)) (pv 4) (fun _ _ => rfl)) (pa_cons (pe_op op_sub (pe_ix ix_list (pe_ix ix_list (pv 1) pe_int (fun _ _ => rfl)) (pv 4) (fun _ _ => rfl)) pe_int) pa_nil))))
      (pss_cons (ps_set (i := 6) sc_l_places_right.nd rfl (Or.inl rfl) (pe_ifExp (pt_cmpR op_gt (pv 4) pe_int (nomark _)) (pe_call G_tightened (hr.mono (by decide)) (by rfl) m_tightened k_tightened b_tightened .nil pass0 (pa_cons (pv 2) (pa_cons (pv 4) pa_nil))) (pe_kw G_tightened (hr.mono (by decide)) (by rfl) m_tightened k_tightened w_tightened pass0 (pk_cons (pv 4) (pk_cons (pv 2) pk_nil)))))
      (pss_one (ps_if (pt_not (pt_val (pe_call G_l_exact (hr.mono (by decide)) (by rfl) m_l_exact k_l_exact b_l_exact .nil pass0 (pa_cons (pe_call G_l_told_of (hr.mono (by decide)) (by rfl) m_l_told_of k_l_told_of b_l_told_of .nil pass0 (pa_cons (pv 6) pa_nil)) (pa_cons (pe_lst (pa_cons (pe_ix ix_list (pv 1) pe_int (fun _ _ => rfl)) (pa_cons (pe_op op_cat (pe_op op_cat (pe_slice sl_list (pe_ix ix_list (pv 1) pe_int (fun _ _ => rfl)) po_none (po_some (pv 4))) (pe_lst (pa_cons (pv 7) pa_nil))) (pe_slice sl_list (pe_ix ix_list (pv 1) pe_int (fun _ _ => rfl)) (po_some (pe_op op_add (pv 4) pe_int)) po_none)) pa_nil))) pa_nil))))) (pss_one (ps_ret pe_bl)) pss_nil)))) pss_nil)
      (pss_one (ps_for PassesOwn.never rfl (pi_range2 (by rfl) T.b_range (pa_cons (pv 4) (pa_cons (pv 3) pa_nil))) (pg_name (i := 8) sc_l_places_right.nd rfl (Or.inl rfl)) (pss_one (ps_if (pt_not (pt_val (pe_call G_l_exact (hr.mono (by decide)) (by rfl) m_l_exact k_l_exact b_l_exact .nil pass0 (pa_cons (pe_call G_l_told_of (hr.mono (by decide)) (by rfl) m_l_told_of k_l_told_of b_l_told_of .nil pass0 (pa_cons (pe_kw G_stretch (hr.mono (by decide)) (by rfl) m_stretch k_stretch w_stretch pass0 (pk_cons (pv 8) (pk_cons (pv 4) (pk_cons (pv 2) pk_nil)))) pa_nil)) (pa_cons (pe_lst (pa_cons (pe_slice sl_list (pe_ix ix_list (pv 1) pe_int (fun _ _ => rfl)) (po_some (pv 4)) (po_some (pv 8))) (pa_cons (pe_slice sl_list (pe_ix ix_list (pv 1) pe_int (fun _ _ => rfl)) (po_some (pv 4)) (po_some (pe_op op_add (pv 8) pe_int))) pa_nil))) pa_nil))))) (pss_one (ps_ret pe_bl)) pss_nil)))))))))
      (pss_one (ps_ret (pe_call G_l_exact (hr.mono (by decide)) (by rfl) m_l_exact k_l_exact b_l_exact .nil pass0 (pa_cons (pe_call G_l_told_of (hr.mono (by decide)) (by rfl) m_l_told_of k_l_told_of b_l_told_of .nil pass0 (pa_cons (pv 2) pa_nil)) (pa_cons (pv 1) pa_nil))))))), ?_⟩
  have g := hh.good
  have bl := hh.bl
  have rl := hh.rl
  have n8 := hh.n8
  obtain ⟨b, r, hl0, hb0, hr0⟩ := id hL
  -- made, many
  refine ⟨_, rfl, l, bs, rs, rfl, hL.mono x.same, g, fun H1 m e1 hm => ?_⟩
  have x1 := x.grow e1
  have s1 : Same S (gr S H H1) := gr_old x.same
  have hm1 : Hs C (gr S H H1) m bs rs := hm.mono gr_dif
  generalize gr S H H1 = S1 at x1 s1 hm1
  clear hm e1
  have hl1 := s1 _ _ hl0
  have hb1 := hb0.mono s1
  have hr1 := hr0.mono s1
  refine ⟨_, rfl, l, _, _, _, rfl, rfl, SqL.of (x1.same _ _ hl1), atI_nat (j := 1) rfl, r, _, rfl, .inl (hr1.mono x1.same).sq, _, _, rfl, ?_⟩
  refine ⟨_, rfl, (rs.length : Int), ?_, by omega, by omega, ?_⟩
  · rw [List.length_map]
  refine for_range (lo := 0) (n := ((rs.length : Int)).toNat) (fun i σ H' => ∃ y1 y2 y3 y4 y5, σ = [some (.ref p), some (.ref l), some (.ref m), some (.int (((rs.map V.int).length : Nat) : Int)), y1, y2, y3, y4, y5] ∧ Pst p (k + i) S1 H')
    ⟨none, none, none, none, none, rfl, x1⟩ ?_ ?_
  · rintro i σ H2 hi ⟨y1, y2, y3, y4, y5, rfl, x2⟩
    have hi2 : i < rs.length := by omega
    have ei : (0 : Int) + (i : Int) = (i : Int) := by omega
    rw [ei]
    refine ⟨_, rfl, p, 61, _, S1, rfl, by decide, by decide, x2, by omega, fun H3 d d0 d1 x3 => ?_⟩
    have a1 := x3.same
    refine ⟨_, rfl, _, rfl, _, rfl, rfl, m, i, d, bs, rs, rfl, hm1.mono a1, g, hi2, by omega, by omega, fun H4 u4 e4 k4 => ?_⟩
    have gd := good_setAt g hi2 d0 (show d ≤ 1000 by omega)
    have dl := gd.len
    refine ⟨_, rfl, u4, _, _, rfl, k4.mono dif_in, gd, fun H5 u5 e5 k5 => ?_⟩
    have a2 := a1.trans (e4.trans e5)
    refine ⟨_, rfl, l, _, _, _, rfl, rfl, SqL.of (a2 _ _ hl1), atI_nat (j := 0) rfl, ?_⟩
    refine seam (i := i) rfl rfl (a2 _ _ hl1) (atI_nat (j := 1) rfl) (hr1.mono a2) (by omega) (fun H' Q' _ qq => ⟨_, rfl, qq⟩) fun H6 u6 e6 _ k6 => ?_
    refine ⟨by show 2 ≤ sizeLine; decide, fun u7 hu7 => ?_⟩
    have e7 := same_upd (o := .lst [.ref b, .ref u6]) hu7
    refine ⟨_, _, rfl, Ak.up (n := 2) (Lh.ak (n := 0) ((k5.mono dif_in).mono (e6.trans e7)) ⟨b, u6, upd_same, (hb1.mono a2).mono (e6.trans e7), k6.mono e7⟩ (by omega) (by omega)), fun H8 e8 => ⟨true, rfl, iteF ?_⟩⟩
    have a3 : Same S1 H8 := a2.trans (e6.trans (e7.trans e8))
    have x8 : Pst p (k + i + 1) S1 H8 := x3.pure ((e4.trans e5).trans (e6.trans (e7.trans e8)))
    clear e4 k4 e5 k5 e6 k6 hu7 e7 e8 a2 a1 x3
    refine ⟨_, rfl, _, rfl, _, _, rfl, rfl, _, _, rfl, rfl, _, rfl, ite2 (fun c => ?a) (fun c => ?b)⟩
    case' b =>
      have x9 := x8
    case' a =>
      have c2 : (i : Int) < (((rs.map V.int).length : Nat) : Int) - 1 := of_decide_eq_true c
      rw [List.length_map] at c2
      have hb2 : i < bs.length := by omega
      refine ⟨_, rfl, l, _, _, _, rfl, rfl, SqL.of (a3 _ _ hl1), atI_nat (j := 1) rfl, _, rfl, r, _, _, _, rfl, rfl, (hr1.mono a3).sq, map_at hi2, ?_⟩
      refine ⟨_, rfl, l, _, _, _, rfl, rfl, SqL.of (a3 _ _ hl1), atI_nat (j := 0) rfl, _, rfl, b, _, _, _, rfl, rfl, (hb1.mono a3).sq, map_at hb2, _, _, rfl, rfl, _, _, rfl, ?_⟩
      refine ⟨_, rfl, _, _, rfl, rfl, _, rfl, ite2 (fun _ => ?a1) (fun _ => ?a2)⟩
      case' a1 => refine ⟨_, rfl, _, rfl, m, i, bs, rs, rfl, hm1.mono a3, g, hb2, fun H4 u4 e4 k4 => ?_⟩
      case' a2 => refine ⟨_, rfl, _, rfl, rfl, m, i, bs, rs, rfl, hm1.mono a3, g, hb2, fun H4 u4 e4 k4 => ?_⟩
      all_goals
        have bb := g.b2 _ (mem_getD hb2)
        have bm := g.bm _ (mem_getD hb2)
        have r0 := g.r0 _ (mem_getD hi2)
        have rm := g.rm _ (mem_getD hi2)
        generalize ee : (if bs.getD i 0 - 1 < rs.getD i 0 then bs.getD i 0 - 1 else rs.getD i 0) = d2 at k4 ⊢
        have d20 : 0 ≤ d2 := by rw [← ee]; split <;> omega
        have d21 : d2 ≤ 1000 := by rw [← ee]; split <;> omega
        have gd2 := good_setAt g hi2 d20 d21
        have dl2 := gd2.len
        refine ⟨_, rfl, u4, _, _, rfl, k4.mono dif_in, gd2, fun H5 u5 e5 k5 => ?_⟩
        have a2 := a3.trans (e4.trans e5)
        refine ⟨_, rfl, l, _, _, _, rfl, rfl, SqL.of (a2 _ _ hl1), atI_nat (j := 0) rfl, ?_⟩
        refine seam (i := i) rfl rfl (a2 _ _ hl1) (atI_nat (j := 1) rfl) (hr1.mono a2) (by omega) (fun H' Q' _ qq => ⟨_, rfl, qq⟩) fun H6 u6 e6 _ k6 => ?_
        refine ⟨by show 2 ≤ sizeLine; decide, fun u7 hu7 => ?_⟩
        have e7 := same_upd (o := .lst [.ref b, .ref u6]) hu7
        refine ⟨_, _, rfl, Ak.up (n := 2) (Lh.ak (n := 0) ((k5.mono dif_in).mono (e6.trans e7)) ⟨b, u6, upd_same, (hb1.mono a2).mono (e6.trans e7), k6.mono e7⟩ (by omega) (by omega)), fun H9 e8 => ⟨true, rfl, iteF ?_⟩⟩
        have x9 : Pst p (k + i + 1) S1 H9 := x8.pure ((e4.trans e5).trans (e6.trans (e7.trans e8)))
    all_goals
      refine ⟨_, rfl, _, rfl, _, _, rfl, ⟨by omega, by omega, by omega, by rw [List.length_map]; omega⟩, ?_⟩
      refine for_range (lo := (i : Int)) (n := ((((rs.map V.int).length : Nat) : Int) - (i : Int)).toNat) (fun _ σ H' => ∃ z5 z6 z7 z8, σ = [some (.ref p), some (.ref l), some (.ref m), some (.int (((rs.map V.int).length : Nat) : Int)), some (.int (i : Int)), z5, z6, z7, z8] ∧ Pst p (k + i + 1) S1 H')
        ⟨_, _, _, _, rfl, x9⟩ ?_ ?_
      · rintro t σ H10 ht ⟨z5, z6, z7, z8, rfl, x10⟩
        rw [List.length_map] at ht
        have et : (i : Int) + (t : Int) = ((i + t : Nat) : Int) := by omega
        rw [et]
        have hj : i + t < rs.length := by omega
        have a4 := x10.same
        refine ⟨_, rfl, _, rfl, _, rfl, rfl, m, i, i + t, bs, rs, rfl, hm1.mono a4, g, by omega, hj, fun H4 u4 e4 k4 => ?_⟩
        have gd2 := good_stretch g (i := i) (j := i + t) (by omega) hj
        have dl2 := gd2.len
        have df2 := gd2.few
        refine ⟨u4, _, _, rfl, k4.mono dif_in, gd2, fun H5 u5 e5 k5 => ?_⟩
        have a2 := a4.trans (e4.trans e5)
        refine ⟨_, rfl, l, _, _, _, rfl, rfl, SqL.of (a2 _ _ hl1), atI_nat (j := 0) rfl, _, rfl, _, rfl, _, rfl, _, rfl, b, _, rfl, (hb1.mono a2).sq, fun u6 hu6 => ?_⟩
        have e6 := same_upd (o := .lst (cutV (bs.map V.int) (some (i : Int)) (some ((i + t : Nat) : Int)))) hu6
        have a5 := a2.trans e6
        refine ⟨_, rfl, l, _, _, _, rfl, rfl, SqL.of (a5 _ _ hl1), atI_nat (j := 1) rfl, _, rfl, _, rfl, _, rfl, _, _, rfl, rfl, _, rfl, r, _, rfl, (hr1.mono a5).sq, fun u7 hu7 => ?_⟩
        have e7 := same_upd (o := .lst (cutV (rs.map V.int) (some (i : Int)) (some (((i + t : Nat) : Int) + 1)))) hu7
        refine ⟨by show 2 ≤ sizeLine; decide, fun u8 hu8 => ?_⟩
        have e8 := same_upd (o := .lst [.ref u6, .ref u7]) hu8
        have i6 : IL (upd (upd (upd H5 u6 (.lst (cutV (bs.map V.int) (some (i : Int)) (some ((i + t : Nat) : Int))))) u7 (.lst (cutV (rs.map V.int) (some (i : Int)) (some (((i + t : Nat) : Int) + 1))))) u8 (.lst [.ref u6, .ref u7])) u6 ((bs.drop i).take (i + t - i)) := (e7.trans e8) _ _ (by
          rw [upd_same, cut_mid _ _ _ (by rw [List.length_map]; omega) (by rw [List.length_map]; omega), List.map_take, List.map_drop])
        have i7 : IL (upd (upd (upd H5 u6 (.lst (cutV (bs.map V.int) (some (i : Int)) (some ((i + t : Nat) : Int))))) u7 (.lst (cutV (rs.map V.int) (some (i : Int)) (some (((i + t : Nat) : Int) + 1))))) u8 (.lst [.ref u6, .ref u7])) u7 ((rs.drop i).take (i + t + 1 - i)) := e8 _ _ (by
          rw [upd_same, show (((i + t : Nat) : Int) + 1) = ((i + t + 1 : Nat) : Int) by omega, cut_mid _ _ _ (by rw [List.length_map]; omega) (by rw [List.length_map]; omega), List.map_take, List.map_drop])
        refine ⟨_, _, rfl, Ak.up (n := 2) (Lh.ak (n := 0) ((k5.mono dif_in).mono (e6.trans (e7.trans e8))) ⟨u6, u7, upd_same, i6, i7⟩ (by omega) (by omega)), fun H9 e9 => ⟨true, rfl, iteF ?_⟩⟩
        exact ⟨_, _, _, _, rfl, x10.pure ((e4.trans e5).trans (e6.trans ((e7.trans e8).trans e9)))⟩
      · rintro σ H10 ⟨z5, z6, z7, z8, rfl, x10⟩
        exact ⟨_, _, _, _, _, rfl, x10⟩
  · rintro σ H2 ⟨y1, y2, y3, y4, y5, rfl, x2⟩
    refine ⟨_, rfl, m, bs, rs, rfl, hm1.mono x2.same, g, fun H3 u3 e3 k3 => ?_⟩
    refine ⟨_, rfl, _, _, rfl, Ak.up (n := 2) (Lh.ak (n := 0) (k3.mono dif_in) (hL.mono (s1.trans (x2.same.trans e3))) (by omega) (by omega)), fun H4 e4 => ?_⟩
    exact q H4 (((x2.pure (e3.trans e4)).less s1).up (by omega))
end
end K4

set_option maxHeartbeats 4000000
namespace K4
open PySem PySem.Spec PyProof.Rows L2
/-! ### plain: weights of a house set behind another -/
theorem wts_mul (c d : Int) : ∀ bs : List Int, wts (c * d) bs = (wts d bs).map (c * ·)
  | [] => rfl
  | b :: bs => by
    have ih := wts_mul c (d * b) bs
    rw [← Int.mul_assoc] at ih
    exact congrArg (c * d :: ·) ih
theorem wts_app : ∀ (c b : Int) (bs2 bs : List Int), wts c ((bs ++ [b]) ++ bs2) = wts c bs ++ wts (bs.foldl (· * ·) c * b) bs2
  | _, _, _, [] => rfl
  | c, b, bs2, x :: bs => congrArg (c :: ·) (wts_app (c * x) b bs2 bs)
theorem wts_behind (b : Int) (bs bs2 : List Int) : wts 1 ((bs ++ [b]) ++ bs2) = wts 1 bs ++ (wts 1 bs2).map (bs.foldl (· * ·) 1 * b * ·) := by
  rw [wts_app]
  have e := wts_mul (bs.foldl (· * ·) 1 * b) 1 bs2
  rw [Int.mul_one] at e
  rw [e]
theorem wts_bound : ∀ (bs : List Int) (c : Int), 0 ≤ c → (∀ b ∈ bs, 2 ≤ b ∧ b ≤ 60) → ∀ v ∈ wts c bs, 0 ≤ v ∧ v ≤ c * 60 ^ bs.length
  | [], c, h0, hb, v, hv => by
    rw [List.mem_singleton.mp hv]
    exact ⟨h0, by simp⟩
  | b :: bs, c, h0, hb, v, hv => by
    have hb1 := hb b (List.mem_cons_self ..)
    have hp : (0 : Int) ≤ 60 ^ bs.length := Int.pow_nonneg (by decide)
    have h60 : (1 : Int) ≤ 60 ^ (bs.length + 1) := by
      have h : (0 : Int) < 60 ^ (bs.length + 1) := Int.pow_pos (by decide)
      omega
    have hle : c * b * 60 ^ bs.length ≤ c * 60 ^ (bs.length + 1) := by
      rw [Int.pow_succ, Int.mul_comm (60 ^ bs.length) 60, ← Int.mul_assoc]
      exact Int.mul_le_mul_of_nonneg_right (Int.mul_le_mul_of_nonneg_left hb1.2 h0) hp
    rcases List.mem_cons.mp hv with rfl | hv
    · refine ⟨h0, ?_⟩
      have h := Int.mul_le_mul_of_nonneg_left h60 h0
      rw [Int.mul_one] at h
      exact h
    · have ih := wts_bound bs (c * b) (Int.mul_nonneg h0 (by omega)) (fun b hb' => hb b (List.mem_cons_of_mem _ hb')) v hv
      exact ⟨ih.1, Int.le_trans ih.2 hle⟩
section
variable {P : Program} {w : World} {K : PySem.W.Frag} {mg : Str → Option Value} {base : Heap} {C : Addr}
theorem gr_mid {S H H1 H2 H3 : Hp} (a : Same H H1) (b : Same H2 H3) : Same (dif H1 H2) (gr S H H3) := fun c o h => gr_dif _ _ (dif_sub a b _ _ h)
theorem cut_fst (bs bs2 : List Int) (b : Int) : ((((bs ++ [b]) ++ bs2).drop 0).take (bs.length - 0)) = bs := by
  rw [List.drop_zero, Nat.sub_zero, List.append_assoc, List.take_left]
theorem cut_snd (bs bs2 : List Int) (b : Int) (n : Nat) (h : n = bs.length + 1) (k : Nat) (hk : k = bs2.length) : ((((bs ++ [b]) ++ bs2).drop n).take k) = bs2 := by
  subst h hk
  have e : bs.length + 1 = (bs ++ [b]).length := by rw [List.length_append]; rfl
  rw [e, List.drop_left, List.take_length]
theorem cut_fst2 (rs rs2 : List Int) (k : Nat) (hk : k = rs.length) : (((rs ++ rs2).drop 0).take k) = rs := by
  subst hk
  rw [List.drop_zero, List.take_left]
theorem cut_snd2 (rs rs2 : List Int) (n : Nat) (hn : n = rs.length) (k : Nat) (hk : k = rs2.length) : (((rs ++ rs2).drop n).take k) = rs2 := by
  subst hn hk
  rw [List.drop_left, List.take_length]
theorem range_getD (f : Int → Int) (xs : List Int) : (List.range xs.length).map (fun i => f (xs.getD i 0)) = xs.map f := by
  refine List.ext_getElem (by rw [List.length_map, List.length_map, List.length_range]) fun i h1 h2 => ?_
  rw [List.length_map] at h2
  rw [List.getElem_map, List.getElem_map, List.getElem_range, List.getD_eq_getElem?_getD, List.getElem?_eq_getElem h2]
  rfl
theorem cat_ints {H : Hp} {a b : Addr} {xs ys : List Int} {Q : VK} (ha : IL H a xs) (hb : IL H b ys) (hn : xs.length + ys.length ≤ 900) (q : ∀ H' p, Same H H' → H p = none → IL H' p (xs ++ ys) → Q (.ref p) H') : rCat (.ref a) (.ref b) H Q := by
  refine ⟨a, b, _, _, rfl, rfl, ha, hb, ?_, fun p hp => q _ p (same_upd hp) hp ?_⟩
  · rw [List.length_map, List.length_map]
    exact Nat.le_of_lt (small1000 (by omega))
  · show _ = _
    rw [upd_same, List.map_append]
def sp_l_behind_right : Sp := fun vs H Q _ => ∃ (p l l2 : Addr) (n n2 k : Nat) (S : Hp) (bs rs bs2 rs2 : List Int), vs = [.ref p, .ref l, .ref l2] ∧ Lh S l bs rs ∧ Lh S l2 bs2 rs2 ∧ Hb n bs rs ∧ Hb n2 bs2 rs2 ∧ n2 ≤ 4 ∧ Pst p k S H ∧ k ≤ 70000 ∧ ∀ H', Pst p (k + 100) S H' → Q (.bl true) H'
theorem sc_l_behind_right : FnScope ["_law_purse_here", "_law_house_here", "_law_other", "_law_one", "_law_two", "_law_base", "_law_made_here", "_law_many", "_law_due", "_law_late", "_law_weight"] ["_law_purse_here", "_law_house_here", "_law_other"] (defScope s_l_behind_right) := ⟨rfl, rfl, rfl, by decide +kernel, rfl, by decide +kernel, by decide +kernel⟩
theorem ok_l_behind_right (T : Tx K mg C) : Ok P w K mg base 8 "_law_behind_right" ["_law_purse_here", "_law_house_here", "_law_other"] (sp_l_behind_right) := by
  obtain ⟨f_l_exact, fd_l_exact, G_l_exact, m_l_exact, k_l_exact, b_l_exact⟩ := ok_l_exact (P := P) (w := w) (base := base) T
  obtain ⟨f_l_told_of, fd_l_told_of, G_l_told_of, m_l_told_of, k_l_told_of, b_l_told_of⟩ := ok_l_told_of (P := P) (w := w) (base := base) T
  obtain ⟨f_weights, fd_weights, G_weights, m_weights, k_weights, b_weights⟩ := ok_weights (P := P) (w := w) (base := base) T
  obtain ⟨f_l_weights, fd_l_weights, G_l_weights, m_l_weights, k_l_weights, b_l_weights⟩ := ok_l_weights (P := P) (w := w) (base := base) T
  obtain ⟨f_stretch, fd_stretch, G_stretch, m_stretch, k_stretch, b_stretch, w_stretch⟩ := ok_stretch (P := P) (w := w) (base := base) T
  obtain ⟨f_eq, fd_eq, G_eq, h_eq, b_eq⟩ := ok_eq (P := P) (w := w) (base := base) T
  obtain ⟨f_set_behind, fd_set_behind, G_set_behind, m_set_behind, k_set_behind, b_set_behind, w_set_behind⟩ := ok_set_behind (P := P) (w := w) (base := base) T
  obtain ⟨f_l_draw, fd_l_draw, G_l_draw, m_l_draw, k_l_draw, b_l_draw⟩ := ok_l_draw (P := P) (w := w) (base := base) T
  obtain ⟨f_l_made, fd_l_made, G_l_made, m_l_made, k_l_made, b_l_made⟩ := ok_l_made (P := P) (w := w) (base := base) T
  refine ok_mk T.d_l_behind_right sc_l_behind_right (fun vs H Q E h => ?_) (fun _ _ _ _ _ _ us hl => match us, hl with | [_, _, _], _ => rfl) (fun f cdv A outer s H vs Q E hr h => ?_)
  · obtain ⟨p, l, l2, n, n2, k, S, bs, rs, bs2, rs2, rfl, _⟩ := h
    rfl
  have hu := hu_of hr
  have hu64 := hr.units
  obtain ⟨p, l, l2, n, n2, k, S, bs, rs, bs2, rs2, rfl, hL, hL2, hh, hh2, n4, x, hk, q⟩ := h
  refine ⟨_, (pss_cons (ps_asg (pe_tup (pa_cons (pe_call G_l_made (hr.mono (by decide)) (by rfl) m_l_made k_l_made b_l_made .nil pass0 (pa_cons (pv 1) pa_nil)) (pa_cons (pe_call G_l_made (hr.mono (by decide)) (by rfl) m_l_made k_l_made b_l_made .nil pass0 (pa_cons (pv 2) pa_nil)) (pa_cons (pe_op op_add pe_int (pe_call G_l_draw (hr.mono (by decide)) (by rfl) m_l_draw k_l_draw b_l_draw .nil pass0 (pa_cons (pv 0) (pa_cons pe_int pa_nil)))) pa_nil)))) (pg_tup rfl (pgs_cons (pg_name (i := 3) sc_l_behind_right.nd rfl (Or.inl rfl)) (pgs_cons (pg_name (i := 4) sc_l_behind_right.nd rfl (Or.inl rfl)) (pgs_cons (pg_name (i := 5) sc_l_behind_right.nd rfl (Or.inr rfl)) pgs_nil)))))
      (pss_cons (ps_set (i := 6) sc_l_behind_right.nd rfl (Or.inl rfl) (pe_kw G_set_behind (hr.mono (by decide)) (by rfl) m_set_behind k_set_behind w_set_behind pass0 (pk_cons (pv 4) (pk_cons (pv 5) (pk_cons (pv 3) pk_nil)))))
      (pss_cons (ps_if (pt_not (pt_val (pe_call G_l_exact (hr.mono (by decide)) (by rfl) m_l_exact k_l_exact b_l_exact .nil pass0 (pa_cons (pe_call G_l_told_of (hr.mono (by decide)) (by rfl) m_l_told_of k_l_told_of b_l_told_of .nil pass0 (pa_cons (pv 6) pa_nil)) (pa_cons (pe_lst (pa_cons (pe_op op_cat (pe_op op_cat (pe_ix ix_list (pv 1) pe_int (fun _ _ => rfl)) (pe_lst (pa_cons (pv 5) pa_nil))) (pe_ix ix_list (pv 2) pe_int (fun _ _ => rfl))) (pa_cons (pe_op op_cat (pe_ix ix_list (pv 1) pe_int (fun _ _ => rfl)) (pe_ix ix_list (pv 2) pe_int (fun _ _ => rfl))) pa_nil))) pa_nil))))) (pss_one (ps_ret pe_bl)) pss_nil)
      (pss_cons (ps_set (i := 7) sc_l_behind_right.nd rfl (Or.inl rfl) (pe_callB call_len_seq (by rfl) T.b_len PySem.boot_len (pa_cons (pe_ix ix_list (pv 1) pe_int (fun _ _ => rfl)) pa_nil)))
      (pss_cons (ps_if (PW.pt (pw_or (pt_cmpR (op_neH G_eq (hr.mono (by decide)) b_eq pass0 T.mro T.ne h_eq) (pe_call G_stretch (hr.mono (by decide)) (by rfl) m_stretch k_stretch b_stretch .nil pass0 (pa_cons (pv 6) (pa_cons pe_int (pa_cons (pe_op op_sub (pv 7) pe_int) pa_nil)))) (pv 3) (nomark _)) (pw_or1 (pt_cmpR (op_neH G_eq (hr.mono (by decide)) b_eq pass0 T.mro T.ne h_eq) (pe_call G_stretch (hr.mono (by decide)) (by rfl) m_stretch k_stretch b_stretch .nil pass0 (pa_cons (pv 6) (pa_cons (pv 7) (pa_cons (pe_op op_sub (pe_op op_add (pv 7) (pe_callB call_len_seq (by rfl) T.b_len PySem.boot_len (pa_cons (pe_ix ix_list (pv 2) pe_int (fun _ _ => rfl)) pa_nil))) pe_int) pa_nil)))) (pv 4) (nomark _))))) (pss_one (ps_ret pe_bl)) pss_nil)
      (pss_cons (ps_set (i := 8) sc_l_behind_right.nd rfl (Or.inr rfl) (pe_call G_l_weights (hr.mono (by decide)) (by rfl) m_l_weights k_l_weights b_l_weights .nil pass0 (pa_cons (pv 1) pa_nil)))
      (pss_cons (ps_set (i := 9) sc_l_behind_right.nd rfl (Or.inl rfl) (pe_op op_cat (pv 8) (pe_lc (own := [("_law_weight", 10)]) rfl sc_l_behind_right.nd (pi_list (pe_call G_l_weights (hr.mono (by decide)) (by rfl) m_l_weights k_l_weights b_l_weights .nil pass0 (pa_cons (pv 2) pa_nil))) (blkOk_by (own := [("_law_weight", 10)]) (N := ["_law_purse_here", "_law_house_here", "_law_other", "_law_one", "_law_two", "_law_base", "_law_made_here", "_law_many", "_law_due", "_law_late", "_law_weight"]) (sc := defScope s_l_behind_right) (by decide +kernel)) (fun _ _ _ _ _ => (pg_name (i := 10) sc_l_behind_right.nd rfl (Or.inl rfl) (hf := Or.inr rfl))) (fun _ _ _ _ _ => pts_nil) (fun _ _ _ _ _ => (pe_op op_mul (pe_op op_mul (pe_ix (ix_listK (K := K) rfl) (pv 8) (pe_un un_neg pe_int) (fun _ _ => rfl)) (pv 5)) (pv 10))))))
      (pss_one (ps_ret (pe_and (pe_call G_l_exact (hr.mono (by decide)) (by rfl) m_l_exact k_l_exact b_l_exact .nil pass0 (pa_cons (pe_call G_weights (hr.mono (by decide)) (by rfl) m_weights k_weights b_weights .nil pass0 (pa_cons (pv 6) pa_nil)) (pa_cons (pv 9) pa_nil))) (pe_one (pe_call G_l_exact (hr.mono (by decide)) (by rfl) m_l_exact k_l_exact b_l_exact .nil pass0 (pa_cons (pe_lst (pa_cons (pe_call G_l_told_of (hr.mono (by decide)) (by rfl) m_l_told_of k_l_told_of b_l_told_of .nil pass0 (pa_cons (pv 3) pa_nil)) (pa_cons (pe_call G_l_told_of (hr.mono (by decide)) (by rfl) m_l_told_of k_l_told_of b_l_told_of .nil pass0 (pa_cons (pv 4) pa_nil)) pa_nil))) (pa_cons (pe_lst (pa_cons (pv 1) (pa_cons (pv 2) pa_nil))) pa_nil)))))))))))))), ?_⟩
  have g := hh.good
  have g2 := hh2.good
  have bl := hh.bl
  have rl := hh.rl
  have n8 := hh.n8
  have n1 := hh.n1
  have bl2 := hh2.bl
  have rl2 := hh2.rl
  have n82 := hh2.n8
  have n12 := hh2.n1
  obtain ⟨b, r, hl0, hb0, hr0⟩ := id hL
  obtain ⟨b2, r2, hl20, hb20, hr20⟩ := id hL2
  -- one, two, base
  refine ⟨_, rfl, l, bs, rs, rfl, hL.mono x.same, g, fun H1 m1 e1 h1 => ?_⟩
  refine ⟨_, rfl, l2, bs2, rs2, rfl, hL2.mono (x.same.trans e1), g2, fun H2 m2 e2 h2 => ?_⟩
  have x2 := x.grow (e1.trans e2)
  have s1 : Same S (gr S H H2) := gr_old x.same
  have hm1 : Hs C (gr S H H2) m1 bs rs := h1.mono (gr_mid (Same.refl _) e2)
  have hm2 : Hs C (gr S H H2) m2 bs2 rs2 := h2.mono (gr_mid e1 (Same.refl _))
  generalize gr S H H2 = S1 at x2 s1 hm1 hm2
  clear h1 h2 e1 e2
  have hl1 := s1 _ _ hl0
  have hb1 := hb0.mono s1
  have hr1 := hr0.mono s1
  have hl21 := s1 _ _ hl20
  have hb21 := hb20.mono s1
  have hr21 := hr20.mono s1
  refine ⟨_, rfl, p, 59, k, S1, rfl, by decide, by decide, x2, by omega, fun H3 d d0 d1 x3 => ?_⟩
  refine ⟨_, _, rfl, rfl, by show 3 ≤ sizeLine; decide, fun t ht => ?_⟩
  refine ⟨t, _, rfl, SqT.of upd_same, rfl, _, _, rfl, _, _, rfl, _, _, rfl, rfl, ?_⟩
  have x3 := x3.pure (same_upd (o := .tup [.ref m1, .ref m2, .int (2 + d)]) ht)
  generalize upd H3 t (.tup [.ref m1, .ref m2, .int (2 + d)]) = H4 at x3
  have a1 := x3.same
  -- the house set behind
  have gg := good_behind g g2 (b := 2 + d) (by omega) (by omega) (by omega)
  have ggl := gg.len
  refine ⟨_, rfl, _, rfl, _, rfl, rfl, m1, m2, 2 + d, bs, rs, bs2, rs2, rfl, hm1.mono a1, hm2.mono a1, g, g2, by omega, by omega, by omega, fun H5 mm e5 h5 => ?_⟩
  have hmm := h5.mono dif_in
  have a2 := a1.trans e5
  refine ⟨_, rfl, mm, _, _, rfl, hmm, gg, fun H6 u6 e6 h6 => ?_⟩
  have a3 := a2.trans e6
  refine ⟨_, rfl, l, _, _, _, rfl, rfl, SqL.of (a3 _ _ hl1), atI_nat (j := 0) rfl, _, rfl, by show 1 ≤ sizeLine; decide, fun u7 hu7 => ?_⟩
  have e7 := same_upd (o := .lst [.int (2 + d)]) hu7
  refine cat_ints ((hb1.mono a3).mono e7) (show IL _ u7 [2 + d] from upd_same) (by show bs.length + 1 ≤ 900; omega) fun H8 u8 e8 _ h8 => ?_
  have a4 := a3.trans (e7.trans e8)
  refine ⟨_, rfl, l2, _, _, _, rfl, rfl, SqL.of (a4 _ _ hl21), atI_nat (j := 0) rfl, ?_⟩
  refine cat_ints h8 (hb21.mono a4) (by rw [List.length_append]; show bs.length + 1 + _ ≤ 900; omega) fun H9 u9 e9 _ h9 => ?_
  have a5 := a4.trans e9
  refine ⟨_, rfl, l, _, _, _, rfl, rfl, SqL.of (a5 _ _ hl1), atI_nat (j := 1) rfl, _, rfl, l2, _, _, _, rfl, rfl, SqL.of (a5 _ _ hl21), atI_nat (j := 1) rfl, ?_⟩
  refine cat_ints (hr1.mono a5) (hr21.mono a5) (by omega) fun H10 u10 e10 _ h10 => ?_
  refine ⟨by show 2 ≤ sizeLine; decide, fun u11 hu11 => ?_⟩
  have e11 := same_upd (o := .lst [.ref u9, .ref u10]) hu11
  have lgb : ((bs ++ [2 + d]) ++ bs2).length ≤ 1000 := by have := gg.few; omega
  have lgr : (rs ++ rs2).length ≤ 1000 := by have := gg.few; omega
  refine ⟨_, _, rfl, Ak.up (n := 2) (Lh.ak (n := 0) ((h6.mono dif_in).mono (e7.trans (e8.trans (e9.trans (e10.trans e11))))) ⟨u9, u10, upd_same, h9.mono (e10.trans e11), h10.mono e11⟩ lgb lgr), fun H12 e12 => ⟨true, rfl, iteF ?_⟩⟩
  have a6 : Same S1 H12 := a5.trans (e10.trans (e11.trans e12))
  have x6 : Pst p (k + 1) S1 H12 := x3.pure (e5.trans (e6.trans ((e7.trans e8).trans (e9.trans (e10.trans (e11.trans e12))))))
  have hmm := hmm.mono (e6.trans ((e7.trans e8).trans (e9.trans (e10.trans (e11.trans e12)))))
  clear h5 h6 h8 h9 h10 e5 e6 e7 e8 e9 e10 e11 e12 hu7 hu11 a1 a2 a3 a4 a5 x3
  -- many
  refine ⟨_, rfl, l, _, _, _, rfl, rfl, SqL.of (a6 _ _ hl1), atI_nat (j := 1) rfl, r, _, rfl, .inl (hr1.mono a6).sq, ?_⟩
  have er : (((rs.map V.int).length : Nat) : Int) = (rs.length : Int) := by rw [List.length_map]
  have er2 : (((rs2.map V.int).length : Nat) : Int) = (rs2.length : Int) := by rw [List.length_map]
  have lrr : (rs ++ rs2).length = rs.length + rs2.length := List.length_append
  have lbb : ((bs ++ [2 + d]) ++ bs2).length = bs.length + 1 + bs2.length := by
    rw [List.length_append, List.length_append]
    rfl
  -- the stretches
  have j1 : (((rs.map V.int).length : Nat) : Int) - 1 = ((bs.length : Nat) : Int) := by omega
  refine ⟨_, rfl, _, rfl, _, _, rfl, rfl, mm, 0, bs.length, _, _, ?_, hmm, gg, Nat.zero_le _, by omega, fun H13 u13 e13 h13 => ?_⟩
  · show [V.ref mm, V.int 0, V.int ((((rs.map V.int).length : Nat) : Int) - 1)] = _
    rw [j1]
    rfl
  rw [cut_fst, cut_fst2 rs rs2 (bs.length + 1 - 0) (by omega)] at h13
  have i13 := h13.mono dif_in
  have a7 := a6.trans e13
  have k13 := hm1.mono a7
  obtain ⟨dx, s3, r3, y1, y2, y3⟩ := id i13
  obtain ⟨dy, s4, r4, z1, z2, z3⟩ := id k13
  refine ⟨_, rfl, u13, m1, dx, dy, _, _, rfl, rfl, y1, z1, u13, m1, bs, rs, rfl, i13, k13, true, rfl, ?_⟩
  refine ⟨false, rfl, iteF ?_⟩
  have j2 : (((rs.map V.int).length : Nat) : Int) + (((rs2.map V.int).length : Nat) : Int) - 1 = ((rs.length + bs2.length : Nat) : Int) := by omega
  refine ⟨_, rfl, _, rfl, _, rfl, _, rfl, l2, _, _, _, rfl, rfl, SqL.of (a7 _ _ hl21), atI_nat (j := 1) rfl, r2, _, rfl, .inl (hr21.mono a7).sq, _, _, rfl, rfl, _, _, rfl, rfl, ?_⟩
  refine ⟨mm, rs.length, rs.length + bs2.length, _, _, ?_, hmm.mono e13, gg, by omega, by omega, fun H14 u14 e14 h14 => ?_⟩
  · show [V.ref mm, V.int (((rs.map V.int).length : Nat) : Int), V.int ((((rs.map V.int).length : Nat) : Int) + (((rs2.map V.int).length : Nat) : Int) - 1)] = _
    rw [j2, er]
  rw [cut_snd bs bs2 (2 + d) rs.length (by omega) (rs.length + bs2.length - rs.length) (by omega), cut_snd2 rs rs2 rs.length rfl (rs.length + bs2.length + 1 - rs.length) (by omega)] at h14
  have i14 := h14.mono dif_in
  have a8 := a7.trans e14
  have k14 := hm2.mono a8
  obtain ⟨dx2, s5, r5, v1, v2, v3⟩ := id i14
  obtain ⟨dy2, s6, r6, w1, w2, w3⟩ := id k14
  refine ⟨_, rfl, u14, m2, dx2, dy2, _, _, rfl, rfl, v1, w1, u14, m2, bs2, rs2, rfl, i14, k14, true, rfl, ?_⟩
  refine ⟨false, rfl, iteF ?_⟩
  -- the weights
  refine ⟨_, rfl, l, bs, rs, rfl, hL.mono (s1.trans a8), g, fun H15 u15 e15 h15 => ?_⟩
  refine ⟨_, rfl, _, rfl, l2, bs2, rs2, rfl, hL2.mono (s1.trans (a8.trans e15)), g2, fun H16 u16 e16 h16 => ?_⟩
  have i15 := (h15.mono dif_in).mono e16
  have i16 := h16.mono dif_in
  refine ⟨u16, rfl, ⟨_, i16.sq⟩, fun D hD => ?_⟩
  have lw1 := wts_len 1 bs
  have lw2 := wts_len 1 bs2
  refine lc_vals (walk_list (xs := (wts 1 bs2).map V.int)) (fun i => .int (bs.foldl (· * ·) 1 * (2 + d) * (wts 1 bs2).getD i 0)) hD (by rw [List.length_map]; omega) (fun H' s => (i16.mono s).sq) (fun i z H1 H2 Q' hi s y kk => ?_) (fun H17 e17 ee => ?_)
  · obtain ⟨rfl, y⟩ := y
    obtain ⟨v, rfl, hv, mv⟩ := int_at y
    have vb := wts_bound bs2 1 (by decide) (fun b hb => ⟨hh2.b2 b hb, hh2.b60 b hb⟩) v mv
    have pb : (60 : Int) ^ bs2.length ≤ 60 ^ 3 := by
      have h3 : bs2.length ≤ 3 := by omega
      have h := Nat.pow_le_pow_right (show 0 < 60 by decide) h3
      exact_mod_cast h
    have p3 : (60 : Int) ^ 3 = 216000 := by decide
    have kq := kk _ (Same.refl _)
    rw [getD_of hv] at kq
    refine ⟨rfl, _, rfl, 1, rfl, u15, _, -1, _, rfl, rfl, (i15.mono s).sq, last_ix, _, rfl, _, _, rfl, rfl, .inr ⟨by omega, by omega⟩, _, rfl, _, _, rfl, rfl, .inr ⟨by omega, by omega⟩, kq⟩
  have iD : IL H17 D ((wts 1 bs2).map (bs.foldl (· * ·) 1 * (2 + d) * ·)) := by
    show _ = _
    rw [ee, List.length_map, ← range_getD, List.map_map]
    rfl
  refine cat_ints (i15.mono e17) iD (by rw [List.length_map]; omega) fun H18 u18 e18 _ h18 => ?_
  rw [← wts_behind] at h18
  have a9 := a8.trans ((e15.trans e16).trans (e17.trans e18))
  have e6 := (e13.trans e14).trans ((e15.trans e16).trans (e17.trans e18))
  refine ⟨_, rfl, mm, _, _, rfl, hmm.mono e6, gg, fun H19 u19 e19 h19 => ?_⟩
  refine ⟨_, rfl, _, _, rfl, Ak.up (n := 2) (Ak.up (n := 1) (Ak.ints (n := 0) (h19.mono dif_in) (h18.mono e19) (by rw [wts_len]; omega))), fun H20 e20 => ⟨true, rfl, iteT ?_⟩⟩
  have a10 := a9.trans (e19.trans e20)
  refine ⟨_, rfl, m1, bs, rs, rfl, hm1.mono a10, g, fun H21 u21 e21 h21 => ?_⟩
  refine ⟨_, rfl, m2, bs2, rs2, rfl, hm2.mono (a10.trans e21), g2, fun H22 u22 e22 h22 => ?_⟩
  refine ⟨by show 2 ≤ sizeLine; decide, fun t1 ht1 => ?_⟩
  have e23 := same_upd (o := .lst [.ref u21, .ref u22]) ht1
  refine ⟨_, rfl, _, rfl, by show 2 ≤ sizeLine; decide, fun t2 ht2 => ?_⟩
  have e24 := same_upd (o := .lst [.ref l, .ref l2]) ht2
  have a11 := s1.trans ((a10.trans (e21.trans e22)).trans (e23.trans e24))
  refine ⟨_, _, rfl, Ak.lst (n := 2) (e24 _ _ upd_same) upd_same (by show 2 ≤ 1000; decide) (.cons (Lh.ak (n := 0) ((h21.mono dif_in).mono (e22.trans (e23.trans e24))) (hL.mono a11) (by omega) (by omega)) (.cons (Lh.ak (n := 0) ((h22.mono dif_in).mono (e23.trans e24)) (hL2.mono a11) (by omega) (by omega)) .nil)), fun H25 e25 => ?_⟩
  exact q H25 (((x6.pure (e6.trans ((e19.trans e20).trans ((e21.trans e22).trans ((e23.trans e24).trans e25))))).less s1).up (by omega))
end
end K4

set_option maxHeartbeats 4000000
namespace K4
open PySem PySem.Spec PyProof.Rows L2
/-! ### plain: two houses alike -/
theorem allTwo_true {f : Int → Int → Bool} {xs ys : List Int} (h : ∀ i, i < xs.length → f (xs.getD i 0) (ys.getD i 0) = true) : allTwo f xs ys = true := by
  unfold allTwo
  rw [List.all_map]
  exact List.all_eq_true.mpr fun i hi => h i (List.mem_range.mp hi)
theorem byTwo_getD (f : Int → Int → Int) {xs ys : List Int} {i : Nat} (h : i < xs.length) : (byTwo f xs ys).getD i 0 = f (xs.getD i 0) (ys.getD i 0) := by
  unfold byTwo
  rw [List.getD_eq_getElem?_getD, List.getElem?_map, List.getElem?_range h]
  rfl
theorem within_same (bs rs rs' : List Int) : within bs rs bs rs' = allTwo le2 rs rs' := by
  unfold within
  rw [decide_eq_true rfl, Bool.true_and]
theorem within_not {bs bs' : List Int} (rs rs' : List Int) (h : bs ≠ bs') : within bs rs bs' rs' = false := by
  unfold within
  rw [decide_eq_false h, Bool.false_and]
theorem within_lo (bs xs ys : List Int) : within bs (byTwo lo2 xs ys) bs xs = true := by
  rw [within_same]
  refine allTwo_true fun i hi => ?_
  rw [byTwo_len] at hi
  rw [byTwo_getD lo2 hi]
  unfold le2 lo2
  exact decide_eq_true (by split <;> omega)
theorem within_hi (bs xs ys : List Int) (hl : xs.length = ys.length) : within bs ys bs (byTwo hi2 xs ys) = true := by
  rw [within_same]
  refine allTwo_true fun i hi => ?_
  rw [byTwo_getD hi2 (by omega)]
  unfold le2 hi2
  exact decide_eq_true (by split <;> omega)
theorem within_own (bs rs : List Int) : within bs rs bs rs = true := by
  rw [within_same]
  exact allTwo_true fun i hi => decide_eq_true (Int.le_refl _)
theorem lo2_comm (x y : Int) : lo2 x y = lo2 y x := by
  unfold lo2
  split <;> split <;> omega
theorem byTwo_comm {xs ys : List Int} (hl : xs.length = ys.length) : byTwo lo2 xs ys = byTwo lo2 ys xs := by
  unfold byTwo
  rw [hl]
  exact List.map_congr_left fun i _ => lo2_comm _ _
theorem setAt_getD {xs : List Int} {i : Nat} {d : Int} (h : i < xs.length) : (setAt xs i d).getD i 0 = d := by
  unfold setAt
  rw [List.getD_eq_getElem?_getD, List.append_assoc, List.getElem?_append_right (by rw [List.length_take]; omega), List.length_take]
  rw [show i - min i xs.length = 0 by omega]
  rfl
theorem setAt_ne {xs : List Int} {i : Nat} {d : Int} (h : i < xs.length) (hd : d ≠ xs.getD i 0) : setAt xs i d ≠ xs := fun e => hd (by
  have h2 := setAt_getD (d := d) h
  rw [e] at h2
  exact h2.symm)
theorem mem_setAt {xs : List Int} {i : Nat} {d z : Int} (hz : z ∈ setAt xs i d) : z = d ∨ z ∈ xs := by
  unfold setAt at hz
  rcases List.mem_append.mp hz with hz | hz
  · rcases List.mem_append.mp hz with hz | hz
    · exact .inr (List.mem_of_mem_take hz)
    · exact .inl (List.mem_singleton.mp hz)
  · exact .inr (List.mem_of_mem_drop hz)
theorem setAt_len {xs : List Int} {i : Nat} {d : Int} (h : i < xs.length) : (setAt xs i d).length = xs.length := by
  unfold setAt
  rw [List.length_append, List.length_append, List.length_take, List.length_drop, List.length_singleton]
  omega
theorem good_setBase {bs rs : List Int} {j : Nat} {d : Int} (g : Good bs rs) (hj : j < bs.length) (h0 : 2 ≤ d) (h1 : d ≤ 1000) : Good (setAt bs j d) rs := by
  refine ⟨fun z hz => ?_, fun z hz => ?_, g.r0, g.rm, by rw [setAt_len hj]; exact g.len, by rw [setAt_len hj]; exact g.few⟩
  · rcases mem_setAt hz with e | e
    · rw [e]; exact h0
    · exact g.b2 z e
  · rcases mem_setAt hz with e | e
    · rw [e]; exact h1
    · exact g.bm z e
theorem good_more {bs rs : List Int} {b r : Int} (g : Good bs rs) (h0 : 2 ≤ b) (h1 : b ≤ 1000) (h2 : 0 ≤ r) (h3 : r ≤ 1000) (hf : bs.length < 90) : Good (bs ++ [b]) (rs ++ [r]) := by
  refine ⟨fun z hz => ?_, fun z hz => ?_, fun z hz => ?_, fun z hz => ?_, ?_, ?_⟩
  · rcases List.mem_append.mp hz with hz | hz
    · exact g.b2 z hz
    · rw [List.mem_singleton.mp hz]; exact h0
  · rcases List.mem_append.mp hz with hz | hz
    · exact g.bm z hz
    · rw [List.mem_singleton.mp hz]; exact h1
  · rcases List.mem_append.mp hz with hz | hz
    · exact g.r0 z hz
    · rw [List.mem_singleton.mp hz]; exact h2
  · rcases List.mem_append.mp hz with hz | hz
    · exact g.rm z hz
    · rw [List.mem_singleton.mp hz]; exact h3
  · rw [List.length_append, List.length_append, g.len]
    rfl
  · rw [List.length_append]
    show bs.length + 1 ≤ 100
    omega
theorem app_ne (bs : List Int) (b : Int) : bs ≠ bs ++ [b] := fun e => by
  have h := congrArg List.length e
  rw [List.length_append] at h
  exact absurd h (by show ¬ bs.length = bs.length + 1; omega)
/-! ### a list of houses told -/
theorem hole_upd {H : Hp} {D : Addr} {o : HO} : hole (upd H D o) D = hole H D := by
  funext b
  by_cases e : b = D
  · rw [e, hole_at, hole_at]
  · rw [hole_ne e, hole_ne e, upd_ne e]
theorem hole_mono {H H' : Hp} {D : Addr} (e : Same H H') : Same (hole H D) (hole H' D) := fun b o h => by
  by_cases c : b = D
  · rw [c, hole_at] at h
    cases h
  · rw [hole_ne c] at h ⊢
    exact e _ _ h
theorem dif_hole {H H' : Hp} {D : Addr} {u : HO} (h : H D = some u) : Same (dif H H') (hole H' D) := fun b o hb => by
  obtain ⟨h1, h2⟩ := dif_of hb
  rw [hole_ne (fun z => by rw [z, h] at h1; cases h1)]
  exact h2
end K4

set_option maxHeartbeats 4000000
namespace K4
open PySem PySem.Spec PyProof.Rows L2
section
variable {P : Program} {w : World} {K : PySem.W.Frag} {mg : Str → Option Value} {base : Heap} {C : Addr}
def cap (v : Int) : Int := if v < 60 then v else 60
theorem cap0 {v : Int} (h : 0 ≤ v) : 0 ≤ cap v := by
  unfold cap
  split <;> omega
theorem cap60 (v : Int) : cap v ≤ 60 := by
  unfold cap
  split <;> omega
theorem make_okR {H : Hp} {a b : Addr} {bs rs : List Int} {R : Addr → Hp → Prop} {E : XK} (hA : IL H a bs) (hB : IL H b rs) (g : Good bs rs) (q : ∀ H' x, Same H H' → Hs C (dif H H') x bs rs → R x H') :
    ∀ x dx, H x = none → H dx = none → dx ≠ x → sp_init C (.ref x :: ([.ref a, .ref b] ++ [])) (upd (upd H dx (.own x)) x (.ins C dx [])) (fun v H2 => v = .non ∧ R x H2) E := by
  intro x dx hx hdx hne
  have s0 : Same H (upd (upd H dx (.own x)) x (.ins C dx [])) := fun c o e => by
    rw [upd_ne (ne_of_none e hx), upd_ne (ne_of_none e hdx)]
    exact e
  refine ⟨x, dx, a, b, bs, rs, rfl, upd_same, hA.mono s0, hB.mono s0, g, fun H' s r k hs hr h1 h2 h3 => ⟨rfl, q H' x (fun c o e => k c o (s0 _ _ e) (ne_of_none e hx)) ⟨dx, s, r, dif_at hx h1, dif_at (s0.free hs) h2, dif_at (s0.free hr) h3⟩⟩⟩
def sp_l_two_right : Sp := fun vs H Q _ => ∃ (p l : Addr) (n k : Nat) (S : Hp) (bs rs : List Int), vs = [.ref p, .ref l] ∧ Lh S l bs rs ∧ Hb n bs rs ∧ Pst p k S H ∧ k ≤ 70000 ∧ ∀ H', Pst p (k + 100) S H' → Q (.bl true) H'
theorem sc_l_two_right : FnScope ["_law_purse_here", "_law_house_here", "_law_made_here", "_law_spin", "_law_rooms", "_law_other", "_law_due", "_law_back", "_law_told", "_law_dues", "_law_at", "_law_base", "_law_room", "_law_less", "_law_more", "_law_pair", "_law_late"] ["_law_purse_here", "_law_house_here"] (defScope s_l_two_right) := ⟨rfl, rfl, rfl, by decide +kernel, rfl, by decide +kernel, by decide +kernel⟩
theorem ok_l_two_right (T : Tx K mg C) : Ok P w K mg base 8 "_law_two_right" ["_law_purse_here", "_law_house_here"] (sp_l_two_right) := by
  obtain ⟨f_is_within, fd_is_within, G_is_within, m_is_within, k_is_within, b_is_within, w_is_within⟩ := ok_is_within (P := P) (w := w) (base := base) T
  obtain ⟨f_init, fd_init, G_init, M_init, b_init⟩ := ok_init (P := P) (w := w) (base := base) T
  obtain ⟨f_l_exact, fd_l_exact, G_l_exact, m_l_exact, k_l_exact, b_l_exact⟩ := ok_l_exact (P := P) (w := w) (base := base) T
  obtain ⟨f_l_told_of, fd_l_told_of, G_l_told_of, m_l_told_of, k_l_told_of, b_l_told_of⟩ := ok_l_told_of (P := P) (w := w) (base := base) T
  obtain ⟨f_lesser_house, fd_lesser_house, G_lesser_house, m_lesser_house, k_lesser_house, b_lesser_house, w_lesser_house⟩ := ok_lesser_house (P := P) (w := w) (base := base) T
  obtain ⟨f_greater_house, fd_greater_house, G_greater_house, m_greater_house, k_greater_house, b_greater_house, w_greater_house⟩ := ok_greater_house (P := P) (w := w) (base := base) T
  obtain ⟨f_l_one_of, fd_l_one_of, G_l_one_of, m_l_one_of, k_l_one_of, b_l_one_of⟩ := ok_l_one_of (P := P) (w := w) (base := base) T
  obtain ⟨f_l_draw, fd_l_draw, G_l_draw, m_l_draw, k_l_draw, b_l_draw⟩ := ok_l_draw (P := P) (w := w) (base := base) T
  obtain ⟨f_l_made, fd_l_made, G_l_made, m_l_made, k_l_made, b_l_made⟩ := ok_l_made (P := P) (w := w) (base := base) T
  refine ok_mk T.d_l_two_right sc_l_two_right (fun vs H Q E h => ?_) (fun _ _ _ _ _ _ us hl => match us, hl with | [_, _], _ => rfl) (fun f cdv A outer s H vs Q E hr h => ?_)
  · obtain ⟨p, l, n, k, S, bs, rs, rfl, _⟩ := h
    rfl
  have hu := hu_of hr
  have hu64 := hr.units
  obtain ⟨p, l, n, k, S, bs, rs, rfl, hL, hh, x, hk, q⟩ := h
  refine ⟨_, (pss_cons (ps_set (i := 2) sc_l_two_right.nd rfl (Or.inl rfl) (pe_call G_l_made (hr.mono (by decide)) (by rfl) m_l_made k_l_made b_l_made .nil pass0 (pa_cons (pv 1) pa_nil)))
      (pss_cons (ps_for PassesOwn.never rfl (pi_range1 (by rfl) T.b_range (pa_cons pe_int pa_nil)) (pg_name (i := 3) sc_l_two_right.nd rfl (Or.inl rfl)) (pss_cons (ps_setLc (i := 4) (own := [("_law_room", 12)]) rfl sc_l_two_right.nd rfl rfl (sw_true rfl rfl rfl (by decide +kernel)) (pi_list (pe_ix ix_list (pv 1) pe_int (fun _ _ => rfl))) (blkOk_by (own := [("_law_room", 12)]) (N := ["_law_purse_here", "_law_house_here", "_law_made_here", "_law_spin", "_law_rooms", "_law_other", "_law_due", "_law_back", "_law_told", "_law_dues", "_law_at", "_law_base", "_law_room", "_law_less", "_law_more", "_law_pair", "_law_late"]) (sc := defScope s_l_two_right) (by decide +kernel)) (fun _ _ _ _ _ => (pg_name (i := 12) sc_l_two_right.nd rfl (Or.inl rfl) (hf := Or.inr rfl))) (fun _ _ _ _ _ => pts_nil) (fun _ _ _ _ _ => (pe_call G_l_one_of (hr.mono (by decide)) (by rfl) m_l_one_of k_l_one_of b_l_one_of .nil pass0 (pa_cons (pv 0) (pa_cons (pe_lst (pa_cons (pv 12) (pa_cons (pe_callB (call_max2 rfl) (by rfl) T.b_max (by decide +kernel) (pa_cons pe_int (pa_cons (pe_op op_sub (pv 12) pe_int) pa_nil))) (pa_cons (pe_op op_add (pv 12) pe_int) (pa_cons (pe_call G_l_draw (hr.mono (by decide)) (by rfl) m_l_draw k_l_draw b_l_draw .nil pass0 (pa_cons (pv 0) (pa_cons pe_int pa_nil))) pa_nil))))) pa_nil)))))
      (pss_cons (ps_setLc (i := 4) (own := [("_law_room", 12)]) rfl sc_l_two_right.nd rfl rfl (sw_true rfl rfl rfl (by decide +kernel)) (pi_list (pv 4)) (blkOk_by (own := [("_law_room", 12)]) (N := ["_law_purse_here", "_law_house_here", "_law_made_here", "_law_spin", "_law_rooms", "_law_other", "_law_due", "_law_back", "_law_told", "_law_dues", "_law_at", "_law_base", "_law_room", "_law_less", "_law_more", "_law_pair", "_law_late"]) (sc := defScope s_l_two_right) (by decide +kernel)) (fun _ _ _ _ _ => (pg_name (i := 12) sc_l_two_right.nd rfl (Or.inl rfl) (hf := Or.inr rfl))) (fun _ _ _ _ _ => pts_nil) (fun _ _ _ _ _ => (pe_callB (call_min2 rfl) (by rfl) T.b_min (by decide +kernel) (pa_cons pe_int (pa_cons (pv 12) pa_nil)))))
      (pss_cons (ps_set (i := 5) sc_l_two_right.nd rfl (Or.inl rfl) (pe_make M_init G_init (hr.mono (by decide)) (by rfl) T.mgC b_init .nil pass0 (pa_cons (pe_callTy call_list_of (by rfl) T.b_list (by decide +kernel) (pa_cons (pe_ix ix_list (pv 1) pe_int (fun _ _ => rfl)) pa_nil)) (pa_cons (pe_callTy call_list_of (by rfl) T.b_list (by decide +kernel) (pa_cons (pv 4) pa_nil)) pa_nil))))
      (pss_cons (ps_set (i := 6) sc_l_two_right.nd rfl (Or.inl rfl) (pe_callB (cr_all rfl) (by rfl) T.b_all (by decide +kernel) (pa_cons (pe_lc (own := [("_law_less", 13), ("_law_more", 14)]) rfl sc_l_two_right.nd (pi_zip (by rfl) T.b_zip (pa_cons (pe_ix ix_list (pv 1) pe_int (fun _ _ => rfl)) (pa_cons (pv 4) pa_nil))) (blkOk_by (own := [("_law_less", 13), ("_law_more", 14)]) (N := ["_law_purse_here", "_law_house_here", "_law_made_here", "_law_spin", "_law_rooms", "_law_other", "_law_due", "_law_back", "_law_told", "_law_dues", "_law_at", "_law_base", "_law_room", "_law_less", "_law_more", "_law_pair", "_law_late"]) (sc := defScope s_l_two_right) (by decide +kernel)) (fun _ _ _ _ _ => (pg_tupK (K := K) (n := 2) rfl rfl (pgs_cons (pg_name (i := 13) sc_l_two_right.nd rfl (Or.inl rfl) (hf := Or.inr rfl)) (pgs_cons (pg_name (i := 14) sc_l_two_right.nd rfl (Or.inl rfl) (hf := Or.inr rfl)) pgs_nil)))) (fun _ _ _ _ _ => pts_nil) (fun _ _ _ _ _ => (pe_cmpR op_le (pv 13) (pv 14) (nomark _)))) pa_nil)))
      (pss_cons (ps_set (i := 7) sc_l_two_right.nd rfl (Or.inl rfl) (pe_callB (cr_all rfl) (by rfl) T.b_all (by decide +kernel) (pa_cons (pe_lc (own := [("_law_less", 13), ("_law_more", 14)]) rfl sc_l_two_right.nd (pi_zip (by rfl) T.b_zip (pa_cons (pv 4) (pa_cons (pe_ix ix_list (pv 1) pe_int (fun _ _ => rfl)) pa_nil))) (blkOk_by (own := [("_law_less", 13), ("_law_more", 14)]) (N := ["_law_purse_here", "_law_house_here", "_law_made_here", "_law_spin", "_law_rooms", "_law_other", "_law_due", "_law_back", "_law_told", "_law_dues", "_law_at", "_law_base", "_law_room", "_law_less", "_law_more", "_law_pair", "_law_late"]) (sc := defScope s_l_two_right) (by decide +kernel)) (fun _ _ _ _ _ => (pg_tupK (K := K) (n := 2) rfl rfl (pgs_cons (pg_name (i := 13) sc_l_two_right.nd rfl (Or.inl rfl) (hf := Or.inr rfl)) (pgs_cons (pg_name (i := 14) sc_l_two_right.nd rfl (Or.inl rfl) (hf := Or.inr rfl)) pgs_nil)))) (fun _ _ _ _ _ => pts_nil) (fun _ _ _ _ _ => (pe_cmpR op_le (pv 13) (pv 14) (nomark _)))) pa_nil)))
      (pss_cons (ps_if (pt_not (pt_val (pe_call G_l_exact (hr.mono (by decide)) (by rfl) m_l_exact k_l_exact b_l_exact .nil pass0 (pa_cons (pe_lst (pa_cons (pe_kw G_is_within (hr.mono (by decide)) (by rfl) m_is_within k_is_within w_is_within pass0 (pk_cons (pv 5) (pk_cons (pv 2) pk_nil))) (pa_cons (pe_call G_is_within (hr.mono (by decide)) (by rfl) m_is_within k_is_within b_is_within .nil pass0 (pa_cons (pv 5) (pa_cons (pv 2) pa_nil))) pa_nil))) (pa_cons (pe_lst (pa_cons (pv 6) (pa_cons (pv 7) pa_nil))) pa_nil))))) (pss_one (ps_ret pe_bl)) pss_nil)
      (pss_cons (ps_set (i := 8) sc_l_two_right.nd rfl (Or.inl rfl) (pe_lst (pa_cons (pe_kw G_lesser_house (hr.mono (by decide)) (by rfl) m_lesser_house k_lesser_house w_lesser_house pass0 (pk_cons (pv 5) (pk_cons (pv 2) pk_nil))) (pa_cons (pe_kw G_greater_house (hr.mono (by decide)) (by rfl) m_greater_house k_greater_house w_greater_house pass0 (pk_cons (pv 5) (pk_cons (pv 2) pk_nil))) (pa_cons (pe_call G_lesser_house (hr.mono (by decide)) (by rfl) m_lesser_house k_lesser_house b_lesser_house .nil pass0 (pa_cons (pv 5) (pa_cons (pv 2) pa_nil))) pa_nil)))))
      (pss_cons (ps_set (i := 9) sc_l_two_right.nd rfl (Or.inl rfl) (pe_lst (pa_cons (pe_lc (own := [("_law_pair", 15)]) rfl sc_l_two_right.nd (pi_zipN (by rfl) T.b_zip (pa_cons (pe_ix ix_list (pv 1) pe_int (fun _ _ => rfl)) (pa_cons (pv 4) pa_nil))) (blkOk_by (own := [("_law_pair", 15)]) (N := ["_law_purse_here", "_law_house_here", "_law_made_here", "_law_spin", "_law_rooms", "_law_other", "_law_due", "_law_back", "_law_told", "_law_dues", "_law_at", "_law_base", "_law_room", "_law_less", "_law_more", "_law_pair", "_law_late"]) (sc := defScope s_l_two_right) (by decide +kernel)) (fun _ _ _ _ _ => (pg_name (i := 15) sc_l_two_right.nd rfl (Or.inl rfl) (hf := Or.inr rfl))) (fun _ _ _ _ _ => pts_nil) (fun _ _ _ _ _ => (pe_callB (cr_minPK (K := K) rfl rfl) (by rfl) T.b_min (by decide +kernel) (pa_cons (pv 15) pa_nil)))) (pa_cons (pe_lc (own := [("_law_pair", 15)]) rfl sc_l_two_right.nd (pi_zipN (by rfl) T.b_zip (pa_cons (pe_ix ix_list (pv 1) pe_int (fun _ _ => rfl)) (pa_cons (pv 4) pa_nil))) (blkOk_by (own := [("_law_pair", 15)]) (N := ["_law_purse_here", "_law_house_here", "_law_made_here", "_law_spin", "_law_rooms", "_law_other", "_law_due", "_law_back", "_law_told", "_law_dues", "_law_at", "_law_base", "_law_room", "_law_less", "_law_more", "_law_pair", "_law_late"]) (sc := defScope s_l_two_right) (by decide +kernel)) (fun _ _ _ _ _ => (pg_name (i := 15) sc_l_two_right.nd rfl (Or.inl rfl) (hf := Or.inr rfl))) (fun _ _ _ _ _ => pts_nil) (fun _ _ _ _ _ => (pe_callB (cr_maxPK (K := K) rfl rfl) (by rfl) T.b_max (by decide +kernel) (pa_cons (pv 15) pa_nil)))) pa_nil))))
      (pss_cons (ps_if (pt_not (pt_val (pe_call G_l_exact (hr.mono (by decide)) (by rfl) m_l_exact k_l_exact b_l_exact .nil pass0 (pa_cons (pe_lc (own := [("_law_late", 16)]) rfl sc_l_two_right.nd (pi_list (pv 8)) (blkOk_by (own := [("_law_late", 16)]) (N := ["_law_purse_here", "_law_house_here", "_law_made_here", "_law_spin", "_law_rooms", "_law_other", "_law_due", "_law_back", "_law_told", "_law_dues", "_law_at", "_law_base", "_law_room", "_law_less", "_law_more", "_law_pair", "_law_late"]) (sc := defScope s_l_two_right) (by decide +kernel)) (fun _ _ _ _ _ => (pg_name (i := 16) sc_l_two_right.nd rfl (Or.inl rfl) (hf := Or.inr rfl))) (fun _ _ _ _ _ => pts_nil) (fun _ _ _ _ _ => (pe_call G_l_told_of (hr.mono (by decide)) (by rfl) m_l_told_of k_l_told_of b_l_told_of .nil pass0 (pa_cons (pv 16) pa_nil)))) (pa_cons (pe_lst (pa_cons (pe_lst (pa_cons (pe_ix ix_list (pv 1) pe_int (fun _ _ => rfl)) (pa_cons (pe_ix ix_list (pv 9) pe_int (fun _ _ => rfl)) pa_nil))) (pa_cons (pe_lst (pa_cons (pe_ix ix_list (pv 1) pe_int (fun _ _ => rfl)) (pa_cons (pe_ix ix_list (pv 9) pe_int (fun _ _ => rfl)) pa_nil))) (pa_cons (pe_lst (pa_cons (pe_ix ix_list (pv 1) pe_int (fun _ _ => rfl)) (pa_cons (pe_ix ix_list (pv 9) pe_int (fun _ _ => rfl)) pa_nil))) pa_nil)))) pa_nil))))) (pss_one (ps_ret pe_bl)) pss_nil)
      (pss_one (ps_if (PW.pt (pw_or (pt_not (pt_val (pe_call G_is_within (hr.mono (by decide)) (by rfl) m_is_within k_is_within b_is_within .nil pass0 (pa_cons (pe_ix ix_list (pv 8) pe_int (fun _ _ => rfl)) (pa_cons (pv 2) pa_nil))))) (pw_or (pt_not (pt_val (pe_call G_is_within (hr.mono (by decide)) (by rfl) m_is_within k_is_within b_is_within .nil pass0 (pa_cons (pv 5) (pa_cons (pe_ix ix_list (pv 8) pe_int (fun _ _ => rfl)) pa_nil))))) (pw_or1 (pt_not (pt_val (pe_call G_l_exact (hr.mono (by decide)) (by rfl) m_l_exact k_l_exact b_l_exact .nil pass0 (pa_cons (pe_call G_l_told_of (hr.mono (by decide)) (by rfl) m_l_told_of k_l_told_of b_l_told_of .nil pass0 (pa_cons (pv 2) pa_nil)) (pa_cons (pv 1) pa_nil))))))))) (pss_one (ps_ret pe_bl)) pss_nil))))))))))))
      (pss_cons (ps_for PassesOwn.never rfl (pi_enum (by rfl) T.b_enumerate (pa_cons (pe_ix ix_list (pv 1) pe_int (fun _ _ => rfl)) pa_nil)) (pg_tup rfl (pgs_cons (pg_name (i := 10) sc_l_two_right.nd rfl (Or.inl rfl)) (pgs_cons (pg_name (i := 11) sc_l_two_right.nd rfl (Or.inl rfl)) pgs_nil))) (pss_cons (ps_set (i := 5) sc_l_two_right.nd rfl (Or.inl rfl) (pe_make M_init G_init (hr.mono (by decide)) (by rfl) T.mgC b_init .nil pass0 (pa_cons (pe_op op_cat (pe_op op_cat (pe_slice sl_list (pe_ix ix_list (pv 1) pe_int (fun _ _ => rfl)) po_none (po_some (pv 10))) (pe_lst (pa_cons (pe_ifExp (pt_cmpR op_lt (pv 11) pe_int (nomark _)) (pe_op op_add (pv 11) pe_int) pe_int) pa_nil))) (pe_slice sl_list (pe_ix ix_list (pv 1) pe_int (fun _ _ => rfl)) (po_some (pe_op op_add (pv 10) pe_int)) po_none)) (pa_cons (pe_ix ix_list (pv 1) pe_int (fun _ _ => rfl)) pa_nil))))
      (pss_one (ps_if (pt_not (pt_val (pe_call G_l_exact (hr.mono (by decide)) (by rfl) m_l_exact k_l_exact b_l_exact .nil pass0 (pa_cons (pe_lst (pa_cons (pe_call G_is_within (hr.mono (by decide)) (by rfl) m_is_within k_is_within b_is_within .nil pass0 (pa_cons (pv 2) (pa_cons (pv 5) pa_nil))) (pa_cons (pe_call G_is_within (hr.mono (by decide)) (by rfl) m_is_within k_is_within b_is_within .nil pass0 (pa_cons (pv 5) (pa_cons (pv 2) pa_nil))) pa_nil))) (pa_cons (pe_lst (pa_cons pe_bl (pa_cons pe_bl pa_nil))) pa_nil))))) (pss_one (ps_ret pe_bl)) pss_nil))))
      (pss_cons (ps_if (PW.pt (pw_and (pt_cmpR op_lt (pe_callB call_len_seq (by rfl) T.b_len PySem.boot_len (pa_cons (pe_ix ix_list (pv 1) pe_int (fun _ _ => rfl)) pa_nil)) pe_int (nomark _)) (pw_and1 (pt_cmpR op_notBl (pe_call G_is_within (hr.mono (by decide)) (by rfl) m_is_within k_is_within b_is_within .nil pass0 (pa_cons (pv 2) (pa_cons (pe_make M_init G_init (hr.mono (by decide)) (by rfl) T.mgC b_init .nil pass0 (pa_cons (pe_op op_cat (pe_ix ix_list (pv 1) pe_int (fun _ _ => rfl)) (pe_lst (pa_cons pe_int pa_nil))) (pa_cons (pe_op op_cat (pe_ix ix_list (pv 1) pe_int (fun _ _ => rfl)) (pe_lst (pa_cons pe_int pa_nil))) pa_nil))) pa_nil))) pe_bl (nomark _))))) (pss_one (ps_ret pe_bl)) pss_nil)
      (pss_one (ps_ret (pe_cmpR op_isBl (pe_call G_is_within (hr.mono (by decide)) (by rfl) m_is_within k_is_within b_is_within .nil pass0 (pa_cons (pv 2) (pa_cons (pv 2) pa_nil))) pe_bl (nomark _)))))))), ?_⟩
  have g := hh.good
  have bl := hh.bl
  have rl := hh.rl
  have n8 := hh.n8
  obtain ⟨b, r, hl0, hb0, hr0⟩ := id hL
  refine ⟨_, rfl, l, bs, rs, rfl, hL.mono x.same, g, fun H1 m e1 hm => ?_⟩
  have x1 := x.grow e1
  have s1 : Same S (gr S H H1) := gr_old x.same
  have hm1 : Hs C (gr S H H1) m bs rs := hm.mono gr_dif
  generalize gr S H H1 = S1 at x1 s1 hm1
  clear hm e1
  have hl1 := s1 _ _ hl0
  have hb1 := hb0.mono s1
  have hr1 := hr0.mono s1
  refine ⟨4, rfl, by decide, by decide, ?_⟩
  refine for_range (lo := 0) (n := 4) (fun i σ H' => ∃ y3 y4 y5 y6 y7 y8 y9 y10 y11, σ = [some (.ref p), some (.ref l), some (.ref m), y3, y4, y5, y6, y7, y8, y9, y10, y11, none, none, none, none, none] ∧ Pst p (k + 16 * i) S1 H')
    ⟨none, none, none, none, none, none, none, none, none, rfl, x1⟩ ?_ ?_
  · rintro i σ H2 hi ⟨y3, y4, y5, y6, y7, y8, y9, y10, y11, rfl, x2⟩
    -- the drawn rooms
    refine ⟨_, rfl, l, _, _, _, rfl, rfl, SqL.of (x2.same _ _ hl1), atI_nat (j := 1) rfl, r, rfl, ⟨_, (hr1.mono x2.same).sq⟩, fun D hD => ?_⟩
    have nD : D ≠ p := x2.neN hD
    have sD : S1 D = none := x2.same.free hD
    refine lc_it (walk_list (xs := rs.map V.int)) (fun j H' => ∃ ms : List Int, Pst p (k + 16 * i + 2 * j) S1 H' ∧ IL H' D ms ∧ ms.length = j ∧ ∀ v ∈ ms, 0 ≤ v)
      ⟨[], x2.mut nD sD, upd_same, rfl, fun v hv => by cases hv⟩ (fun j H' _ ⟨_, x', _⟩ => (hr1.mono x'.same).sq) ?_ ?_
    · rintro j z H3 H4 hj ⟨ms, x3, hM, lm, m0⟩ ⟨rfl, y⟩
      obtain ⟨v, rfl, hv, mv⟩ := int_at y
      have v0 := g.r0 v mv
      have vm := g.rm v mv
      rw [List.length_map] at hj
      refine ⟨rfl, _, rfl, _, rfl, _, rfl, _, _, rfl, rfl, _, _, rfl, _, rfl, _, _, rfl, rfl, ?_⟩
      refine ⟨_, rfl, p, 60, _, _, rfl, by decide, by decide, x3.add hM nD, by omega, fun H5 d d0 d1 x5 => ?_⟩
      refine ⟨by show 4 ≤ sizeLine; decide, fun u hu' => ?_⟩
      have x6 := x5.new (o := .lst (([v, (if v - 1 > 0 then v - 1 else 0), v + 1, d] : List Int).map V.int)) hu'
      have hM5 : IL H5 D ms := x5.same _ _ upd_same
      have sS : Same S1 (upd (upd S1 D (.lst (ms.map V.int))) u (.lst (([v, (if v - 1 > 0 then v - 1 else 0), v + 1, d] : List Int).map V.int))) := (same_upd sD).trans (x5.newS hu')
      refine ⟨p, u, [v, (if v - 1 > 0 then v - 1 else 0), v + 1, d], _, _, rfl, upd_same, by show 1 ≤ 4; decide, by show 4 ≤ 1000; decide, x6, by omega, fun H7 e he x7 => ?_⟩
      have nDu : D ≠ u := ne_of_none hM5 hu'
      have e0 : 0 ≤ e := by
        simp only [List.mem_cons, List.not_mem_nil, or_false] at he
        rcases he with he | he | he | he
        · omega
        · rw [he]
          split <;> omega
        · omega
        · omega
      refine ⟨_, x7.same _ _ (by rw [upd_ne nDu, upd_same]), ?_, ms ++ [e], ((x7.less sS).mut nD sD).up (by omega), ?_, ?_, fun v hv => ?_⟩
      · rw [List.length_map]
        exact small1000 (by omega)
      · show _ = _
        rw [upd_same, List.map_append]
        rfl
      · rw [List.length_append, lm]
        rfl
      · rcases List.mem_append.mp hv with hv | hv
        · exact m0 v hv
        · rw [List.mem_singleton.mp hv]
          exact e0
    rintro H3 ⟨ms, x3, hM, lm, m0⟩
    rw [List.length_map] at lm x3
    -- capped
    refine ⟨_, rfl, D, rfl, ⟨_, hM.sq⟩, fun D2 hD2 => ?_⟩
    refine lc_vals (walk_list (xs := ms.map V.int)) (fun i => .int (cap (ms.getD i 0))) hD2 (by rw [List.length_map]; omega) (fun H' s => (hM.mono s).sq) (fun j z H4 H5 Q' hj s y kk => ?_) (fun H4 e4 ee => ?_)
    · obtain ⟨rfl, y⟩ := y
      obtain ⟨v, rfl, hv, mv⟩ := int_at y
      have kq := kk _ (Same.refl _)
      rw [getD_of hv] at kq
      exact ⟨rfl, _, rfl, _, _, rfl, kq⟩
    have iM : IL H4 D2 (ms.map cap) := by
      show _ = _
      rw [ee, List.length_map, ← range_getD, List.map_map]
      rfl
    have go : Good bs (ms.map cap) := by
      refine ⟨g.b2, g.bm, fun z hz => ?_, fun z hz => ?_, by rw [List.length_map, lm]; omega, g.few⟩
      · obtain ⟨v, hv, rfl⟩ := List.mem_map.mp hz
        exact cap0 (m0 v hv)
      · obtain ⟨v, hv, rfl⟩ := List.mem_map.mp hz
        exact Int.le_trans (cap60 v) (by decide)
    have lM : (ms.map cap).length = rs.length := by rw [List.length_map, lm]
    have x4 := x3.pure e4
    generalize ms.map cap = ns at iM go lM
    clear x3 e4 ee hM m0 lm hD2 x2 hD
    have a4 := x4.same
    have lE : rs.length = ns.length := lM.symm
    have l9 : rs.length ≤ 1000 := by omega
    -- other
    refine ⟨_, rfl, l, _, _, _, rfl, rfl, SqL.of (a4 _ _ hl1), atI_nat (j := 0) rfl, b, _, rfl, .inl (hb1.mono a4).sq, fun c hc => ?_⟩
    have e5 := same_upd (o := .lst (bs.map V.int)) hc
    refine ⟨_, rfl, D2, _, rfl, .inl (iM.mono e5).sq, fun c2 hc2 => ?_⟩
    have e6 := same_upd (o := .lst (ns.map V.int)) hc2
    refine make_okR (C := C) (e6 _ _ upd_same) (show _ = _ from upd_same) go fun H7 o e7 ho => ?_
    have ho := ho.mono dif_in
    have a7 := a4.trans ((e5.trans e6).trans e7)
    have iM := iM.mono ((e5.trans e6).trans e7)
    have x7 := x4.pure ((e5.trans e6).trans e7)
    clear e5 e6 e7 hc hc2 x4 a4
    -- due, back
    refine ⟨_, rfl, l, _, _, _, rfl, rfl, SqL.of (a7 _ _ hl1), atI_nat (j := 1) rfl, _, rfl, r, D2, _, _, rfl, (hr1.mono a7).sq, iM.sq, fun D3 hD3 => ?_⟩
    refine lc_le hD3 (hr1.mono a7) iM lE l9 (fun _ _ => rfl) (fun _ _ => rfl) (fun _ _ => rfl) fun H8 e8 ⟨q1, w1, w2⟩ => ⟨D3, q1, rfl, SqL.of w1, ?_⟩
    rw [w2]
    have a8 := a7.trans e8
    have iM8 := iM.mono e8
    refine ⟨_, rfl, _, rfl, l, _, _, _, rfl, rfl, SqL.of (a8 _ _ hl1), atI_nat (j := 1) rfl, D2, r, _, _, rfl, iM8.sq, (hr1.mono a8).sq, fun D4 hD4 => ?_⟩
    refine lc_le hD4 iM8 (hr1.mono a8) lE.symm (by omega) (fun _ _ => rfl) (fun _ _ => rfl) (fun _ _ => rfl) fun H9 e9 ⟨q2, w3, w4⟩ => ⟨D4, q2, rfl, SqL.of w3, ?_⟩
    rw [w4]
    have a9 := a8.trans e9
    have ho9 := ho.mono (e8.trans e9)
    -- within
    refine ⟨_, rfl, _, rfl, rfl, m, o, bs, rs, bs, ns, rfl, hm1.mono a9, ho9, g, go, fun H10 e10 => ?_⟩
    refine ⟨_, rfl, _, rfl, o, m, bs, ns, bs, rs, rfl, ho9.mono e10, hm1.mono (a9.trans e10), go, g, fun H11 e11 => ?_⟩
    refine ⟨by show 2 ≤ sizeLine; decide, fun t1 ht1 => ?_⟩
    have e12 := same_upd (o := .lst [.bl (within bs rs bs ns), .bl (within bs ns bs rs)]) ht1
    refine ⟨_, rfl, _, rfl, by show 2 ≤ sizeLine; decide, fun t2 ht2 => ?_⟩
    have e13 := same_upd (o := .lst [.bl (allTwo le2 rs ns), .bl (allTwo le2 ns rs)]) ht2
    refine ⟨_, _, rfl, Ak.up (n := 2) (Ak.up (n := 1) (Ak.lst (n := 0) (e13 _ _ upd_same) upd_same (by show 2 ≤ 1000; decide) (.cons (by rw [within_same bs rs ns]; exact Ak.bl _) (.cons (by rw [within_same bs ns rs]; exact Ak.bl _) .nil)))), fun H14 e14 => ⟨true, rfl, iteF ?_⟩⟩
    have e714 := (e8.trans e9).trans ((e10.trans e11).trans ((e12.trans e13).trans e14))
    have a14 := a7.trans e714
    have iM := iM.mono e714
    have ho := ho.mono e714
    have x14 := x7.pure e714
    clear e714 e8 e9 e10 e11 e12 e13 e14 ht1 ht2 hD3 hD4 w1 w2 w3 w4 a8 a9 iM8 ho9 x7 a7
    -- told
    have gL := good_two lo2_or g go
    have gH := good_two hi2_or g go
    have lL := byTwo_len lo2 rs ns
    have lH := byTwo_len hi2 rs ns
    refine ⟨_, rfl, _, rfl, rfl, m, o, bs, rs, ns, rfl, hm1.mono a14, ho, g, go, fun H15 u1 e15 h1 => ?_⟩
    refine ⟨_, rfl, _, rfl, rfl, m, o, bs, rs, ns, rfl, hm1.mono (a14.trans e15), ho.mono e15, g, go, fun H16 u2 e16 h2 => ?_⟩
    refine ⟨_, rfl, _, rfl, o, m, bs, ns, rs, rfl, ho.mono (e15.trans e16), hm1.mono (a14.trans (e15.trans e16)), go, g, fun H17 u3 e17 h3 => ?_⟩
    rw [← byTwo_comm lE] at h3
    refine ⟨by show 3 ≤ sizeLine; decide, fun t ht => ?_⟩
    have e18 := same_upd (o := .lst [.ref u1, .ref u2, .ref u3]) ht
    have h1 := (h1.mono dif_in).mono (e16.trans (e17.trans e18))
    have h2 := (h2.mono dif_in).mono (e17.trans e18)
    have h3 := (h3.mono dif_in).mono e18
    have hT := upd_same (H := H17) (a := t) (o := .lst [.ref u1, .ref u2, .ref u3])
    have eA := (e15.trans e16).trans (e17.trans e18)
    generalize upd H17 t (.lst [.ref u1, .ref u2, .ref u3]) = H18 at e18 h1 h2 h3 hT eA
    have a18 := a14.trans eA
    have iM := iM.mono eA
    have ho := ho.mono eA
    have x18 := x14.pure eA
    clear e15 e16 e17 e18 ht x14 a14 eA
    -- dues
    refine ⟨_, rfl, l, _, _, _, rfl, rfl, SqL.of (a18 _ _ hl1), atI_nat (j := 1) rfl, _, rfl, r, D2, _, _, rfl, (hr1.mono a18).sq, iM.sq, fun D3 hD3 => ?_⟩
    refine lc_pair lo2 (fun p u v H Q hp q => ⟨p, u, v, rfl, hp, q⟩) hD3 (hr1.mono a18) iM lE l9 (fun _ => rfl) (fun _ => rfl) fun H19 e19 i19 => ?_
    have a19 := a18.trans e19
    refine ⟨_, rfl, l, _, _, _, rfl, rfl, SqL.of (a19 _ _ hl1), atI_nat (j := 1) rfl, _, rfl, r, D2, _, _, rfl, (hr1.mono a19).sq, (iM.mono e19).sq, fun D4 hD4 => ?_⟩
    refine lc_pair hi2 (fun p u v H Q hp q => ⟨p, u, v, rfl, hp, q⟩) hD4 (hr1.mono a19) (iM.mono e19) lE l9 (fun _ => rfl) (fun _ => rfl) fun H20 e20 i20 => ?_
    refine ⟨by show 2 ≤ sizeLine; decide, fun dd hdd => ?_⟩
    have e21 := same_upd (o := .lst [.ref D3, .ref D4]) hdd
    have hDD := upd_same (H := H20) (a := dd) (o := .lst [.ref D3, .ref D4])
    have i19 := i19.mono (e20.trans e21)
    have i20 := i20.mono e21
    have eB := e19.trans (e20.trans e21)
    generalize upd H20 dd (.lst [.ref D3, .ref D4]) = H21 at e21 hDD i19 i20 eB
    have a21 := a18.trans eB
    have ho := ho.mono eB
    have h1 := h1.mono eB
    have h2 := h2.mono eB
    have h3 := h3.mono eB
    have hT := eB _ _ hT
    have x21 := x18.pure eB
    clear e19 e20 e21 hD3 hD4 hdd a18 a19 eB iM x18
    -- the houses told
    refine ⟨_, rfl, t, rfl, ⟨_, SqL.of hT⟩, fun D5 hD5 => ?_⟩
    have three : ∀ (j : Nat) (z : V), j < 3 → ([V.ref u1, V.ref u2, V.ref u3])[j]? = some z → ∃ v ms, z = .ref v ∧ [byTwo lo2 rs ns, byTwo hi2 rs ns, byTwo lo2 rs ns][j]? = some ms ∧ Hs C H21 v bs ms ∧ Good bs ms := by
      intro j z hj hz
      match j, hj, hz with
      | 0, _, hz => exact ⟨u1, _, (Option.some.inj hz).symm, rfl, h1, gL⟩
      | 1, _, hz => exact ⟨u2, _, (Option.some.inj hz).symm, rfl, h2, gH⟩
      | 2, _, hz => exact ⟨u3, _, (Option.some.inj hz).symm, rfl, h3, gL⟩
    refine lc_it (walk_list (xs := [V.ref u1, V.ref u2, V.ref u3])) (fun j H' => Same H21 (hole H' D5) ∧ ∃ us : List Addr, H' D5 = some (.lst (us.map V.ref)) ∧ us.length = j ∧ ∀ (i : Nat) u ms, us[i]? = some u → [byTwo lo2 rs ns, byTwo hi2 rs ns, byTwo lo2 rs ns][i]? = some ms → Lh (hole H' D5) u bs ms)
      ⟨by rw [hole_upd]; exact same_hole (Same.refl _) hD5, [], upd_same, rfl, fun i u ms h => by cases h⟩ (fun j H' _ ⟨s, _⟩ => SqL.of (hole_same _ _ (s _ _ hT))) ?_ ?_
    · rintro j z H22 H23 hj ⟨s, us, hU, lu, hus⟩ ⟨rfl, y⟩
      obtain ⟨v, ms, rfl, hms, hv, gv⟩ := three j z hj y
      refine ⟨rfl, _, rfl, v, bs, ms, rfl, (hv.mono s).mono hole_same, gv, fun H24 w e24 hw => ⟨_, e24 _ _ hU, ?_, ?_, us ++ [w], ?_, ?_, fun i u ms' h4 h5 => ?_⟩⟩
      · rw [List.length_map]
        exact small1000 (by rw [lu]; exact Nat.le_of_lt (Nat.lt_of_lt_of_le hj (by show 3 ≤ 1000; decide)))
      · rw [hole_upd]
        exact s.trans (hole_mono e24)
      · rw [upd_same, List.map_append]
        rfl
      · rw [List.length_append, lu]
        rfl
      · rw [hole_upd]
        by_cases c : i < us.length
        · rw [List.getElem?_append_left c] at h4
          exact (hus i u ms' h4 h5).mono (hole_mono e24)
        · have c2 : i < (us ++ [w]).length := (List.getElem?_eq_some_iff.mp h4).1
          rw [List.length_append] at c2
          have c3 : i = us.length := by
            have : ([w] : List Addr).length = 1 := rfl
            omega
          subst c3
          rw [List.getElem?_append_right (Nat.le_refl _), Nat.sub_self] at h4
          rw [lu] at h5
          rw [hms] at h5
          rw [← Option.some.inj h5, ← Option.some.inj h4]
          exact hw.mono (dif_hole hU)
    rintro H22 ⟨s, us, hU, lu, hus⟩
    obtain ⟨v1, v2, v3, rfl⟩ : ∃ v1 v2 v3, us = [v1, v2, v3] := by
      match us, lu with
      | [v1, v2, v3], _ => exact ⟨v1, v2, v3, rfl⟩
    have k1 := (hus 0 v1 _ rfl rfl).mono hole_same
    have k2 := (hus 1 v2 _ rfl rfl).mono hole_same
    have k3 := (hus 2 v3 _ rfl rfl).mono hole_same
    have e22 := s.trans hole_same
    clear s hus three lu hD5
    have a22 := a21.trans e22
    have hDD := e22 _ _ hDD
    refine ⟨_, rfl, l, _, _, _, rfl, rfl, SqL.of (a22 _ _ hl1), atI_nat (j := 0) rfl, _, rfl, dd, _, _, _, rfl, rfl, SqL.of hDD, atI_nat (j := 0) rfl, by show 2 ≤ sizeLine; decide, fun z1 hz1 => ?_⟩
    have f1 := same_upd (o := .lst [.ref b, .ref D3]) hz1
    refine ⟨_, rfl, l, _, _, _, rfl, rfl, SqL.of (f1 _ _ (a22 _ _ hl1)), atI_nat (j := 0) rfl, _, rfl, dd, _, _, _, rfl, rfl, SqL.of (f1 _ _ hDD), atI_nat (j := 1) rfl, by show 2 ≤ sizeLine; decide, fun z2 hz2 => ?_⟩
    have f2 := same_upd (o := .lst [.ref b, .ref D4]) hz2
    refine ⟨_, rfl, l, _, _, _, rfl, rfl, SqL.of (f2 _ _ (f1 _ _ (a22 _ _ hl1))), atI_nat (j := 0) rfl, _, rfl, dd, _, _, _, rfl, rfl, SqL.of (f2 _ _ (f1 _ _ hDD)), atI_nat (j := 0) rfl, by show 2 ≤ sizeLine; decide, fun z3 hz3 => ?_⟩
    have f3 := same_upd (o := .lst [.ref b, .ref D3]) hz3
    refine ⟨by show 3 ≤ sizeLine; decide, fun z4 hz4 => ?_⟩
    have f4 := same_upd (o := .lst [.ref z1, .ref z2, .ref z3]) hz4
    have fA := (f1.trans f2).trans (f3.trans f4)
    have p1 := (f2.trans (f3.trans f4)) _ _ (upd_same (H := H22) (a := z1) (o := .lst [.ref b, .ref D3]))
    have p2 := (f3.trans f4) _ _ (upd_same (H := upd H22 z1 (.lst [.ref b, .ref D3])) (a := z2) (o := .lst [.ref b, .ref D4]))
    have p3 := f4 _ _ (upd_same (H := upd (upd H22 z1 (.lst [.ref b, .ref D3])) z2 (.lst [.ref b, .ref D4])) (a := z3) (o := .lst [.ref b, .ref D3]))
    have p4 := upd_same (H := upd (upd (upd H22 z1 (.lst [.ref b, .ref D3])) z2 (.lst [.ref b, .ref D4])) z3 (.lst [.ref b, .ref D3])) (a := z4) (o := .lst [.ref z1, .ref z2, .ref z3])
    generalize upd (upd (upd (upd H22 z1 (.lst [.ref b, .ref D3])) z2 (.lst [.ref b, .ref D4])) z3 (.lst [.ref b, .ref D3])) z4 (.lst [.ref z1, .ref z2, .ref z3]) = H23 at fA p1 p2 p3 p4
    clear f1 f2 f3 f4 hz1 hz2 hz3 hz4
    have bB : IL H23 b bs := hb1.mono (a22.trans fA)
    have c1 : Lh H23 z1 bs (byTwo lo2 rs ns) := ⟨b, D3, p1, bB, i19.mono (e22.trans fA)⟩
    have c2 : Lh H23 z2 bs (byTwo hi2 rs ns) := ⟨b, D4, p2, bB, i20.mono (e22.trans fA)⟩
    have c3 : Lh H23 z3 bs (byTwo lo2 rs ns) := ⟨b, D3, p3, bB, i19.mono (e22.trans fA)⟩
    refine ⟨_, _, rfl, Ak.lst (n := 2) (fA _ _ hU) p4 (by show 3 ≤ 1000; decide) (.cons (Lh.ak (n := 0) (k1.mono fA) c1 (by omega) (by omega)) (.cons (Lh.ak (n := 0) (k2.mono fA) c2 (by omega) (by omega)) (.cons (Lh.ak (n := 0) (k3.mono fA) c3 (by omega) (by omega)) .nil))), fun H24 e24 => ⟨true, rfl, iteF ?_⟩⟩
    have eC := e22.trans (fA.trans e24)
    have a24 := a21.trans eC
    have ho := ho.mono eC
    have h1 := h1.mono eC
    have h2 := h2.mono eC
    have hT := eC _ _ hT
    have x24 := x21.pure eC
    clear eC fA p1 p2 p3 p4 bB c1 c2 c3 k1 k2 k3 e22 e24 a22 a21 hDD hU i19 i20 h3 x21
    -- the last tests of a turn
    refine ⟨_, rfl, t, _, _, _, rfl, rfl, SqL.of hT, atI_nat (j := 0) rfl, _, rfl, u1, m, bs, _, bs, rs, rfl, h1, hm1.mono a24, gL, g, fun H25 e25 => ⟨true, congrArg V.bl (within_lo bs rs ns), iteF ?_⟩⟩
    refine ⟨_, rfl, _, rfl, t, _, _, _, rfl, rfl, SqL.of (e25 _ _ hT), atI_nat (j := 1) rfl, o, u2, bs, ns, bs, _, rfl, ho.mono e25, h2.mono e25, go, gH, fun H26 e26 => ⟨true, congrArg V.bl (within_hi bs rs ns lE), iteF ?_⟩⟩
    have a26 := a24.trans (e25.trans e26)
    refine ⟨_, rfl, m, bs, rs, rfl, hm1.mono a26, g, fun H27 u27 e27 h27 => ?_⟩
    refine ⟨_, rfl, _, _, rfl, Ak.up (n := 2) (Lh.ak (n := 0) (h27.mono dif_in) (hL.mono (s1.trans (a26.trans e27))) (by omega) (by omega)), fun H28 e28 => ⟨true, rfl, iteF ?_⟩⟩
    exact ⟨_, _, _, _, _, _, _, _, _, rfl, (x24.pure ((e25.trans e26).trans (e27.trans e28))).up (by omega)⟩
  · rintro σ H2 ⟨y3, y4, y5, y6, y7, y8, y9, y10, y11, rfl, x2⟩
    have x2 : Pst p (k + 64) S1 H2 := x2
    -- another base
    refine ⟨_, rfl, l, _, _, _, rfl, rfl, SqL.of (x2.same _ _ hl1), atI_nat (j := 0) rfl, b, _, rfl, (hb1.mono x2.same).sq, ?_⟩
    refine for_it walk_enum (fun i σ H' => ∃ y3 y4 y5 y6 y7 y8 y9 y10 y11, σ = [some (.ref p), some (.ref l), some (.ref m), y3, y4, y5, y6, y7, y8, y9, y10, y11, none, none, none, none, none] ∧ Pst p (k + 64) S1 H')
      ⟨_, _, _, _, _, _, _, _, _, rfl, x2.up (by omega)⟩ (fun i σ H' _ ⟨_, _, _, _, _, _, _, _, _, _, x4⟩ => (hb1.mono x4.same).sq) ?_ ?_
    · rintro i v σ H3 H4 hi ⟨y3, y4, y5, y6, y7, y8, y9, y10, y11, rfl, x4⟩ ⟨t, u1, u2, rfl, nt, rfl, f1, f2⟩
      obtain ⟨c, rfl, hc, mc⟩ := int_at f2
      cases f1
      rw [List.length_map] at hi
      have c2 := hh.b2 c mc
      have c60 := hh.b60 c mc
      refine ⟨t, _, rfl, SqT.of upd_same, rfl, _, _, rfl, _, _, rfl, rfl, ?_⟩
      have x5 : Pst p (k + 64) S1 (upd H3 t (.tup [.int (i : Int), .int c])) := x4.pure (same_upd nt)
      generalize upd H3 t (.tup [.int (i : Int), .int c]) = H5 at x5
      have a5 := x5.same
      have hd : ∃ d : Int, 2 ≤ d ∧ d ≤ 60 ∧ d ≠ c ∧ d = if c < 60 then c + 1 else 59 := ⟨_, by split <;> omega, by split <;> omega, by split <;> omega, rfl⟩
      obtain ⟨d, d2, d60, dc, ed⟩ := hd
      have gb := good_setBase g hi d2 (show d ≤ 1000 by omega)
      have nb : setAt bs i d ≠ bs := setAt_ne hi (by rw [getD_of hc]; exact dc)
      refine seam (i := i) (d := d) rfl rfl (a5 _ _ hl1) (atI_nat (j := 0) rfl) (hb1.mono a5) (by omega) (fun H' Q' _ qq => ?_) fun H6 u6 e6 _ h6 => ?_
      · refine ⟨_, rfl, _, _, rfl, rfl, _, rfl, ?_⟩
        rw [ed] at qq
        refine ite2 (fun cc => ?_) (fun cc => ?_)
        · have cc2 : c < 60 := of_decide_eq_true cc
          rw [if_pos cc2] at qq
          exact ⟨_, rfl, _, _, rfl, rfl, qq⟩
        · have cc2 : ¬ c < 60 := fun h => cc (decide_eq_true h)
          rw [if_neg cc2] at qq
          exact qq
      have a6 := a5.trans e6
      refine ⟨_, rfl, l, _, _, _, rfl, rfl, SqL.of (a6 _ _ hl1), atI_nat (j := 1) rfl, make_okR (C := C) h6 (hr1.mono a6) gb fun H7 o e7 ho => ?_⟩
      have ho := ho.mono dif_in
      have a7 := a6.trans e7
      refine ⟨_, rfl, _, rfl, m, o, bs, rs, _, rs, rfl, hm1.mono a7, ho, g, gb, fun H8 e8 => ?_⟩
      refine ⟨_, rfl, _, rfl, o, m, _, rs, bs, rs, rfl, ho.mono e8, hm1.mono (a7.trans e8), gb, g, fun H9 e9 => ?_⟩
      rw [within_not rs rs nb.symm, within_not rs rs nb]
      refine ⟨by show 2 ≤ sizeLine; decide, fun t1 ht1 => ?_⟩
      have e10 := same_upd (o := .lst [.bl false, .bl false]) ht1
      refine ⟨by show 2 ≤ sizeLine; decide, fun t2 ht2 => ?_⟩
      have e11 := same_upd (o := .lst [.bl false, .bl false]) ht2
      refine ⟨_, _, rfl, Ak.up (n := 2) (Ak.up (n := 1) (Ak.lst (n := 0) (e11 _ _ upd_same) upd_same (by show 2 ≤ 1000; decide) (.cons (Ak.bl _) (.cons (Ak.bl _) .nil)))), fun H12 e12 => ⟨true, rfl, iteF ?_⟩⟩
      exact ⟨_, _, _, _, _, _, _, _, _, rfl, x5.pure ((e6.trans e7).trans ((e8.trans e9).trans ((e10.trans e11).trans e12)))⟩
    rintro σ H3 ⟨y3, y4, y5, y6, y7, y8, y9, y10, y11, rfl, x3⟩
    have a3 := x3.same
    -- one more place
    refine ⟨_, rfl, l, _, _, _, rfl, rfl, SqL.of (a3 _ _ hl1), atI_nat (j := 1) rfl, r, _, rfl, .inl (hr1.mono a3).sq, _, _, rfl, rfl, _, rfl, ite2 (fun c => ?a) (fun c => ?b)⟩
    case' b => have x9 := x3
    case' a =>
      refine ⟨_, rfl, _, rfl, l, _, _, _, rfl, rfl, SqL.of (a3 _ _ hl1), atI_nat (j := 0) rfl, by show 1 ≤ sizeLine; decide, fun u4 hu4 => ?_⟩
      have e4 := same_upd (o := .lst [.int 2]) hu4
      refine cat_ints ((hb1.mono a3).mono e4) (show IL _ u4 [2] from upd_same) (by show bs.length + 1 ≤ 900; omega) fun H5 u5 e5 _ h5 => ?_
      have a5 := a3.trans (e4.trans e5)
      refine ⟨_, rfl, l, _, _, _, rfl, rfl, SqL.of (a5 _ _ hl1), atI_nat (j := 1) rfl, by show 1 ≤ sizeLine; decide, fun u6 hu6 => ?_⟩
      have e6 := same_upd (o := .lst [.int 60]) hu6
      refine cat_ints ((hr1.mono a5).mono e6) (show IL _ u6 [60] from upd_same) (by show rs.length + 1 ≤ 900; omega) fun H7 u7 e7 _ h7 => ?_
      have gm := good_more (b := 2) (r := 60) g (by decide) (by decide) (by decide) (by decide) (by omega)
      refine make_okR (C := C) (h5.mono (e6.trans e7)) h7 gm fun H8 o e8 ho => ?_
      refine ⟨m, o, bs, rs, _, _, rfl, hm1.mono (a5.trans ((e6.trans e7).trans e8)), ho.mono dif_in, g, gm, fun H9 e9 => ?_⟩
      refine ⟨_, _, congrArg V.bl (within_not rs _ (app_ne bs 2)), rfl, _, rfl, iteF ?_⟩
      have x9 := x3.pure (((e4.trans e5).trans (e6.trans e7)).trans (e8.trans e9))
    all_goals
      refine ⟨_, rfl, _, rfl, m, m, bs, rs, bs, rs, rfl, hm1.mono x9.same, hm1.mono x9.same, g, g, fun H10 e10 => ?_⟩
      refine ⟨_, _, congrArg V.bl (within_own bs rs), rfl, ?_⟩
      exact q H10 (((x9.pure e10).less s1).up (by omega))
end
end K4

set_option maxHeartbeats 4000000
namespace K4
open PySem PySem.Spec PyProof.Rows L2
section
variable {P : Program} {w : World} {K : PySem.W.Frag} {mg : Str → Option Value} {base : Heap} {C : Addr}
def sp_law (K : PySem.W.Frag) : Sp := fun vs H Q _ => ∃ (a : Addr) (ns : List Int), vs = [.ref a] ∧ SqL K H a (ns.map V.int) ∧ ns.length ≤ 63 ∧ ∀ H', Q (.bl true) H'
theorem sc_law : FnScope ["_law_script", "_law_purse_here", "_law_houses", "_law_house_here"] ["_law_script"] (defScope s_law) := ⟨rfl, rfl, rfl, by decide +kernel, rfl, by decide +kernel, by decide +kernel⟩
theorem ok_law (T : Tx K mg C) {f : Addr} {fd : FuncData} (F : FunD K "law" "law" (defArgs s_law) (defBody s_law) (defScope s_law) [] [] f fd) : FnOk P w K mg base CX0 9 f fd ["_law_script"] (sp_law K) := by
  obtain ⟨f_l_purses, fd_l_purses, G_l_purses, m_l_purses, k_l_purses, b_l_purses⟩ := ok_l_purses (P := P) (w := w) (base := base) T
  obtain ⟨f_l_behind_right, fd_l_behind_right, G_l_behind_right, m_l_behind_right, k_l_behind_right, b_l_behind_right⟩ := ok_l_behind_right (P := P) (w := w) (base := base) T
  obtain ⟨f_l_great_house, fd_l_great_house, G_l_great_house, m_l_great_house, k_l_great_house, b_l_great_house⟩ := ok_l_great_house (P := P) (w := w) (base := base) T
  obtain ⟨f_l_places_right, fd_l_places_right, G_l_places_right, m_l_places_right, k_l_places_right, b_l_places_right⟩ := ok_l_places_right (P := P) (w := w) (base := base) T
  obtain ⟨f_l_two_right, fd_l_two_right, G_l_two_right, m_l_two_right, k_l_two_right, b_l_two_right⟩ := ok_l_two_right (P := P) (w := w) (base := base) T
  obtain ⟨f_l_house, fd_l_house, G_l_house, m_l_house, k_l_house, b_l_house⟩ := ok_l_house (P := P) (w := w) (base := base) T
  obtain ⟨f_l_draw, fd_l_draw, G_l_draw, m_l_draw, k_l_draw, b_l_draw⟩ := ok_l_draw (P := P) (w := w) (base := base) T
  refine fd_ok F sc_law (fun vs H Q E h => ?_) (fun cdv A outer s H vs Q E hr h => ?_)
  · obtain ⟨a, ns, rfl, _⟩ := h
    rfl
  have hu := hu_of hr
  have hu64 := hr.units
  obtain ⟨a, ns, rfl, hS, hn, q⟩ := h
  refine ⟨_, (pss_cons (ps_for PassesOwn.never rfl (pi_list (pe_call G_l_purses (hr.mono (by decide)) (by rfl) m_l_purses k_l_purses b_l_purses .nil pass0 (pa_cons (pv 0) (pa_cons pe_int pa_nil)))) (pg_name (i := 1) sc_law.nd rfl (Or.inl rfl)) (pss_cons (ps_set (i := 2) sc_law.nd rfl (Or.inl rfl) (pe_lst (pa_cons (pe_call G_l_house (hr.mono (by decide)) (by rfl) m_l_house k_l_house b_l_house .nil pass0 (pa_cons (pv 1) (pa_cons (pe_op op_add pe_int (pe_call G_l_draw (hr.mono (by decide)) (by rfl) m_l_draw k_l_draw b_l_draw .nil pass0 (pa_cons (pv 1) (pa_cons pe_int pa_nil)))) pa_nil))) (pa_cons (pe_call G_l_house (hr.mono (by decide)) (by rfl) m_l_house k_l_house b_l_house .nil pass0 (pa_cons (pv 1) (pa_cons (pe_op op_add pe_int (pe_call G_l_draw (hr.mono (by decide)) (by rfl) m_l_draw k_l_draw b_l_draw .nil pass0 (pa_cons (pv 1) (pa_cons pe_int pa_nil)))) pa_nil))) pa_nil))))
      (pss_cons (ps_for PassesOwn.never rfl (pi_list (pe_op op_cat (pv 2) (pe_lst (pa_cons (pe_call G_l_great_house (hr.mono (by decide)) (by rfl) m_l_great_house k_l_great_house b_l_great_house .nil pass0 (pa_cons (pv 1) pa_nil)) pa_nil)))) (pg_name (i := 3) sc_law.nd rfl (Or.inl rfl)) (pss_one (ps_if (PW.pt (pw_or (pt_not (pt_val (pe_call G_l_two_right (hr.mono (by decide)) (by rfl) m_l_two_right k_l_two_right b_l_two_right .nil pass0 (pa_cons (pv 1) (pa_cons (pv 3) pa_nil))))) (pw_or1 (pt_not (pt_val (pe_call G_l_places_right (hr.mono (by decide)) (by rfl) m_l_places_right k_l_places_right b_l_places_right .nil pass0 (pa_cons (pv 1) (pa_cons (pv 3) pa_nil)))))))) (pss_one (ps_ret pe_bl)) pss_nil)))
      (pss_one (ps_if (PW.pt (pw_or (pt_not (pt_val (pe_call G_l_behind_right (hr.mono (by decide)) (by rfl) m_l_behind_right k_l_behind_right b_l_behind_right .nil pass0 (pa_cons (pv 1) (pa_cons (pe_ix ix_list (pv 2) pe_int (fun _ _ => rfl)) (pa_cons (pe_ix ix_list (pv 2) pe_int (fun _ _ => rfl)) pa_nil)))))) (pw_or1 (pt_not (pt_val (pe_call G_l_behind_right (hr.mono (by decide)) (by rfl) m_l_behind_right k_l_behind_right b_l_behind_right .nil pass0 (pa_cons (pv 1) (pa_cons (pe_ix ix_list (pv 2) pe_int (fun _ _ => rfl)) (pa_cons (pe_ix ix_list (pv 2) pe_int (fun _ _ => rfl)) pa_nil))))))))) (pss_one (ps_ret pe_bl)) pss_nil)))))
      (pss_one (ps_ret pe_bl))), ?_⟩
  refine ⟨_, rfl, a, ns, rfl, hS, hn, fun H1 l ps s1 hl0 hl hps nd hp => ?_⟩
  refine ⟨l, rfl, ⟨_, SqL.of hl⟩, ?_⟩
  refine for_list (K := K) (a := l) (xs := ps.map V.ref) (fun i σ H' => ∃ y1 y2 y3, σ = [some (.ref a), y1, y2, y3] ∧ H' l = some (.lst (ps.map V.ref)) ∧ ∀ p ∈ ps.drop i, Purse H' p 0)
    ⟨none, none, none, rfl, hl, fun p m => (hp p (List.mem_of_mem_drop m)).2.2⟩ (fun i σ H' _ ⟨_, _, _, _, e, _⟩ => SqL.of e) ?_ ?_
  · rintro i v σ H2 hi ⟨y1, y2, y3, rfl, hl2, hp2⟩
    rw [List.getElem?_map] at hi
    obtain ⟨p, hpi, rfl⟩ : ∃ p, ps[i]? = some p ∧ V.ref p = v := by
      cases e : ps[i]? with
      | none =>
        rw [e] at hi
        cases hi
      | some p =>
        rw [e] at hi
        exact ⟨p, rfl, Option.some.inj hi⟩
    have mp : p ∈ ps := List.mem_of_getElem? hpi
    have hd : ps.drop i = p :: ps.drop (i + 1) := by
      obtain ⟨hlt, e⟩ := List.getElem?_eq_some_iff.mp hpi
      rw [← e]
      exact List.drop_eq_getElem_cons hlt
    have nlp : l ≠ p := (hp p mp).2.1.symm
    have nin : p ∉ ps.drop (i + 1) := by
      have h := nd.sublist (List.drop_sublist i ps)
      rw [hd] at h
      exact (List.nodup_cons.mp h).1
    have x0 : Pst p 0 (hole H2 p) H2 := ⟨hole_same, hole_at _ _, hp2 p (by rw [hd]; exact List.mem_cons_self ..)⟩
    have fin : ∀ {k : Nat} {H' : Hp}, Pst p k (hole H2 p) H' → H' l = some (.lst (ps.map V.ref)) ∧ ∀ p ∈ ps.drop (i + 1), Purse H' p 0 := fun x => by
      refine ⟨x.same _ _ (by rw [hole_ne nlp]; exact hl2), fun r m => ?_⟩
      have nr : r ≠ p := fun z => nin (z ▸ m)
      obtain ⟨u, s, n, b, g1, g2⟩ := hp2 r (by rw [hd]; exact List.mem_cons_of_mem _ m)
      exact ⟨u, s, n, b, x.same _ _ (by rw [hole_ne nr]; exact g1), g2⟩
    generalize hole H2 p = S0 at x0 fin
    -- two houses
    refine ⟨_, rfl, _, rfl, p, 4, _, S0, rfl, by decide, by decide, x0, by decide, fun H3 d d0 d1 x3 => ?_⟩
    refine ⟨_, _, rfl, rfl, p, _, _, S0, rfl, by omega, by omega, x3, by decide, fun H4 S1 u1 b1 r1 bs1 rs1 s1 _ k1 k2 k3 hh1 x4 => ?_⟩
    have L1 : Lh S1 u1 bs1 rs1 := ⟨b1, r1, k1, k2, k3⟩
    refine ⟨_, rfl, _, rfl, p, 4, _, S1, rfl, by decide, by decide, x4, by decide, fun H5 e e0 e1 x5 => ?_⟩
    refine ⟨_, _, rfl, rfl, p, _, _, S1, rfl, by omega, by omega, x5, by decide, fun H6 S2 u2 b2 r2 bs2 rs2 s2 _ j1 j2 j3 hh2 x6 => ?_⟩
    have L2' : Lh S2 u2 bs2 rs2 := ⟨b2, r2, j1, j2, j3⟩
    refine ⟨by show 2 ≤ sizeLine; decide, fun t ht => ?_⟩
    have x7 := x6.new (o := .lst [.ref u1, .ref u2]) ht
    have s7 : Same S2 (upd S2 t (.lst [.ref u1, .ref u2])) := x6.newS ht
    have hT : (upd S2 t (.lst [.ref u1, .ref u2])) t = some (.lst [.ref u1, .ref u2]) := upd_same
    generalize upd S2 t (.lst [.ref u1, .ref u2]) = S7 at x7 s7 hT
    generalize upd H6 t (.lst [.ref u1, .ref u2]) = H7 at x7
    -- and a great one
    refine ⟨_, rfl, _, rfl, p, _, S7, rfl, x7, by decide, fun H8 S8 u3 n3 bs3 rs3 s8 L3 hh3 x8 => ?_⟩
    refine ⟨by show 1 ≤ sizeLine; decide, fun v hv => ?_⟩
    have x9 := x8.new (o := .lst [.ref u3]) hv
    have s9 : Same S8 (upd S8 v (.lst [.ref u3])) := x8.newS hv
    have hV : (upd S8 v (.lst [.ref u3])) v = some (.lst [.ref u3]) := upd_same
    generalize upd S8 v (.lst [.ref u3]) = S9 at x9 s9 hV
    generalize upd H8 v (.lst [.ref u3]) = H9 at x9
    have hT9 := s9 _ _ (s8 _ _ hT)
    refine ⟨t, v, _, _, rfl, rfl, x9.same _ _ hT9, x9.same _ _ hV, by show 3 ≤ sizeLine; decide, fun c hc => ?_⟩
    have x10 := x9.new (o := .lst ([.ref u1, .ref u2] ++ [.ref u3])) hc
    have s10 : Same S9 (upd S9 c (.lst ([.ref u1, .ref u2] ++ [.ref u3]))) := x9.newS hc
    have hC : (upd S9 c (.lst ([.ref u1, .ref u2] ++ [.ref u3]))) c = some (.lst [.ref u1, .ref u2, .ref u3]) := upd_same
    have hT10 := s10 _ _ hT9
    generalize upd S9 c (.lst ([.ref u1, .ref u2] ++ [.ref u3])) = S10 at x10 s10 hC hT10
    have t8 : Same S2 S10 := s7.trans (s8.trans (s9.trans s10))
    have t0 : Same S0 S10 := s1.trans (s2.trans t8)
    have L1 := L1.mono (s2.trans t8)
    have L2' := L2'.mono t8
    have L3 := L3.mono (s9.trans s10)
    have x10 := x10.up (j := 200) (by decide)
    clear s1 s2 s7 s8 s9 s10 t8 hT9 hV hT k1 k2 k3 j1 j2 j3 x0 x3 x4 x5 x6 x7 x8 x9
    refine ⟨c, rfl, ⟨_, SqL.of (x10.same _ _ hC)⟩, ?_⟩
    refine for_list (K := K) (a := c) (xs := [.ref u1, .ref u2, .ref u3]) (fun i σ H' => ∃ y3, σ = [some (.ref a), some (.ref p), some (.ref t), y3] ∧ Pst p (200 + 200 * i) S10 H')
      ⟨y3, rfl, x10⟩ (fun i σ H' _ ⟨_, _, x⟩ => SqL.of (x.same _ _ hC)) ?_ ?_
    · rintro j v σ H11 hj ⟨y3, rfl, x11⟩
      obtain ⟨u, n, bs, rs, rfl, hL, hh, j3⟩ : ∃ u n bs rs, v = .ref u ∧ Lh S10 u bs rs ∧ Hb n bs rs ∧ j < 3 := by
        match j, hj with
        | 0, hj => exact ⟨u1, _, _, _, (Option.some.inj hj).symm, L1, hh1, by decide⟩
        | 1, hj => exact ⟨u2, _, _, _, (Option.some.inj hj).symm, L2', hh2, by decide⟩
        | 2, hj => exact ⟨u3, _, _, _, (Option.some.inj hj).symm, L3, hh3, by decide⟩
        | j + 3, hj => simp at hj
      refine ⟨_, rfl, _, rfl, p, u, n, _, S10, bs, rs, rfl, hL, hh, x11, by omega, fun H12 x12 => ⟨true, rfl, iteF ?_⟩⟩
      refine ⟨_, rfl, _, rfl, p, u, n, _, S10, bs, rs, rfl, hL, hh, x12, by omega, fun H13 x13 => ⟨true, rfl, iteF ?_⟩⟩
      exact ⟨_, rfl, x13.up (by omega)⟩
    · rintro σ H11 ⟨y3, rfl, x11⟩
      have x11 : Pst p 800 S10 H11 := x11
      refine ⟨_, rfl, _, rfl, t, _, _, _, rfl, rfl, SqL.of (x11.same _ _ hT10), atI_nat (j := 0) rfl, _, rfl, t, _, _, _, rfl, rfl, SqL.of (x11.same _ _ hT10), atI_nat (j := 1) rfl, ?_⟩
      refine ⟨p, u1, u2, _, _, _, S10, bs1, rs1, bs2, rs2, rfl, L1, L2', hh1, hh2, by omega, x11, by decide, fun H12 x12 => ⟨true, rfl, iteF ?_⟩⟩
      refine ⟨_, rfl, _, rfl, t, _, _, _, rfl, rfl, SqL.of (x12.same _ _ hT10), atI_nat (j := 1) rfl, _, rfl, t, _, _, _, rfl, rfl, SqL.of (x12.same _ _ hT10), atI_nat (j := 0) rfl, ?_⟩
      refine ⟨p, u2, u1, _, _, _, S10, bs2, rs2, bs1, rs1, rfl, L2', L1, hh2, hh1, by omega, x12, by decide, fun H13 x13 => ⟨true, rfl, iteF ?_⟩⟩
      exact ⟨_, _, _, rfl, fin (x13.less t0)⟩
  · rintro σ H2 ⟨y1, y2, y3, rfl, _, _⟩
    exact q H2
end
end K4

set_option maxHeartbeats 0
namespace K4
open PySem PySem.Spec PyProof.Rows L2
def d_is_whole : He.DefD := ⟨("is_whole", none), "is_whole", "is_whole", defArgs s_is_whole, defBody s_is_whole, defScope s_is_whole, [], []⟩
def d_is_count : He.DefD := ⟨("is_count", none), "is_count", "is_count", defArgs s_is_count, defBody s_is_count, defScope s_is_count, [.non], []⟩
def d_are_counts : He.DefD := ⟨("are_counts", none), "are_counts", "are_counts", defArgs s_are_counts, defBody s_are_counts, defScope s_are_counts, [], []⟩
def d_is_base : He.DefD := ⟨("is_base", none), "is_base", "is_base", defArgs s_is_base, defBody s_is_base, defScope s_is_base, [], []⟩
def d_init : He.DefD := ⟨("House", some "__init__"), "__init__", "House.__init__", defArgs s_init, defBody s_init, defScope s_init, [], []⟩
def d_bases : He.DefD := ⟨("House", some "bases"), "bases", "House.bases", defArgs s_bases, defBody s_bases, defScope s_bases, [], []⟩
def d_rooms : He.DefD := ⟨("House", some "rooms"), "rooms", "House.rooms", defArgs s_rooms, defBody s_rooms, defScope s_rooms, [], []⟩
def d_places : He.DefD := ⟨("House", some "places"), "places", "House.places", defArgs s_places, defBody s_places, defScope s_places, [], []⟩
def d_eq : He.DefD := ⟨("House", some "__eq__"), "__eq__", "House.__eq__", defArgs s_eq, defBody s_eq, defScope s_eq, [], []⟩
def d_check_house : He.DefD := ⟨("check_house", none), "check_house", "check_house", defArgs s_check_house, defBody s_check_house, defScope s_check_house, [], []⟩
def d_check_place : He.DefD := ⟨("check_place", none), "check_place", "check_place", defArgs s_check_place, defBody s_check_place, defScope s_check_place, [], []⟩
def d_check_low_place : He.DefD := ⟨("check_low_place", none), "check_low_place", "check_low_place", defArgs s_check_low_place, defBody s_check_low_place, defScope s_check_low_place, [], []⟩
def d_weights_of : He.DefD := ⟨("weights_of", none), "weights_of", "weights_of", defArgs s_weights_of, defBody s_weights_of, defScope s_weights_of, [], []⟩
def d_sums_up_to : He.DefD := ⟨("sums_up_to", none), "sums_up_to", "sums_up_to", defArgs s_sums_up_to, defBody s_sums_up_to, defScope s_sums_up_to, [], []⟩
def d_rows_in : He.DefD := ⟨("rows_in", none), "rows_in", "rows_in", defArgs s_rows_in, defBody s_rows_in, defScope s_rows_in, [], []⟩
def d_weights : He.DefD := ⟨("weights", none), "weights", "weights", defArgs s_weights, defBody s_weights, defScope s_weights, [], []⟩
def d_held_up_to : He.DefD := ⟨("held_up_to", none), "held_up_to", "held_up_to", defArgs s_held_up_to, defBody s_held_up_to, defScope s_held_up_to, [], []⟩
def d_many_rows : He.DefD := ⟨("many_rows", none), "many_rows", "many_rows", defArgs s_many_rows, defBody s_many_rows, defScope s_many_rows, [], []⟩
def d_is_within : He.DefD := ⟨("is_within", none), "is_within", "is_within", defArgs s_is_within, defBody s_is_within, defScope s_is_within, [], []⟩
def d_check_alike : He.DefD := ⟨("check_alike", none), "check_alike", "check_alike", defArgs s_check_alike, defBody s_check_alike, defScope s_check_alike, [], []⟩
def d_lesser_house : He.DefD := ⟨("lesser_house", none), "lesser_house", "lesser_house", defArgs s_lesser_house, defBody s_lesser_house, defScope s_lesser_house, [], []⟩
def d_greater_house : He.DefD := ⟨("greater_house", none), "greater_house", "greater_house", defArgs s_greater_house, defBody s_greater_house, defScope s_greater_house, [], []⟩
def d_roomed : He.DefD := ⟨("roomed", none), "roomed", "roomed", defArgs s_roomed, defBody s_roomed, defScope s_roomed, [], []⟩
def d_with_room : He.DefD := ⟨("with_room", none), "with_room", "with_room", defArgs s_with_room, defBody s_with_room, defScope s_with_room, [], []⟩
def d_stretch : He.DefD := ⟨("stretch", none), "stretch", "stretch", defArgs s_stretch, defBody s_stretch, defScope s_stretch, [], []⟩
def d_set_behind : He.DefD := ⟨("set_behind", none), "set_behind", "set_behind", defArgs s_set_behind, defBody s_set_behind, defScope s_set_behind, [], []⟩
def d_tightened : He.DefD := ⟨("tightened", none), "tightened", "tightened", defArgs s_tightened, defBody s_tightened, defScope s_tightened, [], []⟩
def d_l_purse : He.DefD := ⟨("_law_purse", none), "_law_purse", "_law_purse", defArgs s_l_purse, defBody s_l_purse, defScope s_l_purse, [], []⟩
def d_l_mixed : He.DefD := ⟨("_law_mixed", none), "_law_mixed", "_law_mixed", defArgs s_l_mixed, defBody s_l_mixed, defScope s_l_mixed, [], []⟩
def d_l_draw : He.DefD := ⟨("_law_draw", none), "_law_draw", "_law_draw", defArgs s_l_draw, defBody s_l_draw, defScope s_l_draw, [], []⟩
def d_l_purses : He.DefD := ⟨("_law_purses", none), "_law_purses", "_law_purses", defArgs s_l_purses, defBody s_l_purses, defScope s_l_purses, [], []⟩
def d_l_one_of : He.DefD := ⟨("_law_one_of", none), "_law_one_of", "_law_one_of", defArgs s_l_one_of, defBody s_l_one_of, defScope s_l_one_of, [], []⟩
def d_l_exact : He.DefD := ⟨("_law_exact", none), "_law_exact", "_law_exact", defArgs s_l_exact, defBody s_l_exact, defScope s_l_exact, [], []⟩
def d_l_weights : He.DefD := ⟨("_law_weights", none), "_law_weights", "_law_weights", defArgs s_l_weights, defBody s_l_weights, defScope s_l_weights, [], []⟩
def d_l_many_rows : He.DefD := ⟨("_law_many_rows", none), "_law_many_rows", "_law_many_rows", defArgs s_l_many_rows, defBody s_l_many_rows, defScope s_l_many_rows, [], []⟩
def d_l_house : He.DefD := ⟨("_law_house", none), "_law_house", "_law_house", defArgs s_l_house, defBody s_l_house, defScope s_l_house, [], []⟩
def d_l_great_house : He.DefD := ⟨("_law_great_house", none), "_law_great_house", "_law_great_house", defArgs s_l_great_house, defBody s_l_great_house, defScope s_l_great_house, [], []⟩
def d_l_made : He.DefD := ⟨("_law_made", none), "_law_made", "_law_made", defArgs s_l_made, defBody s_l_made, defScope s_l_made, [], []⟩
def d_l_told_of : He.DefD := ⟨("_law_told_of", none), "_law_told_of", "_law_told_of", defArgs s_l_told_of, defBody s_l_told_of, defScope s_l_told_of, [], []⟩
def d_l_two_right : He.DefD := ⟨("_law_two_right", none), "_law_two_right", "_law_two_right", defArgs s_l_two_right, defBody s_l_two_right, defScope s_l_two_right, [], []⟩
def d_l_places_right : He.DefD := ⟨("_law_places_right", none), "_law_places_right", "_law_places_right", defArgs s_l_places_right, defBody s_l_places_right, defScope s_l_places_right, [], []⟩
def d_l_behind_right : He.DefD := ⟨("_law_behind_right", none), "_law_behind_right", "_law_behind_right", defArgs s_l_behind_right, defBody s_l_behind_right, defScope s_l_behind_right, [], []⟩
def d_law : He.DefD := ⟨("law", none), "law", "law", defArgs s_law, defBody s_law, defScope s_law, [], []⟩
def fn : List He.DefD := [d_is_whole, d_is_count, d_are_counts, d_is_base, d_init, d_bases, d_rooms, d_places, d_eq, d_check_house, d_check_place, d_check_low_place, d_weights_of, d_sums_up_to, d_rows_in, d_weights, d_held_up_to, d_many_rows, d_is_within, d_check_alike, d_lesser_house, d_greater_house, d_roomed, d_with_room, d_stretch, d_set_behind, d_tightened, d_l_purse, d_l_mixed, d_l_draw, d_l_purses, d_l_one_of, d_l_exact, d_l_weights, d_l_many_rows, d_l_house, d_l_great_house, d_l_made, d_l_told_of, d_l_two_right, d_l_places_right, d_l_behind_right, d_law]
def fa : List He.Fa := [.glo "is_whole", .glo "is_count", .glo "are_counts", .glo "is_base", .glo "check_house", .glo "check_place", .glo "check_low_place", .glo "weights_of", .glo "sums_up_to", .glo "rows_in", .glo "weights", .glo "held_up_to", .glo "many_rows", .glo "is_within", .glo "check_alike", .glo "lesser_house", .glo "greater_house", .glo "roomed", .glo "with_room", .glo "stretch", .glo "set_behind", .glo "tightened", .glo "_law_purse", .glo "_law_mixed", .glo "_law_draw", .glo "_law_purses", .glo "_law_one_of", .glo "_law_exact", .glo "_law_weights", .glo "_law_many_rows", .glo "_law_house", .glo "_law_great_house", .glo "_law_made", .glo "_law_told_of", .glo "_law_two_right", .glo "_law_places_right", .glo "_law_behind_right", .glo "law", .glo "House", .free "isinstance", .free "int", .free "bool", .free "list", .free "tuple", .free "dict", .free "all", .free "len", .free "zip", .free "min", .free "max", .free "sum", .free "range", .free "enumerate", .cls "House", .noat "House" "steps", .noat "House" "space", .mkr "House", .meth "House" "bases", .meth "House" "rooms", .meth "House" "places", .meth "House" "__eq__"]
def loose1 : List PySem.Str := ["CarryError", "InvalidBases", "InvalidRooms", "InvalidHouse", "InvalidPlace", "InvalidNumber", "Unlike", "is_whole", "is_count", "are_counts", "is_base", "check_house", "check_place", "check_low_place", "weights_of", "sums_up_to", "rows_in", "weights", "held_up_to", "many_rows", "is_within", "check_alike"]
def loose2 : List PySem.Str := ["lesser_house", "greater_house", "roomed", "with_room", "stretch", "set_behind", "tightened", "_law_purse", "_law_mixed", "_law_draw", "_law_purses", "_law_one_of", "_law_exact", "_law_weights", "_law_many_rows", "_law_house", "_law_great_house", "_law_made", "_law_told_of", "_law_two_right", "_law_places_right", "_law_behind_right", "House"]
def xb (K : PySem.W.Frag) : Bool := He.eqO (PySem.W.findIn K (.ref (He.ga K "House")) "__class__") (some (some (.builtin "object.__class__"))) &&
  (He.eqO (PySem.W.specialIn K (.builtin "object.__class__") "__get__") (some (some (.builtin "getset_descriptor.__get__"))) &&
  (decide (PySem.W.takesIn K (.builtin "object.__class__") = some true) && (decide (PySem.W.mroIn K (He.ga K "House") (.type "object") = some true) &&
  He.eqO (PySem.W.findIn K (.ref (He.ga K "House")) "__ne__") (some (some (.builtin "object.__ne__"))))))
def obsX (g : Addr → Option Obj) : He.AlD × Bool := (He.obsDG 4 fa fn g, xb (He.frG g (He.asD g 4)))
def hk : PySem.W.Hook where
  α := He.AlD × Bool
  obs := fun s => obsX s.heap.get?
  val := fun _ => (He.valD fn, true)
  says := fun _ h => ∃ K : PySem.W.Frag, K.In h ∧ He.SaysD fa fn K ∧ xb K = true
  of := fun _ _ e => ⟨_, He.frG_in, congrArg Prod.fst e, congrArg Prod.snd e⟩
  keeps := fun _ _ _ ⟨K, hK, c⟩ k => ⟨K, PySem.W.Frag.In.keeps hK k, c⟩
abbrev R : PySem.W.OpenRow := PySem.W.OpenLaw.row PySem.Challenge.rw_carryways_k04_whole_houses_made_of_house
def ob (s : PySem.W.SharedT) : He.AlD × Bool := obsX (HandSHeadRun.getT s)
theorem ob_eq (s : PySem.W.SharedT) : ob s = hk.obs s.abs := by
  have e : HandSHeadRun.getT s = s.abs.heap.get? := funext (HandSHeadRun.getT_eq s)
  unfold ob
  rw [e]
  rfl
theorem run (w : World) : HandSHeadRun.RunEq R (PySem.W.view R.prog [49]) hk ob 20000 (loose1 ++ loose2) w := by
  intro os
  kernel_rfl
end K4

set_option maxHeartbeats 0
namespace K4
open PySem PySem.Spec PyProof.Rows L2
theorem tx_of {K : PySem.W.Frag} {h : Heap} {mg : Str → Option Value} (X : K.In h) (G : h.Ns mainGlobals mg) (c : He.SaysD fa fn K) (z : xb K = true) : Tx K mg (He.ga K "House") := by
  obtain ⟨z1, z2⟩ := He.ba z
  obtain ⟨z2, z3⟩ := He.ba z2
  obtain ⟨z3, z4⟩ := He.ba z3
  obtain ⟨z4, z5⟩ := He.ba z4
  obtain ⟨e_is_whole, F_is_whole⟩ := c.def_ 0 (d := K4.d_is_whole) rfl
  obtain ⟨e_is_count, F_is_count⟩ := c.def_ 1 (d := K4.d_is_count) rfl
  obtain ⟨e_are_counts, F_are_counts⟩ := c.def_ 2 (d := K4.d_are_counts) rfl
  obtain ⟨e_is_base, F_is_base⟩ := c.def_ 3 (d := K4.d_is_base) rfl
  obtain ⟨e_check_house, F_check_house⟩ := c.def_ 9 (d := K4.d_check_house) rfl
  obtain ⟨e_check_place, F_check_place⟩ := c.def_ 10 (d := K4.d_check_place) rfl
  obtain ⟨e_check_low_place, F_check_low_place⟩ := c.def_ 11 (d := K4.d_check_low_place) rfl
  obtain ⟨e_weights_of, F_weights_of⟩ := c.def_ 12 (d := K4.d_weights_of) rfl
  obtain ⟨e_sums_up_to, F_sums_up_to⟩ := c.def_ 13 (d := K4.d_sums_up_to) rfl
  obtain ⟨e_rows_in, F_rows_in⟩ := c.def_ 14 (d := K4.d_rows_in) rfl
  obtain ⟨e_weights, F_weights⟩ := c.def_ 15 (d := K4.d_weights) rfl
  obtain ⟨e_held_up_to, F_held_up_to⟩ := c.def_ 16 (d := K4.d_held_up_to) rfl
  obtain ⟨e_many_rows, F_many_rows⟩ := c.def_ 17 (d := K4.d_many_rows) rfl
  obtain ⟨e_is_within, F_is_within⟩ := c.def_ 18 (d := K4.d_is_within) rfl
  obtain ⟨e_check_alike, F_check_alike⟩ := c.def_ 19 (d := K4.d_check_alike) rfl
  obtain ⟨e_lesser_house, F_lesser_house⟩ := c.def_ 20 (d := K4.d_lesser_house) rfl
  obtain ⟨e_greater_house, F_greater_house⟩ := c.def_ 21 (d := K4.d_greater_house) rfl
  obtain ⟨e_roomed, F_roomed⟩ := c.def_ 22 (d := K4.d_roomed) rfl
  obtain ⟨e_with_room, F_with_room⟩ := c.def_ 23 (d := K4.d_with_room) rfl
  obtain ⟨e_stretch, F_stretch⟩ := c.def_ 24 (d := K4.d_stretch) rfl
  obtain ⟨e_set_behind, F_set_behind⟩ := c.def_ 25 (d := K4.d_set_behind) rfl
  obtain ⟨e_tightened, F_tightened⟩ := c.def_ 26 (d := K4.d_tightened) rfl
  obtain ⟨e_l_purse, F_l_purse⟩ := c.def_ 27 (d := K4.d_l_purse) rfl
  obtain ⟨e_l_mixed, F_l_mixed⟩ := c.def_ 28 (d := K4.d_l_mixed) rfl
  obtain ⟨e_l_draw, F_l_draw⟩ := c.def_ 29 (d := K4.d_l_draw) rfl
  obtain ⟨e_l_purses, F_l_purses⟩ := c.def_ 30 (d := K4.d_l_purses) rfl
  obtain ⟨e_l_one_of, F_l_one_of⟩ := c.def_ 31 (d := K4.d_l_one_of) rfl
  obtain ⟨e_l_exact, F_l_exact⟩ := c.def_ 32 (d := K4.d_l_exact) rfl
  obtain ⟨e_l_weights, F_l_weights⟩ := c.def_ 33 (d := K4.d_l_weights) rfl
  obtain ⟨e_l_many_rows, F_l_many_rows⟩ := c.def_ 34 (d := K4.d_l_many_rows) rfl
  obtain ⟨e_l_house, F_l_house⟩ := c.def_ 35 (d := K4.d_l_house) rfl
  obtain ⟨e_l_great_house, F_l_great_house⟩ := c.def_ 36 (d := K4.d_l_great_house) rfl
  obtain ⟨e_l_made, F_l_made⟩ := c.def_ 37 (d := K4.d_l_made) rfl
  obtain ⟨e_l_told_of, F_l_told_of⟩ := c.def_ 38 (d := K4.d_l_told_of) rfl
  obtain ⟨e_l_two_right, F_l_two_right⟩ := c.def_ 39 (d := K4.d_l_two_right) rfl
  obtain ⟨e_l_places_right, F_l_places_right⟩ := c.def_ 40 (d := K4.d_l_places_right) rfl
  obtain ⟨e_l_behind_right, F_l_behind_right⟩ := c.def_ 41 (d := K4.d_l_behind_right) rfl
  obtain ⟨e_law, F_law⟩ := c.def_ 42 (d := K4.d_law) rfl
  obtain ⟨e_bases, F_bases⟩ := c.def_ 5 (d := K4.d_bases) rfl
  obtain ⟨e_rooms, F_rooms⟩ := c.def_ 6 (d := K4.d_rooms) rfl
  obtain ⟨e_places, F_places⟩ := c.def_ 7 (d := K4.d_places) rfl
  obtain ⟨e_eq, F_eq⟩ := c.def_ 8 (d := K4.d_eq) rfl
  obtain ⟨e_init, F_init⟩ := c.def_ 4 (d := K4.d_init) rfl
  exact {
    cl := He.cls_ok (c.fact 53 (f := .cls "House") rfl),
    nSt := He.noat_ok (c.fact 54 (f := .noat "House" "steps") rfl),
    nSp := He.noat_ok (c.fact 55 (f := .noat "House" "space") rfl),
    mgC := He.glo_ok X G (c.fact 38 (f := .glo "House") rfl),
    mki := ⟨_, _, F_init, He.mkr_ok (c.fact 56 (f := .mkr "House") rfl)⟩,
    kcl := He.eqO_ok z1,
    kget := He.eqO_ok z2,
    ktk := of_decide_eq_true z3,
    mro := of_decide_eq_true z4,
    ne := He.eqO_ok z5,
    d_is_whole := ⟨_, _, F_is_whole, He.glo_ok X G (c.fact 0 (f := .glo "is_whole") rfl)⟩,
    d_is_count := ⟨_, _, F_is_count, He.glo_ok X G (c.fact 1 (f := .glo "is_count") rfl)⟩,
    d_are_counts := ⟨_, _, F_are_counts, He.glo_ok X G (c.fact 2 (f := .glo "are_counts") rfl)⟩,
    d_is_base := ⟨_, _, F_is_base, He.glo_ok X G (c.fact 3 (f := .glo "is_base") rfl)⟩,
    d_check_house := ⟨_, _, F_check_house, He.glo_ok X G (c.fact 4 (f := .glo "check_house") rfl)⟩,
    d_check_place := ⟨_, _, F_check_place, He.glo_ok X G (c.fact 5 (f := .glo "check_place") rfl)⟩,
    d_check_low_place := ⟨_, _, F_check_low_place, He.glo_ok X G (c.fact 6 (f := .glo "check_low_place") rfl)⟩,
    d_weights_of := ⟨_, _, F_weights_of, He.glo_ok X G (c.fact 7 (f := .glo "weights_of") rfl)⟩,
    d_sums_up_to := ⟨_, _, F_sums_up_to, He.glo_ok X G (c.fact 8 (f := .glo "sums_up_to") rfl)⟩,
    d_rows_in := ⟨_, _, F_rows_in, He.glo_ok X G (c.fact 9 (f := .glo "rows_in") rfl)⟩,
    d_weights := ⟨_, _, F_weights, He.glo_ok X G (c.fact 10 (f := .glo "weights") rfl)⟩,
    d_held_up_to := ⟨_, _, F_held_up_to, He.glo_ok X G (c.fact 11 (f := .glo "held_up_to") rfl)⟩,
    d_many_rows := ⟨_, _, F_many_rows, He.glo_ok X G (c.fact 12 (f := .glo "many_rows") rfl)⟩,
    d_is_within := ⟨_, _, F_is_within, He.glo_ok X G (c.fact 13 (f := .glo "is_within") rfl)⟩,
    d_check_alike := ⟨_, _, F_check_alike, He.glo_ok X G (c.fact 14 (f := .glo "check_alike") rfl)⟩,
    d_lesser_house := ⟨_, _, F_lesser_house, He.glo_ok X G (c.fact 15 (f := .glo "lesser_house") rfl)⟩,
    d_greater_house := ⟨_, _, F_greater_house, He.glo_ok X G (c.fact 16 (f := .glo "greater_house") rfl)⟩,
    d_roomed := ⟨_, _, F_roomed, He.glo_ok X G (c.fact 17 (f := .glo "roomed") rfl)⟩,
    d_with_room := ⟨_, _, F_with_room, He.glo_ok X G (c.fact 18 (f := .glo "with_room") rfl)⟩,
    d_stretch := ⟨_, _, F_stretch, He.glo_ok X G (c.fact 19 (f := .glo "stretch") rfl)⟩,
    d_set_behind := ⟨_, _, F_set_behind, He.glo_ok X G (c.fact 20 (f := .glo "set_behind") rfl)⟩,
    d_tightened := ⟨_, _, F_tightened, He.glo_ok X G (c.fact 21 (f := .glo "tightened") rfl)⟩,
    d_l_purse := ⟨_, _, F_l_purse, He.glo_ok X G (c.fact 22 (f := .glo "_law_purse") rfl)⟩,
    d_l_mixed := ⟨_, _, F_l_mixed, He.glo_ok X G (c.fact 23 (f := .glo "_law_mixed") rfl)⟩,
    d_l_draw := ⟨_, _, F_l_draw, He.glo_ok X G (c.fact 24 (f := .glo "_law_draw") rfl)⟩,
    d_l_purses := ⟨_, _, F_l_purses, He.glo_ok X G (c.fact 25 (f := .glo "_law_purses") rfl)⟩,
    d_l_one_of := ⟨_, _, F_l_one_of, He.glo_ok X G (c.fact 26 (f := .glo "_law_one_of") rfl)⟩,
    d_l_exact := ⟨_, _, F_l_exact, He.glo_ok X G (c.fact 27 (f := .glo "_law_exact") rfl)⟩,
    d_l_weights := ⟨_, _, F_l_weights, He.glo_ok X G (c.fact 28 (f := .glo "_law_weights") rfl)⟩,
    d_l_many_rows := ⟨_, _, F_l_many_rows, He.glo_ok X G (c.fact 29 (f := .glo "_law_many_rows") rfl)⟩,
    d_l_house := ⟨_, _, F_l_house, He.glo_ok X G (c.fact 30 (f := .glo "_law_house") rfl)⟩,
    d_l_great_house := ⟨_, _, F_l_great_house, He.glo_ok X G (c.fact 31 (f := .glo "_law_great_house") rfl)⟩,
    d_l_made := ⟨_, _, F_l_made, He.glo_ok X G (c.fact 32 (f := .glo "_law_made") rfl)⟩,
    d_l_told_of := ⟨_, _, F_l_told_of, He.glo_ok X G (c.fact 33 (f := .glo "_law_told_of") rfl)⟩,
    d_l_two_right := ⟨_, _, F_l_two_right, He.glo_ok X G (c.fact 34 (f := .glo "_law_two_right") rfl)⟩,
    d_l_places_right := ⟨_, _, F_l_places_right, He.glo_ok X G (c.fact 35 (f := .glo "_law_places_right") rfl)⟩,
    d_l_behind_right := ⟨_, _, F_l_behind_right, He.glo_ok X G (c.fact 36 (f := .glo "_law_behind_right") rfl)⟩,
    d_law := ⟨_, _, F_law, He.glo_ok X G (c.fact 37 (f := .glo "law") rfl)⟩,
    b_isinstance := He.free_ok X G (c.fact 39 (f := .free "isinstance") rfl),
    b_int := He.free_ok X G (c.fact 40 (f := .free "int") rfl),
    b_bool := He.free_ok X G (c.fact 41 (f := .free "bool") rfl),
    b_list := He.free_ok X G (c.fact 42 (f := .free "list") rfl),
    b_tuple := He.free_ok X G (c.fact 43 (f := .free "tuple") rfl),
    b_dict := He.free_ok X G (c.fact 44 (f := .free "dict") rfl),
    b_all := He.free_ok X G (c.fact 45 (f := .free "all") rfl),
    b_len := He.free_ok X G (c.fact 46 (f := .free "len") rfl),
    b_zip := He.free_ok X G (c.fact 47 (f := .free "zip") rfl),
    b_min := He.free_ok X G (c.fact 48 (f := .free "min") rfl),
    b_max := He.free_ok X G (c.fact 49 (f := .free "max") rfl),
    b_sum := He.free_ok X G (c.fact 50 (f := .free "sum") rfl),
    b_range := He.free_ok X G (c.fact 51 (f := .free "range") rfl),
    b_enumerate := He.free_ok X G (c.fact 52 (f := .free "enumerate") rfl),
    h_bases := ⟨_, _, F_bases, He.meth_ok (c.fact 57 (f := .meth "House" "bases") rfl)⟩,
    h_rooms := ⟨_, _, F_rooms, He.meth_ok (c.fact 58 (f := .meth "House" "rooms") rfl)⟩,
    h_places := ⟨_, _, F_places, He.meth_ok (c.fact 59 (f := .meth "House" "places") rfl)⟩,
    h_eq := ⟨_, _, F_eq, He.meth_ok (c.fact 60 (f := .meth "House" "__eq__") rfl)⟩
  }
theorem facts {P : Program} {w : World} {K : PySem.W.Frag} {h : Heap} {mg : Str → Option Value} {f : Addr} (X : K.In h) (G : h.Ns mainGlobals mg) (hfa : mg ("law" : Str) = some (.ref f)) (c : He.SaysD fa fn K) (z : xb K = true) :
    ∃ fd : FuncData, (∀ (s : Shared) (v : Value), BindsTo s fd ⟨[v], []⟩ [("_law_script", v)]) ∧ ∀ base : Heap, K.In base → base.Ns mainGlobals mg → FnOk P w K mg base CX0 9 f fd ["_law_script"] (sp_law K) := by
  have T := tx_of X G c z
  obtain ⟨fd, F⟩ := c.def_ 42 (d := K4.d_law) rfl
  have e := hfa.symm.trans (He.glo_ok X G (c.fact 37 (f := .glo "law") rfl))
  cases e
  have b := FunD.bindsA (ps := ["_law_script"]) F fun _ _ _ _ _ _ us hl => match us, hl with | [_], _ => rfl
  exact ⟨fd, fun s v => b s [v] rfl, fun base _ _ => ok_law T F⟩
end K4
open PySem PySem.W PySem.Calls PyProof.Rows
theorem PySem.Challenge.cw_carryways_k04_whole_houses_made_of_house_holds : PySem.Challenge.rw_carryways_k04_whole_houses_made_of_house.Holds := by
  w_on; o_law
  refine HandSHeadRun.head_any (r := OpenLaw.row PySem.Challenge.rw_carryways_k04_whole_houses_made_of_house) (q := view (OpenLaw.row PySem.Challenge.rw_carryways_k04_whole_houses_made_of_house).prog [49]) (H := K4.hk) (ob := K4.ob) (M := 20000) (loose := K4.loose1 ++ K4.loose2) (d := HandSHeadRun.topDef (OpenLaw.row PySem.Challenge.rw_carryways_k04_whole_houses_made_of_house).prog 49) (kwd := []) K4.ob_eq
    (by kernel_rfl) (fun s => by kernel_rfl) K4.run (by kernel_rfl) (by kernel_rfl) (by kernel_rfl) (by rfl) (by first | assumption | decide +kernel) (by decide +kernel) ⟨rfl, rfl, rfl, rfl, rfl, by decide +kernel⟩ ?hw ?hc
  case hw => w_witness2
  case hc =>
    refine L2.walk_ofE (l := PySem.Challenge.rw_carryways_k04_whole_houses_made_of_house) (n := 63) (k := 9) (x := "_law_script") (CX := L2.CX0) rfl (by decide) (by kernel_rfl) ⟨rfl, by decide, by decide⟩ ?F (fun _ _ _ _ z => z)
    intro w mg fa h Y G hmg0
    obtain ⟨K, KX, c, z⟩ := Y
    have hmg : mg ("law" : PySem.Str) = some (.ref fa) := by
      have e : (HandSHeadRun.topDef (OpenLaw.row PySem.Challenge.rw_carryways_k04_whole_houses_made_of_house).prog 49).name = ("law" : PySem.Str) := by kernel_rfl
      rw [← e]
      exact hmg0
    obtain ⟨fd, hb, hF⟩ := K4.facts (P := (PySem.Challenge.rw_carryways_k04_whole_houses_made_of_house).prog) (w := w) KX G hmg c z
    exact ⟨K, fd, K4.sp_law K, KX, hb, fun H a ns hl _ hS => ⟨a, ns, rfl, hS, hl, fun _ => rfl⟩, hF⟩
