import PyProof.Rows.All
import Wide.All
import OpenK.AllK
import Wide.FinOn
import HandS.ForMost
import HandS.More
import HandS.Wide
import HandS.Defaults
import HandS.Star
import HandS.SlotsOwn
import HandS.Exc
import HandS.WordsExc
import KE.KOpsOwn
import PyProof.InstNe
import HandS.OwnEq
import PyProof.ListMulRight
import HandS.IsInst
import PyProof.ReprRoads
import PyProof.ReprLen
import PyProof.CallFns
import PySem.Challenge.RW_heldfloods_k04_places_in_order
set_option Elab.async false
set_option linter.all false
set_option maxRecDepth 100000
set_option maxHeartbeats 4000000
namespace Hf
open PySem PySem.Spec PyProof.Rows L2
/-! ### readings, one step each -/
section
variable {σ : L2.St} {H : Hp} {Q : VK} {i : Nat} {v x y : V} {ta tb te tf : TE} {r : R2} {tt tu : TT} {t u : TA} {s1 s2 : TS} {D : Ends} {g : TG} {QA : List V → Hp → Prop} {QB : Bool → Hp → Prop}
theorem rd_var (h : σ[i]? = some (some v)) (q : Q v H) : tVar i σ H Q := ⟨v, h, q⟩
theorem rd_c (q : Q v H) : tC v σ H Q := q
theorem rd_op (q : ta σ H fun x H1 => tb σ H1 fun y H2 => r x y H2 Q) : tOp r ta tb σ H Q := q
theorem rd_un {r : V → Hp → VK → Prop} (q : ta σ H fun x H1 => r x H1 Q) : tUn r ta σ H Q := q
theorem rd_test (q : te σ H fun x H' => ∃ k, x = .bl k ∧ QB k H') : tTest te σ H QB := q
theorem rd_tB (q : te σ H fun x H' => ∃ k, x = .bl k ∧ QB k H') : tB te σ H QB := q
theorem rd_and (q : tt σ H fun c H1 => if c = true then tu σ H1 QB else QB false H1) : tAnd tt tu σ H QB := q
theorem rd_or (q : tt σ H fun c H1 => if c = true then QB true H1 else tu σ H1 QB) : tOr tt tu σ H QB := q
theorem rd_not (q : tt σ H fun c H1 => QB (!c) H1) : tNot tt σ H QB := q
theorem rd_andV (q : ta σ H fun x H1 => ∃ c, x = .bl c ∧ if c = true then tb σ H1 Q else Q (.bl false) H1) : tAndV ta tb σ H Q := q
theorem rd_orV (q : ta σ H fun x H1 => ∃ c, x = .bl c ∧ if c = true then Q (.bl true) H1 else tb σ H1 Q) : tOrV ta tb σ H Q := q
theorem rd_notV (q : ta σ H fun x H1 => ∃ c, x = .bl c ∧ Q (.bl (!c)) H1) : tNotV ta σ H Q := q
theorem rd_if (q : tt σ H fun c H1 => if c = true then ta σ H1 Q else tb σ H1 Q) : tIf tt ta tb σ H Q := q
theorem rd_nil (q : QA [] H) : tNil σ H QA := q
theorem rd_cons (q : ta σ H fun x H1 => t σ H1 fun xs H2 => QA (x :: xs) H2) : tCons ta t σ H QA := q
theorem rd_tup (q : t σ H fun xs H1 => xs.length ≤ sizeLine ∧ ∀ p, H1 p = none → Q (.ref p) (upd H1 p (.tup xs))) : tTup t σ H Q := q
theorem rd_lst (q : t σ H fun xs H1 => xs.length ≤ sizeLine ∧ ∀ p, H1 p = none → Q (.ref p) (upd H1 p (.lst xs))) : tLst t σ H Q := q
theorem rd_seq (q : s1 { D with nx := s2 D } σ H) : tSeq s1 s2 D σ H := q
theorem rd_next (q : D.nx σ H) : tNext D σ H := q
theorem rd_drop (q : te σ H fun _ H1 => D.nx σ H1) : tDrop te D σ H := q
theorem rd_ret (q : te σ H D.rt) : tRet te D σ H := q
theorem rd_retN (q : D.rt .non H) : tRetN D σ H := q
theorem rd_ifS (q : tt σ H fun b H1 => if b = true then s1 D σ H1 else s2 D σ H1) : tIfS tt s1 s2 D σ H := q
theorem rd_asg (q : te σ H fun x H1 => g x σ H1 D.nx) : tAsg te g D σ H := q
theorem rd_gname {K : L2.St → Hp → Prop} (q : K (σ.set i (some v)) H) : gName i v σ H K := q
theorem rd_par {j : Nat} (q : t σ H fun vs H1 => ∃ v w, vs = [v, w] ∧ D.nx ((σ.set i (some v)).set j (some w)) H1) : tPar i j t D σ H := q
theorem rd_bl {b : Bool} {K : Bool → Hp → Prop} (q : K b H) : ∃ k, V.bl b = .bl k ∧ K k H := ⟨b, rfl, q⟩
theorem rd_blP {b : Bool} {K : Bool → Prop} (q : K b) : ∃ k, V.bl b = .bl k ∧ K k := ⟨b, rfl, q⟩
theorem rd_I0 {g : Int → Int → V} {i j : Int} (q : Q (g i j) H) : rI0 g (.int i) (.int j) H Q := ⟨i, j, rfl, rfl, q⟩
theorem rd_I {C : Int → Int → Prop} {g : Int → Int → V} {i j : Int} (c : C i j) (q : Q (g i j) H) : rI C g (.int i) (.int j) H Q := ⟨i, j, rfl, rfl, c, q⟩
theorem rd_U {g : Int → V} {i : Int} (q : Q (g i) H) : rU g (.int i) H Q := ⟨i, rfl, q⟩
theorem rd_eq (h : scal x y = true) (q : Q (.bl (decide (x = y))) H) : rEq x y H Q := ⟨h, q⟩
theorem rd_ne (h : scal x y = true) (q : Q (.bl (!decide (x = y))) H) : rNe x y H Q := ⟨h, q⟩
theorem rd_cb {r : List V → Hp → VK → Prop} (q : t σ H fun vs H1 => r vs H1 Q) : tCB r t σ H Q := q
theorem ite_split {b : Bool} {A B : Prop} (h1 : b = true → A) (h2 : b = false → B) : if b = true then A else B := by
  cases b
  · exact iteF (h2 rfl)
  · exact iteT (h1 rfl)
theorem ite_f {b : Bool} {A B : Prop} (h : b = false) (q : B) : if b = true then A else B := by subst h; exact iteF q
theorem ite_t {b : Bool} {A B : Prop} (h : b = true) (q : A) : if b = true then A else B := by subst h; exact iteT q
end
end Hf

namespace Hf
open PySem PySem.Spec PyProof.Rows L2
/-- a def of the class at C under the name m, at g -/
structure Opr (K : PySem.W.Frag) (C : Addr) (m : Str) (g : Addr) : Prop where
  at_ : PySem.W.findIn K (.ref C) m = some (some (.ref g))
  fn : PySem.W.isFn K (.ref g) = true
section
variable {X : Cx} {CX : CXT} {pins : List (Addr × Obj)} {σ : L2.St} {H : Hp} {s : Shared} {a b C dx dy g : Addr} {fs gs : List (Str × V)} {n : Nat} {sp : Sp} {E : XK}
theorem ins_at (I : Inv X pins σ H s) (h : H a = some (.ins C dx fs)) : ∃ ox od, PySem.W.InstAt s.heap a ox C od := by
  obtain ⟨mA, O, _⟩ := ins_get I.hok h
  obtain ⟨od, J, _⟩ := O.look
  exact ⟨_, _, J⟩
/-- x op y, both instances of C -/
def rBin (C : Addr) (sp : Sp) (E : XK) : R2 := fun x y H Q => ∃ a dx fs b dy gs, x = .ref a ∧ y = .ref b ∧ H a = some (.ins C dx fs) ∧ H b = some (.ins C dy gs) ∧ sp [x, y] H Q E
theorem op_bin {op : Operator} (hc : PySem.W.selfFirst X.K C = true) (o : Opr X.K C (PySem.dunder op.info.2) g) (F : FnR X.prog X.w X.K X.mg X.base CX n g sp) (hr : Room n X.A) (hx : Passes CX X E) : OpR X (binaryOp op) (rBin C sp E) := by
  intro pins s σ H x y v u Q I rx ry h
  obtain ⟨a, dx, fs, b, dy, gs, rfl, rfl, ha, hb, q⟩ := h
  cases (show v = Value.ref a from rx)
  cases (show u = Value.ref b from ry)
  obtain ⟨ox, od, J⟩ := ins_at I ha
  obtain ⟨oy, oe, J'⟩ := ins_at I hb
  obtain ⟨m, hF⟩ := I.fr
  refine PySem.W.binop_K hF I.ok.mod.kin J J'.type hc o.at_ o.fn ?_
  refine wpAny_mono (wpAny_call (run_fnR (us := [.ref a, .ref b]) (vs := [.ref a, .ref b]) F hr hx I (.cons rfl (.cons rfl .nil)) q)) (fun w s' z => ?_) fun _ _ x => x
  obtain ⟨z', H', I', rz, qz⟩ := z
  exact SlX.cmpback rz ⟨z', H', I', rz, qz⟩
/-- x op k, x an instance of C, k a whole number -/
def rBinI (C : Addr) (sp : Sp) (E : XK) : R2 := fun x y H Q => ∃ a dx fs i, x = .ref a ∧ y = .int i ∧ H a = some (.ins C dx fs) ∧ sp [x, y] H Q E
/-- what the written part says of int beside C -/
structure OprI (K : PySem.W.Frag) (C : Addr) (nm : String) : Prop where
  rc : ∃ rc, PySem.W.findIn K (.ref C) (dunderR nm) = some rc ∧ (rc = none ∨ ∃ g : Addr, rc = some (.ref g))
  fo : ∃ fo, PySem.W.findIn K (.type "int") (PySem.dunder nm) = some fo
  ro : ∃ ro, PySem.W.findIn K (.type "int") (dunderR nm) = some ro
  sub : PySem.W.subIn K (.type "int") (.ref C) = some false
theorem op_binI {op : Operator} (hc : PySem.W.selfFirst X.K C = true) (o : Opr X.K C (PySem.dunder op.info.2) g) (oi : OprI X.K C op.info.2) (F : FnR X.prog X.w X.K X.mg X.base CX n g sp) (hr : Room n X.A) (hx : Passes CX X E) : OpR X (binaryOp op) (rBinI C sp E) := by
  intro pins s σ H x y v u Q I rx ry h
  obtain ⟨a, dx, fs, i, rfl, rfl, ha, q⟩ := h
  cases (show v = Value.ref a from rx)
  obtain ⟨t, e⟩ := (show ∃ t, u = Value.int i t from ry)
  cases e
  obtain ⟨ox, od, J⟩ := ins_at I ha
  obtain ⟨m, hF⟩ := I.fr
  obtain ⟨rc, h1, h2⟩ := oi.rc
  obtain ⟨fo, h3⟩ := oi.fo
  obtain ⟨ro, h4⟩ := oi.ro
  refine PySem.W.ksp_binT (T := "int") hF I.ok.mod.kin J rfl hc o.at_ o.fn h1 h2 h3 h4 oi.sub ?_
  refine wpAny_mono (wpAny_call (run_fnR (us := [.ref a, .int i t]) (vs := [.ref a, .int i]) F hr hx I (.cons rfl (.cons ⟨t, rfl⟩ .nil)) q)) (fun w s' z => ?_) fun _ _ x => x
  obtain ⟨z', H', I', rz, qz⟩ := z
  exact SlX.cmpback rz ⟨z', H', I', rz, qz⟩
/-- ~x -/
def rInv (C : Addr) (sp : Sp) (E : XK) : V → Hp → VK → Prop := fun x H Q => ∃ a dx fs, x = .ref a ∧ H a = some (.ins C dx fs) ∧ sp [x] H Q E
theorem un_ownInv (o : Opr X.K C "__invert__" g) (F : FnR X.prog X.w X.K X.mg X.base CX n g sp) (hr : Room n X.A) (hx : Passes CX X E) : UnR X (unaryOp .Invert) (rInv C sp E) := by
  intro pins s σ H x v Q I rx h
  obtain ⟨a, dx, fs, rfl, ha, q⟩ := h
  cases (show v = Value.ref a from rx)
  obtain ⟨ox, od, J⟩ := ins_at I ha
  obtain ⟨m, hF⟩ := I.fr
  refine PySem.W.ksp_inv hF I.ok.mod.kin J o.at_ o.fn ?_
  exact wpAny_call (run_fnR (us := [.ref a]) (vs := [.ref a]) F hr hx I (.cons rfl .nil) q)
/-- x op y by an own comparison, both instances of C -/
def rCmp (C : Addr) (sp : Sp) (E : XK) : R2 := fun x y H Q => ∃ a dx fs b dy gs, x = .ref a ∧ y = .ref b ∧ H a = some (.ins C dx fs) ∧ H b = some (.ins C dy gs) ∧ sp [x, y] H Q E
theorem notFirst_self {K : PySem.W.Frag} {C : Addr} : PySem.W.notFirst K C (.ref C) = true := by
  unfold PySem.W.notFirst
  simp
theorem op_ownC {op : CmpOp} (hop : ∀ a b, compareOp op a b = richCompare op a b) (o : Opr X.K C (cmpInfo op).2.1 g) (F : FnR X.prog X.w X.K X.mg X.base CX n g sp) (hr : Room n X.A) (hx : Passes CX X E) : OpR X (compareOp op) (rCmp C sp E) := by
  intro pins s σ H x y v u Q I rx ry h
  obtain ⟨a, dx, fs, b, dy, gs, rfl, rfl, ha, hb, q⟩ := h
  cases (show v = Value.ref a from rx)
  cases (show u = Value.ref b from ry)
  obtain ⟨ox, od, J⟩ := ins_at I ha
  obtain ⟨oy, oe, J'⟩ := ins_at I hb
  obtain ⟨m, hF⟩ := I.fr
  rw [hop]
  refine PySem.W.cmp_K (op := op) (tb := .ref C) hr.units0 hF I.ok.mod.kin J J'.type notFirst_self o.at_ o.fn ?_
  refine wpAny_mono (wpAny_call (run_fnR (us := [.ref a, .ref b]) (vs := [.ref a, .ref b]) F hr hx I (.cons rfl (.cons rfl .nil)) q)) (fun w s' z => ?_) fun _ _ x => x
  obtain ⟨z', H', I', rz, qz⟩ := z
  exact SlX.cmpback rz ⟨z', H', I', rz, qz⟩
end
end Hf

namespace PySem.W
open PySem
section
variable {prog : Program} {w : World} {A : Around} {E : Value → Shared → Prop} {s : Shared} {K : Frag} {x C L f : Addr} {h₀ : Heap} {m : Str → Option Value} {ox : Obj} {od : Option Obj} {name : Str} {b tb : Value} {id : String}
theorem hf_ifBoundB {M : Model} {args : List Value} {Q : Option Value → Shared → Prop} (X : K.In s.heap) (I : InstAt s.heap x ox C od) (hs : findIn K (.ref C) name = some (some (.builtin id))) (S : Slot "object" name id)
    (h : wpAny M A (call (.builtin id) (.ref x :: args)) (fun v => Q (some v)) E s) : wpAny M A (callSpecialIfBound? (.ref x) name args) Q E s := by
  simp only [callSpecialIfBound?, bindSpecialIfBound?]
  refine wpAny_holding (wpAny_bind (wpAny_bind (wpAny_bind (I.type.here ((looks_findIn X hs).here ?_)))))
  simp only [S.bind]
  refine wpAny_bind (wpAny_askSetting (wpAny_ite ?_))
  have fin : wpAny M A (call (.builtin id) ([.ref x] ++ args) >>= fun v => pure (some v)) Q E s := wpAny_bind (wpAny_mono h (fun v s' h' => wpAny_pure h') fun _ _ h' => h')
  split
  · exact wpAny_bind (wpAny_pure (wpAny_pure fin))
  · exact wpAny_tryCatch (wpAny_bind (wpAny_pure (wpAny_pure fin)))
theorem hf_checkB {M : Model} {rest : List Value} {Q : Unit → Shared → Prop} {owner n : String} (X : K.In s.heap) (I : InstAt s.heap x ox C od) (hob : subIn K (.ref C) (.type owner) = some true) (hk : builtinKind id = some .slot) (hs : splitId id = some (owner, n))
    (ha : argsOk id ⟨.ref x :: rest, []⟩) (hq : Q () s) : wpAny M A (checkBuiltinCall id ⟨.ref x :: rest, []⟩) Q E s := by
  have L1 : Looks M s.heap (typeOf (.ref x)) (.ref C) := I.type
  have L2 : Looks M s.heap (isSubtype (.ref C) (.type owner)) true := looks_subIn X hob
  simp only [checkBuiltinCall, hk, hs]
  refine wpAny_bind ?_
  unfold isInstance
  refine wpAny_bind (L1.here (L2.here ?_))
  simp only [Bool.not_true, Bool.false_eq_true, if_false]
  cases hsig : Manifest.signature? id with
  | none => exact wpAny_pure hq
  | some sig =>
    simp only [argsOk, hsig] at ha
    have h2 : Bind.checkArgs id sig ⟨.ref x :: rest, []⟩ = pure () := ha
    first
    | (show wpAny M A (Bind.checkArgs id sig ⟨.ref x :: rest, []⟩) Q E _; rw [h2]; exact wpAny_pure hq)
    | (rw [h2]; exact wpAny_pure hq)
theorem hf_ne {Q : Value → Shared → Prop} (hu : A.units + 1 < cLine) (X : K.In s.heap) (I : InstAt s.heap x ox C od) (hb : Looks (model prog w) s.heap (typeOf b) tb) (hn : notFirst K C tb = true)
    (hne : findIn K (.ref C) "__ne__" = some (some (.builtin "object.__ne__"))) (hob : subIn K (.ref C) (.type "object") = some true)
    (hs : findIn K (.ref C) "__eq__" = some (some (.ref f))) (hf : isFn K (.ref f) = true)
    (h : wpAny (model prog w) A.in1 (call (.ref f) [.ref x, b]) (fun v s' => ∃ c, v = .bool c ∧ Q (.bool (!c)) s') E s) : wpAny (model prog w) A (richCompare .NotEq (.ref x) b) Q E s := by
  have one : wpAny (model prog w) A (tryCompare (.ref x) "__ne__" b) (fun r s' => ∃ v, r = some v ∧ Q v s') E s := by
    unfold tryCompare
    refine wpAny_bind (hf_ifBoundB X I hne F.cmp_object.ne (wpAny_call (codeAny_call_builtin F.cmp_object.ne.plain F.cmpEntry_ne (hf_checkB X I hob F.cmpKind_ne F.cmpSplit_ne (F.cmpArgs_ne _ _) ?_))))
    unfold Builtin.«object.__ne__»
    show wpAny (model prog w) A.in1 _ _ _ s
    repeat (first
      | with_reducible refine wpAny_cRoomFor hu ?_
      | (refine wpAny_bind (m := callSpecialIfBound? (.ref x) (Str.ofString "__eq__") [b])
          (ifBound_K X I hs hf (wpAny_mono h (fun r s' hr => by
            obtain ⟨c, rfl, hq⟩ := hr
            repeat (first | exact hq | exact ⟨_, rfl, hq⟩ | exact wpAny_pure ⟨_, rfl, hq⟩ | (refine wpAny_bind (m := truthy (.bool _)) (wpAny_truthy_bool ?_)) | wp_step)) fun _ _ e => e)))
      | wp_step)
  unfold richCompare
  simp only [oneThing_ref]
  refine wpAny_holding (wpAny_bind (wpAny_cRoomFor (Nat.lt_of_succ_lt hu) ?_))
  refine wpAny_bind (I.type.here (wpAny_bind (hb.here ?_)))
  split
  · rename_i q
    have e : subIn K tb (.ref C) = some false := by
      unfold notFirst at hn
      rcases Bool.or_eq_true _ _ ▸ hn with h1 | h1
      · rw [beq_iff_eq.mp h1] at q
        simp at q
      · exact beq_iff_eq.mp h1
    refine wpAny_bind ((looks_subIn X e).here ?_)
    simp only [Bool.false_eq_true, if_false]
    refine wpAny_bind (wpAny_mono one (fun r s' hr => ?_) fun _ _ e => e)
    obtain ⟨v, rfl, hq⟩ := hr
    exact wpAny_pure hq
  · refine wpAny_bind (wpAny_pure ?_)
    simp only [Bool.false_eq_true, if_false]
    refine wpAny_bind (wpAny_mono one (fun r s' hr => ?_) fun _ _ e => e)
    obtain ⟨v, rfl, hq⟩ := hr
    exact wpAny_pure hq
end
end PySem.W

namespace GQ
open PySem PySem.SeqAt
open AutoSeq1 (wpAny_loadPart')
open MeetsSeq MeetsSeq2 MeetsSeq3 SeqRoads2
section
variable {prog : Program} {w : World} {A : Around} {R : Result → Shared → Prop}
theorem ne_loopG (l b : Addr) (N : Nat) (I : Nat → Shared → Prop) (hl : ListI prog w A (fun e s' => R (.error e) s') l b N I)
    (fin : ∀ s, I N s → R (.ok (.ret (.bool false))) s) (k : Nat) :
    ∀ i : Nat, N - i = k → i ≤ N → ∀ s, I i s →
      wpAny (model prog w) A.in1 (Builtin.«list.__eq__.loop» ⟨[.ref l, .ref b, rawInt i, rawInt 3], []⟩) (FinOf prog w A R) (fun e s' => R (.error e) s') s := by
  induction k with
  | zero =>
    intro i hk hi s h
    obtain ⟨items, items2, n, n2, hl1, hb1, hs1, hs2, _⟩ := hl _ _ h
    have hi' : i = N := by omega
    have hR : R (.ok (.ret (.bool false))) s := fin s (hi' ▸ h)
    obtain ⟨hp, g, d, tk, os⟩ := s
    wp_walk using wpAny_loadPart' hl1, wpAny_loadPart' hb1
    have hi1 : items[((i : Nat) : Int).toNat]? = none := by simp; omega
    have hi2 : items2[((i : Nat) : Int).toNat]? = none := by simp; omega
    rw [hi1, hi2]
    wp_walk using wpAny_loadPart' hl1, wpAny_loadPart' hb1
    show R (.ok (.ret (.bool (items.size != items2.size)))) _
    rw [hs1, hs2]
    simpa using hR
  | succ k ih =>
    intro i hk hi s h
    obtain ⟨items, items2, n, n2, hl1, hb1, hs1, hs2, turn⟩ := hl _ _ h
    have hlt : i < items.size := by omega
    have hlt2 : i < items2.size := by omega
    have ht := turn hlt hlt2
    obtain ⟨hp, g, d, tk, os⟩ := s
    wp_walk using wpAny_loadPart' hl1, wpAny_loadPart' hb1
    have hi1 : items[((i : Nat) : Int).toNat]? = some items[i] := by simp [hlt]
    have hi2 : items2[((i : Nat) : Int).toNat]? = some items2[i] := by simp [hlt2]
    have hc : ((i : Int) + 1) = ((i + 1 : Nat) : Int) := by omega
    rw [hi1, hi2]
    refine wpAny_bind (wpAny_mono ht (fun r s2 h2 => ?_) fun _ _ x => x)
    obtain ⟨hr, h2⟩ := h2
    subst hr
    have hrec := ih (i + 1) (by omega) (by omega) s2 h2
    obtain ⟨hp2, g2, d2, tk2, os2⟩ := s2
    wp_walk
    rw [hc]
    exact ⟨plainId_quiet plain_eq_loop _, codeAny_builtin entry_eq_loop (by
      rw [Around.under_plainId plain_eq_loop _]
      exact hrec)⟩
theorem list_neG (l b : Addr) (N : Nat) (I : Nat → Shared → Prop) (hl : ListI prog w A (fun e s' => R (.error e) s') l b N I)
    (fin : ∀ s, I N s → R (.ok (.ret (.bool false))) s) {s : Shared} (h : I 0 s) :
    wpAny (model prog w) A.in1 (Builtin.«list.__ne__» ⟨[.ref l, .ref b], []⟩) (FinOf prog w A R) (fun e s' => R (.error e) s') s := by
  obtain ⟨items, items2, n, n2, hl1, hb1, hs1, hs2, _⟩ := hl _ _ h
  have hrec := ne_loopG (A := A) (R := R) l b N I hl fin _ 0 rfl (Nat.zero_le _) s h
  obtain ⟨hp, g, d, tk, os⟩ := s
  have f3 := AutoSeq1.sub_list_list
  have hne : ¬ (items.size != items2.size) = true := by simp [hs1, hs2]
  wp_walk using wpAny_loadPart' hl1, wpAny_loadPart' hb1
  exact ⟨plainId_quiet plain_eq_loop _, codeAny_builtin entry_eq_loop (by
    rw [Around.under_plainId plain_eq_loop _]
    exact hrec)⟩
end
section
variable {prog : Program} {w : World} {A : Around} {E : Value → Shared → Prop} {s : Shared}
theorem rc_listNeG {l b : Addr} {N : Nat} {Q : Value → Shared → Prop} (hu : A.units < cLine) (I : Nat → Shared → Prop) (hl : ListI prog w A E l b N I)
    (fin : ∀ s, I N s → Q (.bool false) s) (h : I 0 s) : wpAny (model prog w) A (richCompare .NotEq (.ref l) (.ref b)) Q E s := by
  obtain ⟨items, items2, n, n2, hl1, hb1, _, _, _⟩ := hl _ _ h
  refine wpAny_richCompare_same_room (op := .NotEq) ⟨_, hl1, rfl⟩ ⟨_, hb1, rfl⟩ F.slot_list_ne (call_here F.slot_list_ne ⟨_, hl1, rfl⟩ F.entry_list_ne (F.args_list_ne_2 _ _) ?_) hu
  exact list_neG (R := wants (fun v s' => v ≠ .notImplemented ∧ Q v s') E) l b N I hl (fun s' q => ⟨(fun x => nomatch x), fin s' q⟩) h
end
end GQ
namespace Hf
open PySem PySem.Spec PyProof.Rows L2
section
variable {X : Cx} {CX : CXT} {n : Nat} {C g : Addr} {sp : Sp} {E : XK} {D : Eqv}
/-- x != y by the own ==, both instances of C -/
def rNeO (C : Addr) (sp : Sp) (E : XK) : R2 := fun x y H Q => ∃ a dx fs b dy gs, x = .ref a ∧ y = .ref b ∧ H a = some (.ins C dx fs) ∧ H b = some (.ins C dy gs) ∧ sp [x, y] H (fun v H' => ∃ c, v = .bl c ∧ Q (.bl (!c)) H') E
/-- what the class says of != -/
structure NeC (K : PySem.W.Frag) (C : Addr) : Prop where
  ne : PySem.W.findIn K (.ref C) "__ne__" = some (some (.builtin "object.__ne__"))
  ob : PySem.W.subIn K (.ref C) (.type "object") = some true
theorem op_ownNe (c : NeC X.K C) (o : Opr X.K C "__eq__" g) (F : FnR X.prog X.w X.K X.mg X.base CX n g sp) (hr : Room (n + 1) X.A) (hx : Passes CX X E) : OpR X (compareOp .NotEq) (rNeO C sp E) := by
  intro pins s σ H x y v u Q I rx ry h
  obtain ⟨a, dx, fs, b, dy, gs, rfl, rfl, ha, hb, q⟩ := h
  cases (show v = Value.ref a from rx)
  cases (show u = Value.ref b from ry)
  obtain ⟨ox, od, J⟩ := ins_at I ha
  obtain ⟨oy, oe, J'⟩ := ins_at I hb
  show wpAny (model X.prog X.w) X.A (richCompare .NotEq _ _) _ _ _
  refine PySem.W.hf_ne (tb := .ref C) (by have := hr.un; omega) I.kIn J J'.type notFirst_self c.ne c.ob o.at_ o.fn ?_
  refine wpAny_mono (wpAny_call (SlX.run_at (A := X.A.in1) (us := [.ref a, .ref b]) (ws := [.ref a, .ref b]) F hr.in1 I.env0.in1 hx I (.cons rfl (.cons rfl .nil)) q)) (fun w s' z => ?_) fun _ _ x => x
  obtain ⟨z', H', I', rz, c', ec, qz⟩ := z
  subst ec
  cases (show w = Value.bool c' from rz)
  exact ⟨c', rfl, .bl (!c'), H', I', rfl, qz⟩
/-- == inside a list by an own ==, positional -/
theorem eqG_insR {R : Addr → Addr → Hp → Prop} (o : Opr X.K C "__eq__" g) (F : FnR X.prog X.w X.K X.mg X.base CX n g (spEq R)) (hx : Passes CX X E) : RcG X n (DIns C R) := by
  intro A pins s σ H x y u v sb I rx ry d
  obtain ⟨a, b, dx, dy, fs, gs, rfl, rfl, ha, hb', hr⟩ := d
  cases rx
  cases ry
  obtain ⟨ox, od, J⟩ := ins_at I ha
  obtain ⟨oy, oe, J'⟩ := ins_at I hb'
  obtain ⟨m, hF⟩ := I.fr
  refine PySem.W.cmp_K (op := .Eq) (tb := .ref C) sb.room.units0 hF I.ok.mod.kin J J'.type notFirst_self o.at_ o.fn ?_
  have hsp : spEq R [.ref a, .ref b] H (fun v H' => v = .bl true ∧ Ext H H') E := ⟨a, b, rfl, hr, fun H' e => ⟨rfl, e⟩⟩
  have e0 : Env0 X.prog X.w X.K X.mg X.base A X.stack s H := by
    have e := I.env0
    exact ⟨by rw [sb.fr]; exact e.frames, e.mod, e.bs, e.bsz, e.funs, e.frf, e.hok, e.bare⟩
  have r2 : Vals [V.ref a, V.ref b] [Value.ref a, Value.ref b] := .cons rfl (.cons rfl .nil)
  refine wpAny_mono (wpAny_call (SlX.run_at F sb.room e0 hx I r2 hsp)) (fun w s' z => ?_) fun _ _ x => x
  obtain ⟨z', H', I', rz, ez, ex⟩ := z
  subst ez
  cases rz
  exact ⟨rfl, H', I', ex⟩
/-- xs != ys of two lists whose items are equal one by one -/
def rNeG (D : Eqv) : R2 := fun x y H Q => DList D x y H ∧ ∀ H', Ext H H' → Q (.bl false) H'
theorem op_neG (hD : Mon D) (h : EqG X n D) (hr : Room (n + 1) X.A) : OpR X (compareOp .NotEq) (rNeG D) := by
  intro pins s σ H x y v u Q I rx ry hq
  obtain ⟨⟨a, b, xs, ys, rfl, rfl, ha, hb, p⟩, q⟩ := hq
  cases rx
  cases ry
  show wpAny (model X.prog X.w) X.A (richCompare .NotEq _ _) _ _ _
  have sb : Sub X (n + 1) X.A := ⟨hr, rfl⟩
  refine GQ.rc_listNeG (N := xs.length) sb.room.units0 (fun _ s' => LoopI X pins σ H s') (fun i s' z => ?_) (fun s' z => ?_) ⟨H, I, Ext.rfl'⟩
  · obtain ⟨H1, I1, e1⟩ := id z
    obtain ⟨z1, its, k, r, e⟩ := I1.hok a _ (e1 _ _ ha)
    obtain ⟨z2, its2, k2, r2, e2⟩ := I1.hok b _ (e1 _ _ hb)
    refine ⟨its.toArray, its2.toArray, k, k2, e, e2, by rw [List.size_toArray, ← r.length], by rw [List.size_toArray, ← r2.length, ← p.1], fun h1 h2 => ?_⟩
    exact turnG hD h sb p r r2 i h1 h2 s' z
  · obtain ⟨H1, I1, e1⟩ := z
    exact ⟨.bl false, H1, I1, rfl, q H1 e1⟩
end
/-! ### defs, methods, classes by name, positional -/
section
variable {P : Program} {w : World} {K : PySem.W.Frag} {mg : Str → Option Value} {base : Heap}
/-- x, a def of the module, keeps sp -/
def Cal (P : Program) (w : World) (K : PySem.W.Frag) (mg : Str → Option Value) (base : Heap) (k : Nat) (x : Str) (sp : Sp) : Prop :=
  ∃ f, FnR P w K mg base (L2.CX P w) k f sp ∧ mg x = some (.ref f) ∧ PySem.W.keepIn K (.ref f) = true
/-- m, a def of the class at C, keeps sp (self ahead) -/
def Met (P : Program) (w : World) (K : PySem.W.Frag) (mg : Str → Option Value) (base : Heap) (k : Nat) (C : Addr) (m : Str) (sp : Sp) : Prop :=
  ∃ f, FnR P w K mg base (L2.CX P w) k f sp ∧ Meth K C m f
/-- x, a class of the module at C, is made by sp (self ahead) -/
def Mak (P : Program) (w : World) (K : PySem.W.Frag) (mg : Str → Option Value) (base : Heap) (k : Nat) (x : Str) (C : Addr) (sp : Sp) : Prop :=
  ∃ f, FnR P w K mg base (L2.CX P w) k f sp ∧ mg x = some (.ref C) ∧ Mk K C f
theorem Met.opr {k : Nat} {C : Addr} {m : Str} {sp : Sp} (h : Met P w K mg base k C m sp) : ∃ g, Opr K C m g ∧ FnR P w K mg base (L2.CX P w) k g sp := by
  obtain ⟨f, F, M⟩ := h
  exact ⟨f, ⟨M.at_, M.fn⟩, F⟩
/-- a def whose body lets nothing out -/
theorem fnR0 {x qual : Str} {st : Stmt} {f : Addr} {fd : FuncData} {N ps : List Str} {k : Nat} {sp : Sp} (F : Fun K x qual st f fd) (b : Binds K fd ps []) (S : FnScope N ps (defScope st)) (len : ∀ vs H Q E, sp vs H Q E → vs.length = ps.length)
    (hbody : ∀ (cdv : Value) (A : Around) (outer : List Env) (s : Shared) (H : Hp) (vs : List V) (Q : VK) (E : XK), Room k (A.deeper (envOfC qual (defScope st) s.heap.objs.size f cdv)) → sp vs H Q E →
      ∃ t, PSs (cxOf (L2.CX P w) P w K mg base N qual (defScope st) f cdv A outer s H E).nox (defBody st) t ∧ t { nx := fun _ H' => Q .non H', rt := Q } (start N vs) H) : FnR P w K mg base (L2.CX P w) (k + 1) f sp := by
  have G := F.okX (P := P) (w := w) (mg := mg) (base := base) S len fun cdv A outer s H vs Q E hr h => let ⟨t, a, b⟩ := hbody cdv A outer s H vs Q E hr h; ⟨t, a.nox, b⟩
  exact (G.raw b .nil).imp fun vs H Q E h => by rw [List.append_nil]; exact h
end
section
variable {X : Cx} {E : XK} {k j : Nat} {C : Addr} {x m : Str} {sp : Sp} {p pos apos : Pos} {e o : Expr} {es : List Expr} {ta : TE} {t : TA}
/-- f(e, ..) -/
def tCl (sp : Sp) (E : XK) (t : TA) : TE := fun σ H Q => t σ H fun vs H1 => sp vs H1 Q E
theorem pe_cl (c : Cal X.prog X.w X.K X.mg X.base k x sp) (hr : Room j X.A) (hx : Passes (L2.CX X.prog X.w) X E) (ha : PA X (e :: es) t) (hk : k ≤ j := by decide) (hg : Gl X x := by rfl)
    (hdb : (x == ("__debug__" : Str)) = false := by decide) (he : starEach (e :: es) X.env = (false, eval e X.env) :: starEach es X.env := by rfl) (hpl : (backTo pos (starEach es X.env)).any (·.1) = false := by rfl) :
    PE X (.Call (.Name x p) (e :: es) [] pos) (tCl sp E t) := by
  obtain ⟨f, F, hm, kp⟩ := c
  refine ⟨fun pins s σ H Q I h => ?_⟩
  refine wpAny_Call_Name_kw (ld_glob I hg hm ?_ hdb)
  refine PySem.W.callWith_K (h₀ := X.base) I.ok.mod.kin kp (thn (ha.run pos pins s σ H _ I h) fun us s1 ⟨vs, H1, I1, r1, q1⟩ => ?_) he hpl
  exact ⟨I1.kIn, wpAny_call (run_fnR F (hr.mono hk) hx I1 r1 q1)⟩
theorem pe_cl0 (c : Cal X.prog X.w X.K X.mg X.base k x sp) (hr : Room j X.A) (hx : Passes (L2.CX X.prog X.w) X E) (hk : k ≤ j := by decide) (hg : Gl X x := by rfl)
    (hdb : (x == ("__debug__" : Str)) = false := by decide) : PE X (.Call (.Name x p) [] [] pos) (tCl sp E tNil) := by
  obtain ⟨f, F, hm, kp⟩ := c
  refine ⟨fun pins s σ H Q I h => ?_⟩
  refine wpAny_Call_Name_kw (ld_glob I hg hm ?_ hdb)
  exact PySem.W.callWith_K0 I.kIn kp (wpAny_call (run_fnR (us := []) (vs := []) F (hr.mono hk) hx I .nil h))
/-- o.m(e, ..), o an instance of C -/
theorem pe_me {pl : Sem Bool} (he : PE X o ta) (c : Cls X.K C) (M : Met X.prog X.w X.K X.mg X.base k C m sp) (hr : Room j X.A) (hx : Passes (L2.CX X.prog X.w) X E) (ha : PA X (e :: es) t) (hk : k ≤ j := by decide)
    (hst : starEach (e :: es) X.env = (false, eval e X.env) :: starEach es X.env := by rfl) (hpl : (backTo pos (starEach es X.env)).any (·.1) = false := by rfl)
    (ht : eval (.Call (.Attribute o m apos) (e :: es) [] pos) X.env = (do
      let ov ← eval o X.env
      standAt apos.atName
      let (f, first) ← holding [ov] (getMethod ov m pl)
      callWith pos f first (backTo pos (starEach (e :: es) X.env)) (backToKw pos (keywordEach [] X.env))) := by rfl) :
    PE X (.Call (.Attribute o m apos) (e :: es) [] pos) (tMethR C m sp E ta t) := by
  obtain ⟨f, F, hm⟩ := M
  exact pe_methR (pl := pl) he c hm F (hr.mono hk) hx ha hst hpl ht
theorem pe_me0 {pl : Sem Bool} (he : PE X o ta) (c : Cls X.K C) (M : Met X.prog X.w X.K X.mg X.base k C m sp) (hr : Room j X.A) (hx : Passes (L2.CX X.prog X.w) X E) (hk : k ≤ j := by decide)
    (ht : eval (.Call (.Attribute o m apos) [] [] pos) X.env = (do
      let ov ← eval o X.env
      standAt apos.atName
      let (f, first) ← holding [ov] (getMethod ov m pl)
      callWith pos f first (backTo pos (starEach [] X.env)) (backToKw pos (keywordEach [] X.env))) := by rfl) :
    PE X (.Call (.Attribute o m apos) [] [] pos) (tMethR C m sp E ta tNil) := by
  obtain ⟨f, F, hm⟩ := M
  refine ⟨fun pins s σ H Q I h => ?_⟩
  refine PySem.W.methodCall_KW (pl := pl) (thn (he.run pins s σ H _ I h) fun u s1 ⟨x, H1, I1, rx, a, dx, fs, ex, ea, l, q⟩ => ?_) ht
  subst ex
  obtain rfl : u = Value.ref a := rx
  refine getmeth_ok I1 ea c hm l ?_
  exact PySem.W.callWith_K0 (first := [.ref a]) I1.kIn hm.kp (wpAny_call (run_fnR (us := [.ref a]) (vs := [.ref a]) F (hr.mono hk) hx I1 (.cons rfl .nil) q))
/-- C(e, ..) -/
theorem pe_ma (M : Mak X.prog X.w X.K X.mg X.base k x C sp) (hr : Room j X.A) (hx : Passes (L2.CX X.prog X.w) X E) (ha : PA X (e :: es) t) (hk : k + 1 ≤ j := by decide) (hg : Gl X x := by rfl) (hdb : (x == ("__debug__" : Str)) = false := by decide)
    (he : starEach (e :: es) X.env = (false, eval e X.env) :: starEach es X.env := by rfl) (hpl : (backTo pos (starEach es X.env)).any (·.1) = false := by rfl) : PE X (.Call (.Name x p) (e :: es) [] pos) (StX.tMakeR C sp E t) := by
  obtain ⟨f, F, hm, mk⟩ := M
  exact StX.pe_makeR mk F (hr.mono hk) hg hm hx ha hdb he hpl
theorem op_binM {op : Operator} (hc : PySem.W.selfFirst X.K C = true) (M : Met X.prog X.w X.K X.mg X.base k C (PySem.dunder op.info.2) sp) (hr : Room j X.A) (hx : Passes (L2.CX X.prog X.w) X E) (hk : k ≤ j := by decide) : OpR X (binaryOp op) (rBin C sp E) := by
  obtain ⟨g, o, F⟩ := M.opr
  exact op_bin hc o F (hr.mono hk) hx
theorem op_binIM {op : Operator} (hc : PySem.W.selfFirst X.K C = true) (M : Met X.prog X.w X.K X.mg X.base k C (PySem.dunder op.info.2) sp) (oi : OprI X.K C op.info.2) (hr : Room j X.A) (hx : Passes (L2.CX X.prog X.w) X E) (hk : k ≤ j := by decide) : OpR X (binaryOp op) (rBinI C sp E) := by
  obtain ⟨g, o, F⟩ := M.opr
  exact op_binI hc o oi F (hr.mono hk) hx
theorem un_invM (M : Met X.prog X.w X.K X.mg X.base k C "__invert__" sp) (hr : Room j X.A) (hx : Passes (L2.CX X.prog X.w) X E) (hk : k ≤ j := by decide) : UnR X (unaryOp .Invert) (rInv C sp E) := by
  obtain ⟨g, o, F⟩ := M.opr
  exact un_ownInv o F (hr.mono hk) hx
theorem op_cmpM {op : CmpOp} (M : Met X.prog X.w X.K X.mg X.base k C (cmpInfo op).2.1 sp) (hr : Room j X.A) (hx : Passes (L2.CX X.prog X.w) X E) (hk : k ≤ j := by decide) (hop : ∀ a b, compareOp op a b = richCompare op a b := by intros; rfl) : OpR X (compareOp op) (rCmp C sp E) := by
  obtain ⟨g, o, F⟩ := M.opr
  exact op_ownC hop o F (hr.mono hk) hx
theorem op_neM (c : NeC X.K C) (M : Met X.prog X.w X.K X.mg X.base k C "__eq__" sp) (hr : Room j X.A) (hx : Passes (L2.CX X.prog X.w) X E) (hk : k + 1 ≤ j := by decide) : OpR X (compareOp .NotEq) (rNeO C sp E) := by
  obtain ⟨g, o, F⟩ := M.opr
  exact op_ownNe c o F (hr.mono hk) hx
/-- x(e, ..), x an expression that gives an instance of C with __call__ -/
def tCallI (C : Addr) (sp : Sp) (E : XK) (tf : TE) (t : TA) : TE := fun σ H Q => tf σ H fun y H1 => ∃ a, y = V.ref a ∧ t σ H1 fun vs H2 => (∃ dx fs, H2 a = some (.ins C dx fs)) ∧ sp (V.ref a :: vs) H2 Q E
theorem pe_callM {fe : Expr} {tf : TE} (hf : PE X fe tf) (M : Met X.prog X.w X.K X.mg X.base k C "__call__" sp) (fi : ∀ g, Opr X.K C "__call__" g → PySem.W.fnIn X.K g = true) (hr : Room j X.A) (hx : Passes (L2.CX X.prog X.w) X E) (ha : PA X (e :: es) t) (hk : k ≤ j := by decide)
    (ht : eval (.Call fe (e :: es) [] pos) X.env = (do callWith pos (← eval fe X.env) [] (backTo pos (starEach (e :: es) X.env)) (backToKw pos (keywordEach [] X.env))) := by rfl)
    (he : starEach (e :: es) X.env = (false, eval e X.env) :: starEach es X.env := by rfl) (hpl : (backTo pos (starEach es X.env)).any (·.1) = false := by rfl) : PE X (.Call fe (e :: es) [] pos) (tCallI C sp E tf t) := by
  obtain ⟨g, o, F⟩ := M.opr
  have c : StX.CallO X.K C g := ⟨o.at_, o.fn, fi g o⟩
  refine ⟨fun pins s σ H Q I h => ?_⟩
  refine PyProof.Rows.Call_ (thn (hf.run pins s σ H _ I h) fun u s1 ⟨y, H1, I1, ry, a, ey, q⟩ => ?_) ht
  subst ey
  obtain rfl : u = Value.ref a := ry
  refine StX.callO_with (thn (ha.run pos pins s1 σ H1 _ I1 q) fun us s2 ⟨vs, H2, I2, r, hi, q2⟩ => ?_) he hpl
  have hi' : StX.InsC X H2 a C := .inr hi
  obtain ⟨ox, od, J, hd⟩ := StX.insC_at I2 hi'
  exact ⟨⟨C, ox, od, J, hd⟩, StX.run_callO c F (hr.mono hk) hx I2 hi' r q2⟩
end
end Hf

namespace PySem
open Sem (wp)
open Builtin
theorem hf_int_add_inst (a : Int) (t : Tok) (l C dx : Addr) :
    Meets (Builtin.«int.__add__» ⟨[.int a t, .ref l], []⟩) (fun _ R s => s.heap.get? l = some (PySem.W.instObj C dx) ∧ R (.ok (.ret Value.notImplemented)) s) :=
  .of_wp fun prog w A R s h => by obtain ⟨hp, g, d, tk, os⟩ := s; obtain ⟨hl, h⟩ := h; unfold PySem.W.instObj at hl; wp_walk; exact ⟨_, rfl, h⟩
theorem hf_int_mul_inst (a : Int) (t : Tok) (l C dx : Addr) :
    Meets (Builtin.«int.__mul__» ⟨[.int a t, .ref l], []⟩) (fun _ R s => s.heap.get? l = some (PySem.W.instObj C dx) ∧ R (.ok (.ret Value.notImplemented)) s) :=
  .of_wp fun prog w A R s h => by obtain ⟨hp, g, d, tk, os⟩ := s; obtain ⟨hl, h⟩ := h; unfold PySem.W.instObj at hl; wp_walk; exact ⟨_, rfl, h⟩
end PySem

namespace PySem.W
open PySem
section
variable {prog : Program} {w : World} {A : Around} {E : Value → Shared → Prop} {s : Shared} {K : Frag} {x C L f : Addr} {h₀ : Heap} {m : Str → Option Value} {ox : Obj} {od : Option Obj} {nm : String} {b : Value} {id : String}
/-- a builtin on the left declines, the instance's reflected def answers -/
theorem hf_refl {a : Value} {Q : Option Value → Shared → Prop} {fo : Option Value} (X : K.In s.heap) (I : InstAt s.heap x ox C od) (ha : s.TypeIs a "int") (hc : selfFirst K C = true) (hf0 : fillsNumberSlot (.type "int") nm = pure true) (hl : Slot "int" (PySem.dunder nm) id)
    (hs : findIn K (.ref C) (PySem.dunder nm) = some (some (.ref L))) (hr : findIn K (.ref C) (dunderR nm) = some (some (.ref f))) (hf : isFn K (.ref f) = true) (hsub : subIn K (.ref C) (.type "int") = some false)
    (hd : wpAny (model prog w) A (call (.builtin id) [a, .ref x]) (fun v s' => v = .notImplemented ∧ s' = s) E s)
    (h : wpAny (model prog w) A (call (.ref f) [.ref x, a]) (CmpBack fun v s' => Q (some v) s') E s) : wpAny (model prog w) A (binaryOp1 nm a (.ref x)) Q E s := by
  obtain ⟨cd, rest, hcd, hm⟩ := ksp_first hc
  have one := ksp_try (Q := fun v s' => Q (some v) s') X I hr hf h
  have L1 : Looks (model prog w) s.heap (typeOf (.ref x)) (.ref C) := I.type
  have L3 : Looks (model prog w) s.heap (fillsNumberSlot (.ref C) nm) true := fills_K X hcd hm hs
  have L5 : Looks (model prog w) s.heap (isSubtype (.ref C) (.type "int")) false := looks_subIn X hsub
  have hne : (Value.type "int" == Value.ref C) = false := Bool.eq_false_iff.mpr fun q => by cases beq_iff_eq.mp q
  have hpy : numberSlotInPython (.type "int") nm = pure false := rfl
  simp only [binaryOp1]
  refine wpAny_bind (wpAny_typeOf ha (wpAny_bind (L1.here (wpAny_bind (wpAny_of_eq hf0 ?_)))))
  simp only [hne, Bool.false_eq_true, if_false]
  refine wpAny_bind (L3.here ?_)
  simp only [Bool.and_self, if_true]
  refine wpAny_bind (L5.here ?_)
  simp only [Bool.false_eq_true, if_false, pure_bind, Bool.not_false, Bool.and_self, if_true, hpy]
  refine wpAny_bind (wpAny_tryMethod_declines ha hl (wpAny_mono hd (fun v s' hv => ?_) fun _ _ e => e))
  obtain ⟨rfl, rfl⟩ := hv
  refine ⟨rfl, ?_⟩
  dsimp only
  refine wpAny_bind (wpAny_mono one (fun r s2 hr2 => ?_) fun _ _ e => e)
  obtain ⟨v, rfl, hq⟩ := hr2
  dsimp only
  exact wpAny_bind (wpAny_rule (wpAny_pure hq))
end
end PySem.W

namespace PySem.W
open PySem
section
variable {prog : Program} {w : World} {A : Around} {E : Value → Shared → Prop} {s : Shared} {K : Frag} {x C L f : Addr} {h₀ : Heap} {m : Str → Option Value} {ox : Obj} {od : Option Obj} {nm T : String} {b : Value} {id : String}
theorem hf_bin1T {fo ro rc : Option Value} {Q : Option Value → Shared → Prop} (X : K.In s.heap) (I : InstAt s.heap x ox C od) (hb : typeOf b = pure (.type T)) (hc : selfFirst K C = true)
    (hs : findIn K (.ref C) (PySem.dunder nm) = some (some (.ref f))) (hf : isFn K (.ref f) = true) (hr : findIn K (.ref C) (dunderR nm) = some rc) (hp : rc = none ∨ ∃ g : Addr, rc = some (.ref g))
    (h1 : findIn K (.type T) (PySem.dunder nm) = some fo) (h2 : findIn K (.type T) (dunderR nm) = some ro) (hsub : subIn K (.type T) (.ref C) = some false)
    (h : wpAny (model prog w) A (call (.ref f) [.ref x, b]) (CmpBack fun v s' => Q (some v) s') E s) : wpAny (model prog w) A (binaryOp1 nm (.ref x) b) Q E s := by
  obtain ⟨cd, rest, hcd, hm⟩ := ksp_first hc
  have one := ksp_try (Q := fun v s' => Q (some v) s') X I hs hf h
  obtain ⟨hh, g, d, tt, os⟩ := s
  have L1 : Looks (model prog w) hh (typeOf (.ref x)) (.ref C) := I.type
  have L2 : Looks (model prog w) hh (typeOf b) (.type T) := Looks.of_pure hb
  have L3 : Looks (model prog w) hh (fillsNumberSlot (.ref C) nm) true := fills_K X hcd hm hs
  have L4 : Looks (model prog w) hh (fillsNumberSlot (.type T) nm) ((fo.isSome && !isSeqSlot fo) || (ro.isSome && !isSeqSlot ro)) := ksp_fillsT X h1 h2
  have L5 : Looks (model prog w) hh (isSubtype (.type T) (.ref C)) false := looks_subIn X hsub
  have L6 : Looks (model prog w) hh (numberSlotInPython (.ref C) nm) true := ksp_inPy X hs hr hp
  have L7 : Looks (model prog w) hh (numberSlotInPython (.type T) nm) false := Looks.of_pure rfl
  have L8 : Looks (model prog w) hh (typeLookup (.type T) (dunderR nm)) ro := looks_findIn X h2
  generalize ((fo.isSome && !isSeqSlot fo) || (ro.isSome && !isSeqSlot ro)) = right at L4
  have hne : (Value.ref C == Value.type T) = false := Bool.eq_false_iff.mpr fun q => by cases beq_iff_eq.mp q
  unfold binaryOp1
  refine wpAny_bind (L1.at (wpAny_bind (L2.at (wpAny_bind (L3.at ?_)))))
  simp only [hne, Bool.false_eq_true, if_false]
  cases right with
  | false =>
    ksp_lk
    refine wpAny_mono one (fun r s' hr' => ?_) fun _ _ e => e
    obtain ⟨v, rfl, hq⟩ := hr'
    ksp_lk
    exact hq
  | true =>
    ksp_lk
    refine wpAny_mono one (fun r s' hr' => ?_) fun _ _ e => e
    obtain ⟨v, rfl, hq⟩ := hr'
    ksp_lk
    exact hq
/-- the class has the mro C, object -/
def plainMro (K : Frag) (C : Addr) : Bool := (clsIn K C).any fun cd => cd.mro == [.ref C, .type "object"]
theorem hf_noI {M : Model} {h : Heap} {add : Bool} (X : K.In h) (hm : plainMro K C = true) (hs : findIn K (.ref C) (dunderI nm) = some none) (ho : typeLookup (.type "object") (dunderI nm) = pure none) : Looks M h (fillsInplaceSlot (.ref C) nm add) false := by
  intro A Q E s k q
  obtain ⟨cd, hc, hm⟩ := any_some hm
  have hm : cd.mro = [.ref C, .type "object"] := beq_iff_eq.mp hm
  have Lm : Looks M h (mroOf (.ref C)) cd.mro := (looks_clsIn X hc).andThen (f := fun cd => pure cd.mro) .now
  have Lm' := Lm.keeps k
  obtain ⟨hh, g, d, tt, os⟩ := s
  have X' : K.In hh := X.keeps k
  have L1 : Looks M hh (typeLookup (.ref C) (dunderI nm)) none := looks_findIn X' hs
  have L2 : Looks M hh (typeLookup (.type "object") (dunderI nm)) none := Looks.of_pure ho
  unfold fillsInplaceSlot
  refine wpAny_bind (Lm'.at ?_)
  rw [hm, List.anyM_cons]
  refine wpAny_bind (wpAny_bind (L1.at (wpAny_pure ?_)))
  simp only [Bool.false_eq_true, if_false]
  rw [List.anyM_cons]
  refine wpAny_bind (wpAny_bind (L2.at (wpAny_pure ?_)))
  simp only [Bool.false_eq_true, if_false]
  exact wpAny_pure q
theorem hf_inplace {op : Operator} {Q : Value → Shared → Prop} (X : K.In s.heap) (I : InstAt s.heap x ox C od) (hm : plainMro K C = true) (hs : findIn K (.ref C) (dunderI op.info.2) = some none) (ho : typeLookup (.type "object") (dunderI op.info.2) = pure none)
    (h : wpAny (model prog w) A (binaryOp1 op.info.2 (.ref x) b) (fun r s' => ∃ v, r = some v ∧ Q v s') E s) : wpAny (model prog w) A (inplaceOp op (.ref x) b) Q E s := by
  have L1 : Looks (model prog w) s.heap (typeOf (.ref x)) (.ref C) := I.type
  have L2 : Looks (model prog w) s.heap (fillsInplaceSlot (.ref C) op.info.2 (op == .Add)) false := hf_noI X hm hs ho
  unfold inplaceOp
  refine wpAny_holding ?_
  refine wpAny_bind (L1.here (wpAny_bind (L2.here ?_)))
  simp only [Bool.false_eq_true, if_false]
  refine wpAny_bind (wpAny_mono h (fun r s' hr => ?_) fun _ _ e => e)
  obtain ⟨v, rfl, hq⟩ := hr
  exact wpAny_pure hq
theorem hf_obj_iadd : typeLookup (.type "object") (dunderI "add") = pure none := by rw [typeLookup_type, builtinLookup_eq_fast]; kernel_rfl
end
end PySem.W
namespace Hf
open PySem PySem.Spec PyProof.Rows L2
section
variable {X : Cx} {CX : CXT} {n k j : Nat} {C g : Addr} {sp : Sp} {E : XK}
/-- i op x by the reflected def -/
def rBinR (C : Addr) (sp : Sp) (E : XK) : R2 := fun x y H Q => ∃ a dx fs i, x = .int i ∧ y = .ref a ∧ H a = some (.ins C dx fs) ∧ sp [y, x] H Q E
theorem inst_raw {pins : List (Addr × Obj)} {σ : L2.St} {H : Hp} {s : Shared} {a dx : Addr} {fs : List (Str × V)} (I : Inv X pins σ H s) (h : H a = some (.ins C dx fs)) : s.heap.get? a = some (PySem.W.instObj C dx) := by
  obtain ⟨_, _, _, e, _⟩ := I.hok a _ h
  exact e
theorem op_radd {spA : Sp} {kA : Nat} (hc : PySem.W.selfFirst X.K C = true) (MA : Met X.prog X.w X.K X.mg X.base kA C "__add__" spA) (hsub : PySem.W.subIn X.K (.ref C) (.type "int") = some false)
    (M : Met X.prog X.w X.K X.mg X.base k C "__radd__" sp) (hr : Room j X.A) (hx : Passes (L2.CX X.prog X.w) X E) (hk : k ≤ j := by decide) : OpR X (binaryOp .Add) (rBinR C sp E) := by
  obtain ⟨L, oA, _⟩ := MA.opr
  have hs := oA.at_
  obtain ⟨g, o, F⟩ := M.opr
  intro pins s σ H x y v u Q I rx ry h
  obtain ⟨a, dx, fs, i, rfl, rfl, ha, q⟩ := h
  cases (show u = Value.ref a from ry)
  obtain ⟨t, e⟩ := (show ∃ t, v = Value.int i t from rx)
  cases e
  obtain ⟨ox, od, J⟩ := ins_at I ha
  have hob := inst_raw I ha
  unfold binaryOp
  refine wpAny_holding (wpAny_bind ?_)
  refine PySem.W.hf_refl (fo := none) I.kIn J (typeIs_int s i t) hc PySem.F.fills_int_add PySem.F.slot_int_add hs o.at_ o.fn hsub ?_ ?_
  · exact call_meets PySem.F.slot_int_add (typeIs_int s i t) PySem.F.entry_int_add (PySem.F.args_int_add_2 _ _) (hf_int_add_inst i t a C dx) ⟨hob, rfl, rfl⟩
  · refine wpAny_mono (wpAny_call (run_fnR (us := [.ref a, .int i t]) (vs := [.ref a, .int i]) F (hr.mono hk) hx I (.cons rfl (.cons ⟨t, rfl⟩ .nil)) q)) (fun w s' z => ?_) fun _ _ x => x
    obtain ⟨z', H', I', rz, qz⟩ := z
    exact SlX.cmpback (P := fun v s' => wpAny _ _ (pure v) _ _ s') rz (wpAny_pure ⟨z', H', I', rz, qz⟩)
/-- x += i of an instance without an in-place def -/
theorem iop_ownI (hc : PySem.W.selfFirst X.K C = true) (hm : PySem.W.plainMro X.K C = true) (hi : PySem.W.findIn X.K (.ref C) "__iadd__" = some none) (oi : OprI X.K C "add")
    (M : Met X.prog X.w X.K X.mg X.base k C "__add__" sp) (hr : Room j X.A) (hx : Passes (L2.CX X.prog X.w) X E) (hk : k ≤ j := by decide) : OpR X (inplaceOp .Add) (rBinI C sp E) := by
  obtain ⟨g, o, F⟩ := M.opr
  intro pins s σ H x y v u Q I rx ry h
  obtain ⟨a, dx, fs, i, rfl, rfl, ha, q⟩ := h
  cases (show v = Value.ref a from rx)
  obtain ⟨t, e⟩ := (show ∃ t, u = Value.int i t from ry)
  cases e
  obtain ⟨ox, od, J⟩ := ins_at I ha
  obtain ⟨rc, h1, h2⟩ := oi.rc
  obtain ⟨fo, h3⟩ := oi.fo
  obtain ⟨ro, h4⟩ := oi.ro
  refine PySem.W.hf_inplace I.kIn J hm hi PySem.W.hf_obj_iadd ?_
  refine PySem.W.hf_bin1T (T := "int") I.kIn J rfl hc o.at_ o.fn h1 h2 h3 h4 oi.sub ?_
  refine wpAny_mono (wpAny_call (run_fnR (us := [.ref a, .int i t]) (vs := [.ref a, .int i]) F (hr.mono hk) hx I (.cons rfl (.cons ⟨t, rfl⟩ .nil)) q)) (fun w s' z => ?_) fun _ _ x => x
  obtain ⟨z', H', I', rz, qz⟩ := z
  exact SlX.cmpback (P := fun v s' => ∃ w, some v = some w ∧ EP X pins σ Q w s') rz ⟨w, rfl, z', H', I', rz, qz⟩
end
end Hf

namespace Hf
open PySem PySem.Spec PyProof.Rows L2
/-! ### the bag of a law: a dict of four keys -/
abbrev kk (x : Str) : Key := Sum.inr x
def bagD (c : Addr) (a r s : Int) : List (Key × V) := [(kk "cells", .ref c), (kk "at", .int a), (kk "rest", .int r), (kk "state", .int s)]
theorem k_ca : ¬ (kk "cells") = kk "at" := by decide +kernel
theorem k_cr : ¬ (kk "cells") = kk "rest" := by decide +kernel
theorem k_cs : ¬ (kk "cells") = kk "state" := by decide +kernel
theorem k_ar : ¬ (kk "at") = kk "rest" := by decide +kernel
theorem k_as : ¬ (kk "at") = kk "state" := by decide +kernel
theorem k_rs : ¬ (kk "rest") = kk "state" := by decide +kernel
theorem k_ra : ¬ (kk "rest") = kk "at" := by decide +kernel
theorem k_sa : ¬ (kk "state") = kk "at" := by decide +kernel
theorem k_sr : ¬ (kk "state") = kk "rest" := by decide +kernel
section
variable {c : Addr} {a r s z : Int}
theorem bag_cells : valV (bagD c a r s) (kk "cells") = some (.ref c) := valV_pos rfl
theorem bag_at : valV (bagD c a r s) (kk "at") = some (.int a) := (valV_neg k_ca).trans (valV_pos rfl)
theorem bag_rest : valV (bagD c a r s) (kk "rest") = some (.int r) := (valV_neg k_cr).trans ((valV_neg k_ar).trans (valV_pos rfl))
theorem bag_state : valV (bagD c a r s) (kk "state") = some (.int s) := (valV_neg k_cs).trans ((valV_neg k_as).trans ((valV_neg k_rs).trans (valV_pos rfl)))
theorem put_in {kvs : List (Key × V)} {k : Key} {v w : V} (h : valV kvs k = some w) : putK kvs k v = kvs.map (fun kv => if kv.1 = k then (kv.1, v) else kv) := by
  unfold putK
  rw [valV_any, h]
  exact if_pos rfl
theorem put_at : putK (bagD c a r s) (kk "at") (.int z) = bagD c z r s := by
  rw [put_in bag_at]
  dsimp only [bagD, List.map]
  rw [if_neg k_ca, if_pos rfl, if_neg k_ra, if_neg k_sa]
theorem put_rest : putK (bagD c a r s) (kk "rest") (.int z) = bagD c a z s := by
  rw [put_in bag_rest]
  dsimp only [bagD, List.map]
  rw [if_neg k_cr, if_neg k_ar, if_pos rfl, if_neg k_sr]
theorem put_state : putK (bagD c a r s) (kk "state") (.int z) = bagD c a r z := by
  rw [put_in bag_state]
  dsimp only [bagD, List.map]
  rw [if_neg k_cs, if_neg k_as, if_neg k_rs, if_pos rfl]
end
theorem putK_new' {kvs : List (Key × V)} {k : Key} {v : V} (h : valV kvs k = none) : putK kvs k v = kvs ++ [(k, v)] := putK_new _ h
theorem bag_merge {c : Addr} {a r s : Int} : mergeK [] (bagD c a r s) = bagD c a r s := by
  show putK (putK (putK (putK [] (kk "cells") (.ref c)) (kk "at") (.int a)) (kk "rest") (.int r)) (kk "state") (.int s) = _
  rw [putK_new' (kvs := []) valV_nil]
  rw [List.nil_append, putK_new' (show valV [(kk "cells", V.ref c)] (kk "at") = none from (valV_neg k_ca).trans valV_nil)]
  rw [List.singleton_append, putK_new' (show valV [(kk "cells", V.ref c), (kk "at", .int a)] (kk "rest") = none from (valV_neg k_cr).trans ((valV_neg k_ar).trans valV_nil))]
  rw [List.cons_append, List.singleton_append, putK_new' (show valV [(kk "cells", V.ref c), (kk "at", .int a), (kk "rest", .int r)] (kk "state") = none from (valV_neg k_cs).trans ((valV_neg k_as).trans ((valV_neg k_rs).trans valV_nil)))]
  rfl
/-- a bag stands at b -/
def Bag (H : Hp) (b : Addr) : Prop := ∃ (c : Addr) (cs : List Int) (a r s : Int), H b = some (.dK (bagD c a r s)) ∧ H c = some (.lst (cs.map V.int)) ∧ cs.length ≤ 63 ∧ 0 ≤ a ∧ 0 ≤ r ∧ 0 ≤ s ∧ s < 2147483647
/-- all but the bag at b stays -/
def Keep (b : Addr) (H H' : Hp) : Prop := ∀ a o, H a = some o → a ≠ b → H' a = some o
theorem Keep.refl {b : Addr} {H : Hp} : Keep b H H := fun _ _ h _ => h
theorem Keep.trans {b : Addr} {H H1 H2 : Hp} (x : Keep b H H1) (y : Keep b H1 H2) : Keep b H H2 := fun a o h n => y a o (x a o h n) n
theorem Keep.of {b : Addr} {H H1 : Hp} (x : Same H H1) : Keep b H H1 := fun a o h _ => x a o h
theorem Keep.put {b : Addr} {H H1 : Hp} {o : HO} (x : Keep b H H1) : Keep b H (upd H1 b o) := fun a u h n => by rw [upd_ne n]; exact x a u h n
theorem Same.new {H : Hp} {p : Addr} {o : HO} (h : H p = none) : Same H (upd H p o) := fun a u e => by rw [upd_ne (ne_of_none e h)]; exact e
theorem Bag.same {b : Addr} {H H' : Hp} (h : Bag H b) (e : Same H H') : Bag H' b := by
  obtain ⟨c, cs, a, r, s, h1, h2, q⟩ := h
  exact ⟨c, cs, a, r, s, e _ _ h1, e _ _ h2, q⟩
theorem Bag.some {b : Addr} {H : Hp} (h : Bag H b) : ∃ o, H b = some o := by
  obtain ⟨c, cs, a, r, s, h1, _⟩ := h
  exact ⟨_, h1⟩
theorem Bag.ne {b p : Addr} {H : Hp} (h : Bag H b) (n : H p = none) : p ≠ b := by
  obtain ⟨o, e⟩ := h.some
  exact (ne_of_none e n).symm
/-- a draw: an int below the limit, the bag is another one, all else stays -/
def spDraw : Sp := fun vs H Q _ => ∃ (b : Addr) (n : Int), vs = [.ref b, .int n] ∧ Bag H b ∧ 0 < n ∧ n ≤ 10 ^ 40 ∧ ∀ (i : Int) (H' : Hp), 0 ≤ i → i < n → Bag H' b → Keep b H H' → Q (.int i) H'
/-- the bag is made of a list of at most 63 ints -/
def spBag (K : PySem.W.Frag) : Sp := fun vs H Q _ => ∃ (a : Addr) (ns : List Int), vs = [.ref a] ∧ SqL K H a (ns.map V.int) ∧ ns.length ≤ 63 ∧ ∀ (b : Addr) (H' : Hp), H b = none → Bag H' b → Same H H' → Q (.ref b) H'
end Hf

namespace Hf
open PySem PySem.Spec PyProof.Rows L2
/-! ### the reading of the two defs of a bag, of any constants -/
def rLen (K : PySem.W.Frag) : List V → Hp → VK → Prop := fun xs H Q => ∃ p ys, xs = [.ref p] ∧ (SqL K H p ys ∨ SqT K H p ys) ∧ Q (.int ys.length) H
def rAbs : List V → Hp → VK → Prop := fun xs H Q => ∃ i, xs = [.int i] ∧ Q (.int (if i < 0 then -i else i)) H
def rInt : List V → Hp → VK → Prop := fun xs H Q => (∃ i, xs = [.int i] ∧ Q (.int i) H) ∨ ∃ k, xs = [.bl k] ∧ Q (.int (if k then 1 else 0)) H
def rLst (K : PySem.W.Frag) : List V → Hp → VK → Prop := fun xs H Q => ∃ p ys, xs = [.ref p] ∧ (SqL K H p ys ∨ SqT K H p ys) ∧ ∀ l, H l = none → Q (.ref l) (upd H l (.lst ys))
abbrev rAd : R2 := rI0 fun i j => .int (i + j)
abbrev rSu : R2 := rI0 fun i j => .int (i - j)
abbrev rLt : R2 := rI0 fun i j => .bl (decide (i < j))
abbrev rLe : R2 := rI0 fun i j => .bl (decide (i ≤ j))
abbrev rGt : R2 := rI0 fun i j => .bl (decide (j < i))
abbrev rGe : R2 := rI0 fun i j => .bl (decide (j ≤ i))
abbrev rMo : R2 := rI (fun _ j => 0 < j) fun i j => .int (i % j)
abbrev rMu : R2 := rI CMulW fun i j => .int (i * j)
abbrev rDi : R2 := rI CDivW fun i j => .int (i / j)
abbrev rPo : R2 := rI CPow fun i j => .int (i ^ j.toNat)
abbrev bq (x : Str) : TE := tDGet (tVar 0) (tC (.str x))
def t_draw (K : PySem.W.Frag) (m1 m2 : Int) : TS :=
  tSeq (tWhile (tAnd (tTest (tOp rLt (bq "rest") (tC (.int 2)))) (tTest (tOp rLt (bq "at") (tCB (rLen K) (tCons (bq "cells") tNil)))))
    (tSeq (tAsg (tCB rAbs (tCons (tOp (rIxL K) (bq "cells") (bq "at")) tNil)) (gName 2))
    (tSeq (sDPut (tVar 0) (tC (.str "at")) (tOp rAd (bq "at") (tC (.int 1))))
    (tSeq (tIfS (tTest (tOp rLt (tVar 2) (tOp rPo (tC (.int 10)) (tC (.int 18)))))
      (tSeq (tAsg (tOp rMo (tCB rInt (tCons (tOp rAd (tOp rPo (tOp rAd (tVar 2) (tC (.int 3))) (tC (.int 3))) (tOp rMu (bq "state") (tOp rAd (bq "at") (tC (.int 1))))) tNil)) (tC (.int 2147483629))) (gName 3))
        (tRet (tOp rMo (tVar 3) (tVar 1)))) tNext)
    (sDPut (tVar 0) (tC (.str "rest")) (tVar 2))))))
  (tSeq (tIfS (tTest (tOp rGe (bq "rest") (tC (.int 2))))
      (tSeq (tAsg (tOp rMo (tCB rInt (tCons (bq "rest") tNil)) (tVar 1)) (gName 4))
      (tSeq (sDPut (tVar 0) (tC (.str "rest")) (tOp rDi (bq "rest") (tVar 1))) (tRet (tVar 4)))) tNext)
  (tSeq (sDPut (tVar 0) (tC (.str "state")) (tOp rMo (tCB rInt (tCons (tOp rAd (tOp rMu (bq "state") (tC (.int m1))) (tC (.int m2))) tNil)) (tC (.int 2147483647))))
    (tRet (tOp rMo (tOp rMo (tCB rInt (tCons (tOp rPo (bq "state") (tC (.int 5))) tNil)) (tC (.int 2147483629))) (tVar 1)))))
section
variable {K : PySem.W.Frag} {H : Hp} {b c : Addr} {a r s : Int}
theorem bg_rest (e : H b = some (.dK (bagD c a r s))) : DGet H b (.str "rest") (some (.int r)) := by
  have := DGet.k (k := kk "rest") e
  rw [bag_rest] at this
  exact this
theorem bg_at (e : H b = some (.dK (bagD c a r s))) : DGet H b (.str "at") (some (.int a)) := by
  have := DGet.k (k := kk "at") e
  rw [bag_at] at this
  exact this
theorem bg_state (e : H b = some (.dK (bagD c a r s))) : DGet H b (.str "state") (some (.int s)) := by
  have := DGet.k (k := kk "state") e
  rw [bag_state] at this
  exact this
theorem bg_cells (e : H b = some (.dK (bagD c a r s))) : DGet H b (.str "cells") (some (.ref c)) := by
  have := DGet.k (k := kk "cells") e
  rw [bag_cells] at this
  exact this
theorem bag_len : (bagD c a r s).length < sizeLine := small1000 (by show 4 ≤ 1000; decide)
theorem bp_at {z : Int} (e : H b = some (.dK (bagD c a r s))) : DPut H b (.str "at") (.int z) (upd H b (.dK (bagD c z r s))) := by
  have := DPut.k (k := kk "at") (v := .int z) e bag_len
  rw [put_at] at this
  exact this
theorem bp_rest {z : Int} (e : H b = some (.dK (bagD c a r s))) : DPut H b (.str "rest") (.int z) (upd H b (.dK (bagD c a z s))) := by
  have := DPut.k (k := kk "rest") (v := .int z) e bag_len
  rw [put_rest] at this
  exact this
theorem bp_state {z : Int} (e : H b = some (.dK (bagD c a r s))) : DPut H b (.str "state") (.int z) (upd H b (.dK (bagD c a r z))) := by
  have := DPut.k (k := kk "state") (v := .int z) e bag_len
  rw [put_state] at this
  exact this
end
theorem p1018 : ((10 : Int) ^ (18 : Int).toNat) = 1000000000000000000 := by decide
theorem nat_lt_64 {i : Int} (h0 : 0 ≤ i) (h : i < 18446744073709551616) : i.natAbs < 2 ^ 64 := by
  rw [show (2 : Nat) ^ 64 = 18446744073709551616 from rfl]
  omega
theorem lim_div {n : Int} (h0 : 0 < n) (h1 : n ≤ 10 ^ 40) (i : Int) : CDivW i n := by
  refine wide_div (b := 200) h0 ?_ (by decide) (by decide)
  have h2 : (10 : Int) ^ 40 = 10000000000000000000000000000000000000000 := by decide
  have h3 : (2 : Nat) ^ 200 = 1606938044258990275541962092341162602522202993782792835301376 := by decide
  rw [h2] at h1
  rw [h3]
  omega
theorem small_mul {i j : Int} (hi : i.natAbs < 2 ^ 64) (hj : j.natAbs < 2 ^ 64) : CMulW i j := wide_mul hi hj (by decide) (by decide) (by decide)
theorem pure_draw (K : PySem.W.Frag) {m1 m2 : Int} (hm : 0 ≤ m1) (hm1 : m1 < 1000000) (hm2 : 0 ≤ m2) (vs : List V) (H : Hp) (Q : VK) (E : XK) (h : spDraw vs H Q E) {N : List Str} (hN : N.length = 5) : t_draw K m1 m2 { nx := fun _ H' => Q .non H', rt := Q } (L2.start N vs) H := by
  obtain ⟨b, n, rfl, B, h0, h1, k⟩ := h
  have hst : L2.start N [.ref b, .int n] = [some (.ref b), some (.int n), none, none, none] := by
    unfold L2.start
    rw [hN]
    rfl
  rw [hst]
  clear hst hN
  refine ⟨fun m σ H' => ∃ (c : Addr) (cs : List Int) (a r s : Int) (v : Option V), m = 64 - a.toNat ∧ σ = [some (.ref b), some (.int n), v, none, none] ∧ H' b = some (.dK (bagD c a r s)) ∧ H' c = some (.lst (cs.map V.int)) ∧ cs.length ≤ 63 ∧ 0 ≤ a ∧ 0 ≤ r ∧ 0 ≤ s ∧ s < 2147483647 ∧ Keep b H H', ?_, ?_⟩
  · obtain ⟨c, cs, a, r, s, e1, e2, l, a0, r0, s0, s1⟩ := B
    exact ⟨_, c, cs, a, r, s, none, rfl, rfl, e1, e2, l, a0, r0, s0, s1, Keep.refl⟩
  · rintro m σ H' ⟨c, cs, a, r, s, v, rfl, rfl, e1, e2, l, a0, r0, s0, s1, kp⟩
    have hcb : c ≠ b := ne_of e2 e1 (by intro z; cases z)
    have hSq : SqL K H' c (cs.map V.int) := SqL.of e2
    -- behind the loop
    have fin : tSeq (tIfS (tTest (tOp rGe (bq "rest") (tC (.int 2))))
        (tSeq (tAsg (tOp rMo (tCB rInt (tCons (bq "rest") tNil)) (tVar 1)) (gName 4))
        (tSeq (sDPut (tVar 0) (tC (.str "rest")) (tOp rDi (bq "rest") (tVar 1))) (tRet (tVar 4)))) tNext)
        (tSeq (sDPut (tVar 0) (tC (.str "state")) (tOp rMo (tCB rInt (tCons (tOp rAd (tOp rMu (bq "state") (tC (.int m1))) (tC (.int m2))) tNil)) (tC (.int 2147483647))))
        (tRet (tOp rMo (tOp rMo (tCB rInt (tCons (tOp rPo (bq "state") (tC (.int 5))) tNil)) (tC (.int 2147483629))) (tVar 1)))) { nx := fun _ H' => Q .non H', rt := Q } [some (.ref b), some (.int n), v, none, none] H' := by
      refine ⟨_, rfl, b, _, rfl, bg_rest e1, _, _, rfl, rfl, _, rfl, ?_⟩
      refine ite_split (fun _ => ?_) (fun _ => ?_)
      · refine ⟨_, rfl, b, _, rfl, bg_rest e1, .inl ⟨_, rfl, _, rfl, _, _, rfl, rfl, h0, ?_⟩⟩
        refine ⟨_, rfl, b, _, rfl, bg_rest e1, _, rfl, _, _, rfl, rfl, lim_div h0 h1 _, _, rfl, b, _, rfl, bp_rest e1, ?_⟩
        refine ⟨_, rfl, ?_⟩
        refine k _ _ (Int.emod_nonneg _ (by omega)) (Int.emod_lt_of_pos _ h0) ⟨c, cs, a, _, s, upd_same, by rw [upd_ne hcb]; exact e2, l, a0, Int.ediv_nonneg r0 (by omega), s0, s1⟩ kp.put
      · refine ⟨_, rfl, b, _, rfl, bg_state e1, _, _, rfl, rfl, small_mul (nat_lt_64 s0 (by omega)) (nat_lt_64 hm (by omega)), _, _, rfl, rfl, .inl ⟨_, rfl, _, _, rfl, rfl, (by show (0 : Int) < 2147483647; decide), ?_⟩⟩
        refine ⟨_, rfl, b, _, rfl, bp_state e1, ?_⟩
        have p0 : 0 ≤ (s * m1 + m2) % 2147483647 := Int.emod_nonneg _ (by decide)
        have p1 : (s * m1 + m2) % 2147483647 < 2147483647 := Int.emod_lt_of_pos _ (by decide)
        refine ⟨_, rfl, b, _, rfl, bg_state upd_same, _, _, rfl, rfl, ⟨by decide, by decide, nat_lt_64 p0 (by omega)⟩, .inl ⟨_, rfl, _, _, rfl, rfl, (by show (0 : Int) < 2147483629; decide), _, rfl, _, _, rfl, rfl, h0, ?_⟩⟩
        refine k _ _ (Int.emod_nonneg _ (by omega)) (Int.emod_lt_of_pos _ h0) ⟨c, cs, a, r, _, upd_same, by rw [upd_ne hcb]; exact e2, l, a0, r0, p0, p1⟩ kp.put
    -- the test
    refine ⟨_, rfl, b, _, rfl, bg_rest e1, _, _, rfl, rfl, _, rfl, ?_⟩
    refine ite_split (fun _ => ?_) (fun _ => iteF fin)
    refine ⟨_, rfl, b, _, rfl, bg_at e1, _, rfl, b, _, rfl, bg_cells e1, c, _, rfl, .inl hSq, _, _, rfl, rfl, _, rfl, ?_⟩
    refine ite_split (fun hlt => ?_) (fun _ => fin)
    have hlt : a < ((cs.map V.int).length : Int) := of_decide_eq_true hlt
    rw [List.length_map] at hlt
    obtain ⟨z, hz⟩ : ∃ z, cs[a.toNat]? = some z := ⟨cs[a.toNat]'(by omega), List.getElem?_eq_getElem (by omega)⟩
    have hix : atI (cs.map V.int) a = some (.int z) := by
      have e := atI_nat (xs := cs.map V.int) (j := a.toNat) (v := .int z) (by rw [List.getElem?_map, hz]; rfl)
      rw [Int.toNat_of_nonneg a0] at e
      exact e
    refine ⟨fun σ' H2 => ∃ m', m' < 64 - a.toNat ∧ ∃ (c : Addr) (cs : List Int) (a r s : Int) (v : Option V), m' = 64 - a.toNat ∧ σ' = [some (.ref b), some (.int n), v, none, none] ∧ H2 b = some (.dK (bagD c a r s)) ∧ H2 c = some (.lst (cs.map V.int)) ∧ cs.length ≤ 63 ∧ 0 ≤ a ∧ 0 ≤ r ∧ 0 ≤ s ∧ s < 2147483647 ∧ Keep b H H2, fun _ _ z => z, ?_⟩
    refine ⟨_, rfl, b, _, rfl, bg_cells e1, _, rfl, b, _, rfl, bg_at e1, c, _, _, _, rfl, rfl, hSq, hix, _, rfl, ?_⟩
    refine ⟨_, rfl, b, _, rfl, bg_at e1, _, _, rfl, rfl, _, rfl, b, _, rfl, bp_at e1, ?_⟩
    have hz0 : 0 ≤ (if z < 0 then -z else z) := by split <;> omega
    have e2' : ∀ o, upd H' b o c = some (.lst (cs.map V.int)) := fun o => by rw [upd_ne hcb]; exact e2
    refine ⟨_, rfl, _, _, rfl, rfl, ⟨by decide, by decide, by decide⟩, _, _, rfl, rfl, _, rfl, ?_⟩
    refine ite_split (fun hs => ?_) (fun _ => ?_)
    · have hs : (if z < 0 then -z else z) < (10 : Int) ^ (18 : Int).toNat := of_decide_eq_true hs
      rw [p1018] at hs
      refine ⟨_, rfl, _, _, rfl, rfl, _, _, rfl, rfl, ⟨by decide, by decide, nat_lt_64 (by omega) (by omega)⟩, _, rfl, b, _, rfl, bg_state upd_same, _, rfl, b, _, rfl, bg_at upd_same, _, _, rfl, rfl, _, _, rfl, rfl, small_mul (nat_lt_64 s0 (by omega)) (nat_lt_64 (by omega) (by omega)), _, _, rfl, rfl,
        .inl ⟨_, rfl, _, _, rfl, rfl, (by show (0 : Int) < 2147483629; decide), ?_⟩⟩
      refine ⟨_, rfl, _, rfl, _, _, rfl, rfl, h0, ?_⟩
      exact k _ _ (Int.emod_nonneg _ (by omega)) (Int.emod_lt_of_pos _ h0) ⟨c, cs, a + 1, r, s, upd_same, e2' _, l, by omega, r0, s0, s1⟩ kp.put
    · refine ⟨_, rfl, _, rfl, b, _, rfl, bp_rest upd_same, ?_⟩
      refine ⟨_, ?_, c, cs, a + 1, _, s, _, rfl, rfl, upd_same, by rw [upd_ne hcb]; exact e2' _, l, by omega, hz0, s0, s1, kp.put.put⟩
      omega
end Hf

namespace Hf
open PySem PySem.Spec PyProof.Rows L2
def t_bag (K : PySem.W.Frag) (s0 m1 m2 : Int) : TS :=
  tSeq (tAsg (tC (.int s0)) (gName 1))
  (tSeq (tFor (iList K (tSl (rSlL K) (tVar 0) tNoPart (tPart (tC (.int 63))))) (gName 2)
    (tAsg (tOp rMo (tCB rInt (tCons (tOp rAd (tOp rAd (tOp rMu (tVar 1) (tC (.int m1))) (tOp rMo (tCB rAbs (tCons (tVar 2) tNil)) (tC (.int 2147483629)))) (tC (.int m2))) tNil)) (tC (.int 2147483647))) (gName 1)))
  (tRet (tDisp [(tC (.str "cells"), tCB (rLst K) (tCons (tSl (rSlL K) (tVar 0) tNoPart (tPart (tC (.int 63)))) tNil)), (tC (.str "at"), tC (.int 0)), (tC (.str "rest"), tC (.int 0)), (tC (.str "state"), tVar 1)])))
theorem cut63 (ns : List Int) (h : ns.length ≤ 63) : ∃ ms : List Int, cutV (ns.map V.int) none (some 63) = ms.map V.int ∧ ms.length ≤ 63 := by
  unfold cutV
  rw [← List.map_drop, ← List.map_take]
  refine ⟨_, rfl, ?_⟩
  rw [List.length_take, List.length_drop]
  omega
theorem pure_bag (K : PySem.W.Frag) {s0 m1 m2 : Int} (hs : 0 ≤ s0) (hs1 : s0 < 2147483647) (hm : 0 ≤ m1) (hm1 : m1 < 1000000) (hm2 : 0 ≤ m2) (vs : List V) (H : Hp) (Q : VK) (E : XK) (h : spBag K vs H Q E) {N : List Str} (hN : N.length = 3) : t_bag K s0 m1 m2 { nx := fun _ H' => Q .non H', rt := Q } (L2.start N vs) H := by
  obtain ⟨a, ns, rfl, hS, hl, k⟩ := h
  have hst : L2.start N [.ref a] = [some (.ref a), none, none] := by
    unfold L2.start
    rw [hN]
    rfl
  rw [hst]
  clear hst hN
  obtain ⟨ms, hcut, hml⟩ := cut63 ns hl
  refine ⟨_, rfl, 63, rfl, a, _, rfl, hS, fun l hln => ?_⟩
  rw [hcut]
  have s1 : Same H (upd H l (.lst (ms.map V.int))) := Same.new hln
  refine ⟨l, rfl, ⟨_, SqL.of upd_same⟩, for_list (K := K) (a := l) (xs := ms.map V.int) (fun i σ H' => ∃ (s : Int) (v : Option V), σ = [some (.ref a), some (.int s), v] ∧ 0 ≤ s ∧ s < 2147483647 ∧ Same H H' ∧ H' l = some (.lst (ms.map V.int)))
    ⟨s0, none, rfl, hs, hs1, s1, upd_same⟩ (fun i σ H' _ ⟨_, _, _, _, _, _, e⟩ => SqL.of e) ?_ ?_⟩
  · rintro i y σ H' hi ⟨s, v, rfl, a0, a1, s2, e⟩
    obtain ⟨z, rfl⟩ : ∃ z, y = V.int z := by
      rw [List.getElem?_map] at hi
      cases e : ms[i]? with
      | none => rw [e] at hi; cases hi
      | some z => rw [e] at hi; exact ⟨z, (Option.some.inj hi).symm⟩
    refine ⟨_, rfl, _, _, rfl, rfl, small_mul (nat_lt_64 a0 (by omega)) (nat_lt_64 hm (by omega)), _, rfl, _, rfl, _, _, rfl, rfl, (by show (0 : Int) < 2147483629; decide), _, _, rfl, rfl, _, _, rfl, rfl, .inl ⟨_, rfl, _, _, rfl, rfl, (by show (0 : Int) < 2147483647; decide), ?_⟩⟩
    exact ⟨_, _, rfl, Int.emod_nonneg _ (by decide), Int.emod_lt_of_pos _ (by decide), s2, e⟩
  · rintro σ H' ⟨s, v, rfl, a0, a1, s2, e⟩
    intro p hp
    refine ⟨_, rfl, 63, rfl, a, _, rfl, (s2.trans (Same.new hp)).seq hS, fun c hc => ?_⟩
    rw [hcut]
    refine ⟨c, _, rfl, .inl (SqL.of upd_same), fun d hd => ?_⟩
    have npc : p ≠ c := ne_of_none upd_same hc
    have npd : p ≠ d := ne_of_none (show upd (upd H' p (.dK [])) c _ p = some (.dK []) by rw [upd_ne npc, upd_same]) hd
    refine ⟨_, rfl, ?_⟩
    refine ⟨by rw [upd_ne npd, upd_ne npc, upd_same], bagD d 0 0 s, rfl, (by show 4 ≤ 15; decide), ?_⟩
    rw [bag_merge]
    have f1 : Same H (upd H' p (.dK [])) := s2.trans (Same.new hp)
    have f2 := (f1.trans (Same.new (o := .lst (ms.map V.int)) hc)).trans (Same.new (o := .lst (ms.map V.int)) hd)
    refine k p _ (s2.free hp) ⟨d, ms, 0, 0, s, upd_same, by rw [upd_ne npd.symm, upd_same], hml, Int.le_refl _, Int.le_refl _, a0, a1⟩ fun b o e => ?_
    rw [upd_ne (ne_of_none e (s2.free hp))]
    exact f2 b o e
end Hf
namespace Hf
open PySem PySem.Spec PyProof.Rows L2
/-- a def of the module without defaults as it stands behind the top -/
def DefAt (K : PySem.W.Frag) (mg : Str → Option Value) (x : Str) (st : Stmt) (ps : List Str) : Prop := ∃ (f : Addr) (fd : FuncData), mg x = some (.ref f) ∧ Fun K x x st f fd ∧ Binds K fd ps []
/-- a def of the class at C -/
def MetAt (K : PySem.W.Frag) (C : Addr) (m qual : Str) (st : Stmt) (ps : List Str) : Prop := ∃ (f : Addr) (fd : FuncData), Meth K C m f ∧ Fun K m qual st f fd ∧ Binds K fd ps []
end Hf
namespace Hf
open PySem PySem.Spec PyProof.Rows L2
section
variable {P : Program} {w : World} {K : PySem.W.Frag} {mg : Str → Option Value} {base : Heap}
/-- a def with defaults whose body lets nothing out, every parameter given -/
theorem fnRD {x qual : Str} {params : Arguments} {body : List Stmt} {scope : Scope} {dvs : List V} {kws : List (Str × V)} {f : Addr} {fd : FuncData} {N ps : List Str} {k : Nat} {sp : Sp} (F : FunD K x qual params body scope dvs kws f fd) (b : Binds K fd ps []) (S : FnScope N ps scope) (len : ∀ vs H Q E, sp vs H Q E → vs.length = ps.length)
    (hbody : ∀ (cdv : Value) (A : Around) (outer : List Env) (s : Shared) (H : Hp) (vs : List V) (Q : VK) (E : XK), Room k (A.deeper (envOfC qual scope s.heap.objs.size f cdv)) → sp vs H Q E →
      ∃ t, PSs (cxOf (L2.CX P w) P w K mg base N qual scope f cdv A outer s H E).nox body t ∧ t { nx := fun _ H' => Q .non H', rt := Q } (L2.start N vs) H) : FnR P w K mg base (L2.CX P w) (k + 1) f sp := by
  have G := F.ok (CX := L2.CX P w) (P := P) (w := w) (mg := mg) (base := base) S len fun cdv A outer s H vs Q E hr h => let ⟨t, a, b⟩ := hbody cdv A outer s H vs Q E hr h; ⟨t, a.nox, b⟩
  exact (G.raw b .nil).imp fun vs H Q E h => by rw [List.append_nil]; exact h
end
end Hf
namespace Hf
open PySem PySem.Spec PyProof.Rows L2
section
variable {X : Cx} {pos : Pos}
theorem pe_tInt (hm : X.mg "int" = none) (hg : Gl X "int" := by rfl) : PE X (.Name "int" pos) (tC (.ty "int")) := pe_bltn (v := .ty "int") (u := .type "int") hg hm (by decide +kernel) rfl
theorem pe_tBool (hm : X.mg "bool" = none) (hg : Gl X "bool" := by rfl) : PE X (.Name "bool" pos) (tC (.ty "bool")) := pe_bltn (v := .ty "bool") (u := .type "bool") hg hm (by decide +kernel) rfl
theorem pe_tStr (hm : X.mg "str" = none) (hg : Gl X "str" := by rfl) : PE X (.Name "str" pos) (tC (.ty "str")) := pe_bltn (v := .ty "str") (u := .type "str") hg hm (by decide +kernel) rfl
end
end Hf

namespace Hf
open PySem PySem.Spec PyProof.Rows L2
/-! ### whole numbers -/
/-- is_whole(value) -/
def spWhole (K : PySem.W.Frag) : Sp := fun vs H Q _ => ∃ (v : V) (t : Value) (b1 b2 : Bool), vs = [v] ∧ TyX K H v t ∧ PySem.W.kitOne K t (.type "int") = some b1 ∧ PySem.W.kitOne K t (.type "bool") = some b2 ∧ Q (.bl (b1 && !b2)) H
section
variable {K : PySem.W.Frag} {H : Hp} {Q : VK} {E : XK}
theorem wh_int {i : Int} (q : Q (.bl true) H) : spWhole K [.int i] H Q E := ⟨_, _, true, false, rfl, .base (.int i), by kernel_rfl, by kernel_rfl, q⟩
theorem wh_non (q : Q (.bl false) H) : spWhole K [.non] H Q E := ⟨_, _, false, false, rfl, .base .non, by kernel_rfl, by kernel_rfl, q⟩
theorem wh_bl {b : Bool} (q : Q (.bl false) H) : spWhole K [.bl b] H Q E := ⟨_, _, true, true, rfl, .base (.bl b), by kernel_rfl, by kernel_rfl, q⟩
theorem wh_str {x : Str} (q : Q (.bl false) H) : spWhole K [.str x] H Q E := ⟨_, _, false, false, rfl, .base (.str x), by kernel_rfl, by kernel_rfl, q⟩
theorem wh_lst {a : Addr} {xs : List V} (h : H a = some (.lst xs)) (q : Q (.bl false) H) : spWhole K [.ref a] H Q E := ⟨_, _, false, false, rfl, .base (.lst h), by kernel_rfl, by kernel_rfl, q⟩
theorem wh_tup {a : Addr} {xs : List V} (h : H a = some (.tup xs)) (q : Q (.bl false) H) : spWhole K [.ref a] H Q E := ⟨_, _, false, false, rfl, .base (.tup h), by kernel_rfl, by kernel_rfl, q⟩
theorem wh_dict {a : Addr} {kvs : List (Key × V)} (h : H a = some (.dK kvs)) (q : Q (.bl false) H) : spWhole K [.ref a] H Q E := ⟨_, _, false, false, rfl, .base (.dK h), by kernel_rfl, by kernel_rfl, q⟩
end
/-! ### places -/
/-- not above 10 ^ 60 -/
abbrev Sm (x : Int) : Prop := -1000000000000000000000000000000000000000000000000000000000000 ≤ x ∧ x ≤ 1000000000000000000000000000000000000000000000000000000000000
theorem Sm.nat {x : Int} (h : Sm x) : x.natAbs < 2 ^ 200 := by
  rw [show (2 : Nat) ^ 200 = 1606938044258990275541962092341162602522202993782792835301376 from by decide]
  have := h.1
  have := h.2
  omega
theorem Sm.mul {x y : Int} (h : Sm x) (h' : Sm y) : CMulW x y := wide_mul h.nat h'.nat (by decide) (by decide) (by decide)
def plF (s o d : Int) : List (Str × V) := [("slope", .int s), ("offset", .int o), ("odd", .int d)]
def PlaceAt (C : Addr) (H : Hp) (p : Addr) (s o d : Int) : Prop := ∃ dx, H p = some (.ins C dx (plF s o d))
theorem PlaceAt.same {C : Addr} {H H' : Hp} {p : Addr} {s o d : Int} (h : PlaceAt C H p s o d) (e : Same H H') : PlaceAt C H' p s o d := let ⟨dx, h⟩ := h; ⟨dx, e _ _ h⟩
theorem PlaceAt.keep {C b : Addr} {H H' : Hp} {p : Addr} {s o d : Int} (h : PlaceAt C H p s o d) (e : Keep b H H') (n : p ≠ b) : PlaceAt C H' p s o d := let ⟨dx, h⟩ := h; ⟨dx, e _ _ h n⟩
theorem PlaceAt.cast {C : Addr} {H : Hp} {p : Addr} {s o d s' o' d' : Int} (h : PlaceAt C H p s o d) (e1 : s = s') (e2 : o = o') (e3 : d = d') : PlaceAt C H p s' o' d' := by
  subst e1 e2 e3
  exact h
theorem f_so : ¬ ("slope" : Str) = "offset" := by decide +kernel
theorem f_sd : ¬ ("slope" : Str) = "odd" := by decide +kernel
theorem f_od : ¬ ("offset" : Str) = "odd" := by decide +kernel
theorem lk_hit {f : Str} {v : V} {r : List (Str × V)} : List.lookup f ((f, v) :: r) = some v := by simp [List.lookup]
theorem lk_miss {f g : Str} {v : V} {r : List (Str × V)} (h : ¬ g = f) : List.lookup f ((g, v) :: r) = List.lookup f r := by
  have h' : (f == g) = false := by simpa using fun e => h e.symm
  simp [List.lookup, h']
theorem lk_nil {f : Str} : List.lookup f ([] : List (Str × V)) = none := rfl
theorem pl_slope {s o d : Int} : List.lookup ("slope" : Str) (plF s o d) = some (.int s) := lk_hit
theorem pl_offset {s o d : Int} : List.lookup ("offset" : Str) (plF s o d) = some (.int o) := (lk_miss f_so).trans lk_hit
theorem pl_odd {s o d : Int} : List.lookup ("odd" : Str) (plF s o d) = some (.int d) := (lk_miss f_sd).trans ((lk_miss f_od).trans lk_hit)
theorem pl_no {s o d : Int} {m : Str} (h1 : ¬ ("slope" : Str) = m) (h2 : ¬ ("offset" : Str) = m) (h3 : ¬ ("odd" : Str) = m) : List.lookup m (plF s o d) = none := (lk_miss h1).trans ((lk_miss h2).trans ((lk_miss h3).trans lk_nil))
theorem pf_nil {f : Str} {v : V} : putF f v [] = [(f, v)] := rfl
theorem pf_miss {f g : Str} {v x : V} {r : List (Str × V)} (h : ¬ g = f) : putF f v ((g, x) :: r) = (g, x) :: putF f v r := if_neg h
theorem pl_make {s o d : Int} : putF "odd" (.int d) (putF "offset" (.int o) (putF "slope" (.int s) [])) = plF s o d := by
  rw [pf_nil, pf_miss f_so, pf_nil, pf_miss f_sd, pf_miss f_od, pf_nil]
  rfl
/-- what the written part says of Place, at C -/
structure PlC (K : PySem.W.Frag) (mg : Str → Option Value) (C : Addr) : Prop where
  cl : Cls K C
  n1 : NoAttr K C "slope"
  n2 : NoAttr K C "offset"
  n3 : NoAttr K C "odd"
  g : mg "Place" = some (.ref C)
  sf : PySem.W.selfFirst K C = true
  pm : PySem.W.plainMro K C = true
  ne : NeC K C
  ha : PySem.W.findIn K (.ref C) "__class__" = some (some (.builtin "object.__class__"))
  hn : PySem.W.specialIn K (.builtin "object.__class__") "__get__" = some (some (.builtin "getset_descriptor.__get__"))
  tk : PySem.W.takesIn K (.builtin "object.__class__") = some true
  mo : PySem.W.mroIn K C (.type "object") = some true
  kI : PySem.W.kitOne K (.type "int") (.ref C) = some false
  sI : PySem.W.subIn K (.ref C) (.type "int") = some false
  iA : OprI K C "add"
  iS : OprI K C "sub"
  hi : PySem.W.findIn K (.ref C) "__iadd__" = some none
theorem PlC.ty {K : PySem.W.Frag} {mg : Str → Option Value} {C : Addr} (T : PlC K mg C) {H : Hp} {p dx : Addr} {fs : List (Str × V)} (h : H p = some (.ins C dx fs)) : TyX K H (.ref p) (.ref C) := .base (.ins h T.cl T.ha T.hn T.tk T.mo)
theorem kit_self {K : PySem.W.Frag} {C : Addr} : PySem.W.kitOne K (.ref C) (.ref C) = some true := by
  unfold PySem.W.kitOne
  simp
/-- value_at(slope, offset, odd, size) -/
def spVal : Sp := fun vs H Q _ => ∃ s o d n : Int, vs = [.int s, .int o, .int d, .int n] ∧ Sm s ∧ Sm d ∧ Sm n ∧ Q (.int (s * (n / 2) + o + d * (n % 2))) H
/-- Place(slope, offset, odd) by its __init__ -/
def spPlI (C : Addr) : Sp := fun vs H Q _ => ∃ (p dx : Addr) (s o d : Int), vs = [.ref p, .int s, .int o, .int d] ∧ H p = some (.ins C dx []) ∧ ∀ H', H' p = some (.ins C dx (plF s o d)) → Keep p H H' → Q .non H'
/-- a new place of these three is handed back -/
def NewPl (C : Addr) (H : Hp) (s o d : Int) (Q : VK) : Prop := ∀ (p : Addr) (H' : Hp), H p = none → PlaceAt C H' p s o d → Same H H' → Q (.ref p) H'
/-- C(..) is made: what is asked of its __init__ -/
def MakeK (C : Addr) (sp : Sp) (E : XK) (Q : VK) : List V → Hp → Prop := fun vs H1 => ∀ x dx, H1 x = none → H1 dx = none → dx ≠ x → sp (.ref x :: vs) (upd (upd H1 dx (.own x)) x (.ins C dx [])) (fun v H2 => v = .non ∧ Q (.ref x) H2) E
theorem use_place {C : Addr} {H : Hp} {s o d : Int} {Q : VK} {E : XK} (k : NewPl C H s o d Q) : MakeK C (spPlI C) E Q [.int s, .int o, .int d] H := by
  intro x dx hx hdx hne
  refine ⟨x, dx, s, o, d, rfl, upd_same, fun H' hp kp => ⟨rfl, k x H' hx ⟨dx, hp⟩ fun b u e => ?_⟩⟩
  refine kp b u ?_ (ne_of_none e hx)
  rw [upd_ne (ne_of_none e hx), upd_ne (ne_of_none e hdx)]
  exact e
def spPlAdd (C : Addr) : Sp := fun vs H Q _ => ∃ (p : Addr) (s o d : Int), PlaceAt C H p s o d ∧ ((∃ (q : Addr) (s' o' d' : Int), vs = [.ref p, .ref q] ∧ PlaceAt C H q s' o' d' ∧ NewPl C H (s + s') (o + o') (d + d') Q) ∨ ∃ k : Int, vs = [.ref p, .int k] ∧ NewPl C H s (o + k) d Q)
def spPlSub (C : Addr) : Sp := fun vs H Q _ => ∃ (p : Addr) (s o d : Int), PlaceAt C H p s o d ∧ ((∃ (q : Addr) (s' o' d' : Int), vs = [.ref p, .ref q] ∧ PlaceAt C H q s' o' d' ∧ NewPl C H (s - s') (o - o') (d - d') Q) ∨ ∃ k : Int, vs = [.ref p, .int k] ∧ NewPl C H s (o - k) d Q)
def spPlInv (C : Addr) : Sp := fun vs H Q _ => ∃ (p : Addr) (s o d : Int), vs = [.ref p] ∧ PlaceAt C H p s o d ∧ NewPl C H (2 - s) (0 - o) (1 - d) Q
def spPlEq (C : Addr) : Sp := fun vs H Q _ => ∃ (p q : Addr) (s o d s' o' d' : Int), vs = [.ref p, .ref q] ∧ PlaceAt C H p s o d ∧ PlaceAt C H q s' o' d' ∧ Q (.bl (decide (s = s') && decide (o = o') && decide (d = d'))) H
def spPlAt (C : Addr) : Sp := fun vs H Q _ => ∃ (p : Addr) (s o d n : Int), vs = [.ref p, .int n] ∧ PlaceAt C H p s o d ∧ Sm s ∧ Sm d ∧ Sm n ∧ 1 ≤ n ∧ Q (.int (s * (n / 2) + o + d * (n % 2))) H
/-- from_left(k), from_right(k), from_middle(k) -/
def spFrom (C : Addr) (g : Int → Int × Int × Int) : Sp := fun vs H Q _ => ∃ k : Int, vs = [.int k] ∧ NewPl C H (g k).1 (g k).2.1 (g k).2.2 Q
/-- need_offset(k) -/
def spNeed : Sp := fun vs H Q _ => ∃ k : Int, vs = [.int k] ∧ Q .non H
end Hf

namespace Hf
open PySem PySem.Spec PyProof.Rows L2
section
variable {K : PySem.W.Frag} {X : Cx} {σ : L2.St} {H : Hp} {Q : VK} {i : Nat} {v x y : V} {ta tb te tf tv : TE} {r : R2} {tt tu : TT} {t u : TA} {s1 s2 tb1 : TS} {D : Ends} {g : TG} {gs : TGs} {QA : List V → Hp → Prop} {QB : Bool → Hp → Prop} {sp : Sp} {E : XK} {C a p dx : Addr} {m f : Str} {fs : List (Str × V)} {QG : L2.St → Hp → Prop}
theorem rd_cl (q : t σ H fun vs H1 => sp vs H1 Q E) : tCl sp E t σ H Q := q
theorem rd_methR (q : ta σ H fun x H1 => ∃ a dx fs, x = .ref a ∧ H1 a = some (.ins C dx fs) ∧ fs.lookup m = none ∧ t σ H1 fun vs H2 => sp (x :: vs) H2 Q E) : tMethR C m sp E ta t σ H Q := q
theorem rd_makeR (q : t σ H (MakeK C sp E Q)) : StX.tMakeR C sp E t σ H Q := q
theorem rd_callO (q : tf σ H fun y H1 => ∃ a, y = V.ref a ∧ t σ H1 fun vs H2 => (∃ dx fs, H2 a = some (.ins C dx fs)) ∧ sp (V.ref a :: vs) H2 Q E) : tCallI C sp E tf t σ H Q := q
theorem rd_fld (q : ta σ H fun x H1 => ∃ a C dx fs v, x = .ref a ∧ H1 a = some (.ins C dx fs) ∧ Cls K C ∧ NoAttr K C f ∧ fs.lookup f = some v ∧ Q v H1) : tFld K ta f σ H Q := q
theorem rd_sfld (q : tv σ H fun y H1 => ta σ H1 fun x H2 => ∃ a C dx fs, x = .ref a ∧ H2 a = some (.ins C dx fs) ∧ Cls K C ∧ NoAttr K C f ∧ fs.length < 1000 ∧ D.nx σ (upd H2 a (.ins C dx (putF f y fs)))) : sFld K ta tv f D σ H := q
theorem rd_gnil (q : QG σ H) : gNil [] σ H QG := ⟨rfl, q⟩
theorem rd_gcons {vs : List V} (q : g v σ H fun σ' H' => gs vs σ' H' QG) : gCons g gs (v :: vs) σ H QG := ⟨v, vs, rfl, q⟩
theorem rd_gtup {n : Nat} {xs : List V} (h : SqT K H a xs) (hl : xs.length = n) (q : gs xs σ H QG) : gTup K n gs (.ref a) σ H QG := ⟨a, xs, rfl, h, hl, q⟩
/-- e.f of a tracked instance -/
theorem rd_fldK {v : V} {QQ : V → Prop} (h : H a = some (.ins C dx fs)) (c : Cls K C) (n : NoAttr K C f) (l : fs.lookup f = some v) (q : QQ v) : ∃ a' C dx fs v, V.ref a = .ref a' ∧ H a' = some (.ins C dx fs) ∧ Cls K C ∧ NoAttr K C f ∧ fs.lookup f = some v ∧ QQ v := ⟨a, C, dx, fs, v, rfl, h, c, n, l, q⟩
theorem rd_isi {t u : Value} {b : Bool} {c : V} (hc : ClsV c u) (ty : TyX K H x t) (k : PySem.W.kitOne K t u = some b) (q : Q (.bl b) H) : rIsi K [x, c] H Q := ⟨x, c, t, u, b, rfl, hc, ty, k, q⟩
theorem rd_par2 {j : Nat} {w' : V} (q : D.nx ((σ.set i (some v)).set j (some w')) H) : ∃ v' w, [v, w'] = [v', w] ∧ D.nx ((σ.set i (some v')).set j (some w)) H := ⟨v, w', rfl, q⟩
theorem rd_aug {ti : TIp} (h : σ[i]? = some (some x)) (q : te σ H fun y H1 => ti x y H1 fun z H2 => D.nx (σ.set i (some z)) H2) : tAug i te ti D σ H := ⟨x, h, q⟩
def ForK (g : TG) (tb : TS) (D : Ends) (σ : L2.St) : It → Hp → Prop := fun J H1 => ∃ W : Nat → Nat → L2.St → Hp → Prop, (∃ m, W 0 m σ H1) ∧ ∀ i m σ H, W i m σ H →
  (J.stop i H ∧ D.nx σ H) ∨ (J.go i H ∧ ∃ N : L2.St → Hp → Prop, (∀ σ' H', N σ' H' → ∃ m', m' < m ∧ W (i + 1) m' σ' H') ∧ ∀ x H', J.yld i H x H' → g x σ H' fun σ2 H2 => tb { D with nx := N, ct := N, bk := D.nx } σ2 H2)
theorem rd_for {wi : TI} (q : wi σ H (ForK g tb1 D σ)) : tFor wi g tb1 D σ H := q
theorem rd_iList {R : It → Hp → Prop} (q : ta σ H fun x H1 => ∃ a, x = .ref a ∧ (∃ xs, SqL K H1 a xs) ∧ R (Itl K a) H1) : iList K ta σ H R := q
theorem rd_iTup {R : It → Hp → Prop} (q : ta σ H fun x H1 => ∃ a, x = .ref a ∧ (∃ xs, SqT K H1 a xs) ∧ R (Itt K a) H1) : iTup K ta σ H R := q
theorem rd_iRng1 {R : It → Hp → Prop} (q : t σ H fun vs H1 => ∃ j : Int, vs = [.int j] ∧ -(2 ^ 62) ≤ j ∧ j < 2 ^ 62 ∧ R (Itr 0 j.toNat) H1) : iRng1 t σ H R := q
theorem rd_iRng2 {R : It → Hp → Prop} (q : t σ H fun vs H1 => ∃ i j : Int, vs = [.int i, .int j] ∧ (-(2 ^ 62) ≤ i ∧ i < 2 ^ 62 ∧ -(2 ^ 62) ≤ j ∧ j < 2 ^ 62) ∧ R (Itr i (j - i).toNat) H1) : iRng2 t σ H R := q
theorem rd_never {P : Prop} (h : False) : P := h.elim
end
end Hf

namespace Hf
open PySem PySem.Spec PyProof.Rows L2
/-- what a place is at a size -/
def plv (s o d n : Int) : Int := s * (n / 2) + o + d * (n % 2)
theorem plv_add (s o d s' o' d' n : Int) : plv (s + s') (o + o') (d + d') n = plv s o d n + plv s' o' d' n := by
  unfold plv
  rw [Int.add_mul, Int.add_mul]
  omega
theorem plv_sub (s o d s' o' d' n : Int) : plv (s - s') (o - o') (d - d') n = plv s o d n - plv s' o' d' n := by
  unfold plv
  rw [Int.sub_mul, Int.sub_mul]
  omega
theorem plv_off (s o d k n : Int) : plv s (o + k) d n = plv s o d n + k := by
  unfold plv
  omega
theorem plv_offS (s o d k n : Int) : plv s (o - k) d n = plv s o d n - k := by
  unfold plv
  omega
theorem plv_inv (s o d n : Int) : plv (2 - s) (0 - o) (1 - d) n = n - plv s o d n := by
  unfold plv
  rw [Int.sub_mul, Int.sub_mul]
  omega
section
variable {K : PySem.W.Frag} {X : Cx} {σ : L2.St} {H H' : Hp} {Q : VK} {E : XK} {C b p q : Addr} {s o d s' o' d' n k : Int} {t : TA} {D : Ends} {QA : List V → Hp → Prop}
theorem use_draw (B : Bag H b) (h0 : 0 < n) (h1 : n ≤ 10 ^ 40) (k : ∀ (i : Int) (H' : Hp), 0 ≤ i → i < n → Bag H' b → Keep b H H' → Q (.int i) H') : spDraw [.ref b, .int n] H Q E := ⟨b, n, rfl, B, h0, h1, k⟩
theorem use_add (h1 : PlaceAt C H p s o d) (h2 : PlaceAt C H q s' o' d') (k : NewPl C H (s + s') (o + o') (d + d') Q) : rBin C (spPlAdd C) E (.ref p) (.ref q) H Q := by
  obtain ⟨dx, e1⟩ := h1
  obtain ⟨dy, e2⟩ := h2
  exact ⟨p, dx, _, q, dy, _, rfl, rfl, e1, e2, p, s, o, d, ⟨dx, e1⟩, .inl ⟨q, s', o', d', rfl, ⟨dy, e2⟩, k⟩⟩
theorem use_sub (h1 : PlaceAt C H p s o d) (h2 : PlaceAt C H q s' o' d') (k : NewPl C H (s - s') (o - o') (d - d') Q) : rBin C (spPlSub C) E (.ref p) (.ref q) H Q := by
  obtain ⟨dx, e1⟩ := h1
  obtain ⟨dy, e2⟩ := h2
  exact ⟨p, dx, _, q, dy, _, rfl, rfl, e1, e2, p, s, o, d, ⟨dx, e1⟩, .inl ⟨q, s', o', d', rfl, ⟨dy, e2⟩, k⟩⟩
theorem use_addI (h1 : PlaceAt C H p s o d) (k : NewPl C H s (o + n) d Q) : rBinI C (spPlAdd C) E (.ref p) (.int n) H Q := by
  obtain ⟨dx, e1⟩ := h1
  exact ⟨p, dx, _, n, rfl, rfl, e1, p, s, o, d, ⟨dx, e1⟩, .inr ⟨n, rfl, k⟩⟩
theorem use_subI (h1 : PlaceAt C H p s o d) (k : NewPl C H s (o - n) d Q) : rBinI C (spPlSub C) E (.ref p) (.int n) H Q := by
  obtain ⟨dx, e1⟩ := h1
  exact ⟨p, dx, _, n, rfl, rfl, e1, p, s, o, d, ⟨dx, e1⟩, .inr ⟨n, rfl, k⟩⟩
theorem use_radd (h1 : PlaceAt C H p s o d) (k : NewPl C H s (o + n) d Q) : rBinR C (spPlAdd C) E (.int n) (.ref p) H Q := by
  obtain ⟨dx, e1⟩ := h1
  exact ⟨p, dx, _, n, rfl, rfl, e1, p, s, o, d, ⟨dx, e1⟩, .inr ⟨n, rfl, k⟩⟩
theorem use_inv (h1 : PlaceAt C H p s o d) (k : NewPl C H (2 - s) (0 - o) (1 - d) Q) : rInv C (spPlInv C) E (.ref p) H Q := by
  obtain ⟨dx, e1⟩ := h1
  exact ⟨p, dx, _, rfl, e1, p, s, o, d, rfl, ⟨dx, e1⟩, k⟩
theorem use_at (h1 : PlaceAt C H p s o d) (hs : Sm s) (hd : Sm d) (hn : Sm n) (h0 : 1 ≤ n) (q : Q (.int (plv s o d n)) H) : (∃ dx fs, H p = some (.ins C dx fs)) ∧ spPlAt C [.ref p, .int n] H Q E := by
  obtain ⟨dx, e1⟩ := h1
  exact ⟨⟨dx, _, e1⟩, p, s, o, d, n, rfl, ⟨dx, e1⟩, hs, hd, hn, h0, q⟩
theorem use_ne (h1 : PlaceAt C H p s o d) (h2 : PlaceAt C H q s' o' d') (e1 : s = s') (e2 : o = o') (e3 : d = d') (k : Q (.bl false) H) : rNeO C (spPlEq C) E (.ref p) (.ref q) H Q := by
  subst e1 e2 e3
  obtain ⟨dx, f1⟩ := h1
  obtain ⟨dy, f2⟩ := h2
  refine ⟨p, dx, _, q, dy, _, rfl, rfl, f1, f2, p, q, s, o, d, s, o, d, rfl, ⟨dx, f1⟩, ⟨dy, f2⟩, _, rfl, ?_⟩
  simpa using k
/-- places of the same three -/
def SamePl (C : Addr) (a b : Addr) (H : Hp) : Prop := ∃ s o d, PlaceAt C H a s o d ∧ PlaceAt C H b s o d
theorem samePl_mono {a b : Addr} (e : Ext H H') (h : SamePl C a b H) : SamePl C a b H' := by
  obtain ⟨s, o, d, h1, h2⟩ := h
  exact ⟨s, o, d, h1.same e, h2.same e⟩
theorem eq_same (F : FnR X.prog X.w X.K X.mg X.base (L2.CX X.prog X.w) 1 p (spPlEq C)) : FnR X.prog X.w X.K X.mg X.base (L2.CX X.prog X.w) 1 p (spEq (SamePl C)) := F.imp fun vs H Q E h => by
  obtain ⟨a, b, rfl, ⟨s, o, d, h1, h2⟩, k⟩ := h
  refine ⟨a, b, s, o, d, s, o, d, rfl, h1, h2, ?_⟩
  simpa using k H Ext.rfl'
theorem op_nePls {j : Nat} (M : Met X.prog X.w X.K X.mg X.base 1 C "__eq__" (spPlEq C)) (hr : Room j X.A) (hk : 2 ≤ j := by decide) : OpR X (compareOp .NotEq) (rNeG (DIns C (SamePl C))) := by
  obtain ⟨g, o, F⟩ := M.opr
  exact op_neG (mon_ins fun a b H H' e h => samePl_mono e h) ((eqG_insR o (eq_same F) (E := E0) passL).eqG fun _ _ _ d => let ⟨a, b, _, _, _, _, hx, hy, _⟩ := d; ⟨a, b, hx, hy⟩) (hr.mono hk)
end
/-! ### displays with the heap as a letter -/
def NewL (Q : VK) (xs : List V) (H : Hp) : Prop := xs.length ≤ sizeLine ∧ ∀ p, H p = none → Q (.ref p) (upd H p (.lst xs))
def NewT (Q : VK) (xs : List V) (H : Hp) : Prop := xs.length ≤ sizeLine ∧ ∀ p, H p = none → Q (.ref p) (upd H p (.tup xs))
section
variable {K : PySem.W.Frag} {σ : L2.St} {H : Hp} {Q : VK} {t : TA} {xs ys : List V} {p q : Addr}
theorem rd_lstN (q : t σ H (NewL Q)) : tLst t σ H Q := q
theorem rd_tupN (q : t σ H (NewT Q)) : tTup t σ H Q := q
theorem new_lst (hl : xs.length ≤ 1000) (k : ∀ p H', H p = none → H' p = some (.lst xs) → Same H H' → Q (.ref p) H') : NewL Q xs H := ⟨Nat.le_of_lt (small1000 hl), fun p hp => k p _ hp upd_same (Same.new hp)⟩
theorem new_tup (hl : xs.length ≤ 1000) (k : ∀ p H', H p = none → H' p = some (.tup xs) → Same H H' → Q (.ref p) H') : NewT Q xs H := ⟨Nat.le_of_lt (small1000 hl), fun p hp => k p _ hp upd_same (Same.new hp)⟩
theorem dp_ints {H : Hp} : ∀ xs : List Int, DpAll K H (xs.map V.int) (xs.map PyData.int)
  | [] => .nil
  | x :: xs => .cons (.int x) (dp_ints xs)
theorem lay_ints : ∀ xs : List Int, PyData.canLayAll0 (xs.map PyData.int) = true
  | [] => by simp [PyData.canLayAll0]
  | x :: xs => by
    have := lay_ints xs
    simp [PyData.canLayAll0, PyData.canLay0, this]
theorem dep_ints : ∀ xs : List Int, PyData.depthAll (xs.map PyData.int) = 0
  | [] => by simp [PyData.depthAll]
  | x :: xs => by
    have := dep_ints xs
    simp [PyData.depthAll, PyData.depth, this]
theorem can_ints (xs : List Int) : PyData.canLay0 (.list (xs.map PyData.int)) = true := by
  simpa [PyData.canLay0] using lay_ints xs
theorem shp_ints (xs : List Int) : SeqAt.shaped (.list (xs.map PyData.int)) = true := by
  unfold SeqAt.shaped
  rw [can_ints]
  simp [PyData.depth, dep_ints]
/-- two lists of ints, equal: != is False -/
theorem use_neI {xs ys : List Int} (h1 : H p = some (.lst (xs.map V.int))) (h2 : H q = some (.lst (ys.map V.int))) (e : xs = ys) (k : Q (.bl false) H) : rNeD K (.ref p) (.ref q) H Q := by
  subst e
  refine ⟨_, _, .lst (SqL.of h1) (dp_ints xs), .lst (SqL.of h2) (dp_ints xs), shp_ints xs, shp_ints xs, ?_⟩
  rw [SeqAt.eqv_refl _ (can_ints xs)]
  exact k
end
end Hf

namespace Hf
open PySem PySem.Spec PyProof.Rows L2
/-- _law_at(parts, wide) of a list of three -/
def spLAt (K : PySem.W.Frag) : Sp := fun vs H Q _ => ∃ (a : Addr) (s o d n : Int), vs = [.ref a, .int n] ∧ SqL K H a [.int s, .int o, .int d] ∧ Sm s ∧ Sm d ∧ Sm n ∧ Q (.int (plv s o d n)) H
def spLPl (K : PySem.W.Frag) (C : Addr) : Sp := fun vs H Q _ => ∃ (a : Addr) (s o d : Int), vs = [.ref a] ∧ SqL K H a [.int s, .int o, .int d] ∧ NewPl C H s o d Q
def spLDrawn : Sp := fun vs H Q _ => ∃ b : Addr, vs = [.ref b] ∧ Bag H b ∧ ∀ (p : Addr) (s o d : Int) (H' : Hp), H' p = some (.lst [.int s, .int o, .int d]) → -3 ≤ s → s ≤ 3 → -10000000000000000000000000000000000000000 ≤ o → o ≤ 10000000000000000000000000000000000000000 → -2 ≤ d → d ≤ 2 → Bag H' b → Keep b H H' → Q (.ref p) H'
/-- law's: a list of at most 63 ints is handed in, True comes out -/
def spLaw (K : PySem.W.Frag) : Sp := fun vs H Q _ => ∃ (a : Addr) (ns : List Int), vs = [.ref a] ∧ SqL K H a (ns.map V.int) ∧ ns.length ≤ 63 ∧ ∀ H', Q (.bl true) H'
end Hf

namespace Hf
open PySem PySem.Spec PyProof.Rows L2
section
variable {K : PySem.W.Frag} {h : Heap} {mg : Str → Option Value} {f C T : Addr} {od an : Option Addr} {osl : Array (Option Value)} {oc kV doc pm cdv ct : Value}
/-- a def of the top -/
theorem defAt_mk {x : Str} {st : Stmt} {ps : List Str} (X : K.In h) (G : h.Ns mainGlobals mg) (a : PySem.W.nsIn K mainGlobals x = some (some (.ref f)))
    (l : K.lookup f = some ⟨oc, od, .func (PySem.W.fnOf x x (defArgs st) (defBody st) (defScope st) .none kV doc pm an cdv ct), osl⟩) (c : PySem.W.codeIn K cdv x = true) (k : PySem.W.keepIn K (.ref f) = true)
    (hb : ∀ (kV doc pm : Value) (an : Option Addr) (cdv ct : Value) (us : List Value), us.length = ps.length → bindArgs (PySem.W.fnOf x x (defArgs st) (defBody st) (defScope st) .none kV doc pm an cdv ct) ⟨us, []⟩ = pure (ps.zip us)) : DefAt K mg x st ps :=
  have F := fun_mk (st := st) l c k
  ⟨f, _, PySem.W.mg_of X G a, F, F.binds hb⟩
theorem metAt_mk {m qual : Str} {st : Stmt} {ps : List Str} (a : PySem.W.findIn K (.ref C) m = some (some (.ref f))) (i : PySem.W.isFn K (.ref f) = true)
    (l : K.lookup f = some ⟨oc, od, .func (PySem.W.fnOf m qual (defArgs st) (defBody st) (defScope st) .none kV doc pm an cdv ct), osl⟩) (c : PySem.W.codeIn K cdv qual = true) (k : PySem.W.keepIn K (.ref f) = true)
    (hb : ∀ (kV doc pm : Value) (an : Option Addr) (cdv ct : Value) (us : List Value), us.length = ps.length → bindArgs (PySem.W.fnOf m qual (defArgs st) (defBody st) (defScope st) .none kV doc pm an cdv ct) ⟨us, []⟩ = pure (ps.zip us)) : MetAt K C m qual st ps :=
  have F := fun_mk (st := st) l c k
  ⟨f, _, ⟨a, i, k⟩, F, F.binds hb⟩
/-- a def with one default that is a whole number -/
theorem funD1_mk {x qual : Str} {st : Stmt} {i : Int} {tk : Tok} {c2 : Value} {d2 : Option Addr} {n2 : Nat} {sl2 : Array (Option Value)}
    (l : K.lookup f = some ⟨oc, od, .func (PySem.W.fnOf x qual (defArgs st) (defBody st) (defScope st) (.ref T) kV doc pm an cdv ct), osl⟩) (lT : K.lookup T = some ⟨c2, d2, .seq #[.int i tk] n2, sl2⟩) (c : PySem.W.codeIn K cdv qual = true) (k : PySem.W.keepIn K (.ref f) = true) :
    FunD K x qual (defArgs st) (defBody st) (defScope st) [.int i] [] f (PySem.W.fnOf x qual (defArgs st) (defBody st) (defScope st) (.ref T) kV doc pm an cdv ct) :=
  ⟨⟨oc, od, .ref T, kV, doc, pm, an, cdv, ct, osl, rfl, l, c, .inr ⟨fun z => (nomatch z), T, _, [.int i tk], n2, rfl, lT, rfl, .cons ⟨tk, rfl⟩ .nil⟩, .inl rfl⟩, k⟩
/-- every parameter is given -/
theorem FunD.full {x qual : Str} {params : Arguments} {body : List Stmt} {scope : Scope} {v : V} {fd : FuncData} {ps : List Str} (F : FunD K x qual params body scope [v] [] f fd)
    (hb : ∀ (T : Addr) (kV doc pm : Value) (an : Option Addr) (cdv ct : Value) (us its : List Value), us.length = ps.length → its.length = 1 →
      ∃ k, bindArgs (PySem.W.fnOf x qual params body scope (.ref T) kV doc pm an cdv ct) ⟨us, []⟩ = seqItems? (.ref T) >>= k ∧ k (some its.toArray) = pure (ps.zip (us ++ its.drop 1))) : Binds K fd ps [] := by
  obtain ⟨ds, r, b⟩ := F.binds1 (ps := ps) ps.length 1 (by simp) (by simp) (fun T kV doc pm an cdv ct us its h1 h2 => hb T kV doc pm an cdv ct us its h1 h2)
  cases r
  exact b
end
theorem fnOk0 {P : Program} {w : World} {K : PySem.W.Frag} {mg : Str → Option Value} {base : Heap} {x qual : Str} {st : Stmt} {f : Addr} {fd : FuncData} {N ps : List Str} {k : Nat} {sp : Sp} (F : Fun K x qual st f fd) (S : FnScope N ps (defScope st)) (len : ∀ vs H Q E, sp vs H Q E → vs.length = ps.length)
    (hbody : ∀ (cdv : Value) (A : Around) (outer : List Env) (s : Shared) (H : Hp) (vs : List V) (Q : VK) (E : XK), Room k (A.deeper (envOfC qual (defScope st) s.heap.objs.size f cdv)) → sp vs H Q E →
      ∃ t, PSs (cxOf (L2.CX P w) P w K mg base N qual (defScope st) f cdv A outer s H E).nox (defBody st) t ∧ t { nx := fun _ H' => Q .non H', rt := Q } (L2.start N vs) H) : FnOk P w K mg base (L2.CX P w) (k + 1) f fd ps sp :=
  F.okX (P := P) (w := w) (mg := mg) (base := base) S len fun cdv A outer s H vs Q E hr h => let ⟨t, a, b⟩ := hbody cdv A outer s H vs Q E hr h; ⟨t, a.nox, b⟩
theorem fnOkD {P : Program} {w : World} {K : PySem.W.Frag} {mg : Str → Option Value} {base : Heap} {x qual : Str} {params : Arguments} {body : List Stmt} {scope : Scope} {dvs : List V} {kws : List (Str × V)} {f : Addr} {fd : FuncData} {N ps : List Str} {k : Nat} {sp : Sp} (F : FunD K x qual params body scope dvs kws f fd) (S : FnScope N ps scope) (len : ∀ vs H Q E, sp vs H Q E → vs.length = ps.length)
    (hbody : ∀ (cdv : Value) (A : Around) (outer : List Env) (s : Shared) (H : Hp) (vs : List V) (Q : VK) (E : XK), Room k (A.deeper (envOfC qual scope s.heap.objs.size f cdv)) → sp vs H Q E →
      ∃ t, PSs (cxOf (L2.CX P w) P w K mg base N qual scope f cdv A outer s H E).nox body t ∧ t { nx := fun _ H' => Q .non H', rt := Q } (L2.start N vs) H) : FnOk P w K mg base (L2.CX P w) (k + 1) f fd ps sp :=
  F.ok (CX := L2.CX P w) (P := P) (w := w) (mg := mg) (base := base) S len fun cdv A outer s H vs Q E hr h => let ⟨t, a, b⟩ := hbody cdv A outer s H vs Q E hr h; ⟨t, a.nox, b⟩
theorem FnOk.all {P : Program} {w : World} {K : PySem.W.Frag} {mg : Str → Option Value} {base : Heap} {CX : CXT} {k : Nat} {f : Addr} {fd : FuncData} {ps : List Str} {sp : Sp} (G : FnOk P w K mg base CX k f fd ps sp) (b : Binds K fd ps []) : FnR P w K mg base CX k f sp :=
  (G.raw b .nil).imp fun vs H Q E h => by rw [List.append_nil]; exact h
/-- the one default fills up -/
theorem FunD.dflt {K : PySem.W.Frag} {x qual : Str} {params : Arguments} {body : List Stmt} {scope : Scope} {v : V} {f : Addr} {fd : FuncData} {ps : List Str} {n : Nat} (F : FunD K x qual params body scope [v] [] f fd) (hn : n + 1 = ps.length)
    (hb : ∀ (T : Addr) (kV doc pm : Value) (an : Option Addr) (cdv ct : Value) (us its : List Value), us.length = n → its.length = 1 →
      ∃ k, bindArgs (PySem.W.fnOf x qual params body scope (.ref T) kV doc pm an cdv ct) ⟨us, []⟩ = seqItems? (.ref T) >>= k ∧ k (some its.toArray) = pure (ps.zip (us ++ its.drop 0))) : ∃ ds, Vals [v] ds ∧ Binds K fd ps ds :=
  F.binds1 (ps := ps) n 0 (by simp) (by simpa using hn) (fun T kV doc pm an cdv ct us its h1 h2 => hb T kV doc pm an cdv ct us its h1 h2)
theorem plainMro_mk {K : PySem.W.Frag} {C : Addr} {cd : ClassData} (c : PySem.W.clsIn K C = some cd) (m : cd.mro = [.ref C, .type "object"]) : PySem.W.plainMro K C = true := by
  unfold PySem.W.plainMro
  rw [c]
  simp [m]
theorem kitOne_mk {K : PySem.W.Frag} {C : Addr} {T : String} {b : Bool} (i : PySem.W.isClsIn K C = true) (t : PySem.W.typeIn K (.ref C) = some (.type "type")) (s : PySem.W.subIn K (.type T) (.ref C) = some b) : PySem.W.kitOne K (.type T) (.ref C) = some b := by
  have i' : (PySem.W.clsIn K C).isSome = true := i
  have e : (Value.type T == Value.ref C) = false := Bool.eq_false_iff.mpr fun q => by cases beq_iff_eq.mp q
  unfold PySem.W.kitOne PySem.W.kitCls
  rw [e, if_neg Bool.false_ne_true]
  dsimp only
  rw [i', t]
  simpa using s
theorem cx_no {P : Program} {w : World} {H : Hp} {s : Shared} {e : Value} {s' : Shared} (h : L2.CX P w [] H s (fun _ _ _ => False) e s') : False := by
  obtain ⟨_, _, _, _, _, _, _, _, _, _, _, _, z⟩ := h
  exact z.elim
/-- the end of a law: its def keeps spLaw -/
theorem walkL {l : PySem.W.OpenLaw} {q : Program} {loose : List Str} {XP : (Str → Option Value) → Heap → Prop} {YP : World → Heap → Prop} {d : DefRec} {K : Params → PySem.W.Frag} {k : Nat} (hk : k ≤ 100) (hn : l.most = some 63) (hdf : d.params.defaults = [])
    (hY : ∀ (w : World) (h : Heap), YP w h → (K w.params).In h)
    (F : ∀ (w : World) (mg : Str → Option Value) (fa : Addr) (h : Heap), (K w.params).In h → h.Ns mainGlobals mg → mg d.name = some (.ref fa) →
      ∃ fd : FuncData, (∀ (s : Shared) (u : Value), BindsTo s fd ⟨[u], []⟩ [("_law_script", u)]) ∧ ∀ base : Heap, (K w.params).In base → base.Ns mainGlobals mg → FnOk l.prog w (K w.params) mg base (L2.CX l.prog w) k fa fd ["_law_script"] (spLaw (K w.params))) :
    PySem.W.WalkO q loose XP YP l.row.toRowW d [] (fun f vs => PySem.call f vs) :=
  L2.walk_of (n := 63) (k := k) (x := "_law_script") (CX := fun w => L2.CX l.prog w) (sp := fun w => spLaw (K w.params)) hn (by decide) hdf (Room.mono ⟨rfl, by decide, by decide⟩ hk) hY F (fun _ _ a ns hl _ hS => ⟨a, ns, rfl, hS, hl, fun _ => rfl⟩) fun _ _ _ _ _ z => cx_no z
end Hf

namespace Hf
open PySem PySem.Spec PyProof.Rows L2
/-! ### defs that want to know that no repr is running -/
/-- as FnR, called where nothing is being shown -/
def FnG (P : Program) (w : World) (K : PySem.W.Frag) (mg : Str → Option Value) (base : Heap) (CX : CXT) (k : Nat) (f : Addr) (sp : Sp) : Prop :=
  ∀ (A : Around) (outer : List Env) (s : Shared) (H : Hp) (us : List Value) (vs : List V) (Q : VK) (E : XK), Room k A → A.guards = some [] → Env0 P w K mg base A outer s H → Vals vs us → sp vs H Q E →
    codeAny (model P w) A (.call (.ref f) ⟨us, []⟩) (CR CX outer P w H s Q E) s
theorem FnR.g {P : Program} {w : World} {K : PySem.W.Frag} {mg : Str → Option Value} {base : Heap} {CX : CXT} {k : Nat} {f : Addr} {sp : Sp} (F : FnR P w K mg base CX k f sp) : FnG P w K mg base CX k f sp := fun A outer s H us vs Q E hr _ e0 r h => F A outer s H us vs Q E hr e0 r h
section
variable {P : Program} {w : World} {K : PySem.W.Frag} {mg : Str → Option Value} {base : Heap}
theorem fnG_of {CX : CXT} {k : Nat} {f : Addr} {name qual : Str} {params : Arguments} {body : List Stmt} {scope : Scope} {dV kV doc pm cdv ct oc : Value} {an od : Option Addr}
    {osl : Array (Option Value)} {N ps : List Str} {sp : Sp} (lk : K.lookup f = some ⟨oc, od, .func (PySem.W.fnOf name qual params body scope dV kV doc pm an cdv ct), osl⟩) (hcd : PySem.W.codeIn K cdv qual = true) (S : FnScope N ps scope)
    (b : Binds K (PySem.W.fnOf name qual params body scope dV kV doc pm an cdv ct) ps [])
    (len : ∀ vs H Q E, sp vs H Q E → vs.length = ps.length)
    (hbody : ∀ (A : Around) (outer : List Env) (s : Shared) (H : Hp) (vs : List V) (Q : VK) (E : XK), Room k (A.deeper (envOfC qual scope s.heap.objs.size f cdv)) → (A.deeper (envOfC qual scope s.heap.objs.size f cdv)).guards = some [] → sp vs H Q E →
      ∃ t, PSs (cxOf CX P w K mg base N qual scope f cdv A outer s H E) body t ∧ t { nx := fun _ H' => Q .non H', rt := Q } (L2.start N vs) H) :
    FnG P w K mg base CX (k + 1) f sp := by
  intro A outer s H us vs Q E hr hgd e0 r hsp
  have hl := len _ _ _ _ hsp
  have KX : K.In s.heap := e0.mod.kin.keeps fun b o e => (e0.bs b o e).1
  have lim : s.heap.NoLimit := e0.mod.nolimit.keeps fun b o e => (e0.bs b o e).1
  have hb : BindsTo s (PySem.W.fnOf name qual params body scope dV kV doc pm an cdv ct) ⟨us, []⟩ (ps.zip us) := by
    have e := b s us KX (by rw [List.append_nil, ← r.length]; exact hl)
    rw [List.append_nil] at e
    exact e
  have hkind : ∀ y ∈ ps.zip us, scope.names.lookup y.1 = some .local ∨ (scope.names.lookup y.1 = some .cell ∧ ((cellsFrom (s.heap.objs.size + 1) scope.names []).lookup y.1).isSome = true) := fun ⟨n, v⟩ hy => by
    rcases S.par n (List.of_mem_zip hy).1 with q | q
    · exact .inl q
    · exact .inr ⟨q, PySem.W.cellsFrom_some _ _ _ (.inl q)⟩
  refine codeAny_call_function hr.depth (KX _ _ lk) rfl S.co S.gen rfl (PySem.W.codeRec_of KX hcd) (hb _ _ _ _ ?_)
  refine wpAny_newFunctionEnv_cells S.kind hkind fun env he s1 x => ?_
  subst he
  refine ⟨lim.keeps x.toInCall.keep, codeAny_func ?_⟩
  obtain ⟨t, ht, hq⟩ := hbody A outer s H vs Q E (hr.deeper _) hgd hsp
  have I : Inv (cxOf CX P w K mg base N qual scope f cdv A outer s H E) [] (L2.start N vs) H s1 := inv_start S hr.hd e0 hl r x
  refine wpAny_mono (ht.run [] s1 (L2.start N vs) H _ I hq) (fun fl s' hs => ?_) fun e s' hs => hs
  have fin : ∀ {σ' : L2.St} {H' : Hp} {v : V} {u : Value}, Inv (cxOf CX P w K mg base N qual scope f cdv A outer s H E) [] σ' H' s' → RelV v u → Q v H' → CE outer P w H s Q u s' :=
    fun {σ' H' v u} J rv q => ⟨v, H', J.os, J.bare, J.base, J.hok, rv, q⟩
  cases fl with
  | ret u =>
    obtain ⟨v, σ', H', J, rv, q⟩ := hs
    exact fin J rv q
  | next =>
    obtain ⟨σ', H', J, q⟩ := hs
    exact fin (v := V.non) (u := Value.none) J rfl q
  | brk =>
    obtain ⟨_, _, _, q⟩ := hs
    exact False.elim q
  | cont =>
    obtain ⟨_, _, _, q⟩ := hs
    exact False.elim q
/-- a def whose body lets nothing out -/
theorem fnG0 {x qual : Str} {st : Stmt} {f : Addr} {fd : FuncData} {N ps : List Str} {k : Nat} {sp : Sp} (F : Fun K x qual st f fd) (b : Binds K fd ps []) (S : FnScope N ps (defScope st)) (len : ∀ vs H Q E, sp vs H Q E → vs.length = ps.length)
    (hbody : ∀ (cdv : Value) (A : Around) (outer : List Env) (s : Shared) (H : Hp) (vs : List V) (Q : VK) (E : XK), Room k (A.deeper (envOfC qual (defScope st) s.heap.objs.size f cdv)) → (A.deeper (envOfC qual (defScope st) s.heap.objs.size f cdv)).guards = some [] → sp vs H Q E →
      ∃ t, PSs (cxOf (L2.CX P w) P w K mg base N qual (defScope st) f cdv A outer s H E).nox (defBody st) t ∧ t { nx := fun _ H' => Q .non H', rt := Q } (L2.start N vs) H) : FnG P w K mg base (L2.CX P w) (k + 1) f sp := by
  obtain ⟨oc, od, kV, doc, pm, an, cdv, ct, osl, rfl, lk, hcd⟩ := F.ex
  exact fnG_of lk hcd S b len fun A outer s H vs Q E hr hg h => let ⟨t, a, b⟩ := hbody cdv A outer s H vs Q E hr hg h; ⟨t, a.nox, b⟩
/-- x, a def of the module, keeps sp where nothing is being shown -/
def CalG (P : Program) (w : World) (K : PySem.W.Frag) (mg : Str → Option Value) (base : Heap) (k : Nat) (x : Str) (sp : Sp) : Prop :=
  ∃ f, FnG P w K mg base (L2.CX P w) k f sp ∧ mg x = some (.ref f) ∧ PySem.W.keepIn K (.ref f) = true
end
section
variable {X : Cx} {E : XK} {k j : Nat} {x : Str} {sp : Sp} {p pos : Pos} {e : Expr} {es : List Expr} {t : TA}
theorem run_fnG {pins : List (Addr × Obj)} {σ : L2.St} {H : Hp} {s : Shared} {CX : CXT} {f : Addr} {Q : VK} {us : List Value} {vs : List V} (F : FnG X.prog X.w X.K X.mg X.base CX k f sp) (hr : Room k X.A) (hg : X.A.guards = some []) (hx : Passes CX X E) (I : Inv X pins σ H s) (r : Vals vs us) (h : sp vs H Q E) :
    codeAny (model X.prog X.w) X.A (.call (.ref f) ⟨us, []⟩) (fun r s' => match r with | .ok (.ret v) => EP X pins σ Q v s' | .ok _ => False | .error e => X.xe e s') s := by
  refine codeAny_mono (F X.A X.stack s H us vs Q E hr hg I.env0 r h) fun r s' hq => ?_
  cases r with
  | error e => exact hx pins σ H s e s' I hq
  | ok fl =>
    cases fl with
    | ret u => exact I.after hq
    | next => exact False.elim hq
    | brk => exact False.elim hq
    | cont => exact False.elim hq
theorem pe_clG (c : CalG X.prog X.w X.K X.mg X.base k x sp) (hr : Room j X.A) (hgd : X.A.guards = some []) (hx : Passes (L2.CX X.prog X.w) X E) (ha : PA X (e :: es) t) (hk : k ≤ j := by decide) (hg : Gl X x := by rfl)
    (hdb : (x == ("__debug__" : Str)) = false := by decide) (he : starEach (e :: es) X.env = (false, eval e X.env) :: starEach es X.env := by rfl) (hpl : (backTo pos (starEach es X.env)).any (·.1) = false := by rfl) :
    PE X (.Call (.Name x p) (e :: es) [] pos) (tCl sp E t) := by
  obtain ⟨f, F, hm, kp⟩ := c
  refine ⟨fun pins s σ H Q I h => ?_⟩
  refine wpAny_Call_Name_kw (ld_glob I hg hm ?_ hdb)
  refine PySem.W.callWith_K (h₀ := X.base) I.ok.mod.kin kp (thn (ha.run pos pins s σ H _ I h) fun us s1 ⟨vs, H1, I1, r1, q1⟩ => ?_) he hpl
  exact ⟨I1.kIn, wpAny_call (run_fnG F (hr.mono hk) hgd hx I1 r1 q1)⟩
/-- repr(x) of data -/
def rRepr (K : PySem.W.Frag) : List V → Hp → VK → Prop := fun xs H Q => ∃ (v : V) (d : PyData), xs = [v] ∧ Dp K H v d ∧ d.showable = true ∧ d.hasDict = false ∧ d.depth ≤ 60 ∧ d.shown.length ≤ sizeLine ∧ Q (.str d.shown) H
theorem call_repr (hr : Room j X.A) (hgd : X.A.guards = some []) : CallR X (.builtin "repr") (rRepr X.K) := by
  intro pins s σ H xs us Q I r h
  obtain ⟨v, d, rfl, hd, hs, hnd, hdep, hsz, q⟩ := h
  obtain ⟨u, rfl, ru⟩ := r.one
  obtain ⟨as, hre⟩ := Dp.reads I d v u hd ru
  have fin : ∀ h' t tk, (∀ b o, s.heap.get? b = some o → h'.get? b = some o) → EP X pins σ Q (.str d.shown t) { s with heap := h', toks := tk } := fun h' t tk hk => ⟨.str d.shown, H, I.kept hk, ⟨t, rfl⟩, q⟩
  cases hd with
  | non => cases (show u = Value.none from ru); exact PySem.P.repr_of_none (fin s.heap _ _ fun _ _ e => e)
  | bl b => cases (show u = Value.bool b from ru); exact PySem.P.repr_of_bool (fin s.heap _ _ fun _ _ e => e)
  | int i =>
    obtain ⟨t, e⟩ := (show ∃ t, u = Value.int i t from ru)
    cases e
    exact PySem.P.repr_of_int (by simpa [PyData.showable] using hs) (fin s.heap _ _ fun _ _ e => e)
  | str x =>
    obtain ⟨t, e⟩ := (show ∃ t, u = Value.str x t from ru)
    cases e
    exact PySem.P.repr_of_str (fin s.heap _ _ fun _ _ e => e) hsz
  | lst h1 h2 =>
    cases ru
    exact repr_of_reads' hre hs (fun z => by rw [hnd] at z; cases z) hgd (by have := hr.units; omega) (fun _ _ e => e) fin hsz
  | tup h1 h2 =>
    cases ru
    exact repr_of_reads' hre hs (fun z => by rw [hnd] at z; cases z) hgd (by have := hr.units; omega) (fun _ _ e => e) fin hsz
end
end Hf

namespace Hf
open PySem PySem.Spec PyProof.Rows L2
theorem law_callG {P : Program} {w : World} {K : PySem.W.Frag} {mg mb : Str → Option Value} {CX : CXT} {k : Nat} {fa a : Addr} {sp : Sp} {s₁ : Shared} {vs : List Value} {ns : List Int}
    (KX : K.In s₁.heap) (hns : s₁.heap.Ns mainGlobals mg) (hb : s₁.heap.Ns builtinsNs mb) (hbb : ∀ x : Str, x ≠ "__name__" → mb x = bootBuiltins x) (hlim : s₁.heap.NoLimit) (hg : s₁.gens = #[])
    (ha : s₁.heap.get? a = some { cls := .type "list", data := .seq vs.toArray }) (hi : IntsAre vs ns) (hl : ns.length ≤ sizeLine) (hr : Room k callerA)
    (F : ∀ base : Heap, K.In base → base.Ns mainGlobals mg → FnG P w K mg base CX k fa sp)
    (hsp : ∀ H : Hp, Only H → SqL K H a (ns.map V.int) → sp [.ref a] H (fun v _ => v = .bl true) fun _ _ _ => False)
    (hCX : ∀ H e s', CX [] H s₁ (fun _ _ _ => False) e s' → False) :
    codeAny (model P w) callerA (.call (.ref fa) ⟨[.ref a], []⟩) (fun r s' => r = .ok (.ret (.bool true)) ∧ OldK s₁.heap s'.heap ∧ s'.os = s₁.os ∧ AllBare s'.gens) s₁ := by
  have rv := vals_ints hi
  have lenV := hi.length
  -- from an abstract heap in which nothing but the script may be tracked
  have core : ∀ H : Hp, Only H → SqL K H a (ns.map V.int) → HOk P w H s₁.heap → (∀ b, H b ≠ none → b = a) → (H a ≠ none → K.lookup a = none) →
      codeAny (model P w) callerA (.call (.ref fa) ⟨[.ref a], []⟩) (fun r s' => r = .ok (.ret (.bool true)) ∧ OldK s₁.heap s'.heap ∧ s'.os = s₁.os ∧ AllBare s'.gens) s₁ := by
    intro H hO hS hok hA hK
    have base_of : ∀ {b : Addr} {o : Obj}, s₁.heap.get? b = some o → H b = none → (hidT s₁.heap H).get? b = some o := fun e n => hidT_get e n
    have noA : ∀ {b : Addr} {o : Obj} {es : Array DictEntry} {ep : Nat}, s₁.heap.get? b = some o → o.data = .dict es ep → H b = none := fun {b o es ep} e d => by
      cases q : H b with
      | none => rfl
      | some u =>
        have e' : b = a := hA b (by rw [q]; simp)
        subst e'
        rw [ha] at e; cases e
        have d' : Data.seq vs.toArray _ = Data.dict es ep := d
        cases d'
    have nsK : ∀ {b : Addr} {m : Str → Option Value}, s₁.heap.Ns b m → (hidT s₁.heap H).Ns b m := fun {b m} ⟨o, es, ep, e, d, r⟩ => ⟨o, es, ep, base_of e (noA e d), d, r⟩
    have hKb : K.In (hidT s₁.heap H) := fun b o e => base_of (KX b o e) (by
      cases q : H b with
      | none => rfl
      | some u =>
        have e' : b = a := hA b (by rw [q]; simp)
        subst e'
        rw [hK (by rw [q]; simp)] at e; cases e)
    have hM : Mod K mg (hidT s₁.heap H) := ⟨hKb, nsK hns, ⟨mb, nsK hb, hbb⟩, let ⟨mc, h1, h2⟩ := hlim; ⟨mc, nsK h1, h2⟩⟩
    have e0 : Env0 P w K mg (hidT s₁.heap H) callerA [] s₁ H := ⟨rfl, hM, fun b o e => of_hidT e, Nat.le_of_eq (hidT_size _ _), trivial, fun b hb => absurd (show b ∈ ([] : List Addr) from hb) (by simp), hok, .of_eq hg⟩
    refine codeAny_mono (F _ hKb (nsK hns) callerA [] s₁ H [.ref a] [.ref a] _ _ hr rfl e0 (.cons rfl .nil) (hsp H hO hS)) fun r s' h => ?_
    cases r with
    | error e => exact (hCX H e s' h).elim
    | ok fl =>
      cases fl with
      | next => exact False.elim h
      | brk => exact False.elim h
      | cont => exact False.elim h
      | ret u =>
        obtain ⟨v, H', os, bare, un, hok', r', q⟩ := h
        have q' : v = .bl true := q
        subst q'
        obtain rfl : u = Value.bool true := r'
        refine ⟨rfl, OldK.of_keep fun b o e => ?_, os, bare⟩
        cases q : H b with
        | none => exact un.keep b o e q (by intro z; exact absurd (show b ∈ ([] : List Addr) from z) (by simp)) (by simp)
        | some u =>
          rcases hO b with z | ⟨ob, xs, z⟩
          · rw [q] at z; cases z
          · have z2 := un.frzs b ob _ z
            obtain ⟨e1, _⟩ := hok b _ z
            obtain ⟨e2, _⟩ := hok' b _ z2
            rw [e] at e1; cases e1
            exact e2
  cases hk : K.lookup a with
  | some o =>
    -- the script is one of the module's own objects
    have e := KX a o hk
    rw [ha] at e
    cases e
    refine core (fun _ => none) (fun _ => .inl rfl) (.inr ⟨_, vs.toArray, _, hk, rfl, rfl, rfl, by rw [List.size_toArray, lenV]; exact hl, by simpa using rv⟩) (fun b u z => by have z' : (none : Option HO) = some u := z; cases z') (fun b z => absurd rfl z) fun z => absurd rfl z
  | none =>
    refine core (fun b => if b = a then some (.frz { cls := .type "list", data := .seq vs.toArray } (.lst (ns.map V.int))) else none) (fun b => ?_) (.inl (.inr ⟨{ cls := .type "list", data := .seq vs.toArray }, if_pos rfl⟩)) (fun b u z => ?_) (fun b z => ?_) fun _ => hk
    · by_cases hb : b = a
      · exact .inr ⟨_, _, if_pos hb⟩
      · exact .inl (if_neg hb)
    · by_cases hb : b = a
      · have z' := (if_pos hb).symm.trans z
        cases z'
        subst hb
        exact ⟨ha, by rw [List.length_map]; exact hl, vs, _, rv, ha⟩
      · have z' := (if_neg hb).symm.trans z
        cases z'
    · by_cases hb : b = a
      · exact hb
      · exact absurd (if_neg hb) z
/-- the end of a law whose def is FnG -/
theorem walkG {l : PySem.W.OpenLaw} {q : Program} {loose : List Str} {XP : (Str → Option Value) → Heap → Prop} {YP : World → Heap → Prop} {d : DefRec} {K : Params → PySem.W.Frag} {k : Nat} (hk : k ≤ 100) (hn : l.most = some 63) (hdf : d.params.defaults = [])
    (hY : ∀ (w : World) (h : Heap), YP w h → (K w.params).In h)
    (F : ∀ (w : World) (mg : Str → Option Value) (fa : Addr) (h : Heap), (K w.params).In h → h.Ns mainGlobals mg → mg d.name = some (.ref fa) →
      ∀ base : Heap, (K w.params).In base → base.Ns mainGlobals mg → FnG l.prog w (K w.params) mg base (L2.CX l.prog w) k fa (spLaw (K w.params))) :
    PySem.W.WalkO q loose XP YP l.row.toRowW d [] (fun f vs => PySem.call f vs) := by
  refine Att.attach_call hn hdf fun w s₀ s₁ mg mb fa o pm cd doc a vs ns G Y ho hd hcd hmg hobj hints hlen hg => ?_
  have KX := hY w _ Y
  exact law_callG KX G.T.g G.T.b G.T.builtins G.T.nolimit hg hobj hints (Nat.le_trans hlen (by decide)) (Room.mono ⟨rfl, by decide, by decide⟩ hk) (F w mg fa _ KX G.T.g hmg) (fun H hO hS => ⟨a, ns, rfl, hS, hlen, fun _ => rfl⟩) fun H e s' z => cx_no z
end Hf

namespace Hf
open PySem PySem.Spec PyProof.Rows L2
/-! ### comprehensions -/
def LcK (g : TG) (tt : TT) (te : TE) (vs : List Nat) (σ : L2.St) (Q : VK) : It → Hp → Prop := fun J H1 => ∀ D, H1 D = none → ∃ W : Nat → Nat → Hp → Prop, (∃ m, W 0 m (upd H1 D (.lst []))) ∧ ∀ i m H, W i m H →
  (J.stop i H ∧ Q (.ref D) H) ∨ (J.go i H ∧ ∃ Nx : Hp → Prop, (∀ H', Nx H' → ∃ m', m' < m ∧ W (i + 1) m' H') ∧ ∀ x H', J.yld i H x H' → g x (wipe σ vs) H' fun σ2 H2 => wipe σ2 vs = wipe σ vs ∧ tt σ2 H2 fun b H3 =>
    if b = true then te σ2 H3 fun y H4 => ∃ acc, H4 D = some (.lst acc) ∧ acc.length < sizeLine ∧ Nx (upd H4 D (.lst (acc ++ [y]))) else Nx H3)
section
variable {K : PySem.W.Frag} {σ : L2.St} {H : Hp} {Q : VK} {wi : TI} {g : TG} {tt : TT} {te : TE} {vs : List Nat} {i : Nat} {a : Addr} {xs : List V}
theorem rd_lc (q : wi σ H (LcK g tt te vs σ Q)) : tLc wi g tt te vs σ H Q := q
theorem rd_yes {QB : Bool → Hp → Prop} (q : QB true H) : tYes σ H QB := q
theorem wipe1 {x : Option V} : wipe ((wipe σ [i]).set i x) [i] = wipe σ [i] := by
  show ((σ.set i none).set i x).set i none = σ.set i none
  rw [List.set_set, List.set_set]
theorem Same.mut {H H1 : Hp} {p : Addr} {o : HO} (e : Same H H1) (h : H p = none) : Same H (upd H1 p o) := fun a u ha => by
  rw [upd_ne (ne_of_none ha h)]
  exact e a u ha
/-- [e for x in xs], e a function of x that only makes objects -/
theorem lc_mapL (F : V → V) (hS : SqL K H a xs) (hl : xs.length ≤ 1000) (hev : ∀ (j : Nat) (x : V) (H1 : Hp) (R : VK), xs[j]? = some x → Same H H1 → (∀ H2, Same H1 H2 → R (F x) H2) → te ((wipe σ [i]).set i (some x)) H1 R)
    (k : ∀ (D : Addr) (H' : Hp), H D = none → H' D = some (.lst (xs.map F)) → Same H H' → Q (.ref D) H') : ∃ a', V.ref a = .ref a' ∧ (∃ xs, SqL K H a' xs) ∧ LcK (gName i) tYes te [i] σ Q (Itl K a') H := by
  refine ⟨a, rfl, ⟨_, hS⟩, fun D hD => lc_list (K := K) (a := a) (xs := xs) (g := gName i) (tt := tYes) (te := te) (vs := [i]) (σ := σ) (Qd := fun H => Q (.ref D) H) (fun j H' => H' D = some (.lst ((xs.take j).map F)) ∧ Same H H') ⟨upd_same, Same.new hD⟩ (fun j H' _ ⟨_, s⟩ => s.seq hS) ?_ ?_⟩
  · rintro j x H1 hx ⟨e, s⟩
    refine ⟨wipe1, ?_⟩
    refine rd_yes ?_
    refine iteT ?_
    refine hev j x H1 _ hx s fun H2 s2 => ⟨_, s2 _ _ e, ?_, ?_, Same.mut (s.trans s2) hD⟩
    · rw [List.length_map, List.length_take]
      exact small1000 (by omega)
    · rw [upd_same]
      have hj : j < xs.length := (List.getElem?_eq_some_iff.mp hx).1
      have e2 : xs.take (j + 1) = xs.take j ++ [x] := by
        rw [List.take_add_one, hx]
        rfl
      rw [e2, List.map_append]
      rfl
  · rintro H1 ⟨e, s⟩
    rw [List.take_length] at e
    exact k D H1 hD e s
/-- [e for x in range(lo, lo + n)] -/
theorem lc_mapR {lo : Int} {n : Nat} (F : Int → V) (hl : n ≤ 1000) (hev : ∀ (j : Nat) (H1 : Hp) (R : VK), j < n → Same H H1 → (∀ H2, Same H1 H2 → R (F (lo + j)) H2) → te ((wipe σ [i]).set i (some (.int (lo + j)))) H1 R)
    (k : ∀ (D : Addr) (H' : Hp), H D = none → H' D = some (.lst ((List.range n).map fun (j : Nat) => F (lo + j))) → Same H H' → Q (.ref D) H') : LcK (gName i) tYes te [i] σ Q (Itr lo n) H := by
  refine fun D hD => lc_range (lo := lo) (n := n) (g := gName i) (tt := tYes) (te := te) (vs := [i]) (σ := σ) (Qd := fun H => Q (.ref D) H) (fun j H' => H' D = some (.lst ((List.range j).map fun (j : Nat) => F (lo + j))) ∧ Same H H') ⟨upd_same, Same.new hD⟩ ?_ ?_
  · rintro j H1 hj ⟨e, s⟩
    refine ⟨wipe1, ?_⟩
    refine rd_yes ?_
    refine iteT ?_
    refine hev j H1 _ hj s fun H2 s2 => ⟨_, s2 _ _ e, ?_, ?_, Same.mut (s.trans s2) hD⟩
    · rw [List.length_map, List.length_range]
      exact small1000 (by omega)
    · rw [upd_same, List.range_succ, List.map_append]
      rfl
  · rintro H1 ⟨e, s⟩
    exact k D H1 hD e s
end
end Hf

namespace Hf
open PySem PySem.Spec PyProof.Rows L2
theorem plv_1 (s o d : Int) : plv s o d 1 = o + d := by
  unfold plv
  rw [show (1 : Int) / 2 = 0 from by decide, show (1 : Int) % 2 = 1 from by decide]
  omega
theorem plv_2 (s o d : Int) : plv s o d 2 = s + o := by
  unfold plv
  rw [show (2 : Int) / 2 = 1 from by decide, show (2 : Int) % 2 = 0 from by decide]
  omega
theorem plv_even (s o d h : Int) : plv s o d (2 * h) = s * h + o := by
  unfold plv
  rw [show 2 * h / 2 = h from by omega, show 2 * h % 2 = 0 from by omega]
  omega
theorem plv_odd (s o d h : Int) : plv s o d (2 * h + 1) = s * h + o + d := by
  unfold plv
  rw [show (2 * h + 1) / 2 = h from by omega, show (2 * h + 1) % 2 = 1 from by omega]
  omega
theorem plv_split {n : Int} (h : 1 ≤ n) : (∃ k, 1 ≤ k ∧ n = 2 * k) ∨ ∃ k, 0 ≤ k ∧ n = 2 * k + 1 := by
  rcases (show n % 2 = 0 ∨ n % 2 = 1 from by omega) with e | e
  · exact .inl ⟨n / 2, by omega, by omega⟩
  · exact .inr ⟨n / 2, by omega, by omega⟩
/-- at most 0 at all sizes -/
def ahead (s o d : Int) : Bool := decide (s ≤ 0) && (decide (plv s o d 1 ≤ 0) && decide (plv s o d 2 ≤ 0))
theorem ahead_iff {s o d : Int} : ahead s o d = true ↔ s ≤ 0 ∧ plv s o d 1 ≤ 0 ∧ plv s o d 2 ≤ 0 := by
  unfold ahead
  simp only [Bool.and_eq_true, decide_eq_true_eq]
theorem plv_le {s o d : Int} (h : s ≤ 0) (h1 : plv s o d 1 ≤ 0) (h2 : plv s o d 2 ≤ 0) {n : Int} (hn : 1 ≤ n) : plv s o d n ≤ 0 := by
  rw [plv_1] at h1
  rw [plv_2] at h2
  rcases plv_split hn with ⟨k, hk, rfl⟩ | ⟨k, hk, rfl⟩
  · rw [plv_even]
    have := Int.mul_le_mul_of_nonpos_left h hk
    omega
  · rw [plv_odd]
    have := Int.mul_nonpos_of_nonpos_of_nonneg h hk
    omega
/-- v is the first size at which the difference is above 0, None if there is none -/
def IsFirst (S O D : Int) (v : V) : Prop := (∃ n, v = .int n ∧ 1 ≤ n ∧ 0 < plv S O D n ∧ ∀ m, 1 ≤ m → m < n → plv S O D m ≤ 0) ∨ (v = .non ∧ ∀ m, 1 ≤ m → plv S O D m ≤ 0)
theorem IsFirst.same {S O D : Int} {v v' : V} (h : IsFirst S O D v) (h' : IsFirst S O D v') : v = v' := by
  rcases h with ⟨n, rfl, a, b, c⟩ | ⟨rfl, c⟩ <;> rcases h' with ⟨n', rfl, a', b', c'⟩ | ⟨rfl, c'⟩
  · have : n = n' := by
      rcases Int.lt_trichotomy n n' with h | h | h
      · have := c' n a h
        omega
      · exact h
      · have := c n' a' h
        omega
    rw [this]
  · have := c' n a
    omega
  · have := c n' a'
    omega
  · rfl
/-- the least size of a parity, of an ascending difference -/
theorem first_of {S O D : Int} (hS : 0 < S) (h1 : plv S O D 1 ≤ 0) (h2 : plv S O D 2 ≤ 0) {n : Int} (hn : n = 2 * ((0 - O - D * 0) / S + 1) + 0 ∨ n = 2 * ((0 - O - D * 1) / S + 1) + 1) (h3 : n ≤ 2 * ((0 - O - D * 0) / S + 1) + 0) (h4 : n ≤ 2 * ((0 - O - D * 1) / S + 1) + 1) : IsFirst S O D (.int n) := by
  rw [plv_1] at h1
  rw [plv_2] at h2
  have e0 : 0 - O - D * 0 = - O := by omega
  have e1 : 0 - O - D * 1 = - O - D := by omega
  rw [e0, e1] at hn
  rw [e0] at h3
  rw [e1] at h4
  clear e0 e1
  have d0 := Int.mul_ediv_self_le (x := -O) (k := S) (by omega)
  have d0' := Int.lt_mul_ediv_self_add (x := -O) hS
  have d1 := Int.mul_ediv_self_le (x := -O - D) (k := S) (by omega)
  have d1' := Int.lt_mul_ediv_self_add (x := -O - D) hS
  generalize hq : -O / S = q0 at *
  generalize hr : (-O - D) / S = q1 at *
  have b0 : 1 ≤ q0 := by
    rcases Int.lt_or_le q0 1 with h | h
    · have := Int.mul_le_mul_of_nonneg_left (show q0 ≤ 0 from by omega) (Int.le_of_lt hS)
      omega
    · exact h
  have b1 : 0 ≤ q1 := by
    rcases Int.lt_or_le q1 0 with h | h
    · have := Int.mul_le_mul_of_nonneg_left (show q1 ≤ -1 from by omega) (Int.le_of_lt hS)
      omega
    · exact h
  refine .inl ⟨n, rfl, by omega, ?_, fun m hm hlt => ?_⟩
  · rcases hn with e | e
    · rw [e, show 2 * (q0 + 1) + 0 = 2 * (q0 + 1) from by omega, plv_even, Int.mul_add]
      omega
    · rw [e, plv_odd, Int.mul_add]
      omega
  · rcases plv_split hm with ⟨k, hk, rfl⟩ | ⟨k, hk, rfl⟩
    · rw [plv_even]
      have := Int.mul_le_mul_of_nonneg_left (show k ≤ q0 from by omega) (Int.le_of_lt hS)
      omega
    · rw [plv_odd]
      have := Int.mul_le_mul_of_nonneg_left (show k ≤ q1 from by omega) (Int.le_of_lt hS)
      omega
theorem first_small {S O D n : Int} (h : IsFirst S O D (.int n)) (hO : -40 ≤ O) : n < 130 := by
  rcases h with ⟨n', e, a, b, c⟩ | ⟨e, _⟩
  · cases e
    rcases Int.lt_or_le n 130 with h | h
    · exact h
    · exfalso
      have c1 := c 1 (by omega) (by omega)
      have c2 := c 2 (by omega) (by omega)
      have c82 := c (2 * 41) (by omega) (by omega)
      rw [plv_even] at c82
      rcases Int.lt_or_le 0 S with hS | hS
      · omega
      · have := plv_le hS c1 c2 a
        omega
  · cases e
/-- the law's own look: sizes 1 to 129 -/
theorem first_look {S O D : Int} (hO : -40 ≤ O) {v : V} (h : (∃ n, v = .int n ∧ 1 ≤ n ∧ 0 < plv S O D n ∧ ∀ m, 1 ≤ m → m < n → plv S O D m ≤ 0) ∨ (v = .non ∧ ∀ m, 1 ≤ m → m < 130 → plv S O D m ≤ 0)) : IsFirst S O D v := by
  rcases h with h | ⟨rfl, h⟩
  · exact .inl h
  · refine .inr ⟨rfl, fun m hm => ?_⟩
    have c1 := h 1 (by omega) (by omega)
    have c2 := h 2 (by omega) (by omega)
    have c82 := h (2 * 41) (by omega) (by omega)
    rw [plv_even] at c82
    exact plv_le (by omega) c1 c2 hm
end Hf

namespace Hf
open PySem PySem.Spec PyProof.Rows L2
/-- not above 10 ^ 50 -/
abbrev Md (x : Int) : Prop := -100000000000000000000000000000000000000000000000000 ≤ x ∧ x ≤ 100000000000000000000000000000000000000000000000000
def spAhead : Sp := fun vs H Q _ => ∃ s o d : Int, vs = [.int s, .int o, .int d] ∧ Sm s ∧ Sm d ∧ Q (.bl (ahead s o d)) H
def spPlCmp (C : Addr) (f : Int → Int → Int → Int → Int → Int → Bool) : Sp := fun vs H Q _ => ∃ (p q : Addr) (s o d s' o' d' : Int), vs = [.ref p, .ref q] ∧ PlaceAt C H p s o d ∧ PlaceAt C H q s' o' d' ∧ Md s ∧ Md d ∧ Md s' ∧ Md d' ∧ Q (.bl (f s o d s' o' d')) H
def fLe (s o d s' o' d' : Int) : Bool := ahead (s - s') (o - o') (d - d')
def fLt (s o d s' o' d' : Int) : Bool := ahead (s - s') (o - o' + 1) (d - d')
def fGe (s o d s' o' d' : Int) : Bool := ahead (s' - s) (o' - o) (d' - d)
def fGt (s o d s' o' d' : Int) : Bool := ahead (s' - s) (o' - o + 1) (d' - d)
theorem use_cmp {C p q : Addr} {H : Hp} {s o d s' o' d' : Int} {f : Int → Int → Int → Int → Int → Int → Bool} {E : XK} {Q : VK} (h1 : PlaceAt C H p s o d) (h2 : PlaceAt C H q s' o' d') (b1 : Md s) (b2 : Md d) (b3 : Md s') (b4 : Md d') (k : Q (.bl (f s o d s' o' d')) H) : rCmp C (spPlCmp C f) E (.ref p) (.ref q) H Q := by
  obtain ⟨dx, f1⟩ := h1
  obtain ⟨dy, f2⟩ := h2
  exact ⟨p, dx, _, q, dy, _, rfl, rfl, f1, f2, p, q, s, o, d, s', o', d', rfl, ⟨dx, f1⟩, ⟨dy, f2⟩, b1, b2, b3, b4, k⟩
def spBeyond (C : Addr) : Sp := fun vs H Q _ => ∃ (p q : Addr) (s o d s' o' d' : Int), vs = [.ref p, .ref q] ∧ PlaceAt C H p s o d ∧ PlaceAt C H q s' o' d' ∧ Md s ∧ Md o ∧ Md d ∧ Md s' ∧ Md o' ∧ Md d' ∧ ∀ (v : V) (H' : Hp), IsFirst (s - s') (o - o') (d - d') v → Same H H' → Q v H'
/-- Place(slope, offset) -/
def spPlI2 (C : Addr) : Sp := fun vs H Q E => spPlI C (vs ++ [.int 0]) H Q E
theorem use_place2 {C : Addr} {H : Hp} {s o : Int} {Q : VK} {E : XK} (k : NewPl C H s o 0 Q) : MakeK C (spPlI2 C) E Q [.int s, .int o] H := use_place k
/-- two lists of data, equal or not: the test of != -/
theorem use_neD {K : PySem.W.Frag} {H : Hp} {x y : V} {d e : PyData} {Q : VK} (h1 : Dp K H x d) (h2 : Dp K H y e) (s1 : SeqAt.shaped d = true) (s2 : SeqAt.shaped e = true) (k : Q (.bl (!PyData.eqv d e)) H) : rNeD K x y H Q := ⟨d, e, h1, h2, s1, s2, k⟩
theorem use_min {K : PySem.W.Frag} {H : Hp} {a : Addr} {ns : List Int} {Q : VK} (h : H a = some (.lst (ns.map V.int))) (h0 : 0 < ns.length) (k : ∀ m, m ∈ ns → (∀ j ∈ ns, m ≤ j) → Q (.int m) H) : rMin K [.ref a] H Q := ⟨a, ns, rfl, SqL.of h, h0, k⟩
theorem use_max {K : PySem.W.Frag} {H : Hp} {a : Addr} {ns : List Int} {Q : VK} (h : H a = some (.lst (ns.map V.int))) (h0 : 0 < ns.length) (k : ∀ m, m ∈ ns → (∀ j ∈ ns, j ≤ m) → Q (.int m) H) : rMax K [.ref a] H Q := ⟨a, ns, rfl, SqL.of h, h0, k⟩
theorem half_sm {x S : Int} (h : -10000000000000000000000000000000000000000000000000000 ≤ x ∧ x ≤ 10000000000000000000000000000000000000000000000000000) : Sm (x / S + 1) := by
  have := Int.natAbs_ediv_le_natAbs x S
  exact ⟨by omega, by omega⟩
theorem rd_bm {K : PySem.W.Frag} {T : String} {r : V → List V → Hp → VK → Prop} {to : TE} {t : TA} {σ : L2.St} {H : Hp} {Q : VK} (q : to σ H fun x H1 => tyV K T x H1 ∧ t σ H1 fun xs H2 => r x xs H2 Q) : tBM K T r to t σ H Q := q
theorem use_append {H : Hp} {l : Addr} {xs : List V} {x : V} {Q : VK} (h : H l = some (.lst xs)) (hl : xs.length < 1000) (k : Q .non (upd H l (.lst (xs ++ [x])))) : rAppend (.ref l) [x] H Q := ⟨l, xs, x, rfl, rfl, h, small1000 (Nat.le_of_lt hl), k⟩
theorem is_lst {K : PySem.W.Frag} {H : Hp} {l : Addr} {xs : List V} {P : Prop} (h : H l = some (.lst xs)) (k : P) : tyV K "list" (.ref l) H ∧ P := ⟨.inl ⟨rfl, _, SqL.of h⟩, k⟩
theorem rd_int {σ : L2.St} {H : Hp} {i : Int} {Q : VK} (q : Q (.int i) H) : rInt [.int i] H Q := .inl ⟨i, rfl, q⟩
def spLDr4 : Sp := fun vs H Q _ => ∃ b : Addr, vs = [.ref b] ∧ Bag H b ∧ ∀ (p : Addr) (s o d : Int) (H' : Hp), H p = none → H' p = some (.lst [.int s, .int o, .int d]) → -2 ≤ s → s ≤ 4 → -9 ≤ o → o ≤ 9 → -1 ≤ d → d ≤ 2 → Bag H' b → Keep b H H' → Q (.ref p) H'
def spLNear (K : PySem.W.Frag) : Sp := fun vs H Q _ => ∃ (b a : Addr) (s o d : Int), vs = [.ref b, .ref a] ∧ Bag H b ∧ H a = some (.lst [.int s, .int o, .int d]) ∧ -2 ≤ s ∧ s ≤ 4 ∧ -9 ≤ o ∧ o ≤ 9 ∧ -1 ≤ d ∧ d ≤ 2 ∧ ∀ (p : Addr) (s o d : Int) (H' : Hp), H p = none → H' p = some (.lst [.int s, .int o, .int d]) → -3 ≤ s → s ≤ 5 → -11 ≤ o → o ≤ 11 → -2 ≤ d → d ≤ 3 → Bag H' b → Keep b H H' → Q (.ref p) H'
def spLGap (K : PySem.W.Frag) : Sp := fun vs H Q _ => ∃ (a c : Addr) (s o d s' o' d' n : Int), vs = [.ref a, .ref c, .int n] ∧ SqL K H a [.int s, .int o, .int d] ∧ SqL K H c [.int s', .int o', .int d'] ∧ Sm s ∧ Sm d ∧ Sm s' ∧ Sm d' ∧ Sm n ∧ Q (.int (plv (s - s') (o - o') (d - d') n)) H
def spLAlw (K : PySem.W.Frag) : Sp := fun vs H Q _ => ∃ (a c : Addr) (s o d s' o' d' m : Int), vs = [.ref a, .ref c, .int m] ∧ SqL K H a [.int s, .int o, .int d] ∧ SqL K H c [.int s', .int o', .int d'] ∧ Sm s ∧ Sm d ∧ Sm s' ∧ Sm d' ∧ Q (.bl (ahead (s - s') (o - o' - m) (d - d'))) H
def spLFst (K : PySem.W.Frag) : Sp := fun vs H Q _ => ∃ (a c : Addr) (s o d s' o' d' : Int), vs = [.ref a, .ref c] ∧ SqL K H a [.int s, .int o, .int d] ∧ SqL K H c [.int s', .int o', .int d'] ∧ Sm s ∧ Sm d ∧ Sm s' ∧ Sm d' ∧ -40 ≤ o - o' ∧ ∀ v, IsFirst (s - s') (o - o') (d - d') v → Q v H
end Hf

namespace Hf
open PySem PySem.Spec PyProof.Rows L2
section
variable {K : PySem.W.Frag} {H : Hp} {l : Addr} {Q : VK}
theorem use_repr4 {a b c d : Bool} (h : H l = some (.lst [.bl a, .bl b, .bl c, .bl d])) (k : Q (.str (PyData.list [.bool a, .bool b, .bool c, .bool d]).shown) H) : rRepr K [.ref l] H Q :=
  ⟨_, .list [.bool a, .bool b, .bool c, .bool d], rfl, .lst (SqL.of h) (.cons (.bl _) (.cons (.bl _) (.cons (.bl _) (.cons (.bl _) .nil)))), by cases a <;> cases b <;> cases c <;> cases d <;> decide +kernel, by cases a <;> cases b <;> cases c <;> cases d <;> decide +kernel, by cases a <;> cases b <;> cases c <;> cases d <;> decide +kernel, Nat.le_of_lt (small1000 (by cases a <;> cases b <;> cases c <;> cases d <;> decide +kernel)), k⟩
/-- a number or None, as data -/
def dv : V → PyData
  | .int i => .int i
  | _ => .none
theorem use_reprF {S O D : Int} {v : V} (h : IsFirst S O D v) (hO : -40 ≤ O) (k : Q (.str (dv v).shown) H) : rRepr K [v] H Q := by
  rcases id h with ⟨n, rfl, h1, _⟩ | ⟨rfl, _⟩
  · have hs := first_small h hO
    have f : ∀ m : Nat, m < 130 → (PyData.int (m : Int)).showable = true ∧ (PyData.int (m : Int)).hasDict = false ∧ (PyData.int (m : Int)).depth ≤ 60 ∧ (PyData.int (m : Int)).shown.length ≤ 1000 := by decide +kernel
    obtain ⟨m, rfl⟩ := Int.eq_ofNat_of_zero_le (show 0 ≤ n from by omega)
    obtain ⟨a, b, c, d⟩ := f m (by omega)
    exact ⟨_, .int m, rfl, .int _, a, b, c, Nat.le_of_lt (small1000 d), k⟩
  · exact ⟨_, .none, rfl, .non, by decide +kernel, by decide +kernel, by decide +kernel, Nat.le_of_lt (small1000 (by decide +kernel)), k⟩
/-- x != y of a thing with itself, as a test -/
theorem ne_no {x y : V} {A B : Prop} (e : x = y) (k : B) : if (!decide (x = y)) = true then A else B := by
  rw [decide_eq_true e]
  exact iteF k
theorem ite_keep {k : Bool} {A B : Prop} (b : B) (h : k = true → B → A) : if k = true then A else B := by
  cases k with
  | false => exact iteF b
  | true => exact iteT (h rfl b)
theorem ite_no {k : Bool} {A B : Prop} (e : k = false) (b : B) : if k = true then A else B := by
  rw [e]
  exact iteF b
theorem ite_yes {k : Bool} {A B : Prop} (e : k = true) (b : A) : if k = true then A else B := by
  rw [e]
  exact iteT b
theorem ahead_le {S O D : Int} (h : ahead S O D = true) {n : Int} (hn : 1 ≤ n) : plv S O D n ≤ 0 := by
  obtain ⟨a, b, c⟩ := ahead_iff.mp h
  exact plv_le a b c hn
theorem ahead_zero : ahead 0 0 0 = true := by decide
theorem ahead_one : ahead 0 1 0 = false := by decide
theorem first_zero : IsFirst 0 0 0 .non := .inr ⟨rfl, fun m _ => by unfold plv; omega⟩
theorem plv_neg (s o d s' o' d' n : Int) : plv (s' - s) (o' - o) (d' - d) n = - plv (s - s') (o - o') (d - d') n := by
  rw [plv_sub, plv_sub]
  omega
end
end Hf

namespace Kx
open PySem PySem.Spec PyProof.Rows L2 Hf
def top (i : Nat) : Stmt := PySem.Challenge.pw_heldfloods_k04_places_in_order.main.body.getD i (.Pass ⟨0, 0, 0, 0⟩)
abbrev s_is_whole : Stmt := (top 7)
theorem sc_is_whole : FnScope ["value"] ["value"] (defScope s_is_whole) := ⟨rfl, rfl, rfl, by decide +kernel, rfl, by decide +kernel, by decide +kernel⟩
abbrev s_value_at : Stmt := (top 9)
theorem sc_value_at : FnScope ["slope", "offset", "odd", "size"] ["slope", "offset", "odd", "size"] (defScope s_value_at) := ⟨rfl, rfl, rfl, by decide +kernel, rfl, by decide +kernel, by decide +kernel⟩
abbrev s_is_ahead : Stmt := (top 10)
theorem sc_is_ahead : FnScope ["slope", "offset", "odd"] ["slope", "offset", "odd"] (defScope s_is_ahead) := ⟨rfl, rfl, rfl, by decide +kernel, rfl, by decide +kernel, by decide +kernel⟩
abbrev s_Place_init : Stmt := (inClass (top 11) 0)
theorem sc_Place_init : FnScope ["self", "slope", "offset", "odd", "part", "value"] ["self", "slope", "offset", "odd"] (defScope s_Place_init) := ⟨rfl, rfl, rfl, by decide +kernel, rfl, by decide +kernel, by decide +kernel⟩
abbrev s_Place_call : Stmt := (inClass (top 11) 2)
theorem sc_Place_call : FnScope ["self", "size"] ["self", "size"] (defScope s_Place_call) := ⟨rfl, rfl, rfl, by decide +kernel, rfl, by decide +kernel, by decide +kernel⟩
abbrev s_Place_sub : Stmt := (inClass (top 11) 6)
theorem sc_Place_sub : FnScope ["self", "other"] ["self", "other"] (defScope s_Place_sub) := ⟨rfl, rfl, rfl, by decide +kernel, rfl, by decide +kernel, by decide +kernel⟩
abbrev s_Place_le : Stmt := (inClass (top 11) 9)
theorem sc_Place_le : FnScope ["self", "other"] ["self", "other"] (defScope s_Place_le) := ⟨rfl, rfl, rfl, by decide +kernel, rfl, by decide +kernel, by decide +kernel⟩
abbrev s_Place_lt : Stmt := (inClass (top 11) 10)
theorem sc_Place_lt : FnScope ["self", "other"] ["self", "other"] (defScope s_Place_lt) := ⟨rfl, rfl, rfl, by decide +kernel, rfl, by decide +kernel, by decide +kernel⟩
abbrev s_Place_ge : Stmt := (inClass (top 11) 11)
theorem sc_Place_ge : FnScope ["self", "other"] ["self", "other"] (defScope s_Place_ge) := ⟨rfl, rfl, rfl, by decide +kernel, rfl, by decide +kernel, by decide +kernel⟩
abbrev s_Place_gt : Stmt := (inClass (top 11) 12)
theorem sc_Place_gt : FnScope ["self", "other"] ["self", "other"] (defScope s_Place_gt) := ⟨rfl, rfl, rfl, by decide +kernel, rfl, by decide +kernel, by decide +kernel⟩
abbrev s_first_beyond : Stmt := (top 17)
theorem sc_first_beyond : FnScope ["one", "other", "gap", "found", "later", "parity", "half", "size"] ["one", "other"] (defScope s_first_beyond) := ⟨rfl, rfl, rfl, by decide +kernel, rfl, by decide +kernel, by decide +kernel⟩
abbrev s_l_bag : Stmt := (top 19)
theorem sc_l_bag : FnScope ["_law_script", "_law_state", "_law_cell"] ["_law_script"] (defScope s_l_bag) := ⟨rfl, rfl, rfl, by decide +kernel, rfl, by decide +kernel, by decide +kernel⟩
abbrev s_l_draw : Stmt := (top 20)
theorem sc_l_draw : FnScope ["_law_bag_here", "_law_limit", "_law_cell", "_law_mixed", "_law_found"] ["_law_bag_here", "_law_limit"] (defScope s_l_draw) := ⟨rfl, rfl, rfl, by decide +kernel, rfl, by decide +kernel, by decide +kernel⟩
abbrev s_l_at : Stmt := (top 22)
theorem sc_l_at : FnScope ["_law_parts_here", "_law_wide", "_law_half"] ["_law_parts_here", "_law_wide"] (defScope s_l_at) := ⟨rfl, rfl, rfl, by decide +kernel, rfl, by decide +kernel, by decide +kernel⟩
abbrev s_l_place : Stmt := (top 23)
theorem sc_l_place : FnScope ["_law_parts_here"] ["_law_parts_here"] (defScope s_l_place) := ⟨rfl, rfl, rfl, by decide +kernel, rfl, by decide +kernel, by decide +kernel⟩
abbrev s_l_drawn : Stmt := (top 24)
theorem sc_l_drawn : FnScope ["_law_bag_here"] ["_law_bag_here"] (defScope s_l_drawn) := ⟨rfl, rfl, rfl, by decide +kernel, rfl, by decide +kernel, by decide +kernel⟩
abbrev s_l_near : Stmt := (top 25)
theorem sc_l_near : FnScope ["_law_bag_here", "_law_parts_here", "_law_steep"] ["_law_bag_here", "_law_parts_here"] (defScope s_l_near) := ⟨rfl, rfl, rfl, by decide +kernel, rfl, by decide +kernel, by decide +kernel⟩
abbrev s_l_gap : Stmt := (top 26)
theorem sc_l_gap : FnScope ["_law_parts_here", "_law_others", "_law_size"] ["_law_parts_here", "_law_others", "_law_size"] (defScope s_l_gap) := ⟨rfl, rfl, rfl, by decide +kernel, rfl, by decide +kernel, by decide +kernel⟩
abbrev s_l_is_always : Stmt := (top 27)
theorem sc_l_is_always : FnScope ["_law_parts_here", "_law_others", "_law_most"] ["_law_parts_here", "_law_others", "_law_most"] (defScope s_l_is_always) := ⟨rfl, rfl, rfl, by decide +kernel, rfl, by decide +kernel, by decide +kernel⟩
abbrev s_l_first : Stmt := (top 28)
theorem sc_l_first : FnScope ["_law_parts_here", "_law_others", "_law_size"] ["_law_parts_here", "_law_others"] (defScope s_l_first) := ⟨rfl, rfl, rfl, by decide +kernel, rfl, by decide +kernel, by decide +kernel⟩
abbrev s_law : Stmt := (top 29)
theorem sc_law : FnScope ["_law_script", "_law_bag_here", "_law_turn", "_law_parts_here", "_law_others", "_law_one", "_law_other", "_law_due", "_law_told", "_law_gaps", "_law_low", "_law_high", "_law_far", "_law_none", "_law_size", "_law_gap_here"] ["_law_script"] (defScope s_law) := ⟨rfl, rfl, rfl, by decide +kernel, rfl, by decide +kernel, by decide +kernel⟩
structure Txt (K : PySem.W.Frag) (mg : Str → Option Value) : Prop where
  b_len : mg "len" = none
  b_abs : mg "abs" = none
  b_int : mg "int" = none
  b_list : mg "list" = none
  b_range : mg "range" = none
  b_isinstance : mg "isinstance" = none
  b_bool : mg "bool" = none
  b_min : mg "min" = none
  b_max : mg "max" = none
  b_repr : mg "repr" = none
end Kx

namespace Kx
open PySem PySem.Spec PyProof.Rows L2 Hf
local macro_rules | `(tactic| walk_at "r1") => `(tactic| with_reducible first
  | refine rd_seq ?_ | refine rd_bm ?_ | refine rd_lc ?_ | refine rd_yes ?_ | refine rd_for ?_ | refine rd_iList ?_ | refine rd_iTup ?_ | refine rd_iRng1 ?_ | refine rd_iRng2 ?_ | refine rd_asg ?_ | refine rd_gname ?_ | refine rd_ifS ?_ | refine rd_ret ?_ | refine rd_retN ?_ | refine rd_drop ?_ | refine rd_next ?_
  | refine rd_c ?_ | refine rd_op ?_ | refine rd_un ?_ | refine rd_cons ?_ | refine rd_nil ?_ | refine rd_test ?_ | refine rd_tB ?_ | refine rd_and ?_ | refine rd_or ?_ | refine rd_not ?_
  | refine rd_andV ?_ | refine rd_orV ?_ | refine rd_notV ?_ | refine rd_if ?_ | refine rd_cl ?_ | refine rd_methR ?_ | refine rd_makeR ?_ | refine rd_callO ?_ | refine rd_fld ?_ | refine rd_sfld ?_ | refine rd_cb ?_
  | refine rd_tupN ?_ | refine rd_lstN ?_ | refine rd_I0 ?_ | refine rd_U ?_ | refine rd_bl ?_ | refine rd_blP ?_ | refine rd_par ?_ | refine rd_par2 ?_ | refine rd_gcons ?_ | refine rd_gnil ?_)
local macro_rules | `(tactic| walk_at "rd") => `(tactic| repeat (first | walk_at "r1" | ((with_reducible refine' rd_var ?hh ?_); (case hh => exact rfl)) | ((with_reducible refine' rd_eq ?hh ?_); (case hh => exact rfl)) | ((with_reducible refine' rd_ne ?hh ?_); (case hh => exact rfl)) | ((with_reducible refine' rd_aug ?hh ?_); (case hh => exact rfl))))
local macro_rules | `(tactic| walk_at "pl") => `(tactic| repeat (first | walk_at "rd1" | (refine rd_fldK (by assumption) (PlC.cl (by assumption)) (by first | exact PlC.n1 (by assumption) | exact PlC.n2 (by assumption) | exact PlC.n3 (by assumption)) (by first | exact pl_slope | exact pl_offset | exact pl_odd) ?_)))
local macro_rules | `(tactic| walk_at "rd1") => `(tactic| first | walk_at "r1" | ((with_reducible refine' rd_var ?hh ?_); (case hh => exact rfl)) | ((with_reducible refine' rd_eq ?hh ?_); (case hh => exact rfl)) | ((with_reducible refine' rd_ne ?hh ?_); (case hh => exact rfl)) | ((with_reducible refine' rd_aug ?hh ?_); (case hh => exact rfl)))
local macro_rules | `(tactic| walk_at "lf") => `(tactic| first | assumption | (refine PlaceAt.same ?_ (by assumption); walk_at "lf") | (refine PlaceAt.keep ?_ (by assumption) (by assumption); walk_at "lf"))
local macro_rules | `(tactic| walk_at "lo") => `(tactic| first | assumption | (refine (by assumption : Same _ _) _ _ ?_; walk_at "lo") | (refine (by assumption : Keep _ _ _) _ _ ?_ (by assumption); walk_at "lo"))
section
variable {P : Program} {w : World} {K : PySem.W.Frag} {mg : Str → Option Value} {base : Heap}

theorem ok_l_bag (T : Txt K mg) (D : DefAt K mg "_law_bag" s_l_bag ["_law_script"]) : Cal P w K mg base 1 "_law_bag" (spBag K) := by
  obtain ⟨f, fd, hm, F, b⟩ := D
  refine ⟨f, fnR0 F b sc_l_bag (fun vs H Q E h => ?_) (fun cdv A outer s H vs Q E hr h => ⟨t_bag K 7 69621 11, ?_, pure_bag K (by decide) (by decide) (by decide) (by decide) (by decide) vs H Q E h rfl⟩), hm, F.kp⟩
  · obtain ⟨a, ns, rfl, _⟩ := h
    rfl
  · exact (pss_cons (ps_set (i := 1) sc_l_bag.nd rfl (Or.inl rfl) pe_int)
  (pss_cons (ps_for PassesOwn.never rfl (pi_list (pe_slice sl_list (pv 0) po_none (po_some pe_int))) (pg_name (i := 2) sc_l_bag.nd rfl (Or.inl rfl))
  (pss_one (ps_set (i := 1) sc_l_bag.nd rfl (Or.inl rfl) (pe_op op_mod (pe_callTy call_int1 (by rfl) T.b_int (by decide +kernel) (pa_cons (pe_op op_add (pe_op op_add (pe_op op_mulW (pv 1) pe_int) (pe_op op_mod (pe_callB call_abs (by rfl) T.b_abs (by decide +kernel) (pa_cons (pv 2) pa_nil)) pe_int)) pe_int) pa_nil)) pe_int))))
  (pss_one (ps_ret (pe_disp (pps_cons pe_str (pe_callTy call_list_of (by rfl) T.b_list (by decide +kernel) (pa_cons (pe_slice sl_list (pv 0) po_none (po_some pe_int)) pa_nil)) (pps_cons pe_str pe_int (pps_cons pe_str pe_int (pps_cons pe_str (pv 1) pps_nil)))) (by rfl) (by rfl) (fun z => by cases z) (by decide))))))
theorem ok_l_draw (T : Txt K mg) (D : DefAt K mg "_law_draw" s_l_draw ["_law_bag_here", "_law_limit"]) : Cal P w K mg base 1 "_law_draw" spDraw := by
  obtain ⟨f, fd, hm, F, b⟩ := D
  refine ⟨f, fnR0 F b sc_l_draw (fun vs H Q E h => ?_) (fun cdv A outer s H vs Q E hr h => ?_), hm, F.kp⟩
  · obtain ⟨b, n, rfl, _⟩ := h
    rfl
  · have hu := hu_of hr
    refine ⟨t_draw K 48271 13, ?_, pure_draw K (by decide) (by decide) (by decide) vs H Q E h rfl⟩
    exact (pss_cons (ps_while PassesOwn.never (pw_and (pt_cmpR op_lt (pe_dget hu (pv 0) pe_str (fun _ _ => rfl)) pe_int (nomark _)) (pw_and1 (pt_cmpR op_lt (pe_dget hu (pv 0) pe_str (fun _ _ => rfl)) (pe_callB call_len_seq (by rfl) T.b_len (by decide +kernel) (pa_cons (pe_dget hu (pv 0) pe_str (fun _ _ => rfl)) pa_nil)) (nomark _)))).pt
  (pss_cons (ps_set (i := 2) sc_l_draw.nd rfl (Or.inl rfl) (pe_callB call_abs (by rfl) T.b_abs (by decide +kernel) (pa_cons (pe_ix ix_list (pe_dget hu (pv 0) pe_str (fun _ _ => rfl)) (pe_dget hu (pv 0) pe_str (fun _ _ => rfl)) (fun _ _ => rfl)) pa_nil)))
  (pss_cons (ps_dput hu (pv 0) pe_str (pe_op op_add (pe_dget hu (pv 0) pe_str (fun _ _ => rfl)) pe_int) rfl)
  (pss_cons (ps_if (pt_cmpR op_lt (pv 2) (pe_op op_pow pe_int pe_int) (nomark _)) (pss_cons (ps_set (i := 3) sc_l_draw.nd rfl (Or.inl rfl) (pe_op op_mod (pe_callTy call_int1 (by rfl) T.b_int (by decide +kernel) (pa_cons (pe_op op_add (pe_op op_pow (pe_op op_add (pv 2) pe_int) pe_int) (pe_op op_mulW (pe_dget hu (pv 0) pe_str (fun _ _ => rfl)) (pe_op op_add (pe_dget hu (pv 0) pe_str (fun _ _ => rfl)) pe_int))) pa_nil)) pe_int))
  (pss_one (ps_ret (pe_op op_mod (pv 3) (pv 1))))) pss_nil)
  (pss_one (ps_dput hu (pv 0) pe_str (pv 2) rfl))))))
  (pss_cons (ps_if (pt_cmpR op_ge (pe_dget hu (pv 0) pe_str (fun _ _ => rfl)) pe_int (nomark _)) (pss_cons (ps_set (i := 4) sc_l_draw.nd rfl (Or.inl rfl) (pe_op op_mod (pe_callTy call_int1 (by rfl) T.b_int (by decide +kernel) (pa_cons (pe_dget hu (pv 0) pe_str (fun _ _ => rfl)) pa_nil)) (pv 1)))
  (pss_cons (ps_dput hu (pv 0) pe_str (pe_op op_fdivW (pe_dget hu (pv 0) pe_str (fun _ _ => rfl)) (pv 1)) rfl)
  (pss_one (ps_ret (pv 4))))) pss_nil)
  (pss_cons (ps_dput hu (pv 0) pe_str (pe_op op_mod (pe_callTy call_int1 (by rfl) T.b_int (by decide +kernel) (pa_cons (pe_op op_add (pe_op op_mulW (pe_dget hu (pv 0) pe_str (fun _ _ => rfl)) pe_int) pe_int) pa_nil)) pe_int) rfl)
  (pss_one (ps_ret (pe_op op_mod (pe_op op_mod (pe_callTy call_int1 (by rfl) T.b_int (by decide +kernel) (pa_cons (pe_op op_pow (pe_dget hu (pv 0) pe_str (fun _ _ => rfl)) pe_int) pa_nil)) pe_int) (pv 1)))))))

theorem ok_is_whole (T : Txt K mg) (D : DefAt K mg "is_whole" s_is_whole ["value"]) : Cal P w K mg base 1 "is_whole" (spWhole K) := by
  obtain ⟨f, fd, hm, F, b⟩ := D
  refine ⟨f, fnR0 F b sc_is_whole (fun vs H Q E h => ?_) (fun cdv A outer s H vs Q E hr h => ?_), hm, F.kp⟩
  · obtain ⟨v, t, b1, b2, rfl, ty, h1, h2, k⟩ := h
    rfl
  · obtain ⟨v, t, b1, b2, rfl, ty, h1, h2, k⟩ := h
    have hu := hu_of hr
    refine ⟨_, (pss_one (ps_ret (pe_and (pe_callB call_isi (by rfl) T.b_isinstance (by decide +kernel) (pa_cons (pv 0) (pa_cons (pe_tInt T.b_int) pa_nil))) (pe_one (pe_not (pe_callB call_isi (by rfl) T.b_isinstance (by decide +kernel) (pa_cons (pv 0) (pa_cons (pe_tBool T.b_bool) pa_nil)))))))), ?_⟩
    try dsimp only [cxOf, Cx.nox, Cx.wish, List.map]
    refine ⟨_, rfl, _, _, t, _, b1, rfl, .ty "int", ty, h1, b1, rfl, ?_⟩
    cases b1 with
    | false => exact iteF k
    | true => exact iteT ⟨_, rfl, _, _, t, _, b2, rfl, .ty "bool", ty, h2, b2, rfl, k⟩

theorem ok_value_at (T : Txt K mg) (D : DefAt K mg "value_at" s_value_at ["slope", "offset", "odd", "size"]) : Cal P w K mg base 1 "value_at" spVal := by
  obtain ⟨f, fd, hm, F, b⟩ := D
  refine ⟨f, fnR0 F b sc_value_at (fun vs H Q E h => ?_) (fun cdv A outer s H vs Q E hr h => ?_), hm, F.kp⟩
  · obtain ⟨s, o, d, n, rfl, hs, hd, hn, k⟩ := h
    rfl
  · obtain ⟨s, o, d, n, rfl, hs, hd, hn, k⟩ := h
    have hu := hu_of hr
    refine ⟨_, (pss_one (ps_ret (pe_op op_add (pe_op op_add (pe_op op_mulW (pv 0) (pe_op op_fdivW (pv 3) pe_int)) (pv 1)) (pe_op op_mulW (pv 2) (pe_op op_mod (pv 3) pe_int))))), ?_⟩
    try dsimp only [cxOf, Cx.nox, Cx.wish, List.map]
    have h2 : Sm (n / 2) := ⟨by have := hn.1; omega, by have := hn.2; omega⟩
    have h3 : Sm (n % 2) := ⟨by omega, by omega⟩
    exact ⟨_, rfl, _, rfl, _, _, rfl, rfl, ⟨by decide, by decide⟩, _, _, rfl, rfl, hs.mul h2, _, rfl, _, _, rfl, rfl, _, rfl, _, rfl, _, _, rfl, rfl, (by show (0 : Int) < 2; decide), _, _, rfl, rfl, hd.mul h3, _, _, rfl, rfl, k⟩

theorem ok_Place_init {C : Addr} (T : Txt K mg) (C0 : PlC K mg C) (c_is_whole : Cal P w K mg base 1 "is_whole" (spWhole K)) {f : Addr} {fd : FuncData} {dvs : List V} {kws : List (Str × V)} (F : FunD K "__init__" "Place.__init__" (defArgs s_Place_init) (defBody s_Place_init) (defScope s_Place_init) dvs kws f fd) {ps : List Str} (hps : ps = (["self", "slope", "offset", "odd"] : List Str)) : FnOk P w K mg base (L2.CX P w) 2 f fd ps (spPlI C) := by
  subst hps
  refine fnOkD F sc_Place_init (fun vs H Q E h => ?_) (fun cdv A outer s H vs Q E hr h => ?_)
  · obtain ⟨p, dx, s, o, d, rfl, _⟩ := h
    rfl
  · obtain ⟨p, dx, s, o, d, rfl, hp, k⟩ := h
    refine ⟨_, (pss_cons (ps_for PassesOwn.never rfl (pi_tup (pe_tup (pa_cons (pe_tup (pa_cons pe_str (pa_cons (pv 1) pa_nil))) (pa_cons (pe_tup (pa_cons pe_str (pa_cons (pv 2) pa_nil))) (pa_cons (pe_tup (pa_cons pe_str (pa_cons (pv 3) pa_nil))) pa_nil))))) (pg_tup rfl (pgs_cons (pg_name (i := 4) sc_Place_init.nd rfl (Or.inl rfl)) (pgs_cons (pg_name (i := 5) sc_Place_init.nd rfl (Or.inl rfl)) pgs_nil)))
  (pss_one (ps_if (pt_not (pt_val (pe_cl c_is_whole hr passL (pa_cons (pv 5) pa_nil)))) pss_never pss_nil)))
  (pss_cons (ps_fld (pv 0) (pv 1) rfl)
  (pss_cons (ps_fld (pv 0) (pv 2) rfl)
  (pss_one (ps_fld (pv 0) (pv 3) rfl))))), ?_⟩
    refine ⟨_, rfl, (by show 2 ≤ sizeLine; decide), fun t1 n1 => ⟨_, rfl, (by show 2 ≤ sizeLine; decide), fun t2 n2 => ⟨_, rfl, (by show 2 ≤ sizeLine; decide), fun t3 n3 => ⟨(by show 3 ≤ sizeLine; decide), fun t4 n4 => ?_⟩⟩⟩⟩
    have s1 := Same.new (o := .tup [.str "slope", .int s]) n1
    have s2 := Same.new (o := .tup [.str "offset", .int o]) n2
    have s3 := Same.new (o := .tup [.str "odd", .int d]) n3
    have s4 := Same.new (o := .tup [.ref t1, .ref t2, .ref t3]) n4
    have e1 := s4 _ _ (s3 _ _ (s2 _ _ upd_same))
    have e2 := s4 _ _ (s3 _ _ upd_same)
    have e3 := s4 _ _ upd_same
    have ep := s4 _ _ (s3 _ _ (s2 _ _ (s1 _ _ hp)))
    have sm := ((s1.trans s2).trans s3).trans s4
    generalize hH4 : upd _ t4 _ = H4 at *
    have e4 : H4 t4 = some (.tup [.ref t1, .ref t2, .ref t3]) := by rw [← hH4]; exact upd_same
    clear hH4
    refine ⟨t4, rfl, ⟨_, SqT.of e4⟩, for_tup (K := K) (a := t4) (xs := [.ref t1, .ref t2, .ref t3]) (fun i σ H' => ∃ (v4 v5 : Option V), σ = [some (.ref p), some (.int s), some (.int o), some (.int d), v4, v5] ∧ H' = H4)
      ⟨none, none, rfl, rfl⟩ (fun i σ H' _ ⟨_, _, _, e⟩ => by rw [e]; exact SqT.of e4) ?_ ?_⟩
    · rintro i y σ H' hi ⟨v4, v5, rfl, rfl⟩
      match i, hi with
      | 0, hi =>
        cases hi
        refine rd_gtup (SqT.of e1) rfl ?_
        walk_at "rd"
        refine wh_int ?_
        walk_at "rd"
        exact iteF ⟨_, _, rfl, rfl⟩
      | 1, hi =>
        cases hi
        refine rd_gtup (SqT.of e2) rfl ?_
        walk_at "rd"
        refine wh_int ?_
        walk_at "rd"
        exact iteF ⟨_, _, rfl, rfl⟩
      | 2, hi =>
        cases hi
        refine rd_gtup (SqT.of e3) rfl ?_
        walk_at "rd"
        refine wh_int ?_
        walk_at "rd"
        exact iteF ⟨_, _, rfl, rfl⟩
      | i + 3, hi => simp at hi
    · rintro σ H' ⟨v4, v5, rfl, rfl⟩
      refine ⟨_, rfl, _, rfl, p, C, dx, [], rfl, ep, C0.cl, C0.n1, (by show 0 < 1000; decide), ?_⟩
      refine ⟨_, rfl, _, rfl, p, C, dx, _, rfl, upd_same, C0.cl, C0.n2, (by show 1 < 1000; decide), ?_⟩
      refine ⟨_, rfl, _, rfl, p, C, dx, _, rfl, upd_same, C0.cl, C0.n3, ?_, ?_⟩
      · rw [pf_nil, pf_miss f_so, pf_nil]
        show 2 < 1000
        decide
      · refine k _ (Eq.trans upd_same (congrArg (fun l => some (HO.ins C dx l)) pl_make)) fun b u e n => ?_
        rw [upd_ne n, upd_ne n, upd_ne n]
        exact sm b u e

theorem ok_Place_call {C : Addr} (T : Txt K mg) (C0 : PlC K mg C) (c_is_whole : Cal P w K mg base 1 "is_whole" (spWhole K)) (c_value_at : Cal P w K mg base 1 "value_at" spVal) (D : MetAt K C "__call__" "Place.__call__" s_Place_call ["self", "size"]) : Met P w K mg base 2 C "__call__" (spPlAt C) := by
  obtain ⟨f, fd, hm, F, b⟩ := D
  refine ⟨f, fnR0 F b sc_Place_call (fun vs H Q E h => ?_) (fun cdv A outer s H vs Q E hr h => ?_), hm⟩
  · obtain ⟨p, s, o, d, n, rfl, ⟨dx, hp⟩, hs, hd, hn, h1, k⟩ := h
    rfl
  · obtain ⟨p, s, o, d, n, rfl, ⟨dx, hp⟩, hs, hd, hn, h1, k⟩ := h
    have hu := hu_of hr
    refine ⟨_, (pss_cons (ps_if (pw_or (pt_not (pt_val (pe_cl c_is_whole hr passL (pa_cons (pv 1) pa_nil)))) (pw_or1 (pt_cmpR op_lt (pv 1) pe_int (nomark _)))).pt pss_never pss_nil)
  (pss_one (ps_ret (pe_cl c_value_at hr passL (pa_cons (pe_fld (pv 0) rfl) (pa_cons (pe_fld (pv 0) rfl) (pa_cons (pe_fld (pv 0) rfl) (pa_cons (pv 1) pa_nil)))))))), ?_⟩
    try dsimp only [cxOf, Cx.nox, Cx.wish, List.map]
    walk_at "rd"
    refine wh_int ?_
    walk_at "rd"
    refine iteF ?_
    walk_at "rd"
    refine ite_f (decide_eq_false (by omega)) ?_
    walk_at "pl"
    exact ⟨_, _, _, _, rfl, hs, hd, hn, k⟩

theorem ok_Place_sub {C : Addr} (T : Txt K mg) (C0 : PlC K mg C) (M_Place : Mak P w K mg base 2 "Place" C (spPlI C)) (D : MetAt K C "__sub__" "Place.__sub__" s_Place_sub ["self", "other"]) : Met P w K mg base 4 C "__sub__" (spPlSub C) := by
  obtain ⟨f, fd, hm, F, b⟩ := D
  refine ⟨f, fnR0 F b sc_Place_sub (fun vs H Q E h => ?_) (fun cdv A outer s H vs Q E hr h => ?_), hm⟩
  · obtain ⟨p, s, o, d, _, ⟨q, s', o', d', rfl, _⟩ | ⟨k, rfl, _⟩⟩ := h <;> rfl
  · obtain ⟨p, s, o, d, ⟨dx, hp⟩, h⟩ := h
    have hu := hu_of hr
    refine ⟨_, (pss_cons (ps_if (pt_val (pe_callB call_isi (by rfl) T.b_isinstance (by decide +kernel) (pa_cons (pv 1) (pa_cons (pe_glob (v := .ref C) (by rfl) C0.g rfl) pa_nil)))) (pss_one (ps_ret (pe_ma M_Place hr passL (pa_cons (pe_op op_sub (pe_fld (pv 0) rfl) (pe_fld (pv 1) rfl)) (pa_cons (pe_op op_sub (pe_fld (pv 0) rfl) (pe_fld (pv 1) rfl)) (pa_cons (pe_op op_sub (pe_fld (pv 0) rfl) (pe_fld (pv 1) rfl)) pa_nil)))))) pss_nil)
  (pss_one (ps_ret (pe_ma M_Place hr passL (pa_cons (pe_fld (pv 0) rfl) (pa_cons (pe_op op_sub (pe_fld (pv 0) rfl) (pv 1)) (pa_cons (pe_fld (pv 0) rfl) pa_nil))))))), ?_⟩
    try dsimp only [cxOf, Cx.nox, Cx.wish, List.map]
    rcases h with ⟨q, s', o', d', rfl, ⟨dy, hq⟩, k⟩ | ⟨k', rfl, k⟩
    · walk_at "rd"
      refine rd_isi (.own C) (C0.ty hq) kit_self ?_
      walk_at "rd"
      refine iteT ?_
      walk_at "pl"
      exact use_place k
    · walk_at "rd"
      refine rd_isi (.own C) (.base (.int k')) C0.kI ?_
      walk_at "rd"
      refine iteF ?_
      walk_at "pl"
      exact use_place k

theorem ok_is_ahead (T : Txt K mg) (c_value_at : Cal P w K mg base 1 "value_at" spVal) (D : DefAt K mg "is_ahead" s_is_ahead ["slope", "offset", "odd"]) : Cal P w K mg base 2 "is_ahead" spAhead := by
  obtain ⟨f, fd, hm, F, b⟩ := D
  refine ⟨f, fnR0 F b sc_is_ahead (fun vs H Q E h => ?_) (fun cdv A outer s H vs Q E hr h => ?_), hm, F.kp⟩
  · obtain ⟨s, o, d, rfl, hs, hd, k⟩ := h
    rfl
  · obtain ⟨s, o, d, rfl, hs, hd, k⟩ := h
    have hu := hu_of hr
    refine ⟨_, (pss_one (ps_ret (pe_and (pe_cmpR op_le (pv 0) pe_int (nomark _)) (pe_and (pe_cmpR op_le (pe_cl c_value_at hr passL (pa_cons (pv 0) (pa_cons (pv 1) (pa_cons (pv 2) (pa_cons pe_int pa_nil))))) pe_int (nomark _)) (pe_one (pe_cmpR op_le (pe_cl c_value_at hr passL (pa_cons (pv 0) (pa_cons (pv 1) (pa_cons (pv 2) (pa_cons pe_int pa_nil))))) pe_int (nomark _))))))), ?_⟩
    try dsimp only [cxOf, Cx.nox, Cx.wish, List.map]
    unfold ahead at k
    walk_at "rd"
    refine ite_split (fun h1 => ?_) (fun h1 => ?_)
    · rw [h1, Bool.true_and] at k
      walk_at "rd"
      refine ⟨s, o, d, 1, rfl, hs, hd, ⟨by decide, by decide⟩, ?_⟩
      walk_at "rd"
      refine ite_split (fun h2 => ?_) (fun h2 => ?_)
      · rw [show decide (plv s o d 1 ≤ 0) = true from h2, Bool.true_and] at k
        walk_at "rd"
        refine ⟨s, o, d, 2, rfl, hs, hd, ⟨by decide, by decide⟩, ?_⟩
        walk_at "rd"
        exact k
      · rw [show decide (plv s o d 1 ≤ 0) = false from h2, Bool.false_and] at k
        exact k
    · rw [h1, Bool.false_and] at k
      exact k

theorem ok_Place_le {C : Addr} (T : Txt K mg) (C0 : PlC K mg C) (c_is_ahead : Cal P w K mg base 2 "is_ahead" spAhead) (D : MetAt K C "__le__" "Place.__le__" s_Place_le ["self", "other"]) : Met P w K mg base 3 C "__le__" (spPlCmp C fLe) := by
  obtain ⟨f, fd, hm, F, b⟩ := D
  refine ⟨f, fnR0 F b sc_Place_le (fun vs H Q E h => ?_) (fun cdv A outer s H vs Q E hr h => ?_), hm⟩
  · obtain ⟨p, q, s, o, d, s', o', d', rfl, ⟨dx, hp⟩, ⟨dy, hq⟩, b1, b2, b3, b4, k⟩ := h
    rfl
  · obtain ⟨p, q, s, o, d, s', o', d', rfl, ⟨dx, hp⟩, ⟨dy, hq⟩, b1, b2, b3, b4, k⟩ := h
    have hu := hu_of hr
    refine ⟨_, (pss_cons (ps_if (pt_not (pt_val (pe_callB call_isi (by rfl) T.b_isinstance (by decide +kernel) (pa_cons (pv 1) (pa_cons (pe_glob (v := .ref C) (by rfl) C0.g rfl) pa_nil))))) pss_never pss_nil)
  (pss_one (ps_ret (pe_cl c_is_ahead hr passL (pa_cons (pe_op op_sub (pe_fld (pv 0) rfl) (pe_fld (pv 1) rfl)) (pa_cons (pe_op op_sub (pe_fld (pv 0) rfl) (pe_fld (pv 1) rfl)) (pa_cons (pe_op op_sub (pe_fld (pv 0) rfl) (pe_fld (pv 1) rfl)) pa_nil))))))), ?_⟩
    try dsimp only [cxOf, Cx.nox, Cx.wish, List.map]
    walk_at "rd"
    refine rd_isi (.own C) (C0.ty hq) kit_self ?_
    walk_at "rd"
    refine iteF ?_
    walk_at "pl"
    exact ⟨_, _, _, rfl, ⟨by omega, by omega⟩, ⟨by omega, by omega⟩, k⟩

theorem ok_Place_lt {C : Addr} (T : Txt K mg) (C0 : PlC K mg C) (c_is_ahead : Cal P w K mg base 2 "is_ahead" spAhead) (D : MetAt K C "__lt__" "Place.__lt__" s_Place_lt ["self", "other"]) : Met P w K mg base 3 C "__lt__" (spPlCmp C fLt) := by
  obtain ⟨f, fd, hm, F, b⟩ := D
  refine ⟨f, fnR0 F b sc_Place_lt (fun vs H Q E h => ?_) (fun cdv A outer s H vs Q E hr h => ?_), hm⟩
  · obtain ⟨p, q, s, o, d, s', o', d', rfl, ⟨dx, hp⟩, ⟨dy, hq⟩, b1, b2, b3, b4, k⟩ := h
    rfl
  · obtain ⟨p, q, s, o, d, s', o', d', rfl, ⟨dx, hp⟩, ⟨dy, hq⟩, b1, b2, b3, b4, k⟩ := h
    have hu := hu_of hr
    refine ⟨_, (pss_cons (ps_if (pt_not (pt_val (pe_callB call_isi (by rfl) T.b_isinstance (by decide +kernel) (pa_cons (pv 1) (pa_cons (pe_glob (v := .ref C) (by rfl) C0.g rfl) pa_nil))))) pss_never pss_nil)
  (pss_one (ps_ret (pe_cl c_is_ahead hr passL (pa_cons (pe_op op_sub (pe_fld (pv 0) rfl) (pe_fld (pv 1) rfl)) (pa_cons (pe_op op_add (pe_op op_sub (pe_fld (pv 0) rfl) (pe_fld (pv 1) rfl)) pe_int) (pa_cons (pe_op op_sub (pe_fld (pv 0) rfl) (pe_fld (pv 1) rfl)) pa_nil))))))), ?_⟩
    try dsimp only [cxOf, Cx.nox, Cx.wish, List.map]
    walk_at "rd"
    refine rd_isi (.own C) (C0.ty hq) kit_self ?_
    walk_at "rd"
    refine iteF ?_
    walk_at "pl"
    exact ⟨_, _, _, rfl, ⟨by omega, by omega⟩, ⟨by omega, by omega⟩, k⟩

theorem ok_Place_ge {C : Addr} (T : Txt K mg) (C0 : PlC K mg C) (c_is_ahead : Cal P w K mg base 2 "is_ahead" spAhead) (D : MetAt K C "__ge__" "Place.__ge__" s_Place_ge ["self", "other"]) : Met P w K mg base 3 C "__ge__" (spPlCmp C fGe) := by
  obtain ⟨f, fd, hm, F, b⟩ := D
  refine ⟨f, fnR0 F b sc_Place_ge (fun vs H Q E h => ?_) (fun cdv A outer s H vs Q E hr h => ?_), hm⟩
  · obtain ⟨p, q, s, o, d, s', o', d', rfl, ⟨dx, hp⟩, ⟨dy, hq⟩, b1, b2, b3, b4, k⟩ := h
    rfl
  · obtain ⟨p, q, s, o, d, s', o', d', rfl, ⟨dx, hp⟩, ⟨dy, hq⟩, b1, b2, b3, b4, k⟩ := h
    have hu := hu_of hr
    refine ⟨_, (pss_cons (ps_if (pt_not (pt_val (pe_callB call_isi (by rfl) T.b_isinstance (by decide +kernel) (pa_cons (pv 1) (pa_cons (pe_glob (v := .ref C) (by rfl) C0.g rfl) pa_nil))))) pss_never pss_nil)
  (pss_one (ps_ret (pe_cl c_is_ahead hr passL (pa_cons (pe_op op_sub (pe_fld (pv 1) rfl) (pe_fld (pv 0) rfl)) (pa_cons (pe_op op_sub (pe_fld (pv 1) rfl) (pe_fld (pv 0) rfl)) (pa_cons (pe_op op_sub (pe_fld (pv 1) rfl) (pe_fld (pv 0) rfl)) pa_nil))))))), ?_⟩
    try dsimp only [cxOf, Cx.nox, Cx.wish, List.map]
    walk_at "rd"
    refine rd_isi (.own C) (C0.ty hq) kit_self ?_
    walk_at "rd"
    refine iteF ?_
    walk_at "pl"
    exact ⟨_, _, _, rfl, ⟨by omega, by omega⟩, ⟨by omega, by omega⟩, k⟩

theorem ok_Place_gt {C : Addr} (T : Txt K mg) (C0 : PlC K mg C) (c_is_ahead : Cal P w K mg base 2 "is_ahead" spAhead) (D : MetAt K C "__gt__" "Place.__gt__" s_Place_gt ["self", "other"]) : Met P w K mg base 3 C "__gt__" (spPlCmp C fGt) := by
  obtain ⟨f, fd, hm, F, b⟩ := D
  refine ⟨f, fnR0 F b sc_Place_gt (fun vs H Q E h => ?_) (fun cdv A outer s H vs Q E hr h => ?_), hm⟩
  · obtain ⟨p, q, s, o, d, s', o', d', rfl, ⟨dx, hp⟩, ⟨dy, hq⟩, b1, b2, b3, b4, k⟩ := h
    rfl
  · obtain ⟨p, q, s, o, d, s', o', d', rfl, ⟨dx, hp⟩, ⟨dy, hq⟩, b1, b2, b3, b4, k⟩ := h
    have hu := hu_of hr
    refine ⟨_, (pss_cons (ps_if (pt_not (pt_val (pe_callB call_isi (by rfl) T.b_isinstance (by decide +kernel) (pa_cons (pv 1) (pa_cons (pe_glob (v := .ref C) (by rfl) C0.g rfl) pa_nil))))) pss_never pss_nil)
  (pss_one (ps_ret (pe_cl c_is_ahead hr passL (pa_cons (pe_op op_sub (pe_fld (pv 1) rfl) (pe_fld (pv 0) rfl)) (pa_cons (pe_op op_add (pe_op op_sub (pe_fld (pv 1) rfl) (pe_fld (pv 0) rfl)) pe_int) (pa_cons (pe_op op_sub (pe_fld (pv 1) rfl) (pe_fld (pv 0) rfl)) pa_nil))))))), ?_⟩
    try dsimp only [cxOf, Cx.nox, Cx.wish, List.map]
    walk_at "rd"
    refine rd_isi (.own C) (C0.ty hq) kit_self ?_
    walk_at "rd"
    refine iteF ?_
    walk_at "pl"
    exact ⟨_, _, _, rfl, ⟨by omega, by omega⟩, ⟨by omega, by omega⟩, k⟩
end
end Kx

namespace Kx
open PySem PySem.Spec PyProof.Rows L2 Hf
local macro_rules | `(tactic| walk_at "r1") => `(tactic| with_reducible first
  | refine rd_seq ?_ | refine rd_bm ?_ | refine rd_lc ?_ | refine rd_yes ?_ | refine rd_for ?_ | refine rd_iList ?_ | refine rd_iTup ?_ | refine rd_iRng1 ?_ | refine rd_iRng2 ?_ | refine rd_asg ?_ | refine rd_gname ?_ | refine rd_ifS ?_ | refine rd_ret ?_ | refine rd_retN ?_ | refine rd_drop ?_ | refine rd_next ?_
  | refine rd_c ?_ | refine rd_op ?_ | refine rd_un ?_ | refine rd_cons ?_ | refine rd_nil ?_ | refine rd_test ?_ | refine rd_tB ?_ | refine rd_and ?_ | refine rd_or ?_ | refine rd_not ?_
  | refine rd_andV ?_ | refine rd_orV ?_ | refine rd_notV ?_ | refine rd_if ?_ | refine rd_cl ?_ | refine rd_methR ?_ | refine rd_makeR ?_ | refine rd_callO ?_ | refine rd_fld ?_ | refine rd_sfld ?_ | refine rd_cb ?_
  | refine rd_tupN ?_ | refine rd_lstN ?_ | refine rd_I0 ?_ | refine rd_U ?_ | refine rd_bl ?_ | refine rd_blP ?_ | refine rd_par ?_ | refine rd_par2 ?_ | refine rd_gcons ?_ | refine rd_gnil ?_)
local macro_rules | `(tactic| walk_at "rd") => `(tactic| repeat (first | walk_at "r1" | ((with_reducible refine' rd_var ?hh ?_); (case hh => exact rfl)) | ((with_reducible refine' rd_eq ?hh ?_); (case hh => exact rfl)) | ((with_reducible refine' rd_ne ?hh ?_); (case hh => exact rfl)) | ((with_reducible refine' rd_aug ?hh ?_); (case hh => exact rfl))))
local macro_rules | `(tactic| walk_at "pl") => `(tactic| repeat (first | walk_at "rd1" | (refine rd_fldK (by assumption) (PlC.cl (by assumption)) (by first | exact PlC.n1 (by assumption) | exact PlC.n2 (by assumption) | exact PlC.n3 (by assumption)) (by first | exact pl_slope | exact pl_offset | exact pl_odd) ?_)))
local macro_rules | `(tactic| walk_at "rd1") => `(tactic| first | walk_at "r1" | ((with_reducible refine' rd_var ?hh ?_); (case hh => exact rfl)) | ((with_reducible refine' rd_eq ?hh ?_); (case hh => exact rfl)) | ((with_reducible refine' rd_ne ?hh ?_); (case hh => exact rfl)) | ((with_reducible refine' rd_aug ?hh ?_); (case hh => exact rfl)))
local macro_rules | `(tactic| walk_at "lf") => `(tactic| first | assumption | (refine PlaceAt.same ?_ (by assumption); walk_at "lf") | (refine PlaceAt.keep ?_ (by assumption) (by assumption); walk_at "lf"))
local macro_rules | `(tactic| walk_at "lo") => `(tactic| first | assumption | (refine (by assumption : Same _ _) _ _ ?_; walk_at "lo") | (refine (by assumption : Keep _ _ _) _ _ ?_ (by assumption); walk_at "lo"))
section
variable {P : Program} {w : World} {K : PySem.W.Frag} {mg : Str → Option Value} {base : Heap}

theorem ok_first_beyond {C : Addr} (T : Txt K mg) (C0 : PlC K mg C) (m_sub : Met P w K mg base 4 C "__sub__" (spPlSub C)) (m_call : Met P w K mg base 2 C "__call__" (spPlAt C)) (fi : ∀ g, Opr K C "__call__" g → PySem.W.fnIn K g = true) (D : DefAt K mg "first_beyond" s_first_beyond ["one", "other"]) : Cal P w K mg base 5 "first_beyond" (spBeyond C) := by
  obtain ⟨f, fd, hm, F, b⟩ := D
  refine ⟨f, fnR0 F b sc_first_beyond (fun vs H Q E h => ?_) (fun cdv A outer s H vs Q E hr h => ?_), hm, F.kp⟩
  · obtain ⟨p, q, s, o, d, s', o', d', rfl, hp, hq, b1, b2, b3, b4, b5, b6, k⟩ := h
    rfl
  · obtain ⟨p, q, s, o, d, s', o', d', rfl, hp, hq, b1, b2, b3, b4, b5, b6, k⟩ := h
    have hu := hu_of hr
    refine ⟨_, (pss_cons (ps_set (i := 2) sc_first_beyond.nd rfl (Or.inr rfl) (pe_op (op_binM (op := .Sub) C0.sf m_sub hr passL) (pv 0) (pv 1)))
  (pss_cons (ps_setLc (i := 3) (own := [("size", 7)]) (by rfl) sc_first_beyond.nd rfl rfl (sw_true rfl rfl rfl (by decide +kernel)) (pi_tup (pe_tup (pa_cons pe_int (pa_cons pe_int pa_nil)))) (blkOk_by (own := [("size", 7)]) (N := ["one", "other", "gap", "found", "later", "parity", "half", "size"]) (sc := defScope s_first_beyond) (by decide +kernel)) (fun _ _ _ _ _ => (pg_name (i := 7) sc_first_beyond.nd rfl (Or.inl rfl))) (fun _ _ _ _ _ => (pts_one (pt_cmpR op_gt (pe_callM (pv 2) m_call fi hr passL (pa_cons (pv 7) pa_nil)) pe_int (nomark _)))) (fun _ _ _ _ _ => (pv 7)))
  (pss_cons (ps_if (pt_cmpR (op_neD hr.units) (pv 3) (pe_lst pa_nil) (nomark _)) (pss_one (ps_ret (pe_ix ix_list (pv 3) pe_int (fun _ _ => rfl)))) pss_nil)
  (pss_cons (ps_if (pt_cmpR op_le (pe_fld (pv 2) rfl) pe_int (nomark _)) (pss_one (ps_ret pe_non)) pss_nil)
  (pss_cons (ps_set (i := 4) sc_first_beyond.nd rfl (Or.inl rfl) (pe_lst pa_nil))
  (pss_cons (ps_for PassesOwn.never rfl (pi_tup (pe_tup (pa_cons pe_int (pa_cons pe_int pa_nil)))) (pg_name (i := 5) sc_first_beyond.nd rfl (Or.inl rfl))
  (pss_cons (ps_set (i := 6) sc_first_beyond.nd rfl (Or.inl rfl) (pe_op op_add (pe_op op_fdivW (pe_op op_sub (pe_op op_sub pe_int (pe_fld (pv 2) rfl)) (pe_op op_mulW (pe_fld (pv 2) rfl) (pv 5))) (pe_fld (pv 2) rfl)) pe_int))
  (pss_one (ps_expr (pe_bm PySem.F.plainAttrs_list PySem.F.slot_list_append PySem.F.type_list_append mt_append (pv 4) (pa_cons (pe_op op_add (pe_op op_mulW pe_int (pv 6)) (pv 5)) pa_nil))))))
  (pss_one (ps_ret (pe_callB (cr_min rfl) (by rfl) T.b_min (by decide +kernel) (pa_cons (pe_lc (own := [("size", 7)]) (by rfl) sc_first_beyond.nd (pi_list (pv 4)) (blkOk_by (own := [("size", 7)]) (N := ["one", "other", "gap", "found", "later", "parity", "half", "size"]) (sc := defScope s_first_beyond) (by decide +kernel)) (fun _ _ _ _ _ => (pg_name (i := 7) sc_first_beyond.nd rfl (Or.inl rfl))) (fun _ _ _ _ _ => pts_nil) (fun _ _ _ _ _ => (pe_callTy call_int1 (by rfl) T.b_int (by decide +kernel) (pa_cons (pv 7) pa_nil)))) pa_nil)))))))))), ?_⟩
    try dsimp only [cxOf, Cx.nox, Cx.wish, List.map]
    walk_at "rd"
    refine use_sub hp hq fun g H1 n1 hg s1 => ?_
    have bS : Sm (s - s') := ⟨by omega, by omega⟩
    have bD : Sm (d - d') := ⟨by omega, by omega⟩
    have bO : -1000000000000000000000000000000000000000000000000000 ≤ o - o' ∧ o - o' ≤ 1000000000000000000000000000000000000000000000000000 := ⟨by omega, by omega⟩
    have bD' : -1000000000000000000000000000000000000000000000000000 ≤ d - d' ∧ d - d' ≤ 1000000000000000000000000000000000000000000000000000 := ⟨by omega, by omega⟩
    generalize s - s' = S at *
    generalize o - o' = O at *
    generalize d - d' = D at *
    walk_at "rd"
    refine new_tup (by show 2 ≤ 1000; decide) fun t H2 n2 e2 s2 => ?_
    have hg2 := hg.same s2
    obtain ⟨l1, hl1⟩ : ∃ l1 : List Int, l1 = if 0 < plv S O D 1 then [1] else [] := ⟨_, rfl⟩
    obtain ⟨l2, hl2⟩ : ∃ l2 : List Int, l2 = l1 ++ if 0 < plv S O D 2 then [2] else [] := ⟨_, rfl⟩
    refine ⟨t, rfl, ⟨_, SqT.of e2⟩, fun R hR => lc_tup (K := K) (a := t) (xs := [.int 1, .int 2]) (g := gName 7) (te := tVar 7) (vs := [7]) (Qd := fun H => _) (fun j H' => H' R = some (.lst ((if j = 0 then [] else if j = 1 then l1 else l2).map V.int)) ∧ Same H2 H') ⟨upd_same, Same.new hR⟩ (fun j H' _ ⟨_, s⟩ => SqT.of (s _ _ e2)) ?_ ?_⟩
    · rintro j x H3 hx ⟨e3, s3⟩
      have hg3 := hg2.same s3
      match j, hx, e3 with
      | 0, hx, e3 =>
        cases hx
        refine rd_gname ⟨wipe1, ?_⟩
        walk_at "rd"
        refine ⟨g, rfl, ?_⟩
        walk_at "rd"
        refine use_at hg3 bS bD ⟨by decide, by decide⟩ (by decide) ?_
        walk_at "rd"
        refine ite_split (fun h => ?_) (fun h => ?_)
        · walk_at "rd"
          refine ⟨_, e3, (by show 0 < sizeLine; decide), ?_, Same.mut s3 hR⟩
          rw [upd_same, hl1, if_pos (of_decide_eq_true h)]
          rfl
        · refine ⟨?_, s3⟩
          rw [e3, hl1, if_neg (of_decide_eq_false h)]
          rfl
      | 1, hx, e3 =>
        cases hx
        refine rd_gname ⟨wipe1, ?_⟩
        walk_at "rd"
        refine ⟨g, rfl, ?_⟩
        walk_at "rd"
        refine use_at hg3 bS bD ⟨by decide, by decide⟩ (by decide) ?_
        walk_at "rd"
        have hlen : (l1.map V.int).length < sizeLine := by
          rw [List.length_map, hl1]
          split <;> decide
        refine ite_split (fun h => ?_) (fun h => ?_)
        · walk_at "rd"
          refine ⟨_, e3, hlen, ?_, Same.mut s3 hR⟩
          rw [upd_same, hl2, if_pos (of_decide_eq_true h)]
          show some (HO.lst (l1.map V.int ++ [V.int 2])) = some (HO.lst ((l1 ++ [2]).map V.int))
          rw [List.map_append]
          rfl
        · refine ⟨?_, s3⟩
          rw [e3, hl2, if_neg (of_decide_eq_false h), List.append_nil]
          rfl
      | j + 2, hx, e3 => simp at hx
    rintro H3 ⟨e3, s3⟩
    have e3 : H3 R = some (.lst (l2.map V.int)) := e3
    have hg3 := hg2.same s3
    have S1 := s1.trans (s2.trans s3)
    walk_at "rd"
    refine new_lst (by decide) fun e4 H4 n4 h4 s4 => ?_
    refine use_neD (Dp.lst (SqL.of (s4 _ _ e3)) (dp_ints l2)) (Dp.lst (SqL.of h4) .nil) (shp_ints l2) rfl ?_
    walk_at "rd"
    have hg4 := hg3.same s4
    have S2 := S1.trans s4
    rcases hl : l2 with _ | ⟨z, r⟩
    · -- nothing found
      have k1 : plv S O D 1 ≤ 0 := by
        rcases Int.lt_or_le 0 (plv S O D 1) with h | h
        · rw [hl1, if_pos h, hl] at hl2
          cases hl2
        · exact h
      have k2 : plv S O D 2 ≤ 0 := by
        rcases Int.lt_or_le 0 (plv S O D 2) with h | h
        · rw [if_pos h, hl] at hl2
          rcases l1 with _ | ⟨y, r⟩ <;> cases hl2
        · exact h
      refine ite_f rfl ?_
      obtain ⟨dx, eg⟩ := id hg4
      walk_at "pl"
      refine ite_split (fun h => ?_) (fun h => ?_)
      · walk_at "rd"
        exact k _ _ (.inr ⟨rfl, fun m hm => plv_le (of_decide_eq_true h) k1 k2 hm⟩) S2
      · have hS : 0 < S := Int.lt_of_not_ge (of_decide_eq_false h)
        walk_at "rd"
        refine new_lst (by decide) fun L H5 n5 h5 s5 => ?_
        walk_at "rd"
        refine new_tup (by show 2 ≤ 1000; decide) fun t2 H6 n6 h6 s6 => ?_
        have S3 := S2.trans (s5.trans s6)
        have nR : H L = none := S2.free n5
        obtain ⟨m0, hm0⟩ : ∃ m0, m0 = 2 * ((0 - O - D * 0) / S + 1) + 0 := ⟨_, rfl⟩
        obtain ⟨m1, hm1⟩ : ∃ m1, m1 = 2 * ((0 - O - D * 1) / S + 1) + 1 := ⟨_, rfl⟩
        refine ⟨t2, rfl, ⟨_, SqT.of h6⟩, for_tup (K := K) (a := t2) (xs := [.int 0, .int 1]) (fun j σ H' => ∃ v5 v6 v7 : Option V, σ = [some (.ref p), some (.ref q), some (.ref g), some (.ref R), some (.ref L), v5, v6, v7] ∧ H' L = some (.lst ((if j = 0 then [] else if j = 1 then [m0] else [m0, m1]).map V.int)) ∧ Same H4 H' ∧ H' t2 = some (.tup [.int 0, .int 1]))
          ⟨_, _, _, rfl, s6 _ _ h5, s5.trans s6, h6⟩ (fun j σ H' _ ⟨_, _, _, _, _, _, e⟩ => SqT.of e) ?_ ?_⟩
        · rintro j x σ H7 hx ⟨v5, v6, v7, rfl, e7, s7, f7⟩
          have eg7 := s7 _ _ eg
          match j, hx, e7 with
          | 0, hx, e7 =>
            cases hx
            walk_at "pl"
            refine rd_I (Sm.mul bD ⟨by decide, by decide⟩) ?_
            walk_at "pl"
            refine rd_I ⟨hS, ?_⟩ ?_
            · exact Nat.lt_of_lt_of_le (PySem.Flt.log2_lt_of (by decide) bS.nat) (by decide)
            walk_at "pl"
            refine is_lst e7 ?_
            walk_at "rd"
            refine rd_I (Sm.mul ⟨by decide, by decide⟩ (half_sm ⟨by omega, by omega⟩)) ?_
            walk_at "rd"
            refine use_append e7 (by show 0 < 1000; decide) ?_
            refine ⟨_, _, _, rfl, ?_, Same.mut s7 n5, ?_⟩
            · rw [upd_same, hm0]
              rfl
            · rw [upd_ne (ne_of f7 e7 (by intro z; cases z))]
              exact f7
          | 1, hx, e7 =>
            cases hx
            walk_at "pl"
            refine rd_I (Sm.mul bD ⟨by decide, by decide⟩) ?_
            walk_at "pl"
            refine rd_I ⟨hS, ?_⟩ ?_
            · exact Nat.lt_of_lt_of_le (PySem.Flt.log2_lt_of (by decide) bS.nat) (by decide)
            walk_at "pl"
            refine is_lst e7 ?_
            walk_at "rd"
            refine rd_I (Sm.mul ⟨by decide, by decide⟩ (half_sm ⟨by omega, by omega⟩)) ?_
            walk_at "rd"
            refine use_append e7 (by show 1 < 1000; decide) ?_
            refine ⟨_, _, _, rfl, ?_, Same.mut s7 n5, ?_⟩
            · rw [upd_same, hm1]
              rfl
            · rw [upd_ne (ne_of f7 e7 (by intro z; cases z))]
              exact f7
          | j + 2, hx, e7 => simp at hx
        · rintro σ H7 ⟨v5, v6, v7, rfl, e7, s7, f7⟩
          have e7 : H7 L = some (.lst ([m0, m1].map V.int)) := e7
          walk_at "rd"
          refine lc_mapL (fun v => v) (SqL.of e7) (by show 2 ≤ 1000; decide) (fun j x H8 R' hx s8 kR => ?_) fun D' H8 n8 e8 s8 => ?_
          · have hm := List.mem_of_getElem? hx
            obtain ⟨z, hz⟩ : ∃ z, x = V.int z := by
              obtain ⟨z, _, rfl⟩ := List.mem_map.mp hm
              exact ⟨z, rfl⟩
            subst hz
            walk_at "rd"
            exact .inl ⟨_, rfl, kR H8 (Same.refl _)⟩
          · walk_at "rd"
            rw [List.map_id'] at e8
            refine use_min e8 (by show 0 < 2; decide) fun m hm hle => ?_
            have h0 := hle m0 (by simp)
            have h1 := hle m1 (by simp)
            simp only [List.mem_cons, List.not_mem_nil, or_false] at hm
            exact k _ _ (first_of hS k1 k2 (by rw [← hm0, ← hm1]; exact hm) (by rw [← hm0]; exact h0) (by rw [← hm1]; exact h1)) (S2.trans (s7.trans s8))
    · refine ite_t rfl ?_
      walk_at "rd"
      rw [hl] at e3
      refine ⟨R, _, _, V.int z, rfl, rfl, SqL.of (s4 _ _ e3), atI_nat (j := 0) rfl, ?_⟩
      refine k _ _ ?_ S2
      rw [hl] at hl2
      by_cases h1 : 0 < plv S O D 1
      · rw [hl1, if_pos h1] at hl2
        cases hl2
        exact .inl ⟨1, rfl, by decide, h1, fun m hm hlt => by omega⟩
      · rw [hl1, if_neg h1] at hl2
        by_cases h2 : 0 < plv S O D 2
        · rw [if_pos h2] at hl2
          cases hl2
          refine .inl ⟨2, rfl, by decide, h2, fun m hm hlt => ?_⟩
          rw [show m = 1 from by omega]
          omega
        · rw [if_neg h2] at hl2
          cases hl2
end
end Kx

namespace Kx
open PySem PySem.Spec PyProof.Rows L2 Hf
local macro_rules | `(tactic| walk_at "r1") => `(tactic| with_reducible first
  | refine rd_seq ?_ | refine rd_bm ?_ | refine rd_lc ?_ | refine rd_yes ?_ | refine rd_for ?_ | refine rd_iList ?_ | refine rd_iTup ?_ | refine rd_iRng1 ?_ | refine rd_iRng2 ?_ | refine rd_asg ?_ | refine rd_gname ?_ | refine rd_ifS ?_ | refine rd_ret ?_ | refine rd_retN ?_ | refine rd_drop ?_ | refine rd_next ?_
  | refine rd_c ?_ | refine rd_op ?_ | refine rd_un ?_ | refine rd_cons ?_ | refine rd_nil ?_ | refine rd_test ?_ | refine rd_tB ?_ | refine rd_and ?_ | refine rd_or ?_ | refine rd_not ?_
  | refine rd_andV ?_ | refine rd_orV ?_ | refine rd_notV ?_ | refine rd_if ?_ | refine rd_cl ?_ | refine rd_methR ?_ | refine rd_makeR ?_ | refine rd_callO ?_ | refine rd_fld ?_ | refine rd_sfld ?_ | refine rd_cb ?_
  | refine rd_tupN ?_ | refine rd_lstN ?_ | refine rd_I0 ?_ | refine rd_U ?_ | refine rd_bl ?_ | refine rd_blP ?_ | refine rd_par ?_ | refine rd_par2 ?_ | refine rd_gcons ?_ | refine rd_gnil ?_)
local macro_rules | `(tactic| walk_at "rd") => `(tactic| repeat (first | walk_at "r1" | ((with_reducible refine' rd_var ?hh ?_); (case hh => exact rfl)) | ((with_reducible refine' rd_eq ?hh ?_); (case hh => exact rfl)) | ((with_reducible refine' rd_ne ?hh ?_); (case hh => exact rfl)) | ((with_reducible refine' rd_aug ?hh ?_); (case hh => exact rfl))))
local macro_rules | `(tactic| walk_at "pl") => `(tactic| repeat (first | walk_at "rd1" | (refine rd_fldK (by assumption) (PlC.cl (by assumption)) (by first | exact PlC.n1 (by assumption) | exact PlC.n2 (by assumption) | exact PlC.n3 (by assumption)) (by first | exact pl_slope | exact pl_offset | exact pl_odd) ?_)))
local macro_rules | `(tactic| walk_at "rd1") => `(tactic| first | walk_at "r1" | ((with_reducible refine' rd_var ?hh ?_); (case hh => exact rfl)) | ((with_reducible refine' rd_eq ?hh ?_); (case hh => exact rfl)) | ((with_reducible refine' rd_ne ?hh ?_); (case hh => exact rfl)) | ((with_reducible refine' rd_aug ?hh ?_); (case hh => exact rfl)))
local macro_rules | `(tactic| walk_at "lf") => `(tactic| first | assumption | (refine PlaceAt.same ?_ (by assumption); walk_at "lf") | (refine PlaceAt.keep ?_ (by assumption) (by assumption); walk_at "lf"))
local macro_rules | `(tactic| walk_at "lo") => `(tactic| first | assumption | (refine (by assumption : Same _ _) _ _ ?_; walk_at "lo") | (refine (by assumption : Keep _ _ _) _ _ ?_ (by assumption); walk_at "lo"))
section
variable {P : Program} {w : World} {K : PySem.W.Frag} {mg : Str → Option Value} {base : Heap}

theorem ok_l_at (T : Txt K mg) (D : DefAt K mg "_law_at" s_l_at ["_law_parts_here", "_law_wide"]) : Cal P w K mg base 1 "_law_at" (spLAt K) := by
  obtain ⟨f, fd, hm, F, b⟩ := D
  refine ⟨f, fnR0 F b sc_l_at (fun vs H Q E h => ?_) (fun cdv A outer s H vs Q E hr h => ?_), hm, F.kp⟩
  · obtain ⟨a, s, o, d, n, rfl, hS, hs, hd, hn, k⟩ := h
    rfl
  · obtain ⟨a, s, o, d, n, rfl, hS, hs, hd, hn, k⟩ := h
    have hu := hu_of hr
    refine ⟨_, (pss_cons (ps_set (i := 2) sc_l_at.nd rfl (Or.inl rfl) (pe_op op_fdivW (pv 1) pe_int))
  (pss_one (ps_ret (pe_op op_add (pe_op op_add (pe_op op_mulW (pe_ix ix_list (pv 0) pe_int (fun _ _ => rfl)) (pv 2)) (pe_ix ix_list (pv 0) pe_int (fun _ _ => rfl))) (pe_op op_mulW (pe_ix ix_list (pv 0) pe_int (fun _ _ => rfl)) (pe_op op_sub (pv 1) (pe_op op_mulW pe_int (pv 2)))))))), ?_⟩
    try dsimp only [cxOf, Cx.nox, Cx.wish, List.map]
    have h2 : Sm (n / 2) := ⟨by have := hn.1; omega, by have := hn.2; omega⟩
    have h3 : Sm (n - 2 * (n / 2)) := ⟨by omega, by omega⟩
    refine ⟨_, rfl, _, _, rfl, rfl, ⟨by decide, by decide⟩, ?_⟩
    refine ⟨_, rfl, a, _, _, _, rfl, rfl, hS, rfl, _, rfl, _, _, rfl, rfl, hs.mul h2, _, rfl, a, _, _, _, rfl, rfl, hS, rfl, _, _, rfl, rfl, _, rfl, a, _, _, _, rfl, rfl, hS, rfl, _, rfl, _, rfl, _, _, rfl, rfl, ?_, _, _, rfl, rfl, _, _, rfl, rfl, hd.mul h3, _, _, rfl, rfl, ?_⟩
    · exact Sm.mul ⟨by decide, by decide⟩ h2
    · have e : s * (n / 2) + o + d * (n - 2 * (n / 2)) = plv s o d n := by
        unfold plv
        rw [show n - 2 * (n / 2) = n % 2 from by omega]
      show Q (.int (s * (n / 2) + o + d * (n - 2 * (n / 2)))) H
      rw [e]
      exact k

theorem ok_l_place {C : Addr} (T : Txt K mg) (C0 : PlC K mg C) (M_Place : Mak P w K mg base 2 "Place" C (spPlI C)) (D : DefAt K mg "_law_place" s_l_place ["_law_parts_here"]) : Cal P w K mg base 4 "_law_place" (spLPl K C) := by
  obtain ⟨f, fd, hm, F, b⟩ := D
  refine ⟨f, fnR0 F b sc_l_place (fun vs H Q E h => ?_) (fun cdv A outer s H vs Q E hr h => ?_), hm, F.kp⟩
  · obtain ⟨a, s, o, d, rfl, hS, k⟩ := h
    rfl
  · obtain ⟨a, s, o, d, rfl, hS, k⟩ := h
    have hu := hu_of hr
    refine ⟨_, (pss_one (ps_ret (pe_ma M_Place hr passL (pa_cons (pe_ix ix_list (pv 0) pe_int (fun _ _ => rfl)) (pa_cons (pe_ix ix_list (pv 0) pe_int (fun _ _ => rfl)) (pa_cons (pe_ix ix_list (pv 0) pe_int (fun _ _ => rfl)) pa_nil)))))), ?_⟩
    try dsimp only [cxOf, Cx.nox, Cx.wish, List.map]
    walk_at "rd"
    refine ⟨a, _, _, _, rfl, rfl, hS, rfl, ?_⟩
    walk_at "rd"
    refine ⟨a, _, _, _, rfl, rfl, hS, rfl, ?_⟩
    walk_at "rd"
    refine ⟨a, _, _, _, rfl, rfl, hS, rfl, ?_⟩
    walk_at "rd"
    exact use_place k

theorem ok_l_drawn (T : Txt K mg) (c_l_draw : Cal P w K mg base 1 "_law_draw" spDraw) (D : DefAt K mg "_law_drawn" s_l_drawn ["_law_bag_here"]) : Cal P w K mg base 2 "_law_drawn" spLDr4 := by
  obtain ⟨f, fd, hm, F, b⟩ := D
  refine ⟨f, fnR0 F b sc_l_drawn (fun vs H Q E h => ?_) (fun cdv A outer s H vs Q E hr h => ?_), hm, F.kp⟩
  · obtain ⟨b, rfl, B, k⟩ := h
    rfl
  · obtain ⟨b, rfl, B, k⟩ := h
    have hu := hu_of hr
    refine ⟨_, (pss_one (ps_ret (pe_lst (pa_cons (pe_op op_sub (pe_cl c_l_draw hr passL (pa_cons (pv 0) (pa_cons pe_int pa_nil))) pe_int) (pa_cons (pe_op op_sub (pe_cl c_l_draw hr passL (pa_cons (pv 0) (pa_cons pe_int pa_nil))) pe_int) (pa_cons (pe_op op_sub (pe_cl c_l_draw hr passL (pa_cons (pv 0) (pa_cons pe_int pa_nil))) pe_int) pa_nil)))))), ?_⟩
    try dsimp only [cxOf, Cx.nox, Cx.wish, List.map]
    walk_at "rd"
    refine use_draw B (by decide) (by decide) fun i1 H2 l1 u1 B2 k2 => ?_
    walk_at "rd"
    refine use_draw B2 (by decide) (by decide) fun i2 H3 l2 u2 B3 k3 => ?_
    walk_at "rd"
    refine use_draw B3 (by decide) (by decide) fun i3 H4 l3 u3 B4 k4 => ?_
    walk_at "rd"
    refine new_lst (by show 3 ≤ 1000; decide) fun p H6 n6 e6 s6 => ?_
    have kk := (k2.trans k3).trans k4
    refine k p _ _ _ H6 ?_ e6 (by omega) (by omega) (by omega) (by omega) (by omega) (by omega) (B4.same s6) (kk.trans (Keep.of s6))
    cases e : H p with
    | none => rfl
    | some o =>
      have := kk p o e (B4.ne n6)
      rw [n6] at this
      cases this

theorem ok_l_near (T : Txt K mg) (c_l_draw : Cal P w K mg base 1 "_law_draw" spDraw) (D : DefAt K mg "_law_near" s_l_near ["_law_bag_here", "_law_parts_here"]) : Cal P w K mg base 2 "_law_near" (spLNear K) := by
  obtain ⟨f, fd, hm, F, b⟩ := D
  refine ⟨f, fnR0 F b sc_l_near (fun vs H Q E h => ?_) (fun cdv A outer s H vs Q E hr h => ?_), hm, F.kp⟩
  · obtain ⟨b, a, s, o, d, rfl, B, ha, c1, c2, c3, c4, c5, c6, k⟩ := h
    rfl
  · obtain ⟨b, a, s, o, d, rfl, B, ha, c1, c2, c3, c4, c5, c6, k⟩ := h
    have hu := hu_of hr
    refine ⟨_, (pss_cons (ps_set (i := 2) sc_l_near.nd rfl (Or.inl rfl) (pe_op op_add (pe_ix ix_list (pv 1) pe_int (fun _ _ => rfl)) (pe_ix ix_list (pe_lst (pa_cons pe_int (pa_cons pe_int (pa_cons pe_int (pa_cons (pe_un un_neg pe_int) pa_nil))))) (pe_cl c_l_draw hr passL (pa_cons (pv 0) (pa_cons pe_int pa_nil))) (fun _ _ => rfl))))
  (pss_one (ps_ret (pe_lst (pa_cons (pv 2) (pa_cons (pe_op op_sub (pe_op op_add (pe_ix ix_list (pv 1) pe_int (fun _ _ => rfl)) (pe_cl c_l_draw hr passL (pa_cons (pv 0) (pa_cons pe_int pa_nil)))) pe_int) (pa_cons (pe_op op_sub (pe_op op_add (pe_ix ix_list (pv 1) pe_int (fun _ _ => rfl)) (pe_cl c_l_draw hr passL (pa_cons (pv 0) (pa_cons pe_int pa_nil)))) pe_int) pa_nil))))))), ?_⟩
    try dsimp only [cxOf, Cx.nox, Cx.wish, List.map]
    have nab : a ≠ b := by
      obtain ⟨c, cs, x1, x2, x3, x4, _⟩ := B
      exact ne_of ha x4 (by intro z; cases z)
    walk_at "rd"
    refine ⟨a, _, _, _, rfl, rfl, SqL.of ha, rfl, ?_⟩
    walk_at "rd"
    refine new_lst (by show 4 ≤ 1000; decide) fun l H1 n1 e1 s1 => ?_
    walk_at "rd"
    refine use_draw (B.same s1) (by decide) (by decide) fun i1 H2 l1 u1 B2 k2 => ?_
    have e2 := k2 _ _ e1 (B.ne n1)
    obtain ⟨z, hz, hz'⟩ : ∃ z : Int, atI [V.int 0, V.int 0, V.int 1, V.int (-1)] i1 = some (.int z) ∧ (-1 ≤ z ∧ z ≤ 1) := by
      have : i1 = 0 ∨ i1 = 1 ∨ i1 = 2 ∨ i1 = 3 := by omega
      rcases this with rfl | rfl | rfl | rfl
      · exact ⟨0, rfl, by decide⟩
      · exact ⟨0, rfl, by decide⟩
      · exact ⟨1, rfl, by decide⟩
      · exact ⟨-1, rfl, by decide⟩
    refine ⟨l, _, _, _, rfl, rfl, SqL.of e2, hz, ?_⟩
    have ha2 := k2 _ _ (s1 _ _ ha) nab
    walk_at "rd"
    refine ⟨a, _, _, _, rfl, rfl, SqL.of ha2, rfl, ?_⟩
    walk_at "rd"
    refine use_draw B2 (by decide) (by decide) fun i2 H3 l2 u2 B3 k3 => ?_
    have ha3 := k3 _ _ ha2 nab
    walk_at "rd"
    refine ⟨a, _, _, _, rfl, rfl, SqL.of ha3, rfl, ?_⟩
    walk_at "rd"
    refine use_draw B3 (by decide) (by decide) fun i3 H4 l3 u3 B4 k4 => ?_
    walk_at "rd"
    refine new_lst (by show 3 ≤ 1000; decide) fun p H6 n6 e6 s6 => ?_
    have kk := ((Keep.of s1).trans k2).trans (k3.trans k4)
    refine k p _ _ _ H6 ?_ e6 (by omega) (by omega) (by omega) (by omega) (by omega) (by omega) (B4.same s6) (kk.trans (Keep.of s6))
    cases e : H p with
    | none => rfl
    | some o =>
      have := kk p o e (B4.ne n6)
      rw [n6] at this
      cases this

theorem ok_l_gap (T : Txt K mg) (c_l_at : Cal P w K mg base 1 "_law_at" (spLAt K)) (D : DefAt K mg "_law_gap" s_l_gap ["_law_parts_here", "_law_others", "_law_size"]) : Cal P w K mg base 2 "_law_gap" (spLGap K) := by
  obtain ⟨f, fd, hm, F, b⟩ := D
  refine ⟨f, fnR0 F b sc_l_gap (fun vs H Q E h => ?_) (fun cdv A outer s H vs Q E hr h => ?_), hm, F.kp⟩
  · obtain ⟨a, c, s, o, d, s', o', d', n, rfl, h1, h2, b1, b2, b3, b4, bn, k⟩ := h
    rfl
  · obtain ⟨a, c, s, o, d, s', o', d', n, rfl, h1, h2, b1, b2, b3, b4, bn, k⟩ := h
    have hu := hu_of hr
    refine ⟨_, (pss_one (ps_ret (pe_op op_sub (pe_cl c_l_at hr passL (pa_cons (pv 0) (pa_cons (pv 2) pa_nil))) (pe_cl c_l_at hr passL (pa_cons (pv 1) (pa_cons (pv 2) pa_nil)))))), ?_⟩
    try dsimp only [cxOf, Cx.nox, Cx.wish, List.map]
    walk_at "rd"
    refine ⟨a, s, o, d, n, rfl, h1, b1, b2, bn, ?_⟩
    walk_at "rd"
    refine ⟨c, s', o', d', n, rfl, h2, b3, b4, bn, ?_⟩
    walk_at "rd"
    rw [plv_sub] at k
    exact k

theorem ok_l_is_always (T : Txt K mg) (c_l_gap : Cal P w K mg base 2 "_law_gap" (spLGap K)) (D : DefAt K mg "_law_is_always" s_l_is_always ["_law_parts_here", "_law_others", "_law_most"]) : Cal P w K mg base 3 "_law_is_always" (spLAlw K) := by
  obtain ⟨f, fd, hm, F, b⟩ := D
  refine ⟨f, fnR0 F b sc_l_is_always (fun vs H Q E h => ?_) (fun cdv A outer s H vs Q E hr h => ?_), hm, F.kp⟩
  · obtain ⟨a, c, s, o, d, s', o', d', m, rfl, h1, h2, b1, b2, b3, b4, k⟩ := h
    rfl
  · obtain ⟨a, c, s, o, d, s', o', d', m, rfl, h1, h2, b1, b2, b3, b4, k⟩ := h
    have hu := hu_of hr
    refine ⟨_, (pss_cons (ps_if (pt_cmpR op_gt (pe_ix ix_list (pv 0) pe_int (fun _ _ => rfl)) (pe_ix ix_list (pv 1) pe_int (fun _ _ => rfl)) (nomark _)) (pss_one (ps_ret pe_bl)) pss_nil)
  (pss_one (ps_ret (pe_and (pe_cmpR op_le (pe_cl c_l_gap hr passL (pa_cons (pv 0) (pa_cons (pv 1) (pa_cons pe_int pa_nil)))) (pv 2) (nomark _)) (pe_one (pe_cmpR op_le (pe_cl c_l_gap hr passL (pa_cons (pv 0) (pa_cons (pv 1) (pa_cons pe_int pa_nil)))) (pv 2) (nomark _))))))), ?_⟩
    try dsimp only [cxOf, Cx.nox, Cx.wish, List.map]
    unfold ahead at k
    rw [plv_offS (s - s') (o - o') (d - d') m 1, plv_offS (s - s') (o - o') (d - d') m 2] at k
    walk_at "rd"
    refine ⟨a, _, _, _, rfl, rfl, h1, rfl, ?_⟩
    walk_at "rd"
    refine ⟨c, _, _, _, rfl, rfl, h2, rfl, ?_⟩
    walk_at "rd"
    refine ite_split (fun h => ?_) (fun h => ?_)
    · have h : s' < s := of_decide_eq_true h
      rw [decide_eq_false (show ¬ s - s' ≤ 0 from by omega), Bool.false_and] at k
      walk_at "rd"
      exact k
    · have h : ¬ s' < s := of_decide_eq_false h
      rw [decide_eq_true (show s - s' ≤ 0 from by omega), Bool.true_and] at k
      walk_at "rd"
      refine ⟨a, c, s, o, d, s', o', d', 1, rfl, h1, h2, b1, b2, b3, b4, ⟨by decide, by decide⟩, ?_⟩
      walk_at "rd"
      refine ite_split (fun g => ?_) (fun g => ?_)
      · have g := of_decide_eq_true g
        rw [decide_eq_true (show plv (s - s') (o - o') (d - d') 1 - m ≤ 0 from by omega), Bool.true_and] at k
        walk_at "rd"
        refine ⟨a, c, s, o, d, s', o', d', 2, rfl, h1, h2, b1, b2, b3, b4, ⟨by decide, by decide⟩, ?_⟩
        walk_at "rd"
        have e : decide (plv (s - s') (o - o') (d - d') 2 ≤ m) = decide (plv (s - s') (o - o') (d - d') 2 - m ≤ 0) := by
          congr 1
          exact propext ⟨fun h => by omega, fun h => by omega⟩
        show Q (.bl (decide (plv (s - s') (o - o') (d - d') 2 ≤ m))) H
        rw [e]
        exact k
      · have g := of_decide_eq_false g
        rw [decide_eq_false (show ¬ plv (s - s') (o - o') (d - d') 1 - m ≤ 0 from by omega), Bool.false_and] at k
        exact k

theorem ok_l_first (T : Txt K mg) (c_l_gap : Cal P w K mg base 2 "_law_gap" (spLGap K)) (D : DefAt K mg "_law_first" s_l_first ["_law_parts_here", "_law_others"]) : Cal P w K mg base 3 "_law_first" (spLFst K) := by
  obtain ⟨f, fd, hm, F, b⟩ := D
  refine ⟨f, fnR0 F b sc_l_first (fun vs H Q E h => ?_) (fun cdv A outer s H vs Q E hr h => ?_), hm, F.kp⟩
  · obtain ⟨a, c, s, o, d, s', o', d', rfl, h1, h2, b1, b2, b3, b4, bo, k⟩ := h
    rfl
  · obtain ⟨a, c, s, o, d, s', o', d', rfl, h1, h2, b1, b2, b3, b4, bo, k⟩ := h
    have hu := hu_of hr
    refine ⟨_, (pss_cons (ps_for PassesOwn.never rfl (pi_range2 rfl T.b_range (pa_cons pe_int (pa_cons pe_int pa_nil))) (pg_name (i := 2) sc_l_first.nd rfl (Or.inl rfl))
  (pss_one (ps_if (pt_cmpR op_gt (pe_cl c_l_gap hr passL (pa_cons (pv 0) (pa_cons (pv 1) (pa_cons (pv 2) pa_nil)))) pe_int (nomark _)) (pss_one (ps_ret (pv 2))) pss_nil)))
  (pss_one (ps_ret pe_non))), ?_⟩
    try dsimp only [cxOf, Cx.nox, Cx.wish, List.map]
    walk_at "rd"
    refine ⟨1, 130, rfl, ⟨by decide, by decide, by decide, by decide⟩, for_range (lo := 1) (n := 129) (fun i σ H' => (∃ v : Option V, σ = [some (.ref a), some (.ref c), v]) ∧ H' = H ∧ ∀ m : Int, 1 ≤ m → m ≤ i → plv (s - s') (o - o') (d - d') m ≤ 0) ⟨⟨none, rfl⟩, rfl, fun m h h' => by omega⟩ ?_ ?_⟩
    · rintro i σ H' hi ⟨⟨v, rfl⟩, rfl, hm⟩
      walk_at "rd"
      refine ⟨a, c, s, o, d, s', o', d', _, rfl, h1, h2, b1, b2, b3, b4, ⟨by omega, by omega⟩, ?_⟩
      walk_at "rd"
      refine ite_split (fun g => ?_) (fun g => ?_)
      · have g := of_decide_eq_true g
        walk_at "rd"
        exact k _ (.inl ⟨_, rfl, by omega, g, fun m h h' => hm m h (by omega)⟩)
      · have g := of_decide_eq_false g
        walk_at "rd"
        refine ⟨⟨_, rfl⟩, rfl, fun m h h' => ?_⟩
        rcases Int.lt_or_le (i : Int) m with e | e
        · rw [show m = 1 + (i : Int) from by omega]
          omega
        · exact hm m h e
    · rintro σ H' ⟨⟨v, rfl⟩, rfl, hm⟩
      walk_at "rd"
      exact k _ (first_look bo (.inr ⟨rfl, fun m h h' => hm m h (by omega)⟩))
end
end Kx

namespace Kx
open PySem PySem.Spec PyProof.Rows L2 Hf
local macro_rules | `(tactic| walk_at "r1") => `(tactic| with_reducible first
  | refine rd_seq ?_ | refine rd_bm ?_ | refine rd_lc ?_ | refine rd_yes ?_ | refine rd_for ?_ | refine rd_iList ?_ | refine rd_iTup ?_ | refine rd_iRng1 ?_ | refine rd_iRng2 ?_ | refine rd_asg ?_ | refine rd_gname ?_ | refine rd_ifS ?_ | refine rd_ret ?_ | refine rd_retN ?_ | refine rd_drop ?_ | refine rd_next ?_
  | refine rd_c ?_ | refine rd_op ?_ | refine rd_un ?_ | refine rd_cons ?_ | refine rd_nil ?_ | refine rd_test ?_ | refine rd_tB ?_ | refine rd_and ?_ | refine rd_or ?_ | refine rd_not ?_
  | refine rd_andV ?_ | refine rd_orV ?_ | refine rd_notV ?_ | refine rd_if ?_ | refine rd_cl ?_ | refine rd_methR ?_ | refine rd_makeR ?_ | refine rd_callO ?_ | refine rd_fld ?_ | refine rd_sfld ?_ | refine rd_cb ?_
  | refine rd_tupN ?_ | refine rd_lstN ?_ | refine rd_I0 ?_ | refine rd_U ?_ | refine rd_bl ?_ | refine rd_blP ?_ | refine rd_par ?_ | refine rd_par2 ?_ | refine rd_gcons ?_ | refine rd_gnil ?_)
local macro_rules | `(tactic| walk_at "rd") => `(tactic| repeat (first | walk_at "r1" | ((with_reducible refine' rd_var ?hh ?_); (case hh => exact rfl)) | ((with_reducible refine' rd_eq ?hh ?_); (case hh => exact rfl)) | ((with_reducible refine' rd_ne ?hh ?_); (case hh => exact rfl)) | ((with_reducible refine' rd_aug ?hh ?_); (case hh => exact rfl))))
local macro_rules | `(tactic| walk_at "pl") => `(tactic| repeat (first | walk_at "rd1" | (refine rd_fldK (by assumption) (PlC.cl (by assumption)) (by first | exact PlC.n1 (by assumption) | exact PlC.n2 (by assumption) | exact PlC.n3 (by assumption)) (by first | exact pl_slope | exact pl_offset | exact pl_odd) ?_)))
local macro_rules | `(tactic| walk_at "rd1") => `(tactic| first | walk_at "r1" | ((with_reducible refine' rd_var ?hh ?_); (case hh => exact rfl)) | ((with_reducible refine' rd_eq ?hh ?_); (case hh => exact rfl)) | ((with_reducible refine' rd_ne ?hh ?_); (case hh => exact rfl)) | ((with_reducible refine' rd_aug ?hh ?_); (case hh => exact rfl)))
local macro_rules | `(tactic| walk_at "lf") => `(tactic| first | assumption | (refine PlaceAt.same ?_ (by assumption); walk_at "lf") | (refine PlaceAt.keep ?_ (by assumption) (by assumption); walk_at "lf"))
local macro_rules | `(tactic| walk_at "lo") => `(tactic| first | assumption | (refine (by assumption : Same _ _) _ _ ?_; walk_at "lo") | (refine (by assumption : Keep _ _ _) _ _ ?_ (by assumption); walk_at "lo"))
section
variable {P : Program} {w : World} {K : PySem.W.Frag} {mg : Str → Option Value} {base : Heap}

theorem ok_law {C : Addr} (T : Txt K mg) (C0 : PlC K mg C) (M_Place : Mak P w K mg base 2 "Place" C (spPlI C)) (M_Place2 : Mak P w K mg base 2 "Place" C (spPlI2 C)) (m_le : Met P w K mg base 3 C "__le__" (spPlCmp C fLe)) (m_lt : Met P w K mg base 3 C "__lt__" (spPlCmp C fLt)) (m_ge : Met P w K mg base 3 C "__ge__" (spPlCmp C fGe)) (m_gt : Met P w K mg base 3 C "__gt__" (spPlCmp C fGt)) (c_first_beyond : Cal P w K mg base 5 "first_beyond" (spBeyond C)) (c_l_bag : Cal P w K mg base 1 "_law_bag" (spBag K)) (c_l_draw : Cal P w K mg base 1 "_law_draw" spDraw) (c_l_gap : Cal P w K mg base 2 "_law_gap" (spLGap K)) (c_l_place : Cal P w K mg base 4 "_law_place" (spLPl K C)) (c_l_drawn : Cal P w K mg base 2 "_law_drawn" spLDr4) (c_l_near : Cal P w K mg base 2 "_law_near" (spLNear K)) (c_l_is_always : Cal P w K mg base 3 "_law_is_always" (spLAlw K)) (c_l_first : Cal P w K mg base 3 "_law_first" (spLFst K)) {f : Addr} {fd : FuncData} (F : Fun K "law" "law" s_law f fd) (b : Binds K fd ["_law_script"] []) : FnG P w K mg base (L2.CX P w) 9 f (spLaw K) := by
  refine fnG0 F b sc_law (fun vs H Q E h => ?_) (fun cdv A outer s H vs Q E hr hgd h => ?_)
  · obtain ⟨a, ns, rfl, _⟩ := h
    rfl
  · obtain ⟨a, ns, rfl, hS, hlen, k⟩ := h
    have hu := hu_of hr
    refine ⟨_, (pss_cons (ps_set (i := 1) sc_law.nd rfl (Or.inl rfl) (pe_cl c_l_bag hr passL (pa_cons (pv 0) pa_nil)))
  (pss_cons (ps_for PassesOwn.never rfl (pi_range1 rfl T.b_range (pa_cons pe_int pa_nil)) (pg_name (i := 2) sc_law.nd rfl (Or.inl rfl))
  (pss_cons (ps_set (i := 3) sc_law.nd rfl (Or.inr rfl) (pe_cl c_l_drawn hr passL (pa_cons (pv 1) pa_nil)))
  (pss_cons (ps_set (i := 4) sc_law.nd rfl (Or.inr rfl) (pe_ix ix_list (pe_lst (pa_cons (pe_cl c_l_drawn hr passL (pa_cons (pv 1) pa_nil)) (pa_cons (pe_cl c_l_near hr passL (pa_cons (pv 1) (pa_cons (pv 3) pa_nil))) (pa_cons (pe_callTy call_list_of (by rfl) T.b_list (by decide +kernel) (pa_cons (pv 3) pa_nil)) pa_nil)))) (pe_op op_fdivW (pe_cl c_l_draw hr passL (pa_cons (pv 1) (pa_cons pe_int pa_nil))) pe_int) (fun _ _ => rfl)))
  (pss_cons (ps_par (i := 5) (j := 6) rfl sc_law.nd rfl rfl (by decide) rfl rfl (pa_cons (pe_cl c_l_place hr passL (pa_cons (pv 3) pa_nil)) (pa_cons (pe_cl c_l_place hr passL (pa_cons (pv 4) pa_nil)) pa_nil)) rfl)
  (pss_cons (ps_set (i := 7) sc_law.nd rfl (Or.inl rfl) (pe_lst (pa_cons (pe_cl c_l_is_always hr passL (pa_cons (pv 3) (pa_cons (pv 4) (pa_cons pe_int pa_nil)))) (pa_cons (pe_cl c_l_is_always hr passL (pa_cons (pv 3) (pa_cons (pv 4) (pa_cons (pe_un un_neg pe_int) pa_nil)))) pa_nil))))
  (pss_cons (ps_set (i := 7) sc_law.nd rfl (Or.inl rfl) (pe_op op_cat (pv 7) (pe_lst (pa_cons (pe_cl c_l_is_always hr passL (pa_cons (pv 4) (pa_cons (pv 3) (pa_cons pe_int pa_nil)))) (pa_cons (pe_cl c_l_is_always hr passL (pa_cons (pv 4) (pa_cons (pv 3) (pa_cons (pe_un un_neg pe_int) pa_nil)))) pa_nil)))))
  (pss_cons (ps_set (i := 8) sc_law.nd rfl (Or.inl rfl) (pe_lst (pa_cons (pe_cmpR (op_cmpM (op := .LtE) m_le hr passL) (pv 5) (pv 6) (nomark _)) (pa_cons (pe_cmpR (op_cmpM (op := .Lt) m_lt hr passL) (pv 5) (pv 6) (nomark _)) (pa_cons (pe_cmpR (op_cmpM (op := .GtE) m_ge hr passL) (pv 5) (pv 6) (nomark _)) (pa_cons (pe_cmpR (op_cmpM (op := .Gt) m_gt hr passL) (pv 5) (pv 6) (nomark _)) pa_nil))))))
  (pss_cons (ps_if (pt_cmpR op_ne (pe_callB (call_repr hr hgd) (by rfl) T.b_repr (by decide +kernel) (pa_cons (pv 8) pa_nil)) (pe_callB (call_repr hr hgd) (by rfl) T.b_repr (by decide +kernel) (pa_cons (pv 7) pa_nil)) (nomark _)) (pss_one (ps_ret pe_bl)) pss_nil)
  (pss_cons (ps_setLc (i := 9) (own := [("_law_size", 14)]) (by rfl) sc_law.nd rfl rfl (sw_true rfl rfl rfl (by decide +kernel)) (pi_range2 rfl T.b_range (pa_cons pe_int (pa_cons pe_int pa_nil))) (blkOk_by (own := [("_law_size", 14)]) (N := ["_law_script", "_law_bag_here", "_law_turn", "_law_parts_here", "_law_others", "_law_one", "_law_other", "_law_due", "_law_told", "_law_gaps", "_law_low", "_law_high", "_law_far", "_law_none", "_law_size", "_law_gap_here"]) (sc := defScope s_law) (by decide +kernel)) (fun _ _ _ _ _ => (pg_name (i := 14) sc_law.nd rfl (Or.inl rfl))) (fun _ _ _ _ _ => pts_nil) (fun _ _ _ _ _ => (pe_cl c_l_gap hr passL (pa_cons (pv 3) (pa_cons (pv 4) (pa_cons (pv 14) pa_nil))))))
  (pss_cons (ps_par (i := 10) (j := 11) rfl sc_law.nd rfl rfl (by decide) rfl rfl (pa_cons (pe_callB (cr_min rfl) (by rfl) T.b_min (by decide +kernel) (pa_cons (pe_lc (own := [("_law_gap_here", 15)]) (by rfl) sc_law.nd (pi_list (pv 9)) (blkOk_by (own := [("_law_gap_here", 15)]) (N := ["_law_script", "_law_bag_here", "_law_turn", "_law_parts_here", "_law_others", "_law_one", "_law_other", "_law_due", "_law_told", "_law_gaps", "_law_low", "_law_high", "_law_far", "_law_none", "_law_size", "_law_gap_here"]) (sc := defScope s_law) (by decide +kernel)) (fun _ _ _ _ _ => (pg_name (i := 15) sc_law.nd rfl (Or.inl rfl))) (fun _ _ _ _ _ => pts_nil) (fun _ _ _ _ _ => (pe_callTy call_int1 (by rfl) T.b_int (by decide +kernel) (pa_cons (pv 15) pa_nil)))) pa_nil)) (pa_cons (pe_callB (cr_max rfl) (by rfl) T.b_max (by decide +kernel) (pa_cons (pe_lc (own := [("_law_gap_here", 15)]) (by rfl) sc_law.nd (pi_list (pv 9)) (blkOk_by (own := [("_law_gap_here", 15)]) (N := ["_law_script", "_law_bag_here", "_law_turn", "_law_parts_here", "_law_others", "_law_one", "_law_other", "_law_due", "_law_told", "_law_gaps", "_law_low", "_law_high", "_law_far", "_law_none", "_law_size", "_law_gap_here"]) (sc := defScope s_law) (by decide +kernel)) (fun _ _ _ _ _ => (pg_name (i := 15) sc_law.nd rfl (Or.inl rfl))) (fun _ _ _ _ _ => pts_nil) (fun _ _ _ _ _ => (pe_callTy call_int1 (by rfl) T.b_int (by decide +kernel) (pa_cons (pv 15) pa_nil)))) pa_nil)) pa_nil)) rfl)
  (pss_cons (ps_if (pw_or (pw_and (pt_val (pe_ix ix_list (pv 8) pe_int (fun _ _ => rfl))) (pw_and1 (pt_cmpR op_gt (pv 11) pe_int (nomark _)))).pt (pw_or1 (pw_and (pt_val (pe_ix ix_list (pv 8) pe_int (fun _ _ => rfl))) (pw_and1 (pt_cmpR op_lt (pv 10) pe_int (nomark _)))).pt)).pt (pss_one (ps_ret pe_bl)) pss_nil)
  (pss_cons (ps_if (pt_cmpR op_ne (pe_callB (call_repr hr hgd) (by rfl) T.b_repr (by decide +kernel) (pa_cons (pe_cl c_first_beyond hr passL (pa_cons (pv 5) (pa_cons (pv 6) pa_nil))) pa_nil)) (pe_callB (call_repr hr hgd) (by rfl) T.b_repr (by decide +kernel) (pa_cons (pe_cl c_l_first hr passL (pa_cons (pv 3) (pa_cons (pv 4) pa_nil))) pa_nil)) (nomark _)) (pss_one (ps_ret pe_bl)) pss_nil)
  (pss_cons (ps_if (pt_cmpR op_ne (pe_callB (call_repr hr hgd) (by rfl) T.b_repr (by decide +kernel) (pa_cons (pe_cl c_first_beyond hr passL (pa_cons (pv 6) (pa_cons (pv 5) pa_nil))) pa_nil)) (pe_callB (call_repr hr hgd) (by rfl) T.b_repr (by decide +kernel) (pa_cons (pe_cl c_l_first hr passL (pa_cons (pv 4) (pa_cons (pv 3) pa_nil))) pa_nil)) (nomark _)) (pss_one (ps_ret pe_bl)) pss_nil)
  (pss_one (ps_if (pw_or (pt_cmpR (op_cmpM (op := .Lt) m_lt hr passL) (pv 5) (pv 5) (nomark _)) (pw_or (pt_cmpR (op_cmpM (op := .Gt) m_gt hr passL) (pv 5) (pv 5) (nomark _)) (pw_or (pt_not (pt_cmpR (op_cmpM (op := .LtE) m_le hr passL) (pv 5) (pv 5) (nomark _))) (pw_or1 (pt_cmpR op_notN (pe_cl c_first_beyond hr passL (pa_cons (pv 5) (pa_cons (pv 5) pa_nil))) pe_non (nomark _)))))).pt (pss_one (ps_ret pe_bl)) pss_nil)))))))))))))))
  (pss_cons (ps_set (i := 12) sc_law.nd rfl (Or.inl rfl) (pe_ma M_Place2 hr passL (pa_cons pe_int (pa_cons (pe_un un_neg (pe_op op_pow pe_int pe_int)) pa_nil))))
  (pss_cons (ps_set (i := 13) sc_law.nd rfl (Or.inl rfl) (pe_ma M_Place2 hr passL (pa_cons pe_int (pa_cons pe_int pa_nil))))
  (pss_one (ps_ret (pe_and (pe_cmpR op_eq (pe_cl c_first_beyond hr passL (pa_cons (pv 12) (pa_cons (pv 13) pa_nil))) (pe_op op_add (pe_op op_mulW pe_int (pe_op op_pow pe_int pe_int)) pe_int) (nomark _)) (pe_and (pe_not (pe_cmpR (op_cmpM (op := .LtE) m_le hr passL) (pv 12) (pv 13) (nomark _))) (pe_one (pe_cmpR (op_cmpM (op := .GtE) m_ge hr passL) (pe_ma M_Place hr passL (pa_cons pe_int (pa_cons (pe_un un_neg pe_int) (pa_cons pe_int pa_nil)))) (pv 13) (nomark _))))))))))), ?_⟩
    try dsimp only [cxOf, Cx.nox, Cx.wish, List.map]
    walk_at "rd"
    refine ⟨a, ns, rfl, hS, hlen, fun b H1 nb B1 s1 => ?_⟩
    walk_at "rd"
    refine ⟨12, rfl, by decide, by decide, for_range (n := 12) (fun i σ H' => ∃ v2 v3 v4 v5 v6 v7 v8 v9 v10 v11 v12 v13 v14 v15 : Option V, σ = [some (.ref a), some (.ref b), v2, v3, v4, v5, v6, v7, v8, v9, v10, v11, v12, v13, v14, v15] ∧ Bag H' b) ⟨none, none, none, none, none, none, none, none, none, none, none, none, none, none, rfl, B1⟩ ?_ ?_⟩
    · rintro i σ H2 hi ⟨v2, v3, v4, v5, v6, v7, v8, v9, v10, v11, v12, v13, v14, v15, rfl, B2⟩
      walk_at "rd"
      refine ⟨b, rfl, B2, fun p1 s o d H3 np1 e1 ls us lo uo ld ud B3 k3 => ?_⟩
      have np1 : p1 ≠ b := B2.ne np1
      walk_at "rd"
      refine ⟨b, rfl, B3, fun p2 s2 o2 d2 H4 np2 e2 ls2 us2 lo2 uo2 ld2 ud2 B4 k4 => ?_⟩
      have np2 : p2 ≠ b := B3.ne np2
      have e1 := k4 _ _ e1 np1
      walk_at "rd"
      refine ⟨b, p1, s, o, d, rfl, B4, e1, ls, us, lo, uo, ld, ud, fun p3 s3 o3 d3 H5 np3 e3 ls3 us3 lo3 uo3 ld3 ud3 B5 k5 => ?_⟩
      have np3 : p3 ≠ b := B4.ne np3
      have e1 := k5 _ _ e1 np1
      have e2 := k5 _ _ e2 np2
      walk_at "rd"
      refine ⟨p1, _, rfl, .inl (SqL.of e1), fun p4 np4 => ?_⟩
      have s6 := Same.new (o := .lst [.int s, .int o, .int d]) np4
      have e4 : (upd H5 p4 (.lst [.int s, .int o, .int d])) p4 = _ := upd_same
      have B6 := B5.same s6
      have np4 : p4 ≠ b := B5.ne np4
      have e1 := s6 _ _ e1
      have e2 := s6 _ _ e2
      have e3 := s6 _ _ e3
      generalize upd H5 p4 (.lst [.int s, .int o, .int d]) = H6 at *
      walk_at "rd"
      refine new_lst (by show 3 ≤ 1000; decide) fun l0 H7 n7 e7 s7 => ?_
      have nl0 : l0 ≠ b := B6.ne n7
      have B7 := B6.same s7
      walk_at "rd"
      refine use_draw B7 (by decide) (by decide) fun i8 H8 l8 u8 B8 k8 => ?_
      have e1 := k8 _ _ (s7 _ _ e1) np1
      have e2 := k8 _ _ (s7 _ _ e2) np2
      have e3 := k8 _ _ (s7 _ _ e3) np3
      have e4 := k8 _ _ (s7 _ _ e4) np4
      have e7 := k8 _ _ e7 nl0
      walk_at "rd"
      refine rd_I ⟨by decide, by decide⟩ ?_
      obtain ⟨p', s', o', d', hat, e', ls', us', lo', uo', ld', ud'⟩ : ∃ (p' : Addr) (s' o' d' : Int), atI [V.ref p2, V.ref p3, V.ref p4] (i8 / 2) = some (.ref p') ∧ H8 p' = some (.lst [.int s', .int o', .int d']) ∧ -3 ≤ s' ∧ s' ≤ 5 ∧ -11 ≤ o' ∧ o' ≤ 11 ∧ -2 ≤ d' ∧ d' ≤ 3 := by
        have : i8 / 2 = 0 ∨ i8 / 2 = 1 ∨ i8 / 2 = 2 := by omega
        rcases this with e | e | e <;> rw [e]
        · exact ⟨p2, s2, o2, d2, rfl, e2, by omega, by omega, by omega, by omega, by omega, by omega⟩
        · exact ⟨p3, s3, o3, d3, rfl, e3, by omega, by omega, by omega, by omega, by omega, by omega⟩
        · exact ⟨p4, s, o, d, rfl, e4, by omega, by omega, by omega, by omega, by omega, by omega⟩
      refine ⟨l0, _, _, _, rfl, rfl, SqL.of e7, hat, ?_⟩
      clear k3 k4 k5 s6 s7 k8 B2 B3 B4 B5 B6 B7 e2 e3 e4 e7 np1 np2 np3 np4 nl0 n7 hat
      walk_at "rd"
      refine ⟨p1, s, o, d, rfl, SqL.of e1, fun q1 H9 n9 g1 s9 => ?_⟩
      have e1 := s9 _ _ e1
      have e' := s9 _ _ e'
      walk_at "rd"
      refine ⟨p', s', o', d', rfl, SqL.of e', fun q2 H10 n10 g2 s10 => ?_⟩
      have e1 := s10 _ _ e1
      have e' := s10 _ _ e'
      have g1 := g1.same s10
      have B := (B8.same s9).same s10
      clear s9 s10 n9 n10 B8
      have b1 : Sm s := ⟨by omega, by omega⟩
      have b2 : Sm d := ⟨by omega, by omega⟩
      have b3 : Sm s' := ⟨by omega, by omega⟩
      have b4 : Sm d' := ⟨by omega, by omega⟩
      have m1 : Md s := ⟨by omega, by omega⟩
      have m2 : Md d := ⟨by omega, by omega⟩
      have m3 : Md s' := ⟨by omega, by omega⟩
      have m4 : Md d' := ⟨by omega, by omega⟩
      have m5 : Md o := ⟨by omega, by omega⟩
      have m6 : Md o' := ⟨by omega, by omega⟩
      walk_at "rd"
      refine ⟨p1, p', s, o, d, s', o', d', 0, rfl, SqL.of e1, SqL.of e', b1, b2, b3, b4, ?_⟩
      walk_at "rd"
      refine ⟨p1, p', s, o, d, s', o', d', -1, rfl, SqL.of e1, SqL.of e', b1, b2, b3, b4, ?_⟩
      walk_at "rd"
      refine new_lst (by show 2 ≤ 1000; decide) fun l1 H11 n11 e11 s11 => ?_
      have e1 := s11 _ _ e1
      have e' := s11 _ _ e'
      have g1 := g1.same s11
      have g2 := g2.same s11
      have B := B.same s11
      walk_at "rd"
      refine ⟨p', p1, s', o', d', s, o, d, 0, rfl, SqL.of e', SqL.of e1, b3, b4, b1, b2, ?_⟩
      walk_at "rd"
      refine ⟨p', p1, s', o', d', s, o, d, -1, rfl, SqL.of e', SqL.of e1, b3, b4, b1, b2, ?_⟩
      walk_at "rd"
      refine new_lst (by show 2 ≤ 1000; decide) fun l2 H12 n12 e12 s12 => ?_
      have e11 := s12 _ _ e11
      refine ⟨l1, l2, _, _, rfl, rfl, e11, e12, Nat.le_of_lt (small1000 (by show 4 ≤ 1000; decide)), fun l3 n13 => ?_⟩
      have s13 := (Same.new (o := .lst ([V.bl (ahead (s - s') (o - o' - 0) (d - d')), V.bl (ahead (s - s') (o - o' - -1) (d - d'))] ++ [V.bl (ahead (s' - s) (o' - o - 0) (d' - d)), V.bl (ahead (s' - s) (o' - o - -1) (d' - d))])) n13)
      have e13 := upd_same (H := H12) (a := l3) (o := .lst ([V.bl (ahead (s - s') (o - o' - 0) (d - d')), V.bl (ahead (s - s') (o - o' - -1) (d - d'))] ++ [V.bl (ahead (s' - s) (o' - o - 0) (d' - d)), V.bl (ahead (s' - s) (o' - o - -1) (d' - d))]))
      have S := s12.trans s13
      clear s12 s13
      generalize upd H12 l3 _ = H13 at *
      have e1 := S _ _ e1
      have e' := S _ _ e'
      have g1 := g1.same S
      have g2 := g2.same S
      have B := B.same S
      clear S s11 n11 n12 n13 e11 e12
      walk_at "rd"
      refine use_cmp g1 g2 m1 m2 m3 m4 ?_
      walk_at "rd"
      refine use_cmp g1 g2 m1 m2 m3 m4 ?_
      walk_at "rd"
      refine use_cmp g1 g2 m1 m2 m3 m4 ?_
      walk_at "rd"
      refine use_cmp g1 g2 m1 m2 m3 m4 ?_
      walk_at "rd"
      refine new_lst (by show 4 ≤ 1000; decide) fun l4 H14 n14 e14 S => ?_
      have e1 := S _ _ e1
      have e' := S _ _ e'
      have g1 := g1.same S
      have g2 := g2.same S
      have B := B.same S
      have e13 := S _ _ e13
      clear S n14
      walk_at "rd"
      refine use_repr4 e14 ?_
      walk_at "rd"
      refine use_repr4 e13 ?_
      walk_at "rd"
      refine ne_no (by unfold fLe fLt fGe fGt; rw [Int.sub_zero, Int.sub_zero, show o - o' - -1 = o - o' + 1 from by omega, show o' - o - -1 = o' - o + 1 from by omega]) ?_
      clear e13
      walk_at "rd"
      refine ⟨1, 61, rfl, ⟨by decide, by decide, by decide, by decide⟩, lc_mapR (lo := 1) (n := 60) (fun m => .int (plv (s - s') (o - o') (d - d') m)) (by decide) (fun j H1 R hj s1 k => ?_) fun D H15 n15 e15 S => ?_⟩
      · walk_at "rd"
        exact ⟨p1, p', s, o, d, s', o', d', 1 + j, rfl, SqL.of (s1 _ _ e1), SqL.of (s1 _ _ e'), b1, b2, b3, b4, ⟨by omega, by omega⟩, k _ (Same.refl _)⟩
      obtain ⟨gs, hgs, gs0, gsl, hgm⟩ : ∃ gs : List Int, H15 D = some (.lst (gs.map V.int)) ∧ 0 < gs.length ∧ gs.length ≤ 1000 ∧ ∀ g ∈ gs, ∃ n, 1 ≤ n ∧ g = plv (s - s') (o - o') (d - d') n := by
        refine ⟨(List.range 60).map fun (j : Nat) => plv (s - s') (o - o') (d - d') (1 + j), ?_, by rw [List.length_map]; decide, by rw [List.length_map]; decide, fun g hg => ?_⟩
        · rw [List.map_map]
          exact e15
        · obtain ⟨j, _, rfl⟩ := List.mem_map.mp hg
          exact ⟨_, by omega, rfl⟩
      clear e15
      have e1 := S _ _ e1
      have e' := S _ _ e'
      have g1 := g1.same S
      have g2 := g2.same S
      have B := B.same S
      have e14 := S _ _ e14
      clear S n15
      walk_at "rd"
      refine lc_mapL (fun v => v) (SqL.of hgs) (by rw [List.length_map]; exact gsl) (fun j x H1 R hx s1 k => ?_) fun D2 H16 n16 e16 S => ?_
      · obtain ⟨g, _, rfl⟩ := List.mem_map.mp (List.mem_of_getElem? hx)
        walk_at "rd"
        exact .inl ⟨_, rfl, k _ (Same.refl _)⟩
      rw [show (gs.map V.int).map (fun v => v) = gs.map V.int from List.map_id' _] at e16
      walk_at "rd"
      refine use_min e16 gs0 fun lw hlw _ => ?_
      have e1 := S _ _ e1
      have e' := S _ _ e'
      have g1 := g1.same S
      have g2 := g2.same S
      have B := B.same S
      have e14 := S _ _ e14
      have hgs := S _ _ hgs
      clear S n16 e16
      walk_at "rd"
      refine lc_mapL (fun v => v) (SqL.of hgs) (by rw [List.length_map]; exact gsl) (fun j x H1 R hx s1 k => ?_) fun D3 H17 n17 e17 S => ?_
      · obtain ⟨g, _, rfl⟩ := List.mem_map.mp (List.mem_of_getElem? hx)
        walk_at "rd"
        exact .inl ⟨_, rfl, k _ (Same.refl _)⟩
      rw [show (gs.map V.int).map (fun v => v) = gs.map V.int from List.map_id' _] at e17
      walk_at "rd"
      refine use_max e17 gs0 fun hw hhw _ => ?_
      have e1 := S _ _ e1
      have e' := S _ _ e'
      have g1 := g1.same S
      have g2 := g2.same S
      have B := B.same S
      have e14 := S _ _ e14
      clear S n17 e17
      obtain ⟨nl, nl1, rfl⟩ := hgm _ hlw
      obtain ⟨nh, nh1, rfl⟩ := hgm _ hhw
      clear hgm hlw hhw hgs gs0 gsl
      walk_at "rd"
      refine ⟨l4, _, _, _, rfl, rfl, SqL.of e14, rfl, _, rfl, ite_keep ?rest fun h b => ?now⟩
      case now =>
        walk_at "rd"
        exact ite_no (decide_eq_false (by have := ahead_le h nh1; omega)) b
      refine iteF ?_
      walk_at "rd"
      refine ⟨l4, _, _, _, rfl, rfl, SqL.of e14, rfl, _, rfl, ite_keep ?rest2 fun h b => ?now2⟩
      case now2 =>
        walk_at "rd"
        exact ite_no (decide_eq_false (by have := ahead_le h nl1; rw [plv_neg] at this; omega)) b
      refine iteF ?_
      walk_at "rd"
      refine ⟨q1, q2, s, o, d, s', o', d', rfl, g1, g2, m1, m5, m2, m3, m6, m4, fun v1 H18 hv1 S => ?_⟩
      have e1 := S _ _ e1
      have e' := S _ _ e'
      have g1 := g1.same S
      have g2 := g2.same S
      have B := B.same S
      clear S e14
      walk_at "rd"
      refine use_reprF hv1 (by omega) ?_
      walk_at "rd"
      refine ⟨p1, p', s, o, d, s', o', d', rfl, SqL.of e1, SqL.of e', b1, b2, b3, b4, by omega, fun v2' hv2 => ?_⟩
      walk_at "rd"
      refine use_reprF hv2 (by omega) ?_
      walk_at "rd"
      refine ne_no (by rw [hv1.same hv2]) ?_
      walk_at "rd"
      refine ⟨q2, q1, s', o', d', s, o, d, rfl, g2, g1, m3, m6, m4, m1, m5, m2, fun v3' H19 hv3 S => ?_⟩
      have e1 := S _ _ e1
      have e' := S _ _ e'
      have g1 := g1.same S
      have g2 := g2.same S
      have B := B.same S
      clear S
      walk_at "rd"
      refine use_reprF hv3 (by omega) ?_
      walk_at "rd"
      refine ⟨p', p1, s', o', d', s, o, d, rfl, SqL.of e', SqL.of e1, b3, b4, b1, b2, by omega, fun v4' hv4 => ?_⟩
      walk_at "rd"
      refine use_reprF hv4 (by omega) ?_
      walk_at "rd"
      refine ne_no (by rw [hv3.same hv4]) ?_
      walk_at "rd"
      refine use_cmp g1 g1 m1 m2 m1 m2 ?_
      walk_at "rd"
      refine ite_no (by unfold fLt; rw [Int.sub_self, Int.sub_self, Int.sub_self]; decide) ?_
      walk_at "rd"
      refine use_cmp g1 g1 m1 m2 m1 m2 ?_
      walk_at "rd"
      refine ite_no (by unfold fGt; rw [Int.sub_self, Int.sub_self, Int.sub_self]; decide) ?_
      walk_at "rd"
      refine use_cmp g1 g1 m1 m2 m1 m2 ?_
      walk_at "rd"
      refine ite_no (by unfold fLe; rw [Int.sub_self, Int.sub_self, Int.sub_self]; decide) ?_
      walk_at "rd"
      refine ⟨q1, q1, s, o, d, s, o, d, rfl, g1, g1, m1, m5, m2, m1, m5, m2, fun v5' H20 hv5 S => ?_⟩
      rw [Int.sub_self, Int.sub_self, Int.sub_self] at hv5
      have hv5 := hv5.same first_zero
      subst hv5
      walk_at "rd"
      refine ⟨rfl, ?_⟩
      walk_at "rd"
      refine ite_no (by decide) ?_
      walk_at "rd"
      exact ⟨_, _, _, _, _, _, _, _, _, _, _, _, _, _, rfl, B.same S⟩
    · rintro σ H2 ⟨v2, v3, v4, v5, v6, v7, v8, v9, v10, v11, v12, v13, v14, v15, rfl, B2⟩
      walk_at "rd"
      have p30 : (10 : Int) ^ (30 : Int).toNat = 1000000000000000000000000000000 := by decide
      refine rd_I ⟨by decide, by decide, by decide⟩ ?_
      rw [p30]
      walk_at "rd"
      refine use_place2 fun f1 H3 n3 h3 s3 => ?_
      walk_at "rd"
      refine use_place2 fun f2 H4 n4 h4 s4 => ?_
      have h3 := h3.same s4
      walk_at "rd"
      refine ⟨f1, f2, _, _, _, _, _, _, rfl, h3, h4, ⟨by decide, by decide⟩, ⟨by decide, by decide⟩, ⟨by decide, by decide⟩, ⟨by decide, by decide⟩, ⟨by decide, by decide⟩, ⟨by decide, by decide⟩, fun v H5 hv s5 => ?_⟩
      have hv : v = .int 2000000000000000000000000000002 := by
        refine hv.same (first_of (by decide) (by decide) (by decide) (.inl (by decide)) (by decide) (by decide))
      subst hv
      have h3 := h3.same s5
      have h4 := h4.same s5
      walk_at "rd"
      refine rd_I ⟨by decide, by decide, by decide⟩ ?_
      rw [p30]
      walk_at "rd"
      refine rd_I (wide_mul (a := 10) (b := 200) (by decide) (by decide) (by decide) (by decide) (by decide)) ?_
      walk_at "rd"
      refine ite_yes (by decide) ?_
      walk_at "rd"
      refine use_cmp h3 h4 ⟨by decide, by decide⟩ ⟨by decide, by decide⟩ ⟨by decide, by decide⟩ ⟨by decide, by decide⟩ ?_
      walk_at "rd"
      refine ite_yes (by decide) ?_
      walk_at "rd"
      refine use_place fun f3 H6 n6 h6 s6 => ?_
      walk_at "rd"
      refine use_cmp h6 (h4.same s6) ⟨by decide, by decide⟩ ⟨by decide, by decide⟩ ⟨by decide, by decide⟩ ⟨by decide, by decide⟩ ?_
      walk_at "rd"
      exact k _
end
end Kx

namespace Kx
open PySem PySem.Spec PyProof.Rows L2 Hf
theorem all_mk {l : PySem.W.OpenLaw} {w : World} {K : PySem.W.Frag} {h : Heap} {mg : Str → Option Value} {fa : Addr} (X : K.In h) (G : h.Ns mainGlobals mg) (hfa : mg "law" = some (.ref fa))
    {C : Addr} {cdC : ClassData} {rAf : Addr} {foA roA foS roS : Option Value} {f1 : Addr} {od1 an1 : Option Addr} {sl1 : Array (Option Value)} {oc1 kV1 dc1 pm1 cd1 ct1 : Value} {f2 : Addr} {od2 an2 : Option Addr} {sl2 : Array (Option Value)} {oc2 kV2 dc2 pm2 cd2 ct2 : Value} {f3 : Addr} {od3 an3 : Option Addr} {sl3 : Array (Option Value)} {oc3 kV3 dc3 pm3 cd3 ct3 : Value} {f4 : Addr} {od4 an4 : Option Addr} {sl4 : Array (Option Value)} {oc4 kV4 dc4 pm4 cd4 ct4 : Value} {f5 : Addr} {od5 an5 : Option Addr} {sl5 : Array (Option Value)} {oc5 kV5 dc5 pm5 cd5 ct5 : Value} {f6 : Addr} {od6 an6 : Option Addr} {sl6 : Array (Option Value)} {oc6 kV6 dc6 pm6 cd6 ct6 : Value} {f7 : Addr} {od7 an7 : Option Addr} {sl7 : Array (Option Value)} {oc7 kV7 dc7 pm7 cd7 ct7 : Value} {f8 : Addr} {od8 an8 : Option Addr} {sl8 : Array (Option Value)} {oc8 kV8 dc8 pm8 cd8 ct8 : Value} {f9 : Addr} {od9 an9 : Option Addr} {sl9 : Array (Option Value)} {oc9 kV9 dc9 pm9 cd9 ct9 : Value} {f10 : Addr} {od10 an10 : Option Addr} {sl10 : Array (Option Value)} {oc10 kV10 dc10 pm10 cd10 ct10 : Value} {f11 : Addr} {od11 an11 : Option Addr} {sl11 : Array (Option Value)} {oc11 kV11 dc11 pm11 cd11 ct11 : Value} {f12 : Addr} {od12 an12 : Option Addr} {sl12 : Array (Option Value)} {oc12 kV12 dc12 pm12 cd12 ct12 : Value} {f13 : Addr} {od13 an13 : Option Addr} {sl13 : Array (Option Value)} {oc13 kV13 dc13 pm13 cd13 ct13 : Value} {f14 : Addr} {od14 an14 : Option Addr} {sl14 : Array (Option Value)} {oc14 kV14 dc14 pm14 cd14 ct14 : Value} {T14 : Addr} {di14 : Int} {dt14 : Tok} {dc214 : Value} {dd14 : Option Addr} {dn14 : Nat} {ds14 : Array (Option Value)} {f15 : Addr} {od15 an15 : Option Addr} {sl15 : Array (Option Value)} {oc15 kV15 dc15 pm15 cd15 ct15 : Value} {f16 : Addr} {od16 an16 : Option Addr} {sl16 : Array (Option Value)} {oc16 kV16 dc16 pm16 cd16 ct16 : Value} {f17 : Addr} {od17 an17 : Option Addr} {sl17 : Array (Option Value)} {oc17 kV17 dc17 pm17 cd17 ct17 : Value} {f18 : Addr} {od18 an18 : Option Addr} {sl18 : Array (Option Value)} {oc18 kV18 dc18 pm18 cd18 ct18 : Value} {f19 : Addr} {od19 an19 : Option Addr} {sl19 : Array (Option Value)} {oc19 kV19 dc19 pm19 cd19 ct19 : Value} {f20 : Addr} {od20 an20 : Option Addr} {sl20 : Array (Option Value)} {oc20 kV20 dc20 pm20 cd20 ct20 : Value} {f0 : Addr} {od0 an0 : Option Addr} {sl0 : Array (Option Value)} {oc0 kV0 dc0 pm0 cd0 ct0 : Value}
    (z_len : PySem.W.nsIn K mainGlobals "len" = some none)
    (z_abs : PySem.W.nsIn K mainGlobals "abs" = some none)
    (z_int : PySem.W.nsIn K mainGlobals "int" = some none)
    (z_list : PySem.W.nsIn K mainGlobals "list" = some none)
    (z_range : PySem.W.nsIn K mainGlobals "range" = some none)
    (z_isinstance : PySem.W.nsIn K mainGlobals "isinstance" = some none)
    (z_bool : PySem.W.nsIn K mainGlobals "bool" = some none)
    (z_min : PySem.W.nsIn K mainGlobals "min" = some none)
    (z_max : PySem.W.nsIn K mainGlobals "max" = some none)
    (z_repr : PySem.W.nsIn K mainGlobals "repr" = some none)
    (gC : PySem.W.nsIn K mainGlobals "Place" = some (some (.ref C)))
    (pg : PySem.W.plainGet K C Str.empty = true)
    (hd : PySem.W.hasDictIn K C = true)
    (po : PySem.W.plainOver K C = true)
    (sa : PySem.W.findIn K (.ref C) "__setattr__" = some (some (.builtin "object.__setattr__")))
    (n1 : PySem.W.findIn K (.ref C) "slope" = some none)
    (n2 : PySem.W.findIn K (.ref C) "offset" = some none)
    (n3 : PySem.W.findIn K (.ref C) "odd" = some none)
    (sf : PySem.W.selfFirst K C = true)
    (cC : PySem.W.clsIn K C = some cdC)
    (iC : PySem.W.isClsIn K C = true)
    (tC : PySem.W.typeIn K (.ref C) = some (.type "type"))
    (ne1 : PySem.W.findIn K (.ref C) "__ne__" = some (some (.builtin "object.__ne__")))
    (ne2 : PySem.W.subIn K (.ref C) (.type "object") = some true)
    (ha : PySem.W.findIn K (.ref C) "__class__" = some (some (.builtin "object.__class__")))
    (hn : PySem.W.specialIn K (.builtin "object.__class__") "__get__" = some (some (.builtin "getset_descriptor.__get__")))
    (tk : PySem.W.takesIn K (.builtin "object.__class__") = some true)
    (mo : PySem.W.mroIn K C (.type "object") = some true)
    (sI : PySem.W.subIn K (.ref C) (.type "int") = some false)
    (rA : PySem.W.findIn K (.ref C) (dunderR "add") = some (some (.ref rAf)))
    (rS : PySem.W.findIn K (.ref C) (dunderR "sub") = some none)
    (oA : PySem.W.findIn K (.type "int") (PySem.dunder "add") = some foA)
    (pA : PySem.W.findIn K (.type "int") (dunderR "add") = some roA)
    (oS : PySem.W.findIn K (.type "int") (PySem.dunder "sub") = some foS)
    (pS : PySem.W.findIn K (.type "int") (dunderR "sub") = some roS)
    (sIC : PySem.W.subIn K (.type "int") (.ref C) = some false)
    (hi : PySem.W.findIn K (.ref C) "__iadd__" = some none)
    (mk : PySem.W.makesIn K C = true)
    (kc : PySem.W.keepIn K (.ref C) = true)
    (pm : cdC.mro = [.ref C, .type "object"])
    (a1 : PySem.W.nsIn K mainGlobals "is_whole" = some (some (.ref f1)))
    (l1 : K.lookup f1 = some ⟨oc1, od1, .func (PySem.W.fnOf "is_whole" "is_whole" (defArgs s_is_whole) (defBody s_is_whole) (defScope s_is_whole) .none kV1 dc1 pm1 an1 cd1 ct1), sl1⟩)
    (c1 : PySem.W.codeIn K cd1 "is_whole" = true)
    (k1 : PySem.W.keepIn K (.ref f1) = true)
    (a2 : PySem.W.nsIn K mainGlobals "value_at" = some (some (.ref f2)))
    (l2 : K.lookup f2 = some ⟨oc2, od2, .func (PySem.W.fnOf "value_at" "value_at" (defArgs s_value_at) (defBody s_value_at) (defScope s_value_at) .none kV2 dc2 pm2 an2 cd2 ct2), sl2⟩)
    (c2 : PySem.W.codeIn K cd2 "value_at" = true)
    (k2 : PySem.W.keepIn K (.ref f2) = true)
    (a3 : PySem.W.nsIn K mainGlobals "is_ahead" = some (some (.ref f3)))
    (l3 : K.lookup f3 = some ⟨oc3, od3, .func (PySem.W.fnOf "is_ahead" "is_ahead" (defArgs s_is_ahead) (defBody s_is_ahead) (defScope s_is_ahead) .none kV3 dc3 pm3 an3 cd3 ct3), sl3⟩)
    (c3 : PySem.W.codeIn K cd3 "is_ahead" = true)
    (k3 : PySem.W.keepIn K (.ref f3) = true)
    (a4 : PySem.W.nsIn K mainGlobals "first_beyond" = some (some (.ref f4)))
    (l4 : K.lookup f4 = some ⟨oc4, od4, .func (PySem.W.fnOf "first_beyond" "first_beyond" (defArgs s_first_beyond) (defBody s_first_beyond) (defScope s_first_beyond) .none kV4 dc4 pm4 an4 cd4 ct4), sl4⟩)
    (c4 : PySem.W.codeIn K cd4 "first_beyond" = true)
    (k4 : PySem.W.keepIn K (.ref f4) = true)
    (a5 : PySem.W.nsIn K mainGlobals "_law_bag" = some (some (.ref f5)))
    (l5 : K.lookup f5 = some ⟨oc5, od5, .func (PySem.W.fnOf "_law_bag" "_law_bag" (defArgs s_l_bag) (defBody s_l_bag) (defScope s_l_bag) .none kV5 dc5 pm5 an5 cd5 ct5), sl5⟩)
    (c5 : PySem.W.codeIn K cd5 "_law_bag" = true)
    (k5 : PySem.W.keepIn K (.ref f5) = true)
    (a6 : PySem.W.nsIn K mainGlobals "_law_draw" = some (some (.ref f6)))
    (l6 : K.lookup f6 = some ⟨oc6, od6, .func (PySem.W.fnOf "_law_draw" "_law_draw" (defArgs s_l_draw) (defBody s_l_draw) (defScope s_l_draw) .none kV6 dc6 pm6 an6 cd6 ct6), sl6⟩)
    (c6 : PySem.W.codeIn K cd6 "_law_draw" = true)
    (k6 : PySem.W.keepIn K (.ref f6) = true)
    (a7 : PySem.W.nsIn K mainGlobals "_law_at" = some (some (.ref f7)))
    (l7 : K.lookup f7 = some ⟨oc7, od7, .func (PySem.W.fnOf "_law_at" "_law_at" (defArgs s_l_at) (defBody s_l_at) (defScope s_l_at) .none kV7 dc7 pm7 an7 cd7 ct7), sl7⟩)
    (c7 : PySem.W.codeIn K cd7 "_law_at" = true)
    (k7 : PySem.W.keepIn K (.ref f7) = true)
    (a8 : PySem.W.nsIn K mainGlobals "_law_place" = some (some (.ref f8)))
    (l8 : K.lookup f8 = some ⟨oc8, od8, .func (PySem.W.fnOf "_law_place" "_law_place" (defArgs s_l_place) (defBody s_l_place) (defScope s_l_place) .none kV8 dc8 pm8 an8 cd8 ct8), sl8⟩)
    (c8 : PySem.W.codeIn K cd8 "_law_place" = true)
    (k8 : PySem.W.keepIn K (.ref f8) = true)
    (a9 : PySem.W.nsIn K mainGlobals "_law_drawn" = some (some (.ref f9)))
    (l9 : K.lookup f9 = some ⟨oc9, od9, .func (PySem.W.fnOf "_law_drawn" "_law_drawn" (defArgs s_l_drawn) (defBody s_l_drawn) (defScope s_l_drawn) .none kV9 dc9 pm9 an9 cd9 ct9), sl9⟩)
    (c9 : PySem.W.codeIn K cd9 "_law_drawn" = true)
    (k9 : PySem.W.keepIn K (.ref f9) = true)
    (a10 : PySem.W.nsIn K mainGlobals "_law_near" = some (some (.ref f10)))
    (l10 : K.lookup f10 = some ⟨oc10, od10, .func (PySem.W.fnOf "_law_near" "_law_near" (defArgs s_l_near) (defBody s_l_near) (defScope s_l_near) .none kV10 dc10 pm10 an10 cd10 ct10), sl10⟩)
    (c10 : PySem.W.codeIn K cd10 "_law_near" = true)
    (k10 : PySem.W.keepIn K (.ref f10) = true)
    (a11 : PySem.W.nsIn K mainGlobals "_law_gap" = some (some (.ref f11)))
    (l11 : K.lookup f11 = some ⟨oc11, od11, .func (PySem.W.fnOf "_law_gap" "_law_gap" (defArgs s_l_gap) (defBody s_l_gap) (defScope s_l_gap) .none kV11 dc11 pm11 an11 cd11 ct11), sl11⟩)
    (c11 : PySem.W.codeIn K cd11 "_law_gap" = true)
    (k11 : PySem.W.keepIn K (.ref f11) = true)
    (a12 : PySem.W.nsIn K mainGlobals "_law_is_always" = some (some (.ref f12)))
    (l12 : K.lookup f12 = some ⟨oc12, od12, .func (PySem.W.fnOf "_law_is_always" "_law_is_always" (defArgs s_l_is_always) (defBody s_l_is_always) (defScope s_l_is_always) .none kV12 dc12 pm12 an12 cd12 ct12), sl12⟩)
    (c12 : PySem.W.codeIn K cd12 "_law_is_always" = true)
    (k12 : PySem.W.keepIn K (.ref f12) = true)
    (a13 : PySem.W.nsIn K mainGlobals "_law_first" = some (some (.ref f13)))
    (l13 : K.lookup f13 = some ⟨oc13, od13, .func (PySem.W.fnOf "_law_first" "_law_first" (defArgs s_l_first) (defBody s_l_first) (defScope s_l_first) .none kV13 dc13 pm13 an13 cd13 ct13), sl13⟩)
    (c13 : PySem.W.codeIn K cd13 "_law_first" = true)
    (k13 : PySem.W.keepIn K (.ref f13) = true)
    (a14 : PySem.W.findIn K (.ref C) "__init__" = some (some (.ref f14)))
    (i14 : PySem.W.isFn K (.ref f14) = true)
    (l14 : K.lookup f14 = some ⟨oc14, od14, .func (PySem.W.fnOf "__init__" "Place.__init__" (defArgs s_Place_init) (defBody s_Place_init) (defScope s_Place_init) (.ref T14) kV14 dc14 pm14 an14 cd14 ct14), sl14⟩)
    (t14 : K.lookup T14 = some ⟨dc214, dd14, .seq #[.int di14 dt14] dn14, ds14⟩)
    (c14 : PySem.W.codeIn K cd14 "Place.__init__" = true)
    (k14 : PySem.W.keepIn K (.ref f14) = true)
    (a15 : PySem.W.findIn K (.ref C) "__call__" = some (some (.ref f15)))
    (i15 : PySem.W.isFn K (.ref f15) = true)
    (l15 : K.lookup f15 = some ⟨oc15, od15, .func (PySem.W.fnOf "__call__" "Place.__call__" (defArgs s_Place_call) (defBody s_Place_call) (defScope s_Place_call) .none kV15 dc15 pm15 an15 cd15 ct15), sl15⟩)
    (c15 : PySem.W.codeIn K cd15 "Place.__call__" = true)
    (k15 : PySem.W.keepIn K (.ref f15) = true)
    (a16 : PySem.W.findIn K (.ref C) "__sub__" = some (some (.ref f16)))
    (i16 : PySem.W.isFn K (.ref f16) = true)
    (l16 : K.lookup f16 = some ⟨oc16, od16, .func (PySem.W.fnOf "__sub__" "Place.__sub__" (defArgs s_Place_sub) (defBody s_Place_sub) (defScope s_Place_sub) .none kV16 dc16 pm16 an16 cd16 ct16), sl16⟩)
    (c16 : PySem.W.codeIn K cd16 "Place.__sub__" = true)
    (k16 : PySem.W.keepIn K (.ref f16) = true)
    (a17 : PySem.W.findIn K (.ref C) "__le__" = some (some (.ref f17)))
    (i17 : PySem.W.isFn K (.ref f17) = true)
    (l17 : K.lookup f17 = some ⟨oc17, od17, .func (PySem.W.fnOf "__le__" "Place.__le__" (defArgs s_Place_le) (defBody s_Place_le) (defScope s_Place_le) .none kV17 dc17 pm17 an17 cd17 ct17), sl17⟩)
    (c17 : PySem.W.codeIn K cd17 "Place.__le__" = true)
    (k17 : PySem.W.keepIn K (.ref f17) = true)
    (a18 : PySem.W.findIn K (.ref C) "__lt__" = some (some (.ref f18)))
    (i18 : PySem.W.isFn K (.ref f18) = true)
    (l18 : K.lookup f18 = some ⟨oc18, od18, .func (PySem.W.fnOf "__lt__" "Place.__lt__" (defArgs s_Place_lt) (defBody s_Place_lt) (defScope s_Place_lt) .none kV18 dc18 pm18 an18 cd18 ct18), sl18⟩)
    (c18 : PySem.W.codeIn K cd18 "Place.__lt__" = true)
    (k18 : PySem.W.keepIn K (.ref f18) = true)
    (a19 : PySem.W.findIn K (.ref C) "__ge__" = some (some (.ref f19)))
    (i19 : PySem.W.isFn K (.ref f19) = true)
    (l19 : K.lookup f19 = some ⟨oc19, od19, .func (PySem.W.fnOf "__ge__" "Place.__ge__" (defArgs s_Place_ge) (defBody s_Place_ge) (defScope s_Place_ge) .none kV19 dc19 pm19 an19 cd19 ct19), sl19⟩)
    (c19 : PySem.W.codeIn K cd19 "Place.__ge__" = true)
    (k19 : PySem.W.keepIn K (.ref f19) = true)
    (a20 : PySem.W.findIn K (.ref C) "__gt__" = some (some (.ref f20)))
    (i20 : PySem.W.isFn K (.ref f20) = true)
    (l20 : K.lookup f20 = some ⟨oc20, od20, .func (PySem.W.fnOf "__gt__" "Place.__gt__" (defArgs s_Place_gt) (defBody s_Place_gt) (defScope s_Place_gt) .none kV20 dc20 pm20 an20 cd20 ct20), sl20⟩)
    (c20 : PySem.W.codeIn K cd20 "Place.__gt__" = true)
    (k20 : PySem.W.keepIn K (.ref f20) = true)
    (a0 : PySem.W.nsIn K mainGlobals "law" = some (some (.ref f0)))
    (l0 : K.lookup f0 = some ⟨oc0, od0, .func (PySem.W.fnOf "law" "law" (defArgs s_law) (defBody s_law) (defScope s_law) .none kV0 dc0 pm0 an0 cd0 ct0), sl0⟩)
    (c0 : PySem.W.codeIn K cd0 "law" = true)
    (k0 : PySem.W.keepIn K (.ref f0) = true)
    (fi : PySem.W.fnIn K f15 = true)
    (zi : di14 = 0) :
    ∀ base : Heap, K.In base → base.Ns mainGlobals mg → FnG l.prog w K mg base (L2.CX l.prog w) 9 fa (spLaw K) := by
  have e := hfa.symm.trans (PySem.W.mg_of X G a0)
  cases e
  have T : Txt K mg := ⟨PySem.W.mg_none_of X G z_len, PySem.W.mg_none_of X G z_abs, PySem.W.mg_none_of X G z_int, PySem.W.mg_none_of X G z_list, PySem.W.mg_none_of X G z_range, PySem.W.mg_none_of X G z_isinstance, PySem.W.mg_none_of X G z_bool, PySem.W.mg_none_of X G z_min, PySem.W.mg_none_of X G z_max, PySem.W.mg_none_of X G z_repr⟩
  have C0 : PlC K mg C := ⟨⟨pg, hd, po, sa⟩, n1, n2, n3, PySem.W.mg_of X G gC, sf, plainMro_mk cC pm, ⟨ne1, ne2⟩, ha, hn, tk, mo, kitOne_mk iC tC sIC, sI, ⟨⟨_, rA, .inr ⟨_, rfl⟩⟩, ⟨_, oA⟩, ⟨_, pA⟩, sIC⟩, ⟨⟨_, rS, .inl rfl⟩, ⟨_, oS⟩, ⟨_, pS⟩, sIC⟩, hi⟩
  have d_is_whole : DefAt K mg "is_whole" s_is_whole ["value"] := defAt_mk X G a1 l1 c1 k1 (fun _ _ _ _ _ _ us hl => match us, hl with | [_], _ => rfl)
  have d_value_at : DefAt K mg "value_at" s_value_at ["slope", "offset", "odd", "size"] := defAt_mk X G a2 l2 c2 k2 (fun _ _ _ _ _ _ us hl => match us, hl with | [_, _, _, _], _ => rfl)
  have d_is_ahead : DefAt K mg "is_ahead" s_is_ahead ["slope", "offset", "odd"] := defAt_mk X G a3 l3 c3 k3 (fun _ _ _ _ _ _ us hl => match us, hl with | [_, _, _], _ => rfl)
  have d_first_beyond : DefAt K mg "first_beyond" s_first_beyond ["one", "other"] := defAt_mk X G a4 l4 c4 k4 (fun _ _ _ _ _ _ us hl => match us, hl with | [_, _], _ => rfl)
  have d_l_bag : DefAt K mg "_law_bag" s_l_bag ["_law_script"] := defAt_mk X G a5 l5 c5 k5 (fun _ _ _ _ _ _ us hl => match us, hl with | [_], _ => rfl)
  have d_l_draw : DefAt K mg "_law_draw" s_l_draw ["_law_bag_here", "_law_limit"] := defAt_mk X G a6 l6 c6 k6 (fun _ _ _ _ _ _ us hl => match us, hl with | [_, _], _ => rfl)
  have d_l_at : DefAt K mg "_law_at" s_l_at ["_law_parts_here", "_law_wide"] := defAt_mk X G a7 l7 c7 k7 (fun _ _ _ _ _ _ us hl => match us, hl with | [_, _], _ => rfl)
  have d_l_place : DefAt K mg "_law_place" s_l_place ["_law_parts_here"] := defAt_mk X G a8 l8 c8 k8 (fun _ _ _ _ _ _ us hl => match us, hl with | [_], _ => rfl)
  have d_l_drawn : DefAt K mg "_law_drawn" s_l_drawn ["_law_bag_here"] := defAt_mk X G a9 l9 c9 k9 (fun _ _ _ _ _ _ us hl => match us, hl with | [_], _ => rfl)
  have d_l_near : DefAt K mg "_law_near" s_l_near ["_law_bag_here", "_law_parts_here"] := defAt_mk X G a10 l10 c10 k10 (fun _ _ _ _ _ _ us hl => match us, hl with | [_, _], _ => rfl)
  have d_l_gap : DefAt K mg "_law_gap" s_l_gap ["_law_parts_here", "_law_others", "_law_size"] := defAt_mk X G a11 l11 c11 k11 (fun _ _ _ _ _ _ us hl => match us, hl with | [_, _, _], _ => rfl)
  have d_l_is_always : DefAt K mg "_law_is_always" s_l_is_always ["_law_parts_here", "_law_others", "_law_most"] := defAt_mk X G a12 l12 c12 k12 (fun _ _ _ _ _ _ us hl => match us, hl with | [_, _, _], _ => rfl)
  have d_l_first : DefAt K mg "_law_first" s_l_first ["_law_parts_here", "_law_others"] := defAt_mk X G a13 l13 c13 k13 (fun _ _ _ _ _ _ us hl => match us, hl with | [_, _], _ => rfl)
  have F14 := funD1_mk (st := s_Place_init) l14 t14 c14 k14
  have b14 : Binds K _ ["self", "slope", "offset", "odd"] [] := FunD.full F14 fun _ _ _ _ _ _ _ us its h1 h2 => match us, h1, its, h2 with | [_, _, _, _], _, [_], _ => ⟨_, rfl, rfl⟩
  have d_Place_call : MetAt K C "__call__" "Place.__call__" s_Place_call ["self", "size"] := metAt_mk a15 i15 l15 c15 k15 (fun _ _ _ _ _ _ us hl => match us, hl with | [_, _], _ => rfl)
  have d_Place_sub : MetAt K C "__sub__" "Place.__sub__" s_Place_sub ["self", "other"] := metAt_mk a16 i16 l16 c16 k16 (fun _ _ _ _ _ _ us hl => match us, hl with | [_, _], _ => rfl)
  have d_Place_le : MetAt K C "__le__" "Place.__le__" s_Place_le ["self", "other"] := metAt_mk a17 i17 l17 c17 k17 (fun _ _ _ _ _ _ us hl => match us, hl with | [_, _], _ => rfl)
  have d_Place_lt : MetAt K C "__lt__" "Place.__lt__" s_Place_lt ["self", "other"] := metAt_mk a18 i18 l18 c18 k18 (fun _ _ _ _ _ _ us hl => match us, hl with | [_, _], _ => rfl)
  have d_Place_ge : MetAt K C "__ge__" "Place.__ge__" s_Place_ge ["self", "other"] := metAt_mk a19 i19 l19 c19 k19 (fun _ _ _ _ _ _ us hl => match us, hl with | [_, _], _ => rfl)
  have d_Place_gt : MetAt K C "__gt__" "Place.__gt__" s_Place_gt ["self", "other"] := metAt_mk a20 i20 l20 c20 k20 (fun _ _ _ _ _ _ us hl => match us, hl with | [_, _], _ => rfl)
  have F0 := fun_mk (st := s_law) l0 c0 k0
  have B0 : Binds K _ ["_law_script"] [] := F0.binds (fun _ _ _ _ _ _ us hl => match us, hl with | [_], _ => rfl)
  exact fun base _ _ => by
    have c_is_whole := ok_is_whole (P := l.prog) (w := w) (K := K) (mg := mg) (base := base) T d_is_whole
    have c_value_at := ok_value_at (P := l.prog) (w := w) (K := K) (mg := mg) (base := base) T d_value_at
    have okI := ok_Place_init T C0 c_is_whole F14 rfl
    have M_Place : Mak l.prog w K mg base 2 "Place" C (spPlI C) := ⟨_, FnOk.all okI b14, C0.g, ⟨mk, a14, i14, kc⟩⟩
    have M_Place2 : Mak l.prog w K mg base 2 "Place" C (spPlI2 C) := by
      subst zi
      obtain ⟨ds, rr, bb⟩ := FunD.dflt (n := 3) (ps := (["self", "slope", "offset", "odd"] : List Str)) F14 rfl fun _ _ _ _ _ _ _ us its h1 h2 => match us, h1, its, h2 with | [_, _, _], _, [_], _ => ⟨_, rfl, rfl⟩
      exact ⟨_, okI.raw bb rr, C0.g, ⟨mk, a14, i14, kc⟩⟩
    have m_call := ok_Place_call T C0 c_is_whole c_value_at d_Place_call
    have m_sub := ok_Place_sub T C0 M_Place d_Place_sub
    have c_ahead := ok_is_ahead T c_value_at d_is_ahead
    have m_le := ok_Place_le T C0 c_ahead d_Place_le
    have m_lt := ok_Place_lt T C0 c_ahead d_Place_lt
    have m_ge := ok_Place_ge T C0 c_ahead d_Place_ge
    have m_gt := ok_Place_gt T C0 c_ahead d_Place_gt
    have c_fb := ok_first_beyond T C0 m_sub m_call (fun g o => by
      have e := a15.symm.trans o.at_
      cases e
      exact fi) d_first_beyond
    have c_bag := ok_l_bag (P := l.prog) (w := w) (K := K) (mg := mg) (base := base) T d_l_bag
    have c_draw := ok_l_draw (P := l.prog) (w := w) (K := K) (mg := mg) (base := base) T d_l_draw
    have c_at := ok_l_at (P := l.prog) (w := w) (K := K) (mg := mg) (base := base) T d_l_at
    have c_pl := ok_l_place T C0 M_Place d_l_place
    have c_drawn := ok_l_drawn T c_draw d_l_drawn
    have c_near := ok_l_near T c_draw d_l_near
    have c_gap := ok_l_gap T c_at d_l_gap
    have c_alw := ok_l_is_always T c_gap d_l_is_always
    have c_fst := ok_l_first T c_gap d_l_first
    exact ok_law T C0 M_Place M_Place2 m_le m_lt m_ge m_gt c_fb c_bag c_draw c_gap c_pl c_drawn c_near c_alw c_fst F0 B0
end Kx
open PySem PySem.W PyProof.Rows
set_option maxRecDepth 100000 in
set_option maxHeartbeats 0 in
theorem PySem.Challenge.cw_heldfloods_k04_places_in_order_holds : PySem.Challenge.rw_heldfloods_k04_places_in_order.Holds := by
  w_on; o_law; k_head; (case hw => w_witness2)
  k_fill
  refine Hf.walkG (l := PySem.Challenge.rw_heldfloods_k04_places_in_order) (k := 9) (by decide) rfl rfl (fun w h Y => PySem.W.kIn_of Y) ?F
  case F =>
    intro w mg fa h KX G hmg
    refine' Kx.all_mk KX G hmg ?z_len ?z_abs ?z_int ?z_list ?z_range ?z_isinstance ?z_bool ?z_min ?z_max ?z_repr ?gC ?pg ?hd ?po ?sa ?n1 ?n2 ?n3 ?sf ?cC ?iC ?tC ?ne1 ?ne2 ?ha ?hn ?tk ?mo ?sI ?rA ?rS ?oA ?pA ?oS ?pS ?sIC ?hi ?mk ?kc ?pm ?a1 ?l1 ?c1 ?k1 ?a2 ?l2 ?c2 ?k2 ?a3 ?l3 ?c3 ?k3 ?a4 ?l4 ?c4 ?k4 ?a5 ?l5 ?c5 ?k5 ?a6 ?l6 ?c6 ?k6 ?a7 ?l7 ?c7 ?k7 ?a8 ?l8 ?c8 ?k8 ?a9 ?l9 ?c9 ?k9 ?a10 ?l10 ?c10 ?k10 ?a11 ?l11 ?c11 ?k11 ?a12 ?l12 ?c12 ?k12 ?a13 ?l13 ?c13 ?k13 ?a14 ?i14 ?l14 ?t14 ?c14 ?k14 ?a15 ?i15 ?l15 ?c15 ?k15 ?a16 ?i16 ?l16 ?c16 ?k16 ?a17 ?i17 ?l17 ?c17 ?k17 ?a18 ?i18 ?l18 ?c18 ?k18 ?a19 ?i19 ?l19 ?c19 ?k19 ?a20 ?i20 ?l20 ?c20 ?k20 ?a0 ?l0 ?c0 ?k0 ?fi ?zi
    (case z_len => k_is)
    (case z_abs => k_is)
    (case z_int => k_is)
    (case z_list => k_is)
    (case z_range => k_is)
    (case z_isinstance => k_is)
    (case z_bool => k_is)
    (case z_min => k_is)
    (case z_max => k_is)
    (case z_repr => k_is)
    (case gC => k_is)
    (case pg => k_is)
    (case hd => k_is)
    (case po => k_is)
    (case sa => k_is)
    (case n1 => k_is)
    (case n2 => k_is)
    (case n3 => k_is)
    (case sf => k_is)
    (case cC => k_is)
    (case iC => k_is)
    (case tC => k_is)
    (case ne1 => k_is)
    (case ne2 => k_is)
    (case ha => k_is)
    (case hn => k_is)
    (case tk => k_is)
    (case mo => k_is)
    (case sI => k_is)
    (case rA => k_is)
    (case rS => k_is)
    (case oA => k_is)
    (case pA => k_is)
    (case oS => k_is)
    (case pS => k_is)
    (case sIC => k_is)
    (case hi => k_is)
    (case mk => k_is)
    (case kc => k_is)
    (case pm => rfl)
    (case a1 => k_is)
    (case l1 => k_is)
    (case c1 => k_is)
    (case k1 => k_is)
    (case a2 => k_is)
    (case l2 => k_is)
    (case c2 => k_is)
    (case k2 => k_is)
    (case a3 => k_is)
    (case l3 => k_is)
    (case c3 => k_is)
    (case k3 => k_is)
    (case a4 => k_is)
    (case l4 => k_is)
    (case c4 => k_is)
    (case k4 => k_is)
    (case a5 => k_is)
    (case l5 => k_is)
    (case c5 => k_is)
    (case k5 => k_is)
    (case a6 => k_is)
    (case l6 => k_is)
    (case c6 => k_is)
    (case k6 => k_is)
    (case a7 => k_is)
    (case l7 => k_is)
    (case c7 => k_is)
    (case k7 => k_is)
    (case a8 => k_is)
    (case l8 => k_is)
    (case c8 => k_is)
    (case k8 => k_is)
    (case a9 => k_is)
    (case l9 => k_is)
    (case c9 => k_is)
    (case k9 => k_is)
    (case a10 => k_is)
    (case l10 => k_is)
    (case c10 => k_is)
    (case k10 => k_is)
    (case a11 => k_is)
    (case l11 => k_is)
    (case c11 => k_is)
    (case k11 => k_is)
    (case a12 => k_is)
    (case l12 => k_is)
    (case c12 => k_is)
    (case k12 => k_is)
    (case a13 => k_is)
    (case l13 => k_is)
    (case c13 => k_is)
    (case k13 => k_is)
    (case a14 => k_is)
    (case i14 => k_is)
    (case l14 => k_is)
    (case t14 => k_is)
    (case c14 => k_is)
    (case k14 => k_is)
    (case a15 => k_is)
    (case i15 => k_is)
    (case l15 => k_is)
    (case c15 => k_is)
    (case k15 => k_is)
    (case a16 => k_is)
    (case i16 => k_is)
    (case l16 => k_is)
    (case c16 => k_is)
    (case k16 => k_is)
    (case a17 => k_is)
    (case i17 => k_is)
    (case l17 => k_is)
    (case c17 => k_is)
    (case k17 => k_is)
    (case a18 => k_is)
    (case i18 => k_is)
    (case l18 => k_is)
    (case c18 => k_is)
    (case k18 => k_is)
    (case a19 => k_is)
    (case i19 => k_is)
    (case l19 => k_is)
    (case c19 => k_is)
    (case k19 => k_is)
    (case a20 => k_is)
    (case i20 => k_is)
    (case l20 => k_is)
    (case c20 => k_is)
    (case k20 => k_is)
    (case a0 => k_is)
    (case l0 => k_is)
    (case c0 => k_is)
    (case k0 => k_is)
    (case fi => k_is)
    (case zi => rfl)
