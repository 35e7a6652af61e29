import PyProof.Rows.All
import Wide.All
import OpenK.AllK
import Wide.FinOn
import HandS.ForMost
import HandS.More
import HandS.Wide
import HandS.Defaults
import HandS.Star
import HandS.SlotsOwn
import HandS.Exc
import HandS.WordsExc
import KE.KOpsOwn
import PyProof.InstNe
import HandS.OwnEq
import PyProof.ListMulRight
import HandS.IsInst
import PyProof.ReprRoads
import PyProof.ReprLen
import PyProof.CallFns
import HandS.ExcInit
import HandS.ExcField
import HandS.ExcIs
import HandS.Nested
import HandS.Lambda
import KE.KExcSuper
import HandS.EndTab
import HandS.EndOwn
import OpenK.KMeth
import KE.KCallOwn
import HandS.FStr
import HandS.MakeKwOnly
import HandS.MakeKw
import PySem.Challenge.RW_heldfloods_k02_places_at_sizes
set_option Elab.async false
set_option linter.all false
set_option maxRecDepth 100000
set_option maxHeartbeats 4000000
namespace Hf
open PySem PySem.Spec PyProof.Rows L2
/-! ### readings, one step each -/
section
variable {σ : L2.St} {H : Hp} {Q : VK} {i : Nat} {v x y : V} {ta tb te tf : TE} {r : R2} {tt tu : TT} {t u : TA} {s1 s2 : TS} {D : Ends} {g : TG} {QA : List V → Hp → Prop} {QB : Bool → Hp → Prop}
theorem rd_var (h : σ[i]? = some (some v)) (q : Q v H) : tVar i σ H Q := ⟨v, h, q⟩
theorem rd_c (q : Q v H) : tC v σ H Q := q
theorem rd_op (q : ta σ H fun x H1 => tb σ H1 fun y H2 => r x y H2 Q) : tOp r ta tb σ H Q := q
theorem rd_un {r : V → Hp → VK → Prop} (q : ta σ H fun x H1 => r x H1 Q) : tUn r ta σ H Q := q
theorem rd_test (q : te σ H fun x H' => ∃ k, x = .bl k ∧ QB k H') : tTest te σ H QB := q
theorem rd_tB (q : te σ H fun x H' => ∃ k, x = .bl k ∧ QB k H') : tB te σ H QB := q
theorem rd_and (q : tt σ H fun c H1 => if c = true then tu σ H1 QB else QB false H1) : tAnd tt tu σ H QB := q
theorem rd_or (q : tt σ H fun c H1 => if c = true then QB true H1 else tu σ H1 QB) : tOr tt tu σ H QB := q
theorem rd_not (q : tt σ H fun c H1 => QB (!c) H1) : tNot tt σ H QB := q
theorem rd_andV (q : ta σ H fun x H1 => ∃ c, x = .bl c ∧ if c = true then tb σ H1 Q else Q (.bl false) H1) : tAndV ta tb σ H Q := q
theorem rd_orV (q : ta σ H fun x H1 => ∃ c, x = .bl c ∧ if c = true then Q (.bl true) H1 else tb σ H1 Q) : tOrV ta tb σ H Q := q
theorem rd_notV (q : ta σ H fun x H1 => ∃ c, x = .bl c ∧ Q (.bl (!c)) H1) : tNotV ta σ H Q := q
theorem rd_if (q : tt σ H fun c H1 => if c = true then ta σ H1 Q else tb σ H1 Q) : tIf tt ta tb σ H Q := q
theorem rd_nil (q : QA [] H) : tNil σ H QA := q
theorem rd_cons (q : ta σ H fun x H1 => t σ H1 fun xs H2 => QA (x :: xs) H2) : tCons ta t σ H QA := q
theorem rd_tup (q : t σ H fun xs H1 => xs.length ≤ sizeLine ∧ ∀ p, H1 p = none → Q (.ref p) (upd H1 p (.tup xs))) : tTup t σ H Q := q
theorem rd_lst (q : t σ H fun xs H1 => xs.length ≤ sizeLine ∧ ∀ p, H1 p = none → Q (.ref p) (upd H1 p (.lst xs))) : tLst t σ H Q := q
theorem rd_seq (q : s1 { D with nx := s2 D } σ H) : tSeq s1 s2 D σ H := q
theorem rd_next (q : D.nx σ H) : tNext D σ H := q
theorem rd_drop (q : te σ H fun _ H1 => D.nx σ H1) : tDrop te D σ H := q
theorem rd_ret (q : te σ H D.rt) : tRet te D σ H := q
theorem rd_retN (q : D.rt .non H) : tRetN D σ H := q
theorem rd_ifS (q : tt σ H fun b H1 => if b = true then s1 D σ H1 else s2 D σ H1) : tIfS tt s1 s2 D σ H := q
theorem rd_asg (q : te σ H fun x H1 => g x σ H1 D.nx) : tAsg te g D σ H := q
theorem rd_gname {K : L2.St → Hp → Prop} (q : K (σ.set i (some v)) H) : gName i v σ H K := q
theorem rd_par {j : Nat} (q : t σ H fun vs H1 => ∃ v w, vs = [v, w] ∧ D.nx ((σ.set i (some v)).set j (some w)) H1) : tPar i j t D σ H := q
theorem rd_bl {b : Bool} {K : Bool → Hp → Prop} (q : K b H) : ∃ k, V.bl b = .bl k ∧ K k H := ⟨b, rfl, q⟩
theorem rd_blP {b : Bool} {K : Bool → Prop} (q : K b) : ∃ k, V.bl b = .bl k ∧ K k := ⟨b, rfl, q⟩
theorem rd_I0 {g : Int → Int → V} {i j : Int} (q : Q (g i j) H) : rI0 g (.int i) (.int j) H Q := ⟨i, j, rfl, rfl, q⟩
theorem rd_I {C : Int → Int → Prop} {g : Int → Int → V} {i j : Int} (c : C i j) (q : Q (g i j) H) : rI C g (.int i) (.int j) H Q := ⟨i, j, rfl, rfl, c, q⟩
theorem rd_U {g : Int → V} {i : Int} (q : Q (g i) H) : rU g (.int i) H Q := ⟨i, rfl, q⟩
theorem rd_eq (h : scal x y = true) (q : Q (.bl (decide (x = y))) H) : rEq x y H Q := ⟨h, q⟩
theorem rd_ne (h : scal x y = true) (q : Q (.bl (!decide (x = y))) H) : rNe x y H Q := ⟨h, q⟩
theorem rd_cb {r : List V → Hp → VK → Prop} (q : t σ H fun vs H1 => r vs H1 Q) : tCB r t σ H Q := q
theorem ite_split {b : Bool} {A B : Prop} (h1 : b = true → A) (h2 : b = false → B) : if b = true then A else B := by
  cases b
  · exact iteF (h2 rfl)
  · exact iteT (h1 rfl)
theorem ite_f {b : Bool} {A B : Prop} (h : b = false) (q : B) : if b = true then A else B := by subst h; exact iteF q
theorem ite_t {b : Bool} {A B : Prop} (h : b = true) (q : A) : if b = true then A else B := by subst h; exact iteT q
end
end Hf

namespace Hf
open PySem PySem.Spec PyProof.Rows L2
/-- a def of the class at C under the name m, at g -/
structure Opr (K : PySem.W.Frag) (C : Addr) (m : Str) (g : Addr) : Prop where
  at_ : PySem.W.findIn K (.ref C) m = some (some (.ref g))
  fn : PySem.W.isFn K (.ref g) = true
section
variable {X : Cx} {CX : CXT} {pins : List (Addr × Obj)} {σ : L2.St} {H : Hp} {s : Shared} {a b C dx dy g : Addr} {fs gs : List (Str × V)} {n : Nat} {sp : Sp} {E : XK}
theorem ins_at (I : Inv X pins σ H s) (h : H a = some (.ins C dx fs)) : ∃ ox od, PySem.W.InstAt s.heap a ox C od := by
  obtain ⟨mA, O, _⟩ := ins_get I.hok h
  obtain ⟨od, J, _⟩ := O.look
  exact ⟨_, _, J⟩
/-- x op y, both instances of C -/
def rBin (C : Addr) (sp : Sp) (E : XK) : R2 := fun x y H Q => ∃ a dx fs b dy gs, x = .ref a ∧ y = .ref b ∧ H a = some (.ins C dx fs) ∧ H b = some (.ins C dy gs) ∧ sp [x, y] H Q E
theorem op_bin {op : Operator} (hc : PySem.W.selfFirst X.K C = true) (o : Opr X.K C (PySem.dunder op.info.2) g) (F : FnR X.prog X.w X.K X.mg X.base CX n g sp) (hr : Room n X.A) (hx : Passes CX X E) : OpR X (binaryOp op) (rBin C sp E) := by
  intro pins s σ H x y v u Q I rx ry h
  obtain ⟨a, dx, fs, b, dy, gs, rfl, rfl, ha, hb, q⟩ := h
  cases (show v = Value.ref a from rx)
  cases (show u = Value.ref b from ry)
  obtain ⟨ox, od, J⟩ := ins_at I ha
  obtain ⟨oy, oe, J'⟩ := ins_at I hb
  obtain ⟨m, hF⟩ := I.fr
  refine PySem.W.binop_K hF I.ok.mod.kin J J'.type hc o.at_ o.fn ?_
  refine wpAny_mono (wpAny_call (run_fnR (us := [.ref a, .ref b]) (vs := [.ref a, .ref b]) F hr hx I (.cons rfl (.cons rfl .nil)) q)) (fun w s' z => ?_) fun _ _ x => x
  obtain ⟨z', H', I', rz, qz⟩ := z
  exact SlX.cmpback rz ⟨z', H', I', rz, qz⟩
/-- x op k, x an instance of C, k a whole number -/
def rBinI (C : Addr) (sp : Sp) (E : XK) : R2 := fun x y H Q => ∃ a dx fs i, x = .ref a ∧ y = .int i ∧ H a = some (.ins C dx fs) ∧ sp [x, y] H Q E
/-- what the written part says of int beside C -/
structure OprI (K : PySem.W.Frag) (C : Addr) (nm : String) : Prop where
  rc : ∃ rc, PySem.W.findIn K (.ref C) (dunderR nm) = some rc ∧ (rc = none ∨ ∃ g : Addr, rc = some (.ref g))
  fo : ∃ fo, PySem.W.findIn K (.type "int") (PySem.dunder nm) = some fo
  ro : ∃ ro, PySem.W.findIn K (.type "int") (dunderR nm) = some ro
  sub : PySem.W.subIn K (.type "int") (.ref C) = some false
theorem op_binI {op : Operator} (hc : PySem.W.selfFirst X.K C = true) (o : Opr X.K C (PySem.dunder op.info.2) g) (oi : OprI X.K C op.info.2) (F : FnR X.prog X.w X.K X.mg X.base CX n g sp) (hr : Room n X.A) (hx : Passes CX X E) : OpR X (binaryOp op) (rBinI C sp E) := by
  intro pins s σ H x y v u Q I rx ry h
  obtain ⟨a, dx, fs, i, rfl, rfl, ha, q⟩ := h
  cases (show v = Value.ref a from rx)
  obtain ⟨t, e⟩ := (show ∃ t, u = Value.int i t from ry)
  cases e
  obtain ⟨ox, od, J⟩ := ins_at I ha
  obtain ⟨m, hF⟩ := I.fr
  obtain ⟨rc, h1, h2⟩ := oi.rc
  obtain ⟨fo, h3⟩ := oi.fo
  obtain ⟨ro, h4⟩ := oi.ro
  refine PySem.W.ksp_binT (T := "int") hF I.ok.mod.kin J rfl hc o.at_ o.fn h1 h2 h3 h4 oi.sub ?_
  refine wpAny_mono (wpAny_call (run_fnR (us := [.ref a, .int i t]) (vs := [.ref a, .int i]) F hr hx I (.cons rfl (.cons ⟨t, rfl⟩ .nil)) q)) (fun w s' z => ?_) fun _ _ x => x
  obtain ⟨z', H', I', rz, qz⟩ := z
  exact SlX.cmpback rz ⟨z', H', I', rz, qz⟩
/-- ~x -/
def rInv (C : Addr) (sp : Sp) (E : XK) : V → Hp → VK → Prop := fun x H Q => ∃ a dx fs, x = .ref a ∧ H a = some (.ins C dx fs) ∧ sp [x] H Q E
theorem un_ownInv (o : Opr X.K C "__invert__" g) (F : FnR X.prog X.w X.K X.mg X.base CX n g sp) (hr : Room n X.A) (hx : Passes CX X E) : UnR X (unaryOp .Invert) (rInv C sp E) := by
  intro pins s σ H x v Q I rx h
  obtain ⟨a, dx, fs, rfl, ha, q⟩ := h
  cases (show v = Value.ref a from rx)
  obtain ⟨ox, od, J⟩ := ins_at I ha
  obtain ⟨m, hF⟩ := I.fr
  refine PySem.W.ksp_inv hF I.ok.mod.kin J o.at_ o.fn ?_
  exact wpAny_call (run_fnR (us := [.ref a]) (vs := [.ref a]) F hr hx I (.cons rfl .nil) q)
/-- x op y by an own comparison, both instances of C -/
def rCmp (C : Addr) (sp : Sp) (E : XK) : R2 := fun x y H Q => ∃ a dx fs b dy gs, x = .ref a ∧ y = .ref b ∧ H a = some (.ins C dx fs) ∧ H b = some (.ins C dy gs) ∧ sp [x, y] H Q E
theorem notFirst_self {K : PySem.W.Frag} {C : Addr} : PySem.W.notFirst K C (.ref C) = true := by
  unfold PySem.W.notFirst
  simp
theorem op_ownC {op : CmpOp} (hop : ∀ a b, compareOp op a b = richCompare op a b) (o : Opr X.K C (cmpInfo op).2.1 g) (F : FnR X.prog X.w X.K X.mg X.base CX n g sp) (hr : Room n X.A) (hx : Passes CX X E) : OpR X (compareOp op) (rCmp C sp E) := by
  intro pins s σ H x y v u Q I rx ry h
  obtain ⟨a, dx, fs, b, dy, gs, rfl, rfl, ha, hb, q⟩ := h
  cases (show v = Value.ref a from rx)
  cases (show u = Value.ref b from ry)
  obtain ⟨ox, od, J⟩ := ins_at I ha
  obtain ⟨oy, oe, J'⟩ := ins_at I hb
  obtain ⟨m, hF⟩ := I.fr
  rw [hop]
  refine PySem.W.cmp_K (op := op) (tb := .ref C) hr.units0 hF I.ok.mod.kin J J'.type notFirst_self o.at_ o.fn ?_
  refine wpAny_mono (wpAny_call (run_fnR (us := [.ref a, .ref b]) (vs := [.ref a, .ref b]) F hr hx I (.cons rfl (.cons rfl .nil)) q)) (fun w s' z => ?_) fun _ _ x => x
  obtain ⟨z', H', I', rz, qz⟩ := z
  exact SlX.cmpback rz ⟨z', H', I', rz, qz⟩
end
end Hf

namespace PySem.W
open PySem
section
variable {prog : Program} {w : World} {A : Around} {E : Value → Shared → Prop} {s : Shared} {K : Frag} {x C L f : Addr} {h₀ : Heap} {m : Str → Option Value} {ox : Obj} {od : Option Obj} {name : Str} {b tb : Value} {id : String}
theorem hf_ifBoundB {M : Model} {args : List Value} {Q : Option Value → Shared → Prop} (X : K.In s.heap) (I : InstAt s.heap x ox C od) (hs : findIn K (.ref C) name = some (some (.builtin id))) (S : Slot "object" name id)
    (h : wpAny M A (call (.builtin id) (.ref x :: args)) (fun v => Q (some v)) E s) : wpAny M A (callSpecialIfBound? (.ref x) name args) Q E s := by
  simp only [callSpecialIfBound?, bindSpecialIfBound?]
  refine wpAny_holding (wpAny_bind (wpAny_bind (wpAny_bind (I.type.here ((looks_findIn X hs).here ?_)))))
  simp only [S.bind]
  refine wpAny_bind (wpAny_askSetting (wpAny_ite ?_))
  have fin : wpAny M A (call (.builtin id) ([.ref x] ++ args) >>= fun v => pure (some v)) Q E s := wpAny_bind (wpAny_mono h (fun v s' h' => wpAny_pure h') fun _ _ h' => h')
  split
  · exact wpAny_bind (wpAny_pure (wpAny_pure fin))
  · exact wpAny_tryCatch (wpAny_bind (wpAny_pure (wpAny_pure fin)))
theorem hf_checkB {M : Model} {rest : List Value} {Q : Unit → Shared → Prop} {owner n : String} (X : K.In s.heap) (I : InstAt s.heap x ox C od) (hob : subIn K (.ref C) (.type owner) = some true) (hk : builtinKind id = some .slot) (hs : splitId id = some (owner, n))
    (ha : argsOk id ⟨.ref x :: rest, []⟩) (hq : Q () s) : wpAny M A (checkBuiltinCall id ⟨.ref x :: rest, []⟩) Q E s := by
  have L1 : Looks M s.heap (typeOf (.ref x)) (.ref C) := I.type
  have L2 : Looks M s.heap (isSubtype (.ref C) (.type owner)) true := looks_subIn X hob
  simp only [checkBuiltinCall, hk, hs]
  refine wpAny_bind ?_
  unfold isInstance
  refine wpAny_bind (L1.here (L2.here ?_))
  simp only [Bool.not_true, Bool.false_eq_true, if_false]
  cases hsig : Manifest.signature? id with
  | none => exact wpAny_pure hq
  | some sig =>
    simp only [argsOk, hsig] at ha
    have h2 : Bind.checkArgs id sig ⟨.ref x :: rest, []⟩ = pure () := ha
    first
    | (show wpAny M A (Bind.checkArgs id sig ⟨.ref x :: rest, []⟩) Q E _; rw [h2]; exact wpAny_pure hq)
    | (rw [h2]; exact wpAny_pure hq)
theorem hf_ne {Q : Value → Shared → Prop} (hu : A.units + 1 < cLine) (X : K.In s.heap) (I : InstAt s.heap x ox C od) (hb : Looks (model prog w) s.heap (typeOf b) tb) (hn : notFirst K C tb = true)
    (hne : findIn K (.ref C) "__ne__" = some (some (.builtin "object.__ne__"))) (hob : subIn K (.ref C) (.type "object") = some true)
    (hs : findIn K (.ref C) "__eq__" = some (some (.ref f))) (hf : isFn K (.ref f) = true)
    (h : wpAny (model prog w) A.in1 (call (.ref f) [.ref x, b]) (fun v s' => ∃ c, v = .bool c ∧ Q (.bool (!c)) s') E s) : wpAny (model prog w) A (richCompare .NotEq (.ref x) b) Q E s := by
  have one : wpAny (model prog w) A (tryCompare (.ref x) "__ne__" b) (fun r s' => ∃ v, r = some v ∧ Q v s') E s := by
    unfold tryCompare
    refine wpAny_bind (hf_ifBoundB X I hne F.cmp_object.ne (wpAny_call (codeAny_call_builtin F.cmp_object.ne.plain F.cmpEntry_ne (hf_checkB X I hob F.cmpKind_ne F.cmpSplit_ne (F.cmpArgs_ne _ _) ?_))))
    unfold Builtin.«object.__ne__»
    show wpAny (model prog w) A.in1 _ _ _ s
    repeat (first
      | with_reducible refine wpAny_cRoomFor hu ?_
      | (refine wpAny_bind (m := callSpecialIfBound? (.ref x) (Str.ofString "__eq__") [b])
          (ifBound_K X I hs hf (wpAny_mono h (fun r s' hr => by
            obtain ⟨c, rfl, hq⟩ := hr
            repeat (first | exact hq | exact ⟨_, rfl, hq⟩ | exact wpAny_pure ⟨_, rfl, hq⟩ | (refine wpAny_bind (m := truthy (.bool _)) (wpAny_truthy_bool ?_)) | wp_step)) fun _ _ e => e)))
      | wp_step)
  unfold richCompare
  simp only [oneThing_ref]
  refine wpAny_holding (wpAny_bind (wpAny_cRoomFor (Nat.lt_of_succ_lt hu) ?_))
  refine wpAny_bind (I.type.here (wpAny_bind (hb.here ?_)))
  split
  · rename_i q
    have e : subIn K tb (.ref C) = some false := by
      unfold notFirst at hn
      rcases Bool.or_eq_true _ _ ▸ hn with h1 | h1
      · rw [beq_iff_eq.mp h1] at q
        simp at q
      · exact beq_iff_eq.mp h1
    refine wpAny_bind ((looks_subIn X e).here ?_)
    simp only [Bool.false_eq_true, if_false]
    refine wpAny_bind (wpAny_mono one (fun r s' hr => ?_) fun _ _ e => e)
    obtain ⟨v, rfl, hq⟩ := hr
    exact wpAny_pure hq
  · refine wpAny_bind (wpAny_pure ?_)
    simp only [Bool.false_eq_true, if_false]
    refine wpAny_bind (wpAny_mono one (fun r s' hr => ?_) fun _ _ e => e)
    obtain ⟨v, rfl, hq⟩ := hr
    exact wpAny_pure hq
end
end PySem.W

namespace GQ
open PySem PySem.SeqAt
open AutoSeq1 (wpAny_loadPart')
open MeetsSeq MeetsSeq2 MeetsSeq3 SeqRoads2
section
variable {prog : Program} {w : World} {A : Around} {R : Result → Shared → Prop}
theorem ne_loopG (l b : Addr) (N : Nat) (I : Nat → Shared → Prop) (hl : ListI prog w A (fun e s' => R (.error e) s') l b N I)
    (fin : ∀ s, I N s → R (.ok (.ret (.bool false))) s) (k : Nat) :
    ∀ i : Nat, N - i = k → i ≤ N → ∀ s, I i s →
      wpAny (model prog w) A.in1 (Builtin.«list.__eq__.loop» ⟨[.ref l, .ref b, rawInt i, rawInt 3], []⟩) (FinOf prog w A R) (fun e s' => R (.error e) s') s := by
  induction k with
  | zero =>
    intro i hk hi s h
    obtain ⟨items, items2, n, n2, hl1, hb1, hs1, hs2, _⟩ := hl _ _ h
    have hi' : i = N := by omega
    have hR : R (.ok (.ret (.bool false))) s := fin s (hi' ▸ h)
    obtain ⟨hp, g, d, tk, os⟩ := s
    wp_walk using wpAny_loadPart' hl1, wpAny_loadPart' hb1
    have hi1 : items[((i : Nat) : Int).toNat]? = none := by simp; omega
    have hi2 : items2[((i : Nat) : Int).toNat]? = none := by simp; omega
    rw [hi1, hi2]
    wp_walk using wpAny_loadPart' hl1, wpAny_loadPart' hb1
    show R (.ok (.ret (.bool (items.size != items2.size)))) _
    rw [hs1, hs2]
    simpa using hR
  | succ k ih =>
    intro i hk hi s h
    obtain ⟨items, items2, n, n2, hl1, hb1, hs1, hs2, turn⟩ := hl _ _ h
    have hlt : i < items.size := by omega
    have hlt2 : i < items2.size := by omega
    have ht := turn hlt hlt2
    obtain ⟨hp, g, d, tk, os⟩ := s
    wp_walk using wpAny_loadPart' hl1, wpAny_loadPart' hb1
    have hi1 : items[((i : Nat) : Int).toNat]? = some items[i] := by simp [hlt]
    have hi2 : items2[((i : Nat) : Int).toNat]? = some items2[i] := by simp [hlt2]
    have hc : ((i : Int) + 1) = ((i + 1 : Nat) : Int) := by omega
    rw [hi1, hi2]
    refine wpAny_bind (wpAny_mono ht (fun r s2 h2 => ?_) fun _ _ x => x)
    obtain ⟨hr, h2⟩ := h2
    subst hr
    have hrec := ih (i + 1) (by omega) (by omega) s2 h2
    obtain ⟨hp2, g2, d2, tk2, os2⟩ := s2
    wp_walk
    rw [hc]
    exact ⟨plainId_quiet plain_eq_loop _, codeAny_builtin entry_eq_loop (by
      rw [Around.under_plainId plain_eq_loop _]
      exact hrec)⟩
theorem list_neG (l b : Addr) (N : Nat) (I : Nat → Shared → Prop) (hl : ListI prog w A (fun e s' => R (.error e) s') l b N I)
    (fin : ∀ s, I N s → R (.ok (.ret (.bool false))) s) {s : Shared} (h : I 0 s) :
    wpAny (model prog w) A.in1 (Builtin.«list.__ne__» ⟨[.ref l, .ref b], []⟩) (FinOf prog w A R) (fun e s' => R (.error e) s') s := by
  obtain ⟨items, items2, n, n2, hl1, hb1, hs1, hs2, _⟩ := hl _ _ h
  have hrec := ne_loopG (A := A) (R := R) l b N I hl fin _ 0 rfl (Nat.zero_le _) s h
  obtain ⟨hp, g, d, tk, os⟩ := s
  have f3 := AutoSeq1.sub_list_list
  have hne : ¬ (items.size != items2.size) = true := by simp [hs1, hs2]
  wp_walk using wpAny_loadPart' hl1, wpAny_loadPart' hb1
  exact ⟨plainId_quiet plain_eq_loop _, codeAny_builtin entry_eq_loop (by
    rw [Around.under_plainId plain_eq_loop _]
    exact hrec)⟩
end
section
variable {prog : Program} {w : World} {A : Around} {E : Value → Shared → Prop} {s : Shared}
theorem rc_listNeG {l b : Addr} {N : Nat} {Q : Value → Shared → Prop} (hu : A.units < cLine) (I : Nat → Shared → Prop) (hl : ListI prog w A E l b N I)
    (fin : ∀ s, I N s → Q (.bool false) s) (h : I 0 s) : wpAny (model prog w) A (richCompare .NotEq (.ref l) (.ref b)) Q E s := by
  obtain ⟨items, items2, n, n2, hl1, hb1, _, _, _⟩ := hl _ _ h
  refine wpAny_richCompare_same_room (op := .NotEq) ⟨_, hl1, rfl⟩ ⟨_, hb1, rfl⟩ F.slot_list_ne (call_here F.slot_list_ne ⟨_, hl1, rfl⟩ F.entry_list_ne (F.args_list_ne_2 _ _) ?_) hu
  exact list_neG (R := wants (fun v s' => v ≠ .notImplemented ∧ Q v s') E) l b N I hl (fun s' q => ⟨(fun x => nomatch x), fin s' q⟩) h
end
end GQ
namespace Hf
open PySem PySem.Spec PyProof.Rows L2
section
variable {X : Cx} {CX : CXT} {n : Nat} {C g : Addr} {sp : Sp} {E : XK} {D : Eqv}
/-- x != y by the own ==, both instances of C -/
def rNeO (C : Addr) (sp : Sp) (E : XK) : R2 := fun x y H Q => ∃ a dx fs b dy gs, x = .ref a ∧ y = .ref b ∧ H a = some (.ins C dx fs) ∧ H b = some (.ins C dy gs) ∧ sp [x, y] H (fun v H' => ∃ c, v = .bl c ∧ Q (.bl (!c)) H') E
/-- what the class says of != -/
structure NeC (K : PySem.W.Frag) (C : Addr) : Prop where
  ne : PySem.W.findIn K (.ref C) "__ne__" = some (some (.builtin "object.__ne__"))
  ob : PySem.W.subIn K (.ref C) (.type "object") = some true
theorem op_ownNe (c : NeC X.K C) (o : Opr X.K C "__eq__" g) (F : FnR X.prog X.w X.K X.mg X.base CX n g sp) (hr : Room (n + 1) X.A) (hx : Passes CX X E) : OpR X (compareOp .NotEq) (rNeO C sp E) := by
  intro pins s σ H x y v u Q I rx ry h
  obtain ⟨a, dx, fs, b, dy, gs, rfl, rfl, ha, hb, q⟩ := h
  cases (show v = Value.ref a from rx)
  cases (show u = Value.ref b from ry)
  obtain ⟨ox, od, J⟩ := ins_at I ha
  obtain ⟨oy, oe, J'⟩ := ins_at I hb
  show wpAny (model X.prog X.w) X.A (richCompare .NotEq _ _) _ _ _
  refine PySem.W.hf_ne (tb := .ref C) (by have := hr.un; omega) I.kIn J J'.type notFirst_self c.ne c.ob o.at_ o.fn ?_
  refine wpAny_mono (wpAny_call (SlX.run_at (A := X.A.in1) (us := [.ref a, .ref b]) (ws := [.ref a, .ref b]) F hr.in1 I.env0.in1 hx I (.cons rfl (.cons rfl .nil)) q)) (fun w s' z => ?_) fun _ _ x => x
  obtain ⟨z', H', I', rz, c', ec, qz⟩ := z
  subst ec
  cases (show w = Value.bool c' from rz)
  exact ⟨c', rfl, .bl (!c'), H', I', rfl, qz⟩
/-- == inside a list by an own ==, positional -/
theorem eqG_insR {R : Addr → Addr → Hp → Prop} (o : Opr X.K C "__eq__" g) (F : FnR X.prog X.w X.K X.mg X.base CX n g (spEq R)) (hx : Passes CX X E) : RcG X n (DIns C R) := by
  intro A pins s σ H x y u v sb I rx ry d
  obtain ⟨a, b, dx, dy, fs, gs, rfl, rfl, ha, hb', hr⟩ := d
  cases rx
  cases ry
  obtain ⟨ox, od, J⟩ := ins_at I ha
  obtain ⟨oy, oe, J'⟩ := ins_at I hb'
  obtain ⟨m, hF⟩ := I.fr
  refine PySem.W.cmp_K (op := .Eq) (tb := .ref C) sb.room.units0 hF I.ok.mod.kin J J'.type notFirst_self o.at_ o.fn ?_
  have hsp : spEq R [.ref a, .ref b] H (fun v H' => v = .bl true ∧ Ext H H') E := ⟨a, b, rfl, hr, fun H' e => ⟨rfl, e⟩⟩
  have e0 : Env0 X.prog X.w X.K X.mg X.base A X.stack s H := by
    have e := I.env0
    exact ⟨by rw [sb.fr]; exact e.frames, e.mod, e.bs, e.bsz, e.funs, e.frf, e.hok, e.bare⟩
  have r2 : Vals [V.ref a, V.ref b] [Value.ref a, Value.ref b] := .cons rfl (.cons rfl .nil)
  refine wpAny_mono (wpAny_call (SlX.run_at F sb.room e0 hx I r2 hsp)) (fun w s' z => ?_) fun _ _ x => x
  obtain ⟨z', H', I', rz, ez, ex⟩ := z
  subst ez
  cases rz
  exact ⟨rfl, H', I', ex⟩
/-- xs != ys of two lists whose items are equal one by one -/
def rNeG (D : Eqv) : R2 := fun x y H Q => DList D x y H ∧ ∀ H', Ext H H' → Q (.bl false) H'
theorem op_neG (hD : Mon D) (h : EqG X n D) (hr : Room (n + 1) X.A) : OpR X (compareOp .NotEq) (rNeG D) := by
  intro pins s σ H x y v u Q I rx ry hq
  obtain ⟨⟨a, b, xs, ys, rfl, rfl, ha, hb, p⟩, q⟩ := hq
  cases rx
  cases ry
  show wpAny (model X.prog X.w) X.A (richCompare .NotEq _ _) _ _ _
  have sb : Sub X (n + 1) X.A := ⟨hr, rfl⟩
  refine GQ.rc_listNeG (N := xs.length) sb.room.units0 (fun _ s' => LoopI X pins σ H s') (fun i s' z => ?_) (fun s' z => ?_) ⟨H, I, Ext.rfl'⟩
  · obtain ⟨H1, I1, e1⟩ := id z
    obtain ⟨z1, its, k, r, e⟩ := I1.hok a _ (e1 _ _ ha)
    obtain ⟨z2, its2, k2, r2, e2⟩ := I1.hok b _ (e1 _ _ hb)
    refine ⟨its.toArray, its2.toArray, k, k2, e, e2, by rw [List.size_toArray, ← r.length], by rw [List.size_toArray, ← r2.length, ← p.1], fun h1 h2 => ?_⟩
    exact turnG hD h sb p r r2 i h1 h2 s' z
  · obtain ⟨H1, I1, e1⟩ := z
    exact ⟨.bl false, H1, I1, rfl, q H1 e1⟩
end
/-! ### defs, methods, classes by name, positional -/
section
variable {P : Program} {w : World} {K : PySem.W.Frag} {mg : Str → Option Value} {base : Heap}
/-- x, a def of the module, keeps sp -/
def Cal (P : Program) (w : World) (K : PySem.W.Frag) (mg : Str → Option Value) (base : Heap) (k : Nat) (x : Str) (sp : Sp) : Prop :=
  ∃ f, FnR P w K mg base (L2.CX P w) k f sp ∧ mg x = some (.ref f) ∧ PySem.W.keepIn K (.ref f) = true
/-- m, a def of the class at C, keeps sp (self ahead) -/
def Met (P : Program) (w : World) (K : PySem.W.Frag) (mg : Str → Option Value) (base : Heap) (k : Nat) (C : Addr) (m : Str) (sp : Sp) : Prop :=
  ∃ f, FnR P w K mg base (L2.CX P w) k f sp ∧ Meth K C m f
/-- x, a class of the module at C, is made by sp (self ahead) -/
def Mak (P : Program) (w : World) (K : PySem.W.Frag) (mg : Str → Option Value) (base : Heap) (k : Nat) (x : Str) (C : Addr) (sp : Sp) : Prop :=
  ∃ f, FnR P w K mg base (L2.CX P w) k f sp ∧ mg x = some (.ref C) ∧ Mk K C f
theorem Met.opr {k : Nat} {C : Addr} {m : Str} {sp : Sp} (h : Met P w K mg base k C m sp) : ∃ g, Opr K C m g ∧ FnR P w K mg base (L2.CX P w) k g sp := by
  obtain ⟨f, F, M⟩ := h
  exact ⟨f, ⟨M.at_, M.fn⟩, F⟩
/-- a def whose body lets nothing out -/
theorem fnR0 {x qual : Str} {st : Stmt} {f : Addr} {fd : FuncData} {N ps : List Str} {k : Nat} {sp : Sp} (F : Fun K x qual st f fd) (b : Binds K fd ps []) (S : FnScope N ps (defScope st)) (len : ∀ vs H Q E, sp vs H Q E → vs.length = ps.length)
    (hbody : ∀ (cdv : Value) (A : Around) (outer : List Env) (s : Shared) (H : Hp) (vs : List V) (Q : VK) (E : XK), Room k (A.deeper (envOfC qual (defScope st) s.heap.objs.size f cdv)) → sp vs H Q E →
      ∃ t, PSs (cxOf (L2.CX P w) P w K mg base N qual (defScope st) f cdv A outer s H E).nox (defBody st) t ∧ t { nx := fun _ H' => Q .non H', rt := Q } (start N vs) H) : FnR P w K mg base (L2.CX P w) (k + 1) f sp := by
  have G := F.okX (P := P) (w := w) (mg := mg) (base := base) S len fun cdv A outer s H vs Q E hr h => let ⟨t, a, b⟩ := hbody cdv A outer s H vs Q E hr h; ⟨t, a.nox, b⟩
  exact (G.raw b .nil).imp fun vs H Q E h => by rw [List.append_nil]; exact h
end
section
variable {X : Cx} {E : XK} {k j : Nat} {C : Addr} {x m : Str} {sp : Sp} {p pos apos : Pos} {e o : Expr} {es : List Expr} {ta : TE} {t : TA}
/-- f(e, ..) -/
def tCl (sp : Sp) (E : XK) (t : TA) : TE := fun σ H Q => t σ H fun vs H1 => sp vs H1 Q E
theorem pe_cl (c : Cal X.prog X.w X.K X.mg X.base k x sp) (hr : Room j X.A) (hx : Passes (L2.CX X.prog X.w) X E) (ha : PA X (e :: es) t) (hk : k ≤ j := by decide) (hg : Gl X x := by rfl)
    (hdb : (x == ("__debug__" : Str)) = false := by decide) (he : starEach (e :: es) X.env = (false, eval e X.env) :: starEach es X.env := by rfl) (hpl : (backTo pos (starEach es X.env)).any (·.1) = false := by rfl) :
    PE X (.Call (.Name x p) (e :: es) [] pos) (tCl sp E t) := by
  obtain ⟨f, F, hm, kp⟩ := c
  refine ⟨fun pins s σ H Q I h => ?_⟩
  refine wpAny_Call_Name_kw (ld_glob I hg hm ?_ hdb)
  refine PySem.W.callWith_K (h₀ := X.base) I.ok.mod.kin kp (thn (ha.run pos pins s σ H _ I h) fun us s1 ⟨vs, H1, I1, r1, q1⟩ => ?_) he hpl
  exact ⟨I1.kIn, wpAny_call (run_fnR F (hr.mono hk) hx I1 r1 q1)⟩
theorem pe_cl0 (c : Cal X.prog X.w X.K X.mg X.base k x sp) (hr : Room j X.A) (hx : Passes (L2.CX X.prog X.w) X E) (hk : k ≤ j := by decide) (hg : Gl X x := by rfl)
    (hdb : (x == ("__debug__" : Str)) = false := by decide) : PE X (.Call (.Name x p) [] [] pos) (tCl sp E tNil) := by
  obtain ⟨f, F, hm, kp⟩ := c
  refine ⟨fun pins s σ H Q I h => ?_⟩
  refine wpAny_Call_Name_kw (ld_glob I hg hm ?_ hdb)
  exact PySem.W.callWith_K0 I.kIn kp (wpAny_call (run_fnR (us := []) (vs := []) F (hr.mono hk) hx I .nil h))
/-- o.m(e, ..), o an instance of C -/
theorem pe_me {pl : Sem Bool} (he : PE X o ta) (c : Cls X.K C) (M : Met X.prog X.w X.K X.mg X.base k C m sp) (hr : Room j X.A) (hx : Passes (L2.CX X.prog X.w) X E) (ha : PA X (e :: es) t) (hk : k ≤ j := by decide)
    (hst : starEach (e :: es) X.env = (false, eval e X.env) :: starEach es X.env := by rfl) (hpl : (backTo pos (starEach es X.env)).any (·.1) = false := by rfl)
    (ht : eval (.Call (.Attribute o m apos) (e :: es) [] pos) X.env = (do
      let ov ← eval o X.env
      standAt apos.atName
      let (f, first) ← holding [ov] (getMethod ov m pl)
      callWith pos f first (backTo pos (starEach (e :: es) X.env)) (backToKw pos (keywordEach [] X.env))) := by rfl) :
    PE X (.Call (.Attribute o m apos) (e :: es) [] pos) (tMethR C m sp E ta t) := by
  obtain ⟨f, F, hm⟩ := M
  exact pe_methR (pl := pl) he c hm F (hr.mono hk) hx ha hst hpl ht
theorem pe_me0 {pl : Sem Bool} (he : PE X o ta) (c : Cls X.K C) (M : Met X.prog X.w X.K X.mg X.base k C m sp) (hr : Room j X.A) (hx : Passes (L2.CX X.prog X.w) X E) (hk : k ≤ j := by decide)
    (ht : eval (.Call (.Attribute o m apos) [] [] pos) X.env = (do
      let ov ← eval o X.env
      standAt apos.atName
      let (f, first) ← holding [ov] (getMethod ov m pl)
      callWith pos f first (backTo pos (starEach [] X.env)) (backToKw pos (keywordEach [] X.env))) := by rfl) :
    PE X (.Call (.Attribute o m apos) [] [] pos) (tMethR C m sp E ta tNil) := by
  obtain ⟨f, F, hm⟩ := M
  refine ⟨fun pins s σ H Q I h => ?_⟩
  refine PySem.W.methodCall_KW (pl := pl) (thn (he.run pins s σ H _ I h) fun u s1 ⟨x, H1, I1, rx, a, dx, fs, ex, ea, l, q⟩ => ?_) ht
  subst ex
  obtain rfl : u = Value.ref a := rx
  refine getmeth_ok I1 ea c hm l ?_
  exact PySem.W.callWith_K0 (first := [.ref a]) I1.kIn hm.kp (wpAny_call (run_fnR (us := [.ref a]) (vs := [.ref a]) F (hr.mono hk) hx I1 (.cons rfl .nil) q))
/-- C(e, ..) -/
theorem pe_ma (M : Mak X.prog X.w X.K X.mg X.base k x C sp) (hr : Room j X.A) (hx : Passes (L2.CX X.prog X.w) X E) (ha : PA X (e :: es) t) (hk : k + 1 ≤ j := by decide) (hg : Gl X x := by rfl) (hdb : (x == ("__debug__" : Str)) = false := by decide)
    (he : starEach (e :: es) X.env = (false, eval e X.env) :: starEach es X.env := by rfl) (hpl : (backTo pos (starEach es X.env)).any (·.1) = false := by rfl) : PE X (.Call (.Name x p) (e :: es) [] pos) (StX.tMakeR C sp E t) := by
  obtain ⟨f, F, hm, mk⟩ := M
  exact StX.pe_makeR mk F (hr.mono hk) hg hm hx ha hdb he hpl
theorem op_binM {op : Operator} (hc : PySem.W.selfFirst X.K C = true) (M : Met X.prog X.w X.K X.mg X.base k C (PySem.dunder op.info.2) sp) (hr : Room j X.A) (hx : Passes (L2.CX X.prog X.w) X E) (hk : k ≤ j := by decide) : OpR X (binaryOp op) (rBin C sp E) := by
  obtain ⟨g, o, F⟩ := M.opr
  exact op_bin hc o F (hr.mono hk) hx
theorem op_binIM {op : Operator} (hc : PySem.W.selfFirst X.K C = true) (M : Met X.prog X.w X.K X.mg X.base k C (PySem.dunder op.info.2) sp) (oi : OprI X.K C op.info.2) (hr : Room j X.A) (hx : Passes (L2.CX X.prog X.w) X E) (hk : k ≤ j := by decide) : OpR X (binaryOp op) (rBinI C sp E) := by
  obtain ⟨g, o, F⟩ := M.opr
  exact op_binI hc o oi F (hr.mono hk) hx
theorem un_invM (M : Met X.prog X.w X.K X.mg X.base k C "__invert__" sp) (hr : Room j X.A) (hx : Passes (L2.CX X.prog X.w) X E) (hk : k ≤ j := by decide) : UnR X (unaryOp .Invert) (rInv C sp E) := by
  obtain ⟨g, o, F⟩ := M.opr
  exact un_ownInv o F (hr.mono hk) hx
theorem op_cmpM {op : CmpOp} (M : Met X.prog X.w X.K X.mg X.base k C (cmpInfo op).2.1 sp) (hr : Room j X.A) (hx : Passes (L2.CX X.prog X.w) X E) (hk : k ≤ j := by decide) (hop : ∀ a b, compareOp op a b = richCompare op a b := by intros; rfl) : OpR X (compareOp op) (rCmp C sp E) := by
  obtain ⟨g, o, F⟩ := M.opr
  exact op_ownC hop o F (hr.mono hk) hx
theorem op_neM (c : NeC X.K C) (M : Met X.prog X.w X.K X.mg X.base k C "__eq__" sp) (hr : Room j X.A) (hx : Passes (L2.CX X.prog X.w) X E) (hk : k + 1 ≤ j := by decide) : OpR X (compareOp .NotEq) (rNeO C sp E) := by
  obtain ⟨g, o, F⟩ := M.opr
  exact op_ownNe c o F (hr.mono hk) hx
/-- x(e, ..), x an expression that gives an instance of C with __call__ -/
def tCallI (C : Addr) (sp : Sp) (E : XK) (tf : TE) (t : TA) : TE := fun σ H Q => tf σ H fun y H1 => ∃ a, y = V.ref a ∧ t σ H1 fun vs H2 => (∃ dx fs, H2 a = some (.ins C dx fs)) ∧ sp (V.ref a :: vs) H2 Q E
theorem pe_callM {fe : Expr} {tf : TE} (hf : PE X fe tf) (M : Met X.prog X.w X.K X.mg X.base k C "__call__" sp) (fi : ∀ g, Opr X.K C "__call__" g → PySem.W.fnIn X.K g = true) (hr : Room j X.A) (hx : Passes (L2.CX X.prog X.w) X E) (ha : PA X (e :: es) t) (hk : k ≤ j := by decide)
    (ht : eval (.Call fe (e :: es) [] pos) X.env = (do callWith pos (← eval fe X.env) [] (backTo pos (starEach (e :: es) X.env)) (backToKw pos (keywordEach [] X.env))) := by rfl)
    (he : starEach (e :: es) X.env = (false, eval e X.env) :: starEach es X.env := by rfl) (hpl : (backTo pos (starEach es X.env)).any (·.1) = false := by rfl) : PE X (.Call fe (e :: es) [] pos) (tCallI C sp E tf t) := by
  obtain ⟨g, o, F⟩ := M.opr
  have c : StX.CallO X.K C g := ⟨o.at_, o.fn, fi g o⟩
  refine ⟨fun pins s σ H Q I h => ?_⟩
  refine PyProof.Rows.Call_ (thn (hf.run pins s σ H _ I h) fun u s1 ⟨y, H1, I1, ry, a, ey, q⟩ => ?_) ht
  subst ey
  obtain rfl : u = Value.ref a := ry
  refine StX.callO_with (thn (ha.run pos pins s1 σ H1 _ I1 q) fun us s2 ⟨vs, H2, I2, r, hi, q2⟩ => ?_) he hpl
  have hi' : StX.InsC X H2 a C := .inr hi
  obtain ⟨ox, od, J, hd⟩ := StX.insC_at I2 hi'
  exact ⟨⟨C, ox, od, J, hd⟩, StX.run_callO c F (hr.mono hk) hx I2 hi' r q2⟩
end
end Hf

namespace PySem
open Sem (wp)
open Builtin
theorem hf_int_add_inst (a : Int) (t : Tok) (l C dx : Addr) :
    Meets (Builtin.«int.__add__» ⟨[.int a t, .ref l], []⟩) (fun _ R s => s.heap.get? l = some (PySem.W.instObj C dx) ∧ R (.ok (.ret Value.notImplemented)) s) :=
  .of_wp fun prog w A R s h => by obtain ⟨hp, g, d, tk, os⟩ := s; obtain ⟨hl, h⟩ := h; unfold PySem.W.instObj at hl; wp_walk; exact ⟨_, rfl, h⟩
theorem hf_int_mul_inst (a : Int) (t : Tok) (l C dx : Addr) :
    Meets (Builtin.«int.__mul__» ⟨[.int a t, .ref l], []⟩) (fun _ R s => s.heap.get? l = some (PySem.W.instObj C dx) ∧ R (.ok (.ret Value.notImplemented)) s) :=
  .of_wp fun prog w A R s h => by obtain ⟨hp, g, d, tk, os⟩ := s; obtain ⟨hl, h⟩ := h; unfold PySem.W.instObj at hl; wp_walk; exact ⟨_, rfl, h⟩
end PySem

namespace PySem.W
open PySem
section
variable {prog : Program} {w : World} {A : Around} {E : Value → Shared → Prop} {s : Shared} {K : Frag} {x C L f : Addr} {h₀ : Heap} {m : Str → Option Value} {ox : Obj} {od : Option Obj} {nm : String} {b : Value} {id : String}
/-- a builtin on the left declines, the instance's reflected def answers -/
theorem hf_refl {a : Value} {Q : Option Value → Shared → Prop} {fo : Option Value} (X : K.In s.heap) (I : InstAt s.heap x ox C od) (ha : s.TypeIs a "int") (hc : selfFirst K C = true) (hf0 : fillsNumberSlot (.type "int") nm = pure true) (hl : Slot "int" (PySem.dunder nm) id)
    (hs : findIn K (.ref C) (PySem.dunder nm) = some (some (.ref L))) (hr : findIn K (.ref C) (dunderR nm) = some (some (.ref f))) (hf : isFn K (.ref f) = true) (hsub : subIn K (.ref C) (.type "int") = some false)
    (hd : wpAny (model prog w) A (call (.builtin id) [a, .ref x]) (fun v s' => v = .notImplemented ∧ s' = s) E s)
    (h : wpAny (model prog w) A (call (.ref f) [.ref x, a]) (CmpBack fun v s' => Q (some v) s') E s) : wpAny (model prog w) A (binaryOp1 nm a (.ref x)) Q E s := by
  obtain ⟨cd, rest, hcd, hm⟩ := ksp_first hc
  have one := ksp_try (Q := fun v s' => Q (some v) s') X I hr hf h
  have L1 : Looks (model prog w) s.heap (typeOf (.ref x)) (.ref C) := I.type
  have L3 : Looks (model prog w) s.heap (fillsNumberSlot (.ref C) nm) true := fills_K X hcd hm hs
  have L5 : Looks (model prog w) s.heap (isSubtype (.ref C) (.type "int")) false := looks_subIn X hsub
  have hne : (Value.type "int" == Value.ref C) = false := Bool.eq_false_iff.mpr fun q => by cases beq_iff_eq.mp q
  have hpy : numberSlotInPython (.type "int") nm = pure false := rfl
  simp only [binaryOp1]
  refine wpAny_bind (wpAny_typeOf ha (wpAny_bind (L1.here (wpAny_bind (wpAny_of_eq hf0 ?_)))))
  simp only [hne, Bool.false_eq_true, if_false]
  refine wpAny_bind (L3.here ?_)
  simp only [Bool.and_self, if_true]
  refine wpAny_bind (L5.here ?_)
  simp only [Bool.false_eq_true, if_false, pure_bind, Bool.not_false, Bool.and_self, if_true, hpy]
  refine wpAny_bind (wpAny_tryMethod_declines ha hl (wpAny_mono hd (fun v s' hv => ?_) fun _ _ e => e))
  obtain ⟨rfl, rfl⟩ := hv
  refine ⟨rfl, ?_⟩
  dsimp only
  refine wpAny_bind (wpAny_mono one (fun r s2 hr2 => ?_) fun _ _ e => e)
  obtain ⟨v, rfl, hq⟩ := hr2
  dsimp only
  exact wpAny_bind (wpAny_rule (wpAny_pure hq))
end
end PySem.W

namespace PySem.W
open PySem
section
variable {prog : Program} {w : World} {A : Around} {E : Value → Shared → Prop} {s : Shared} {K : Frag} {x C L f : Addr} {h₀ : Heap} {m : Str → Option Value} {ox : Obj} {od : Option Obj} {nm T : String} {b : Value} {id : String}
theorem hf_bin1T {fo ro rc : Option Value} {Q : Option Value → Shared → Prop} (X : K.In s.heap) (I : InstAt s.heap x ox C od) (hb : typeOf b = pure (.type T)) (hc : selfFirst K C = true)
    (hs : findIn K (.ref C) (PySem.dunder nm) = some (some (.ref f))) (hf : isFn K (.ref f) = true) (hr : findIn K (.ref C) (dunderR nm) = some rc) (hp : rc = none ∨ ∃ g : Addr, rc = some (.ref g))
    (h1 : findIn K (.type T) (PySem.dunder nm) = some fo) (h2 : findIn K (.type T) (dunderR nm) = some ro) (hsub : subIn K (.type T) (.ref C) = some false)
    (h : wpAny (model prog w) A (call (.ref f) [.ref x, b]) (CmpBack fun v s' => Q (some v) s') E s) : wpAny (model prog w) A (binaryOp1 nm (.ref x) b) Q E s := by
  obtain ⟨cd, rest, hcd, hm⟩ := ksp_first hc
  have one := ksp_try (Q := fun v s' => Q (some v) s') X I hs hf h
  obtain ⟨hh, g, d, tt, os⟩ := s
  have L1 : Looks (model prog w) hh (typeOf (.ref x)) (.ref C) := I.type
  have L2 : Looks (model prog w) hh (typeOf b) (.type T) := Looks.of_pure hb
  have L3 : Looks (model prog w) hh (fillsNumberSlot (.ref C) nm) true := fills_K X hcd hm hs
  have L4 : Looks (model prog w) hh (fillsNumberSlot (.type T) nm) ((fo.isSome && !isSeqSlot fo) || (ro.isSome && !isSeqSlot ro)) := ksp_fillsT X h1 h2
  have L5 : Looks (model prog w) hh (isSubtype (.type T) (.ref C)) false := looks_subIn X hsub
  have L6 : Looks (model prog w) hh (numberSlotInPython (.ref C) nm) true := ksp_inPy X hs hr hp
  have L7 : Looks (model prog w) hh (numberSlotInPython (.type T) nm) false := Looks.of_pure rfl
  have L8 : Looks (model prog w) hh (typeLookup (.type T) (dunderR nm)) ro := looks_findIn X h2
  generalize ((fo.isSome && !isSeqSlot fo) || (ro.isSome && !isSeqSlot ro)) = right at L4
  have hne : (Value.ref C == Value.type T) = false := Bool.eq_false_iff.mpr fun q => by cases beq_iff_eq.mp q
  unfold binaryOp1
  refine wpAny_bind (L1.at (wpAny_bind (L2.at (wpAny_bind (L3.at ?_)))))
  simp only [hne, Bool.false_eq_true, if_false]
  cases right with
  | false =>
    ksp_lk
    refine wpAny_mono one (fun r s' hr' => ?_) fun _ _ e => e
    obtain ⟨v, rfl, hq⟩ := hr'
    ksp_lk
    exact hq
  | true =>
    ksp_lk
    refine wpAny_mono one (fun r s' hr' => ?_) fun _ _ e => e
    obtain ⟨v, rfl, hq⟩ := hr'
    ksp_lk
    exact hq
/-- the class has the mro C, object -/
def plainMro (K : Frag) (C : Addr) : Bool := (clsIn K C).any fun cd => cd.mro == [.ref C, .type "object"]
theorem hf_noI {M : Model} {h : Heap} {add : Bool} (X : K.In h) (hm : plainMro K C = true) (hs : findIn K (.ref C) (dunderI nm) = some none) (ho : typeLookup (.type "object") (dunderI nm) = pure none) : Looks M h (fillsInplaceSlot (.ref C) nm add) false := by
  intro A Q E s k q
  obtain ⟨cd, hc, hm⟩ := any_some hm
  have hm : cd.mro = [.ref C, .type "object"] := beq_iff_eq.mp hm
  have Lm : Looks M h (mroOf (.ref C)) cd.mro := (looks_clsIn X hc).andThen (f := fun cd => pure cd.mro) .now
  have Lm' := Lm.keeps k
  obtain ⟨hh, g, d, tt, os⟩ := s
  have X' : K.In hh := X.keeps k
  have L1 : Looks M hh (typeLookup (.ref C) (dunderI nm)) none := looks_findIn X' hs
  have L2 : Looks M hh (typeLookup (.type "object") (dunderI nm)) none := Looks.of_pure ho
  unfold fillsInplaceSlot
  refine wpAny_bind (Lm'.at ?_)
  rw [hm, List.anyM_cons]
  refine wpAny_bind (wpAny_bind (L1.at (wpAny_pure ?_)))
  simp only [Bool.false_eq_true, if_false]
  rw [List.anyM_cons]
  refine wpAny_bind (wpAny_bind (L2.at (wpAny_pure ?_)))
  simp only [Bool.false_eq_true, if_false]
  exact wpAny_pure q
theorem hf_inplace {op : Operator} {Q : Value → Shared → Prop} (X : K.In s.heap) (I : InstAt s.heap x ox C od) (hm : plainMro K C = true) (hs : findIn K (.ref C) (dunderI op.info.2) = some none) (ho : typeLookup (.type "object") (dunderI op.info.2) = pure none)
    (h : wpAny (model prog w) A (binaryOp1 op.info.2 (.ref x) b) (fun r s' => ∃ v, r = some v ∧ Q v s') E s) : wpAny (model prog w) A (inplaceOp op (.ref x) b) Q E s := by
  have L1 : Looks (model prog w) s.heap (typeOf (.ref x)) (.ref C) := I.type
  have L2 : Looks (model prog w) s.heap (fillsInplaceSlot (.ref C) op.info.2 (op == .Add)) false := hf_noI X hm hs ho
  unfold inplaceOp
  refine wpAny_holding ?_
  refine wpAny_bind (L1.here (wpAny_bind (L2.here ?_)))
  simp only [Bool.false_eq_true, if_false]
  refine wpAny_bind (wpAny_mono h (fun r s' hr => ?_) fun _ _ e => e)
  obtain ⟨v, rfl, hq⟩ := hr
  exact wpAny_pure hq
theorem hf_obj_iadd : typeLookup (.type "object") (dunderI "add") = pure none := by rw [typeLookup_type, builtinLookup_eq_fast]; kernel_rfl
end
end PySem.W
namespace Hf
open PySem PySem.Spec PyProof.Rows L2
section
variable {X : Cx} {CX : CXT} {n k j : Nat} {C g : Addr} {sp : Sp} {E : XK}
/-- i op x by the reflected def -/
def rBinR (C : Addr) (sp : Sp) (E : XK) : R2 := fun x y H Q => ∃ a dx fs i, x = .int i ∧ y = .ref a ∧ H a = some (.ins C dx fs) ∧ sp [y, x] H Q E
theorem inst_raw {pins : List (Addr × Obj)} {σ : L2.St} {H : Hp} {s : Shared} {a dx : Addr} {fs : List (Str × V)} (I : Inv X pins σ H s) (h : H a = some (.ins C dx fs)) : s.heap.get? a = some (PySem.W.instObj C dx) := by
  obtain ⟨_, _, _, e, _⟩ := I.hok a _ h
  exact e
theorem op_radd {spA : Sp} {kA : Nat} (hc : PySem.W.selfFirst X.K C = true) (MA : Met X.prog X.w X.K X.mg X.base kA C "__add__" spA) (hsub : PySem.W.subIn X.K (.ref C) (.type "int") = some false)
    (M : Met X.prog X.w X.K X.mg X.base k C "__radd__" sp) (hr : Room j X.A) (hx : Passes (L2.CX X.prog X.w) X E) (hk : k ≤ j := by decide) : OpR X (binaryOp .Add) (rBinR C sp E) := by
  obtain ⟨L, oA, _⟩ := MA.opr
  have hs := oA.at_
  obtain ⟨g, o, F⟩ := M.opr
  intro pins s σ H x y v u Q I rx ry h
  obtain ⟨a, dx, fs, i, rfl, rfl, ha, q⟩ := h
  cases (show u = Value.ref a from ry)
  obtain ⟨t, e⟩ := (show ∃ t, v = Value.int i t from rx)
  cases e
  obtain ⟨ox, od, J⟩ := ins_at I ha
  have hob := inst_raw I ha
  unfold binaryOp
  refine wpAny_holding (wpAny_bind ?_)
  refine PySem.W.hf_refl (fo := none) I.kIn J (typeIs_int s i t) hc PySem.F.fills_int_add PySem.F.slot_int_add hs o.at_ o.fn hsub ?_ ?_
  · exact call_meets PySem.F.slot_int_add (typeIs_int s i t) PySem.F.entry_int_add (PySem.F.args_int_add_2 _ _) (hf_int_add_inst i t a C dx) ⟨hob, rfl, rfl⟩
  · refine wpAny_mono (wpAny_call (run_fnR (us := [.ref a, .int i t]) (vs := [.ref a, .int i]) F (hr.mono hk) hx I (.cons rfl (.cons ⟨t, rfl⟩ .nil)) q)) (fun w s' z => ?_) fun _ _ x => x
    obtain ⟨z', H', I', rz, qz⟩ := z
    exact SlX.cmpback (P := fun v s' => wpAny _ _ (pure v) _ _ s') rz (wpAny_pure ⟨z', H', I', rz, qz⟩)
/-- x += i of an instance without an in-place def -/
theorem iop_ownI (hc : PySem.W.selfFirst X.K C = true) (hm : PySem.W.plainMro X.K C = true) (hi : PySem.W.findIn X.K (.ref C) "__iadd__" = some none) (oi : OprI X.K C "add")
    (M : Met X.prog X.w X.K X.mg X.base k C "__add__" sp) (hr : Room j X.A) (hx : Passes (L2.CX X.prog X.w) X E) (hk : k ≤ j := by decide) : OpR X (inplaceOp .Add) (rBinI C sp E) := by
  obtain ⟨g, o, F⟩ := M.opr
  intro pins s σ H x y v u Q I rx ry h
  obtain ⟨a, dx, fs, i, rfl, rfl, ha, q⟩ := h
  cases (show v = Value.ref a from rx)
  obtain ⟨t, e⟩ := (show ∃ t, u = Value.int i t from ry)
  cases e
  obtain ⟨ox, od, J⟩ := ins_at I ha
  obtain ⟨rc, h1, h2⟩ := oi.rc
  obtain ⟨fo, h3⟩ := oi.fo
  obtain ⟨ro, h4⟩ := oi.ro
  refine PySem.W.hf_inplace I.kIn J hm hi PySem.W.hf_obj_iadd ?_
  refine PySem.W.hf_bin1T (T := "int") I.kIn J rfl hc o.at_ o.fn h1 h2 h3 h4 oi.sub ?_
  refine wpAny_mono (wpAny_call (run_fnR (us := [.ref a, .int i t]) (vs := [.ref a, .int i]) F (hr.mono hk) hx I (.cons rfl (.cons ⟨t, rfl⟩ .nil)) q)) (fun w s' z => ?_) fun _ _ x => x
  obtain ⟨z', H', I', rz, qz⟩ := z
  exact SlX.cmpback (P := fun v s' => ∃ w, some v = some w ∧ EP X pins σ Q w s') rz ⟨w, rfl, z', H', I', rz, qz⟩
end
end Hf

namespace Hf
open PySem PySem.Spec PyProof.Rows L2
/-! ### the bag of a law: a dict of four keys -/
abbrev kk (x : Str) : Key := Sum.inr x
def bagD (c : Addr) (a r s : Int) : List (Key × V) := [(kk "cells", .ref c), (kk "at", .int a), (kk "rest", .int r), (kk "state", .int s)]
theorem k_ca : ¬ (kk "cells") = kk "at" := by decide +kernel
theorem k_cr : ¬ (kk "cells") = kk "rest" := by decide +kernel
theorem k_cs : ¬ (kk "cells") = kk "state" := by decide +kernel
theorem k_ar : ¬ (kk "at") = kk "rest" := by decide +kernel
theorem k_as : ¬ (kk "at") = kk "state" := by decide +kernel
theorem k_rs : ¬ (kk "rest") = kk "state" := by decide +kernel
theorem k_ra : ¬ (kk "rest") = kk "at" := by decide +kernel
theorem k_sa : ¬ (kk "state") = kk "at" := by decide +kernel
theorem k_sr : ¬ (kk "state") = kk "rest" := by decide +kernel
section
variable {c : Addr} {a r s z : Int}
theorem bag_cells : valV (bagD c a r s) (kk "cells") = some (.ref c) := valV_pos rfl
theorem bag_at : valV (bagD c a r s) (kk "at") = some (.int a) := (valV_neg k_ca).trans (valV_pos rfl)
theorem bag_rest : valV (bagD c a r s) (kk "rest") = some (.int r) := (valV_neg k_cr).trans ((valV_neg k_ar).trans (valV_pos rfl))
theorem bag_state : valV (bagD c a r s) (kk "state") = some (.int s) := (valV_neg k_cs).trans ((valV_neg k_as).trans ((valV_neg k_rs).trans (valV_pos rfl)))
theorem put_in {kvs : List (Key × V)} {k : Key} {v w : V} (h : valV kvs k = some w) : putK kvs k v = kvs.map (fun kv => if kv.1 = k then (kv.1, v) else kv) := by
  unfold putK
  rw [valV_any, h]
  exact if_pos rfl
theorem put_at : putK (bagD c a r s) (kk "at") (.int z) = bagD c z r s := by
  rw [put_in bag_at]
  dsimp only [bagD, List.map]
  rw [if_neg k_ca, if_pos rfl, if_neg k_ra, if_neg k_sa]
theorem put_rest : putK (bagD c a r s) (kk "rest") (.int z) = bagD c a z s := by
  rw [put_in bag_rest]
  dsimp only [bagD, List.map]
  rw [if_neg k_cr, if_neg k_ar, if_pos rfl, if_neg k_sr]
theorem put_state : putK (bagD c a r s) (kk "state") (.int z) = bagD c a r z := by
  rw [put_in bag_state]
  dsimp only [bagD, List.map]
  rw [if_neg k_cs, if_neg k_as, if_neg k_rs, if_pos rfl]
end
theorem putK_new' {kvs : List (Key × V)} {k : Key} {v : V} (h : valV kvs k = none) : putK kvs k v = kvs ++ [(k, v)] := putK_new _ h
theorem bag_merge {c : Addr} {a r s : Int} : mergeK [] (bagD c a r s) = bagD c a r s := by
  show putK (putK (putK (putK [] (kk "cells") (.ref c)) (kk "at") (.int a)) (kk "rest") (.int r)) (kk "state") (.int s) = _
  rw [putK_new' (kvs := []) valV_nil]
  rw [List.nil_append, putK_new' (show valV [(kk "cells", V.ref c)] (kk "at") = none from (valV_neg k_ca).trans valV_nil)]
  rw [List.singleton_append, putK_new' (show valV [(kk "cells", V.ref c), (kk "at", .int a)] (kk "rest") = none from (valV_neg k_cr).trans ((valV_neg k_ar).trans valV_nil))]
  rw [List.cons_append, List.singleton_append, putK_new' (show valV [(kk "cells", V.ref c), (kk "at", .int a), (kk "rest", .int r)] (kk "state") = none from (valV_neg k_cs).trans ((valV_neg k_as).trans ((valV_neg k_rs).trans valV_nil)))]
  rfl
/-- a bag stands at b -/
def BagC (H : Hp) (b c : Addr) : Prop := ∃ (cs : List Int) (a r s : Int), H b = some (.dK (bagD c a r s)) ∧ H c = some (.lst (cs.map V.int)) ∧ cs.length ≤ 63 ∧ 0 ≤ a ∧ 0 ≤ r ∧ 0 ≤ s ∧ s < 2147483647
def Bag (H : Hp) (b : Addr) : Prop := ∃ c : Addr, BagC H b c
/-- all but the bag at b stays -/
def Keep (b : Addr) (H H' : Hp) : Prop := ∀ a o, H a = some o → a ≠ b → H' a = some o
theorem Keep.refl {b : Addr} {H : Hp} : Keep b H H := fun _ _ h _ => h
theorem Keep.trans {b : Addr} {H H1 H2 : Hp} (x : Keep b H H1) (y : Keep b H1 H2) : Keep b H H2 := fun a o h n => y a o (x a o h n) n
theorem Keep.of {b : Addr} {H H1 : Hp} (x : Same H H1) : Keep b H H1 := fun a o h _ => x a o h
theorem Keep.put {b : Addr} {H H1 : Hp} {o : HO} (x : Keep b H H1) : Keep b H (upd H1 b o) := fun a u h n => by rw [upd_ne n]; exact x a u h n
theorem Same.new {H : Hp} {p : Addr} {o : HO} (h : H p = none) : Same H (upd H p o) := fun a u e => by rw [upd_ne (ne_of_none e h)]; exact e
theorem Bag.same {b : Addr} {H H' : Hp} (h : Bag H b) (e : Same H H') : Bag H' b := by
  obtain ⟨c, cs, a, r, s, h1, h2, q⟩ := h
  exact ⟨c, cs, a, r, s, e _ _ h1, e _ _ h2, q⟩
theorem BagC.bag {b c : Addr} {H : Hp} (h : BagC H b c) : Bag H b := ⟨c, h⟩
theorem BagC.same {b c : Addr} {H H' : Hp} (h : BagC H b c) (e : Same H H') : BagC H' b c := by
  obtain ⟨cs, a, r, s, h1, h2, q⟩ := h
  exact ⟨cs, a, r, s, e _ _ h1, e _ _ h2, q⟩
/-- a thing that is neither the bag nor its cells is changed -/
theorem BagC.keep {b c p : Addr} {H H' : Hp} (h : BagC H b c) (e : Keep p H H') (n1 : p ≠ b) (n2 : p ≠ c) : BagC H' b c := by
  obtain ⟨cs, a, r, s, h1, h2, q⟩ := h
  exact ⟨cs, a, r, s, e _ _ h1 n1.symm, e _ _ h2 n2.symm, q⟩
theorem BagC.ne {b c p : Addr} {H : Hp} (h : BagC H b c) (n : H p = none) : p ≠ b ∧ p ≠ c := by
  obtain ⟨cs, a, r, s, h1, h2, q⟩ := h
  exact ⟨(ne_of_none h1 n).symm, (ne_of_none h2 n).symm⟩
theorem Bag.some {b : Addr} {H : Hp} (h : Bag H b) : ∃ o, H b = some o := by
  obtain ⟨c, cs, a, r, s, h1, _⟩ := h
  exact ⟨_, h1⟩
theorem Bag.ne {b p : Addr} {H : Hp} (h : Bag H b) (n : H p = none) : p ≠ b := by
  obtain ⟨o, e⟩ := h.some
  exact (ne_of_none e n).symm
/-- a draw: an int below the limit, the bag is another one, all else stays -/
def spDraw : Sp := fun vs H Q _ => ∃ (b c : Addr) (n : Int), vs = [.ref b, .int n] ∧ BagC H b c ∧ 0 < n ∧ n ≤ 10 ^ 40 ∧ ∀ (i : Int) (H' : Hp), 0 ≤ i → i < n → BagC H' b c → Keep b H H' → Q (.int i) H'
/-- the bag is made of a list of at most 63 ints -/
def spBag (K : PySem.W.Frag) : Sp := fun vs H Q _ => ∃ (a : Addr) (ns : List Int), vs = [.ref a] ∧ SqL K H a (ns.map V.int) ∧ ns.length ≤ 63 ∧ ∀ (b : Addr) (H' : Hp), H b = none → Bag H' b → Same H H' → Q (.ref b) H'
end Hf

namespace Hf
open PySem PySem.Spec PyProof.Rows L2
/-! ### the reading of the two defs of a bag, of any constants -/
def rLen (K : PySem.W.Frag) : List V → Hp → VK → Prop := fun xs H Q => ∃ p ys, xs = [.ref p] ∧ (SqL K H p ys ∨ SqT K H p ys) ∧ Q (.int ys.length) H
def rAbs : List V → Hp → VK → Prop := fun xs H Q => ∃ i, xs = [.int i] ∧ Q (.int (if i < 0 then -i else i)) H
def rInt : List V → Hp → VK → Prop := fun xs H Q => (∃ i, xs = [.int i] ∧ Q (.int i) H) ∨ ∃ k, xs = [.bl k] ∧ Q (.int (if k then 1 else 0)) H
def rLst (K : PySem.W.Frag) : List V → Hp → VK → Prop := fun xs H Q => ∃ p ys, xs = [.ref p] ∧ (SqL K H p ys ∨ SqT K H p ys) ∧ ∀ l, H l = none → Q (.ref l) (upd H l (.lst ys))
abbrev rAd : R2 := rI0 fun i j => .int (i + j)
abbrev rSu : R2 := rI0 fun i j => .int (i - j)
abbrev rLt : R2 := rI0 fun i j => .bl (decide (i < j))
abbrev rLe : R2 := rI0 fun i j => .bl (decide (i ≤ j))
abbrev rGt : R2 := rI0 fun i j => .bl (decide (j < i))
abbrev rGe : R2 := rI0 fun i j => .bl (decide (j ≤ i))
abbrev rMo : R2 := rI (fun _ j => 0 < j) fun i j => .int (i % j)
abbrev rMu : R2 := rI CMulW fun i j => .int (i * j)
abbrev rDi : R2 := rI CDivW fun i j => .int (i / j)
abbrev rPo : R2 := rI CPow fun i j => .int (i ^ j.toNat)
abbrev bq (x : Str) : TE := tDGet (tVar 0) (tC (.str x))
def t_draw (K : PySem.W.Frag) (m1 m2 : Int) : TS :=
  tSeq (tWhile (tAnd (tTest (tOp rLt (bq "rest") (tC (.int 2)))) (tTest (tOp rLt (bq "at") (tCB (rLen K) (tCons (bq "cells") tNil)))))
    (tSeq (tAsg (tCB rAbs (tCons (tOp (rIxL K) (bq "cells") (bq "at")) tNil)) (gName 2))
    (tSeq (sDPut (tVar 0) (tC (.str "at")) (tOp rAd (bq "at") (tC (.int 1))))
    (tSeq (tIfS (tTest (tOp rLt (tVar 2) (tOp rPo (tC (.int 10)) (tC (.int 18)))))
      (tSeq (tAsg (tOp rMo (tCB rInt (tCons (tOp rAd (tOp rPo (tOp rAd (tVar 2) (tC (.int 3))) (tC (.int 3))) (tOp rMu (bq "state") (tOp rAd (bq "at") (tC (.int 1))))) tNil)) (tC (.int 2147483629))) (gName 3))
        (tRet (tOp rMo (tVar 3) (tVar 1)))) tNext)
    (sDPut (tVar 0) (tC (.str "rest")) (tVar 2))))))
  (tSeq (tIfS (tTest (tOp rGe (bq "rest") (tC (.int 2))))
      (tSeq (tAsg (tOp rMo (tCB rInt (tCons (bq "rest") tNil)) (tVar 1)) (gName 4))
      (tSeq (sDPut (tVar 0) (tC (.str "rest")) (tOp rDi (bq "rest") (tVar 1))) (tRet (tVar 4)))) tNext)
  (tSeq (sDPut (tVar 0) (tC (.str "state")) (tOp rMo (tCB rInt (tCons (tOp rAd (tOp rMu (bq "state") (tC (.int m1))) (tC (.int m2))) tNil)) (tC (.int 2147483647))))
    (tRet (tOp rMo (tOp rMo (tCB rInt (tCons (tOp rPo (bq "state") (tC (.int 5))) tNil)) (tC (.int 2147483629))) (tVar 1)))))
section
variable {K : PySem.W.Frag} {H : Hp} {b c : Addr} {a r s : Int}
theorem bg_rest (e : H b = some (.dK (bagD c a r s))) : DGet H b (.str "rest") (some (.int r)) := by
  have := DGet.k (k := kk "rest") e
  rw [bag_rest] at this
  exact this
theorem bg_at (e : H b = some (.dK (bagD c a r s))) : DGet H b (.str "at") (some (.int a)) := by
  have := DGet.k (k := kk "at") e
  rw [bag_at] at this
  exact this
theorem bg_state (e : H b = some (.dK (bagD c a r s))) : DGet H b (.str "state") (some (.int s)) := by
  have := DGet.k (k := kk "state") e
  rw [bag_state] at this
  exact this
theorem bg_cells (e : H b = some (.dK (bagD c a r s))) : DGet H b (.str "cells") (some (.ref c)) := by
  have := DGet.k (k := kk "cells") e
  rw [bag_cells] at this
  exact this
theorem bag_len : (bagD c a r s).length < sizeLine := small1000 (by show 4 ≤ 1000; decide)
theorem bp_at {z : Int} (e : H b = some (.dK (bagD c a r s))) : DPut H b (.str "at") (.int z) (upd H b (.dK (bagD c z r s))) := by
  have := DPut.k (k := kk "at") (v := .int z) e bag_len
  rw [put_at] at this
  exact this
theorem bp_rest {z : Int} (e : H b = some (.dK (bagD c a r s))) : DPut H b (.str "rest") (.int z) (upd H b (.dK (bagD c a z s))) := by
  have := DPut.k (k := kk "rest") (v := .int z) e bag_len
  rw [put_rest] at this
  exact this
theorem bp_state {z : Int} (e : H b = some (.dK (bagD c a r s))) : DPut H b (.str "state") (.int z) (upd H b (.dK (bagD c a r z))) := by
  have := DPut.k (k := kk "state") (v := .int z) e bag_len
  rw [put_state] at this
  exact this
end
theorem p1018 : ((10 : Int) ^ (18 : Int).toNat) = 1000000000000000000 := by decide
theorem nat_lt_64 {i : Int} (h0 : 0 ≤ i) (h : i < 18446744073709551616) : i.natAbs < 2 ^ 64 := by
  rw [show (2 : Nat) ^ 64 = 18446744073709551616 from rfl]
  omega
theorem lim_div {n : Int} (h0 : 0 < n) (h1 : n ≤ 10 ^ 40) (i : Int) : CDivW i n := by
  refine wide_div (b := 200) h0 ?_ (by decide) (by decide)
  have h2 : (10 : Int) ^ 40 = 10000000000000000000000000000000000000000 := by decide
  have h3 : (2 : Nat) ^ 200 = 1606938044258990275541962092341162602522202993782792835301376 := by decide
  rw [h2] at h1
  rw [h3]
  omega
theorem small_mul {i j : Int} (hi : i.natAbs < 2 ^ 64) (hj : j.natAbs < 2 ^ 64) : CMulW i j := wide_mul hi hj (by decide) (by decide) (by decide)
theorem pure_draw (K : PySem.W.Frag) {m1 m2 : Int} (hm : 0 ≤ m1) (hm1 : m1 < 1000000) (hm2 : 0 ≤ m2) (vs : List V) (H : Hp) (Q : VK) (E : XK) (h : spDraw vs H Q E) {N : List Str} (hN : N.length = 5) : t_draw K m1 m2 { nx := fun _ H' => Q .non H', rt := Q } (L2.start N vs) H := by
  obtain ⟨b, c, n, rfl, B, h0, h1, k⟩ := h
  have hst : L2.start N [.ref b, .int n] = [some (.ref b), some (.int n), none, none, none] := by
    unfold L2.start
    rw [hN]
    rfl
  rw [hst]
  clear hst hN
  refine ⟨fun m σ H' => ∃ (cs : List Int) (a r s : Int) (v : Option V), m = 64 - a.toNat ∧ σ = [some (.ref b), some (.int n), v, none, none] ∧ H' b = some (.dK (bagD c a r s)) ∧ H' c = some (.lst (cs.map V.int)) ∧ cs.length ≤ 63 ∧ 0 ≤ a ∧ 0 ≤ r ∧ 0 ≤ s ∧ s < 2147483647 ∧ Keep b H H', ?_, ?_⟩
  · obtain ⟨cs, a, r, s, e1, e2, l, a0, r0, s0, s1⟩ := B
    exact ⟨_, cs, a, r, s, none, rfl, rfl, e1, e2, l, a0, r0, s0, s1, Keep.refl⟩
  · rintro m σ H' ⟨cs, a, r, s, v, rfl, rfl, e1, e2, l, a0, r0, s0, s1, kp⟩
    have hcb : c ≠ b := ne_of e2 e1 (by intro z; cases z)
    have hSq : SqL K H' c (cs.map V.int) := SqL.of e2
    -- behind the loop
    have fin : tSeq (tIfS (tTest (tOp rGe (bq "rest") (tC (.int 2))))
        (tSeq (tAsg (tOp rMo (tCB rInt (tCons (bq "rest") tNil)) (tVar 1)) (gName 4))
        (tSeq (sDPut (tVar 0) (tC (.str "rest")) (tOp rDi (bq "rest") (tVar 1))) (tRet (tVar 4)))) tNext)
        (tSeq (sDPut (tVar 0) (tC (.str "state")) (tOp rMo (tCB rInt (tCons (tOp rAd (tOp rMu (bq "state") (tC (.int m1))) (tC (.int m2))) tNil)) (tC (.int 2147483647))))
        (tRet (tOp rMo (tOp rMo (tCB rInt (tCons (tOp rPo (bq "state") (tC (.int 5))) tNil)) (tC (.int 2147483629))) (tVar 1)))) { nx := fun _ H' => Q .non H', rt := Q } [some (.ref b), some (.int n), v, none, none] H' := by
      refine ⟨_, rfl, b, _, rfl, bg_rest e1, _, _, rfl, rfl, _, rfl, ?_⟩
      refine ite_split (fun _ => ?_) (fun _ => ?_)
      · refine ⟨_, rfl, b, _, rfl, bg_rest e1, .inl ⟨_, rfl, _, rfl, _, _, rfl, rfl, h0, ?_⟩⟩
        refine ⟨_, rfl, b, _, rfl, bg_rest e1, _, rfl, _, _, rfl, rfl, lim_div h0 h1 _, _, rfl, b, _, rfl, bp_rest e1, ?_⟩
        refine ⟨_, rfl, ?_⟩
        refine k _ _ (Int.emod_nonneg _ (by omega)) (Int.emod_lt_of_pos _ h0) ⟨cs, a, _, s, upd_same, by rw [upd_ne hcb]; exact e2, l, a0, Int.ediv_nonneg r0 (by omega), s0, s1⟩ kp.put
      · refine ⟨_, rfl, b, _, rfl, bg_state e1, _, _, rfl, rfl, small_mul (nat_lt_64 s0 (by omega)) (nat_lt_64 hm (by omega)), _, _, rfl, rfl, .inl ⟨_, rfl, _, _, rfl, rfl, (by show (0 : Int) < 2147483647; decide), ?_⟩⟩
        refine ⟨_, rfl, b, _, rfl, bp_state e1, ?_⟩
        have p0 : 0 ≤ (s * m1 + m2) % 2147483647 := Int.emod_nonneg _ (by decide)
        have p1 : (s * m1 + m2) % 2147483647 < 2147483647 := Int.emod_lt_of_pos _ (by decide)
        refine ⟨_, rfl, b, _, rfl, bg_state upd_same, _, _, rfl, rfl, ⟨by decide, by decide, nat_lt_64 p0 (by omega)⟩, .inl ⟨_, rfl, _, _, rfl, rfl, (by show (0 : Int) < 2147483629; decide), _, rfl, _, _, rfl, rfl, h0, ?_⟩⟩
        refine k _ _ (Int.emod_nonneg _ (by omega)) (Int.emod_lt_of_pos _ h0) ⟨cs, a, r, _, upd_same, by rw [upd_ne hcb]; exact e2, l, a0, r0, p0, p1⟩ kp.put
    -- the test
    refine ⟨_, rfl, b, _, rfl, bg_rest e1, _, _, rfl, rfl, _, rfl, ?_⟩
    refine ite_split (fun _ => ?_) (fun _ => iteF fin)
    refine ⟨_, rfl, b, _, rfl, bg_at e1, _, rfl, b, _, rfl, bg_cells e1, c, _, rfl, .inl hSq, _, _, rfl, rfl, _, rfl, ?_⟩
    refine ite_split (fun hlt => ?_) (fun _ => fin)
    have hlt : a < ((cs.map V.int).length : Int) := of_decide_eq_true hlt
    rw [List.length_map] at hlt
    obtain ⟨z, hz⟩ : ∃ z, cs[a.toNat]? = some z := ⟨cs[a.toNat]'(by omega), List.getElem?_eq_getElem (by omega)⟩
    have hix : atI (cs.map V.int) a = some (.int z) := by
      have e := atI_nat (xs := cs.map V.int) (j := a.toNat) (v := .int z) (by rw [List.getElem?_map, hz]; rfl)
      rw [Int.toNat_of_nonneg a0] at e
      exact e
    refine ⟨fun σ' H2 => ∃ m', m' < 64 - a.toNat ∧ ∃ (cs : List Int) (a r s : Int) (v : Option V), m' = 64 - a.toNat ∧ σ' = [some (.ref b), some (.int n), v, none, none] ∧ H2 b = some (.dK (bagD c a r s)) ∧ H2 c = some (.lst (cs.map V.int)) ∧ cs.length ≤ 63 ∧ 0 ≤ a ∧ 0 ≤ r ∧ 0 ≤ s ∧ s < 2147483647 ∧ Keep b H H2, fun _ _ z => z, ?_⟩
    refine ⟨_, rfl, b, _, rfl, bg_cells e1, _, rfl, b, _, rfl, bg_at e1, c, _, _, _, rfl, rfl, hSq, hix, _, rfl, ?_⟩
    refine ⟨_, rfl, b, _, rfl, bg_at e1, _, _, rfl, rfl, _, rfl, b, _, rfl, bp_at e1, ?_⟩
    have hz0 : 0 ≤ (if z < 0 then -z else z) := by split <;> omega
    have e2' : ∀ o, upd H' b o c = some (.lst (cs.map V.int)) := fun o => by rw [upd_ne hcb]; exact e2
    refine ⟨_, rfl, _, _, rfl, rfl, ⟨by decide, by decide, by decide⟩, _, _, rfl, rfl, _, rfl, ?_⟩
    refine ite_split (fun hs => ?_) (fun _ => ?_)
    · have hs : (if z < 0 then -z else z) < (10 : Int) ^ (18 : Int).toNat := of_decide_eq_true hs
      rw [p1018] at hs
      refine ⟨_, rfl, _, _, rfl, rfl, _, _, rfl, rfl, ⟨by decide, by decide, nat_lt_64 (by omega) (by omega)⟩, _, rfl, b, _, rfl, bg_state upd_same, _, rfl, b, _, rfl, bg_at upd_same, _, _, rfl, rfl, _, _, rfl, rfl, small_mul (nat_lt_64 s0 (by omega)) (nat_lt_64 (by omega) (by omega)), _, _, rfl, rfl,
        .inl ⟨_, rfl, _, _, rfl, rfl, (by show (0 : Int) < 2147483629; decide), ?_⟩⟩
      refine ⟨_, rfl, _, rfl, _, _, rfl, rfl, h0, ?_⟩
      exact k _ _ (Int.emod_nonneg _ (by omega)) (Int.emod_lt_of_pos _ h0) ⟨cs, a + 1, r, s, upd_same, e2' _, l, by omega, r0, s0, s1⟩ kp.put
    · refine ⟨_, rfl, _, rfl, b, _, rfl, bp_rest upd_same, ?_⟩
      refine ⟨_, ?_, cs, a + 1, _, s, _, rfl, rfl, upd_same, by rw [upd_ne hcb]; exact e2' _, l, by omega, hz0, s0, s1, kp.put.put⟩
      omega
end Hf

namespace Hf
open PySem PySem.Spec PyProof.Rows L2
def t_bag (K : PySem.W.Frag) (s0 m1 m2 : Int) : TS :=
  tSeq (tAsg (tC (.int s0)) (gName 1))
  (tSeq (tFor (iList K (tSl (rSlL K) (tVar 0) tNoPart (tPart (tC (.int 63))))) (gName 2)
    (tAsg (tOp rMo (tCB rInt (tCons (tOp rAd (tOp rAd (tOp rMu (tVar 1) (tC (.int m1))) (tOp rMo (tCB rAbs (tCons (tVar 2) tNil)) (tC (.int 2147483629)))) (tC (.int m2))) tNil)) (tC (.int 2147483647))) (gName 1)))
  (tRet (tDisp [(tC (.str "cells"), tCB (rLst K) (tCons (tSl (rSlL K) (tVar 0) tNoPart (tPart (tC (.int 63)))) tNil)), (tC (.str "at"), tC (.int 0)), (tC (.str "rest"), tC (.int 0)), (tC (.str "state"), tVar 1)])))
theorem cut63 (ns : List Int) (h : ns.length ≤ 63) : ∃ ms : List Int, cutV (ns.map V.int) none (some 63) = ms.map V.int ∧ ms.length ≤ 63 := by
  unfold cutV
  rw [← List.map_drop, ← List.map_take]
  refine ⟨_, rfl, ?_⟩
  rw [List.length_take, List.length_drop]
  omega
theorem pure_bag (K : PySem.W.Frag) {s0 m1 m2 : Int} (hs : 0 ≤ s0) (hs1 : s0 < 2147483647) (hm : 0 ≤ m1) (hm1 : m1 < 1000000) (hm2 : 0 ≤ m2) (vs : List V) (H : Hp) (Q : VK) (E : XK) (h : spBag K vs H Q E) {N : List Str} (hN : N.length = 3) : t_bag K s0 m1 m2 { nx := fun _ H' => Q .non H', rt := Q } (L2.start N vs) H := by
  obtain ⟨a, ns, rfl, hS, hl, k⟩ := h
  have hst : L2.start N [.ref a] = [some (.ref a), none, none] := by
    unfold L2.start
    rw [hN]
    rfl
  rw [hst]
  clear hst hN
  obtain ⟨ms, hcut, hml⟩ := cut63 ns hl
  refine ⟨_, rfl, 63, rfl, a, _, rfl, hS, fun l hln => ?_⟩
  rw [hcut]
  have s1 : Same H (upd H l (.lst (ms.map V.int))) := Same.new hln
  refine ⟨l, rfl, ⟨_, SqL.of upd_same⟩, for_list (K := K) (a := l) (xs := ms.map V.int) (fun i σ H' => ∃ (s : Int) (v : Option V), σ = [some (.ref a), some (.int s), v] ∧ 0 ≤ s ∧ s < 2147483647 ∧ Same H H' ∧ H' l = some (.lst (ms.map V.int)))
    ⟨s0, none, rfl, hs, hs1, s1, upd_same⟩ (fun i σ H' _ ⟨_, _, _, _, _, _, e⟩ => SqL.of e) ?_ ?_⟩
  · rintro i y σ H' hi ⟨s, v, rfl, a0, a1, s2, e⟩
    obtain ⟨z, rfl⟩ : ∃ z, y = V.int z := by
      rw [List.getElem?_map] at hi
      cases e : ms[i]? with
      | none => rw [e] at hi; cases hi
      | some z => rw [e] at hi; exact ⟨z, (Option.some.inj hi).symm⟩
    refine ⟨_, rfl, _, _, rfl, rfl, small_mul (nat_lt_64 a0 (by omega)) (nat_lt_64 hm (by omega)), _, rfl, _, rfl, _, _, rfl, rfl, (by show (0 : Int) < 2147483629; decide), _, _, rfl, rfl, _, _, rfl, rfl, .inl ⟨_, rfl, _, _, rfl, rfl, (by show (0 : Int) < 2147483647; decide), ?_⟩⟩
    exact ⟨_, _, rfl, Int.emod_nonneg _ (by decide), Int.emod_lt_of_pos _ (by decide), s2, e⟩
  · rintro σ H' ⟨s, v, rfl, a0, a1, s2, e⟩
    intro p hp
    refine ⟨_, rfl, 63, rfl, a, _, rfl, (s2.trans (Same.new hp)).seq hS, fun c hc => ?_⟩
    rw [hcut]
    refine ⟨c, _, rfl, .inl (SqL.of upd_same), fun d hd => ?_⟩
    have npc : p ≠ c := ne_of_none upd_same hc
    have npd : p ≠ d := ne_of_none (show upd (upd H' p (.dK [])) c _ p = some (.dK []) by rw [upd_ne npc, upd_same]) hd
    refine ⟨_, rfl, ?_⟩
    refine ⟨by rw [upd_ne npd, upd_ne npc, upd_same], bagD d 0 0 s, rfl, (by show 4 ≤ 15; decide), ?_⟩
    rw [bag_merge]
    have f1 : Same H (upd H' p (.dK [])) := s2.trans (Same.new hp)
    have f2 := (f1.trans (Same.new (o := .lst (ms.map V.int)) hc)).trans (Same.new (o := .lst (ms.map V.int)) hd)
    refine k p _ (s2.free hp) ⟨d, ms, 0, 0, s, upd_same, by rw [upd_ne npd.symm, upd_same], hml, Int.le_refl _, Int.le_refl _, a0, a1⟩ fun b o e => ?_
    rw [upd_ne (ne_of_none e (s2.free hp))]
    exact f2 b o e
end Hf
namespace Hf
open PySem PySem.Spec PyProof.Rows L2
/-- a def of the module without defaults as it stands behind the top -/
def DefAt (K : PySem.W.Frag) (mg : Str → Option Value) (x : Str) (st : Stmt) (ps : List Str) : Prop := ∃ (f : Addr) (fd : FuncData), mg x = some (.ref f) ∧ Fun K x x st f fd ∧ Binds K fd ps []
/-- a def of the class at C -/
def MetAt (K : PySem.W.Frag) (C : Addr) (m qual : Str) (st : Stmt) (ps : List Str) : Prop := ∃ (f : Addr) (fd : FuncData), Meth K C m f ∧ Fun K m qual st f fd ∧ Binds K fd ps []
end Hf
namespace Hf
open PySem PySem.Spec PyProof.Rows L2
section
variable {P : Program} {w : World} {K : PySem.W.Frag} {mg : Str → Option Value} {base : Heap}
/-- a def with defaults whose body lets nothing out, every parameter given -/
theorem fnRD {x qual : Str} {params : Arguments} {body : List Stmt} {scope : Scope} {dvs : List V} {kws : List (Str × V)} {f : Addr} {fd : FuncData} {N ps : List Str} {k : Nat} {sp : Sp} (F : FunD K x qual params body scope dvs kws f fd) (b : Binds K fd ps []) (S : FnScope N ps scope) (len : ∀ vs H Q E, sp vs H Q E → vs.length = ps.length)
    (hbody : ∀ (cdv : Value) (A : Around) (outer : List Env) (s : Shared) (H : Hp) (vs : List V) (Q : VK) (E : XK), Room k (A.deeper (envOfC qual scope s.heap.objs.size f cdv)) → sp vs H Q E →
      ∃ t, PSs (cxOf (L2.CX P w) P w K mg base N qual scope f cdv A outer s H E).nox body t ∧ t { nx := fun _ H' => Q .non H', rt := Q } (L2.start N vs) H) : FnR P w K mg base (L2.CX P w) (k + 1) f sp := by
  have G := F.ok (CX := L2.CX P w) (P := P) (w := w) (mg := mg) (base := base) S len fun cdv A outer s H vs Q E hr h => let ⟨t, a, b⟩ := hbody cdv A outer s H vs Q E hr h; ⟨t, a.nox, b⟩
  exact (G.raw b .nil).imp fun vs H Q E h => by rw [List.append_nil]; exact h
end
end Hf
namespace Hf
open PySem PySem.Spec PyProof.Rows L2
section
variable {X : Cx} {pos : Pos}
theorem pe_tInt (hm : X.mg "int" = none) (hg : Gl X "int" := by rfl) : PE X (.Name "int" pos) (tC (.ty "int")) := pe_bltn (v := .ty "int") (u := .type "int") hg hm (by decide +kernel) rfl
theorem pe_tBool (hm : X.mg "bool" = none) (hg : Gl X "bool" := by rfl) : PE X (.Name "bool" pos) (tC (.ty "bool")) := pe_bltn (v := .ty "bool") (u := .type "bool") hg hm (by decide +kernel) rfl
theorem pe_tStr (hm : X.mg "str" = none) (hg : Gl X "str" := by rfl) : PE X (.Name "str" pos) (tC (.ty "str")) := pe_bltn (v := .ty "str") (u := .type "str") hg hm (by decide +kernel) rfl
end
end Hf

namespace Hf
open PySem PySem.Spec PyProof.Rows L2
/-! ### whole numbers -/
/-- is_whole(value) -/
def spWhole (K : PySem.W.Frag) : Sp := fun vs H Q _ => ∃ (v : V) (t : Value) (b1 b2 : Bool), vs = [v] ∧ TyX K H v t ∧ PySem.W.kitOne K t (.type "int") = some b1 ∧ PySem.W.kitOne K t (.type "bool") = some b2 ∧ Q (.bl (b1 && !b2)) H
section
variable {K : PySem.W.Frag} {H : Hp} {Q : VK} {E : XK}
theorem wh_int {i : Int} (q : Q (.bl true) H) : spWhole K [.int i] H Q E := ⟨_, _, true, false, rfl, .base (.int i), by kernel_rfl, by kernel_rfl, q⟩
theorem wh_non (q : Q (.bl false) H) : spWhole K [.non] H Q E := ⟨_, _, false, false, rfl, .base .non, by kernel_rfl, by kernel_rfl, q⟩
theorem wh_bl {b : Bool} (q : Q (.bl false) H) : spWhole K [.bl b] H Q E := ⟨_, _, true, true, rfl, .base (.bl b), by kernel_rfl, by kernel_rfl, q⟩
theorem wh_str {x : Str} (q : Q (.bl false) H) : spWhole K [.str x] H Q E := ⟨_, _, false, false, rfl, .base (.str x), by kernel_rfl, by kernel_rfl, q⟩
theorem wh_lst {a : Addr} {xs : List V} (h : H a = some (.lst xs)) (q : Q (.bl false) H) : spWhole K [.ref a] H Q E := ⟨_, _, false, false, rfl, .base (.lst h), by kernel_rfl, by kernel_rfl, q⟩
theorem wh_tup {a : Addr} {xs : List V} (h : H a = some (.tup xs)) (q : Q (.bl false) H) : spWhole K [.ref a] H Q E := ⟨_, _, false, false, rfl, .base (.tup h), by kernel_rfl, by kernel_rfl, q⟩
theorem wh_dict {a : Addr} {kvs : List (Key × V)} (h : H a = some (.dK kvs)) (q : Q (.bl false) H) : spWhole K [.ref a] H Q E := ⟨_, _, false, false, rfl, .base (.dK h), by kernel_rfl, by kernel_rfl, q⟩
end
/-! ### places -/
/-- not above 10 ^ 60 -/
abbrev Sm (x : Int) : Prop := -1000000000000000000000000000000000000000000000000000000000000 ≤ x ∧ x ≤ 1000000000000000000000000000000000000000000000000000000000000
theorem Sm.nat {x : Int} (h : Sm x) : x.natAbs < 2 ^ 200 := by
  rw [show (2 : Nat) ^ 200 = 1606938044258990275541962092341162602522202993782792835301376 from by decide]
  have := h.1
  have := h.2
  omega
theorem Sm.mul {x y : Int} (h : Sm x) (h' : Sm y) : CMulW x y := wide_mul h.nat h'.nat (by decide) (by decide) (by decide)
def plF (s o d : Int) : List (Str × V) := [("slope", .int s), ("offset", .int o), ("odd", .int d)]
def PlaceAt (C : Addr) (H : Hp) (p : Addr) (s o d : Int) : Prop := ∃ dx, H p = some (.ins C dx (plF s o d))
theorem PlaceAt.same {C : Addr} {H H' : Hp} {p : Addr} {s o d : Int} (h : PlaceAt C H p s o d) (e : Same H H') : PlaceAt C H' p s o d := let ⟨dx, h⟩ := h; ⟨dx, e _ _ h⟩
theorem PlaceAt.keep {C b : Addr} {H H' : Hp} {p : Addr} {s o d : Int} (h : PlaceAt C H p s o d) (e : Keep b H H') (n : p ≠ b) : PlaceAt C H' p s o d := let ⟨dx, h⟩ := h; ⟨dx, e _ _ h n⟩
theorem PlaceAt.cast {C : Addr} {H : Hp} {p : Addr} {s o d s' o' d' : Int} (h : PlaceAt C H p s o d) (e1 : s = s') (e2 : o = o') (e3 : d = d') : PlaceAt C H p s' o' d' := by
  subst e1 e2 e3
  exact h
theorem f_so : ¬ ("slope" : Str) = "offset" := by decide +kernel
theorem f_sd : ¬ ("slope" : Str) = "odd" := by decide +kernel
theorem f_od : ¬ ("offset" : Str) = "odd" := by decide +kernel
theorem lk_hit {f : Str} {v : V} {r : List (Str × V)} : List.lookup f ((f, v) :: r) = some v := by simp [List.lookup]
theorem lk_miss {f g : Str} {v : V} {r : List (Str × V)} (h : ¬ g = f) : List.lookup f ((g, v) :: r) = List.lookup f r := by
  have h' : (f == g) = false := by simpa using fun e => h e.symm
  simp [List.lookup, h']
theorem lk_nil {f : Str} : List.lookup f ([] : List (Str × V)) = none := rfl
theorem pl_slope {s o d : Int} : List.lookup ("slope" : Str) (plF s o d) = some (.int s) := lk_hit
theorem pl_offset {s o d : Int} : List.lookup ("offset" : Str) (plF s o d) = some (.int o) := (lk_miss f_so).trans lk_hit
theorem pl_odd {s o d : Int} : List.lookup ("odd" : Str) (plF s o d) = some (.int d) := (lk_miss f_sd).trans ((lk_miss f_od).trans lk_hit)
theorem pl_no {s o d : Int} {m : Str} (h1 : ¬ ("slope" : Str) = m) (h2 : ¬ ("offset" : Str) = m) (h3 : ¬ ("odd" : Str) = m) : List.lookup m (plF s o d) = none := (lk_miss h1).trans ((lk_miss h2).trans ((lk_miss h3).trans lk_nil))
theorem pf_nil {f : Str} {v : V} : putF f v [] = [(f, v)] := rfl
theorem pf_miss {f g : Str} {v x : V} {r : List (Str × V)} (h : ¬ g = f) : putF f v ((g, x) :: r) = (g, x) :: putF f v r := if_neg h
theorem pl_make {s o d : Int} : putF "odd" (.int d) (putF "offset" (.int o) (putF "slope" (.int s) [])) = plF s o d := by
  rw [pf_nil, pf_miss f_so, pf_nil, pf_miss f_sd, pf_miss f_od, pf_nil]
  rfl
/-- what the written part says of Place, at C -/
structure PlC (K : PySem.W.Frag) (mg : Str → Option Value) (C : Addr) : Prop where
  cl : Cls K C
  n1 : NoAttr K C "slope"
  n2 : NoAttr K C "offset"
  n3 : NoAttr K C "odd"
  g : mg "Place" = some (.ref C)
  sf : PySem.W.selfFirst K C = true
  pm : PySem.W.plainMro K C = true
  ne : NeC K C
  ha : PySem.W.findIn K (.ref C) "__class__" = some (some (.builtin "object.__class__"))
  hn : PySem.W.specialIn K (.builtin "object.__class__") "__get__" = some (some (.builtin "getset_descriptor.__get__"))
  tk : PySem.W.takesIn K (.builtin "object.__class__") = some true
  mo : PySem.W.mroIn K C (.type "object") = some true
  kI : PySem.W.kitOne K (.type "int") (.ref C) = some false
  sI : PySem.W.subIn K (.ref C) (.type "int") = some false
  iA : OprI K C "add"
  iS : OprI K C "sub"
  hi : PySem.W.findIn K (.ref C) "__iadd__" = some none
theorem PlC.ty {K : PySem.W.Frag} {mg : Str → Option Value} {C : Addr} (T : PlC K mg C) {H : Hp} {p dx : Addr} {fs : List (Str × V)} (h : H p = some (.ins C dx fs)) : TyX K H (.ref p) (.ref C) := .base (.ins h T.cl T.ha T.hn T.tk T.mo)
theorem kit_self {K : PySem.W.Frag} {C : Addr} : PySem.W.kitOne K (.ref C) (.ref C) = some true := by
  unfold PySem.W.kitOne
  simp
/-- value_at(slope, offset, odd, size) -/
def spVal : Sp := fun vs H Q _ => ∃ s o d n : Int, vs = [.int s, .int o, .int d, .int n] ∧ Sm s ∧ Sm d ∧ Sm n ∧ Q (.int (s * (n / 2) + o + d * (n % 2))) H
/-- Place(slope, offset, odd) by its __init__ -/
def spPlI (C : Addr) : Sp := fun vs H Q _ => ∃ (p dx : Addr) (s o d : Int), vs = [.ref p, .int s, .int o, .int d] ∧ H p = some (.ins C dx []) ∧ ∀ H', H' p = some (.ins C dx (plF s o d)) → Keep p H H' → Q .non H'
/-- a new place of these three is handed back -/
def NewPl (C : Addr) (H : Hp) (s o d : Int) (Q : VK) : Prop := ∀ (p : Addr) (H' : Hp), H p = none → PlaceAt C H' p s o d → Same H H' → Q (.ref p) H'
/-- C(..) is made: what is asked of its __init__ -/
def MakeK (C : Addr) (sp : Sp) (E : XK) (Q : VK) : List V → Hp → Prop := fun vs H1 => ∀ x dx, H1 x = none → H1 dx = none → dx ≠ x → sp (.ref x :: vs) (upd (upd H1 dx (.own x)) x (.ins C dx [])) (fun v H2 => v = .non ∧ Q (.ref x) H2) E
theorem use_place {C : Addr} {H : Hp} {s o d : Int} {Q : VK} {E : XK} (k : NewPl C H s o d Q) : MakeK C (spPlI C) E Q [.int s, .int o, .int d] H := by
  intro x dx hx hdx hne
  refine ⟨x, dx, s, o, d, rfl, upd_same, fun H' hp kp => ⟨rfl, k x H' hx ⟨dx, hp⟩ fun b u e => ?_⟩⟩
  refine kp b u ?_ (ne_of_none e hx)
  rw [upd_ne (ne_of_none e hx), upd_ne (ne_of_none e hdx)]
  exact e
def spPlAdd (C : Addr) : Sp := fun vs H Q _ => ∃ (p : Addr) (s o d : Int), PlaceAt C H p s o d ∧ ((∃ (q : Addr) (s' o' d' : Int), vs = [.ref p, .ref q] ∧ PlaceAt C H q s' o' d' ∧ NewPl C H (s + s') (o + o') (d + d') Q) ∨ ∃ k : Int, vs = [.ref p, .int k] ∧ NewPl C H s (o + k) d Q)
def spPlSub (C : Addr) : Sp := fun vs H Q _ => ∃ (p : Addr) (s o d : Int), PlaceAt C H p s o d ∧ ((∃ (q : Addr) (s' o' d' : Int), vs = [.ref p, .ref q] ∧ PlaceAt C H q s' o' d' ∧ NewPl C H (s - s') (o - o') (d - d') Q) ∨ ∃ k : Int, vs = [.ref p, .int k] ∧ NewPl C H s (o - k) d Q)
def spPlInv (C : Addr) : Sp := fun vs H Q _ => ∃ (p : Addr) (s o d : Int), vs = [.ref p] ∧ PlaceAt C H p s o d ∧ NewPl C H (2 - s) (0 - o) (1 - d) Q
def spPlEq (C : Addr) : Sp := fun vs H Q _ => ∃ (p q : Addr) (s o d s' o' d' : Int), vs = [.ref p, .ref q] ∧ PlaceAt C H p s o d ∧ PlaceAt C H q s' o' d' ∧ Q (.bl (decide (s = s') && decide (o = o') && decide (d = d'))) H
def spPlAt (C : Addr) : Sp := fun vs H Q _ => ∃ (p : Addr) (s o d n : Int), vs = [.ref p, .int n] ∧ PlaceAt C H p s o d ∧ Sm s ∧ Sm d ∧ Sm n ∧ 1 ≤ n ∧ Q (.int (s * (n / 2) + o + d * (n % 2))) H
/-- from_left(k), from_right(k), from_middle(k) -/
def spFrom (C : Addr) (g : Int → Int × Int × Int) : Sp := fun vs H Q _ => ∃ k : Int, vs = [.int k] ∧ NewPl C H (g k).1 (g k).2.1 (g k).2.2 Q
/-- need_offset(k) -/
def spNeed : Sp := fun vs H Q _ => ∃ k : Int, vs = [.int k] ∧ Q .non H
end Hf

namespace Hf
open PySem PySem.Spec PyProof.Rows L2
section
variable {K : PySem.W.Frag} {X : Cx} {σ : L2.St} {H : Hp} {Q : VK} {i : Nat} {v x y : V} {ta tb te tf tv : TE} {r : R2} {tt tu : TT} {t u : TA} {s1 s2 tb1 : TS} {D : Ends} {g : TG} {gs : TGs} {QA : List V → Hp → Prop} {QB : Bool → Hp → Prop} {sp : Sp} {E : XK} {C a p dx : Addr} {m f : Str} {fs : List (Str × V)} {QG : L2.St → Hp → Prop}
theorem rd_cl (q : t σ H fun vs H1 => sp vs H1 Q E) : tCl sp E t σ H Q := q
theorem rd_methR (q : ta σ H fun x H1 => ∃ a dx fs, x = .ref a ∧ H1 a = some (.ins C dx fs) ∧ fs.lookup m = none ∧ t σ H1 fun vs H2 => sp (x :: vs) H2 Q E) : tMethR C m sp E ta t σ H Q := q
theorem rd_makeR (q : t σ H (MakeK C sp E Q)) : StX.tMakeR C sp E t σ H Q := q
theorem rd_callO (q : tf σ H fun y H1 => ∃ a, y = V.ref a ∧ t σ H1 fun vs H2 => (∃ dx fs, H2 a = some (.ins C dx fs)) ∧ sp (V.ref a :: vs) H2 Q E) : tCallI C sp E tf t σ H Q := q
theorem rd_fld (q : ta σ H fun x H1 => ∃ a C dx fs v, x = .ref a ∧ H1 a = some (.ins C dx fs) ∧ Cls K C ∧ NoAttr K C f ∧ fs.lookup f = some v ∧ Q v H1) : tFld K ta f σ H Q := q
theorem rd_sfld (q : tv σ H fun y H1 => ta σ H1 fun x H2 => ∃ a C dx fs, x = .ref a ∧ H2 a = some (.ins C dx fs) ∧ Cls K C ∧ NoAttr K C f ∧ fs.length < 1000 ∧ D.nx σ (upd H2 a (.ins C dx (putF f y fs)))) : sFld K ta tv f D σ H := q
theorem rd_gnil (q : QG σ H) : gNil [] σ H QG := ⟨rfl, q⟩
theorem rd_gcons {vs : List V} (q : g v σ H fun σ' H' => gs vs σ' H' QG) : gCons g gs (v :: vs) σ H QG := ⟨v, vs, rfl, q⟩
theorem rd_gtup {n : Nat} {xs : List V} (h : SqT K H a xs) (hl : xs.length = n) (q : gs xs σ H QG) : gTup K n gs (.ref a) σ H QG := ⟨a, xs, rfl, h, hl, q⟩
/-- e.f of a tracked instance -/
theorem rd_fldK {v : V} {QQ : V → Prop} (h : H a = some (.ins C dx fs)) (c : Cls K C) (n : NoAttr K C f) (l : fs.lookup f = some v) (q : QQ v) : ∃ a' C dx fs v, V.ref a = .ref a' ∧ H a' = some (.ins C dx fs) ∧ Cls K C ∧ NoAttr K C f ∧ fs.lookup f = some v ∧ QQ v := ⟨a, C, dx, fs, v, rfl, h, c, n, l, q⟩
theorem rd_isi {t u : Value} {b : Bool} {c : V} (hc : ClsV c u) (ty : TyX K H x t) (k : PySem.W.kitOne K t u = some b) (q : Q (.bl b) H) : rIsi K [x, c] H Q := ⟨x, c, t, u, b, rfl, hc, ty, k, q⟩
theorem rd_par2 {j : Nat} {w' : V} (q : D.nx ((σ.set i (some v)).set j (some w')) H) : ∃ v' w, [v, w'] = [v', w] ∧ D.nx ((σ.set i (some v')).set j (some w)) H := ⟨v, w', rfl, q⟩
theorem rd_aug {ti : TIp} (h : σ[i]? = some (some x)) (q : te σ H fun y H1 => ti x y H1 fun z H2 => D.nx (σ.set i (some z)) H2) : tAug i te ti D σ H := ⟨x, h, q⟩
def ForK (g : TG) (tb : TS) (D : Ends) (σ : L2.St) : It → Hp → Prop := fun J H1 => ∃ W : Nat → Nat → L2.St → Hp → Prop, (∃ m, W 0 m σ H1) ∧ ∀ i m σ H, W i m σ H →
  (J.stop i H ∧ D.nx σ H) ∨ (J.go i H ∧ ∃ N : L2.St → Hp → Prop, (∀ σ' H', N σ' H' → ∃ m', m' < m ∧ W (i + 1) m' σ' H') ∧ ∀ x H', J.yld i H x H' → g x σ H' fun σ2 H2 => tb { D with nx := N, ct := N, bk := D.nx } σ2 H2)
theorem rd_for {wi : TI} (q : wi σ H (ForK g tb1 D σ)) : tFor wi g tb1 D σ H := q
theorem rd_iList {R : It → Hp → Prop} (q : ta σ H fun x H1 => ∃ a, x = .ref a ∧ (∃ xs, SqL K H1 a xs) ∧ R (Itl K a) H1) : iList K ta σ H R := q
theorem rd_iTup {R : It → Hp → Prop} (q : ta σ H fun x H1 => ∃ a, x = .ref a ∧ (∃ xs, SqT K H1 a xs) ∧ R (Itt K a) H1) : iTup K ta σ H R := q
theorem rd_iRng1 {R : It → Hp → Prop} (q : t σ H fun vs H1 => ∃ j : Int, vs = [.int j] ∧ -(2 ^ 62) ≤ j ∧ j < 2 ^ 62 ∧ R (Itr 0 j.toNat) H1) : iRng1 t σ H R := q
theorem rd_iRng2 {R : It → Hp → Prop} (q : t σ H fun vs H1 => ∃ i j : Int, vs = [.int i, .int j] ∧ (-(2 ^ 62) ≤ i ∧ i < 2 ^ 62 ∧ -(2 ^ 62) ≤ j ∧ j < 2 ^ 62) ∧ R (Itr i (j - i).toNat) H1) : iRng2 t σ H R := q
theorem rd_never {P : Prop} (h : False) : P := h.elim
end
end Hf

namespace Hf
open PySem PySem.Spec PyProof.Rows L2
/-- what a place is at a size -/
def plv (s o d n : Int) : Int := s * (n / 2) + o + d * (n % 2)
theorem plv_add (s o d s' o' d' n : Int) : plv (s + s') (o + o') (d + d') n = plv s o d n + plv s' o' d' n := by
  unfold plv
  rw [Int.add_mul, Int.add_mul]
  omega
theorem plv_sub (s o d s' o' d' n : Int) : plv (s - s') (o - o') (d - d') n = plv s o d n - plv s' o' d' n := by
  unfold plv
  rw [Int.sub_mul, Int.sub_mul]
  omega
theorem plv_off (s o d k n : Int) : plv s (o + k) d n = plv s o d n + k := by
  unfold plv
  omega
theorem plv_offS (s o d k n : Int) : plv s (o - k) d n = plv s o d n - k := by
  unfold plv
  omega
theorem plv_inv (s o d n : Int) : plv (2 - s) (0 - o) (1 - d) n = n - plv s o d n := by
  unfold plv
  rw [Int.sub_mul, Int.sub_mul]
  omega
section
variable {K : PySem.W.Frag} {X : Cx} {σ : L2.St} {H H' : Hp} {Q : VK} {E : XK} {C b p q : Addr} {s o d s' o' d' n k : Int} {t : TA} {D : Ends} {QA : List V → Hp → Prop}
theorem use_draw (B : Bag H b) (h0 : 0 < n) (h1 : n ≤ 10 ^ 40) (k : ∀ (i : Int) (H' : Hp), 0 ≤ i → i < n → Bag H' b → Keep b H H' → Q (.int i) H') : spDraw [.ref b, .int n] H Q E := let ⟨c, B⟩ := B; ⟨b, c, n, rfl, B, h0, h1, fun i H' a b c d => k i H' a b c.bag d⟩
theorem use_drawC {c : Addr} (B : BagC H b c) (h0 : 0 < n) (h1 : n ≤ 10 ^ 40) (k : ∀ (i : Int) (H' : Hp), 0 ≤ i → i < n → BagC H' b c → Keep b H H' → Q (.int i) H') : spDraw [.ref b, .int n] H Q E := ⟨b, c, n, rfl, B, h0, h1, k⟩
theorem use_add (h1 : PlaceAt C H p s o d) (h2 : PlaceAt C H q s' o' d') (k : NewPl C H (s + s') (o + o') (d + d') Q) : rBin C (spPlAdd C) E (.ref p) (.ref q) H Q := by
  obtain ⟨dx, e1⟩ := h1
  obtain ⟨dy, e2⟩ := h2
  exact ⟨p, dx, _, q, dy, _, rfl, rfl, e1, e2, p, s, o, d, ⟨dx, e1⟩, .inl ⟨q, s', o', d', rfl, ⟨dy, e2⟩, k⟩⟩
theorem use_sub (h1 : PlaceAt C H p s o d) (h2 : PlaceAt C H q s' o' d') (k : NewPl C H (s - s') (o - o') (d - d') Q) : rBin C (spPlSub C) E (.ref p) (.ref q) H Q := by
  obtain ⟨dx, e1⟩ := h1
  obtain ⟨dy, e2⟩ := h2
  exact ⟨p, dx, _, q, dy, _, rfl, rfl, e1, e2, p, s, o, d, ⟨dx, e1⟩, .inl ⟨q, s', o', d', rfl, ⟨dy, e2⟩, k⟩⟩
theorem use_addI (h1 : PlaceAt C H p s o d) (k : NewPl C H s (o + n) d Q) : rBinI C (spPlAdd C) E (.ref p) (.int n) H Q := by
  obtain ⟨dx, e1⟩ := h1
  exact ⟨p, dx, _, n, rfl, rfl, e1, p, s, o, d, ⟨dx, e1⟩, .inr ⟨n, rfl, k⟩⟩
theorem use_subI (h1 : PlaceAt C H p s o d) (k : NewPl C H s (o - n) d Q) : rBinI C (spPlSub C) E (.ref p) (.int n) H Q := by
  obtain ⟨dx, e1⟩ := h1
  exact ⟨p, dx, _, n, rfl, rfl, e1, p, s, o, d, ⟨dx, e1⟩, .inr ⟨n, rfl, k⟩⟩
theorem use_radd (h1 : PlaceAt C H p s o d) (k : NewPl C H s (o + n) d Q) : rBinR C (spPlAdd C) E (.int n) (.ref p) H Q := by
  obtain ⟨dx, e1⟩ := h1
  exact ⟨p, dx, _, n, rfl, rfl, e1, p, s, o, d, ⟨dx, e1⟩, .inr ⟨n, rfl, k⟩⟩
theorem use_inv (h1 : PlaceAt C H p s o d) (k : NewPl C H (2 - s) (0 - o) (1 - d) Q) : rInv C (spPlInv C) E (.ref p) H Q := by
  obtain ⟨dx, e1⟩ := h1
  exact ⟨p, dx, _, rfl, e1, p, s, o, d, rfl, ⟨dx, e1⟩, k⟩
theorem use_at (h1 : PlaceAt C H p s o d) (hs : Sm s) (hd : Sm d) (hn : Sm n) (h0 : 1 ≤ n) (q : Q (.int (plv s o d n)) H) : (∃ dx fs, H p = some (.ins C dx fs)) ∧ spPlAt C [.ref p, .int n] H Q E := by
  obtain ⟨dx, e1⟩ := h1
  exact ⟨⟨dx, _, e1⟩, p, s, o, d, n, rfl, ⟨dx, e1⟩, hs, hd, hn, h0, q⟩
theorem use_ne (h1 : PlaceAt C H p s o d) (h2 : PlaceAt C H q s' o' d') (e1 : s = s') (e2 : o = o') (e3 : d = d') (k : Q (.bl false) H) : rNeO C (spPlEq C) E (.ref p) (.ref q) H Q := by
  subst e1 e2 e3
  obtain ⟨dx, f1⟩ := h1
  obtain ⟨dy, f2⟩ := h2
  refine ⟨p, dx, _, q, dy, _, rfl, rfl, f1, f2, p, q, s, o, d, s, o, d, rfl, ⟨dx, f1⟩, ⟨dy, f2⟩, _, rfl, ?_⟩
  simpa using k
/-- places of the same three -/
def SamePl (C : Addr) (a b : Addr) (H : Hp) : Prop := ∃ s o d, PlaceAt C H a s o d ∧ PlaceAt C H b s o d
theorem samePl_mono {a b : Addr} (e : Ext H H') (h : SamePl C a b H) : SamePl C a b H' := by
  obtain ⟨s, o, d, h1, h2⟩ := h
  exact ⟨s, o, d, h1.same e, h2.same e⟩
theorem eq_same (F : FnR X.prog X.w X.K X.mg X.base (L2.CX X.prog X.w) 1 p (spPlEq C)) : FnR X.prog X.w X.K X.mg X.base (L2.CX X.prog X.w) 1 p (spEq (SamePl C)) := F.imp fun vs H Q E h => by
  obtain ⟨a, b, rfl, ⟨s, o, d, h1, h2⟩, k⟩ := h
  refine ⟨a, b, s, o, d, s, o, d, rfl, h1, h2, ?_⟩
  simpa using k H Ext.rfl'
theorem op_nePls {j : Nat} (M : Met X.prog X.w X.K X.mg X.base 1 C "__eq__" (spPlEq C)) (hr : Room j X.A) (hk : 2 ≤ j := by decide) : OpR X (compareOp .NotEq) (rNeG (DIns C (SamePl C))) := by
  obtain ⟨g, o, F⟩ := M.opr
  exact op_neG (mon_ins fun a b H H' e h => samePl_mono e h) ((eqG_insR o (eq_same F) (E := E0) passL).eqG fun _ _ _ d => let ⟨a, b, _, _, _, _, hx, hy, _⟩ := d; ⟨a, b, hx, hy⟩) (hr.mono hk)
end
/-! ### displays with the heap as a letter -/
def NewL (Q : VK) (xs : List V) (H : Hp) : Prop := xs.length ≤ sizeLine ∧ ∀ p, H p = none → Q (.ref p) (upd H p (.lst xs))
def NewT (Q : VK) (xs : List V) (H : Hp) : Prop := xs.length ≤ sizeLine ∧ ∀ p, H p = none → Q (.ref p) (upd H p (.tup xs))
section
variable {K : PySem.W.Frag} {σ : L2.St} {H : Hp} {Q : VK} {t : TA} {xs ys : List V} {p q : Addr}
theorem rd_lstN (q : t σ H (NewL Q)) : tLst t σ H Q := q
theorem rd_tupN (q : t σ H (NewT Q)) : tTup t σ H Q := q
theorem new_lst (hl : xs.length ≤ 1000) (k : ∀ p H', H p = none → H' p = some (.lst xs) → Same H H' → Q (.ref p) H') : NewL Q xs H := ⟨Nat.le_of_lt (small1000 hl), fun p hp => k p _ hp upd_same (Same.new hp)⟩
theorem new_tup (hl : xs.length ≤ 1000) (k : ∀ p H', H p = none → H' p = some (.tup xs) → Same H H' → Q (.ref p) H') : NewT Q xs H := ⟨Nat.le_of_lt (small1000 hl), fun p hp => k p _ hp upd_same (Same.new hp)⟩
theorem dp_ints {H : Hp} : ∀ xs : List Int, DpAll K H (xs.map V.int) (xs.map PyData.int)
  | [] => .nil
  | x :: xs => .cons (.int x) (dp_ints xs)
theorem lay_ints : ∀ xs : List Int, PyData.canLayAll0 (xs.map PyData.int) = true
  | [] => by simp [PyData.canLayAll0]
  | x :: xs => by
    have := lay_ints xs
    simp [PyData.canLayAll0, PyData.canLay0, this]
theorem dep_ints : ∀ xs : List Int, PyData.depthAll (xs.map PyData.int) = 0
  | [] => by simp [PyData.depthAll]
  | x :: xs => by
    have := dep_ints xs
    simp [PyData.depthAll, PyData.depth, this]
theorem can_ints (xs : List Int) : PyData.canLay0 (.list (xs.map PyData.int)) = true := by
  simpa [PyData.canLay0] using lay_ints xs
theorem shp_ints (xs : List Int) : SeqAt.shaped (.list (xs.map PyData.int)) = true := by
  unfold SeqAt.shaped
  rw [can_ints]
  simp [PyData.depth, dep_ints]
/-- two lists of ints, equal: != is False -/
theorem use_neI {xs ys : List Int} (h1 : H p = some (.lst (xs.map V.int))) (h2 : H q = some (.lst (ys.map V.int))) (e : xs = ys) (k : Q (.bl false) H) : rNeD K (.ref p) (.ref q) H Q := by
  subst e
  refine ⟨_, _, .lst (SqL.of h1) (dp_ints xs), .lst (SqL.of h2) (dp_ints xs), shp_ints xs, shp_ints xs, ?_⟩
  rw [SeqAt.eqv_refl _ (can_ints xs)]
  exact k
end
end Hf

namespace Hf
open PySem PySem.Spec PyProof.Rows L2
/-- _law_at(parts, wide) of a list of three -/
def spLAt (K : PySem.W.Frag) : Sp := fun vs H Q _ => ∃ (a : Addr) (s o d n : Int), vs = [.ref a, .int n] ∧ SqL K H a [.int s, .int o, .int d] ∧ Sm s ∧ Sm d ∧ Sm n ∧ Q (.int (plv s o d n)) H
def spLPl (K : PySem.W.Frag) (C : Addr) : Sp := fun vs H Q _ => ∃ (a : Addr) (s o d : Int), vs = [.ref a] ∧ SqL K H a [.int s, .int o, .int d] ∧ NewPl C H s o d Q
def spLDrawn : Sp := fun vs H Q _ => ∃ b : Addr, vs = [.ref b] ∧ Bag H b ∧ ∀ (p : Addr) (s o d : Int) (H' : Hp), H' p = some (.lst [.int s, .int o, .int d]) → -3 ≤ s → s ≤ 3 → -10000000000000000000000000000000000000000 ≤ o → o ≤ 10000000000000000000000000000000000000000 → -2 ≤ d → d ≤ 2 → Bag H' b → Keep b H H' → Q (.ref p) H'
/-- law's: a list of at most 63 ints is handed in, True comes out -/
def spLaw (K : PySem.W.Frag) : Sp := fun vs H Q _ => ∃ (a : Addr) (ns : List Int), vs = [.ref a] ∧ SqL K H a (ns.map V.int) ∧ ns.length ≤ 63 ∧ ∀ H', Q (.bl true) H'
end Hf

namespace Hf
open PySem PySem.Spec PyProof.Rows L2
section
variable {K : PySem.W.Frag} {h : Heap} {mg : Str → Option Value} {f C T : Addr} {od an : Option Addr} {osl : Array (Option Value)} {oc kV doc pm cdv ct : Value}
/-- a def of the top -/
theorem defAt_mk {x : Str} {st : Stmt} {ps : List Str} (X : K.In h) (G : h.Ns mainGlobals mg) (a : PySem.W.nsIn K mainGlobals x = some (some (.ref f)))
    (l : K.lookup f = some ⟨oc, od, .func (PySem.W.fnOf x x (defArgs st) (defBody st) (defScope st) .none kV doc pm an cdv ct), osl⟩) (c : PySem.W.codeIn K cdv x = true) (k : PySem.W.keepIn K (.ref f) = true)
    (hb : ∀ (kV doc pm : Value) (an : Option Addr) (cdv ct : Value) (us : List Value), us.length = ps.length → bindArgs (PySem.W.fnOf x x (defArgs st) (defBody st) (defScope st) .none kV doc pm an cdv ct) ⟨us, []⟩ = pure (ps.zip us)) : DefAt K mg x st ps :=
  have F := fun_mk (st := st) l c k
  ⟨f, _, PySem.W.mg_of X G a, F, F.binds hb⟩
theorem metAt_mk {m qual : Str} {st : Stmt} {ps : List Str} (a : PySem.W.findIn K (.ref C) m = some (some (.ref f))) (i : PySem.W.isFn K (.ref f) = true)
    (l : K.lookup f = some ⟨oc, od, .func (PySem.W.fnOf m qual (defArgs st) (defBody st) (defScope st) .none kV doc pm an cdv ct), osl⟩) (c : PySem.W.codeIn K cdv qual = true) (k : PySem.W.keepIn K (.ref f) = true)
    (hb : ∀ (kV doc pm : Value) (an : Option Addr) (cdv ct : Value) (us : List Value), us.length = ps.length → bindArgs (PySem.W.fnOf m qual (defArgs st) (defBody st) (defScope st) .none kV doc pm an cdv ct) ⟨us, []⟩ = pure (ps.zip us)) : MetAt K C m qual st ps :=
  have F := fun_mk (st := st) l c k
  ⟨f, _, ⟨a, i, k⟩, F, F.binds hb⟩
/-- a def with one default that is a whole number -/
theorem funD1_mk {x qual : Str} {st : Stmt} {i : Int} {tk : Tok} {c2 : Value} {d2 : Option Addr} {n2 : Nat} {sl2 : Array (Option Value)}
    (l : K.lookup f = some ⟨oc, od, .func (PySem.W.fnOf x qual (defArgs st) (defBody st) (defScope st) (.ref T) kV doc pm an cdv ct), osl⟩) (lT : K.lookup T = some ⟨c2, d2, .seq #[.int i tk] n2, sl2⟩) (c : PySem.W.codeIn K cdv qual = true) (k : PySem.W.keepIn K (.ref f) = true) :
    FunD K x qual (defArgs st) (defBody st) (defScope st) [.int i] [] f (PySem.W.fnOf x qual (defArgs st) (defBody st) (defScope st) (.ref T) kV doc pm an cdv ct) :=
  ⟨⟨oc, od, .ref T, kV, doc, pm, an, cdv, ct, osl, rfl, l, c, .inr ⟨fun z => (nomatch z), T, _, [.int i tk], n2, rfl, lT, rfl, .cons ⟨tk, rfl⟩ .nil⟩, .inl rfl⟩, k⟩
/-- every parameter is given -/
theorem FunD.full {x qual : Str} {params : Arguments} {body : List Stmt} {scope : Scope} {v : V} {fd : FuncData} {ps : List Str} (F : FunD K x qual params body scope [v] [] f fd)
    (hb : ∀ (T : Addr) (kV doc pm : Value) (an : Option Addr) (cdv ct : Value) (us its : List Value), us.length = ps.length → its.length = 1 →
      ∃ k, bindArgs (PySem.W.fnOf x qual params body scope (.ref T) kV doc pm an cdv ct) ⟨us, []⟩ = seqItems? (.ref T) >>= k ∧ k (some its.toArray) = pure (ps.zip (us ++ its.drop 1))) : Binds K fd ps [] := by
  obtain ⟨ds, r, b⟩ := F.binds1 (ps := ps) ps.length 1 (by simp) (by simp) (fun T kV doc pm an cdv ct us its h1 h2 => hb T kV doc pm an cdv ct us its h1 h2)
  cases r
  exact b
end
theorem fnOk0 {P : Program} {w : World} {K : PySem.W.Frag} {mg : Str → Option Value} {base : Heap} {x qual : Str} {st : Stmt} {f : Addr} {fd : FuncData} {N ps : List Str} {k : Nat} {sp : Sp} (F : Fun K x qual st f fd) (S : FnScope N ps (defScope st)) (len : ∀ vs H Q E, sp vs H Q E → vs.length = ps.length)
    (hbody : ∀ (cdv : Value) (A : Around) (outer : List Env) (s : Shared) (H : Hp) (vs : List V) (Q : VK) (E : XK), Room k (A.deeper (envOfC qual (defScope st) s.heap.objs.size f cdv)) → sp vs H Q E →
      ∃ t, PSs (cxOf (L2.CX P w) P w K mg base N qual (defScope st) f cdv A outer s H E).nox (defBody st) t ∧ t { nx := fun _ H' => Q .non H', rt := Q } (L2.start N vs) H) : FnOk P w K mg base (L2.CX P w) (k + 1) f fd ps sp :=
  F.okX (P := P) (w := w) (mg := mg) (base := base) S len fun cdv A outer s H vs Q E hr h => let ⟨t, a, b⟩ := hbody cdv A outer s H vs Q E hr h; ⟨t, a.nox, b⟩
theorem fnOkD {P : Program} {w : World} {K : PySem.W.Frag} {mg : Str → Option Value} {base : Heap} {x qual : Str} {params : Arguments} {body : List Stmt} {scope : Scope} {dvs : List V} {kws : List (Str × V)} {f : Addr} {fd : FuncData} {N ps : List Str} {k : Nat} {sp : Sp} (F : FunD K x qual params body scope dvs kws f fd) (S : FnScope N ps scope) (len : ∀ vs H Q E, sp vs H Q E → vs.length = ps.length)
    (hbody : ∀ (cdv : Value) (A : Around) (outer : List Env) (s : Shared) (H : Hp) (vs : List V) (Q : VK) (E : XK), Room k (A.deeper (envOfC qual scope s.heap.objs.size f cdv)) → sp vs H Q E →
      ∃ t, PSs (cxOf (L2.CX P w) P w K mg base N qual scope f cdv A outer s H E).nox body t ∧ t { nx := fun _ H' => Q .non H', rt := Q } (L2.start N vs) H) : FnOk P w K mg base (L2.CX P w) (k + 1) f fd ps sp :=
  F.ok (CX := L2.CX P w) (P := P) (w := w) (mg := mg) (base := base) S len fun cdv A outer s H vs Q E hr h => let ⟨t, a, b⟩ := hbody cdv A outer s H vs Q E hr h; ⟨t, a.nox, b⟩
theorem FnOk.all {P : Program} {w : World} {K : PySem.W.Frag} {mg : Str → Option Value} {base : Heap} {CX : CXT} {k : Nat} {f : Addr} {fd : FuncData} {ps : List Str} {sp : Sp} (G : FnOk P w K mg base CX k f fd ps sp) (b : Binds K fd ps []) : FnR P w K mg base CX k f sp :=
  (G.raw b .nil).imp fun vs H Q E h => by rw [List.append_nil]; exact h
/-- the one default fills up -/
theorem FunD.dflt {K : PySem.W.Frag} {x qual : Str} {params : Arguments} {body : List Stmt} {scope : Scope} {v : V} {f : Addr} {fd : FuncData} {ps : List Str} {n : Nat} (F : FunD K x qual params body scope [v] [] f fd) (hn : n + 1 = ps.length)
    (hb : ∀ (T : Addr) (kV doc pm : Value) (an : Option Addr) (cdv ct : Value) (us its : List Value), us.length = n → its.length = 1 →
      ∃ k, bindArgs (PySem.W.fnOf x qual params body scope (.ref T) kV doc pm an cdv ct) ⟨us, []⟩ = seqItems? (.ref T) >>= k ∧ k (some its.toArray) = pure (ps.zip (us ++ its.drop 0))) : ∃ ds, Vals [v] ds ∧ Binds K fd ps ds :=
  F.binds1 (ps := ps) n 0 (by simp) (by simpa using hn) (fun T kV doc pm an cdv ct us its h1 h2 => hb T kV doc pm an cdv ct us its h1 h2)
theorem plainMro_mk {K : PySem.W.Frag} {C : Addr} {cd : ClassData} (c : PySem.W.clsIn K C = some cd) (m : cd.mro = [.ref C, .type "object"]) : PySem.W.plainMro K C = true := by
  unfold PySem.W.plainMro
  rw [c]
  simp [m]
theorem kitOne_mk {K : PySem.W.Frag} {C : Addr} {T : String} {b : Bool} (i : PySem.W.isClsIn K C = true) (t : PySem.W.typeIn K (.ref C) = some (.type "type")) (s : PySem.W.subIn K (.type T) (.ref C) = some b) : PySem.W.kitOne K (.type T) (.ref C) = some b := by
  have i' : (PySem.W.clsIn K C).isSome = true := i
  have e : (Value.type T == Value.ref C) = false := Bool.eq_false_iff.mpr fun q => by cases beq_iff_eq.mp q
  unfold PySem.W.kitOne PySem.W.kitCls
  rw [e, if_neg Bool.false_ne_true]
  dsimp only
  rw [i', t]
  simpa using s
theorem cx_no {P : Program} {w : World} {H : Hp} {s : Shared} {e : Value} {s' : Shared} (h : L2.CX P w [] H s (fun _ _ _ => False) e s') : False := by
  obtain ⟨_, _, _, _, _, _, _, _, _, _, _, _, z⟩ := h
  exact z.elim
/-- the end of a law: its def keeps spLaw -/
theorem walkL {l : PySem.W.OpenLaw} {q : Program} {loose : List Str} {XP : (Str → Option Value) → Heap → Prop} {YP : World → Heap → Prop} {d : DefRec} {K : Params → PySem.W.Frag} {k : Nat} (hk : k ≤ 100) (hn : l.most = some 63) (hdf : d.params.defaults = [])
    (hY : ∀ (w : World) (h : Heap), YP w h → (K w.params).In h)
    (F : ∀ (w : World) (mg : Str → Option Value) (fa : Addr) (h : Heap), (K w.params).In h → h.Ns mainGlobals mg → mg d.name = some (.ref fa) →
      ∃ fd : FuncData, (∀ (s : Shared) (u : Value), BindsTo s fd ⟨[u], []⟩ [("_law_script", u)]) ∧ ∀ base : Heap, (K w.params).In base → base.Ns mainGlobals mg → FnOk l.prog w (K w.params) mg base (L2.CX l.prog w) k fa fd ["_law_script"] (spLaw (K w.params))) :
    PySem.W.WalkO q loose XP YP l.row.toRowW d [] (fun f vs => PySem.call f vs) :=
  L2.walk_of (n := 63) (k := k) (x := "_law_script") (CX := fun w => L2.CX l.prog w) (sp := fun w => spLaw (K w.params)) hn (by decide) hdf (Room.mono ⟨rfl, by decide, by decide⟩ hk) hY F (fun _ _ a ns hl _ hS => ⟨a, ns, rfl, hS, hl, fun _ => rfl⟩) fun _ _ _ _ _ z => cx_no z
end Hf

namespace Hf
open PySem PySem.Spec PyProof.Rows L2
/-! ### defs that want to know that no repr is running -/
/-- as FnR, called where nothing is being shown -/
def FnG (P : Program) (w : World) (K : PySem.W.Frag) (mg : Str → Option Value) (base : Heap) (CX : CXT) (k : Nat) (f : Addr) (sp : Sp) : Prop :=
  ∀ (A : Around) (outer : List Env) (s : Shared) (H : Hp) (us : List Value) (vs : List V) (Q : VK) (E : XK), Room k A → A.guards = some [] → Env0 P w K mg base A outer s H → Vals vs us → sp vs H Q E →
    codeAny (model P w) A (.call (.ref f) ⟨us, []⟩) (CR CX outer P w H s Q E) s
theorem FnR.g {P : Program} {w : World} {K : PySem.W.Frag} {mg : Str → Option Value} {base : Heap} {CX : CXT} {k : Nat} {f : Addr} {sp : Sp} (F : FnR P w K mg base CX k f sp) : FnG P w K mg base CX k f sp := fun A outer s H us vs Q E hr _ e0 r h => F A outer s H us vs Q E hr e0 r h
section
variable {P : Program} {w : World} {K : PySem.W.Frag} {mg : Str → Option Value} {base : Heap}
theorem fnG_of {CX : CXT} {k : Nat} {f : Addr} {name qual : Str} {params : Arguments} {body : List Stmt} {scope : Scope} {dV kV doc pm cdv ct oc : Value} {an od : Option Addr}
    {osl : Array (Option Value)} {N ps : List Str} {sp : Sp} (lk : K.lookup f = some ⟨oc, od, .func (PySem.W.fnOf name qual params body scope dV kV doc pm an cdv ct), osl⟩) (hcd : PySem.W.codeIn K cdv qual = true) (S : FnScope N ps scope)
    (b : Binds K (PySem.W.fnOf name qual params body scope dV kV doc pm an cdv ct) ps [])
    (len : ∀ vs H Q E, sp vs H Q E → vs.length = ps.length)
    (hbody : ∀ (A : Around) (outer : List Env) (s : Shared) (H : Hp) (vs : List V) (Q : VK) (E : XK), Room k (A.deeper (envOfC qual scope s.heap.objs.size f cdv)) → (A.deeper (envOfC qual scope s.heap.objs.size f cdv)).guards = some [] → sp vs H Q E →
      ∃ t, PSs (cxOf CX P w K mg base N qual scope f cdv A outer s H E) body t ∧ t { nx := fun _ H' => Q .non H', rt := Q } (L2.start N vs) H) :
    FnG P w K mg base CX (k + 1) f sp := by
  intro A outer s H us vs Q E hr hgd e0 r hsp
  have hl := len _ _ _ _ hsp
  have KX : K.In s.heap := e0.mod.kin.keeps fun b o e => (e0.bs b o e).1
  have lim : s.heap.NoLimit := e0.mod.nolimit.keeps fun b o e => (e0.bs b o e).1
  have hb : BindsTo s (PySem.W.fnOf name qual params body scope dV kV doc pm an cdv ct) ⟨us, []⟩ (ps.zip us) := by
    have e := b s us KX (by rw [List.append_nil, ← r.length]; exact hl)
    rw [List.append_nil] at e
    exact e
  have hkind : ∀ y ∈ ps.zip us, scope.names.lookup y.1 = some .local ∨ (scope.names.lookup y.1 = some .cell ∧ ((cellsFrom (s.heap.objs.size + 1) scope.names []).lookup y.1).isSome = true) := fun ⟨n, v⟩ hy => by
    rcases S.par n (List.of_mem_zip hy).1 with q | q
    · exact .inl q
    · exact .inr ⟨q, PySem.W.cellsFrom_some _ _ _ (.inl q)⟩
  refine codeAny_call_function hr.depth (KX _ _ lk) rfl S.co S.gen rfl (PySem.W.codeRec_of KX hcd) (hb _ _ _ _ ?_)
  refine wpAny_newFunctionEnv_cells S.kind hkind fun env he s1 x => ?_
  subst he
  refine ⟨lim.keeps x.toInCall.keep, codeAny_func ?_⟩
  obtain ⟨t, ht, hq⟩ := hbody A outer s H vs Q E (hr.deeper _) hgd hsp
  have I : Inv (cxOf CX P w K mg base N qual scope f cdv A outer s H E) [] (L2.start N vs) H s1 := inv_start S hr.hd e0 hl r x
  refine wpAny_mono (ht.run [] s1 (L2.start N vs) H _ I hq) (fun fl s' hs => ?_) fun e s' hs => hs
  have fin : ∀ {σ' : L2.St} {H' : Hp} {v : V} {u : Value}, Inv (cxOf CX P w K mg base N qual scope f cdv A outer s H E) [] σ' H' s' → RelV v u → Q v H' → CE outer P w H s Q u s' :=
    fun {σ' H' v u} J rv q => ⟨v, H', J.os, J.bare, J.base, J.hok, rv, q⟩
  cases fl with
  | ret u =>
    obtain ⟨v, σ', H', J, rv, q⟩ := hs
    exact fin J rv q
  | next =>
    obtain ⟨σ', H', J, q⟩ := hs
    exact fin (v := V.non) (u := Value.none) J rfl q
  | brk =>
    obtain ⟨_, _, _, q⟩ := hs
    exact False.elim q
  | cont =>
    obtain ⟨_, _, _, q⟩ := hs
    exact False.elim q
/-- a def whose body lets nothing out -/
theorem fnG0 {x qual : Str} {st : Stmt} {f : Addr} {fd : FuncData} {N ps : List Str} {k : Nat} {sp : Sp} (F : Fun K x qual st f fd) (b : Binds K fd ps []) (S : FnScope N ps (defScope st)) (len : ∀ vs H Q E, sp vs H Q E → vs.length = ps.length)
    (hbody : ∀ (cdv : Value) (A : Around) (outer : List Env) (s : Shared) (H : Hp) (vs : List V) (Q : VK) (E : XK), Room k (A.deeper (envOfC qual (defScope st) s.heap.objs.size f cdv)) → (A.deeper (envOfC qual (defScope st) s.heap.objs.size f cdv)).guards = some [] → sp vs H Q E →
      ∃ t, PSs (cxOf (L2.CX P w) P w K mg base N qual (defScope st) f cdv A outer s H E).nox (defBody st) t ∧ t { nx := fun _ H' => Q .non H', rt := Q } (L2.start N vs) H) : FnG P w K mg base (L2.CX P w) (k + 1) f sp := by
  obtain ⟨oc, od, kV, doc, pm, an, cdv, ct, osl, rfl, lk, hcd⟩ := F.ex
  exact fnG_of lk hcd S b len fun A outer s H vs Q E hr hg h => let ⟨t, a, b⟩ := hbody cdv A outer s H vs Q E hr hg h; ⟨t, a.nox, b⟩
/-- x, a def of the module, keeps sp where nothing is being shown -/
def CalG (P : Program) (w : World) (K : PySem.W.Frag) (mg : Str → Option Value) (base : Heap) (k : Nat) (x : Str) (sp : Sp) : Prop :=
  ∃ f, FnG P w K mg base (L2.CX P w) k f sp ∧ mg x = some (.ref f) ∧ PySem.W.keepIn K (.ref f) = true
end
section
variable {X : Cx} {E : XK} {k j : Nat} {x : Str} {sp : Sp} {p pos : Pos} {e : Expr} {es : List Expr} {t : TA}
theorem run_fnG {pins : List (Addr × Obj)} {σ : L2.St} {H : Hp} {s : Shared} {CX : CXT} {f : Addr} {Q : VK} {us : List Value} {vs : List V} (F : FnG X.prog X.w X.K X.mg X.base CX k f sp) (hr : Room k X.A) (hg : X.A.guards = some []) (hx : Passes CX X E) (I : Inv X pins σ H s) (r : Vals vs us) (h : sp vs H Q E) :
    codeAny (model X.prog X.w) X.A (.call (.ref f) ⟨us, []⟩) (fun r s' => match r with | .ok (.ret v) => EP X pins σ Q v s' | .ok _ => False | .error e => X.xe e s') s := by
  refine codeAny_mono (F X.A X.stack s H us vs Q E hr hg I.env0 r h) fun r s' hq => ?_
  cases r with
  | error e => exact hx pins σ H s e s' I hq
  | ok fl =>
    cases fl with
    | ret u => exact I.after hq
    | next => exact False.elim hq
    | brk => exact False.elim hq
    | cont => exact False.elim hq
theorem pe_clG (c : CalG X.prog X.w X.K X.mg X.base k x sp) (hr : Room j X.A) (hgd : X.A.guards = some []) (hx : Passes (L2.CX X.prog X.w) X E) (ha : PA X (e :: es) t) (hk : k ≤ j := by decide) (hg : Gl X x := by rfl)
    (hdb : (x == ("__debug__" : Str)) = false := by decide) (he : starEach (e :: es) X.env = (false, eval e X.env) :: starEach es X.env := by rfl) (hpl : (backTo pos (starEach es X.env)).any (·.1) = false := by rfl) :
    PE X (.Call (.Name x p) (e :: es) [] pos) (tCl sp E t) := by
  obtain ⟨f, F, hm, kp⟩ := c
  refine ⟨fun pins s σ H Q I h => ?_⟩
  refine wpAny_Call_Name_kw (ld_glob I hg hm ?_ hdb)
  refine PySem.W.callWith_K (h₀ := X.base) I.ok.mod.kin kp (thn (ha.run pos pins s σ H _ I h) fun us s1 ⟨vs, H1, I1, r1, q1⟩ => ?_) he hpl
  exact ⟨I1.kIn, wpAny_call (run_fnG F (hr.mono hk) hgd hx I1 r1 q1)⟩
/-- repr(x) of data -/
def rRepr (K : PySem.W.Frag) : List V → Hp → VK → Prop := fun xs H Q => ∃ (v : V) (d : PyData), xs = [v] ∧ Dp K H v d ∧ d.showable = true ∧ d.hasDict = false ∧ d.depth ≤ 60 ∧ d.shown.length ≤ sizeLine ∧ Q (.str d.shown) H
theorem call_repr (hr : Room j X.A) (hgd : X.A.guards = some []) : CallR X (.builtin "repr") (rRepr X.K) := by
  intro pins s σ H xs us Q I r h
  obtain ⟨v, d, rfl, hd, hs, hnd, hdep, hsz, q⟩ := h
  obtain ⟨u, rfl, ru⟩ := r.one
  obtain ⟨as, hre⟩ := Dp.reads I d v u hd ru
  have fin : ∀ h' t tk, (∀ b o, s.heap.get? b = some o → h'.get? b = some o) → EP X pins σ Q (.str d.shown t) { s with heap := h', toks := tk } := fun h' t tk hk => ⟨.str d.shown, H, I.kept hk, ⟨t, rfl⟩, q⟩
  cases hd with
  | non => cases (show u = Value.none from ru); exact PySem.P.repr_of_none (fin s.heap _ _ fun _ _ e => e)
  | bl b => cases (show u = Value.bool b from ru); exact PySem.P.repr_of_bool (fin s.heap _ _ fun _ _ e => e)
  | int i =>
    obtain ⟨t, e⟩ := (show ∃ t, u = Value.int i t from ru)
    cases e
    exact PySem.P.repr_of_int (by simpa [PyData.showable] using hs) (fin s.heap _ _ fun _ _ e => e)
  | str x =>
    obtain ⟨t, e⟩ := (show ∃ t, u = Value.str x t from ru)
    cases e
    exact PySem.P.repr_of_str (fin s.heap _ _ fun _ _ e => e) hsz
  | lst h1 h2 =>
    cases ru
    exact repr_of_reads' hre hs (fun z => by rw [hnd] at z; cases z) hgd (by have := hr.units; omega) (fun _ _ e => e) fin hsz
  | tup h1 h2 =>
    cases ru
    exact repr_of_reads' hre hs (fun z => by rw [hnd] at z; cases z) hgd (by have := hr.units; omega) (fun _ _ e => e) fin hsz
end
end Hf

namespace Hf
open PySem PySem.Spec PyProof.Rows L2
theorem law_callG {P : Program} {w : World} {K : PySem.W.Frag} {mg mb : Str → Option Value} {CX : CXT} {k : Nat} {fa a : Addr} {sp : Sp} {s₁ : Shared} {vs : List Value} {ns : List Int}
    (KX : K.In s₁.heap) (hns : s₁.heap.Ns mainGlobals mg) (hb : s₁.heap.Ns builtinsNs mb) (hbb : ∀ x : Str, x ≠ "__name__" → mb x = bootBuiltins x) (hlim : s₁.heap.NoLimit) (hg : s₁.gens = #[])
    (ha : s₁.heap.get? a = some { cls := .type "list", data := .seq vs.toArray }) (hi : IntsAre vs ns) (hl : ns.length ≤ sizeLine) (hr : Room k callerA)
    (F : ∀ base : Heap, K.In base → base.Ns mainGlobals mg → FnG P w K mg base CX k fa sp)
    (hsp : ∀ H : Hp, Only H → SqL K H a (ns.map V.int) → sp [.ref a] H (fun v _ => v = .bl true) fun _ _ _ => False)
    (hCX : ∀ H e s', CX [] H s₁ (fun _ _ _ => False) e s' → False) :
    codeAny (model P w) callerA (.call (.ref fa) ⟨[.ref a], []⟩) (fun r s' => r = .ok (.ret (.bool true)) ∧ OldK s₁.heap s'.heap ∧ s'.os = s₁.os ∧ AllBare s'.gens) s₁ := by
  have rv := vals_ints hi
  have lenV := hi.length
  -- from an abstract heap in which nothing but the script may be tracked
  have core : ∀ H : Hp, Only H → SqL K H a (ns.map V.int) → HOk P w H s₁.heap → (∀ b, H b ≠ none → b = a) → (H a ≠ none → K.lookup a = none) →
      codeAny (model P w) callerA (.call (.ref fa) ⟨[.ref a], []⟩) (fun r s' => r = .ok (.ret (.bool true)) ∧ OldK s₁.heap s'.heap ∧ s'.os = s₁.os ∧ AllBare s'.gens) s₁ := by
    intro H hO hS hok hA hK
    have base_of : ∀ {b : Addr} {o : Obj}, s₁.heap.get? b = some o → H b = none → (hidT s₁.heap H).get? b = some o := fun e n => hidT_get e n
    have noA : ∀ {b : Addr} {o : Obj} {es : Array DictEntry} {ep : Nat}, s₁.heap.get? b = some o → o.data = .dict es ep → H b = none := fun {b o es ep} e d => by
      cases q : H b with
      | none => rfl
      | some u =>
        have e' : b = a := hA b (by rw [q]; simp)
        subst e'
        rw [ha] at e; cases e
        have d' : Data.seq vs.toArray _ = Data.dict es ep := d
        cases d'
    have nsK : ∀ {b : Addr} {m : Str → Option Value}, s₁.heap.Ns b m → (hidT s₁.heap H).Ns b m := fun {b m} ⟨o, es, ep, e, d, r⟩ => ⟨o, es, ep, base_of e (noA e d), d, r⟩
    have hKb : K.In (hidT s₁.heap H) := fun b o e => base_of (KX b o e) (by
      cases q : H b with
      | none => rfl
      | some u =>
        have e' : b = a := hA b (by rw [q]; simp)
        subst e'
        rw [hK (by rw [q]; simp)] at e; cases e)
    have hM : Mod K mg (hidT s₁.heap H) := ⟨hKb, nsK hns, ⟨mb, nsK hb, hbb⟩, let ⟨mc, h1, h2⟩ := hlim; ⟨mc, nsK h1, h2⟩⟩
    have e0 : Env0 P w K mg (hidT s₁.heap H) callerA [] s₁ H := ⟨rfl, hM, fun b o e => of_hidT e, Nat.le_of_eq (hidT_size _ _), trivial, fun b hb => absurd (show b ∈ ([] : List Addr) from hb) (by simp), hok, .of_eq hg⟩
    refine codeAny_mono (F _ hKb (nsK hns) callerA [] s₁ H [.ref a] [.ref a] _ _ hr rfl e0 (.cons rfl .nil) (hsp H hO hS)) fun r s' h => ?_
    cases r with
    | error e => exact (hCX H e s' h).elim
    | ok fl =>
      cases fl with
      | next => exact False.elim h
      | brk => exact False.elim h
      | cont => exact False.elim h
      | ret u =>
        obtain ⟨v, H', os, bare, un, hok', r', q⟩ := h
        have q' : v = .bl true := q
        subst q'
        obtain rfl : u = Value.bool true := r'
        refine ⟨rfl, OldK.of_keep fun b o e => ?_, os, bare⟩
        cases q : H b with
        | none => exact un.keep b o e q (by intro z; exact absurd (show b ∈ ([] : List Addr) from z) (by simp)) (by simp)
        | some u =>
          rcases hO b with z | ⟨ob, xs, z⟩
          · rw [q] at z; cases z
          · have z2 := un.frzs b ob _ z
            obtain ⟨e1, _⟩ := hok b _ z
            obtain ⟨e2, _⟩ := hok' b _ z2
            rw [e] at e1; cases e1
            exact e2
  cases hk : K.lookup a with
  | some o =>
    -- the script is one of the module's own objects
    have e := KX a o hk
    rw [ha] at e
    cases e
    refine core (fun _ => none) (fun _ => .inl rfl) (.inr ⟨_, vs.toArray, _, hk, rfl, rfl, rfl, by rw [List.size_toArray, lenV]; exact hl, by simpa using rv⟩) (fun b u z => by have z' : (none : Option HO) = some u := z; cases z') (fun b z => absurd rfl z) fun z => absurd rfl z
  | none =>
    refine core (fun b => if b = a then some (.frz { cls := .type "list", data := .seq vs.toArray } (.lst (ns.map V.int))) else none) (fun b => ?_) (.inl (.inr ⟨{ cls := .type "list", data := .seq vs.toArray }, if_pos rfl⟩)) (fun b u z => ?_) (fun b z => ?_) fun _ => hk
    · by_cases hb : b = a
      · exact .inr ⟨_, _, if_pos hb⟩
      · exact .inl (if_neg hb)
    · by_cases hb : b = a
      · have z' := (if_pos hb).symm.trans z
        cases z'
        subst hb
        exact ⟨ha, by rw [List.length_map]; exact hl, vs, _, rv, ha⟩
      · have z' := (if_neg hb).symm.trans z
        cases z'
    · by_cases hb : b = a
      · exact hb
      · exact absurd (if_neg hb) z
/-- the end of a law whose def is FnG -/
theorem walkG {l : PySem.W.OpenLaw} {q : Program} {loose : List Str} {XP : (Str → Option Value) → Heap → Prop} {YP : World → Heap → Prop} {d : DefRec} {K : Params → PySem.W.Frag} {k : Nat} (hk : k ≤ 100) (hn : l.most = some 63) (hdf : d.params.defaults = [])
    (hY : ∀ (w : World) (h : Heap), YP w h → (K w.params).In h)
    (F : ∀ (w : World) (mg : Str → Option Value) (fa : Addr) (h : Heap), (K w.params).In h → h.Ns mainGlobals mg → mg d.name = some (.ref fa) →
      ∀ base : Heap, (K w.params).In base → base.Ns mainGlobals mg → FnG l.prog w (K w.params) mg base (L2.CX l.prog w) k fa (spLaw (K w.params))) :
    PySem.W.WalkO q loose XP YP l.row.toRowW d [] (fun f vs => PySem.call f vs) := by
  refine Att.attach_call hn hdf fun w s₀ s₁ mg mb fa o pm cd doc a vs ns G Y ho hd hcd hmg hobj hints hlen hg => ?_
  have KX := hY w _ Y
  exact law_callG KX G.T.g G.T.b G.T.builtins G.T.nolimit hg hobj hints (Nat.le_trans hlen (by decide)) (Room.mono ⟨rfl, by decide, by decide⟩ hk) (F w mg fa _ KX G.T.g hmg) (fun H hO hS => ⟨a, ns, rfl, hS, hlen, fun _ => rfl⟩) fun H e s' z => cx_no z
end Hf

namespace Hf
open PySem PySem.Spec PyProof.Rows L2
/-! ### comprehensions -/
def LcK (g : TG) (tt : TT) (te : TE) (vs : List Nat) (σ : L2.St) (Q : VK) : It → Hp → Prop := fun J H1 => ∀ D, H1 D = none → ∃ W : Nat → Nat → Hp → Prop, (∃ m, W 0 m (upd H1 D (.lst []))) ∧ ∀ i m H, W i m H →
  (J.stop i H ∧ Q (.ref D) H) ∨ (J.go i H ∧ ∃ Nx : Hp → Prop, (∀ H', Nx H' → ∃ m', m' < m ∧ W (i + 1) m' H') ∧ ∀ x H', J.yld i H x H' → g x (wipe σ vs) H' fun σ2 H2 => wipe σ2 vs = wipe σ vs ∧ tt σ2 H2 fun b H3 =>
    if b = true then te σ2 H3 fun y H4 => ∃ acc, H4 D = some (.lst acc) ∧ acc.length < sizeLine ∧ Nx (upd H4 D (.lst (acc ++ [y]))) else Nx H3)
section
variable {K : PySem.W.Frag} {σ : L2.St} {H : Hp} {Q : VK} {wi : TI} {g : TG} {tt : TT} {te : TE} {vs : List Nat} {i : Nat} {a : Addr} {xs : List V}
theorem rd_lc (q : wi σ H (LcK g tt te vs σ Q)) : tLc wi g tt te vs σ H Q := q
theorem rd_yes {QB : Bool → Hp → Prop} (q : QB true H) : tYes σ H QB := q
theorem wipe1 {x : Option V} : wipe ((wipe σ [i]).set i x) [i] = wipe σ [i] := by
  show ((σ.set i none).set i x).set i none = σ.set i none
  rw [List.set_set, List.set_set]
theorem Same.mut {H H1 : Hp} {p : Addr} {o : HO} (e : Same H H1) (h : H p = none) : Same H (upd H1 p o) := fun a u ha => by
  rw [upd_ne (ne_of_none ha h)]
  exact e a u ha
/-- [e for x in xs], e a function of x that only makes objects -/
theorem lc_mapL (F : V → V) (hS : SqL K H a xs) (hl : xs.length ≤ 1000) (hev : ∀ (j : Nat) (x : V) (H1 : Hp) (R : VK), xs[j]? = some x → Same H H1 → (∀ H2, Same H1 H2 → R (F x) H2) → te ((wipe σ [i]).set i (some x)) H1 R)
    (k : ∀ (D : Addr) (H' : Hp), H D = none → H' D = some (.lst (xs.map F)) → Same H H' → Q (.ref D) H') : ∃ a', V.ref a = .ref a' ∧ (∃ xs, SqL K H a' xs) ∧ LcK (gName i) tYes te [i] σ Q (Itl K a') H := by
  refine ⟨a, rfl, ⟨_, hS⟩, fun D hD => lc_list (K := K) (a := a) (xs := xs) (g := gName i) (tt := tYes) (te := te) (vs := [i]) (σ := σ) (Qd := fun H => Q (.ref D) H) (fun j H' => H' D = some (.lst ((xs.take j).map F)) ∧ Same H H') ⟨upd_same, Same.new hD⟩ (fun j H' _ ⟨_, s⟩ => s.seq hS) ?_ ?_⟩
  · rintro j x H1 hx ⟨e, s⟩
    refine ⟨wipe1, ?_⟩
    refine rd_yes ?_
    refine iteT ?_
    refine hev j x H1 _ hx s fun H2 s2 => ⟨_, s2 _ _ e, ?_, ?_, Same.mut (s.trans s2) hD⟩
    · rw [List.length_map, List.length_take]
      exact small1000 (by omega)
    · rw [upd_same]
      have hj : j < xs.length := (List.getElem?_eq_some_iff.mp hx).1
      have e2 : xs.take (j + 1) = xs.take j ++ [x] := by
        rw [List.take_add_one, hx]
        rfl
      rw [e2, List.map_append]
      rfl
  · rintro H1 ⟨e, s⟩
    rw [List.take_length] at e
    exact k D H1 hD e s
/-- [e for x in range(lo, lo + n)] -/
theorem lc_mapR {lo : Int} {n : Nat} (F : Int → V) (hl : n ≤ 1000) (hev : ∀ (j : Nat) (H1 : Hp) (R : VK), j < n → Same H H1 → (∀ H2, Same H1 H2 → R (F (lo + j)) H2) → te ((wipe σ [i]).set i (some (.int (lo + j)))) H1 R)
    (k : ∀ (D : Addr) (H' : Hp), H D = none → H' D = some (.lst ((List.range n).map fun (j : Nat) => F (lo + j))) → Same H H' → Q (.ref D) H') : LcK (gName i) tYes te [i] σ Q (Itr lo n) H := by
  refine fun D hD => lc_range (lo := lo) (n := n) (g := gName i) (tt := tYes) (te := te) (vs := [i]) (σ := σ) (Qd := fun H => Q (.ref D) H) (fun j H' => H' D = some (.lst ((List.range j).map fun (j : Nat) => F (lo + j))) ∧ Same H H') ⟨upd_same, Same.new hD⟩ ?_ ?_
  · rintro j H1 hj ⟨e, s⟩
    refine ⟨wipe1, ?_⟩
    refine rd_yes ?_
    refine iteT ?_
    refine hev j H1 _ hj s fun H2 s2 => ⟨_, s2 _ _ e, ?_, ?_, Same.mut (s.trans s2) hD⟩
    · rw [List.length_map, List.length_range]
      exact small1000 (by omega)
    · rw [upd_same, List.range_succ, List.map_append]
      rfl
  · rintro H1 ⟨e, s⟩
    exact k D H1 hD e s
end
end Hf

namespace Hf
open PySem PySem.Spec PyProof.Rows L2
theorem plv_1 (s o d : Int) : plv s o d 1 = o + d := by
  unfold plv
  rw [show (1 : Int) / 2 = 0 from by decide, show (1 : Int) % 2 = 1 from by decide]
  omega
theorem plv_2 (s o d : Int) : plv s o d 2 = s + o := by
  unfold plv
  rw [show (2 : Int) / 2 = 1 from by decide, show (2 : Int) % 2 = 0 from by decide]
  omega
theorem plv_even (s o d h : Int) : plv s o d (2 * h) = s * h + o := by
  unfold plv
  rw [show 2 * h / 2 = h from by omega, show 2 * h % 2 = 0 from by omega]
  omega
theorem plv_odd (s o d h : Int) : plv s o d (2 * h + 1) = s * h + o + d := by
  unfold plv
  rw [show (2 * h + 1) / 2 = h from by omega, show (2 * h + 1) % 2 = 1 from by omega]
  omega
theorem plv_split {n : Int} (h : 1 ≤ n) : (∃ k, 1 ≤ k ∧ n = 2 * k) ∨ ∃ k, 0 ≤ k ∧ n = 2 * k + 1 := by
  rcases (show n % 2 = 0 ∨ n % 2 = 1 from by omega) with e | e
  · exact .inl ⟨n / 2, by omega, by omega⟩
  · exact .inr ⟨n / 2, by omega, by omega⟩
/-- at most 0 at all sizes -/
def ahead (s o d : Int) : Bool := decide (s ≤ 0) && (decide (plv s o d 1 ≤ 0) && decide (plv s o d 2 ≤ 0))
theorem ahead_iff {s o d : Int} : ahead s o d = true ↔ s ≤ 0 ∧ plv s o d 1 ≤ 0 ∧ plv s o d 2 ≤ 0 := by
  unfold ahead
  simp only [Bool.and_eq_true, decide_eq_true_eq]
theorem plv_le {s o d : Int} (h : s ≤ 0) (h1 : plv s o d 1 ≤ 0) (h2 : plv s o d 2 ≤ 0) {n : Int} (hn : 1 ≤ n) : plv s o d n ≤ 0 := by
  rw [plv_1] at h1
  rw [plv_2] at h2
  rcases plv_split hn with ⟨k, hk, rfl⟩ | ⟨k, hk, rfl⟩
  · rw [plv_even]
    have := Int.mul_le_mul_of_nonpos_left h hk
    omega
  · rw [plv_odd]
    have := Int.mul_nonpos_of_nonpos_of_nonneg h hk
    omega
/-- v is the first size at which the difference is above 0, None if there is none -/
def IsFirst (S O D : Int) (v : V) : Prop := (∃ n, v = .int n ∧ 1 ≤ n ∧ 0 < plv S O D n ∧ ∀ m, 1 ≤ m → m < n → plv S O D m ≤ 0) ∨ (v = .non ∧ ∀ m, 1 ≤ m → plv S O D m ≤ 0)
theorem IsFirst.same {S O D : Int} {v v' : V} (h : IsFirst S O D v) (h' : IsFirst S O D v') : v = v' := by
  rcases h with ⟨n, rfl, a, b, c⟩ | ⟨rfl, c⟩ <;> rcases h' with ⟨n', rfl, a', b', c'⟩ | ⟨rfl, c'⟩
  · have : n = n' := by
      rcases Int.lt_trichotomy n n' with h | h | h
      · have := c' n a h
        omega
      · exact h
      · have := c n' a' h
        omega
    rw [this]
  · have := c' n a
    omega
  · have := c n' a'
    omega
  · rfl
/-- the least size of a parity, of an ascending difference -/
theorem first_of {S O D : Int} (hS : 0 < S) (h1 : plv S O D 1 ≤ 0) (h2 : plv S O D 2 ≤ 0) {n : Int} (hn : n = 2 * ((0 - O - D * 0) / S + 1) + 0 ∨ n = 2 * ((0 - O - D * 1) / S + 1) + 1) (h3 : n ≤ 2 * ((0 - O - D * 0) / S + 1) + 0) (h4 : n ≤ 2 * ((0 - O - D * 1) / S + 1) + 1) : IsFirst S O D (.int n) := by
  rw [plv_1] at h1
  rw [plv_2] at h2
  have e0 : 0 - O - D * 0 = - O := by omega
  have e1 : 0 - O - D * 1 = - O - D := by omega
  rw [e0, e1] at hn
  rw [e0] at h3
  rw [e1] at h4
  clear e0 e1
  have d0 := Int.mul_ediv_self_le (x := -O) (k := S) (by omega)
  have d0' := Int.lt_mul_ediv_self_add (x := -O) hS
  have d1 := Int.mul_ediv_self_le (x := -O - D) (k := S) (by omega)
  have d1' := Int.lt_mul_ediv_self_add (x := -O - D) hS
  generalize hq : -O / S = q0 at *
  generalize hr : (-O - D) / S = q1 at *
  have b0 : 1 ≤ q0 := by
    rcases Int.lt_or_le q0 1 with h | h
    · have := Int.mul_le_mul_of_nonneg_left (show q0 ≤ 0 from by omega) (Int.le_of_lt hS)
      omega
    · exact h
  have b1 : 0 ≤ q1 := by
    rcases Int.lt_or_le q1 0 with h | h
    · have := Int.mul_le_mul_of_nonneg_left (show q1 ≤ -1 from by omega) (Int.le_of_lt hS)
      omega
    · exact h
  refine .inl ⟨n, rfl, by omega, ?_, fun m hm hlt => ?_⟩
  · rcases hn with e | e
    · rw [e, show 2 * (q0 + 1) + 0 = 2 * (q0 + 1) from by omega, plv_even, Int.mul_add]
      omega
    · rw [e, plv_odd, Int.mul_add]
      omega
  · rcases plv_split hm with ⟨k, hk, rfl⟩ | ⟨k, hk, rfl⟩
    · rw [plv_even]
      have := Int.mul_le_mul_of_nonneg_left (show k ≤ q0 from by omega) (Int.le_of_lt hS)
      omega
    · rw [plv_odd]
      have := Int.mul_le_mul_of_nonneg_left (show k ≤ q1 from by omega) (Int.le_of_lt hS)
      omega
theorem first_small {S O D n : Int} (h : IsFirst S O D (.int n)) (hO : -40 ≤ O) : n < 130 := by
  rcases h with ⟨n', e, a, b, c⟩ | ⟨e, _⟩
  · cases e
    rcases Int.lt_or_le n 130 with h | h
    · exact h
    · exfalso
      have c1 := c 1 (by omega) (by omega)
      have c2 := c 2 (by omega) (by omega)
      have c82 := c (2 * 41) (by omega) (by omega)
      rw [plv_even] at c82
      rcases Int.lt_or_le 0 S with hS | hS
      · omega
      · have := plv_le hS c1 c2 a
        omega
  · cases e
/-- the law's own look: sizes 1 to 129 -/
theorem first_look {S O D : Int} (hO : -40 ≤ O) {v : V} (h : (∃ n, v = .int n ∧ 1 ≤ n ∧ 0 < plv S O D n ∧ ∀ m, 1 ≤ m → m < n → plv S O D m ≤ 0) ∨ (v = .non ∧ ∀ m, 1 ≤ m → m < 130 → plv S O D m ≤ 0)) : IsFirst S O D v := by
  rcases h with h | ⟨rfl, h⟩
  · exact .inl h
  · refine .inr ⟨rfl, fun m hm => ?_⟩
    have c1 := h 1 (by omega) (by omega)
    have c2 := h 2 (by omega) (by omega)
    have c82 := h (2 * 41) (by omega) (by omega)
    rw [plv_even] at c82
    exact plv_le (by omega) c1 c2 hm
end Hf

namespace Hf
open PySem PySem.Spec PyProof.Rows L2
/-- not above 10 ^ 50 -/
abbrev Md (x : Int) : Prop := -100000000000000000000000000000000000000000000000000 ≤ x ∧ x ≤ 100000000000000000000000000000000000000000000000000
def spAhead : Sp := fun vs H Q _ => ∃ s o d : Int, vs = [.int s, .int o, .int d] ∧ Sm s ∧ Sm d ∧ Q (.bl (ahead s o d)) H
def spPlCmp (C : Addr) (f : Int → Int → Int → Int → Int → Int → Bool) : Sp := fun vs H Q _ => ∃ (p q : Addr) (s o d s' o' d' : Int), vs = [.ref p, .ref q] ∧ PlaceAt C H p s o d ∧ PlaceAt C H q s' o' d' ∧ Md s ∧ Md d ∧ Md s' ∧ Md d' ∧ Q (.bl (f s o d s' o' d')) H
def fLe (s o d s' o' d' : Int) : Bool := ahead (s - s') (o - o') (d - d')
def fLt (s o d s' o' d' : Int) : Bool := ahead (s - s') (o - o' + 1) (d - d')
def fGe (s o d s' o' d' : Int) : Bool := ahead (s' - s) (o' - o) (d' - d)
def fGt (s o d s' o' d' : Int) : Bool := ahead (s' - s) (o' - o + 1) (d' - d)
theorem use_cmp {C p q : Addr} {H : Hp} {s o d s' o' d' : Int} {f : Int → Int → Int → Int → Int → Int → Bool} {E : XK} {Q : VK} (h1 : PlaceAt C H p s o d) (h2 : PlaceAt C H q s' o' d') (b1 : Md s) (b2 : Md d) (b3 : Md s') (b4 : Md d') (k : Q (.bl (f s o d s' o' d')) H) : rCmp C (spPlCmp C f) E (.ref p) (.ref q) H Q := by
  obtain ⟨dx, f1⟩ := h1
  obtain ⟨dy, f2⟩ := h2
  exact ⟨p, dx, _, q, dy, _, rfl, rfl, f1, f2, p, q, s, o, d, s', o', d', rfl, ⟨dx, f1⟩, ⟨dy, f2⟩, b1, b2, b3, b4, k⟩
def spBeyond (C : Addr) : Sp := fun vs H Q _ => ∃ (p q : Addr) (s o d s' o' d' : Int), vs = [.ref p, .ref q] ∧ PlaceAt C H p s o d ∧ PlaceAt C H q s' o' d' ∧ Md s ∧ Md o ∧ Md d ∧ Md s' ∧ Md o' ∧ Md d' ∧ ∀ (v : V) (H' : Hp), IsFirst (s - s') (o - o') (d - d') v → Same H H' → Q v H'
/-- Place(slope, offset) -/
def spPlI2 (C : Addr) : Sp := fun vs H Q E => spPlI C (vs ++ [.int 0]) H Q E
theorem use_place2 {C : Addr} {H : Hp} {s o : Int} {Q : VK} {E : XK} (k : NewPl C H s o 0 Q) : MakeK C (spPlI2 C) E Q [.int s, .int o] H := use_place k
/-- two lists of data, equal or not: the test of != -/
theorem use_neD {K : PySem.W.Frag} {H : Hp} {x y : V} {d e : PyData} {Q : VK} (h1 : Dp K H x d) (h2 : Dp K H y e) (s1 : SeqAt.shaped d = true) (s2 : SeqAt.shaped e = true) (k : Q (.bl (!PyData.eqv d e)) H) : rNeD K x y H Q := ⟨d, e, h1, h2, s1, s2, k⟩
theorem use_min {K : PySem.W.Frag} {H : Hp} {a : Addr} {ns : List Int} {Q : VK} (h : H a = some (.lst (ns.map V.int))) (h0 : 0 < ns.length) (k : ∀ m, m ∈ ns → (∀ j ∈ ns, m ≤ j) → Q (.int m) H) : rMin K [.ref a] H Q := ⟨a, ns, rfl, SqL.of h, h0, k⟩
theorem use_max {K : PySem.W.Frag} {H : Hp} {a : Addr} {ns : List Int} {Q : VK} (h : H a = some (.lst (ns.map V.int))) (h0 : 0 < ns.length) (k : ∀ m, m ∈ ns → (∀ j ∈ ns, j ≤ m) → Q (.int m) H) : rMax K [.ref a] H Q := ⟨a, ns, rfl, SqL.of h, h0, k⟩
theorem half_sm {x S : Int} (h : -10000000000000000000000000000000000000000000000000000 ≤ x ∧ x ≤ 10000000000000000000000000000000000000000000000000000) : Sm (x / S + 1) := by
  have := Int.natAbs_ediv_le_natAbs x S
  exact ⟨by omega, by omega⟩
theorem rd_bm {K : PySem.W.Frag} {T : String} {r : V → List V → Hp → VK → Prop} {to : TE} {t : TA} {σ : L2.St} {H : Hp} {Q : VK} (q : to σ H fun x H1 => tyV K T x H1 ∧ t σ H1 fun xs H2 => r x xs H2 Q) : tBM K T r to t σ H Q := q
theorem use_append {H : Hp} {l : Addr} {xs : List V} {x : V} {Q : VK} (h : H l = some (.lst xs)) (hl : xs.length < 1000) (k : Q .non (upd H l (.lst (xs ++ [x])))) : rAppend (.ref l) [x] H Q := ⟨l, xs, x, rfl, rfl, h, small1000 (Nat.le_of_lt hl), k⟩
theorem is_lst {K : PySem.W.Frag} {H : Hp} {l : Addr} {xs : List V} {P : Prop} (h : H l = some (.lst xs)) (k : P) : tyV K "list" (.ref l) H ∧ P := ⟨.inl ⟨rfl, _, SqL.of h⟩, k⟩
theorem rd_int {σ : L2.St} {H : Hp} {i : Int} {Q : VK} (q : Q (.int i) H) : rInt [.int i] H Q := .inl ⟨i, rfl, q⟩
def spLDr4 : Sp := fun vs H Q _ => ∃ b : Addr, vs = [.ref b] ∧ Bag H b ∧ ∀ (p : Addr) (s o d : Int) (H' : Hp), H p = none → H' p = some (.lst [.int s, .int o, .int d]) → -2 ≤ s → s ≤ 4 → -9 ≤ o → o ≤ 9 → -1 ≤ d → d ≤ 2 → Bag H' b → Keep b H H' → Q (.ref p) H'
def spLNear (K : PySem.W.Frag) : Sp := fun vs H Q _ => ∃ (b a : Addr) (s o d : Int), vs = [.ref b, .ref a] ∧ Bag H b ∧ H a = some (.lst [.int s, .int o, .int d]) ∧ -2 ≤ s ∧ s ≤ 4 ∧ -9 ≤ o ∧ o ≤ 9 ∧ -1 ≤ d ∧ d ≤ 2 ∧ ∀ (p : Addr) (s o d : Int) (H' : Hp), H p = none → H' p = some (.lst [.int s, .int o, .int d]) → -3 ≤ s → s ≤ 5 → -11 ≤ o → o ≤ 11 → -2 ≤ d → d ≤ 3 → Bag H' b → Keep b H H' → Q (.ref p) H'
def spLGap (K : PySem.W.Frag) : Sp := fun vs H Q _ => ∃ (a c : Addr) (s o d s' o' d' n : Int), vs = [.ref a, .ref c, .int n] ∧ SqL K H a [.int s, .int o, .int d] ∧ SqL K H c [.int s', .int o', .int d'] ∧ Sm s ∧ Sm d ∧ Sm s' ∧ Sm d' ∧ Sm n ∧ Q (.int (plv (s - s') (o - o') (d - d') n)) H
def spLAlw (K : PySem.W.Frag) : Sp := fun vs H Q _ => ∃ (a c : Addr) (s o d s' o' d' m : Int), vs = [.ref a, .ref c, .int m] ∧ SqL K H a [.int s, .int o, .int d] ∧ SqL K H c [.int s', .int o', .int d'] ∧ Sm s ∧ Sm d ∧ Sm s' ∧ Sm d' ∧ Q (.bl (ahead (s - s') (o - o' - m) (d - d'))) H
def spLFst (K : PySem.W.Frag) : Sp := fun vs H Q _ => ∃ (a c : Addr) (s o d s' o' d' : Int), vs = [.ref a, .ref c] ∧ SqL K H a [.int s, .int o, .int d] ∧ SqL K H c [.int s', .int o', .int d'] ∧ Sm s ∧ Sm d ∧ Sm s' ∧ Sm d' ∧ -40 ≤ o - o' ∧ ∀ v, IsFirst (s - s') (o - o') (d - d') v → Q v H
end Hf

namespace Hf
open PySem PySem.Spec PyProof.Rows L2
section
variable {K : PySem.W.Frag} {H : Hp} {l : Addr} {Q : VK}
theorem use_repr4 {a b c d : Bool} (h : H l = some (.lst [.bl a, .bl b, .bl c, .bl d])) (k : Q (.str (PyData.list [.bool a, .bool b, .bool c, .bool d]).shown) H) : rRepr K [.ref l] H Q :=
  ⟨_, .list [.bool a, .bool b, .bool c, .bool d], rfl, .lst (SqL.of h) (.cons (.bl _) (.cons (.bl _) (.cons (.bl _) (.cons (.bl _) .nil)))), by cases a <;> cases b <;> cases c <;> cases d <;> decide +kernel, by cases a <;> cases b <;> cases c <;> cases d <;> decide +kernel, by cases a <;> cases b <;> cases c <;> cases d <;> decide +kernel, Nat.le_of_lt (small1000 (by cases a <;> cases b <;> cases c <;> cases d <;> decide +kernel)), k⟩
/-- a number or None, as data -/
def dv : V → PyData
  | .int i => .int i
  | _ => .none
theorem use_reprF {S O D : Int} {v : V} (h : IsFirst S O D v) (hO : -40 ≤ O) (k : Q (.str (dv v).shown) H) : rRepr K [v] H Q := by
  rcases id h with ⟨n, rfl, h1, _⟩ | ⟨rfl, _⟩
  · have hs := first_small h hO
    have f : ∀ m : Nat, m < 130 → (PyData.int (m : Int)).showable = true ∧ (PyData.int (m : Int)).hasDict = false ∧ (PyData.int (m : Int)).depth ≤ 60 ∧ (PyData.int (m : Int)).shown.length ≤ 1000 := by decide +kernel
    obtain ⟨m, rfl⟩ := Int.eq_ofNat_of_zero_le (show 0 ≤ n from by omega)
    obtain ⟨a, b, c, d⟩ := f m (by omega)
    exact ⟨_, .int m, rfl, .int _, a, b, c, Nat.le_of_lt (small1000 d), k⟩
  · exact ⟨_, .none, rfl, .non, by decide +kernel, by decide +kernel, by decide +kernel, Nat.le_of_lt (small1000 (by decide +kernel)), k⟩
/-- x != y of a thing with itself, as a test -/
theorem ne_no {x y : V} {A B : Prop} (e : x = y) (k : B) : if (!decide (x = y)) = true then A else B := by
  rw [decide_eq_true e]
  exact iteF k
theorem ite_keep {k : Bool} {A B : Prop} (b : B) (h : k = true → B → A) : if k = true then A else B := by
  cases k with
  | false => exact iteF b
  | true => exact iteT (h rfl b)
theorem ite_no {k : Bool} {A B : Prop} (e : k = false) (b : B) : if k = true then A else B := by
  rw [e]
  exact iteF b
theorem ite_yes {k : Bool} {A B : Prop} (e : k = true) (b : A) : if k = true then A else B := by
  rw [e]
  exact iteT b
theorem ahead_le {S O D : Int} (h : ahead S O D = true) {n : Int} (hn : 1 ≤ n) : plv S O D n ≤ 0 := by
  obtain ⟨a, b, c⟩ := ahead_iff.mp h
  exact plv_le a b c hn
theorem ahead_zero : ahead 0 0 0 = true := by decide
theorem ahead_one : ahead 0 1 0 = false := by decide
theorem first_zero : IsFirst 0 0 0 .non := .inr ⟨rfl, fun m _ => by unfold plv; omega⟩
theorem plv_neg (s o d s' o' d' n : Int) : plv (s' - s) (o' - o) (d' - d) n = - plv (s - s') (o - o') (d - d') n := by
  rw [plv_sub, plv_sub]
  omega
end
end Hf

namespace Hf
open PySem PySem.Spec PyProof.Rows L2
/-! ### an own error whose __init__ begins with super().__init__(text) -/
/-- the def's words, for its context -/
abbrev nfS (name qual : Str) (params : Arguments) (body : List Stmt) (scope : Scope) (cc cda : Addr) : NdefX.NF := ⟨name, qual, params, body, scope, [("__class__", cc)], cda⟩
/-- what the written part says of super() in C's __init__ -/
structure SupC (P : Program) (K : PySem.W.Frag) (mg : Str → Option Value) (C cc cda : Addr) : Prop where
  code : ∃ ccl cdd cvs ccs file tf, K.lookup cda = some ⟨ccl, cdd, .fields cvs, ccs⟩ ∧ cvs[2]? = some (Value.str file tf) ∧ ((P.main.file : Str) == file) = true
  cell : ∃ cl cld csl, K.lookup cc = some ⟨cl, cld, .cell (some (.ref C)), csl⟩
  cls : ∃ cdC, PySem.W.clsIn K C = some cdC
  self : PySem.W.mroIn K C (.ref C) = some true
  sup : mg "super" = none
  top : (P.main.scope.names.lookup ("super" : Str)).isSome = false
  opq : PySem.W.nsIn K cStatics "thirdparty.any" = some none
  ini : PySem.W.ks_superIn K C C "__init__" = some (some (.builtin "ValueError.__init__"))
  isV : PySem.W.subIn K (.ref C) (.type "ValueError") = some true
section
variable {X : Cx} {pins : List (Addr × Obj)} {σ : L2.St} {H : Hp} {s : Shared}
/-- the bound ValueError.__init__ is called: nothing of it is told -/
theorem call_mw {A : Around} {E : Value → Shared → Prop} {u a C : Addr} {us : List Value} {Q : Value → Shared → Prop} (T : OexC X.K C) (I : Inv X pins σ H s) (e : H a = some (exo a C none)) (hu : s.heap.get? u = some (PySem.W.kxs_mw "ValueError.__init__" a)) (hl : us.length ≤ sizeLine) (h : ∀ s', Inv X pins σ H s' → Q .none s') :
    wpAny (model X.prog X.w) A (call (.ref u) us) Q E s := by
  obtain ⟨nm, q, N, bs, bm, sn, sub, ab, col, dd, k0, k1, k2, k3, k5, hC, hbm⟩ := T.cls
  obtain ⟨t1, ho⟩ := exo_at I.hok e
  obtain ⟨hp, g, d, t, os⟩ := s
  have hC' := I.kIn _ _ hC
  refine wpAny_call (codeAny_of_tree ?_)
  show wpAny _ A.in1 (callAny (.ref u) ⟨us, []⟩) _ _ _
  simp only [callAny]
  refine wpAny_bind (wpAny_load hu ?_)
  simp only [PySem.W.kxs_mw, show (Value.type "method-wrapper" == Value.type "method" || Value.type "method-wrapper" == Value.type "builtin_function_or_method" || Value.type "method-wrapper" == Value.type "method-wrapper") = true by decide, if_true]
  refine PySem.W.KFB.if_so (by decide) ?_
  refine wpAny_bind (PySem.W.check_bound_init F.excBase_ValueError.toExcCallFacts hC' ho rfl ?_)
  refine wpAny_bind (wpAny_pure (wpAny_pure ?_))
  refine ⟨PySem.plainId_quiet F.excBase_ValueError.init.plain _, codeAny_builtin F.excBase_ValueError.initEntry ?_⟩
  refine PySem.W.exc_init_tree (cls := .ref C) (t0 := t1) (dv := none) (c2 := .none) (c3 := .none) (b4 := .bool false) ho hl fun h' k hx _ => ?_
  have J := I.write (t' := t) (x := a) (e := a) (o := exo a C none) (by rw [e]; exact True.intro) (.inl rfl) k ⟨_, hx⟩ (exo_ok hx)
  have eu : upd H a (exo a C none) = H := by
    funext b
    by_cases hb : b = a
    · rw [hb, upd_same, e]
    · rw [upd_ne hb]
  rw [eu] at J
  exact h _ J

abbrev supSt (txt : Str) (j : Nat) (p0 p1 p2 p3 p4 p5 : Pos) : Stmt := .Expr (.Call (.Attribute (.Call (.Name "super" p0) [] [] p1) "__init__" p2) [.Constant (.str txt) j p3] [] p4) p5
theorem fnS_of {P : Program} {w : World} {K : PySem.W.Frag} {mg : Str → Option Value} {base : Heap} {CX : CXT} {k : Nat} {f C cc cda : Addr} {name qual txt : Str} {params : Arguments} {rest : List Stmt} {scope : Scope} {dV kV doc pm ct oc : Value} {an od : Option Addr} {osl : Array (Option Value)} {j : Nat} {p0 p1 p2 p3 p4 p5 : Pos}
    {N ps : List Str} {ar : Arg} {sp : Sp} (lk : K.lookup f = some ⟨oc, od, .func (PySem.W.ksFn name qual params (supSt txt j p0 p1 p2 p3 p4 p5 :: rest) scope dV kV doc pm an (.ref cda) ct cc), osl⟩) (hcd : PySem.W.codeIn K (.ref cda) qual = true)
    (S : NdefX.NScope N (("self" : Str) :: ps) ["__class__"] scope) (har : (params.posonlyargs ++ params.args).head? = some ar) (har2 : ar.arg = "self") (hks : scope.names.lookup ("super" : Str) = some .globalImplicit) (T : OexC K C) (U : SupC P K mg C cc cda)
    {pl : Env → Sem Bool} (he : ∀ env : Env, eval (.Call (.Attribute (.Call (.Name "super" p0) [] [] p1) "__init__" p2) [.Constant (.str txt) j p3] [] p4) env = (do
      let ov ← attributeBase (.Call (.Name "super" p0) [] [] p1) "__init__" env (eval (.Call (.Name "super" p0) [] [] p1) env)
      standAt p2.atName
      let (f, first) ← holding [ov] (getMethod ov "__init__" (pl env))
      callWith p4 f first (backTo p4 (starEach [.Constant (.str txt) j p3] env)) []))
    (len : ∀ vs H Q E, sp vs H Q E → vs.length = (("self" : Str) :: ps).length)
    (hbody : ∀ (A : Around) (outer : List Env) (s : Shared) (H : Hp) (vs : List V) (Q : VK) (E : XK), Room k (A.deeper (NdefX.envF (nfS name qual params (supSt txt j p0 p1 p2 p3 p4 p5 :: rest) scope cc cda) f s.heap.objs.size)) → sp vs H Q E →
      ∃ a ws, vs = .ref a :: ws ∧ H a = some (exo a C none) ∧ ∃ t, PSs (NdefX.ncx CX P w K mg base N (nfS name qual params (supSt txt j p0 p1 p2 p3 p4 p5 :: rest) scope cc cda) f A outer s H E) rest t ∧ t { nx := fun _ H' => Q .non H', rt := Q } (NdefX.startF N vs [none]) H) :
    FnOk P w K mg base CX (k + 1) f (PySem.W.ksFn name qual params (supSt txt j p0 p1 p2 p3 p4 p5 :: rest) scope dV kV doc pm an (.ref cda) ct cc) (("self" : Str) :: ps) sp := by
  refine ⟨len, fun A outer s H args us vs Q E hr e0 hb r hsp => ?_⟩
  have hl := len _ _ _ _ hsp
  have KX : K.In s.heap := e0.mod.kin.keeps fun b o e => (e0.bs b o e).1
  have lim : s.heap.NoLimit := e0.mod.nolimit.keeps fun b o e => (e0.bs b o e).1
  obtain ⟨cl, cld, csl, hcell⟩ := U.cell
  obtain ⟨ccl, cdd, cvs, ccs, file, tf, hcode, hvs, hfile⟩ := U.code
  obtain ⟨cdC, hcC⟩ := U.cls
  have CA : NdefX.CellsAt [("__class__", cc)] ["__class__"] [none] s.heap H := by
    have key : ∀ (y : Str) (c : Addr), ([("__class__", cc)] : List (Str × Addr)).lookup y = some c → y = "__class__" ∧ c = cc := fun y c e => by
      have m := PySem.mem_of_lookup e
      simp only [List.mem_singleton, Prod.mk.injEq] at m
      exact m
    refine ⟨rfl, fun y c e => ?_, fun x y c e1 e2 => ?_, fun i y e => ?_⟩
    · obtain ⟨_, rfl⟩ := key y c e
      exact ⟨(e0.bs _ _ (e0.mod.kin _ _ hcell)).2, _, _, KX _ _ hcell, rfl⟩
    · rw [(key x c e1).1, (key y c e2).1]
    · have m := List.mem_of_getElem? e
      simp only [List.mem_singleton] at m
      subst m
      refine ⟨cc, by rfl, fun v z => ?_⟩
      have z := List.mem_of_getElem? z
      simp at z
  refine PySem.ks_codeAny_call_defAt (fd := PySem.W.ksFn name qual params (supSt txt j p0 p1 p2 p3 p4 p5 :: rest) scope dV kV doc pm an (.ref cda) ct cc) hr.depth (KX _ _ lk) rfl lim (PySem.W.codeRec_of KX hcd) rfl hb S.nocell (fun ⟨n, _⟩ hy => S.par n (List.of_mem_zip hy).1) (fun h₀ hns kp => ?_) S.co S.gen S.kind
  obtain ⟨a, ws, rfl, ha, t, ht, hq⟩ := hbody A outer s H vs Q E (hr.deeper _) hsp
  have I : L2.Inv (NdefX.ncx CX P w K mg base N (nfS name qual params (supSt txt j p0 p1 p2 p3 p4 p5 :: rest) scope cc cda) f A outer s H E) [] (NdefX.startF N (.ref a :: ws) [none]) H { s with heap := h₀, toks := s.toks + ((("self" : Str) :: ps).zip us).length } := NdefX.inv_startN S hr.hd e0 hl r CA hns kp
  generalize { s with heap := h₀, toks := s.toks + ((("self" : Str) :: ps).zip us).length } = s1 at I
  have rf : ∃ ur, us = .ref a :: ur := by
    cases r with
    | cons r1 _ => exact ⟨_, by rw [show _ = Value.ref a from r1]⟩
  obtain ⟨ur, rfl⟩ := rf
  refine PySem.ks_wpAt_execs_cons ?_
  refine PySem.ks_wpAt_Expr_any ?_ (hi := I.quiet)
  refine PySem.ks_wpAt_MethodCall ?_ (he _)
  have hkc : scope.names.lookup ("__class__" : Str) = some .free := S.frk _ List.mem_cons_self
  have hka : scope.names.lookup ("self" : Str) = some .local := S.par _ List.mem_cons_self
  have hN0 : N[0]? = some ("self" : Str) := by
    have e := congrArg (fun l => l[0]?) S.pre
    simp only [List.length_cons, List.length_nil, List.getElem?_take_of_lt (show 0 < ps.length + 1 + (0 + 1) from by omega)] at e
    exact e
  obtain ⟨m, hm, hlook⟩ := I.loc
  have hself : m "self" = some (.ref a) := by
    obtain ⟨u, ru, z⟩ := hlook 0 "self" (.ref a) hN0 rfl (.inl hka)
    obtain rfl : u = Value.ref a := ru
    rcases z with ⟨_, z⟩ | ⟨z, _⟩
    · exact z
    · have hka' : (NdefX.ncx CX P w K mg base N (nfS name qual params (supSt txt j p0 p1 p2 p3 p4 p5 :: rest) scope cc cda) f A outer s H E).env.kindOf "self" = some .local := hka
      rcases z with z | z <;> rw [hka'] at z <;> cases z
  obtain ⟨oD, hD1, hD2⟩ : ∃ oD, s1.heap.get? C = some oD ∧ oD.data = .cls cdC := by
    unfold PySem.W.clsIn at hcC
    split at hcC
    · rename_i c d cd' sl ho
      cases hcC
      exact ⟨_, I.kIn _ _ ho, rfl⟩
    · cases hcC
  obtain ⟨t1, hx⟩ := exo_at I.hok ha
  have II : PySem.W.InstAt s1.heap a _ C none := ⟨hx, rfl, rfl, trivial⟩
  obtain ⟨mb, hb1, hb2⟩ := I.mod.blt
  refine PySem.ks_wpAt_super_base (fd := PySem.W.ksFn name qual params (supSt txt j p0 p1 p2 p3 p4 p5 :: rest) scope dV kV doc pm an (.ref cda) ct cc) hks hkc (by decide) rfl (I.kIn _ _ lk) rfl har rfl (I.kIn _ _ hcode) rfl hvs hfile U.top ?_
  refine PySem.W.ks_loadName_global S.kind hks (PySem.Calls.loadGlobal_builtin (I.mod.glob.keeps I.bk) U.sup (hb1.keeps I.bk) ((hb2 _ (by decide)).trans PyProof.Rows.Boot.«super») ⟨rfl, ?_⟩)
  refine wpAny_loadName_free S.kind hkc rfl ⟨_, I.kIn _ _ hcell, rfl⟩ ?_
  rw [har2]
  refine wpAny_loadName_local S.kind hka hm hself ?_
  refine PySem.ks_wpAny_isType_cls hD1 hD2 ⟨rfl, ?_⟩
  obtain ⟨hp1, g1, d1, tk1, os1⟩ := s1
  refine PySem.ks_wpAny_call_super hD1 hD2 hx rfl (fun c e => by cases e) (PySem.W.looks_mroIn I.kIn U.self) (fun h2 hso k2 => ?_)
  have I2 := I.kept (t' := tk1) k2
  obtain ⟨cd2, hc2⟩ := U.cls
  have hini := U.ini
  unfold PySem.W.ks_superIn at hini
  rw [hcC] at hini
  have II2 : PySem.W.InstAt h2 a _ C none := ⟨k2 _ _ hx, rfl, rfl, trivial⟩
  refine PySem.W.kxs_getMethod PySem.W.kxs_ValueError hso (PySem.W.looks_opaque I2.kIn U.opq) (l₀ := cdC.mro) (fun A Q E s k q => wpAny_bind ((PySem.W.looks_clsIn I2.kIn hcC) A _ E s k (wpAny_pure q))) rfl I2.kIn hini (II2.type.andThen (PySem.W.looks_subIn I2.kIn U.isV)) (PySem.W.ks_ne I2.kIn II2 hcC) (by decide) ?_
  have k3 : ∀ b o, h2.get? b = some o → (h2.push (PySem.W.kxs_mw "ValueError.__init__" a)).get? b = some o := fun b o e => Heap.get?_push_of_some _ e
  have I3 := I2.kept (t' := tk1 + 1) k3
  have hu3 : (h2.push (PySem.W.kxs_mw "ValueError.__init__" a)).get? h2.objs.size = some (PySem.W.kxs_mw "ValueError.__init__" a) := Heap.get?_push_at rfl rfl
  refine PySem.W.kxs_callWith (i := "ValueError.__init__") (x := a) rfl (PySem.Calls.evalArgs_plain (PySem.Calls.spliced_cons (PySem.Calls.Constant_str (k := j) (pos := p3) (PySem.Calls.spliced_nil ⟨hu3, ?_⟩))))
  refine call_mw T (I3.tok _) ha hu3 (by rw [sizeLine_eq]; show 1 ≤ 16777216; decide) fun s4 I4 => ?_
  refine PySem.wpAt_of_wpAny ?_
  refine wpAny_mono (ht.run [] _ _ H _ I4 hq) (fun fl s' hs => ?_) fun e s' hs => hs
  have fin : ∀ {σ' : L2.St} {H' : Hp} {v : V} {u : Value}, L2.Inv (NdefX.ncx CX P w K mg base N (nfS name qual params (supSt txt j p0 p1 p2 p3 p4 p5 :: rest) scope cc cda) f A outer s H E) [] σ' H' s' → L2.RelV v u → Q v H' → CE outer P w H s Q u s' :=
    fun {σ' H' v u} J rv q => ⟨v, H', J.os, J.bare, J.base, J.hok, rv, q⟩
  cases fl with
  | ret u =>
    obtain ⟨v, σ', H', J, rv, q⟩ := hs
    exact fin J rv q
  | next =>
    obtain ⟨σ', H', J, q⟩ := hs
    exact fin (v := V.non) (u := Value.none) J rfl q
  | brk =>
    obtain ⟨_, _, _, q⟩ := hs
    exact False.elim q
  | cont =>
    obtain ⟨_, _, _, q⟩ := hs
    exact False.elim q
end
end Hf

namespace Hf
open PySem PySem.Spec PyProof.Rows L2
/-! ### own errors: made, raised -/
/-- the promise of C's __init__: the fields are kept -/
def spErr (C : Addr) (names : List Str) : Sp := fun vs H Q _ => ∃ (a : Addr) (ws : List V), vs = .ref a :: ws ∧ ws.length = names.length ∧ H a = some (exo a C none) ∧ ∀ dx, H dx = none → dx ≠ a → Q .non (upd (upd H dx (exd dx (names.zip ws).reverse)) a (exo a C (some dx)))
/-- x names the class at C of errors with these fields -/
def Err (P : Program) (w : World) (K : PySem.W.Frag) (mg : Str → Option Value) (base : Heap) (x : Str) (C : Addr) (names : List Str) : Prop :=
  OexC K C ∧ mg x = some (.ref C) ∧ ∃ (fI : Addr) (fd : FuncData) (ps : List Str), PySem.W.findIn K (.ref C) "__init__" = some (some (.ref fI)) ∧ PySem.W.typeIn K (.ref fI) = some (.type "function") ∧ FnOk P w K mg base (L2.CX P w) 1 fI fd ps (spErr C names) ∧ L2.Binds K fd ps []
/-- what stands behind the arguments of C(e, ..) that is to be raised -/
def MkEK (C : Addr) (names : List Str) (Q : XK) (vs : List V) (H1 : Hp) : Prop := vs.length ≤ 1000 ∧ ∀ a, H1 a = none → spErr C names (.ref a :: (vs ++ [])) (upd H1 a (exo a C none))
  (fun v H2 => v = .non ∧ ∃ (d : Addr) (fs : List (Str × V)), H2 a = some (exo a C (some d)) ∧ H2 d = some (exd d fs) ∧ H1 d = none ∧ Q (.ref C) (some d) (upd (del H2 a) d (.xd fs))) (fun _ _ _ => False)
theorem rd_mkE {C : Addr} {names : List Str} {ta : TA} {σ : L2.St} {H : Hp} {Q : XK} (q : ta σ H (MkEK C names Q)) : tMkO C (spErr C names) [] ta σ H Q := q
theorem use_err {C : Addr} {names : List Str} {Q : XK} {vs : List V} {H1 : Hp} (hl : vs.length = names.length) (hn : names.length ≤ 1000) (q : ∀ d, H1 d = none → Q (.ref C) (some d) (upd H1 d (.xd (names.zip vs).reverse))) : MkEK C names Q vs H1 := by
  refine ⟨by omega, fun a hn => ?_⟩
  rw [List.append_nil]
  refine ⟨a, vs, rfl, hl, upd_same, fun dx hdx hne => ⟨rfl, dx, (names.zip vs).reverse, upd_same, ?_, ?_, ?_⟩⟩
  · rw [upd_ne hne, upd_same]
  · rw [upd_ne hne] at hdx
    exact hdx
  · rw [upd_ne hne] at hdx
    have e : upd (del (upd (upd (upd H1 a (exo a C none)) dx (exd dx (names.zip vs).reverse)) a (exo a C (some dx))) a) dx (.xd (names.zip vs).reverse) = upd H1 dx (.xd (names.zip vs).reverse) := by
      funext b
      by_cases h1 : b = dx
      · rw [h1, upd_same, upd_same]
      · rw [upd_ne h1, upd_ne h1]
        by_cases h2 : b = a
        · rw [h2, del_same, hn]
        · rw [del_ne h2, upd_ne h2, upd_ne h1, upd_ne h2]
    rw [e]
    exact q dx hdx
theorem pmk_err {X : Cx} {x : Str} {C : Addr} {names : List Str} {j : Nat} {e : Expr} {es : List Expr} {ta : TA} {p pos : Pos} (Er : Err X.prog X.w X.K X.mg X.base x C names) (hr : Room j X.A) (ha : PA X (e :: es) ta) (hk : 2 ≤ j := by decide) (hg : Gl X x := by rfl)
    (hdb : (x == ("__debug__" : Str)) = false := by decide) (he : starEach (e :: es) X.env = (false, eval e X.env) :: starEach es X.env := by rfl) (hpl : (backTo pos (starEach es X.env)).any (·.1) = false := by rfl) :
    PMk X (.Call (.Name x p) (e :: es) [] pos) (tMkO C (spErr C names) [] ta) := by
  obtain ⟨T, hm, fI, fd, ps, iC, tI, F1, hb⟩ := Er
  exact pmk_oex T iC tI F1 (hr.mono hk) hb (dvs := []) .nil passL hg hm ha hdb he hpl
/-- raise C(e, ..) in a def that lets out what E says -/
def tRaE (t : L2.St → Hp → XK → Prop) (E : XK) : TS := fun _ σ H => t σ H E
theorem ps_raE {X : Cx} {E : XK} {e : Expr} {t : L2.St → Hp → XK → Prop} {pos : Pos} (hc : X.calm = true) (tk : Takes X (fun cls d _ H => E cls d H)) (he : PMk X e t) : PS X (.Raise (some e) none pos) (tRaE t E) := ps_raise hc tk he
theorem rd_raE {t : L2.St → Hp → XK → Prop} {E : XK} {D : Ends} {σ : L2.St} {H : Hp} (q : t σ H E) : tRaE t E D σ H := q
/-! ### the __init__ of such a class -/
section
variable {P : Program} {w : World} {K : PySem.W.Frag} {mg : Str → Option Value} {base : Heap} {f C cc cda : Addr} {qual txt : Str} {params : Arguments} {scope : Scope} {dV kV doc pm ct oc : Value} {an od : Option Addr} {osl : Array (Option Value)} {j : Nat} {p0 p1 p2 p3 p4 p5 q0 q1 q2 q3 r0 r1 r2 r3 : Pos} {ar : Arg} {n1 n2 : Str}
theorem ok_err1 (lk : K.lookup f = some ⟨oc, od, .func (PySem.W.ksFn "__init__" qual params [supSt txt j p0 p1 p2 p3 p4 p5, .Assign [.Attribute (.Name "self" q0) n1 q1] (.Name n1 q2) q3] scope dV kV doc pm an (.ref cda) ct cc), osl⟩) (hcd : PySem.W.codeIn K (.ref cda) qual = true)
    (S : NdefX.NScope ["self", n1, "__class__"] ["self", n1] ["__class__"] scope) (har : (params.posonlyargs ++ params.args).head? = some ar) (har2 : ar.arg = "self") (hks : scope.names.lookup ("super" : Str) = some .globalImplicit) (T : OexC K C) (U : SupC P K mg C cc cda)
    {pl : Env → Sem Bool} (he : ∀ env : Env, eval (.Call (.Attribute (.Call (.Name "super" p0) [] [] p1) "__init__" p2) [.Constant (.str txt) j p3] [] p4) env = (do
      let ov ← attributeBase (.Call (.Name "super" p0) [] [] p1) "__init__" env (eval (.Call (.Name "super" p0) [] [] p1) env)
      standAt p2.atName
      let (f, first) ← holding [ov] (getMethod ov "__init__" (pl env))
      callWith p4 f first (backTo p4 (starEach [.Constant (.str txt) j p3] env)) []))
    (hno : PySem.W.findIn K (.ref C) n1 = some none) (h1 : (n1 == ("__debug__" : Str)) = false) (h2 : (n1 == ("__classdict__" : Str)) = false) (hsw : ∀ env, swapsWith (.Name n1 q2) (some (.Attribute (.Name "self" q0) n1 q1)) q3.line env = pure false) :
    FnOk P w K mg base (L2.CX P w) 1 f (PySem.W.ksFn "__init__" qual params [supSt txt j p0 p1 p2 p3 p4 p5, .Assign [.Attribute (.Name "self" q0) n1 q1] (.Name n1 q2) q3] scope dV kV doc pm an (.ref cda) ct cc) ["self", n1] (spErr C [n1]) := by
  refine fnS_of (k := 0) (N := ["self", n1, "__class__"]) (ps := [n1]) lk hcd S har har2 hks T U he (fun vs H Q E h => ?_) (fun A outer s H vs Q E hr h => ?_)
  · obtain ⟨a, ws, rfl, hl, _⟩ := h
    rw [List.length_cons, hl]
    rfl
  · obtain ⟨a, ws, rfl, hl, ha, k⟩ := h
    match ws, hl with
    | [v], _ =>
      refine ⟨a, _, rfl, ha, _, pss_one (ps_ost (pe_var (i := 0) (by rfl) (.inl (S.par _ List.mem_cons_self))) (pe_var (i := 1) (by rfl) (.inl (S.par _ (.tail _ List.mem_cons_self))) h1 h2) (hsw _)), ?_⟩
      refine ⟨v, rfl, .ref a, rfl, a, C, rfl, T, hno, .inl ⟨ha, fun dx n1 n2 => ?_⟩⟩
      exact k dx n1 n2
theorem ok_err2 (lk : K.lookup f = some ⟨oc, od, .func (PySem.W.ksFn "__init__" qual params [supSt txt j p0 p1 p2 p3 p4 p5, .Assign [.Attribute (.Name "self" q0) n1 q1] (.Name n1 q2) q3, .Assign [.Attribute (.Name "self" r0) n2 r1] (.Name n2 r2) r3] scope dV kV doc pm an (.ref cda) ct cc), osl⟩) (hcd : PySem.W.codeIn K (.ref cda) qual = true)
    (S : NdefX.NScope ["self", n1, n2, "__class__"] ["self", n1, n2] ["__class__"] scope) (har : (params.posonlyargs ++ params.args).head? = some ar) (har2 : ar.arg = "self") (hks : scope.names.lookup ("super" : Str) = some .globalImplicit) (T : OexC K C) (U : SupC P K mg C cc cda)
    {pl : Env → Sem Bool} (he : ∀ env : Env, eval (.Call (.Attribute (.Call (.Name "super" p0) [] [] p1) "__init__" p2) [.Constant (.str txt) j p3] [] p4) env = (do
      let ov ← attributeBase (.Call (.Name "super" p0) [] [] p1) "__init__" env (eval (.Call (.Name "super" p0) [] [] p1) env)
      standAt p2.atName
      let (f, first) ← holding [ov] (getMethod ov "__init__" (pl env))
      callWith p4 f first (backTo p4 (starEach [.Constant (.str txt) j p3] env)) []))
    (hno : PySem.W.findIn K (.ref C) n1 = some none) (hno2 : PySem.W.findIn K (.ref C) n2 = some none) (h1 : (n1 == ("__debug__" : Str)) = false) (h2 : (n1 == ("__classdict__" : Str)) = false) (h3 : (n2 == ("__debug__" : Str)) = false) (h4 : (n2 == ("__classdict__" : Str)) = false)
    (hsw : ∀ env, swapsWith (.Name n1 q2) (some (.Attribute (.Name "self" q0) n1 q1)) q3.line env = pure false) (hsw2 : ∀ env, swapsWith (.Name n2 r2) (some (.Attribute (.Name "self" r0) n2 r1)) r3.line env = pure false) :
    FnOk P w K mg base (L2.CX P w) 1 f (PySem.W.ksFn "__init__" qual params [supSt txt j p0 p1 p2 p3 p4 p5, .Assign [.Attribute (.Name "self" q0) n1 q1] (.Name n1 q2) q3, .Assign [.Attribute (.Name "self" r0) n2 r1] (.Name n2 r2) r3] scope dV kV doc pm an (.ref cda) ct cc) ["self", n1, n2] (spErr C [n1, n2]) := by
  refine fnS_of (k := 0) (N := ["self", n1, n2, "__class__"]) (ps := [n1, n2]) lk hcd S har har2 hks T U he (fun vs H Q E h => ?_) (fun A outer s H vs Q E hr h => ?_)
  · obtain ⟨a, ws, rfl, hl, _⟩ := h
    rw [List.length_cons, hl]
    rfl
  · obtain ⟨a, ws, rfl, hl, ha, k⟩ := h
    match ws, hl with
    | [v, v'], _ =>
      refine ⟨a, _, rfl, ha, _, pss_cons (ps_ost (pe_var (i := 0) (by rfl) (.inl (S.par _ List.mem_cons_self))) (pe_var (i := 1) (by rfl) (.inl (S.par _ (.tail _ List.mem_cons_self))) h1 h2) (hsw _)) (pss_one (ps_ost (pe_var (i := 0) (by rfl) (.inl (S.par _ List.mem_cons_self))) (pe_var (i := 2) (by rfl) (.inl (S.par _ (.tail _ (.tail _ List.mem_cons_self)))) h3 h4) (hsw2 _))), ?_⟩
      refine ⟨v, rfl, .ref a, rfl, a, C, rfl, T, hno, .inl ⟨ha, fun dx m1 m2 => ?_⟩⟩
      refine ⟨v', rfl, .ref a, rfl, a, C, rfl, T, hno2, .inr ⟨dx, [(n1, v)], upd_same, by rw [upd_ne m2, upd_same], (by show 1 ≤ 900; decide), ?_⟩⟩
      have e : upd (upd (upd H dx (exd dx [(n1, v)])) a (exo a C (some dx))) dx (exd dx ((n2, v') :: [(n1, v)])) = upd (upd H dx (exd dx (([n1, n2].zip [v, v']).reverse))) a (exo a C (some dx)) := by
        funext b
        by_cases e1 : b = dx
        · rw [e1, upd_same, upd_ne m2, upd_same]
          rfl
        · rw [upd_ne e1]
          by_cases e2 : b = a
          · rw [e2, upd_same, upd_same]
          · rw [upd_ne e2, upd_ne e2, upd_ne e1, upd_ne e1]
      show Q _ _
      rw [e]
      exact k dx m1 m2
end
end Hf

namespace PySem.W
open PySem PySem.Spec PySem.Calls PyProof.Rows
section
variable {prog : Program} {w : World} {A : Around} {E : Value → Shared → Prop} {s : Shared} {K : Frag} {x D : Addr} {ox : Obj}
theorem findObj_dataD {C : Addr} {od : Option Obj} {name : Str} {a g : Value} (hc : (clsIn K C).isSome = true) (ha : findIn K (.ref C) name = some (some a)) (hg : specialIn K a "__get__" = some (some g)) (ht : takesIn K a = some true) : findObj K C od name = some (.bind g a) := by
  obtain ⟨cd, hc⟩ := Option.isSome_iff_exists.mp hc
  unfold findObj
  rw [hc, Option.bind_some, ha, Option.bind_some]
  simp [hg, ht]
theorem kin_classD {od : Option Obj} {Q : Option Value → Shared → Prop} (hga : findIn K (.ref D) "__getattribute__" = some (some (.builtin "BaseException.__getattribute__"))) (hgt : findIn K (.ref D) "__getattr__" = some none) (hsub : subIn K (.ref D) (.type "BaseException") = some true)
    (hdct : hasDictIn K D = true) (ha : findIn K (.ref D) "__class__" = some (some (.builtin "object.__class__")))
    (hn : specialIn K (.builtin "object.__class__") "__get__" = some (some (.builtin "getset_descriptor.__get__"))) (htk : takesIn K (.builtin "object.__class__") = some true) (hm : mroIn K D (.type "object") = some true)
    (X : K.In s.heap) (I : InstAt s.heap x ox D od) (h : Q (some (.ref D)) { s with toks := s.toks + 1 }) : wpAny (model prog w) A (getAttr? (.ref x) "__class__") Q E s := by
  have hf : findObj K D od "__class__" = some (.bind (.builtin "getset_descriptor.__get__") (.builtin "object.__class__")) := findObj_dataD (by obtain ⟨cd, hc, _⟩ := any_some hdct; rw [hc]; rfl) ha hn htk
  obtain ⟨hp, g, d, t, os⟩ := s
  have L0 := I.type (M := model prog w)
  have L1 := looks_findIn (M := model prog w) X hga
  have L2 := looks_findIn (M := model prog w) X hgt
  have L3 := looks_find (M := model prog w) X I hf
  have sub : Looks (model prog w) hp (isInstance (.ref x) (.type "BaseException")) true := L0.andThen (looks_subIn X hsub)
  have hx0 : (false && onTheHeap (Value.builtin "BaseException.__getattribute__")) = false := rfl
  have hx2 : (Value.builtin "BaseException.__getattribute__" == Value.builtin "object.__getattribute__") = false := by decide +kernel
  have hx1 : (onTheHeap (Value.ref D) && Value.builtin "BaseException.__getattribute__" == Value.builtin "object.__getattribute__") = false := by rw [hx2]; rfl
  unfold getAttr? getAttrBy? getAttrBy
  refine wpAny_bind (wpAny_mkText (wpAny_bind (wpAny_attempt (wpAny_holding (wpAny_bind (L0.at (wpAny_bind (L1.at ?_))))))))
  show wpAny _ _ (if (onTheHeap (Value.ref D) && Value.builtin "BaseException.__getattribute__" == Value.builtin "object.__getattribute__") = true then _ else _) _ _ _
  rw [hx1, if_neg Bool.false_ne_true]
  unfold getAttrByItsOwn hookBefore
  refine wpAny_bind ?_
  rw [if_pos (show onTheHeap (Value.ref D) = true from rfl)]
  refine L2.at ?_
  refine wpAny_bind (wpAny_attempt (wpAny_holding ?_))
  unfold callGetattribute
  rw [hx0, if_neg Bool.false_ne_true]
  unfold boundAndCalled
  rw [PySem.F.excAttr_ValueError.ga.bind (.ref x)]
  refine wpAny_bind (wpAny_pure ?_)
  show wpAny _ _ (call (.builtin "BaseException.__getattribute__") [.ref x, .str "__class__" t]) _ _ _
  refine wpAny_call (codeAny_call_builtin PySem.F.excAttr_ValueError.ga.plain PySem.F.entry_bexc_ga ?_)
  refine @check_slot (model prog w) _ _ ⟨hp, g, d, t + 1, os⟩ "BaseException.__getattribute__" "BaseException" "__getattribute__" (.ref x) [.str "__class__" t] [] _ (by decide +kernel) (by decide +kernel) sub (PySem.F.args_bexc_ga (.ref x) (.str "__class__" t)) ?_
  unfold Builtin.«object.__getattribute__»
  refine wpAny_bind (wpAny_of_eq (a := ((Value.ref x : Value), [Value.str "__class__" t])) (by first | rfl | (simp only [slotArgs]; rfl)) ?_)
  refine wpAny_bind (wpAny_pure (wpAny_bind (L0.at (wpAny_bind (L3.at ?_)))))
  show wpAny _ _ (holding [Value.builtin "object.__class__"] (call (.builtin "getset_descriptor.__get__") [.builtin "object.__class__", .ref x, .ref D]) >>= ret) _ _ _
  refine wpAny_bind (wpAny_holding (wpAny_call (class_get (s := ⟨hp, g, d, t + 1, os⟩) (ox := ox) (od := od) X I hm ?_)))
  refine wpAny_pure ?_
  show wpAny _ _ (handedOut (.ref D)) _ _ _
  rw [handedOut_of (v := .ref D) rfl]
  first
    | exact wpAny_pure (wpAny_pure h)
    | exact wpAny_pure h
    | exact wpAny_pure (wpAny_bind (wpAny_pure (wpAny_pure h)))
theorem kitx_excD {od : Option Obj} (hga : findIn K (.ref D) "__getattribute__" = some (some (.builtin "BaseException.__getattribute__"))) (hgt : findIn K (.ref D) "__getattr__" = some none) (hsub : subIn K (.ref D) (.type "BaseException") = some true) (hdct : hasDictIn K D = true) (ha : findIn K (.ref D) "__class__" = some (some (.builtin "object.__class__")))
    (hn : specialIn K (.builtin "object.__class__") "__get__" = some (some (.builtin "getset_descriptor.__get__"))) (htk : takesIn K (.builtin "object.__class__") = some true) (hm : mroIn K D (.type "object") = some true) :
    KitX K (.ref x) (.ref D) (fun h => InstAt h x ox D od) where
  ty := fun _ _ _ I => I.type
  it := fun _ _ X _ => by
    obtain ⟨cdD, hcD, _⟩ := any_some hdct
    unfold clsIn at hcD
    split at hcD
    · rename_i c' d' cd' sl' ho
      intro A' Q' E' s' k q
      unfold isType loadHead
      exact wpAny_bind (wpAny_loadPart (k _ _ (X _ _ ho)) (wpAny_pure q))
    · cases hcD
  ne := fun h tp dd its n sl X htp => by
    obtain ⟨cdD, hcD, _⟩ := any_some hdct
    refine Bool.eq_false_iff.mpr fun q => ?_
    have e : D = tp := Value.ref.inj (beq_iff_eq.mp q)
    subst e
    unfold clsIn at hcD
    split at hcD
    · rename_i c' d' cd' sl' ho
      have z := (X _ _ ho).symm.trans htp
      cases z
    · cases hcD
  ca := fun X I k => kin_classD hga hgt hsub hdct ha hn htk hm X I k
end
end PySem.W
namespace Hf
open PySem PySem.Spec PyProof.Rows L2
theorem call_isD {X : Cx} {a D dd : Addr} {oe : Obj} {pn : List (Addr × Obj)} {fs : List (Str × V)} (C : ExcC X.K D) (hz : Zc (.ref D) (some dd) oe) (hf : ∃ vs, oe.data = .fields vs) : CallR (X.suite a ((a, oe) :: pn)) (.builtin "isinstance") (fun xs H Q => (∃ fs, H dd = some (.xd fs)) ∧ rIsE X.K D a xs H Q) := by
  intro pins s σ H xs us Q I r h
  obtain ⟨⟨fs, hdd⟩, c, cv, b, rfl, hcv, e, q⟩ := h
  cases r with
  | cons rx rr =>
    cases rr with
    | cons rt rr =>
      cases rr
      cases rx
      have ec := hcv _ rt
      subst ec
      obtain ⟨hget, _⟩ := I.pin (a, oe) (List.mem_append.mpr (.inl List.mem_cons_self))
      obtain ⟨vs, hv⟩ := hf
      have hx : ObjOk X.prog X.w H s.heap dd (.xd fs) := I.hok dd _ hdd
      obtain ⟨mA, hns, hr⟩ := hx
      obtain ⟨od, ho, hl⟩ := lookIn_ns hns
      have J : PySem.W.InstAt s.heap a oe D (some od) := ⟨hget, hz.1, by unfold PySem.W.notCls; rw [hv] <;> rfl, by rw [hz.2]; exact ho⟩
      exact PySem.W.kia_one (PySem.W.kitx_excD C.hg C.hk C.hs C.hd C.ha C.hn C.ht C.hm) I.kIn J e (fun z => nomatch z) fun tk => ⟨.bl b, H, I.kept (t' := tk) fun _ _ z => z, rfl, q⟩
end Hf

namespace Hf
open PySem PySem.Spec PyProof.Rows L2 LamX
/-- law_call with tables: cs, the code objects and their tables -/
theorem law_callGT {P : Program} {w : World} {K : PySem.W.Frag} {mg mb : Str → Option Value} {CX : CXT} {k : Nat} {fa a : Addr} {cs : List (Addr × Addr)} {sp : Sp} {s₁ : Shared} {vs : List Value} {ns : List Int}
    (KX : K.In s₁.heap) (hns : s₁.heap.Ns mainGlobals mg) (hb : s₁.heap.Ns builtinsNs mb) (hbb : ∀ x : Str, x ≠ "__name__" → mb x = bootBuiltins x) (hlim : s₁.heap.NoLimit) (hg : s₁.gens = #[])
    (hT : ∀ p ∈ cs, s₁.heap.get? p.2 = some { cls := .none, data := .fields #[] }) (nT : ∀ p ∈ cs, K.lookup p.2 = none) (C : ∀ p ∈ cs, PySem.W.CodeHd s₁.heap p.1 p.2)
    (hbm : ∃ (bm : Addr) (ob : Obj), mg "__builtins__" = some (.ref bm) ∧ bm ≠ builtinsNs ∧ s₁.heap.get? bm = some ob ∧ ob.cls = .type "module" ∧ ob.dict = some builtinsNs ∧ ob.data = .plain)
    (ha : s₁.heap.get? a = some { cls := .type "list", data := .seq vs.toArray }) (hi : IntsAre vs ns) (hl : ns.length ≤ sizeLine) (hr : Room k callerA)
    (F : ∀ base : Heap, K.In base → base.Ns mainGlobals mg → (∀ p ∈ cs, TabB base mg p.1 p.2) → FnG P w K mg base CX k fa sp)
    (hsp : ∀ H : Hp, (∀ p ∈ cs, H p.2 = some (.tbl #[])) → SqL K H a (ns.map V.int) → sp [.ref a] H (fun v _ => v = .bl true) fun _ _ _ => False)
    (hCX : ∀ H e s', CX [] H s₁ (fun _ _ _ => False) e s' → False) :
    codeAny (model P w) callerA (.call (.ref fa) ⟨[.ref a], []⟩) (fun r s' => r = .ok (.ret (.bool true)) ∧ OldK s₁.heap s'.heap ∧ s'.os = s₁.os ∧ AllBare s'.gens) s₁ := by
  have rv := vals_ints hi
  have lenV := hi.length
  have isT : ∀ b : Addr, b ∈ cs.map (·.2) → s₁.heap.get? b = some { cls := .none, data := .fields #[] } := fun b hb => by
    obtain ⟨p, hp, e⟩ := List.mem_map.mp hb
    rw [← e]
    exact hT p hp
  have aT : a ∉ cs.map (·.2) := fun z => by
    have q := isT a z
    rw [ha] at q
    have z' : Data.seq vs.toArray _ = Data.fields #[] := congrArg Obj.data (Option.some.inj q)
    cases z'
  have memT : ∀ p ∈ cs, p.2 ∈ cs.map (·.2) := fun p hp => List.mem_map.mpr ⟨p, hp, rfl⟩
  -- from an abstract heap in which nothing but the script and the tables may be tracked
  have core : ∀ H : Hp, (∀ p ∈ cs, H p.2 = some (.tbl #[])) → (∀ b, H b = none ∨ b ∈ cs.map (·.2) ∨ ∃ o xs, H b = some (.frz o (.lst xs))) → SqL K H a (ns.map V.int) → HOk P w H s₁.heap → (∀ b, H b ≠ none → b = a ∨ b ∈ cs.map (·.2)) → (H a ≠ none → K.lookup a = none) →
      codeAny (model P w) callerA (.call (.ref fa) ⟨[.ref a], []⟩) (fun r s' => r = .ok (.ret (.bool true)) ∧ OldK s₁.heap s'.heap ∧ s'.os = s₁.os ∧ AllBare s'.gens) s₁ := by
    intro H hH hO hS hok hA hK
    have base_of : ∀ {b : Addr} {o : Obj}, s₁.heap.get? b = some o → H b = none → (hidT s₁.heap H).get? b = some o := fun e n => hidT_get e n
    have noD : ∀ {b : Addr} {o : Obj}, s₁.heap.get? b = some o → (∀ vs n, o.data ≠ .seq vs n) → o.data ≠ .fields #[] → H b = none := fun {b o} e h1 h2 => by
      cases q : H b with
      | none => rfl
      | some u =>
        rcases hA b (by rw [q]; simp) with e' | e'
        · rw [e', ha] at e
          cases e
          exact (h1 _ _ rfl).elim
        · rw [isT b e'] at e
          cases e
          exact (h2 rfl).elim
    have noA : ∀ {b : Addr} {o : Obj} {es : Array DictEntry} {ep : Nat}, s₁.heap.get? b = some o → o.data = .dict es ep → H b = none := fun {b o es ep} e d => by
      refine noD e (fun vs n z => ?_) fun z => ?_
      · rw [d] at z
        cases z
      · rw [d] at z
        cases z
    have nsK : ∀ {b : Addr} {m : Str → Option Value}, s₁.heap.Ns b m → (hidT s₁.heap H).Ns b m := fun {b m} ⟨o, es, ep, e, d, r⟩ => ⟨o, es, ep, base_of e (noA e d), d, r⟩
    have hKb : K.In (hidT s₁.heap H) := fun b o e => base_of (KX b o e) (by
      cases q : H b with
      | none => rfl
      | some u =>
        rcases hA b (by rw [q]; simp) with e' | e'
        · rw [e'] at e q
          rw [hK (by rw [q]; simp)] at e
          cases e
        · obtain ⟨p, hp, ep⟩ := List.mem_map.mp e'
          rw [← ep, nT p hp] at e
          cases e)
    have hM : L2.Mod K mg (hidT s₁.heap H) := ⟨hKb, nsK hns, ⟨mb, nsK hb, hbb⟩, let ⟨mc, h1, h2⟩ := hlim; ⟨mc, nsK h1, h2⟩⟩
    have TB : ∀ p ∈ cs, TabB (hidT s₁.heap H) mg p.1 p.2 := fun p hp => by
      have hTp := hT p hp
      refine ⟨?_, ?_, fun z => ?_⟩
      · obtain ⟨o, us, file, tf, flags, tg, inF, text, tt, e1, r1, r2, r3, r4, r5, r6, r7, r8, hne⟩ := C p hp
        refine ⟨o, us, file, tf, flags, tg, inF, text, tt, base_of e1 (noD e1 (fun vs n z => ?_) fun z => ?_), r1, r2, r3, r4, r5, r6, r7, r8, hne⟩
        · rw [r2] at z
          cases z
        · rw [r2] at z
          cases z
          simp at r3
      · obtain ⟨bm, ob, b1, b2, b3, b4, b5, b6⟩ := hbm
        have nG : bm ≠ mainGlobals := fun q => by
          obtain ⟨o, es, ep, e, hd, _⟩ := hns
          rw [q, e] at b3
          cases b3
          rw [hd] at b6
          cases b6
        have nP : bm ≠ p.2 := fun q => by
          rw [q, hTp] at b3
          cases b3
          cases b6
        refine ⟨bm, ob, b1, b2, nG, nP, base_of b3 (noD b3 (fun vs n z => ?_) fun z => ?_), b4, b5, b6⟩
        · rw [b6] at z
          cases z
        · rw [b6] at z
          cases z
      · obtain ⟨o, es, ep, e, hd, _⟩ := hns
        rw [z, hTp] at e
        cases e
        cases hd
    have e0 : Env0 P w K mg (hidT s₁.heap H) callerA [] s₁ H := ⟨rfl, hM, fun b o e => of_hidT e, Nat.le_of_eq (hidT_size _ _), trivial, fun b hb => absurd (show b ∈ ([] : List Addr) from hb) (by simp), hok, .of_eq hg⟩
    refine codeAny_mono (F _ hKb (nsK hns) TB callerA [] s₁ H [.ref a] [.ref a] _ _ hr rfl e0 (.cons rfl .nil) (hsp H hH hS)) fun r s' h => ?_
    cases r with
    | error e => exact (hCX H e s' h).elim
    | ok fl =>
      cases fl with
      | next => exact False.elim h
      | brk => exact False.elim h
      | cont => exact False.elim h
      | ret u =>
        obtain ⟨v, H', os, bare, un, hok', r', q⟩ := h
        have q' : v = .bl true := q
        subst q'
        obtain rfl : u = Value.bool true := r'
        have key : ∀ b o, b ∉ cs.map (·.2) → s₁.heap.get? b = some o → s'.heap.get? b = some o := fun b o nb e => by
          cases q : H b with
          | none => exact un.keep b o e q (by intro z; exact absurd (show b ∈ ([] : List Addr) from z) (by simp)) (by simp)
          | some u =>
            rcases hO b with z | z | ⟨ob, xs, z⟩
            · rw [q] at z; cases z
            · exact absurd z nb
            · have z2 := un.frzs b ob _ z
              obtain ⟨e1, _⟩ := hok b _ z
              obtain ⟨e2, _⟩ := hok' b _ z2
              rw [e] at e1; cases e1
              exact e2
        have grown : ∀ p ∈ cs, ∃ more : Array Value, s'.heap.get? p.2 = some { cls := .none, data := .fields more } := fun p hp => by
          obtain ⟨more, z⟩ := un.tbls p.2 #[] (hH p hp)
          exact ⟨_, hok' p.2 _ z⟩
        refine ⟨rfl, ⟨fun b o e => ?_, fun b o e => ?_⟩, os, bare⟩
        · by_cases hb : b ∈ cs.map (·.2)
          · obtain ⟨p, hp, ep⟩ := List.mem_map.mp hb
            obtain ⟨more, hm⟩ := grown p hp
            rw [← ep] at e ⊢
            rw [hT p hp] at e
            cases e
            exact .inr (.inl ⟨((C p hp).tab (hT p hp)).isCodeTable, rfl, #[], more, rfl, by rw [Array.empty_append]; exact hm⟩)
          · exact .inl (key b o hb e)
        · by_cases hb : b ∈ cs.map (·.2)
          · obtain ⟨p, hp, ep⟩ := List.mem_map.mp hb
            obtain ⟨more, hm⟩ := grown p hp
            rw [← ep]
            exact ⟨_, hm⟩
          · exact ⟨o, key b o hb e⟩
  cases hk : K.lookup a with
  | some o =>
    have e := KX a o hk
    rw [ha] at e
    cases e
    refine core (fun b => if b ∈ cs.map (·.2) then some (.tbl #[]) else none) (fun p hp => if_pos (memT p hp)) (fun b => ?_) (.inr ⟨_, vs.toArray, _, hk, rfl, rfl, rfl, by rw [List.size_toArray, lenV]; exact hl, by simpa using rv⟩) (fun b u z => ?_) (fun b z => ?_) fun z => absurd (show (if a ∈ cs.map (·.2) then some (HO.tbl #[]) else none) = none from if_neg aT) z
    · by_cases hb : b ∈ cs.map (·.2)
      · exact .inr (.inl hb)
      · exact .inl (if_neg hb)
    · by_cases hb : b ∈ cs.map (·.2)
      · have z' := (if_pos hb).symm.trans z
        cases z'
        exact isT b hb
      · have z' := (if_neg hb).symm.trans z
        cases z'
    · by_cases hb : b ∈ cs.map (·.2)
      · exact .inr hb
      · exact absurd (if_neg hb) z
  | none =>
    refine core (fun b => if b = a then some (.frz { cls := .type "list", data := .seq vs.toArray } (.lst (ns.map V.int))) else if b ∈ cs.map (·.2) then some (.tbl #[]) else none) (fun p hp => (if_neg (show ¬ p.2 = a from fun z => aT (by rw [← z]; exact memT p hp))).trans (if_pos (memT p hp))) (fun b => ?_)
      (.inl (.inr ⟨{ cls := .type "list", data := .seq vs.toArray }, if_pos rfl⟩)) (fun b u z => ?_) (fun b z => ?_) fun _ => hk
    · by_cases hb : b = a
      · exact .inr (.inr ⟨_, _, if_pos hb⟩)
      · by_cases hb2 : b ∈ cs.map (·.2)
        · exact .inr (.inl hb2)
        · exact .inl ((if_neg hb).trans (if_neg hb2))
    · by_cases hb : b = a
      · have z' := (if_pos hb).symm.trans z
        cases z'
        rw [hb]
        exact ⟨ha, by rw [List.length_map]; exact hl, vs, _, rv, ha⟩
      · have z1 := (if_neg hb).symm.trans z
        by_cases hb2 : b ∈ cs.map (·.2)
        · have z' := (if_pos hb2).symm.trans z1
          cases z'
          exact isT b hb2
        · have z' := (if_neg hb2).symm.trans z1
          cases z'
    · by_cases hb : b = a
      · exact .inl hb
      · by_cases hb2 : b ∈ cs.map (·.2)
        · exact .inr hb2
        · exact absurd ((if_neg hb).trans (if_neg hb2)) z

/-- what is known of the law's promise at the head's heap h, with tables -/
def LawGT (l : PySem.W.OpenLaw) (w : World) (K : PySem.W.Frag) (k : Nat) (mg : Str → Option Value) (fa : Addr) (h : Heap) : Prop :=
  ∃ (cs : List (Addr × Addr)) (sp : Sp), (∀ p ∈ cs, h.get? p.2 = some { cls := .none, data := .fields #[] }) ∧ (∀ p ∈ cs, K.lookup p.2 = none) ∧ (∀ p ∈ cs, PySem.W.CodeHd h p.1 p.2) ∧
    (∀ (H : Hp) (a : Addr) (ns : List Int), ns.length ≤ 63 → (∀ p ∈ cs, H p.2 = some (.tbl #[])) → SqL K H a (ns.map V.int) → sp [.ref a] H (fun v _ => v = .bl true) fun _ _ _ => False) ∧
    ∀ base : Heap, K.In base → base.Ns mainGlobals mg → (∀ p ∈ cs, TabB base mg p.1 p.2) → FnG l.prog w K mg base (L2.CX l.prog w) k fa sp
/-- the tables of the top's defs are empty at the start -/
def TopTabs (q : Program) (K : PySem.W.Frag) (mg : Str → Option Value) (h : Heap) : Prop := ∀ (x : Str) (fa c P : Addr) (o : Obj) (fd : FuncData) (e : Value) (dd : Option Addr) (vs : Array Value) (sl : Array (Option Value)), ((recsOf q).any fun e => e.name == x) = true → mg x = some (.ref fa) → K.lookup fa = some o → o.data = .func fd → fd.code = .ref c → K.lookup c = some ⟨e, dd, .fields vs, sl⟩ → vs[11]? = some (.ref P) →
  h.get? P = some { cls := .none, data := .fields #[] }
theorem walkGT {l : PySem.W.OpenLaw} {q : Program} {loose : List Str} {XP : (Str → Option Value) → Heap → Prop} {YP : World → Heap → Prop} {d : DefRec} {K : Params → PySem.W.Frag} {k : Nat} (hk : k ≤ 100) (hn : l.most = some 63) (hdf : d.params.defaults = [])
    (hY : ∀ (w : World) (h : Heap), YP w h → (K w.params).In h)
    (F : ∀ (w : World) (mg : Str → Option Value) (fa : Addr) (h : Heap), (K w.params).In h → h.Ns mainGlobals mg → mg d.name = some (.ref fa) → TopTabs q (K w.params) mg h → LawGT l w (K w.params) k mg fa h) :
    PySem.W.WalkO q loose XP YP l.row.toRowW d [] (fun f vs => PySem.call f vs) := by
  refine Att.attach_call hn hdf fun w s₀ s₁ mg mb fa o pm cd doc a vs ns G Y ho hd hcd hmg hobj hints hlen hg => ?_
  have KX := hY w _ Y
  have own : TopTabs q (K w.params) mg s₁.heap := fun x fa c P o1 fd1 e dd vs1 sl hrec hmg k1 k2 k3 k4 k5 => by
    obtain ⟨dL, hm, hn1⟩ := List.any_eq_true.mp hrec
    have hn2 : dL.name = x := beq_iff_eq.mp hn1
    obtain ⟨a', o', fd', c', P', h1, h2, h3, h4, h5, h6⟩ := G.T.tab dL hm
    rw [hn2, hmg] at h1
    cases h1
    have g1 := KX _ _ k1
    rw [g1] at h2
    cases h2
    rw [k2] at h3
    cases h3
    rw [k3] at h4
    cases h4
    obtain ⟨⟨oc, vc, e1, _, e3, e4⟩, hP⟩ := h6
    have g2 := KX _ _ k4
    rw [g2] at e1
    cases e1
    cases e3
    rw [k5] at e4
    cases e4
    exact hP
  obtain ⟨cs, sp, hT, nT, C, hsp, hF⟩ := F w mg fa _ KX G.T.g hmg own
  exact law_callGT KX G.T.g G.T.b G.T.builtins G.T.nolimit hg hT nT C G.T.bmain hobj hints (Nat.le_trans hlen (by decide)) (Room.mono ⟨rfl, by decide, by decide⟩ hk) hF (fun H hH hS => hsp H a ns hlen hH hS) fun H e s' z => cx_no z
end Hf

namespace Hf
open PySem PySem.Spec PyProof.Rows L2
section
variable {X : Cx} {C : Addr} {sp : Sp} {E : XK} {k j : Nat}
/-- x in p, p an instance of C, by its own __contains__ -/
def rInM (C : Addr) (sp : Sp) (E : XK) (neg : Bool) : R2 := fun x y H Q => ∃ p dx fs, y = .ref p ∧ H p = some (.ins C dx fs) ∧ sp [.ref p, x] H (fun v H' => ∃ c, v = .bl c ∧ Q (.bl (c != neg)) H') E
theorem op_inM (M : Met X.prog X.w X.K X.mg X.base k C "__contains__" sp) (hr : Room j X.A) (hx : Passes (L2.CX X.prog X.w) X E) (hk : k ≤ j := by decide) : OpR X (compareOp .In) (rInM C sp E false) := by
  obtain ⟨g, o, F⟩ := M.opr
  intro pins s σ H x y v u Q I rx ry h
  obtain ⟨p, dx, fs, rfl, hp, q⟩ := h
  cases (show u = Value.ref p from ry)
  obtain ⟨ox, od, J⟩ := ins_at I hp
  obtain ⟨m, hF⟩ := I.fr
  refine PySem.W.in_K hF I.ok.mod.kin J o.at_ o.fn ?_
  refine wpAny_mono (wpAny_call (run_fnR (us := [.ref p, v]) (vs := [.ref p, x]) F (hr.mono hk) hx I (.cons rfl (.cons rx .nil)) q)) (fun w s' z => ?_) fun _ _ x => x
  obtain ⟨z', H', I', rz, c, ec, qz⟩ := z
  subst ec
  cases (show w = Value.bool c from rz)
  refine wpAny_truthy_bool ?_
  exact ⟨.bl c, H', I', rfl, by simpa using qz⟩
theorem op_notInM (M : Met X.prog X.w X.K X.mg X.base k C "__contains__" sp) (hr : Room j X.A) (hx : Passes (L2.CX X.prog X.w) X E) (hk : k ≤ j := by decide) : OpR X (compareOp .NotIn) (rInM C sp E true) := by
  obtain ⟨g, o, F⟩ := M.opr
  intro pins s σ H x y v u Q I rx ry h
  obtain ⟨p, dx, fs, rfl, hp, q⟩ := h
  cases (show u = Value.ref p from ry)
  obtain ⟨ox, od, J⟩ := ins_at I hp
  obtain ⟨m, hF⟩ := I.fr
  refine PySem.W.notIn_K hF I.ok.mod.kin J o.at_ o.fn ?_
  refine wpAny_mono (wpAny_call (run_fnR (us := [.ref p, v]) (vs := [.ref p, x]) F (hr.mono hk) hx I (.cons rfl (.cons rx .nil)) q)) (fun w s' z => ?_) fun _ _ x => x
  obtain ⟨z', H', I', rz, c, ec, qz⟩ := z
  subst ec
  cases (show w = Value.bool c from rz)
  refine wpAny_truthy_bool ?_
  exact ⟨.bl (!c), H', I', rfl, by simpa using qz⟩
/-- str(p) by an own __str__ -/
def rStrM (C : Addr) (sp : Sp) (E : XK) : List V → Hp → VK → Prop := fun xs H Q => ∃ p dx fs, xs = [.ref p] ∧ H p = some (.ins C dx fs) ∧ sp [.ref p] H (fun v H' => ∃ t, v = .str t ∧ Q (.str t) H') E
theorem call_strM (M : Met X.prog X.w X.K X.mg X.base k C "__str__" sp) (hr : Room j X.A) (hx : Passes (L2.CX X.prog X.w) X E) (hk : k + 2 ≤ j := by decide) : CallR X (.type "str") (rStrM C sp E) := by
  obtain ⟨g, o, F⟩ := M.opr
  intro pins s σ H xs us Q I r h
  obtain ⟨p, dx, fs, rfl, hp, q⟩ := h
  obtain ⟨u, rfl, ru⟩ := r.one
  cases (show u = Value.ref p from ru)
  obtain ⟨ox, od, J⟩ := ins_at I hp
  have hr2 := (hr.mono hk).in1.in1
  refine PySem.W.kso_call (by have := hr2.units0; exact this) I.kIn J o.at_ o.fn ?_
  refine wpAny_mono (wpAny_call (SlX.run_at (A := X.A.in1.in1) (us := [.ref p]) (ws := [.ref p]) F hr2 I.env0.in1.in1 hx I (.cons rfl .nil) q)) (fun w s' z => ?_) fun _ _ x => x
  obtain ⟨z', H', I', rz, t, ec, qz⟩ := z
  subst ec
  obtain ⟨tk, rfl⟩ := (show ∃ tk, w = Value.str t tk from rz)
  exact ⟨.str t, H', I', ⟨tk, rfl⟩, qz⟩
/-- x == y by an own ==, y of a type that has no say ahead of it -/
def rEqX (K : PySem.W.Frag) (C : Addr) (sp : Sp) (E : XK) : R2 := fun x y H Q => ∃ a dx fs t, x = .ref a ∧ H a = some (.ins C dx fs) ∧ TyX K H y t ∧ PySem.W.notFirst K C t = true ∧ sp [x, y] H (fun v H' => ∃ c, v = .bl c ∧ Q (.bl c) H') E
theorem op_eqX (M : Met X.prog X.w X.K X.mg X.base k C "__eq__" sp) (hr : Room j X.A) (hx : Passes (L2.CX X.prog X.w) X E) (hk : k ≤ j := by decide) : OpR X (compareOp .Eq) (rEqX X.K C sp E) := by
  obtain ⟨g, o, F⟩ := M.opr
  intro pins s σ H x y v u Q I rx ry h
  obtain ⟨a, dx, fs, t, rfl, ha, ty, hn, q⟩ := h
  cases (show v = Value.ref a from rx)
  obtain ⟨ox, od, J⟩ := ins_at I ha
  obtain ⟨m, hF⟩ := I.fr
  obtain ⟨P, KX, hP, _⟩ := kit_of I ry ty
  show wpAny (model X.prog X.w) X.A (richCompare .Eq _ _) _ _ _
  refine PySem.W.cmp_K (op := .Eq) (tb := t) (hr.mono hk).units0 hF I.ok.mod.kin J (KX.ty _ _ I.kIn hP) hn o.at_ o.fn ?_
  refine wpAny_mono (wpAny_call (run_fnR (us := [.ref a, u]) (vs := [.ref a, y]) F (hr.mono hk) hx I (.cons rfl (.cons ry .nil)) q)) (fun w s' z => ?_) fun _ _ x => x
  obtain ⟨z', H', I', rz, c, ec, qz⟩ := z
  subst ec
  exact SlX.cmpback rz ⟨.bl c, H', I', rz, qz⟩
theorem op_neX (c : NeC X.K C) (M : Met X.prog X.w X.K X.mg X.base k C "__eq__" sp) (hr : Room j X.A) (hx : Passes (L2.CX X.prog X.w) X E) (hk : k + 1 ≤ j := by decide) : OpR X (compareOp .NotEq) (fun x y H Q => rEqX X.K C sp E x y H (fun v H' => ∃ c, v = .bl c ∧ Q (.bl (!c)) H')) := by
  obtain ⟨g, o, F⟩ := M.opr
  intro pins s σ H x y v u Q I rx ry h
  obtain ⟨a, dx, fs, t, rfl, ha, ty, hn, q⟩ := h
  cases (show v = Value.ref a from rx)
  obtain ⟨ox, od, J⟩ := ins_at I ha
  obtain ⟨P, KX, hP, _⟩ := kit_of I ry ty
  show wpAny (model X.prog X.w) X.A (richCompare .NotEq _ _) _ _ _
  refine PySem.W.hf_ne (tb := t) (by have := (hr.mono hk).un; omega) I.kIn J (KX.ty _ _ I.kIn hP) hn c.ne c.ob o.at_ o.fn ?_
  refine wpAny_mono (wpAny_call (SlX.run_at (A := X.A.in1) (us := [.ref a, u]) (ws := [.ref a, y]) F (hr.mono hk).in1 I.env0.in1 hx I (.cons rfl (.cons ry .nil)) q)) (fun w s' z => ?_) fun _ _ x => x
  obtain ⟨z', H', I', rz, c1, ec, c2, ec2, qz⟩ := z
  subst ec
  cases ec2
  cases (show w = Value.bool c1 from rz)
  exact ⟨c1, rfl, .bl (!c1), H', I', rfl, qz⟩
end
end Hf

namespace Hf
open PySem PySem.Spec PyProof.Rows L2
section
variable {P : Program} {w : World} {K : PySem.W.Frag} {mg : Str → Option Value} {base : Heap}
/-- a def that may raise: what it lets out is E's -/
theorem fnRX {x qual : Str} {st : Stmt} {f : Addr} {fd : FuncData} {N ps : List Str} {k : Nat} {sp : Sp} (F : Fun K x qual st f fd) (b : Binds K fd ps []) (S : FnScope N ps (defScope st)) (len : ∀ vs H Q E, sp vs H Q E → vs.length = ps.length)
    (hbody : ∀ (cdv : Value) (A : Around) (outer : List Env) (s : Shared) (H : Hp) (vs : List V) (Q : VK) (E : XK), Room k (A.deeper (envOfC qual (defScope st) s.heap.objs.size f cdv)) → Takes (cxOf (L2.CX P w) P w K mg base N qual (defScope st) f cdv A outer s H E) (fun cls d _ H => E cls d H) → sp vs H Q E →
      ∃ t, PSs (cxOf (L2.CX P w) P w K mg base N qual (defScope st) f cdv A outer s H E) (defBody st) t ∧ t { nx := fun _ H' => Q .non H', rt := Q } (L2.start N vs) H) : FnR P w K mg base (L2.CX P w) (k + 1) f sp := by
  have G := F.okX (P := P) (w := w) (mg := mg) (base := base) S len fun cdv A outer s H vs Q E hr h => hbody cdv A outer s H vs Q E hr (takes_of rfl rfl rfl rfl) h
  exact (G.raw b .nil).imp fun vs H Q E h => by rw [List.append_nil]; exact h
theorem fnOkDX {x qual : Str} {params : Arguments} {body : List Stmt} {scope : Scope} {dvs : List V} {kws : List (Str × V)} {f : Addr} {fd : FuncData} {N ps : List Str} {k : Nat} {sp : Sp} (F : FunD K x qual params body scope dvs kws f fd) (S : FnScope N ps scope) (len : ∀ vs H Q E, sp vs H Q E → vs.length = ps.length)
    (hbody : ∀ (cdv : Value) (A : Around) (outer : List Env) (s : Shared) (H : Hp) (vs : List V) (Q : VK) (E : XK), Room k (A.deeper (envOfC qual scope s.heap.objs.size f cdv)) → Takes (cxOf (L2.CX P w) P w K mg base N qual scope f cdv A outer s H E) (fun cls d _ H => E cls d H) → sp vs H Q E →
      ∃ t, PSs (cxOf (L2.CX P w) P w K mg base N qual scope f cdv A outer s H E) body t ∧ t { nx := fun _ H' => Q .non H', rt := Q } (L2.start N vs) H) : FnOk P w K mg base (L2.CX P w) (k + 1) f fd ps sp :=
  F.ok (CX := L2.CX P w) (P := P) (w := w) (mg := mg) (base := base) S len fun cdv A outer s H vs Q E hr h => hbody cdv A outer s H vs Q E hr (takes_of rfl rfl rfl rfl) h
end
theorem passE {X : Cx} {E : XK} (tk : Takes X (fun cls d _ H => E cls d H)) : Passes (L2.CX X.prog X.w) X E := passes_call tk fun _ _ _ _ h => h
/-- v is no whole number: is_whole says no -/
def NotW (K : PySem.W.Frag) (H : Hp) (v : V) : Prop := ∃ (t : Value) (b1 b2 : Bool), TyX K H v t ∧ PySem.W.kitOne K t (.type "int") = some b1 ∧ PySem.W.kitOne K t (.type "bool") = some b2 ∧ (b1 && !b2) = false
theorem TyX.same {K : PySem.W.Frag} {H H' : Hp} {v : V} {t : Value} (h : TyX K H v t) (e : Same H H') : TyX K H' v t := by
  cases h with
  | base b =>
    cases b with
    | non => exact .base .non
    | bl y => exact .base (.bl y)
    | int y => exact .base (.int y)
    | str y => exact .base (.str y)
    | flt y => exact .base (.flt y)
    | lst h => exact .base (.lst (e _ _ h))
    | frz h => exact .base (.frz (e _ _ h))
    | tup h => exact .base (.tup (e _ _ h))
    | dK h => exact .base (.dK (e _ _ h))
    | dT h => exact .base (.dT (e _ _ h))
    | ins h a b c d f => exact .base (.ins (e _ _ h) a b c d f)
  | byt y => exact .byt y
  | set h => exact .set (e _ _ h)
  | kList a b => exact .kList a b
  | kTuple a b => exact .kTuple a b
  | kDict a b => exact .kDict a b
  | fTuple h => exact .fTuple (e _ _ h)
  | fDict h => exact .fDict (e _ _ h)
theorem TyX.keep {K : PySem.W.Frag} {H H' : Hp} {b : Addr} {v : V} {t : Value} (h : TyX K H v t) (e : Keep b H H') (n : v ≠ .ref b) : TyX K H' v t := by
  have n' : ∀ {a : Addr}, v = .ref a → a ≠ b := fun {a} z q => n (by rw [z, q])
  cases h with
  | base c =>
    cases c with
    | non => exact .base .non
    | bl y => exact .base (.bl y)
    | int y => exact .base (.int y)
    | str y => exact .base (.str y)
    | flt y => exact .base (.flt y)
    | lst h => exact .base (.lst (e _ _ h (n' rfl)))
    | frz h => exact .base (.frz (e _ _ h (n' rfl)))
    | tup h => exact .base (.tup (e _ _ h (n' rfl)))
    | dK h => exact .base (.dK (e _ _ h (n' rfl)))
    | dT h => exact .base (.dT (e _ _ h (n' rfl)))
    | ins h a b c d f => exact .base (.ins (e _ _ h (n' rfl)) a b c d f)
  | byt y => exact .byt y
  | set h => exact .set (e _ _ h (n' rfl))
  | kList a b => exact .kList a b
  | kTuple a b => exact .kTuple a b
  | kDict a b => exact .kDict a b
  | fTuple h => exact .fTuple (e _ _ h (n' rfl))
  | fDict h => exact .fDict (e _ _ h (n' rfl))
theorem NotW.same {K : PySem.W.Frag} {H H' : Hp} {v : V} (h : NotW K H v) (e : Same H H') : NotW K H' v := let ⟨t, b1, b2, a, b, c, d⟩ := h; ⟨t, b1, b2, TyX.same a e, b, c, d⟩
theorem NotW.keep {K : PySem.W.Frag} {H H' : Hp} {b : Addr} {v : V} (h : NotW K H v) (e : Keep b H H') (n : v ≠ .ref b) : NotW K H' v := let ⟨t, b1, b2, a, x, c, d⟩ := h; ⟨t, b1, b2, TyX.keep a e n, x, c, d⟩
theorem wh_not {K : PySem.W.Frag} {H : Hp} {v : V} {Q : VK} {E : XK} (h : NotW K H v) (q : Q (.bl false) H) : spWhole K [v] H Q E := by
  obtain ⟨t, b1, b2, a, b, c, d⟩ := h
  exact ⟨v, t, b1, b2, rfl, a, b, c, by rw [d]; exact q⟩
theorem NotW.ne {K : PySem.W.Frag} {H : Hp} {i : Int} (h : NotW K H (.int i)) : False := by
  obtain ⟨t, b1, b2, a, b, c, d⟩ := h
  cases a with
  | base a =>
    cases a
    have e1 : PySem.W.kitOne K (.type "int") (.type "int") = some true := by kernel_rfl
    have e2 : PySem.W.kitOne K (.type "int") (.type "bool") = some false := by kernel_rfl
    rw [e1] at b
    rw [e2] at c
    cases b
    cases c
    cases d
theorem nn_int {j : Int} : (!decide (V.int j = V.non)) = true := by
  rw [decide_eq_false (by intro z; cases z)]
  rfl
theorem eqI2 {a b : Int} : decide (V.int a = V.int b) = decide (a = b) := by
  congr 1
  exact propext ⟨fun z => by cases z; rfl, fun z => by rw [z]⟩
theorem sm_log {i : Int} (h : Sm i) : i.natAbs.log2 < 1920 := Nat.lt_trans (PySem.Flt.log2_lt_of (by decide) h.nat) (by decide)
theorem sm_len {i : Int} (h : Sm i) : (Str.ofString (toString i)).length ≤ 1921 := PyProof.Rows.int_text_len_1921 (sm_log h)
def FmtK (Q : VK) (x : V) (H1 : Hp) : Prop := (∃ y : Str, x = .str y ∧ y.length ≤ sizeLine ∧ Q (.str y) H1) ∨ ∃ i : Int, x = .int i ∧ i.natAbs.log2 < 1920 ∧ Q (.str (toString i)) H1
theorem rd_fmt {te : TE} {σ : L2.St} {H : Hp} {Q : VK} (q : te σ H (FmtK Q)) : tFmt te σ H Q := q
theorem fmt_int {i : Int} {H : Hp} {Q : VK} (h : Sm i) (q : Q (.str (Str.ofString (toString i))) H) : FmtK Q (.int i) H := .inr ⟨i, rfl, sm_log h, q⟩
def JsK (ts : List TE) (acc : Str) (σ : L2.St) (Q : Str → Hp → Prop) (x : V) (H1 : Hp) : Prop := ∃ y : Str, x = .str y ∧ (acc ++ y).length ≤ sizeLine ∧ tJs ts (acc ++ y) σ H1 Q
theorem rd_jsC {t : TE} {ts : List TE} {acc : Str} {σ : L2.St} {H : Hp} {Q : Str → Hp → Prop} (q : t σ H (JsK ts acc σ Q)) : tJs (t :: ts) acc σ H Q := q
theorem rd_jsN {acc : Str} {σ : L2.St} {H : Hp} {Q : Str → Hp → Prop} (q : Q acc H) : tJs [] acc σ H Q := q
theorem js_str {ts : List TE} {acc y : Str} {σ : L2.St} {H : Hp} {Q : Str → Hp → Prop} (h : (acc ++ y).length ≤ 100000) (q : tJs ts (acc ++ y) σ H Q) : JsK ts acc σ Q (.str y) H := ⟨y, rfl, Nat.le_trans h (by rw [sizeLine_eq]; decide), q⟩
theorem js_str0 {ts : List TE} {y : Str} {σ : L2.St} {H : Hp} {Q : Str → Hp → Prop} (h : y.length ≤ 100000) (q : tJs ts y σ H Q) : JsK ts Str.empty σ Q (.str y) H := js_str (by rw [Str.empty_append]; exact h) (by rw [Str.empty_append]; exact q)
/-! ### Sizes -/
def szF (lo : Int) (hi : V) : List (Str × V) := [("low", .int lo), ("high", hi)]
def SzAt (C : Addr) (H : Hp) (p : Addr) (lo : Int) (hi : V) : Prop := ∃ dx, H p = some (.ins C dx (szF lo hi))
theorem SzAt.same {C : Addr} {H H' : Hp} {p : Addr} {lo : Int} {hi : V} (h : SzAt C H p lo hi) (e : Same H H') : SzAt C H' p lo hi := let ⟨dx, h⟩ := h; ⟨dx, e _ _ h⟩
theorem SzAt.keep {C b : Addr} {H H' : Hp} {p : Addr} {lo : Int} {hi : V} (h : SzAt C H p lo hi) (e : Keep b H H') (n : p ≠ b) : SzAt C H' p lo hi := let ⟨dx, h⟩ := h; ⟨dx, e _ _ h n⟩
/-- high is not what it must be beside low -/
def BadHi (K : PySem.W.Frag) (H : Hp) (lo : Int) (hi : V) : Prop := (hi ≠ .non ∧ NotW K H hi) ∨ ∃ j : Int, hi = .int j ∧ (j < lo ∨ (lo ≤ j ∧ (j - lo) % 2 = 1))
def OkHi (lo : Int) (hi : V) : Prop := hi = .non ∨ ∃ j : Int, hi = .int j ∧ lo ≤ j ∧ (j - lo) % 2 = 0
/-- an error of the class at CB with one field is let out -/
def Lets (E : XK) (CB : Addr) (H : Hp) (fs : List (Str × V)) : Prop := ∀ d, H d = none → E (.ref CB) (some d) (upd H d (.xd fs))
def spSzI (K : PySem.W.Frag) (C CB : Addr) : Sp := fun vs H Q E => ∃ (p dx : Addr) (lo hi : V), vs = [.ref p, lo, hi] ∧ H p = some (.ins C dx []) ∧
  (((NotW K H lo ∨ ∃ i : Int, lo = .int i ∧ i < 1) ∧ Lets E CB H [("part", .str "low")]) ∨ ∃ i : Int, lo = .int i ∧ 1 ≤ i ∧ ((BadHi K H i hi ∧ Lets E CB H [("part", .str "high")]) ∨ (OkHi i hi ∧ ∀ H', H' p = some (.ins C dx (szF i hi)) → Keep p H H' → Q .non H')))
theorem f_lh : ¬ ("low" : Str) = "high" := by decide +kernel
theorem sz_low {lo : Int} {hi : V} : List.lookup ("low" : Str) (szF lo hi) = some (.int lo) := lk_hit
theorem sz_high {lo : Int} {hi : V} : List.lookup ("high" : Str) (szF lo hi) = some hi := (lk_miss f_lh).trans lk_hit
theorem sz_make {lo : Int} {hi : V} : putF "high" hi (putF "low" (.int lo) []) = szF lo hi := by
  rw [pf_nil, pf_miss f_lh, pf_nil]
  rfl
/-- what the written part says of Sizes, at C -/
structure SzC (K : PySem.W.Frag) (mg : Str → Option Value) (C : Addr) : Prop where
  cl : Cls K C
  n1 : NoAttr K C "low"
  n2 : NoAttr K C "high"
  g : mg "Sizes" = some (.ref C)
  ne : NeC K C
  ha : PySem.W.findIn K (.ref C) "__class__" = some (some (.builtin "object.__class__"))
  hn : PySem.W.specialIn K (.builtin "object.__class__") "__get__" = some (some (.builtin "getset_descriptor.__get__"))
  tk : PySem.W.takesIn K (.builtin "object.__class__") = some true
  mo : PySem.W.mroIn K C (.type "object") = some true
  kT : PySem.W.kitOne K (.type "tuple") (.ref C) = some false
  nT : PySem.W.subIn K (.type "tuple") (.ref C) = some false
theorem SzC.ty {K : PySem.W.Frag} {mg : Str → Option Value} {C : Addr} (T : SzC K mg C) {H : Hp} {p dx : Addr} {fs : List (Str × V)} (h : H p = some (.ins C dx fs)) : TyX K H (.ref p) (.ref C) := .base (.ins h T.cl T.ha T.hn T.tk T.mo)
/-- value in sizes -/
def hiOk : V → Int → Bool
  | .int j, n => decide (n ≤ j)
  | _, _ => true
def szIn (lo : Int) (hi : V) (n : Int) : Bool := decide (lo ≤ n) && (decide ((n - lo) % 2 = 0) && hiOk hi n)
def spSzIn (K : PySem.W.Frag) (C : Addr) : Sp := fun vs H Q _ => ∃ (p : Addr) (lo : Int) (hi v : V), vs = [.ref p, v] ∧ SzAt C H p lo hi ∧ (hi = .non ∨ ∃ j : Int, hi = .int j) ∧ ((NotW K H v ∧ Q (.bl false) H) ∨ ∃ n : Int, v = .int n ∧ Q (.bl (szIn lo hi n)) H)
/-- == of two, or with a tuple -/
def spSzEq (C : Addr) : Sp := fun vs H Q _ => ∃ (p : Addr) (lo : Int) (hi : V), SzAt C H p lo hi ∧ (hi = .non ∨ ∃ j : Int, hi = .int j) ∧ ((∃ (q : Addr) (lo' : Int) (hi' : V), vs = [.ref p, .ref q] ∧ SzAt C H q lo' hi' ∧ (hi' = .non ∨ ∃ j : Int, hi' = .int j) ∧ Q (.bl (decide (lo = lo') && decide (hi = hi'))) H) ∨
  ∃ (t : Addr) (xs : List V), vs = [.ref p, .ref t] ∧ H t = some (.tup xs) ∧ Q (.bl false) H)
/-- str(sizes) -/
def szStr (lo : Int) : V → Str
  | .int j => if lo = j then Str.ofString (toString lo) else Str.ofString (toString lo) ++ ".." ++ Str.ofString (toString j)
  | _ => Str.ofString (toString lo) ++ ".."
def spSzStr (C : Addr) : Sp := fun vs H Q _ => ∃ (p : Addr) (lo : Int) (hi : V), vs = [.ref p] ∧ SzAt C H p lo hi ∧ Sm lo ∧ (hi = .non ∨ ∃ j : Int, hi = .int j ∧ Sm j) ∧ Q (.str (szStr lo hi)) H
/-! ### the values that a law draws -/
def NewD (Q : VK) (H : Hp) : Prop := ∀ p, H p = none → Q (.ref p) (upd H p (.dK []))
theorem rd_dnew {σ : L2.St} {H : Hp} {Q : VK} (q : NewD Q H) : tDNewK σ H Q := q
theorem new_dict {H : Hp} {Q : VK} (k : ∀ p H', H p = none → H' p = some (.dK []) → Same H H' → Q (.ref p) H') : NewD Q H := fun p hp => k p _ hp upd_same (Same.new hp)
theorem nw_non {K : PySem.W.Frag} {H : Hp} : NotW K H .non := ⟨_, false, false, .base .non, by kernel_rfl, by kernel_rfl, rfl⟩
theorem nw_bl {K : PySem.W.Frag} {H : Hp} {b : Bool} : NotW K H (.bl b) := ⟨_, true, true, .base (.bl b), by kernel_rfl, by kernel_rfl, rfl⟩
theorem nw_str {K : PySem.W.Frag} {H : Hp} {x : Str} : NotW K H (.str x) := ⟨_, false, false, .base (.str x), by kernel_rfl, by kernel_rfl, rfl⟩
theorem nw_lst {K : PySem.W.Frag} {H : Hp} {a : Addr} {xs : List V} (h : H a = some (.lst xs)) : NotW K H (.ref a) := ⟨_, false, false, .base (.lst h), by kernel_rfl, by kernel_rfl, rfl⟩
theorem nw_tup {K : PySem.W.Frag} {H : Hp} {a : Addr} {xs : List V} (h : H a = some (.tup xs)) : NotW K H (.ref a) := ⟨_, false, false, .base (.tup h), by kernel_rfl, by kernel_rfl, rfl⟩
theorem nw_dict {K : PySem.W.Frag} {H : Hp} {a : Addr} {kvs : List (Key × V)} (h : H a = some (.dK kvs)) : NotW K H (.ref a) := ⟨_, false, false, .base (.dK h), by kernel_rfl, by kernel_rfl, rfl⟩
/-- a whole number, not above 10 ^ 60, or no whole number at all; not the bag -/
def IsVal (K : PySem.W.Frag) (b : Addr) (H : Hp) (v : V) : Prop := v ≠ .ref b ∧ (NotW K H v ∨ ∃ i : Int, v = .int i ∧ Md i)
theorem IsVal.same {K : PySem.W.Frag} {b : Addr} {H H' : Hp} {v : V} (h : IsVal K b H v) (e : Same H H') : IsVal K b H' v := ⟨h.1, h.2.imp (fun x => x.same e) id⟩
theorem IsVal.keep {K : PySem.W.Frag} {b : Addr} {H H' : Hp} {v : V} (h : IsVal K b H v) (e : Keep b H H') : IsVal K b H' v := ⟨h.1, h.2.imp (fun x => x.keep e h.1) id⟩
/-- _law_value(bag, n) -/
def spLVal (K : PySem.W.Frag) : Sp := fun vs H Q _ => ∃ (b : Addr) (n : Int), vs = [.ref b, .int n] ∧ Bag H b ∧ -10000000000000000000000000000000000000000 ≤ n ∧ n ≤ 10000000000000000000000000000000000000000 ∧ ∀ (v : V) (H' : Hp), IsVal K b H' v → Bag H' b → Keep b H H' → Q v H'
def spLSz (K : PySem.W.Frag) : Sp := fun vs H Q _ => ∃ v : V, vs = [v] ∧ ((NotW K H v ∧ Q (.bl false) H) ∨ ∃ i : Int, v = .int i ∧ Q (.bl (decide (0 < i))) H)
def LoBad (K : PySem.W.Frag) (H : Hp) (lo : V) : Prop := NotW K H lo ∨ ∃ i : Int, lo = .int i ∧ i < 1
def spLDue (K : PySem.W.Frag) : Sp := fun vs H Q _ => ∃ lo hi : V, vs = [lo, hi] ∧ (∀ i : Int, lo = .int i → Md i) ∧ (∀ j : Int, hi = .int j → Md j) ∧ ((LoBad K H lo ∧ Q (.str "low") H) ∨ ∃ i : Int, lo = .int i ∧ 1 ≤ i ∧ ((BadHi K H i hi ∧ Q (.str "high") H) ∨ (OkHi i hi ∧ Q .non H)))
def spLWr : Sp := fun vs H Q _ => ∃ (lo : Int) (hi : V), vs = [.int lo, hi] ∧ Sm lo ∧ (hi = .non ∨ ∃ j : Int, hi = .int j ∧ Sm j) ∧ Q (.str (szStr lo hi)) H
theorem three {K : PySem.W.Frag} {b : Addr} {H : Hp} {lo hi : V} (h1 : IsVal K b H lo) (h2 : IsVal K b H hi) : LoBad K H lo ∨ ∃ i : Int, lo = .int i ∧ 1 ≤ i ∧ (BadHi K H i hi ∨ OkHi i hi) := by
  rcases h1.2 with h | ⟨i, rfl, _⟩
  · exact .inl (.inl h)
  · rcases Int.lt_or_le i 1 with h | h
    · exact .inl (.inr ⟨i, rfl, h⟩)
    · refine .inr ⟨i, rfl, h, ?_⟩
      rcases h2.2 with h' | ⟨j, rfl, _⟩
      · by_cases e : hi = .non
        · exact .inr (.inl e)
        · exact .inl (.inl ⟨e, h'⟩)
      · rcases Int.lt_or_le j i with q | q
        · exact .inl (.inr ⟨j, rfl, .inl q⟩)
        · rcases (show (j - i) % 2 = 1 ∨ (j - i) % 2 = 0 from by omega) with e | e
          · exact .inl (.inr ⟨j, rfl, .inr ⟨q, e⟩⟩)
          · exact .inr (.inr ⟨j, rfl, q, e⟩)
end Hf

namespace Hf
open PySem PySem.Spec PyProof.Rows L2 LamX
/-! ### heaps that are the same but for tables -/
theorem ExtN.same {H H' : Hp} (e : Same H H') : ExtN H H' := fun b o h _ => e b o h
theorem Bag.extN {b : Addr} {H H' : Hp} (h : Bag H b) (e : ExtN H H') : Bag H' b := by
  obtain ⟨c, cs, a, r, s, h1, h2, q⟩ := h
  exact ⟨c, cs, a, r, s, e _ _ h1 (fun ps z => by cases z), e _ _ h2 (fun ps z => by cases z), q⟩
theorem TyX.extN {K : PySem.W.Frag} {H H' : Hp} {v : V} {t : Value} (h : TyX K H v t) (e : ExtN H H') : TyX K H' v t := by
  cases h with
  | base b =>
    cases b with
    | non => exact .base .non
    | bl y => exact .base (.bl y)
    | int y => exact .base (.int y)
    | str y => exact .base (.str y)
    | flt y => exact .base (.flt y)
    | lst h => exact .base (.lst (e _ _ h (fun ps z => by cases z)))
    | frz h => exact .base (.frz (e _ _ h (fun ps z => by cases z)))
    | tup h => exact .base (.tup (e _ _ h (fun ps z => by cases z)))
    | dK h => exact .base (.dK (e _ _ h (fun ps z => by cases z)))
    | dT h => exact .base (.dT (e _ _ h (fun ps z => by cases z)))
    | ins h a b c d f => exact .base (.ins (e _ _ h (fun ps z => by cases z)) a b c d f)
  | byt y => exact .byt y
  | set h => exact .set (e _ _ h (fun ps z => by cases z))
  | kList a b => exact .kList a b
  | kTuple a b => exact .kTuple a b
  | kDict a b => exact .kDict a b
  | fTuple h => exact .fTuple (e _ _ h (fun ps z => by cases z))
  | fDict h => exact .fDict (e _ _ h (fun ps z => by cases z))
theorem NotW.extN {K : PySem.W.Frag} {H H' : Hp} {v : V} (h : NotW K H v) (e : ExtN H H') : NotW K H' v := let ⟨t, b1, b2, a, b, c, d⟩ := h; ⟨t, b1, b2, TyX.extN a e, b, c, d⟩
theorem IsVal.extN {K : PySem.W.Frag} {b : Addr} {H H' : Hp} {v : V} (h : IsVal K b H v) (e : ExtN H H') : IsVal K b H' v := ⟨h.1, h.2.imp (fun x => x.extN e) id⟩
theorem LoBad.extN {K : PySem.W.Frag} {H H' : Hp} {v : V} (h : LoBad K H v) (e : ExtN H H') : LoBad K H' v := h.imp (fun x => x.extN e) id
theorem BadHi.extN {K : PySem.W.Frag} {H H' : Hp} {i : Int} {v : V} (h : BadHi K H i v) (e : ExtN H H') : BadHi K H' i v := h.imp (fun x => ⟨x.1, x.2.extN e⟩) id
theorem Tabs.keep {T : List (Addr × Str)} {H H' : Hp} {b : Addr} (t : Tabs T H) (B : Bag H b) (e : Keep b H H') : Tabs T H' := by
  obtain ⟨c0, cs, a, r, s, hb, _⟩ := B
  intro p hp
  obtain ⟨ps, h1, h2, h3⟩ := t p hp
  refine ⟨ps, e _ _ h1 (ne_of h1 hb (by intro z; cases z)), h2, fun pos cv hc => ?_⟩
  obtain ⟨c, e1, e2⟩ := h3 pos cv hc
  refine ⟨c, e1, e _ _ e2 (ne_of e2 hb (by intro z; unfold CodeO at z; cases z))⟩
/-! ### Sizes(low, high), made or refused -/
theorem use_szR {K : PySem.W.Frag} {C CB : Addr} {E : XK} {Q : VK} {lo hi : V} {H : Hp}
    (h : (LoBad K H lo ∧ ∀ (d : Addr) (H' : Hp), H' d = some (.xd [("part", .str "low")]) → Same H H' → E (.ref CB) (some d) H') ∨ ∃ i : Int, lo = .int i ∧ 1 ≤ i ∧ ((BadHi K H i hi ∧ ∀ (d : Addr) (H' : Hp), H' d = some (.xd [("part", .str "high")]) → Same H H' → E (.ref CB) (some d) H') ∨
      (OkHi i hi ∧ ∀ (p : Addr) (H' : Hp), H p = none → SzAt C H' p i hi → Same H H' → Q (.ref p) H'))) : MakeK C (spSzI K C CB) E Q [lo, hi] H := by
  intro x dx hx hdx hne
  have sm : Same H (upd (upd H dx (.own x)) x (.ins C dx [])) := fun b u e => by
    rw [upd_ne (ne_of_none e hx), upd_ne (ne_of_none e hdx)]
    exact e
  refine ⟨x, dx, lo, hi, rfl, upd_same, ?_⟩
  rcases h with ⟨hl, k⟩ | ⟨i, rfl, h1, h⟩
  · exact .inl ⟨hl.extN (ExtN.same sm), fun d hd => k d _ upd_same (sm.trans (Same.new hd))⟩
  · refine .inr ⟨i, rfl, h1, ?_⟩
    rcases h with ⟨hb, k⟩ | ⟨ho, k⟩
    · exact .inl ⟨hb.extN (ExtN.same sm), fun d hd => k d _ upd_same (sm.trans (Same.new hd))⟩
    · refine .inr ⟨ho, fun H' hp kp => ⟨rfl, k x H' hx ⟨dx, hp⟩ fun b u e => kp b u (sm b u e) (ne_of_none e hx)⟩⟩
/-! ### what a law hears: ('told', value) or a word and the fields -/
/-- the reading of heard: one error class, one field -/
def THear (CB : Addr) (w1 fld : Str) : (XK → Hp → VK → Prop) → Hp → VK → Prop := fun tl H Q =>
  tl (fun cls d H' => cls = .ref CB ∧ ∃ (dd : Addr) (fs : List (Str × V)) (v : V), d = some dd ∧ H' dd = some (.xd fs) ∧ fs.lookup fld = some v ∧ NewT Q [.str w1, v] H') H (fun v H' => NewT Q [.str "told", v] H')
/-- the law's promise, its tables at hand -/
def spLawT (K : PySem.W.Frag) (T : List (Addr × Str)) : Sp := fun vs H Q _ => ∃ (a : Addr) (ns : List Int), vs = [.ref a] ∧ SqL K H a (ns.map V.int) ∧ ns.length ≤ 63 ∧ Tabs T H ∧ ∀ H', Q (.bl true) H'
theorem rd_lam {T : List (Addr × Str)} {TT : (XK → Hp → VK → Prop) → Hp → VK → Prop} {t : XK → TE} {σ : L2.St} {H : Hp} {Q : VK} (hT : Tabs T H) (k : ∀ H1, ExtN H H1 → Tabs T H1 → TT (fun E H' Q' => t E σ H' Q') H1 Q) : tLam T TT t σ H Q := ⟨hT, k⟩
end Hf

namespace Hf
open PySem PySem.Spec PyProof.Rows L2
/-- x(k2 = .., k1 = ..) makes an instance of C: the keywords ks in the order of the parameters' reverse -/
def MakR (P : Program) (w : World) (K : PySem.W.Frag) (mg : Str → Option Value) (base : Heap) (k : Nat) (x : Str) (C : Addr) (ks : List Str) (sp : Sp) : Prop :=
  ∃ (f : Addr) (fd : FuncData) (ps : List Str) (g : List Value → List Value → List Value) (gV : List V → List V → List V), Mk K C f ∧ FnOk P w K mg base (L2.CX P w) k f fd ps sp ∧ mg x = some (.ref C) ∧ KBn K fd ps 1 ks g gV ∧ ∀ (v : V) (zs : List V), zs.length = ks.length → gV [v] zs = v :: zs.reverse
/-- what stands behind the keywords' values -/
def MkRK (C : Addr) (m : Nat) (sp : Sp) (E : XK) (Q : VK) (zs : List V) (H : Hp) : Prop := zs.length = m ∧ MakeK C sp E Q zs.reverse H
def tMakR (C : Addr) (m : Nat) (sp : Sp) (E : XK) (tk : TA) : TE := fun σ H Q => tk σ H (MkRK C m sp E Q)
theorem rd_makR {C : Addr} {m : Nat} {sp : Sp} {E : XK} {tk : TA} {σ : L2.St} {H : Hp} {Q : VK} (q : tk σ H (MkRK C m sp E Q)) : tMakR C m sp E tk σ H Q := q
theorem pe_makR {X : Cx} {k j : Nat} {x : Str} {C : Addr} {ks : List Str} {sp : Sp} {E : XK} {kws : List Keyword} {tk : TA} {p pos : Pos} (M : MakR X.prog X.w X.K X.mg X.base k x C ks sp) (hr : Room j X.A) (hx : Passes (L2.CX X.prog X.w) X E) (hkw : PK X kws tk) (hk : k + 1 ≤ j := by decide) (hg : Gl X x := by rfl)
    (hall : (backToKw pos (keywordEach kws X.env)).all (·.1.isSome) = true := by rfl) (hks : (backToKw pos (keywordEach kws X.env)).filterMap (·.1) = ks := by rfl) (hdb : (x == ("__debug__" : Str)) = false := by decide)
    (hpl : ((backTo pos (starEach [] X.env)).any (·.1) || (backToKw pos (keywordEach kws X.env)).any (·.1.isNone)) = false := by rfl) : PE X (.Call (.Name x p) [] kws pos) (tMakR C ks.length sp E tk) := by
  obtain ⟨f, fd, ps, g, gV, mk, F, hm, hb, hgv⟩ := M
  refine ⟨fun pins s σ H Q I h => ?_⟩
  refine wpAny_Call_Name_kw (ld_glob I hg hm ?_ hdb)
  refine PySem.W.callWith_KW0 (h₀ := X.base) I.ok.mod.kin mk.kp hall ?_ hpl
  refine thn (hkw.run pos pins s σ H _ I h) fun ws s2 ⟨zs, H2, I2, rz, l2, q2⟩ => ⟨I2.kIn, ?_⟩
  rw [hks]
  refine run_makeK (us := []) (vs := []) mk F (hr.mono hk) hb hx I2 .nil rz rfl l2 fun x dx h1 h2 h3 => ?_
  rw [hgv _ _ l2]
  exact q2 x dx h1 h2 h3
/-- Sizes(low) -/
def spSzI1 (K : PySem.W.Frag) (C CB : Addr) : Sp := fun vs H Q E => spSzI K C CB (vs ++ [.non]) H Q E
theorem vals_rev {vs : List V} {us : List Value} (h : Vals vs us) : Vals vs.reverse us.reverse := by
  induction h with
  | nil => exact .nil
  | cons a r ih =>
    rw [List.reverse_cons, List.reverse_cons]
    exact ih.append (.cons a .nil)
section
variable {K : PySem.W.Frag} {mg : Str → Option Value} {C CB p q : Addr} {E : XK} {Q : VK} {H : Hp} {lo lo' : Int} {hi hi' : V}
theorem use_sz (h1 : 1 ≤ lo) (ho : OkHi lo hi) (k : ∀ (p : Addr) (H' : Hp), H p = none → SzAt C H' p lo hi → Same H H' → Q (.ref p) H') : MakeK C (spSzI K C CB) E Q [.int lo, hi] H := use_szR (.inr ⟨lo, rfl, h1, .inr ⟨ho, k⟩⟩)
theorem use_sz1 (h1 : 1 ≤ lo) (k : ∀ (p : Addr) (H' : Hp), H p = none → SzAt C H' p lo .non → Same H H' → Q (.ref p) H') : MakeK C (spSzI1 K C CB) E Q [.int lo] H := use_sz (K := K) (CB := CB) (E := E) h1 (.inl rfl) k
def Hs (hi : V) : Prop := hi = .non ∨ ∃ j : Int, hi = .int j
theorem use_szE (C0 : SzC K mg C) (h1 : SzAt C H p lo hi) (o1 : Hs hi) (h2 : SzAt C H q lo' hi') (o2 : Hs hi') (k : Q (.bl (decide (lo = lo') && decide (hi = hi'))) H) : rEqX K C (spSzEq C) E (.ref p) (.ref q) H Q := by
  obtain ⟨dx, e1⟩ := h1
  obtain ⟨dy, e2⟩ := h2
  exact ⟨p, dx, _, .ref C, rfl, e1, C0.ty e2, notFirst_self, p, lo, hi, ⟨dx, e1⟩, o1, .inl ⟨q, lo', hi', rfl, ⟨dy, e2⟩, o2, _, rfl, k⟩⟩
theorem notFirst_of {t : Value} (h : PySem.W.subIn K t (.ref C) = some false) : PySem.W.notFirst K C t = true := by
  unfold PySem.W.notFirst
  rw [h]
  simp
theorem use_szT {xs : List V} (C0 : SzC K mg C) (h1 : SzAt C H p lo hi) (o1 : Hs hi) (h2 : H q = some (.tup xs)) (k : Q (.bl false) H) : rEqX K C (spSzEq C) E (.ref p) (.ref q) H Q := by
  obtain ⟨dx, e1⟩ := h1
  exact ⟨p, dx, _, .type "tuple", rfl, e1, .base (.tup h2), notFirst_of C0.nT, p, lo, hi, ⟨dx, e1⟩, o1, .inr ⟨q, xs, rfl, h2, _, rfl, k⟩⟩
theorem use_szS (h1 : SzAt C H p lo hi) (s1 : Sm lo) (o1 : hi = .non ∨ ∃ j : Int, hi = .int j ∧ Sm j) (k : Q (.str (szStr lo hi)) H) : rStrM C (spSzStr C) E [.ref p] H Q := by
  obtain ⟨dx, e1⟩ := h1
  exact ⟨p, dx, _, rfl, e1, p, lo, hi, rfl, ⟨dx, e1⟩, s1, o1, _, rfl, k⟩
theorem use_szN {neg : Bool} {n : Int} (h1 : SzAt C H p lo hi) (o1 : Hs hi) (k : Q (.bl (szIn lo hi n != neg)) H) : rInM C (spSzIn K C) E neg (.int n) (.ref p) H Q := by
  obtain ⟨dx, e1⟩ := h1
  exact ⟨p, dx, _, rfl, e1, p, lo, hi, _, rfl, ⟨dx, e1⟩, o1, .inr ⟨n, rfl, _, rfl, k⟩⟩
theorem use_szV {neg : Bool} {v : V} (h1 : SzAt C H p lo hi) (o1 : Hs hi) (hw : NotW K H v) (k : Q (.bl (false != neg)) H) : rInM C (spSzIn K C) E neg v (.ref p) H Q := by
  obtain ⟨dx, e1⟩ := h1
  exact ⟨p, dx, _, rfl, e1, p, lo, hi, _, rfl, ⟨dx, e1⟩, o1, .inl ⟨hw, _, rfl, k⟩⟩
/-- two tuples of two texts -/
theorem use_neTT {t1 t2 : Addr} {a b : Str} (oa : PyData.strOk a = true) (ob : PyData.strOk b = true) (h1 : H t1 = some (.tup [.str a, .str b])) (h2 : H t2 = some (.tup [.str a, .str b])) (k : Q (.bl false) H) : rNeD K (.ref t1) (.ref t2) H Q := by
  refine use_neD (d := .tuple [.str a, .str b]) (e := .tuple [.str a, .str b]) (.tup (SqT.of h1) (.cons (.str _) (.cons (.str _) .nil))) (.tup (SqT.of h2) (.cons (.str _) (.cons (.str _) .nil))) (by simp [SeqAt.shaped, PyData.canLay0, PyData.canLayAll0, PyData.depth, PyData.depthAll, oa, ob]) (by simp [SeqAt.shaped, PyData.canLay0, PyData.canLayAll0, PyData.depth, PyData.depthAll, oa, ob]) ?_
  have e : PyData.eqv (.tuple [.str a, .str b]) (.tuple [.str a, .str b]) = true := by simp [PyData.eqv, PyData.eqvAll]
  rw [e]
  exact k
theorem dv_len {v : V} (h : v = .non ∨ ∃ j : Int, v = .int j ∧ Sm j) : (dv v).showable = true ∧ (dv v).hasDict = false ∧ (dv v).depth = 0 ∧ (dv v).shown.length ≤ 1921 ∧ Dp K H v (dv v) := by
  rcases h with rfl | ⟨j, rfl, hj⟩
  · exact ⟨rfl, rfl, rfl, by show (PyData.shown .none).length ≤ 1921; decide +kernel, .non⟩
  · exact ⟨decide_eq_true (sm_log hj), rfl, rfl, sm_len hj, .int j⟩
theorem use_repr2 {l : Addr} {i : Int} {v : V} (h : H l = some (.lst [.int i, v])) (s1 : Sm i) (s2 : v = .non ∨ ∃ j : Int, v = .int j ∧ Sm j) (k : Q (.str (PyData.list [.int i, dv v]).shown) H) : rRepr K [.ref l] H Q := by
  obtain ⟨a1, a2, a3, a4, a5⟩ := dv_len (K := K) (H := H) s2
  refine ⟨_, .list [.int i, dv v], rfl, .lst (SqL.of h) (.cons (.int _) (.cons a5 .nil)), ?_, ?_, ?_, ?_, k⟩
  · simp only [PyData.showable, PyData.showableAll, a1, Bool.and_true, decide_eq_true_eq]
    exact sm_log s1
  · simp [PyData.hasDict, PyData.hasDictAll, a2]
  · simp [PyData.depth, PyData.depthAll, a3]
  · have e := listText_len_le [Str.ofString (toString i), (dv v).shown]
    have l1 := sm_len s1
    simp only [List.map_cons, List.map_nil, List.sum_cons, List.sum_nil, List.length_cons, List.length_nil] at e
    rw [sizeLine_eq]
    show (listText [Str.ofString (toString i), (dv v).shown]).length ≤ 16777216
    omega
/-- x and y of truths that only look -/
theorem and_bl {ta tb : TE} {σ : L2.St} {c d : Bool} (ha : ∀ R : VK, R (.bl c) H → ta σ H R) (hb : c = true → ∀ R : VK, R (.bl d) H → tb σ H R) (k : Q (.bl (c && d)) H) : tAndV ta tb σ H Q := by
  refine ha _ ⟨c, rfl, ?_⟩
  cases c with
  | false => exact iteF k
  | true => exact iteT (hb rfl _ (by simpa using k))
theorem or_bl {ta tb : TE} {σ : L2.St} {c d : Bool} (ha : ∀ R : VK, R (.bl c) H → ta σ H R) (hb : c = false → ∀ R : VK, R (.bl d) H → tb σ H R) (k : Q (.bl (c || d)) H) : tOrV ta tb σ H Q := by
  refine ha _ ⟨c, rfl, ?_⟩
  cases c with
  | false => exact iteF (hb rfl _ (by simpa using k))
  | true => exact iteT k
/-- [e for x in xs if t], no x of which t -/
theorem lc_noneL {tt : TT} {te : TE} {σ : L2.St} {i : Nat} {a : Addr} {xs : List V} (hS : SqL K H a xs) (hev : ∀ (j : Nat) (x : V) (H1 : Hp) (R : Bool → Hp → Prop), xs[j]? = some x → Same H H1 → (∀ H2, Same H1 H2 → R false H2) → tt ((wipe σ [i]).set i (some x)) H1 R)
    (k : ∀ (D : Addr) (H' : Hp), H D = none → H' D = some (.lst []) → Same H H' → Q (.ref D) H') : ∃ a', V.ref a = .ref a' ∧ (∃ xs, SqL K H a' xs) ∧ LcK (gName i) tt te [i] σ Q (Itl K a') H := by
  refine ⟨a, rfl, ⟨_, hS⟩, fun D hD => lc_list (K := K) (a := a) (xs := xs) (g := gName i) (tt := tt) (te := te) (vs := [i]) (σ := σ) (Qd := fun H => Q (.ref D) H) (fun j H' => H' D = some (.lst []) ∧ Same H H') ⟨upd_same, Same.new hD⟩ (fun j H' _ ⟨_, s⟩ => s.seq hS) ?_ ?_⟩
  · rintro j x H1 hx ⟨e, s⟩
    refine ⟨wipe1, ?_⟩
    refine hev j x H1 _ hx s fun H2 s2 => ?_
    exact iteF ⟨s2 _ _ e, s.trans s2⟩
  · rintro H1 ⟨e, s⟩
    exact k D H1 hD e s
end
/-- a def with one default that is None -/
theorem funDN_mk {K : PySem.W.Frag} {f T : Addr} {od an : Option Addr} {osl : Array (Option Value)} {oc kV doc pm cdv ct : Value} {x qual : Str} {st : Stmt} {c2 : Value} {d2 : Option Addr} {n2 : Nat} {sl2 : Array (Option Value)}
    (l : K.lookup f = some ⟨oc, od, .func (PySem.W.fnOf x qual (defArgs st) (defBody st) (defScope st) (.ref T) kV doc pm an cdv ct), osl⟩) (lT : K.lookup T = some ⟨c2, d2, .seq #[.none] n2, sl2⟩) (c : PySem.W.codeIn K cdv qual = true) (k : PySem.W.keepIn K (.ref f) = true) :
    FunD K x qual (defArgs st) (defBody st) (defScope st) [.non] [] f (PySem.W.fnOf x qual (defArgs st) (defBody st) (defScope st) (.ref T) kV doc pm an cdv ct) :=
  ⟨⟨oc, od, .ref T, kV, doc, pm, an, cdv, ct, osl, rfl, l, c, .inr ⟨fun z => (nomatch z), T, _, [.none], n2, rfl, lT, rfl, .cons rfl .nil⟩, .inl rfl⟩, k⟩
theorem kitOne_ty {K : PySem.W.Frag} {C : Addr} {T : String} (i : PySem.W.isClsIn K C = true) (t : PySem.W.typeIn K (.ref C) = some (.type "type")) (s : PySem.W.subIn K (.type T) (.ref C) = some false) : PySem.W.kitOne K (.type T) (.ref C) = some false := kitOne_mk i t s
end Hf

namespace Hf
open PySem PySem.Spec PyProof.Rows L2
/-! ### places that may be refused -/
/-- an error of the class at CB with these fields is let out, from a heap that only grew -/
def LetS (E : XK) (CB : Addr) (H : Hp) (fs : List (Str × V)) : Prop := ∀ (d : Addr) (H' : Hp), H' d = some (.xd fs) → Same H H' → E (.ref CB) (some d) H'
theorem LetS.same {E : XK} {CB : Addr} {H H' : Hp} {fs : List (Str × V)} (h : LetS E CB H fs) (e : Same H H') : LetS E CB H' fs := fun d H2 a b => h d H2 a (e.trans b)
/-- Place(slope, offset, odd) by its __init__: made, or the first wrong part is told -/
def spPlX (K : PySem.W.Frag) (C CB : Addr) : Sp := fun vs H Q E => ∃ (p dx : Addr) (v1 v2 v3 : V), vs = [.ref p, v1, v2, v3] ∧ H p = some (.ins C dx []) ∧
  ((NotW K H v1 ∧ LetS E CB H [("part", .str "slope")]) ∨ ∃ s : Int, v1 = .int s ∧ ((NotW K H v2 ∧ LetS E CB H [("part", .str "offset")]) ∨ ∃ o : Int, v2 = .int o ∧ ((NotW K H v3 ∧ LetS E CB H [("part", .str "odd")]) ∨
    ∃ d : Int, v3 = .int d ∧ ∀ H', H' p = some (.ins C dx (plF s o d)) → Keep p H H' → Q .non H')))
/-- place(size): the value, or BadSize -/
def spPlAtX (K : PySem.W.Frag) (C CS : Addr) : Sp := fun vs H Q E => ∃ (p : Addr) (s o d : Int) (v : V), vs = [.ref p, v] ∧ PlaceAt C H p s o d ∧ ((LoBad K H v ∧ LetS E CS H [("part", .str "size")]) ∨ ∃ n : Int, v = .int n ∧ 1 ≤ n ∧ Sm s ∧ Sm d ∧ Sm n ∧ Q (.int (plv s o d n)) H)
def spNeedX (K : PySem.W.Frag) (CB : Addr) : Sp := fun vs H Q E => ∃ v : V, vs = [v] ∧ ((NotW K H v ∧ LetS E CB H [("part", .str "offset")]) ∨ ∃ i : Int, v = .int i ∧ Q .non H)
/-- from_left(k) and its like -/
def spFromX (K : PySem.W.Frag) (C CB : Addr) (g : Int → Int × Int × Int) : Sp := fun vs H Q E => ∃ v : V, vs = [v] ∧ ((NotW K H v ∧ LetS E CB H [("part", .str "offset")]) ∨ ∃ k : Int, v = .int k ∧ NewPl C H (g k).1 (g k).2.1 (g k).2.2 Q)
theorem use_plX {K : PySem.W.Frag} {C CB : Addr} {H : Hp} {s o d : Int} {Q : VK} {E : XK} (k : NewPl C H s o d Q) : MakeK C (spPlX K C CB) E Q [.int s, .int o, .int d] H := by
  intro x dx hx hdx hne
  refine ⟨x, dx, _, _, _, rfl, upd_same, .inr ⟨s, rfl, .inr ⟨o, rfl, .inr ⟨d, rfl, fun H' hp kp => ⟨rfl, k x H' hx ⟨dx, hp⟩ fun b u e => ?_⟩⟩⟩⟩⟩
  refine kp b u ?_ (ne_of_none e hx)
  rw [upd_ne (ne_of_none e hx), upd_ne (ne_of_none e hdx)]
  exact e
end Hf

namespace Hf
open PySem PySem.Spec PyProof.Rows L2
/-! ### calls by keyword alone -/
/-- f(k = ..): a def of the module; q puts the keywords' values in the parameters' order -/
def CalK (P : Program) (w : World) (K : PySem.W.Frag) (mg : Str → Option Value) (base : Heap) (k : Nat) (x : Str) (ks : List Str) (q : List V → List V) (sp : Sp) : Prop :=
  ∃ (f : Addr) (fd : FuncData) (ps : List Str) (g : List Value → List Value → List Value) (gV : List V → List V → List V), FnOk P w K mg base (L2.CX P w) k f fd ps sp ∧ mg x = some (.ref f) ∧ PySem.W.keepIn K (.ref f) = true ∧ KBn K fd ps 0 ks g gV ∧ ∀ zs : List V, zs.length = ks.length → gV [] zs = q zs
/-- what stands behind the keywords' values -/
def ClKK (m : Nat) (q : List V → List V) (sp : Sp) (E : XK) (Q : VK) (zs : List V) (H : Hp) : Prop := zs.length = m ∧ sp (q zs) H Q E
def tClK (m : Nat) (q : List V → List V) (sp : Sp) (E : XK) (tk : TA) : TE := fun σ H Q => tk σ H (ClKK m q sp E Q)
theorem rd_clK {m : Nat} {q : List V → List V} {sp : Sp} {E : XK} {tk : TA} {σ : L2.St} {H : Hp} {Q : VK} (k : tk σ H (ClKK m q sp E Q)) : tClK m q sp E tk σ H Q := k
theorem run_fnN {X : Cx} {k n : Nat} {f : Addr} {fd : FuncData} {ps ks : List Str} {sp : Sp} {E : XK} {g : List Value → List Value → List Value} {gV : List V → List V → List V} {A : Around} {pins : List (Addr × Obj)} {σ : L2.St} {H : Hp} {s : Shared} {Q : VK} {us ws : List Value} {vs zs : List V} (F : FnOk X.prog X.w X.K X.mg X.base (L2.CX X.prog X.w) k f fd ps sp) (hr : Room k X.A) (hb : KBn X.K fd ps n ks g gV) (hx : Passes (L2.CX X.prog X.w) X E)
    (I : Inv X pins σ H s) (r : Vals vs us) (rz : Vals zs ws) (l1 : us.length = n) (l2 : ws.length = ks.length) (h : sp (gV vs zs) H Q E) : codeAny (model X.prog X.w) X.A (.call (.ref f) ⟨us, ks.zip ws⟩) (fun r s' => match r with | .error e => X.xe e s' | .ok (.ret u) => EP X pins σ Q u s' | _ => False) s := by
  refine codeAny_mono (F.run X.A X.stack s H ⟨us, ks.zip ws⟩ (g us ws) (gV vs zs) Q E hr I.env0 (hb.to s us ws I.kIn l1 l2) (hb.rel r rz) h) fun r s' hq => ?_
  cases r with
  | error e => exact hx pins σ H s e s' I hq
  | ok fl =>
    cases fl with
    | ret u => exact I.after hq
    | next => exact False.elim hq
    | brk => exact False.elim hq
    | cont => exact False.elim hq
theorem pe_clK {X : Cx} {k j : Nat} {x : Str} {ks : List Str} {q : List V → List V} {sp : Sp} {E : XK} {kws : List Keyword} {tk : TA} {p pos : Pos} (M : CalK X.prog X.w X.K X.mg X.base k x ks q sp) (hr : Room j X.A) (hx : Passes (L2.CX X.prog X.w) X E) (hkw : PK X kws tk) (hk : k ≤ j := by decide) (hg : Gl X x := by rfl)
    (hall : (backToKw pos (keywordEach kws X.env)).all (·.1.isSome) = true := by rfl) (hks : (backToKw pos (keywordEach kws X.env)).filterMap (·.1) = ks := by rfl) (hdb : (x == ("__debug__" : Str)) = false := by decide)
    (hpl : ((backTo pos (starEach [] X.env)).any (·.1) || (backToKw pos (keywordEach kws X.env)).any (·.1.isNone)) = false := by rfl) : PE X (.Call (.Name x p) [] kws pos) (tClK ks.length q sp E tk) := by
  obtain ⟨f, fd, ps, g, gV, F, hm, kp, hb, hgv⟩ := M
  refine ⟨fun pins s σ H Q I h => ?_⟩
  refine wpAny_Call_Name_kw (ld_glob I hg hm ?_ hdb)
  refine PySem.W.callWith_KW0 (h₀ := X.base) I.ok.mod.kin kp hall ?_ hpl
  refine thn (hkw.run pos pins s σ H _ I h) fun ws s2 ⟨zs, H2, I2, rz, l2, q2⟩ => ⟨I2.kIn, ?_⟩
  rw [hks]
  refine wpAny_call (codeAny_mono (run_fnN (A := X.A) (us := []) (vs := []) F (hr.mono hk) hb hx I2 .nil rz rfl (rz.length.symm.trans l2) (by rw [hgv _ l2]; exact q2)) fun r s' z => ?_)
  cases r with
  | error e => exact z
  | ok fl => cases fl <;> exact z
/-! ### an instance called by keyword -/
theorem callO_kw {M : Model} {A : Around} {E : Value → Shared → Prop} {s : Shared} {a : Addr} {pos : Pos} {Q : Value → Shared → Prop} {args : List (Bool × Sem Value)} {keywords : List (Option Str × Sem Value)} (hplain : (args.any (·.1) || keywords.any (·.1.isNone)) = false)
    (h : wpAny M A (evalArgs (.ref a) true args keywords) (fun z s₁ => (∃ C ox od, PySem.W.InstAt s₁.heap a ox C od ∧ ox.data = .plain) ∧ wpAny M A (call (.ref a) ([] ++ z.pos) z.kw) Q E s₁) E s) : wpAny M A (callWith pos (.ref a) [] args keywords) Q E s := by
  unfold callWith
  refine wpAny_bind (wpAny_holding (wpAny_mono h (fun z s₁ h₁ => wpAny_bind (wpAny_standAt ?_)) fun _ _ y => y))
  obtain ⟨⟨C, ox, od, J, hd⟩, h₁⟩ := h₁
  have L := PySem.W.kco_keeper (M := M) J hd
  simp only [hplain]
  refine wpAny_bind (L.here ?_)
  have tail : ∀ {t : Sem Value}, wpAny M A t Q E s₁ → wpAny M A (t >>= fun r => holding [r] point >>= fun _ => pure r) Q E s₁ :=
    fun ht => wpAny_bind (wpAny_mono ht (fun r s₂ hr => wpAny_bind (wpAny_holding (wpAny_point (wpAny_pure hr)))) fun _ _ y => y)
  exact tail (wpAny_operateT h₁)
/-- a method of C called by keyword -/
def MetK (P : Program) (w : World) (K : PySem.W.Frag) (mg : Str → Option Value) (base : Heap) (k : Nat) (C : Addr) (m : Str) (ks : List Str) (sp : Sp) : Prop :=
  ∃ (f : Addr) (fd : FuncData) (ps : List Str) (g : List Value → List Value → List Value) (gV : List V → List V → List V), FnOk P w K mg base (L2.CX P w) k f fd ps sp ∧ PySem.W.findIn K (.ref C) m = some (some (.ref f)) ∧ PySem.W.isFn K (.ref f) = true ∧ PySem.W.fnIn K f = true ∧ KBn K fd ps 1 ks g gV ∧ ∀ (v : V) (zs : List V), zs.length = ks.length → gV [v] zs = v :: zs
def CkK (C a : Addr) (m : Nat) (sp : Sp) (E : XK) (Q : VK) (zs : List V) (H : Hp) : Prop := zs.length = m ∧ (∃ dx fs, H a = some (.ins C dx fs)) ∧ sp (.ref a :: zs) H Q E
def tCallIK (C : Addr) (m : Nat) (sp : Sp) (E : XK) (tf : TE) (tk : TA) : TE := fun σ H Q => tf σ H fun y H1 => ∃ a, y = V.ref a ∧ tk σ H1 (CkK C a m sp E Q)
theorem rd_callIK {C : Addr} {m : Nat} {sp : Sp} {E : XK} {tf : TE} {tk : TA} {σ : L2.St} {H : Hp} {Q : VK} (k : tf σ H fun y H1 => ∃ a, y = V.ref a ∧ tk σ H1 (CkK C a m sp E Q)) : tCallIK C m sp E tf tk σ H Q := k
theorem pe_callIK {X : Cx} {k j : Nat} {C : Addr} {ks : List Str} {sp : Sp} {E : XK} {kws : List Keyword} {tk : TA} {pos : Pos} {fe : Expr} {tf : TE} (hf : PE X fe tf) (M : MetK X.prog X.w X.K X.mg X.base k C "__call__" ks sp) (hr : Room j X.A) (hx : Passes (L2.CX X.prog X.w) X E) (hkw : PK X kws tk) (hk : k ≤ j := by decide)
    (ht : eval (.Call fe [] kws pos) X.env = (do callWith pos (← eval fe X.env) [] (backTo pos (starEach [] X.env)) (backToKw pos (keywordEach kws X.env))) := by rfl)
    (hall : (backToKw pos (keywordEach kws X.env)).all (·.1.isSome) = true := by rfl) (hks : (backToKw pos (keywordEach kws X.env)).filterMap (·.1) = ks := by rfl)
    (hpl : ((backTo pos (starEach [] X.env)).any (·.1) || (backToKw pos (keywordEach kws X.env)).any (·.1.isNone)) = false := by rfl) : PE X (.Call fe [] kws pos) (tCallIK C ks.length sp E tf tk) := by
  obtain ⟨f, fd, ps, g, gV, F, at_, fn, fi, hb, hgv⟩ := M
  refine ⟨fun pins s σ H Q I h => ?_⟩
  rw [ht]
  refine wpAny_bind (thn (hf.run pins s σ H _ I h) fun u s1 ⟨y, H1, I1, ry, a, ey, q⟩ => ?_)
  subst ey
  obtain rfl : u = Value.ref a := ry
  refine callO_kw hpl (evalArgs_kw2_nil hall (thn (hkw.run pos pins s1 σ H1 _ I1 q) fun ws s2 ⟨zs, H2, I2, rz, l2, hi, q2⟩ => ?_))
  have hi' : StX.InsC X H2 a C := .inr hi
  obtain ⟨ox, od, J, hd⟩ := StX.insC_at I2 hi'
  refine ⟨⟨C, ox, od, J, hd⟩, ?_⟩
  rw [hks]
  refine wpAny_call (PySem.W.kco_code I2.kIn J hd at_ fn fi (codeAny_mono (run_fnN (A := X.A) (us := [.ref a]) (vs := [.ref a]) F (hr.mono hk) hb hx I2 (.cons rfl .nil) rz rfl (rz.length.symm.trans l2) (by rw [hgv _ _ l2]; exact q2)) fun r s' z => ?_))
  cases r with
  | error e => exact z
  | ok fl => cases fl <;> exact z
/-! ### places compared with anything -/
def spPlEqX (K : PySem.W.Frag) (C : Addr) : Sp := fun vs H Q _ => ∃ (p : Addr) (s o d : Int) (v : V), vs = [.ref p, v] ∧ PlaceAt C H p s o d ∧ ((∃ (q : Addr) (s' o' d' : Int), v = .ref q ∧ PlaceAt C H q s' o' d' ∧ Q (.bl (decide (s = s') && decide (o = o') && decide (d = d'))) H) ∨ ∃ t : Value, TyX K H v t ∧ PySem.W.kitOne K t (.ref C) = some false ∧ Q (.bl false) H)
section
variable {K : PySem.W.Frag} {mg : Str → Option Value} {C CB CS p q : Addr} {E : XK} {Q : VK} {H : Hp} {s o d s' o' d' n : Int}
theorem use_plE (C0 : PlC K mg C) (h1 : PlaceAt C H p s o d) (h2 : PlaceAt C H q s' o' d') (k : Q (.bl (decide (s = s') && decide (o = o') && decide (d = d'))) H) : rEqX K C (spPlEqX K C) E (.ref p) (.ref q) H Q := by
  obtain ⟨dx, e1⟩ := h1
  obtain ⟨dy, e2⟩ := h2
  exact ⟨p, dx, _, .ref C, rfl, e1, C0.ty e2, notFirst_self, p, s, o, d, _, rfl, ⟨dx, e1⟩, .inl ⟨q, s', o', d', rfl, ⟨dy, e2⟩, _, rfl, k⟩⟩
theorem use_plEV {v : V} {t : Value} (h1 : PlaceAt C H p s o d) (ty : TyX K H v t) (h : PySem.W.subIn K t (.ref C) = some false) (h2 : PySem.W.kitOne K t (.ref C) = some false) (k : Q (.bl false) H) : rEqX K C (spPlEqX K C) E (.ref p) v H Q := by
  obtain ⟨dx, e1⟩ := h1
  exact ⟨p, dx, _, t, rfl, e1, ty, notFirst_of h, p, s, o, d, _, rfl, ⟨dx, e1⟩, .inr ⟨t, ty, h2, _, rfl, k⟩⟩
theorem use_atX (h1 : PlaceAt C H p s o d) (hs : Sm s) (hd : Sm d) (hn : Sm n) (h0 : 1 ≤ n) (k : Q (.int (plv s o d n)) H) : (∃ dx fs, H p = some (.ins C dx fs)) ∧ spPlAtX K C CS [.ref p, .int n] H Q E := by
  obtain ⟨dx, e1⟩ := h1
  exact ⟨⟨dx, _, e1⟩, p, s, o, d, _, rfl, ⟨dx, e1⟩, .inr ⟨n, rfl, h0, hs, hd, hn, k⟩⟩
/-- Place(v1, v2, v3), made or refused -/
theorem use_plR {v1 v2 v3 : V} (h : (NotW K H v1 ∧ LetS E CB H [("part", .str "slope")]) ∨ ∃ s : Int, v1 = .int s ∧ ((NotW K H v2 ∧ LetS E CB H [("part", .str "offset")]) ∨ ∃ o : Int, v2 = .int o ∧ (NotW K H v3 ∧ LetS E CB H [("part", .str "odd")]))) : MakeK C (spPlX K C CB) E Q [v1, v2, v3] H := by
  intro x dx hx hdx hne
  have sm : Same H (upd (upd H dx (.own x)) x (.ins C dx [])) := fun b u e => by
    rw [upd_ne (ne_of_none e hx), upd_ne (ne_of_none e hdx)]
    exact e
  refine ⟨x, dx, v1, v2, v3, rfl, upd_same, ?_⟩
  rcases h with ⟨hl, k⟩ | ⟨i, rfl, ⟨hl, k⟩ | ⟨j, rfl, hl, k⟩⟩
  · exact .inl ⟨hl.same sm, k.same sm⟩
  · exact .inr ⟨i, rfl, .inl ⟨hl.same sm, k.same sm⟩⟩
  · exact .inr ⟨i, rfl, .inr ⟨j, rfl, .inl ⟨hl.same sm, k.same sm⟩⟩⟩
end
/-- Place(slope, offset), from_left() -/
def spPlX2 (K : PySem.W.Frag) (C CB : Addr) : Sp := fun vs H Q E => spPlX K C CB (vs ++ [.int 0]) H Q E
def spFromX0 (K : PySem.W.Frag) (C CB : Addr) (g : Int → Int × Int × Int) : Sp := fun vs H Q E => spFromX K C CB g (vs ++ [.int 0]) H Q E
/-! ### what the law of places draws -/
def spLNum : Sp := fun vs H Q _ => ∃ b : Addr, vs = [.ref b] ∧ Bag H b ∧ ∀ (i : Int) (H' : Hp), -10000000000000000000000000000000000000000 ≤ i → i ≤ 10000000000000000000000000000000000000000 → Bag H' b → Keep b H H' → Q (.int i) H'
def spLOdd (K : PySem.W.Frag) : Sp := fun vs H Q _ => ∃ b c : Addr, vs = [.ref b] ∧ BagC H b c ∧ ∀ (v : V) (H' : Hp), (∀ p o, H p = some o → v ≠ .ref p) → NotW K H' v → BagC H' b c → Keep b H H' → Q v H'
def spLSorts : Sp := fun vs H Q _ => ∃ k : Int, vs = [.int k] ∧ ∀ H', Same H H' → Q (.bl true) H'
inductive F2 {α β : Type} (R : α → β → Prop) : List α → List β → Prop
  | nil : F2 R [] []
  | cons {a : α} {b : β} {as : List α} {bs : List β} : R a b → F2 R as bs → F2 R (a :: as) (b :: bs)
theorem F2.imp {α β : Type} {R S : α → β → Prop} (f : ∀ a b, R a b → S a b) {as : List α} {bs : List β} (h : F2 R as bs) : F2 S as bs := by
  induction h with
  | nil => exact .nil
  | cons x r ih => exact .cons (f _ _ x) ih
theorem F2.append {α β : Type} {R : α → β → Prop} {as cs : List α} {bs ds : List β} (h : F2 R as bs) (g : F2 R cs ds) : F2 R (as ++ cs) (bs ++ ds) := by
  induction h with
  | nil => exact g
  | cons x r ih => exact .cons x ih
/-- [(..) for x in xs]: a new tuple for each -/
theorem lc_mapT {K : PySem.W.Frag} {σ : L2.St} {H : Hp} {Q : VK} {te : TE} {i : Nat} {a : Addr} {xs : List V} (G : Nat → List V) (hS : SqL K H a xs) (hl : xs.length ≤ 1000)
    (hev : ∀ (j : Nat) (x : V) (H1 : Hp) (R : VK), xs[j]? = some x → Same H H1 → (∀ (t : Addr) (H2 : Hp), H1 t = none → H2 t = some (.tup (G j)) → Same H1 H2 → R (.ref t) H2) → te ((wipe σ [i]).set i (some x)) H1 R)
    (k : ∀ (D : Addr) (ts : List Addr) (H' : Hp), H D = none → H' D = some (.lst (ts.map V.ref)) → F2 (fun t g => H' t = some (.tup g)) ts ((List.range xs.length).map G) → Same H H' → Q (.ref D) H') : ∃ a', V.ref a = .ref a' ∧ (∃ xs, SqL K H a' xs) ∧ LcK (gName i) tYes te [i] σ Q (Itl K a') H := by
  refine ⟨a, rfl, ⟨_, hS⟩, fun D hD => lc_list (K := K) (a := a) (xs := xs) (g := gName i) (tt := tYes) (te := te) (vs := [i]) (σ := σ) (Qd := fun H => Q (.ref D) H) (fun j H' => (∃ ts : List Addr, ts.length = j ∧ H' D = some (.lst (ts.map V.ref)) ∧ F2 (fun t g => H' t = some (.tup g)) ts ((List.range j).map G)) ∧ Same H H') ⟨⟨[], rfl, upd_same, .nil⟩, Same.new hD⟩ (fun j H' _ ⟨_, s⟩ => s.seq hS) ?_ ?_⟩
  · rintro j x H1 hx ⟨⟨ts, hlen, e, hf⟩, s⟩
    refine ⟨wipe1, ?_⟩
    refine rd_yes ?_
    refine iteT ?_
    have hj : j < xs.length := (List.getElem?_eq_some_iff.mp hx).1
    refine hev j x H1 _ hx s fun t H2 nt et s2 => ⟨_, s2 _ _ e, ?_, ⟨ts ++ [t], ?_, ?_, ?_⟩, Same.mut (s.trans s2) hD⟩
    · rw [List.length_map, hlen]
      exact small1000 (by omega)
    · rw [List.length_append, hlen]
      rfl
    · rw [upd_same, List.map_append]
      rfl
    · have up : ∀ {b : Addr} {g : List V}, H2 b = some (.tup g) → upd H2 D (.lst (ts.map V.ref ++ [V.ref t])) b = some (.tup g) := fun {b g} h => by
        rw [upd_ne (ne_of h (s2 _ _ e) (by intro z; cases z))]
        exact h
      rw [List.range_succ, List.map_append]
      exact (hf.imp fun b g h => up (s2 _ _ h)).append (.cons (up et) .nil)
  · rintro H1 ⟨⟨ts, hlen, e, hf⟩, s⟩
    exact k D ts H1 hD e hf s
/-- e.f within a comprehension: the reading names the written part alone -/
theorem pe_fldB {X : Cx} {K : PySem.W.Frag} {e : Expr} {f : Str} {pos : Pos} {ta : TE} (he : PE X e ta) (hb : attributeBase e f X.env (eval e X.env) = eval e X.env) (hK : X.K = K := by rfl) : PE X (.Attribute e f pos) (tFld K ta f) := by
  subst hK
  exact pe_fld he hb
theorem ix_listB {X : Cx} {K : PySem.W.Frag} (hK : X.K = K := by rfl) : IxR X (rIxL K) := by
  subst hK
  exact ix_list
theorem ix_tupB {X : Cx} {K : PySem.W.Frag} (hK : X.K = K := by rfl) : IxR X (rIxT K) := by
  subst hK
  exact ix_tup
theorem rd_gsub {to ti : TE} {t : TSet} {v : V} {σ : L2.St} {H : Hp} {Q : L2.St → Hp → Prop} (q : to σ H fun o H1 => ti σ H1 fun i H2 => t o i v H2 fun H3 => Q σ H3) : gSub to ti t v σ H Q := q
theorem Keep.upd {p : Addr} {H : Hp} {o : HO} : Keep p H (upd H p o) := fun a u h n => by rw [upd_ne n]; exact h
theorem tabs_keepL {T : List (Addr × Str)} {H H' : Hp} {p : Addr} {xs : List V} (t : LamX.Tabs T H) (hp : H p = some (.lst xs)) (e : Keep p H H') : LamX.Tabs T H' := by
  intro z hz
  obtain ⟨ps, h1, h2, h3⟩ := t z hz
  refine ⟨ps, e _ _ h1 (ne_of h1 hp (by intro z; cases z)), h2, fun pos cv hc => ?_⟩
  obtain ⟨c, e1, e2⟩ := h3 pos cv hc
  refine ⟨c, e1, e _ _ e2 (ne_of e2 hp (by intro z; unfold LamX.CodeO at z; cases z))⟩
theorem BagC.extN {b c : Addr} {H H' : Hp} (h : BagC H b c) (e : LamX.ExtN H H') : BagC H' b c := by
  obtain ⟨cs, a, r, s, h1, h2, q⟩ := h
  exact ⟨cs, a, r, s, e _ _ h1 (fun ps z => by cases z), e _ _ h2 (fun ps z => by cases z), q⟩
theorem use_plX2 {K : PySem.W.Frag} {C CB : Addr} {H : Hp} {s o : Int} {Q : VK} {E : XK} (k : NewPl C H s o 0 Q) : MakeK C (spPlX2 K C CB) E Q [.int s, .int o] H := use_plX (K := K) (CB := CB) (E := E) k
/-- a list is changed: types stay -/
theorem TyX.mutL {K : PySem.W.Frag} {H : Hp} {p : Addr} {xs ys : List V} {v : V} {t : Value} (h : TyX K H v t) (hp : H p = some (.lst xs)) : TyX K (upd H p (.lst ys)) v t := by
  have up : ∀ {a : Addr} {o : HO}, H a = some o → (∀ zs, o ≠ .lst zs) → upd H p (.lst ys) a = some o := fun {a o} h n => by
    have : a ≠ p := fun z => by
      rw [z, hp] at h
      cases h
      exact n _ rfl
    rw [upd_ne this]
    exact h
  cases h with
  | base c =>
    cases c with
    | non => exact .base .non
    | bl y => exact .base (.bl y)
    | int y => exact .base (.int y)
    | str y => exact .base (.str y)
    | flt y => exact .base (.flt y)
    | @lst a zs h =>
      by_cases z : a = p
      · rw [z]
        exact .base (.lst upd_same)
      · exact .base (.lst (by rw [upd_ne z]; exact h))
    | frz h => exact .base (.frz (up h (fun _ z => by cases z)))
    | tup h => exact .base (.tup (up h (fun _ z => by cases z)))
    | dK h => exact .base (.dK (up h (fun _ z => by cases z)))
    | dT h => exact .base (.dT (up h (fun _ z => by cases z)))
    | ins h a b c d f => exact .base (.ins (up h (fun _ z => by cases z)) a b c d f)
  | byt y => exact .byt y
  | set h => exact .set (up h (fun _ z => by cases z))
  | kList a b => exact .kList a b
  | kTuple a b => exact .kTuple a b
  | kDict a b => exact .kDict a b
  | fTuple h => exact .fTuple (up h (fun _ z => by cases z))
  | fDict h => exact .fDict (up h (fun _ z => by cases z))
theorem NotW.mutL {K : PySem.W.Frag} {H : Hp} {p : Addr} {xs ys : List V} {v : V} (h : NotW K H v) (hp : H p = some (.lst xs)) : NotW K (upd H p (.lst ys)) v := let ⟨t, b1, b2, a, b, c, d⟩ := h; ⟨t, b1, b2, TyX.mutL a hp, b, c, d⟩
/-- one of a place's three is none, the name of the first such -/
def PlBad (K : PySem.W.Frag) (H : Hp) (x y z : V) (nm : Str) : Prop := (nm = "slope" ∧ NotW K H x) ∨ (nm = "offset" ∧ (∃ s : Int, x = .int s) ∧ NotW K H y) ∨ (nm = "odd" ∧ (∃ s : Int, x = .int s) ∧ (∃ o : Int, y = .int o) ∧ NotW K H z)
theorem PlBad.extN {K : PySem.W.Frag} {H H' : Hp} {x y z : V} {nm : Str} (h : PlBad K H x y z nm) (e : LamX.ExtN H H') : PlBad K H' x y z nm := h.imp (fun ⟨a, b⟩ => ⟨a, b.extN e⟩) (fun h => h.imp (fun ⟨a, b, c⟩ => ⟨a, b, c.extN e⟩) (fun ⟨a, b, c, d⟩ => ⟨a, b, c, d.extN e⟩))
theorem use_plBad {K : PySem.W.Frag} {C CB : Addr} {H : Hp} {Q : VK} {E : XK} {x y z : V} {nm : Str} (h : PlBad K H x y z nm) (k : LetS E CB H [("part", .str nm)]) : MakeK C (spPlX K C CB) E Q [x, y, z] H := by
  rcases h with ⟨rfl, h⟩ | ⟨rfl, ⟨s, rfl⟩, h⟩ | ⟨rfl, ⟨s, rfl⟩, ⟨o, rfl⟩, h⟩
  · exact use_plR (.inl ⟨h, k⟩)
  · exact use_plR (.inr ⟨s, rfl, .inl ⟨h, k⟩⟩)
  · exact use_plR (.inr ⟨s, rfl, .inr ⟨o, rfl, h, k⟩⟩)
theorem ixN3 {i : Int} (h0 : 0 ≤ i) (h1 : i < 3) : ixN 3 i = some i.toNat := by
  have : i = 0 ∨ i = 1 ∨ i = 2 := by omega
  rcases this with rfl | rfl | rfl <;> rfl
theorem pl_wrong {K : PySem.W.Frag} {H : Hp} {s o d i j : Int} {v1 v2 : V} (h0 : 0 ≤ i) (h1 : i < 3) (h2 : 0 ≤ j) (h3 : j < 3) (w1 : NotW K H v1) (w2 : NotW K H v2) : ∃ (x y z : V) (nm : Str), ([V.int s, .int o, .int d].set i.toNat v1).set j.toNat v2 = [x, y, z] ∧
    atI [V.str "slope", V.str "offset", V.str "odd"] (if j < i then j else i) = some (.str nm) ∧ PyData.strOk nm = true ∧ PlBad K H x y z nm := by
  have : i = 0 ∨ i = 1 ∨ i = 2 := by omega
  have : j = 0 ∨ j = 1 ∨ j = 2 := by omega
  rcases ‹i = 0 ∨ _› with rfl | rfl | rfl <;> rcases ‹j = 0 ∨ _› with rfl | rfl | rfl
  · exact ⟨_, _, _, "slope", rfl, rfl, by decide +kernel, .inl ⟨rfl, w2⟩⟩
  · exact ⟨_, _, _, "slope", rfl, rfl, by decide +kernel, .inl ⟨rfl, w1⟩⟩
  · exact ⟨_, _, _, "slope", rfl, rfl, by decide +kernel, .inl ⟨rfl, w1⟩⟩
  · exact ⟨_, _, _, "slope", rfl, rfl, by decide +kernel, .inl ⟨rfl, w2⟩⟩
  · exact ⟨_, _, _, "offset", rfl, rfl, by decide +kernel, .inr (.inl ⟨rfl, ⟨_, rfl⟩, w2⟩)⟩
  · exact ⟨_, _, _, "offset", rfl, rfl, by decide +kernel, .inr (.inl ⟨rfl, ⟨_, rfl⟩, w1⟩)⟩
  · exact ⟨_, _, _, "slope", rfl, rfl, by decide +kernel, .inl ⟨rfl, w2⟩⟩
  · exact ⟨_, _, _, "offset", rfl, rfl, by decide +kernel, .inr (.inl ⟨rfl, ⟨_, rfl⟩, w2⟩)⟩
  · exact ⟨_, _, _, "odd", rfl, rfl, by decide +kernel, .inr (.inr ⟨rfl, ⟨_, rfl⟩, ⟨_, rfl⟩, w2⟩)⟩
theorem use_atBad {K : PySem.W.Frag} {C CS p : Addr} {H : Hp} {Q : VK} {E : XK} {s o d : Int} {v : V} (h1 : PlaceAt C H p s o d) (hl : LoBad K H v) (k : LetS E CS H [("part", .str "size")]) : (∃ dx fs, H p = some (.ins C dx fs)) ∧ spPlAtX K C CS [.ref p, v] H Q E := by
  obtain ⟨dx, e1⟩ := h1
  exact ⟨⟨dx, _, e1⟩, p, s, o, d, _, rfl, ⟨dx, e1⟩, .inl ⟨hl, k⟩⟩
theorem PlaceAt.extN {C : Addr} {H H' : Hp} {p : Addr} {s o d : Int} (h : PlaceAt C H p s o d) (e : LamX.ExtN H H') : PlaceAt C H' p s o d := let ⟨dx, h⟩ := h; ⟨dx, e _ _ h (fun ps z => by cases z)⟩
/-- what a law hears: two error classes -/
def THear2 (CP CS : Addr) (w1 w2 fld : Str) : (XK → Hp → VK → Prop) → Hp → VK → Prop := fun tl H Q =>
  tl (fun cls d H' => ∃ (dd : Addr) (fs : List (Str × V)) (v : V), d = some dd ∧ H' dd = some (.xd fs) ∧ fs.lookup fld = some v ∧ ((cls = .ref CP ∧ NewT Q [.str w1, v] H') ∨ (cls = .ref CS ∧ NewT Q [.str w2, v] H'))) H (fun v H' => NewT Q [.str "told", v] H')
theorem use_reprI {K : PySem.W.Frag} {H : Hp} {Q : VK} {i : Int} (h : i.natAbs < 2 ^ 1000) (k : Q (.str (PyData.int i).shown) H) : rRepr K [.int i] H Q :=
  have l : i.natAbs.log2 < 1920 := Nat.lt_trans (PySem.Flt.log2_lt_of (by decide) h) (by decide)
  ⟨_, .int i, rfl, .int _, decide_eq_true l, rfl, by show 0 ≤ 60; decide, Nat.le_trans (PyProof.Rows.int_text_len_1921 l) (by rw [sizeLine_eq]; decide), k⟩
theorem two_400 : (2 : Nat) ^ 200 * 2 ^ 200 = 2 ^ 400 := (Nat.pow_add 2 200 200).symm
theorem plv_small {s o d n : Int} (hs : s.natAbs < 2 ^ 200) (ho : o.natAbs < 2 ^ 200) (hd : d.natAbs < 2 ^ 200) (hn : n.natAbs < 2 ^ 200) : (plv s o d n).natAbs < 2 ^ 1000 := by
  unfold plv
  have c1 : (2 : Nat) < 2 ^ 200 := by decide
  have c2 : (n / 2).natAbs < 2 ^ 200 := by omega
  have c3 : (n % 2).natAbs < 2 ^ 200 := by omega
  have a1 : (s * (n / 2)).natAbs < 2 ^ 400 := by
    rw [Int.natAbs_mul, ← two_400]
    exact Nat.mul_lt_mul'' hs c2
  have a2 : (d * (n % 2)).natAbs < 2 ^ 400 := by
    rw [Int.natAbs_mul, ← two_400]
    exact Nat.mul_lt_mul'' hd c3
  have b1 : (2 : Nat) ^ 400 + 2 ^ 200 + 2 ^ 400 < 2 ^ 1000 := by decide +kernel
  have t1 := Int.natAbs_add_le (s * (n / 2) + o) (d * (n % 2))
  have t2 := Int.natAbs_add_le (s * (n / 2)) o
  generalize (2 : Nat) ^ 400 = X at *
  generalize (2 : Nat) ^ 1000 = Y at *
  generalize (2 : Nat) ^ 200 = Z at *
  omega
end Hf
namespace Hf
open PySem PySem.Spec PyProof.Rows L2
theorem kitOne_ref {K : PySem.W.Frag} {C D : Addr} {b : Bool} (i : PySem.W.isClsIn K C = true) (t : PySem.W.typeIn K (.ref C) = some (.type "type")) (s : PySem.W.subIn K (.ref D) (.ref C) = some b) (n : (D == C) = false) : PySem.W.kitOne K (.ref D) (.ref C) = some b := by
  have i' : (PySem.W.clsIn K C).isSome = true := i
  have e : (Value.ref D == Value.ref C) = false := Bool.eq_false_iff.mpr fun q => by
    rw [Value.ref.inj (beq_iff_eq.mp q)] at n
    simp at n
  unfold PySem.W.kitOne PySem.W.kitCls
  rw [e, if_neg Bool.false_ne_true]
  dsimp only
  rw [i', t]
  simpa using s
end Hf

namespace Kx
open PySem PySem.Spec PyProof.Rows L2 Hf
def top (i : Nat) : Stmt := PySem.Challenge.pw_heldfloods_k02_places_at_sizes.main.body.getD i (.Pass ⟨0, 0, 0, 0⟩)
abbrev s_BadPlace_init : Stmt := (inClass (top 2) 0)
abbrev s_BadSize_init : Stmt := (inClass (top 3) 0)
abbrev s_is_whole : Stmt := (top 7)
theorem sc_is_whole : FnScope ["value"] ["value"] (defScope s_is_whole) := ⟨rfl, rfl, rfl, by decide +kernel, rfl, by decide +kernel, by decide +kernel⟩
abbrev s_value_at : Stmt := (top 9)
theorem sc_value_at : FnScope ["slope", "offset", "odd", "size"] ["slope", "offset", "odd", "size"] (defScope s_value_at) := ⟨rfl, rfl, rfl, by decide +kernel, rfl, by decide +kernel, by decide +kernel⟩
abbrev s_Place_init : Stmt := (inClass (top 11) 0)
theorem sc_Place_init : FnScope ["self", "slope", "offset", "odd", "part", "value"] ["self", "slope", "offset", "odd"] (defScope s_Place_init) := ⟨rfl, rfl, rfl, by decide +kernel, rfl, by decide +kernel, by decide +kernel⟩
abbrev s_Place_call : Stmt := (inClass (top 11) 2)
theorem sc_Place_call : FnScope ["self", "size"] ["self", "size"] (defScope s_Place_call) := ⟨rfl, rfl, rfl, by decide +kernel, rfl, by decide +kernel, by decide +kernel⟩
abbrev s_Place_eq : Stmt := (inClass (top 11) 8)
theorem sc_Place_eq : FnScope ["self", "other"] ["self", "other"] (defScope s_Place_eq) := ⟨rfl, rfl, rfl, by decide +kernel, rfl, by decide +kernel, by decide +kernel⟩
abbrev s_need_offset : Stmt := (top 12)
theorem sc_need_offset : FnScope ["value"] ["value"] (defScope s_need_offset) := ⟨rfl, rfl, rfl, by decide +kernel, rfl, by decide +kernel, by decide +kernel⟩
abbrev s_from_left : Stmt := (top 13)
theorem sc_from_left : FnScope ["k"] ["k"] (defScope s_from_left) := ⟨rfl, rfl, rfl, by decide +kernel, rfl, by decide +kernel, by decide +kernel⟩
abbrev s_from_right : Stmt := (top 14)
theorem sc_from_right : FnScope ["k"] ["k"] (defScope s_from_right) := ⟨rfl, rfl, rfl, by decide +kernel, rfl, by decide +kernel, by decide +kernel⟩
abbrev s_from_middle : Stmt := (top 15)
theorem sc_from_middle : FnScope ["k"] ["k"] (defScope s_from_middle) := ⟨rfl, rfl, rfl, by decide +kernel, rfl, by decide +kernel, by decide +kernel⟩
abbrev s_l_bag : Stmt := (top 18)
theorem sc_l_bag : FnScope ["_law_script", "_law_state", "_law_cell"] ["_law_script"] (defScope s_l_bag) := ⟨rfl, rfl, rfl, by decide +kernel, rfl, by decide +kernel, by decide +kernel⟩
abbrev s_l_draw : Stmt := (top 19)
theorem sc_l_draw : FnScope ["_law_bag_here", "_law_limit", "_law_cell", "_law_mixed", "_law_found"] ["_law_bag_here", "_law_limit"] (defScope s_l_draw) := ⟨rfl, rfl, rfl, by decide +kernel, rfl, by decide +kernel, by decide +kernel⟩
abbrev s_l_at : Stmt := (top 20)
theorem sc_l_at : FnScope ["_law_parts", "_law_wide", "_law_half"] ["_law_parts", "_law_wide"] (defScope s_l_at) := ⟨rfl, rfl, rfl, by decide +kernel, rfl, by decide +kernel, by decide +kernel⟩
abbrev s_l_heard : Stmt := (top 21)
theorem sc_l_heard : FnScope ["_law_ask", "error"] ["_law_ask"] (defScope s_l_heard) := ⟨rfl, rfl, rfl, by decide +kernel, rfl, by decide +kernel, by decide +kernel⟩
abbrev s_l_number : Stmt := (top 22)
theorem sc_l_number : FnScope ["_law_bag_here", "_law_some"] ["_law_bag_here"] (defScope s_l_number) := ⟨rfl, rfl, rfl, by decide +kernel, rfl, by decide +kernel, by decide +kernel⟩
abbrev s_l_odd : Stmt := (top 23)
theorem sc_l_odd : FnScope ["_law_bag_here", "_law_some"] ["_law_bag_here"] (defScope s_l_odd) := ⟨rfl, rfl, rfl, by decide +kernel, rfl, by decide +kernel, by decide +kernel⟩
abbrev s_l_sorts_right : Stmt := (top 24)
theorem sc_l_sorts_right : FnScope ["_law_far", "_law_found", "_law_due", "_law_one"] ["_law_far"] (defScope s_l_sorts_right) := ⟨rfl, rfl, rfl, by decide +kernel, rfl, by decide +kernel, by decide +kernel⟩
abbrev s_law : Stmt := (top 25)
theorem sc_law : FnScope ["_law_script", "_law_bag_here", "_law_turn", "_law_parts", "_law_twin", "_law_wide", "_law_at_here", "_law_more", "_law_due", "_law_heard_here", "_law_made", "_law_thing", "_law_value", "_law_wrong"] ["_law_script"] (defScope s_law) := ⟨rfl, rfl, rfl, by decide +kernel, rfl, by decide +kernel, by decide +kernel⟩
structure Txt (K : PySem.W.Frag) (mg : Str → Option Value) : Prop where
  b_len : mg "len" = none
  b_abs : mg "abs" = none
  b_int : mg "int" = none
  b_list : mg "list" = none
  b_range : mg "range" = none
  b_isinstance : mg "isinstance" = none
  b_bool : mg "bool" = none
  b_min : mg "min" = none
  b_repr : mg "repr" = none
  b_tuple : mg "tuple" = none
  b_super : mg "super" = none
end Kx

namespace Kx
open PySem PySem.Spec PyProof.Rows L2 Hf
local macro_rules | `(tactic| walk_at "r1") => `(tactic| with_reducible first
  | refine rd_seq ?_ | refine rd_bm ?_ | refine rd_lc ?_ | refine rd_yes ?_ | refine rd_raE ?_ | refine rd_makR ?_ | refine rd_gsub ?_ | refine rd_clK ?_ | refine rd_callIK ?_ | refine rd_dnew ?_ | refine rd_jsC ?_ | refine rd_jsN ?_ | refine rd_fmt ?_ | refine rd_mkE ?_ | refine rd_for ?_ | refine rd_iList ?_ | refine rd_iTup ?_ | refine rd_iRng1 ?_ | refine rd_iRng2 ?_ | refine rd_asg ?_ | refine rd_gname ?_ | refine rd_ifS ?_ | refine rd_ret ?_ | refine rd_retN ?_ | refine rd_drop ?_ | refine rd_next ?_
  | refine rd_c ?_ | refine rd_op ?_ | refine rd_un ?_ | refine rd_cons ?_ | refine rd_nil ?_ | refine rd_test ?_ | refine rd_tB ?_ | refine rd_and ?_ | refine rd_or ?_ | refine rd_not ?_
  | refine rd_andV ?_ | refine rd_orV ?_ | refine rd_notV ?_ | refine rd_if ?_ | refine rd_cl ?_ | refine rd_methR ?_ | refine rd_makeR ?_ | refine rd_callO ?_ | refine rd_fld ?_ | refine rd_sfld ?_ | refine rd_cb ?_
  | refine rd_tupN ?_ | refine rd_lstN ?_ | refine rd_I0 ?_ | refine rd_U ?_ | refine rd_bl ?_ | refine rd_blP ?_ | refine rd_par ?_ | refine rd_par2 ?_ | refine rd_gcons ?_ | refine rd_gnil ?_)
local macro_rules | `(tactic| walk_at "rd") => `(tactic| repeat (first | walk_at "r1" | ((with_reducible refine' rd_var ?hh ?_); (case hh => exact rfl)) | ((with_reducible refine' rd_eq ?hh ?_); (case hh => exact rfl)) | ((with_reducible refine' rd_ne ?hh ?_); (case hh => exact rfl)) | ((with_reducible refine' rd_aug ?hh ?_); (case hh => exact rfl))))
local macro_rules | `(tactic| walk_at "pl") => `(tactic| repeat (first | walk_at "rd1" | (refine rd_fldK (by assumption) (PlC.cl (by assumption)) (by first | exact PlC.n1 (by assumption) | exact PlC.n2 (by assumption) | exact PlC.n3 (by assumption)) (by first | exact pl_slope | exact pl_offset | exact pl_odd) ?_)))
local macro_rules | `(tactic| walk_at "rd1") => `(tactic| first | walk_at "r1" | ((with_reducible refine' rd_var ?hh ?_); (case hh => exact rfl)) | ((with_reducible refine' rd_eq ?hh ?_); (case hh => exact rfl)) | ((with_reducible refine' rd_ne ?hh ?_); (case hh => exact rfl)) | ((with_reducible refine' rd_aug ?hh ?_); (case hh => exact rfl)))
local macro_rules | `(tactic| walk_at "lf") => `(tactic| first | assumption | (refine PlaceAt.same ?_ (by assumption); walk_at "lf") | (refine PlaceAt.keep ?_ (by assumption) (by assumption); walk_at "lf"))
local macro_rules | `(tactic| walk_at "lo") => `(tactic| first | assumption | (refine (by assumption : Same _ _) _ _ ?_; walk_at "lo") | (refine (by assumption : Keep _ _ _) _ _ ?_ (by assumption); walk_at "lo"))
section
variable {P : Program} {w : World} {K : PySem.W.Frag} {mg : Str → Option Value} {base : Heap}

theorem ok_l_bag (T : Txt K mg) (D : DefAt K mg "_law_bag" s_l_bag ["_law_script"]) : Cal P w K mg base 1 "_law_bag" (spBag K) := by
  obtain ⟨f, fd, hm, F, b⟩ := D
  refine ⟨f, fnR0 F b sc_l_bag (fun vs H Q E h => ?_) (fun cdv A outer s H vs Q E hr h => ⟨t_bag K 7 69621 11, ?_, pure_bag K (by decide) (by decide) (by decide) (by decide) (by decide) vs H Q E h rfl⟩), hm, F.kp⟩
  · obtain ⟨a, ns, rfl, _⟩ := h
    rfl
  · exact (pss_cons (ps_set (i := 1) sc_l_bag.nd rfl (Or.inl rfl) pe_int)
  (pss_cons (ps_for PassesOwn.never rfl (pi_list (pe_slice sl_list (pv 0) po_none (po_some pe_int))) (pg_name (i := 2) sc_l_bag.nd rfl (Or.inl rfl))
  (pss_one (ps_set (i := 1) sc_l_bag.nd rfl (Or.inl rfl) (pe_op op_mod (pe_callTy call_int1 (by rfl) T.b_int (by decide +kernel) (pa_cons (pe_op op_add (pe_op op_add (pe_op op_mulW (pv 1) pe_int) (pe_op op_mod (pe_callB call_abs (by rfl) T.b_abs (by decide +kernel) (pa_cons (pv 2) pa_nil)) pe_int)) pe_int) pa_nil)) pe_int))))
  (pss_one (ps_ret (pe_disp (pps_cons pe_str (pe_callTy call_list_of (by rfl) T.b_list (by decide +kernel) (pa_cons (pe_slice sl_list (pv 0) po_none (po_some pe_int)) pa_nil)) (pps_cons pe_str pe_int (pps_cons pe_str pe_int (pps_cons pe_str (pv 1) pps_nil)))) (by rfl) (by rfl) (fun z => by cases z) (by decide))))))
theorem ok_l_draw (T : Txt K mg) (D : DefAt K mg "_law_draw" s_l_draw ["_law_bag_here", "_law_limit"]) : Cal P w K mg base 1 "_law_draw" spDraw := by
  obtain ⟨f, fd, hm, F, b⟩ := D
  refine ⟨f, fnR0 F b sc_l_draw (fun vs H Q E h => ?_) (fun cdv A outer s H vs Q E hr h => ?_), hm, F.kp⟩
  · obtain ⟨b, c, n, rfl, _⟩ := h
    rfl
  · have hu := hu_of hr
    refine ⟨t_draw K 48271 13, ?_, pure_draw K (by decide) (by decide) (by decide) vs H Q E h rfl⟩
    exact (pss_cons (ps_while PassesOwn.never (pw_and (pt_cmpR op_lt (pe_dget hu (pv 0) pe_str (fun _ _ => rfl)) pe_int (nomark _)) (pw_and1 (pt_cmpR op_lt (pe_dget hu (pv 0) pe_str (fun _ _ => rfl)) (pe_callB call_len_seq (by rfl) T.b_len (by decide +kernel) (pa_cons (pe_dget hu (pv 0) pe_str (fun _ _ => rfl)) pa_nil)) (nomark _)))).pt
  (pss_cons (ps_set (i := 2) sc_l_draw.nd rfl (Or.inl rfl) (pe_callB call_abs (by rfl) T.b_abs (by decide +kernel) (pa_cons (pe_ix ix_list (pe_dget hu (pv 0) pe_str (fun _ _ => rfl)) (pe_dget hu (pv 0) pe_str (fun _ _ => rfl)) (fun _ _ => rfl)) pa_nil)))
  (pss_cons (ps_dput hu (pv 0) pe_str (pe_op op_add (pe_dget hu (pv 0) pe_str (fun _ _ => rfl)) pe_int) rfl)
  (pss_cons (ps_if (pt_cmpR op_lt (pv 2) (pe_op op_pow pe_int pe_int) (nomark _)) (pss_cons (ps_set (i := 3) sc_l_draw.nd rfl (Or.inl rfl) (pe_op op_mod (pe_callTy call_int1 (by rfl) T.b_int (by decide +kernel) (pa_cons (pe_op op_add (pe_op op_pow (pe_op op_add (pv 2) pe_int) pe_int) (pe_op op_mulW (pe_dget hu (pv 0) pe_str (fun _ _ => rfl)) (pe_op op_add (pe_dget hu (pv 0) pe_str (fun _ _ => rfl)) pe_int))) pa_nil)) pe_int))
  (pss_one (ps_ret (pe_op op_mod (pv 3) (pv 1))))) pss_nil)
  (pss_one (ps_dput hu (pv 0) pe_str (pv 2) rfl))))))
  (pss_cons (ps_if (pt_cmpR op_ge (pe_dget hu (pv 0) pe_str (fun _ _ => rfl)) pe_int (nomark _)) (pss_cons (ps_set (i := 4) sc_l_draw.nd rfl (Or.inl rfl) (pe_op op_mod (pe_callTy call_int1 (by rfl) T.b_int (by decide +kernel) (pa_cons (pe_dget hu (pv 0) pe_str (fun _ _ => rfl)) pa_nil)) (pv 1)))
  (pss_cons (ps_dput hu (pv 0) pe_str (pe_op op_fdivW (pe_dget hu (pv 0) pe_str (fun _ _ => rfl)) (pv 1)) rfl)
  (pss_one (ps_ret (pv 4))))) pss_nil)
  (pss_cons (ps_dput hu (pv 0) pe_str (pe_op op_mod (pe_callTy call_int1 (by rfl) T.b_int (by decide +kernel) (pa_cons (pe_op op_add (pe_op op_mulW (pe_dget hu (pv 0) pe_str (fun _ _ => rfl)) pe_int) pe_int) pa_nil)) pe_int) rfl)
  (pss_one (ps_ret (pe_op op_mod (pe_op op_mod (pe_callTy call_int1 (by rfl) T.b_int (by decide +kernel) (pa_cons (pe_op op_pow (pe_dget hu (pv 0) pe_str (fun _ _ => rfl)) pe_int) pa_nil)) pe_int) (pv 1)))))))

theorem ok_is_whole (T : Txt K mg) (D : DefAt K mg "is_whole" s_is_whole ["value"]) : Cal P w K mg base 1 "is_whole" (spWhole K) := by
  obtain ⟨f, fd, hm, F, b⟩ := D
  refine ⟨f, fnR0 F b sc_is_whole (fun vs H Q E h => ?_) (fun cdv A outer s H vs Q E hr h => ?_), hm, F.kp⟩
  · obtain ⟨v, t, b1, b2, rfl, ty, h1, h2, k⟩ := h
    rfl
  · obtain ⟨v, t, b1, b2, rfl, ty, h1, h2, k⟩ := h
    have hu := hu_of hr
    refine ⟨_, (pss_one (ps_ret (pe_and (pe_callB call_isi (by rfl) T.b_isinstance (by decide +kernel) (pa_cons (pv 0) (pa_cons (pe_tInt T.b_int) pa_nil))) (pe_one (pe_not (pe_callB call_isi (by rfl) T.b_isinstance (by decide +kernel) (pa_cons (pv 0) (pa_cons (pe_tBool T.b_bool) pa_nil)))))))), ?_⟩
    try dsimp only [cxOf, Cx.nox, Cx.wish, List.map]
    refine ⟨_, rfl, _, _, t, _, b1, rfl, .ty "int", ty, h1, b1, rfl, ?_⟩
    cases b1 with
    | false => exact iteF k
    | true => exact iteT ⟨_, rfl, _, _, t, _, b2, rfl, .ty "bool", ty, h2, b2, rfl, k⟩

theorem ok_value_at (T : Txt K mg) (D : DefAt K mg "value_at" s_value_at ["slope", "offset", "odd", "size"]) : Cal P w K mg base 1 "value_at" spVal := by
  obtain ⟨f, fd, hm, F, b⟩ := D
  refine ⟨f, fnR0 F b sc_value_at (fun vs H Q E h => ?_) (fun cdv A outer s H vs Q E hr h => ?_), hm, F.kp⟩
  · obtain ⟨s, o, d, n, rfl, hs, hd, hn, k⟩ := h
    rfl
  · obtain ⟨s, o, d, n, rfl, hs, hd, hn, k⟩ := h
    have hu := hu_of hr
    refine ⟨_, (pss_one (ps_ret (pe_op op_add (pe_op op_add (pe_op op_mulW (pv 0) (pe_op op_fdivW (pv 3) pe_int)) (pv 1)) (pe_op op_mulW (pv 2) (pe_op op_mod (pv 3) pe_int))))), ?_⟩
    try dsimp only [cxOf, Cx.nox, Cx.wish, List.map]
    have h2 : Sm (n / 2) := ⟨by have := hn.1; omega, by have := hn.2; omega⟩
    have h3 : Sm (n % 2) := ⟨by omega, by omega⟩
    exact ⟨_, rfl, _, rfl, _, _, rfl, rfl, ⟨by decide, by decide⟩, _, _, rfl, rfl, hs.mul h2, _, rfl, _, _, rfl, rfl, _, rfl, _, rfl, _, _, rfl, rfl, (by show (0 : Int) < 2; decide), _, _, rfl, rfl, hd.mul h3, _, _, rfl, rfl, k⟩

theorem ok_BadPlace_init {f C cc cda : Addr} {dV kV doc pm ct oc : Value} {an od : Option Addr} {osl : Array (Option Value)} (lk : K.lookup f = some ⟨oc, od, .func (PySem.W.ksFn "__init__" "BadPlace.__init__" (defArgs s_BadPlace_init) (defBody s_BadPlace_init) (defScope s_BadPlace_init) dV kV doc pm an (.ref cda) ct cc), osl⟩) (hcd : PySem.W.codeIn K (.ref cda) "BadPlace.__init__" = true)
    (T : OexC K C) (U : SupC P K mg C cc cda) (hno0 : PySem.W.findIn K (.ref C) "part" = some none) : FnOk P w K mg base (L2.CX P w) 1 f (PySem.W.ksFn "__init__" "BadPlace.__init__" (defArgs s_BadPlace_init) (defBody s_BadPlace_init) (defScope s_BadPlace_init) dV kV doc pm an (.ref cda) ct cc) ["self", "part"] (spErr C ["part"]) :=
  ok_err1 (P := P) (w := w) (mg := mg) (base := base) lk hcd (NdefX.nscope_by (by decide +kernel)) rfl rfl rfl T U (fun _ => rfl) hno0 (by decide) (by decide) (fun _ => rfl)

theorem ok_BadSize_init {f C cc cda : Addr} {dV kV doc pm ct oc : Value} {an od : Option Addr} {osl : Array (Option Value)} (lk : K.lookup f = some ⟨oc, od, .func (PySem.W.ksFn "__init__" "BadSize.__init__" (defArgs s_BadSize_init) (defBody s_BadSize_init) (defScope s_BadSize_init) dV kV doc pm an (.ref cda) ct cc), osl⟩) (hcd : PySem.W.codeIn K (.ref cda) "BadSize.__init__" = true)
    (T : OexC K C) (U : SupC P K mg C cc cda) (hno0 : PySem.W.findIn K (.ref C) "part" = some none) : FnOk P w K mg base (L2.CX P w) 1 f (PySem.W.ksFn "__init__" "BadSize.__init__" (defArgs s_BadSize_init) (defBody s_BadSize_init) (defScope s_BadSize_init) dV kV doc pm an (.ref cda) ct cc) ["self", "part"] (spErr C ["part"]) :=
  ok_err1 (P := P) (w := w) (mg := mg) (base := base) lk hcd (NdefX.nscope_by (by decide +kernel)) rfl rfl rfl T U (fun _ => rfl) hno0 (by decide) (by decide) (fun _ => rfl)
end
end Kx

namespace Kx
open PySem PySem.Spec PyProof.Rows L2 Hf
local macro_rules | `(tactic| walk_at "r1") => `(tactic| with_reducible first
  | refine rd_seq ?_ | refine rd_bm ?_ | refine rd_lc ?_ | refine rd_yes ?_ | refine rd_raE ?_ | refine rd_makR ?_ | refine rd_gsub ?_ | refine rd_clK ?_ | refine rd_callIK ?_ | refine rd_dnew ?_ | refine rd_jsC ?_ | refine rd_jsN ?_ | refine rd_fmt ?_ | refine rd_mkE ?_ | refine rd_for ?_ | refine rd_iList ?_ | refine rd_iTup ?_ | refine rd_iRng1 ?_ | refine rd_iRng2 ?_ | refine rd_asg ?_ | refine rd_gname ?_ | refine rd_ifS ?_ | refine rd_ret ?_ | refine rd_retN ?_ | refine rd_drop ?_ | refine rd_next ?_
  | refine rd_c ?_ | refine rd_op ?_ | refine rd_un ?_ | refine rd_cons ?_ | refine rd_nil ?_ | refine rd_test ?_ | refine rd_tB ?_ | refine rd_and ?_ | refine rd_or ?_ | refine rd_not ?_
  | refine rd_andV ?_ | refine rd_orV ?_ | refine rd_notV ?_ | refine rd_if ?_ | refine rd_cl ?_ | refine rd_methR ?_ | refine rd_makeR ?_ | refine rd_callO ?_ | refine rd_fld ?_ | refine rd_sfld ?_ | refine rd_cb ?_
  | refine rd_tupN ?_ | refine rd_lstN ?_ | refine rd_I0 ?_ | refine rd_U ?_ | refine rd_bl ?_ | refine rd_blP ?_ | refine rd_par ?_ | refine rd_par2 ?_ | refine rd_gcons ?_ | refine rd_gnil ?_)
local macro_rules | `(tactic| walk_at "rd") => `(tactic| repeat (first | walk_at "r1" | ((with_reducible refine' rd_var ?hh ?_); (case hh => exact rfl)) | ((with_reducible refine' rd_eq ?hh ?_); (case hh => exact rfl)) | ((with_reducible refine' rd_ne ?hh ?_); (case hh => exact rfl)) | ((with_reducible refine' rd_aug ?hh ?_); (case hh => exact rfl))))
local macro_rules | `(tactic| walk_at "pl") => `(tactic| repeat (first | walk_at "rd1" | (refine rd_fldK (by assumption) (PlC.cl (by assumption)) (by first | exact PlC.n1 (by assumption) | exact PlC.n2 (by assumption) | exact PlC.n3 (by assumption)) (by first | exact pl_slope | exact pl_offset | exact pl_odd) ?_)))
local macro_rules | `(tactic| walk_at "rd1") => `(tactic| first | walk_at "r1" | ((with_reducible refine' rd_var ?hh ?_); (case hh => exact rfl)) | ((with_reducible refine' rd_eq ?hh ?_); (case hh => exact rfl)) | ((with_reducible refine' rd_ne ?hh ?_); (case hh => exact rfl)) | ((with_reducible refine' rd_aug ?hh ?_); (case hh => exact rfl)))
local macro_rules | `(tactic| walk_at "lf") => `(tactic| first | assumption | (refine PlaceAt.same ?_ (by assumption); walk_at "lf") | (refine PlaceAt.keep ?_ (by assumption) (by assumption); walk_at "lf"))
local macro_rules | `(tactic| walk_at "lo") => `(tactic| first | assumption | (refine (by assumption : Same _ _) _ _ ?_; walk_at "lo") | (refine (by assumption : Keep _ _ _) _ _ ?_ (by assumption); walk_at "lo"))
section
variable {P : Program} {w : World} {K : PySem.W.Frag} {mg : Str → Option Value} {base : Heap}

theorem ok_Place_initX {C CB : Addr} (T : Txt K mg) (C0 : PlC K mg C) (c_is_whole : Cal P w K mg base 1 "is_whole" (spWhole K)) (Er_BadPlace : Err P w K mg base "BadPlace" CB ["part"]) {f : Addr} {fd : FuncData} {dvs : List V} {kws : List (Str × V)} (F : FunD K "__init__" "Place.__init__" (defArgs s_Place_init) (defBody s_Place_init) (defScope s_Place_init) dvs kws f fd) {ps : List Str} (hps : ps = (["self", "slope", "offset", "odd"] : List Str)) : FnOk P w K mg base (L2.CX P w) 3 f fd ps (spPlX K C CB) := by
  subst hps
  refine fnOkDX F sc_Place_init (fun vs H Q E h => ?_) (fun cdv A outer s H vs Q E hr tk h => ?_)
  · obtain ⟨p, dx, v1, v2, v3, rfl, _⟩ := h
    rfl
  · obtain ⟨p, dx, v1, v2, v3, rfl, hp, h⟩ := h
    refine ⟨_, (pss_cons (ps_for (passes_of rfl) rfl (pi_tup (pe_tup (pa_cons (pe_tup (pa_cons pe_str (pa_cons (pv 1) pa_nil))) (pa_cons (pe_tup (pa_cons pe_str (pa_cons (pv 2) pa_nil))) (pa_cons (pe_tup (pa_cons pe_str (pa_cons (pv 3) pa_nil))) pa_nil))))) (pg_tup rfl (pgs_cons (pg_name (i := 4) sc_Place_init.nd rfl (Or.inl rfl)) (pgs_cons (pg_name (i := 5) sc_Place_init.nd rfl (Or.inl rfl)) pgs_nil)))
  (pss_one (ps_if (pt_not (pt_val (pe_cl c_is_whole hr passL (pa_cons (pv 5) pa_nil)))) (pss_one (ps_raE rfl tk (pmk_err Er_BadPlace hr (pa_cons (pv 4) pa_nil)))) pss_nil)))
  (pss_cons (ps_fld (pv 0) (pv 1) rfl)
  (pss_cons (ps_fld (pv 0) (pv 2) rfl)
  (pss_one (ps_fld (pv 0) (pv 3) rfl))))), ?_⟩
    try dsimp only [cxOf, Cx.nox, Cx.wish, List.map]
    walk_at "rd"
    refine new_tup (by show 2 ≤ 1000; decide) fun t1 H1 n1 e1 s1 => ?_
    walk_at "rd"
    refine new_tup (by show 2 ≤ 1000; decide) fun t2 H2 n2 e2 s2 => ?_
    walk_at "rd"
    refine new_tup (by show 2 ≤ 1000; decide) fun t3 H3 n3 e3 s3 => ?_
    walk_at "rd"
    refine new_tup (by show 3 ≤ 1000; decide) fun t4 H4 n4 e4 s4 => ?_
    have e1 := s4 _ _ (s3 _ _ (s2 _ _ e1))
    have e2 := s4 _ _ (s3 _ _ e2)
    have e3 := s4 _ _ e3
    have sm := ((s1.trans s2).trans s3).trans s4
    have ep := sm _ _ hp
    refine ⟨t4, rfl, ⟨_, SqT.of e4⟩, ?_⟩
    rcases h with ⟨h1, kE⟩ | ⟨s, rfl, ⟨h2, kE⟩ | ⟨o, rfl, ⟨h3, kE⟩ | ⟨d, rfl, k⟩⟩⟩
    · refine for_tup (K := K) (a := t4) (xs := [.ref t1, .ref t2, .ref t3]) (fun i σ H' => i ≤ 0 ∧ ∃ (v4 v5 : Option V), σ = [some (.ref p), some v1, some v2, some v3, v4, v5] ∧ H' = H4)
        ⟨by omega, none, none, rfl, rfl⟩ (fun i σ H' _ ⟨_, _, _, _, e⟩ => by rw [e]; exact SqT.of e4) ?_ ?_
      · rintro i y σ H' hi ⟨hm, v4, v5, rfl, rfl⟩
        match i, hi with
        | 0, hi =>
          cases hi
          refine rd_gtup (SqT.of e1) rfl ?_
          walk_at "rd"
          refine wh_not (h1.same sm) ?_
          walk_at "rd"
          refine iteT ?_
          walk_at "rd"
          exact use_err rfl (by decide) fun d hd => kE d _ upd_same (sm.trans (Same.new hd))
        | 1, hi =>
          exact absurd hm (by omega)
        | 2, hi =>
          exact absurd hm (by omega)
        | i + 3, hi => simp at hi
      · rintro σ H' ⟨hm, v4, v5, rfl, rfl⟩
        exact absurd (show 3 ≤ _ from hm) (by decide)
    · refine for_tup (K := K) (a := t4) (xs := [.ref t1, .ref t2, .ref t3]) (fun i σ H' => i ≤ 1 ∧ ∃ (v4 v5 : Option V), σ = [some (.ref p), some (.int s), some v2, some v3, v4, v5] ∧ H' = H4)
        ⟨by omega, none, none, rfl, rfl⟩ (fun i σ H' _ ⟨_, _, _, _, e⟩ => by rw [e]; exact SqT.of e4) ?_ ?_
      · rintro i y σ H' hi ⟨hm, v4, v5, rfl, rfl⟩
        match i, hi with
        | 0, hi =>
          cases hi
          refine rd_gtup (SqT.of e1) rfl ?_
          walk_at "rd"
          refine wh_int ?_
          walk_at "rd"
          exact iteF ⟨by omega, _, _, rfl, rfl⟩
        | 1, hi =>
          cases hi
          refine rd_gtup (SqT.of e2) rfl ?_
          walk_at "rd"
          refine wh_not (h2.same sm) ?_
          walk_at "rd"
          refine iteT ?_
          walk_at "rd"
          exact use_err rfl (by decide) fun d hd => kE d _ upd_same (sm.trans (Same.new hd))
        | 2, hi =>
          exact absurd hm (by omega)
        | i + 3, hi => simp at hi
      · rintro σ H' ⟨hm, v4, v5, rfl, rfl⟩
        exact absurd (show 3 ≤ _ from hm) (by decide)
    · refine for_tup (K := K) (a := t4) (xs := [.ref t1, .ref t2, .ref t3]) (fun i σ H' => i ≤ 2 ∧ ∃ (v4 v5 : Option V), σ = [some (.ref p), some (.int s), some (.int o), some v3, v4, v5] ∧ H' = H4)
        ⟨by omega, none, none, rfl, rfl⟩ (fun i σ H' _ ⟨_, _, _, _, e⟩ => by rw [e]; exact SqT.of e4) ?_ ?_
      · rintro i y σ H' hi ⟨hm, v4, v5, rfl, rfl⟩
        match i, hi with
        | 0, hi =>
          cases hi
          refine rd_gtup (SqT.of e1) rfl ?_
          walk_at "rd"
          refine wh_int ?_
          walk_at "rd"
          exact iteF ⟨by omega, _, _, rfl, rfl⟩
        | 1, hi =>
          cases hi
          refine rd_gtup (SqT.of e2) rfl ?_
          walk_at "rd"
          refine wh_int ?_
          walk_at "rd"
          exact iteF ⟨by omega, _, _, rfl, rfl⟩
        | 2, hi =>
          cases hi
          refine rd_gtup (SqT.of e3) rfl ?_
          walk_at "rd"
          refine wh_not (h3.same sm) ?_
          walk_at "rd"
          refine iteT ?_
          walk_at "rd"
          exact use_err rfl (by decide) fun d hd => kE d _ upd_same (sm.trans (Same.new hd))
        | i + 3, hi => simp at hi
      · rintro σ H' ⟨hm, v4, v5, rfl, rfl⟩
        exact absurd (show 3 ≤ _ from hm) (by decide)
    · refine for_tup (K := K) (a := t4) (xs := [.ref t1, .ref t2, .ref t3]) (fun i σ H' => i ≤ 3 ∧ ∃ (v4 v5 : Option V), σ = [some (.ref p), some (.int s), some (.int o), some (.int d), v4, v5] ∧ H' = H4)
        ⟨by omega, none, none, rfl, rfl⟩ (fun i σ H' _ ⟨_, _, _, _, e⟩ => by rw [e]; exact SqT.of e4) ?_ ?_
      · rintro i y σ H' hi ⟨hm, v4, v5, rfl, rfl⟩
        match i, hi with
        | 0, hi =>
          cases hi
          refine rd_gtup (SqT.of e1) rfl ?_
          walk_at "rd"
          refine wh_int ?_
          walk_at "rd"
          exact iteF ⟨by omega, _, _, rfl, rfl⟩
        | 1, hi =>
          cases hi
          refine rd_gtup (SqT.of e2) rfl ?_
          walk_at "rd"
          refine wh_int ?_
          walk_at "rd"
          exact iteF ⟨by omega, _, _, rfl, rfl⟩
        | 2, hi =>
          cases hi
          refine rd_gtup (SqT.of e3) rfl ?_
          walk_at "rd"
          refine wh_int ?_
          walk_at "rd"
          exact iteF ⟨by omega, _, _, rfl, rfl⟩
        | i + 3, hi => simp at hi
      · rintro σ H' ⟨hm, v4, v5, rfl, rfl⟩
        refine ⟨_, rfl, _, rfl, p, C, dx, [], rfl, ep, C0.cl, C0.n1, (by show 0 < 1000; decide), ?_⟩
        refine ⟨_, rfl, _, rfl, p, C, dx, _, rfl, upd_same, C0.cl, C0.n2, (by show 1 < 1000; decide), ?_⟩
        refine ⟨_, rfl, _, rfl, p, C, dx, _, rfl, upd_same, C0.cl, C0.n3, ?_, ?_⟩
        · rw [pf_nil, pf_miss f_so, pf_nil]
          show 2 < 1000
          decide
        · refine k _ (Eq.trans upd_same (congrArg (fun l => some (HO.ins C dx l)) pl_make)) fun b u e n => ?_
          rw [upd_ne n, upd_ne n, upd_ne n]
          exact sm b u e
end
end Kx

namespace Kx
open PySem PySem.Spec PyProof.Rows L2 Hf
local macro_rules | `(tactic| walk_at "r1") => `(tactic| with_reducible first
  | refine rd_seq ?_ | refine rd_bm ?_ | refine rd_lc ?_ | refine rd_yes ?_ | refine rd_raE ?_ | refine rd_makR ?_ | refine rd_gsub ?_ | refine rd_clK ?_ | refine rd_callIK ?_ | refine rd_dnew ?_ | refine rd_jsC ?_ | refine rd_jsN ?_ | refine rd_fmt ?_ | refine rd_mkE ?_ | refine rd_for ?_ | refine rd_iList ?_ | refine rd_iTup ?_ | refine rd_iRng1 ?_ | refine rd_iRng2 ?_ | refine rd_asg ?_ | refine rd_gname ?_ | refine rd_ifS ?_ | refine rd_ret ?_ | refine rd_retN ?_ | refine rd_drop ?_ | refine rd_next ?_
  | refine rd_c ?_ | refine rd_op ?_ | refine rd_un ?_ | refine rd_cons ?_ | refine rd_nil ?_ | refine rd_test ?_ | refine rd_tB ?_ | refine rd_and ?_ | refine rd_or ?_ | refine rd_not ?_
  | refine rd_andV ?_ | refine rd_orV ?_ | refine rd_notV ?_ | refine rd_if ?_ | refine rd_cl ?_ | refine rd_methR ?_ | refine rd_makeR ?_ | refine rd_callO ?_ | refine rd_fld ?_ | refine rd_sfld ?_ | refine rd_cb ?_
  | refine rd_tupN ?_ | refine rd_lstN ?_ | refine rd_I0 ?_ | refine rd_U ?_ | refine rd_bl ?_ | refine rd_blP ?_ | refine rd_par ?_ | refine rd_par2 ?_ | refine rd_gcons ?_ | refine rd_gnil ?_)
local macro_rules | `(tactic| walk_at "rd") => `(tactic| repeat (first | walk_at "r1" | ((with_reducible refine' rd_var ?hh ?_); (case hh => exact rfl)) | ((with_reducible refine' rd_eq ?hh ?_); (case hh => exact rfl)) | ((with_reducible refine' rd_ne ?hh ?_); (case hh => exact rfl)) | ((with_reducible refine' rd_aug ?hh ?_); (case hh => exact rfl))))
local macro_rules | `(tactic| walk_at "pl") => `(tactic| repeat (first | walk_at "rd1" | (refine rd_fldK (by assumption) (PlC.cl (by assumption)) (by first | exact PlC.n1 (by assumption) | exact PlC.n2 (by assumption) | exact PlC.n3 (by assumption)) (by first | exact pl_slope | exact pl_offset | exact pl_odd) ?_)))
local macro_rules | `(tactic| walk_at "rd1") => `(tactic| first | walk_at "r1" | ((with_reducible refine' rd_var ?hh ?_); (case hh => exact rfl)) | ((with_reducible refine' rd_eq ?hh ?_); (case hh => exact rfl)) | ((with_reducible refine' rd_ne ?hh ?_); (case hh => exact rfl)) | ((with_reducible refine' rd_aug ?hh ?_); (case hh => exact rfl)))
local macro_rules | `(tactic| walk_at "lf") => `(tactic| first | assumption | (refine PlaceAt.same ?_ (by assumption); walk_at "lf") | (refine PlaceAt.keep ?_ (by assumption) (by assumption); walk_at "lf"))
local macro_rules | `(tactic| walk_at "lo") => `(tactic| first | assumption | (refine (by assumption : Same _ _) _ _ ?_; walk_at "lo") | (refine (by assumption : Keep _ _ _) _ _ ?_ (by assumption); walk_at "lo"))
section
variable {P : Program} {w : World} {K : PySem.W.Frag} {mg : Str → Option Value} {base : Heap}

theorem ok_Place_callX {C CS : Addr} (T : Txt K mg) (C0 : PlC K mg C) (c_is_whole : Cal P w K mg base 1 "is_whole" (spWhole K)) (c_value_at : Cal P w K mg base 1 "value_at" spVal) (Er_BadSize : Err P w K mg base "BadSize" CS ["part"]) {f : Addr} {fd : FuncData} (F : Fun K "__call__" "Place.__call__" s_Place_call f fd) : FnOk P w K mg base (L2.CX P w) 3 f fd ["self", "size"] (spPlAtX K C CS) := by
  refine F.okX (P := P) (w := w) (mg := mg) (base := base) sc_Place_call (fun vs H Q E h => ?_) (fun cdv A outer s H vs Q E hr h => ?_)
  · obtain ⟨p, s, o, d, v, rfl, _⟩ := h
    rfl
  · have tk : Takes (cxOf (L2.CX P w) P w K mg base ["self", "size"] "Place.__call__" (defScope s_Place_call) f cdv A outer s H E) (fun cls d _ H => E cls d H) := takes_of rfl rfl rfl rfl
    obtain ⟨p, s, o, d, v, rfl, ⟨dx, hp⟩, h⟩ := h
    have hu := hu_of hr
    refine ⟨_, (pss_cons (ps_if (pw_or (pt_not (pt_val (pe_cl c_is_whole hr passL (pa_cons (pv 1) pa_nil)))) (pw_or1 (pt_cmpR op_lt (pv 1) pe_int (nomark _)))).pt (pss_one (ps_raE rfl tk (pmk_err Er_BadSize hr (pa_cons pe_str pa_nil)))) pss_nil)
  (pss_one (ps_ret (pe_cl c_value_at hr passL (pa_cons (pe_fld (pv 0) rfl) (pa_cons (pe_fld (pv 0) rfl) (pa_cons (pe_fld (pv 0) rfl) (pa_cons (pv 1) pa_nil)))))))), ?_⟩
    try dsimp only [cxOf, Cx.nox, Cx.wish, List.map]
    walk_at "rd"
    rcases h with ⟨hl, kE⟩ | ⟨n, rfl, h1, hs, hd, hn, k⟩
    · rcases hl with hl | ⟨i, rfl, hi1⟩
      · refine wh_not hl ?_
        walk_at "rd"
        refine iteT ?_
        refine iteT ?_
        walk_at "rd"
        exact use_err rfl (by decide) fun d hd => kE d _ upd_same (Same.new hd)
      · refine wh_int ?_
        walk_at "rd"
        refine iteF ?_
        walk_at "rd"
        refine ite_yes (decide_eq_true hi1) ?_
        walk_at "rd"
        exact use_err rfl (by decide) fun d hd => kE d _ upd_same (Same.new hd)
    · refine wh_int ?_
      walk_at "rd"
      refine iteF ?_
      walk_at "rd"
      refine ite_no (decide_eq_false (by omega)) ?_
      walk_at "pl"
      exact ⟨_, _, _, _, rfl, hs, hd, hn, k⟩

theorem ok_Place_eq {C : Addr} (T : Txt K mg) (C0 : PlC K mg C) (D : MetAt K C "__eq__" "Place.__eq__" s_Place_eq ["self", "other"]) : Met P w K mg base 1 C "__eq__" (spPlEqX K C) := by
  obtain ⟨f, fd, hm, F, b⟩ := D
  refine ⟨f, fnR0 F b sc_Place_eq (fun vs H Q E h => ?_) (fun cdv A outer s H vs Q E hr h => ?_), hm⟩
  · obtain ⟨p, s, o, d, v, rfl, ⟨dx, hp⟩, h⟩ := h
    rfl
  · obtain ⟨p, s, o, d, v, rfl, ⟨dx, hp⟩, h⟩ := h
    have hu := hu_of hr
    refine ⟨_, (pss_one (ps_ret (pe_and (pe_callB call_isi (by rfl) T.b_isinstance (by decide +kernel) (pa_cons (pv 1) (pa_cons (pe_glob (v := .ref C) (by rfl) C0.g rfl) pa_nil))) (pe_and (pe_cmpR op_eq (pe_fld (pv 0) rfl) (pe_fld (pv 1) rfl) (nomark _)) (pe_and (pe_cmpR op_eq (pe_fld (pv 0) rfl) (pe_fld (pv 1) rfl) (nomark _)) (pe_one (pe_cmpR op_eq (pe_fld (pv 0) rfl) (pe_fld (pv 1) rfl) (nomark _)))))))), ?_⟩
    try dsimp only [cxOf, Cx.nox, Cx.wish, List.map]
    rcases h with ⟨q, s', o', d', rfl, ⟨dy, hq⟩, k⟩ | ⟨t, ty, hk, k⟩
    · walk_at "rd"
      refine rd_isi (.own C) (C0.ty hq) kit_self ?_
      walk_at "rd"
      refine iteT ?_
      walk_at "pl"
      rw [show (decide (V.int s = V.int s')) = decide (s = s') from by simp]
      by_cases h1 : s = s'
      · rw [decide_eq_true h1] at k ⊢
        refine iteT ?_
        walk_at "pl"
        rw [show (decide (V.int o = V.int o')) = decide (o = o') from by simp]
        by_cases h2 : o = o'
        · rw [decide_eq_true h2] at k ⊢
          refine iteT ?_
          walk_at "pl"
          rw [show (decide (V.int d = V.int d')) = decide (d = d') from by simp]
          rw [Bool.true_and, Bool.true_and] at k
          exact k
        · rw [decide_eq_false h2] at k ⊢
          refine iteF ?_
          rw [Bool.and_false, Bool.false_and] at k
          exact k
      · rw [decide_eq_false h1] at k ⊢
        refine iteF ?_
        rw [Bool.false_and, Bool.false_and] at k
        exact k
    · walk_at "rd"
      refine rd_isi (.own C) ty hk ?_
      walk_at "rd"
      refine iteF ?_
      exact k

theorem ok_need_offset {CB : Addr} (T : Txt K mg) (c_is_whole : Cal P w K mg base 1 "is_whole" (spWhole K)) (Er_BadPlace : Err P w K mg base "BadPlace" CB ["part"]) (D : DefAt K mg "need_offset" s_need_offset ["value"]) : Cal P w K mg base 3 "need_offset" (spNeedX K CB) := by
  obtain ⟨f, fd, hm, F, b⟩ := D
  refine ⟨f, fnRX F b sc_need_offset (fun vs H Q E h => ?_) (fun cdv A outer s H vs Q E hr tk h => ?_), hm, F.kp⟩
  · obtain ⟨v, rfl, h⟩ := h
    rfl
  · obtain ⟨v, rfl, h⟩ := h
    have hu := hu_of hr
    refine ⟨_, (pss_one (ps_if (pt_not (pt_val (pe_cl c_is_whole hr passL (pa_cons (pv 0) pa_nil)))) (pss_one (ps_raE rfl tk (pmk_err Er_BadPlace hr (pa_cons pe_str pa_nil)))) pss_nil)), ?_⟩
    try dsimp only [cxOf, Cx.nox, Cx.wish, List.map]
    walk_at "rd"
    rcases h with ⟨hl, kE⟩ | ⟨i, rfl, k⟩
    · refine wh_not hl ?_
      walk_at "rd"
      refine iteT ?_
      walk_at "rd"
      exact use_err rfl (by decide) fun d hd => kE d _ upd_same (Same.new hd)
    · refine wh_int ?_
      walk_at "rd"
      refine iteF ?_
      walk_at "rd"
      exact k

theorem ok_from_left {C CB : Addr} (T : Txt K mg) (C0 : PlC K mg C) (M_Place : Mak P w K mg base 3 "Place" C (spPlX K C CB)) (c_need_offset : Cal P w K mg base 3 "need_offset" (spNeedX K CB)) {f : Addr} {fd : FuncData} {dvs : List V} {kws : List (Str × V)} (F : FunD K "from_left" "from_left" (defArgs s_from_left) (defBody s_from_left) (defScope s_from_left) dvs kws f fd) : FnOk P w K mg base (L2.CX P w) 5 f fd ["k"] (spFromX K C CB (fun k => (0, k, 0))) := by
  refine fnOkDX F sc_from_left (fun vs H Q E h => ?_) (fun cdv A outer s H vs Q E hr tk h => ?_)
  · obtain ⟨v, rfl, _⟩ := h
    rfl
  · obtain ⟨v, rfl, h⟩ := h
    refine ⟨_, (pss_cons (ps_expr (pe_cl c_need_offset hr (passE tk) (pa_cons (pv 0) pa_nil)))
  (pss_one (ps_ret (pe_ma M_Place hr (passE tk) (pa_cons pe_int (pa_cons (pv 0) (pa_cons pe_int pa_nil))))))), ?_⟩
    try dsimp only [cxOf, Cx.nox, Cx.wish, List.map]
    walk_at "rd"
    rcases h with ⟨hl, kE⟩ | ⟨i, rfl, k⟩
    · exact ⟨v, rfl, .inl ⟨hl, kE⟩⟩
    · refine ⟨_, rfl, .inr ⟨i, rfl, ?_⟩⟩
      walk_at "rd"
      exact use_plX k

theorem ok_from_right {C CB : Addr} (T : Txt K mg) (C0 : PlC K mg C) (M_Place : Mak P w K mg base 3 "Place" C (spPlX K C CB)) (c_need_offset : Cal P w K mg base 3 "need_offset" (spNeedX K CB)) {f : Addr} {fd : FuncData} {dvs : List V} {kws : List (Str × V)} (F : FunD K "from_right" "from_right" (defArgs s_from_right) (defBody s_from_right) (defScope s_from_right) dvs kws f fd) : FnOk P w K mg base (L2.CX P w) 5 f fd ["k"] (spFromX K C CB (fun k => (2, 0 - k, 1))) := by
  refine fnOkDX F sc_from_right (fun vs H Q E h => ?_) (fun cdv A outer s H vs Q E hr tk h => ?_)
  · obtain ⟨v, rfl, _⟩ := h
    rfl
  · obtain ⟨v, rfl, h⟩ := h
    refine ⟨_, (pss_cons (ps_expr (pe_cl c_need_offset hr (passE tk) (pa_cons (pv 0) pa_nil)))
  (pss_one (ps_ret (pe_ma M_Place hr (passE tk) (pa_cons pe_int (pa_cons (pe_op op_sub pe_int (pv 0)) (pa_cons pe_int pa_nil))))))), ?_⟩
    try dsimp only [cxOf, Cx.nox, Cx.wish, List.map]
    walk_at "rd"
    rcases h with ⟨hl, kE⟩ | ⟨i, rfl, k⟩
    · exact ⟨v, rfl, .inl ⟨hl, kE⟩⟩
    · refine ⟨_, rfl, .inr ⟨i, rfl, ?_⟩⟩
      walk_at "rd"
      exact use_plX k

theorem ok_from_middle {C CB : Addr} (T : Txt K mg) (C0 : PlC K mg C) (M_Place : Mak P w K mg base 3 "Place" C (spPlX K C CB)) (c_need_offset : Cal P w K mg base 3 "need_offset" (spNeedX K CB)) {f : Addr} {fd : FuncData} {dvs : List V} {kws : List (Str × V)} (F : FunD K "from_middle" "from_middle" (defArgs s_from_middle) (defBody s_from_middle) (defScope s_from_middle) dvs kws f fd) : FnOk P w K mg base (L2.CX P w) 5 f fd ["k"] (spFromX K C CB (fun k => (1, k, 0))) := by
  refine fnOkDX F sc_from_middle (fun vs H Q E h => ?_) (fun cdv A outer s H vs Q E hr tk h => ?_)
  · obtain ⟨v, rfl, _⟩ := h
    rfl
  · obtain ⟨v, rfl, h⟩ := h
    refine ⟨_, (pss_cons (ps_expr (pe_cl c_need_offset hr (passE tk) (pa_cons (pv 0) pa_nil)))
  (pss_one (ps_ret (pe_ma M_Place hr (passE tk) (pa_cons pe_int (pa_cons (pv 0) (pa_cons pe_int pa_nil))))))), ?_⟩
    try dsimp only [cxOf, Cx.nox, Cx.wish, List.map]
    walk_at "rd"
    rcases h with ⟨hl, kE⟩ | ⟨i, rfl, k⟩
    · exact ⟨v, rfl, .inl ⟨hl, kE⟩⟩
    · refine ⟨_, rfl, .inr ⟨i, rfl, ?_⟩⟩
      walk_at "rd"
      exact use_plX k
end
end Kx

namespace Kx
open PySem PySem.Spec PyProof.Rows L2 Hf
local macro_rules | `(tactic| walk_at "r1") => `(tactic| with_reducible first
  | refine rd_seq ?_ | refine rd_bm ?_ | refine rd_lc ?_ | refine rd_yes ?_ | refine rd_raE ?_ | refine rd_makR ?_ | refine rd_gsub ?_ | refine rd_clK ?_ | refine rd_callIK ?_ | refine rd_dnew ?_ | refine rd_jsC ?_ | refine rd_jsN ?_ | refine rd_fmt ?_ | refine rd_mkE ?_ | refine rd_for ?_ | refine rd_iList ?_ | refine rd_iTup ?_ | refine rd_iRng1 ?_ | refine rd_iRng2 ?_ | refine rd_asg ?_ | refine rd_gname ?_ | refine rd_ifS ?_ | refine rd_ret ?_ | refine rd_retN ?_ | refine rd_drop ?_ | refine rd_next ?_
  | refine rd_c ?_ | refine rd_op ?_ | refine rd_un ?_ | refine rd_cons ?_ | refine rd_nil ?_ | refine rd_test ?_ | refine rd_tB ?_ | refine rd_and ?_ | refine rd_or ?_ | refine rd_not ?_
  | refine rd_andV ?_ | refine rd_orV ?_ | refine rd_notV ?_ | refine rd_if ?_ | refine rd_cl ?_ | refine rd_methR ?_ | refine rd_makeR ?_ | refine rd_callO ?_ | refine rd_fld ?_ | refine rd_sfld ?_ | refine rd_cb ?_
  | refine rd_tupN ?_ | refine rd_lstN ?_ | refine rd_I0 ?_ | refine rd_U ?_ | refine rd_bl ?_ | refine rd_blP ?_ | refine rd_par ?_ | refine rd_par2 ?_ | refine rd_gcons ?_ | refine rd_gnil ?_)
local macro_rules | `(tactic| walk_at "rd") => `(tactic| repeat (first | walk_at "r1" | ((with_reducible refine' rd_var ?hh ?_); (case hh => exact rfl)) | ((with_reducible refine' rd_eq ?hh ?_); (case hh => exact rfl)) | ((with_reducible refine' rd_ne ?hh ?_); (case hh => exact rfl)) | ((with_reducible refine' rd_aug ?hh ?_); (case hh => exact rfl))))
local macro_rules | `(tactic| walk_at "pl") => `(tactic| repeat (first | walk_at "rd1" | (refine rd_fldK (by assumption) (PlC.cl (by assumption)) (by first | exact PlC.n1 (by assumption) | exact PlC.n2 (by assumption) | exact PlC.n3 (by assumption)) (by first | exact pl_slope | exact pl_offset | exact pl_odd) ?_)))
local macro_rules | `(tactic| walk_at "rd1") => `(tactic| first | walk_at "r1" | ((with_reducible refine' rd_var ?hh ?_); (case hh => exact rfl)) | ((with_reducible refine' rd_eq ?hh ?_); (case hh => exact rfl)) | ((with_reducible refine' rd_ne ?hh ?_); (case hh => exact rfl)) | ((with_reducible refine' rd_aug ?hh ?_); (case hh => exact rfl)))
local macro_rules | `(tactic| walk_at "lf") => `(tactic| first | assumption | (refine PlaceAt.same ?_ (by assumption); walk_at "lf") | (refine PlaceAt.keep ?_ (by assumption) (by assumption); walk_at "lf"))
local macro_rules | `(tactic| walk_at "lo") => `(tactic| first | assumption | (refine (by assumption : Same _ _) _ _ ?_; walk_at "lo") | (refine (by assumption : Keep _ _ _) _ _ ?_ (by assumption); walk_at "lo"))
section
variable {P : Program} {w : World} {K : PySem.W.Frag} {mg : Str → Option Value} {base : Heap}

theorem ok_l_at (T : Txt K mg) (D : DefAt K mg "_law_at" s_l_at ["_law_parts", "_law_wide"]) : Cal P w K mg base 1 "_law_at" (spLAt K) := by
  obtain ⟨f, fd, hm, F, b⟩ := D
  refine ⟨f, fnR0 F b sc_l_at (fun vs H Q E h => ?_) (fun cdv A outer s H vs Q E hr h => ?_), hm, F.kp⟩
  · obtain ⟨a, s, o, d, n, rfl, hS, hs, hd, hn, k⟩ := h
    rfl
  · obtain ⟨a, s, o, d, n, rfl, hS, hs, hd, hn, k⟩ := h
    have hu := hu_of hr
    refine ⟨_, (pss_cons (ps_set (i := 2) sc_l_at.nd rfl (Or.inl rfl) (pe_op op_fdivW (pv 1) pe_int))
  (pss_one (ps_ret (pe_op op_add (pe_op op_add (pe_op op_mulW (pe_ix ix_list (pv 0) pe_int (fun _ _ => rfl)) (pv 2)) (pe_ix ix_list (pv 0) pe_int (fun _ _ => rfl))) (pe_op op_mulW (pe_ix ix_list (pv 0) pe_int (fun _ _ => rfl)) (pe_op op_sub (pv 1) (pe_op op_mulW pe_int (pv 2)))))))), ?_⟩
    try dsimp only [cxOf, Cx.nox, Cx.wish, List.map]
    have h2 : Sm (n / 2) := ⟨by have := hn.1; omega, by have := hn.2; omega⟩
    have h3 : Sm (n - 2 * (n / 2)) := ⟨by omega, by omega⟩
    refine ⟨_, rfl, _, _, rfl, rfl, ⟨by decide, by decide⟩, ?_⟩
    refine ⟨_, rfl, a, _, _, _, rfl, rfl, hS, rfl, _, rfl, _, _, rfl, rfl, hs.mul h2, _, rfl, a, _, _, _, rfl, rfl, hS, rfl, _, _, rfl, rfl, _, rfl, a, _, _, _, rfl, rfl, hS, rfl, _, rfl, _, rfl, _, _, rfl, rfl, ?_, _, _, rfl, rfl, _, _, rfl, rfl, hd.mul h3, _, _, rfl, rfl, ?_⟩
    · exact Sm.mul ⟨by decide, by decide⟩ h2
    · have e : s * (n / 2) + o + d * (n - 2 * (n / 2)) = plv s o d n := by
        unfold plv
        rw [show n - 2 * (n / 2) = n % 2 from by omega]
      show Q (.int (s * (n / 2) + o + d * (n - 2 * (n / 2)))) H
      rw [e]
      exact k

theorem ok_l_number (T : Txt K mg) (c_l_draw : Cal P w K mg base 1 "_law_draw" spDraw) (D : DefAt K mg "_law_number" s_l_number ["_law_bag_here"]) : Cal P w K mg base 2 "_law_number" spLNum := by
  obtain ⟨f, fd, hm, F, b⟩ := D
  refine ⟨f, fnR0 F b sc_l_number (fun vs H Q E h => ?_) (fun cdv A outer s H vs Q E hr h => ?_), hm, F.kp⟩
  · obtain ⟨b, rfl, B, k⟩ := h
    rfl
  · obtain ⟨b, rfl, B, k⟩ := h
    have hu := hu_of hr
    refine ⟨_, (pss_cons (ps_set (i := 1) sc_l_number.nd rfl (Or.inl rfl) (pe_lst (pa_cons pe_int (pa_cons pe_int (pa_cons (pe_un un_neg pe_int) (pa_cons pe_int (pa_cons pe_int (pa_cons (pe_op op_sub (pe_cl c_l_draw hr passL (pa_cons (pv 0) (pa_cons pe_int pa_nil))) pe_int) (pa_cons (pe_op op_add (pe_op op_pow pe_int pe_int) (pe_cl c_l_draw hr passL (pa_cons (pv 0) (pa_cons pe_int pa_nil)))) (pa_cons (pe_un un_neg (pe_op op_pow pe_int pe_int)) (pa_cons (pe_cl c_l_draw hr passL (pa_cons (pv 0) (pa_cons pe_int pa_nil))) pa_nil)))))))))))
  (pss_one (ps_ret (pe_ix ix_list (pv 1) (pe_cl c_l_draw hr passL (pa_cons (pv 0) (pa_cons (pe_callB call_len_seq (by rfl) T.b_len (by decide +kernel) (pa_cons (pv 1) pa_nil)) pa_nil))) (fun _ _ => rfl))))), ?_⟩
    try dsimp only [cxOf, Cx.nox, Cx.wish, List.map]
    have p39 : (10 : Int) ^ (39 : Int).toNat = 1000000000000000000000000000000000000000 := by decide
    walk_at "rd"
    refine use_draw (n := 9) B (by decide) (by decide) fun i1 H1 l1 u1 B1 k1 => ?_
    walk_at "rd"
    refine rd_I ⟨by decide, by decide, by decide⟩ ?_
    rw [p39]
    walk_at "rd"
    refine use_draw (n := 5) B1 (by decide) (by decide) fun i2 H2 l2 u2 B2 k2 => ?_
    walk_at "rd"
    refine rd_I ⟨by decide, by decide, by decide⟩ ?_
    rw [p39]
    walk_at "rd"
    refine use_draw (n := 100) B2 (by decide) (by decide) fun i3 H3 l3 u3 B3 k3 => ?_
    walk_at "rd"
    refine new_lst (by show 9 ≤ 1000; decide) fun l H4 n4 e4 s4 => ?_
    have B4 := B3.same s4
    walk_at "rd"
    refine ⟨l, _, rfl, .inl (SqL.of e4), ?_⟩
    walk_at "rd"
    refine use_draw (n := 9) B4 (by decide) (by decide) fun i H5 l5 u5 B5 k5 => ?_
    have f4 := k5 _ _ e4 (B3.ne n4)
    obtain ⟨v, hv, b1, b2⟩ : ∃ v : Int, atI [V.int 0, V.int 1, V.int (-1), V.int 2, V.int 3, V.int (i1 - 4), V.int (1000000000000000000000000000000000000000 + i2), V.int (-1000000000000000000000000000000000000000), V.int i3] i = some (.int v) ∧ -10000000000000000000000000000000000000000 ≤ v ∧ v ≤ 10000000000000000000000000000000000000000 := by
      have : i = 0 ∨ i = 1 ∨ i = 2 ∨ i = 3 ∨ i = 4 ∨ i = 5 ∨ i = 6 ∨ i = 7 ∨ i = 8 := by omega
      rcases this with rfl | rfl | rfl | rfl | rfl | rfl | rfl | rfl | rfl
      all_goals exact ⟨_, rfl, by omega, by omega⟩
    refine ⟨l, _, _, _, rfl, rfl, SqL.of f4, hv, ?_⟩
    exact k v H5 b1 b2 B5 (((k1.trans k2).trans k3).trans ((Keep.of s4).trans k5))

theorem ok_l_odd (T : Txt K mg) (c_l_draw : Cal P w K mg base 1 "_law_draw" spDraw) (D : DefAt K mg "_law_odd" s_l_odd ["_law_bag_here"]) : Cal P w K mg base 2 "_law_odd" (spLOdd K) := by
  obtain ⟨f, fd, hm, F, b⟩ := D
  refine ⟨f, fnR0 F b sc_l_odd (fun vs H Q E h => ?_) (fun cdv A outer s H vs Q E hr h => ?_), hm, F.kp⟩
  · obtain ⟨b, c, rfl, B, k⟩ := h
    rfl
  · obtain ⟨b, c, rfl, B, k⟩ := h
    have hu := hu_of hr
    refine ⟨_, (pss_cons (ps_set (i := 1) sc_l_odd.nd rfl (Or.inl rfl) (pe_lst (pa_cons pe_non (pa_cons pe_bl (pa_cons pe_bl (pa_cons pe_str (pa_cons pe_str (pa_cons (pe_tup pa_nil) (pa_cons (pe_tup (pa_cons pe_int pa_nil)) (pa_cons (pe_lst pa_nil) (pa_cons (pe_lst (pa_cons pe_int pa_nil)) (pa_cons pe_dnewK (pa_cons pe_str pa_nil)))))))))))))
  (pss_one (ps_ret (pe_ix ix_list (pv 1) (pe_cl c_l_draw hr passL (pa_cons (pv 0) (pa_cons (pe_callB call_len_seq (by rfl) T.b_len (by decide +kernel) (pa_cons (pv 1) pa_nil)) pa_nil))) (fun _ _ => rfl))))), ?_⟩
    try dsimp only [cxOf, Cx.nox, Cx.wish, List.map]
    walk_at "rd"
    refine new_tup (by show 0 ≤ 1000; decide) fun t1 H1 n1 e1 s1 => ?_
    walk_at "rd"
    refine new_tup (by show 1 ≤ 1000; decide) fun t2 H2 n2 e2 s2 => ?_
    walk_at "rd"
    refine new_lst (by show 0 ≤ 1000; decide) fun t3 H3 n3 e3 s3 => ?_
    walk_at "rd"
    refine new_lst (by show 1 ≤ 1000; decide) fun t4 H4 n4 e4 s4 => ?_
    walk_at "rd"
    refine new_dict fun t5 H5 n5 e5 s5 => ?_
    walk_at "rd"
    refine new_lst (by show 11 ≤ 1000; decide) fun l H6 n6 e6 s6 => ?_
    have B1 := B.same s1
    have B2 := B1.same s2
    have B3 := B2.same s3
    have B4 := B3.same s4
    have B5 := B4.same s5
    have B6 := B5.same s6
    walk_at "rd"
    refine ⟨l, _, rfl, .inl (SqL.of e6), ?_⟩
    walk_at "rd"
    refine use_drawC (n := 11) B6 (by decide) (by decide) fun i H7 l7 u7 B7 k7 => ?_
    have x1 : t1 ≠ b := (B.ne n1).1
    have x2 : t2 ≠ b := (B1.ne n2).1
    have x3 : t3 ≠ b := (B2.ne n3).1
    have x4 : t4 ≠ b := (B3.ne n4).1
    have x5 : t5 ≠ b := (B4.ne n5).1
    have x6 : l ≠ b := (B5.ne n6).1
    have f1 := k7 _ _ (s6 _ _ (s5 _ _ (s4 _ _ (s3 _ _ (s2 _ _ e1))))) x1
    have f2 := k7 _ _ (s6 _ _ (s5 _ _ (s4 _ _ (s3 _ _ e2)))) x2
    have f3 := k7 _ _ (s6 _ _ (s5 _ _ (s4 _ _ e3))) x3
    have f4 := k7 _ _ (s6 _ _ (s5 _ _ e4)) x4
    have f5 := k7 _ _ (s6 _ _ e5) x5
    have f6 := k7 _ _ e6 x6
    obtain ⟨v, hv, hb, hw⟩ : ∃ v : V, atI [V.non, V.bl true, V.bl false, V.str "", V.str "1", V.ref t1, V.ref t2, V.ref t3, V.ref t4, V.ref t5, V.str "left 0"] i = some v ∧ (∀ p o, H p = some o → v ≠ .ref p) ∧ NotW K H7 v := by
      have z1 : ∀ p o, H p = some o → t1 ≠ p := fun p o h z => by rw [← z, n1] at h; cases h
      have z2 : ∀ p o, H p = some o → t2 ≠ p := fun p o h z => by have h := s1 _ _ h; rw [← z, n2] at h; cases h
      have z3 : ∀ p o, H p = some o → t3 ≠ p := fun p o h z => by have h := s2 _ _ (s1 _ _ h); rw [← z, n3] at h; cases h
      have z4 : ∀ p o, H p = some o → t4 ≠ p := fun p o h z => by have h := s3 _ _ (s2 _ _ (s1 _ _ h)); rw [← z, n4] at h; cases h
      have z5 : ∀ p o, H p = some o → t5 ≠ p := fun p o h z => by have h := s4 _ _ (s3 _ _ (s2 _ _ (s1 _ _ h))); rw [← z, n5] at h; cases h
      have : i = 0 ∨ i = 1 ∨ i = 2 ∨ i = 3 ∨ i = 4 ∨ i = 5 ∨ i = 6 ∨ i = 7 ∨ i = 8 ∨ i = 9 ∨ i = 10 := by omega
      rcases this with rfl | rfl | rfl | rfl | rfl | rfl | rfl | rfl | rfl | rfl | rfl
      · exact ⟨_, rfl, fun _ _ _ z => (by cases z), nw_non⟩
      · exact ⟨_, rfl, fun _ _ _ z => (by cases z), nw_bl⟩
      · exact ⟨_, rfl, fun _ _ _ z => (by cases z), nw_bl⟩
      · exact ⟨_, rfl, fun _ _ _ z => (by cases z), nw_str⟩
      · exact ⟨_, rfl, fun _ _ _ z => (by cases z), nw_str⟩
      · exact ⟨_, rfl, fun p o h z => (z1 p o h (V.ref.inj z)), nw_tup f1⟩
      · exact ⟨_, rfl, fun p o h z => (z2 p o h (V.ref.inj z)), nw_tup f2⟩
      · exact ⟨_, rfl, fun p o h z => (z3 p o h (V.ref.inj z)), nw_lst f3⟩
      · exact ⟨_, rfl, fun p o h z => (z4 p o h (V.ref.inj z)), nw_lst f4⟩
      · exact ⟨_, rfl, fun p o h z => (z5 p o h (V.ref.inj z)), nw_dict f5⟩
      · exact ⟨_, rfl, fun _ _ _ z => (by cases z), nw_str⟩
    refine ⟨l, _, _, _, rfl, rfl, SqL.of f6, hv, ?_⟩
    exact k v H7 hb hw B7 ((Keep.of (((((s1.trans s2).trans s3).trans s4).trans s5).trans s6)).trans k7)
end
end Kx

namespace Kx
open PySem PySem.Spec PyProof.Rows L2 Hf
local macro_rules | `(tactic| walk_at "r1") => `(tactic| with_reducible first
  | refine rd_seq ?_ | refine rd_bm ?_ | refine rd_lc ?_ | refine rd_yes ?_ | refine rd_raE ?_ | refine rd_makR ?_ | refine rd_gsub ?_ | refine rd_clK ?_ | refine rd_callIK ?_ | refine rd_dnew ?_ | refine rd_jsC ?_ | refine rd_jsN ?_ | refine rd_fmt ?_ | refine rd_mkE ?_ | refine rd_for ?_ | refine rd_iList ?_ | refine rd_iTup ?_ | refine rd_iRng1 ?_ | refine rd_iRng2 ?_ | refine rd_asg ?_ | refine rd_gname ?_ | refine rd_ifS ?_ | refine rd_ret ?_ | refine rd_retN ?_ | refine rd_drop ?_ | refine rd_next ?_
  | refine rd_c ?_ | refine rd_op ?_ | refine rd_un ?_ | refine rd_cons ?_ | refine rd_nil ?_ | refine rd_test ?_ | refine rd_tB ?_ | refine rd_and ?_ | refine rd_or ?_ | refine rd_not ?_
  | refine rd_andV ?_ | refine rd_orV ?_ | refine rd_notV ?_ | refine rd_if ?_ | refine rd_cl ?_ | refine rd_methR ?_ | refine rd_makeR ?_ | refine rd_callO ?_ | refine rd_fld ?_ | refine rd_sfld ?_ | refine rd_cb ?_
  | refine rd_tupN ?_ | refine rd_lstN ?_ | refine rd_I0 ?_ | refine rd_U ?_ | refine rd_bl ?_ | refine rd_blP ?_ | refine rd_par ?_ | refine rd_par2 ?_ | refine rd_gcons ?_ | refine rd_gnil ?_)
local macro_rules | `(tactic| walk_at "rd") => `(tactic| repeat (first | walk_at "r1" | ((with_reducible refine' rd_var ?hh ?_); (case hh => exact rfl)) | ((with_reducible refine' rd_eq ?hh ?_); (case hh => exact rfl)) | ((with_reducible refine' rd_ne ?hh ?_); (case hh => exact rfl)) | ((with_reducible refine' rd_aug ?hh ?_); (case hh => exact rfl))))
local macro_rules | `(tactic| walk_at "pl") => `(tactic| repeat (first | walk_at "rd1" | (refine rd_fldK (by assumption) (PlC.cl (by assumption)) (by first | exact PlC.n1 (by assumption) | exact PlC.n2 (by assumption) | exact PlC.n3 (by assumption)) (by first | exact pl_slope | exact pl_offset | exact pl_odd) ?_)))
local macro_rules | `(tactic| walk_at "rd1") => `(tactic| first | walk_at "r1" | ((with_reducible refine' rd_var ?hh ?_); (case hh => exact rfl)) | ((with_reducible refine' rd_eq ?hh ?_); (case hh => exact rfl)) | ((with_reducible refine' rd_ne ?hh ?_); (case hh => exact rfl)) | ((with_reducible refine' rd_aug ?hh ?_); (case hh => exact rfl)))
local macro_rules | `(tactic| walk_at "lf") => `(tactic| first | assumption | (refine PlaceAt.same ?_ (by assumption); walk_at "lf") | (refine PlaceAt.keep ?_ (by assumption) (by assumption); walk_at "lf"))
local macro_rules | `(tactic| walk_at "lo") => `(tactic| first | assumption | (refine (by assumption : Same _ _) _ _ ?_; walk_at "lo") | (refine (by assumption : Keep _ _ _) _ _ ?_ (by assumption); walk_at "lo"))
section
variable {P : Program} {w : World} {K : PySem.W.Frag} {mg : Str → Option Value} {base : Heap}

theorem ok_l_sorts_right {C CB : Addr} (T : Txt K mg) (C0 : PlC K mg C) (c_from_left : Cal P w K mg base 5 "from_left" (spFromX K C CB (fun k => (0, k, 0)))) (k_from_left : CalK P w K mg base 5 "from_left" ["k"] id (spFromX K C CB (fun k => (0, k, 0)))) (c_from_right : Cal P w K mg base 5 "from_right" (spFromX K C CB (fun k => (2, 0 - k, 1)))) (k_from_right : CalK P w K mg base 5 "from_right" ["k"] id (spFromX K C CB (fun k => (2, 0 - k, 1)))) (c_from_middle : Cal P w K mg base 5 "from_middle" (spFromX K C CB (fun k => (1, k, 0)))) (k_from_middle : CalK P w K mg base 5 "from_middle" ["k"] id (spFromX K C CB (fun k => (1, k, 0)))) (D : DefAt K mg "_law_sorts_right" s_l_sorts_right ["_law_far"]) : Cal P w K mg base 6 "_law_sorts_right" spLSorts := by
  obtain ⟨f, fd, hm, F, b⟩ := D
  refine ⟨f, fnR0 F b sc_l_sorts_right (fun vs H Q E h => ?_) (fun cdv A outer s H vs Q E hr h => ?_), hm, F.kp⟩
  · obtain ⟨k0, rfl, k⟩ := h
    rfl
  · obtain ⟨k0, rfl, k⟩ := h
    have hu := hu_of hr
    refine ⟨_, (pss_cons (ps_set (i := 1) sc_l_sorts_right.nd rfl (Or.inl rfl) (pe_lst (pa_cons (pe_cl c_from_left hr passL (pa_cons (pv 0) pa_nil)) (pa_cons (pe_cl c_from_right hr passL (pa_cons (pv 0) pa_nil)) (pa_cons (pe_cl c_from_middle hr passL (pa_cons (pv 0) pa_nil)) pa_nil)))))
  (pss_cons (ps_set (i := 1) sc_l_sorts_right.nd rfl (Or.inl rfl) (pe_op op_cat (pv 1) (pe_lst (pa_cons (pe_clK k_from_left hr passL (pk_cons (pv 0) pk_nil)) (pa_cons (pe_clK k_from_right hr passL (pk_cons (pv 0) pk_nil)) (pa_cons (pe_clK k_from_middle hr passL (pk_cons (pv 0) pk_nil)) pa_nil))))))
  (pss_cons (ps_set (i := 2) sc_l_sorts_right.nd rfl (Or.inl rfl) (pe_op op_rep (pe_lst (pa_cons (pe_tup (pa_cons pe_int (pa_cons (pv 0) (pa_cons pe_int pa_nil)))) (pa_cons (pe_tup (pa_cons pe_int (pa_cons (pe_op op_sub pe_int (pv 0)) (pa_cons pe_int pa_nil)))) (pa_cons (pe_tup (pa_cons pe_int (pa_cons (pv 0) (pa_cons pe_int pa_nil)))) pa_nil)))) pe_int))
  (pss_one (ps_ret (pe_cmpR (op_eqD hr.units) (pe_lc (own := [("_law_one", 3)]) (by rfl) sc_l_sorts_right.nd (pi_list (pv 1)) (blkOk_by (own := [("_law_one", 3)]) (N := ["_law_far", "_law_found", "_law_due", "_law_one"]) (sc := defScope s_l_sorts_right) (by decide +kernel)) (fun _ _ _ _ _ => (pg_name (i := 3) sc_l_sorts_right.nd rfl (Or.inl rfl))) (fun _ _ _ _ _ => pts_nil) (fun _ _ _ _ _ => (pe_tup (pa_cons (pe_fldB (K := K) (pv 3) rfl) (pa_cons (pe_fldB (K := K) (pv 3) rfl) (pa_cons (pe_fldB (K := K) (pv 3) rfl) pa_nil)))))) (pv 2) (nomark _))))))), ?_⟩
    try dsimp only [cxOf, Cx.nox, Cx.wish, List.map]
    walk_at "rd"
    refine ⟨_, rfl, .inr ⟨_, rfl, fun p1 H1 n1 g1 s1 => ?_⟩⟩
    walk_at "rd"
    refine ⟨_, rfl, .inr ⟨_, rfl, fun p2 H2 n2 g2 s2 => ?_⟩⟩
    walk_at "rd"
    refine ⟨_, rfl, .inr ⟨_, rfl, fun p3 H3 n3 g3 s3 => ?_⟩⟩
    walk_at "rd"
    refine new_lst (by show 3 ≤ 1000; decide) fun a1 H4 n4 e4 s4 => ?_
    walk_at "rd"
    refine ⟨rfl, _, rfl, .inr ⟨_, rfl, fun p4 H5 n5 g5 s5 => ?_⟩⟩
    walk_at "rd"
    refine ⟨rfl, _, rfl, .inr ⟨_, rfl, fun p5 H6 n6 g6 s6 => ?_⟩⟩
    walk_at "rd"
    refine ⟨rfl, _, rfl, .inr ⟨_, rfl, fun p6 H7 n7 g7 s7 => ?_⟩⟩
    walk_at "rd"
    refine new_lst (by show 3 ≤ 1000; decide) fun a2 H8 n8 e8 s8 => ?_
    have f4 := s8 _ _ (s7 _ _ (s6 _ _ (s5 _ _ e4)))
    refine ⟨a1, a2, _, _, rfl, rfl, f4, e8, Nat.le_of_lt (small1000 (by show 6 ≤ 1000; decide)), fun a3 n9 => ?_⟩
    have s9 := Same.new (o := .lst ([V.ref p1, V.ref p2, V.ref p3] ++ [V.ref p4, V.ref p5, V.ref p6])) n9
    have e9 := upd_same (H := H8) (a := a3) (o := .lst ([V.ref p1, V.ref p2, V.ref p3] ++ [V.ref p4, V.ref p5, V.ref p6]))
    generalize upd H8 a3 _ = H9 at *
    walk_at "rd"
    refine new_tup (by show 3 ≤ 1000; decide) fun t1 H10 n10 e10 s10 => ?_
    walk_at "rd"
    refine new_tup (by show 3 ≤ 1000; decide) fun t2 H11 n11 e11 s11 => ?_
    walk_at "rd"
    refine new_tup (by show 3 ≤ 1000; decide) fun t3 H12 n12 e12 s12 => ?_
    walk_at "rd"
    refine new_lst (by show 3 ≤ 1000; decide) fun a4 H13 n13 e13 s13 => ?_
    walk_at "rd"
    refine ⟨a4, 2, _, rfl, rfl, e13, by decide, by decide, Nat.le_of_lt (small1000 (by show 6 ≤ 1000; decide)), fun a5 n14 => ?_⟩
    have s14 := Same.new (o := .lst [V.ref t1, V.ref t2, V.ref t3, V.ref t1, V.ref t2, V.ref t3]) n14
    have e14 := upd_same (H := H13) (a := a5) (o := .lst [V.ref t1, V.ref t2, V.ref t3, V.ref t1, V.ref t2, V.ref t3])
    rw [show (List.replicate (2 : Int).toNat [V.ref t1, V.ref t2, V.ref t3]).flatten = [V.ref t1, V.ref t2, V.ref t3, V.ref t1, V.ref t2, V.ref t3] from rfl]
    generalize upd H13 a5 _ = H14 at *
    have S9 := (((s10.trans s11).trans s12).trans s13).trans s14
    have S5 := ((s5.trans s6).trans s7).trans (s8.trans s9)
    have G1 := g1.same (((s2.trans s3).trans s4).trans (S5.trans S9))
    have G2 := g2.same ((s3.trans s4).trans (S5.trans S9))
    have G3 := g3.same (s4.trans (S5.trans S9))
    have G4 := g5.same (((s6.trans s7).trans (s8.trans s9)).trans S9)
    have G5 := g6.same ((s7.trans (s8.trans s9)).trans S9)
    have G6 := g7.same ((s8.trans s9).trans S9)
    have f9 := S9 _ _ e9
    have m1 := s14 _ _ (s13 _ _ (s12 _ _ (s11 _ _ e10)))
    have m2 := s14 _ _ (s13 _ _ (s12 _ _ e11))
    have m3 := s14 _ _ (s13 _ _ e12)
    have S0 := (((s1.trans s2).trans s3).trans s4).trans (S5.trans S9)
    clear S9 S5 s1 s2 s3 s4 s5 s6 s7 s8 s9 s10 s11 s12 s13 s14 g1 g2 g3 g5 g6 g7 e4 e8 e9 e10 e11 e12 e13 f4 n1 n2 n3 n4 n5 n6 n7 n8 n9 n10 n11 n12 n13 n14
    walk_at "rd"
    refine lc_mapT (fun j => match j with | 0 => [.int 0, .int k0, .int 0] | 1 => [.int 2, .int (0 - k0), .int 1] | 2 => [.int 1, .int k0, .int 0] | 3 => [.int 0, .int k0, .int 0] | 4 => [.int 2, .int (0 - k0), .int 1] | _ => [.int 1, .int k0, .int 0]) (SqL.of f9) (by show 6 ≤ 1000; decide) (fun j x H1 R hx sx kx => ?_) fun D ts H1 nD eD hf sD => ?_
    · have J : ∃ (p : Addr) (s o d : Int), x = .ref p ∧ PlaceAt C H14 p s o d ∧ (match j with | 0 => [V.int 0, .int k0, .int 0] | 1 => [.int 2, .int (0 - k0), .int 1] | 2 => [.int 1, .int k0, .int 0] | 3 => [.int 0, .int k0, .int 0] | 4 => [.int 2, .int (0 - k0), .int 1] | _ => [.int 1, .int k0, .int 0]) = [.int s, .int o, .int d] := by
        match j, hx with
        | 0, hx => cases hx; exact ⟨_, _, _, _, rfl, G1, rfl⟩
        | 1, hx => cases hx; exact ⟨_, _, _, _, rfl, G2, rfl⟩
        | 2, hx => cases hx; exact ⟨_, _, _, _, rfl, G3, rfl⟩
        | 3, hx => cases hx; exact ⟨_, _, _, _, rfl, G4, rfl⟩
        | 4, hx => cases hx; exact ⟨_, _, _, _, rfl, G5, rfl⟩
        | 5, hx => cases hx; exact ⟨_, _, _, _, rfl, G6, rfl⟩
        | i + 6, hx => simp at hx
      obtain ⟨p, s, o, d, rfl, gp, ej⟩ := J
      obtain ⟨dx, hp⟩ := gp.same sx
      walk_at "pl"
      refine new_tup (by show 3 ≤ 1000; decide) fun t H2 nt et st => kx t H2 nt ?_ st
      rw [et]
      exact congrArg (fun l => some (HO.tup l)) ej.symm
    · change F2 _ ts [[V.int 0, .int k0, .int 0], [.int 2, .int (0 - k0), .int 1], [.int 1, .int k0, .int 0], [.int 0, .int k0, .int 0], [.int 2, .int (0 - k0), .int 1], [.int 1, .int k0, .int 0]] at hf
      obtain _ | ⟨h1, _ | ⟨h2, _ | ⟨h3, _ | ⟨h4, _ | ⟨h5, _ | ⟨h6, _ | _⟩⟩⟩⟩⟩⟩ := hf
      walk_at "rd"
      have dt : ∀ {t : Addr} {x y z : Int}, H1 t = some (.tup [.int x, .int y, .int z]) → Dp K H1 (.ref t) (.tuple [.int x, .int y, .int z]) := fun h => .tup (SqT.of h) (.cons (.int _) (.cons (.int _) (.cons (.int _) .nil)))
      refine ⟨.list [.tuple [.int 0, .int k0, .int 0], .tuple [.int 2, .int (0 - k0), .int 1], .tuple [.int 1, .int k0, .int 0], .tuple [.int 0, .int k0, .int 0], .tuple [.int 2, .int (0 - k0), .int 1], .tuple [.int 1, .int k0, .int 0]], .list [.tuple [.int 0, .int k0, .int 0], .tuple [.int 2, .int (0 - k0), .int 1], .tuple [.int 1, .int k0, .int 0], .tuple [.int 0, .int k0, .int 0], .tuple [.int 2, .int (0 - k0), .int 1], .tuple [.int 1, .int k0, .int 0]], .lst (SqL.of eD) (.cons (dt h1) (.cons (dt h2) (.cons (dt h3) (.cons (dt h4) (.cons (dt h5) (.cons (dt h6) .nil)))))), .lst (SqL.of (sD _ _ e14)) (.cons (dt (sD _ _ m1)) (.cons (dt (sD _ _ m2)) (.cons (dt (sD _ _ m3)) (.cons (dt (sD _ _ m1)) (.cons (dt (sD _ _ m2)) (.cons (dt (sD _ _ m3)) .nil)))))), by simp [SeqAt.shaped, PyData.canLay0, PyData.canLayAll0, PyData.depth, PyData.depthAll], by simp [SeqAt.shaped, PyData.canLay0, PyData.canLayAll0, PyData.depth, PyData.depthAll], ?_⟩
      rw [SeqAt.eqv_refl _ (by simp [PyData.canLay0, PyData.canLayAll0])]
      exact k _ (S0.trans sD)
end
end Kx

namespace Kx
open PySem PySem.Spec PyProof.Rows L2 Hf
local macro_rules | `(tactic| walk_at "r1") => `(tactic| with_reducible first
  | refine rd_seq ?_ | refine rd_bm ?_ | refine rd_lc ?_ | refine rd_yes ?_ | refine rd_raE ?_ | refine rd_makR ?_ | refine rd_gsub ?_ | refine rd_clK ?_ | refine rd_callIK ?_ | refine rd_dnew ?_ | refine rd_jsC ?_ | refine rd_jsN ?_ | refine rd_fmt ?_ | refine rd_mkE ?_ | refine rd_for ?_ | refine rd_iList ?_ | refine rd_iTup ?_ | refine rd_iRng1 ?_ | refine rd_iRng2 ?_ | refine rd_asg ?_ | refine rd_gname ?_ | refine rd_ifS ?_ | refine rd_ret ?_ | refine rd_retN ?_ | refine rd_drop ?_ | refine rd_next ?_
  | refine rd_c ?_ | refine rd_op ?_ | refine rd_un ?_ | refine rd_cons ?_ | refine rd_nil ?_ | refine rd_test ?_ | refine rd_tB ?_ | refine rd_and ?_ | refine rd_or ?_ | refine rd_not ?_
  | refine rd_andV ?_ | refine rd_orV ?_ | refine rd_notV ?_ | refine rd_if ?_ | refine rd_cl ?_ | refine rd_methR ?_ | refine rd_makeR ?_ | refine rd_callO ?_ | refine rd_fld ?_ | refine rd_sfld ?_ | refine rd_cb ?_
  | refine rd_tupN ?_ | refine rd_lstN ?_ | refine rd_I0 ?_ | refine rd_U ?_ | refine rd_bl ?_ | refine rd_blP ?_ | refine rd_par ?_ | refine rd_par2 ?_ | refine rd_gcons ?_ | refine rd_gnil ?_)
local macro_rules | `(tactic| walk_at "rd") => `(tactic| repeat (first | walk_at "r1" | ((with_reducible refine' rd_var ?hh ?_); (case hh => exact rfl)) | ((with_reducible refine' rd_eq ?hh ?_); (case hh => exact rfl)) | ((with_reducible refine' rd_ne ?hh ?_); (case hh => exact rfl)) | ((with_reducible refine' rd_aug ?hh ?_); (case hh => exact rfl))))
local macro_rules | `(tactic| walk_at "pl") => `(tactic| repeat (first | walk_at "rd1" | (refine rd_fldK (by assumption) (PlC.cl (by assumption)) (by first | exact PlC.n1 (by assumption) | exact PlC.n2 (by assumption) | exact PlC.n3 (by assumption)) (by first | exact pl_slope | exact pl_offset | exact pl_odd) ?_)))
local macro_rules | `(tactic| walk_at "rd1") => `(tactic| first | walk_at "r1" | ((with_reducible refine' rd_var ?hh ?_); (case hh => exact rfl)) | ((with_reducible refine' rd_eq ?hh ?_); (case hh => exact rfl)) | ((with_reducible refine' rd_ne ?hh ?_); (case hh => exact rfl)) | ((with_reducible refine' rd_aug ?hh ?_); (case hh => exact rfl)))
local macro_rules | `(tactic| walk_at "lf") => `(tactic| first | assumption | (refine PlaceAt.same ?_ (by assumption); walk_at "lf") | (refine PlaceAt.keep ?_ (by assumption) (by assumption); walk_at "lf"))
local macro_rules | `(tactic| walk_at "lo") => `(tactic| first | assumption | (refine (by assumption : Same _ _) _ _ ?_; walk_at "lo") | (refine (by assumption : Keep _ _ _) _ _ ?_ (by assumption); walk_at "lo"))
section
variable {P : Program} {w : World} {K : PySem.W.Frag} {mg : Str → Option Value} {base : Heap}

open LamX in
theorem heard_gives {X : Cx} {g : Addr} {cdg : Value} {q : Str} {HE CP CS : Addr} (gh : X.mg "HoldError" = some (.ref HE)) (gp : X.mg "BadPlace" = some (.ref CP)) (gs : X.mg "BadSize" = some (.ref CS)) (bi : X.mg "isinstance" = none)
    (ex : ExcC X.K CP) (xf : XfC X.K CP) (hno : PySem.W.findIn X.K (.ref CP) "part" = some none) (em : PySem.W.exmOne X.K (.ref CP) (.ref HE) = some true)
    (ex2 : ExcC X.K CS) (xf2 : XfC X.K CS) (hno2 : PySem.W.findIn X.K (.ref CS) "part" = some none) (em2 : PySem.W.exmOne X.K (.ref CS) (.ref HE) = some true) (kn : PySem.W.kitOne X.K (.ref CS) (.ref CP) = some false) :
    GivesTo X ["_law_ask", "error"] "_law_heard" (defScope s_l_heard) g cdg (defBody s_l_heard) "_law_ask" q (THear2 CP CS "place" "size" "part") := by
  intro f c' s H Q tl act hc h
  refine ⟨_, pss_one (ps_try_as (X := (cxOf C8.CX0 X.prog X.w X.K X.mg X.base ["_law_ask", "error"] "_law_heard" (defScope s_l_heard) g cdg X.A X.stack s H C8.E0).nox) (c := .ref HE) (i := 1)
      (tb := fun W D σ H => ∃ Ech : XK, (∀ cls d σ' H', Ech cls d H' → W cls d σ' H') ∧ σ[0]? = some (some (.ref f)) ∧ H c' = some (CodeO c' q) ∧ tl Ech H (fun v H' => NewT D.rt [.str "told", v] H'))
      (ts := fun a cls d D σ H => (∃ σ0 : L2.St, σ = σ0.set 1 (some (.ref a))) ∧ ∃ (dd : Addr) (fs : List (Str × V)) (v : V), d = some dd ∧ H dd = some (.xd fs) ∧ fs.lookup ("part" : Str) = some v ∧ ((cls = .ref CP ∧ NewT D.rt [.str "place", v] H) ∨ (cls = .ref CS ∧ NewT D.rt [.str "size", v] H)))
      rfl rfl sc_l_heard.nd rfl rfl ⟨rfl, by decide, .inl gh⟩ LamX.takes0 (fun W pn xe tk _ => ?_) (fun a oe cls d pn hz hf => ?_)), ?_⟩
  · refine ⟨fun pins s' σ H' D I h' => ?_⟩
    obtain ⟨Ech, hW, h1, h2, h3⟩ := h'
    exact (pss_one (ps_ret (pe_tup (pa_cons pe_str (pa_cons (act W pn xe Ech _ _ tk hW) pa_nil))))).run pins s' σ H' D I ⟨h1, h2, h3⟩
  · refine ⟨fun pins s' σ H' D I h' => ?_⟩
    obtain ⟨⟨σ0, hσ⟩, dd, fs, v, rfl, hd, hl, k⟩ := h'
    have hs1 : σ[1]? = some (some (.ref a)) := by
      have hlen : σ.length = 2 := I.len
      rw [hσ] at hlen ⊢
      rw [List.length_set] at hlen
      rw [List.getElem?_set_self (by omega)]
    rcases k with ⟨rfl, k⟩ | ⟨rfl, k⟩
    · refine (pss_cons (X := ((cxOf C8.CX0 X.prog X.w X.K X.mg X.base ["_law_ask", "error"] "_law_heard" (defScope s_l_heard) g cdg X.A X.stack s H C8.E0).nox).suite a ((a, oe) :: pn)) (ps_if (pt_val (pe_callB (call_isD (X := (cxOf C8.CX0 X.prog X.w X.K X.mg X.base ["_law_ask", "error"] "_law_heard" (defScope s_l_heard) g cdg X.A X.stack s H C8.E0).nox) (a := a) (pn := pn) (fs := fs) ex hz hf) (by rfl) bi (by decide +kernel) (pa_cons (pv 1) (pa_cons (pe_glob (v := .ref CP) (by rfl) gp rfl) pa_nil)))) (pss_one (ps_ret (pe_tup (pa_cons pe_str (pa_cons (pe_xf (X := (cxOf C8.CX0 X.prog X.w X.K X.mg X.base ["_law_ask", "error"] "_law_heard" (defScope s_l_heard) g cdg X.A X.stack s H C8.E0).nox) (a := a) (pn := pn) xf hno hz hf (pv 1)) pa_nil))))) pss_nil) pss_never).run pins s' σ H' D I ?_
      refine ⟨_, hs1, ⟨fs, hd⟩, .ref CP, .ref CP, true, rfl, (fun u r => r), kit_self, ?_⟩
      exact ⟨true, rfl, iteT ⟨.ref a, hs1, rfl, rfl, dd, fs, v, rfl, hd, hl, k⟩⟩
    · refine (pss_cons (X := ((cxOf C8.CX0 X.prog X.w X.K X.mg X.base ["_law_ask", "error"] "_law_heard" (defScope s_l_heard) g cdg X.A X.stack s H C8.E0).nox).suite a ((a, oe) :: pn)) (ps_if (pt_val (pe_callB (call_isD (X := (cxOf C8.CX0 X.prog X.w X.K X.mg X.base ["_law_ask", "error"] "_law_heard" (defScope s_l_heard) g cdg X.A X.stack s H C8.E0).nox) (a := a) (pn := pn) (fs := fs) ex2 hz hf) (by rfl) bi (by decide +kernel) (pa_cons (pv 1) (pa_cons (pe_glob (v := .ref CP) (by rfl) gp rfl) pa_nil)))) (pss_one ps_never) pss_nil) (pss_one (ps_ret (pe_ifExp (pt_val (pe_callB (call_isD (X := (cxOf C8.CX0 X.prog X.w X.K X.mg X.base ["_law_ask", "error"] "_law_heard" (defScope s_l_heard) g cdg X.A X.stack s H C8.E0).nox) (a := a) (pn := pn) (fs := fs) ex2 hz hf) (by rfl) bi (by decide +kernel) (pa_cons (pv 1) (pa_cons (pe_glob (v := .ref CS) (by rfl) gs rfl) pa_nil)))) (pe_tup (pa_cons pe_str (pa_cons (pe_xf (X := (cxOf C8.CX0 X.prog X.w X.K X.mg X.base ["_law_ask", "error"] "_law_heard" (defScope s_l_heard) g cdg X.A X.stack s H C8.E0).nox) (a := a) (pn := pn) xf2 hno2 hz hf (pv 1)) pa_nil))) (pe_tup (pa_cons pe_str (pa_cons pe_non pa_nil))))))).run pins s' σ H' D I ?_
      refine ⟨_, hs1, ⟨fs, hd⟩, .ref CP, .ref CP, false, rfl, (fun u r => r), kn, ?_⟩
      refine ⟨false, rfl, iteF ?_⟩
      refine ⟨_, hs1, ⟨fs, hd⟩, .ref CS, .ref CS, true, rfl, (fun u r => r), kit_self, ?_⟩
      exact ⟨true, rfl, iteT ⟨.ref a, hs1, rfl, rfl, dd, fs, v, rfl, hd, hl, k⟩⟩
  · refine ⟨fun cls d H' => ∃ (dd : Addr) (fs : List (Str × V)) (v : V), d = some dd ∧ H' dd = some (.xd fs) ∧ fs.lookup ("part" : Str) = some v ∧ ((cls = .ref CP ∧ NewT Q [.str "place", v] H') ∨ (cls = .ref CS ∧ NewT Q [.str "size", v] H')), fun cls d σ' H' z => ?_, rfl, hc, h⟩
    obtain ⟨dd, fs, v, rfl, hd, hl, k⟩ := z
    refine ⟨true, ?_, fun _ a _ => ⟨⟨σ', rfl⟩, dd, fs, v, rfl, hd, hl, k⟩, fun z => by cases z⟩
    rcases k with ⟨rfl, _⟩ | ⟨rfl, _⟩
    · exact em
    · exact em2
end
end Kx

namespace Kx
open PySem PySem.Spec PyProof.Rows L2 Hf
local macro_rules | `(tactic| walk_at "r1") => `(tactic| with_reducible first
  | refine rd_seq ?_ | refine rd_bm ?_ | refine rd_lc ?_ | refine rd_yes ?_ | refine rd_raE ?_ | refine rd_makR ?_ | refine rd_gsub ?_ | refine rd_clK ?_ | refine rd_callIK ?_ | refine rd_dnew ?_ | refine rd_jsC ?_ | refine rd_jsN ?_ | refine rd_fmt ?_ | refine rd_mkE ?_ | refine rd_for ?_ | refine rd_iList ?_ | refine rd_iTup ?_ | refine rd_iRng1 ?_ | refine rd_iRng2 ?_ | refine rd_asg ?_ | refine rd_gname ?_ | refine rd_ifS ?_ | refine rd_ret ?_ | refine rd_retN ?_ | refine rd_drop ?_ | refine rd_next ?_
  | refine rd_c ?_ | refine rd_op ?_ | refine rd_un ?_ | refine rd_cons ?_ | refine rd_nil ?_ | refine rd_test ?_ | refine rd_tB ?_ | refine rd_and ?_ | refine rd_or ?_ | refine rd_not ?_
  | refine rd_andV ?_ | refine rd_orV ?_ | refine rd_notV ?_ | refine rd_if ?_ | refine rd_cl ?_ | refine rd_methR ?_ | refine rd_makeR ?_ | refine rd_callO ?_ | refine rd_fld ?_ | refine rd_sfld ?_ | refine rd_cb ?_
  | refine rd_tupN ?_ | refine rd_lstN ?_ | refine rd_I0 ?_ | refine rd_U ?_ | refine rd_bl ?_ | refine rd_blP ?_ | refine rd_par ?_ | refine rd_par2 ?_ | refine rd_gcons ?_ | refine rd_gnil ?_)
local macro_rules | `(tactic| walk_at "rd") => `(tactic| repeat (first | walk_at "r1" | ((with_reducible refine' rd_var ?hh ?_); (case hh => exact rfl)) | ((with_reducible refine' rd_eq ?hh ?_); (case hh => exact rfl)) | ((with_reducible refine' rd_ne ?hh ?_); (case hh => exact rfl)) | ((with_reducible refine' rd_aug ?hh ?_); (case hh => exact rfl))))
local macro_rules | `(tactic| walk_at "pl") => `(tactic| repeat (first | walk_at "rd1" | (refine rd_fldK (by assumption) (PlC.cl (by assumption)) (by first | exact PlC.n1 (by assumption) | exact PlC.n2 (by assumption) | exact PlC.n3 (by assumption)) (by first | exact pl_slope | exact pl_offset | exact pl_odd) ?_)))
local macro_rules | `(tactic| walk_at "rd1") => `(tactic| first | walk_at "r1" | ((with_reducible refine' rd_var ?hh ?_); (case hh => exact rfl)) | ((with_reducible refine' rd_eq ?hh ?_); (case hh => exact rfl)) | ((with_reducible refine' rd_ne ?hh ?_); (case hh => exact rfl)) | ((with_reducible refine' rd_aug ?hh ?_); (case hh => exact rfl)))
local macro_rules | `(tactic| walk_at "lf") => `(tactic| first | assumption | (refine PlaceAt.same ?_ (by assumption); walk_at "lf") | (refine PlaceAt.keep ?_ (by assumption) (by assumption); walk_at "lf"))
local macro_rules | `(tactic| walk_at "lo") => `(tactic| first | assumption | (refine (by assumption : Same _ _) _ _ ?_; walk_at "lo") | (refine (by assumption : Keep _ _ _) _ _ ?_ (by assumption); walk_at "lo"))
section
variable {P : Program} {w : World} {K : PySem.W.Frag} {mg : Str → Option Value} {base : Heap}

open LamX in
theorem ok_law {C : Addr} (T : Txt K mg) (C0 : PlC K mg C) (nI : PySem.W.subIn K (.type "int") (.ref C) = some false) (nT : PySem.W.subIn K (.type "tuple") (.ref C) = some false) (kT : PySem.W.kitOne K (.type "tuple") (.ref C) = some false) (c0 P0 : Addr) (TB : LamX.TabB base mg c0 P0) (D_heard : DefAt K mg "_law_heard" s_l_heard ["_law_ask"]) {HE CB CS : Addr} (gh : mg "HoldError" = some (.ref HE)) (gp : mg "BadPlace" = some (.ref CB)) (gs : mg "BadSize" = some (.ref CS)) (ex : ExcC K CB) (xf : XfC K CB) (hno : PySem.W.findIn K (.ref CB) "part" = some none) (em : PySem.W.exmOne K (.ref CB) (.ref HE) = some true) (ex2 : ExcC K CS) (xf2 : XfC K CS) (hno2 : PySem.W.findIn K (.ref CS) "part" = some none) (em2 : PySem.W.exmOne K (.ref CS) (.ref HE) = some true) (kn : PySem.W.kitOne K (.ref CS) (.ref CB) = some false) (M_Place : Mak P w K mg base 3 "Place" C (spPlX K C CB)) (M_Place2 : Mak P w K mg base 3 "Place" C (spPlX2 K C CB)) (M_PlaceR : MakR P w K mg base 3 "Place" C ["odd", "offset", "slope"] (spPlX K C CB)) (m_call : Met P w K mg base 3 C "__call__" (spPlAtX K C CS)) (fi : ∀ g, Opr K C "__call__" g → PySem.W.fnIn K g = true) (k_call : MetK P w K mg base 3 C "__call__" ["size"] (spPlAtX K C CS)) (m_eq : Met P w K mg base 1 C "__eq__" (spPlEqX K C)) (c_l_bag : Cal P w K mg base 1 "_law_bag" (spBag K)) (c_l_draw : Cal P w K mg base 1 "_law_draw" spDraw) (c_l_at : Cal P w K mg base 1 "_law_at" (spLAt K)) (c_l_number : Cal P w K mg base 2 "_law_number" spLNum) (c_l_odd : Cal P w K mg base 2 "_law_odd" (spLOdd K)) (c_l_sorts_right : Cal P w K mg base 6 "_law_sorts_right" spLSorts) (c_from_left : Cal P w K mg base 5 "from_left" (spFromX K C CB (fun k => (0, k, 0)))) (z_from_left : Cal P w K mg base 5 "from_left" (spFromX0 K C CB (fun k => (0, k, 0)))) (c_from_right : Cal P w K mg base 5 "from_right" (spFromX K C CB (fun k => (2, 0 - k, 1)))) (z_from_right : Cal P w K mg base 5 "from_right" (spFromX0 K C CB (fun k => (2, 0 - k, 1)))) (c_from_middle : Cal P w K mg base 5 "from_middle" (spFromX K C CB (fun k => (1, k, 0)))) (z_from_middle : Cal P w K mg base 5 "from_middle" (spFromX0 K C CB (fun k => (1, k, 0)))) {f : Addr} {dV kV doc pm ct oc : Value} {an od : Option Addr} {osl : Array (Option Value)} (lk : K.lookup f = some ⟨oc, od, .func (PySem.W.fnOf "law" "law" (defArgs s_law) (defBody s_law) (defScope s_law) dV kV doc pm an (.ref c0) ct), osl⟩) (hcd : PySem.W.codeIn K (.ref c0) "law" = true) (b : L2.Binds K (PySem.W.fnOf "law" "law" (defArgs s_law) (defBody s_law) (defScope s_law) dV kV doc pm an (.ref c0) ct) ["_law_script"] []) : FnG P w K mg base (L2.CX P w) 9 f (spLawT K [(P0, "law.<locals>.<lambda>")]) := by
  obtain ⟨fh, fdh, hmh, Fh, bh⟩ := D_heard
  obtain ⟨och, odh, kVh, doch, pmh, anh, cdvh, cth, oslh, rfl, lkh, hcdh⟩ := Fh.ex
  refine fnG_of lk hcd sc_law b (fun vs H Q E h => ?_) (fun A outer s H vs Q E hr hgd h => ?_)
  · obtain ⟨a, ns, rfl, _⟩ := h
    rfl
  · obtain ⟨a, ns, rfl, hS, hlen, hT, k⟩ := h
    have hu := hu_of hr
    refine ⟨_, PSs.nox (pss_cons (ps_set (i := 1) sc_law.nd rfl (Or.inl rfl) (pe_cl c_l_bag hr passL (pa_cons (pv 0) pa_nil)))
  (pss_cons (ps_for PassesOwn.never rfl (pi_range1 rfl T.b_range (pa_cons pe_int pa_nil)) (pg_name (i := 2) sc_law.nd rfl (Or.inl rfl))
  (pss_cons (ps_set (i := 3) sc_law.nd rfl (Or.inl rfl) (pe_lst (pa_cons (pe_cl c_l_number hr passL (pa_cons (pv 1) pa_nil)) (pa_cons (pe_cl c_l_number hr passL (pa_cons (pv 1) pa_nil)) (pa_cons (pe_cl c_l_number hr passL (pa_cons (pv 1) pa_nil)) pa_nil)))))
  (pss_cons (ps_set (i := 10) sc_law.nd rfl (Or.inr rfl) (pe_ma M_Place hr passL (pa_cons (pe_ix ix_list (pv 3) pe_int (fun _ _ => rfl)) (pa_cons (pe_ix ix_list (pv 3) pe_int (fun _ _ => rfl)) (pa_cons (pe_ix ix_list (pv 3) pe_int (fun _ _ => rfl)) pa_nil)))))
  (pss_cons (ps_set (i := 4) sc_law.nd rfl (Or.inl rfl) (pe_makR M_PlaceR hr passL (pk_cons (pe_ix ix_list (pv 3) pe_int (fun _ _ => rfl)) (pk_cons (pe_ix ix_list (pv 3) pe_int (fun _ _ => rfl)) (pk_cons (pe_ix ix_list (pv 3) pe_int (fun _ _ => rfl)) pk_nil)))))
  (pss_cons (ps_if (pw_or (pt_cmpR (op_neD hr.units) (pe_lst (pa_cons (pe_fld (pv 10) rfl) (pa_cons (pe_fld (pv 10) rfl) (pa_cons (pe_fld (pv 10) rfl) pa_nil)))) (pv 3) (nomark _)) (pw_or1 (pt_cmpR (op_neX C0.ne m_eq hr passL) (pv 10) (pv 4) (nomark _)))).pt (pss_one (ps_ret pe_bl)) pss_nil)
  (pss_cons (ps_for PassesOwn.never rfl (pi_list (pe_lst (pa_cons pe_int (pa_cons pe_int (pa_cons pe_int (pa_cons (pe_op op_add pe_int (pe_cl c_l_draw hr passL (pa_cons (pv 1) (pa_cons pe_int pa_nil)))) (pa_cons (pe_op op_add (pe_op op_pow pe_int pe_int) (pe_cl c_l_draw hr passL (pa_cons (pv 1) (pa_cons pe_int pa_nil)))) pa_nil))))))) (pg_name (i := 5) sc_law.nd rfl (Or.inl rfl))
  (pss_one (ps_if (pw_or (pt_cmpR op_ne (pe_callB (call_repr hr hgd) (by rfl) T.b_repr (by decide +kernel) (pa_cons (pe_callM (pv 10) m_call fi hr passL (pa_cons (pv 5) pa_nil)) pa_nil)) (pe_callB (call_repr hr hgd) (by rfl) T.b_repr (by decide +kernel) (pa_cons (pe_cl c_l_at hr passL (pa_cons (pv 3) (pa_cons (pv 5) pa_nil))) pa_nil)) (nomark _)) (pw_or1 (pt_cmpR op_ne (pe_callIK (pv 10) k_call hr passL (pk_cons (pv 5) pk_nil)) (pe_callM (pv 10) m_call fi hr passL (pa_cons (pv 5) pa_nil)) (nomark _)))).pt (pss_one (ps_ret pe_bl)) pss_nil)))
  (pss_cons (ps_if (pw_or (pt_cmpR (op_eqX m_eq hr passL) (pv 10) (pe_callTy call_tuple_of (by rfl) T.b_tuple (by decide +kernel) (pa_cons (pv 3) pa_nil)) (nomark _)) (pw_or (pt_cmpR (op_eqX m_eq hr passL) (pv 10) (pe_ix ix_list (pv 3) pe_int (fun _ _ => rfl)) (nomark _)) (pw_or1 (pt_cmpR (op_eqX m_eq hr passL) (pv 10) (pe_ma M_Place hr passL (pa_cons (pe_ix ix_list (pv 3) pe_int (fun _ _ => rfl)) (pa_cons (pe_op op_add (pe_ix ix_list (pv 3) pe_int (fun _ _ => rfl)) pe_int) (pa_cons (pe_ix ix_list (pv 3) pe_int (fun _ _ => rfl)) pa_nil)))) (nomark _))))).pt (pss_one (ps_ret pe_bl)) pss_nil)
  (pss_cons (ps_asg (pe_tup (pa_cons (pe_callTy call_list_of (by rfl) T.b_list (by decide +kernel) (pa_cons (pv 3) pa_nil)) (pa_cons (pe_cl c_l_draw hr passL (pa_cons (pv 1) (pa_cons pe_int pa_nil))) (pa_cons (pe_cl c_l_draw hr passL (pa_cons (pv 1) (pa_cons pe_int pa_nil))) pa_nil)))) (pg_tup rfl (pgs_cons (pg_name (i := 13) sc_law.nd rfl (Or.inr rfl)) (pgs_cons (pg_name (i := 6) sc_law.nd rfl (Or.inl rfl)) (pgs_cons (pg_name (i := 7) sc_law.nd rfl (Or.inl rfl)) pgs_nil)))))
  (pss_cons (ps_asg (pe_cl c_l_odd hr passL (pa_cons (pv 1) pa_nil)) (pg_sub (pv 13) (pv 6) set_list))
  (pss_cons (ps_asg (pe_cl c_l_odd hr passL (pa_cons (pv 1) pa_nil)) (pg_sub (pv 13) (pv 7) set_list))
  (pss_cons (ps_set (i := 8) sc_law.nd rfl (Or.inl rfl) (pe_tup (pa_cons pe_str (pa_cons (pe_ix ix_list (pe_lst (pa_cons pe_str (pa_cons pe_str (pa_cons pe_str pa_nil)))) (pe_callB (call_min2 rfl) (by rfl) T.b_min (by decide +kernel) (pa_cons (pe_callTy call_int1 (by rfl) T.b_int (by decide +kernel) (pa_cons (pv 6) pa_nil)) (pa_cons (pe_callTy call_int1 (by rfl) T.b_int (by decide +kernel) (pa_cons (pv 7) pa_nil)) pa_nil))) (fun _ _ => rfl)) pa_nil))))
  (pss_cons (ps_if (pt_cmpR (op_neD hr.units) (pe_lamcall (T := [(P0, "law.<locals>.<lambda>")]) (TT := THear2 CB CS "place" "size" "part") (k := 6) (by rfl) hmh Fh.kp lkh hcdh bh sc_l_heard rfl (Or.inl rfl) (heard_gives gh gp gs T.b_isinstance ex xf hno em ex2 xf2 hno2 em2 kn) TB rfl (.head _) (fun p hp _ => by rcases List.mem_singleton.mp hp with rfl; rfl) hr (show LamS (defScope s_law) _ from lamS_by (by decide +kernel)) rfl (fun _ _ _ _ _ => rfl) (fun A outer s H E f c hr => by exact pe_ma M_Place hr (passE (takes_of rfl rfl rfl rfl)) (pa_cons (pe_ix (ix_listB (K := K)) (pv 13) pe_int (fun _ _ => rfl)) (pa_cons (pe_ix (ix_listB (K := K)) (pv 13) pe_int (fun _ _ => rfl)) (pa_cons (pe_ix (ix_listB (K := K)) (pv 13) pe_int (fun _ _ => rfl)) pa_nil))))) (pv 8) (nomark _)) (pss_one (ps_ret pe_bl)) pss_nil)
  (pss_cons (ps_set (i := 11) sc_law.nd rfl (Or.inr rfl) (pe_ix ix_list (pe_lst (pa_cons (pe_cl c_l_odd hr passL (pa_cons (pv 1) pa_nil)) (pa_cons pe_int (pa_cons (pe_un un_neg pe_int) (pa_cons (pe_un un_neg (pe_op op_pow pe_int pe_int)) pa_nil))))) (pe_cl c_l_draw hr passL (pa_cons (pv 1) (pa_cons pe_int pa_nil))) (fun _ _ => rfl)))
  (pss_cons (ps_if (pw_or (pt_cmpR (op_neD hr.units) (pe_lamcall (T := [(P0, "law.<locals>.<lambda>")]) (TT := THear2 CB CS "place" "size" "part") (k := 6) (by rfl) hmh Fh.kp lkh hcdh bh sc_l_heard rfl (Or.inl rfl) (heard_gives gh gp gs T.b_isinstance ex xf hno em ex2 xf2 hno2 em2 kn) TB rfl (.head _) (fun p hp _ => by rcases List.mem_singleton.mp hp with rfl; rfl) hr (show LamS (defScope s_law) _ from lamS_by (by decide +kernel)) rfl (fun _ _ _ _ _ => rfl) (fun A outer s H E f c hr => by exact pe_callM (pv 10) m_call fi hr (passE (takes_of rfl rfl rfl rfl)) (pa_cons (pv 11) pa_nil))) (pe_tup (pa_cons pe_str (pa_cons pe_str pa_nil))) (nomark _)) (pw_or1 (pt_not (pt_val (pe_cl c_l_sorts_right hr passL (pa_cons (pe_ix ix_list (pv 3) pe_int (fun _ _ => rfl)) pa_nil)))))).pt (pss_one (ps_ret pe_bl)) pss_nil)
  (pss_cons (ps_set (i := 12) sc_law.nd rfl (Or.inr rfl) (pe_cl c_l_odd hr passL (pa_cons (pv 1) pa_nil)))
  (pss_cons (ps_set (i := 9) sc_law.nd rfl (Or.inl rfl) (pe_lst (pa_cons (pe_lamcall (T := [(P0, "law.<locals>.<lambda>")]) (TT := THear2 CB CS "place" "size" "part") (k := 6) (by rfl) hmh Fh.kp lkh hcdh bh sc_l_heard rfl (Or.inl rfl) (heard_gives gh gp gs T.b_isinstance ex xf hno em ex2 xf2 hno2 em2 kn) TB rfl (.head _) (fun p hp _ => by rcases List.mem_singleton.mp hp with rfl; rfl) hr (show LamS (defScope s_law) _ from lamS_by (by decide +kernel)) rfl (fun _ _ _ _ _ => rfl) (fun A outer s H E f c hr => by exact pe_cl c_from_left hr (passE (takes_of rfl rfl rfl rfl)) (pa_cons (pv 12) pa_nil))) pa_nil)))
  (pss_cons (ps_expr (pe_bm PySem.F.plainAttrs_list PySem.F.slot_list_append PySem.F.type_list_append mt_append (pv 9) (pa_cons (pe_lamcall (T := [(P0, "law.<locals>.<lambda>")]) (TT := THear2 CB CS "place" "size" "part") (k := 6) (by rfl) hmh Fh.kp lkh hcdh bh sc_l_heard rfl (Or.inl rfl) (heard_gives gh gp gs T.b_isinstance ex xf hno em ex2 xf2 hno2 em2 kn) TB rfl (.head _) (fun p hp _ => by rcases List.mem_singleton.mp hp with rfl; rfl) hr (show LamS (defScope s_law) _ from lamS_by (by decide +kernel)) rfl (fun _ _ _ _ _ => rfl) (fun A outer s H E f c hr => by exact pe_cl c_from_right hr (passE (takes_of rfl rfl rfl rfl)) (pa_cons (pv 12) pa_nil))) pa_nil)))
  (pss_cons (ps_expr (pe_bm PySem.F.plainAttrs_list PySem.F.slot_list_append PySem.F.type_list_append mt_append (pv 9) (pa_cons (pe_lamcall (T := [(P0, "law.<locals>.<lambda>")]) (TT := THear2 CB CS "place" "size" "part") (k := 6) (by rfl) hmh Fh.kp lkh hcdh bh sc_l_heard rfl (Or.inl rfl) (heard_gives gh gp gs T.b_isinstance ex xf hno em ex2 xf2 hno2 em2 kn) TB rfl (.head _) (fun p hp _ => by rcases List.mem_singleton.mp hp with rfl; rfl) hr (show LamS (defScope s_law) _ from lamS_by (by decide +kernel)) rfl (fun _ _ _ _ _ => rfl) (fun A outer s H E f c hr => by exact pe_cl c_from_middle hr (passE (takes_of rfl rfl rfl rfl)) (pa_cons (pv 12) pa_nil))) pa_nil)))
  (pss_one (ps_if (pt_cmpR (op_neD hr.units) (pv 9) (pe_op op_rep (pe_lst (pa_cons (pe_tup (pa_cons pe_str (pa_cons pe_str pa_nil))) pa_nil)) pe_int) (nomark _)) (pss_one (ps_ret pe_bl)) pss_nil))))))))))))))))))))
  (pss_one (ps_ret (pe_cmpR (op_eqD hr.units) (pe_lst (pa_cons (pe_callM (pe_cl0 z_from_left hr passL) m_call fi hr passL (pa_cons pe_int pa_nil)) (pa_cons (pe_callM (pe_cl0 z_from_right hr passL) m_call fi hr passL (pa_cons pe_int pa_nil)) (pa_cons (pe_callM (pe_cl0 z_from_middle hr passL) m_call fi hr passL (pa_cons pe_int pa_nil)) (pa_cons (pe_callM (pe_ma M_Place2 hr passL (pa_cons pe_int (pa_cons pe_int pa_nil))) m_call fi hr passL (pa_cons pe_int pa_nil)) pa_nil))))) (pe_lst (pa_cons pe_int (pa_cons pe_int (pa_cons pe_int (pa_cons pe_int pa_nil))))) (nomark _)))))), ?_⟩
    try dsimp only [cxOf, Cx.nox, Cx.wish, List.map]
    have p30 : (10 : Int) ^ (30 : Int).toNat = 1000000000000000000000000000000 := by decide
    have p20 : (10 : Int) ^ (20 : Int).toNat = 100000000000000000000 := by decide
    walk_at "rd"
    refine ⟨a, ns, rfl, hS, hlen, fun b H1 nb B1 s1 => ?_⟩
    have hT1 := hT.ext s1
    walk_at "rd"
    refine ⟨6, rfl, by decide, by decide, for_range (n := 6) (fun i σ H' => ∃ v2 v3 v4 v5 v6 v7 v8 v9 v10 v11 v12 v13 : Option V, σ = [some (.ref a), some (.ref b), v2, v3, v4, v5, v6, v7, v8, v9, v10, v11, v12, v13] ∧ Bag H' b ∧ Tabs [(P0, "law.<locals>.<lambda>")] H') ⟨none, none, none, none, none, none, none, none, none, none, none, none, rfl, B1, hT1⟩ ?_ ?_⟩
    · rintro i σ H2 hi ⟨v2, v3, v4, v5, v6, v7, v8, v9, v10, v11, v12, v13, rfl, B2, hT2⟩
      walk_at "rd"
      refine ⟨b, rfl, B2, fun s H3 s1 s2 B3 k3 => ?_⟩
      walk_at "rd"
      refine ⟨b, rfl, B3, fun o H4 o1 o2 B4 k4 => ?_⟩
      walk_at "rd"
      refine ⟨b, rfl, B4, fun d H5 d1 d2 B5 k5 => ?_⟩
      walk_at "rd"
      refine new_lst (by show 3 ≤ 1000; decide) fun pt H6 n6 e6 s6 => ?_
      have hT6 := (Tabs.keep hT2 B2 ((k3.trans k4).trans k5)).ext s6
      have B6 := B5.same s6
      have nptb := B5.ne n6
      clear k3 k4 k5 s6 B2 B3 B4 B5 hT2 n6
      walk_at "rd"
      refine ⟨pt, _, _, _, rfl, rfl, SqL.of e6, rfl, ?_⟩
      walk_at "rd"
      refine ⟨pt, _, _, _, rfl, rfl, SqL.of e6, rfl, ?_⟩
      walk_at "rd"
      refine ⟨pt, _, _, _, rfl, rfl, SqL.of e6, rfl, ?_⟩
      walk_at "rd"
      refine use_plX fun p H7 n7 g7 s7 => ?_
      have e7 := s7 _ _ e6
      walk_at "rd"
      refine ⟨pt, _, _, _, rfl, rfl, SqL.of e7, rfl, ?_⟩
      walk_at "rd"
      refine ⟨pt, _, _, _, rfl, rfl, SqL.of e7, rfl, ?_⟩
      walk_at "rd"
      refine ⟨pt, _, _, _, rfl, rfl, SqL.of e7, rfl, ?_⟩
      walk_at "rd"
      refine ⟨rfl, ?_⟩
      refine use_plX fun q H8 n8 g8 s8 => ?_
      have hT := hT6.ext (s7.trans s8)
      have B := B6.same (s7.trans s8)
      have e := s8 _ _ e7
      have g := g7.same s8
      have npb := B6.ne n7
      have npp : p ≠ pt := (ne_of_none e6 n7).symm
      clear s7 s8 e7 e6 B6 g7 n7 n8 hT6
      walk_at "rd"
      obtain ⟨dx, hp⟩ := id g
      walk_at "pl"
      refine new_lst (by show 3 ≤ 1000; decide) fun l1 H9 n9 e9 s9 => ?_
      walk_at "rd"
      refine use_neI (xs := [s, o, d]) (ys := [s, o, d]) e9 (s9 _ _ e) rfl ?_
      walk_at "rd"
      refine iteF ?_
      walk_at "rd"
      refine use_plE C0 (g.same s9) (g8.same s9) ?_
      refine ⟨_, rfl, ?_⟩
      walk_at "rd"
      refine ite_no (by simp) ?_
      have hT := hT.ext s9
      have B := B.same s9
      have e := s9 _ _ e
      have g := g.same s9
      clear s9 e9 n9 g8 hp dx
      walk_at "rd"
      refine use_draw B (by decide) (by decide) fun i1 H10 l10 u10 B10 k10 => ?_
      walk_at "rd"
      refine rd_I ⟨by decide, by decide, by decide⟩ ?_
      rw [p30]
      walk_at "rd"
      refine use_draw B10 (by decide) (by decide) fun i2 H11 l11 u11 B11 k11 => ?_
      walk_at "rd"
      refine new_lst (by show 5 ≤ 1000; decide) fun l2 H12 n12 e12 s12 => ?_
      have hT := (Tabs.keep hT B (k10.trans k11)).ext s12
      have e := s12 _ _ ((k10.trans k11) _ _ e nptb)
      have g := (g.keep (k10.trans k11) npb).same s12
      have B := B11.same s12
      clear k10 k11 s12 n12 B10 B11
      walk_at "rd"
      refine ⟨l2, rfl, ⟨_, SqL.of e12⟩, for_list (K := K) (a := l2) (xs := [V.int 1, V.int 2, V.int 3, V.int (1 + i1), V.int (1000000000000000000000000000000 + i2)]) (fun j σ H' => ∃ v5 : Option V, σ = [some (.ref a), some (.ref b), some (.int (0 + i)), some (.ref pt), some (.ref q), v5, v6, v7, v8, v9, some (.ref p), v11, v12, v13] ∧ H' = H12) ⟨v5, rfl, rfl⟩ (fun j σ H' _ ⟨_, _, e⟩ => by rw [e]; exact SqL.of e12) ?_ ?_⟩
      · rintro j y σ H' hj ⟨v5, rfl, rfl⟩
        obtain ⟨n, rfl, n1, n2⟩ : ∃ n : Int, y = .int n ∧ 1 ≤ n ∧ n ≤ 10000000000000000000000000000000 := by
          have hm := List.mem_of_getElem? hj
          simp only [List.mem_cons, List.not_mem_nil, or_false] at hm
          rcases hm with rfl | rfl | rfl | rfl | rfl
          all_goals exact ⟨_, rfl, by omega, by omega⟩
        have ms : Sm s := ⟨by omega, by omega⟩
        have mo : Sm o := ⟨by omega, by omega⟩
        have md : Sm d := ⟨by omega, by omega⟩
        have mn : Sm n := ⟨by omega, by omega⟩
        have big := plv_small ms.nat mo.nat md.nat mn.nat
        refine rd_gname ?_
        walk_at "rd"
        refine ⟨p, rfl, ?_⟩
        walk_at "rd"
        refine use_atX g ms md mn n1 ?_
        walk_at "rd"
        refine use_reprI big ?_
        walk_at "rd"
        refine ⟨pt, s, o, d, n, rfl, SqL.of e, ms, md, mn, ?_⟩
        walk_at "rd"
        refine use_reprI big ?_
        walk_at "rd"
        refine ne_no rfl ?_
        walk_at "rd"
        refine ⟨p, rfl, ?_⟩
        walk_at "rd"
        refine ⟨rfl, use_atX g ms md mn n1 ?_⟩
        walk_at "rd"
        refine ⟨p, rfl, ?_⟩
        walk_at "rd"
        refine use_atX g ms md mn n1 ?_
        walk_at "rd"
        refine ne_no rfl ?_
        walk_at "rd"
        exact ⟨_, rfl, rfl⟩
      · rintro σ H' ⟨v5, rfl, rfl⟩
        clear e12 l2
        walk_at "rd"
        refine ⟨pt, _, rfl, .inl ⟨SqL.of e, fun t1 n13 => ?_⟩⟩
        have s13 := Same.new (o := .tup [V.int s, V.int o, V.int d]) n13
        refine use_plEV (g.same s13) (.base (.tup upd_same)) nT kT ?_
        generalize upd H' t1 _ = H13 at *
        have hT := hT.ext s13
        have e := s13 _ _ e
        have g := g.same s13
        have B := B.same s13
        clear s13 n13
        walk_at "rd"
        refine iteF ?_
        walk_at "rd"
        refine ⟨pt, _, _, _, rfl, rfl, SqL.of e, rfl, ?_⟩
        refine use_plEV g (.base (.int _)) nI C0.kI ?_
        walk_at "rd"
        refine iteF ?_
        walk_at "rd"
        refine ⟨pt, _, _, _, rfl, rfl, SqL.of e, rfl, ?_⟩
        walk_at "rd"
        refine ⟨pt, _, _, _, rfl, rfl, SqL.of e, rfl, ?_⟩
        walk_at "rd"
        refine ⟨pt, _, _, _, rfl, rfl, SqL.of e, rfl, ?_⟩
        walk_at "rd"
        refine use_plX fun p2 H14 n14 g14 s14 => ?_
        refine use_plE C0 (g.same s14) g14 ?_
        walk_at "rd"
        refine ite_no (by rw [decide_eq_false (show ¬ o = o + 1 from by omega)]; simp) ?_
        have hT := hT.ext s14
        have e := s14 _ _ e
        have g := g.same s14
        obtain ⟨cb, Bc⟩ := B.same s14
        clear s14 n14 g14
        walk_at "rd"
        refine ⟨pt, _, rfl, .inl (SqL.of e), fun wr n15 => ?_⟩
        have s15 := Same.new (o := .lst [V.int s, V.int o, V.int d]) n15
        have e15 := upd_same (H := H14) (a := wr) (o := .lst [V.int s, V.int o, V.int d])
        generalize upd H14 wr _ = H15 at *
        obtain ⟨wb, wc⟩ := Bc.ne n15
        have wp : wr ≠ pt := (ne_of_none e n15).symm
        have wq : wr ≠ p := by
          obtain ⟨dx, hp⟩ := id g
          exact (ne_of_none hp n15).symm
        have Bc := Bc.same s15
        walk_at "rd"
        refine use_drawC Bc (by decide) (by decide) fun i3 H16 l16 u16 B16 k16 => ?_
        walk_at "rd"
        refine use_drawC B16 (by decide) (by decide) fun i4 H17 l17 u17 B17 k17 => ?_
        walk_at "rd"
        refine new_tup (by show 3 ≤ 1000; decide) fun t2 H18 n18 e18 s18 => ?_
        have hT := (Tabs.keep (hT.ext s15) Bc.bag (k16.trans k17)).ext s18
        have e := s18 _ _ ((k16.trans k17) _ _ (s15 _ _ e) nptb)
        have ew := s18 _ _ ((k16.trans k17) _ _ e15 wb)
        have g := ((g.same s15).keep (k16.trans k17) npb).same s18
        have Bc := B17.same s18
        clear k16 k17 s15 s18 n15 n18 e15 B16 B17
        refine rd_gtup (SqT.of e18) rfl ?_
        clear e18 t2
        walk_at "rd"
        refine ⟨b, cb, rfl, Bc, fun w1 H19 f1 nw1 B19 k19 => ?_⟩
        have w1r : w1 ≠ .ref wr := f1 _ _ ew
        have w1b : w1 ≠ .ref b := f1 _ _ (id Bc).choose_spec.choose_spec.choose_spec.choose_spec.1
        have hT := Tabs.keep hT Bc.bag k19
        have e := k19 _ _ e nptb
        have ew := k19 _ _ ew wb
        have g := g.keep k19 npb
        clear k19 Bc f1
        walk_at "rd"
        refine ⟨wr, _, _, _, rfl, rfl, ew, ixN3 l16 u16, ?_⟩
        have hT := tabs_keepL hT ew (Keep.upd (o := .lst ([V.int s, V.int o, V.int d].set i3.toNat w1)))
        have e := Keep.upd (o := .lst ([V.int s, V.int o, V.int d].set i3.toNat w1)) _ _ e wp.symm
        have g := g.keep (Keep.upd (o := .lst ([V.int s, V.int o, V.int d].set i3.toNat w1))) wq.symm
        have Bc := B19.keep (Keep.upd (o := .lst ([V.int s, V.int o, V.int d].set i3.toNat w1))) wb wc
        have nw1 := nw1.keep (Keep.upd (o := .lst ([V.int s, V.int o, V.int d].set i3.toNat w1))) w1r
        have ew := upd_same (H := H19) (a := wr) (o := .lst ([V.int s, V.int o, V.int d].set i3.toNat w1))
        generalize upd H19 wr _ = H20 at *
        clear B19
        walk_at "rd"
        refine ⟨b, cb, rfl, Bc, fun w2 H21 f2 nw2 B21 k21 => ?_⟩
        have w2r : w2 ≠ .ref wr := f2 _ _ ew
        have hT := Tabs.keep hT Bc.bag k21
        have e := k21 _ _ e nptb
        have ew := k21 _ _ ew wb
        have g := g.keep k21 npb
        have nw1 := nw1.keep k21 w1b
        clear k21 Bc f2
        walk_at "rd"
        refine ⟨wr, _, _, _, rfl, rfl, ew, (by rw [List.length_set]; exact ixN3 l17 u17), ?_⟩
        have hT := tabs_keepL hT ew (Keep.upd (o := .lst (([V.int s, V.int o, V.int d].set i3.toNat w1).set i4.toNat w2)))
        have e := Keep.upd (o := .lst (([V.int s, V.int o, V.int d].set i3.toNat w1).set i4.toNat w2)) _ _ e wp.symm
        have g := g.keep (Keep.upd (o := .lst (([V.int s, V.int o, V.int d].set i3.toNat w1).set i4.toNat w2))) wq.symm
        have Bc := B21.keep (Keep.upd (o := .lst (([V.int s, V.int o, V.int d].set i3.toNat w1).set i4.toNat w2))) wb wc
        have nw1 := nw1.keep (Keep.upd (o := .lst (([V.int s, V.int o, V.int d].set i3.toNat w1).set i4.toNat w2))) w1r
        have nw2 := nw2.keep (Keep.upd (o := .lst (([V.int s, V.int o, V.int d].set i3.toNat w1).set i4.toNat w2))) w2r
        have ew := upd_same (H := H21) (a := wr) (o := .lst (([V.int s, V.int o, V.int d].set i3.toNat w1).set i4.toNat w2))
        generalize upd H21 wr _ = H22 at *
        obtain ⟨x, y, z, nm, exyz, hat, hok, hbad⟩ := pl_wrong (s := s) (o := o) (d := d) l16 u16 l17 u17 nw1 nw2
        rw [exyz] at ew
        clear B21 exyz nw1 nw2 w1r w1b w2r
        walk_at "rd"
        refine new_lst (by show 3 ≤ 1000; decide) fun l3 H23 n23 e23 s23 => ?_
        walk_at "rd"
        refine .inl ⟨_, rfl, ?_⟩
        walk_at "rd"
        refine .inl ⟨_, rfl, ?_⟩
        walk_at "rd"
        refine ⟨_, _, rfl, ?_⟩
        refine ⟨l3, _, _, _, rfl, rfl, SqL.of e23, hat, ?_⟩
        walk_at "rd"
        refine new_tup (by show 2 ≤ 1000; decide) fun td H24 n24 e24 s24 => ?_
        have S := s23.trans s24
        have hT := hT.ext S
        have e := S _ _ e
        have ew := S _ _ ew
        have g := g.same S
        have Bc := Bc.same S
        have hbad := hbad.extN (ExtN.same S)
        clear S s23 s24 n23 n24 e23 hat
        walk_at "rd"
        refine rd_lam hT fun H25 eN hT25 => ?_
        try unfold THear2
        have ew5 := eN _ _ ew (fun ps z => by cases z)
        walk_at "rd"
        refine ⟨wr, _, _, _, rfl, rfl, SqL.of ew5, rfl, ?_⟩
        walk_at "rd"
        refine ⟨wr, _, _, _, rfl, rfl, SqL.of ew5, rfl, ?_⟩
        walk_at "rd"
        refine ⟨wr, _, _, _, rfl, rfl, SqL.of ew5, rfl, ?_⟩
        walk_at "rd"
        refine use_plBad (hbad.extN eN) fun d26 H26 hd26 s26 => ?_
        refine ⟨d26, _, _, rfl, hd26, lk_hit, .inl ⟨rfl, ?_⟩⟩
        refine new_tup (by show 2 ≤ 1000; decide) fun t3 H27 n27 e27 s27 => ?_
        have S := s26.trans s27
        walk_at "rd"
        refine use_neTT (by decide +kernel) hok e27 (S _ _ (eN _ _ e24 (fun ps z => by cases z))) ?_
        have hT := hT25.ext S
        have e := S _ _ (eN _ _ e (fun ps z => by cases z))
        have g := (g.extN eN).same S
        have B := (Bag.extN Bc.bag eN).same S
        clear S s26 s27 n27 e27 ew5 ew eN hbad hd26 e24 hT25 Bc
        walk_at "rd"
        refine iteF ?_
        walk_at "rd"
        obtain ⟨c2, Bc⟩ := B
        refine ⟨b, c2, rfl, Bc, fun w3 H28 f3 nw3 B28 k28 => ?_⟩
        have w3b : w3 ≠ .ref b := f3 _ _ (id Bc).choose_spec.choose_spec.choose_spec.choose_spec.1
        have hT := Tabs.keep hT Bc.bag k28
        have e := k28 _ _ e nptb
        have g := g.keep k28 npb
        clear k28 Bc f3
        walk_at "rd"
        refine rd_I ⟨by decide, by decide, by decide⟩ ?_
        rw [p20]
        walk_at "rd"
        refine new_lst (by show 4 ≤ 1000; decide) fun l4 H29 n29 e29 s29 => ?_
        have B29 := B28.bag.same s29
        have l4b := B28.bag.ne n29
        walk_at "rd"
        refine use_draw B29 (by decide) (by decide) fun i5 H30 l30 u30 B30 k30 => ?_
        have hT := Tabs.keep (hT.ext s29) B29 k30
        have e := k30 _ _ (s29 _ _ e) nptb
        have g := (g.same s29).keep k30 npb
        have nw3 := (nw3.same s29).keep k30 w3b
        obtain ⟨th, hth, lbad⟩ : ∃ th : V, atI [w3, V.int 0, V.int (-1), V.int (-100000000000000000000)] i5 = some th ∧ LoBad K H30 th := by
          have : i5 = 0 ∨ i5 = 1 ∨ i5 = 2 ∨ i5 = 3 := by omega
          rcases this with rfl | rfl | rfl | rfl
          · exact ⟨_, rfl, .inl nw3⟩
          · exact ⟨_, rfl, .inr ⟨_, rfl, by omega⟩⟩
          · exact ⟨_, rfl, .inr ⟨_, rfl, by omega⟩⟩
          · exact ⟨_, rfl, .inr ⟨_, rfl, by omega⟩⟩
        refine ⟨l4, _, _, _, rfl, rfl, SqL.of (k30 _ _ e29 l4b), hth, ?_⟩
        clear k30 s29 n29 e29 B29 B28 l4b hth nw3 w3b
        walk_at "rd"
        refine rd_lam hT fun H31 eN hT31 => ?_
        try unfold THear2
        walk_at "rd"
        refine ⟨p, rfl, ?_⟩
        walk_at "rd"
        refine use_atBad (g.extN eN) (lbad.extN eN) fun d32 H32 hd32 s32 => ?_
        refine ⟨d32, _, _, rfl, hd32, lk_hit, .inr ⟨rfl, ?_⟩⟩
        refine new_tup (by show 2 ≤ 1000; decide) fun t4 H33 n33 e33 s33 => ?_
        walk_at "rd"
        refine new_tup (by show 2 ≤ 1000; decide) fun t5 H34 n34 e34 s34 => ?_
        refine use_neTT (by decide +kernel) (by decide +kernel) (s34 _ _ e33) e34 ?_
        have S := (s32.trans s33).trans s34
        have hT := hT31.ext S
        have e := S _ _ (eN _ _ e (fun ps z => by cases z))
        have B := (B30.extN eN).same S
        clear S s32 s33 s34 n33 n34 e33 e34 eN lbad hd32 hT31 B30 g
        walk_at "rd"
        refine iteF ?_
        walk_at "rd"
        refine ⟨pt, _, _, _, rfl, rfl, SqL.of e, rfl, ?_⟩
        walk_at "rd"
        refine ⟨o, rfl, fun H35 s35 => ?_⟩
        have hT := hT.ext s35
        have B := B.same s35
        clear s35 e
        walk_at "rd"
        refine iteF ?_
        walk_at "rd"
        obtain ⟨c3, Bc⟩ := B
        refine ⟨b, c3, rfl, Bc, fun va H36 f4 nva B36 k36 => ?_⟩
        have hT := Tabs.keep hT Bc.bag k36
        clear k36 Bc f4
        walk_at "rd"
        refine rd_lam hT fun H37 eN hT37 => ?_
        try unfold THear2
        walk_at "rd"
        refine ⟨va, rfl, .inl ⟨nva.extN eN, fun d38 H38 hd38 s38 => ?_⟩⟩
        refine ⟨d38, _, _, rfl, hd38, lk_hit, .inl ⟨rfl, ?_⟩⟩
        refine new_tup (by show 2 ≤ 1000; decide) fun t6 H39 n39 e39 s39 => ?_
        walk_at "rd"
        refine new_lst (by show 1 ≤ 1000; decide) fun hh H40 n40 e40 s40 => ?_
        have S := (s38.trans s39).trans s40
        have hT := hT37.ext S
        have nva := (nva.extN eN).same S
        obtain ⟨c4, B37⟩ := B36.bag.extN eN
        have B39 := B37.same (s38.trans s39)
        obtain ⟨hb, hc⟩ := B39.ne n40
        have B := B39.same s40
        have f6 := s40 _ _ e39
        clear S s38 s39 s40 n39 n40 e39 B39 B37 B36 hT37 eN hd38
        walk_at "rd"
        refine ⟨.inl ⟨rfl, _, SqL.of e40⟩, ?_⟩
        walk_at "rd"
        refine rd_lam hT fun H41 eN hT41 => ?_
        try unfold THear2
        walk_at "rd"
        refine ⟨va, rfl, .inl ⟨nva.extN eN, fun d42 H42 hd42 s42 => ?_⟩⟩
        refine ⟨d42, _, _, rfl, hd42, lk_hit, .inl ⟨rfl, ?_⟩⟩
        refine new_tup (by show 2 ≤ 1000; decide) fun t7 H43 n43 e43 s43 => ?_
        have S := s42.trans s43
        have e3 := S _ _ (eN _ _ e40 (fun ps z => by cases z))
        have f6 := S _ _ (eN _ _ f6 (fun ps z => by cases z))
        have nva := (nva.extN eN).same S
        have hT := hT41.ext S
        have B := (BagC.extN B eN).same S
        clear S s42 s43 n43 eN hT41 hd42 e40
        walk_at "rd"
        refine ⟨hh, _, _, rfl, rfl, e3, small1000 (by show 1 ≤ 1000; decide), ?_⟩
        have hT := tabs_keepL hT e3 (Keep.upd (o := .lst ([V.ref t6] ++ [V.ref t7])))
        have B := B.keep (Keep.upd (o := .lst ([V.ref t6] ++ [V.ref t7]))) hb hc
        have nva := nva.mutL (ys := [V.ref t6] ++ [V.ref t7]) e3
        have f6 := Keep.upd (o := .lst ([V.ref t6] ++ [V.ref t7])) _ _ f6 (ne_of f6 e3 (by intro z; cases z))
        have f7 := Keep.upd (o := .lst ([V.ref t6] ++ [V.ref t7])) _ _ e43 (ne_of e43 e3 (by intro z; cases z))
        have e3 := upd_same (H := H43) (a := hh) (o := .lst ([V.ref t6] ++ [V.ref t7]))
        generalize upd H43 hh _ = H44 at *
        clear e43
        walk_at "rd"
        refine ⟨.inl ⟨rfl, _, SqL.of e3⟩, ?_⟩
        walk_at "rd"
        refine rd_lam hT fun H45 eN hT45 => ?_
        try unfold THear2
        walk_at "rd"
        refine ⟨va, rfl, .inl ⟨nva.extN eN, fun d46 H46 hd46 s46 => ?_⟩⟩
        refine ⟨d46, _, _, rfl, hd46, lk_hit, .inl ⟨rfl, ?_⟩⟩
        refine new_tup (by show 2 ≤ 1000; decide) fun t8 H47 n47 e47 s47 => ?_
        have S := s46.trans s47
        have e3 := S _ _ (eN _ _ e3 (fun ps z => by cases z))
        have f6 := S _ _ (eN _ _ f6 (fun ps z => by cases z))
        have f7 := S _ _ (eN _ _ f7 (fun ps z => by cases z))
        have hT := hT45.ext S
        have B := (BagC.extN B eN).same S
        clear S s46 s47 n47 eN hT45 hd46 nva
        walk_at "rd"
        refine ⟨hh, _, _, rfl, rfl, e3, small1000 (by show 2 ≤ 1000; decide), ?_⟩
        have hT := tabs_keepL hT e3 (Keep.upd (o := .lst ([V.ref t6] ++ [V.ref t7] ++ [V.ref t8])))
        have B := B.keep (Keep.upd (o := .lst ([V.ref t6] ++ [V.ref t7] ++ [V.ref t8]))) hb hc
        have f6 := Keep.upd (o := .lst ([V.ref t6] ++ [V.ref t7] ++ [V.ref t8])) _ _ f6 (ne_of f6 e3 (by intro z; cases z))
        have f7 := Keep.upd (o := .lst ([V.ref t6] ++ [V.ref t7] ++ [V.ref t8])) _ _ f7 (ne_of f7 e3 (by intro z; cases z))
        have f8 := Keep.upd (o := .lst ([V.ref t6] ++ [V.ref t7] ++ [V.ref t8])) _ _ e47 (ne_of e47 e3 (by intro z; cases z))
        have e3 := upd_same (H := H47) (a := hh) (o := .lst ([V.ref t6] ++ [V.ref t7] ++ [V.ref t8]))
        generalize upd H47 hh _ = H48 at *
        clear e47
        walk_at "rd"
        refine new_tup (by show 2 ≤ 1000; decide) fun t9 H49 n49 e49 s49 => ?_
        walk_at "rd"
        refine new_lst (by show 1 ≤ 1000; decide) fun l6 H50 n50 e50 s50 => ?_
        walk_at "rd"
        refine ⟨l6, 3, _, rfl, rfl, e50, by decide, by decide, Nat.le_of_lt (small1000 (by show 3 ≤ 1000; decide)), fun l7 n51 => ?_⟩
        have s51 := Same.new (o := .lst [V.ref t9, V.ref t9, V.ref t9]) n51
        have e51 := upd_same (H := H50) (a := l7) (o := .lst [V.ref t9, V.ref t9, V.ref t9])
        rw [show (List.replicate (3 : Int).toNat [V.ref t9]).flatten = [V.ref t9, V.ref t9, V.ref t9] from rfl]
        generalize upd H50 l7 _ = H51 at *
        have S := (s49.trans s50).trans s51
        have dt : ∀ {t : Addr}, H51 t = some (.tup [.str "place", .str "offset"]) → Dp K H51 (.ref t) (.tuple [.str "place", .str "offset"]) := fun h => .tup (SqT.of h) (.cons (.str _) (.cons (.str _) .nil))
        have f9 := s51 _ _ (s50 _ _ e49)
        refine use_neD (d := .list [.tuple [.str "place", .str "offset"], .tuple [.str "place", .str "offset"], .tuple [.str "place", .str "offset"]]) (e := .list [.tuple [.str "place", .str "offset"], .tuple [.str "place", .str "offset"], .tuple [.str "place", .str "offset"]]) (.lst (SqL.of (S _ _ e3)) (.cons (dt (S _ _ f6)) (.cons (dt (S _ _ f7)) (.cons (dt (S _ _ f8)) .nil)))) (.lst (SqL.of e51) (.cons (dt f9) (.cons (dt f9) (.cons (dt f9) .nil)))) (by decide +kernel) (by decide +kernel) ?_
        rw [SeqAt.eqv_refl _ (by decide +kernel)]
        walk_at "rd"
        refine iteF ?_
        walk_at "rd"
        exact ⟨_, _, _, _, _, _, _, _, _, _, _, _, rfl, (B.same S).bag, hT.ext S⟩
    · rintro σ H2 ⟨v2, v3, v4, v5, v6, v7, v8, v9, v10, v11, v12, v13, rfl, B2, hT2⟩
      walk_at "rd"
      refine ⟨_, rfl, .inr ⟨_, rfl, fun p1 H3 n3 g3 s3 => ?_⟩⟩
      refine ⟨p1, rfl, ?_⟩
      walk_at "rd"
      refine use_atX g3 ⟨by decide, by decide⟩ ⟨by decide, by decide⟩ ⟨by decide, by decide⟩ (by decide) ?_
      walk_at "rd"
      refine ⟨_, rfl, .inr ⟨_, rfl, fun p2 H4 n4 g4 s4 => ?_⟩⟩
      refine ⟨p2, rfl, ?_⟩
      walk_at "rd"
      refine use_atX g4 ⟨by decide, by decide⟩ ⟨by decide, by decide⟩ ⟨by decide, by decide⟩ (by decide) ?_
      walk_at "rd"
      refine ⟨_, rfl, .inr ⟨_, rfl, fun p3 H5 n5 g5 s5 => ?_⟩⟩
      refine ⟨p3, rfl, ?_⟩
      walk_at "rd"
      refine use_atX g5 ⟨by decide, by decide⟩ ⟨by decide, by decide⟩ ⟨by decide, by decide⟩ (by decide) ?_
      walk_at "rd"
      refine use_plX2 fun p4 H6 n6 g6 s6 => ?_
      refine ⟨p4, rfl, ?_⟩
      walk_at "rd"
      refine use_atX g6 ⟨by decide, by decide⟩ ⟨by decide, by decide⟩ ⟨by decide, by decide⟩ (by decide) ?_
      walk_at "rd"
      refine new_lst (by show 4 ≤ 1000; decide) fun l1 H7 n7 e7 s7 => ?_
      walk_at "rd"
      refine new_lst (by show 4 ≤ 1000; decide) fun l2 H8 n8 e8 s8 => ?_
      refine ⟨.list ([0, 4, 2, 2].map PyData.int), .list ([0, 4, 2, 2].map PyData.int), .lst (SqL.of (s8 _ _ e7)) (dp_ints [0, 4, 2, 2]), .lst (SqL.of e8) (dp_ints [0, 4, 2, 2]), shp_ints _, shp_ints _, ?_⟩
      rw [SeqAt.eqv_refl _ (can_ints _)]
      exact k _
end
end Kx

namespace Kx
open PySem PySem.Spec PyProof.Rows L2 Hf
open LamX in
theorem all_mk {l : PySem.W.OpenLaw} {q : Program} {w : World} {K : PySem.W.Frag} {h : Heap} {mg : Str → Option Value} {fa : Addr} (X : K.In h) (G : h.Ns mainGlobals mg) (hfa : mg "law" = some (.ref fa)) (TT : TopTabs q K mg h)
    {C : Addr} {cdC : ClassData} {rAf : Addr} {foA roA foS roS : Option Value} {HE : Addr} {CB ccBadPlace cdaBadPlace : Addr} {nmBadPlace qnBadPlace : Str} {NBBadPlace : Addr} {bsBadPlace bmBadPlace : List Value} {snBadPlace : List Str} {subBadPlace : List Value} {abBadPlace : Bool} {colBadPlace : Option Bool} {ddBadPlace : Option Addr} {q0BadPlace q1BadPlace q2BadPlace q3BadPlace q5BadPlace : Option Value} {cdBadPlace : ClassData} {fBadPlace : Addr} {odBadPlace anBadPlace : Option Addr} {slBadPlace : Array (Option Value)} {ocBadPlace kVBadPlace dcBadPlace pmBadPlace ctBadPlace : Value} {cclBadPlace : Value} {cddBadPlace : Option Addr} {cvsBadPlace : Array Value} {ccsBadPlace : Array (Option Value)} {fileBadPlace : Str} {tfBadPlace : Tok} {clvBadPlace : Value} {cldBadPlace : Option Addr} {cslBadPlace : Array (Option Value)} {CS ccBadSize cdaBadSize : Addr} {nmBadSize qnBadSize : Str} {NBBadSize : Addr} {bsBadSize bmBadSize : List Value} {snBadSize : List Str} {subBadSize : List Value} {abBadSize : Bool} {colBadSize : Option Bool} {ddBadSize : Option Addr} {q0BadSize q1BadSize q2BadSize q3BadSize q5BadSize : Option Value} {cdBadSize : ClassData} {fBadSize : Addr} {odBadSize anBadSize : Option Addr} {slBadSize : Array (Option Value)} {ocBadSize kVBadSize dcBadSize pmBadSize ctBadSize : Value} {cclBadSize : Value} {cddBadSize : Option Addr} {cvsBadSize : Array Value} {ccsBadSize : Array (Option Value)} {fileBadSize : Str} {tfBadSize : Tok} {clvBadSize : Value} {cldBadSize : Option Addr} {cslBadSize : Array (Option Value)} {f1 : Addr} {od1 an1 : Option Addr} {sl1 : Array (Option Value)} {oc1 kV1 dc1 pm1 cd1 ct1 : Value} {f2 : Addr} {od2 an2 : Option Addr} {sl2 : Array (Option Value)} {oc2 kV2 dc2 pm2 cd2 ct2 : Value} {f3 : Addr} {od3 an3 : Option Addr} {sl3 : Array (Option Value)} {oc3 kV3 dc3 pm3 cd3 ct3 : Value} {f4 : Addr} {od4 an4 : Option Addr} {sl4 : Array (Option Value)} {oc4 kV4 dc4 pm4 cd4 ct4 : Value} {f5 : Addr} {od5 an5 : Option Addr} {sl5 : Array (Option Value)} {oc5 kV5 dc5 pm5 cd5 ct5 : Value} {f6 : Addr} {od6 an6 : Option Addr} {sl6 : Array (Option Value)} {oc6 kV6 dc6 pm6 cd6 ct6 : Value} {f7 : Addr} {od7 an7 : Option Addr} {sl7 : Array (Option Value)} {oc7 kV7 dc7 pm7 cd7 ct7 : Value} {f8 : Addr} {od8 an8 : Option Addr} {sl8 : Array (Option Value)} {oc8 kV8 dc8 pm8 cd8 ct8 : Value} {f9 : Addr} {od9 an9 : Option Addr} {sl9 : Array (Option Value)} {oc9 kV9 dc9 pm9 cd9 ct9 : Value} {f10 : Addr} {od10 an10 : Option Addr} {sl10 : Array (Option Value)} {oc10 kV10 dc10 pm10 cd10 ct10 : Value} {f11 : Addr} {od11 an11 : Option Addr} {sl11 : Array (Option Value)} {oc11 kV11 dc11 pm11 cd11 ct11 : Value} {T11 : Addr} {dt11 : Tok} {dc211 : Value} {dd11 : Option Addr} {dn11 : Nat} {ds11 : Array (Option Value)} {f12 : Addr} {od12 an12 : Option Addr} {sl12 : Array (Option Value)} {oc12 kV12 dc12 pm12 cd12 ct12 : Value} {f13 : Addr} {od13 an13 : Option Addr} {sl13 : Array (Option Value)} {oc13 kV13 dc13 pm13 cd13 ct13 : Value} {f14 : Addr} {od14 an14 : Option Addr} {sl14 : Array (Option Value)} {oc14 kV14 dc14 pm14 cd14 ct14 : Value} {T14 : Addr} {dt14 : Tok} {dc214 : Value} {dd14 : Option Addr} {dn14 : Nat} {ds14 : Array (Option Value)} {f15 : Addr} {od15 an15 : Option Addr} {sl15 : Array (Option Value)} {oc15 kV15 dc15 pm15 cd15 ct15 : Value} {T15 : Addr} {dt15 : Tok} {dc215 : Value} {dd15 : Option Addr} {dn15 : Nat} {ds15 : Array (Option Value)} {f16 : Addr} {od16 an16 : Option Addr} {sl16 : Array (Option Value)} {oc16 kV16 dc16 pm16 cd16 ct16 : Value} {T16 : Addr} {dt16 : Tok} {dc216 : Value} {dd16 : Option Addr} {dn16 : Nat} {ds16 : Array (Option Value)} {c0 P0 : Addr} {od0 an0 : Option Addr} {sl0 : Array (Option Value)} {oc0 kV0 dc0 pm0 ct0 : Value} {f0 : Addr} {e0 : Value} {dd0 : Option Addr} {vs0 : Array Value} {s0 : Array (Option Value)}
    (z_len : PySem.W.nsIn K mainGlobals "len" = some none)
    (z_abs : PySem.W.nsIn K mainGlobals "abs" = some none)
    (z_int : PySem.W.nsIn K mainGlobals "int" = some none)
    (z_list : PySem.W.nsIn K mainGlobals "list" = some none)
    (z_range : PySem.W.nsIn K mainGlobals "range" = some none)
    (z_isinstance : PySem.W.nsIn K mainGlobals "isinstance" = some none)
    (z_bool : PySem.W.nsIn K mainGlobals "bool" = some none)
    (z_min : PySem.W.nsIn K mainGlobals "min" = some none)
    (z_repr : PySem.W.nsIn K mainGlobals "repr" = some none)
    (z_tuple : PySem.W.nsIn K mainGlobals "tuple" = some none)
    (z_super : PySem.W.nsIn K mainGlobals "super" = some none)
    (gC : PySem.W.nsIn K mainGlobals "Place" = some (some (.ref C)))
    (pg : PySem.W.plainGet K C Str.empty = true)
    (hd : PySem.W.hasDictIn K C = true)
    (po : PySem.W.plainOver K C = true)
    (sa : PySem.W.findIn K (.ref C) "__setattr__" = some (some (.builtin "object.__setattr__")))
    (n1 : PySem.W.findIn K (.ref C) "slope" = some none)
    (n2 : PySem.W.findIn K (.ref C) "offset" = some none)
    (n3 : PySem.W.findIn K (.ref C) "odd" = some none)
    (sf : PySem.W.selfFirst K C = true)
    (cC : PySem.W.clsIn K C = some cdC)
    (iC : PySem.W.isClsIn K C = true)
    (tC : PySem.W.typeIn K (.ref C) = some (.type "type"))
    (ne1 : PySem.W.findIn K (.ref C) "__ne__" = some (some (.builtin "object.__ne__")))
    (ne2 : PySem.W.subIn K (.ref C) (.type "object") = some true)
    (ha : PySem.W.findIn K (.ref C) "__class__" = some (some (.builtin "object.__class__")))
    (hn : PySem.W.specialIn K (.builtin "object.__class__") "__get__" = some (some (.builtin "getset_descriptor.__get__")))
    (tk : PySem.W.takesIn K (.builtin "object.__class__") = some true)
    (mo : PySem.W.mroIn K C (.type "object") = some true)
    (sI : PySem.W.subIn K (.ref C) (.type "int") = some false)
    (rA : PySem.W.findIn K (.ref C) (dunderR "add") = some (some (.ref rAf)))
    (rS : PySem.W.findIn K (.ref C) (dunderR "sub") = some none)
    (oA : PySem.W.findIn K (.type "int") (PySem.dunder "add") = some foA)
    (pA : PySem.W.findIn K (.type "int") (dunderR "add") = some roA)
    (oS : PySem.W.findIn K (.type "int") (PySem.dunder "sub") = some foS)
    (pS : PySem.W.findIn K (.type "int") (dunderR "sub") = some roS)
    (sIC : PySem.W.subIn K (.type "int") (.ref C) = some false)
    (hi : PySem.W.findIn K (.ref C) "__iadd__" = some none)
    (mk : PySem.W.makesIn K C = true)
    (kc : PySem.W.keepIn K (.ref C) = true)
    (pm : cdC.mro = [.ref C, .type "object"])
    (gH : PySem.W.nsIn K mainGlobals "HoldError" = some (some (.ref HE)))
    (top : (l.prog.main.scope.names.lookup ("super" : Str)).isSome = false)
    (opq : PySem.W.nsIn K cStatics "thirdparty.any" = some none)
    (h1 : PySem.W.subIn K (.ref HE) (.type "BaseException") = some true)
    (h2 : PySem.W.hasDictIn K HE = true)
    (h3 : PySem.W.typeIn K (.ref HE) = some (.type "type"))
    (gBadPlace : PySem.W.nsIn K mainGlobals "BadPlace" = some (some (.ref CB)))
    (lBadPlace : K.lookup CB = some (excClassObj nmBadPlace qnBadPlace CB NBBadPlace bsBadPlace bmBadPlace true snBadPlace subBadPlace abBadPlace colBadPlace ddBadPlace q0BadPlace q1BadPlace q2BadPlace q3BadPlace q5BadPlace "ValueError.__new__"))
    (rBadPlace : PySem.HandSPX.refsVE bmBadPlace = true)
    (saBadPlace : PySem.W.findIn K (.ref CB) "__setattr__" = some (some (.builtin "object.__setattr__")))
    (exBadPlace : PySem.W.subIn K (.ref CB) (.type "BaseException") = some true)
    (tyBadPlace : PySem.W.typeIn K (.ref CB) = some (.type "type"))
    (kBadPlace : PySem.W.keepIn K (.ref CB) = true)
    (iBadPlace : PySem.W.findIn K (.ref CB) "__init__" = some (some (.ref fBadPlace)))
    (tIBadPlace : PySem.W.typeIn K (.ref fBadPlace) = some (.type "function"))
    (lIBadPlace : K.lookup fBadPlace = some ⟨ocBadPlace, odBadPlace, .func (PySem.W.ksFn "__init__" "BadPlace.__init__" (defArgs s_BadPlace_init) (defBody s_BadPlace_init) (defScope s_BadPlace_init) .none kVBadPlace dcBadPlace pmBadPlace anBadPlace (.ref cdaBadPlace) ctBadPlace ccBadPlace), slBadPlace⟩)
    (cIBadPlace : PySem.W.codeIn K (.ref cdaBadPlace) "BadPlace.__init__" = true)
    (lkBadPlace : K.lookup cdaBadPlace = some ⟨cclBadPlace, cddBadPlace, .fields cvsBadPlace, ccsBadPlace⟩)
    (vkBadPlace : cvsBadPlace[2]? = some (Value.str fileBadPlace tfBadPlace))
    (fkBadPlace : ((l.prog.main.file : Str) == fileBadPlace) = true)
    (lccBadPlace : K.lookup ccBadPlace = some ⟨clvBadPlace, cldBadPlace, .cell (some (.ref CB)), cslBadPlace⟩)
    (clBadPlace : PySem.W.clsIn K CB = some cdBadPlace)
    (mrBadPlace : PySem.W.mroIn K CB (.ref CB) = some true)
    (iniBadPlace : PySem.W.ks_superIn K CB CB "__init__" = some (some (.builtin "ValueError.__init__")))
    (isVBadPlace : PySem.W.subIn K (.ref CB) (.type "ValueError") = some true)
    (no0BadPlace : PySem.W.findIn K (.ref CB) "part" = some none)
    (gaBadPlace : PySem.W.findIn K (.ref CB) "__getattribute__" = some (some (.builtin "BaseException.__getattribute__")))
    (ggBadPlace : PySem.W.findIn K (.ref CB) "__getattr__" = some none)
    (hdBadPlace : PySem.W.hasDictIn K CB = true)
    (haBadPlace : PySem.W.findIn K (.ref CB) "__class__" = some (some (.builtin "object.__class__")))
    (moBadPlace : PySem.W.mroIn K CB (.type "object") = some true)
    (heBadPlace : PySem.W.subIn K (.ref CB) (.ref HE) = some true)
    (gBadSize : PySem.W.nsIn K mainGlobals "BadSize" = some (some (.ref CS)))
    (lBadSize : K.lookup CS = some (excClassObj nmBadSize qnBadSize CS NBBadSize bsBadSize bmBadSize true snBadSize subBadSize abBadSize colBadSize ddBadSize q0BadSize q1BadSize q2BadSize q3BadSize q5BadSize "ValueError.__new__"))
    (rBadSize : PySem.HandSPX.refsVE bmBadSize = true)
    (saBadSize : PySem.W.findIn K (.ref CS) "__setattr__" = some (some (.builtin "object.__setattr__")))
    (exBadSize : PySem.W.subIn K (.ref CS) (.type "BaseException") = some true)
    (tyBadSize : PySem.W.typeIn K (.ref CS) = some (.type "type"))
    (kBadSize : PySem.W.keepIn K (.ref CS) = true)
    (iBadSize : PySem.W.findIn K (.ref CS) "__init__" = some (some (.ref fBadSize)))
    (tIBadSize : PySem.W.typeIn K (.ref fBadSize) = some (.type "function"))
    (lIBadSize : K.lookup fBadSize = some ⟨ocBadSize, odBadSize, .func (PySem.W.ksFn "__init__" "BadSize.__init__" (defArgs s_BadSize_init) (defBody s_BadSize_init) (defScope s_BadSize_init) .none kVBadSize dcBadSize pmBadSize anBadSize (.ref cdaBadSize) ctBadSize ccBadSize), slBadSize⟩)
    (cIBadSize : PySem.W.codeIn K (.ref cdaBadSize) "BadSize.__init__" = true)
    (lkBadSize : K.lookup cdaBadSize = some ⟨cclBadSize, cddBadSize, .fields cvsBadSize, ccsBadSize⟩)
    (vkBadSize : cvsBadSize[2]? = some (Value.str fileBadSize tfBadSize))
    (fkBadSize : ((l.prog.main.file : Str) == fileBadSize) = true)
    (lccBadSize : K.lookup ccBadSize = some ⟨clvBadSize, cldBadSize, .cell (some (.ref CS)), cslBadSize⟩)
    (clBadSize : PySem.W.clsIn K CS = some cdBadSize)
    (mrBadSize : PySem.W.mroIn K CS (.ref CS) = some true)
    (iniBadSize : PySem.W.ks_superIn K CS CS "__init__" = some (some (.builtin "ValueError.__init__")))
    (isVBadSize : PySem.W.subIn K (.ref CS) (.type "ValueError") = some true)
    (no0BadSize : PySem.W.findIn K (.ref CS) "part" = some none)
    (gaBadSize : PySem.W.findIn K (.ref CS) "__getattribute__" = some (some (.builtin "BaseException.__getattribute__")))
    (ggBadSize : PySem.W.findIn K (.ref CS) "__getattr__" = some none)
    (hdBadSize : PySem.W.hasDictIn K CS = true)
    (haBadSize : PySem.W.findIn K (.ref CS) "__class__" = some (some (.builtin "object.__class__")))
    (moBadSize : PySem.W.mroIn K CS (.type "object") = some true)
    (heBadSize : PySem.W.subIn K (.ref CS) (.ref HE) = some true)
    (sT : PySem.W.subIn K (.type "tuple") (.ref C) = some false)
    (iP : PySem.W.isClsIn K CB = true)
    (sSB : PySem.W.subIn K (.ref CS) (.ref CB) = some false)
    (a1 : PySem.W.nsIn K mainGlobals "is_whole" = some (some (.ref f1)))
    (l1 : K.lookup f1 = some ⟨oc1, od1, .func (PySem.W.fnOf "is_whole" "is_whole" (defArgs s_is_whole) (defBody s_is_whole) (defScope s_is_whole) .none kV1 dc1 pm1 an1 cd1 ct1), sl1⟩)
    (c1 : PySem.W.codeIn K cd1 "is_whole" = true)
    (k1 : PySem.W.keepIn K (.ref f1) = true)
    (a2 : PySem.W.nsIn K mainGlobals "value_at" = some (some (.ref f2)))
    (l2 : K.lookup f2 = some ⟨oc2, od2, .func (PySem.W.fnOf "value_at" "value_at" (defArgs s_value_at) (defBody s_value_at) (defScope s_value_at) .none kV2 dc2 pm2 an2 cd2 ct2), sl2⟩)
    (c2 : PySem.W.codeIn K cd2 "value_at" = true)
    (k2 : PySem.W.keepIn K (.ref f2) = true)
    (a3 : PySem.W.nsIn K mainGlobals "need_offset" = some (some (.ref f3)))
    (l3 : K.lookup f3 = some ⟨oc3, od3, .func (PySem.W.fnOf "need_offset" "need_offset" (defArgs s_need_offset) (defBody s_need_offset) (defScope s_need_offset) .none kV3 dc3 pm3 an3 cd3 ct3), sl3⟩)
    (c3 : PySem.W.codeIn K cd3 "need_offset" = true)
    (k3 : PySem.W.keepIn K (.ref f3) = true)
    (a4 : PySem.W.nsIn K mainGlobals "_law_bag" = some (some (.ref f4)))
    (l4 : K.lookup f4 = some ⟨oc4, od4, .func (PySem.W.fnOf "_law_bag" "_law_bag" (defArgs s_l_bag) (defBody s_l_bag) (defScope s_l_bag) .none kV4 dc4 pm4 an4 cd4 ct4), sl4⟩)
    (c4 : PySem.W.codeIn K cd4 "_law_bag" = true)
    (k4 : PySem.W.keepIn K (.ref f4) = true)
    (a5 : PySem.W.nsIn K mainGlobals "_law_draw" = some (some (.ref f5)))
    (l5 : K.lookup f5 = some ⟨oc5, od5, .func (PySem.W.fnOf "_law_draw" "_law_draw" (defArgs s_l_draw) (defBody s_l_draw) (defScope s_l_draw) .none kV5 dc5 pm5 an5 cd5 ct5), sl5⟩)
    (c5 : PySem.W.codeIn K cd5 "_law_draw" = true)
    (k5 : PySem.W.keepIn K (.ref f5) = true)
    (a6 : PySem.W.nsIn K mainGlobals "_law_at" = some (some (.ref f6)))
    (l6 : K.lookup f6 = some ⟨oc6, od6, .func (PySem.W.fnOf "_law_at" "_law_at" (defArgs s_l_at) (defBody s_l_at) (defScope s_l_at) .none kV6 dc6 pm6 an6 cd6 ct6), sl6⟩)
    (c6 : PySem.W.codeIn K cd6 "_law_at" = true)
    (k6 : PySem.W.keepIn K (.ref f6) = true)
    (a7 : PySem.W.nsIn K mainGlobals "_law_heard" = some (some (.ref f7)))
    (l7 : K.lookup f7 = some ⟨oc7, od7, .func (PySem.W.fnOf "_law_heard" "_law_heard" (defArgs s_l_heard) (defBody s_l_heard) (defScope s_l_heard) .none kV7 dc7 pm7 an7 cd7 ct7), sl7⟩)
    (c7 : PySem.W.codeIn K cd7 "_law_heard" = true)
    (k7 : PySem.W.keepIn K (.ref f7) = true)
    (a8 : PySem.W.nsIn K mainGlobals "_law_number" = some (some (.ref f8)))
    (l8 : K.lookup f8 = some ⟨oc8, od8, .func (PySem.W.fnOf "_law_number" "_law_number" (defArgs s_l_number) (defBody s_l_number) (defScope s_l_number) .none kV8 dc8 pm8 an8 cd8 ct8), sl8⟩)
    (c8 : PySem.W.codeIn K cd8 "_law_number" = true)
    (k8 : PySem.W.keepIn K (.ref f8) = true)
    (a9 : PySem.W.nsIn K mainGlobals "_law_odd" = some (some (.ref f9)))
    (l9 : K.lookup f9 = some ⟨oc9, od9, .func (PySem.W.fnOf "_law_odd" "_law_odd" (defArgs s_l_odd) (defBody s_l_odd) (defScope s_l_odd) .none kV9 dc9 pm9 an9 cd9 ct9), sl9⟩)
    (c9 : PySem.W.codeIn K cd9 "_law_odd" = true)
    (k9 : PySem.W.keepIn K (.ref f9) = true)
    (a10 : PySem.W.nsIn K mainGlobals "_law_sorts_right" = some (some (.ref f10)))
    (l10 : K.lookup f10 = some ⟨oc10, od10, .func (PySem.W.fnOf "_law_sorts_right" "_law_sorts_right" (defArgs s_l_sorts_right) (defBody s_l_sorts_right) (defScope s_l_sorts_right) .none kV10 dc10 pm10 an10 cd10 ct10), sl10⟩)
    (c10 : PySem.W.codeIn K cd10 "_law_sorts_right" = true)
    (k10 : PySem.W.keepIn K (.ref f10) = true)
    (a11 : PySem.W.findIn K (.ref C) "__init__" = some (some (.ref f11)))
    (i11 : PySem.W.isFn K (.ref f11) = true)
    (l11 : K.lookup f11 = some ⟨oc11, od11, .func (PySem.W.fnOf "__init__" "Place.__init__" (defArgs s_Place_init) (defBody s_Place_init) (defScope s_Place_init) (.ref T11) kV11 dc11 pm11 an11 cd11 ct11), sl11⟩)
    (t11 : K.lookup T11 = some ⟨dc211, dd11, .seq #[.int 0 dt11] dn11, ds11⟩)
    (c11 : PySem.W.codeIn K cd11 "Place.__init__" = true)
    (k11 : PySem.W.keepIn K (.ref f11) = true)
    (a12 : PySem.W.findIn K (.ref C) "__call__" = some (some (.ref f12)))
    (i12 : PySem.W.isFn K (.ref f12) = true)
    (l12 : K.lookup f12 = some ⟨oc12, od12, .func (PySem.W.fnOf "__call__" "Place.__call__" (defArgs s_Place_call) (defBody s_Place_call) (defScope s_Place_call) .none kV12 dc12 pm12 an12 cd12 ct12), sl12⟩)
    (c12 : PySem.W.codeIn K cd12 "Place.__call__" = true)
    (k12 : PySem.W.keepIn K (.ref f12) = true)
    (a13 : PySem.W.findIn K (.ref C) "__eq__" = some (some (.ref f13)))
    (i13 : PySem.W.isFn K (.ref f13) = true)
    (l13 : K.lookup f13 = some ⟨oc13, od13, .func (PySem.W.fnOf "__eq__" "Place.__eq__" (defArgs s_Place_eq) (defBody s_Place_eq) (defScope s_Place_eq) .none kV13 dc13 pm13 an13 cd13 ct13), sl13⟩)
    (c13 : PySem.W.codeIn K cd13 "Place.__eq__" = true)
    (k13 : PySem.W.keepIn K (.ref f13) = true)
    (a14 : PySem.W.nsIn K mainGlobals "from_left" = some (some (.ref f14)))
    (l14 : K.lookup f14 = some ⟨oc14, od14, .func (PySem.W.fnOf "from_left" "from_left" (defArgs s_from_left) (defBody s_from_left) (defScope s_from_left) (.ref T14) kV14 dc14 pm14 an14 cd14 ct14), sl14⟩)
    (t14 : K.lookup T14 = some ⟨dc214, dd14, .seq #[.int 0 dt14] dn14, ds14⟩)
    (c14 : PySem.W.codeIn K cd14 "from_left" = true)
    (k14 : PySem.W.keepIn K (.ref f14) = true)
    (a15 : PySem.W.nsIn K mainGlobals "from_right" = some (some (.ref f15)))
    (l15 : K.lookup f15 = some ⟨oc15, od15, .func (PySem.W.fnOf "from_right" "from_right" (defArgs s_from_right) (defBody s_from_right) (defScope s_from_right) (.ref T15) kV15 dc15 pm15 an15 cd15 ct15), sl15⟩)
    (t15 : K.lookup T15 = some ⟨dc215, dd15, .seq #[.int 0 dt15] dn15, ds15⟩)
    (c15 : PySem.W.codeIn K cd15 "from_right" = true)
    (k15 : PySem.W.keepIn K (.ref f15) = true)
    (a16 : PySem.W.nsIn K mainGlobals "from_middle" = some (some (.ref f16)))
    (l16 : K.lookup f16 = some ⟨oc16, od16, .func (PySem.W.fnOf "from_middle" "from_middle" (defArgs s_from_middle) (defBody s_from_middle) (defScope s_from_middle) (.ref T16) kV16 dc16 pm16 an16 cd16 ct16), sl16⟩)
    (t16 : K.lookup T16 = some ⟨dc216, dd16, .seq #[.int 0 dt16] dn16, ds16⟩)
    (c16 : PySem.W.codeIn K cd16 "from_middle" = true)
    (k16 : PySem.W.keepIn K (.ref f16) = true)
    (fi : PySem.W.fnIn K f12 = true)
    (a0 : PySem.W.nsIn K mainGlobals "law" = some (some (.ref f0)))
    (l0 : K.lookup f0 = some ⟨oc0, od0, .func (PySem.W.fnOf "law" "law" (defArgs s_law) (defBody s_law) (defScope s_law) .none kV0 dc0 pm0 an0 (.ref c0) ct0), sl0⟩)
    (cd0 : PySem.W.codeIn K (.ref c0) "law" = true)
    (lc0 : K.lookup c0 = some ⟨e0, dd0, .fields vs0, s0⟩)
    (v11 : vs0[11]? = some (Value.ref P0))
    (nP0 : K.lookup P0 = none)
    (ch0 : PySem.W.codeHdIn K c0 P0 = true)
    (rec : ((recsOf q).any fun e => e.name == ("law" : Str)) = true)
    (neC : (CS == CB) = false) :
    LawGT l w K 9 mg fa h := by
  have e := hfa.symm.trans (PySem.W.mg_of X G a0)
  cases e
  have T : Txt K mg := ⟨PySem.W.mg_none_of X G z_len, PySem.W.mg_none_of X G z_abs, PySem.W.mg_none_of X G z_int, PySem.W.mg_none_of X G z_list, PySem.W.mg_none_of X G z_range, PySem.W.mg_none_of X G z_isinstance, PySem.W.mg_none_of X G z_bool, PySem.W.mg_none_of X G z_min, PySem.W.mg_none_of X G z_repr, PySem.W.mg_none_of X G z_tuple, PySem.W.mg_none_of X G z_super⟩
  have C0 : PlC K mg C := ⟨⟨pg, hd, po, sa⟩, n1, n2, n3, PySem.W.mg_of X G gC, sf, plainMro_mk cC pm, ⟨ne1, ne2⟩, ha, hn, tk, mo, kitOne_mk iC tC sIC, sI, ⟨⟨_, rA, .inr ⟨_, rfl⟩⟩, ⟨_, oA⟩, ⟨_, pA⟩, sIC⟩, ⟨⟨_, rS, .inl rfl⟩, ⟨_, oS⟩, ⟨_, pS⟩, sIC⟩, hi⟩
  have O_BadPlace : OexC K CB := ⟨⟨nmBadPlace, qnBadPlace, NBBadPlace, bsBadPlace, bmBadPlace, snBadPlace, subBadPlace, abBadPlace, colBadPlace, ddBadPlace, q0BadPlace, q1BadPlace, q2BadPlace, q3BadPlace, q5BadPlace, lBadPlace, rBadPlace⟩, saBadPlace, exBadPlace, tyBadPlace, kBadPlace⟩
  have U_BadPlace : SupC l.prog K mg CB ccBadPlace cdaBadPlace := ⟨⟨_, _, _, _, _, _, lkBadPlace, vkBadPlace, fkBadPlace⟩, ⟨_, _, _, lccBadPlace⟩, ⟨_, clBadPlace⟩, mrBadPlace, PySem.W.mg_none_of X G z_super, top, opq, iniBadPlace, isVBadPlace⟩
  have X_BadPlace : ExcC K CB := ⟨gaBadPlace, ggBadPlace, exBadPlace, hdBadPlace, haBadPlace, hn, tk, moBadPlace⟩
  have F_BadPlace : XfC K CB := ⟨gaBadPlace, ggBadPlace, exBadPlace, hdBadPlace⟩
  have O_BadSize : OexC K CS := ⟨⟨nmBadSize, qnBadSize, NBBadSize, bsBadSize, bmBadSize, snBadSize, subBadSize, abBadSize, colBadSize, ddBadSize, q0BadSize, q1BadSize, q2BadSize, q3BadSize, q5BadSize, lBadSize, rBadSize⟩, saBadSize, exBadSize, tyBadSize, kBadSize⟩
  have U_BadSize : SupC l.prog K mg CS ccBadSize cdaBadSize := ⟨⟨_, _, _, _, _, _, lkBadSize, vkBadSize, fkBadSize⟩, ⟨_, _, _, lccBadSize⟩, ⟨_, clBadSize⟩, mrBadSize, PySem.W.mg_none_of X G z_super, top, opq, iniBadSize, isVBadSize⟩
  have X_BadSize : ExcC K CS := ⟨gaBadSize, ggBadSize, exBadSize, hdBadSize, haBadSize, hn, tk, moBadSize⟩
  have F_BadSize : XfC K CS := ⟨gaBadSize, ggBadSize, exBadSize, hdBadSize⟩
  have d_is_whole : DefAt K mg "is_whole" s_is_whole ["value"] := defAt_mk X G a1 l1 c1 k1 (fun _ _ _ _ _ _ us hl => match us, hl with | [_], _ => rfl)
  have d_value_at : DefAt K mg "value_at" s_value_at ["slope", "offset", "odd", "size"] := defAt_mk X G a2 l2 c2 k2 (fun _ _ _ _ _ _ us hl => match us, hl with | [_, _, _, _], _ => rfl)
  have d_need_offset : DefAt K mg "need_offset" s_need_offset ["value"] := defAt_mk X G a3 l3 c3 k3 (fun _ _ _ _ _ _ us hl => match us, hl with | [_], _ => rfl)
  have d_l_bag : DefAt K mg "_law_bag" s_l_bag ["_law_script"] := defAt_mk X G a4 l4 c4 k4 (fun _ _ _ _ _ _ us hl => match us, hl with | [_], _ => rfl)
  have d_l_draw : DefAt K mg "_law_draw" s_l_draw ["_law_bag_here", "_law_limit"] := defAt_mk X G a5 l5 c5 k5 (fun _ _ _ _ _ _ us hl => match us, hl with | [_, _], _ => rfl)
  have d_l_at : DefAt K mg "_law_at" s_l_at ["_law_parts", "_law_wide"] := defAt_mk X G a6 l6 c6 k6 (fun _ _ _ _ _ _ us hl => match us, hl with | [_, _], _ => rfl)
  have d_l_heard : DefAt K mg "_law_heard" s_l_heard ["_law_ask"] := defAt_mk X G a7 l7 c7 k7 (fun _ _ _ _ _ _ us hl => match us, hl with | [_], _ => rfl)
  have d_l_number : DefAt K mg "_law_number" s_l_number ["_law_bag_here"] := defAt_mk X G a8 l8 c8 k8 (fun _ _ _ _ _ _ us hl => match us, hl with | [_], _ => rfl)
  have d_l_odd : DefAt K mg "_law_odd" s_l_odd ["_law_bag_here"] := defAt_mk X G a9 l9 c9 k9 (fun _ _ _ _ _ _ us hl => match us, hl with | [_], _ => rfl)
  have d_l_sorts_right : DefAt K mg "_law_sorts_right" s_l_sorts_right ["_law_far"] := defAt_mk X G a10 l10 c10 k10 (fun _ _ _ _ _ _ us hl => match us, hl with | [_], _ => rfl)
  have F11 := funD1_mk (st := s_Place_init) l11 t11 c11 k11
  have b11 : Binds K _ ["self", "slope", "offset", "odd"] [] := FunD.full F11 fun _ _ _ _ _ _ _ us its h1 h2 => match us, h1, its, h2 with | [_, _, _, _], _, [_], _ => ⟨_, rfl, rfl⟩
  have d_Place_call : MetAt K C "__call__" "Place.__call__" s_Place_call ["self", "size"] := metAt_mk a12 i12 l12 c12 k12 (fun _ _ _ _ _ _ us hl => match us, hl with | [_, _], _ => rfl)
  have d_Place_eq : MetAt K C "__eq__" "Place.__eq__" s_Place_eq ["self", "other"] := metAt_mk a13 i13 l13 c13 k13 (fun _ _ _ _ _ _ us hl => match us, hl with | [_, _], _ => rfl)
  have F14 := funD1_mk (st := s_from_left) l14 t14 c14 k14
  have b14 : Binds K _ ["k"] [] := FunD.full F14 fun _ _ _ _ _ _ _ us its h1 h2 => match us, h1, its, h2 with | [_], _, [_], _ => ⟨_, rfl, rfl⟩
  have F15 := funD1_mk (st := s_from_right) l15 t15 c15 k15
  have b15 : Binds K _ ["k"] [] := FunD.full F15 fun _ _ _ _ _ _ _ us its h1 h2 => match us, h1, its, h2 with | [_], _, [_], _ => ⟨_, rfl, rfl⟩
  have F16 := funD1_mk (st := s_from_middle) l16 t16 c16 k16
  have b16 : Binds K _ ["k"] [] := FunD.full F16 fun _ _ _ _ _ _ _ us its h1 h2 => match us, h1, its, h2 with | [_], _, [_], _ => ⟨_, rfl, rfl⟩
  have FC := fun_mk (st := s_Place_call) l12 c12 k12
  refine ⟨[(c0, P0)], spLawT K [(P0, "law.<locals>.<lambda>")], fun p hp => ?_, fun p hp => ?_, fun p hp => ?_, fun H a ns hl hH hS => ⟨a, ns, rfl, hS, hl, fun p hp => ?_, fun _ => rfl⟩, fun base _ _ TBs => ?_⟩
  · rw [List.mem_singleton.mp hp]
    exact TT "law" _ c0 P0 _ _ _ _ _ _ rec (PySem.W.mg_of X G a0) l0 rfl rfl lc0 v11
  · rw [List.mem_singleton.mp hp]
    exact nP0
  · rw [List.mem_singleton.mp hp]
    exact PySem.W.codeHd_of_K X ch0
  · rw [List.mem_singleton.mp hp]
    exact TabS.nil (hH (c0, P0) List.mem_cons_self)
  · exact by
      have c_is_whole := ok_is_whole (P := l.prog) (w := w) (K := K) (mg := mg) (base := base) T d_is_whole
      have c_value_at := ok_value_at (P := l.prog) (w := w) (K := K) (mg := mg) (base := base) T d_value_at
      have Er_BadPlace : Err l.prog w K mg base "BadPlace" CB ["part"] := ⟨O_BadPlace, PySem.W.mg_of X G gBadPlace, fBadPlace, _, _, iBadPlace, tIBadPlace, ok_BadPlace_init (P := l.prog) (w := w) (K := K) (mg := mg) (base := base) lIBadPlace cIBadPlace O_BadPlace U_BadPlace no0BadPlace, fun s us _ hl => .of_eq (match us, hl with | [_, _], _ => rfl)⟩
      have Er_BadSize : Err l.prog w K mg base "BadSize" CS ["part"] := ⟨O_BadSize, PySem.W.mg_of X G gBadSize, fBadSize, _, _, iBadSize, tIBadSize, ok_BadSize_init (P := l.prog) (w := w) (K := K) (mg := mg) (base := base) lIBadSize cIBadSize O_BadSize U_BadSize no0BadSize, fun s us _ hl => .of_eq (match us, hl with | [_, _], _ => rfl)⟩
      have okI := ok_Place_initX (P := l.prog) (w := w) (K := K) (mg := mg) (base := base) (ps := ["self", "slope", "offset", "odd"]) T C0 c_is_whole Er_BadPlace F11 rfl
      have Mk0 : Mk K C f11 := ⟨mk, a11, i11, kc⟩
      have M_Place : Mak l.prog w K mg base 3 "Place" C (spPlX K C CB) := ⟨_, FnOk.all okI b11, C0.g, Mk0⟩
      have M_Place2 : Mak l.prog w K mg base 3 "Place" C (spPlX2 K C CB) := by
        obtain ⟨ds, rr, bb⟩ := FunD.dflt (n := 3) (ps := (["self", "slope", "offset", "odd"] : List Str)) F11 rfl fun _ _ _ _ _ _ _ us its h1 h2 => match us, h1, its, h2 with | [_, _, _], _, [_], _ => ⟨_, rfl, rfl⟩
        exact ⟨_, okI.raw bb rr, C0.g, Mk0⟩
      have M_PlaceR : MakR l.prog w K mg base 3 "Place" C ["odd", "offset", "slope"] (spPlX K C CB) := by
        obtain ⟨its, hb⟩ := FunD.kbindsD (ps := (["self", "slope", "offset", "odd"] : List Str)) F11 1 ["odd", "offset", "slope"] (fun us _ ws => us ++ ws.reverse) (by simp) (fun r1 _ r3 => r1.append r3.reverse) fun _ _ _ _ _ _ _ us its ws h1 h2 h3 => match us, h1, its, h2, ws, h3 with | [_], _, [_], _, [_, _, _], _ => ⟨_, rfl, rfl⟩
        exact ⟨_, _, _, _, _, Mk0, okI, C0.g, hb, fun v zs _ => rfl⟩
      have okC := ok_Place_callX (P := l.prog) (w := w) (K := K) (mg := mg) (base := base) T C0 c_is_whole c_value_at Er_BadSize FC
      have m_call : Met l.prog w K mg base 3 C "__call__" (spPlAtX K C CS) := ⟨_, FnOk.all okC (FC.binds (fun _ _ _ _ _ _ us hl => match us, hl with | [_, _], _ => rfl)), ⟨a12, i12, k12⟩⟩
      have k_call : MetK l.prog w K mg base 3 C "__call__" ["size"] (spPlAtX K C CS) := ⟨_, _, _, fun us ws => us ++ ws, fun us ws => us ++ ws, okC, a12, i12, fi, ⟨fun s us ws _ h1 h2 => .of_eq (match us, h1, ws, h2 with | [_], _, [_], _ => rfl), fun r1 r2 => r1.append r2⟩, fun _ _ _ => rfl⟩
      have m_eq := ok_Place_eq (P := l.prog) (w := w) (K := K) (mg := mg) (base := base) T C0 d_Place_eq
      have c_need := ok_need_offset (P := l.prog) (w := w) (K := K) (mg := mg) (base := base) T c_is_whole Er_BadPlace d_need_offset
      have ok_from_left := ok_from_left (P := l.prog) (w := w) (K := K) (mg := mg) (base := base) T C0 M_Place c_need F14
      have c_from_left : Cal l.prog w K mg base 5 "from_left" (spFromX K C CB (fun k => (0, k, 0))) := ⟨_, FnOk.all ok_from_left b14, PySem.W.mg_of X G a14, F14.kp⟩
      have z_from_left : Cal l.prog w K mg base 5 "from_left" (spFromX0 K C CB (fun k => (0, k, 0))) := by
        obtain ⟨ds, rr, bb⟩ := FunD.dflt (n := 0) (ps := (["k"] : List Str)) F14 rfl fun _ _ _ _ _ _ _ us its h1 h2 => match us, h1, its, h2 with | [], _, [_], _ => ⟨_, rfl, rfl⟩
        exact ⟨_, ok_from_left.raw bb rr, PySem.W.mg_of X G a14, F14.kp⟩
      have k_from_left : CalK l.prog w K mg base 5 "from_left" ["k"] id (spFromX K C CB (fun k => (0, k, 0))) := by
        obtain ⟨its, hb⟩ := FunD.kbindsD (ps := (["k"] : List Str)) F14 0 ["k"] (fun us _ ws => us ++ ws) (by simp) (fun r1 _ r3 => r1.append r3) fun _ _ _ _ _ _ _ us its ws h1 h2 h3 => match us, h1, its, h2, ws, h3 with | [], _, [_], _, [_], _ => ⟨_, rfl, rfl⟩
        exact ⟨_, _, _, _, _, ok_from_left, PySem.W.mg_of X G a14, F14.kp, hb, fun zs _ => rfl⟩
      have ok_from_right := ok_from_right (P := l.prog) (w := w) (K := K) (mg := mg) (base := base) T C0 M_Place c_need F15
      have c_from_right : Cal l.prog w K mg base 5 "from_right" (spFromX K C CB (fun k => (2, 0 - k, 1))) := ⟨_, FnOk.all ok_from_right b15, PySem.W.mg_of X G a15, F15.kp⟩
      have z_from_right : Cal l.prog w K mg base 5 "from_right" (spFromX0 K C CB (fun k => (2, 0 - k, 1))) := by
        obtain ⟨ds, rr, bb⟩ := FunD.dflt (n := 0) (ps := (["k"] : List Str)) F15 rfl fun _ _ _ _ _ _ _ us its h1 h2 => match us, h1, its, h2 with | [], _, [_], _ => ⟨_, rfl, rfl⟩
        exact ⟨_, ok_from_right.raw bb rr, PySem.W.mg_of X G a15, F15.kp⟩
      have k_from_right : CalK l.prog w K mg base 5 "from_right" ["k"] id (spFromX K C CB (fun k => (2, 0 - k, 1))) := by
        obtain ⟨its, hb⟩ := FunD.kbindsD (ps := (["k"] : List Str)) F15 0 ["k"] (fun us _ ws => us ++ ws) (by simp) (fun r1 _ r3 => r1.append r3) fun _ _ _ _ _ _ _ us its ws h1 h2 h3 => match us, h1, its, h2, ws, h3 with | [], _, [_], _, [_], _ => ⟨_, rfl, rfl⟩
        exact ⟨_, _, _, _, _, ok_from_right, PySem.W.mg_of X G a15, F15.kp, hb, fun zs _ => rfl⟩
      have ok_from_middle := ok_from_middle (P := l.prog) (w := w) (K := K) (mg := mg) (base := base) T C0 M_Place c_need F16
      have c_from_middle : Cal l.prog w K mg base 5 "from_middle" (spFromX K C CB (fun k => (1, k, 0))) := ⟨_, FnOk.all ok_from_middle b16, PySem.W.mg_of X G a16, F16.kp⟩
      have z_from_middle : Cal l.prog w K mg base 5 "from_middle" (spFromX0 K C CB (fun k => (1, k, 0))) := by
        obtain ⟨ds, rr, bb⟩ := FunD.dflt (n := 0) (ps := (["k"] : List Str)) F16 rfl fun _ _ _ _ _ _ _ us its h1 h2 => match us, h1, its, h2 with | [], _, [_], _ => ⟨_, rfl, rfl⟩
        exact ⟨_, ok_from_middle.raw bb rr, PySem.W.mg_of X G a16, F16.kp⟩
      have k_from_middle : CalK l.prog w K mg base 5 "from_middle" ["k"] id (spFromX K C CB (fun k => (1, k, 0))) := by
        obtain ⟨its, hb⟩ := FunD.kbindsD (ps := (["k"] : List Str)) F16 0 ["k"] (fun us _ ws => us ++ ws) (by simp) (fun r1 _ r3 => r1.append r3) fun _ _ _ _ _ _ _ us its ws h1 h2 h3 => match us, h1, its, h2, ws, h3 with | [], _, [_], _, [_], _ => ⟨_, rfl, rfl⟩
        exact ⟨_, _, _, _, _, ok_from_middle, PySem.W.mg_of X G a16, F16.kp, hb, fun zs _ => rfl⟩
      have c_draw := ok_l_draw (P := l.prog) (w := w) (K := K) (mg := mg) (base := base) T d_l_draw
      exact ok_law (C := C) T C0 sIC sT (kitOne_ty iC tC sT) c0 P0 (TBs (c0, P0) List.mem_cons_self) d_l_heard (PySem.W.mg_of X G gH) (PySem.W.mg_of X G gBadPlace) (PySem.W.mg_of X G gBadSize) X_BadPlace F_BadPlace no0BadPlace (PySem.W.exm_ref h1 h2 h3 heBadPlace) X_BadSize F_BadSize no0BadSize (PySem.W.exm_ref h1 h2 h3 heBadSize) (kitOne_ref iP tyBadPlace sSB neC) M_Place M_Place2 M_PlaceR m_call (fun g o => by
        have e := a12.symm.trans o.at_
        cases e
        exact fi) k_call m_eq (ok_l_bag (P := l.prog) (w := w) (K := K) (mg := mg) (base := base) T d_l_bag) c_draw (ok_l_at (P := l.prog) (w := w) (K := K) (mg := mg) (base := base) T d_l_at) (ok_l_number T c_draw d_l_number) (ok_l_odd T c_draw d_l_odd) (ok_l_sorts_right T C0 c_from_left k_from_left c_from_right k_from_right c_from_middle k_from_middle d_l_sorts_right) c_from_left z_from_left c_from_right z_from_right c_from_middle z_from_middle l0 cd0 (fun s us _ hl => .of_eq (match us, hl with | [_], _ => rfl))
end Kx
open PySem PySem.W PyProof.Rows
set_option maxRecDepth 100000 in
set_option maxHeartbeats 0 in
theorem PySem.Challenge.cw_heldfloods_k02_places_at_sizes_holds : PySem.Challenge.rw_heldfloods_k02_places_at_sizes.Holds := by
  w_on; o_law; k_head; (case hw => w_witness2)
  k_fill
  refine Hf.walkGT (l := PySem.Challenge.rw_heldfloods_k02_places_at_sizes) (k := 9) (by decide) rfl rfl (fun w h Y => PySem.W.km_in_of Y) ?F
  case F =>
    intro w mg fa h KX G hmg TT
    refine' Kx.all_mk KX G hmg TT ?z_len ?z_abs ?z_int ?z_list ?z_range ?z_isinstance ?z_bool ?z_min ?z_repr ?z_tuple ?z_super ?gC ?pg ?hd ?po ?sa ?n1 ?n2 ?n3 ?sf ?cC ?iC ?tC ?ne1 ?ne2 ?ha ?hn ?tk ?mo ?sI ?rA ?rS ?oA ?pA ?oS ?pS ?sIC ?hi ?mk ?kc ?pm ?gH ?top ?opq ?h1 ?h2 ?h3 ?gBadPlace ?lBadPlace ?rBadPlace ?saBadPlace ?exBadPlace ?tyBadPlace ?kBadPlace ?iBadPlace ?tIBadPlace ?lIBadPlace ?cIBadPlace ?lkBadPlace ?vkBadPlace ?fkBadPlace ?lccBadPlace ?clBadPlace ?mrBadPlace ?iniBadPlace ?isVBadPlace ?no0BadPlace ?gaBadPlace ?ggBadPlace ?hdBadPlace ?haBadPlace ?moBadPlace ?heBadPlace ?gBadSize ?lBadSize ?rBadSize ?saBadSize ?exBadSize ?tyBadSize ?kBadSize ?iBadSize ?tIBadSize ?lIBadSize ?cIBadSize ?lkBadSize ?vkBadSize ?fkBadSize ?lccBadSize ?clBadSize ?mrBadSize ?iniBadSize ?isVBadSize ?no0BadSize ?gaBadSize ?ggBadSize ?hdBadSize ?haBadSize ?moBadSize ?heBadSize ?sT ?iP ?sSB ?a1 ?l1 ?c1 ?k1 ?a2 ?l2 ?c2 ?k2 ?a3 ?l3 ?c3 ?k3 ?a4 ?l4 ?c4 ?k4 ?a5 ?l5 ?c5 ?k5 ?a6 ?l6 ?c6 ?k6 ?a7 ?l7 ?c7 ?k7 ?a8 ?l8 ?c8 ?k8 ?a9 ?l9 ?c9 ?k9 ?a10 ?l10 ?c10 ?k10 ?a11 ?i11 ?l11 ?t11 ?c11 ?k11 ?a12 ?i12 ?l12 ?c12 ?k12 ?a13 ?i13 ?l13 ?c13 ?k13 ?a14 ?l14 ?t14 ?c14 ?k14 ?a15 ?l15 ?t15 ?c15 ?k15 ?a16 ?l16 ?t16 ?c16 ?k16 ?fi ?a0 ?l0 ?cd0 ?lc0 ?v11 ?nP0 ?ch0 ?rec ?neC
    (case z_len => k_is)
    (case z_abs => k_is)
    (case z_int => k_is)
    (case z_list => k_is)
    (case z_range => k_is)
    (case z_isinstance => k_is)
    (case z_bool => k_is)
    (case z_min => k_is)
    (case z_repr => k_is)
    (case z_tuple => k_is)
    (case z_super => k_is)
    (case gC => k_is)
    (case pg => k_is)
    (case hd => k_is)
    (case po => k_is)
    (case sa => k_is)
    (case n1 => k_is)
    (case n2 => k_is)
    (case n3 => k_is)
    (case sf => k_is)
    (case cC => k_is)
    (case iC => k_is)
    (case tC => k_is)
    (case ne1 => k_is)
    (case ne2 => k_is)
    (case ha => k_is)
    (case hn => k_is)
    (case tk => k_is)
    (case mo => k_is)
    (case sI => k_is)
    (case rA => k_is)
    (case rS => k_is)
    (case oA => k_is)
    (case pA => k_is)
    (case oS => k_is)
    (case pS => k_is)
    (case sIC => k_is)
    (case hi => k_is)
    (case mk => k_is)
    (case kc => k_is)
    (case pm => rfl)
    (case gH => k_is)
    (case top => rfl)
    (case opq => k_is)
    (case h1 => k_is)
    (case h2 => k_is)
    (case h3 => k_is)
    (case gBadPlace => k_is)
    (case lBadPlace => k_is)
    (case rBadPlace => rfl)
    (case saBadPlace => k_is)
    (case exBadPlace => k_is)
    (case tyBadPlace => k_is)
    (case kBadPlace => k_is)
    (case iBadPlace => k_is)
    (case tIBadPlace => k_is)
    (case lIBadPlace => k_is)
    (case cIBadPlace => k_is)
    (case lkBadPlace => k_is)
    (case vkBadPlace => rfl)
    (case fkBadPlace => rfl)
    (case lccBadPlace => k_is)
    (case clBadPlace => k_is)
    (case mrBadPlace => k_is)
    (case iniBadPlace => first | rfl | kernel_rfl)
    (case isVBadPlace => k_is)
    (case no0BadPlace => k_is)
    (case gaBadPlace => k_is)
    (case ggBadPlace => k_is)
    (case hdBadPlace => k_is)
    (case haBadPlace => k_is)
    (case moBadPlace => k_is)
    (case heBadPlace => k_is)
    (case gBadSize => k_is)
    (case lBadSize => k_is)
    (case rBadSize => rfl)
    (case saBadSize => k_is)
    (case exBadSize => k_is)
    (case tyBadSize => k_is)
    (case kBadSize => k_is)
    (case iBadSize => k_is)
    (case tIBadSize => k_is)
    (case lIBadSize => k_is)
    (case cIBadSize => k_is)
    (case lkBadSize => k_is)
    (case vkBadSize => rfl)
    (case fkBadSize => rfl)
    (case lccBadSize => k_is)
    (case clBadSize => k_is)
    (case mrBadSize => k_is)
    (case iniBadSize => first | rfl | kernel_rfl)
    (case isVBadSize => k_is)
    (case no0BadSize => k_is)
    (case gaBadSize => k_is)
    (case ggBadSize => k_is)
    (case hdBadSize => k_is)
    (case haBadSize => k_is)
    (case moBadSize => k_is)
    (case heBadSize => k_is)
    (case sT => k_is)
    (case iP => k_is)
    (case sSB => k_is)
    (case a1 => k_is)
    (case l1 => k_is)
    (case c1 => k_is)
    (case k1 => k_is)
    (case a2 => k_is)
    (case l2 => k_is)
    (case c2 => k_is)
    (case k2 => k_is)
    (case a3 => k_is)
    (case l3 => k_is)
    (case c3 => k_is)
    (case k3 => k_is)
    (case a4 => k_is)
    (case l4 => k_is)
    (case c4 => k_is)
    (case k4 => k_is)
    (case a5 => k_is)
    (case l5 => k_is)
    (case c5 => k_is)
    (case k5 => k_is)
    (case a6 => k_is)
    (case l6 => k_is)
    (case c6 => k_is)
    (case k6 => k_is)
    (case a7 => k_is)
    (case l7 => k_is)
    (case c7 => k_is)
    (case k7 => k_is)
    (case a8 => k_is)
    (case l8 => k_is)
    (case c8 => k_is)
    (case k8 => k_is)
    (case a9 => k_is)
    (case l9 => k_is)
    (case c9 => k_is)
    (case k9 => k_is)
    (case a10 => k_is)
    (case l10 => k_is)
    (case c10 => k_is)
    (case k10 => k_is)
    (case a11 => k_is)
    (case i11 => k_is)
    (case l11 => k_is)
    (case t11 => k_is)
    (case c11 => k_is)
    (case k11 => k_is)
    (case a12 => k_is)
    (case i12 => k_is)
    (case l12 => k_is)
    (case c12 => k_is)
    (case k12 => k_is)
    (case a13 => k_is)
    (case i13 => k_is)
    (case l13 => k_is)
    (case c13 => k_is)
    (case k13 => k_is)
    (case a14 => k_is)
    (case l14 => k_is)
    (case t14 => k_is)
    (case c14 => k_is)
    (case k14 => k_is)
    (case a15 => k_is)
    (case l15 => k_is)
    (case t15 => k_is)
    (case c15 => k_is)
    (case k15 => k_is)
    (case a16 => k_is)
    (case l16 => k_is)
    (case t16 => k_is)
    (case c16 => k_is)
    (case k16 => k_is)
    (case fi => k_is)
    (case a0 => k_is)
    (case l0 => k_is)
    (case cd0 => k_is)
    (case lc0 => k_is)
    (case v11 => rfl)
    (case nP0 => rfl)
    (case ch0 => rfl)
    (case rec => rfl)
    (case neC => rfl)
