import PyProof.Rows.All
import Wide.All
import OpenK.AllK
import Wide.FinOn
import HandS.ForMost
import HandS.More
import HandS.Wide
import HandS.Defaults
import HandS.Star
import HandS.SlotsOwn
import HandS.Exc
import HandS.WordsExc
import KE.KOpsOwn
import PyProof.InstNe
import HandS.OwnEq
import PyProof.ListMulRight
import HandS.IsInst
import PyProof.ReprRoads
import PyProof.ReprLen
import PyProof.CallFns
import HandS.ExcInit
import HandS.ExcField
import HandS.ExcIs
import HandS.Nested
import HandS.Lambda
import KE.KExcSuper
import HandS.EndTab
import HandS.EndOwn
import OpenK.KMeth
import KE.KCallOwn
import HandS.FStr
import HandS.MakeKwOnly
import HandS.MakeKw
import HandS.Zip
import KE.GoesZip
import KE.GoesMore
import HandS.Text
import HandS.Walk
import HandS.ClsMeth
import HandS.TryMany
import HandS.Style
import KE.GoesEnum
import PyProof.StrLawsRepr
import HandS.SortInts
import HandS.Conv
import PyProof.Rows.TupDisplay
import PyProof.FitsInt
import PyProof.Rows.StrRev
import HandS.Deep
import PyProof.P3In
import PyProof.RowDictHeap
import PyProof.ListNew
import HandS.Property
import PyProof.LongRange
import HandS.TupLen
import PyProof.ListStr
import HandS.Codes
import PyProof.RulesMatch
import PyProof.Rows.StrDigitsNeg
import HandS.Small
import HandS.TupMul
import HandS.SetFor
import HandS.Strs
import HandS.SortKw
import KE.KSortKeySt
import HandS.DictComp
import HandS.GenList
import KE.KSuper
import KE.KParD
import PyProof.DictUpdate
import HandS.GenYield
import PySem.Challenge.RW_heldfloods_k10_classes_of_places
set_option Elab.async false
set_option linter.all false
set_option maxRecDepth 100000
set_option maxHeartbeats 4000000
namespace Hf
open PySem PySem.Spec PyProof.Rows L2
/-! ### readings, one step each -/
section
variable {σ : L2.St} {H : Hp} {Q : VK} {i : Nat} {v x y : V} {ta tb te tf : TE} {r : R2} {tt tu : TT} {t u : TA} {s1 s2 : TS} {D : Ends} {g : TG} {QA : List V → Hp → Prop} {QB : Bool → Hp → Prop}
theorem rd_var (h : σ[i]? = some (some v)) (q : Q v H) : tVar i σ H Q := ⟨v, h, q⟩
theorem rd_c (q : Q v H) : tC v σ H Q := q
theorem rd_op (q : ta σ H fun x H1 => tb σ H1 fun y H2 => r x y H2 Q) : tOp r ta tb σ H Q := q
theorem rd_un {r : V → Hp → VK → Prop} (q : ta σ H fun x H1 => r x H1 Q) : tUn r ta σ H Q := q
theorem rd_test (q : te σ H fun x H' => ∃ k, x = .bl k ∧ QB k H') : tTest te σ H QB := q
theorem rd_tB (q : te σ H fun x H' => ∃ k, x = .bl k ∧ QB k H') : tB te σ H QB := q
theorem rd_and (q : tt σ H fun c H1 => if c = true then tu σ H1 QB else QB false H1) : tAnd tt tu σ H QB := q
theorem rd_or (q : tt σ H fun c H1 => if c = true then QB true H1 else tu σ H1 QB) : tOr tt tu σ H QB := q
theorem rd_not (q : tt σ H fun c H1 => QB (!c) H1) : tNot tt σ H QB := q
theorem rd_andV (q : ta σ H fun x H1 => ∃ c, x = .bl c ∧ if c = true then tb σ H1 Q else Q (.bl false) H1) : tAndV ta tb σ H Q := q
theorem rd_orV (q : ta σ H fun x H1 => ∃ c, x = .bl c ∧ if c = true then Q (.bl true) H1 else tb σ H1 Q) : tOrV ta tb σ H Q := q
theorem rd_notV (q : ta σ H fun x H1 => ∃ c, x = .bl c ∧ Q (.bl (!c)) H1) : tNotV ta σ H Q := q
theorem rd_if (q : tt σ H fun c H1 => if c = true then ta σ H1 Q else tb σ H1 Q) : tIf tt ta tb σ H Q := q
theorem rd_nil (q : QA [] H) : tNil σ H QA := q
theorem rd_cons (q : ta σ H fun x H1 => t σ H1 fun xs H2 => QA (x :: xs) H2) : tCons ta t σ H QA := q
theorem rd_tup (q : t σ H fun xs H1 => xs.length ≤ sizeLine ∧ ∀ p, H1 p = none → Q (.ref p) (upd H1 p (.tup xs))) : tTup t σ H Q := q
theorem rd_seq (q : s1 { D with nx := s2 D } σ H) : tSeq s1 s2 D σ H := q
theorem rd_next (q : D.nx σ H) : tNext D σ H := q
theorem rd_drop (q : te σ H fun _ H1 => D.nx σ H1) : tDrop te D σ H := q
theorem rd_ret (q : te σ H D.rt) : tRet te D σ H := q
theorem rd_retN (q : D.rt .non H) : tRetN D σ H := q
theorem rd_ifS (q : tt σ H fun b H1 => if b = true then s1 D σ H1 else s2 D σ H1) : tIfS tt s1 s2 D σ H := q
theorem rd_asg (q : te σ H fun x H1 => g x σ H1 D.nx) : tAsg te g D σ H := q
theorem rd_gname {K : L2.St → Hp → Prop} (q : K (σ.set i (some v)) H) : gName i v σ H K := q
theorem rd_par {j : Nat} (q : t σ H fun vs H1 => ∃ v w, vs = [v, w] ∧ D.nx ((σ.set i (some v)).set j (some w)) H1) : tPar i j t D σ H := q
theorem rd_bl {b : Bool} {K : Bool → Hp → Prop} (q : K b H) : ∃ k, V.bl b = .bl k ∧ K k H := ⟨b, rfl, q⟩
theorem rd_blP {b : Bool} {K : Bool → Prop} (q : K b) : ∃ k, V.bl b = .bl k ∧ K k := ⟨b, rfl, q⟩
theorem rd_I0 {g : Int → Int → V} {i j : Int} (q : Q (g i j) H) : rI0 g (.int i) (.int j) H Q := ⟨i, j, rfl, rfl, q⟩
theorem rd_I {C : Int → Int → Prop} {g : Int → Int → V} {i j : Int} (c : C i j) (q : Q (g i j) H) : rI C g (.int i) (.int j) H Q := ⟨i, j, rfl, rfl, c, q⟩
theorem rd_U {g : Int → V} {i : Int} (q : Q (g i) H) : rU g (.int i) H Q := ⟨i, rfl, q⟩
theorem rd_eq (h : scal x y = true) (q : Q (.bl (decide (x = y))) H) : rEq x y H Q := ⟨h, q⟩
theorem rd_ne (h : scal x y = true) (q : Q (.bl (!decide (x = y))) H) : rNe x y H Q := ⟨h, q⟩
theorem rd_cb {r : List V → Hp → VK → Prop} (q : t σ H fun vs H1 => r vs H1 Q) : tCB r t σ H Q := q
theorem ite_split {b : Bool} {A B : Prop} (h1 : b = true → A) (h2 : b = false → B) : if b = true then A else B := by
  cases b
  · exact iteF (h2 rfl)
  · exact iteT (h1 rfl)
end
end Hf
namespace Hf
open PySem PySem.Spec PyProof.Rows L2
/-- a def of the class at C under the name m, at g -/
structure Opr (K : PySem.W.Frag) (C : Addr) (m : Str) (g : Addr) : Prop where
  at_ : PySem.W.findIn K (.ref C) m = some (some (.ref g))
  fn : PySem.W.isFn K (.ref g) = true
section
variable {X : Cx} {CX : CXT} {pins : List (Addr × Obj)} {σ : L2.St} {H : Hp} {s : Shared} {a b C dx dy g : Addr} {fs gs : List (Str × V)} {n : Nat} {sp : Sp} {E : XK}
theorem ins_at (I : Inv X pins σ H s) (h : H a = some (.ins C dx fs)) : ∃ ox od, PySem.W.InstAt s.heap a ox C od := by
  obtain ⟨mA, O, _⟩ := ins_get I.hok h
  obtain ⟨od, J, _⟩ := O.look
  exact ⟨_, _, J⟩
/-- what the written part says of int beside C -/
structure OprI (K : PySem.W.Frag) (C : Addr) (nm : String) : Prop where
  rc : ∃ rc, PySem.W.findIn K (.ref C) (dunderR nm) = some rc ∧ (rc = none ∨ ∃ g : Addr, rc = some (.ref g))
  fo : ∃ fo, PySem.W.findIn K (.type "int") (PySem.dunder nm) = some fo
  ro : ∃ ro, PySem.W.findIn K (.type "int") (dunderR nm) = some ro
  sub : PySem.W.subIn K (.type "int") (.ref C) = some false
theorem notFirst_self {K : PySem.W.Frag} {C : Addr} : PySem.W.notFirst K C (.ref C) = true := by
  unfold PySem.W.notFirst
  simp
end
end Hf
namespace PySem.W
open PySem
end PySem.W
namespace GQ
open PySem PySem.SeqAt
open AutoSeq1 (wpAny_loadPart')
open MeetsSeq MeetsSeq2 MeetsSeq3 SeqRoads2
section
variable {prog : Program} {w : World} {A : Around} {R : Result → Shared → Prop}
theorem ne_loopG (l b : Addr) (N : Nat) (I : Nat → Shared → Prop) (hl : ListI prog w A (fun e s' => R (.error e) s') l b N I)
    (fin : ∀ s, I N s → R (.ok (.ret (.bool false))) s) (k : Nat) :
    ∀ i : Nat, N - i = k → i ≤ N → ∀ s, I i s →
      wpAny (model prog w) A.in1 (Builtin.«list.__eq__.loop» ⟨[.ref l, .ref b, rawInt i, rawInt 3], []⟩) (FinOf prog w A R) (fun e s' => R (.error e) s') s := by
  induction k with
  | zero =>
    intro i hk hi s h
    obtain ⟨items, items2, n, n2, hl1, hb1, hs1, hs2, _⟩ := hl _ _ h
    have hi' : i = N := by omega
    have hR : R (.ok (.ret (.bool false))) s := fin s (hi' ▸ h)
    obtain ⟨hp, g, d, tk, os⟩ := s
    wp_walk using wpAny_loadPart' hl1, wpAny_loadPart' hb1
    have hi1 : items[((i : Nat) : Int).toNat]? = none := by simp; omega
    have hi2 : items2[((i : Nat) : Int).toNat]? = none := by simp; omega
    rw [hi1, hi2]
    wp_walk using wpAny_loadPart' hl1, wpAny_loadPart' hb1
    show R (.ok (.ret (.bool (items.size != items2.size)))) _
    rw [hs1, hs2]
    simpa using hR
  | succ k ih =>
    intro i hk hi s h
    obtain ⟨items, items2, n, n2, hl1, hb1, hs1, hs2, turn⟩ := hl _ _ h
    have hlt : i < items.size := by omega
    have hlt2 : i < items2.size := by omega
    have ht := turn hlt hlt2
    obtain ⟨hp, g, d, tk, os⟩ := s
    wp_walk using wpAny_loadPart' hl1, wpAny_loadPart' hb1
    have hi1 : items[((i : Nat) : Int).toNat]? = some items[i] := by simp [hlt]
    have hi2 : items2[((i : Nat) : Int).toNat]? = some items2[i] := by simp [hlt2]
    have hc : ((i : Int) + 1) = ((i + 1 : Nat) : Int) := by omega
    rw [hi1, hi2]
    refine wpAny_bind (wpAny_mono ht (fun r s2 h2 => ?_) fun _ _ x => x)
    obtain ⟨hr, h2⟩ := h2
    subst hr
    have hrec := ih (i + 1) (by omega) (by omega) s2 h2
    obtain ⟨hp2, g2, d2, tk2, os2⟩ := s2
    wp_walk
    rw [hc]
    exact ⟨plainId_quiet plain_eq_loop _, codeAny_builtin entry_eq_loop (by
      rw [Around.under_plainId plain_eq_loop _]
      exact hrec)⟩
theorem list_neG (l b : Addr) (N : Nat) (I : Nat → Shared → Prop) (hl : ListI prog w A (fun e s' => R (.error e) s') l b N I)
    (fin : ∀ s, I N s → R (.ok (.ret (.bool false))) s) {s : Shared} (h : I 0 s) :
    wpAny (model prog w) A.in1 (Builtin.«list.__ne__» ⟨[.ref l, .ref b], []⟩) (FinOf prog w A R) (fun e s' => R (.error e) s') s := by
  obtain ⟨items, items2, n, n2, hl1, hb1, hs1, hs2, _⟩ := hl _ _ h
  have hrec := ne_loopG (A := A) (R := R) l b N I hl fin _ 0 rfl (Nat.zero_le _) s h
  obtain ⟨hp, g, d, tk, os⟩ := s
  have f3 := AutoSeq1.sub_list_list
  have hne : ¬ (items.size != items2.size) = true := by simp [hs1, hs2]
  wp_walk using wpAny_loadPart' hl1, wpAny_loadPart' hb1
  exact ⟨plainId_quiet plain_eq_loop _, codeAny_builtin entry_eq_loop (by
    rw [Around.under_plainId plain_eq_loop _]
    exact hrec)⟩
end
section
variable {prog : Program} {w : World} {A : Around} {E : Value → Shared → Prop} {s : Shared}
theorem rc_listNeG {l b : Addr} {N : Nat} {Q : Value → Shared → Prop} (hu : A.units < cLine) (I : Nat → Shared → Prop) (hl : ListI prog w A E l b N I)
    (fin : ∀ s, I N s → Q (.bool false) s) (h : I 0 s) : wpAny (model prog w) A (richCompare .NotEq (.ref l) (.ref b)) Q E s := by
  obtain ⟨items, items2, n, n2, hl1, hb1, _, _, _⟩ := hl _ _ h
  refine wpAny_richCompare_same_room (op := .NotEq) ⟨_, hl1, rfl⟩ ⟨_, hb1, rfl⟩ F.slot_list_ne (call_here F.slot_list_ne ⟨_, hl1, rfl⟩ F.entry_list_ne (F.args_list_ne_2 _ _) ?_) hu
  exact list_neG (R := wants (fun v s' => v ≠ .notImplemented ∧ Q v s') E) l b N I hl (fun s' q => ⟨(fun x => nomatch x), fin s' q⟩) h
end
end GQ
namespace Hf
open PySem PySem.Spec PyProof.Rows L2
section
variable {X : Cx} {CX : CXT} {n : Nat} {C g : Addr} {sp : Sp} {E : XK} {D : Eqv}
/-- what the class says of != -/
structure NeC (K : PySem.W.Frag) (C : Addr) : Prop where
  ne : PySem.W.findIn K (.ref C) "__ne__" = some (some (.builtin "object.__ne__"))
  ob : PySem.W.subIn K (.ref C) (.type "object") = some true
/-- == inside a list by an own ==, positional -/
theorem eqG_insR {R : Addr → Addr → Hp → Prop} (o : Opr X.K C "__eq__" g) (F : FnR X.prog X.w X.K X.mg X.base CX n g (spEq R)) (hx : Passes CX X E) : RcG X n (DIns C R) := by
  intro A pins s σ H x y u v sb I rx ry d
  obtain ⟨a, b, dx, dy, fs, gs, rfl, rfl, ha, hb', hr⟩ := d
  cases rx
  cases ry
  obtain ⟨ox, od, J⟩ := ins_at I ha
  obtain ⟨oy, oe, J'⟩ := ins_at I hb'
  obtain ⟨m, hF⟩ := I.fr
  refine PySem.W.cmp_K (op := .Eq) (tb := .ref C) sb.room.units0 hF I.ok.mod.kin J J'.type notFirst_self o.at_ o.fn ?_
  have hsp : spEq R [.ref a, .ref b] H (fun v H' => v = .bl true ∧ Ext H H') E := ⟨a, b, rfl, hr, fun H' e => ⟨rfl, e⟩⟩
  have e0 : Env0 X.prog X.w X.K X.mg X.base A X.stack s H := by
    have e := I.env0
    exact ⟨by rw [sb.fr]; exact e.frames, e.mod, e.bs, e.bsz, e.funs, e.frf, e.hok, e.bare⟩
  have r2 : Vals [V.ref a, V.ref b] [Value.ref a, Value.ref b] := .cons rfl (.cons rfl .nil)
  refine wpAny_mono (wpAny_call (SlX.run_at F sb.room e0 hx I r2 hsp)) (fun w s' z => ?_) fun _ _ x => x
  obtain ⟨z', H', I', rz, ez, ex⟩ := z
  subst ez
  cases rz
  exact ⟨rfl, H', I', ex⟩
/-- xs != ys of two lists whose items are equal one by one -/
def rNeG (D : Eqv) : R2 := fun x y H Q => DList D x y H ∧ ∀ H', Ext H H' → Q (.bl false) H'
theorem op_neG (hD : Mon D) (h : EqG X n D) (hr : Room (n + 1) X.A) : OpR X (compareOp .NotEq) (rNeG D) := by
  intro pins s σ H x y v u Q I rx ry hq
  obtain ⟨⟨a, b, xs, ys, rfl, rfl, ha, hb, p⟩, q⟩ := hq
  cases rx
  cases ry
  show wpAny (model X.prog X.w) X.A (richCompare .NotEq _ _) _ _ _
  have sb : Sub X (n + 1) X.A := ⟨hr, rfl⟩
  refine GQ.rc_listNeG (N := xs.length) sb.room.units0 (fun _ s' => LoopI X pins σ H s') (fun i s' z => ?_) (fun s' z => ?_) ⟨H, I, Ext.rfl'⟩
  · obtain ⟨H1, I1, e1⟩ := id z
    obtain ⟨z1, its, k, r, e⟩ := I1.hok a _ (e1 _ _ ha)
    obtain ⟨z2, its2, k2, r2, e2⟩ := I1.hok b _ (e1 _ _ hb)
    refine ⟨its.toArray, its2.toArray, k, k2, e, e2, by rw [List.size_toArray, ← r.length], by rw [List.size_toArray, ← r2.length, ← p.1], fun h1 h2 => ?_⟩
    exact turnG hD h sb p r r2 i h1 h2 s' z
  · obtain ⟨H1, I1, e1⟩ := z
    exact ⟨.bl false, H1, I1, rfl, q H1 e1⟩
end
/-! ### defs, methods, classes by name, positional -/
section
variable {P : Program} {w : World} {K : PySem.W.Frag} {mg : Str → Option Value} {base : Heap}
/-- x, a def of the module, keeps sp -/
def Cal (P : Program) (w : World) (K : PySem.W.Frag) (mg : Str → Option Value) (base : Heap) (k : Nat) (x : Str) (sp : Sp) : Prop :=
  ∃ f, FnR P w K mg base (L2.CX P w) k f sp ∧ mg x = some (.ref f) ∧ PySem.W.keepIn K (.ref f) = true
/-- m, a def of the class at C, keeps sp (self ahead) -/
def Met (P : Program) (w : World) (K : PySem.W.Frag) (mg : Str → Option Value) (base : Heap) (k : Nat) (C : Addr) (m : Str) (sp : Sp) : Prop :=
  ∃ f, FnR P w K mg base (L2.CX P w) k f sp ∧ Meth K C m f
/-- x, a class of the module at C, is made by sp (self ahead) -/
def Mak (P : Program) (w : World) (K : PySem.W.Frag) (mg : Str → Option Value) (base : Heap) (k : Nat) (x : Str) (C : Addr) (sp : Sp) : Prop :=
  ∃ f, FnR P w K mg base (L2.CX P w) k f sp ∧ mg x = some (.ref C) ∧ Mk K C f
theorem Met.opr {k : Nat} {C : Addr} {m : Str} {sp : Sp} (h : Met P w K mg base k C m sp) : ∃ g, Opr K C m g ∧ FnR P w K mg base (L2.CX P w) k g sp := by
  obtain ⟨f, F, M⟩ := h
  exact ⟨f, ⟨M.at_, M.fn⟩, F⟩
/-- a def whose body lets nothing out -/
theorem fnR0 {x qual : Str} {st : Stmt} {f : Addr} {fd : FuncData} {N ps : List Str} {k : Nat} {sp : Sp} (F : Fun K x qual st f fd) (b : Binds K fd ps []) (S : FnScope N ps (defScope st)) (len : ∀ vs H Q E, sp vs H Q E → vs.length = ps.length)
    (hbody : ∀ (cdv : Value) (A : Around) (outer : List Env) (s : Shared) (H : Hp) (vs : List V) (Q : VK) (E : XK), Room k (A.deeper (envOfC qual (defScope st) s.heap.objs.size f cdv)) → sp vs H Q E →
      ∃ t, PSs (cxOf (L2.CX P w) P w K mg base N qual (defScope st) f cdv A outer s H E).nox (defBody st) t ∧ t { nx := fun _ H' => Q .non H', rt := Q } (start N vs) H) : FnR P w K mg base (L2.CX P w) (k + 1) f sp := by
  have G := F.okX (P := P) (w := w) (mg := mg) (base := base) S len fun cdv A outer s H vs Q E hr h => let ⟨t, a, b⟩ := hbody cdv A outer s H vs Q E hr h; ⟨t, a.nox, b⟩
  exact (G.raw b .nil).imp fun vs H Q E h => by rw [List.append_nil]; exact h
end
section
variable {X : Cx} {E : XK} {k j : Nat} {C : Addr} {x m : Str} {sp : Sp} {p pos apos : Pos} {e o : Expr} {es : List Expr} {ta : TE} {t : TA}
/-- f(e, ..) -/
def tCl (sp : Sp) (E : XK) (t : TA) : TE := fun σ H Q => t σ H fun vs H1 => sp vs H1 Q E
theorem pe_cl (c : Cal X.prog X.w X.K X.mg X.base k x sp) (hr : Room j X.A) (hx : Passes (L2.CX X.prog X.w) X E) (ha : PA X (e :: es) t) (hk : k ≤ j := by decide) (hg : Gl X x := by rfl)
    (hdb : (x == ("__debug__" : Str)) = false := by decide) (he : starEach (e :: es) X.env = (false, eval e X.env) :: starEach es X.env := by rfl) (hpl : (backTo pos (starEach es X.env)).any (·.1) = false := by rfl) :
    PE X (.Call (.Name x p) (e :: es) [] pos) (tCl sp E t) := by
  obtain ⟨f, F, hm, kp⟩ := c
  refine ⟨fun pins s σ H Q I h => ?_⟩
  refine wpAny_Call_Name_kw (ld_glob I hg hm ?_ hdb)
  refine PySem.W.callWith_K (h₀ := X.base) I.ok.mod.kin kp (thn (ha.run pos pins s σ H _ I h) fun us s1 ⟨vs, H1, I1, r1, q1⟩ => ?_) he hpl
  exact ⟨I1.kIn, wpAny_call (run_fnR F (hr.mono hk) hx I1 r1 q1)⟩
/-- C(e, ..) -/
theorem pe_ma (M : Mak X.prog X.w X.K X.mg X.base k x C sp) (hr : Room j X.A) (hx : Passes (L2.CX X.prog X.w) X E) (ha : PA X (e :: es) t) (hk : k + 1 ≤ j := by decide) (hg : Gl X x := by rfl) (hdb : (x == ("__debug__" : Str)) = false := by decide)
    (he : starEach (e :: es) X.env = (false, eval e X.env) :: starEach es X.env := by rfl) (hpl : (backTo pos (starEach es X.env)).any (·.1) = false := by rfl) : PE X (.Call (.Name x p) (e :: es) [] pos) (StX.tMakeR C sp E t) := by
  obtain ⟨f, F, hm, mk⟩ := M
  exact StX.pe_makeR mk F (hr.mono hk) hg hm hx ha hdb he hpl
/-- x(e, ..), x an expression that gives an instance of C with __call__ -/
def tCallI (C : Addr) (sp : Sp) (E : XK) (tf : TE) (t : TA) : TE := fun σ H Q => tf σ H fun y H1 => ∃ a, y = V.ref a ∧ t σ H1 fun vs H2 => (∃ dx fs, H2 a = some (.ins C dx fs)) ∧ sp (V.ref a :: vs) H2 Q E
end
end Hf
namespace PySem
open Sem (wp)
open Builtin
end PySem
namespace PySem.W
open PySem
end PySem.W
namespace PySem.W
open PySem
section
variable {prog : Program} {w : World} {A : Around} {E : Value → Shared → Prop} {s : Shared} {K : Frag} {x C L f : Addr} {h₀ : Heap} {m : Str → Option Value} {ox : Obj} {od : Option Obj} {nm T : String} {b : Value} {id : String}
/-- the class has the mro C, object -/
def plainMro (K : Frag) (C : Addr) : Bool := (clsIn K C).any fun cd => cd.mro == [.ref C, .type "object"]
end
end PySem.W
namespace Hf
open PySem PySem.Spec PyProof.Rows L2
end Hf
namespace Hf
open PySem PySem.Spec PyProof.Rows L2
/-! ### the bag of a law: a dict of four keys -/
abbrev kk (x : Str) : Key := Sum.inr x
def bagD (c : Addr) (a r s : Int) : List (Key × V) := [(kk "cells", .ref c), (kk "at", .int a), (kk "rest", .int r), (kk "state", .int s)]
theorem k_ca : ¬ (kk "cells") = kk "at" := by decide +kernel
theorem k_cr : ¬ (kk "cells") = kk "rest" := by decide +kernel
theorem k_cs : ¬ (kk "cells") = kk "state" := by decide +kernel
theorem k_ar : ¬ (kk "at") = kk "rest" := by decide +kernel
theorem k_as : ¬ (kk "at") = kk "state" := by decide +kernel
theorem k_rs : ¬ (kk "rest") = kk "state" := by decide +kernel
theorem k_ra : ¬ (kk "rest") = kk "at" := by decide +kernel
theorem k_sa : ¬ (kk "state") = kk "at" := by decide +kernel
theorem k_sr : ¬ (kk "state") = kk "rest" := by decide +kernel
section
variable {c : Addr} {a r s z : Int}
theorem bag_cells : valV (bagD c a r s) (kk "cells") = some (.ref c) := valV_pos rfl
theorem bag_at : valV (bagD c a r s) (kk "at") = some (.int a) := (valV_neg k_ca).trans (valV_pos rfl)
theorem bag_rest : valV (bagD c a r s) (kk "rest") = some (.int r) := (valV_neg k_cr).trans ((valV_neg k_ar).trans (valV_pos rfl))
theorem bag_state : valV (bagD c a r s) (kk "state") = some (.int s) := (valV_neg k_cs).trans ((valV_neg k_as).trans ((valV_neg k_rs).trans (valV_pos rfl)))
theorem put_in {kvs : List (Key × V)} {k : Key} {v w : V} (h : valV kvs k = some w) : putK kvs k v = kvs.map (fun kv => if kv.1 = k then (kv.1, v) else kv) := by
  unfold putK
  rw [valV_any, h]
  exact if_pos rfl
theorem put_at : putK (bagD c a r s) (kk "at") (.int z) = bagD c z r s := by
  rw [put_in bag_at]
  dsimp only [bagD, List.map]
  rw [if_neg k_ca, if_pos rfl, if_neg k_ra, if_neg k_sa]
theorem put_rest : putK (bagD c a r s) (kk "rest") (.int z) = bagD c a z s := by
  rw [put_in bag_rest]
  dsimp only [bagD, List.map]
  rw [if_neg k_cr, if_neg k_ar, if_pos rfl, if_neg k_sr]
theorem put_state : putK (bagD c a r s) (kk "state") (.int z) = bagD c a r z := by
  rw [put_in bag_state]
  dsimp only [bagD, List.map]
  rw [if_neg k_cs, if_neg k_as, if_neg k_rs, if_pos rfl]
end
theorem putK_new' {kvs : List (Key × V)} {k : Key} {v : V} (h : valV kvs k = none) : putK kvs k v = kvs ++ [(k, v)] := putK_new _ h
theorem bag_merge {c : Addr} {a r s : Int} : mergeK [] (bagD c a r s) = bagD c a r s := by
  show putK (putK (putK (putK [] (kk "cells") (.ref c)) (kk "at") (.int a)) (kk "rest") (.int r)) (kk "state") (.int s) = _
  rw [putK_new' (kvs := []) valV_nil]
  rw [List.nil_append, putK_new' (show valV [(kk "cells", V.ref c)] (kk "at") = none from (valV_neg k_ca).trans valV_nil)]
  rw [List.singleton_append, putK_new' (show valV [(kk "cells", V.ref c), (kk "at", .int a)] (kk "rest") = none from (valV_neg k_cr).trans ((valV_neg k_ar).trans valV_nil))]
  rw [List.cons_append, List.singleton_append, putK_new' (show valV [(kk "cells", V.ref c), (kk "at", .int a), (kk "rest", .int r)] (kk "state") = none from (valV_neg k_cs).trans ((valV_neg k_as).trans ((valV_neg k_rs).trans valV_nil)))]
  rfl
/-- a bag stands at b -/
def BagC (H : Hp) (b c : Addr) : Prop := ∃ (cs : List Int) (a r s : Int), H b = some (.dK (bagD c a r s)) ∧ H c = some (.lst (cs.map V.int)) ∧ cs.length ≤ 63 ∧ 0 ≤ a ∧ 0 ≤ r ∧ 0 ≤ s ∧ s < 2147483647
def Bag (H : Hp) (b : Addr) : Prop := ∃ c : Addr, BagC H b c
/-- all but the bag at b stays -/
def Keep (b : Addr) (H H' : Hp) : Prop := ∀ a o, H a = some o → a ≠ b → H' a = some o
theorem Keep.refl {b : Addr} {H : Hp} : Keep b H H := fun _ _ h _ => h
theorem Keep.trans {b : Addr} {H H1 H2 : Hp} (x : Keep b H H1) (y : Keep b H1 H2) : Keep b H H2 := fun a o h n => y a o (x a o h n) n
theorem Keep.of {b : Addr} {H H1 : Hp} (x : Same H H1) : Keep b H H1 := fun a o h _ => x a o h
theorem Keep.put {b : Addr} {H H1 : Hp} {o : HO} (x : Keep b H H1) : Keep b H (upd H1 b o) := fun a u h n => by rw [upd_ne n]; exact x a u h n
theorem Same.new {H : Hp} {p : Addr} {o : HO} (h : H p = none) : Same H (upd H p o) := fun a u e => by rw [upd_ne (ne_of_none e h)]; exact e
theorem Bag.same {b : Addr} {H H' : Hp} (h : Bag H b) (e : Same H H') : Bag H' b := by
  obtain ⟨c, cs, a, r, s, h1, h2, q⟩ := h
  exact ⟨c, cs, a, r, s, e _ _ h1, e _ _ h2, q⟩
theorem BagC.bag {b c : Addr} {H : Hp} (h : BagC H b c) : Bag H b := ⟨c, h⟩
theorem BagC.same {b c : Addr} {H H' : Hp} (h : BagC H b c) (e : Same H H') : BagC H' b c := by
  obtain ⟨cs, a, r, s, h1, h2, q⟩ := h
  exact ⟨cs, a, r, s, e _ _ h1, e _ _ h2, q⟩
/-- a thing that is neither the bag nor its cells is changed -/
theorem BagC.keep {b c p : Addr} {H H' : Hp} (h : BagC H b c) (e : Keep p H H') (n1 : p ≠ b) (n2 : p ≠ c) : BagC H' b c := by
  obtain ⟨cs, a, r, s, h1, h2, q⟩ := h
  exact ⟨cs, a, r, s, e _ _ h1 n1.symm, e _ _ h2 n2.symm, q⟩
theorem Bag.some {b : Addr} {H : Hp} (h : Bag H b) : ∃ o, H b = some o := by
  obtain ⟨c, cs, a, r, s, h1, _⟩ := h
  exact ⟨_, h1⟩
/-- a draw: an int below the limit, the bag is another one, all else stays -/
def spDraw : Sp := fun vs H Q _ => ∃ (b c : Addr) (n : Int), vs = [.ref b, .int n] ∧ BagC H b c ∧ 0 < n ∧ n ≤ 10 ^ 40 ∧ ∀ (i : Int) (H' : Hp), 0 ≤ i → i < n → BagC H' b c → Keep b H H' → Q (.int i) H'
/-- the bag is made of a list of at most 63 ints -/
def spBag (K : PySem.W.Frag) : Sp := fun vs H Q _ => ∃ (a : Addr) (ns : List Int), vs = [.ref a] ∧ SqL K H a (ns.map V.int) ∧ ns.length ≤ 63 ∧ ∀ (b : Addr) (H' : Hp), H b = none → Bag H' b → Same H H' → Q (.ref b) H'
end Hf
namespace Hf
open PySem PySem.Spec PyProof.Rows L2
/-! ### the reading of the two defs of a bag, of any constants -/
def rLen (K : PySem.W.Frag) : List V → Hp → VK → Prop := fun xs H Q => ∃ p ys, xs = [.ref p] ∧ (SqL K H p ys ∨ SqT K H p ys) ∧ Q (.int ys.length) H
def rAbs : List V → Hp → VK → Prop := fun xs H Q => ∃ i, xs = [.int i] ∧ Q (.int (if i < 0 then -i else i)) H
def rInt : List V → Hp → VK → Prop := fun xs H Q => (∃ i, xs = [.int i] ∧ Q (.int i) H) ∨ ∃ k, xs = [.bl k] ∧ Q (.int (if k then 1 else 0)) H
def rLst (K : PySem.W.Frag) : List V → Hp → VK → Prop := fun xs H Q => ∃ p ys, xs = [.ref p] ∧ (SqL K H p ys ∨ SqT K H p ys) ∧ ∀ l, H l = none → Q (.ref l) (upd H l (.lst ys))
abbrev rAd : R2 := rI0 fun i j => .int (i + j)
abbrev rLt : R2 := rI0 fun i j => .bl (decide (i < j))
abbrev rGe : R2 := rI0 fun i j => .bl (decide (j ≤ i))
abbrev rMo : R2 := rI (fun _ j => 0 < j) fun i j => .int (i % j)
abbrev rMu : R2 := rI CMulW fun i j => .int (i * j)
abbrev rDi : R2 := rI CDivW fun i j => .int (i / j)
abbrev rPo : R2 := rI CPow fun i j => .int (i ^ j.toNat)
abbrev bq (x : Str) : TE := tDGet (tVar 0) (tC (.str x))
def t_draw (K : PySem.W.Frag) (m1 m2 : Int) : TS :=
  tSeq (tWhile (tAnd (tTest (tOp rLt (bq "rest") (tC (.int 2)))) (tTest (tOp rLt (bq "at") (tCB (rLen K) (tCons (bq "cells") tNil)))))
    (tSeq (tAsg (tCB rAbs (tCons (tOp (rIxL K) (bq "cells") (bq "at")) tNil)) (gName 2))
    (tSeq (sDPut (tVar 0) (tC (.str "at")) (tOp rAd (bq "at") (tC (.int 1))))
    (tSeq (tIfS (tTest (tOp rLt (tVar 2) (tOp rPo (tC (.int 10)) (tC (.int 18)))))
      (tSeq (tAsg (tOp rMo (tCB rInt (tCons (tOp rAd (tOp rPo (tOp rAd (tVar 2) (tC (.int 3))) (tC (.int 3))) (tOp rMu (bq "state") (tOp rAd (bq "at") (tC (.int 1))))) tNil)) (tC (.int 2147483629))) (gName 3))
        (tRet (tOp rMo (tVar 3) (tVar 1)))) tNext)
    (sDPut (tVar 0) (tC (.str "rest")) (tVar 2))))))
  (tSeq (tIfS (tTest (tOp rGe (bq "rest") (tC (.int 2))))
      (tSeq (tAsg (tOp rMo (tCB rInt (tCons (bq "rest") tNil)) (tVar 1)) (gName 4))
      (tSeq (sDPut (tVar 0) (tC (.str "rest")) (tOp rDi (bq "rest") (tVar 1))) (tRet (tVar 4)))) tNext)
  (tSeq (sDPut (tVar 0) (tC (.str "state")) (tOp rMo (tCB rInt (tCons (tOp rAd (tOp rMu (bq "state") (tC (.int m1))) (tC (.int m2))) tNil)) (tC (.int 2147483647))))
    (tRet (tOp rMo (tOp rMo (tCB rInt (tCons (tOp rPo (bq "state") (tC (.int 5))) tNil)) (tC (.int 2147483629))) (tVar 1)))))
section
variable {K : PySem.W.Frag} {H : Hp} {b c : Addr} {a r s : Int}
theorem bg_rest (e : H b = some (.dK (bagD c a r s))) : DGet H b (.str "rest") (some (.int r)) := by
  have := DGet.k (k := kk "rest") e
  rw [bag_rest] at this
  exact this
theorem bg_at (e : H b = some (.dK (bagD c a r s))) : DGet H b (.str "at") (some (.int a)) := by
  have := DGet.k (k := kk "at") e
  rw [bag_at] at this
  exact this
theorem bg_state (e : H b = some (.dK (bagD c a r s))) : DGet H b (.str "state") (some (.int s)) := by
  have := DGet.k (k := kk "state") e
  rw [bag_state] at this
  exact this
theorem bg_cells (e : H b = some (.dK (bagD c a r s))) : DGet H b (.str "cells") (some (.ref c)) := by
  have := DGet.k (k := kk "cells") e
  rw [bag_cells] at this
  exact this
theorem bag_len : (bagD c a r s).length < sizeLine := small1000 (by show 4 ≤ 1000; decide)
theorem bp_at {z : Int} (e : H b = some (.dK (bagD c a r s))) : DPut H b (.str "at") (.int z) (upd H b (.dK (bagD c z r s))) := by
  have := DPut.k (k := kk "at") (v := .int z) e bag_len
  rw [put_at] at this
  exact this
theorem bp_rest {z : Int} (e : H b = some (.dK (bagD c a r s))) : DPut H b (.str "rest") (.int z) (upd H b (.dK (bagD c a z s))) := by
  have := DPut.k (k := kk "rest") (v := .int z) e bag_len
  rw [put_rest] at this
  exact this
theorem bp_state {z : Int} (e : H b = some (.dK (bagD c a r s))) : DPut H b (.str "state") (.int z) (upd H b (.dK (bagD c a r z))) := by
  have := DPut.k (k := kk "state") (v := .int z) e bag_len
  rw [put_state] at this
  exact this
end
theorem p1018 : ((10 : Int) ^ (18 : Int).toNat) = 1000000000000000000 := by decide
theorem nat_lt_64 {i : Int} (h0 : 0 ≤ i) (h : i < 18446744073709551616) : i.natAbs < 2 ^ 64 := by
  rw [show (2 : Nat) ^ 64 = 18446744073709551616 from rfl]
  omega
theorem lim_div {n : Int} (h0 : 0 < n) (h1 : n ≤ 10 ^ 40) (i : Int) : CDivW i n := by
  refine wide_div (b := 200) h0 ?_ (by decide) (by decide)
  have h2 : (10 : Int) ^ 40 = 10000000000000000000000000000000000000000 := by decide
  have h3 : (2 : Nat) ^ 200 = 1606938044258990275541962092341162602522202993782792835301376 := by decide
  rw [h2] at h1
  rw [h3]
  omega
theorem small_mul {i j : Int} (hi : i.natAbs < 2 ^ 64) (hj : j.natAbs < 2 ^ 64) : CMulW i j := wide_mul hi hj (by decide) (by decide) (by decide)
theorem pure_draw (K : PySem.W.Frag) {m1 m2 : Int} (hm : 0 ≤ m1) (hm1 : m1 < 1000000) (hm2 : 0 ≤ m2) (vs : List V) (H : Hp) (Q : VK) (E : XK) (h : spDraw vs H Q E) {N : List Str} (hN : N.length = 5) : t_draw K m1 m2 { nx := fun _ H' => Q .non H', rt := Q } (L2.start N vs) H := by
  obtain ⟨b, c, n, rfl, B, h0, h1, k⟩ := h
  have hst : L2.start N [.ref b, .int n] = [some (.ref b), some (.int n), none, none, none] := by
    unfold L2.start
    rw [hN]
    rfl
  rw [hst]
  clear hst hN
  refine ⟨fun m σ H' => ∃ (cs : List Int) (a r s : Int) (v : Option V), m = 64 - a.toNat ∧ σ = [some (.ref b), some (.int n), v, none, none] ∧ H' b = some (.dK (bagD c a r s)) ∧ H' c = some (.lst (cs.map V.int)) ∧ cs.length ≤ 63 ∧ 0 ≤ a ∧ 0 ≤ r ∧ 0 ≤ s ∧ s < 2147483647 ∧ Keep b H H', ?_, ?_⟩
  · obtain ⟨cs, a, r, s, e1, e2, l, a0, r0, s0, s1⟩ := B
    exact ⟨_, cs, a, r, s, none, rfl, rfl, e1, e2, l, a0, r0, s0, s1, Keep.refl⟩
  · rintro m σ H' ⟨cs, a, r, s, v, rfl, rfl, e1, e2, l, a0, r0, s0, s1, kp⟩
    have hcb : c ≠ b := ne_of e2 e1 (by intro z; cases z)
    have hSq : SqL K H' c (cs.map V.int) := SqL.of e2
    -- behind the loop
    have fin : tSeq (tIfS (tTest (tOp rGe (bq "rest") (tC (.int 2))))
        (tSeq (tAsg (tOp rMo (tCB rInt (tCons (bq "rest") tNil)) (tVar 1)) (gName 4))
        (tSeq (sDPut (tVar 0) (tC (.str "rest")) (tOp rDi (bq "rest") (tVar 1))) (tRet (tVar 4)))) tNext)
        (tSeq (sDPut (tVar 0) (tC (.str "state")) (tOp rMo (tCB rInt (tCons (tOp rAd (tOp rMu (bq "state") (tC (.int m1))) (tC (.int m2))) tNil)) (tC (.int 2147483647))))
        (tRet (tOp rMo (tOp rMo (tCB rInt (tCons (tOp rPo (bq "state") (tC (.int 5))) tNil)) (tC (.int 2147483629))) (tVar 1)))) { nx := fun _ H' => Q .non H', rt := Q } [some (.ref b), some (.int n), v, none, none] H' := by
      refine ⟨_, rfl, b, _, rfl, bg_rest e1, _, _, rfl, rfl, _, rfl, ?_⟩
      refine ite_split (fun _ => ?_) (fun _ => ?_)
      · refine ⟨_, rfl, b, _, rfl, bg_rest e1, .inl ⟨_, rfl, _, rfl, _, _, rfl, rfl, h0, ?_⟩⟩
        refine ⟨_, rfl, b, _, rfl, bg_rest e1, _, rfl, _, _, rfl, rfl, lim_div h0 h1 _, _, rfl, b, _, rfl, bp_rest e1, ?_⟩
        refine ⟨_, rfl, ?_⟩
        refine k _ _ (Int.emod_nonneg _ (by omega)) (Int.emod_lt_of_pos _ h0) ⟨cs, a, _, s, upd_same, by rw [upd_ne hcb]; exact e2, l, a0, Int.ediv_nonneg r0 (by omega), s0, s1⟩ kp.put
      · refine ⟨_, rfl, b, _, rfl, bg_state e1, _, _, rfl, rfl, small_mul (nat_lt_64 s0 (by omega)) (nat_lt_64 hm (by omega)), _, _, rfl, rfl, .inl ⟨_, rfl, _, _, rfl, rfl, (by show (0 : Int) < 2147483647; decide), ?_⟩⟩
        refine ⟨_, rfl, b, _, rfl, bp_state e1, ?_⟩
        have p0 : 0 ≤ (s * m1 + m2) % 2147483647 := Int.emod_nonneg _ (by decide)
        have p1 : (s * m1 + m2) % 2147483647 < 2147483647 := Int.emod_lt_of_pos _ (by decide)
        refine ⟨_, rfl, b, _, rfl, bg_state upd_same, _, _, rfl, rfl, ⟨by decide, by decide, nat_lt_64 p0 (by omega)⟩, .inl ⟨_, rfl, _, _, rfl, rfl, (by show (0 : Int) < 2147483629; decide), _, rfl, _, _, rfl, rfl, h0, ?_⟩⟩
        refine k _ _ (Int.emod_nonneg _ (by omega)) (Int.emod_lt_of_pos _ h0) ⟨cs, a, r, _, upd_same, by rw [upd_ne hcb]; exact e2, l, a0, r0, p0, p1⟩ kp.put
    -- the test
    refine ⟨_, rfl, b, _, rfl, bg_rest e1, _, _, rfl, rfl, _, rfl, ?_⟩
    refine ite_split (fun _ => ?_) (fun _ => iteF fin)
    refine ⟨_, rfl, b, _, rfl, bg_at e1, _, rfl, b, _, rfl, bg_cells e1, c, _, rfl, .inl hSq, _, _, rfl, rfl, _, rfl, ?_⟩
    refine ite_split (fun hlt => ?_) (fun _ => fin)
    have hlt : a < ((cs.map V.int).length : Int) := of_decide_eq_true hlt
    rw [List.length_map] at hlt
    obtain ⟨z, hz⟩ : ∃ z, cs[a.toNat]? = some z := ⟨cs[a.toNat]'(by omega), List.getElem?_eq_getElem (by omega)⟩
    have hix : atI (cs.map V.int) a = some (.int z) := by
      have e := atI_nat (xs := cs.map V.int) (j := a.toNat) (v := .int z) (by rw [List.getElem?_map, hz]; rfl)
      rw [Int.toNat_of_nonneg a0] at e
      exact e
    refine ⟨fun σ' H2 => ∃ m', m' < 64 - a.toNat ∧ ∃ (cs : List Int) (a r s : Int) (v : Option V), m' = 64 - a.toNat ∧ σ' = [some (.ref b), some (.int n), v, none, none] ∧ H2 b = some (.dK (bagD c a r s)) ∧ H2 c = some (.lst (cs.map V.int)) ∧ cs.length ≤ 63 ∧ 0 ≤ a ∧ 0 ≤ r ∧ 0 ≤ s ∧ s < 2147483647 ∧ Keep b H H2, fun _ _ z => z, ?_⟩
    refine ⟨_, rfl, b, _, rfl, bg_cells e1, _, rfl, b, _, rfl, bg_at e1, c, _, _, _, rfl, rfl, hSq, hix, _, rfl, ?_⟩
    refine ⟨_, rfl, b, _, rfl, bg_at e1, _, _, rfl, rfl, _, rfl, b, _, rfl, bp_at e1, ?_⟩
    have hz0 : 0 ≤ (if z < 0 then -z else z) := by split <;> omega
    have e2' : ∀ o, upd H' b o c = some (.lst (cs.map V.int)) := fun o => by rw [upd_ne hcb]; exact e2
    refine ⟨_, rfl, _, _, rfl, rfl, ⟨by decide, by decide, by decide⟩, _, _, rfl, rfl, _, rfl, ?_⟩
    refine ite_split (fun hs => ?_) (fun _ => ?_)
    · have hs : (if z < 0 then -z else z) < (10 : Int) ^ (18 : Int).toNat := of_decide_eq_true hs
      rw [p1018] at hs
      refine ⟨_, rfl, _, _, rfl, rfl, _, _, rfl, rfl, ⟨by decide, by decide, nat_lt_64 (by omega) (by omega)⟩, _, rfl, b, _, rfl, bg_state upd_same, _, rfl, b, _, rfl, bg_at upd_same, _, _, rfl, rfl, _, _, rfl, rfl, small_mul (nat_lt_64 s0 (by omega)) (nat_lt_64 (by omega) (by omega)), _, _, rfl, rfl,
        .inl ⟨_, rfl, _, _, rfl, rfl, (by show (0 : Int) < 2147483629; decide), ?_⟩⟩
      refine ⟨_, rfl, _, rfl, _, _, rfl, rfl, h0, ?_⟩
      exact k _ _ (Int.emod_nonneg _ (by omega)) (Int.emod_lt_of_pos _ h0) ⟨cs, a + 1, r, s, upd_same, e2' _, l, by omega, r0, s0, s1⟩ kp.put
    · refine ⟨_, rfl, _, rfl, b, _, rfl, bp_rest upd_same, ?_⟩
      refine ⟨_, ?_, cs, a + 1, _, s, _, rfl, rfl, upd_same, by rw [upd_ne hcb]; exact e2' _, l, by omega, hz0, s0, s1, kp.put.put⟩
      omega
end Hf
namespace Hf
open PySem PySem.Spec PyProof.Rows L2
def t_bag (K : PySem.W.Frag) (s0 m1 m2 : Int) : TS :=
  tSeq (tAsg (tC (.int s0)) (gName 1))
  (tSeq (tFor (iList K (tSl (rSlL K) (tVar 0) tNoPart (tPart (tC (.int 63))))) (gName 2)
    (tAsg (tOp rMo (tCB rInt (tCons (tOp rAd (tOp rAd (tOp rMu (tVar 1) (tC (.int m1))) (tOp rMo (tCB rAbs (tCons (tVar 2) tNil)) (tC (.int 2147483629)))) (tC (.int m2))) tNil)) (tC (.int 2147483647))) (gName 1)))
  (tRet (tDisp [(tC (.str "cells"), tCB (rLst K) (tCons (tSl (rSlL K) (tVar 0) tNoPart (tPart (tC (.int 63)))) tNil)), (tC (.str "at"), tC (.int 0)), (tC (.str "rest"), tC (.int 0)), (tC (.str "state"), tVar 1)])))
theorem cut63 (ns : List Int) (h : ns.length ≤ 63) : ∃ ms : List Int, cutV (ns.map V.int) none (some 63) = ms.map V.int ∧ ms.length ≤ 63 := by
  unfold cutV
  rw [← List.map_drop, ← List.map_take]
  refine ⟨_, rfl, ?_⟩
  rw [List.length_take, List.length_drop]
  omega
theorem pure_bag (K : PySem.W.Frag) {s0 m1 m2 : Int} (hs : 0 ≤ s0) (hs1 : s0 < 2147483647) (hm : 0 ≤ m1) (hm1 : m1 < 1000000) (hm2 : 0 ≤ m2) (vs : List V) (H : Hp) (Q : VK) (E : XK) (h : spBag K vs H Q E) {N : List Str} (hN : N.length = 3) : t_bag K s0 m1 m2 { nx := fun _ H' => Q .non H', rt := Q } (L2.start N vs) H := by
  obtain ⟨a, ns, rfl, hS, hl, k⟩ := h
  have hst : L2.start N [.ref a] = [some (.ref a), none, none] := by
    unfold L2.start
    rw [hN]
    rfl
  rw [hst]
  clear hst hN
  obtain ⟨ms, hcut, hml⟩ := cut63 ns hl
  refine ⟨_, rfl, 63, rfl, a, _, rfl, hS, fun l hln => ?_⟩
  rw [hcut]
  have s1 : Same H (upd H l (.lst (ms.map V.int))) := Same.new hln
  refine ⟨l, rfl, ⟨_, SqL.of upd_same⟩, for_list (K := K) (a := l) (xs := ms.map V.int) (fun i σ H' => ∃ (s : Int) (v : Option V), σ = [some (.ref a), some (.int s), v] ∧ 0 ≤ s ∧ s < 2147483647 ∧ Same H H' ∧ H' l = some (.lst (ms.map V.int)))
    ⟨s0, none, rfl, hs, hs1, s1, upd_same⟩ (fun i σ H' _ ⟨_, _, _, _, _, _, e⟩ => SqL.of e) ?_ ?_⟩
  · rintro i y σ H' hi ⟨s, v, rfl, a0, a1, s2, e⟩
    obtain ⟨z, rfl⟩ : ∃ z, y = V.int z := by
      rw [List.getElem?_map] at hi
      cases e : ms[i]? with
      | none => rw [e] at hi; cases hi
      | some z => rw [e] at hi; exact ⟨z, (Option.some.inj hi).symm⟩
    refine ⟨_, rfl, _, _, rfl, rfl, small_mul (nat_lt_64 a0 (by omega)) (nat_lt_64 hm (by omega)), _, rfl, _, rfl, _, _, rfl, rfl, (by show (0 : Int) < 2147483629; decide), _, _, rfl, rfl, _, _, rfl, rfl, .inl ⟨_, rfl, _, _, rfl, rfl, (by show (0 : Int) < 2147483647; decide), ?_⟩⟩
    exact ⟨_, _, rfl, Int.emod_nonneg _ (by decide), Int.emod_lt_of_pos _ (by decide), s2, e⟩
  · rintro σ H' ⟨s, v, rfl, a0, a1, s2, e⟩
    intro p hp
    refine ⟨_, rfl, 63, rfl, a, _, rfl, (s2.trans (Same.new hp)).seq hS, fun c hc => ?_⟩
    rw [hcut]
    refine ⟨c, _, rfl, .inl (SqL.of upd_same), fun d hd => ?_⟩
    have npc : p ≠ c := ne_of_none upd_same hc
    have npd : p ≠ d := ne_of_none (show upd (upd H' p (.dK [])) c _ p = some (.dK []) by rw [upd_ne npc, upd_same]) hd
    refine ⟨_, rfl, ?_⟩
    refine ⟨by rw [upd_ne npd, upd_ne npc, upd_same], bagD d 0 0 s, rfl, (by show 4 ≤ 15; decide), ?_⟩
    rw [bag_merge]
    have f1 : Same H (upd H' p (.dK [])) := s2.trans (Same.new hp)
    have f2 := (f1.trans (Same.new (o := .lst (ms.map V.int)) hc)).trans (Same.new (o := .lst (ms.map V.int)) hd)
    refine k p _ (s2.free hp) ⟨d, ms, 0, 0, s, upd_same, by rw [upd_ne npd.symm, upd_same], hml, Int.le_refl _, Int.le_refl _, a0, a1⟩ fun b o e => ?_
    rw [upd_ne (ne_of_none e (s2.free hp))]
    exact f2 b o e
end Hf
namespace Hf
open PySem PySem.Spec PyProof.Rows L2
/-- a def of the module without defaults as it stands behind the top -/
def DefAt (K : PySem.W.Frag) (mg : Str → Option Value) (x : Str) (st : Stmt) (ps : List Str) : Prop := ∃ (f : Addr) (fd : FuncData), mg x = some (.ref f) ∧ Fun K x x st f fd ∧ Binds K fd ps []
/-- a def of the class at C -/
def MetAt (K : PySem.W.Frag) (C : Addr) (m qual : Str) (st : Stmt) (ps : List Str) : Prop := ∃ (f : Addr) (fd : FuncData), Meth K C m f ∧ Fun K m qual st f fd ∧ Binds K fd ps []
end Hf
namespace Hf
open PySem PySem.Spec PyProof.Rows L2
end Hf
namespace Hf
open PySem PySem.Spec PyProof.Rows L2
section
variable {X : Cx} {pos : Pos}
theorem pe_tInt (hm : X.mg "int" = none) (hg : Gl X "int" := by rfl) : PE X (.Name "int" pos) (tC (.ty "int")) := pe_bltn (v := .ty "int") (u := .type "int") hg hm (by decide +kernel) rfl
theorem pe_tBool (hm : X.mg "bool" = none) (hg : Gl X "bool" := by rfl) : PE X (.Name "bool" pos) (tC (.ty "bool")) := pe_bltn (v := .ty "bool") (u := .type "bool") hg hm (by decide +kernel) rfl
end
end Hf
namespace Hf
open PySem PySem.Spec PyProof.Rows L2
/-! ### whole numbers -/
/-- is_whole(value) -/
def spWhole (K : PySem.W.Frag) : Sp := fun vs H Q _ => ∃ (v : V) (t : Value) (b1 b2 : Bool), vs = [v] ∧ TyX K H v t ∧ PySem.W.kitOne K t (.type "int") = some b1 ∧ PySem.W.kitOne K t (.type "bool") = some b2 ∧ Q (.bl (b1 && !b2)) H
section
variable {K : PySem.W.Frag} {H : Hp} {Q : VK} {E : XK}
theorem wh_int {i : Int} (q : Q (.bl true) H) : spWhole K [.int i] H Q E := ⟨_, _, true, false, rfl, .base (.int i), by kernel_rfl, by kernel_rfl, q⟩
end
/-! ### places -/
/-- not above 10 ^ 60 -/
abbrev Sm (x : Int) : Prop := -1000000000000000000000000000000000000000000000000000000000000 ≤ x ∧ x ≤ 1000000000000000000000000000000000000000000000000000000000000
theorem Sm.nat {x : Int} (h : Sm x) : x.natAbs < 2 ^ 200 := by
  rw [show (2 : Nat) ^ 200 = 1606938044258990275541962092341162602522202993782792835301376 from by decide]
  have := h.1
  have := h.2
  omega
def plF (s o d : Int) : List (Str × V) := [("slope", .int s), ("offset", .int o), ("odd", .int d)]
def PlaceAt (C : Addr) (H : Hp) (p : Addr) (s o d : Int) : Prop := ∃ dx, H p = some (.ins C dx (plF s o d))
theorem PlaceAt.same {C : Addr} {H H' : Hp} {p : Addr} {s o d : Int} (h : PlaceAt C H p s o d) (e : Same H H') : PlaceAt C H' p s o d := let ⟨dx, h⟩ := h; ⟨dx, e _ _ h⟩
theorem PlaceAt.keep {C b : Addr} {H H' : Hp} {p : Addr} {s o d : Int} (h : PlaceAt C H p s o d) (e : Keep b H H') (n : p ≠ b) : PlaceAt C H' p s o d := let ⟨dx, h⟩ := h; ⟨dx, e _ _ h n⟩
theorem f_so : ¬ ("slope" : Str) = "offset" := by decide +kernel
theorem f_sd : ¬ ("slope" : Str) = "odd" := by decide +kernel
theorem f_od : ¬ ("offset" : Str) = "odd" := by decide +kernel
theorem lk_hit {f : Str} {v : V} {r : List (Str × V)} : List.lookup f ((f, v) :: r) = some v := by simp [List.lookup]
theorem lk_miss {f g : Str} {v : V} {r : List (Str × V)} (h : ¬ g = f) : List.lookup f ((g, v) :: r) = List.lookup f r := by
  have h' : (f == g) = false := by simpa using fun e => h e.symm
  simp [List.lookup, h']
theorem pl_slope {s o d : Int} : List.lookup ("slope" : Str) (plF s o d) = some (.int s) := lk_hit
theorem pl_offset {s o d : Int} : List.lookup ("offset" : Str) (plF s o d) = some (.int o) := (lk_miss f_so).trans lk_hit
theorem pl_odd {s o d : Int} : List.lookup ("odd" : Str) (plF s o d) = some (.int d) := (lk_miss f_sd).trans ((lk_miss f_od).trans lk_hit)
theorem pf_nil {f : Str} {v : V} : putF f v [] = [(f, v)] := rfl
theorem pf_miss {f g : Str} {v x : V} {r : List (Str × V)} (h : ¬ g = f) : putF f v ((g, x) :: r) = (g, x) :: putF f v r := if_neg h
theorem pl_make {s o d : Int} : putF "odd" (.int d) (putF "offset" (.int o) (putF "slope" (.int s) [])) = plF s o d := by
  rw [pf_nil, pf_miss f_so, pf_nil, pf_miss f_sd, pf_miss f_od, pf_nil]
  rfl
/-- what the written part says of Place, at C -/
structure PlC (K : PySem.W.Frag) (mg : Str → Option Value) (C : Addr) : Prop where
  cl : Cls K C
  n1 : NoAttr K C "slope"
  n2 : NoAttr K C "offset"
  n3 : NoAttr K C "odd"
  g : mg "Place" = some (.ref C)
  sf : PySem.W.selfFirst K C = true
  pm : PySem.W.plainMro K C = true
  ne : NeC K C
  ha : PySem.W.findIn K (.ref C) "__class__" = some (some (.builtin "object.__class__"))
  hn : PySem.W.specialIn K (.builtin "object.__class__") "__get__" = some (some (.builtin "getset_descriptor.__get__"))
  tk : PySem.W.takesIn K (.builtin "object.__class__") = some true
  mo : PySem.W.mroIn K C (.type "object") = some true
  kI : PySem.W.kitOne K (.type "int") (.ref C) = some false
  sI : PySem.W.subIn K (.ref C) (.type "int") = some false
  iA : OprI K C "add"
  iS : OprI K C "sub"
  hi : PySem.W.findIn K (.ref C) "__iadd__" = some none
theorem PlC.ty {K : PySem.W.Frag} {mg : Str → Option Value} {C : Addr} (T : PlC K mg C) {H : Hp} {p dx : Addr} {fs : List (Str × V)} (h : H p = some (.ins C dx fs)) : TyX K H (.ref p) (.ref C) := .base (.ins h T.cl T.ha T.hn T.tk T.mo)
theorem kit_self {K : PySem.W.Frag} {C : Addr} : PySem.W.kitOne K (.ref C) (.ref C) = some true := by
  unfold PySem.W.kitOne
  simp
/-- a new place of these three is handed back -/
def NewPl (C : Addr) (H : Hp) (s o d : Int) (Q : VK) : Prop := ∀ (p : Addr) (H' : Hp), H p = none → PlaceAt C H' p s o d → Same H H' → Q (.ref p) H'
/-- C(..) is made: what is asked of its __init__ -/
def MakeK (C : Addr) (sp : Sp) (E : XK) (Q : VK) : List V → Hp → Prop := fun vs H1 => ∀ x dx, H1 x = none → H1 dx = none → dx ≠ x → sp (.ref x :: vs) (upd (upd H1 dx (.own x)) x (.ins C dx [])) (fun v H2 => v = .non ∧ Q (.ref x) H2) E
def spPlEq (C : Addr) : Sp := fun vs H Q _ => ∃ (p q : Addr) (s o d s' o' d' : Int), vs = [.ref p, .ref q] ∧ PlaceAt C H p s o d ∧ PlaceAt C H q s' o' d' ∧ Q (.bl (decide (s = s') && decide (o = o') && decide (d = d'))) H
end Hf
namespace Hf
open PySem PySem.Spec PyProof.Rows L2
section
variable {K : PySem.W.Frag} {X : Cx} {σ : L2.St} {H : Hp} {Q : VK} {i : Nat} {v x y : V} {ta tb te tf tv : TE} {r : R2} {tt tu : TT} {t u : TA} {s1 s2 tb1 : TS} {D : Ends} {g : TG} {gs : TGs} {QA : List V → Hp → Prop} {QB : Bool → Hp → Prop} {sp : Sp} {E : XK} {C a p dx : Addr} {m f : Str} {fs : List (Str × V)} {QG : L2.St → Hp → Prop}
theorem rd_cl (q : t σ H fun vs H1 => sp vs H1 Q E) : tCl sp E t σ H Q := q
theorem rd_methR (q : ta σ H fun x H1 => ∃ a dx fs, x = .ref a ∧ H1 a = some (.ins C dx fs) ∧ fs.lookup m = none ∧ t σ H1 fun vs H2 => sp (x :: vs) H2 Q E) : tMethR C m sp E ta t σ H Q := q
theorem rd_makeR (q : t σ H (MakeK C sp E Q)) : StX.tMakeR C sp E t σ H Q := q
theorem rd_callO (q : tf σ H fun y H1 => ∃ a, y = V.ref a ∧ t σ H1 fun vs H2 => (∃ dx fs, H2 a = some (.ins C dx fs)) ∧ sp (V.ref a :: vs) H2 Q E) : tCallI C sp E tf t σ H Q := q
theorem rd_fld (q : ta σ H fun x H1 => ∃ a C dx fs v, x = .ref a ∧ H1 a = some (.ins C dx fs) ∧ Cls K C ∧ NoAttr K C f ∧ fs.lookup f = some v ∧ Q v H1) : tFld K ta f σ H Q := q
theorem rd_sfld (q : tv σ H fun y H1 => ta σ H1 fun x H2 => ∃ a C dx fs, x = .ref a ∧ H2 a = some (.ins C dx fs) ∧ Cls K C ∧ NoAttr K C f ∧ fs.length < 1000 ∧ D.nx σ (upd H2 a (.ins C dx (putF f y fs)))) : sFld K ta tv f D σ H := q
theorem rd_gnil (q : QG σ H) : gNil [] σ H QG := ⟨rfl, q⟩
theorem rd_gcons {vs : List V} (q : g v σ H fun σ' H' => gs vs σ' H' QG) : gCons g gs (v :: vs) σ H QG := ⟨v, vs, rfl, q⟩
theorem rd_gtup {n : Nat} {xs : List V} (h : SqT K H a xs) (hl : xs.length = n) (q : gs xs σ H QG) : gTup K n gs (.ref a) σ H QG := ⟨a, xs, rfl, h, hl, q⟩
/-- e.f of a tracked instance -/
theorem rd_fldK {v : V} {QQ : V → Prop} (h : H a = some (.ins C dx fs)) (c : Cls K C) (n : NoAttr K C f) (l : fs.lookup f = some v) (q : QQ v) : ∃ a' C dx fs v, V.ref a = .ref a' ∧ H a' = some (.ins C dx fs) ∧ Cls K C ∧ NoAttr K C f ∧ fs.lookup f = some v ∧ QQ v := ⟨a, C, dx, fs, v, rfl, h, c, n, l, q⟩
theorem rd_isi {t u : Value} {b : Bool} {c : V} (hc : ClsV c u) (ty : TyX K H x t) (k : PySem.W.kitOne K t u = some b) (q : Q (.bl b) H) : rIsi K [x, c] H Q := ⟨x, c, t, u, b, rfl, hc, ty, k, q⟩
theorem rd_par2 {j : Nat} {w' : V} (q : D.nx ((σ.set i (some v)).set j (some w')) H) : ∃ v' w, [v, w'] = [v', w] ∧ D.nx ((σ.set i (some v')).set j (some w)) H := ⟨v, w', rfl, q⟩
theorem rd_aug {ti : TIp} (h : σ[i]? = some (some x)) (q : te σ H fun y H1 => ti x y H1 fun z H2 => D.nx (σ.set i (some z)) H2) : tAug i te ti D σ H := ⟨x, h, q⟩
def ForK (g : TG) (tb : TS) (D : Ends) (σ : L2.St) : It → Hp → Prop := fun J H1 => ∃ W : Nat → Nat → L2.St → Hp → Prop, (∃ m, W 0 m σ H1) ∧ ∀ i m σ H, W i m σ H →
  (J.stop i H ∧ D.nx σ H) ∨ (J.go i H ∧ ∃ N : L2.St → Hp → Prop, (∀ σ' H', N σ' H' → ∃ m', m' < m ∧ W (i + 1) m' σ' H') ∧ ∀ x H', J.yld i H x H' → g x σ H' fun σ2 H2 => tb { D with nx := N, ct := N, bk := D.nx } σ2 H2)
theorem rd_for {wi : TI} (q : wi σ H (ForK g tb1 D σ)) : tFor wi g tb1 D σ H := q
theorem rd_iList {R : It → Hp → Prop} (q : ta σ H fun x H1 => ∃ a, x = .ref a ∧ (∃ xs, SqL K H1 a xs) ∧ R (Itl K a) H1) : iList K ta σ H R := q
theorem rd_iTup {R : It → Hp → Prop} (q : ta σ H fun x H1 => ∃ a, x = .ref a ∧ (∃ xs, SqT K H1 a xs) ∧ R (Itt K a) H1) : iTup K ta σ H R := q
theorem rd_iRng1 {R : It → Hp → Prop} (q : t σ H fun vs H1 => ∃ j : Int, vs = [.int j] ∧ -(2 ^ 62) ≤ j ∧ j < 2 ^ 62 ∧ R (Itr 0 j.toNat) H1) : iRng1 t σ H R := q
theorem rd_iRng2 {R : It → Hp → Prop} (q : t σ H fun vs H1 => ∃ i j : Int, vs = [.int i, .int j] ∧ (-(2 ^ 62) ≤ i ∧ i < 2 ^ 62 ∧ -(2 ^ 62) ≤ j ∧ j < 2 ^ 62) ∧ R (Itr i (j - i).toNat) H1) : iRng2 t σ H R := q
end
end Hf
namespace Hf
open PySem PySem.Spec PyProof.Rows L2
/-- what a place is at a size -/
def plv (s o d n : Int) : Int := s * (n / 2) + o + d * (n % 2)
section
variable {K : PySem.W.Frag} {X : Cx} {σ : L2.St} {H H' : Hp} {Q : VK} {E : XK} {C b p q : Addr} {s o d s' o' d' n k : Int} {t : TA} {D : Ends} {QA : List V → Hp → Prop}
theorem use_drawC {c : Addr} (B : BagC H b c) (h0 : 0 < n) (h1 : n ≤ 10 ^ 40) (k : ∀ (i : Int) (H' : Hp), 0 ≤ i → i < n → BagC H' b c → Keep b H H' → Q (.int i) H') : spDraw [.ref b, .int n] H Q E := ⟨b, c, n, rfl, B, h0, h1, k⟩
/-- places of the same three -/
def SamePl (C : Addr) (a b : Addr) (H : Hp) : Prop := ∃ s o d, PlaceAt C H a s o d ∧ PlaceAt C H b s o d
theorem samePl_mono {a b : Addr} (e : Ext H H') (h : SamePl C a b H) : SamePl C a b H' := by
  obtain ⟨s, o, d, h1, h2⟩ := h
  exact ⟨s, o, d, h1.same e, h2.same e⟩
theorem eq_same (F : FnR X.prog X.w X.K X.mg X.base (L2.CX X.prog X.w) 1 p (spPlEq C)) : FnR X.prog X.w X.K X.mg X.base (L2.CX X.prog X.w) 1 p (spEq (SamePl C)) := F.imp fun vs H Q E h => by
  obtain ⟨a, b, rfl, ⟨s, o, d, h1, h2⟩, k⟩ := h
  refine ⟨a, b, s, o, d, s, o, d, rfl, h1, h2, ?_⟩
  simpa using k H Ext.rfl'
theorem op_nePls {j : Nat} (M : Met X.prog X.w X.K X.mg X.base 1 C "__eq__" (spPlEq C)) (hr : Room j X.A) (hk : 2 ≤ j := by decide) : OpR X (compareOp .NotEq) (rNeG (DIns C (SamePl C))) := by
  obtain ⟨g, o, F⟩ := M.opr
  exact op_neG (mon_ins fun a b H H' e h => samePl_mono e h) ((eqG_insR o (eq_same F) (E := E0) passL).eqG fun _ _ _ d => let ⟨a, b, _, _, _, _, hx, hy, _⟩ := d; ⟨a, b, hx, hy⟩) (hr.mono hk)
end
/-! ### displays with the heap as a letter -/
def NewL (Q : VK) (xs : List V) (H : Hp) : Prop := xs.length ≤ sizeLine ∧ ∀ p, H p = none → Q (.ref p) (upd H p (.lst xs))
def NewT (Q : VK) (xs : List V) (H : Hp) : Prop := xs.length ≤ sizeLine ∧ ∀ p, H p = none → Q (.ref p) (upd H p (.tup xs))
section
variable {K : PySem.W.Frag} {σ : L2.St} {H : Hp} {Q : VK} {t : TA} {xs ys : List V} {p q : Addr}
theorem rd_lstN (q : t σ H (NewL Q)) : tLst t σ H Q := q
theorem rd_tupN (q : t σ H (NewT Q)) : tTup t σ H Q := q
theorem new_lst (hl : xs.length ≤ 1000) (k : ∀ p H', H p = none → H' p = some (.lst xs) → Same H H' → Q (.ref p) H') : NewL Q xs H := ⟨Nat.le_of_lt (small1000 hl), fun p hp => k p _ hp upd_same (Same.new hp)⟩
theorem new_tup (hl : xs.length ≤ 1000) (k : ∀ p H', H p = none → H' p = some (.tup xs) → Same H H' → Q (.ref p) H') : NewT Q xs H := ⟨Nat.le_of_lt (small1000 hl), fun p hp => k p _ hp upd_same (Same.new hp)⟩
theorem dp_ints {H : Hp} : ∀ xs : List Int, DpAll K H (xs.map V.int) (xs.map PyData.int)
  | [] => .nil
  | x :: xs => .cons (.int x) (dp_ints xs)
theorem lay_ints : ∀ xs : List Int, PyData.canLayAll0 (xs.map PyData.int) = true
  | [] => by simp [PyData.canLayAll0]
  | x :: xs => by
    have := lay_ints xs
    simp [PyData.canLayAll0, PyData.canLay0, this]
theorem dep_ints : ∀ xs : List Int, PyData.depthAll (xs.map PyData.int) = 0
  | [] => by simp [PyData.depthAll]
  | x :: xs => by
    have := dep_ints xs
    simp [PyData.depthAll, PyData.depth, this]
theorem can_ints (xs : List Int) : PyData.canLay0 (.list (xs.map PyData.int)) = true := by
  simpa [PyData.canLay0] using lay_ints xs
theorem shp_ints (xs : List Int) : SeqAt.shaped (.list (xs.map PyData.int)) = true := by
  unfold SeqAt.shaped
  rw [can_ints]
  simp [PyData.depth, dep_ints]
end
end Hf
namespace Hf
open PySem PySem.Spec PyProof.Rows L2
end Hf
namespace Hf
open PySem PySem.Spec PyProof.Rows L2
section
variable {K : PySem.W.Frag} {h : Heap} {mg : Str → Option Value} {f C T : Addr} {od an : Option Addr} {osl : Array (Option Value)} {oc kV doc pm cdv ct : Value}
/-- a def of the top -/
theorem defAt_mk {x : Str} {st : Stmt} {ps : List Str} (X : K.In h) (G : h.Ns mainGlobals mg) (a : PySem.W.nsIn K mainGlobals x = some (some (.ref f)))
    (l : K.lookup f = some ⟨oc, od, .func (PySem.W.fnOf x x (defArgs st) (defBody st) (defScope st) .none kV doc pm an cdv ct), osl⟩) (c : PySem.W.codeIn K cdv x = true) (k : PySem.W.keepIn K (.ref f) = true)
    (hb : ∀ (kV doc pm : Value) (an : Option Addr) (cdv ct : Value) (us : List Value), us.length = ps.length → bindArgs (PySem.W.fnOf x x (defArgs st) (defBody st) (defScope st) .none kV doc pm an cdv ct) ⟨us, []⟩ = pure (ps.zip us)) : DefAt K mg x st ps :=
  have F := fun_mk (st := st) l c k
  ⟨f, _, PySem.W.mg_of X G a, F, F.binds hb⟩
theorem metAt_mk {m qual : Str} {st : Stmt} {ps : List Str} (a : PySem.W.findIn K (.ref C) m = some (some (.ref f))) (i : PySem.W.isFn K (.ref f) = true)
    (l : K.lookup f = some ⟨oc, od, .func (PySem.W.fnOf m qual (defArgs st) (defBody st) (defScope st) .none kV doc pm an cdv ct), osl⟩) (c : PySem.W.codeIn K cdv qual = true) (k : PySem.W.keepIn K (.ref f) = true)
    (hb : ∀ (kV doc pm : Value) (an : Option Addr) (cdv ct : Value) (us : List Value), us.length = ps.length → bindArgs (PySem.W.fnOf m qual (defArgs st) (defBody st) (defScope st) .none kV doc pm an cdv ct) ⟨us, []⟩ = pure (ps.zip us)) : MetAt K C m qual st ps :=
  have F := fun_mk (st := st) l c k
  ⟨f, _, ⟨a, i, k⟩, F, F.binds hb⟩
/-- a def with one default that is a whole number -/
theorem funD1_mk {x qual : Str} {st : Stmt} {i : Int} {tk : Tok} {c2 : Value} {d2 : Option Addr} {n2 : Nat} {sl2 : Array (Option Value)}
    (l : K.lookup f = some ⟨oc, od, .func (PySem.W.fnOf x qual (defArgs st) (defBody st) (defScope st) (.ref T) kV doc pm an cdv ct), osl⟩) (lT : K.lookup T = some ⟨c2, d2, .seq #[.int i tk] n2, sl2⟩) (c : PySem.W.codeIn K cdv qual = true) (k : PySem.W.keepIn K (.ref f) = true) :
    FunD K x qual (defArgs st) (defBody st) (defScope st) [.int i] [] f (PySem.W.fnOf x qual (defArgs st) (defBody st) (defScope st) (.ref T) kV doc pm an cdv ct) :=
  ⟨⟨oc, od, .ref T, kV, doc, pm, an, cdv, ct, osl, rfl, l, c, .inr ⟨fun z => (nomatch z), T, _, [.int i tk], n2, rfl, lT, rfl, .cons ⟨tk, rfl⟩ .nil⟩, .inl rfl⟩, k⟩
/-- every parameter is given -/
theorem FunD.full {x qual : Str} {params : Arguments} {body : List Stmt} {scope : Scope} {v : V} {fd : FuncData} {ps : List Str} (F : FunD K x qual params body scope [v] [] f fd)
    (hb : ∀ (T : Addr) (kV doc pm : Value) (an : Option Addr) (cdv ct : Value) (us its : List Value), us.length = ps.length → its.length = 1 →
      ∃ k, bindArgs (PySem.W.fnOf x qual params body scope (.ref T) kV doc pm an cdv ct) ⟨us, []⟩ = seqItems? (.ref T) >>= k ∧ k (some its.toArray) = pure (ps.zip (us ++ its.drop 1))) : Binds K fd ps [] := by
  obtain ⟨ds, r, b⟩ := F.binds1 (ps := ps) ps.length 1 (by simp) (by simp) (fun T kV doc pm an cdv ct us its h1 h2 => hb T kV doc pm an cdv ct us its h1 h2)
  cases r
  exact b
end
theorem FnOk.all {P : Program} {w : World} {K : PySem.W.Frag} {mg : Str → Option Value} {base : Heap} {CX : CXT} {k : Nat} {f : Addr} {fd : FuncData} {ps : List Str} {sp : Sp} (G : FnOk P w K mg base CX k f fd ps sp) (b : Binds K fd ps []) : FnR P w K mg base CX k f sp :=
  (G.raw b .nil).imp fun vs H Q E h => by rw [List.append_nil]; exact h
/-- the one default fills up -/
theorem FunD.dflt {K : PySem.W.Frag} {x qual : Str} {params : Arguments} {body : List Stmt} {scope : Scope} {v : V} {f : Addr} {fd : FuncData} {ps : List Str} {n : Nat} (F : FunD K x qual params body scope [v] [] f fd) (hn : n + 1 = ps.length)
    (hb : ∀ (T : Addr) (kV doc pm : Value) (an : Option Addr) (cdv ct : Value) (us its : List Value), us.length = n → its.length = 1 →
      ∃ k, bindArgs (PySem.W.fnOf x qual params body scope (.ref T) kV doc pm an cdv ct) ⟨us, []⟩ = seqItems? (.ref T) >>= k ∧ k (some its.toArray) = pure (ps.zip (us ++ its.drop 0))) : ∃ ds, Vals [v] ds ∧ Binds K fd ps ds :=
  F.binds1 (ps := ps) n 0 (by simp) (by simpa using hn) (fun T kV doc pm an cdv ct us its h1 h2 => hb T kV doc pm an cdv ct us its h1 h2)
theorem plainMro_mk {K : PySem.W.Frag} {C : Addr} {cd : ClassData} (c : PySem.W.clsIn K C = some cd) (m : cd.mro = [.ref C, .type "object"]) : PySem.W.plainMro K C = true := by
  unfold PySem.W.plainMro
  rw [c]
  simp [m]
theorem kitOne_mk {K : PySem.W.Frag} {C : Addr} {T : String} {b : Bool} (i : PySem.W.isClsIn K C = true) (t : PySem.W.typeIn K (.ref C) = some (.type "type")) (s : PySem.W.subIn K (.type T) (.ref C) = some b) : PySem.W.kitOne K (.type T) (.ref C) = some b := by
  have i' : (PySem.W.clsIn K C).isSome = true := i
  have e : (Value.type T == Value.ref C) = false := Bool.eq_false_iff.mpr fun q => by cases beq_iff_eq.mp q
  unfold PySem.W.kitOne PySem.W.kitCls
  rw [e, if_neg Bool.false_ne_true]
  dsimp only
  rw [i', t]
  simpa using s
theorem cx_no {P : Program} {w : World} {H : Hp} {s : Shared} {e : Value} {s' : Shared} (h : L2.CX P w [] H s (fun _ _ _ => False) e s') : False := by
  obtain ⟨_, _, _, _, _, _, _, _, _, _, _, _, z⟩ := h
  exact z.elim
end Hf
namespace Hf
open PySem PySem.Spec PyProof.Rows L2
/-! ### defs that want to know that no repr is running -/
/-- as FnR, called where nothing is being shown -/
def FnG (P : Program) (w : World) (K : PySem.W.Frag) (mg : Str → Option Value) (base : Heap) (CX : CXT) (k : Nat) (f : Addr) (sp : Sp) : Prop :=
  ∀ (A : Around) (outer : List Env) (s : Shared) (H : Hp) (us : List Value) (vs : List V) (Q : VK) (E : XK), Room k A → A.guards = some [] → Env0 P w K mg base A outer s H → Vals vs us → sp vs H Q E →
    codeAny (model P w) A (.call (.ref f) ⟨us, []⟩) (CR CX outer P w H s Q E) s
theorem FnR.g {P : Program} {w : World} {K : PySem.W.Frag} {mg : Str → Option Value} {base : Heap} {CX : CXT} {k : Nat} {f : Addr} {sp : Sp} (F : FnR P w K mg base CX k f sp) : FnG P w K mg base CX k f sp := fun A outer s H us vs Q E hr _ e0 r h => F A outer s H us vs Q E hr e0 r h
section
variable {P : Program} {w : World} {K : PySem.W.Frag} {mg : Str → Option Value} {base : Heap}
theorem fnG_of {CX : CXT} {k : Nat} {f : Addr} {name qual : Str} {params : Arguments} {body : List Stmt} {scope : Scope} {dV kV doc pm cdv ct oc : Value} {an od : Option Addr}
    {osl : Array (Option Value)} {N ps : List Str} {sp : Sp} (lk : K.lookup f = some ⟨oc, od, .func (PySem.W.fnOf name qual params body scope dV kV doc pm an cdv ct), osl⟩) (hcd : PySem.W.codeIn K cdv qual = true) (S : FnScope N ps scope)
    (b : Binds K (PySem.W.fnOf name qual params body scope dV kV doc pm an cdv ct) ps [])
    (len : ∀ vs H Q E, sp vs H Q E → vs.length = ps.length)
    (hbody : ∀ (A : Around) (outer : List Env) (s : Shared) (H : Hp) (vs : List V) (Q : VK) (E : XK), Room k (A.deeper (envOfC qual scope s.heap.objs.size f cdv)) → (A.deeper (envOfC qual scope s.heap.objs.size f cdv)).guards = some [] → sp vs H Q E →
      ∃ t, PSs (cxOf CX P w K mg base N qual scope f cdv A outer s H E) body t ∧ t { nx := fun _ H' => Q .non H', rt := Q } (L2.start N vs) H) :
    FnG P w K mg base CX (k + 1) f sp := by
  intro A outer s H us vs Q E hr hgd e0 r hsp
  have hl := len _ _ _ _ hsp
  have KX : K.In s.heap := e0.mod.kin.keeps fun b o e => (e0.bs b o e).1
  have lim : s.heap.NoLimit := e0.mod.nolimit.keeps fun b o e => (e0.bs b o e).1
  have hb : BindsTo s (PySem.W.fnOf name qual params body scope dV kV doc pm an cdv ct) ⟨us, []⟩ (ps.zip us) := by
    have e := b s us KX (by rw [List.append_nil, ← r.length]; exact hl)
    rw [List.append_nil] at e
    exact e
  have hkind : ∀ y ∈ ps.zip us, scope.names.lookup y.1 = some .local ∨ (scope.names.lookup y.1 = some .cell ∧ ((cellsFrom (s.heap.objs.size + 1) scope.names []).lookup y.1).isSome = true) := fun ⟨n, v⟩ hy => by
    rcases S.par n (List.of_mem_zip hy).1 with q | q
    · exact .inl q
    · exact .inr ⟨q, PySem.W.cellsFrom_some _ _ _ (.inl q)⟩
  refine codeAny_call_function hr.depth (KX _ _ lk) rfl S.co S.gen rfl (PySem.W.codeRec_of KX hcd) (hb _ _ _ _ ?_)
  refine wpAny_newFunctionEnv_cells S.kind hkind fun env he s1 x => ?_
  subst he
  refine ⟨lim.keeps x.toInCall.keep, codeAny_func ?_⟩
  obtain ⟨t, ht, hq⟩ := hbody A outer s H vs Q E (hr.deeper _) hgd hsp
  have I : Inv (cxOf CX P w K mg base N qual scope f cdv A outer s H E) [] (L2.start N vs) H s1 := inv_start S hr.hd e0 hl r x
  refine wpAny_mono (ht.run [] s1 (L2.start N vs) H _ I hq) (fun fl s' hs => ?_) fun e s' hs => hs
  have fin : ∀ {σ' : L2.St} {H' : Hp} {v : V} {u : Value}, Inv (cxOf CX P w K mg base N qual scope f cdv A outer s H E) [] σ' H' s' → RelV v u → Q v H' → CE outer P w H s Q u s' :=
    fun {σ' H' v u} J rv q => ⟨v, H', J.os, J.bare, J.base, J.hok, rv, q⟩
  cases fl with
  | ret u =>
    obtain ⟨v, σ', H', J, rv, q⟩ := hs
    exact fin J rv q
  | next =>
    obtain ⟨σ', H', J, q⟩ := hs
    exact fin (v := V.non) (u := Value.none) J rfl q
  | brk =>
    obtain ⟨_, _, _, q⟩ := hs
    exact False.elim q
  | cont =>
    obtain ⟨_, _, _, q⟩ := hs
    exact False.elim q
/-- x, a def of the module, keeps sp where nothing is being shown -/
def CalG (P : Program) (w : World) (K : PySem.W.Frag) (mg : Str → Option Value) (base : Heap) (k : Nat) (x : Str) (sp : Sp) : Prop :=
  ∃ f, FnG P w K mg base (L2.CX P w) k f sp ∧ mg x = some (.ref f) ∧ PySem.W.keepIn K (.ref f) = true
end
end Hf
namespace Hf
open PySem PySem.Spec PyProof.Rows L2
end Hf
namespace Hf
open PySem PySem.Spec PyProof.Rows L2
/-! ### comprehensions -/
def LcK (g : TG) (tt : TT) (te : TE) (vs : List Nat) (σ : L2.St) (Q : VK) : It → Hp → Prop := fun J H1 => ∀ D, H1 D = none → ∃ W : Nat → Nat → Hp → Prop, (∃ m, W 0 m (upd H1 D (.lst []))) ∧ ∀ i m H, W i m H →
  (J.stop i H ∧ Q (.ref D) H) ∨ (J.go i H ∧ ∃ Nx : Hp → Prop, (∀ H', Nx H' → ∃ m', m' < m ∧ W (i + 1) m' H') ∧ ∀ x H', J.yld i H x H' → g x (wipe σ vs) H' fun σ2 H2 => wipe σ2 vs = wipe σ vs ∧ tt σ2 H2 fun b H3 =>
    if b = true then te σ2 H3 fun y H4 => ∃ acc, H4 D = some (.lst acc) ∧ acc.length < sizeLine ∧ Nx (upd H4 D (.lst (acc ++ [y]))) else Nx H3)
section
variable {K : PySem.W.Frag} {σ : L2.St} {H : Hp} {Q : VK} {wi : TI} {g : TG} {tt : TT} {te : TE} {vs : List Nat} {i : Nat} {a : Addr} {xs : List V}
theorem rd_lc (q : wi σ H (LcK g tt te vs σ Q)) : tLc wi g tt te vs σ H Q := q
theorem rd_yes {QB : Bool → Hp → Prop} (q : QB true H) : tYes σ H QB := q
theorem wipe1 {x : Option V} : wipe ((wipe σ [i]).set i x) [i] = wipe σ [i] := by
  show ((σ.set i none).set i x).set i none = σ.set i none
  rw [List.set_set, List.set_set]
theorem Same.mut {H H1 : Hp} {p : Addr} {o : HO} (e : Same H H1) (h : H p = none) : Same H (upd H1 p o) := fun a u ha => by
  rw [upd_ne (ne_of_none ha h)]
  exact e a u ha
end
end Hf
namespace Hf
open PySem PySem.Spec PyProof.Rows L2
/-- v is the first size at which the difference is above 0, None if there is none -/
def IsFirst (S O D : Int) (v : V) : Prop := (∃ n, v = .int n ∧ 1 ≤ n ∧ 0 < plv S O D n ∧ ∀ m, 1 ≤ m → m < n → plv S O D m ≤ 0) ∨ (v = .non ∧ ∀ m, 1 ≤ m → plv S O D m ≤ 0)
theorem IsFirst.same {S O D : Int} {v v' : V} (h : IsFirst S O D v) (h' : IsFirst S O D v') : v = v' := by
  rcases h with ⟨n, rfl, a, b, c⟩ | ⟨rfl, c⟩ <;> rcases h' with ⟨n', rfl, a', b', c'⟩ | ⟨rfl, c'⟩
  · have : n = n' := by
      rcases Int.lt_trichotomy n n' with h | h | h
      · have := c' n a h
        omega
      · exact h
      · have := c n' a' h
        omega
    rw [this]
  · have := c' n a
    omega
  · have := c n' a'
    omega
  · rfl
end Hf
namespace Hf
open PySem PySem.Spec PyProof.Rows L2
/-- not above 10 ^ 50 -/
abbrev Md (x : Int) : Prop := -100000000000000000000000000000000000000000000000000 ≤ x ∧ x ≤ 100000000000000000000000000000000000000000000000000
/-- two lists of data, equal or not: the test of != -/
theorem use_neD {K : PySem.W.Frag} {H : Hp} {x y : V} {d e : PyData} {Q : VK} (h1 : Dp K H x d) (h2 : Dp K H y e) (s1 : SeqAt.shaped d = true) (s2 : SeqAt.shaped e = true) (k : Q (.bl (!PyData.eqv d e)) H) : rNeD K x y H Q := ⟨d, e, h1, h2, s1, s2, k⟩
theorem rd_bm {K : PySem.W.Frag} {T : String} {r : V → List V → Hp → VK → Prop} {to : TE} {t : TA} {σ : L2.St} {H : Hp} {Q : VK} (q : to σ H fun x H1 => tyV K T x H1 ∧ t σ H1 fun xs H2 => r x xs H2 Q) : tBM K T r to t σ H Q := q
theorem is_lst {K : PySem.W.Frag} {H : Hp} {l : Addr} {xs : List V} {P : Prop} (h : H l = some (.lst xs)) (k : P) : tyV K "list" (.ref l) H ∧ P := ⟨.inl ⟨rfl, _, SqL.of h⟩, k⟩
end Hf
namespace Hf
open PySem PySem.Spec PyProof.Rows L2
section
variable {K : PySem.W.Frag} {H : Hp} {l : Addr} {Q : VK}
/-- a number or None, as data -/
def dv : V → PyData
  | .int i => .int i
  | _ => .none
theorem ite_no {k : Bool} {A B : Prop} (e : k = false) (b : B) : if k = true then A else B := by
  rw [e]
  exact iteF b
theorem ite_yes {k : Bool} {A B : Prop} (e : k = true) (b : A) : if k = true then A else B := by
  rw [e]
  exact iteT b
end
end Hf
namespace Hf
open PySem PySem.Spec PyProof.Rows L2
/-! ### an own error whose __init__ begins with super().__init__(text) -/
/-- the def's words, for its context -/
abbrev nfS (name qual : Str) (params : Arguments) (body : List Stmt) (scope : Scope) (cc cda : Addr) : NdefX.NF := ⟨name, qual, params, body, scope, [("__class__", cc)], cda⟩
/-- what the written part says of super() in C's __init__ -/
structure SupC (P : Program) (K : PySem.W.Frag) (mg : Str → Option Value) (C cc cda : Addr) : Prop where
  code : ∃ ccl cdd cvs ccs file tf, K.lookup cda = some ⟨ccl, cdd, .fields cvs, ccs⟩ ∧ cvs[2]? = some (Value.str file tf) ∧ ((P.main.file : Str) == file) = true
  cell : ∃ cl cld csl, K.lookup cc = some ⟨cl, cld, .cell (some (.ref C)), csl⟩
  cls : ∃ cdC, PySem.W.clsIn K C = some cdC
  self : PySem.W.mroIn K C (.ref C) = some true
  sup : mg "super" = none
  top : (P.main.scope.names.lookup ("super" : Str)).isSome = false
  opq : PySem.W.nsIn K cStatics "thirdparty.any" = some none
  ini : PySem.W.ks_superIn K C C "__init__" = some (some (.builtin "ValueError.__init__"))
  isV : PySem.W.subIn K (.ref C) (.type "ValueError") = some true
section
variable {X : Cx} {pins : List (Addr × Obj)} {σ : L2.St} {H : Hp} {s : Shared}
/-- the bound ValueError.__init__ is called: nothing of it is told -/
theorem call_mw {A : Around} {E : Value → Shared → Prop} {u a C : Addr} {us : List Value} {Q : Value → Shared → Prop} (T : OexC X.K C) (I : Inv X pins σ H s) (e : H a = some (exo a C none)) (hu : s.heap.get? u = some (PySem.W.kxs_mw "ValueError.__init__" a)) (hl : us.length ≤ sizeLine) (h : ∀ s', Inv X pins σ H s' → Q .none s') :
    wpAny (model X.prog X.w) A (call (.ref u) us) Q E s := by
  obtain ⟨nm, q, N, bs, bm, sn, sub, ab, col, dd, k0, k1, k2, k3, k5, hC, hbm⟩ := T.cls
  obtain ⟨t1, ho⟩ := exo_at I.hok e
  obtain ⟨hp, g, d, t, os⟩ := s
  have hC' := I.kIn _ _ hC
  refine wpAny_call (codeAny_of_tree ?_)
  show wpAny _ A.in1 (callAny (.ref u) ⟨us, []⟩) _ _ _
  simp only [callAny]
  refine wpAny_bind (wpAny_load hu ?_)
  simp only [PySem.W.kxs_mw, show (Value.type "method-wrapper" == Value.type "method" || Value.type "method-wrapper" == Value.type "builtin_function_or_method" || Value.type "method-wrapper" == Value.type "method-wrapper") = true by decide, if_true]
  refine PySem.W.KFB.if_so (by decide) ?_
  refine wpAny_bind (PySem.W.check_bound_init F.excBase_ValueError.toExcCallFacts hC' ho rfl ?_)
  refine wpAny_bind (wpAny_pure (wpAny_pure ?_))
  refine ⟨PySem.plainId_quiet F.excBase_ValueError.init.plain _, codeAny_builtin F.excBase_ValueError.initEntry ?_⟩
  refine PySem.W.exc_init_tree (cls := .ref C) (t0 := t1) (dv := none) (c2 := .none) (c3 := .none) (b4 := .bool false) ho hl fun h' k hx _ => ?_
  have J := I.write (t' := t) (x := a) (e := a) (o := exo a C none) (by rw [e]; exact True.intro) (.inl rfl) k ⟨_, hx⟩ (exo_ok hx)
  have eu : upd H a (exo a C none) = H := by
    funext b
    by_cases hb : b = a
    · rw [hb, upd_same, e]
    · rw [upd_ne hb]
  rw [eu] at J
  exact h _ J
abbrev supSt (txt : Str) (j : Nat) (p0 p1 p2 p3 p4 p5 : Pos) : Stmt := .Expr (.Call (.Attribute (.Call (.Name "super" p0) [] [] p1) "__init__" p2) [.Constant (.str txt) j p3] [] p4) p5
theorem fnS_of {P : Program} {w : World} {K : PySem.W.Frag} {mg : Str → Option Value} {base : Heap} {CX : CXT} {k : Nat} {f C cc cda : Addr} {name qual txt : Str} {params : Arguments} {rest : List Stmt} {scope : Scope} {dV kV doc pm ct oc : Value} {an od : Option Addr} {osl : Array (Option Value)} {j : Nat} {p0 p1 p2 p3 p4 p5 : Pos}
    {N ps : List Str} {ar : Arg} {sp : Sp} (lk : K.lookup f = some ⟨oc, od, .func (PySem.W.ksFn name qual params (supSt txt j p0 p1 p2 p3 p4 p5 :: rest) scope dV kV doc pm an (.ref cda) ct cc), osl⟩) (hcd : PySem.W.codeIn K (.ref cda) qual = true)
    (S : NdefX.NScope N (("self" : Str) :: ps) ["__class__"] scope) (har : (params.posonlyargs ++ params.args).head? = some ar) (har2 : ar.arg = "self") (hks : scope.names.lookup ("super" : Str) = some .globalImplicit) (T : OexC K C) (U : SupC P K mg C cc cda)
    {pl : Env → Sem Bool} (he : ∀ env : Env, eval (.Call (.Attribute (.Call (.Name "super" p0) [] [] p1) "__init__" p2) [.Constant (.str txt) j p3] [] p4) env = (do
      let ov ← attributeBase (.Call (.Name "super" p0) [] [] p1) "__init__" env (eval (.Call (.Name "super" p0) [] [] p1) env)
      standAt p2.atName
      let (f, first) ← holding [ov] (getMethod ov "__init__" (pl env))
      callWith p4 f first (backTo p4 (starEach [.Constant (.str txt) j p3] env)) []))
    (len : ∀ vs H Q E, sp vs H Q E → vs.length = (("self" : Str) :: ps).length)
    (hbody : ∀ (A : Around) (outer : List Env) (s : Shared) (H : Hp) (vs : List V) (Q : VK) (E : XK), Room k (A.deeper (NdefX.envF (nfS name qual params (supSt txt j p0 p1 p2 p3 p4 p5 :: rest) scope cc cda) f s.heap.objs.size)) → sp vs H Q E →
      ∃ a ws, vs = .ref a :: ws ∧ H a = some (exo a C none) ∧ ∃ t, PSs (NdefX.ncx CX P w K mg base N (nfS name qual params (supSt txt j p0 p1 p2 p3 p4 p5 :: rest) scope cc cda) f A outer s H E) rest t ∧ t { nx := fun _ H' => Q .non H', rt := Q } (NdefX.startF N vs [none]) H) :
    FnOk P w K mg base CX (k + 1) f (PySem.W.ksFn name qual params (supSt txt j p0 p1 p2 p3 p4 p5 :: rest) scope dV kV doc pm an (.ref cda) ct cc) (("self" : Str) :: ps) sp := by
  refine ⟨len, fun A outer s H args us vs Q E hr e0 hb r hsp => ?_⟩
  have hl := len _ _ _ _ hsp
  have KX : K.In s.heap := e0.mod.kin.keeps fun b o e => (e0.bs b o e).1
  have lim : s.heap.NoLimit := e0.mod.nolimit.keeps fun b o e => (e0.bs b o e).1
  obtain ⟨cl, cld, csl, hcell⟩ := U.cell
  obtain ⟨ccl, cdd, cvs, ccs, file, tf, hcode, hvs, hfile⟩ := U.code
  obtain ⟨cdC, hcC⟩ := U.cls
  have CA : NdefX.CellsAt [("__class__", cc)] ["__class__"] [none] s.heap H := by
    have key : ∀ (y : Str) (c : Addr), ([("__class__", cc)] : List (Str × Addr)).lookup y = some c → y = "__class__" ∧ c = cc := fun y c e => by
      have m := PySem.mem_of_lookup e
      simp only [List.mem_singleton, Prod.mk.injEq] at m
      exact m
    refine ⟨rfl, fun y c e => ?_, fun x y c e1 e2 => ?_, fun i y e => ?_⟩
    · obtain ⟨_, rfl⟩ := key y c e
      exact ⟨(e0.bs _ _ (e0.mod.kin _ _ hcell)).2, _, _, KX _ _ hcell, rfl⟩
    · rw [(key x c e1).1, (key y c e2).1]
    · have m := List.mem_of_getElem? e
      simp only [List.mem_singleton] at m
      subst m
      refine ⟨cc, by rfl, fun v z => ?_⟩
      have z := List.mem_of_getElem? z
      simp at z
  refine PySem.ks_codeAny_call_defAt (fd := PySem.W.ksFn name qual params (supSt txt j p0 p1 p2 p3 p4 p5 :: rest) scope dV kV doc pm an (.ref cda) ct cc) hr.depth (KX _ _ lk) rfl lim (PySem.W.codeRec_of KX hcd) rfl hb S.nocell (fun ⟨n, _⟩ hy => S.par n (List.of_mem_zip hy).1) (fun h₀ hns kp => ?_) S.co S.gen S.kind
  obtain ⟨a, ws, rfl, ha, t, ht, hq⟩ := hbody A outer s H vs Q E (hr.deeper _) hsp
  have I : L2.Inv (NdefX.ncx CX P w K mg base N (nfS name qual params (supSt txt j p0 p1 p2 p3 p4 p5 :: rest) scope cc cda) f A outer s H E) [] (NdefX.startF N (.ref a :: ws) [none]) H { s with heap := h₀, toks := s.toks + ((("self" : Str) :: ps).zip us).length } := NdefX.inv_startN S hr.hd e0 hl r CA hns kp
  generalize { s with heap := h₀, toks := s.toks + ((("self" : Str) :: ps).zip us).length } = s1 at I
  have rf : ∃ ur, us = .ref a :: ur := by
    cases r with
    | cons r1 _ => exact ⟨_, by rw [show _ = Value.ref a from r1]⟩
  obtain ⟨ur, rfl⟩ := rf
  refine PySem.ks_wpAt_execs_cons ?_
  refine PySem.ks_wpAt_Expr_any ?_ (hi := I.quiet)
  refine PySem.ks_wpAt_MethodCall ?_ (he _)
  have hkc : scope.names.lookup ("__class__" : Str) = some .free := S.frk _ List.mem_cons_self
  have hka : scope.names.lookup ("self" : Str) = some .local := S.par _ List.mem_cons_self
  have hN0 : N[0]? = some ("self" : Str) := by
    have e := congrArg (fun l => l[0]?) S.pre
    simp only [List.length_cons, List.length_nil, List.getElem?_take_of_lt (show 0 < ps.length + 1 + (0 + 1) from by omega)] at e
    exact e
  obtain ⟨m, hm, hlook⟩ := I.loc
  have hself : m "self" = some (.ref a) := by
    obtain ⟨u, ru, z⟩ := hlook 0 "self" (.ref a) hN0 rfl (.inl hka)
    obtain rfl : u = Value.ref a := ru
    rcases z with ⟨_, z⟩ | ⟨z, _⟩
    · exact z
    · have hka' : (NdefX.ncx CX P w K mg base N (nfS name qual params (supSt txt j p0 p1 p2 p3 p4 p5 :: rest) scope cc cda) f A outer s H E).env.kindOf "self" = some .local := hka
      rcases z with z | z <;> rw [hka'] at z <;> cases z
  obtain ⟨oD, hD1, hD2⟩ : ∃ oD, s1.heap.get? C = some oD ∧ oD.data = .cls cdC := by
    unfold PySem.W.clsIn at hcC
    split at hcC
    · rename_i c d cd' sl ho
      cases hcC
      exact ⟨_, I.kIn _ _ ho, rfl⟩
    · cases hcC
  obtain ⟨t1, hx⟩ := exo_at I.hok ha
  have II : PySem.W.InstAt s1.heap a _ C none := ⟨hx, rfl, rfl, trivial⟩
  obtain ⟨mb, hb1, hb2⟩ := I.mod.blt
  refine PySem.ks_wpAt_super_base (fd := PySem.W.ksFn name qual params (supSt txt j p0 p1 p2 p3 p4 p5 :: rest) scope dV kV doc pm an (.ref cda) ct cc) hks hkc (by decide) rfl (I.kIn _ _ lk) rfl har rfl (I.kIn _ _ hcode) rfl hvs hfile U.top ?_
  refine PySem.W.ks_loadName_global S.kind hks (PySem.Calls.loadGlobal_builtin (I.mod.glob.keeps I.bk) U.sup (hb1.keeps I.bk) ((hb2 _ (by decide)).trans PyProof.Rows.Boot.«super») ⟨rfl, ?_⟩)
  refine wpAny_loadName_free S.kind hkc rfl ⟨_, I.kIn _ _ hcell, rfl⟩ ?_
  rw [har2]
  refine wpAny_loadName_local S.kind hka hm hself ?_
  refine PySem.ks_wpAny_isType_cls hD1 hD2 ⟨rfl, ?_⟩
  obtain ⟨hp1, g1, d1, tk1, os1⟩ := s1
  refine PySem.ks_wpAny_call_super hD1 hD2 hx rfl (fun c e => by cases e) (PySem.W.looks_mroIn I.kIn U.self) (fun h2 hso k2 => ?_)
  have I2 := I.kept (t' := tk1) k2
  obtain ⟨cd2, hc2⟩ := U.cls
  have hini := U.ini
  unfold PySem.W.ks_superIn at hini
  rw [hcC] at hini
  have II2 : PySem.W.InstAt h2 a _ C none := ⟨k2 _ _ hx, rfl, rfl, trivial⟩
  refine PySem.W.kxs_getMethod PySem.W.kxs_ValueError hso (PySem.W.looks_opaque I2.kIn U.opq) (l₀ := cdC.mro) (fun A Q E s k q => wpAny_bind ((PySem.W.looks_clsIn I2.kIn hcC) A _ E s k (wpAny_pure q))) rfl I2.kIn hini (II2.type.andThen (PySem.W.looks_subIn I2.kIn U.isV)) (PySem.W.ks_ne I2.kIn II2 hcC) (by decide) ?_
  have k3 : ∀ b o, h2.get? b = some o → (h2.push (PySem.W.kxs_mw "ValueError.__init__" a)).get? b = some o := fun b o e => Heap.get?_push_of_some _ e
  have I3 := I2.kept (t' := tk1 + 1) k3
  have hu3 : (h2.push (PySem.W.kxs_mw "ValueError.__init__" a)).get? h2.objs.size = some (PySem.W.kxs_mw "ValueError.__init__" a) := Heap.get?_push_at rfl rfl
  refine PySem.W.kxs_callWith (i := "ValueError.__init__") (x := a) rfl (PySem.Calls.evalArgs_plain (PySem.Calls.spliced_cons (PySem.Calls.Constant_str (k := j) (pos := p3) (PySem.Calls.spliced_nil ⟨hu3, ?_⟩))))
  refine call_mw T (I3.tok _) ha hu3 (by rw [sizeLine_eq]; show 1 ≤ 16777216; decide) fun s4 I4 => ?_
  refine PySem.wpAt_of_wpAny ?_
  refine wpAny_mono (ht.run [] _ _ H _ I4 hq) (fun fl s' hs => ?_) fun e s' hs => hs
  have fin : ∀ {σ' : L2.St} {H' : Hp} {v : V} {u : Value}, L2.Inv (NdefX.ncx CX P w K mg base N (nfS name qual params (supSt txt j p0 p1 p2 p3 p4 p5 :: rest) scope cc cda) f A outer s H E) [] σ' H' s' → L2.RelV v u → Q v H' → CE outer P w H s Q u s' :=
    fun {σ' H' v u} J rv q => ⟨v, H', J.os, J.bare, J.base, J.hok, rv, q⟩
  cases fl with
  | ret u =>
    obtain ⟨v, σ', H', J, rv, q⟩ := hs
    exact fin J rv q
  | next =>
    obtain ⟨σ', H', J, q⟩ := hs
    exact fin (v := V.non) (u := Value.none) J rfl q
  | brk =>
    obtain ⟨_, _, _, q⟩ := hs
    exact False.elim q
  | cont =>
    obtain ⟨_, _, _, q⟩ := hs
    exact False.elim q
end
end Hf
namespace Hf
open PySem PySem.Spec PyProof.Rows L2
/-! ### own errors: made, raised -/
/-- the promise of C's __init__: the fields are kept -/
def spErr (C : Addr) (names : List Str) : Sp := fun vs H Q _ => ∃ (a : Addr) (ws : List V), vs = .ref a :: ws ∧ ws.length = names.length ∧ H a = some (exo a C none) ∧ ∀ dx, H dx = none → dx ≠ a → Q .non (upd (upd H dx (exd dx (names.zip ws).reverse)) a (exo a C (some dx)))
/-- x names the class at C of errors with these fields -/
def Err (P : Program) (w : World) (K : PySem.W.Frag) (mg : Str → Option Value) (base : Heap) (x : Str) (C : Addr) (names : List Str) : Prop :=
  OexC K C ∧ mg x = some (.ref C) ∧ ∃ (fI : Addr) (fd : FuncData) (ps : List Str), PySem.W.findIn K (.ref C) "__init__" = some (some (.ref fI)) ∧ PySem.W.typeIn K (.ref fI) = some (.type "function") ∧ FnOk P w K mg base (L2.CX P w) 1 fI fd ps (spErr C names) ∧ L2.Binds K fd ps []
/-- what stands behind the arguments of C(e, ..) that is to be raised -/
def MkEK (C : Addr) (names : List Str) (Q : XK) (vs : List V) (H1 : Hp) : Prop := vs.length ≤ 1000 ∧ ∀ a, H1 a = none → spErr C names (.ref a :: (vs ++ [])) (upd H1 a (exo a C none))
  (fun v H2 => v = .non ∧ ∃ (d : Addr) (fs : List (Str × V)), H2 a = some (exo a C (some d)) ∧ H2 d = some (exd d fs) ∧ H1 d = none ∧ Q (.ref C) (some d) (upd (del H2 a) d (.xd fs))) (fun _ _ _ => False)
theorem rd_mkE {C : Addr} {names : List Str} {ta : TA} {σ : L2.St} {H : Hp} {Q : XK} (q : ta σ H (MkEK C names Q)) : tMkO C (spErr C names) [] ta σ H Q := q
theorem use_err {C : Addr} {names : List Str} {Q : XK} {vs : List V} {H1 : Hp} (hl : vs.length = names.length) (hn : names.length ≤ 1000) (q : ∀ d, H1 d = none → Q (.ref C) (some d) (upd H1 d (.xd (names.zip vs).reverse))) : MkEK C names Q vs H1 := by
  refine ⟨by omega, fun a hn => ?_⟩
  rw [List.append_nil]
  refine ⟨a, vs, rfl, hl, upd_same, fun dx hdx hne => ⟨rfl, dx, (names.zip vs).reverse, upd_same, ?_, ?_, ?_⟩⟩
  · rw [upd_ne hne, upd_same]
  · rw [upd_ne hne] at hdx
    exact hdx
  · rw [upd_ne hne] at hdx
    have e : upd (del (upd (upd (upd H1 a (exo a C none)) dx (exd dx (names.zip vs).reverse)) a (exo a C (some dx))) a) dx (.xd (names.zip vs).reverse) = upd H1 dx (.xd (names.zip vs).reverse) := by
      funext b
      by_cases h1 : b = dx
      · rw [h1, upd_same, upd_same]
      · rw [upd_ne h1, upd_ne h1]
        by_cases h2 : b = a
        · rw [h2, del_same, hn]
        · rw [del_ne h2, upd_ne h2, upd_ne h1, upd_ne h2]
    rw [e]
    exact q dx hdx
theorem pmk_err {X : Cx} {x : Str} {C : Addr} {names : List Str} {j : Nat} {e : Expr} {es : List Expr} {ta : TA} {p pos : Pos} (Er : Err X.prog X.w X.K X.mg X.base x C names) (hr : Room j X.A) (ha : PA X (e :: es) ta) (hk : 2 ≤ j := by decide) (hg : Gl X x := by rfl)
    (hdb : (x == ("__debug__" : Str)) = false := by decide) (he : starEach (e :: es) X.env = (false, eval e X.env) :: starEach es X.env := by rfl) (hpl : (backTo pos (starEach es X.env)).any (·.1) = false := by rfl) :
    PMk X (.Call (.Name x p) (e :: es) [] pos) (tMkO C (spErr C names) [] ta) := by
  obtain ⟨T, hm, fI, fd, ps, iC, tI, F1, hb⟩ := Er
  exact pmk_oex T iC tI F1 (hr.mono hk) hb (dvs := []) .nil passL hg hm ha hdb he hpl
/-- raise C(e, ..) in a def that lets out what E says -/
def tRaE (t : L2.St → Hp → XK → Prop) (E : XK) : TS := fun _ σ H => t σ H E
theorem ps_raE {X : Cx} {E : XK} {e : Expr} {t : L2.St → Hp → XK → Prop} {pos : Pos} (hc : X.calm = true) (tk : Takes X (fun cls d _ H => E cls d H)) (he : PMk X e t) : PS X (.Raise (some e) none pos) (tRaE t E) := ps_raise hc tk he
theorem rd_raE {t : L2.St → Hp → XK → Prop} {E : XK} {D : Ends} {σ : L2.St} {H : Hp} (q : t σ H E) : tRaE t E D σ H := q
/-! ### the __init__ of such a class -/
section
variable {P : Program} {w : World} {K : PySem.W.Frag} {mg : Str → Option Value} {base : Heap} {f C cc cda : Addr} {qual txt : Str} {params : Arguments} {scope : Scope} {dV kV doc pm ct oc : Value} {an od : Option Addr} {osl : Array (Option Value)} {j : Nat} {p0 p1 p2 p3 p4 p5 q0 q1 q2 q3 r0 r1 r2 r3 : Pos} {ar : Arg} {n1 n2 : Str}
theorem ok_err1 (lk : K.lookup f = some ⟨oc, od, .func (PySem.W.ksFn "__init__" qual params [supSt txt j p0 p1 p2 p3 p4 p5, .Assign [.Attribute (.Name "self" q0) n1 q1] (.Name n1 q2) q3] scope dV kV doc pm an (.ref cda) ct cc), osl⟩) (hcd : PySem.W.codeIn K (.ref cda) qual = true)
    (S : NdefX.NScope ["self", n1, "__class__"] ["self", n1] ["__class__"] scope) (har : (params.posonlyargs ++ params.args).head? = some ar) (har2 : ar.arg = "self") (hks : scope.names.lookup ("super" : Str) = some .globalImplicit) (T : OexC K C) (U : SupC P K mg C cc cda)
    {pl : Env → Sem Bool} (he : ∀ env : Env, eval (.Call (.Attribute (.Call (.Name "super" p0) [] [] p1) "__init__" p2) [.Constant (.str txt) j p3] [] p4) env = (do
      let ov ← attributeBase (.Call (.Name "super" p0) [] [] p1) "__init__" env (eval (.Call (.Name "super" p0) [] [] p1) env)
      standAt p2.atName
      let (f, first) ← holding [ov] (getMethod ov "__init__" (pl env))
      callWith p4 f first (backTo p4 (starEach [.Constant (.str txt) j p3] env)) []))
    (hno : PySem.W.findIn K (.ref C) n1 = some none) (h1 : (n1 == ("__debug__" : Str)) = false) (h2 : (n1 == ("__classdict__" : Str)) = false) (hsw : ∀ env, swapsWith (.Name n1 q2) (some (.Attribute (.Name "self" q0) n1 q1)) q3.line env = pure false) :
    FnOk P w K mg base (L2.CX P w) 1 f (PySem.W.ksFn "__init__" qual params [supSt txt j p0 p1 p2 p3 p4 p5, .Assign [.Attribute (.Name "self" q0) n1 q1] (.Name n1 q2) q3] scope dV kV doc pm an (.ref cda) ct cc) ["self", n1] (spErr C [n1]) := by
  refine fnS_of (k := 0) (N := ["self", n1, "__class__"]) (ps := [n1]) lk hcd S har har2 hks T U he (fun vs H Q E h => ?_) (fun A outer s H vs Q E hr h => ?_)
  · obtain ⟨a, ws, rfl, hl, _⟩ := h
    rw [List.length_cons, hl]
    rfl
  · obtain ⟨a, ws, rfl, hl, ha, k⟩ := h
    match ws, hl with
    | [v], _ =>
      refine ⟨a, _, rfl, ha, _, pss_one (ps_ost (pe_var (i := 0) (by rfl) (.inl (S.par _ List.mem_cons_self))) (pe_var (i := 1) (by rfl) (.inl (S.par _ (.tail _ List.mem_cons_self))) h1 h2) (hsw _)), ?_⟩
      refine ⟨v, rfl, .ref a, rfl, a, C, rfl, T, hno, .inl ⟨ha, fun dx n1 n2 => ?_⟩⟩
      exact k dx n1 n2
end
end Hf
namespace PySem.W
open PySem PySem.Spec PySem.Calls PyProof.Rows
section
variable {prog : Program} {w : World} {A : Around} {E : Value → Shared → Prop} {s : Shared} {K : Frag} {x D : Addr} {ox : Obj}
theorem findObj_dataD {C : Addr} {od : Option Obj} {name : Str} {a g : Value} (hc : (clsIn K C).isSome = true) (ha : findIn K (.ref C) name = some (some a)) (hg : specialIn K a "__get__" = some (some g)) (ht : takesIn K a = some true) : findObj K C od name = some (.bind g a) := by
  obtain ⟨cd, hc⟩ := Option.isSome_iff_exists.mp hc
  unfold findObj
  rw [hc, Option.bind_some, ha, Option.bind_some]
  simp [hg, ht]
theorem kin_classD {od : Option Obj} {Q : Option Value → Shared → Prop} (hga : findIn K (.ref D) "__getattribute__" = some (some (.builtin "BaseException.__getattribute__"))) (hgt : findIn K (.ref D) "__getattr__" = some none) (hsub : subIn K (.ref D) (.type "BaseException") = some true)
    (hdct : hasDictIn K D = true) (ha : findIn K (.ref D) "__class__" = some (some (.builtin "object.__class__")))
    (hn : specialIn K (.builtin "object.__class__") "__get__" = some (some (.builtin "getset_descriptor.__get__"))) (htk : takesIn K (.builtin "object.__class__") = some true) (hm : mroIn K D (.type "object") = some true)
    (X : K.In s.heap) (I : InstAt s.heap x ox D od) (h : Q (some (.ref D)) { s with toks := s.toks + 1 }) : wpAny (model prog w) A (getAttr? (.ref x) "__class__") Q E s := by
  have hf : findObj K D od "__class__" = some (.bind (.builtin "getset_descriptor.__get__") (.builtin "object.__class__")) := findObj_dataD (by obtain ⟨cd, hc, _⟩ := any_some hdct; rw [hc]; rfl) ha hn htk
  obtain ⟨hp, g, d, t, os⟩ := s
  have L0 := I.type (M := model prog w)
  have L1 := looks_findIn (M := model prog w) X hga
  have L2 := looks_findIn (M := model prog w) X hgt
  have L3 := looks_find (M := model prog w) X I hf
  have sub : Looks (model prog w) hp (isInstance (.ref x) (.type "BaseException")) true := L0.andThen (looks_subIn X hsub)
  have hx0 : (false && onTheHeap (Value.builtin "BaseException.__getattribute__")) = false := rfl
  have hx2 : (Value.builtin "BaseException.__getattribute__" == Value.builtin "object.__getattribute__") = false := by decide +kernel
  have hx1 : (onTheHeap (Value.ref D) && Value.builtin "BaseException.__getattribute__" == Value.builtin "object.__getattribute__") = false := by rw [hx2]; rfl
  unfold getAttr? getAttrBy? getAttrBy
  refine wpAny_bind (wpAny_mkText (wpAny_bind (wpAny_attempt (wpAny_holding (wpAny_bind (L0.at (wpAny_bind (L1.at ?_))))))))
  show wpAny _ _ (if (onTheHeap (Value.ref D) && Value.builtin "BaseException.__getattribute__" == Value.builtin "object.__getattribute__") = true then _ else _) _ _ _
  rw [hx1, if_neg Bool.false_ne_true]
  unfold getAttrByItsOwn hookBefore
  refine wpAny_bind ?_
  rw [if_pos (show onTheHeap (Value.ref D) = true from rfl)]
  refine L2.at ?_
  refine wpAny_bind (wpAny_attempt (wpAny_holding ?_))
  unfold callGetattribute
  rw [hx0, if_neg Bool.false_ne_true]
  unfold boundAndCalled
  rw [PySem.F.excAttr_ValueError.ga.bind (.ref x)]
  refine wpAny_bind (wpAny_pure ?_)
  show wpAny _ _ (call (.builtin "BaseException.__getattribute__") [.ref x, .str "__class__" t]) _ _ _
  refine wpAny_call (codeAny_call_builtin PySem.F.excAttr_ValueError.ga.plain PySem.F.entry_bexc_ga ?_)
  refine @check_slot (model prog w) _ _ ⟨hp, g, d, t + 1, os⟩ "BaseException.__getattribute__" "BaseException" "__getattribute__" (.ref x) [.str "__class__" t] [] _ (by decide +kernel) (by decide +kernel) sub (PySem.F.args_bexc_ga (.ref x) (.str "__class__" t)) ?_
  unfold Builtin.«object.__getattribute__»
  refine wpAny_bind (wpAny_of_eq (a := ((Value.ref x : Value), [Value.str "__class__" t])) (by first | rfl | (simp only [slotArgs]; rfl)) ?_)
  refine wpAny_bind (wpAny_pure (wpAny_bind (L0.at (wpAny_bind (L3.at ?_)))))
  show wpAny _ _ (holding [Value.builtin "object.__class__"] (call (.builtin "getset_descriptor.__get__") [.builtin "object.__class__", .ref x, .ref D]) >>= ret) _ _ _
  refine wpAny_bind (wpAny_holding (wpAny_call (class_get (s := ⟨hp, g, d, t + 1, os⟩) (ox := ox) (od := od) X I hm ?_)))
  refine wpAny_pure ?_
  show wpAny _ _ (handedOut (.ref D)) _ _ _
  rw [handedOut_of (v := .ref D) rfl]
  first
    | exact wpAny_pure (wpAny_pure h)
    | exact wpAny_pure h
    | exact wpAny_pure (wpAny_bind (wpAny_pure (wpAny_pure h)))
theorem kitx_excD {od : Option Obj} (hga : findIn K (.ref D) "__getattribute__" = some (some (.builtin "BaseException.__getattribute__"))) (hgt : findIn K (.ref D) "__getattr__" = some none) (hsub : subIn K (.ref D) (.type "BaseException") = some true) (hdct : hasDictIn K D = true) (ha : findIn K (.ref D) "__class__" = some (some (.builtin "object.__class__")))
    (hn : specialIn K (.builtin "object.__class__") "__get__" = some (some (.builtin "getset_descriptor.__get__"))) (htk : takesIn K (.builtin "object.__class__") = some true) (hm : mroIn K D (.type "object") = some true) :
    KitX K (.ref x) (.ref D) (fun h => InstAt h x ox D od) where
  ty := fun _ _ _ I => I.type
  it := fun _ _ X _ => by
    obtain ⟨cdD, hcD, _⟩ := any_some hdct
    unfold clsIn at hcD
    split at hcD
    · rename_i c' d' cd' sl' ho
      intro A' Q' E' s' k q
      unfold isType loadHead
      exact wpAny_bind (wpAny_loadPart (k _ _ (X _ _ ho)) (wpAny_pure q))
    · cases hcD
  ne := fun h tp dd its n sl X htp => by
    obtain ⟨cdD, hcD, _⟩ := any_some hdct
    refine Bool.eq_false_iff.mpr fun q => ?_
    have e : D = tp := Value.ref.inj (beq_iff_eq.mp q)
    subst e
    unfold clsIn at hcD
    split at hcD
    · rename_i c' d' cd' sl' ho
      have z := (X _ _ ho).symm.trans htp
      cases z
    · cases hcD
  ca := fun X I k => kin_classD hga hgt hsub hdct ha hn htk hm X I k
end
end PySem.W
namespace Hf
open PySem PySem.Spec PyProof.Rows L2
theorem call_isD {X : Cx} {a D dd : Addr} {oe : Obj} {pn : List (Addr × Obj)} {fs : List (Str × V)} (C : ExcC X.K D) (hz : Zc (.ref D) (some dd) oe) (hf : ∃ vs, oe.data = .fields vs) : CallR (X.suite a ((a, oe) :: pn)) (.builtin "isinstance") (fun xs H Q => (∃ fs, H dd = some (.xd fs)) ∧ rIsE X.K D a xs H Q) := by
  intro pins s σ H xs us Q I r h
  obtain ⟨⟨fs, hdd⟩, c, cv, b, rfl, hcv, e, q⟩ := h
  cases r with
  | cons rx rr =>
    cases rr with
    | cons rt rr =>
      cases rr
      cases rx
      have ec := hcv _ rt
      subst ec
      obtain ⟨hget, _⟩ := I.pin (a, oe) (List.mem_append.mpr (.inl List.mem_cons_self))
      obtain ⟨vs, hv⟩ := hf
      have hx : ObjOk X.prog X.w H s.heap dd (.xd fs) := I.hok dd _ hdd
      obtain ⟨mA, hns, hr⟩ := hx
      obtain ⟨od, ho, hl⟩ := lookIn_ns hns
      have J : PySem.W.InstAt s.heap a oe D (some od) := ⟨hget, hz.1, by unfold PySem.W.notCls; rw [hv] <;> rfl, by rw [hz.2]; exact ho⟩
      exact PySem.W.kia_one (PySem.W.kitx_excD C.hg C.hk C.hs C.hd C.ha C.hn C.ht C.hm) I.kIn J e (fun z => nomatch z) fun tk => ⟨.bl b, H, I.kept (t' := tk) fun _ _ z => z, rfl, q⟩
end Hf
namespace Hf
open PySem PySem.Spec PyProof.Rows L2 LamX
/-- law_call with tables: cs, the code objects and their tables -/
theorem law_callGT {P : Program} {w : World} {K : PySem.W.Frag} {mg mb : Str → Option Value} {CX : CXT} {k : Nat} {fa a : Addr} {cs : List (Addr × Addr)} {sp : Sp} {s₁ : Shared} {vs : List Value} {ns : List Int}
    (KX : K.In s₁.heap) (hns : s₁.heap.Ns mainGlobals mg) (hb : s₁.heap.Ns builtinsNs mb) (hbb : ∀ x : Str, x ≠ "__name__" → mb x = bootBuiltins x) (hlim : s₁.heap.NoLimit) (hg : s₁.gens = #[])
    (hT : ∀ p ∈ cs, s₁.heap.get? p.2 = some { cls := .none, data := .fields #[] }) (nT : ∀ p ∈ cs, K.lookup p.2 = none) (C : ∀ p ∈ cs, PySem.W.CodeHd s₁.heap p.1 p.2)
    (hbm : ∃ (bm : Addr) (ob : Obj), mg "__builtins__" = some (.ref bm) ∧ bm ≠ builtinsNs ∧ s₁.heap.get? bm = some ob ∧ ob.cls = .type "module" ∧ ob.dict = some builtinsNs ∧ ob.data = .plain)
    (ha : s₁.heap.get? a = some { cls := .type "list", data := .seq vs.toArray }) (hi : IntsAre vs ns) (hl : ns.length ≤ sizeLine) (hr : Room k callerA)
    (F : ∀ base : Heap, K.In base → base.Ns mainGlobals mg → (∀ p ∈ cs, TabB base mg p.1 p.2) → FnG P w K mg base CX k fa sp)
    (hsp : ∀ H : Hp, (∀ p ∈ cs, H p.2 = some (.tbl #[])) → SqL K H a (ns.map V.int) → sp [.ref a] H (fun v _ => v = .bl true) fun _ _ _ => False)
    (hCX : ∀ H e s', CX [] H s₁ (fun _ _ _ => False) e s' → False) :
    codeAny (model P w) callerA (.call (.ref fa) ⟨[.ref a], []⟩) (fun r s' => r = .ok (.ret (.bool true)) ∧ OldK s₁.heap s'.heap ∧ s'.os = s₁.os ∧ AllBare s'.gens) s₁ := by
  have rv := vals_ints hi
  have lenV := hi.length
  have isT : ∀ b : Addr, b ∈ cs.map (·.2) → s₁.heap.get? b = some { cls := .none, data := .fields #[] } := fun b hb => by
    obtain ⟨p, hp, e⟩ := List.mem_map.mp hb
    rw [← e]
    exact hT p hp
  have aT : a ∉ cs.map (·.2) := fun z => by
    have q := isT a z
    rw [ha] at q
    have z' : Data.seq vs.toArray _ = Data.fields #[] := congrArg Obj.data (Option.some.inj q)
    cases z'
  have memT : ∀ p ∈ cs, p.2 ∈ cs.map (·.2) := fun p hp => List.mem_map.mpr ⟨p, hp, rfl⟩
  -- from an abstract heap in which nothing but the script and the tables may be tracked
  have core : ∀ H : Hp, (∀ p ∈ cs, H p.2 = some (.tbl #[])) → (∀ b, H b = none ∨ b ∈ cs.map (·.2) ∨ ∃ o xs, H b = some (.frz o (.lst xs))) → SqL K H a (ns.map V.int) → HOk P w H s₁.heap → (∀ b, H b ≠ none → b = a ∨ b ∈ cs.map (·.2)) → (H a ≠ none → K.lookup a = none) →
      codeAny (model P w) callerA (.call (.ref fa) ⟨[.ref a], []⟩) (fun r s' => r = .ok (.ret (.bool true)) ∧ OldK s₁.heap s'.heap ∧ s'.os = s₁.os ∧ AllBare s'.gens) s₁ := by
    intro H hH hO hS hok hA hK
    have base_of : ∀ {b : Addr} {o : Obj}, s₁.heap.get? b = some o → H b = none → (hidT s₁.heap H).get? b = some o := fun e n => hidT_get e n
    have noD : ∀ {b : Addr} {o : Obj}, s₁.heap.get? b = some o → (∀ vs n, o.data ≠ .seq vs n) → o.data ≠ .fields #[] → H b = none := fun {b o} e h1 h2 => by
      cases q : H b with
      | none => rfl
      | some u =>
        rcases hA b (by rw [q]; simp) with e' | e'
        · rw [e', ha] at e
          cases e
          exact (h1 _ _ rfl).elim
        · rw [isT b e'] at e
          cases e
          exact (h2 rfl).elim
    have noA : ∀ {b : Addr} {o : Obj} {es : Array DictEntry} {ep : Nat}, s₁.heap.get? b = some o → o.data = .dict es ep → H b = none := fun {b o es ep} e d => by
      refine noD e (fun vs n z => ?_) fun z => ?_
      · rw [d] at z
        cases z
      · rw [d] at z
        cases z
    have nsK : ∀ {b : Addr} {m : Str → Option Value}, s₁.heap.Ns b m → (hidT s₁.heap H).Ns b m := fun {b m} ⟨o, es, ep, e, d, r⟩ => ⟨o, es, ep, base_of e (noA e d), d, r⟩
    have hKb : K.In (hidT s₁.heap H) := fun b o e => base_of (KX b o e) (by
      cases q : H b with
      | none => rfl
      | some u =>
        rcases hA b (by rw [q]; simp) with e' | e'
        · rw [e'] at e q
          rw [hK (by rw [q]; simp)] at e
          cases e
        · obtain ⟨p, hp, ep⟩ := List.mem_map.mp e'
          rw [← ep, nT p hp] at e
          cases e)
    have hM : L2.Mod K mg (hidT s₁.heap H) := ⟨hKb, nsK hns, ⟨mb, nsK hb, hbb⟩, let ⟨mc, h1, h2⟩ := hlim; ⟨mc, nsK h1, h2⟩⟩
    have TB : ∀ p ∈ cs, TabB (hidT s₁.heap H) mg p.1 p.2 := fun p hp => by
      have hTp := hT p hp
      refine ⟨?_, ?_, fun z => ?_⟩
      · obtain ⟨o, us, file, tf, flags, tg, inF, text, tt, e1, r1, r2, r3, r4, r5, r6, r7, r8, hne⟩ := C p hp
        refine ⟨o, us, file, tf, flags, tg, inF, text, tt, base_of e1 (noD e1 (fun vs n z => ?_) fun z => ?_), r1, r2, r3, r4, r5, r6, r7, r8, hne⟩
        · rw [r2] at z
          cases z
        · rw [r2] at z
          cases z
          simp at r3
      · obtain ⟨bm, ob, b1, b2, b3, b4, b5, b6⟩ := hbm
        have nG : bm ≠ mainGlobals := fun q => by
          obtain ⟨o, es, ep, e, hd, _⟩ := hns
          rw [q, e] at b3
          cases b3
          rw [hd] at b6
          cases b6
        have nP : bm ≠ p.2 := fun q => by
          rw [q, hTp] at b3
          cases b3
          cases b6
        refine ⟨bm, ob, b1, b2, nG, nP, base_of b3 (noD b3 (fun vs n z => ?_) fun z => ?_), b4, b5, b6⟩
        · rw [b6] at z
          cases z
        · rw [b6] at z
          cases z
      · obtain ⟨o, es, ep, e, hd, _⟩ := hns
        rw [z, hTp] at e
        cases e
        cases hd
    have e0 : Env0 P w K mg (hidT s₁.heap H) callerA [] s₁ H := ⟨rfl, hM, fun b o e => of_hidT e, Nat.le_of_eq (hidT_size _ _), trivial, fun b hb => absurd (show b ∈ ([] : List Addr) from hb) (by simp), hok, .of_eq hg⟩
    refine codeAny_mono (F _ hKb (nsK hns) TB callerA [] s₁ H [.ref a] [.ref a] _ _ hr rfl e0 (.cons rfl .nil) (hsp H hH hS)) fun r s' h => ?_
    cases r with
    | error e => exact (hCX H e s' h).elim
    | ok fl =>
      cases fl with
      | next => exact False.elim h
      | brk => exact False.elim h
      | cont => exact False.elim h
      | ret u =>
        obtain ⟨v, H', os, bare, un, hok', r', q⟩ := h
        have q' : v = .bl true := q
        subst q'
        obtain rfl : u = Value.bool true := r'
        have key : ∀ b o, b ∉ cs.map (·.2) → s₁.heap.get? b = some o → s'.heap.get? b = some o := fun b o nb e => by
          cases q : H b with
          | none => exact un.keep b o e q (by intro z; exact absurd (show b ∈ ([] : List Addr) from z) (by simp)) (by simp)
          | some u =>
            rcases hO b with z | z | ⟨ob, xs, z⟩
            · rw [q] at z; cases z
            · exact absurd z nb
            · have z2 := un.frzs b ob _ z
              obtain ⟨e1, _⟩ := hok b _ z
              obtain ⟨e2, _⟩ := hok' b _ z2
              rw [e] at e1; cases e1
              exact e2
        have grown : ∀ p ∈ cs, ∃ more : Array Value, s'.heap.get? p.2 = some { cls := .none, data := .fields more } := fun p hp => by
          obtain ⟨more, z⟩ := un.tbls p.2 #[] (hH p hp)
          exact ⟨_, hok' p.2 _ z⟩
        refine ⟨rfl, ⟨fun b o e => ?_, fun b o e => ?_⟩, os, bare⟩
        · by_cases hb : b ∈ cs.map (·.2)
          · obtain ⟨p, hp, ep⟩ := List.mem_map.mp hb
            obtain ⟨more, hm⟩ := grown p hp
            rw [← ep] at e ⊢
            rw [hT p hp] at e
            cases e
            exact .inr (.inl ⟨((C p hp).tab (hT p hp)).isCodeTable, rfl, #[], more, rfl, by rw [Array.empty_append]; exact hm⟩)
          · exact .inl (key b o hb e)
        · by_cases hb : b ∈ cs.map (·.2)
          · obtain ⟨p, hp, ep⟩ := List.mem_map.mp hb
            obtain ⟨more, hm⟩ := grown p hp
            rw [← ep]
            exact ⟨_, hm⟩
          · exact ⟨o, key b o hb e⟩
  cases hk : K.lookup a with
  | some o =>
    have e := KX a o hk
    rw [ha] at e
    cases e
    refine core (fun b => if b ∈ cs.map (·.2) then some (.tbl #[]) else none) (fun p hp => if_pos (memT p hp)) (fun b => ?_) (.inr ⟨_, vs.toArray, _, hk, rfl, rfl, rfl, by rw [List.size_toArray, lenV]; exact hl, by simpa using rv⟩) (fun b u z => ?_) (fun b z => ?_) fun z => absurd (show (if a ∈ cs.map (·.2) then some (HO.tbl #[]) else none) = none from if_neg aT) z
    · by_cases hb : b ∈ cs.map (·.2)
      · exact .inr (.inl hb)
      · exact .inl (if_neg hb)
    · by_cases hb : b ∈ cs.map (·.2)
      · have z' := (if_pos hb).symm.trans z
        cases z'
        exact isT b hb
      · have z' := (if_neg hb).symm.trans z
        cases z'
    · by_cases hb : b ∈ cs.map (·.2)
      · exact .inr hb
      · exact absurd (if_neg hb) z
  | none =>
    refine core (fun b => if b = a then some (.frz { cls := .type "list", data := .seq vs.toArray } (.lst (ns.map V.int))) else if b ∈ cs.map (·.2) then some (.tbl #[]) else none) (fun p hp => (if_neg (show ¬ p.2 = a from fun z => aT (by rw [← z]; exact memT p hp))).trans (if_pos (memT p hp))) (fun b => ?_)
      (.inl (.inr ⟨{ cls := .type "list", data := .seq vs.toArray }, if_pos rfl⟩)) (fun b u z => ?_) (fun b z => ?_) fun _ => hk
    · by_cases hb : b = a
      · exact .inr (.inr ⟨_, _, if_pos hb⟩)
      · by_cases hb2 : b ∈ cs.map (·.2)
        · exact .inr (.inl hb2)
        · exact .inl ((if_neg hb).trans (if_neg hb2))
    · by_cases hb : b = a
      · have z' := (if_pos hb).symm.trans z
        cases z'
        rw [hb]
        exact ⟨ha, by rw [List.length_map]; exact hl, vs, _, rv, ha⟩
      · have z1 := (if_neg hb).symm.trans z
        by_cases hb2 : b ∈ cs.map (·.2)
        · have z' := (if_pos hb2).symm.trans z1
          cases z'
          exact isT b hb2
        · have z' := (if_neg hb2).symm.trans z1
          cases z'
    · by_cases hb : b = a
      · exact .inl hb
      · by_cases hb2 : b ∈ cs.map (·.2)
        · exact .inr hb2
        · exact absurd ((if_neg hb).trans (if_neg hb2)) z
/-- what is known of the law's promise at the head's heap h, with tables -/
def LawGT (l : PySem.W.OpenLaw) (w : World) (K : PySem.W.Frag) (k : Nat) (mg : Str → Option Value) (fa : Addr) (h : Heap) : Prop :=
  ∃ (cs : List (Addr × Addr)) (sp : Sp), (∀ p ∈ cs, h.get? p.2 = some { cls := .none, data := .fields #[] }) ∧ (∀ p ∈ cs, K.lookup p.2 = none) ∧ (∀ p ∈ cs, PySem.W.CodeHd h p.1 p.2) ∧
    (∀ (H : Hp) (a : Addr) (ns : List Int), ns.length ≤ 63 → (∀ p ∈ cs, H p.2 = some (.tbl #[])) → SqL K H a (ns.map V.int) → sp [.ref a] H (fun v _ => v = .bl true) fun _ _ _ => False) ∧
    ∀ base : Heap, K.In base → base.Ns mainGlobals mg → (∀ p ∈ cs, TabB base mg p.1 p.2) → FnG l.prog w K mg base (L2.CX l.prog w) k fa sp
/-- the tables of the top's defs are empty at the start -/
def TopTabs (q : Program) (K : PySem.W.Frag) (mg : Str → Option Value) (h : Heap) : Prop := ∀ (x : Str) (fa c P : Addr) (o : Obj) (fd : FuncData) (e : Value) (dd : Option Addr) (vs : Array Value) (sl : Array (Option Value)), ((recsOf q).any fun e => e.name == x) = true → mg x = some (.ref fa) → K.lookup fa = some o → o.data = .func fd → fd.code = .ref c → K.lookup c = some ⟨e, dd, .fields vs, sl⟩ → vs[11]? = some (.ref P) →
  h.get? P = some { cls := .none, data := .fields #[] }
theorem walkGT {l : PySem.W.OpenLaw} {q : Program} {loose : List Str} {XP : (Str → Option Value) → Heap → Prop} {YP : World → Heap → Prop} {d : DefRec} {K : Params → PySem.W.Frag} {k : Nat} (hk : k ≤ 100) (hn : l.most = some 63) (hdf : d.params.defaults = [])
    (hY : ∀ (w : World) (h : Heap), YP w h → (K w.params).In h)
    (F : ∀ (w : World) (mg : Str → Option Value) (fa : Addr) (h : Heap), (K w.params).In h → h.Ns mainGlobals mg → mg d.name = some (.ref fa) → TopTabs q (K w.params) mg h → LawGT l w (K w.params) k mg fa h) :
    PySem.W.WalkO q loose XP YP l.row.toRowW d [] (fun f vs => PySem.call f vs) := by
  refine Att.attach_call hn hdf fun w s₀ s₁ mg mb fa o pm cd doc a vs ns G Y ho hd hcd hmg hobj hints hlen hg => ?_
  have KX := hY w _ Y
  have own : TopTabs q (K w.params) mg s₁.heap := fun x fa c P o1 fd1 e dd vs1 sl hrec hmg k1 k2 k3 k4 k5 => by
    obtain ⟨dL, hm, hn1⟩ := List.any_eq_true.mp hrec
    have hn2 : dL.name = x := beq_iff_eq.mp hn1
    obtain ⟨a', o', fd', c', P', h1, h2, h3, h4, h5, h6⟩ := G.T.tab dL hm
    rw [hn2, hmg] at h1
    cases h1
    have g1 := KX _ _ k1
    rw [g1] at h2
    cases h2
    rw [k2] at h3
    cases h3
    rw [k3] at h4
    cases h4
    obtain ⟨⟨oc, vc, e1, _, e3, e4⟩, hP⟩ := h6
    have g2 := KX _ _ k4
    rw [g2] at e1
    cases e1
    cases e3
    rw [k5] at e4
    cases e4
    exact hP
  obtain ⟨cs, sp, hT, nT, C, hsp, hF⟩ := F w mg fa _ KX G.T.g hmg own
  exact law_callGT KX G.T.g G.T.b G.T.builtins G.T.nolimit hg hT nT C G.T.bmain hobj hints (Nat.le_trans hlen (by decide)) (Room.mono ⟨rfl, by decide, by decide⟩ hk) hF (fun H hH hS => hsp H a ns hlen hH hS) fun H e s' z => cx_no z
end Hf
namespace Hf
open PySem PySem.Spec PyProof.Rows L2
section
variable {X : Cx} {C : Addr} {sp : Sp} {E : XK} {k j : Nat}
/-- x in p, p an instance of C, by its own __contains__ -/
def rInM (C : Addr) (sp : Sp) (E : XK) (neg : Bool) : R2 := fun x y H Q => ∃ p dx fs, y = .ref p ∧ H p = some (.ins C dx fs) ∧ sp [.ref p, x] H (fun v H' => ∃ c, v = .bl c ∧ Q (.bl (c != neg)) H') E
theorem op_inM (M : Met X.prog X.w X.K X.mg X.base k C "__contains__" sp) (hr : Room j X.A) (hx : Passes (L2.CX X.prog X.w) X E) (hk : k ≤ j := by decide) : OpR X (compareOp .In) (rInM C sp E false) := by
  obtain ⟨g, o, F⟩ := M.opr
  intro pins s σ H x y v u Q I rx ry h
  obtain ⟨p, dx, fs, rfl, hp, q⟩ := h
  cases (show u = Value.ref p from ry)
  obtain ⟨ox, od, J⟩ := ins_at I hp
  obtain ⟨m, hF⟩ := I.fr
  refine PySem.W.in_K hF I.ok.mod.kin J o.at_ o.fn ?_
  refine wpAny_mono (wpAny_call (run_fnR (us := [.ref p, v]) (vs := [.ref p, x]) F (hr.mono hk) hx I (.cons rfl (.cons rx .nil)) q)) (fun w s' z => ?_) fun _ _ x => x
  obtain ⟨z', H', I', rz, c, ec, qz⟩ := z
  subst ec
  cases (show w = Value.bool c from rz)
  refine wpAny_truthy_bool ?_
  exact ⟨.bl c, H', I', rfl, by simpa using qz⟩
theorem op_notInM (M : Met X.prog X.w X.K X.mg X.base k C "__contains__" sp) (hr : Room j X.A) (hx : Passes (L2.CX X.prog X.w) X E) (hk : k ≤ j := by decide) : OpR X (compareOp .NotIn) (rInM C sp E true) := by
  obtain ⟨g, o, F⟩ := M.opr
  intro pins s σ H x y v u Q I rx ry h
  obtain ⟨p, dx, fs, rfl, hp, q⟩ := h
  cases (show u = Value.ref p from ry)
  obtain ⟨ox, od, J⟩ := ins_at I hp
  obtain ⟨m, hF⟩ := I.fr
  refine PySem.W.notIn_K hF I.ok.mod.kin J o.at_ o.fn ?_
  refine wpAny_mono (wpAny_call (run_fnR (us := [.ref p, v]) (vs := [.ref p, x]) F (hr.mono hk) hx I (.cons rfl (.cons rx .nil)) q)) (fun w s' z => ?_) fun _ _ x => x
  obtain ⟨z', H', I', rz, c, ec, qz⟩ := z
  subst ec
  cases (show w = Value.bool c from rz)
  refine wpAny_truthy_bool ?_
  exact ⟨.bl (!c), H', I', rfl, by simpa using qz⟩
end
end Hf
namespace Hf
open PySem PySem.Spec PyProof.Rows L2
section
variable {P : Program} {w : World} {K : PySem.W.Frag} {mg : Str → Option Value} {base : Heap}
/-- a def that may raise: what it lets out is E's -/
theorem fnRX {x qual : Str} {st : Stmt} {f : Addr} {fd : FuncData} {N ps : List Str} {k : Nat} {sp : Sp} (F : Fun K x qual st f fd) (b : Binds K fd ps []) (S : FnScope N ps (defScope st)) (len : ∀ vs H Q E, sp vs H Q E → vs.length = ps.length)
    (hbody : ∀ (cdv : Value) (A : Around) (outer : List Env) (s : Shared) (H : Hp) (vs : List V) (Q : VK) (E : XK), Room k (A.deeper (envOfC qual (defScope st) s.heap.objs.size f cdv)) → Takes (cxOf (L2.CX P w) P w K mg base N qual (defScope st) f cdv A outer s H E) (fun cls d _ H => E cls d H) → sp vs H Q E →
      ∃ t, PSs (cxOf (L2.CX P w) P w K mg base N qual (defScope st) f cdv A outer s H E) (defBody st) t ∧ t { nx := fun _ H' => Q .non H', rt := Q } (L2.start N vs) H) : FnR P w K mg base (L2.CX P w) (k + 1) f sp := by
  have G := F.okX (P := P) (w := w) (mg := mg) (base := base) S len fun cdv A outer s H vs Q E hr h => hbody cdv A outer s H vs Q E hr (takes_of rfl rfl rfl rfl) h
  exact (G.raw b .nil).imp fun vs H Q E h => by rw [List.append_nil]; exact h
theorem fnOkDX {x qual : Str} {params : Arguments} {body : List Stmt} {scope : Scope} {dvs : List V} {kws : List (Str × V)} {f : Addr} {fd : FuncData} {N ps : List Str} {k : Nat} {sp : Sp} (F : FunD K x qual params body scope dvs kws f fd) (S : FnScope N ps scope) (len : ∀ vs H Q E, sp vs H Q E → vs.length = ps.length)
    (hbody : ∀ (cdv : Value) (A : Around) (outer : List Env) (s : Shared) (H : Hp) (vs : List V) (Q : VK) (E : XK), Room k (A.deeper (envOfC qual scope s.heap.objs.size f cdv)) → Takes (cxOf (L2.CX P w) P w K mg base N qual scope f cdv A outer s H E) (fun cls d _ H => E cls d H) → sp vs H Q E →
      ∃ t, PSs (cxOf (L2.CX P w) P w K mg base N qual scope f cdv A outer s H E) body t ∧ t { nx := fun _ H' => Q .non H', rt := Q } (L2.start N vs) H) : FnOk P w K mg base (L2.CX P w) (k + 1) f fd ps sp :=
  F.ok (CX := L2.CX P w) (P := P) (w := w) (mg := mg) (base := base) S len fun cdv A outer s H vs Q E hr h => hbody cdv A outer s H vs Q E hr (takes_of rfl rfl rfl rfl) h
end
theorem passE {X : Cx} {E : XK} (tk : Takes X (fun cls d _ H => E cls d H)) : Passes (L2.CX X.prog X.w) X E := passes_call tk fun _ _ _ _ h => h
/-- v is no whole number: is_whole says no -/
def NotW (K : PySem.W.Frag) (H : Hp) (v : V) : Prop := ∃ (t : Value) (b1 b2 : Bool), TyX K H v t ∧ PySem.W.kitOne K t (.type "int") = some b1 ∧ PySem.W.kitOne K t (.type "bool") = some b2 ∧ (b1 && !b2) = false
theorem TyX.same {K : PySem.W.Frag} {H H' : Hp} {v : V} {t : Value} (h : TyX K H v t) (e : Same H H') : TyX K H' v t := by
  cases h with
  | base b =>
    cases b with
    | non => exact .base .non
    | bl y => exact .base (.bl y)
    | int y => exact .base (.int y)
    | str y => exact .base (.str y)
    | flt y => exact .base (.flt y)
    | lst h => exact .base (.lst (e _ _ h))
    | frz h => exact .base (.frz (e _ _ h))
    | tup h => exact .base (.tup (e _ _ h))
    | dK h => exact .base (.dK (e _ _ h))
    | dT h => exact .base (.dT (e _ _ h))
    | ins h a b c d f => exact .base (.ins (e _ _ h) a b c d f)
  | byt y => exact .byt y
  | set h => exact .set (e _ _ h)
  | kList a b => exact .kList a b
  | kTuple a b => exact .kTuple a b
  | kDict a b => exact .kDict a b
  | fTuple h => exact .fTuple (e _ _ h)
  | fDict h => exact .fDict (e _ _ h)
theorem TyX.keep {K : PySem.W.Frag} {H H' : Hp} {b : Addr} {v : V} {t : Value} (h : TyX K H v t) (e : Keep b H H') (n : v ≠ .ref b) : TyX K H' v t := by
  have n' : ∀ {a : Addr}, v = .ref a → a ≠ b := fun {a} z q => n (by rw [z, q])
  cases h with
  | base c =>
    cases c with
    | non => exact .base .non
    | bl y => exact .base (.bl y)
    | int y => exact .base (.int y)
    | str y => exact .base (.str y)
    | flt y => exact .base (.flt y)
    | lst h => exact .base (.lst (e _ _ h (n' rfl)))
    | frz h => exact .base (.frz (e _ _ h (n' rfl)))
    | tup h => exact .base (.tup (e _ _ h (n' rfl)))
    | dK h => exact .base (.dK (e _ _ h (n' rfl)))
    | dT h => exact .base (.dT (e _ _ h (n' rfl)))
    | ins h a b c d f => exact .base (.ins (e _ _ h (n' rfl)) a b c d f)
  | byt y => exact .byt y
  | set h => exact .set (e _ _ h (n' rfl))
  | kList a b => exact .kList a b
  | kTuple a b => exact .kTuple a b
  | kDict a b => exact .kDict a b
  | fTuple h => exact .fTuple (e _ _ h (n' rfl))
  | fDict h => exact .fDict (e _ _ h (n' rfl))
theorem NotW.same {K : PySem.W.Frag} {H H' : Hp} {v : V} (h : NotW K H v) (e : Same H H') : NotW K H' v := let ⟨t, b1, b2, a, b, c, d⟩ := h; ⟨t, b1, b2, TyX.same a e, b, c, d⟩
theorem NotW.keep {K : PySem.W.Frag} {H H' : Hp} {b : Addr} {v : V} (h : NotW K H v) (e : Keep b H H') (n : v ≠ .ref b) : NotW K H' v := let ⟨t, b1, b2, a, x, c, d⟩ := h; ⟨t, b1, b2, TyX.keep a e n, x, c, d⟩
theorem wh_not {K : PySem.W.Frag} {H : Hp} {v : V} {Q : VK} {E : XK} (h : NotW K H v) (q : Q (.bl false) H) : spWhole K [v] H Q E := by
  obtain ⟨t, b1, b2, a, b, c, d⟩ := h
  exact ⟨v, t, b1, b2, rfl, a, b, c, by rw [d]; exact q⟩
theorem nn_int {j : Int} : (!decide (V.int j = V.non)) = true := by
  rw [decide_eq_false (by intro z; cases z)]
  rfl
theorem eqI2 {a b : Int} : decide (V.int a = V.int b) = decide (a = b) := by
  congr 1
  exact propext ⟨fun z => by cases z; rfl, fun z => by rw [z]⟩
theorem sm_log {i : Int} (h : Sm i) : i.natAbs.log2 < 1920 := Nat.lt_trans (PySem.Flt.log2_lt_of (by decide) h.nat) (by decide)
def FmtK (Q : VK) (x : V) (H1 : Hp) : Prop := (∃ y : Str, x = .str y ∧ y.length ≤ sizeLine ∧ Q (.str y) H1) ∨ ∃ i : Int, x = .int i ∧ i.natAbs.log2 < 1920 ∧ Q (.str (toString i)) H1
theorem rd_fmt {te : TE} {σ : L2.St} {H : Hp} {Q : VK} (q : te σ H (FmtK Q)) : tFmt te σ H Q := q
def JsK (ts : List TE) (acc : Str) (σ : L2.St) (Q : Str → Hp → Prop) (x : V) (H1 : Hp) : Prop := ∃ y : Str, x = .str y ∧ (acc ++ y).length ≤ sizeLine ∧ tJs ts (acc ++ y) σ H1 Q
theorem rd_jsC {t : TE} {ts : List TE} {acc : Str} {σ : L2.St} {H : Hp} {Q : Str → Hp → Prop} (q : t σ H (JsK ts acc σ Q)) : tJs (t :: ts) acc σ H Q := q
theorem rd_jsN {acc : Str} {σ : L2.St} {H : Hp} {Q : Str → Hp → Prop} (q : Q acc H) : tJs [] acc σ H Q := q
/-! ### Sizes -/
def szF (lo : Int) (hi : V) : List (Str × V) := [("low", .int lo), ("high", hi)]
def SzAt (C : Addr) (H : Hp) (p : Addr) (lo : Int) (hi : V) : Prop := ∃ dx, H p = some (.ins C dx (szF lo hi))
theorem SzAt.same {C : Addr} {H H' : Hp} {p : Addr} {lo : Int} {hi : V} (h : SzAt C H p lo hi) (e : Same H H') : SzAt C H' p lo hi := let ⟨dx, h⟩ := h; ⟨dx, e _ _ h⟩
theorem SzAt.keep {C b : Addr} {H H' : Hp} {p : Addr} {lo : Int} {hi : V} (h : SzAt C H p lo hi) (e : Keep b H H') (n : p ≠ b) : SzAt C H' p lo hi := let ⟨dx, h⟩ := h; ⟨dx, e _ _ h n⟩
/-- high is not what it must be beside low -/
def BadHi (K : PySem.W.Frag) (H : Hp) (lo : Int) (hi : V) : Prop := (hi ≠ .non ∧ NotW K H hi) ∨ ∃ j : Int, hi = .int j ∧ (j < lo ∨ (lo ≤ j ∧ (j - lo) % 2 = 1))
def OkHi (lo : Int) (hi : V) : Prop := hi = .non ∨ ∃ j : Int, hi = .int j ∧ lo ≤ j ∧ (j - lo) % 2 = 0
/-- an error of the class at CB with one field is let out -/
def Lets (E : XK) (CB : Addr) (H : Hp) (fs : List (Str × V)) : Prop := ∀ d, H d = none → E (.ref CB) (some d) (upd H d (.xd fs))
def spSzI (K : PySem.W.Frag) (C CB : Addr) : Sp := fun vs H Q E => ∃ (p dx : Addr) (lo hi : V), vs = [.ref p, lo, hi] ∧ H p = some (.ins C dx []) ∧
  (((NotW K H lo ∨ ∃ i : Int, lo = .int i ∧ i < 1) ∧ Lets E CB H [("part", .str "low")]) ∨ ∃ i : Int, lo = .int i ∧ 1 ≤ i ∧ ((BadHi K H i hi ∧ Lets E CB H [("part", .str "high")]) ∨ (OkHi i hi ∧ ∀ H', H' p = some (.ins C dx (szF i hi)) → Keep p H H' → Q .non H')))
theorem f_lh : ¬ ("low" : Str) = "high" := by decide +kernel
theorem sz_low {lo : Int} {hi : V} : List.lookup ("low" : Str) (szF lo hi) = some (.int lo) := lk_hit
theorem sz_high {lo : Int} {hi : V} : List.lookup ("high" : Str) (szF lo hi) = some hi := (lk_miss f_lh).trans lk_hit
theorem sz_make {lo : Int} {hi : V} : putF "high" hi (putF "low" (.int lo) []) = szF lo hi := by
  rw [pf_nil, pf_miss f_lh, pf_nil]
  rfl
/-- what the written part says of Sizes, at C -/
structure SzC (K : PySem.W.Frag) (mg : Str → Option Value) (C : Addr) : Prop where
  cl : Cls K C
  n1 : NoAttr K C "low"
  n2 : NoAttr K C "high"
  g : mg "Sizes" = some (.ref C)
  ne : NeC K C
  ha : PySem.W.findIn K (.ref C) "__class__" = some (some (.builtin "object.__class__"))
  hn : PySem.W.specialIn K (.builtin "object.__class__") "__get__" = some (some (.builtin "getset_descriptor.__get__"))
  tk : PySem.W.takesIn K (.builtin "object.__class__") = some true
  mo : PySem.W.mroIn K C (.type "object") = some true
  kT : PySem.W.kitOne K (.type "tuple") (.ref C) = some false
  nT : PySem.W.subIn K (.type "tuple") (.ref C) = some false
theorem SzC.ty {K : PySem.W.Frag} {mg : Str → Option Value} {C : Addr} (T : SzC K mg C) {H : Hp} {p dx : Addr} {fs : List (Str × V)} (h : H p = some (.ins C dx fs)) : TyX K H (.ref p) (.ref C) := .base (.ins h T.cl T.ha T.hn T.tk T.mo)
/-- value in sizes -/
def hiOk : V → Int → Bool
  | .int j, n => decide (n ≤ j)
  | _, _ => true
def szIn (lo : Int) (hi : V) (n : Int) : Bool := decide (lo ≤ n) && (decide ((n - lo) % 2 = 0) && hiOk hi n)
def spSzIn (K : PySem.W.Frag) (C : Addr) : Sp := fun vs H Q _ => ∃ (p : Addr) (lo : Int) (hi v : V), vs = [.ref p, v] ∧ SzAt C H p lo hi ∧ (hi = .non ∨ ∃ j : Int, hi = .int j) ∧ ((NotW K H v ∧ Q (.bl false) H) ∨ ∃ n : Int, v = .int n ∧ Q (.bl (szIn lo hi n)) H)
/-! ### the values that a law draws -/
def NewD (Q : VK) (H : Hp) : Prop := ∀ p, H p = none → Q (.ref p) (upd H p (.dK []))
theorem rd_dnew {σ : L2.St} {H : Hp} {Q : VK} (q : NewD Q H) : tDNewK σ H Q := q
theorem new_dict {H : Hp} {Q : VK} (k : ∀ p H', H p = none → H' p = some (.dK []) → Same H H' → Q (.ref p) H') : NewD Q H := fun p hp => k p _ hp upd_same (Same.new hp)
theorem nw_non {K : PySem.W.Frag} {H : Hp} : NotW K H .non := ⟨_, false, false, .base .non, by kernel_rfl, by kernel_rfl, rfl⟩
theorem nw_bl {K : PySem.W.Frag} {H : Hp} {b : Bool} : NotW K H (.bl b) := ⟨_, true, true, .base (.bl b), by kernel_rfl, by kernel_rfl, rfl⟩
theorem nw_str {K : PySem.W.Frag} {H : Hp} {x : Str} : NotW K H (.str x) := ⟨_, false, false, .base (.str x), by kernel_rfl, by kernel_rfl, rfl⟩
theorem nw_lst {K : PySem.W.Frag} {H : Hp} {a : Addr} {xs : List V} (h : H a = some (.lst xs)) : NotW K H (.ref a) := ⟨_, false, false, .base (.lst h), by kernel_rfl, by kernel_rfl, rfl⟩
theorem nw_tup {K : PySem.W.Frag} {H : Hp} {a : Addr} {xs : List V} (h : H a = some (.tup xs)) : NotW K H (.ref a) := ⟨_, false, false, .base (.tup h), by kernel_rfl, by kernel_rfl, rfl⟩
theorem nw_dict {K : PySem.W.Frag} {H : Hp} {a : Addr} {kvs : List (Key × V)} (h : H a = some (.dK kvs)) : NotW K H (.ref a) := ⟨_, false, false, .base (.dK h), by kernel_rfl, by kernel_rfl, rfl⟩
/-- a whole number, not above 10 ^ 60, or no whole number at all; not the bag -/
def IsVal (K : PySem.W.Frag) (b : Addr) (H : Hp) (v : V) : Prop := v ≠ .ref b ∧ (NotW K H v ∨ ∃ i : Int, v = .int i ∧ Md i)
theorem IsVal.same {K : PySem.W.Frag} {b : Addr} {H H' : Hp} {v : V} (h : IsVal K b H v) (e : Same H H') : IsVal K b H' v := ⟨h.1, h.2.imp (fun x => x.same e) id⟩
theorem IsVal.keep {K : PySem.W.Frag} {b : Addr} {H H' : Hp} {v : V} (h : IsVal K b H v) (e : Keep b H H') : IsVal K b H' v := ⟨h.1, h.2.imp (fun x => x.keep e h.1) id⟩
def LoBad (K : PySem.W.Frag) (H : Hp) (lo : V) : Prop := NotW K H lo ∨ ∃ i : Int, lo = .int i ∧ i < 1
end Hf
namespace Hf
open PySem PySem.Spec PyProof.Rows L2 LamX
/-! ### heaps that are the same but for tables -/
theorem ExtN.same {H H' : Hp} (e : Same H H') : ExtN H H' := fun b o h _ => e b o h
theorem Bag.extN {b : Addr} {H H' : Hp} (h : Bag H b) (e : ExtN H H') : Bag H' b := by
  obtain ⟨c, cs, a, r, s, h1, h2, q⟩ := h
  exact ⟨c, cs, a, r, s, e _ _ h1 (fun ps z => by cases z), e _ _ h2 (fun ps z => by cases z), q⟩
theorem TyX.extN {K : PySem.W.Frag} {H H' : Hp} {v : V} {t : Value} (h : TyX K H v t) (e : ExtN H H') : TyX K H' v t := by
  cases h with
  | base b =>
    cases b with
    | non => exact .base .non
    | bl y => exact .base (.bl y)
    | int y => exact .base (.int y)
    | str y => exact .base (.str y)
    | flt y => exact .base (.flt y)
    | lst h => exact .base (.lst (e _ _ h (fun ps z => by cases z)))
    | frz h => exact .base (.frz (e _ _ h (fun ps z => by cases z)))
    | tup h => exact .base (.tup (e _ _ h (fun ps z => by cases z)))
    | dK h => exact .base (.dK (e _ _ h (fun ps z => by cases z)))
    | dT h => exact .base (.dT (e _ _ h (fun ps z => by cases z)))
    | ins h a b c d f => exact .base (.ins (e _ _ h (fun ps z => by cases z)) a b c d f)
  | byt y => exact .byt y
  | set h => exact .set (e _ _ h (fun ps z => by cases z))
  | kList a b => exact .kList a b
  | kTuple a b => exact .kTuple a b
  | kDict a b => exact .kDict a b
  | fTuple h => exact .fTuple (e _ _ h (fun ps z => by cases z))
  | fDict h => exact .fDict (e _ _ h (fun ps z => by cases z))
theorem NotW.extN {K : PySem.W.Frag} {H H' : Hp} {v : V} (h : NotW K H v) (e : ExtN H H') : NotW K H' v := let ⟨t, b1, b2, a, b, c, d⟩ := h; ⟨t, b1, b2, TyX.extN a e, b, c, d⟩
theorem IsVal.extN {K : PySem.W.Frag} {b : Addr} {H H' : Hp} {v : V} (h : IsVal K b H v) (e : ExtN H H') : IsVal K b H' v := ⟨h.1, h.2.imp (fun x => x.extN e) id⟩
theorem LoBad.extN {K : PySem.W.Frag} {H H' : Hp} {v : V} (h : LoBad K H v) (e : ExtN H H') : LoBad K H' v := h.imp (fun x => x.extN e) id
theorem BadHi.extN {K : PySem.W.Frag} {H H' : Hp} {i : Int} {v : V} (h : BadHi K H i v) (e : ExtN H H') : BadHi K H' i v := h.imp (fun x => ⟨x.1, x.2.extN e⟩) id
theorem Tabs.keep {T : List (Addr × Str)} {H H' : Hp} {b : Addr} (t : Tabs T H) (B : Bag H b) (e : Keep b H H') : Tabs T H' := by
  obtain ⟨c0, cs, a, r, s, hb, _⟩ := B
  intro p hp
  obtain ⟨ps, h1, h2, h3⟩ := t p hp
  refine ⟨ps, e _ _ h1 (ne_of h1 hb (by intro z; cases z)), h2, fun pos cv hc => ?_⟩
  obtain ⟨c, e1, e2⟩ := h3 pos cv hc
  refine ⟨c, e1, e _ _ e2 (ne_of e2 hb (by intro z; unfold CodeO at z; cases z))⟩
/-! ### Sizes(low, high), made or refused -/
theorem use_szR {K : PySem.W.Frag} {C CB : Addr} {E : XK} {Q : VK} {lo hi : V} {H : Hp}
    (h : (LoBad K H lo ∧ ∀ (d : Addr) (H' : Hp), H' d = some (.xd [("part", .str "low")]) → Same H H' → E (.ref CB) (some d) H') ∨ ∃ i : Int, lo = .int i ∧ 1 ≤ i ∧ ((BadHi K H i hi ∧ ∀ (d : Addr) (H' : Hp), H' d = some (.xd [("part", .str "high")]) → Same H H' → E (.ref CB) (some d) H') ∨
      (OkHi i hi ∧ ∀ (p : Addr) (H' : Hp), H p = none → SzAt C H' p i hi → Same H H' → Q (.ref p) H'))) : MakeK C (spSzI K C CB) E Q [lo, hi] H := by
  intro x dx hx hdx hne
  have sm : Same H (upd (upd H dx (.own x)) x (.ins C dx [])) := fun b u e => by
    rw [upd_ne (ne_of_none e hx), upd_ne (ne_of_none e hdx)]
    exact e
  refine ⟨x, dx, lo, hi, rfl, upd_same, ?_⟩
  rcases h with ⟨hl, k⟩ | ⟨i, rfl, h1, h⟩
  · exact .inl ⟨hl.extN (ExtN.same sm), fun d hd => k d _ upd_same (sm.trans (Same.new hd))⟩
  · refine .inr ⟨i, rfl, h1, ?_⟩
    rcases h with ⟨hb, k⟩ | ⟨ho, k⟩
    · exact .inl ⟨hb.extN (ExtN.same sm), fun d hd => k d _ upd_same (sm.trans (Same.new hd))⟩
    · refine .inr ⟨ho, fun H' hp kp => ⟨rfl, k x H' hx ⟨dx, hp⟩ fun b u e => kp b u (sm b u e) (ne_of_none e hx)⟩⟩
/-! ### what a law hears: ('told', value) or a word and the fields -/
/-- the reading of heard: one error class, one field -/
def THear (CB : Addr) (w1 fld : Str) : (XK → Hp → VK → Prop) → Hp → VK → Prop := fun tl H Q =>
  tl (fun cls d H' => cls = .ref CB ∧ ∃ (dd : Addr) (fs : List (Str × V)) (v : V), d = some dd ∧ H' dd = some (.xd fs) ∧ fs.lookup fld = some v ∧ NewT Q [.str w1, v] H') H (fun v H' => NewT Q [.str "told", v] H')
/-- the law's promise, its tables at hand -/
def spLawT (K : PySem.W.Frag) (T : List (Addr × Str)) : Sp := fun vs H Q _ => ∃ (a : Addr) (ns : List Int), vs = [.ref a] ∧ SqL K H a (ns.map V.int) ∧ ns.length ≤ 63 ∧ Tabs T H ∧ ∀ H', Q (.bl true) H'
theorem rd_lam {T : List (Addr × Str)} {TT : (XK → Hp → VK → Prop) → Hp → VK → Prop} {t : XK → TE} {σ : L2.St} {H : Hp} {Q : VK} (hT : Tabs T H) (k : ∀ H1, ExtN H H1 → Tabs T H1 → TT (fun E H' Q' => t E σ H' Q') H1 Q) : tLam T TT t σ H Q := ⟨hT, k⟩
end Hf
namespace Hf
open PySem PySem.Spec PyProof.Rows L2
/-- what stands behind the keywords' values -/
def MkRK (C : Addr) (m : Nat) (sp : Sp) (E : XK) (Q : VK) (zs : List V) (H : Hp) : Prop := zs.length = m ∧ MakeK C sp E Q zs.reverse H
def tMakR (C : Addr) (m : Nat) (sp : Sp) (E : XK) (tk : TA) : TE := fun σ H Q => tk σ H (MkRK C m sp E Q)
theorem rd_makR {C : Addr} {m : Nat} {sp : Sp} {E : XK} {tk : TA} {σ : L2.St} {H : Hp} {Q : VK} (q : tk σ H (MkRK C m sp E Q)) : tMakR C m sp E tk σ H Q := q
section
variable {K : PySem.W.Frag} {mg : Str → Option Value} {C CB p q : Addr} {E : XK} {Q : VK} {H : Hp} {lo lo' : Int} {hi hi' : V}
theorem use_sz (h1 : 1 ≤ lo) (ho : OkHi lo hi) (k : ∀ (p : Addr) (H' : Hp), H p = none → SzAt C H' p lo hi → Same H H' → Q (.ref p) H') : MakeK C (spSzI K C CB) E Q [.int lo, hi] H := use_szR (.inr ⟨lo, rfl, h1, .inr ⟨ho, k⟩⟩)
def Hs (hi : V) : Prop := hi = .non ∨ ∃ j : Int, hi = .int j
theorem use_szN {neg : Bool} {n : Int} (h1 : SzAt C H p lo hi) (o1 : Hs hi) (k : Q (.bl (szIn lo hi n != neg)) H) : rInM C (spSzIn K C) E neg (.int n) (.ref p) H Q := by
  obtain ⟨dx, e1⟩ := h1
  exact ⟨p, dx, _, rfl, e1, p, lo, hi, _, rfl, ⟨dx, e1⟩, o1, .inr ⟨n, rfl, _, rfl, k⟩⟩
/-- two tuples of two texts -/
theorem use_neTT {t1 t2 : Addr} {a b : Str} (oa : PyData.strOk a = true) (ob : PyData.strOk b = true) (h1 : H t1 = some (.tup [.str a, .str b])) (h2 : H t2 = some (.tup [.str a, .str b])) (k : Q (.bl false) H) : rNeD K (.ref t1) (.ref t2) H Q := by
  refine use_neD (d := .tuple [.str a, .str b]) (e := .tuple [.str a, .str b]) (.tup (SqT.of h1) (.cons (.str _) (.cons (.str _) .nil))) (.tup (SqT.of h2) (.cons (.str _) (.cons (.str _) .nil))) (by simp [SeqAt.shaped, PyData.canLay0, PyData.canLayAll0, PyData.depth, PyData.depthAll, oa, ob]) (by simp [SeqAt.shaped, PyData.canLay0, PyData.canLayAll0, PyData.depth, PyData.depthAll, oa, ob]) ?_
  have e : PyData.eqv (.tuple [.str a, .str b]) (.tuple [.str a, .str b]) = true := by simp [PyData.eqv, PyData.eqvAll]
  rw [e]
  exact k
end
/-- a def with one default that is None -/
theorem funDN_mk {K : PySem.W.Frag} {f T : Addr} {od an : Option Addr} {osl : Array (Option Value)} {oc kV doc pm cdv ct : Value} {x qual : Str} {st : Stmt} {c2 : Value} {d2 : Option Addr} {n2 : Nat} {sl2 : Array (Option Value)}
    (l : K.lookup f = some ⟨oc, od, .func (PySem.W.fnOf x qual (defArgs st) (defBody st) (defScope st) (.ref T) kV doc pm an cdv ct), osl⟩) (lT : K.lookup T = some ⟨c2, d2, .seq #[.none] n2, sl2⟩) (c : PySem.W.codeIn K cdv qual = true) (k : PySem.W.keepIn K (.ref f) = true) :
    FunD K x qual (defArgs st) (defBody st) (defScope st) [.non] [] f (PySem.W.fnOf x qual (defArgs st) (defBody st) (defScope st) (.ref T) kV doc pm an cdv ct) :=
  ⟨⟨oc, od, .ref T, kV, doc, pm, an, cdv, ct, osl, rfl, l, c, .inr ⟨fun z => (nomatch z), T, _, [.none], n2, rfl, lT, rfl, .cons rfl .nil⟩, .inl rfl⟩, k⟩
theorem kitOne_ty {K : PySem.W.Frag} {C : Addr} {T : String} (i : PySem.W.isClsIn K C = true) (t : PySem.W.typeIn K (.ref C) = some (.type "type")) (s : PySem.W.subIn K (.type T) (.ref C) = some false) : PySem.W.kitOne K (.type T) (.ref C) = some false := kitOne_mk i t s
end Hf
namespace Hf
open PySem PySem.Spec PyProof.Rows L2
/-! ### places that may be refused -/
/-- an error of the class at CB with these fields is let out, from a heap that only grew -/
def LetS (E : XK) (CB : Addr) (H : Hp) (fs : List (Str × V)) : Prop := ∀ (d : Addr) (H' : Hp), H' d = some (.xd fs) → Same H H' → E (.ref CB) (some d) H'
theorem LetS.same {E : XK} {CB : Addr} {H H' : Hp} {fs : List (Str × V)} (h : LetS E CB H fs) (e : Same H H') : LetS E CB H' fs := fun d H2 a b => h d H2 a (e.trans b)
/-- Place(slope, offset, odd) by its __init__: made, or the first wrong part is told -/
def spPlX (K : PySem.W.Frag) (C CB : Addr) : Sp := fun vs H Q E => ∃ (p dx : Addr) (v1 v2 v3 : V), vs = [.ref p, v1, v2, v3] ∧ H p = some (.ins C dx []) ∧
  ((NotW K H v1 ∧ LetS E CB H [("part", .str "slope")]) ∨ ∃ s : Int, v1 = .int s ∧ ((NotW K H v2 ∧ LetS E CB H [("part", .str "offset")]) ∨ ∃ o : Int, v2 = .int o ∧ ((NotW K H v3 ∧ LetS E CB H [("part", .str "odd")]) ∨
    ∃ d : Int, v3 = .int d ∧ ∀ H', H' p = some (.ins C dx (plF s o d)) → Keep p H H' → Q .non H')))
theorem use_plX {K : PySem.W.Frag} {C CB : Addr} {H : Hp} {s o d : Int} {Q : VK} {E : XK} (k : NewPl C H s o d Q) : MakeK C (spPlX K C CB) E Q [.int s, .int o, .int d] H := by
  intro x dx hx hdx hne
  refine ⟨x, dx, _, _, _, rfl, upd_same, .inr ⟨s, rfl, .inr ⟨o, rfl, .inr ⟨d, rfl, fun H' hp kp => ⟨rfl, k x H' hx ⟨dx, hp⟩ fun b u e => ?_⟩⟩⟩⟩⟩
  refine kp b u ?_ (ne_of_none e hx)
  rw [upd_ne (ne_of_none e hx), upd_ne (ne_of_none e hdx)]
  exact e
end Hf
namespace Hf
open PySem PySem.Spec PyProof.Rows L2
/-! ### calls by keyword alone -/
/-- what stands behind the keywords' values -/
def ClKK (m : Nat) (q : List V → List V) (sp : Sp) (E : XK) (Q : VK) (zs : List V) (H : Hp) : Prop := zs.length = m ∧ sp (q zs) H Q E
def tClK (m : Nat) (q : List V → List V) (sp : Sp) (E : XK) (tk : TA) : TE := fun σ H Q => tk σ H (ClKK m q sp E Q)
theorem rd_clK {m : Nat} {q : List V → List V} {sp : Sp} {E : XK} {tk : TA} {σ : L2.St} {H : Hp} {Q : VK} (k : tk σ H (ClKK m q sp E Q)) : tClK m q sp E tk σ H Q := k
/-! ### an instance called by keyword -/
def CkK (C a : Addr) (m : Nat) (sp : Sp) (E : XK) (Q : VK) (zs : List V) (H : Hp) : Prop := zs.length = m ∧ (∃ dx fs, H a = some (.ins C dx fs)) ∧ sp (.ref a :: zs) H Q E
def tCallIK (C : Addr) (m : Nat) (sp : Sp) (E : XK) (tf : TE) (tk : TA) : TE := fun σ H Q => tf σ H fun y H1 => ∃ a, y = V.ref a ∧ tk σ H1 (CkK C a m sp E Q)
theorem rd_callIK {C : Addr} {m : Nat} {sp : Sp} {E : XK} {tf : TE} {tk : TA} {σ : L2.St} {H : Hp} {Q : VK} (k : tf σ H fun y H1 => ∃ a, y = V.ref a ∧ tk σ H1 (CkK C a m sp E Q)) : tCallIK C m sp E tf tk σ H Q := k
/-! ### places compared with anything -/
/-- Place(slope, offset), from_left() -/
def spPlX2 (K : PySem.W.Frag) (C CB : Addr) : Sp := fun vs H Q E => spPlX K C CB (vs ++ [.int 0]) H Q E
/-! ### what the law of places draws -/
inductive F2 {α β : Type} (R : α → β → Prop) : List α → List β → Prop
  | nil : F2 R [] []
  | cons {a : α} {b : β} {as : List α} {bs : List β} : R a b → F2 R as bs → F2 R (a :: as) (b :: bs)
theorem F2.imp {α β : Type} {R S : α → β → Prop} (f : ∀ a b, R a b → S a b) {as : List α} {bs : List β} (h : F2 R as bs) : F2 S as bs := by
  induction h with
  | nil => exact .nil
  | cons x r ih => exact .cons (f _ _ x) ih
theorem F2.append {α β : Type} {R : α → β → Prop} {as cs : List α} {bs ds : List β} (h : F2 R as bs) (g : F2 R cs ds) : F2 R (as ++ cs) (bs ++ ds) := by
  induction h with
  | nil => exact g
  | cons x r ih => exact .cons x ih
/-- e.f within a comprehension: the reading names the written part alone -/
theorem pe_fldB {X : Cx} {K : PySem.W.Frag} {e : Expr} {f : Str} {pos : Pos} {ta : TE} (he : PE X e ta) (hb : attributeBase e f X.env (eval e X.env) = eval e X.env) (hK : X.K = K := by rfl) : PE X (.Attribute e f pos) (tFld K ta f) := by
  subst hK
  exact pe_fld he hb
theorem rd_gsub {to ti : TE} {t : TSet} {v : V} {σ : L2.St} {H : Hp} {Q : L2.St → Hp → Prop} (q : to σ H fun o H1 => ti σ H1 fun i H2 => t o i v H2 fun H3 => Q σ H3) : gSub to ti t v σ H Q := q
theorem Keep.upd {p : Addr} {H : Hp} {o : HO} : Keep p H (upd H p o) := fun a u h n => by rw [upd_ne n]; exact h
theorem tabs_keepL {T : List (Addr × Str)} {H H' : Hp} {p : Addr} {xs : List V} (t : LamX.Tabs T H) (hp : H p = some (.lst xs)) (e : Keep p H H') : LamX.Tabs T H' := by
  intro z hz
  obtain ⟨ps, h1, h2, h3⟩ := t z hz
  refine ⟨ps, e _ _ h1 (ne_of h1 hp (by intro z; cases z)), h2, fun pos cv hc => ?_⟩
  obtain ⟨c, e1, e2⟩ := h3 pos cv hc
  refine ⟨c, e1, e _ _ e2 (ne_of e2 hp (by intro z; unfold LamX.CodeO at z; cases z))⟩
theorem BagC.extN {b c : Addr} {H H' : Hp} (h : BagC H b c) (e : LamX.ExtN H H') : BagC H' b c := by
  obtain ⟨cs, a, r, s, h1, h2, q⟩ := h
  exact ⟨cs, a, r, s, e _ _ h1 (fun ps z => by cases z), e _ _ h2 (fun ps z => by cases z), q⟩
theorem use_plX2 {K : PySem.W.Frag} {C CB : Addr} {H : Hp} {s o : Int} {Q : VK} {E : XK} (k : NewPl C H s o 0 Q) : MakeK C (spPlX2 K C CB) E Q [.int s, .int o] H := use_plX (K := K) (CB := CB) (E := E) k
/-- one of a place's three is none, the name of the first such -/
def PlBad (K : PySem.W.Frag) (H : Hp) (x y z : V) (nm : Str) : Prop := (nm = "slope" ∧ NotW K H x) ∨ (nm = "offset" ∧ (∃ s : Int, x = .int s) ∧ NotW K H y) ∨ (nm = "odd" ∧ (∃ s : Int, x = .int s) ∧ (∃ o : Int, y = .int o) ∧ NotW K H z)
theorem PlBad.extN {K : PySem.W.Frag} {H H' : Hp} {x y z : V} {nm : Str} (h : PlBad K H x y z nm) (e : LamX.ExtN H H') : PlBad K H' x y z nm := h.imp (fun ⟨a, b⟩ => ⟨a, b.extN e⟩) (fun h => h.imp (fun ⟨a, b, c⟩ => ⟨a, b, c.extN e⟩) (fun ⟨a, b, c, d⟩ => ⟨a, b, c, d.extN e⟩))
theorem PlaceAt.extN {C : Addr} {H H' : Hp} {p : Addr} {s o d : Int} (h : PlaceAt C H p s o d) (e : LamX.ExtN H H') : PlaceAt C H' p s o d := let ⟨dx, h⟩ := h; ⟨dx, e _ _ h (fun ps z => by cases z)⟩
end Hf
namespace Hf
open PySem PySem.Spec PyProof.Rows L2
end Hf
namespace Hf
open PySem PySem.Spec PyProof.Rows L2
/-! ### the pen of a law: a list of three; k draws are left -/
def Pen (H : Hp) (b c : Addr) (k : Nat) : Prop := ∃ (cs : List Int) (n r : Int), H b = some (.lst [.ref c, .int n, .int r]) ∧ H c = some (.lst (cs.map V.int)) ∧ 0 ≤ n ∧ 0 ≤ r ∧ n + k ≤ 1000000
section
variable {H H' : Hp} {b c p : Addr} {k j : Nat}
theorem Pen.same (h : Pen H b c k) (e : Same H H') : Pen H' b c k := by
  obtain ⟨cs, n, r, h1, h2, q⟩ := h
  exact ⟨cs, n, r, e _ _ h1, e _ _ h2, q⟩
theorem Pen.less (h : Pen H b c k) (l : j ≤ k) : Pen H b c j := by
  obtain ⟨cs, n, r, h1, h2, a, d, q⟩ := h
  exact ⟨cs, n, r, h1, h2, a, d, by omega⟩
theorem Pen.keep (h : Pen H b c k) (e : Keep p H H') (n1 : p ≠ b) (n2 : p ≠ c) : Pen H' b c k := by
  obtain ⟨cs, m, r, h1, h2, q⟩ := h
  exact ⟨cs, m, r, e _ _ h1 n1.symm, e _ _ h2 n2.symm, q⟩
theorem Pen.extN (h : Pen H b c k) (e : LamX.ExtN H H') : Pen H' b c k := by
  obtain ⟨cs, m, r, h1, h2, q⟩ := h
  exact ⟨cs, m, r, e _ _ h1 (fun ps z => by cases z), e _ _ h2 (fun ps z => by cases z), q⟩
end
/-- xs[i] -/
theorem use_ixL {K : PySem.W.Frag} {H : Hp} {p : Addr} {xs : List V} {i : Int} {v : V} {Q : VK} (h : SqL K H p xs) (hi : atI xs i = some v) (q : Q v H) : rIxL K (.ref p) (.int i) H Q := ⟨p, xs, i, v, rfl, rfl, h, hi, q⟩
end Hf
namespace Hf
open PySem PySem.Spec PyProof.Rows L2
/-! ### zip of two texts -/
def ItzS (a b : Str) : It :=
  ⟨fun i _ => i < a.cps.size ∧ i < b.cps.size, fun i H v H' => ∃ (t : Addr) (c d : Nat), v = .ref t ∧ H t = none ∧ H' = upd H t (.tup [.str ⟨#[c]⟩, .str ⟨#[d]⟩]) ∧ a.cps[i]? = some c ∧ b.cps[i]? = some d,
    fun i _ => i ≤ a.cps.size ∧ i ≤ b.cps.size ∧ (i = a.cps.size ∨ i = b.cps.size)⟩
theorem five {n c : Nat} (h : c ∈ [n + 4, n + 2, n + 3, n, n + 1]) : c = n + 4 ∨ c = n + 2 ∨ c = n + 3 ∨ c = n ∨ c = n + 1 := by simpa using h
def iZipS (ta : TA) : TI := fun σ H R => ta σ H fun vs H1 => ∃ a b : Str, vs = [.str a, .str b] ∧ R (ItzS a b) H1
theorem rd_iZipS {ta : TA} {σ : L2.St} {H : Hp} {R : It → Hp → Prop} (q : ta σ H fun vs H1 => ∃ a b : Str, vs = [.str a, .str b] ∧ R (ItzS a b) H1) : iZipS ta σ H R := q
end Hf
namespace Hf
open PySem PySem.Spec PyProof.Rows L2
/-! ### texts of digits -/
/-- a row of digits as a text -/
def rowS (ds : List Nat) : Str := ⟨(ds.map (48 + ·)).toArray⟩
abbrev rowV (ds : List Nat) : V := .str (rowS ds)
/-! ### [e for .. in ..], each e a value that only makes objects -/
theorem lc_mapW {J : It} {n : Nat} {G : Hp → Prop} {Y : Nat → Hp → V → Hp → Prop} (w : Walk J n G Y) {g : TG} {te : TE} {vs : List Nat} {σ : L2.St} {H : Hp} {Q : VK} (F : Nat → V) (hG : ∀ H', Same H H' → G H') (hn : n ≤ 1000)
    (hev : ∀ (j : Nat) (x : V) (H1 H2 : Hp) (R : VK), j < n → Same H H1 → Y j H1 x H2 → (∀ H3, Same H1 H3 → R (F j) H3) → g x (wipe σ vs) H2 fun σ2 H3 => wipe σ2 vs = wipe σ vs ∧ te σ2 H3 R)
    (k : ∀ (D : Addr) (H' : Hp), H D = none → H' D = some (.lst ((List.range n).map F)) → Same H H' → Q (.ref D) H') : LcK g tYes te vs σ Q J H := by
  intro D hD
  have gmono : ∀ {x : V} {σ : L2.St} {H : Hp} {A B : L2.St → Hp → Prop}, True := trivial
  refine lc_it w (g := g) (tt := tYes) (te := te) (vs := vs) (σ := σ) (Qd := fun H => Q (.ref D) H) (fun j H' => H' D = some (.lst ((List.range j).map F)) ∧ Same H H') ⟨upd_same, Same.new hD⟩ (fun j H' _ p => hG H' p.2) ?_ ?_
  · rintro j x H1 H2 hj ⟨e, s⟩ y
    refine hev j x H1 H2 (fun v H4 => ∃ acc, H4 D = some (.lst acc) ∧ acc.length < sizeLine ∧ (upd H4 D (.lst (acc ++ [v])) D = some (.lst ((List.range (j + 1)).map F)) ∧ Same H (upd H4 D (.lst (acc ++ [v]))))) hj s y fun H3 s3 => ⟨_, s3 _ _ e, ?_, ?_, Same.mut (s.trans s3) hD⟩
    · rw [List.length_map, List.length_range]
      exact small1000 (by omega)
    · rw [upd_same, List.range_succ, List.map_append]
      rfl
  · rintro H1 ⟨e, s⟩
    exact k D H1 hD e s
/-! ### readings -/
theorem rd_m1 {r : V → List V → Hp → VK → Prop} {to te : TE} {σ : L2.St} {H : Hp} {Q : VK} (q : to σ H fun x H1 => (∃ a, x = .str a) ∧ te σ H1 fun y H2 => r x [y] H2 Q) : tM1 r to te σ H Q := q
theorem rd_iStr {te : TE} {σ : L2.St} {H : Hp} {R : It → Hp → Prop} (q : te σ H fun v H1 => ∃ x, v = .str x ∧ R (Its x) H1) : iStr te σ H R := q
theorem rd_iEnum {K : PySem.W.Frag} {ta : TA} {σ : L2.St} {H : Hp} {R : It → Hp → Prop} (q : ta σ H fun vs H1 => ∃ a xs, vs = [.ref a] ∧ SqL K H1 a xs ∧ R (Ite K a) H1) : iEnum K ta σ H R := q
theorem rd_iZipA {K : PySem.W.Frag} {ta : TA} {σ : L2.St} {H : Hp} {R : It → Hp → Prop} (q : ta σ H fun vs H1 => ∃ a b xs ys, vs = [.ref a, .ref b] ∧ ((SqL K H1 a xs ∧ SqL K H1 b ys ∧ R (Itz K a b) H1) ∨ (SqT K H1 a xs ∧ SqT K H1 b ys ∧ R (RZ.ItzT K a b) H1))) : RZ.iZipA K ta σ H R := q
/-! ### C.m(e, ..), m a staticmethod of the class at C -/
def tStat (C : Addr) (sp : Sp) (E : XK) (ta : TE) (t : TA) : TE := fun σ H Q => ta σ H fun x H1 => x = .ref C ∧ t σ H1 fun vs H2 => sp vs H2 Q E
theorem rd_stat {C : Addr} {sp : Sp} {E : XK} {ta : TE} {t : TA} {σ : L2.St} {H : Hp} {Q : VK} (q : ta σ H fun x H1 => x = .ref C ∧ t σ H1 fun vs H2 => sp vs H2 Q E) : tStat C sp E ta t σ H Q := q
end Hf
namespace Hf
open PySem PySem.Spec PyProof.Rows L2
theorem pg_tupB {X : Cx} {K : PySem.W.Frag} {es : List Expr} {k : Nat} {t : TGs} {n : Nat} {pos : Pos} (hc : X.calm = true) (h : PGs X es t) (hK : X.K = K := by rfl) (hn : (assignEach es X.env).length = n := by rfl) (hst : (assignEach es X.env).findIdx? (·.1) = none := by rfl) : PG X (.Tuple es k pos) (gTup K n t) := by
  subst hK
  exact pg_tup hc h hn hst
/-- 1 <= x <= 200 and its like -/
def ChK (r' : R2) (tc : TE) (σ : L2.St) (y : V) (Q : VK) : VK := fun z H3 => ∃ k, z = .bl k ∧ (if k = true then tc σ H3 fun w' H4 => r' y w' H4 Q else Q (.bl false) H3)
theorem rd_chain {r r' : R2} {ta tb tc : TE} {σ : L2.St} {H : Hp} {Q : VK} (q : ta σ H fun x H1 => tb σ H1 fun y H2 => r x y H2 (ChK r' tc σ y Q)) : tChain r r' ta tb tc σ H Q := q
/-! ### pictures -/
abbrev Pic := List (List Nat)
/-- h rows of w digits each -/
structure Good (w h : Nat) (R : Pic) : Prop where
  h : R.length = h
  w : ∀ r ∈ R, r.length = w
  d : ∀ r ∈ R, ∀ x ∈ r, x < 10
structure Fit (w h : Nat) : Prop where
  w1 : 1 ≤ w
  w2 : w ≤ 200
  h1 : 1 ≤ h
  h2 : h ≤ 200
def pcF (t : Addr) (w h : Nat) : List (Str × V) := [("rows", .ref t), ("width", .int w), ("height", .int h)]
def PicAt (C : Addr) (H : Hp) (p : Addr) (R : Pic) (w h : Nat) : Prop := ∃ dx t, H p = some (.ins C dx (pcF t w h)) ∧ H t = some (.tup (R.map rowV))
section
variable {C b : Addr} {H H' : Hp} {p : Addr} {R : Pic} {w h : Nat}
theorem PicAt.same (g : PicAt C H p R w h) (e : Same H H') : PicAt C H' p R w h := let ⟨dx, t, a, c⟩ := g; ⟨dx, t, e _ _ a, e _ _ c⟩
theorem PicAt.extN (g : PicAt C H p R w h) (e : LamX.ExtN H H') : PicAt C H' p R w h := let ⟨dx, t, a, c⟩ := g; ⟨dx, t, e _ _ a (fun ps z => by cases z), e _ _ c (fun ps z => by cases z)⟩
/-- a list is changed -/
theorem PicAt.keepL {xs : List V} (g : PicAt C H p R w h) (hb : H b = some (.lst xs)) (e : Keep b H H') : PicAt C H' p R w h := let ⟨dx, t, a, c⟩ := g; ⟨dx, t, e _ _ a (ne_of a hb (by intro z; cases z)), e _ _ c (ne_of c hb (by intro z; cases z))⟩
end
/-- what the written part says of Picture, at C -/
structure PcC (K : PySem.W.Frag) (mg : Str → Option Value) (C : Addr) (dn : Str := "DIGITS") : Prop where
  cl : Cls K C
  n1 : NoAttr K C "rows"
  n2 : NoAttr K C "width"
  n3 : NoAttr K C "height"
  g : mg "Picture" = some (.ref C)
  ms : ∃ t, mg "MOST_SIZE" = some (.int 200 t)
  dg : ∃ t, mg dn = some (.str "0123456789" t)
  ha : PySem.W.findIn K (.ref C) "__class__" = some (some (.builtin "object.__class__"))
  hn : PySem.W.specialIn K (.builtin "object.__class__") "__get__" = some (some (.builtin "getset_descriptor.__get__"))
  tk : PySem.W.takesIn K (.builtin "object.__class__") = some true
  mo : PySem.W.mroIn K C (.type "object") = some true
theorem PcC.ty {K : PySem.W.Frag} {mg : Str → Option Value} {C : Addr} {dn : Str} (T : PcC K mg C dn) {H : Hp} {p dx : Addr} {fs : List (Str × V)} (h : H p = some (.ins C dx fs)) : TyX K H (.ref p) (.ref C) := .base (.ins h T.cl T.ha T.hn T.tk T.mo)
/-! ### promises -/
/-! ### rows as data -/
/-! ### one picture within another -/
theorem map_get {α β : Type} {f : α → β} {l : List α} {i : Nat} {y : β} (h : (l.map f)[i]? = some y) : ∃ x, l[i]? = some x ∧ y = f x := by
  rw [List.getElem?_map] at h
  cases e : l[i]? with
  | none => rw [e] at h; cases h
  | some x => rw [e] at h; exact ⟨x, rfl, (Option.some.inj h).symm⟩
end Hf
namespace Hf
open PySem PySem.Spec PyProof.Rows L2
/-! ### errors without fields: made, raised -/
section
variable {X : Cx}
def tMkN (C : Addr) : L2.St → Hp → XK → Prop := fun _ H Q => Q (.ref C) none H
theorem rd_mkN {C : Addr} {σ : L2.St} {H : Hp} {Q : XK} (q : Q (.ref C) none H) : tMkN C σ H Q := q
end
end Hf
namespace Hf
open PySem PySem.Spec PyProof.Rows L2
theorem rd_sl {r : V → Option Int → Option Int → Hp → VK → Prop} {te : TE} {tl th : TO} {σ : L2.St} {H : Hp} {Q : VK} (q : te σ H fun x H1 => tl σ H1 fun l H2 => th σ H2 fun u H3 => r x l u H3 Q) : L2.tSl r te tl th σ H Q := q
theorem rd_noPart {σ : L2.St} {H : Hp} {Q : Option Int → Hp → Prop} (q : Q none H) : tNoPart σ H Q := q
theorem rd_part {te : TE} {σ : L2.St} {H : Hp} {Q : Option Int → Hp → Prop} (q : te σ H fun v H1 => ∃ i, v = .int i ∧ Q (some i) H1) : tPart te σ H Q := q
end Hf
namespace Hf
open PySem PySem.Spec PyProof.Rows L2
/-! ### a row with one digit changed -/
theorem Good.set {w h : Nat} {R : Pic} {r : List Nat} {j : Nat} (G : Good w h R) (hl : r.length = w) (hd : ∀ x ∈ r, x < 10) : Good w h (R.set j r) := by
  refine ⟨by rw [List.length_set, G.h], fun z hz => ?_, fun z hz => ?_⟩
  · rcases List.mem_or_eq_of_mem_set hz with q | q
    · exact G.w z q
    · rw [q]; exact hl
  · rcases List.mem_or_eq_of_mem_set hz with q | q
    · exact G.d z q
    · rw [q]; exact hd
theorem use_ixT {K : PySem.W.Frag} {H : Hp} {p : Addr} {xs : List V} {i : Int} {v : V} {Q : VK} (h : SqT K H p xs) (hi : atI xs i = some v) (q : Q v H) : rIxT K (.ref p) (.int i) H Q := ⟨p, xs, i, v, rfl, rfl, h, hi, q⟩
end Hf
namespace Hf
open PySem PySem.Spec PyProof.Rows L2
/-! ### pictures joined pixel by pixel -/
/-! ### promises -/
/-- a good picture stands there -/
structure PicG (C : Addr) (H : Hp) (p : Addr) (w h : Nat) (R : Pic) : Prop where
  at_ : PicAt C H p R w h
  g : Good w h R
section
variable {K : PySem.W.Frag} {mg : Str → Option Value} {C CU p q b : Addr} {H H' : Hp} {w h w' h' : Nat} {R S : Pic} {E : XK} {Q : VK}
theorem PicG.same (x : PicG C H p w h R) (e : Same H H') : PicG C H' p w h R := ⟨x.at_.same e, x.g⟩
theorem PicG.extN (x : PicG C H p w h R) (e : LamX.ExtN H H') : PicG C H' p w h R := ⟨x.at_.extN e, x.g⟩
end
end Hf
namespace PySem.W
open PySem
end PySem.W
namespace Hf
open PySem PySem.Spec PyProof.Rows L2
theorem rd_par3 {i j l : Nat} {t : TA} {D : Ends} {σ : L2.St} {H : Hp} (q : t σ H fun vs H1 => ∃ u v w, vs = [u, v, w] ∧ D.nx (((σ.set i (some u)).set j (some v)).set l (some w)) H1) : L2.tPar3 i j l t D σ H := q
theorem F2.get {α β : Type} {R : α → β → Prop} {as : List α} {bs : List β} (h : F2 R as bs) {i : Nat} {a : α} (ha : as[i]? = some a) : ∃ b, bs[i]? = some b ∧ R a b := by
  induction h generalizing i with
  | nil => cases ha
  | cons x r ih =>
    cases i with
    | zero => cases ha; exact ⟨_, rfl, x⟩
    | succ i => exact ih ha
theorem F2.len {α β : Type} {R : α → β → Prop} {as : List α} {bs : List β} (h : F2 R as bs) : as.length = bs.length := by
  induction h with
  | nil => rfl
  | cons x r ih => rw [List.length_cons, List.length_cons, ih]
end Hf
namespace Hf
open PySem PySem.Spec PyProof.Rows L2
/-! ### how often a sign stands in a text -/
end Hf
namespace Hf
open PySem PySem.Spec PyProof.Rows L2
/-! ### enumerate over a tuple -/
end Hf
namespace Hf
open PySem PySem.Spec PyProof.Rows L2
/-! ### p[e] by an own __getitem__ -/
/-! ### C.m(k = ..), m a staticmethod -/
def tStaK (C : Addr) (m : Nat) (q : List V → List V) (sp : Sp) (E : XK) (ta : TE) (tk : TA) : TE := fun σ H Q => ta σ H fun x H1 => x = .ref C ∧ tk σ H1 (ClKK m q sp E Q)
theorem rd_staK {C : Addr} {m : Nat} {q : List V → List V} {sp : Sp} {E : XK} {ta : TE} {tk : TA} {σ : L2.St} {H : Hp} {Q : VK} (z : ta σ H fun x H1 => x = .ref C ∧ tk σ H1 (ClKK m q sp E Q)) : tStaK C m q sp E ta tk σ H Q := z
/-! ### readings -/
theorem rd_cval {K : PySem.W.Frag} {ta : TE} {f : Str} {σ : L2.St} {H : Hp} {Q : VK} (q : ta σ H fun x H1 => ∃ C mc v u, x = .ref C ∧ ClX.CRead K C mc ∧ ClX.CVal K C mc f v u ∧ Q v H1) : ClX.tCVal K ta f σ H Q := q
end Hf
namespace Hf
open PySem PySem.Spec PyProof.Rows L2
section
variable {P : Program} {w : World} {K : PySem.W.Frag} {mg : Str → Option Value} {base : Heap} {k : Nat} {x m : Str} {C : Addr} {sp sp' : Sp}
theorem Cal.imp (M : Cal P w K mg base k x sp) (h : ∀ vs H Q E, sp' vs H Q E → sp vs H Q E) : Cal P w K mg base k x sp' := let ⟨f, F, z⟩ := M; ⟨f, F.imp h, z⟩
theorem Met.imp (M : Met P w K mg base k C m sp) (h : ∀ vs H Q E, sp' vs H Q E → sp vs H Q E) : Met P w K mg base k C m sp' := let ⟨f, F, z⟩ := M; ⟨f, F.imp h, z⟩
theorem Mak.imp (M : Mak P w K mg base k x C sp) (h : ∀ vs H Q E, sp' vs H Q E → sp vs H Q E) : Mak P w K mg base k x C sp' := let ⟨f, F, z⟩ := M; ⟨f, F.imp h, z⟩
end
/-! ### rows in a list or in a tuple -/
def RowsS (K : PySem.W.Frag) (H : Hp) (l : Addr) (R : Pic) : Prop := SqL K H l (R.map rowV) ∨ SqT K H l (R.map rowV)
theorem same_tup {K : PySem.W.Frag} {H H' : Hp} {a : Addr} {xs : List V} (e : Same H H') (h : SqT K H a xs) : SqT K H' a xs := h.imp (fun z => z.imp (fun q => e _ _ q) fun ⟨o, q⟩ => ⟨o, e _ _ q⟩) id
theorem RowsS.same {K : PySem.W.Frag} {H H' : Hp} {l : Addr} {R : Pic} (h : RowsS K H l R) (e : Same H H') : RowsS K H' l R := h.imp (fun z => e.seq z) (fun z => same_tup e z)
def RowsO (H : Hp) (l : Addr) (R : Pic) : Prop := H l = some (.lst (R.map rowV)) ∨ H l = some (.tup (R.map rowV))
theorem RowsO.same {H H' : Hp} {l : Addr} {R : Pic} (h : RowsO H l R) (e : Same H H') : RowsO H' l R := h.imp (fun z => e _ _ z) (fun z => e _ _ z)
/-! ### colours -/
/-! ### pixels -/
def insideB (w h : Nat) (x y : Int) : Bool := (decide (0 ≤ y) && decide (y < h)) && (decide (0 ≤ x) && decide (x < w))
/-! ### which colours are in -/
/-! ### == of a picture and anything -/
/-! ### repr of rows -/
/-! ### the law's own -/
end Hf
namespace Hf
open PySem PySem.Spec PyProof.Rows L2
/-! ### {k: v}, k a tuple -/
/-! ### xs[::e] of a list, e 1 or -1 -/
def tStepL (K : PySem.W.Frag) (te : TE) (tp : TO) : TE := fun σ H Q => te σ H fun x H1 => tp σ H1 fun o H2 => ∃ a xs, x = .ref a ∧ SqL K H2 a xs ∧ ((o = some 1 ∧ ∀ p, H2 p = none → Q (.ref p) (upd H2 p (.lst xs))) ∨ (o = some (-1) ∧ ∀ p, H2 p = none → Q (.ref p) (upd H2 p (.lst xs.reverse))))
theorem rd_stepL {K : PySem.W.Frag} {te : TE} {tp : TO} {σ : L2.St} {H : Hp} {Q : VK} (q : te σ H fun x H1 => tp σ H1 fun o H2 => ∃ a xs, x = .ref a ∧ SqL K H2 a xs ∧ ((o = some 1 ∧ ∀ p, H2 p = none → Q (.ref p) (upd H2 p (.lst xs))) ∨ (o = some (-1) ∧ ∀ p, H2 p = none → Q (.ref p) (upd H2 p (.lst xs.reverse))))) : tStepL K te tp σ H Q := q
end Hf
namespace Hf
open PySem PySem.Spec PyProof.Rows L2
/-! ### pixels and what hangs together (no program in sight) -/
abbrev Pt := Int × Int
def nbr (p : Pt) : List Pt := [(p.1, p.2 - 1), (p.1 - 1, p.2), (p.1 + 1, p.2), (p.1, p.2 + 1)]
/-- the colour at a pixel, none beyond the picture -/
def colA (R : Pic) (p : Pt) : Option Nat := if 0 ≤ p.1 ∧ 0 ≤ p.2 then (R[p.2.toNat]?).bind fun r => r[p.1.toNat]? else none
inductive Conn (R : Pic) (p : Pt) : Pt → Prop
  | refl (h : (colA R p).isSome = true) : Conn R p p
  | step {q r : Pt} (h : Conn R p q) (a : r ∈ nbr q) (c : colA R r = colA R p) : Conn R p r
theorem nbr_symm {p q : Pt} (h : q ∈ nbr p) : p ∈ nbr q := by
  obtain ⟨a, b⟩ := p
  obtain ⟨c, d⟩ := q
  simp only [nbr, List.mem_cons, List.not_mem_nil, or_false, Prod.mk.injEq] at *
  omega
theorem Conn.col {R : Pic} {p q : Pt} (h : Conn R p q) : colA R q = colA R p := by
  cases h with
  | refl h => rfl
  | step h a c => exact c
theorem Conn.some {R : Pic} {p q : Pt} (h : Conn R p q) : (colA R p).isSome = true := by
  induction h with
  | refl h => exact h
  | step h a c ih => exact ih
theorem Conn.trans {R : Pic} {p q r : Pt} (h : Conn R p q) (g : Conn R q r) : Conn R p r := by
  induction g with
  | refl _ => exact h
  | step _ a c ih => exact .step ih a (c.trans h.col)
theorem Conn.head {R : Pic} {p q r : Pt} (hp : (colA R p).isSome = true) (a : q ∈ nbr p) (c : colA R q = colA R p) (g : Conn R q r) : Conn R p r := Conn.trans (.step (.refl hp) a c) g
theorem Conn.symm {R : Pic} {p q : Pt} (h : Conn R p q) : Conn R q p := by
  induction h with
  | refl h => exact .refl h
  | @step q r h a c ih =>
    refine Conn.head ?_ (nbr_symm a) (h.col.trans c.symm) ih
    rw [c]
    exact h.some
theorem col_in {w h : Nat} {R : Pic} (G : Good w h R) {p : Pt} (c : (colA R p).isSome = true) : 0 ≤ p.1 ∧ p.1 < w ∧ 0 ≤ p.2 ∧ p.2 < h := by
  unfold colA at c
  by_cases e : 0 ≤ p.1 ∧ 0 ≤ p.2
  · rw [if_pos e] at c
    cases er : R[p.2.toNat]? with
    | none => rw [er] at c; cases c
    | some r =>
      rw [er] at c
      cases ed : r[p.1.toNat]? with
      | none => rw [Option.bind_some, ed] at c; cases c
      | some d =>
        have h1 := (List.getElem?_eq_some_iff.mp er).1
        have h2 := (List.getElem?_eq_some_iff.mp ed).1
        rw [G.h] at h1
        rw [G.w r (List.mem_of_getElem? er)] at h2
        omega
  · rw [if_neg e] at c
    cases c
/-! ### a search -/
abbrev Fd := List (Pt × Option Pt)
def hasK (F : Fd) (q : Pt) : Bool := F.any fun e => decide (e.1 = q)
def addB (R : Pic) (p here : Pt) (F : Fd) (q : Pt) : Fd := if hasK F q = false ∧ colA R q = colA R p then F ++ [(q, some here)] else F
def turnB (R : Pic) (p : Pt) (F : Fd) (here : Pt) : Fd := (nbr here).foldl (addB R p here) F
inductive BfS (R : Pic) (p : Pt) : Nat → Fd → Prop
  | zero : BfS R p 0 [(p, none)]
  | succ {n : Nat} {F : Fd} {e : Pt × Option Pt} (h : BfS R p n F) (g : F[n]? = some e) : BfS R p (n + 1) (turnB R p F e.1)
def keysF (F : Fd) : List Pt := F.map (·.1)
theorem hasK_iff {F : Fd} {q : Pt} : hasK F q = true ↔ q ∈ keysF F := by
  unfold hasK keysF
  simp only [List.any_eq_true, decide_eq_true_eq, List.mem_map]
theorem hasK_no {F : Fd} {q : Pt} : hasK F q = false ↔ q ∉ keysF F := by
  rw [← hasK_iff]
  cases hasK F q <;> simp
section
variable {R : Pic} {p here : Pt}
theorem add_pre (F : Fd) (q : Pt) : ∃ X, addB R p here F q = F ++ X := by
  unfold addB
  by_cases e : hasK F q = false ∧ colA R q = colA R p
  · rw [if_pos e]; exact ⟨_, rfl⟩
  · rw [if_neg e]; exact ⟨[], by simp⟩
theorem fold_pre : ∀ (qs : List Pt) (F : Fd), ∃ X, qs.foldl (addB R p here) F = F ++ X
  | [], F => ⟨[], by simp⟩
  | q :: qs, F => by
    obtain ⟨X, e⟩ := add_pre (R := R) (p := p) (here := here) F q
    obtain ⟨Y, e2⟩ := fold_pre qs (addB R p here F q)
    exact ⟨X ++ Y, by rw [List.foldl_cons, e2, e, List.append_assoc]⟩
/-- what stays true of the entries -/
structure OkF (R : Pic) (p : Pt) (F : Fd) : Prop where
  nd : (keysF F).Nodup
  cn : ∀ q ∈ keysF F, Conn R p q
theorem OkF.add {F : Fd} (h : OkF R p F) (hh : Conn R p here) {q : Pt} (a : q ∈ nbr here) : OkF R p (addB R p here F q) := by
  unfold addB
  by_cases e : hasK F q = false ∧ colA R q = colA R p
  · rw [if_pos e]
    have e1 := hasK_no.mp e.1
    have ek : keysF (F ++ [(q, some here)]) = keysF F ++ [q] := by simp [keysF]
    refine ⟨?_, ?_⟩
    · rw [ek, List.nodup_append]
      refine ⟨h.nd, by simp, ?_⟩
      intro x hx y hy
      rw [List.mem_singleton.mp hy]
      intro z
      exact e1 (z ▸ hx)
    · rw [ek]
      intro x hx
      rcases List.mem_append.mp hx with hx | hx
      · exact h.cn x hx
      · rw [List.mem_singleton.mp hx]
        exact .step hh a e.2
  · rw [if_neg e]
    exact h
theorem OkF.fold : ∀ {qs : List Pt} {F : Fd}, OkF R p F → Conn R p here → (∀ q ∈ qs, q ∈ nbr here) → OkF R p (qs.foldl (addB R p here) F)
  | [], F, h, _, _ => h
  | q :: qs, F, h, hh, hq => by
    rw [List.foldl_cons]
    exact OkF.fold (qs := qs) (h.add hh (hq q List.mem_cons_self)) hh fun x hx => hq x (List.mem_cons_of_mem _ hx)
theorem pre_mem {F G : Fd} {q : Pt} (h : ∃ X, G = F ++ X) (m : q ∈ keysF F) : q ∈ keysF G := by
  obtain ⟨X, rfl⟩ := h
  unfold keysF
  rw [List.map_append]
  exact List.mem_append_left _ m
theorem fold_all : ∀ {qs : List Pt} {F : Fd} {q : Pt}, q ∈ qs → colA R q = colA R p → q ∈ keysF (qs.foldl (addB R p here) F)
  | q' :: qs, F, q, hq, c => by
    rw [List.foldl_cons]
    rcases List.mem_cons.mp hq with e | hq
    · subst e
      refine pre_mem (fold_pre qs _) ?_
      unfold addB
      by_cases e : hasK F q = false ∧ colA R q = colA R p
      · rw [if_pos e]
        simp [keysF]
      · rw [if_neg e]
        refine hasK_iff.mp ?_
        cases z : hasK F q with
        | true => rfl
        | false => exact absurd ⟨z, c⟩ e
    · exact fold_all hq c
end
theorem BfS.ok {R : Pic} {p : Pt} {n : Nat} {F : Fd} (hp : (colA R p).isSome = true) (h : BfS R p n F) : OkF R p F ∧ n ≤ F.length ∧ p ∈ keysF F ∧ ∀ m e, m < n → F[m]? = some e → ∀ q ∈ nbr e.1, colA R q = colA R p → q ∈ keysF F := by
  induction h with
  | zero =>
    refine ⟨⟨by simp [keysF], fun q hq => ?_⟩, Nat.zero_le _, by simp [keysF], fun m e hm => absurd hm (by omega)⟩
    simp only [keysF, List.map_cons, List.map_nil, List.mem_singleton] at hq
    rw [hq]
    exact .refl hp
  | @succ n F e h g ih =>
    obtain ⟨ok, le, pm, cl⟩ := ih
    have lt := (List.getElem?_eq_some_iff.mp g).1
    have em : e.1 ∈ keysF F := List.mem_map_of_mem (List.mem_of_getElem? g)
    have pre := fold_pre (R := R) (p := p) (here := e.1) (nbr e.1) F
    refine ⟨ok.fold (ok.cn _ em) fun q hq => hq, ?_, pre_mem pre pm, fun m e' hm he' q hq c => ?_⟩
    · obtain ⟨X, z⟩ := pre
      show n + 1 ≤ ((nbr e.1).foldl (addB R p e.1) F).length
      rw [z, List.length_append]
      omega
    · have hF : F[m]? = some e' := by
        obtain ⟨X, z⟩ := pre
        have he' : ((nbr e.1).foldl (addB R p e.1) F)[m]? = some e' := he'
        rw [z, List.getElem?_append_left (by omega)] at he'
        exact he'
      by_cases em2 : m = n
      · subst em2
        rw [g] at hF
        cases hF
        exact fold_all hq c
      · exact pre_mem pre (cl m e' (by omega) hF q hq c)
/-- at the end all that hangs together is found -/
theorem BfS.done {R : Pic} {p : Pt} {F : Fd} (hp : (colA R p).isSome = true) (h : BfS R p F.length F) (q : Pt) : q ∈ keysF F ↔ Conn R p q := by
  obtain ⟨ok, _, pm, cl⟩ := h.ok hp
  refine ⟨ok.cn q, fun c => ?_⟩
  induction c with
  | refl _ => exact pm
  | @step q r h a c ih =>
    obtain ⟨e, he, rfl⟩ := List.mem_map.mp ih
    obtain ⟨m, hm, em⟩ := List.mem_iff_getElem.mp he
    exact cl m e hm (by rw [List.getElem?_eq_getElem hm, em]) r a c
/-! ### how many -/
theorem nodup_le : ∀ (N : Nat) (l : List Nat), l.Nodup → (∀ x ∈ l, x < N) → l.length ≤ N
  | 0, l, _, h => by
    cases l with
    | nil => exact Nat.le_refl _
    | cons x l => exact absurd (h x List.mem_cons_self) (by omega)
  | N + 1, l, nd, h => by
    have h1 := nodup_le N (l.erase N) (nd.erase N) fun x hx => by
      have := h x (List.mem_of_mem_erase hx)
      have := (nd.mem_erase_iff.mp hx).1
      omega
    have : l.length ≤ (l.erase N).length + 1 := by
      by_cases e : N ∈ l
      · rw [List.length_erase_of_mem e]; omega
      · rw [List.erase_of_not_mem e]; omega
    omega
theorem map_nodup {α β : Type} {f : α → β} : ∀ {l : List α}, l.Nodup → (∀ x ∈ l, ∀ y ∈ l, f x = f y → x = y) → (l.map f).Nodup
  | [], _, _ => List.nodup_nil
  | a :: l, nd, inj => by
    rw [List.nodup_cons] at nd
    rw [List.map_cons, List.nodup_cons]
    refine ⟨fun z => ?_, map_nodup nd.2 fun x hx y hy e => inj x (List.mem_cons_of_mem _ hx) y (List.mem_cons_of_mem _ hy) e⟩
    obtain ⟨y, hy, e⟩ := List.mem_map.mp z
    have := inj y (List.mem_cons_of_mem _ hy) a List.mem_cons_self e
    exact nd.1 (this ▸ hy)
theorem pts_le {w h : Nat} {l : List Pt} (nd : l.Nodup) (hb : ∀ q ∈ l, 0 ≤ q.1 ∧ q.1 < w ∧ 0 ≤ q.2 ∧ q.2 < h) : l.length ≤ w * h := by
  have h1 := nodup_le (w * h) (l.map fun q => q.2.toNat * w + q.1.toNat) (map_nodup nd fun x hx y hy e => ?_) fun z hz => ?_
  · rw [List.length_map] at h1
    exact h1
  · obtain ⟨x1, x2, x3, x4⟩ := hb x hx
    obtain ⟨y1, y2, y3, y4⟩ := hb y hy
    have hw : 0 < w := by omega
    have e1 : (x.2.toNat * w + x.1.toNat) / w = x.2.toNat := by
      rw [Nat.mul_comm, Nat.mul_add_div hw, Nat.div_eq_of_lt (by omega), Nat.add_zero]
    have e2 : (y.2.toNat * w + y.1.toNat) / w = y.2.toNat := by
      rw [Nat.mul_comm, Nat.mul_add_div hw, Nat.div_eq_of_lt (by omega), Nat.add_zero]
    have e : x.2.toNat * w + x.1.toNat = y.2.toNat * w + y.1.toNat := e
    rw [e, e2] at e1
    rw [← e1] at e
    obtain ⟨a, b⟩ := x
    obtain ⟨c, d⟩ := y
    simp only [Prod.mk.injEq]
    simp only at *
    omega
  · obtain ⟨q, hq, rfl⟩ := List.mem_map.mp hz
    obtain ⟨x1, x2, x3, x4⟩ := hb q hq
    have h2 : (q.2.toNat + 1) * w ≤ h * w := Nat.mul_le_mul_right w (by omega)
    rw [Nat.succ_mul] at h2
    rw [Nat.mul_comm w h]
    omega
theorem OkF.len {w h : Nat} {R : Pic} {p : Pt} {F : Fd} (G : Good w h R) (hp : (colA R p).isSome = true) (ok : OkF R p F) : F.length ≤ w * h := by
  have := pts_le (w := w) (h := h) ok.nd fun q hq => col_in G (by rw [(ok.cn q hq).col]; exact hp)
  unfold keysF at this
  rw [List.length_map] at this
  exact this
/-! ### in order by rows -/
def ltP (p q : Pt) : Prop := p.2 < q.2 ∨ (p.2 = q.2 ∧ p.1 < q.1)
structure Reg (R : Pic) (p : Pt) (L : List Pt) : Prop where
  pw : L.Pairwise ltP
  mem : ∀ q, q ∈ L ↔ Conn R p q
end Hf
namespace Hf
open PySem PySem.Spec PyProof.Rows L2
/-! ### in and not in of a dict -/
/-! ### pixels in the heap -/
def TupP (H : Hp) (t : Addr) (q : Pt) : Prop := H t = some (.tup [.int q.1, .int q.2])
def keyP (q : Pt) : List L2.Key := [.inl q.1, .inl q.2]
theorem TupP.key {H : Hp} {t : Addr} {q : Pt} (h : TupP H t q) : H t = some (.tup ((keyP q).map kV)) := h
theorem key_inj {p q : Pt} : keyP p = keyP q ↔ p = q := by
  constructor
  · intro h
    obtain ⟨a, b⟩ := p
    obtain ⟨c, d⟩ := q
    simp only [keyP, List.cons.injEq, Sum.inl.injEq, and_true] at h
    rw [h.1, h.2]
  · intro h; rw [h]
def ValP (H : Hp) (v : V) : Option Pt → Prop
  | none => v = .non
  | some q => ∃ t, v = .ref t ∧ TupP H t q
def DicP (H : Hp) (kvs : List (List L2.Key × V)) (F : Fd) : Prop := F2 (fun kv e => kv.1 = keyP e.1 ∧ ValP H kv.2 e.2) kvs F
/-- tuples stay -/
def KeepT (H H' : Hp) : Prop := ∀ t xs, H t = some (.tup xs) → H' t = some (.tup xs)
theorem KeepT.same {H H' : Hp} (h : Same H H') : KeepT H H' := fun t xs e => h _ _ e
theorem KeepT.trans {H H1 H2 : Hp} (a : KeepT H H1) (b : KeepT H1 H2) : KeepT H H2 := fun t xs e => b t xs (a t xs e)
theorem TupP.keep {H H' : Hp} {t : Addr} {q : Pt} (h : TupP H t q) (k : KeepT H H') : TupP H' t q := k _ _ h
theorem ValP.keep {H H' : Hp} {v : V} {o : Option Pt} (h : ValP H v o) (k : KeepT H H') : ValP H' v o := by
  cases o with
  | none => exact h
  | some q => obtain ⟨t, e, g⟩ := h; exact ⟨t, e, g.keep k⟩
theorem DicP.keep {H H' : Hp} {kvs : List (List L2.Key × V)} {F : Fd} (h : DicP H kvs F) (k : KeepT H H') : DicP H' kvs F := F2.imp (fun _ _ z => ⟨z.1, z.2.keep k⟩) h
theorem tups_keep {H H' : Hp} {ts : List Addr} {L : List Pt} (h : F2 (TupP H) ts L) (k : KeepT H H') : F2 (TupP H') ts L := F2.imp (fun _ _ z => z.keep k) h
theorem DicP.has {H : Hp} {kvs : List (List L2.Key × V)} {F : Fd} (h : DicP H kvs F) (q : Pt) : (valV kvs (keyP q)).isSome = hasK F q := by
  unfold DicP at h
  induction h with
  | nil => rfl
  | @cons a b as bs hd tl ih =>
    obtain ⟨e, _⟩ := hd
    by_cases z : b.1 = q
    · have e2 : a.1 = keyP q := by rw [e, z]
      rw [valV_pos e2]
      unfold hasK
      rw [List.any_cons, decide_eq_true z, Bool.true_or]
      rfl
    · have e2 : ¬ a.1 = keyP q := by rw [e]; exact fun w => z (key_inj.mp w)
      rw [valV_neg e2, ih]
      unfold hasK
      rw [List.any_cons, decide_eq_false z, Bool.false_or]
theorem DicP.put {H : Hp} {kvs : List (List L2.Key × V)} {F : Fd} (h : DicP H kvs F) {q : Pt} {v : V} {o : Option Pt} (n : hasK F q = false) (hv : ValP H v o) : putK kvs (keyP q) v = kvs ++ [(keyP q, v)] ∧ DicP H (kvs ++ [(keyP q, v)]) (F ++ [(q, o)]) := by
  have e : (kvs.any fun kv => decide (kv.1 = keyP q)) = false := by
    rw [valV_any, h.has, n]
  refine ⟨?_, F2.append h (.cons ⟨rfl, hv⟩ .nil)⟩
  unfold putK
  rw [e, if_neg Bool.false_ne_true]
/-! ### promises -/
theorem F2.at {α β : Type} {R : α → β → Prop} {as : List α} {bs : List β} (h : F2 R as bs) {i : Nat} {b : β} (hb : bs[i]? = some b) : ∃ a, as[i]? = some a ∧ R a b := by
  induction h generalizing i with
  | nil => cases hb
  | cons hd tl ih =>
    cases i with
    | zero => cases hb; exact ⟨_, rfl, hd⟩
    | succ i => exact ih hb
theorem rd_dput {td ty tv : TE} {D : Ends} {σ : L2.St} {H : Hp} (q : tv σ H fun v H1 => td σ H1 fun x H2 => ty σ H2 fun y H3 => ∃ a H4, x = .ref a ∧ DPut H3 a y v H4 ∧ D.nx σ H4) : sDPut td ty tv D σ H := q
theorem rd_dget {td ty : TE} {σ : L2.St} {H : Hp} {Q : VK} (q : td σ H fun x H1 => ty σ H1 fun y H2 => ∃ a v, x = .ref a ∧ DGet H2 a y (some v) ∧ Q v H2) : tDGet td ty σ H Q := q
end Hf
namespace Hf
open PySem PySem.Spec PyProof.Rows L2
theorem big_size {n : Nat} (h : n ≤ 1000000) : n < sizeLine := by
  have := sizeLine_eq
  omega
/-! ### comprehensions of up to a million items -/
theorem lc_mapB {J : It} {n : Nat} {G : Hp → Prop} {Y : Nat → Hp → V → Hp → Prop} (w : Walk J n G Y) {g : TG} {te : TE} {vs : List Nat} {σ : L2.St} {H : Hp} {Q : VK} (F : Nat → V) (hG : ∀ H', Same H H' → G H') (hn : n ≤ 1000000)
    (hev : ∀ (j : Nat) (x : V) (H1 H2 : Hp) (R : VK), j < n → Same H H1 → Y j H1 x H2 → (∀ H3, Same H1 H3 → R (F j) H3) → g x (wipe σ vs) H2 fun σ2 H3 => wipe σ2 vs = wipe σ vs ∧ te σ2 H3 R)
    (k : ∀ (D : Addr) (H' : Hp), H D = none → H' D = some (.lst ((List.range n).map F)) → Same H H' → Q (.ref D) H') : LcK g tYes te vs σ Q J H := by
  intro D hD
  refine lc_it w (g := g) (tt := tYes) (te := te) (vs := vs) (σ := σ) (Qd := fun H => Q (.ref D) H) (fun j H' => H' D = some (.lst ((List.range j).map F)) ∧ Same H H') ⟨upd_same, Same.new hD⟩ (fun j H' _ p => hG H' p.2) ?_ ?_
  · rintro j x H1 H2 hj ⟨e, s⟩ y
    refine hev j x H1 H2 (fun v H4 => ∃ acc, H4 D = some (.lst acc) ∧ acc.length < sizeLine ∧ (upd H4 D (.lst (acc ++ [v])) D = some (.lst ((List.range (j + 1)).map F)) ∧ Same H (upd H4 D (.lst (acc ++ [v]))))) hj s y fun H3 s3 => ⟨_, s3 _ _ e, ?_, ?_, Same.mut (s.trans s3) hD⟩
    · rw [List.length_map, List.length_range]
      exact big_size (by omega)
    · rw [upd_same, List.range_succ, List.map_append]
      rfl
  · rintro H1 ⟨e, s⟩
    exact k D H1 hD e s
/-! ### a dict walked -/
/-! ### pixels in order -/
theorem DicP.keys {H : Hp} {kvs : List (List L2.Key × V)} {F : Fd} (h : DicP H kvs F) : kvs.map (·.1) = (keysF F).map keyP := by
  unfold DicP at h
  induction h with
  | nil => rfl
  | @cons a b as bs hd tl ih =>
    show a.1 :: as.map (·.1) = keyP b.1 :: (keysF bs).map keyP
    rw [ih, hd.1]
theorem rd_lockE {t : TE} {σ : L2.St} {H : Hp} {Q : VK} {d : Addr} {u : HO} (hd : H d = some u) (mu : Mut (some u)) (q : ∀ od, t σ (upd H d (.frz od u)) fun v H' => H' d = some (.frz od u) ∧ Q v (upd H' d u)) : tLockE t σ H Q := ⟨d, u, hd, mu, q⟩
theorem rd_iKeys {td : TE} {σ : L2.St} {H : Hp} {R : It → Hp → Prop} (q : td σ H fun x H1 => ∃ d o, x = .ref d ∧ ((∃ kvs, H1 d = some (.frz o (.dK kvs)) ∧ R (Itk d o kvs) H1) ∨ ∃ kvs, H1 d = some (.frz o (.dT kvs)) ∧ R (Itkt d o kvs) H1)) : iKeys td σ H R := q
end Hf
namespace Hf
open PySem PySem.Spec PyProof.Rows L2
/-! ### pixels as data -/
theorem tup_len (ts : List Str) : (tupleText ts).length ≤ piled ts + 3 := by
  cases ts with
  | nil => decide
  | cons t r =>
    have h1 := join_length_add (t :: r) (by simp)
    unfold tupleText
    rw [Str.length_append, Str.length_append]
    have : ∀ b : Bool, (Str.ofString (if b = true then ",)" else ")")).length ≤ 2 := by intro b; cases b <;> decide
    have := this ((t :: r).length == 1)
    have e1 : ("(" : Str).length = 1 := by decide
    omega
/-! ### a dict known by its keys -/
def DicM (kvs : List (List L2.Key × V)) (M : List Pt) : Prop := kvs.map (·.1) = M.map keyP
theorem DicM.has {kvs : List (List L2.Key × V)} {M : List Pt} (h : DicM kvs M) (q : Pt) : (valV kvs (keyP q)).isSome = decide (q ∈ M) := by
  rw [← valV_any, Bool.eq_iff_iff, List.any_eq_true, decide_eq_true_eq]
  unfold DicM at h
  constructor
  · rintro ⟨kv, hm, e⟩
    have e := of_decide_eq_true e
    have : kv.1 ∈ M.map keyP := by rw [← h]; exact List.mem_map_of_mem hm
    obtain ⟨q', hq', e2⟩ := List.mem_map.mp this
    rw [e] at e2
    rw [← key_inj.mp e2]
    exact hq'
  · intro hq
    have : keyP q ∈ kvs.map (·.1) := by rw [h]; exact List.mem_map_of_mem hq
    obtain ⟨kv, hm, e⟩ := List.mem_map.mp this
    exact ⟨kv, hm, decide_eq_true e⟩
theorem DicM.put {kvs : List (List L2.Key × V)} {M : List Pt} (h : DicM kvs M) (q : Pt) (v : V) : DicM (putK kvs (keyP q) v) (if q ∈ M then M else M ++ [q]) := by
  unfold putK
  rw [valV_any, h.has]
  unfold DicM at *
  by_cases e : q ∈ M
  · rw [decide_eq_true e, if_pos rfl, if_pos e, List.map_map, ← h]
    refine List.map_congr_left fun kv _ => ?_
    show (if kv.1 = keyP q then (kv.1, v) else kv).1 = kv.1
    by_cases z : kv.1 = keyP q
    · rw [if_pos z]
    · rw [if_neg z]
  · rw [decide_eq_false e, if_neg Bool.false_ne_true, if_neg e, List.map_append, List.map_append, h]
    rfl
theorem DicM.len {kvs : List (List L2.Key × V)} {M : List Pt} (h : DicM kvs M) : kvs.length = M.length := by
  have := congrArg List.length h
  rw [List.length_map, List.length_map] at this
  exact this
/-! ### the law's own search -/
structure OkM (R : Pic) (p : Pt) (M : List Pt) : Prop where
  nd : M.Nodup
  cn : ∀ q ∈ M, Conn R p q
def Closed (R : Pic) (p : Pt) (M : List Pt) (q : Pt) : Prop := ∀ r ∈ nbr q, colA R r = colA R p → r ∈ M
theorem OkM.add {R : Pic} {p a q : Pt} {M : List Pt} (h : OkM R p M) (ha : Conn R p a) (hq : q ∈ nbr a) (c : colA R q = colA R p) (n : q ∉ M) : OkM R p (M ++ [q]) := by
  refine ⟨?_, fun x hx => ?_⟩
  · rw [List.nodup_append]
    refine ⟨h.nd, by simp, ?_⟩
    intro x hx y hy
    rw [List.mem_singleton.mp hy]
    intro z
    exact n (z ▸ hx)
  · rcases List.mem_append.mp hx with hx | hx
    · exact h.cn x hx
    · rw [List.mem_singleton.mp hx]
      exact .step ha hq c
theorem OkM.len {w h : Nat} {R : Pic} {p : Pt} {M : List Pt} (G : Good w h R) (hp : (colA R p).isSome = true) (ok : OkM R p M) : M.length ≤ w * h := pts_le ok.nd fun q hq => col_in G (by rw [(ok.cn q hq).col]; exact hp)
theorem OkM.done {R : Pic} {p : Pt} {M : List Pt} (ok : OkM R p M) (pm : p ∈ M) (cl : ∀ q ∈ M, Closed R p M q) (q : Pt) : q ∈ M ↔ Conn R p q := by
  refine ⟨ok.cn q, fun c => ?_⟩
  induction c with
  | refl _ => exact pm
  | step h a c ih => exact cl _ ih _ a c
/-! ### all pixels, row by row -/
theorem Reg.nodup {R : Pic} {p : Pt} {L : List Pt} (g : Reg R p L) : L.Nodup := List.Pairwise.imp (fun {a b} h e => by
  subst e
  unfold ltP at h
  omega) g.pw
theorem Reg.len {w h : Nat} {R : Pic} {p : Pt} {L : List Pt} (G : Good w h R) (F : Fit w h) (hp : (colA R p).isSome = true) (g : Reg R p L) : L.length ≤ 40000 := by
  have h1 := pts_le (w := w) (h := h) g.nodup fun q hq => col_in G (by rw [((g.mem q).mp hq).col]; exact hp)
  have h2 := Nat.mul_le_mul F.w2 F.h2
  omega
end Hf
namespace Hf
open PySem PySem.Spec PyProof.Rows L2
/-! ### o.m(k = ..) -/
def tMeK (C : Addr) (m : Str) (n : Nat) (q : List V → List V) (sp : Sp) (E : XK) (ta : TE) (tk : TA) : TE := fun σ H Q => ta σ H fun x H1 => ∃ a dx fs, x = .ref a ∧ H1 a = some (.ins C dx fs) ∧ List.lookup m fs = none ∧ tk σ H1 (ClKK n (fun zs => x :: q zs) sp E Q)
theorem rd_meK {C : Addr} {m : Str} {n : Nat} {q : List V → List V} {sp : Sp} {E : XK} {ta : TE} {tk : TA} {σ : L2.St} {H : Hp} {Q : VK} (z : ta σ H fun x H1 => ∃ a dx fs, x = .ref a ∧ H1 a = some (.ins C dx fs) ∧ List.lookup m fs = none ∧ tk σ H1 (ClKK n (fun zs => x :: q zs) sp E Q)) : tMeK C m n q sp E ta tk σ H Q := z
theorem rd_dnewT {σ : L2.St} {H : Hp} {Q : VK} (q : ∀ p, H p = none → Q (.ref p) (upd H p (.dT []))) : tDNewT σ H Q := q
/-! ### a dict from pixels to their regions -/
structure Know (R : Pic) (H : Hp) (kvs : List (List L2.Key × V)) (M : List Pt) : Prop where
  m : DicM kvs M
  nd : M.Nodup
  i : ∀ q ∈ M, (colA R q).isSome = true
  v : ∀ q v, valV kvs (keyP q) = some v → ∃ (m : Addr) (ts : List Addr) (L : List Pt), v = .ref m ∧ H m = some (.lst (ts.map V.ref)) ∧ F2 (TupP H) ts L ∧ Reg R q L
theorem Know.nil {R : Pic} {H : Hp} : Know R H [] [] := ⟨rfl, List.nodup_nil, fun q h => (by cases h), fun q v h => (by cases h)⟩
theorem Know.len {R : Pic} {H : Hp} {kvs : List (List L2.Key × V)} {M : List Pt} {w h : Nat} (K : Know R H kvs M) (G : Good w h R) : kvs.length ≤ w * h := by
  rw [K.m.len]
  exact pts_le K.nd fun q hq => col_in G (K.i q hq)
theorem Know.keep {R : Pic} {H H' : Hp} {kvs : List (List L2.Key × V)} {M : List Pt} (K : Know R H kvs M) (k : KeepT H H') (l : ∀ m xs, H m = some (.lst xs) → H' m = some (.lst xs)) : Know R H' kvs M := ⟨K.m, K.nd, K.i, fun q v h => by
  obtain ⟨m, ts, L, e, hm, T, g⟩ := K.v q v h
  exact ⟨m, ts, L, e, l _ _ hm, tups_keep T k, g⟩⟩
theorem Know.same {R : Pic} {H H' : Hp} {kvs : List (List L2.Key × V)} {M : List Pt} (K : Know R H kvs M) (s : Same H H') : Know R H' kvs M := K.keep (.same s) fun m xs h => s _ _ h
theorem Know.put {R : Pic} {H : Hp} {kvs : List (List L2.Key × V)} {M : List Pt} (K : Know R H kvs M) {q : Pt} {m : Addr} {ts : List Addr} {L : List Pt} (c : (colA R q).isSome = true) (hm : H m = some (.lst (ts.map V.ref))) (T : F2 (TupP H) ts L) (g : Reg R q L) : Know R H (putK kvs (keyP q) (.ref m)) (if q ∈ M then M else M ++ [q]) := by
  refine ⟨K.m.put q _, ?_, fun x hx => ?_, fun x v hv => ?_⟩
  · by_cases e : q ∈ M
    · rw [if_pos e]; exact K.nd
    · rw [if_neg e, List.nodup_append]
      refine ⟨K.nd, by simp, ?_⟩
      intro x hx y hy
      rw [List.mem_singleton.mp hy]
      intro z
      exact e (z ▸ hx)
  · by_cases e : q ∈ M
    · rw [if_pos e] at hx; exact K.i x hx
    · rw [if_neg e] at hx
      rcases List.mem_append.mp hx with hx | hx
      · exact K.i x hx
      · rw [List.mem_singleton.mp hx]; exact c
  · by_cases e : x = q
    · subst e
      rw [valV_put, if_pos rfl] at hv
      exact ⟨m, ts, L, (Option.some.inj hv).symm, hm, T, g⟩
    · rw [valV_put, if_neg (fun z => e (key_inj.mp z))] at hv
      exact K.v x v hv
end Hf
namespace Hf
open PySem PySem.Spec PyProof.Rows L2
/-! ### e[::-1], of anything: the slice is made, then getItem gives what r says -/
/-! ### of a tuple -/
def rRevT (K : PySem.W.Frag) : V → Hp → VK → Prop := fun x H Q => ∃ a xs, x = .ref a ∧ SqT K H a xs ∧ ∀ p, H p = none → Q (.ref p) (upd H p (.tup xs.reverse))
theorem rd_revT {K : PySem.W.Frag} {te : TE} {σ : L2.St} {H : Hp} {Q : VK} (q : te σ H fun x H1 => ∃ a xs, x = .ref a ∧ SqT K H1 a xs ∧ ∀ p, H1 p = none → Q (.ref p) (upd H1 p (.tup xs.reverse))) : tUn (rRevT K) te σ H Q := q
theorem rd_revL {K : PySem.W.Frag} {te : TE} {σ : L2.St} {H : Hp} {Q : VK} (q : te σ H fun x H1 => ∃ a xs, x = .ref a ∧ SqL K H1 a xs ∧ ∀ p, H1 p = none → Q (.ref p) (upd H1 p (.lst xs.reverse))) : tRevL K te σ H Q := q
/-! ### of a text -/
def revS (z : Str) : Str := ⟨z.cps.toList.reverse.toArray⟩
def rRevS : V → Hp → VK → Prop := fun x H Q => ∃ z : Str, x = .str z ∧ z.length ≤ sizeLine ∧ Q (.str (revS z)) H
theorem rd_revS {te : TE} {σ : L2.St} {H : Hp} {Q : VK} (q : te σ H fun x H1 => ∃ z : Str, x = .str z ∧ z.length ≤ sizeLine ∧ Q (.str (revS z)) H1) : tUn rRevS te σ H Q := q
end Hf
namespace Hf
open PySem PySem.Spec PyProof.Rows L2
/-! ### facts go along with the heap -/
theorem same_at {H H' : Hp} {a : Addr} {o : HO} (s : Same H H') (h : H a = some o) : H' a = some o := s _ _ h
theorem same_tr {H H1 H2 : Hp} (s : Same H1 H2) (t : Same H H1) : Same H H2 := t.trans s
theorem picg_at {C p : Addr} {H H' : Hp} {w h : Nat} {R : Pic} (s : Same H H') (g : PicG C H p w h R) : PicG C H' p w h R := g.same s
theorem tups_at {H H' : Hp} {ts : List Addr} {L : List Pt} (s : Same H H') (g : F2 (TupP H) ts L) : F2 (TupP H') ts L := tups_keep g (.same s)
theorem pen_at {H H' : Hp} {b c : Addr} {k : Nat} (s : Same H H') (g : Pen H b c k) : Pen H' b c k := g.same s
/-! ### flips (no program in sight) -/
/-! ### promises -/
/-! ### a pixel in a tuple of pixels -/
end Hf
namespace Hf
open PySem PySem.Spec PyProof.Rows L2
end Hf
namespace Hf
open PySem PySem.Spec PyProof.Rows L2
end Hf
namespace Hf
open PySem PySem.Spec PyProof.Rows L2
/-! ### data with empty dicts, without lists -/
mutual
inductive Dx (H : Hp) : V → PyData → Prop
  | non : Dx H .non .none
  | bl (b : Bool) : Dx H (.bl b) (.bool b)
  | int (i : Int) : Dx H (.int i) (.int i)
  | str (x : Str) : Dx H (.str x) (.str x)
  | tup {a : Addr} {xs : List V} {ds : List PyData} : H a = some (.tup xs) → DxAll H xs ds → Dx H (.ref a) (.tuple ds)
  | dic {a : Addr} : H a = some (.dK []) → Dx H (.ref a) (.dict [])
inductive DxAll (H : Hp) : List V → List PyData → Prop
  | nil : DxAll H [] []
  | cons {v : V} {vs : List V} {d : PyData} {ds : List PyData} : Dx H v d → DxAll H vs ds → DxAll H (v :: vs) (d :: ds)
end
section
variable {X : Cx} {pins : List (Addr × Obj)} {σ : L2.St} {H : Hp} {s : Shared}
mutual
theorem Dx.reads (I : Inv X pins σ H s) : ∀ (d : PyData) (v : V) (u : Value), Dx H v d → RelV v u → ∃ as, Reads s.heap u d as ∧ sysModules ∉ as
  | .none, _, _, h, r => by
    cases h
    cases r
    exact ⟨_, Reads.none, by simp⟩
  | .bool b, _, _, h, r => by
    cases h
    cases r
    exact ⟨_, Reads.bool b, by simp⟩
  | .int i, _, _, h, r => by
    cases h
    obtain ⟨t, rfl⟩ := r
    exact ⟨_, Reads.int i t, by simp⟩
  | .str x, _, _, h, r => by
    cases h
    obtain ⟨t, rfl⟩ := r
    exact ⟨_, Reads.str x t, by simp⟩
  | .list ds, _, _, h, r => by cases h
  | .tuple ds, _, _, h, r => by
    cases h with
    | tup hs ha =>
      cases r
      obtain ⟨its, rv, ⟨o, ho, hc, n, hd⟩, _⟩ := I.tuple (SqT.of hs)
      obtain ⟨as, hr, hn⟩ := Dx.readsAll I ds _ its ha rv
      exact ⟨_, Reads.tuple ho hc hd hr, hn⟩
  | .dict kvs, _, _, h, r => by
    cases h with
    | @dic a hs =>
      cases r
      obtain ⟨_, hd, vs, rel, o, es, ep, ho, hx, hdat, _, hp, _⟩ := dk_of I.hok hs
      cases rel
      have he : es.toList = [] := by
        cases e : es.toList with
        | nil => rfl
        | cons x l => rw [e] at hp; cases hp
      refine ⟨_, Reads.dict (kvs := []) ho hx.1 hdat (by rw [he]; exact .nil) (by rw [he]; exact .nil), ?_⟩
      simp only [List.append_nil, List.mem_singleton]
      intro z
      rw [← z] at hd
      exact absurd hd (by decide)
theorem Dx.readsAll (I : Inv X pins σ H s) : ∀ (ds : List PyData) (vs : List V) (us : List Value), DxAll H vs ds → Vals vs us → ∃ as, ReadsAll s.heap us ds as ∧ sysModules ∉ as
  | [], _, _, h, r => by
    cases h
    cases r
    exact ⟨_, ReadsAll.nil, by simp⟩
  | d :: ds, _, _, h, r => by
    cases h with
    | cons h1 h2 =>
      cases r with
      | cons r1 r2 =>
        obtain ⟨as, q1, n1⟩ := Dx.reads I d _ _ h1 r1
        obtain ⟨bs, q2, n2⟩ := Dx.readsAll I ds _ _ h2 r2
        refine ⟨_, ReadsAll.cons q1 q2, ?_⟩
        rw [List.mem_append]
        rintro (z | z)
        · exact n1 z
        · exact n2 z
end
end
/-! ### odd values: what a law hands where a number is wanted -/
/-- a value that can be shown: small data, or an empty dict -/
inductive Odd (H : Hp) : V → PyData → Prop
  | non : Odd H .non .none
  | bl (b : Bool) : Odd H (.bl b) (.bool b)
  | int (i : Int) : i.natAbs.log2 < 1000 → Odd H (.int i) (.int i)
  | str (x : Str) : PyData.strOk x = true → x.length ≤ 10 → Odd H (.str x) (.str x)
  | lst0 {a : Addr} : H a = some (.lst []) → Odd H (.ref a) (.list [])
  | lstI {a : Addr} {i : Int} : H a = some (.lst [.int i]) → i.natAbs ≤ 9 → Odd H (.ref a) (.list [.int i])
  | tupI {a : Addr} {i : Int} : H a = some (.tup [.int i]) → i.natAbs ≤ 9 → Odd H (.ref a) (.tuple [.int i])
  | dic {a : Addr} : H a = some (.dK []) → Odd H (.ref a) (.dict [])
theorem Odd.imp {H H' : Hp} {v : V} {d : PyData} (h : Odd H v d) (hk : ∀ a o, H a = some o → v = .ref a → (∀ ps, o ≠ .tbl ps) → H' a = some o) : Odd H' v d := by
  cases h with
  | non => exact .non
  | bl b => exact .bl b
  | int i z => exact .int i z
  | str x a b => exact .str x a b
  | lst0 z => exact .lst0 (hk _ _ z rfl (fun ps z => by cases z))
  | lstI z y => exact .lstI (hk _ _ z rfl (fun ps z => by cases z)) y
  | tupI z y => exact .tupI (hk _ _ z rfl (fun ps z => by cases z)) y
  | dic z => exact .dic (hk _ _ z rfl (fun ps z => by cases z))
theorem Odd.same {H H' : Hp} {v : V} {d : PyData} (h : Odd H v d) (e : Same H H') : Odd H' v d := h.imp fun a o z _ _ => e _ _ z
theorem Odd.extN {H H' : Hp} {v : V} {d : PyData} (h : Odd H v d) (e : LamX.ExtN H H') : Odd H' v d := h.imp fun a o z _ n => e _ _ z n
theorem Odd.keep {H H' : Hp} {v : V} {d : PyData} {b : Addr} (h : Odd H v d) (e : Keep b H H') (n : v ≠ .ref b) : Odd H' v d := h.imp fun a o z ev _ => e _ _ z fun q => n (by rw [ev, q])
theorem log_len {i : Int} (h : i.natAbs.log2 < 1000) : (toString i).length ≤ 1001 := by
  have h1 : i.natAbs < 2 ^ 1000 := by
    by_cases z : i.natAbs = 0
    · rw [z]; exact Nat.two_pow_pos _
    · exact (Nat.log2_lt z).mp h
  have h2 : i.natAbs < 10 ^ 1000 := Nat.lt_of_lt_of_le h1 (Nat.pow_le_pow_left (by decide) _)
  exact PySem.int_text_length_le10 (k := 1000) (by decide) h2
end Hf
namespace Hf
open PySem PySem.Spec PyProof.Rows L2
/-! ### several except clauses, each with or without a name for the error; no error leaves them -/
/-- the error at a has come down at X: its ground, and the state ahead of it -/
structure Down (X : Cx) (pins : List (Addr × Obj)) (a : Addr) (cls : Value) (d : Option Addr) (σ : L2.St) (H : Hp) (s : Shared) : Prop where
  ex : ∃ (B : Heap) (t : Shared), Inv X pins σ H t ∧ (∀ b o, t.heap.get? b = some o → b ∉ frs X.stack → B.get? b = some o) ∧ t.heap.UpToSlots s.heap ∧ HandSPX.FlyingZ B (X.env :: X.outer) a (Zc cls d) s.heap ∧ s.os = t.os
  new : H a = none
  gens : AllBare s.gens
section
variable {X : Cx} {pins : List (Addr × Obj)} {a : Addr} {cls : Value} {d : Option Addr} {σ : L2.St} {H : Hp} {s : Shared}
theorem Down.inv (x : Down X pins a cls d σ H s) : Inv X pins σ H s := let ⟨_, _, I, nb, up, fly, os⟩ := x.ex; I.landed nb fly.1 up os x.gens
/-- it stays there while its flight is set to none once more -/
theorem Down.still (x : Down X pins a cls d σ H s) {A : Around} {Q : Unit → Shared → Prop} {E : Value → Shared → Prop} (k : ∀ h', Down X pins a cls d σ H { s with heap := h' } → Q () { s with heap := h' }) : wpAny (model X.prog X.w) A (setFlight (.ref a) none) Q E s := by
  obtain ⟨B, t, I, nb, up, fly, os⟩ := x.ex
  exact HandSPX.lands_againZ fly fun h' fly' up' => k h' ⟨⟨B, t, I, nb, up.trans up', fly', os⟩, x.new, x.gens⟩
/-- the clause's suite may run -/
theorem Down.room (x : Down X pins a cls d σ H s) (hf : X.env.frame = some X.env.locals) : ∃ oe, s.heap.get? a = some oe ∧ Zc cls d oe ∧ (∃ vs, oe.data = .fields vs) ∧ Inv (X.suite a ((a, oe) :: (X.pn ++ pins))) [] σ H s := by
  obtain ⟨B, t, I, nb, up, fly, os⟩ := x.ex
  obtain ⟨oe, vs, at_, z, fields⟩ := fly.there
  have far : ∀ e ∈ X.env :: X.outer, e.frame ≠ some a := fun e he q => by
    obtain ⟨_, o2, at2, no⟩ := fly.2.2.1.mem (List.mem_filterMap.mpr ⟨e, he, q⟩)
    rw [at_] at at2
    cases at2
    exact no _ fields
  refine ⟨oe, at_, z, ⟨vs, fields⟩, x.inv.suite at_ fields x.new (fun q => far X.env List.mem_cons_self (by rw [hf, q])) fun q => ?_⟩
  obtain ⟨e, he, q⟩ := List.mem_filterMap.mp q
  exact far e (List.mem_cons_of_mem _ he) q
/-- what the name of the clause's class is, there -/
theorem Down.named (x : Down X pins a cls d σ H s) (hf : X.env.frame = some X.env.locals) {y : Str} {c : Value} {p : Pos} (n : Names X y c) {Q : Value → Shared → Prop} {E : Value → Shared → Prop} (k : Q c s) : wpAny (model X.prog X.w) (X.A.mark (some (.ref a))) (eval (.Name y p) X.env) Q E s := by
  obtain ⟨oe, _, _, _, S⟩ := x.room hf
  rcases n with ⟨g, nd, m | ⟨m, v, nn⟩⟩
  · exact ld_glob (X := X.suite a ((a, oe) :: (X.pn ++ pins))) S g m k nd
  · exact ld_blt (X := X.suite a ((a, oe) :: (X.pn ++ pins))) S g m v k nn nd
theorem Down.looks (x : Down X pins a cls d σ H s) (hf : X.env.frame = some X.env.locals) : PySem.W.Looks (model X.prog X.w) s.heap (typeOf (.ref a)) cls := by
  obtain ⟨oe, at_, z, _, _⟩ := x.room hf
  intro A Q E s' k q
  refine wpAny_typeOf_ref (k _ _ at_) ?_
  rw [z.1]
  exact q
end
abbrev Cl1 := Value × Option Nat × (Addr → Value → Option Addr → TS)
/-- behind a clause its name is gone -/
def offE (D : Ends) (i : Nat) : Ends := ⟨fun σ H => D.nx (σ.set i none) H, D.rt, fun σ H => D.bk (σ.set i none) H, fun σ H => D.ct (σ.set i none) H⟩
def goCl (D : Ends) : Option Nat → (Addr → Value → Option Addr → TS) → Addr → Value → Option Addr → L2.St → Hp → Prop
  | none, ts, a, cls, d, σ, H => ts a cls d D σ H
  | some i, ts, a, cls, d, σ, H => ts a cls d (offE D i) (σ.set i (some (.ref a))) H
def wMix (K : PySem.W.Frag) (D : Ends) : List Cl1 → WX
  | [], _, _, _, _ => False
  | (c, o, ts) :: r, cls, d, σ, H => (PySem.W.exmOne K cls c = some true ∧ ∀ a, H a = none → goCl D o ts a cls d σ H) ∨ (PySem.W.exmOne K cls c = some false ∧ wMix K D r cls d σ H)
/-- a suite under its clause -/
def SuiteOk (X : Cx) (body : List Stmt) (ts : Addr → Value → Option Addr → TS) : Prop := ∀ (a : Addr) (oe : Obj) (cls : Value) (d : Option Addr) (pn : List (Addr × Obj)), Zc cls d oe → (∃ vs, oe.data = .fields vs) → PSs (X.suite a ((a, oe) :: pn)) body (ts a cls d)
inductive HdsMix (X : Cx) : List ExceptHandler → List Cl1 → Prop
  | nil : HdsMix X [] []
  | plain {y : Str} {c : Value} {ts : Addr → Value → Option Addr → TS} {b : Stmt} {bs : List Stmt} {p q : Pos} {hds : List ExceptHandler} {l : List Cl1} (hc : Names X y c) (hsu : SuiteOk X (b :: bs) ts) (r : HdsMix X hds l) : HdsMix X (.ExceptHandler (some (.Name y p)) none (b :: bs) q :: hds) ((c, none, ts) :: l)
  | named {y n : Str} {c : Value} {i : Nat} {ts : Addr → Value → Option Addr → TS} {b : Stmt} {bs : List Stmt} {p q : Pos} {hds : List ExceptHandler} {l : List Cl1} (hN : X.N.Nodup) (hi : X.N[i]? = some n) (hl : X.env.kindOf n = some .local) (hc : Names X y c) (hsu : SuiteOk X (b :: bs) ts) (r : HdsMix X hds l) : HdsMix X (.ExceptHandler (some (.Name y p)) (some n) (b :: bs) q :: hds) ((c, some i, ts) :: l)
section
variable {X : Cx} {pins : List (Addr × Obj)} {a : Addr} {cls : Value} {d : Option Addr} {σ : L2.St} {H : Hp} {s : Shared} {D : Ends}
/-- the clauses, one after the other -/
theorem HdsMix.run (hf : X.env.frame = some X.env.locals) {hds : List ExceptHandler} {l : List Cl1} (hk : HdsMix X hds l) : Down X pins a cls d σ H s → wMix X.K D l cls d σ H → wpAny (model X.prog X.w) X.A (handleBy (.ref a) X.env hds) (SP X pins D) X.xe s := by
  induction hk with
  | nil => exact fun _ w => w.elim
  | plain hc hsu r ih =>
    intro x w
    refine wpAny_handleBy_cons (codeAny_handlers_test (x.named hf hc ?_)) (fun q => nomatch q)
    rcases w with ⟨m, go⟩ | ⟨m, w⟩
    · refine (PySem.W.exm_one (M := model X.prog X.w) x.inv.kIn (x.looks hf) m).here (codeAny_handlers_suite (x.still fun h' x' => ?_))
      obtain ⟨oe, _, z, fl, S⟩ := x'.room hf
      refine wpAny_mono ((hsu a oe cls d _ z fl).run [] _ σ H D S (go a x'.new)) (fun f s2 e => ?_) fun _ _ no => no.elim
      have ok := x'.inv.ok
      match f, e with
      | .next, ⟨_, _, S2, e⟩ => exact ⟨_, _, S2.unsuite ok, e⟩
      | .brk, ⟨_, _, S2, e⟩ => exact ⟨_, _, S2.unsuite ok, e⟩
      | .cont, ⟨_, _, S2, e⟩ => exact ⟨_, _, S2.unsuite ok, e⟩
      | .ret _, ⟨_, _, _, S2, rv, e⟩ => exact ⟨_, _, _, S2.unsuite ok, rv, e⟩
    · exact (PySem.W.exm_one (M := model X.prog X.w) x.inv.kIn (x.looks hf) m).here (ih x w)
  | @named y n c i ts b bs p q hds l hN hi hl hc hsu r ih =>
    intro x w
    refine wpAny_handleBy_cons (codeAny_handlers_test (x.named hf hc ?_)) (fun q => nomatch q)
    rcases w with ⟨m, go⟩ | ⟨m, w⟩
    · refine (PySem.W.exm_one (M := model X.prog X.w) x.inv.kIn (x.looks hf) m).here (codeAny_handlers_suite_as (x.still fun h' x' => ?_))
      obtain ⟨oe, _, z, fl, S⟩ := x'.room hf
      refine store_ok (X := X.suite a ((a, oe) :: (X.pn ++ pins))) (v := .ref a) S hN hi (.inl hl) rfl (fun s1 S1 => ?_) (.inr hl)
      refine wpAny_mono ((hsu a oe cls d _ z fl).run [] s1 _ H (offE D i) S1 (go a x'.new)) (fun f s2 e => ?_) fun _ _ no => no.elim
      have ok := x'.inv.ok
      match f, e with
      | .next, ⟨_, _, S2, e⟩ => exact gone_ok (S2.unsuite ok) hN hi hl fun s3 J => ⟨_, _, J, e⟩
      | .brk, ⟨_, _, S2, e⟩ => exact gone_ok (S2.unsuite ok) hN hi hl fun s3 J => ⟨_, _, J, e⟩
      | .cont, ⟨_, _, S2, e⟩ => exact gone_ok (S2.unsuite ok) hN hi hl fun s3 J => ⟨_, _, J, e⟩
      | .ret _, ⟨_, _, _, S2, rv, e⟩ => exact gone_ok (S2.unsuite ok) hN hi hl fun s3 J => ⟨_, _, _, J, rv, e⟩
    · exact (PySem.W.exm_one (M := model X.prog X.w) x.inv.kIn (x.looks hf) m).here (ih x w)
end
end Hf
namespace Hf
open PySem PySem.Spec PyProof.Rows L2
/-! ### an error that is kept behind its except suite -/
section
variable {X : Cx} {pins : List (Addr × Obj)} {a : Addr} {cls : Value} {d : Option Addr} {σ : L2.St} {H : Hp} {s : Shared} {D : Ends}
/-- what stands behind the suite while the error's record is still looked after -/
abbrev Cx.kept (X : Cx) (pn : List (Addr × Obj)) : Cx := X.tr pn X.xe
end
end Hf
namespace Hf
open PySem PySem.Spec PyProof.Rows L2
/-! ### a kept error is asked -/
end Hf
/-! ### bool(x) by an own __bool__ -/
namespace PySem.W
open PySem PySem.Spec PySem.Calls PyProof.Rows
end PySem.W
namespace Hf
open PySem PySem.Spec PyProof.Rows L2
end Hf
namespace Hf
open PySem PySem.Spec PyProof.Rows L2
/-! ### canvases -/
def cvF (w h : Nat) (l : Addr) : List (Str × V) := [("width", .int w), ("height", .int h), ("lines", .ref l)]
structure CvG (C : Addr) (H : Hp) (p : Addr) (w h : Nat) (L : Pic) : Prop where
  at_ : ∃ dx l, H p = some (.ins C dx (cvF w h l)) ∧ H l = some (.lst (L.map rowV))
  g : Good w h L
section
variable {C p b c : Addr} {H H' : Hp} {w h k : Nat} {L : Pic}
theorem CvG.same (x : CvG C H p w h L) (e : Same H H') : CvG C H' p w h L := let ⟨dx, l, a, d⟩ := x.at_; ⟨⟨dx, l, e _ _ a, e _ _ d⟩, x.g⟩
theorem CvG.extN (x : CvG C H p w h L) (e : LamX.ExtN H H') : CvG C H' p w h L := let ⟨dx, l, a, d⟩ := x.at_; ⟨⟨dx, l, e _ _ a (fun ps z => by cases z), e _ _ d (fun ps z => by cases z)⟩, x.g⟩
/-- another list is changed, or made -/
theorem CvG.keepL {xs : List V} (x : CvG C H p w h L) (hb : H b = some (.lst xs)) (n : ∀ l, H l = some (.lst (L.map rowV)) → l ≠ b) (e : Keep b H H') : CvG C H' p w h L := by
  obtain ⟨dx, l, a, d⟩ := x.at_
  exact ⟨⟨dx, l, e _ _ a (ne_of a hb (by intro z; cases z)), e _ _ d (n l d)⟩, x.g⟩
end
/-! ### promises -/
theorem rd_prop {C : Addr} {sp : Sp} {dvs : List V} {E : XK} {ta : TE} {σ : L2.St} {H : Hp} {Q : VK} (q : ta σ H fun x H1 => ∃ a dx fs, x = .ref a ∧ H1 a = some (.ins C dx fs) ∧ sp (.ref a :: dvs) H1 Q E) : tProp C sp dvs E ta σ H Q := q
/-- no colour -/
def ColBad (K : PySem.W.Frag) (H : Hp) (v : V) : Prop := NotW K H v ∨ ∃ i : Int, v = .int i ∧ ¬ (0 ≤ i ∧ i ≤ 9)
theorem ColBad.same {K : PySem.W.Frag} {H H' : Hp} {v : V} (h : ColBad K H v) (e : Same H H') : ColBad K H' v := h.imp (fun x => x.same e) id
theorem ColBad.extN {K : PySem.W.Frag} {H H' : Hp} {v : V} (h : ColBad K H v) (e : LamX.ExtN H H') : ColBad K H' v := h.imp (fun x => x.extN e) id
/-! ### a box, filled -/
/-! ### what is shown of an odd value -/
theorem odd_shown {K : PySem.W.Frag} {H : Hp} {v : V} {d : PyData} (o : Odd H v d) : d.showable = true ∧ d.depth ≤ 1 ∧ d.shown.length ≤ 1100 ∧ ((Dp K H v d ∧ d.hasDict = false) ∨ Dx H v d) := by
  have sm : ∀ i : Int, i.natAbs ≤ 9 → (PyData.int i).shown.length ≤ 2 ∧ i.natAbs.log2 < 1920 := fun i hi => by
    refine ⟨?_, ?_⟩
    · show (Str.ofString (toString i)).length ≤ 2
      rw [PySem.ofString_length]
      exact PySem.int_text_length_le10 (k := 1) (by decide) (by omega)
    · exact sm_log (i := i) ⟨by omega, by omega⟩
  cases o with
  | non => exact ⟨by decide +kernel, by decide +kernel, by decide +kernel, .inl ⟨.non, by decide +kernel⟩⟩
  | bl b => exact ⟨by cases b <;> decide +kernel, by cases b <;> decide +kernel, by cases b <;> decide +kernel, .inl ⟨.bl b, by cases b <;> decide +kernel⟩⟩
  | int i hi =>
    refine ⟨by simp only [PyData.showable]; exact decide_eq_true (by omega), by simp [PyData.depth], ?_, .inl ⟨.int i, by simp [PyData.hasDict]⟩⟩
    show (Str.ofString (toString i)).length ≤ 1100
    rw [PySem.ofString_length]
    have := log_len hi
    omega
  | str x hx hl =>
    refine ⟨?_, by simp [PyData.depth], ?_, .inl ⟨.str x, by simp [PyData.hasDict]⟩⟩
    · simp [PyData.showable]
    · show (reprText x).length ≤ 1100
      have := PySem.StrLaws.reprText_len x (fun c hc => by
        unfold PyData.strOk at hx
        rw [Array.all_eq_true'] at hx
        have := of_decide_eq_true (hx c (Array.mem_toList_iff.mp hc))
        have : (16 : Nat) ^ 8 = 4294967296 := by decide
        omega)
      omega
  | lst0 z => exact ⟨by decide +kernel, by decide +kernel, by decide +kernel, .inl ⟨.lst (SqL.of z) .nil, by decide +kernel⟩⟩
  | @lstI a i z hi =>
    obtain ⟨s1, s2⟩ := sm i hi
    refine ⟨by simp only [PyData.showable, PyData.showableAll, Bool.and_true]; exact decide_eq_true s2, by simp [PyData.depth, PyData.depthAll], ?_, .inl ⟨.lst (SqL.of z) (.cons (.int i) .nil), by simp [PyData.hasDict, PyData.hasDictAll]⟩⟩
    have e : (PyData.list [.int i]).shown = listText [(PyData.int i).shown] := by simp only [PyData.shown, PyData.shownAll]
    rw [e]
    have h := textFrom_length_pos [] 1 (("[" : Str) ++ (if (0 : Nat) > 0 then ", " else "" : String) ++ (PyData.int i).shown) (Nat.succ_pos 0)
    have hX : (listText [(PyData.int i).shown]).length = (textFrom 1 (("[" : Str) ++ (if (0 : Nat) > 0 then ", " else "" : String) ++ (PyData.int i).shown) []).length + 1 := by
      show (textFrom 0 "[" [(PyData.int i).shown] ++ "]").length = _
      rw [Str.length_append]
      rfl
    have e1 : ("[" : Str).length = 1 := by decide
    have e2 : (Str.ofString (if (0 : Nat) > 0 then ", " else "" : String)).length = 0 := by decide
    rw [hX, h, piled_nil, Str.length_append, Str.length_append]
    omega
  | @tupI a i z hi =>
    obtain ⟨s1, s2⟩ := sm i hi
    refine ⟨by simp only [PyData.showable, PyData.showableAll, Bool.and_true]; exact decide_eq_true s2, by simp [PyData.depth, PyData.depthAll], ?_, .inl ⟨.tup (SqT.of z) (.cons (.int i) .nil), by simp [PyData.hasDict, PyData.hasDictAll]⟩⟩
    have e : (PyData.tuple [.int i]).shown = tupleText [(PyData.int i).shown] := by simp only [PyData.shown, PyData.shownAll]
    rw [e]
    have := tup_len [(PyData.int i).shown]
    rw [piled_cons, piled_nil] at this
    omega
  | dic z => exact ⟨by decide +kernel, by decide +kernel, by decide +kernel, .inr (.dic z)⟩
end Hf
namespace Hf
open PySem PySem.Spec PyProof.Rows L2
/-! ### range(i, j), of great numbers where it is empty -/
def iRngX (ta : TA) : TI := fun σ H R => ta σ H fun vs H1 => ∃ i j : Int, vs = [.int i, .int j] ∧ ((-(2 ^ 62) ≤ i ∧ i < 2 ^ 62 ∧ -(2 ^ 62) ≤ j ∧ j < 2 ^ 62) ∨ j ≤ i) ∧ R (Itr i (j - i).toNat) H1
theorem rd_iRngX {ta : TA} {σ : L2.St} {H : Hp} {R : It → Hp → Prop} (q : ta σ H fun vs H1 => ∃ i j : Int, vs = [.int i, .int j] ∧ ((-(2 ^ 62) ≤ i ∧ i < 2 ^ 62 ∧ -(2 ^ 62) ≤ j ∧ j < 2 ^ 62) ∨ j ≤ i) ∧ R (Itr i (j - i).toNat) H1) : iRngX ta σ H R := q
/-! ### a word and an odd value, shown -/
end Hf
namespace Hf
open PySem PySem.Spec PyProof.Rows L2
end Hf
namespace Hf
open PySem PySem.Spec PyProof.Rows L2
/-! ### pixels painted one after another (no program in sight) -/
def paint1 (R : Pic) (q : Pt) (d : Nat) : Pic := R.set q.2.toNat ((R.getD q.2.toNat []).set q.1.toNat d)
/-! ### rows of single signs in the heap -/
abbrev sgn (d : Nat) : V := rowV [d]
def GridAt (H : Hp) (rs : List Addr) (R : Pic) : Prop := F2 (fun a r => H a = some (.lst (r.map sgn))) rs R
theorem GridAt.same {H H' : Hp} {rs : List Addr} {R : Pic} (g : GridAt H rs R) (e : Same H H') : GridAt H' rs R := F2.imp (fun a r z => e _ _ z) g
theorem F2.setR {α β : Type} {P P' : α → β → Prop} : ∀ {as : List α} {bs : List β} {j : Nat} {a : α} {b : β}, F2 P as bs → as[j]? = some a → P' a b → (∀ (i : Nat) (x : α) (y : β), i ≠ j → as[i]? = some x → bs[i]? = some y → P x y → P' x y) → F2 P' as (bs.set j b)
  | _, _, _, _, _, .nil, h, _, _ => by cases h
  | _, _, 0, _, _, .cons hd tl, h, hb, k => by
    cases h
    refine .cons hb ?_
    have go : ∀ {as : List α} {bs : List β} (n : Nat), F2 P as bs → (∀ (i : Nat) (x : α) (y : β), as[i]? = some x → bs[i]? = some y → P x y → P' x y) → F2 P' as bs := by
      intro as bs n f
      induction f with
      | nil => exact fun _ => .nil
      | cons h1 _ ih => exact fun k => .cons (k 0 _ _ rfl rfl h1) (ih fun i x y a b => k (i + 1) x y a b)
    exact go 0 tl fun i x y a b => k (i + 1) x y (by omega) a b
  | _, _, j + 1, _, _, .cons hd tl, h, hb, k => .cons (k 0 _ _ (by omega) rfl rfl hd) (F2.setR (j := j) tl h hb fun i x y n a b => k (i + 1) x y (by omega) a b)
theorem nodup_ix {α : Type} : ∀ {l : List α} {i j : Nat} {a : α}, l.Nodup → l[i]? = some a → l[j]? = some a → i = j
  | [], _, _, _, _, h, _ => by cases h
  | _ :: _, 0, 0, _, _, _, _ => rfl
  | x :: l, 0, j + 1, a, nd, h1, h2 => by
    cases h1
    exact absurd (List.mem_of_getElem? (show l[j]? = some x from h2)) (List.nodup_cons.mp nd).1
  | x :: l, i + 1, 0, a, nd, h1, h2 => by
    cases h2
    exact absurd (List.mem_of_getElem? (show l[i]? = some x from h1)) (List.nodup_cons.mp nd).1
  | _ :: l, i + 1, j + 1, a, nd, h1, h2 => congrArg (· + 1) (nodup_ix (l := l) (List.nodup_cons.mp nd).2 h1 h2)
theorem GridAt.set {H : Hp} {rs : List Addr} {R : Pic} {q : Pt} {a : Addr} {d : Nat} (g : GridAt H rs R) (nd : rs.Nodup) (ha : rs[q.2.toNat]? = some a) : GridAt (upd H a (.lst (((R.getD q.2.toNat []).set q.1.toNat d).map sgn))) rs (paint1 R q d) := by
  refine F2.setR g ha upd_same fun i x y n hx hy z => ?_
  rw [upd_ne (fun e => n ?_)]
  · exact z
  · subst e
    exact nodup_ix nd hx ha
/-! ### list(text) -/
end Hf
namespace Hf
open PySem PySem.Spec PyProof.Rows L2
end Hf
namespace Hf
open PySem PySem.Spec PyProof.Rows L2
/-! ### a pixel in a list of pixels -/
def rInLD (K : PySem.W.Frag) (neg : Bool) : R2 := fun x y H Q => ∃ d ds, Dp K H x d ∧ Dp K H y (.list ds) ∧ SeqAt.shaped d = true ∧ SeqAt.shaped (.list ds) = true ∧ d.depth ≤ 32 ∧ Q (.bl ((ds.any fun z => PyData.eqv z d) != neg)) H
theorem op_notInLD {X : Cx} (hu : X.A.units + 64 < cLine) : OpR X (compareOp .NotIn) (rInLD X.K true) := by
  rintro pins s σ H x y v u Q I rx ry ⟨d, ds, hd, he, sd, se, dl, q⟩
  obtain ⟨as, r1⟩ := Dp.reads I d x v hd rx
  obtain ⟨bs, r2⟩ := Dp.reads I (.list ds) y u he ry
  rw [Bool.bne_true] at q
  exact SeqAt.notIn_list_reads r2 r1 (SeqAt.canLay_of_shaped se) (SeqAt.canLay_of_shaped sd) (by have := Nat.min_le_right (PyData.depthAll ds) d.depth; omega) ⟨.bl _, H, I, rfl, q⟩
/-! ### the law's own search, in a list -/
/-! ### all pixels of a plain picture hang together -/
end Hf
namespace Hf
open PySem PySem.Spec PyProof.Rows L2
end Hf
namespace Hf
open PySem PySem.Spec PyProof.Rows L2
/-- what the law's search found, whatever the case -/
structure Hit (w h : Nat) (L : Pic) (x y : Int) (M : List Pt) : Prop where
  i : ∀ q ∈ M, 0 ≤ q.1 ∧ q.1 < w ∧ 0 ≤ q.2 ∧ q.2 < h
  o : insideB w h x y = false → M = []
  n : insideB w h x y = true → M.Nodup ∧ ∀ q, q ∈ M ↔ Conn L (x, y) q
theorem Hit.len {w h : Nat} {L : Pic} {x y : Int} {M : List Pt} (z : Hit w h L x y M) (F : Fit w h) : M.length ≤ 40000 := by
  cases e : insideB w h x y with
  | false => rw [z.o e]; decide
  | true => exact Nat.le_trans (pts_le (z.n e).1 z.i) (Nat.le_trans (Nat.mul_le_mul F.w2 F.h2) (by decide))
end Hf
namespace Hf
open PySem PySem.Spec PyProof.Rows L2
/-! ### o[i] = v and x |= y by own defs -/
/-! ### zip of a tuple and a list -/
/-! ### pixels of a canvas -/
def PixBad (K : PySem.W.Frag) (H : Hp) (w h : Nat) (a b : V) : Prop := NotW K H a ∨ ∃ i : Int, a = .int i ∧ (NotW K H b ∨ ∃ j : Int, b = .int j ∧ insideB w h i j = false)
/-! ### |= and == of canvases -/
/-- what stays while the lists b and the canvas p change -/
def Kp2 (b p : Addr) (H H' : Hp) : Prop := ∀ a o, H a = some o → a ≠ b → a ≠ p → H' a = some o
section
variable {b c p q : Addr} {H H1 H' : Hp} {C CP : Addr} {w h w' h' k : Nat} {L R : Pic}
theorem Kp2.ofS (e : Same H H') : Kp2 b p H H' := fun a o z _ _ => e a o z
theorem Kp2.trans (e : Kp2 b p H H1) (f : Kp2 b p H1 H') : Kp2 b p H H' := fun a o z n m => f a o (e a o z n m) n m
theorem Kp2.tup {t : Addr} {xs : List V} (P : Pen H b c k) (x : CvG C H p w h L) (e : Kp2 b p H H') (ht : H t = some (.tup xs)) : H' t = some (.tup xs) := by
  obtain ⟨dx, l, hp, _⟩ := x.at_
  obtain ⟨cs, m, r, h1, _⟩ := P
  exact e _ _ ht (ne_of ht h1 (by intro z; cases z)) (ne_of ht hp (by intro z; cases z))
theorem Kp2.lst {t : Addr} {xs : List V} (n : t ≠ b) (x : CvG C H p w h L) (e : Kp2 b p H H') (ht : H t = some (.lst xs)) : H' t = some (.lst xs) := by
  obtain ⟨dx, l, hp, _⟩ := x.at_
  exact e _ _ ht n (ne_of ht hp (by intro z; cases z))
end
end Hf
namespace Hf
open PySem PySem.Spec PyProof.Rows L2
end Hf
namespace Hf
open PySem PySem.Spec PyProof.Rows L2
theorem cutV_from (xs : List V) {j : Nat} (h : j ≤ xs.length) : L2.cutV xs (some (j : Int)) none = xs.drop j := by
  unfold L2.cutV
  rw [HT.sIx_none, HT.sIx_nat, Nat.min_eq_left h, List.take_of_length_le]
  rw [List.length_drop]
  omega
end Hf
namespace Hf
open PySem PySem.Spec PyProof.Rows L2
theorem PicG.keepL {C p b : Addr} {H H' : Hp} {w h : Nat} {R : Pic} {xs : List V} (g : PicG C H p w h R) (hb : H b = some (.lst xs)) (e : Keep b H H') : PicG C H' p w h R := ⟨g.at_.keepL hb e, g.g⟩
end Hf
namespace Hf
open PySem PySem.Spec PyProof.Rows L2
/-- a picture beside its rows, in a tuple -/
def PastE (CP : Addr) (w h : Nat) (H : Hp) (t : Addr) (S : Pic) : Prop := ∃ q u, H t = some (.tup [.ref q, .ref u]) ∧ PicG CP H q w h S ∧ H u = some (.tup (S.map rowV))
structure PastAt (CP : Addr) (w h : Nat) (H : Hp) (pa : Addr) (ts : List Addr) (Ss : List Pic) : Prop where
  l : H pa = some (.lst (ts.map V.ref))
  f : F2 (PastE CP w h H) ts Ss
section
variable {C CP b c p pa l t : Addr} {H H' : Hp} {w h k : Nat} {L S : Pic} {ts : List Addr} {Ss : List Pic}
theorem PastE.imp (e : PastE CP w h H t S) (ft : ∀ t xs, H t = some (.tup xs) → H' t = some (.tup xs)) (fp : ∀ q, PicG CP H q w h S → PicG CP H' q w h S) : PastE CP w h H' t S := let ⟨q, u, a, g, d⟩ := e; ⟨q, u, ft _ _ a, fp _ g, ft _ _ d⟩
theorem PastAt.imp (e : PastAt CP w h H pa ts Ss) (fl : H' pa = H pa) (ft : ∀ t xs, H t = some (.tup xs) → H' t = some (.tup xs)) (fp : ∀ q S, PicG CP H q w h S → PicG CP H' q w h S) : PastAt CP w h H' pa ts Ss := ⟨by rw [fl]; exact e.l, F2.imp (fun _ _ z => z.imp ft fun q g => fp q _ g) e.f⟩
theorem PastAt.same (e : PastAt CP w h H pa ts Ss) (s : Same H H') : PastAt CP w h H' pa ts Ss := e.imp (by rw [e.l]; exact s _ _ e.l) (fun _ _ z => s _ _ z) fun _ _ g => g.same s
theorem PastAt.extN (e : PastAt CP w h H pa ts Ss) (s : LamX.ExtN H H') : PastAt CP w h H' pa ts Ss := e.imp (by rw [e.l]; exact s _ _ e.l (fun ps z => by cases z)) (fun _ _ z => s _ _ z (fun ps z => by cases z)) fun _ _ g => g.extN s
theorem PastAt.push {q u : Addr} (e : PastAt CP w h H pa ts Ss) (ht : H t = some (.tup [.ref q, .ref u])) (g : PicG CP H q w h S) (hu : H u = some (.tup (S.map rowV))) : PastAt CP w h (upd H pa (.lst (ts.map V.ref ++ [V.ref t]))) pa (ts ++ [t]) (Ss ++ [S]) := by
  have kt : ∀ (t : Addr) (xs : List V), H t = some (.tup xs) → (upd H pa (.lst (ts.map V.ref ++ [V.ref t]))) t = some (.tup xs) := fun t xs z => by
    rw [upd_ne (ne_of z e.l (by intro z; cases z))]
    exact z
  refine ⟨by rw [upd_same, List.map_append]; rfl, ?_⟩
  have kt : ∀ (t' : Addr) (xs : List V), H t' = some (.tup xs) → (upd H pa (.lst (ts.map V.ref ++ [V.ref t]))) t' = some (.tup xs) := fun t' xs z => by
    rw [upd_ne (ne_of z e.l (by intro z; cases z))]
    exact z
  have kp : ∀ (q : Addr) (S : Pic), PicG CP H q w h S → PicG CP (upd H pa (.lst (ts.map V.ref ++ [V.ref t]))) q w h S := fun q S g => g.keepL e.l Keep.upd
  exact (F2.imp (fun _ _ z => z.imp kt fun q g => kp q _ g) e.f).append (.cons ⟨q, u, kt _ _ ht, kp _ _ g, kt _ _ hu⟩ .nil)
end
end Hf
namespace Hf
open PySem PySem.Spec PyProof.Rows L2
end Hf
namespace Hf
open PySem PySem.Spec PyProof.Rows L2
/-! ### sizes of canvases that are none -/
def SzBad (K : PySem.W.Frag) (H : Hp) (v : V) : Prop := NotW K H v ∨ ∃ i : Int, v = .int i ∧ ¬ (1 ≤ i ∧ i ≤ 200)
theorem SzBad.same {K : PySem.W.Frag} {H H' : Hp} {v : V} (h : SzBad K H v) (e : Same H H') : SzBad K H' v := h.imp (fun x => x.same e) id
theorem SzBad.extN {K : PySem.W.Frag} {H H' : Hp} {v : V} (h : SzBad K H v) (e : LamX.ExtN H H') : SzBad K H' v := h.imp (fun x => x.extN e) id
theorem PixBad.same {K : PySem.W.Frag} {H H' : Hp} {w h : Nat} {a b : V} (x : PixBad K H w h a b) (e : Same H H') : PixBad K H' w h a b := by
  rcases x with x | ⟨i, ei, x⟩
  · exact .inl (x.same e)
  · exact .inr ⟨i, ei, x.imp (fun z => z.same e) id⟩
theorem PixBad.extN {K : PySem.W.Frag} {H H' : Hp} {w h : Nat} {a b : V} (x : PixBad K H w h a b) (e : LamX.ExtN H H') : PixBad K H' w h a b := by
  rcases x with x | ⟨i, ei, x⟩
  · exact .inl (x.extN e)
  · exact .inr ⟨i, ei, x.imp (fun z => z.extN e) id⟩
/-! ### what a law hears: errors with one field or two -/
/-! ### rows of numbers in the heap -/
abbrev inum (d : Nat) : V := .int (d : Int)
def GI (H : Hp) (rs : List Addr) (R : Pic) : Prop := F2 (fun a r => H a = some (.lst (r.map inum))) rs R
theorem GI.same {H H' : Hp} {rs : List Addr} {R : Pic} (g : GI H rs R) (e : Same H H') : GI H' rs R := F2.imp (fun a r z => e _ _ z) g
theorem GI.extN {H H' : Hp} {rs : List Addr} {R : Pic} (g : GI H rs R) (e : LamX.ExtN H H') : GI H' rs R := F2.imp (fun a r z => e _ _ z (fun ps y => by cases y)) g
theorem GI.set {H : Hp} {rs : List Addr} {R : Pic} {i j : Nat} {a : Addr} {d : Nat} (g : GI H rs R) (nd : rs.Nodup) (ha : rs[j]? = some a) : GI (upd H a (.lst (((R.getD j []).set i d).map inum))) rs (paint1 R ((i : Int), (j : Int)) d) := by
  unfold paint1
  refine F2.setR g (by show rs[((j : Int)).toNat]? = _; rw [Int.toNat_natCast]; exact ha) (by show upd H a _ a = _; rw [upd_same]; show some (HO.lst (((R.getD j []).set i d).map inum)) = some (HO.lst (((R.getD ((j : Int)).toNat []).set ((i : Int)).toNat d).map inum)); rw [Int.toNat_natCast, Int.toNat_natCast]) (fun i x y n hx hy z => ?_)
  rw [upd_ne (fun e => n ?_)]
  · exact z
  · subst e
    show i = ((j : Int)).toNat
    rw [Int.toNat_natCast]
    exact nodup_ix nd hx ha
section
variable {H H' : Hp} {b c l a gl p C : Addr} {n r : Int} {k w h : Nat} {row : List Nat} {L : Pic} {rs : List Addr} {xs : List V}
theorem num_ne (h1 : H b = some (.lst (.ref c :: xs))) (h2 : H a = some (.lst (row.map inum))) : a ≠ b := by
  intro z
  rw [z, h1] at h2
  cases row <;> cases h2
theorem rows_num (h1 : H a = some (.lst (row.map inum))) (h2 : H l = some (.lst (L.map rowV))) (hL : L ≠ []) : l ≠ a := by
  intro z
  rw [z, h1] at h2
  cases L with
  | nil => exact hL rfl
  | cons x L => cases row <;> cases h2
end
/-- all but the pen's list, the canvas, the rows of numbers and the tables stay -/
def KpG (b p : Addr) (rs : List Addr) (H H' : Hp) : Prop := ∀ a o, H a = some o → (∀ ps, o ≠ .tbl ps) → a ≠ b → a ≠ p → a ∉ rs → H' a = some o
section
variable {b c p : Addr} {rs : List Addr} {H H1 H' : Hp}
theorem KpG.ofS (e : Same H H') : KpG b p rs H H' := fun a o z _ _ _ _ => e a o z
theorem KpG.ofN (e : LamX.ExtN H H') : KpG b p rs H H' := fun a o z n _ _ _ => e a o z n
theorem KpG.ofR {a : Addr} (m : a ∈ rs) (e : Keep a H H') : KpG b p rs H H' := fun x o z _ _ _ n => e x o z (fun y => n (by rw [y]; exact m))
theorem KpG.trans (e : KpG b p rs H H1) (f : KpG b p rs H1 H') : KpG b p rs H H' := fun a o z t n m k => f a o (e a o z t n m k) t n m k
end
/-! ### three things, shown -/
/-! ### promises of the law's defs -/
def OddN (K : PySem.W.Frag) (H : Hp) (m : Int) (v : V) : Prop := (∃ d, Odd H v d) ∧ (NotW K H v ∨ ∃ i : Int, v = .int i ∧ ¬ (0 ≤ i ∧ i ≤ m))
theorem OddN.same {K : PySem.W.Frag} {H H' : Hp} {m : Int} {v : V} (h : OddN K H m v) (e : Same H H') : OddN K H' m v := ⟨h.1.imp fun d z => z.same e, h.2.imp (fun z => z.same e) id⟩
theorem OddN.extN {K : PySem.W.Frag} {H H' : Hp} {m : Int} {v : V} (h : OddN K H m v) (e : LamX.ExtN H H') : OddN K H' m v := ⟨h.1.imp fun d z => z.extN e, h.2.imp (fun z => z.extN e) id⟩
end Hf
namespace Hf
open PySem PySem.Spec PyProof.Rows L2
/-! ### lists of numbers as data -/
end Hf
namespace Hf
open PySem PySem.Spec PyProof.Rows L2
end Hf
namespace Hf
open PySem PySem.Spec PyProof.Rows L2
end Hf
namespace Hf
open PySem PySem.Spec PyProof.Rows L2
theorem OddN.keep {K : PySem.W.Frag} {H H' : Hp} {m : Int} {v : V} {b : Addr} (h : OddN K H m v) (e : Keep b H H') (n : v ≠ .ref b) : OddN K H' m v := by
  obtain ⟨⟨d, o⟩, z⟩ := h
  refine ⟨⟨d, o.keep e n⟩, ?_⟩
  rcases z with ⟨t, b1, b2, ty, k1, k2, k3⟩ | z
  · exact .inl ⟨t, b1, b2, TyX.keep ty e n, k1, k2, k3⟩
  · exact .inr z
theorem OddN.int {K : PySem.W.Frag} {H : Hp} {m : Int} {v : V} (h : OddN K H m v) : ∃ d, Odd H v d := h.1
structure StpF (C b c p gl : Addr) (rs : List Addr) (T : List (Addr × Str)) (w h : Nat) (H0 H : Hp) (L M : Pic) (k : Nat) : Prop where
  x : CvG C H p w h L
  g : GI H rs M
  hg : H gl = some (.lst (rs.map V.ref))
  P : Pen H b c k
  T : LamX.Tabs T H
  K : KpG b p rs H0 H
section
variable {C b c p gl : Addr} {rs : List Addr} {T : List (Addr × Str)} {w h : Nat} {H0 H H' : Hp} {L M : Pic} {k k' : Nat}
theorem StpF.same (s : StpF C b c p gl rs T w h H0 H L M k) (e : Same H H') : StpF C b c p gl rs T w h H0 H' L M k := ⟨s.x.same e, s.g.same e, e _ _ s.hg, s.P.same e, s.T.ext e, s.K.trans (.ofS e)⟩
theorem StpF.extN (s : StpF C b c p gl rs T w h H0 H L M k) (e : LamX.ExtN H H') (t : LamX.Tabs T H') : StpF C b c p gl rs T w h H0 H' L M k := ⟨s.x.extN e, s.g.extN e, e _ _ s.hg (fun ps z => by cases z), s.P.extN e, t, s.K.trans (.ofN e)⟩
theorem StpF.less (s : StpF C b c p gl rs T w h H0 H L M k) (l : k' ≤ k) : StpF C b c p gl rs T w h H0 H L M k' := ⟨s.x, s.g, s.hg, s.P.less l, s.T, s.K⟩
theorem StpF.row {i j d : Nat} {a : Addr} (s : StpF C b c p gl rs T w h H0 H L M k) (nd : rs.Nodup) (fr : ∀ a ∈ rs, a ≠ c) (gn : gl ∉ rs) (hL : L ≠ []) (ha : rs[j]? = some a) : StpF C b c p gl rs T w h H0 (upd H a (.lst (((M.getD j []).set i d).map inum))) L (paint1 M ((i : Int), (j : Int)) d) k := by
  obtain ⟨r, er, hr⟩ := F2.get s.g ha
  have m := List.mem_of_getElem? ha
  obtain ⟨cs, n, q, h1, _⟩ := id s.P
  have e := Keep.upd (H := H) (p := a) (o := .lst (((M.getD j []).set i d).map inum))
  exact ⟨s.x.keepL hr (fun l hl => rows_num hr hl hL) e, s.g.set nd ha, e _ _ s.hg (fun z => gn (by rw [z]; exact m)), s.P.keep e (num_ne h1 hr) (fr a m), tabs_keepL s.T hr e, s.K.trans (.ofR m e)⟩
end
end Hf
namespace Hf
open PySem PySem.Spec PyProof.Rows L2
end Hf
namespace Hf
open PySem PySem.Spec PyProof.Rows L2
theorem NotW.keep' {K : PySem.W.Frag} {H H' : Hp} {v : V} {b : Addr} (h : NotW K H v) (e : Keep b H H') (n : v ≠ .ref b) : NotW K H' v := by
  obtain ⟨t, b1, b2, ty, k1, k2, k3⟩ := h
  exact ⟨t, b1, b2, TyX.keep ty e n, k1, k2, k3⟩
theorem PixBad.keep {K : PySem.W.Frag} {H H' : Hp} {w h : Nat} {a b : V} {c : Addr} (x : PixBad K H w h a b) (e : Keep c H H') (na : a ≠ .ref c) (nb : b ≠ .ref c) : PixBad K H' w h a b := by
  rcases x with x | ⟨i, ei, x⟩
  · exact .inl (NotW.keep' x e na)
  · exact .inr ⟨i, ei, x.imp (fun z => NotW.keep' z e nb) id⟩
end Hf
namespace Hf
open PySem PySem.Spec PyProof.Rows L2
def OddS (K : PySem.W.Frag) (H : Hp) (v : V) : Prop := (∃ d, Odd H v d) ∧ SzBad K H v
theorem OddS.same {K : PySem.W.Frag} {H H' : Hp} {v : V} (h : OddS K H v) (e : Same H H') : OddS K H' v := ⟨h.1.imp fun d z => z.same e, h.2.same e⟩
theorem OddS.extN {K : PySem.W.Frag} {H H' : Hp} {v : V} (h : OddS K H v) (e : LamX.ExtN H H') : OddS K H' v := ⟨h.1.imp fun d z => z.extN e, h.2.extN e⟩
theorem OddS.keep {K : PySem.W.Frag} {H H' : Hp} {v : V} {b : Addr} (h : OddS K H v) (e : Keep b H H') (n : v ≠ .ref b) : OddS K H' v := ⟨h.1.imp fun d z => z.keep e n, h.2.imp (fun z => NotW.keep' z e n) id⟩
end Hf
namespace Hf
open PySem PySem.Spec PyProof.Rows L2
end Hf
namespace Hf
open PySem PySem.Spec PyProof.Rows L2
end Hf
namespace Hf
open PySem PySem.Spec PyProof.Rows L2
/-! ### C.m(..), m a classmethod -/
/-! ### C.m(k = ..) -/
/-! ### c(..), c a local name that holds a class -/
end Hf
namespace Hf
open PySem PySem.Spec PyProof.Rows L2
/-! ### texts as lists of signs -/
abbrev tv (cs : List Nat) : V := .str (SX.S cs)
structure Pg (N : Nat) (cs : List Nat) : Prop where
  l : cs.length ≤ N
  a : ∀ c ∈ cs, c < 128
theorem Pg.le {N M : Nat} {cs : List Nat} (g : Pg N cs) (h : N ≤ M) : Pg M cs := ⟨Nat.le_trans g.l h, g.a⟩
/-! ### cut at line ends -/
/-! ### the first wrong line -/
/-! ### texts of pictures -/
/-! ### pages put together -/
theorem Pg.take {N : Nat} {a : List Nat} (x : Pg N a) (k : Nat) : Pg N (a.take k) := ⟨Nat.le_trans (by rw [List.length_take]; omega) x.l, fun c hc => x.a c (List.mem_of_mem_take hc)⟩
theorem Pg.drop {N : Nat} {a : List Nat} (x : Pg N a) (k : Nat) : Pg N (a.drop k) := ⟨Nat.le_trans (by rw [List.length_drop]; omega) x.l, fun c hc => x.a c (List.mem_of_mem_drop hc)⟩
end Hf
namespace Hf
open PySem PySem.Spec PyProof.Rows L2
/-! ### promises about texts -/
/-- a value that is no text -/
def NotS (K : PySem.W.Frag) (H : Hp) (v : V) : Prop := ∃ t : Value, TyX K H v t ∧ PySem.W.kitOne K t (.type "str") = some false
theorem NotS.same {K : PySem.W.Frag} {H H' : Hp} {v : V} (h : NotS K H v) (e : Same H H') : NotS K H' v := let ⟨t, a, b⟩ := h; ⟨t, TyX.same a e, b⟩
theorem ns_non {K : PySem.W.Frag} {H : Hp} : NotS K H .non := ⟨_, .base .non, by kernel_rfl⟩
theorem ns_bl {K : PySem.W.Frag} {H : Hp} {b : Bool} : NotS K H (.bl b) := ⟨_, .base (.bl b), by kernel_rfl⟩
theorem ns_int {K : PySem.W.Frag} {H : Hp} {i : Int} : NotS K H (.int i) := ⟨_, .base (.int i), by kernel_rfl⟩
theorem ns_lst {K : PySem.W.Frag} {H : Hp} {a : Addr} {xs : List V} (h : H a = some (.lst xs)) : NotS K H (.ref a) := ⟨_, .base (.lst h), by kernel_rfl⟩
theorem ns_tup {K : PySem.W.Frag} {H : Hp} {a : Addr} {xs : List V} (h : H a = some (.tup xs)) : NotS K H (.ref a) := ⟨_, .base (.tup h), by kernel_rfl⟩
theorem ns_dict {K : PySem.W.Frag} {H : Hp} {a : Addr} {kvs : List (Key × V)} (h : H a = some (.dK kvs)) : NotS K H (.ref a) := ⟨_, .base (.dK h), by kernel_rfl⟩
end Hf
namespace Hf
open PySem PySem.Spec PyProof.Rows L2
end Hf
namespace Hf
open PySem PySem.Spec PyProof.Rows L2
/-! ### lists of texts beside [] -/
/-! ### how a text with one text in a list is shown -/
/-! ### promises of the law's defs -/
end Hf
namespace Hf
open PySem PySem.Spec PyProof.Rows L2
/-- the text of a constant is a text of signs -/
theorem sT {z : String} {cs : List Nat} (h : Str.ofString z = SX.S cs) : V.str (Str.ofString z) = tv cs := congrArg V.str h
end Hf
namespace Hf
open PySem PySem.Spec PyProof.Rows L2
theorem NotS.extN {K : PySem.W.Frag} {H H' : Hp} {v : V} (h : NotS K H v) (e : LamX.ExtN H H') : NotS K H' v := let ⟨t, a, b⟩ := h; ⟨t, TyX.extN a e, b⟩
end Hf
namespace Hf
open PySem PySem.Spec PyProof.Rows L2
end Hf
namespace Hf
open PySem PySem.Spec PyProof.Rows L2
/-! ### match of a text: constants one after the other, _ at the end -/
end Hf
namespace Hf
open PySem PySem.Spec PyProof.Rows L2
/-! ### integers written and read -/
end Hf
namespace Hf
open PySem PySem.Spec PyProof.Rows L2
/-! ### words between single signs -/
/-! ### what a text of a place tells -/
def named (s d : Int) : Bool := (decide (s = 0) && decide (d = 0)) || ((decide (s = 2) && decide (d = 1)) || (decide (s = 1) && decide (d = 0)))
end Hf
namespace Hf
open PySem PySem.Spec PyProof.Rows L2
end Hf
namespace Hf
open PySem PySem.Spec PyProof.Rows L2
end Hf
namespace Hf
open PySem PySem.Spec PyProof.Rows L2
/-! ### how many numbers stand behind a word -/
end Hf
namespace Hf
open PySem PySem.Spec PyProof.Rows L2
end Hf
namespace Hf
open PySem PySem.Spec PyProof.Rows L2
end Hf
namespace Hf
open PySem PySem.Spec PyProof.Rows L2
/-! ### places written -/
/-! ### promises of the law's defs -/
end Hf
namespace Hf
open PySem PySem.Spec PyProof.Rows L2
end Hf
namespace Hf
open PySem PySem.Spec PyProof.Rows L2
end Hf
namespace Hf
open PySem PySem.Spec PyProof.Rows L2
end Hf
namespace Hf
open PySem PySem.Spec PyProof.Rows L2
/-! ### what is written is read -/
end Hf
namespace Hf
open PySem PySem.Spec PyProof.Rows L2
end Hf
namespace Hf
open PySem PySem.Spec PyProof.Rows L2
end Hf
namespace Hf
open PySem PySem.Spec PyProof.Rows L2
/-! ### {x!s} of an object with an own __str__ -/
end Hf
namespace Hf
open PySem PySem.Spec PyProof.Rows L2
/-! ### o.f(e, ..) where f is a field that holds an instance with __call__ -/
end Hf
namespace Hf
open PySem PySem.Spec PyProof.Rows L2
/-! ### k33: places in bounds -/
def bdI (x : Int) : Bool := decide (-1000000000000 ≤ x) && decide (x ≤ 1000000000000)
def bd3 (s o d : Int) : Bool := bdI s && (bdI o && bdI d)
/-- of which place a value tells: an integer, or a Place -/
def PlV (K : PySem.W.Frag) (C : Addr) (H : Hp) (v : V) (s o d : Int) : Prop := (v = .int o ∧ s = 0 ∧ d = 0) ∨ ∃ p : Addr, v = .ref p ∧ NotW K H (.ref p) ∧ PlaceAt C H p s o d
def NoPl (K : PySem.W.Frag) (C : Addr) (H : Hp) (v : V) : Prop := NotW K H v ∧ ∃ t : Value, TyX K H v t ∧ PySem.W.kitOne K t (.ref C) = some false
/-! ### boxes -/
abbrev P3 := Int × Int × Int
def PAt (C : Addr) (H : Hp) (q : Addr) (t : P3) : Prop := PlaceAt C H q t.1 t.2.1 t.2.2
def PvOk (K : PySem.W.Frag) (C : Addr) (H : Hp) (v : V) (t : P3) : Prop := PlV K C H v t.1 t.2.1 t.2.2 ∧ bd3 t.1 t.2.1 t.2.2 = true
def PvBad (K : PySem.W.Frag) (C : Addr) (H : Hp) (v : V) : Prop := NoPl K C H v ∨ ∃ s o d, PlV K C H v s o d ∧ bd3 s o d = false
theorem PlV.keep {K : PySem.W.Frag} {C p : Addr} {H H' : Hp} {v : V} {s o d : Int} (h : PlV K C H v s o d) (e : Keep p H H') (n : v ≠ .ref p) : PlV K C H' v s o d :=
  h.imp id fun ⟨q, ev, nw, g⟩ => ⟨q, ev, nw.keep e (by rw [← ev]; exact n), g.keep e fun z => n (by rw [ev, z])⟩
theorem NoPl.keep {K : PySem.W.Frag} {C p : Addr} {H H' : Hp} {v : V} (h : NoPl K C H v) (e : Keep p H H') (n : v ≠ .ref p) : NoPl K C H' v :=
  ⟨h.1.keep e n, let ⟨t, a, b⟩ := h.2; ⟨t, TyX.keep a e n, b⟩⟩
theorem PvBad.keep {K : PySem.W.Frag} {C p : Addr} {H H' : Hp} {v : V} (h : PvBad K C H v) (e : Keep p H H') (n : v ≠ .ref p) : PvBad K C H' v :=
  h.imp (fun z => z.keep e n) fun ⟨s, o, d, a, b⟩ => ⟨s, o, d, a.keep e n, b⟩
def Or1 (K : PySem.W.Frag) (C : Addr) (H : Hp) (v : V) (L : Prop) (k : P3 → Prop) : Prop := (PvBad K C H v ∧ L) ∨ ∃ t : P3, PvOk K C H v t ∧ k t
def bxF (q0 q1 q2 q3 : Addr) : List (Str × V) := [("x0", .ref q0), ("x1", .ref q1), ("y0", .ref q2), ("y1", .ref q3)]
structure BxC (K : PySem.W.Frag) (mg : Str → Option Value) (C : Addr) : Prop where
  cl : Cls K C
  n1 : NoAttr K C "x0"
  n2 : NoAttr K C "x1"
  n3 : NoAttr K C "y0"
  n4 : NoAttr K C "y1"
  g : mg "Box" = some (.ref C)
  ha : PySem.W.findIn K (.ref C) "__class__" = some (some (.builtin "object.__class__"))
  hn : PySem.W.specialIn K (.builtin "object.__class__") "__get__" = some (some (.builtin "getset_descriptor.__get__"))
  tk : PySem.W.takesIn K (.builtin "object.__class__") = some true
  mo : PySem.W.mroIn K C (.type "object") = some true
theorem PAt.same {C q : Addr} {H H' : Hp} {t : P3} (g : PAt C H q t) (e : Same H H') : PAt C H' q t := PlaceAt.same g e
theorem PAt.keep {C q p : Addr} {H H' : Hp} {t : P3} (g : PAt C H q t) (e : Keep p H H') (n : q ≠ p) : PAt C H' q t := PlaceAt.keep g e n
theorem PlV.same {K : PySem.W.Frag} {C : Addr} {H H' : Hp} {v : V} {s o d : Int} (h : PlV K C H v s o d) (e : Same H H') : PlV K C H' v s o d :=
  h.imp id fun ⟨q, ev, nw, g⟩ => ⟨q, ev, nw.same e, g.same e⟩
theorem NoPl.same {K : PySem.W.Frag} {C : Addr} {H H' : Hp} {v : V} (h : NoPl K C H v) (e : Same H H') : NoPl K C H' v :=
  ⟨h.1.same e, let ⟨t, a, b⟩ := h.2; ⟨t, TyX.same a e, b⟩⟩
theorem PvBad.same {K : PySem.W.Frag} {C : Addr} {H H' : Hp} {v : V} (h : PvBad K C H v) (e : Same H H') : PvBad K C H' v :=
  h.imp (fun z => z.same e) fun ⟨s, o, d, a, b⟩ => ⟨s, o, d, a.same e, b⟩
theorem PvOk.same {K : PySem.W.Frag} {C : Addr} {H H' : Hp} {v : V} {t : P3} (h : PvOk K C H v t) (e : Same H H') : PvOk K C H' v t := ⟨h.1.same e, h.2⟩
theorem Or1.to {K : PySem.W.Frag} {C : Addr} {H H' : Hp} {v : V} {L L' : Prop} {k k' : P3 → Prop} (h : Or1 K C H v L k) (e : Same H H') (hl : L → L') (hk : ∀ t, k t → k' t) : Or1 K C H' v L' k' :=
  h.imp (fun z => ⟨z.1.same e, hl z.2⟩) fun ⟨t, a, b⟩ => ⟨t, a.same e, hk t b⟩
/-- a box, its four places -/
def BoxAt (C CX : Addr) (H : Hp) (p : Addr) (t0 t1 t2 t3 : P3) : Prop := ∃ dx q0 q1 q2 q3, H p = some (.ins CX dx (bxF q0 q1 q2 q3)) ∧ PAt C H q0 t0 ∧ PAt C H q1 t1 ∧ PAt C H q2 t2 ∧ PAt C H q3 t3
theorem BoxAt.same {C CX p : Addr} {H H' : Hp} {t0 t1 t2 t3 : P3} (h : BoxAt C CX H p t0 t1 t2 t3) (e : Same H H') : BoxAt C CX H' p t0 t1 t2 t3 :=
  let ⟨dx, q0, q1, q2, q3, h, a, b, c, d⟩ := h
  ⟨dx, q0, q1, q2, q3, e _ _ h, a.same e, b.same e, c.same e, d.same e⟩
end Hf
namespace Hf
open PySem PySem.Spec PyProof.Rows L2
/-! ### Box.whole, Box.__eq__ -/
end Hf
namespace Hf
open PySem PySem.Spec PyProof.Rows L2
/-! ### i * x by an own __rmul__ -/
/-! ### sums -/
def smF (a b c d : Int) : List (Str × V) := [("a", .int a), ("b", .int b), ("c", .int c), ("d", .int d)]
def SumAt (C : Addr) (H : Hp) (p : Addr) (a b c d : Int) : Prop := ∃ dx, H p = some (.ins C dx (smF a b c d))
theorem SumAt.same {C p : Addr} {H H' : Hp} {a b c d : Int} (h : SumAt C H p a b c d) (e : Same H H') : SumAt C H' p a b c d := let ⟨dx, h⟩ := h; ⟨dx, e _ _ h⟩
theorem SumAt.keep {C p b0 : Addr} {H H' : Hp} {a b c d : Int} (h : SumAt C H p a b c d) (e : Keep b0 H H') (n : p ≠ b0) : SumAt C H' p a b c d := let ⟨dx, h⟩ := h; ⟨dx, e _ _ h n⟩
structure SmC (K : PySem.W.Frag) (mg : Str → Option Value) (C : Addr) : Prop where
  cl : Cls K C
  n1 : NoAttr K C "a"
  n2 : NoAttr K C "b"
  n3 : NoAttr K C "c"
  n4 : NoAttr K C "d"
  g : mg "Sum" = some (.ref C)
  sf : PySem.W.selfFirst K C = true
  ne : NeC K C
  ha : PySem.W.findIn K (.ref C) "__class__" = some (some (.builtin "object.__class__"))
  hn : PySem.W.specialIn K (.builtin "object.__class__") "__get__" = some (some (.builtin "getset_descriptor.__get__"))
  tk : PySem.W.takesIn K (.builtin "object.__class__") = some true
  mo : PySem.W.mroIn K C (.type "object") = some true
  sI : PySem.W.subIn K (.ref C) (.type "int") = some false
  iM : OprI K C "mul"
theorem SmC.ty {K : PySem.W.Frag} {mg : Str → Option Value} {C : Addr} (T : SmC K mg C) {H : Hp} {p dx : Addr} {fs : List (Str × V)} (h : H p = some (.ins C dx fs)) : TyX K H (.ref p) (.ref C) := .base (.ins h T.cl T.ha T.hn T.tk T.mo)
/-! ### what a sum is written as -/
def termL (n : Int) (l : List Nat) : List Nat := if n.natAbs = 1 ∧ l ≠ [] then l else TL.numL n.natAbs ++ l
/-! ### what a law hears of a kept error -/
end Hf
namespace Hf
open PySem PySem.Spec PyProof.Rows L2
/-! ### promises of a law about sums -/
theorem BagC.lay {b c D : Addr} {o : HO} {H : Hp} (h : BagC H b c) (n1 : D ≠ b) (n2 : D ≠ c) : BagC (upd H D o) b c := by
  obtain ⟨cs, a, r, s, h1, h2, q⟩ := h
  exact ⟨cs, a, r, s, by rw [upd_ne n1.symm]; exact h1, by rw [upd_ne n2.symm]; exact h2, q⟩
theorem BagC.uniq {b c c' : Addr} {H : Hp} (h : BagC H b c) (h' : BagC H b c') : c = c' := by
  obtain ⟨_, _, _, _, e, _⟩ := h
  obtain ⟨_, _, _, _, e', _⟩ := h'
  have z := e.symm.trans e'
  unfold bagD at z
  simp only [Option.some.injEq, HO.dK.injEq, List.cons.injEq, Prod.mk.injEq, V.ref.injEq, true_and] at z
  exact z.1
theorem BagC.cells {b c : Addr} {H : Hp} (h : BagC H b c) : (∃ o, H b = some o) ∧ ∃ o, H c = some o := by
  obtain ⟨cs, a, r, s, h1, h2, q⟩ := h
  exact ⟨⟨_, h1⟩, ⟨_, h2⟩⟩
/-- at most 10 ^ 40 -/
def Sm40 (i : Int) : Prop := i.natAbs ≤ 10000000000000000000000000000000000000000
theorem Sm40.add {i j : Int} (h : Sm40 i) (h' : Sm40 j) : Sm (i + j) := by
  unfold Sm40 at h h'
  constructor <;> omega
def FourAt (H : Hp) (t : Addr) (a b c d : Int) : Prop := H t = some (.tup [.int a, .int b, .int c, .int d])
/-- two fours and their sums, and the bag -/
structure St61 (C b0 t1 t2 p q : Addr) (a b c d a' b' c' d' : Int) (H0 H : Hp) : Prop where
  o1 : FourAt H t1 a b c d
  o2 : FourAt H t2 a' b' c' d'
  g1 : SumAt C H p a b c d
  g2 : SumAt C H q a' b' c' d'
  B : Bag H b0
  k : Keep b0 H0 H
section
variable {C b0 t1 t2 p q : Addr} {a b c d a' b' c' d' : Int} {H0 H H' : Hp}
theorem St61.same (S : St61 C b0 t1 t2 p q a b c d a' b' c' d' H0 H) (s : Same H H') : St61 C b0 t1 t2 p q a b c d a' b' c' d' H0 H' :=
  ⟨s _ _ S.o1, s _ _ S.o2, S.g1.same s, S.g2.same s, S.B.same s, S.k.trans (.of s)⟩
theorem St61.keep (S : St61 C b0 t1 t2 p q a b c d a' b' c' d' H0 H) (B' : Bag H' b0) (e : Keep b0 H H') : St61 C b0 t1 t2 p q a b c d a' b' c' d' H0 H' := by
  obtain ⟨o1, o2, ⟨dx, g1⟩, ⟨dy, g2⟩, ⟨c0, cs, x, r, s, hb, _⟩, k⟩ := S
  exact ⟨e _ _ o1 (ne_of o1 hb (by intro z; cases z)), e _ _ o2 (ne_of o2 hb (by intro z; cases z)), ⟨dx, e _ _ g1 (ne_of g1 hb (by intro z; cases z))⟩, ⟨dy, e _ _ g2 (ne_of g2 hb (by intro z; cases z))⟩, B', k.trans e⟩
end
section
variable {K : PySem.W.Frag} {mg : Str → Option Value} {C p q : Addr} {E : XK} {Q : VK} {H : Hp} {a b c d a' b' c' d' k0 : Int} {g : Int → Int → Int}
/-- a sum is no such value -/
def NoSum (K : PySem.W.Frag) (C : Addr) (H : Hp) (v : V) : Prop := ∃ t, TyX K H v t ∧ PySem.W.subIn K t (.ref C) = some false ∧ PySem.W.kitOne K t (.ref C) = some false
theorem NoSum.same {H H' : Hp} {v : V} (h : NoSum K C H v) (s : Same H H') : NoSum K C H' v := let ⟨t, a, b, c⟩ := h; ⟨t, TyX.extN a (ExtN.same s), b, c⟩
end
end Hf
namespace Hf
open PySem PySem.Spec PyProof.Rows L2
/-- the odd things of a law, in a list -/
abbrev oddV (l1 t2 d3 : Addr) : List V := [.non, .bl true, .bl false, .str "1", .ref l1, .ref t2, .ref d3]
structure Odd61 (H : Hp) (lo l1 t2 d3 : Addr) : Prop where
  e : H lo = some (.lst (oddV l1 t2 d3))
  x1 : H l1 = some (.lst [.int 1])
  x2 : H t2 = some (.tup [.int 1])
  x3 : H d3 = some (.dK [])
section
variable {H H' : Hp} {lo l1 t2 d3 b c : Addr}
theorem Odd61.ext (O : Odd61 H lo l1 t2 d3) (s : LamX.ExtN H H') : Odd61 H' lo l1 t2 d3 :=
  ⟨s _ _ O.e (fun ps z => by cases z), s _ _ O.x1 (fun ps z => by cases z), s _ _ O.x2 (fun ps z => by cases z), s _ _ O.x3 (fun ps z => by cases z)⟩
theorem Odd61.same (O : Odd61 H lo l1 t2 d3) (s : Same H H') : Odd61 H' lo l1 t2 d3 := O.ext (ExtN.same s)
theorem Odd61.keep (O : Odd61 H lo l1 t2 d3) (C : BagC H b c) (k : Keep b H H') : Odd61 H' lo l1 t2 d3 := by
  obtain ⟨cs, a, r, s, hb, _⟩ := C
  refine ⟨k _ _ O.e (ne_of O.e hb (by intro z; cases z)), k _ _ O.x1 (ne_of O.x1 hb (by intro z; cases z)), k _ _ O.x2 (ne_of O.x2 hb (by intro z; cases z)), k _ _ O.x3 (ne_of O.x3 hb (by intro z; unfold bagD at z; cases z))⟩
end
end Hf
namespace Hf
open PySem PySem.Spec PyProof.Rows L2
/-! ### k33: places told as tuples -/
def intsP (t : P3) : List V := [.int t.1, .int t.2.1, .int t.2.2]
def TAt (H : Hp) (q : Addr) (t : P3) : Prop := H q = some (.tup (intsP t))
theorem TAt.same {H H' : Hp} {q : Addr} {t : P3} (h : TAt H q t) (e : Same H H') : TAt H' q t := e _ _ h
theorem Pen.lst {H : Hp} {b c : Addr} {k : Nat} (P : Pen H b c k) : ∃ xs, H b = some (.lst xs) := let ⟨_, _, _, h, _⟩ := P; ⟨_, h⟩
def NearP (t : P3) : Prop := t.1.natAbs ≤ 1000000 ∧ t.2.1.natAbs ≤ 1000000 ∧ t.2.2.natAbs ≤ 1000000
/-- a value that tells a place -/
def PvG (C : Addr) (H : Hp) (y : V) (t : P3) : Prop := (y = .int t.2.1 ∧ t.1 = 0 ∧ t.2.2 = 0) ∨ ∃ p, y = .ref p ∧ PAt C H p t
theorem PvG.same {C : Addr} {H H' : Hp} {y : V} {t : P3} (h : PvG C H y t) (e : Same H H') : PvG C H' y t := h.imp id fun ⟨p, a, g⟩ => ⟨p, a, g.same e⟩
theorem PvG.put {C D : Addr} {H : Hp} {y : V} {t : P3} {zs : List V} (h : PvG C H y t) (n : H D = none ∨ ∃ us, H D = some (.lst us)) : PvG C (upd H D (.lst zs)) y t := h.imp id fun ⟨p, a, g⟩ => ⟨p, a, g.keep Keep.upd fun z => by
  obtain ⟨dx, g⟩ := g
  rw [z] at g
  rcases n with n | ⟨us, n⟩ <;> rw [n] at g <;> cases g⟩
/-- four tuples in a row -/
def Four4 (H : Hp) (q0 q1 q2 q3 : Addr) (t0 t1 t2 t3 : P3) : Prop := TAt H q0 t0 ∧ TAt H q1 t1 ∧ TAt H q2 t2 ∧ TAt H q3 t3
def FourT (H : Hp) (q : Addr) (t0 t1 t2 t3 : P3) : Prop := ∃ q0 q1 q2 q3 : Addr, H q = some (.tup [.ref q0, .ref q1, .ref q2, .ref q3]) ∧ Four4 H q0 q1 q2 q3 t0 t1 t2 t3
theorem Four4.same {H H' : Hp} {q0 q1 q2 q3 : Addr} {t0 t1 t2 t3 : P3} (h : Four4 H q0 q1 q2 q3 t0 t1 t2 t3) (e : Same H H') : Four4 H' q0 q1 q2 q3 t0 t1 t2 t3 := ⟨h.1.same e, h.2.1.same e, h.2.2.1.same e, h.2.2.2.same e⟩
theorem FourT.same {H H' : Hp} {q : Addr} {t0 t1 t2 t3 : P3} (h : FourT H q t0 t1 t2 t3) (e : Same H H') : FourT H' q t0 t1 t2 t3 := let ⟨q0, q1, q2, q3, a, f⟩ := h; ⟨q0, q1, q2, q3, e _ _ a, f.same e⟩
/-- sizes to be asked -/
def SizesAt (H : Hp) (l : Addr) (zs : List (Int × Int)) : Prop := ∃ ts : List Addr, H l = some (.lst (ts.map V.ref)) ∧ F2 (fun a z => H a = some (.tup [.int z.1, .int z.2])) ts zs
end Hf
namespace Hf
open PySem PySem.Spec PyProof.Rows L2
/-! ### what is shown -/
end Hf
namespace Hf
open PySem PySem.Spec PyProof.Rows L2 LamX
/-- law_call with tables: cs, the code objects and their tables -/
def SysB (base : Heap) : Prop := ∃ o : Obj, base.get? sysModules = some o
end Hf
namespace Hf
open PySem PySem.Spec PyProof.Rows L2
/-! ### data with lists, tuples, small dicts -/
mutual
inductive Dz (H : Hp) : V → PyData → Prop
  | non : Dz H .non .none
  | bl (b : Bool) : Dz H (.bl b) (.bool b)
  | int (i : Int) : Dz H (.int i) (.int i)
  | str (x : Str) : Dz H (.str x) (.str x)
  | lst {a : Addr} {xs : List V} {ds : List PyData} : H a = some (.lst xs) → DzAll H xs ds → Dz H (.ref a) (.list ds)
  | tup {a : Addr} {xs : List V} {ds : List PyData} : H a = some (.tup xs) → DzAll H xs ds → Dz H (.ref a) (.tuple ds)
  | dic {a : Addr} : H a = some (.dK []) → Dz H (.ref a) (.dict [])
  | dic1 {a : Addr} {x : Str} {i : Int} : H a = some (.dK [(.inr x, .int i)]) → Dz H (.ref a) (.dict [(.str x, .int i)])
inductive DzAll (H : Hp) : List V → List PyData → Prop
  | nil : DzAll H [] []
  | cons {v : V} {vs : List V} {d : PyData} {ds : List PyData} : Dz H v d → DzAll H vs ds → DzAll H (v :: vs) (d :: ds)
end
theorem nsys {X : Cx} {pins : List (Addr × Obj)} {σ : L2.St} {H : Hp} {s : Shared} (sb : SysB X.base) (I : L2.Inv X pins σ H s) {a : Addr} {o : HO} (h : H a = some o) : a ≠ sysModules := by
  intro z
  subst z
  obtain ⟨ob, e⟩ := sb
  rw [(I.bs _ _ e).2] at h
  cases h
section
variable {X : Cx} {pins : List (Addr × Obj)} {σ : L2.St} {H : Hp} {s : Shared}
mutual
theorem Dz.reads (sb : SysB X.base) (I : L2.Inv X pins σ H s) : ∀ (d : PyData) (v : V) (u : Value), Dz H v d → RelV v u → ∃ as, Reads s.heap u d as ∧ sysModules ∉ as
  | .none, _, _, h, r => by
    cases h
    cases r
    exact ⟨_, Reads.none, by simp⟩
  | .bool b, _, _, h, r => by
    cases h
    cases r
    exact ⟨_, Reads.bool b, by simp⟩
  | .int i, _, _, h, r => by
    cases h
    obtain ⟨t, rfl⟩ := r
    exact ⟨_, Reads.int i t, by simp⟩
  | .str x, _, _, h, r => by
    cases h
    obtain ⟨t, rfl⟩ := r
    exact ⟨_, Reads.str x t, by simp⟩
  | .list ds, _, _, h, r => by
    cases h with
    | lst hs ha =>
      cases r
      obtain ⟨_, its, n, rv, _, ho⟩ := I.lstM hs
      obtain ⟨as, hr, hn⟩ := Dz.readsAll sb I ds _ its ha rv
      refine ⟨_, Reads.list ho rfl rfl hr, ?_⟩
      rw [List.mem_cons]
      rintro (z | z)
      · exact nsys sb I hs z.symm
      · exact hn z
  | .tuple ds, _, _, h, r => by
    cases h with
    | tup hs ha =>
      cases r
      obtain ⟨its, rv, ⟨o, ho, hc, n, hd⟩, _⟩ := I.tuple (SqT.of hs)
      obtain ⟨as, hr, hn⟩ := Dz.readsAll sb I ds _ its ha rv
      exact ⟨_, Reads.tuple ho hc hd hr, hn⟩
  | .dict kvs, _, _, h, r => by
    cases h with
    | @dic a hs =>
      cases r
      obtain ⟨_, hd, vs, rel, o, es, ep, ho, hx, hdat, _, hp, _⟩ := dk_of I.hok hs
      cases rel
      have he : es.toList = [] := by
        cases e : es.toList with
        | nil => rfl
        | cons x l => rw [e] at hp; cases hp
      refine ⟨_, Reads.dict (kvs := []) ho hx.1 hdat (by rw [he]; exact .nil) (by rw [he]; exact .nil), ?_⟩
      simp only [List.append_nil, List.mem_singleton]
      exact fun z => nsys sb I hs z.symm
    | @dic1 a x i hs =>
      cases r
      obtain ⟨_, hd, vs, rel, o, es, ep, ho, hx, hdat, _, hp, _⟩ := dk_of I.hok hs
      obtain ⟨v0, rfl, t, ev⟩ : ∃ v0, vs = [(.inr x, v0)] ∧ ∃ t, v0 = Value.int i t := by
        match vs, rel with
        | [(k0, v0)], .cons r1 .nil =>
          obtain ⟨rk, t, ev⟩ := r1
          have rk : Sum.inr x = k0 := rk
          subst rk
          exact ⟨v0, rfl, t, ev⟩
      cases e : es.toList with
      | nil => rw [e] at hp; cases hp
      | cons x1 l =>
        rw [e] at hp
        cases hp with
        | cons k1 k2 k3 =>
        cases k3
        rcases keyIs_shape (k := .inr x) (v := x1.key) k1 with ⟨i', t', z, _⟩ | ⟨x', t', z, hk⟩
        · cases z
        cases z
        have ev2 : x1.val = Value.int i t := k2.trans ev
        refine ⟨_, Reads.dict (kvs := [(.str x, .int i)]) ho hx.1 hdat (by rw [e]; exact .cons (show Reads s.heap x1.key (.str x) _ from by rw [hk]; exact .str x t') .nil) (by rw [e]; exact .cons (show Reads s.heap x1.val (.int i) _ from by rw [ev2]; exact .int i t) .nil), ?_⟩
        simp only [List.append_nil, List.mem_singleton]
        exact fun z => nsys sb I hs z.symm
theorem Dz.readsAll (sb : SysB X.base) (I : L2.Inv X pins σ H s) : ∀ (ds : List PyData) (vs : List V) (us : List Value), DzAll H vs ds → Vals vs us → ∃ as, ReadsAll s.heap us ds as ∧ sysModules ∉ as
  | [], _, _, h, r => by
    cases h
    cases r
    exact ⟨_, ReadsAll.nil, by simp⟩
  | d :: ds, _, _, h, r => by
    cases h with
    | cons h1 h2 =>
      cases r with
      | cons r1 r2 =>
        obtain ⟨as, q1, n1⟩ := Dz.reads sb I d _ _ h1 r1
        obtain ⟨bs, q2, n2⟩ := Dz.readsAll sb I ds _ _ h2 r2
        refine ⟨_, ReadsAll.cons q1 q2, ?_⟩
        rw [List.mem_append]
        rintro (z | z)
        · exact n1 z
        · exact n2 z
end
end
end Hf
namespace Hf
open PySem PySem.Spec PyProof.Rows L2
/-! ### rows that are none: what a picture is refused for -/
def txtOf : V → Option (List Nat)
  | .str s => some s.cps.toList
  | _ => none
def lenV (x : V) : Nat := match txtOf x with
  | some cs => cs.length
  | none => 0
/-- an item: no text, or a text of few signs -/
def ItemV (K : PySem.W.Frag) (H : Hp) (x : V) : Prop := (NotS K H x ∧ txtOf x = none) ∨ ∃ cs : List Nat, x = tv cs ∧ Pg 250 cs
theorem ItemV.same {K : PySem.W.Frag} {H H' : Hp} {x : V} (h : ItemV K H x) (e : Same H H') : ItemV K H' x := h.imp (fun z => ⟨z.1.same e, z.2⟩) id
theorem ItemV.extN {K : PySem.W.Frag} {H H' : Hp} {x : V} (h : ItemV K H x) (e : LamX.ExtN H H') : ItemV K H' x := h.imp (fun z => ⟨z.1.extN e, z.2⟩) id
def RowsV (K : PySem.W.Frag) (H : Hp) (l : Addr) (xs : List V) : Prop := SqL K H l xs ∨ SqT K H l xs
theorem RowsV.same {K : PySem.W.Frag} {H H' : Hp} {l : Addr} {xs : List V} (h : RowsV K H l xs) (e : Same H H') : RowsV K H' l xs := h.imp (fun z => e.seq z) (fun z => same_tup e z)
/-- a value that is neither a list nor a tuple -/
inductive NoSeq (H : Hp) : V → Prop
  | non : NoSeq H .non
  | bl (b : Bool) : NoSeq H (.bl b)
  | int (i : Int) : NoSeq H (.int i)
  | str (x : Str) : NoSeq H (.str x)
  | dic {a : Addr} {kvs : List (Key × V)} : H a = some (.dK kvs) → NoSeq H (.ref a)
theorem NoSeq.same {H H' : Hp} {v : V} (h : NoSeq H v) (e : Same H H') : NoSeq H' v := by
  cases h with
  | non => exact .non
  | bl b => exact .bl b
  | int i => exact .int i
  | str x => exact .str x
  | dic h => exact .dic (e _ _ h)
theorem NoSeq.extN {H H' : Hp} {v : V} (h : NoSeq H v) (e : LamX.ExtN H H') : NoSeq H' v := by
  cases h with
  | non => exact .non
  | bl b => exact .bl b
  | int i => exact .int i
  | str x => exact .str x
  | dic h => exact .dic (e _ _ h (fun ps z => by cases z))
/-! ### methods that refuse -/
/-- a value that is no axis -/
def NoAxis (K : PySem.W.Frag) (H : Hp) (v : V) : Prop := NotS K H v ∨ ∃ x : Str, v = .str x ∧ x ≠ "across" ∧ x ≠ "down"
end Hf
namespace Hf
open PySem PySem.Spec PyProof.Rows L2
mutual
theorem Dz.extN {H H' : Hp} (e : LamX.ExtN H H') : ∀ (d : PyData) (v : V), Dz H v d → Dz H' v d
  | .none, _, h => by cases h; exact .non
  | .bool b, _, h => by cases h; exact .bl b
  | .int i, _, h => by cases h; exact .int i
  | .str x, _, h => by cases h; exact .str x
  | .list ds, _, h => by
    cases h with
    | lst a b => exact .lst (e _ _ a (fun ps z => by cases z)) (Dz.extNs e ds _ b)
  | .tuple ds, _, h => by
    cases h with
    | tup a b => exact .tup (e _ _ a (fun ps z => by cases z)) (Dz.extNs e ds _ b)
  | .dict kvs, _, h => by
    cases h with
    | dic a => exact .dic (e _ _ a (fun ps z => by cases z))
    | dic1 a => exact .dic1 (e _ _ a (fun ps z => by cases z))
theorem Dz.extNs {H H' : Hp} (e : LamX.ExtN H H') : ∀ (ds : List PyData) (vs : List V), DzAll H vs ds → DzAll H' vs ds
  | [], _, h => by cases h; exact .nil
  | d :: ds, _, h => by
    cases h with
    | cons a b => exact .cons (Dz.extN e d _ a) (Dz.extNs e ds _ b)
end
theorem Dz.same {H H' : Hp} {v : V} {d : PyData} (h : Dz H v d) (e : Same H H') : Dz H' v d := Dz.extN (fun a o z _ => e a o z) d v h
/-- few signs when shown -/
structure SzD (n k : Nat) (d : PyData) : Prop where
  sh : d.showable = true
  dp : d.depth ≤ k
  ln : d.shown.length ≤ n
theorem SzD.le {n k m j : Nat} {d : PyData} (h : SzD n k d) (a : n ≤ m) (b : k ≤ j) : SzD m j d := ⟨h.sh, Nat.le_trans h.dp b, Nat.le_trans h.ln a⟩
theorem szs_all {n k : Nat} : ∀ {ds : List PyData}, (∀ d ∈ ds, SzD n k d) → PyData.showableAll ds = true ∧ PyData.depthAll ds ≤ k ∧ ((PyData.shownAll ds).map (·.length)).sum ≤ ds.length * n ∧ (PyData.shownAll ds).length = ds.length
  | [], _ => ⟨by simp [PyData.showableAll], by simp [PyData.depthAll], by simp [PyData.shownAll], by simp [PyData.shownAll]⟩
  | d :: ds, h => by
    obtain ⟨a, b, c, e⟩ := szs_all (ds := ds) fun x hx => h x (List.mem_cons_of_mem _ hx)
    have hd := h d List.mem_cons_self
    refine ⟨by rw [PyData.showableAll, hd.sh, a]; rfl, by rw [PyData.depthAll]; have := hd.dp; omega, ?_, by rw [PyData.shownAll, List.length_cons, List.length_cons, e]⟩
    rw [PyData.shownAll, List.map_cons, List.sum_cons, List.length_cons, Nat.succ_mul]
    have := hd.ln
    omega
theorem SzD.list {n k m : Nat} {ds : List PyData} (h : ∀ d ∈ ds, SzD n k d) (hm : ds.length ≤ m) : SzD (m * n + 2 * m + 3) (k + 1) (.list ds) := by
  obtain ⟨a, b, c, e⟩ := szs_all h
  refine ⟨by rw [PyData.showable]; exact a, by rw [PyData.depth]; omega, ?_⟩
  rw [PyData.shown]
  have l := listText_len_le (PyData.shownAll ds)
  have := Nat.mul_le_mul_right n hm
  omega
theorem SzD.tuple {n k m : Nat} {ds : List PyData} (h : ∀ d ∈ ds, SzD n k d) (hm : ds.length ≤ m) : SzD (m * n + 2 * m + 3) (k + 1) (.tuple ds) := by
  obtain ⟨a, b, c, e⟩ := szs_all h
  refine ⟨by rw [PyData.showable]; exact a, by rw [PyData.depth]; omega, ?_⟩
  rw [PyData.shown]
  have l := tupleText_len_le (PyData.shownAll ds)
  have := Nat.mul_le_mul_right n hm
  omega
theorem SzD.txt {N : Nat} {cs : List Nat} (g : Pg N cs) : SzD (10 * N + 2) 0 (.str (SX.S cs)) := by
  refine ⟨by simp [PyData.showable], by simp [PyData.depth], ?_⟩
  have l2 := PySem.StrLaws.reprText_len (SX.S cs) (fun c hc => by
    have := g.a c hc
    have : (16 : Nat) ^ 8 = 4294967296 := by decide
    omega)
  have l4 : (reprText (SX.S cs)).length ≤ 10 * (SX.S cs).length + 2 := l2
  rw [SX.S_len cs] at l4
  have := g.l
  rw [PyData.shown]
  omega
/-! ### items of rows -/
inductive ItD (H : Hp) : V → PyData → Prop
  | txt (cs : List Nat) : Pg 250 cs → ItD H (tv cs) (.str (SX.S cs))
  | non : ItD H .non .none
  | bl (b : Bool) : ItD H (.bl b) (.bool b)
  | five : ItD H (.int 5) (.int 5)
  | lstS {a : Addr} {n : Nat} : H a = some (.lst (List.replicate n (tv [48]))) → n ≤ 201 → ItD H (.ref a) (.list (List.replicate n (.str (SX.S [48]))))
  | tupS {a : Addr} {n : Nat} : H a = some (.tup (List.replicate n (tv [48]))) → n ≤ 201 → ItD H (.ref a) (.tuple (List.replicate n (.str (SX.S [48]))))
  | dic {a : Addr} : H a = some (.dK []) → ItD H (.ref a) (.dict [])
theorem ItD.imp {H H' : Hp} {v : V} {d : PyData} (h : ItD H v d) (hk : ∀ a o, H a = some o → v = .ref a → H' a = some o) : ItD H' v d := by
  cases h with
  | txt cs g => exact .txt cs g
  | non => exact .non
  | bl b => exact .bl b
  | five => exact .five
  | lstS h n => exact .lstS (hk _ _ h rfl) n
  | tupS h n => exact .tupS (hk _ _ h rfl) n
  | dic h => exact .dic (hk _ _ h rfl)
theorem ItD.same {H H' : Hp} {v : V} {d : PyData} (h : ItD H v d) (e : Same H H') : ItD H' v d := h.imp fun a o z _ => e _ _ z
theorem ItD.keep {H H' : Hp} {v : V} {d : PyData} {b : Addr} (h : ItD H v d) (e : Keep b H H') (n : v ≠ .ref b) : ItD H' v d := h.imp fun a o z ev => e _ _ z fun q => n (by rw [ev, q])
theorem ItD.sz {H : Hp} {v : V} {d : PyData} (h : ItD H v d) : SzD 3000 1 d := by
  have one : ∀ {n : Nat}, ∀ d ∈ List.replicate n (PyData.str (SX.S [48])), SzD 12 0 d := fun d hd => by
    rw [(List.mem_replicate.mp hd).2]
    exact SzD.txt (N := 1) ⟨by decide, by decide⟩
  cases h with
  | txt cs g => exact (SzD.txt g).le (by decide) (by decide)
  | non => exact ⟨by decide +kernel, by decide +kernel, by decide +kernel⟩
  | bl b => cases b <;> exact ⟨by decide +kernel, by decide +kernel, by decide +kernel⟩
  | five => exact ⟨by decide +kernel, by decide +kernel, by decide +kernel⟩
  | lstS h n => exact (SzD.list (m := 201) one (by rw [List.length_replicate]; exact n)).le (by decide) (by decide)
  | tupS h n => exact (SzD.tuple (m := 201) one (by rw [List.length_replicate]; exact n)).le (by decide) (by decide)
  | dic h => exact ⟨by decide +kernel, by decide +kernel, by decide +kernel⟩
theorem ItD.item {K : PySem.W.Frag} {H : Hp} {v : V} {d : PyData} (h : ItD H v d) : ItemV K H v := by
  cases h with
  | txt cs g => exact .inr ⟨cs, rfl, g⟩
  | non => exact .inl ⟨ns_non, rfl⟩
  | bl b => exact .inl ⟨ns_bl, rfl⟩
  | five => exact .inl ⟨ns_int, rfl⟩
  | lstS h n => exact .inl ⟨ns_lst h, rfl⟩
  | tupS h n => exact .inl ⟨ns_tup h, rfl⟩
  | dic h => exact .inl ⟨ns_dict h, rfl⟩
/-! ### what is handed -/
/-- a value of any kind, its items where it is a list or a tuple, and its data -/
def HandV (K : PySem.W.Frag) (H : Hp) (v : V) (o : Option (List V)) (d : PyData) : Prop := Dz H v d ∧ SzD 900000 2 d ∧
  ((o = none ∧ NoSeq H v) ∨ ∃ (l : Addr) (xs : List V), o = some xs ∧ v = .ref l ∧ (H l = some (.lst xs) ∨ H l = some (.tup xs)) ∧ xs.length ≤ 201 ∧ ∀ x ∈ xs, ItemV K H x)
theorem HandV.extN {K : PySem.W.Frag} {H H' : Hp} {v : V} {o : Option (List V)} {d : PyData} (h : HandV K H v o d) (e : LamX.ExtN H H') : HandV K H' v o d := by
  obtain ⟨a, b, c⟩ := h
  refine ⟨Dz.extN e _ _ a, b, c.imp (fun z => ⟨z.1, z.2.extN e⟩) fun ⟨l, xs, h1, h2, h3, h4, h5⟩ => ⟨l, xs, h1, h2, h3.imp (fun z => e _ _ z (fun ps z => by cases z)) (fun z => e _ _ z (fun ps z => by cases z)), h4, fun x hx => (h5 x hx).extN e⟩⟩
theorem HandV.same {K : PySem.W.Frag} {H H' : Hp} {v : V} {o : Option (List V)} {d : PyData} (h : HandV K H v o d) (e : Same H H') : HandV K H' v o d := h.extN fun a o z _ => e a o z
end Hf
namespace Hf
open PySem PySem.Spec PyProof.Rows L2
/-! ### a tuple once, or many times -/
theorem Odd.sz {K : PySem.W.Frag} {H : Hp} {v : V} {d : PyData} (o : Odd H v d) : SzD 2000 1 d := by
  obtain ⟨a, b, c, _⟩ := odd_shown (K := K) o
  exact ⟨a, by omega, by omega⟩
theorem use_catZ {H : Hp} {l m : Addr} {xs ys : List V} {Q : VK} (e1 : H l = some (.lst xs)) (e2 : H m = some (.lst ys)) (hn : xs.length + ys.length ≤ 1000) (q : ∀ (p : Addr) (H' : Hp), H p = none → H' p = some (.lst (xs ++ ys)) → Same H H' → Q (.ref p) H') : rCat (.ref l) (.ref m) H Q :=
  ⟨l, m, xs, ys, rfl, rfl, e1, e2, Nat.le_of_lt (small1000 hn), fun p np => q p _ np upd_same (Same.new np)⟩
theorem NoAxis.extN {K : PySem.W.Frag} {H H' : Hp} {v : V} (h : NoAxis K H v) (e : LamX.ExtN H H') : NoAxis K H' v := h.imp (fun z => z.extN e) id
theorem NoAxis.same {K : PySem.W.Frag} {H H' : Hp} {v : V} (h : NoAxis K H v) (e : Same H H') : NoAxis K H' v := h.imp (fun z => z.same e) id
end Hf
namespace Hf
open PySem PySem.Spec PyProof.Rows L2
/-! ### k33: what is heard -/
/-! ### heaps the same but for the pen and the tables -/
def KN (b : Addr) (H H' : Hp) : Prop := ∀ a o, H a = some o → (∀ ps, o ≠ .tbl ps) → a ≠ b → H' a = some o
theorem KN.refl {b : Addr} {H : Hp} : KN b H H := fun _ _ h _ _ => h
theorem KN.of {b : Addr} {H H' : Hp} (k : Keep b H H') : KN b H H' := fun a o h _ n => k a o h n
theorem KN.ofS {b : Addr} {H H' : Hp} (k : Same H H') : KN b H H' := fun a o h _ _ => k a o h
theorem KN.ofN {b : Addr} {H H' : Hp} (k : LamX.ExtN H H') : KN b H H' := fun a o h n _ => k a o h n
theorem KN.trans {b : Addr} {H H1 H2 : Hp} (k : KN b H H1) (m : KN b H1 H2) : KN b H H2 := fun a o h n ne => m a o (k a o h n ne) n ne
theorem TAt.extN {H H' : Hp} {q : Addr} {t : P3} (h : TAt H q t) (e : LamX.ExtN H H') : TAt H' q t := e _ _ h fun ps z => by cases z
theorem Four4.extN {H H' : Hp} {q0 q1 q2 q3 : Addr} {t0 t1 t2 t3 : P3} (h : Four4 H q0 q1 q2 q3 t0 t1 t2 t3) (e : LamX.ExtN H H') : Four4 H' q0 q1 q2 q3 t0 t1 t2 t3 := ⟨h.1.extN e, h.2.1.extN e, h.2.2.1.extN e, h.2.2.2.extN e⟩
theorem PAt.extN {C : Addr} {H H' : Hp} {p : Addr} {t : P3} (h : PAt C H p t) (e : LamX.ExtN H H') : PAt C H' p t := PlaceAt.extN h e
theorem PvG.extN {C : Addr} {H H' : Hp} {y : V} {t : P3} (h : PvG C H y t) (e : LamX.ExtN H H') : PvG C H' y t := h.imp id fun ⟨p, a, g⟩ => ⟨p, a, g.extN e⟩
theorem BoxAt.extN {C CX : Addr} {H H' : Hp} {p : Addr} {t0 t1 t2 t3 : P3} (h : BoxAt C CX H p t0 t1 t2 t3) (e : LamX.ExtN H H') : BoxAt C CX H' p t0 t1 t2 t3 :=
  let ⟨dx, q0, q1, q2, q3, a, h0, h1, h2, h3⟩ := h; ⟨dx, q0, q1, q2, q3, e _ _ a (fun ps z => by cases z), h0.extN e, h1.extN e, h2.extN e, h3.extN e⟩
theorem SizesAt.same {H H' : Hp} {l : Addr} {zs : List (Int × Int)} (h : SizesAt H l zs) (e : Same H H') : SizesAt H' l zs := let ⟨ts, a, f⟩ := h; ⟨ts, e _ _ a, f.imp fun _ _ z => e _ _ z⟩
theorem SizesAt.kn {H H' : Hp} {l b c : Addr} {k : Nat} {zs : List (Int × Int)} (h : SizesAt H l zs) (P : Pen H b c k) (n : l ≠ b) (e : KN b H H') : SizesAt H' l zs := by
  obtain ⟨ts, a, f⟩ := h
  obtain ⟨xs, hb⟩ := id P.lst
  exact ⟨ts, e _ _ a (fun ps z => by cases z) n, f.imp fun a z hz => e _ _ hz (fun ps z => by cases z) fun x => by rw [x, hb] at hz; cases hz⟩
end Hf
namespace Hf
open PySem PySem.Spec PyProof.Rows L2
/-! ### k33: odd values -/
inductive OddR (H : Hp) : V → Prop
  | non : OddR H .non
  | bl (b : Bool) : OddR H (.bl b)
  | str (x : Str) : OddR H (.str x)
  | lst {a : Addr} {xs : List V} : H a = some (.lst xs) → OddR H (.ref a)
  | tup {a : Addr} {xs : List V} : H a = some (.tup xs) → OddR H (.ref a)
  | dic {a : Addr} : H a = some (.dK []) → OddR H (.ref a)
section
variable {K : PySem.W.Frag} {C b c : Addr} {H H' : Hp} {v : V}
theorem OddR.extN (h : OddR H v) (e : LamX.ExtN H H') : OddR H' v := by
  cases h with
  | non => exact .non
  | bl b => exact .bl b
  | str x => exact .str x
  | lst h => exact .lst (e _ _ h fun ps z => by cases z)
  | tup h => exact .tup (e _ _ h fun ps z => by cases z)
  | dic h => exact .dic (e _ _ h fun ps z => by cases z)
theorem OddR.same (h : OddR H v) (e : Same H H') : OddR H' v := h.extN (ExtN.same e)
theorem OddR.keep (h : OddR H v) (e : Keep b H H') (n : v ≠ .ref b) : OddR H' v := by
  cases h with
  | non => exact .non
  | bl b => exact .bl b
  | str x => exact .str x
  | lst h => exact .lst (e _ _ h fun z => n (by rw [z]))
  | tup h => exact .tup (e _ _ h fun z => n (by rw [z]))
  | dic h => exact .dic (e _ _ h fun z => n (by rw [z]))
/-- no size -/
def LoR (H : Hp) (v : V) : Prop := OddR H v ∨ ∃ i : Int, v = .int i ∧ i < 1
theorem LoR.extN (h : LoR H v) (e : LamX.ExtN H H') : LoR H' v := h.imp (fun z => z.extN e) id
theorem LoR.same (h : LoR H v) (e : Same H H') : LoR H' v := h.extN (ExtN.same e)
/-- what stands while wrong values are asked -/
structure StR (C CX : Addr) (T : List (Addr × Str)) (H0 H : Hp) (b c p : Addr) (k : Nat) (t0 t1 t2 t3 : P3) : Prop where
  P : Pen H b c k
  hT : LamX.Tabs T H
  g : BoxAt C CX H p t0 t1 t2 t3
  kn : KN b H0 H
theorem StR.same {CX p : Addr} {T : List (Addr × Str)} {H0 : Hp} {k : Nat} {t0 t1 t2 t3 : P3} (S : StR C CX T H0 H b c p k t0 t1 t2 t3) (e : Same H H') : StR C CX T H0 H' b c p k t0 t1 t2 t3 := ⟨S.P.same e, S.hT.ext e, S.g.same e, S.kn.trans (KN.ofS e)⟩
end
end Hf
namespace Hf
open PySem PySem.Spec PyProof.Rows L2
/-! ### k33: places at their bounds -/
theorem TAt.put {H : Hp} {q D : Addr} {t : P3} {zs : List V} (h : TAt H q t) (n : H D = none ∨ ∃ us, H D = some (.lst us)) : TAt (upd H D (.lst zs)) q t := by
  unfold TAt at h ⊢
  rw [upd_ne]
  · exact h
  · intro z
    rw [z] at h
    rcases n with n | ⟨us, n⟩ <;> rw [n] at h <;> cases h
theorem PAt.put {C : Addr} {H : Hp} {q D : Addr} {t : P3} {zs : List V} (h : PAt C H q t) (n : H D = none ∨ ∃ us, H D = some (.lst us)) : PAt C (upd H D (.lst zs)) q t := h.keep Keep.upd fun z => by
  obtain ⟨dx, g⟩ := h
  rw [z] at g
  rcases n with n | ⟨us, n⟩ <;> rw [n] at g <;> cases g
end Hf
namespace Hf
open PySem PySem.Spec PyProof.Rows L2
/-! ### C(x=.., y=..) in any order -/
/-! ### boxes compared -/
section
variable {K : PySem.W.Frag} {C CX : Addr} {mg : Str → Option Value} {H : Hp} {E : XK} {Q : VK} {p q : Addr} {t0 t1 t2 t3 u0 u1 u2 u3 : P3}
theorem BoxAt.ty (B0 : BxC K mg CX) (g : BoxAt C CX H p t0 t1 t2 t3) : TyX K H (.ref p) (.ref CX) := by
  obtain ⟨dx, q0, q1, q2, q3, h, _⟩ := g
  exact .base (.ins h B0.cl B0.ha B0.hn B0.tk B0.mo)
/-- what stands in a turn of the law -/
structure StW (C CX : Addr) (T : List (Addr × Str)) (H : Hp) (b c l q bx : Addr) (k : Nat) (t0 t1 t2 t3 : P3) (zs : List (Int × Int)) : Prop where
  P : Pen H b c k
  hT : LamX.Tabs T H
  sz : SizesAt H l zs
  f : FourT H q t0 t1 t2 t3
  g : BoxAt C CX H bx t0 t1 t2 t3
theorem StW.same {T : List (Addr × Str)} {H' : Hp} {b c l bx : Addr} {k : Nat} {zs : List (Int × Int)} (S : StW C CX T H b c l q bx k t0 t1 t2 t3 zs) (e : Same H H') : StW C CX T H' b c l q bx k t0 t1 t2 t3 zs := ⟨S.P.same e, S.hT.ext e, S.sz.same e, S.f.same e, S.g.same e⟩
end
end Hf
namespace Hf
open PySem PySem.Spec PyProof.Rows L2
end Hf
namespace Hf
open PySem PySem.Spec PyProof.Rows L2
/-- the step of a walk at P -/
class RdC (P : Prop) (P' : outParam Prop) : Prop where
  pf : P' → P
instance i_rd_dput  {td ty tv : TE} {D : Ends} {σ : L2.St} {H : Hp} : RdC (sDPut td ty tv D σ H) (tv σ H fun v H1 => td σ H1 fun x H2 => ty σ H2 fun y H3 => ∃ a H4, x = .ref a ∧ DPut H3 a y v H4 ∧ D.nx σ H4) := ⟨rd_dput⟩
instance i_rd_dget  {td ty : TE} {σ : L2.St} {H : Hp} {Q : VK} : RdC (tDGet td ty σ H Q) (td σ H fun x H1 => ty σ H1 fun y H2 => ∃ a v, x = .ref a ∧ DGet H2 a y (some v) ∧ Q v H2) := ⟨rd_dget⟩
instance i_rd_iKeys  {td : TE} {σ : L2.St} {H : Hp} {R : It → Hp → Prop} : RdC (iKeys td σ H R) (td σ H fun x H1 => ∃ d o, x = .ref d ∧ ((∃ kvs, H1 d = some (.frz o (.dK kvs)) ∧ R (Itk d o kvs) H1) ∨ ∃ kvs, H1 d = some (.frz o (.dT kvs)) ∧ R (Itkt d o kvs) H1)) := ⟨rd_iKeys⟩
instance i_rd_meK  {C : Addr} {m : Str} {n : Nat} {q : List V → List V} {sp : Sp} {E : XK} {ta : TE} {tk : TA} {σ : L2.St} {H : Hp} {Q : VK} : RdC (tMeK C m n q sp E ta tk σ H Q) (ta σ H fun x H1 => ∃ a dx fs, x = .ref a ∧ H1 a = some (.ins C dx fs) ∧ List.lookup m fs = none ∧ tk σ H1 (ClKK n (fun zs => x :: q zs) sp E Q)) := ⟨rd_meK⟩
instance i_rd_prop  {C : Addr} {sp : Sp} {dvs : List V} {E : XK} {ta : TE} {σ : L2.St} {H : Hp} {Q : VK} : RdC (tProp C sp dvs E ta σ H Q) (ta σ H fun x H1 => ∃ a dx fs, x = .ref a ∧ H1 a = some (.ins C dx fs) ∧ sp (.ref a :: dvs) H1 Q E) := ⟨rd_prop⟩
instance i_rd_mkN  {C : Addr} {σ : L2.St} {H : Hp} {Q : XK} : RdC (tMkN C σ H Q) (Q (.ref C) none H) := ⟨rd_mkN⟩
instance i_rd_c {σ : L2.St} {H : Hp} {Q : VK} {v : V}  : RdC (tC v σ H Q) (Q v H) := ⟨rd_c⟩
instance i_rd_op {σ : L2.St} {H : Hp} {Q : VK} {ta tb : TE} {r : R2}  : RdC (tOp r ta tb σ H Q) (ta σ H fun x H1 => tb σ H1 fun y H2 => r x y H2 Q) := ⟨rd_op⟩
instance (priority := low) i_rd_un {σ : L2.St} {H : Hp} {Q : VK} {ta : TE} {r : V → Hp → VK → Prop} : RdC (tUn r ta σ H Q) (ta σ H fun x H1 => r x H1 Q) := ⟨rd_un⟩
instance i_rd_test {σ : L2.St} {H : Hp} {te : TE} {QB : Bool → Hp → Prop}  : RdC (tTest te σ H QB) (te σ H fun x H' => ∃ k, x = .bl k ∧ QB k H') := ⟨rd_test⟩
instance i_rd_tB {σ : L2.St} {H : Hp} {te : TE} {QB : Bool → Hp → Prop}  : RdC (tB te σ H QB) (te σ H fun x H' => ∃ k, x = .bl k ∧ QB k H') := ⟨rd_tB⟩
instance i_rd_and {σ : L2.St} {H : Hp} {tt tu : TT} {QB : Bool → Hp → Prop}  : RdC (tAnd tt tu σ H QB) (tt σ H fun c H1 => if c = true then tu σ H1 QB else QB false H1) := ⟨rd_and⟩
instance i_rd_or {σ : L2.St} {H : Hp} {tt tu : TT} {QB : Bool → Hp → Prop}  : RdC (tOr tt tu σ H QB) (tt σ H fun c H1 => if c = true then QB true H1 else tu σ H1 QB) := ⟨rd_or⟩
instance i_rd_not {σ : L2.St} {H : Hp} {tt : TT} {QB : Bool → Hp → Prop}  : RdC (tNot tt σ H QB) (tt σ H fun c H1 => QB (!c) H1) := ⟨rd_not⟩
instance i_rd_andV {σ : L2.St} {H : Hp} {Q : VK} {ta tb : TE}  : RdC (tAndV ta tb σ H Q) (ta σ H fun x H1 => ∃ c, x = .bl c ∧ if c = true then tb σ H1 Q else Q (.bl false) H1) := ⟨rd_andV⟩
instance i_rd_orV {σ : L2.St} {H : Hp} {Q : VK} {ta tb : TE}  : RdC (tOrV ta tb σ H Q) (ta σ H fun x H1 => ∃ c, x = .bl c ∧ if c = true then Q (.bl true) H1 else tb σ H1 Q) := ⟨rd_orV⟩
instance i_rd_notV {σ : L2.St} {H : Hp} {Q : VK} {ta : TE}  : RdC (tNotV ta σ H Q) (ta σ H fun x H1 => ∃ c, x = .bl c ∧ Q (.bl (!c)) H1) := ⟨rd_notV⟩
instance i_rd_if {σ : L2.St} {H : Hp} {Q : VK} {ta tb : TE} {tt : TT}  : RdC (tIf tt ta tb σ H Q) (tt σ H fun c H1 => if c = true then ta σ H1 Q else tb σ H1 Q) := ⟨rd_if⟩
instance i_rd_nil {σ : L2.St} {H : Hp} {QA : List V → Hp → Prop}  : RdC (tNil σ H QA) (QA [] H) := ⟨rd_nil⟩
instance i_rd_cons {σ : L2.St} {H : Hp} {ta : TE} {t : TA} {QA : List V → Hp → Prop}  : RdC (tCons ta t σ H QA) (ta σ H fun x H1 => t σ H1 fun xs H2 => QA (x :: xs) H2) := ⟨rd_cons⟩
instance i_rd_seq {σ : L2.St} {H : Hp} {s1 s2 : TS} {D : Ends}  : RdC (tSeq s1 s2 D σ H) (s1 { D with nx := s2 D } σ H) := ⟨rd_seq⟩
instance i_rd_next {σ : L2.St} {H : Hp} {D : Ends}  : RdC (tNext D σ H) (D.nx σ H) := ⟨rd_next⟩
instance i_rd_drop {σ : L2.St} {H : Hp} {te : TE} {D : Ends}  : RdC (tDrop te D σ H) (te σ H fun _ H1 => D.nx σ H1) := ⟨rd_drop⟩
instance i_rd_ret {σ : L2.St} {H : Hp} {te : TE} {D : Ends}  : RdC (tRet te D σ H) (te σ H D.rt) := ⟨rd_ret⟩
instance i_rd_retN {σ : L2.St} {H : Hp} {D : Ends}  : RdC (tRetN D σ H) (D.rt .non H) := ⟨rd_retN⟩
instance i_rd_ifS {σ : L2.St} {H : Hp} {tt : TT} {s1 s2 : TS} {D : Ends}  : RdC (tIfS tt s1 s2 D σ H) (tt σ H fun b H1 => if b = true then s1 D σ H1 else s2 D σ H1) := ⟨rd_ifS⟩
instance i_rd_asg {σ : L2.St} {H : Hp} {te : TE} {D : Ends} {g : TG}  : RdC (tAsg te g D σ H) (te σ H fun x H1 => g x σ H1 D.nx) := ⟨rd_asg⟩
instance i_rd_gname {σ : L2.St} {H : Hp} {i : Nat} {v : V} {K : L2.St → Hp → Prop} : RdC (gName i v σ H K) (K (σ.set i (some v)) H) := ⟨rd_gname⟩
instance i_rd_par {σ : L2.St} {H : Hp} {i : Nat} {t : TA} {D : Ends} {j : Nat} : RdC (tPar i j t D σ H) (t σ H fun vs H1 => ∃ v w, vs = [v, w] ∧ D.nx ((σ.set i (some v)).set j (some w)) H1) := ⟨rd_par⟩
instance i_rd_I0 {H : Hp} {Q : VK} {g : Int → Int → V} {i j : Int} : RdC (rI0 g (.int i) (.int j) H Q) (Q (g i j) H) := ⟨rd_I0⟩
instance i_rd_U {H : Hp} {Q : VK} {g : Int → V} {i : Int} : RdC (rU g (.int i) H Q) (Q (g i) H) := ⟨rd_U⟩
instance i_rd_cb {σ : L2.St} {H : Hp} {Q : VK} {t : TA} {r : List V → Hp → VK → Prop} : RdC (tCB r t σ H Q) (t σ H fun vs H1 => r vs H1 Q) := ⟨rd_cb⟩
instance i_rd_cl {σ : L2.St} {H : Hp} {Q : VK} {t : TA} {sp : Sp} {E : XK}  : RdC (tCl sp E t σ H Q) (t σ H fun vs H1 => sp vs H1 Q E) := ⟨rd_cl⟩
instance i_rd_methR {σ : L2.St} {H : Hp} {Q : VK} {ta : TE} {t : TA} {sp : Sp} {E : XK} {C : Addr} {m : Str}  : RdC (tMethR C m sp E ta t σ H Q) (ta σ H fun x H1 => ∃ a dx fs, x = .ref a ∧ H1 a = some (.ins C dx fs) ∧ fs.lookup m = none ∧ t σ H1 fun vs H2 => sp (x :: vs) H2 Q E) := ⟨rd_methR⟩
instance i_rd_makeR {σ : L2.St} {H : Hp} {Q : VK} {t : TA} {sp : Sp} {E : XK} {C : Addr}  : RdC (StX.tMakeR C sp E t σ H Q) (t σ H (MakeK C sp E Q)) := ⟨rd_makeR⟩
instance i_rd_callO {σ : L2.St} {H : Hp} {Q : VK} {tf : TE} {t : TA} {sp : Sp} {E : XK} {C : Addr}  : RdC (tCallI C sp E tf t σ H Q) (tf σ H fun y H1 => ∃ a, y = V.ref a ∧ t σ H1 fun vs H2 => (∃ dx fs, H2 a = some (.ins C dx fs)) ∧ sp (V.ref a :: vs) H2 Q E) := ⟨rd_callO⟩
instance i_rd_fld {K : PySem.W.Frag} {σ : L2.St} {H : Hp} {Q : VK} {ta : TE} {f : Str}  : RdC (tFld K ta f σ H Q) (ta σ H fun x H1 => ∃ a C dx fs v, x = .ref a ∧ H1 a = some (.ins C dx fs) ∧ Cls K C ∧ NoAttr K C f ∧ fs.lookup f = some v ∧ Q v H1) := ⟨rd_fld⟩
instance i_rd_sfld {K : PySem.W.Frag} {σ : L2.St} {H : Hp} {ta tv : TE} {D : Ends} {f : Str}  : RdC (sFld K ta tv f D σ H) (tv σ H fun y H1 => ta σ H1 fun x H2 => ∃ a C dx fs, x = .ref a ∧ H2 a = some (.ins C dx fs) ∧ Cls K C ∧ NoAttr K C f ∧ fs.length < 1000 ∧ D.nx σ (upd H2 a (.ins C dx (putF f y fs)))) := ⟨rd_sfld⟩
instance i_rd_gnil {σ : L2.St} {H : Hp} {QG : L2.St → Hp → Prop}  : RdC (gNil [] σ H QG) (QG σ H) := ⟨rd_gnil⟩
instance i_rd_gcons {σ : L2.St} {H : Hp} {v : V} {g : TG} {gs : TGs} {QG : L2.St → Hp → Prop} {vs : List V} : RdC (gCons g gs (v :: vs) σ H QG) (g v σ H fun σ' H' => gs vs σ' H' QG) := ⟨rd_gcons⟩
instance i_rd_for {σ : L2.St} {H : Hp} {tb1 : TS} {D : Ends} {g : TG} {wi : TI} : RdC (tFor wi g tb1 D σ H) (wi σ H (ForK g tb1 D σ)) := ⟨rd_for⟩
instance i_rd_iList {K : PySem.W.Frag} {σ : L2.St} {H : Hp} {ta : TE} {R : It → Hp → Prop} : RdC (iList K ta σ H R) (ta σ H fun x H1 => ∃ a, x = .ref a ∧ (∃ xs, SqL K H1 a xs) ∧ R (Itl K a) H1) := ⟨rd_iList⟩
instance i_rd_iTup {K : PySem.W.Frag} {σ : L2.St} {H : Hp} {ta : TE} {R : It → Hp → Prop} : RdC (iTup K ta σ H R) (ta σ H fun x H1 => ∃ a, x = .ref a ∧ (∃ xs, SqT K H1 a xs) ∧ R (Itt K a) H1) := ⟨rd_iTup⟩
instance i_rd_iRng1 {σ : L2.St} {H : Hp} {t : TA} {R : It → Hp → Prop} : RdC (iRng1 t σ H R) (t σ H fun vs H1 => ∃ j : Int, vs = [.int j] ∧ -(2 ^ 62) ≤ j ∧ j < 2 ^ 62 ∧ R (Itr 0 j.toNat) H1) := ⟨rd_iRng1⟩
instance i_rd_iRng2 {σ : L2.St} {H : Hp} {t : TA} {R : It → Hp → Prop} : RdC (iRng2 t σ H R) (t σ H fun vs H1 => ∃ i j : Int, vs = [.int i, .int j] ∧ (-(2 ^ 62) ≤ i ∧ i < 2 ^ 62 ∧ -(2 ^ 62) ≤ j ∧ j < 2 ^ 62) ∧ R (Itr i (j - i).toNat) H1) := ⟨rd_iRng2⟩
instance i_rd_makR  {C : Addr} {m : Nat} {sp : Sp} {E : XK} {tk : TA} {σ : L2.St} {H : Hp} {Q : VK} : RdC (tMakR C m sp E tk σ H Q) (tk σ H (MkRK C m sp E Q)) := ⟨rd_makR⟩
instance i_rd_lc {σ : L2.St} {H : Hp} {Q : VK} {wi : TI} {g : TG} {tt : TT} {te : TE} {vs : List Nat}  : RdC (tLc wi g tt te vs σ H Q) (wi σ H (LcK g tt te vs σ Q)) := ⟨rd_lc⟩
instance i_rd_yes {σ : L2.St} {H : Hp} {QB : Bool → Hp → Prop} : RdC (tYes σ H QB) (QB true H) := ⟨rd_yes⟩
instance i_rd_sl  {r : V → Option Int → Option Int → Hp → VK → Prop} {te : TE} {tl th : TO} {σ : L2.St} {H : Hp} {Q : VK} : RdC (L2.tSl r te tl th σ H Q) (te σ H fun x H1 => tl σ H1 fun l H2 => th σ H2 fun u H3 => r x l u H3 Q) := ⟨rd_sl⟩
instance i_rd_noPart  {σ : L2.St} {H : Hp} {Q : Option Int → Hp → Prop} : RdC (tNoPart σ H Q) (Q none H) := ⟨rd_noPart⟩
instance i_rd_part  {te : TE} {σ : L2.St} {H : Hp} {Q : Option Int → Hp → Prop} : RdC (tPart te σ H Q) (te σ H fun v H1 => ∃ i, v = .int i ∧ Q (some i) H1) := ⟨rd_part⟩
instance i_rd_iRngX  {ta : TA} {σ : L2.St} {H : Hp} {R : It → Hp → Prop} : RdC (iRngX ta σ H R) (ta σ H fun vs H1 => ∃ i j : Int, vs = [.int i, .int j] ∧ ((-(2 ^ 62) ≤ i ∧ i < 2 ^ 62 ∧ -(2 ^ 62) ≤ j ∧ j < 2 ^ 62) ∨ j ≤ i) ∧ R (Itr i (j - i).toNat) H1) := ⟨rd_iRngX⟩
instance i_rd_bm  {K : PySem.W.Frag} {T : String} {r : V → List V → Hp → VK → Prop} {to : TE} {t : TA} {σ : L2.St} {H : Hp} {Q : VK} : RdC (tBM K T r to t σ H Q) (to σ H fun x H1 => tyV K T x H1 ∧ t σ H1 fun xs H2 => r x xs H2 Q) := ⟨rd_bm⟩
instance i_rd_par3  {i j l : Nat} {t : TA} {D : Ends} {σ : L2.St} {H : Hp} : RdC (L2.tPar3 i j l t D σ H) (t σ H fun vs H1 => ∃ u v w, vs = [u, v, w] ∧ D.nx (((σ.set i (some u)).set j (some v)).set l (some w)) H1) := ⟨rd_par3⟩
instance i_rd_clK  {m : Nat} {q : List V → List V} {sp : Sp} {E : XK} {tk : TA} {σ : L2.St} {H : Hp} {Q : VK} : RdC (tClK m q sp E tk σ H Q) (tk σ H (ClKK m q sp E Q)) := ⟨rd_clK⟩
instance i_rd_callIK  {C : Addr} {m : Nat} {sp : Sp} {E : XK} {tf : TE} {tk : TA} {σ : L2.St} {H : Hp} {Q : VK} : RdC (tCallIK C m sp E tf tk σ H Q) (tf σ H fun y H1 => ∃ a, y = V.ref a ∧ tk σ H1 (CkK C a m sp E Q)) := ⟨rd_callIK⟩
instance i_rd_gsub  {to ti : TE} {t : TSet} {v : V} {σ : L2.St} {H : Hp} {Q : L2.St → Hp → Prop} : RdC (gSub to ti t v σ H Q) (to σ H fun o H1 => ti σ H1 fun i H2 => t o i v H2 fun H3 => Q σ H3) := ⟨rd_gsub⟩
instance i_rd_lstN {σ : L2.St} {H : Hp} {Q : VK} {t : TA}  : RdC (tLst t σ H Q) (t σ H (NewL Q)) := ⟨rd_lstN⟩
instance i_rd_tupN {σ : L2.St} {H : Hp} {Q : VK} {t : TA}  : RdC (tTup t σ H Q) (t σ H (NewT Q)) := ⟨rd_tupN⟩
instance i_rd_chain  {r r' : R2} {ta tb tc : TE} {σ : L2.St} {H : Hp} {Q : VK} : RdC (tChain r r' ta tb tc σ H Q) (ta σ H fun x H1 => tb σ H1 fun y H2 => r x y H2 (ChK r' tc σ y Q)) := ⟨rd_chain⟩
instance i_rd_revT  {K : PySem.W.Frag} {te : TE} {σ : L2.St} {H : Hp} {Q : VK} : RdC (tUn (rRevT K) te σ H Q) (te σ H fun x H1 => ∃ a xs, x = .ref a ∧ SqT K H1 a xs ∧ ∀ p, H1 p = none → Q (.ref p) (upd H1 p (.tup xs.reverse))) := ⟨rd_revT⟩
instance i_rd_revL  {K : PySem.W.Frag} {te : TE} {σ : L2.St} {H : Hp} {Q : VK} : RdC (tRevL K te σ H Q) (te σ H fun x H1 => ∃ a xs, x = .ref a ∧ SqL K H1 a xs ∧ ∀ p, H1 p = none → Q (.ref p) (upd H1 p (.lst xs.reverse))) := ⟨rd_revL⟩
instance i_rd_revS  {te : TE} {σ : L2.St} {H : Hp} {Q : VK} : RdC (tUn rRevS te σ H Q) (te σ H fun x H1 => ∃ z : Str, x = .str z ∧ z.length ≤ sizeLine ∧ Q (.str (revS z)) H1) := ⟨rd_revS⟩
instance i_rd_stepL  {K : PySem.W.Frag} {te : TE} {tp : TO} {σ : L2.St} {H : Hp} {Q : VK} : RdC (tStepL K te tp σ H Q) (te σ H fun x H1 => tp σ H1 fun o H2 => ∃ a xs, x = .ref a ∧ SqL K H2 a xs ∧ ((o = some 1 ∧ ∀ p, H2 p = none → Q (.ref p) (upd H2 p (.lst xs))) ∨ (o = some (-1) ∧ ∀ p, H2 p = none → Q (.ref p) (upd H2 p (.lst xs.reverse))))) := ⟨rd_stepL⟩
instance i_rd_fmt  {te : TE} {σ : L2.St} {H : Hp} {Q : VK} : RdC (tFmt te σ H Q) (te σ H (FmtK Q)) := ⟨rd_fmt⟩
instance i_rd_jsC  {t : TE} {ts : List TE} {acc : Str} {σ : L2.St} {H : Hp} {Q : Str → Hp → Prop} : RdC (tJs (t :: ts) acc σ H Q) (t σ H (JsK ts acc σ Q)) := ⟨rd_jsC⟩
instance i_rd_jsN  {acc : Str} {σ : L2.St} {H : Hp} {Q : Str → Hp → Prop} : RdC (tJs [] acc σ H Q) (Q acc H) := ⟨rd_jsN⟩
instance i_rd_dnew  {σ : L2.St} {H : Hp} {Q : VK} : RdC (tDNewK σ H Q) (NewD Q H) := ⟨rd_dnew⟩
instance i_rd_m1  {r : V → List V → Hp → VK → Prop} {to te : TE} {σ : L2.St} {H : Hp} {Q : VK} : RdC (tM1 r to te σ H Q) (to σ H fun x H1 => (∃ a, x = .str a) ∧ te σ H1 fun y H2 => r x [y] H2 Q) := ⟨rd_m1⟩
instance i_rd_iStr  {te : TE} {σ : L2.St} {H : Hp} {R : It → Hp → Prop} : RdC (iStr te σ H R) (te σ H fun v H1 => ∃ x, v = .str x ∧ R (Its x) H1) := ⟨rd_iStr⟩
instance i_rd_iEnum  {K : PySem.W.Frag} {ta : TA} {σ : L2.St} {H : Hp} {R : It → Hp → Prop} : RdC (iEnum K ta σ H R) (ta σ H fun vs H1 => ∃ a xs, vs = [.ref a] ∧ SqL K H1 a xs ∧ R (Ite K a) H1) := ⟨rd_iEnum⟩
instance i_rd_iZipA  {K : PySem.W.Frag} {ta : TA} {σ : L2.St} {H : Hp} {R : It → Hp → Prop} : RdC (RZ.iZipA K ta σ H R) (ta σ H fun vs H1 => ∃ a b xs ys, vs = [.ref a, .ref b] ∧ ((SqL K H1 a xs ∧ SqL K H1 b ys ∧ R (Itz K a b) H1) ∨ (SqT K H1 a xs ∧ SqT K H1 b ys ∧ R (RZ.ItzT K a b) H1))) := ⟨rd_iZipA⟩
instance i_rd_stat  {C : Addr} {sp : Sp} {E : XK} {ta : TE} {t : TA} {σ : L2.St} {H : Hp} {Q : VK} : RdC (tStat C sp E ta t σ H Q) (ta σ H fun x H1 => x = .ref C ∧ t σ H1 fun vs H2 => sp vs H2 Q E) := ⟨rd_stat⟩
instance i_rd_staK  {C : Addr} {m : Nat} {q : List V → List V} {sp : Sp} {E : XK} {ta : TE} {tk : TA} {σ : L2.St} {H : Hp} {Q : VK} : RdC (tStaK C m q sp E ta tk σ H Q) (ta σ H fun x H1 => x = .ref C ∧ tk σ H1 (ClKK m q sp E Q)) := ⟨rd_staK⟩
instance i_rd_cval  {K : PySem.W.Frag} {ta : TE} {f : Str} {σ : L2.St} {H : Hp} {Q : VK} : RdC (ClX.tCVal K ta f σ H Q) (ta σ H fun x H1 => ∃ C mc v u, x = .ref C ∧ ClX.CRead K C mc ∧ ClX.CVal K C mc f v u ∧ Q v H1) := ⟨rd_cval⟩
instance i_rd_mkE  {C : Addr} {names : List Str} {ta : TA} {σ : L2.St} {H : Hp} {Q : XK} : RdC (tMkO C (spErr C names) [] ta σ H Q) (ta σ H (MkEK C names Q)) := ⟨rd_mkE⟩
instance i_rd_raE  {t : L2.St → Hp → XK → Prop} {E : XK} {D : Ends} {σ : L2.St} {H : Hp} : RdC (tRaE t E D σ H) (t σ H E) := ⟨rd_raE⟩
instance i_rd_iZipS  {ta : TA} {σ : L2.St} {H : Hp} {R : It → Hp → Prop} : RdC (iZipS ta σ H R) (ta σ H fun vs H1 => ∃ a b : Str, vs = [.str a, .str b] ∧ R (ItzS a b) H1) := ⟨rd_iZipS⟩
end Hf
/-! classes of sizes: where the order of two places turns -/
namespace Hf
open PySem PySem.Spec PyProof.Rows L2
def atP (t : P3) (n : Int) : Int := t.1 * (n / 2) + t.2.1 + t.2.2 * (n % 2)
def subP (a b : P3) : P3 := (a.1 - b.1, a.2.1 - b.2.1, a.2.2 - b.2.2)
def sgI (x y : Int) : Int := (if y < x then 1 else 0) - (if x < y then 1 else 0)
def stp (g : P3) : Int := if 0 < g.1 then g.1 else 0 - g.1
def hig (g : P3) (p : Int) : Int := if 0 < g.1 then g.2.1 + g.2.2 * p else 0 - g.2.1 - g.2.2 * p
def tn0 (g : P3) (p : Int) : Int := -(hig g p / stp g)
def tn1 (g : P3) (p : Int) : Int := (0 - hig g p) / stp g + 1
/-- the sign of a rising row turns at two places -/
theorem turn_pos {s c h : Int} (hs : 0 < s) : sgI (s * h + c) 0 ≠ sgI (s * (h - 1) + c) 0 ↔ h = -(c / s) ∨ h = (0 - c) / s + 1 := by
  have e1 := Int.mul_ediv_add_emod c s
  have r0 := Int.emod_nonneg c (Int.ne_of_gt hs)
  have r1 := Int.emod_lt_of_pos c hs
  have e2 := Int.mul_ediv_add_emod (0 - c) s
  have q0 := Int.emod_nonneg (0 - c) (Int.ne_of_gt hs)
  have q1 := Int.emod_lt_of_pos (0 - c) hs
  generalize c / s = q at *
  generalize c % s = r at *
  generalize (0 - c) / s = u at *
  generalize (0 - c) % s = v at *
  have em : s * (h - 1) = s * h - s := by rw [Int.mul_sub, Int.mul_one]
  -- s * (q + u) = -(r + v), so q + u is 0 or -1
  have eu : s * (q + u) = 0 - (r + v) := by rw [Int.mul_add]; omega
  have hu : (q + u = 0 ∧ r = 0) ∨ (q + u = -1 ∧ 0 < r) := by
    rcases Int.lt_trichotomy (q + u) 0 with z | z | z
    · right
      have h2 : ¬ q + u ≤ -2 := fun y => by
        have := Int.mul_le_mul_of_nonneg_left y (Int.le_of_lt hs)
        rw [show s * (-2) = -(s + s) by omega] at this
        omega
      have e : q + u = -1 := by omega
      rw [e, show s * (-1) = -s by omega] at eu
      exact ⟨e, by omega⟩
    · left
      rw [z, Int.mul_zero] at eu
      exact ⟨z, by omega⟩
    · have := Int.mul_le_mul_of_nonneg_left (show 1 ≤ q + u by omega) (Int.le_of_lt hs)
      rw [Int.mul_one] at this
      omega
  have ek : s * (h + q) = s * h + s * q := Int.mul_add ..
  have e3 : s * h + c = s * (h + q) + r := by omega
  rw [em, show s * h - s + c = s * (h + q) + r - s by omega, e3]
  generalize hk : h + q = k at *
  have hq : h = k - q := by omega
  subst hq
  rcases Int.lt_trichotomy k 0 with z | z | z
  · have := Int.mul_le_mul_of_nonneg_left (show k ≤ -1 by omega) (Int.le_of_lt hs)
    rw [show s * (-1) = -s by omega] at this
    have a1 : sgI (s * k + r) 0 = -1 := by unfold sgI; rw [if_neg (by omega), if_pos (by omega)]; rfl
    have a2 : sgI (s * k + r - s) 0 = -1 := by unfold sgI; rw [if_neg (by omega), if_pos (by omega)]; rfl
    rw [a1, a2]
    constructor
    · intro y; exact absurd rfl y
    · intro y; omega
  · subst z
    rw [Int.mul_zero]
    have a2 : sgI (0 + r - s) 0 = -1 := by unfold sgI; rw [if_neg (by omega), if_pos (by omega)]; rfl
    have a1 : sgI (0 + r) 0 ≠ -1 := by unfold sgI; rw [if_neg (show ¬ 0 + r < 0 by omega)]; split <;> decide
    rw [a2]
    constructor
    · intro _; left; omega
    · intro _; exact a1
  · by_cases k1 : k = 1
    · subst k1
      rw [Int.mul_one]
      have a1 : sgI (s + r) 0 = 1 := by unfold sgI; rw [if_pos (by omega), if_neg (by omega)]; rfl
      rw [a1, show s + r - s = r by omega]
      by_cases r0' : r = 0
      · subst r0'
        constructor
        · intro _; right; omega
        · intro _; decide
      · have a2 : sgI r 0 = 1 := by unfold sgI; rw [if_pos (by omega), if_neg (by omega)]; rfl
        rw [a2]
        constructor
        · intro y; exact absurd rfl y
        · intro y; omega
    · have := Int.mul_le_mul_of_nonneg_left (show 2 ≤ k by omega) (Int.le_of_lt hs)
      rw [show s * 2 = s + s by omega] at this
      have a1 : sgI (s * k + r) 0 = 1 := by unfold sgI; rw [if_pos (by omega), if_neg (by omega)]; rfl
      have a2 : sgI (s * k + r - s) 0 = 1 := by unfold sgI; rw [if_pos (by omega), if_neg (by omega)]; rfl
      rw [a1, a2]
      constructor
      · intro y; exact absurd rfl y
      · intro y; omega
theorem sgI_neg {x : Int} : sgI (0 - x) 0 = 0 - sgI x 0 := by
  unfold sgI
  by_cases h1 : 0 < x
  · rw [if_neg (by omega), if_pos (by omega), if_pos h1, if_neg (by omega)]; rfl
  · by_cases h2 : x < 0
    · rw [if_pos (by omega), if_neg (by omega), if_neg h1, if_pos h2]; rfl
    · rw [if_neg (by omega), if_neg (by omega), if_neg h1, if_neg h2]; rfl
theorem turn_any {g : P3} {p h : Int} : sgI (g.1 * h + (g.2.1 + g.2.2 * p)) 0 ≠ sgI (g.1 * (h - 1) + (g.2.1 + g.2.2 * p)) 0 ↔ g.1 ≠ 0 ∧ (h = tn0 g p ∨ h = tn1 g p) := by
  unfold tn0 tn1 stp hig
  rcases Int.lt_trichotomy g.1 0 with z | z | z
  · rw [if_neg (by omega), if_neg (by omega)]
    have := turn_pos (s := 0 - g.1) (c := 0 - g.2.1 - g.2.2 * p) (h := h) (by omega)
    rw [show (0 - g.1) * h + (0 - g.2.1 - g.2.2 * p) = 0 - (g.1 * h + (g.2.1 + g.2.2 * p)) by rw [Int.sub_mul, Int.zero_mul]; omega,
      show (0 - g.1) * (h - 1) + (0 - g.2.1 - g.2.2 * p) = 0 - (g.1 * (h - 1) + (g.2.1 + g.2.2 * p)) by rw [Int.sub_mul, Int.zero_mul]; omega, sgI_neg, sgI_neg] at this
    rw [← this]
    constructor
    · intro y; exact ⟨by omega, fun e => y (by omega)⟩
    · rintro ⟨_, y⟩ e; exact y (by rw [e])
  · rw [z, Int.zero_mul, Int.zero_mul]
    constructor
    · intro y; exact absurd rfl y
    · rintro ⟨y, _⟩; exact absurd rfl y
  · rw [if_pos z, if_pos z]
    have := turn_pos (s := g.1) (c := g.2.1 + g.2.2 * p) (h := h) z
    rw [this]
    constructor
    · intro y; exact ⟨by omega, y⟩
    · exact fun y => y.2
theorem sgI_sub {x y : Int} : sgI x y = sgI (x - y) 0 := by
  unfold sgI
  split <;> split <;> split <;> split <;> first | rfl | omega
/-- p is the parity -/
def Par (p : Int) : Prop := p = 0 ∨ p = 1
theorem atP_sub {a b : P3} {p h : Int} (hp : Par p) : atP a (2 * h + p) - atP b (2 * h + p) = (subP a b).1 * h + ((subP a b).2.1 + (subP a b).2.2 * p) := by
  have e1 : (2 * h + p) / 2 = h := by rcases hp with rfl | rfl <;> omega
  have e2 : (2 * h + p) % 2 = p := by rcases hp with rfl | rfl <;> omega
  unfold atP subP
  rw [e1, e2]
  simp only [Int.sub_mul]
  omega
theorem turn_pl {a b : P3} {p h : Int} (hp : Par p) : sgI (atP a (2 * h + p)) (atP b (2 * h + p)) ≠ sgI (atP a (2 * h + p - 2)) (atP b (2 * h + p - 2)) ↔ (subP a b).1 ≠ 0 ∧ (h = tn0 (subP a b) p ∨ h = tn1 (subP a b) p) := by
  rw [sgI_sub, sgI_sub (x := atP a (2 * h + p - 2)), atP_sub hp, show 2 * h + p - 2 = 2 * (h - 1) + p by omega, atP_sub hp, turn_any]
/-! ### rows of sizes -/
def sgM (L : List P3) (n : Int) : List (List Int) := L.map fun a => L.map fun b => sgI (atP a n) (atP b n)
/-- h is a size's half at which two of the places turn -/
def TurnAt (L : List P3) (p h : Int) : Prop := ∃ (i j : Nat) (a b : P3), i < j ∧ L[i]? = some a ∧ L[j]? = some b ∧ (subP a b).1 ≠ 0 ∧ (h = tn0 (subP a b) p ∨ h = tn1 (subP a b) p)
theorem map_ne {α β : Type} {f g : α → β} : ∀ {L : List α}, L.map f ≠ L.map g ↔ ∃ a ∈ L, f a ≠ g a
  | [] => ⟨fun h => absurd rfl h, fun ⟨_, h, _⟩ => by cases h⟩
  | x :: L => by
    rw [List.map_cons, List.map_cons]
    constructor
    · intro h
      by_cases e : f x = g x
      · obtain ⟨a, ha, n⟩ := (map_ne (L := L)).mp fun z => h (by rw [e, z])
        exact ⟨a, List.mem_cons_of_mem _ ha, n⟩
      · exact ⟨x, List.mem_cons_self, e⟩
    · rintro ⟨a, ha, n⟩ z
      injection z with z1 z2
      rcases List.mem_cons.mp ha with rfl | ha
      · exact n z1
      · exact (map_ne (L := L)).mpr ⟨a, ha, n⟩ z2
theorem sgI_swap {x y : Int} : sgI y x = 0 - sgI x y := by unfold sgI; omega
theorem chg_iff {L : List P3} {p h : Int} (hp : Par p) : sgM L (2 * h + p) ≠ sgM L (2 * h + p - 2) ↔ TurnAt L p h := by
  unfold sgM
  rw [map_ne]
  constructor
  · rintro ⟨a, ha, h1⟩
    obtain ⟨b, hb, h2⟩ := map_ne.mp h1
    obtain ⟨i, hi⟩ := List.getElem?_of_mem ha
    obtain ⟨j, hj⟩ := List.getElem?_of_mem hb
    rcases Nat.lt_trichotomy i j with z | z | z
    · exact ⟨i, j, a, b, z, hi, hj, (turn_pl hp).mp h2⟩
    · subst z
      rw [hi] at hj
      cases hj
      exact absurd (by rw [sgI_sub, sgI_sub (x := atP a (2 * h + p - 2)), Int.sub_self, Int.sub_self]) h2
    · refine ⟨j, i, b, a, z, hj, hi, (turn_pl hp).mp fun e => h2 ?_⟩
      rw [sgI_swap, sgI_swap (x := atP b (2 * h + p - 2)), e]
  · rintro ⟨i, j, a, b, _, hi, hj, t⟩
    exact ⟨a, List.mem_of_getElem? hi, map_ne.mpr ⟨b, List.mem_of_getElem? hj, (turn_pl hp).mpr t⟩⟩
/-- the least sizes of the rows of one parity -/
structure IsLows (L : List P3) (p : Int) (lows : List Int) : Prop where
  up : lows.Pairwise (· < ·)
  hd : lows.head? = some (2 - p)
  at_ : ∀ n, n ∈ lows ↔ n = 2 - p ∨ ∃ h, 1 - p < h ∧ n = 2 * h + p ∧ TurnAt L p h
def rowsOf : List Int → List (Int × V)
  | [] => []
  | [a] => [(a, .non)]
  | a :: b :: r => (a, .int (b - 2)) :: rowsOf (b :: r)
theorem rowsOf_fst : ∀ ls : List Int, (rowsOf ls).map (·.1) = ls
  | [] => rfl
  | [a] => rfl
  | a :: b :: r => by rw [rowsOf, List.map_cons, rowsOf_fst (b :: r)]
theorem rowsOf_len (ls : List Int) : (rowsOf ls).length = ls.length := by
  have := congrArg List.length (rowsOf_fst ls)
  rwa [List.length_map] at this
theorem rowsOf_snoc : ∀ (ls : List Int) (a b : Int), rowsOf (ls ++ [a, b]) = (rowsOf (ls ++ [a])).dropLast ++ [(a, .int (b - 2)), (b, .non)]
  | [], a, b => rfl
  | [x], a, b => rfl
  | x :: y :: r, a, b => by
    have := rowsOf_snoc (y :: r) a b
    rw [List.cons_append, List.cons_append] at this
    rw [List.cons_append, List.cons_append, rowsOf, this, List.cons_append, List.cons_append, rowsOf]
    have hne : rowsOf (y :: (r ++ [a])) ≠ [] := by
      intro z
      have := rowsOf_len (y :: (r ++ [a]))
      rw [z] at this
      cases this
    rw [List.dropLast_cons_of_ne_nil hne]
    rfl
/-- sorted by a key, with the same members -/
theorem sorted_ext {α : Type} {k : α → Int} : ∀ {l m : List α}, l.Pairwise (fun a b => k a < k b) → m.Pairwise (fun a b => k a < k b) → (∀ x, x ∈ l ↔ x ∈ m) → l = m
  | [], [], _, _, _ => rfl
  | [], b :: m, _, _, h => absurd ((h b).mpr List.mem_cons_self) (by simp)
  | a :: l, [], _, _, h => absurd ((h a).mp List.mem_cons_self) (by simp)
  | a :: l, b :: m, pl, pm, h => by
    have pl' := List.pairwise_cons.mp pl
    have pm' := List.pairwise_cons.mp pm
    have e : a = b := by
      rcases List.mem_cons.mp ((h a).mp List.mem_cons_self) with z | z
      · exact z
      · rcases List.mem_cons.mp ((h b).mpr List.mem_cons_self) with y | y
        · exact y.symm
        · have := pm'.1 a z
          have := pl'.1 b y
          omega
    subst e
    have hh : ∀ x, x ∈ l ↔ x ∈ m := fun x => by
      constructor
      · intro hx
        rcases List.mem_cons.mp ((h x).mp (List.mem_cons_of_mem _ hx)) with z | z
        · subst z
          exact absurd (pl'.1 x hx) (by omega)
        · exact z
      · intro hx
        rcases List.mem_cons.mp ((h x).mpr (List.mem_cons_of_mem _ hx)) with z | z
        · subst z
          exact absurd (pm'.1 x hx) (by omega)
        · exact z
    rw [sorted_ext pl'.2 pm'.2 hh]
theorem IsLows.uniq {L : List P3} {p : Int} {a b : List Int} (h1 : IsLows L p a) (h2 : IsLows L p b) : a = b := sorted_ext (k := id) h1.up h2.up fun n => (h1.at_ n).trans (h2.at_ n).symm
/-- the rows of all sizes, ascending -/
def IsCls (L : List P3) (l : List (Int × V)) : Prop := l.Pairwise (fun a b => a.1 < b.1) ∧ ∃ lo le, IsLows L 1 lo ∧ IsLows L 0 le ∧ ∀ r, r ∈ l ↔ r ∈ rowsOf lo ∨ r ∈ rowsOf le
theorem IsCls.uniq {L : List P3} {a b : List (Int × V)} (h1 : IsCls L a) (h2 : IsCls L b) : a = b := by
  obtain ⟨p1, lo, le, x1, x2, m1⟩ := h1
  obtain ⟨p2, lo', le', y1, y2, m2⟩ := h2
  cases x1.uniq y1
  cases x2.uniq y2
  exact sorted_ext (k := (·.1)) p1 p2 fun r => (m1 r).trans (m2 r).symm
/-- each size is in a row -/
theorem rowsOf_cover {p n : Int} (hn : n % 2 = p) : ∀ {ls : List Int} {a : Int}, ls.head? = some a → ls.Pairwise (· < ·) → (∀ x ∈ ls, x % 2 = p) → a ≤ n → ∃ r ∈ rowsOf ls, szIn r.1 r.2 n = true
  | [], a, h, _, _, _ => by cases h
  | [x], a, h, _, hp, ha => by
    cases h
    have e := hp x List.mem_cons_self
    refine ⟨(x, .non), List.mem_cons_self, ?_⟩
    unfold szIn
    rw [decide_eq_true ha, decide_eq_true (by omega)]
    rfl
  | x :: y :: r, a, h, pw, hp, ha => by
    cases h
    have e := hp x List.mem_cons_self
    have e2 := hp y (List.mem_cons_of_mem _ List.mem_cons_self)
    by_cases hy : y ≤ n
    · obtain ⟨q, hq, hs⟩ := rowsOf_cover hn (ls := y :: r) (a := y) rfl (List.pairwise_cons.mp pw).2 (fun z hz => hp z (List.mem_cons_of_mem _ hz)) hy
      exact ⟨q, by rw [rowsOf]; exact List.mem_cons_of_mem _ hq, hs⟩
    · refine ⟨(x, .int (y - 2)), by rw [rowsOf]; exact List.mem_cons_self, ?_⟩
      unfold szIn
      rw [decide_eq_true ha, decide_eq_true (by omega)]
      show decide (n ≤ y - 2) = true
      exact decide_eq_true (by omega)
theorem IsLows.par {L : List P3} {p : Int} {ls : List Int} (hp : Par p) (h : IsLows L p ls) : ∀ x ∈ ls, x % 2 = p := fun x hx => by
  rcases (h.at_ x).mp hx with e | ⟨k, _, e, _⟩
  · rcases hp with rfl | rfl <;> omega
  · rcases hp with rfl | rfl <;> omega
theorem IsCls.cover {L : List P3} {l : List (Int × V)} (h : IsCls L l) {n : Int} (hn : 1 ≤ n) : ∃ r ∈ l, szIn r.1 r.2 n = true := by
  obtain ⟨_, lo, le, x1, x2, m⟩ := h
  by_cases e : n % 2 = 1
  · obtain ⟨r, hr, hs⟩ := rowsOf_cover e (ls := lo) x1.hd x1.up (x1.par (.inr rfl)) (by omega)
    exact ⟨r, (m r).mpr (.inl hr), hs⟩
  · have e0 : n % 2 = 0 := by omega
    have n2 : (2 - 0 : Int) ≤ n := by omega
    obtain ⟨r, hr, hs⟩ := rowsOf_cover (p := 0) e0 (ls := le) x2.hd x2.up (x2.par (.inl rfl)) n2
    exact ⟨r, (m r).mpr (.inr hr), hs⟩
end Hf
/-! set(xs) of a list of whole numbers -/
/-! sorted(xs, key=lambda a: int(a[0])), xs a list of tuples that begin with a whole number -/
/-! Covers: what the program looks at and what the law goes through are one -/
namespace Cov
abbrev T3 := Int × Int × Int
abbrev Rw3 := Int × Option Int
def pv (p : T3) (s : Int) : Int := p.1 * (s / 2) + p.2.1 + p.2.2 * (s % 2)
def sub (p q : T3) : T3 := (p.1 - q.1, p.2.1 - q.2.1, p.2.2 - q.2.2)
def rowWf (r : Rw3) : Bool := match r with
  | (l, none) => decide (1 ≤ l)
  | (l, some h) => decide (1 ≤ l) && (decide (l ≤ h) && decide ((h - l) % 2 = 0))
def sgn (x : Int) : Int := (if 0 < x then 1 else 0) - (if x < 0 then 1 else 0)
/-- the last size of a row that the law looks at -/
def upTo (r : Rw3) : Int := match r.2 with
  | some h => if h < 120 then h else 120
  | none => 120
def sizes (r : Rw3) : List Int := (List.range ((upTo r - r.1) / 2 + 1).toNat).map fun k : Nat => r.1 + 2 * (k : Int)
def flat (rs : List Rw3) : List Int := rs.flatMap sizes
def Good (r : Rw3) : Prop := rowWf r = true ∧ r.1 ≤ 100 ∧ ∀ h, r.2 = some h → h ≤ 100
theorem Good.hi {l h : Int} (g : Good (l, some h)) : l ≤ h ∧ (h - l) % 2 = 0 ∧ h ≤ 100 := by
  obtain ⟨g, _, k⟩ := g
  simp [rowWf] at g
  exact ⟨g.2.1, g.2.2, k h rfl⟩
theorem Good.up {r : Rw3} (g : Good r) : r.1 ≤ upTo r ∧ upTo r ≤ 120 := by
  have g1 := g.2.1
  obtain ⟨l, h⟩ := r
  cases h with
  | none => exact ⟨by show l ≤ 120; have : l ≤ 100 := g1; omega, by show (120 : Int) ≤ 120; omega⟩
  | some h =>
    have := g.hi
    have e : upTo (l, some h) = h := by
      show (if h < 120 then h else 120) = h
      rw [if_pos (by omega)]
    rw [e]
    exact ⟨this.1, by omega⟩
/-! ### a chain tells all sizes once -/
/-! ### pigeons -/
/-! ### the parities -/
def par (p : Int) (rs : List Rw3) : List Rw3 := rs.filter fun r => decide ((r.1 - p) % 2 = 0)
/-! ### orders -/
/-- two rows of values stand alike -/
def Alike (vs ws : List Int) : Prop := ∀ (i j : Nat) (a b c d : Int), vs[i]? = some a → vs[j]? = some b → ws[i]? = some c → ws[j]? = some d → (a < b ↔ c < d)
/-! ### the places' values -/
/-! ### the law -/
def NearP (p : T3) : Prop := -9 ≤ p.2.1 ∧ p.2.1 ≤ 9 ∧ -1 ≤ p.2.2 ∧ p.2.2 ≤ 1
def vals (ps : List T3) (s : Int) : List Int := ps.map fun p => pv p s
end Cov
namespace Hf
open PySem PySem.Spec PyProof.Rows L2
/-! ### a comprehension with two fors -/
/-! ### rows of sizes, places as three integers -/
open Cov
def hv : Option Int → V
  | none => .non
  | some h => .int h
def Atom (x : V) : Prop := x = .non ∨ (∃ i, x = .int i) ∨ (∃ s, x = .str s ∧ PyData.strOk s = true) ∨ ∃ b, x = .bl b
def rowOf : List V → Option Rw3
  | [.int l, .non] => some (l, none)
  | [.int l, .int h] => some (l, some h)
  | _ => none
def RowAt (H : Hp) (t : Addr) (r : Rw3) : Prop := H t = some (.tup [.int r.1, hv r.2])
/-- an item of rows: a row, or another value -/
inductive RIt (H : Hp) : V → Option Rw3 → Prop
  | non : RIt H .non none
  | lst {a : Addr} {xs : List V} (h : H a = some (.lst xs)) (ha : ∀ x ∈ xs, Atom x) : RIt H (.ref a) none
  | tup {a : Addr} {xs : List V} (h : H a = some (.tup xs)) (ha : ∀ x ∈ xs, Atom x) : RIt H (.ref a) (rowOf xs)
theorem RIt.imp {H H' : Hp} {v : V} {o : Option Rw3} (h : RIt H v o) (e : ∀ a u, v = .ref a → H a = some u → (∀ ps, u ≠ .tbl ps) → H' a = some u) : RIt H' v o := by
  cases h with
  | non => exact .non
  | lst h ha => exact .lst (e _ _ rfl h fun ps z => by cases z) ha
  | tup h ha => exact .tup (e _ _ rfl h fun ps z => by cases z) ha
theorem RIt.same {H H' : Hp} {v : V} {o : Option Rw3} (h : RIt H v o) (e : Same H H') : RIt H' v o := h.imp fun a u _ q _ => e _ _ q
theorem RIt.extN {H H' : Hp} {v : V} {o : Option Rw3} (h : RIt H v o) (e : LamX.ExtN H H') : RIt H' v o := h.imp fun a u _ q n => e _ _ q n
theorem RIt.kn {b : Addr} {H H' : Hp} {v : V} {o : Option Rw3} (h : RIt H v o) (e : KN b H H') (n : v ≠ .ref b) : RIt H' v o := h.imp fun a u z q y => e _ _ q y fun w => n (by rw [z, w])
theorem RIt.keep {b : Addr} {H H' : Hp} {v : V} {o : Option Rw3} (h : RIt H v o) (e : Keep b H H') (n : v ≠ .ref b) : RIt H' v o := h.kn (KN.of e) n
/-- the bounds of what is handed -/
def Bdd (o : Option Rw3) : Prop := ∀ r, o = some r → r.1 ≤ 100 ∧ ∀ h, r.2 = some h → h ≤ 100
/-! ### promises -/
def SqA (H : Hp) (a : Addr) (xs : List V) : Prop := H a = some (.lst xs) ∨ H a = some (.tup xs)
theorem SqA.same {H H' : Hp} {a : Addr} {xs : List V} (h : SqA H a xs) (e : Same H H') : SqA H' a xs := h.imp (fun h => e _ _ h) fun h => e _ _ h
theorem SqA.extN {H H' : Hp} {a : Addr} {xs : List V} (h : SqA H a xs) (e : LamX.ExtN H H') : SqA H' a xs := h.imp (fun h => e _ _ h fun ps z => by cases z) fun h => e _ _ h fun ps z => by cases z
theorem RowAt.same {H H' : Hp} {a : Addr} {r : Rw3} (h : RowAt H a r) (e : Same H H') : RowAt H' a r := e _ _ h
theorem RowAt.extN {H H' : Hp} {a : Addr} {r : Rw3} (h : RowAt H a r) (e : LamX.ExtN H H') : RowAt H' a r := e _ _ h fun ps z => by cases z
/-- the law's own places: tuples of three -/
def PtAt (H : Hp) (t : Addr) (p : T3) : Prop := H t = some (.tup [.int p.1, .int p.2.1, .int p.2.2])
theorem PtAt.same {H H' : Hp} {a : Addr} {r : T3} (h : PtAt H a r) (e : Same H H') : PtAt H' a r := e _ _ h
def Nr (p : T3) : Prop := Cov.NearP p ∧ p.1.natAbs ≤ 4
def PtsAt (H : Hp) (l : Addr) (ps : List T3) : Prop := ∃ ts : List Addr, H l = some (.lst (ts.map V.ref)) ∧ F2 (PtAt H) ts ps ∧ ts.length ≤ 20 ∧ ∀ p ∈ ps, Nr p
/-- a row within bounds -/
def RowV (B : Int) (H : Hp) (v : V) : Prop := ∃ (t : Addr) (r : Rw3), v = .ref t ∧ RowAt H t r ∧ 1 ≤ r.1 ∧ r.1 ≤ B ∧ ∀ h, r.2 = some h → 1 ≤ h ∧ h ≤ B
theorem RowV.same {B : Int} {H H' : Hp} {v : V} (h : RowV B H v) (e : Same H H') : RowV B H' v := let ⟨t, r, a, b, c⟩ := h; ⟨t, r, a, b.same e, c⟩
theorem RowV.keep {B : Int} {b : Addr} {H H' : Hp} {v : V} (h : RowV B H v) (e : Keep b H H') (n : v ≠ .ref b) : RowV B H' v := let ⟨t, r, a, q, c⟩ := h; ⟨t, r, a, e _ _ q fun z => n (by rw [a, z]), c⟩
end Hf
namespace Hf
open PySem PySem.Spec PyProof.Rows L2
open Cov
/-! ### items of rows as data -/
section
variable {K : PySem.W.Frag} {H : Hp}
theorem dp_atom {x : V} (h : Atom x) : ∃ d : PyData, Dp K H x d ∧ d.canLay0 = true ∧ d.depth = 0 := by
  rcases h with rfl | ⟨i, rfl⟩ | ⟨s, rfl, hs⟩ | ⟨b, rfl⟩
  · exact ⟨_, .non, by simp [PyData.canLay0], by simp [PyData.depth]⟩
  · exact ⟨_, .int i, by simp [PyData.canLay0], by simp [PyData.depth]⟩
  · exact ⟨_, .str s, by simpa [PyData.canLay0] using hs, by simp [PyData.depth]⟩
  · exact ⟨_, .bl b, by simp [PyData.canLay0], by simp [PyData.depth]⟩
theorem dp_atoms : ∀ {xs : List V}, (∀ x ∈ xs, Atom x) → ∃ ds : List PyData, DpAll K H xs ds ∧ PyData.canLayAll0 ds = true ∧ PyData.depthAll ds = 0
  | [], _ => ⟨[], .nil, by simp [PyData.canLayAll0], by simp [PyData.depthAll]⟩
  | x :: xs, h => by
    obtain ⟨d, q1, q2, q3⟩ := dp_atom (K := K) (H := H) (h x List.mem_cons_self)
    obtain ⟨ds, p1, p2, p3⟩ := dp_atoms fun y hy => h y (List.mem_cons_of_mem _ hy)
    refine ⟨d :: ds, .cons q1 p1, ?_, ?_⟩
    · simp only [PyData.canLayAll0, q2, p2, Bool.and_self]
    · simp only [PyData.depthAll, q3, p3]
      rfl
theorem dp_it {v : V} {o : Option Rw3} (h : RIt H v o) : ∃ d : PyData, Dp K H v d ∧ d.canLay0 = true ∧ d.depth ≤ 1 := by
  cases h with
  | non => exact ⟨_, .non, by simp [PyData.canLay0], by simp [PyData.depth]⟩
  | lst h ha =>
    obtain ⟨ds, p1, p2, p3⟩ := dp_atoms (K := K) (H := H) ha
    exact ⟨_, .lst (SqL.of h) p1, by simp only [PyData.canLay0]; exact p2, by simp only [PyData.depth]; omega⟩
  | tup h ha =>
    obtain ⟨ds, p1, p2, p3⟩ := dp_atoms (K := K) (H := H) ha
    exact ⟨_, .tup (SqT.of h) p1, by simp only [PyData.canLay0]; exact p2, by simp only [PyData.depth]; omega⟩
theorem dp_its : ∀ {xs : List V}, (∀ x ∈ xs, ∃ o, RIt H x o) → ∃ ds : List PyData, DpAll K H xs ds ∧ PyData.canLayAll0 ds = true ∧ PyData.depthAll ds ≤ 1 ∧ ds.length = xs.length
  | [], _ => ⟨[], .nil, by simp [PyData.canLayAll0], by simp [PyData.depthAll], rfl⟩
  | x :: xs, h => by
    obtain ⟨o, ho⟩ := h x List.mem_cons_self
    obtain ⟨d, q1, q2, q3⟩ := dp_it (K := K) ho
    obtain ⟨ds, p1, p2, p3, p4⟩ := dp_its fun y hy => h y (List.mem_cons_of_mem _ hy)
    refine ⟨d :: ds, .cons q1 p1, ?_, ?_, by rw [List.length_cons, List.length_cons, p4]⟩
    · simp only [PyData.canLayAll0, q2, p2, Bool.and_self]
    · simp only [PyData.depthAll]
      omega
theorem shp_its {ds : List PyData} (h : PyData.canLayAll0 ds = true) (hd : PyData.depthAll ds ≤ 8) : SeqAt.shaped (.list ds) = true ∧ SeqAt.shaped (.tuple ds) = true := by
  constructor <;>
  · simp only [SeqAt.shaped, PyData.canLay0, PyData.depth, Bool.and_eq_true, decide_eq_true_eq]
    exact ⟨h, decide_eq_true (by omega)⟩
theorem eqv_nilL {ds : List PyData} : PyData.eqv (.list ds) (.list []) = decide (ds = []) := by
  cases ds <;> simp [PyData.eqv, PyData.eqvAll]
variable {Q : VK}
/-- xs != [] -/
theorem use_neNilI {l u : Addr} {xs : List V} (hl : H l = some (.lst xs)) (hx : ∀ x ∈ xs, ∃ o, RIt H x o) (hu : H u = some (.lst [])) (k : Q (.bl (!decide (xs = []))) H) : rNeD K (.ref l) (.ref u) H Q := by
  obtain ⟨ds, p1, p2, p3, p4⟩ := dp_its (K := K) hx
  refine use_neD (.lst (SqL.of hl) p1) (.lst (SqL.of hu) .nil) (shp_its p2 (by omega)).1 (by decide +kernel) ?_
  rw [eqv_nilL, show decide (ds = []) = decide (xs = []) from by
    rw [decide_eq_decide]
    constructor
    · rintro rfl; exact List.length_eq_zero_iff.mp p4.symm
    · rintro rfl; exact List.length_eq_zero_iff.mp p4]
  exact k
end
end Hf
/-! What the law has gone through so far -/
namespace Cov
theorem flat_append (a b : List Rw3) : flat (a ++ b) = flat a ++ flat b := by unfold flat; rw [List.flatMap_append]
def cur (rs : List Rw3) (i j : Nat) : List Int := match rs[i]? with
  | some r => (sizes r).take j
  | none => []
theorem cur_of {rs : List Rw3} {i j : Nat} {r : Rw3} (h : rs[i]? = some r) : cur rs i j = (sizes r).take j := by unfold cur; rw [h]
theorem cur_zero {rs : List Rw3} {i : Nat} : cur rs i 0 = [] := by unfold cur; split <;> simp
structure Gone (ps : List T3) (rs : List Rw3) (i j : Nat) (ks : List Int) : Prop where
  keys : ks = flat (rs.take i) ++ cur rs i j
  nd : ks.Nodup
  old : ∀ r ∈ rs.take i, ∀ s ∈ sizes r, Alike (vals ps s) (vals ps r.1)
  new : ∀ r, rs[i]? = some r → ∀ s ∈ (sizes r).take j, Alike (vals ps s) (vals ps r.1)
theorem Gone.start {ps : List T3} {rs : List Rw3} : Gone ps rs 0 0 [] := ⟨by rw [cur_zero]; rfl, List.nodup_nil, fun r h => by simp at h, fun r _ s h => by simp at h⟩
variable {ps : List T3} {rs : List Rw3} {i j : Nat} {ks : List Int} {r : Rw3} {s : Int}
theorem take_next {α : Type} {l : List α} {j : Nat} {x : α} (h : l[j]? = some x) : l.take (j + 1) = l.take j ++ [x] := by
  rw [List.take_add_one, h]
  rfl
theorem Gone.step (g : Gone ps rs i j ks) (hr : rs[i]? = some r) (hs : (sizes r)[j]? = some s) (hn : s ∉ ks) (al : Alike (vals ps s) (vals ps r.1)) : Gone ps rs i (j + 1) (ks ++ [s]) := by
  refine ⟨?_, ?_, g.old, fun r' hr' s' hs' => ?_⟩
  · rw [g.keys, cur_of hr, cur_of hr, take_next hs, List.append_assoc]
  · rw [List.nodup_append]
    exact ⟨g.nd, by simp, fun a ha b hb => by rw [List.mem_singleton.mp hb]; rintro rfl; exact hn ha⟩
  · obtain rfl : r' = r := Option.some.inj (hr'.symm.trans hr)
    rw [take_next hs, List.mem_append, List.mem_singleton] at hs'
    rcases hs' with h | rfl
    · exact g.new _ hr _ h
    · exact al
theorem Gone.next (g : Gone ps rs i j ks) (hr : rs[i]? = some r) (hj : (sizes r).length ≤ j) : Gone ps rs (i + 1) 0 ks := by
  have e : (sizes r).take j = sizes r := List.take_of_length_le hj
  refine ⟨?_, g.nd, fun r' hr' s' hs' => ?_, fun r' _ s' h => by simp at h⟩
  · rw [cur_zero, List.append_nil, take_next hr, flat_append, g.keys, cur_of hr, e]
    congr 1
    unfold flat
    simp
  · rw [take_next hr, List.mem_append, List.mem_singleton] at hr'
    rcases hr' with h | rfl
    · exact g.old _ h _ hs'
    · exact g.new _ hr _ (by rw [e]; exact hs')
end Cov
namespace Cov
end Cov
namespace Hf
open PySem PySem.Spec PyProof.Rows L2
open Cov
end Hf
namespace Hf
open PySem PySem.Spec PyProof.Rows L2
open Cov
/-! ### going through a list or a tuple -/
def PT (C : Addr) (H : Hp) (g : Addr) (t : T3) : Prop := PlaceAt C H g t.1 t.2.1 t.2.2
theorem PT.same {C : Addr} {H H' : Hp} {g : Addr} {t : T3} (h : PT C H g t) (e : Same H H') : PT C H' g t := PlaceAt.same h e
theorem range_getD {α β : Type} (f : α → β) (d : α) : ∀ xs : List α, (List.range xs.length).map (fun j => f (xs.getD j d)) = xs.map f
  | [] => rfl
  | x :: xs => by
    rw [List.length_cons, List.range_succ_eq_map, List.map_cons, List.map_map, List.map_cons, ← range_getD f d xs]
    rfl
end Hf
namespace Hf
open PySem PySem.Spec PyProof.Rows L2
open Cov (Rw3 T3)
theorem rd_iRng3 {ta : TA} {σ : L2.St} {H : Hp} {R : It → Hp → Prop} (q : ta σ H fun vs H1 => ∃ (i j c : Int) (n : Nat), vs = [.int i, .int j, .int c] ∧ RgC i j c n ∧ R (Itc i c n) H1) : iRng3 ta σ H R := q
theorem rgc_small2 : ∀ k l : Fin 130, Builtin.Range.small ((k.val : Nat) : Int) ((l.val : Nat) : Int) 2 = true := by decide +kernel
theorem rgc_any {a b : Int} (h0 : 0 ≤ a) (h1 : a < 130) (h2 : 0 ≤ b) (h3 : b < 130) : RgC a b 2 ((b - a + 1) / 2).toNat := by
  obtain ⟨m, rfl⟩ := Int.eq_ofNat_of_zero_le h0
  obtain ⟨n, rfl⟩ := Int.eq_ofNat_of_zero_le h2
  refine ⟨by decide, by decide, rgc_small2 ⟨m, by omega⟩ ⟨n, by omega⟩, ?_⟩
  unfold Builtin.Range.rangeSize
  rw [if_pos (by decide)]
  split <;> omega
/-- a dict by its whole-number keys -/
def KsA (kvs : List (Key × V)) (ks : List Int) : Prop := kvs.map (·.1) = ks.map Sum.inl
theorem KsA.nil : KsA [] [] := rfl
theorem KsA.len {kvs : List (Key × V)} {ks : List Int} (h : KsA kvs ks) : kvs.length = ks.length := by
  have := congrArg List.length h
  rwa [List.length_map, List.length_map] at this
theorem KsA.has {kvs : List (Key × V)} {ks : List Int} (h : KsA kvs ks) (s : Int) : (valV kvs (Sum.inl s)).isSome = decide (s ∈ ks) := by
  rw [← valV_any, Bool.eq_iff_iff, List.any_eq_true, decide_eq_true_eq]
  constructor
  · rintro ⟨kv, hm, e⟩
    have e := of_decide_eq_true e
    have : kv.1 ∈ ks.map Sum.inl := by rw [← h]; exact List.mem_map.mpr ⟨kv, hm, rfl⟩
    obtain ⟨z, hz, ez⟩ := List.mem_map.mp this
    rw [e] at ez
    cases ez
    exact hz
  · intro hs
    have : (Sum.inl s : Key) ∈ kvs.map (·.1) := by rw [h]; exact List.mem_map.mpr ⟨s, hs, rfl⟩
    obtain ⟨kv, hm, e⟩ := List.mem_map.mp this
    exact ⟨kv, hm, decide_eq_true e⟩
theorem KsA.put {kvs : List (Key × V)} {ks : List Int} (h : KsA kvs ks) {s : Int} (hs : s ∉ ks) (v : V) : KsA (putK kvs (Sum.inl s) v) (ks ++ [s]) := by
  unfold putK
  rw [if_neg (by rw [valV_any, h.has, decide_eq_false hs]; decide)]
  unfold KsA
  rw [List.map_append, List.map_append, h]
  rfl
theorem PtsAt.same {H H' : Hp} {l : Addr} {ps : List T3} (h : PtsAt H l ps) (e : Same H H') : PtsAt H' l ps :=
  let ⟨ts, a, b, c⟩ := h; ⟨ts, e _ _ a, b.imp fun _ _ q => q.same e, c⟩
end Hf
namespace Hf
open PySem PySem.Spec PyProof.Rows L2
open Cov (Rw3 T3)
theorem none_of {H H' : Hp} {p : Addr} (s : Same H H') (n : H' p = none) : H p = none := by
  cases z : H p with
  | none => rfl
  | some o =>
    have := s _ _ z
    rw [n] at this
    cases this
def Fnd (H : Hp) (kvs : List (Key × V)) : Prop := (∃ ks, KsA kvs ks) ∧ ∀ kv ∈ kvs, RowV 48 H kv.2
theorem Fnd.nil {H : Hp} : Fnd H [] := ⟨⟨[], rfl⟩, fun _ h => (List.not_mem_nil h).elim⟩
theorem Fnd.same {H H' : Hp} {kvs : List (Key × V)} (h : Fnd H kvs) (s : Same H H') : Fnd H' kvs := ⟨h.1, fun kv m => (h.2 kv m).same s⟩
theorem Fnd.put {H : Hp} {kvs : List (Key × V)} (h : Fnd H kvs) (s : Int) {v : V} (hv : RowV 48 H v) : Fnd H (putK kvs (Sum.inl s) v) ∧ (putK kvs (Sum.inl s) v).length ≤ kvs.length + 1 ∧ putK kvs (Sum.inl s) v ≠ [] := by
  obtain ⟨⟨ks, K⟩, hr⟩ := h
  by_cases c : (kvs.any fun kv => decide (kv.1 = Sum.inl s)) = true
  · have e : putK kvs (Sum.inl s) v = kvs.map (fun kv => if kv.1 = Sum.inl s then (kv.1, v) else kv) := by unfold putK; rw [if_pos c]
    rw [e]
    refine ⟨⟨⟨ks, ?_⟩, fun kv m => ?_⟩, by rw [List.length_map]; omega, fun z => ?_⟩
    · unfold KsA
      rw [List.map_map, ← K]
      refine List.map_congr_left fun kv _ => ?_
      show (if kv.1 = Sum.inl s then (kv.1, v) else kv).1 = kv.1
      split <;> rfl
    · obtain ⟨kv0, m0, rfl⟩ := List.mem_map.mp m
      split
      · exact hv
      · exact hr kv0 m0
    · rw [List.map_eq_nil_iff] at z
      rw [z] at c
      cases c
  · have e : putK kvs (Sum.inl s) v = kvs ++ [(Sum.inl s, v)] := by unfold putK; rw [if_neg c]
    rw [e]
    refine ⟨⟨⟨ks ++ [s], ?_⟩, fun kv m => ?_⟩, by rw [List.length_append]; exact Nat.le_refl _, by simp⟩
    · unfold KsA
      rw [List.map_append, List.map_append, K]
      rfl
    · rcases List.mem_append.mp m with z | z
      · exact hr kv z
      · rw [List.mem_singleton.mp z]
        exact hv
theorem lock_same {H0 H H' : Hp} {d : Addr} {u z : HO} (s0 : Same H0 H) (n : H0 d = none) (s : Same (upd H d z) H') : Same H0 (upd H' d u) := fun a o e => by
  have ne := ne_of_none e n
  rw [upd_ne ne]
  refine s a o ?_
  rw [upd_ne ne]
  exact s0 a o e
/-- the lows of classes -/
def Lows (b : Int) (los : List Int) : Prop := los[0]? = some b ∧ ∀ (k : Nat) (x : Int), los[k]? = some x → 1 ≤ x ∧ x ≤ 47 ∧ (1 ≤ k → 3 ≤ x)
theorem Lows.one {b : Int} (h : 1 ≤ b) (h2 : b ≤ 2) : Lows b [b] := ⟨rfl, fun k x hx => by
  match k, hx with
  | 0, hx => cases hx; exact ⟨h, by omega, fun z => by omega⟩
  | k + 1, hx => simp at hx⟩
theorem Lows.pos {b : Int} {los : List Int} (h : Lows b los) : 0 < los.length := by
  have := h.1
  rw [List.getElem?_eq_some_iff] at this
  exact this.1
/-- an item within bounds -/
def Itm (H : Hp) (v : V) : Prop := ∃ o, RIt H v o ∧ Bdd o
theorem Itm.same {H H' : Hp} {v : V} (h : Itm H v) (s : Same H H') : Itm H' v := let ⟨o, a, b⟩ := h; ⟨o, a.same s, b⟩
theorem atom_int (i : Int) : Atom (.int i) := .inr (.inl ⟨i, rfl⟩)
theorem use_slFrom {K : PySem.W.Frag} {H : Hp} {Q : VK} {l : Addr} {xs : List V} {n : Nat} (h : H l = some (.lst xs)) (hn : n + 1 ≤ xs.length) (k : ∀ (p : Addr) (H' : Hp), H p = none → H' p = some (.lst (xs.drop (n + 1))) → Same H H' → Q (.ref p) H') : rSlL K (.ref l) (some ((n : Int) + 1)) none H Q := by
  refine ⟨l, xs, rfl, SqL.of h, fun p np => ?_⟩
  rw [show L2.cutV xs (some ((n : Int) + 1)) none = xs.drop (n + 1) from cutV_from xs (j := n + 1) hn]
  exact k p _ np upd_same (Same.new np)
theorem Itm.keep {b : Addr} {H H' : Hp} {v : V} (h : Itm H v) (s : Keep b H H') (n : v ≠ .ref b) : Itm H' v := let ⟨o, a, q⟩ := h; ⟨o, a.keep s n, q⟩
end Hf
namespace Hf
open PySem PySem.Spec PyProof.Rows L2
/-! ### texts of sums, read: the plain law -/
def letK : Nat → List Nat
  | 0 => [109, 110]
  | 1 => [109]
  | 2 => [110]
  | _ => []
/-! ### the words of a sum -/
def sgS (n : Int) : Nat := if 0 < n then 43 else 45
def wk (k : Nat) (n : Int) : List (List Nat) := if n = 0 then [] else [[sgS n], termL n (letK k)]
theorem getD_set {f : List Int} {k i : Nat} {v : Int} (hk : k < f.length) : (f.set k v).getD i 0 = if i = k then v else f.getD i 0 := by
  rw [List.getD_eq_getElem?_getD, List.getD_eq_getElem?_getD]
  by_cases e : i = k
  · subst e
    rw [List.getElem?_set_self hk, if_pos rfl]
    rfl
  · rw [List.getElem?_set_ne (fun z => e z.symm), if_neg e]
end Hf
namespace Hf
open PySem PySem.Spec PyProof.Rows L2
/-! ### a sum's text by its words -/
def VF : List (List Nat) → List (List Nat)
  | s :: w :: r => (if s = [45] then 45 :: w else w) :: r
  | _ => []
def JW (W : List (List Nat)) : List Nat := TL.joinL [32] (VF W)
def RW (fd W : List (List Nat)) : Prop := (fd = [] ↔ W = []) ∧ fd.flatten = JW W ∧ (W ≠ [] → 2 ≤ W.length)
end Hf
namespace Hf
open PySem PySem.Spec PyProof.Rows L2
/-! ### the program's own reading -/
end Hf
namespace Hf
open PySem PySem.Spec PyProof.Rows L2
/-! ### texts: ends, slices -/
/-! ### promises -/
end Hf
namespace Hf
open PySem PySem.Spec PyProof.Rows L2
end Hf
namespace Hf
open PySem PySem.Spec PyProof.Rows L2
/-! ### the dict of a reading -/
def kl (k : Nat) : Key := Sum.inr (SX.S (letK k))
theorem kV_kl (k : Nat) : kV (kl k) = tv (letK k) := rfl
theorem kl_ne {i j : Nat} (hi : i < 4) (hj : j < 4) (h : i ≠ j) : ¬ kl i = kl j := fun z => by
  have z := SX.S_inj (Sum.inr.inj z)
  match i, hi, j, hj with
  | 0, _, 0, _ => exact h rfl
  | 1, _, 1, _ => exact h rfl
  | 2, _, 2, _ => exact h rfl
  | 3, _, 3, _ => exact h rfl
  | 0, _, 1, _ => exact absurd z (by decide)
  | 0, _, 2, _ => exact absurd z (by decide)
  | 0, _, 3, _ => exact absurd z (by decide)
  | 1, _, 0, _ => exact absurd z (by decide)
  | 1, _, 2, _ => exact absurd z (by decide)
  | 1, _, 3, _ => exact absurd z (by decide)
  | 2, _, 0, _ => exact absurd z (by decide)
  | 2, _, 1, _ => exact absurd z (by decide)
  | 2, _, 3, _ => exact absurd z (by decide)
  | 3, _, 0, _ => exact absurd z (by decide)
  | 3, _, 1, _ => exact absurd z (by decide)
  | 3, _, 2, _ => exact absurd z (by decide)
def FD (H : Hp) (d : Addr) (f : List Int) : Prop := ∃ kvs : List (Key × V), H d = some (.dK kvs) ∧ kvs.length ≤ 4 ∧ ∀ k, k < 4 → valV kvs (kl k) = some (.int (f.getD k 0))
theorem FD.at_ {H : Hp} {d : Addr} {f : List Int} (h : FD H d f) {k : Nat} (hk : k < 4) : DGet H d (tv (letK k)) (some (.int (f.getD k 0))) := by
  obtain ⟨kvs, e, _, hv⟩ := h
  rw [← kV_kl, ← hv k hk]
  exact .k e
theorem FD.keep {H H' : Hp} {d b : Addr} {f : List Int} (h : FD H d f) (e : Keep b H H') (n : d ≠ b) : FD H' d f := let ⟨kvs, a, b, c⟩ := h; ⟨kvs, e _ _ a n, b, c⟩
theorem FD.same {H H' : Hp} {d : Addr} {f : List Int} (h : FD H d f) (e : Same H H') : FD H' d f := let ⟨kvs, a, b, c⟩ := h; ⟨kvs, e _ _ a, b, c⟩
theorem len_put_old {kvs : List (Key × V)} {k : Key} {v x : V} (h : valV kvs k = some x) : (putK kvs k v).length = kvs.length := by
  unfold putK
  rw [valV_any, h, if_pos (by rfl), List.length_map]
theorem FD.put {H : Hp} {d : Addr} {f : List Int} (h : FD H d f) (fl : f.length = 4) {k : Nat} (hk : k < 4) (v : Int) : ∃ H', DPut H d (tv (letK k)) (.int v) H' ∧ FD H' d (f.set k v) ∧ Keep d H H' := by
  obtain ⟨kvs, e, hl, hv⟩ := h
  refine ⟨_, DPut.k (k := kl k) e (Nat.lt_of_le_of_lt hl (by rw [sizeLine_eq]; decide)), ⟨_, upd_same, by rw [len_put_old (hv k hk)]; exact hl, fun j hj => ?_⟩, Keep.upd⟩
  rw [valV_put, getD_set (by omega)]
  by_cases q : j = k
  · rw [if_pos (by rw [q]), if_pos q]
  · rw [if_neg (kl_ne hj hk q), if_neg q, hv j hj]
end Hf
namespace Hf
open PySem PySem.Spec PyProof.Rows L2
/-! ### x = {k: v for ..}, the comprehension stored at once -/
section
variable {X : Cx}
/-- what holds in the block of a comprehension of this scope -/
abbrev InBlk (X : Cx) (sc : Scope) (Pr : Cx → Prop) : Prop := ∀ (z : Shared) (H : Hp) (C : Addr) (cl : List (Str × Addr)) (fp : List Addr), Pr (X.blk z H sc (compEnvC sc cl C X.env) fp)
theorem ps_setDc {i : Nat} {nm : Str} {npos cpos spos : Pos} {ke ve tgt src : Expr} {conds : List Expr} {sc : Scope} {mine : List (Str × Nat)} {ws : TI} {gt : TG} {tc : TT} {t1 t2 : TE} (calm : X.calm = true) (nd : X.N.Nodup) (at_ : X.N[i]? = some nm) (loc : X.env.scope.names.lookup nm = some .local)
    (sw : swapsWith (.DictComp ke ve [⟨tgt, src, conds, 0⟩] sc cpos) (some (.Name nm npos)) spos.line X.env = pure true) (hs : PI X tgt src ws) (ok : BlkOk X.N X.env.scope sc mine)
    (h1 : InBlk X sc fun Y => PG Y tgt gt) (h2 : InBlk X sc fun Y => PTs Y conds tc) (h3 : InBlk X sc fun Y => PE Y ke t1) (h4 : InBlk X sc fun Y => PE Y ve t2) (hf : ∀ x, foldedSetIterable src X.env x = pure x := by intro _; rfl) :
    PS X (.Assign [.Name nm npos] (.DictComp ke ve [⟨tgt, src, conds, 0⟩] sc cpos) spos) (tAsg (tDc ws gt tc t1 t2 (mine.map (·.2))) (gName i)) := by
  refine ⟨fun pins z σ H D I h => ?_⟩
  rw [exec_Assign_Name_used _ _ _ _ sw]
  refine wpAny_bind (wpAny_standAt (wpAny_bind ?_))
  show wpAny _ X.A (do let _ ← comprehension (.DictComp ke ve [⟨tgt, src, conds, 0⟩] sc cpos) sc X.env (firstIterPos [⟨tgt, src, conds, 0⟩] cpos) newDict false (eval src X.env) (some (assign (.Name nm npos) X.env))) _ _ z
  have h : tDc ws gt tc t1 t2 (mine.map (·.2)) σ H (fun x H1 => gName i x σ H1 D.nx) := h
  refine wpAny_bind (thn (dc_core (Qf := fun _ z' => SP X pins D .next z') calm nd I hs ok h1 h2 h3 h4 hf h fun L C z1 m H' I1 q hn f => ?_) fun _ z2 hq => wpAny_pure (wpAny_pure hq))
  show wpAny _ _ (assign (.Name nm npos) X.env (.ref L)) _ _ _
  refine wpAny_assign_Name (store_ok2 (v := V.ref L) I1 nd at_ (.inl loc) rfl (fun z3 I3 ⟨a, same, ha⟩ => ?_) (.inr loc))
  obtain ⟨f0, f1, f2, f3, f4, f5⟩ := f
  have apart : C ≠ a := ha.elim (fun e => by rw [e]; exact f1) fun e w => f4 nm a e w.symm
  refine ⟨m, hn.sameBut same apart, fun h3 sb => ?_⟩
  exact ⟨_, H', I3.turned (t' := z3.toks) (fun b o hb e => (sb.2 b hb).trans e) f0 f1 f3 f4 f5, q⟩
theorem swD_true {ke ve : Expr} {gs : List Comprehension} {sc : Scope} {cpos npos : Pos} {nm : Str} {l : Nat} {env : Env} (kd : env.scope.kind = .function) (loc : env.scope.names.lookup nm = some .local) (hl : (npos.line == cpos.line) = true)
    (free : (sc.names.any fun (n, k) => n == nm && (k == .local || k == .cell)) = false) : swapsWith (.DictComp ke ve gs sc cpos) (some (.Name nm npos)) l env = pure true := by
  have kn : env.kindOf nm = some .local := loc
  have bk : env.blockKind = .function := by unfold Env.blockKind; rw [kd]; rfl
  unfold swapsWith
  simp only [bk, kn, free, Expr.pos, hl]
  rfl
end
end Hf
namespace Hf
open PySem PySem.Spec PyProof.Rows L2
/-! ### for x in {..}: a dict that is made where it is walked -/
def iKeysF (td : TE) : TI := fun σ H R => td σ H fun x H1 => ∃ d kvs, x = .ref d ∧ H1 d = some (.dK kvs) ∧ ∀ o, R (Itk d o kvs) (upd H1 d (.frz o (.dK kvs)))
theorem pi_keysF {X : Cx} {tg e : Expr} {td : TE} (he : PE X e td) : PI X tg e (iKeysF td) := by
  refine ⟨fun pins s σ H R I h => ?_⟩
  refine thn (he.run pins s σ H _ I h) fun u s1 ⟨x, H1, I1, rx, d, kvs, ex, hd, q⟩ => ?_
  subst ex
  obtain rfl : u = Value.ref d := rx
  obtain ⟨od, I2⟩ := I1.lock hd trivial
  obtain ⟨hs, hgd, hx, es, ep, vs, hdt, hsz, kv, hm⟩ := I2.frzK (upd_same)
  refine iter_keys hs hgd hx hdt (pi_one (tk := s1.toks) I2 _ (turn_keys _ hdt) ⟨_, Heap.get?_push_size _ rfl, rfl, ?_⟩ (q od))
  rw [hsz] <;> rfl
/-- a dict comprehension over it -/
theorem dc_it {J : It} {n : Nat} {G : Hp → Prop} {Y : Nat → Hp → V → Hp → Prop} (w : Walk J n G Y) {g : TG} {tt : TT} {tk tv : TE} {vs : List Nat} {σ : L2.St} {H1 : Hp} {D : Addr} {Qd : Hp → Prop} (Pv : Nat → Hp → Prop) (h0 : Pv 0 (upd H1 D (.dK []))) (hG : ∀ i H, i ≤ n → Pv i H → G H)
    (hs : ∀ i x H H', i < n → Pv i H → Y i H x H' → g x (wipe σ vs) H' fun σ2 H2 => wipe σ2 vs = wipe σ vs ∧ tt σ2 H2 fun b H3 =>
      if b = true then tk σ2 H3 fun y H4 => tv σ2 H4 fun z H5 => ∃ kvs k, y = kV k ∧ H5 D = some (.dK kvs) ∧ kvs.length < sizeLine ∧ Pv (i + 1) (upd H5 D (.dK (putK kvs k z))) else Pv (i + 1) H3) (hd : ∀ H, Pv n H → Qd H) :
    ∃ W : Nat → Nat → Hp → Prop, (∃ m, W 0 m (upd H1 D (.dK []))) ∧ ∀ i m H, W i m H →
      (J.stop i H ∧ Qd H) ∨ (J.go i H ∧ ∃ Nx : Hp → Prop, (∀ H', Nx H' → ∃ m', m' < m ∧ W (i + 1) m' H') ∧ ∀ x H', J.yld i H x H' → g x (wipe σ vs) H' fun σ2 H2 => wipe σ2 vs = wipe σ vs ∧ tt σ2 H2 fun b H3 =>
        if b = true then tk σ2 H3 fun y H4 => tv σ2 H4 fun z H5 => ∃ kvs k, y = kV k ∧ H5 D = some (.dK kvs) ∧ kvs.length < sizeLine ∧ Nx (upd H5 D (.dK (putK kvs k z))) else Nx H3) := by
  refine ⟨fun i m H => m = n - i ∧ i ≤ n ∧ Pv i H, ⟨n, by simp, Nat.zero_le _, h0⟩, ?_⟩
  rintro i m H ⟨rfl, hi, p⟩
  have q := hG i H hi p
  by_cases hlt : i < n
  · exact .inr ⟨w.goes i H hlt q, Pv (i + 1), fun H' p' => ⟨n - (i + 1), by omega, rfl, hlt, p'⟩, fun x H' y => hs i x H H' hlt p (w.yields i H x H' hlt q y)⟩
  · obtain rfl : i = n := by omega
    exact .inl ⟨w.stops H q, hd H p⟩
def DcK (g : TG) (tt : TT) (tk tv : TE) (vs : List Nat) (σ : L2.St) (Q : VK) : It → Hp → Prop := fun J H1 => ∀ D, H1 D = none → ∃ W : Nat → Nat → Hp → Prop, (∃ m, W 0 m (upd H1 D (.dK []))) ∧ ∀ i m H, W i m H →
  (J.stop i H ∧ Q (.ref D) H) ∨ (J.go i H ∧ ∃ Nx : Hp → Prop, (∀ H', Nx H' → ∃ m', m' < m ∧ W (i + 1) m' H') ∧ ∀ x H', J.yld i H x H' → g x (wipe σ vs) H' fun σ2 H2 => wipe σ2 vs = wipe σ vs ∧ tt σ2 H2 fun b H3 =>
    if b = true then tk σ2 H3 fun y H4 => tv σ2 H4 fun z H5 => ∃ kvs k, y = kV k ∧ H5 D = some (.dK kvs) ∧ kvs.length < sizeLine ∧ Nx (upd H5 D (.dK (putK kvs k z))) else Nx H3)
theorem rd_dc {wi : TI} {g : TG} {tt : TT} {tk tv : TE} {vs : List Nat} {σ : L2.St} {H : Hp} {Q : VK} (q : wi σ H (DcK g tt tk tv vs σ Q)) : L2.tDc wi g tt tk tv vs σ H Q := q
instance i_rd_dc {wi : TI} {g : TG} {tt : TT} {tk tv : TE} {vs : List Nat} {σ : L2.St} {H : Hp} {Q : VK} : RdC (L2.tDc wi g tt tk tv vs σ H Q) (wi σ H (DcK g tt tk tv vs σ Q)) := ⟨rd_dc⟩
theorem rd_iKeysF {td : TE} {σ : L2.St} {H : Hp} {R : It → Hp → Prop} (q : td σ H fun x H1 => ∃ d kvs, x = .ref d ∧ H1 d = some (.dK kvs) ∧ ∀ o, R (Itk d o kvs) (upd H1 d (.frz o (.dK kvs)))) : iKeysF td σ H R := q
instance i_rd_iKeysF {td : TE} {σ : L2.St} {H : Hp} {R : It → Hp → Prop} : RdC (iKeysF td σ H R) (td σ H fun x H1 => ∃ d kvs, x = .ref d ∧ H1 d = some (.dK kvs) ∧ ∀ o, R (Itk d o kvs) (upd H1 d (.frz o (.dK kvs)))) := ⟨rd_iKeysF⟩
theorem rd_star {K : PySem.W.Frag} {te : TE} {t : TA} {σ : L2.St} {H : Hp} {Q : List V → Hp → Prop} (q : te σ H fun x H1 => ∃ p xs, x = V.ref p ∧ (SqT K H1 p xs ∨ SqL K H1 p xs) ∧ t σ H1 fun ys H2 => Q (xs ++ ys) H2) : StX.tStar K te t σ H Q := q
instance i_rd_star {K : PySem.W.Frag} {te : TE} {t : TA} {σ : L2.St} {H : Hp} {Q : List V → Hp → Prop} : RdC (StX.tStar K te t σ H Q) (te σ H fun x H1 => ∃ p xs, x = V.ref p ∧ (SqT K H1 p xs ∨ SqL K H1 p xs) ∧ t σ H1 fun ys H2 => Q (xs ++ ys) H2) := ⟨rd_star⟩
/-- some whole numbers, each once -/
def addK (ks : List Int) (s : Int) : List Int := if s ∈ ks then ks else ks ++ [s]
theorem KsA.add {kvs : List (Key × V)} {ks : List Int} (h : KsA kvs ks) (s : Int) (v : V) : KsA (putK kvs (Sum.inl s) v) (addK ks s) := by
  unfold addK
  by_cases hs : s ∈ ks
  · rw [if_pos hs]
    unfold putK
    rw [if_pos (by rw [valV_any, h.has, decide_eq_true hs])]
    unfold KsA at *
    rw [List.map_map, ← h]
    apply List.map_congr_left
    rintro ⟨k, u⟩ _
    show (if k = Sum.inl s then (k, v) else (k, u)).1 = k
    split <;> rfl
  · rw [if_neg hs]
    exact h.put hs v
theorem addK_mem {ks : List Int} {s x : Int} : x ∈ addK ks s ↔ x ∈ ks ∨ x = s := by
  unfold addK
  split
  · constructor
    · exact .inl
    · rintro (h | rfl)
      · exact h
      · assumption
  · rw [List.mem_append, List.mem_singleton]
theorem addK_len {ks : List Int} {s : Int} : (addK ks s).length ≤ ks.length + 1 := by
  unfold addK
  split
  · omega
  · rw [List.length_append]; exact Nat.le_refl _
theorem addK_nd {ks : List Int} {s : Int} (h : ks.Nodup) : (addK ks s).Nodup := by
  unfold addK
  split
  · exact h
  · rename_i hs
    exact List.nodup_append.mpr ⟨h, by simp, fun a ha b hb => by rw [List.mem_singleton.mp hb]; exact fun z => hs (z ▸ ha)⟩
/-- what is put into a dict of ints stays one -/
structure KsN (kvs : List (Key × V)) (ks : List Int) : Prop where
  a : KsA kvs ks
  n : ks.Nodup
theorem KsN.nil : KsN [] [] := ⟨rfl, List.nodup_nil⟩
theorem KsN.add {kvs : List (Key × V)} {ks : List Int} (h : KsN kvs ks) (s : Int) (v : V) : KsN (putK kvs (Sum.inl s) v) (addK ks s) := ⟨h.a.add s v, addK_nd h.n⟩
theorem sorted_lt {ns ks : List Int} (p : ns.Perm ks) (h : ns.Pairwise (· ≤ ·)) (n : ks.Nodup) : ns.Pairwise (· < ·) := by
  have n2 : ns.Nodup := p.nodup_iff.mpr n
  exact (List.pairwise_and_iff.mpr ⟨h, n2⟩).imp fun ⟨a, b⟩ => by omega
/-- [.. for x in {k: True for k in ints}]: the dict -/
theorem dc_intsT {K : PySem.W.Frag} {a : Addr} {xs : List Int} {i : Nat} {tt : TT} {σ : L2.St} {H1 : Hp} {Q : VK} (p : Int → Bool) (hi : i < σ.length) (ha : H1 a = some (.lst (xs.map V.int))) (hl : xs.length ≤ 20000)
    (ht : ∀ (z : Int) (σ' : L2.St) (H : Hp) (R : Bool → Hp → Prop), σ' = (wipe σ [i]).set i (some (.int z)) → Same H1 H → R (p z) H → tt σ' H R)
    (k : ∀ (D : Addr) (kvs : List (Key × V)) (ks : List Int) (H' : Hp), H1 D = none → H' D = some (.dK kvs) → KsN kvs ks → (∀ x, x ∈ ks ↔ x ∈ xs ∧ p x = true) → ks.length ≤ xs.length → Same H1 H' → Q (.ref D) H') : DcK (gName i) tt (tVar i) (tC (.bl true)) [i] σ Q (Itl K a) H1 := by
  intro D hD
  refine dc_it (walk_list (K := K) (a := a) (xs := xs.map V.int)) (fun j H' => ∃ kvs ks, H' D = some (.dK kvs) ∧ KsN kvs ks ∧ (∀ x, x ∈ ks ↔ x ∈ xs.take j ∧ p x = true) ∧ ks.length ≤ j ∧ Same H1 H') ⟨[], [], upd_same, KsN.nil, fun x => by simp, Nat.zero_le _, Same.new hD⟩ (fun j H' _ z => SqL.of (z.choose_spec.choose_spec.2.2.2.2 _ _ ha)) ?_ ?_
  · rintro j x H H' hj ⟨kvs, ks, eD, KK, mm, lk, s⟩ ⟨rfl, hx⟩
    obtain ⟨z, hz, rfl⟩ := map_get hx
    refine rd_gname ?_
    refine ⟨wipe1, ?_⟩
    refine ht z _ _ _ rfl s ?_
    have sD : ∀ o, Same H1 (upd H' D o) := fun o b u e => by
      have hb : b ≠ D := fun q => by rw [q, hD] at e; cases e
      rw [upd_ne hb]
      exact s b u e
    have tk : xs.take (j + 1) = xs.take j ++ [z] := by rw [List.take_add_one, hz]; rfl
    by_cases hp : p z = true
    · rw [if_pos hp]
      refine ⟨.int z, by rw [List.getElem?_set_self (by show i < List.length (σ.set i none); rw [List.length_set]; exact hi)], ?_⟩
      refine ⟨kvs, .inl z, rfl, eD, by rw [KK.a.len]; exact Nat.lt_of_le_of_lt (Nat.le_trans lk (Nat.le_of_lt hj)) (by rw [List.length_map]; exact Nat.lt_of_le_of_lt hl (by decide)), _, addK ks z, upd_same, KK.add z _, fun x => ?_, Nat.le_trans addK_len (Nat.succ_le_succ lk), sD _⟩
      rw [addK_mem, mm, tk, List.mem_append, List.mem_singleton]
      constructor
      · rintro (⟨h, h2⟩ | rfl)
        · exact ⟨.inl h, h2⟩
        · exact ⟨.inr rfl, hp⟩
      · rintro ⟨h | rfl, h2⟩
        · exact .inl ⟨h, h2⟩
        · exact .inr rfl
    · rw [if_neg hp]
      refine ⟨kvs, ks, eD, KK, fun x => ?_, Nat.le_succ_of_le lk, s⟩
      rw [mm, tk, List.mem_append, List.mem_singleton]
      constructor
      · rintro ⟨h, h2⟩
        exact ⟨.inl h, h2⟩
      · rintro ⟨h | rfl, h2⟩
        · exact ⟨h, h2⟩
        · exact absurd h2 hp
  · rintro H ⟨kvs, ks, eD, KK, mm, lk, s⟩
    refine k D kvs ks H hD eD KK (fun x => ?_) (by rw [List.length_map] at lk; exact lk) s
    rw [mm, List.length_map, List.take_length]
/-- ascending, each once -/
def spAsc (K : PySem.W.Frag) : Sp := fun vs H Q _ => ∃ (a : Addr) (xs : List Int), vs = [.ref a] ∧ H a = some (.lst (xs.map V.int)) ∧ xs.length ≤ 20000 ∧ ∀ (l : Addr) (ns : List Int) (H' : Hp), H' l = some (.lst (ns.map V.int)) → ns.Pairwise (· < ·) → (∀ x, x ∈ ns ↔ x ∈ xs) → ns.length ≤ xs.length → Same H H' → Q (.ref l) H'
/-! ### a dict whose keys are places' integers -/
def key3 (g : P3) : List Key := [.inl g.1, .inl g.2.1, .inl g.2.2]
theorem key3_inj {g h : P3} (e : key3 g = key3 h) : g = h := by
  obtain ⟨a, b, c⟩ := g
  obtain ⟨a', b', c'⟩ := h
  injection e with e1 e2
  injection e2 with e2 e3
  injection e3 with e3 _
  cases e1
  cases e2
  cases e3
  rfl
structure GsN (kvs : List (List Key × V)) (gs : List P3) : Prop where
  a : kvs.map (·.1) = gs.map key3
theorem GsN.nil : GsN [] [] := ⟨rfl⟩
theorem GsN.len {kvs : List (List Key × V)} {gs : List P3} (h : GsN kvs gs) : kvs.length = gs.length := by
  have := congrArg List.length h.a
  rwa [List.length_map, List.length_map] at this
def addG (ks : List P3) (s : P3) : List P3 := if s ∈ ks then ks else ks ++ [s]
theorem GsN.has {kvs : List (List Key × V)} {gs : List P3} (h : GsN kvs gs) (g : P3) : (kvs.any fun kv => decide (kv.1 = key3 g)) = decide (g ∈ gs) := by
  rw [Bool.eq_iff_iff, List.any_eq_true, decide_eq_true_eq]
  constructor
  · rintro ⟨kv, hm, e⟩
    have e := of_decide_eq_true e
    have : kv.1 ∈ gs.map key3 := by rw [← h.a]; exact List.mem_map.mpr ⟨kv, hm, rfl⟩
    obtain ⟨z, hz, ez⟩ := List.mem_map.mp this
    rw [e] at ez
    rw [← key3_inj ez]
    exact hz
  · intro hs
    have : key3 g ∈ kvs.map (·.1) := by rw [h.a]; exact List.mem_map.mpr ⟨g, hs, rfl⟩
    obtain ⟨kv, hm, e⟩ := List.mem_map.mp this
    exact ⟨kv, hm, decide_eq_true e⟩
theorem GsN.add {kvs : List (List Key × V)} {gs : List P3} (h : GsN kvs gs) (g : P3) (v : V) : GsN (putK kvs (key3 g) v) (addG gs g) := by
  unfold addG
  by_cases hs : g ∈ gs
  · rw [if_pos hs]
    unfold putK
    rw [if_pos (by rw [h.has, decide_eq_true hs])]
    refine ⟨?_⟩
    rw [List.map_map, ← h.a]
    apply List.map_congr_left
    rintro ⟨k, u⟩ _
    show (if k = key3 g then (k, v) else (k, u)).1 = k
    split <;> rfl
  · rw [if_neg hs]
    unfold putK
    rw [if_neg (by rw [h.has, decide_eq_false hs]; decide)]
    refine ⟨?_⟩
    rw [List.map_append, List.map_append, h.a]
    rfl
theorem addG_mem {ks : List P3} {s x : P3} : x ∈ addG ks s ↔ x ∈ ks ∨ x = s := by
  unfold addG
  split
  · constructor
    · exact .inl
    · rintro (h | rfl)
      · exact h
      · assumption
  · rw [List.mem_append, List.mem_singleton]
theorem addG_len {ks : List P3} {s : P3} : (addG ks s).length ≤ ks.length + 1 := by
  unfold addG
  split
  · omega
  · rw [List.length_append]; exact Nat.le_refl _
theorem keys_T {H : Hp} : ∀ {kvs : List (List Key × V)} {gs : List P3} {bs : List Addr}, GsN kvs gs → L2.IsKeys H kvs bs → F2 (TAt H) bs gs
  | [], gs, bs, h, r => by
    cases r
    cases gs with
    | nil => exact .nil
    | cons g gs => exact nomatch h.a
  | kv :: kvs, [], bs, h, r => nomatch h.a
  | kv :: kvs, g :: gs, bs, h, r => by
    cases r with
    | cons h1 h2 =>
      have e := h.a
      rw [List.map_cons, List.map_cons] at e
      injection e with e1 e2
      rw [e1] at h1
      exact .cons h1 (keys_T ⟨e2⟩ h2)
/-- the differences of all two places -/
def IsGap (L : List P3) (g : P3) : Prop := ∃ (i j : Nat) (a b : P3), i < j ∧ L[i]? = some a ∧ L[j]? = some b ∧ g = subP a b
/-- .. of those ahead of j with those behind -/
def GapTo (L : List P3) (j : Nat) (g : P3) : Prop := ∃ (i k : Nat) (a b : P3), i < j ∧ i < k ∧ L[i]? = some a ∧ L[k]? = some b ∧ g = subP a b
def spGaps (C : Addr) : Sp := fun vs H Q _ => ∃ (a : Addr) (as : List Addr) (L : List P3), vs = [.ref a] ∧ H a = some (.lst (as.map V.ref)) ∧ F2 (PAt C H) as L ∧ L.length ≤ 64 ∧ ∀ (l : Addr) (ts : List Addr) (gs : List P3) (H' : Hp), H' l = some (.lst (ts.map V.ref)) → F2 (TAt H') ts gs → gs.length ≤ 4096 → (∀ g, g ∈ gs ↔ IsGap L g) → Same H H' → Q (.ref l) H'
theorem cMul_sm {i j : Int} (hi : Sm i) (hj : Sm j) : L2.CMulW i j := by
  have a := sm_log hi
  have b := sm_log hj
  show i.natAbs.log2 + j.natAbs.log2 < 1000000
  omega
theorem cDiv_sm {i j : Int} (h0 : 0 < j) (hj : Sm j) : L2.CDivW i j := by
  have b := sm_log hj
  exact ⟨h0, by omega⟩
/-- the halves of sizes at which a difference turns -/
def GapB (g : P3) : Prop := g.1.natAbs ≤ 1000 ∧ g.2.1.natAbs ≤ 10 ^ 22 ∧ g.2.2.natAbs ≤ 1000
def IsTurn (gs : List P3) (p h : Int) : Prop := ∃ g ∈ gs, g.1 ≠ 0 ∧ (h = tn0 g p ∨ h = tn1 g p)
def spTurns (K : PySem.W.Frag) : Sp := fun vs H Q _ => ∃ (a : Addr) (ts : List Addr) (gs : List P3) (p : Int), vs = [.ref a, .int p] ∧ H a = some (.lst (ts.map V.ref)) ∧ F2 (TAt H) ts gs ∧ gs.length ≤ 4096 ∧ Par p ∧ (∀ g ∈ gs, GapB g) ∧ ∀ (l : Addr) (ns : List Int) (H' : Hp), H' l = some (.lst (ns.map V.int)) → ns.length ≤ 8192 → (∀ h, h ∈ ns ↔ IsTurn gs p h) → Same H H' → Q (.ref l) H'
/-! ### the rows of one parity -/
structure IsLowsG (gs : List P3) (p : Int) (lows : List Int) : Prop where
  up : lows.Pairwise (· < ·)
  hd : lows.head? = some (2 - p)
  at_ : ∀ n, n ∈ lows ↔ n = 2 - p ∨ ∃ h, 1 - p < h ∧ n = 2 * h + p ∧ IsTurn gs p h
theorem turn_gap {L gs : List P3} (hg : ∀ g, g ∈ gs ↔ IsGap L g) {p h : Int} : IsTurn gs p h ↔ TurnAt L p h := by
  constructor
  · rintro ⟨g, m, n, t⟩
    obtain ⟨i, j, a, b, h1, h2, h3, rfl⟩ := (hg g).mp m
    exact ⟨i, j, a, b, h1, h2, h3, n, t⟩
  · rintro ⟨i, j, a, b, h1, h2, h3, n, t⟩
    exact ⟨subP a b, (hg _).mpr ⟨i, j, a, b, h1, h2, h3, rfl⟩, n, t⟩
theorem IsLowsG.of {L gs : List P3} (hg : ∀ g, g ∈ gs ↔ IsGap L g) {p : Int} {lows : List Int} (h : IsLowsG gs p lows) : IsLows L p lows :=
  ⟨h.up, h.hd, fun n => (h.at_ n).trans ⟨fun z => z.imp id fun ⟨k, a, b, c⟩ => ⟨k, a, b, (turn_gap hg).mp c⟩, fun z => z.imp id fun ⟨k, a, b, c⟩ => ⟨k, a, b, (turn_gap hg).mpr c⟩⟩⟩
theorem lowsG_of {gs : List P3} {p : Int} {ns : List Int} (up : ns.Pairwise (· < ·)) (mm : ∀ x, x ∈ ns ↔ IsTurn gs p x ∧ 1 - p < x) : IsLowsG gs p (((1 - p) :: ns).map fun h => 2 * h + p) := by
  refine ⟨?_, ?_, fun n => ?_⟩
  · rw [List.pairwise_map]
    refine (List.pairwise_cons.mpr ⟨fun x hx => ((mm x).mp hx).2, up⟩).imp fun h => by omega
  · show some (2 * (1 - p) + p) = some (2 - p)
    congr 1
    omega
  · rw [List.map_cons, List.mem_cons, List.mem_map]
    constructor
    · rintro (h | ⟨h, h1, rfl⟩)
      · exact .inl (by omega)
      · exact .inr ⟨h, ((mm h).mp h1).2, rfl, ((mm h).mp h1).1⟩
    · rintro (h | ⟨h, h1, h2, h3⟩)
      · exact .inl (by omega)
      · exact .inr ⟨h, (mm h).mpr ⟨h3, h1⟩, h2.symm⟩
theorem ediv_abs (a b : Int) : (a / b).natAbs ≤ a.natAbs := Int.natAbs_ediv_le_natAbs a b
theorem hig_abs {g : P3} {p : Int} (hp : Par p) (b : GapB g) : (hig g p).natAbs ≤ 10 ^ 22 + 1000 := by
  obtain ⟨b1, b2, b3⟩ := b
  unfold hig
  rcases hp with rfl | rfl
  · rw [Int.mul_zero]
    split <;> omega
  · rw [Int.mul_one]
    split <;> omega
theorem turn_abs {gs : List P3} {p h : Int} (hp : Par p) (gb : ∀ g ∈ gs, GapB g) (t : IsTurn gs p h) : h.natAbs ≤ 10 ^ 23 := by
  obtain ⟨g, m, _, t⟩ := t
  have e := hig_abs hp (gb g m)
  rcases t with rfl | rfl
  · unfold tn0
    have := ediv_abs (hig g p) (stp g)
    omega
  · unfold tn1
    have := ediv_abs (0 - hig g p) (stp g)
    omega
theorem rowsOf_ok {p : Int} : ∀ {ls : List Int}, ls.Pairwise (· < ·) → (∀ x ∈ ls, x % 2 = p) → (∀ x ∈ ls, 1 ≤ x) → ∀ r ∈ rowsOf ls, 1 ≤ r.1 ∧ OkHi r.1 r.2
  | [], _, _, _, r, h => by cases h
  | [a], _, _, h1, r, h => by
    rw [List.mem_singleton.mp h]
    exact ⟨h1 a List.mem_cons_self, .inl rfl⟩
  | a :: b :: l, up, pa, h1, r, h => by
    rw [rowsOf] at h
    rcases List.mem_cons.mp h with rfl | h
    · have ha := pa a List.mem_cons_self
      have hb := pa b (List.mem_cons_of_mem _ List.mem_cons_self)
      have hl := (List.pairwise_cons.mp up).1 b List.mem_cons_self
      exact ⟨h1 a List.mem_cons_self, .inr ⟨b - 2, rfl, by omega, by omega⟩⟩
    · exact rowsOf_ok (List.pairwise_cons.mp up).2 (fun x hx => pa x (List.mem_cons_of_mem _ hx)) (fun x hx => h1 x (List.mem_cons_of_mem _ hx)) r h
theorem IsLowsG.ok {gs : List P3} {p : Int} {lows : List Int} (hp : Par p) (h : IsLowsG gs p lows) : ∀ r ∈ rowsOf lows, 1 ≤ r.1 ∧ OkHi r.1 r.2 := by
  refine rowsOf_ok (p := p) h.up (fun x hx => ?_) (fun x hx => ?_)
  · rcases (h.at_ x).mp hx with e | ⟨k, _, e, _⟩
    · rcases hp with rfl | rfl <;> omega
    · rcases hp with rfl | rfl <;> omega
  · rcases (h.at_ x).mp hx with e | ⟨k, _, e, _⟩
    · rcases hp with rfl | rfl <;> omega
    · rcases hp with rfl | rfl <;> omega
theorem zip_getA {α β : Type} : ∀ {xs : List α} {ys : List β} {j : Nat} {x : α} {y : β}, xs[j]? = some x → ys[j]? = some y → (xs.zip ys)[j]? = some (x, y)
  | [], _, _, _, _, h, _ => by cases h
  | _ :: _, [], _, _, _, _, h => by cases h
  | a :: xs, b :: ys, 0, x, y, h1, h2 => by
    cases h1
    cases h2
    rfl
  | a :: xs, b :: ys, j + 1, x, y, h1, h2 => zip_getA (xs := xs) (ys := ys) (j := j) h1 h2
def hisOf (lows : List Int) : List V := (lows.drop 1).map (fun b => V.int (b - 2)) ++ [.non]
theorem rowsOf_zip : ∀ {lows : List Int}, lows ≠ [] → rowsOf lows = lows.zip (hisOf lows)
  | [], h => absurd rfl h
  | [a], _ => rfl
  | a :: b :: r, _ => by
    rw [rowsOf, rowsOf_zip (lows := b :: r) (by simp)]
    rfl
theorem hisOf_len {lows : List Int} (h : lows ≠ []) : (hisOf lows).length = lows.length := by
  unfold hisOf
  rw [List.length_append, List.length_map, List.length_drop, List.length_singleton]
  have := List.length_pos_iff.mpr h
  omega
def SzR (C : Addr) (H : Hp) (q : Addr) (r : Int × V) : Prop := SzAt C H q r.1 r.2
theorem SzR.same {C : Addr} {H H' : Hp} {q : Addr} {r : Int × V} (h : SzR C H q r) (e : Same H H') : SzR C H' q r := SzAt.same h e
theorem SzR.put {C D : Addr} {H : Hp} {q : Addr} {r : Int × V} {xs : List V} {o : HO} (h : SzR C H q r) (e : H D = some (.lst xs)) : SzR C (upd H D o) q r := by
  obtain ⟨dx, h⟩ := h
  exact ⟨dx, (upd_ne (fun z => by rw [z, e] at h; cases h)).trans h⟩
theorem use_sl1L {K : PySem.W.Frag} {Q : VK} {l : Addr} {H : Hp} {xs : List V} (h : H l = some (.lst xs)) (hn : 1 ≤ xs.length) (k : ∀ (p : Addr) (H' : Hp), H p = none → H' p = some (.lst (xs.drop 1)) → Same H H' → Q (.ref p) H') : rSlL K (.ref l) (some 1) none H Q := use_slFrom (n := 0) h hn k
def spCoP (C : Addr) : Sp := fun vs H Q _ => ∃ (a : Addr) (ts : List Addr) (gs : List P3) (p : Int), vs = [.ref a, .int p] ∧ H a = some (.lst (ts.map V.ref)) ∧ F2 (TAt H) ts gs ∧ gs.length ≤ 4096 ∧ Par p ∧ (∀ g ∈ gs, GapB g) ∧ ∀ (l : Addr) (ps : List Addr) (lows : List Int) (H' : Hp), IsLowsG gs p lows → lows.length ≤ 8193 → H' l = some (.lst (ps.map V.ref)) → F2 (SzR C H') ps (rowsOf lows) → Same H H' → Q (.ref l) H'
end Hf
/-! What code that is proved over any table of generators does to those that sleep, run or are through: nothing. -/
namespace Gz
open PySem PySem.Spec PyProof.Rows GenW
open Sem (wp)
/-- begun: asleep, running, or through -/
def kp : GenState → Bool
  | .fresh _ => false
  | _ => true
/-- a sleeper that cannot be woken -/
def mute : GenState → GenState
  | .suspended _ l c p fs cl => .suspended (fun _ => .unsupported "") l c p fs cl
  | x => x
theorem mute_seen (x : GenState) : (mute x).seen = x.seen := by cases x <;> rfl
theorem mute_bare (x : GenState) : (mute x).bare = x.bare := by cases x <;> rfl
theorem mute_run {x : GenState} (h : mute x = .running) : x = .running := by cases x <;> first | rfl | (unfold mute at h; cases h)
theorem mute_fin {x : GenState} (h : mute x = .finished) : x = .finished := by cases x <;> first | rfl | (unfold mute at h; cases h)
theorem mute_fresh {x : GenState} {c : Code} (h : mute x = .fresh c) : x = .fresh c := by
  cases x with
  | fresh c' => unfold mute at h; exact h
  | suspended _ _ _ _ _ _ => unfold mute at h; cases h
  | running => unfold mute at h; cases h
  | finished => unfold mute at h; cases h
/-- what is to stay: at index i the state o -/
abbrev Tb := Nat → Option GenState
def pick (old : Tb) (i : Nat) (x : GenState) : GenState := (old i).getD x
def bk (old : Tb) (gens : Array GenState) : Array GenState := gens.mapIdx fun i x => pick old i x
theorem bk_get {old : Tb} {gens : Array GenState} {i : Nat} : (bk old gens)[i]? = gens[i]?.map (pick old i) := by
  unfold bk
  rw [Array.getElem?_mapIdx]
theorem bk_size {old : Tb} {gens : Array GenState} : (bk old gens).size = gens.size := by unfold bk; exact Array.size_mapIdx
abbrev Old (old : Tb) (i : Nat) : Prop := ∃ o, old i = some o
theorem pick_not {old : Tb} {i : Nat} {x : GenState} (h : ¬ Old old i) : pick old i x = x := by
  unfold pick
  cases e : old i with
  | none => rfl
  | some o => exact absurd ⟨o, e⟩ h
theorem pick_old {old : Tb} {i : Nat} {x o : GenState} (e : old i = some o) : pick old i x = o := by
  unfold pick
  rw [e]
  rfl
def allRet (fs : List Frame) : Prop := splitAtGen fs = none
theorem allRet_ret {k : Result → Sem PySem.Fin} {h : Option Value} {g : Bool} {l kp : List Value} {c : Code} {p : Pos} {fs : List Frame} : allRet (.ret k h g l c p kp :: fs) ↔ allRet fs := by
  unfold allRet
  show (splitAtGen fs).map _ = none ↔ _
  cases splitAtGen fs <;> simp
theorem allRet_gen {g : Nat} {k : GenResult → Sem PySem.Fin} {l : List Value} {c : Code} {p : Pos} {fs : List Frame} : ¬ allRet (.gen g k l c p :: fs) := by
  unfold allRet
  intro z
  cases z
theorem allRet_app {a b : List Frame} (ha : allRet a) (hb : allRet b) : allRet (a ++ b) := by
  induction a with
  | nil => exact hb
  | cons x a ih =>
    cases x with
    | ret k h g l c p kp => exact allRet_ret.mpr (ih (allRet_ret.mp ha))
    | gen g k l c p => exact absurd ha allRet_gen
/-- the table, what is to stay muted -/
structure MG (old : Tb) (gens : Array GenState) : Prop where
  mu : ∀ (i : Nat) (o : GenState), old i = some o → kp o = true ∧ gens[i]? = some (mute o)
  ng : ∀ (i : Nat) (k : Resume → Sem PySem.Fin) (l : List Value) (c : Code) (p : Pos) (fs : List Frame) (cl : Bool), gens[i]? = some (.suspended k l c p fs cl) → ¬ Old old i → allRet fs
theorem MG.out {old : Tb} {gens : Array GenState} (m : MG old gens) {i : Nat} (h : gens.size ≤ i) : ¬ Old old i := fun ⟨o, e⟩ => by
  have := (m.mu i o e).2
  rw [Array.getElem?_eq_none h] at this
  cases this
theorem MG.push {old : Tb} {gens : Array GenState} (m : MG old gens) (c : Code) : MG old (gens.push (.fresh c)) ∧ bk old (gens.push (.fresh c)) = (bk old gens).push (.fresh c) := by
  refine ⟨⟨fun i o e => ?_, fun i k l c' p fs cl e n => ?_⟩, ?_⟩
  · have h := (m.mu i o e).2
    have hi := (Array.getElem?_eq_some_iff.mp h).1
    refine ⟨(m.mu i o e).1, ?_⟩
    rw [Array.getElem?_push_lt hi]
    rw [Array.getElem?_eq_getElem hi] at h
    exact h
  · rw [Array.getElem?_push] at e
    split at e
    · cases e
    · exact m.ng i k l c' p fs cl e n
  · refine Array.ext_getElem? fun i => ?_
    rw [bk_get, Array.getElem?_push, Array.getElem?_push, bk_size, bk_get]
    split
    · rename_i hi
      subst hi
      exact congrArg some (pick_not (m.out (Nat.le_refl _)))
    · rfl
theorem MG.set {old : Tb} {gens : Array GenState} (m : MG old gens) {g : Nat} (n : ¬ Old old g) {x : GenState} (hx : ∀ k l c p fs cl, x = .suspended k l c p fs cl → allRet fs) : MG old (gens.setIfInBounds g x) ∧ bk old (gens.setIfInBounds g x) = (bk old gens).setIfInBounds g x := by
  refine ⟨⟨fun i o e => ?_, fun i k l c p fs cl e n' => ?_⟩, ?_⟩
  · have : g ≠ i := fun z => n (z ▸ ⟨o, e⟩)
    rw [Array.getElem?_setIfInBounds_ne this]
    exact m.mu i o e
  · rw [Array.getElem?_setIfInBounds] at e
    split at e
    · split at e
      · exact hx _ _ _ _ _ _ (Option.some.inj e)
      · cases e
    · exact m.ng i k l c p fs cl e n'
  · refine Array.ext_getElem? fun i => ?_
    rw [bk_get, Array.getElem?_setIfInBounds, Array.getElem?_setIfInBounds, bk_size, bk_get]
    split
    · rename_i hi
      subst hi
      split
      · exact congrArg some (pick_not n)
      · rfl
    · rfl
/-- the state with what was to stay -/
def up (old : Tb) (s : Shared) : Shared := { s with gens := bk old s.gens }
def endOk : End → Prop
  | .susp _ _ _ _ _ _ fs => allRet fs
  | _ => True
theorem stuck {M : Model} {Γ : PySem.Ctx} {p : Pos} {w : String} {fs : List Frame} {s : Shared} {e : End} {s' : Shared} (h : Runs M Γ p (.unsupported w) fs s e s') : False := by
  have nil : ∀ {Γ : PySem.Ctx} {e : End} {s' : Shared}, Runs M Γ p (.unsupported w) [] s e s' → False := fun h => by cases h
  cases h with
  | segRet a b => exact nil a
  | segGen a b => exact nil a
  | segSuspOut a b => exact nil b
  | segSuspGen a b c d => exact nil b
theorem endGen {e : End} (h : endOk e) : ∀ k l c p fs cl, e.genState = .suspended k l c p fs cl → allRet fs := by
  intro k l c p fs cl he
  cases e with
  | ret r => cases he
  | susp v g l' k' c' p' fs' => cases he; exact h
theorem gen_get {old : Tb} {s : Shared} (m : MG old s.gens) {g : Nat} {st : GenState} (h : s.gens[g]? = some st) : ∃ st', (up old s).gens[g]? = some st' ∧ st'.seen = st.seen ∧ (¬ Old old g → st' = st) ∧ (Old old g → st = mute st') := by
  refine ⟨pick old g st, by show (bk old s.gens)[g]? = _; rw [bk_get, h]; rfl, ?_, fun n => pick_not n, fun ⟨o, e⟩ => ?_⟩
  · by_cases n : Old old g
    · obtain ⟨o, e⟩ := n
      have := (m.mu g o e).2
      rw [h] at this
      cases this
      rw [pick_old e, mute_seen]
    · rw [pick_not n]
  · have := (m.mu g o e).2
    rw [h] at this
    cases this
    rw [pick_old e]
theorem not_old {old : Tb} {s : Shared} (m : MG old s.gens) {g : Nat} {c : Code} (h : s.gens[g]? = some (.fresh c)) : ¬ Old old g := fun ⟨o, e⟩ => by
  obtain ⟨k, this⟩ := m.mu g o e
  rw [h] at this
  rw [mute_fresh (Option.some.inj this).symm] at k
  cases k
theorem run_get {old : Tb} {s : Shared} (m : MG old s.gens) {g : Nat} (h : s.gens[g]? = some .running) : (up old s).gens[g]? = some .running := by
  obtain ⟨st', h1, _, h3, h4⟩ := gen_get m h
  by_cases n : Old old g
  · rw [h1, mute_run (h4 n).symm]
  · rw [h1, h3 n]
theorem fin_get {old : Tb} {s : Shared} (m : MG old s.gens) {g : Nat} (h : s.gens[g]? = some .finished) : (up old s).gens[g]? = some .finished := by
  obtain ⟨st', h1, _, h3, h4⟩ := gen_get m h
  by_cases n : Old old g
  · rw [h1, mute_fin (h4 n).symm]
  · rw [h1, h3 n]
theorem mute_runs {M : Model} {Γ : PySem.Ctx} {p : Pos} {t : Sem PySem.Fin} {fs : List Frame} {s : Shared} {e : End} {s' : Shared} (h : Runs M Γ p t fs s e s') : ∀ old, MG old s.gens → allRet fs → MG old s'.gens ∧ endOk e ∧ Runs M Γ p t fs (up old s) e (up old s') := by
  induction h with
  | done => intro old m r; exact ⟨m, trivial, .done⟩
  | raise => intro old m r; exact ⟨m, trivial, .raise⟩
  | again q _ ih => intro old m r; obtain ⟨a, b, c⟩ := ih old m r; exact ⟨a, b, .again q c⟩
  | rule _ ih => intro old m r; obtain ⟨a, b, c⟩ := ih old m r; exact ⟨a, b, .rule c⟩
  | «at» _ ih => intro old m r; obtain ⟨a, b, c⟩ := ih old m r; exact ⟨a, b, .at c⟩
  | load ho _ ih => intro old m r; obtain ⟨a, b, c⟩ := ih old m r; exact ⟨a, b, .load ho c⟩
  | update ho _ ih => intro old m r; obtain ⟨a, b, c⟩ := ih old m r; exact ⟨a, b, .update ho c⟩
  | loadIfAlive _ ih => intro old m r; obtain ⟨a, b, c⟩ := ih old m r; exact ⟨a, b, .loadIfAlive c⟩
  | point _ ih => intro old m r; obtain ⟨a, b, c⟩ := ih old m r; exact ⟨a, b, .point c⟩
  | alloc _ ih => intro old m r; obtain ⟨a, b, c⟩ := ih old m r; exact ⟨a, b, .alloc c⟩
  | fresh _ ih => intro old m r; obtain ⟨a, b, c⟩ := ih old m r; exact ⟨a, b, .fresh c⟩
  | ask _ ih => intro old m r; obtain ⟨a, b, c⟩ := ih old m r; exact ⟨a, b, .ask c⟩
  | choose hn _ ih => intro old m r; obtain ⟨a, b, c⟩ := ih old m r; exact ⟨a, b, .choose hn c⟩
  | os _ ih => intro old m r; obtain ⟨a, b, c⟩ := ih old m r; exact ⟨a, b, .os c⟩
  | handled _ ih => intro old m r; obtain ⟨a, b, c⟩ := ih old m r; exact ⟨a, b, .handled c⟩
  | genState hg _ ih =>
    intro old m r
    obtain ⟨a, b, c⟩ := ih old m r
    obtain ⟨st', h1, h2, _⟩ := gen_get m hg
    exact ⟨a, b, .genState h1 (by rw [h2]; exact c)⟩
  | stack _ ih => intro old m r; obtain ⟨a, b, c⟩ := ih old m r; exact ⟨a, b, .stack c⟩
  | thread _ ih => intro old m r; obtain ⟨a, b, c⟩ := ih old m r; exact ⟨a, b, .thread c⟩
  | @newGen _ _ _ s _ _ c _ ih =>
    intro old m r
    obtain ⟨m1, e1⟩ := m.push c
    obtain ⟨a, b, d⟩ := ih old m1 r
    refine ⟨a, b, .newGen ?_⟩
    have : (up old s).gens.size = s.gens.size := bk_size
    rw [this]
    have e2 : up old { s with gens := s.gens.push (.fresh c) } = { up old s with gens := (up old s).gens.push (.fresh c) } := by
      show ({ s with gens := _ } : Shared) = _
      rw [e1]
      rfl
    rw [← e2]
    exact d
  | call _ _ ih1 ih2 =>
    intro old m r
    obtain ⟨a, _, c⟩ := ih1 old m rfl
    obtain ⟨a2, b2, c2⟩ := ih2 old a rfl
    exact ⟨a2, b2, .call c c2⟩
  | callSusp _ ih =>
    intro old m r
    obtain ⟨a, b, c⟩ := ih old m rfl
    exact ⟨a, allRet_app b (allRet_ret.mpr rfl), .callSusp c⟩
  | yield => intro old m r; exact ⟨m, rfl, .yield⟩
  | @resumeFresh Γ p g l k s c e₁ s₁ e s' hg _ hq _ ih1 ih2 =>
    intro old m r
    have n := not_old m hg
    obtain ⟨m1, q1⟩ := m.set (x := .running) n (fun _ _ _ _ _ _ z => by cases z)
    obtain ⟨a, b, d⟩ := ih1 old m1 rfl
    obtain ⟨m2, q2⟩ := a.set (x := e₁.genState) n (endGen b)
    obtain ⟨a2, b2, d2⟩ := ih2 old m2 rfl
    obtain ⟨st', h1, _, h3, _⟩ := gen_get m hg
    refine ⟨a2, b2, .resumeFresh (by rw [h1, h3 n]) (s₁ := up old s₁) ?_ hq ?_⟩
    · have : (up old s).setGen g .running = up old (s.setGen g .running) := by
        show ({ s with gens := _ } : Shared) = { s with gens := _ }
        rw [show (s.setGen g .running).gens = s.gens.setIfInBounds g .running from rfl, q1]
        rfl
      rw [this]; exact d
    · have : (up old s₁).setGen g e₁.genState = up old (s₁.setGen g e₁.genState) := by
        show ({ s₁ with gens := _ } : Shared) = { s₁ with gens := _ }
        rw [show (s₁.setGen g e₁.genState).gens = s₁.gens.setIfInBounds g e₁.genState from rfl, q2]
        rfl
      rw [this]; exact d2
  | @resumeSuspended Γ p g r' l k s k₀ l₀ c₀ p₀ fs cl e₁ s₁ e s' hg hrun hq _ ih1 ih2 =>
    intro old m r
    by_cases n : Old old g
    · obtain ⟨st', h1, _, _, h4⟩ := gen_get m hg
      have h4 := h4 n
      exfalso
      cases st' with
      | suspended k1 l1 c1 p1 fs1 cl1 =>
        unfold mute at h4
        cases h4
        exact stuck hrun
      | fresh c => cases h4
      | running => cases h4
      | finished => cases h4
    · obtain ⟨m1, q1⟩ := m.set (x := .running) n (fun _ _ _ _ _ _ z => by cases z)
      obtain ⟨a, b, d⟩ := ih1 old m1 (m.ng _ _ _ _ _ _ _ hg n)
      obtain ⟨m2, q2⟩ := a.set (x := e₁.genState) n (endGen b)
      obtain ⟨a2, b2, d2⟩ := ih2 old m2 rfl
      obtain ⟨st', h1, _, h3, _⟩ := gen_get m hg
      refine ⟨a2, b2, .resumeSuspended (by rw [h1, h3 n]) (s₁ := up old s₁) ?_ hq ?_⟩
      · have : (up old s).setGen g .running = up old (s.setGen g .running) := by
          show ({ s with gens := _ } : Shared) = { s with gens := _ }
          rw [show (s.setGen g .running).gens = s.gens.setIfInBounds g .running from rfl, q1]
          rfl
        rw [this]; exact d
      · have : (up old s₁).setGen g e₁.genState = up old (s₁.setGen g e₁.genState) := by
          show ({ s₁ with gens := _ } : Shared) = { s₁ with gens := _ }
          rw [show (s₁.setGen g e₁.genState).gens = s₁.gens.setIfInBounds g e₁.genState from rfl, q2]
          rfl
        rw [this]; exact d2
  | resumeJustStarted hg hv _ ih =>
    intro old m r
    obtain ⟨a, b, c⟩ := ih old m r
    obtain ⟨st', h1, _, h3, _⟩ := gen_get m hg
    exact ⟨a, b, .resumeJustStarted (by rw [h1, h3 (not_old m hg)]) hv c⟩
  | @resumeThrowFresh g _ _ _ _ _ _ _ s _ hg _ ih =>
    intro old m r
    have n := not_old m hg
    obtain ⟨m1, q1⟩ := m.set (x := .finished) n (fun _ _ _ _ _ _ z => by cases z)
    obtain ⟨a, b, c⟩ := ih old m1 r
    obtain ⟨st', h1, _, h3, _⟩ := gen_get m hg
    refine ⟨a, b, .resumeThrowFresh (by rw [h1, h3 n]) ?_⟩
    have : (up old s).setGen g .finished = up old (s.setGen g .finished) := by
      show ({ s with gens := _ } : Shared) = { s with gens := _ }
      rw [show (s.setGen g .finished).gens = s.gens.setIfInBounds g .finished from rfl, q1]
      rfl
    rw [this]; exact c
  | resumeRunning hg _ ih =>
    intro old m r
    obtain ⟨a, b, c⟩ := ih old m r
    exact ⟨a, b, .resumeRunning (run_get m hg) c⟩
  | resumeFinished hg _ ih =>
    intro old m r
    obtain ⟨a, b, c⟩ := ih old m r
    exact ⟨a, b, .resumeFinished (fin_get m hg) c⟩
  | segRet _ _ ih1 ih2 =>
    intro old m r
    have r' := allRet_ret.mp r
    obtain ⟨a, _, c⟩ := ih1 old m rfl
    obtain ⟨a2, b2, c2⟩ := ih2 old a r'
    exact ⟨a2, b2, .segRet c c2⟩
  | segGen _ _ ih1 ih2 => intro old m r; exact absurd r allRet_gen
  | segSuspOut hs _ ih =>
    intro old m r
    obtain ⟨a, b, c⟩ := ih old m rfl
    exact ⟨a, allRet_app b r, .segSuspOut hs c⟩
  | segSuspGen hs _ hq _ ih1 ih2 =>
    intro old m r
    unfold allRet at r
    rw [hs] at r
    cases r
end Gz
namespace Gz
open PySem PySem.Spec PyProof.Rows GenW
open Sem (wp)
theorem mute_wakes {M : Model} {Γ : PySem.Ctx} {p : Pos} {g : Nat} {r : Resume} {s : Shared} {res : GenResult} {s' : Shared} (h : Wakes M Γ p g r s res s') (old : Tb) (m : MG old s.gens) : MG old s'.gens ∧ Wakes M Γ p g r (up old s) res (up old s') := by
  have put : ∀ (s : Shared) (x : GenState), MG old s.gens → ¬ Old old g → (∀ k l c p fs cl, x = .suspended k l c p fs cl → allRet fs) → MG old (s.setGen g x).gens ∧ (up old s).setGen g x = up old (s.setGen g x) := fun s x m n hx => by
    obtain ⟨m1, q1⟩ := m.set (x := x) n hx
    refine ⟨m1, ?_⟩
    show ({ s with gens := _ } : Shared) = { s with gens := _ }
    rw [show (s.setGen g x).gens = s.gens.setIfInBounds g x from rfl, q1]
    rfl
  unfold Wakes at h
  split at h
  · exact h.elim
  · rename_i c hg
    have n := not_old m hg
    obtain ⟨st', h1, _, h3, _⟩ := gen_get m hg
    have h1 : (up old s).gens[g]? = some (.fresh c) := by rw [h1, h3 n]
    split at h
    · obtain ⟨e₁, s₁, hr, hq, rfl, rfl⟩ := h
      obtain ⟨m1, q1⟩ := put s .running m n (fun _ _ _ _ _ _ z => by cases z)
      obtain ⟨a, b, d⟩ := mute_runs hr old m1 rfl
      obtain ⟨m2, q2⟩ := put s₁ e₁.genState a n (endGen b)
      refine ⟨m2, ?_⟩
      unfold Wakes
      rw [h1]
      exact ⟨e₁, up old s₁, by rw [q1]; exact d, hq, rfl, q2.symm⟩
    · obtain ⟨rfl, rfl⟩ := h
      refine ⟨m, ?_⟩
      unfold Wakes
      rw [h1]
      rename_i v hv h0
      cases v <;> first | exact ⟨rfl, rfl⟩ | exact (hv rfl).elim
    · obtain ⟨rfl, rfl⟩ := h
      obtain ⟨m1, q1⟩ := put s .finished m n (fun _ _ _ _ _ _ z => by cases z)
      refine ⟨m1, ?_⟩
      unfold Wakes
      rw [h1]
      exact ⟨rfl, q1.symm⟩
  · rename_i k₀ l₀ c₀ p₀ fs cl hg
    obtain ⟨e₁, s₁, hr, hq, rfl, rfl⟩ := h
    by_cases n : Old old g
    · obtain ⟨st', h1, _, _, h4⟩ := gen_get m hg
      have h4 := h4 n
      exfalso
      cases st' with
      | suspended k1 l1 c1 p1 fs1 cl1 =>
        unfold mute at h4
        cases h4
        exact stuck hr
      | fresh c => cases h4
      | running => cases h4
      | finished => cases h4
    · obtain ⟨st', h1, _, h3, _⟩ := gen_get m hg
      have h1 : (up old s).gens[g]? = some (.suspended k₀ l₀ c₀ p₀ fs cl) := by rw [h1, h3 n]
      obtain ⟨m1, q1⟩ := put s .running m n (fun _ _ _ _ _ _ z => by cases z)
      obtain ⟨a, b, d⟩ := mute_runs hr old m1 (m.ng _ _ _ _ _ _ _ hg n)
      obtain ⟨m2, q2⟩ := put s₁ e₁.genState a n (endGen b)
      refine ⟨m2, ?_⟩
      unfold Wakes
      rw [h1]
      exact ⟨e₁, up old s₁, by rw [q1]; exact d, hq, rfl, q2.symm⟩
  · rename_i hg
    obtain ⟨rfl, rfl⟩ := h
    refine ⟨m, ?_⟩
    unfold Wakes
    rw [run_get m hg]
    exact ⟨rfl, rfl⟩
  · rename_i hg
    obtain ⟨rfl, rfl⟩ := h
    refine ⟨m, ?_⟩
    unfold Wakes
    rw [fin_get m hg]
    exact ⟨rfl, rfl⟩
theorem wp_mute {α : Type} {M : Model} {Γ : PySem.Ctx} (t : Sem α) : ∀ (Q : α → Pos → Shared → Prop) (E : Value → Pos → Shared → Prop) (p : Pos) (s : Shared) (old : Tb), MG old s.gens → wp M Γ t Q E p s →
    wp M Γ t (fun a p' s' => ∃ s1, MG old s1.gens ∧ s' = up old s1 ∧ Q a p' s1) (fun e p' s' => ∃ s1, MG old s1.gens ∧ s' = up old s1 ∧ E e p' s1) p (up old s) := by
  induction t with
  | pure a => intro Q E p s old m h; exact ⟨s, m, rfl, h⟩
  | raise e => intro Q E p s old m h; exact ⟨s, m, rfl, h⟩
  | unsupported _ => intro Q E p s old m h; exact h
  | finish _ => intro Q E p s old m h; exact h
  | rule _ k ih => intro Q E p s old m h; exact ih () Q E p s old m h
  | «at» p' k ih => intro Q E p s old m h; exact ih () Q E p' s old m h
  | load a _ k ih => intro Q E p s old m h; obtain ⟨o, ho, h⟩ := h; exact ⟨o, ho, ih o Q E p s old m h⟩
  | update a _ f k ih => intro Q E p s old m h; exact ⟨h.1, ih () Q E p { s with heap := s.heap.update a f } old m h.2⟩
  | loadIfAlive a k ih => intro Q E p s old m h; exact ih _ Q E p s old m h
  | point _ k ih => intro Q E p s old m h; exact ih () Q E p s old m h
  | register _ _ => intro Q E p s old m h; exact h
  | alloc o k ih => intro Q E p s old m h; exact ih _ Q E p { s with heap := s.heap.push o } old m h
  | fresh k ih => intro Q E p s old m h; exact ih _ Q E p { s with toks := s.toks + 1 } old m h
  | ask k ih => intro Q E p s old m h; exact ih _ Q E p s old m h
  | choose src n k ih => intro Q E p s old m h; exact ⟨h.1, ih _ Q E p { s with drawn := s.drawn.bump src } old m h.2⟩
  | os q _ k ih => intro Q E p s old m h; exact ih _ Q E p { s with os := (Os.step s.os q).1 } old m h
  | call c hd _ _ k ih =>
    intro Q E p s old m h
    obtain ⟨r, s', hr, h⟩ := h
    obtain ⟨a, _, c⟩ := mute_runs hr old m rfl
    exact ⟨r, up old s', c, ih r Q E p s' old a h⟩
  | handled own k ih => intro Q E p s old m h; exact ih _ Q E p s old m h
  | genState g k ih =>
    intro Q E p s old m h
    obtain ⟨st, hs, h⟩ := h
    obtain ⟨st', h1, h2, _⟩ := gen_get m hs
    refine ⟨st', h1, ?_⟩
    rw [h2]
    exact ih _ Q E p s old m h
  | newGen c k ih =>
    intro Q E p s old m h
    obtain ⟨m1, e1⟩ := m.push c
    have h2 := ih _ Q E p { s with gens := s.gens.push (.fresh c) } old m1 h
    have e2 : up old { s with gens := s.gens.push (.fresh c) } = { up old s with gens := (up old s).gens.push (.fresh c) } := by
      show ({ s with gens := _ } : Shared) = _
      rw [e1]
      rfl
    rw [e2] at h2
    show wp M Γ (k (up old s).gens.size) _ _ p _
    rw [show (up old s).gens.size = s.gens.size from bk_size]
    exact h2
  | resume g r _ k ih =>
    intro Q E p s old m h
    obtain ⟨res, s', hw, h⟩ := h
    obtain ⟨a, c⟩ := mute_wakes hw old m
    exact ⟨res, up old s', c, ih res Q E p s' old a h⟩
  | yield _ _ _ _ => intro Q E p s old m h; exact h
  | stack k ih => intro Q E p s old m h; exact ih _ Q E p s old m h
  | fork _ _ => intro Q E p s old m h; exact h
  | thread k ih => intro Q E p s old m h; exact ih _ Q E p s old m h
  | await _ _ _ _ _ => intro Q E p s old m h; exact h
theorem wpAny_up {α : Type} {M : Model} {A : Around} {t : Sem α} {Q : α → Shared → Prop} {E : Value → Shared → Prop} {s : Shared} {old : Tb} (m : MG old s.gens) (h : wpAny M A t Q E s) :
    wpAny M A t (fun a s' => ∃ s1, MG old s1.gens ∧ s' = up old s1 ∧ Q a s1) (fun e s' => ∃ s1, MG old s1.gens ∧ s' = up old s1 ∧ E e s1) (up old s) := fun Γ p hΓ => wp_mute t _ _ p s old m (h Γ p hΓ)
/-- what is to stay is muted -/
def hush (old : Tb) (s : Shared) : Shared := { s with gens := s.gens.mapIdx fun i x => if (old i).isSome then mute x else x }
/-- what is to stay stands; the other sleepers' frames are their own -/
structure Stay0 (old : Tb) (gens : Array GenState) : Prop where
  at_ : ∀ (i : Nat) (o : GenState), old i = some o → kp o = true ∧ gens[i]? = some o
  ng : ∀ (i : Nat) (k : Resume → Sem PySem.Fin) (l : List Value) (c : Code) (p : Pos) (fs : List Frame) (cl : Bool), gens[i]? = some (.suspended k l c p fs cl) → ¬ Old old i → allRet fs
theorem hush_get {old : Tb} {s : Shared} {i : Nat} : (hush old s).gens[i]? = s.gens[i]?.map fun x => if (old i).isSome then mute x else x := by
  show (s.gens.mapIdx _)[i]? = _
  rw [Array.getElem?_mapIdx]
theorem hush_mg {old : Tb} {s : Shared} (h : Stay0 old s.gens) : MG old (hush old s).gens := by
  refine ⟨fun i o e => ⟨(h.at_ i o e).1, ?_⟩, fun i k l c p fs cl e n => ?_⟩
  · rw [hush_get, (h.at_ i o e).2, e]
    rfl
  · rw [hush_get] at e
    have : old i = none := by
      cases q : old i with
      | none => rfl
      | some o => exact absurd ⟨o, q⟩ n
    rw [this] at e
    cases q : s.gens[i]? with
    | none => rw [q] at e; cases e
    | some x =>
      rw [q] at e
      cases e
      exact h.ng i k l c p fs cl q n
theorem up_hush {old : Tb} {s : Shared} (h : Stay0 old s.gens) : up old (hush old s) = s := by
  show ({ s with gens := bk old (hush old s).gens } : Shared) = s
  have : bk old (hush old s).gens = s.gens := Array.ext_getElem? fun i => by
    rw [bk_get, hush_get]
    cases q : s.gens[i]? with
    | none => rfl
    | some x =>
      show some (pick old i _) = some x
      congr 1
      cases r : old i with
      | none => unfold pick; rw [r]; rfl
      | some o =>
        rw [pick_old r]
        have := (h.at_ i o r).2
        rw [q] at this
        exact (Option.some.inj this).symm
  rw [this]
/-- THE RULE: what is proved of the state in which some are muted holds, and these are as they were -/
theorem wpAny_hush {α : Type} {M : Model} {A : Around} {t : Sem α} {Q : α → Shared → Prop} {E : Value → Shared → Prop} {s : Shared} {old : Tb} (h0 : Stay0 old s.gens) (h : wpAny M A t Q E (hush old s)) :
    wpAny M A t (fun a s' => ∃ s1, MG old s1.gens ∧ s' = up old s1 ∧ Q a s1) (fun e s' => ∃ s1, MG old s1.gens ∧ s' = up old s1 ∧ E e s1) s := by
  have := wpAny_up (hush_mg h0) h
  rw [up_hush h0] at this
  exact this
/-- all that have begun, but those whose numbers are told -/
def allBut (ks : List Nat) (gens : Array GenState) : Tb := fun i => if i ∈ ks then none else gens[i]?.filter kp
theorem allBut_some {ks : List Nat} {gens : Array GenState} {i : Nat} {o : GenState} (h : allBut ks gens i = some o) : i ∉ ks ∧ kp o = true ∧ gens[i]? = some o := by
  unfold allBut at h
  split at h
  · cases h
  · rename_i n
    cases q : gens[i]? with
    | none => rw [q] at h; cases h
    | some x =>
      rw [q] at h
      cases k : kp x with
      | true =>
        have : (some x).filter kp = some x := by simp [Option.filter, k]
        rw [this] at h
        cases h
        exact ⟨n, k, rfl⟩
      | false =>
        have : (some x).filter kp = none := by simp [Option.filter, k]
        rw [this] at h
        cases h
theorem allBut_in {ks : List Nat} {gens : Array GenState} {i : Nat} {o : GenState} (n : i ∉ ks) (k : kp o = true) (e : gens[i]? = some o) : allBut ks gens i = some o := by
  unfold allBut
  rw [if_neg n, e]
  simp [Option.filter, k]
theorem allBut_stay {ks : List Nat} {gens : Array GenState} (h : ∀ i k l c p fs cl, i ∈ ks → gens[i]? = some (.suspended k l c p fs cl) → allRet fs) : Stay0 (allBut ks gens) gens := by
  refine ⟨fun i o e => (allBut_some e).2, fun i k l c p fs cl e n => ?_⟩
  by_cases m : i ∈ ks
  · exact h i k l c p fs cl m e
  · exact absurd ⟨_, allBut_in m rfl e⟩ n
theorem up_kept {old : Tb} {s : Shared} (m : MG old s.gens) {g : Nat} {o : GenState} (e : old g = some o) : (up old s).gens[g]? = some o := by
  show (bk old s.gens)[g]? = _
  rw [bk_get, (m.mu g o e).2]
  exact congrArg some (pick_old e)
theorem up_bare {old : Tb} {s : Shared} (ho : ∀ i o, old i = some o → o.bare = true) (hs : AllBare s.gens) : AllBare (up old s).gens := fun y hy => by
  obtain ⟨i, hi, e⟩ := Array.mem_iff_getElem.mp hy
  have q : (bk old s.gens)[i]? = some y := by rw [← e]; exact Array.getElem?_eq_getElem hi
  rw [bk_get] at q
  cases h : s.gens[i]? with
  | none => rw [h] at q; cases q
  | some x =>
    rw [h] at q
    cases q
    by_cases n : Old old i
    · obtain ⟨o, e'⟩ := n
      rw [pick_old e']
      exact ho i o e'
    · rw [pick_not n]
      exact hs x (Array.mem_of_getElem? h)
theorem hush_bare {old : Tb} {s : Shared} (h : AllBare s.gens) : AllBare (hush old s).gens := fun y hy => by
  obtain ⟨i, hi, e⟩ := Array.mem_iff_getElem.mp hy
  have q : (hush old s).gens[i]? = some y := by rw [← e]; exact Array.getElem?_eq_getElem hi
  rw [hush_get] at q
  cases r : s.gens[i]? with
  | none => rw [r] at q; cases q
  | some x =>
    rw [r] at q
    cases q
    have hx := h x (Array.mem_of_getElem? r)
    split
    · rw [mute_bare]; exact hx
    · exact hx
theorem allBut_bare {ks : List Nat} {gens : Array GenState} (h : AllBare gens) : ∀ i o, allBut ks gens i = some o → o.bare = true := fun i o e => h o (Array.mem_of_getElem? (allBut_some e).2.2)
end Gz
namespace L2
open PySem PySem.Spec PyProof.Rows GenW Gz
section
variable {X : Cx} {pins : List (Addr × Obj)} {σ : St} {H : Hp} {s : Shared}
/-- another table of generators -/
theorem Inv.gens {g : Array GenState} (I : Inv X pins σ H s) (h : AllBare g) : Inv X pins σ H { s with gens := g } := ⟨I.ok, I.os, h, I.base, I.loc, I.cell, I.free, I.freeC, I.pin, I.hok, I.len⟩
theorem Inv.hush {old : Tb} (I : Inv X pins σ H s) : Inv X pins σ H (Gz.hush old s) := I.gens (hush_bare I.bare)
theorem Inv.up {old : Tb} (I : Inv X pins σ H s) (ho : ∀ i o, old i = some o → o.bare = true) : Inv X pins σ H (Gz.up old s) := I.gens (up_bare ho I.bare)
end
end L2
namespace Hf
open PySem PySem.Spec PyProof.Rows L2
/-! ### a def that says super(): its statements stand right in its frame -/
end Hf
namespace Hf
open PySem PySem.Spec PyProof.Rows L2
end Hf
namespace Hf
open PySem PySem.Spec PyProof.Rows L2
end Hf
namespace Hf
open PySem PySem.Spec PyProof.Rows L2
end Hf
namespace Hf
open PySem PySem.Spec PyProof.Rows L2
end Hf
namespace Hf
open PySem PySem.Spec PyProof.Rows L2
/-! ### a def with **rest: what is left over is a new dict -/
end Hf
namespace Hf
open PySem PySem.Spec PyProof.Rows L2
/-! ### f(**d), d a dict of names -/
end Hf
namespace Hf
open PySem PySem.Spec PyProof.Rows L2
/-! ### a def with **rest called by keywords; super().m(**rest) -/
end Hf
namespace L2
open PySem PySem.Spec PyProof.Rows GenW
/-! ### a for within a generator -/
section
variable {P : Program} {w : World} {A : Around} {R : GenEnd} {Y : Protocol} {n : Nat} {s₀ s : Shared} {fs : List Frame} {env : Env} {tg : Expr} {it : Value} {body : List Stmt}
def ExT (env : Env) (e : Value) : Sem PySem.Fin := (do noteFrame e env; theTreesLotGoes e : Sem Unit).wrap (fun _ => .raise e) .raise id id
end
end L2
/-! One run of a generator's code, from its waking to its next yield or its end. -/
namespace Gz
open PySem PySem.Spec PyProof.Rows GenW
open Sem (wp)
/-- how the run ends: it is left, or it hands something out and sleeps -/
abbrev RW := Result → Shared → Prop
abbrev YW := Value → GenState → Shared → Prop
/-- it sleeps, quietly -/
def ok1 : GenState → Prop
  | .suspended _ _ _ _ fs cl => cl = false ∧ allRet fs
  | _ => False
theorem ok1.bare {x : GenState} (h : ok1 x) : x.bare = true := by
  cases x with
  | suspended _ _ _ _ fs cl => obtain ⟨rfl, _⟩ := h; rfl
  | fresh _ => exact h.elim
  | running => exact h.elim
  | finished => exact h.elim
theorem ok1.kp {x : GenState} (h : ok1 x) : kp x = true := by
  cases x <;> first | rfl | exact h.elim
def SE (R : RW) (Y : YW) (e : End) (s' : Shared) : Prop := match e with
  | .ret r => R r s'
  | .susp v g l k c p fs => (End.susp v g l k c p fs).quiet = true ∧ allRet fs ∧ Y v (End.susp v g l k c p fs).genState s'
def Sg (M : Model) (A : Around) (R : RW) (Y : YW) (c : Code) (t : Sem PySem.Fin) (fs : List Frame) (s : Shared) : Prop :=
  ∀ (Γ : PySem.Ctx) (p : Pos), Γ.code = c → Γ.Woken A → ∃ e s', Runs M Γ p t fs s e s' ∧ SE R Y e s'
section
variable {M : Model} {A : Around} {R R' : RW} {Y Y' : YW} {c : Code} {fs : List Frame} {s : Shared}
theorem sg_mono {t : Sem PySem.Fin} (h : Sg M A R Y c t fs s) (hR : ∀ r s', R r s' → R' r s') (hY : ∀ v gs s', Y v gs s' → Y' v gs s') : Sg M A R' Y' c t fs s := fun Γ p h1 h2 => by
  obtain ⟨e, s', hr, he⟩ := h Γ p h1 h2
  refine ⟨e, s', hr, ?_⟩
  cases e with
  | ret r => exact hR _ _ he
  | susp v g l k c' p' fs' => exact ⟨he.1, he.2.1, hY _ _ _ he.2.2⟩
theorem sg_wrap {α : Type} {m : Sem α} {K : α → Sem PySem.Fin} {J : Value → Sem PySem.Fin} {gd : Bool → Bool} {lv : List Value → List Value}
    (h : wpAny M (A.over c fs) m (fun a s' => Sg M A R Y c (K a) fs s') (fun x s' => Sg M A R Y c (J x) fs s') s) : Sg M A R Y c (m.wrap K J gd lv) fs s := by
  rintro Γ p rfl hΓ
  exact runs_wrap_of_wp K J gd lv m (h (Γ.over fs) p (hΓ.over fs)) (fun a p' s' h' => h' Γ p' rfl hΓ) (fun x p' s' h' => h' Γ p' rfl hΓ)
theorem sg_bindw {α β : Type} {m : Sem α} {f : α → Sem β} {K : β → Sem PySem.Fin} {J : Value → Sem PySem.Fin} {gd : Bool → Bool} {lv : List Value → List Value}
    (h : wpAny M (A.over c fs) m (fun a s' => Sg M A R Y c ((f a).wrap K J gd lv) fs s') (fun x s' => Sg M A R Y c (J x) fs s') s) : Sg M A R Y c ((m >>= f).wrap K J gd lv) fs s := by
  rw [Sem.bind_eq_wrap', Sem.wrap_wrap]
  exact sg_wrap h
theorem sg_at {p' : Pos} {k : Unit → Sem PySem.Fin} (h : Sg M A R Y c (k ()) fs s) : Sg M A R Y c (.at p' k) fs s :=
  sg_wrap (m := standAt p') (K := k) (J := .raise) (gd := id) (lv := id) (wpAny_standAt h)
theorem sg_point {l : List Value} {k : Unit → Sem PySem.Fin} (h : Sg M A R Y c (k ()) fs s) : Sg M A R Y c (.point l k) fs s :=
  sg_wrap (m := point) (K := k) (J := .raise) (gd := id) (lv := fun _ => l) (wpAny_point h)
theorem sg_call {c' : Code} {h : Option Value} {g : Bool} {l : List Value} {k : Result → Sem PySem.Fin} (hc : ∀ p, Sg M A R Y c' (M.den c') (.ret k h g l c p [] :: fs) s) : Sg M A R Y c (.call c' h g l k) fs s := by
  rintro Γ p rfl hΓ
  obtain ⟨e, s', hr, he⟩ := hc p (Γ.goto c') p rfl (hΓ.goto c')
  exact ⟨e, s', runs_call_seg hr, he⟩
theorem sg_leaf {k : Result → Sem PySem.Fin} {h : Option Value} {g : Bool} {l kp : List Value} {c₁ : Code} {p₁ : Pos} (r : Result) (hk : Sg M A R Y c₁ (k r) fs s) : Sg M A R Y c (leafOf r) (.ret k h g l c₁ p₁ kp :: fs) s := by
  rintro Γ p rfl hΓ
  obtain ⟨e, s', hr, he⟩ := hk (Γ.goto c₁) p₁ rfl (hΓ.goto c₁)
  exact ⟨e, s', Runs.pop r hr, he⟩
theorem sg_again {c' : Code} (hq : c'.quiet = true) (hc : Sg M A R Y c' (M.den c') fs s) : Sg M A R Y c (.pure (.again c')) fs s := by
  rintro Γ p rfl hΓ
  obtain ⟨e, s', hr, he⟩ := hc (Γ.goto c') p rfl (hΓ.goto c')
  exact ⟨e, s', Runs.head (c₁ := c') (fun _ _ x => .again hq x) hr, he⟩
theorem sg_end (r : Result) (h : R r s) : Sg M A R Y c (leafOf r) [] s := by
  rintro Γ p rfl _
  exact ⟨.ret r, s, Runs.leaf r, h⟩
theorem sg_yield {v : Value} {g : Bool} {l : List Value} {k : Resume → Sem PySem.Fin} (hfs : splitAtGen fs = none) (hg : g = false) (hfg : fs.any Frame.guarded = false)
    (h : ∀ p, Y v (.suspended k l c p fs false) s) : Sg M A R Y c (.yield v g l k) fs s := by
  rintro Γ p rfl _
  refine ⟨_, s, Runs.yield' fs hfs, by simp [End.quiet, hg, hfg], hfs, ?_⟩
  show Y v (.suspended k l Γ.code p fs (g || fs.any Frame.guarded)) s
  rw [hg, hfg]
  exact h p
/-- a sleeper (or one that has not begun) is woken by next -/
def Wake (M : Model) (A : Around) (R : RW) (Y : YW) (gs : GenState) (s : Shared) : Prop := match gs with
  | .fresh c => Sg M A R Y c (M.den c) [] s
  | .suspended k _ c _ fs _ => Sg M A R Y c (k (.send .none)) fs s
  | _ => False
theorem resume1 {E : Value → Shared → Prop} {g : Nat} {gs : GenState} {l : List Value} {α : Type} {k : GenResult → Sem α} {Q : α → Shared → Prop} (hg : s.gens[g]? = some gs) (hgo : Wake M A R Y gs (s.setGen g .running))
    (hR : ∀ x s₁, R x s₁ → wpAny M A (k (End.ret x).result) Q E (s₁.setGen g .finished))
    (hY : ∀ v s₁ gs', ok1 gs' → Y v gs' s₁ → wpAny M A (k (.yielded v)) Q E (s₁.setGen g gs')) : wpAny M A (.resume g (.send .none) l k) Q E s := by
  intro Γ p hΓ
  rw [Sem.wp_resume]
  have hB : ∀ c, (Γ.wake c p).Woken A := fun c => hΓ.wake c p
  have fin : ∀ e₁ s₁, SE R Y e₁ s₁ → wp M Γ (k e₁.result) (fun a _ s' => Q a s') (fun e _ s' => E e s') p (s₁.setGen g e₁.genState) := by
    intro e₁ s₁ he
    cases e₁ with
    | ret x => exact hR x s₁ he Γ p hΓ
    | susp v g₀ l₀ k₀ c₀ p₀ fs₀ =>
      have h1 : (g₀ || fs₀.any Frame.guarded) = false := by
        have q : (!(g₀ || fs₀.any Frame.guarded)) = true := he.1
        cases z : (g₀ || fs₀.any Frame.guarded) with
        | false => rfl
        | true => rw [z] at q; cases q
      have h2 : ok1 (End.susp v g₀ l₀ k₀ c₀ p₀ fs₀).genState := ⟨h1, he.2.1⟩
      exact hY v s₁ _ h2 he.2.2 Γ p hΓ
  have hqt : ∀ e₁ s₁, SE R Y e₁ s₁ → e₁.quiet = true := by
    intro e₁ s₁ he
    cases e₁ with
    | ret x => rfl
    | susp v g₀ l₀ k₀ c₀ p₀ fs₀ => exact he.1
  cases gs with
  | fresh c =>
    obtain ⟨e₁, s₁, hr, he⟩ := hgo (Γ.wake c p) p rfl (hB c)
    exact ⟨_, _, by unfold Wakes; rw [hg]; exact ⟨e₁, s₁, hr, hqt e₁ s₁ he, rfl, rfl⟩, fin e₁ s₁ he⟩
  | suspended k₀ l₀ c₀ p₀ fs₀ cl =>
    obtain ⟨e₁, s₁, hr, he⟩ := hgo (Γ.wake c₀ p) p₀ rfl (hB c₀)
    exact ⟨_, _, by unfold Wakes; rw [hg]; exact ⟨e₁, s₁, hr, hqt e₁ s₁ he, rfl, rfl⟩, fin e₁ s₁ he⟩
  | running => exact hgo.elim
  | finished => exact hgo.elim
end
section
variable {P : Program} {w : World} {A : Around} {E : Value → Shared → Prop} {s : Shared}
/-- next(g) where an iteration asks for it -/
theorem next1 {a : Addr} {g : Nat} {gs : GenState} {F : Shared → Prop} {Er : Value → Shared → Prop} {Y : YW} {Q : Option Value → Shared → Prop} (hh : A.handled = none)
    (hl : s.heap.NoLimit) (hroom : A.depth < recursionLimit) (hg : s.heap.IsGen a g) (hgs : s.gens[g]? = some gs)
    (hgo : Wake (model P w) A.in1 (fun r s₁ => ((r = .ok (.ret .none) ∨ r = .ok .next) ∧ F s₁) ∨ ∃ e, r = .error e ∧ Er e s₁) Y gs (s.setGen g .running))
    (hY : ∀ v s₁ gs', ok1 gs' → Y v gs' s₁ → Q (some v) (s₁.setGen g gs'))
    (hP : ∀ s₁, F s₁ → ∀ h', (∀ b o, s₁.heap.get? b = some o → h'.get? b = some o) → Q none { s₁.setGen g .finished with heap := h' })
    (hE : ∀ e s₁, Er e s₁ → s₁.heap.IsGen a g ∧ L2.NotStop (model P w) e s₁.heap ∧ E e (s₁.setGen g .finished)) : wpAny (model P w) A (pyNext (.ref a)) Q E s := by
  unfold pyNext
  refine' wpAny_bind (wpAny_attempt ?_)
  refine' wpAny_callSpecial?_slot (name := Str.ofString "__next__") hg.typeIs slot_gen_next ?_
  refine' wpAny_call_entry slot_gen_next hg.typeIs entry_gen_next ?_ (args_gen_next _)
  show wpAny _ _ (Builtin.Generator.genWake (.ref a) (.send .none)) _ _ _
  unfold Builtin.Generator.genWake
  refine' wpAny_bind (wpAny_holding (wpAny_genNumber hg ?_))
  refine' wpAny_bind (wpAny_genState hgs ?_)
  cases gs with
  | running => exact hgo.elim
  | finished => exact hgo.elim
  | _ =>
    refine' wpAny_bind (wpAny_roomToWake hl hroom ?_)
    show wpAny _ _ (.resume g (.send .none) [] _) _ _ _
    refine' resume1 hgs hgo (fun x t hx => ?_) (fun v t gs' hb hv => wpAny_pure ⟨v, rfl, wpAny_pure (hY v t gs' hb hv)⟩)
    rcases hx with ⟨hr, hp⟩ | ⟨e, rfl, he⟩
    · rw [show (End.ret x).result = GenResult.returned .none from by rcases hr with z | z <;> (rw [z]; rfl)]
      show wpAny _ _ (newExc (.type "StopIteration") [] >>= _) _ _ _
      refine' wpAny_bind ?_
      simp only [newExc, newTuple]
      refine' wpAny_bind (wpAny_newObj_type ?_ (by size_fits))
      refine' wpAny_bind (m := firstArgMember _ _) (wpAny_of_eq (a := Value.none) (by first | rfl | (simp only [firstArgMember]; rfl)) ?_)
      refine' wpAny_newObj_type ?_ (by size_fits)
      simp only [raiseNew]
      refine' wpAny_bind (wpAny_bind (wpAny_handled ?_))
      first | rw [show A.in1.handled = none from hh] | rw [hh]
      refine' wpAny_throw ?_
      refine' wpAny_bind (wpAny_isInstance (T := "StopIteration") (b := true) ⟨_, Heap.get?_push_size _ rfl, rfl⟩ isSubtype_stop ?_)
      exact wpAny_pure (hP t hp _ fun b o z => Heap.get?_push_of_some _ (Heap.get?_push_of_some _ z))
    · obtain ⟨hg1, hns, hq⟩ := hE e t he
      obtain ⟨o, nm, qn, ho, hc, hd, hsl⟩ := hg1
      show wpAny _ _ (Builtin.Generator.genLeft (.ref a) e) _ _ _
      unfold Builtin.Generator.genLeft Builtin.Generator.madeByALambda
      refine' wpAny_bind (wpAny_bind (wpAny_load (o := o) ho (wpAny_pure ?_)))
      refine' wpAny_bind (hns _ _ _ _ rfl ?_)
      rw [Bool.and_false, if_neg Bool.false_ne_true]
      unfold Builtin.Generator.genEscaped
      first
        | refine' wpAny_bind (hns _ _ _ _ rfl ?_)
        | refine' wpAny_bind (wpAny_pure (wpAny_bind (hns _ _ _ _ rfl ?_)))
      rw [if_pos (show (!false) = true from rfl)]
      first
        | refine' wpAny_throw ?_
        | refine' wpAny_bind (wpAny_throw ?_)
      refine' wpAny_bind (hns _ _ _ _ rfl ?_)
      rw [if_neg Bool.false_ne_true]
      exact wpAny_throw hq
end
end Gz
/-! A generator as whoever walks it sees it. -/
namespace Gz
open PySem PySem.Spec PyProof.Rows GenW L2
/-- the heap's first objects -/
def cut (L : Addr) (h : Heap) : Heap := ⟨h.objs.extract 0 L, h.life⟩
section
variable {L a : Addr} {h : Heap} {o : Obj}
theorem cut_get (hL : a < L) : (cut L h).get? a = h.get? a := by
  have : (h.objs.extract 0 L)[a]? = h.objs[a]? := by
    rw [Array.getElem?_extract]
    by_cases z : a < h.objs.size
    · have : a < min L h.objs.size - 0 := by
        rw [Nat.sub_zero]
        exact Nat.lt_min.mpr ⟨hL, z⟩
      rw [if_pos this, Nat.zero_add]
    · rw [if_neg (fun y => z (Nat.lt_of_lt_of_le y (Nat.le_trans (Nat.sub_le _ _) (Nat.min_le_right _ _)))), Array.getElem?_eq_none (Nat.le_of_not_lt z)]
  unfold Heap.get? cut
  dsimp only
  rw [this]
theorem cut_none (hL : L ≤ a) : (cut L h).get? a = none := by
  have : (h.objs.extract 0 L)[a]? = none := by
    rw [Array.getElem?_extract, if_neg (fun y => absurd (Nat.lt_of_lt_of_le y (Nat.le_trans (Nat.sub_le _ _) (Nat.min_le_left _ _))) (Nat.not_lt.mpr hL))]
  unfold Heap.get? cut
  dsimp only
  rw [this]
theorem cut_sub (e : (cut L h).get? a = some o) : a < L ∧ h.get? a = some o := by
  by_cases hL : a < L
  · exact ⟨hL, (cut_get hL).symm.trans e⟩
  · rw [cut_none (Nat.le_of_not_lt hL)] at e; cases e
theorem cut_size (hL : L ≤ h.objs.size) : (cut L h).objs.size = L := by
  show (h.objs.extract 0 L).size = L
  rw [Array.size_extract, Nat.sub_zero]
  exact Nat.min_eq_left hL
end
def cutS (L : Addr) (s : Shared) : Shared := { s with heap := cut L s.heap }
/-- who walks: the program, the ground, the around of next, the frames below, where the generator's frame stands -/
structure GE where
  P : Program
  w : World
  base : Heap
  A : Around
  outer : List Env
  L : Addr
/-- what a sleeping generator has of its own: objects, other generators -/
structure Fp where
  hp : List (Addr × Obj)
  gl : List (Nat × GenState)
/-- how a generator behaves: at its i-th waking; the heap at its last yield, the heap now; what is wanted of what it yields, of its end -/
abbrev Beh := Nat → Hp → Hp → (V → Hp → Prop) → (Hp → Prop) → Prop
/-- the ground on which it may be woken -/
structure Gnd (e : GE) (g : Nat) (s : Shared) (H : Hp) (ps : List (Addr × Obj)) (fp : Fp) : Prop where
  le : e.L ≤ s.heap.objs.size
  gn : g < s.gens.size
  bs : ∀ b o, e.base.get? b = some o → s.heap.get? b = some o ∧ H b = none
  funs : s.heap.FunFrames e.base e.outer
  frf : ∀ b ∈ frs e.outer, H b = none
  hok : HOk e.P e.w H s.heap
  bare : AllBare s.gens
  pn : ∀ p ∈ ps, s.heap.get? p.1 = some p.2 ∧ H p.1 = none ∧ (∀ v, p.2.data ≠ .cell v) ∧ p.1 ∉ frs e.outer ∧ ∀ q ∈ fp.hp, q.1 ≠ p.1
  hp : ∀ p ∈ fp.hp, s.heap.get? p.1 = some p.2 ∧ H p.1 = none
  gl : ∀ p ∈ fp.gl, p.1 ≠ g ∧ ok1 p.2 ∧ s.gens[p.1]? = some p.2
/-- what has come of the state (s, H) where it stops -/
structure Out (e : GE) (g : Nat) (s : Shared) (H : Hp) (s1 : Shared) (H1 : Hp) (ps : List (Addr × Obj)) (ks : List Nat) (fp : Fp) : Prop where
  os : s1.os = s.os
  bare : AllBare s1.gens
  un : Un (frs e.outer) [] H H1 (cut e.L s.heap) s1.heap
  hok : HOk e.P e.w H1 s1.heap
  pn : ∀ p ∈ ps, s1.heap.get? p.1 = some p.2 ∧ H1 p.1 = none
  hp : ∀ p ∈ fp.hp, s1.heap.get? p.1 = some p.2 ∧ H1 p.1 = none ∧ e.L ≤ p.1 ∧ (∀ v, p.2.data ≠ .cell v) ∧ ∀ q ∈ ps, p.1 ≠ q.1
  gl : ∀ p ∈ fp.gl, p.1 ≠ g ∧ ok1 p.2 ∧ s1.gens[p.1]? = some p.2 ∧ (p.1 ∈ ks ∨ s.gens.size ≤ p.1)
/-- asleep (or fresh): what its next n runs do -/
def Slp (e : GE) (gn : Nat) (rs : Beh) : Nat → Nat → Hp → GenState → Fp → Prop
  | 0, _, _, _, _ => True
  | n + 1, i, H0, gs, fp => ∀ (s : Shared) (H : Hp) (Y : V → Hp → Prop) (F : Hp → Prop) (pn : List (Addr × Obj)), Gnd e gn s H pn fp → rs i H0 H Y F →
      Wake (model e.P e.w) e.A (fun r s1 => (r = .ok (.ret .none) ∨ r = .ok .next) ∧ ∃ H1, Out e gn s H s1 H1 pn (fp.gl.map (·.1)) ⟨[], []⟩ ∧ F H1)
        (fun v gs' s1 => ∃ x H1 fp', RelV x v ∧ Out e gn s H s1 H1 pn (fp.gl.map (·.1)) fp' ∧ Y x H1 ∧ Slp e gn rs n (i + 1) H1 gs' fp') gs s
/-- the walker's own frame stands below -/
structure Low (X : Cx) (L : Addr) : Prop where
  loc : X.env.locals < L
  cell : ∀ x c, X.env.cells.lookup x = some c → c < L
  s0 : X.s_0.heap.objs.size ≤ L
  fs : ∀ b ∈ frs X.stack, b < L
abbrev geOf (X : Cx) (L : Addr) : GE := ⟨X.prog, X.w, X.base, X.A.in1, X.stack, L⟩
/-- what the walker knows of the generator at a while it does something else -/
structure Held (X : Cx) (L : Addr) (pins : List (Addr × Obj)) (a : Addr) (oa : Obj) (g : Nat) (rs : Beh) (n i : Nat) (H0 : Hp) (st : GenState) (fp : Fp) (σ : L2.St) (H : Hp) (s : Shared) : Prop where
  I : Inv X (pins ++ (a, oa) :: fp.hp) σ H s
  isg : ∀ h : Heap, h.get? a = some oa → h.IsGen a g
  gs : s.gens[g]? = some st
  apart : ∀ p ∈ X.pn ++ (pins ++ [(a, oa)]), ∀ q ∈ fp.hp, q.1 ≠ p.1
  gl : ∀ p ∈ fp.gl, p.1 ≠ g ∧ ok1 p.2 ∧ s.gens[p.1]? = some p.2
  slp : Slp (geOf X L) g rs n i H0 st fp
  la : L ≤ a
  an : ∀ p ∈ X.pn ++ pins, a ≠ p.1
  hge : ∀ q ∈ fp.hp, L ≤ q.1
theorem Held.isGen {X : Cx} {L : Addr} {pins : List (Addr × Obj)} {a : Addr} {oa : Obj} {g : Nat} {rs : Beh} {n i : Nat} {H0 : Hp} {gs : GenState} {fp : Fp} {σ : L2.St} {H : Hp} {s : Shared} (h : Held X L pins a oa g rs n i H0 gs fp σ H s) : s.heap.IsGen a g :=
  h.isg _ (h.I.pin (a, oa) (List.mem_append_right _ (List.mem_append_right _ List.mem_cons_self))).1
theorem setGen_ne {s : Shared} {g i : Nat} {x : GenState} (h : i ≠ g) : (s.setGen g x).gens[i]? = s.gens[i]? := by
  show (s.gens.setIfInBounds g x)[i]? = _
  rw [Array.getElem?_setIfInBounds_ne (Ne.symm h)]
/-- the walker behind a run of the generator -/
theorem Inv.ran {X : Cx} {L : Addr} {pins : List (Addr × Obj)} {gn : Nat} {σ : L2.St} {H H1 : Hp} {s s1 : Shared} {ks : List Nat} {fp : Fp} (lo : Low X L) (I : Inv X pins σ H s) (o : Out (geOf X L) gn s H s1 H1 (X.pn ++ pins) ks fp) : Inv X (pins ++ fp.hp) σ H1 s1 := by
  have nst : ∀ {b}, b ∈ frs X.stack → b < L := fun hb => lo.fs _ hb
  let ch : List Addr := (List.range s.heap.objs.size).filter fun b => decide (L ≤ b ∧ ∀ p ∈ X.pn ++ pins, p.1 ≠ b)
  have inCh : ∀ {b ob}, s.heap.get? b = some ob → b ∉ ch → b < L ∨ ∃ p ∈ X.pn ++ pins, p.1 = b := fun {b ob} e n => by
    by_cases hL : b < L
    · exact .inl hL
    · refine .inr (Classical.byContradiction fun z => n (List.mem_filter.mpr ⟨List.mem_range.mpr (Heap.lt_size e), decide_eq_true ⟨Nat.le_of_not_lt hL, fun p hp q => z ⟨p, hp, q⟩⟩⟩))
  have un : Un (frs X.stack) ch H H1 s.heap s1.heap := by
    refine ⟨fun b ob e n hb hx => ?_, fun b ob e n hb hx => ?_, fun b ob e n hx => ?_, fun b ob e hx => ?_, o.un.tups, o.un.frzs, o.un.tbls⟩
    · rcases inCh e hx with hL | ⟨p, hp, rfl⟩
      · exact o.un.keep b ob ((cut_get hL).trans e) n hb (by simp)
      · have h1 := (I.pin p hp).1
        rw [e] at h1
        cases h1
        exact (o.pn p hp).1
    · exact o.un.slot b ob ((cut_get (nst hb)).trans e) n hb (by simp)
    · rcases inCh e hx with hL | ⟨p, hp, rfl⟩
      · exact o.un.free b ob ((cut_get hL).trans e) n (by simp)
      · exact (o.pn p hp).2
    · rcases inCh e hx with hL | ⟨p, hp, rfl⟩
      · exact o.un.there b ob ((cut_get hL).trans e) (by simp)
      · exact ⟨_, (o.pn p hp).1⟩
  have J : Inv X pins σ H1 s1 := I.call' o.os un o.hok o.bare fun b hb => by
    have hb := of_decide_eq_true (List.mem_filter.mp hb).2
    exact ⟨.inr (Nat.le_trans lo.s0 hb.1), fun z => absurd lo.loc (by rw [← z]; exact Nat.not_lt.mpr hb.1), fun x c e z => absurd (lo.cell x c e) (by rw [z]; exact Nat.not_lt.mpr hb.1), hb.2⟩
  refine J.pins_of fun p hp => ?_
  rcases List.mem_append.mp hp with hp | hp
  · exact J.pin p (List.mem_append_right _ hp)
  · obtain ⟨h1, h2, h3, h4, _⟩ := o.hp p hp
    refine ⟨h1, h2, fun z => absurd lo.loc (by rw [← z]; exact Nat.not_lt.mpr h3), fun z => ?_, h4⟩
    have : p.1 ∈ frs X.stack := by
      rcases I.ok.stk with e | ⟨e, hf⟩
      · rw [e]; exact z
      · rw [e]
        unfold frs
        rw [List.filterMap_cons, hf]
        exact List.mem_cons_of_mem _ z
    exact absurd (nst this) (Nat.not_lt.mpr h3)
end Gz
/-! A def that walks a generator by `for`. -/
namespace Gz
open PySem PySem.Spec PyProof.Rows GenW L2
/-- all that had begun is as it was -/
def KpG (s s' : Shared) : Prop := ∀ (i : Nat) (o : GenState), s.gens[i]? = some o → kp o = true → s'.gens[i]? = some o
theorem KpG.refl {s : Shared} : KpG s s := fun _ _ e _ => e
theorem KpG.trans {s s1 s2 : Shared} (a : KpG s s1) (b : KpG s1 s2) : KpG s s2 := fun i o e k => b i o (a i o e k) k
abbrev oldOf (s : Shared) : Tb := allBut [] s.gens
abbrev husht (s : Shared) : Shared := hush (oldOf s) s
/-- a piece of the walker's own code -/
theorem thnG {α : Type} {M : Model} {A : Around} {t : Sem α} {Q Q' : α → Shared → Prop} {E E' : Value → Shared → Prop} {s : Shared} (h : wpAny M A t Q E (husht s)) (hQ : ∀ a s1, MG (oldOf s) s1.gens → KpG s (up (oldOf s) s1) → Q a s1 → Q' a (up (oldOf s) s1))
    (hE : ∀ e s1, MG (oldOf s) s1.gens → E e s1 → E' e (up (oldOf s) s1)) : wpAny M A t Q' E' s := by
  have st : Stay0 (oldOf s) s.gens := allBut_stay fun _ _ _ _ _ _ _ z => by cases z
  refine wpAny_mono (wpAny_hush st h) (fun a s' => ?_) (fun e s' => ?_)
  · rintro ⟨s1, m, rfl, q⟩
    exact hQ a s1 m (fun i o e k => up_kept m (allBut_in (by simp) k e)) q
  · rintro ⟨s1, m, rfl, q⟩
    exact hE e s1 m q
section
variable {X : Cx} {pins : List (Addr × Obj)} {σ : L2.St} {H : Hp} {s s1 : Shared}
theorem _root_.L2.Inv.upG (I : Inv X pins σ H s1) (hb : AllBare s.gens) : Inv X pins σ H (up (oldOf s) s1) := I.up (allBut_bare hb)
/-- an expression that makes a generator; its behaviour -/
abbrev TGz := L2.St → Hp → (Beh → Hp → Prop) → Prop
structure PGz (X : Cx) (e : Expr) (t : TGz) : Prop where
  run : ∀ (pins : List (Addr × Obj)) (s : Shared) (σ : L2.St) (H : Hp) (C : Beh → Hp → Prop), Inv X pins σ H s → t σ H C →
    wpAny (model X.prog X.w) X.A (eval e X.env) (fun u s1 => ∃ a oa g L c fp rs H1, u = .ref a ∧ Low X L ∧ s.gens.size ≤ g ∧ fp.gl = [] ∧ (∀ p ∈ X.pn ++ pins, p.1 < L) ∧ (∀ n, Held X L pins a oa g rs n 0 H1 (.fresh c) fp σ H1 s1) ∧ C rs H1) X.xe s
/-- the step ahead of the store is nothing at a generator -/
theorem go_gen {M : Model} {A : Around} {E : Value → Shared → Prop} {s : Shared} {tg : Expr} {a : Addr} {g : Nat} {u : Value} {Q : Unit → Shared → Prop} (hg : s.heap.IsGen a g) (hQ : Q () s) : wpAny M A (letOwnedTupleGo tg (.ref a) u) Q E s := by
  obtain ⟨o, nm, qn, ho, hc, hd, _⟩ := hg
  exact go_of ho hc hd (by decide) hQ
theorem Held.kept {L : Addr} {a : Addr} {oa : Obj} {g : Nat} {rs : Beh} {n i : Nat} {H0 : Hp} {gs : GenState} {fp : Fp} (h : Held X L pins a oa g rs n i H0 gs fp σ H s) (k : kp gs = true) (kg : KpG s s1) {σ' : L2.St} {H' : Hp} (I : Inv X (pins ++ (a, oa) :: fp.hp) σ' H' s1) :
    Held X L pins a oa g rs n i H0 gs fp σ' H' s1 := ⟨I, h.isg, kg g gs h.gs k, h.apart, fun p hp => ⟨(h.gl p hp).1, (h.gl p hp).2.1, kg _ _ (h.gl p hp).2.2 (h.gl p hp).2.1.kp⟩, h.slp, h.la, h.an, h.hge⟩
end
end Gz
/-! A generator def's body, statement by statement; between two yields anything may happen outside. -/
namespace Gz
open PySem PySem.Spec PyProof.Rows GenW L2
/-- a generator that runs: where, which, how it behaves -/
structure GKn where
  e : GE
  K : PySem.W.Frag
  mg : Str → Option Value
  N : List Str
  env : Env
  g : Nat
  rs : Beh
/-- the context of a run that began at (s, H) -/
@[reducible] def GKn.X (G : GKn) (s : Shared) (H : Hp) (ps : List (Addr × Obj)) : Cx where
  prog := G.e.P
  w := G.e.w
  K := G.K
  mg := G.mg
  base := G.e.base
  A := G.e.A.deeper G.env
  N := G.N
  s_0 := s
  H_0 := H
  env := G.env
  outer := G.e.outer
  stack := G.env :: G.e.outer
  ex := []
  calm := true
  fn := fun _ => false
  pn := ps
  xe := fun _ _ => False
/-- the wishes of a run: its number, of what it yields, of its end -/
structure Wi where
  i : Nat
  Y : V → Hp → Prop
  F : Hp → Prop
structure GD where
  nx : Wi → L2.St → Hp → Prop
  rt : Wi → V → Hp → Prop
  bk : Wi → L2.St → Hp → Prop := fun _ _ _ => False
  ct : Wi → L2.St → Hp → Prop := fun _ _ _ => False
def GD.at (D : GD) (W : Wi) : Ends := { nx := D.nx W, rt := D.rt W, bk := D.bk W, ct := D.ct W }
abbrev TN := GD → Wi → L2.St → Hp → Prop
/-- the run that began at (s0, H0), with the pins ps, stands at s; of its own: ip, gl -/
structure Gst (G : GKn) (s0 : Shared) (H0 : Hp) (ps : List (Addr × Obj)) (ks : List Nat) (ip : List (Addr × Obj)) (gl : List (Nat × GenState)) (σ : L2.St) (H : Hp) (s : Shared) : Prop where
  I : Inv (G.X (cutS G.e.L s0) H0 ps) ip σ H s
  le : G.e.L ≤ s0.heap.objs.size
  gn : G.g < s.gens.size
  gz : s0.gens.size ≤ s.gens.size
  gl : ∀ p ∈ gl, p.1 ≠ G.g ∧ ok1 p.2 ∧ s.gens[p.1]? = some p.2 ∧ (p.1 ∈ ks ∨ s0.gens.size ≤ p.1)
  apart : ∀ p ∈ ps, ∀ q ∈ ip, q.1 ≠ p.1
  ge : ∀ q ∈ ip, G.e.L ≤ q.1
/-- its cells are of the ground -/
structure GWf (G : GKn) : Prop where
  loc : G.env.locals = G.e.L
  cl : ∀ x c, G.env.cells.lookup x = some c → ∃ o, G.e.base.get? c = some o
  hd : G.e.A.handled = none
  fr : G.e.A.frames = some G.e.outer
section
variable {G : GKn} {s0 s : Shared} {H0 H : Hp} {ps ip : List (Addr × Obj)} {ks : List Nat} {gl : List (Nat × GenState)} {σ : L2.St}
/-- what it leaves where it stops -/
theorem Gst.out (wf : GWf G) (h : Gst G s0 H0 ps ks ip gl σ H s) : ∃ oL, s.heap.get? G.e.L = some oL ∧ Out G.e G.g s0 H0 s H ps ks ⟨(G.e.L, oL) :: ip, gl⟩ := by
  obtain ⟨m, ⟨oL, es, ep, hL, hd⟩, _⟩ := id h.I.loc
  have hL : s.heap.get? G.e.L = some oL := by rw [← wf.loc]; exact hL
  have hfree : H G.e.L = none := by rw [← wf.loc]; exact h.I.free
  refine ⟨oL, hL, h.I.os, h.I.bare, h.I.base, h.I.hok, fun p hp => ?_, fun p hp => ?_, h.gl⟩
  · obtain ⟨h1, h2, _⟩ := h.I.pin p (List.mem_append_left _ hp)
    exact ⟨h1, h2⟩
  · rcases List.mem_cons.mp hp with rfl | hp
    · refine ⟨hL, hfree, Nat.le_refl _, fun v z => (by rw [hd.1] at z; cases z), fun q hq z => ?_⟩
      obtain ⟨_, _, h3, _⟩ := h.I.pin q (List.mem_append_left _ hq)
      exact h3 (by show q.1 = G.env.locals; rw [wf.loc]; exact z.symm)
    · obtain ⟨h1, h2, _, _, h5⟩ := h.I.pin p (List.mem_append_right _ hp)
      exact ⟨h1, h2, h.ge p hp, h5, fun q hq => h.apart q hq p hp⟩
theorem Gst.out0 (wf : GWf G) (h : Gst G s0 H0 ps ks ip gl σ H s) : Out G.e G.g s0 H0 s H ps ks ⟨[], []⟩ := by
  obtain ⟨oL, _, o⟩ := h.out wf
  exact ⟨o.os, o.bare, o.un, o.hok, o.pn, fun p hp => (by cases hp), fun p hp => (by cases hp)⟩
/-- woken again, on another ground -/
theorem Gst.rise (wf : GWf G) {s2 : Shared} {H2 : Hp} {ps2 : List (Addr × Obj)} {oL : Obj} (h : Gst G s0 H0 ps ks ip gl σ H s) (hL : s.heap.get? G.e.L = some oL) (g : Gnd G.e G.g s2 H2 ps2 ⟨(G.e.L, oL) :: ip, gl⟩) : Gst G s2 H2 ps2 (gl.map (·.1)) ip gl σ H2 s2 := by
  have z0 : (cut G.e.L s0.heap).objs.size = G.e.L := cut_size h.le
  have z2 : (cut G.e.L s2.heap).objs.size = G.e.L := cut_size g.le
  have hbz : G.e.base.objs.size ≤ G.e.L := by
    have := h.I.ok.bsz
    rw [show (G.X (cutS G.e.L s0) H0 ps).s_0.heap.objs.size = G.e.L from z0] at this
    exact this
  have frl : ∀ b ∈ frs G.e.outer, b < G.e.L := fun b hb => by
    obtain ⟨_, o, ho, _⟩ := h.I.ok.funs.mem hb
    exact (cut_sub ho).1
  have e2 : s2.heap.get? G.e.L = some oL := (g.hp (G.e.L, oL) List.mem_cons_self).1
  have funs : (cut G.e.L s2.heap).FunFrames G.e.base G.e.outer := by
    have all : ∀ l : List Env, (∀ b ∈ frs l, b < G.e.L) → s2.heap.FunFrames G.e.base l → (cut G.e.L s2.heap).FunFrames G.e.base l := by
      intro l
      induction l with
      | nil => intro _ _; trivial
      | cons env r ih =>
        intro hb hl
        obtain ⟨hk, ⟨L', o, hf, hn, ho, hd⟩, hr⟩ := hl
        have hm : L' ∈ frs (env :: r) := by unfold frs; rw [List.filterMap_cons, hf]; exact List.mem_cons_self
        exact ⟨hk, ⟨L', o, hf, hn, (cut_get (hb L' hm)).trans ho, hd⟩, ih (fun b q => hb b (by unfold frs; rw [List.filterMap_cons, hf]; exact List.mem_cons_of_mem _ q)) hr⟩
    exact all _ frl g.funs
  have cellK : ∀ x c v, G.env.cells.lookup x = some c → s.heap.IsCell c v → s2.heap.IsCell c v := fun x c v e z => by
    obtain ⟨o, ho⟩ := wf.cl x c e
    obtain ⟨o', ho', hd'⟩ := z
    have := h.I.bk c o ho
    rw [ho'] at this
    cases this
    exact ⟨_, (g.bs c _ ho).1, hd'⟩
  refine ⟨⟨⟨h.I.ok.mod, h.I.ok.kind, h.I.ok.glob, h.I.ok.blt, by show (cut G.e.L s2.heap).objs.size ≤ G.env.locals; rw [z2, wf.loc]; exact Nat.le_refl _, h.I.ok.inj, h.I.ok.has, fun x c z _ => (by cases z), fun _ => h.I.ok.hd rfl, h.I.ok.frames, h.I.ok.stk, fun b q => (by cases q), fun b o e => ⟨(cut_get (Nat.lt_of_lt_of_le (Heap.lt_size e) hbz)).trans (g.bs b o e).1, (g.bs b o e).2⟩, by show _ ≤ (cut G.e.L s2.heap).objs.size; rw [z2]; exact hbz, fun b o e q => (by cases q), fun b q => (by cases q), funs, g.frf⟩,
    rfl, g.bare, Un.kept fun b u q => (cut_sub q).2, ?_, fun x c e => let ⟨v, z⟩ := h.I.cell x c e; ⟨v, cellK x c v e z⟩, by show H2 G.env.locals = none; rw [wf.loc]; exact (g.hp (G.e.L, oL) List.mem_cons_self).2, fun x c e => let ⟨o, ho⟩ := wf.cl x c e; (g.bs c o ho).2, fun p hp => ?_, g.hok, h.I.len⟩, g.le, g.gn, Nat.le_refl _, fun p hp => ⟨(g.gl p hp).1, (g.gl p hp).2.1, (g.gl p hp).2.2, .inl (List.mem_map.mpr ⟨p, hp, rfl⟩)⟩, fun p hp q hq => (g.pn p hp).2.2.2.2 q (List.mem_cons_of_mem _ hq), h.ge⟩
  · obtain ⟨m, ⟨o', es, ep, ho, hd⟩, hl⟩ := h.I.loc
    have ho : s.heap.get? G.env.locals = some o' := ho
    rw [wf.loc, hL] at ho
    cases ho
    refine ⟨m, ⟨oL, es, ep, by show s2.heap.get? G.env.locals = _; rw [wf.loc]; exact e2, hd⟩, fun i x v e1 e3 e4 => ?_⟩
    obtain ⟨u, r, l⟩ := hl i x v e1 e3 e4
    refine ⟨u, r, ?_⟩
    rcases l with l | ⟨kk, c, e, z⟩
    · exact .inl l
    · exact .inr ⟨kk, c, e, cellK x c _ e z⟩
  · rcases List.mem_append.mp hp with hp | hp
    · obtain ⟨h1, h2, h3, h4, h5⟩ := g.pn p hp
      exact ⟨h1, h2, fun z => h5 (G.e.L, oL) List.mem_cons_self (by rw [z]; exact wf.loc.symm), h4, h3⟩
    · obtain ⟨h1, h2⟩ := g.hp p (List.mem_cons_of_mem _ hp)
      obtain ⟨_, _, h3, h4, h5⟩ := h.I.pin p (List.mem_append_right _ hp)
      exact ⟨h1, h2, h3, h4, h5⟩
/-- how a run ends -/
def GRw (G : GKn) (s0 : Shared) (H0 : Hp) (ps : List (Addr × Obj)) (ks : List Nat) (W : Wi) : RW := fun r s1 => (r = .ok (.ret .none) ∨ r = .ok .next) ∧ ∃ H1, Out G.e G.g s0 H0 s1 H1 ps ks ⟨[], []⟩ ∧ W.F H1
def GYw (G : GKn) (n : Nat) (s0 : Shared) (H0 : Hp) (ps : List (Addr × Obj)) (ks : List Nat) (W : Wi) : YW := fun v gs' s1 => ∃ x H1 fp', RelV x v ∧ Out G.e G.g s0 H0 s1 H1 ps ks fp' ∧ W.Y x H1 ∧ Slp G.e G.g G.rs n (W.i + 1) H1 gs' fp'
abbrev GSg (G : GKn) (n : Nat) (s0 : Shared) (H0 : Hp) (ps : List (Addr × Obj)) (ks : List Nat) (W : Wi) (c : Code) (t : Sem PySem.Fin) (fs : List Frame) (s : Shared) : Prop :=
  Sg (model G.e.P G.e.w) G.e.A (GRw G s0 H0 ps ks W) (GYw G n s0 H0 ps ks W) c t fs s
def GSPx (G : GKn) (s0 : Shared) (H0 : Hp) (ps : List (Addr × Obj)) (ks : List Nat) (ip : List (Addr × Obj)) (gl : List (Nat × GenState)) (D : GD) (W : Wi) (f : Flow) (s : Shared) : Prop :=
  match f with
  | .next => ∃ σ H, Gst G s0 H0 ps ks ip gl σ H s ∧ D.nx W σ H
  | .brk => ∃ σ H, Gst G s0 H0 ps ks ip gl σ H s ∧ D.bk W σ H
  | .cont => ∃ σ H, Gst G s0 H0 ps ks ip gl σ H s ∧ D.ct W σ H
  | .ret u => ∃ v σ H, Gst G s0 H0 ps ks ip gl σ H s ∧ RelV v u ∧ D.rt W v H
/-- where its code stands -/
structure GCo (G : GKn) (c : Code) (fs : List Frame) (gd : Bool → Bool) : Prop where
  over : G.e.A.over c fs = G.e.A.deeper G.env
  split : allRet fs
  guard : fs.any Frame.guarded = false
  gd : gd false = false
/-- what follows, in this run or a later one -/
def GKo (G : GKn) (ip : List (Addr × Obj)) (gl : List (Nat × GenState)) (n : Nat) (c : Code) (fs : List Frame) (Kf : Flow → Sem PySem.Fin) (D : GD) : Prop :=
  ∀ n' s0 H0 ps ks W s f, n' ≤ n → GSPx G s0 H0 ps ks ip gl D W f s → GSg G n' s0 H0 ps ks W c (Kf f) fs s
theorem GKo.le {ip : List (Addr × Obj)} {gl : List (Nat × GenState)} {n n' : Nat} {c : Code} {fs : List Frame} {Kf : Flow → Sem PySem.Fin} {D : GD} (k : GKo G ip gl n c fs Kf D) (h : n' ≤ n) : GKo G ip gl n' c fs Kf D := fun m s0 H0 ps ks W s f hm => k m s0 H0 ps ks W s f (Nat.le_trans hm h)
structure GN (G : GKn) (st : Stmt) (t : TN) : Prop where
  run : ∀ (ip : List (Addr × Obj)) (gl : List (Nat × GenState)) (n : Nat) (c : Code) (fs : List Frame) (Kf : Flow → Sem PySem.Fin) (J : Value → Sem PySem.Fin) (gd : Bool → Bool) (lv : List Value → List Value) (s0 s : Shared) (H0 H : Hp) (ps : List (Addr × Obj)) (ks : List Nat) (W : Wi) (σ : L2.St) (D : GD),
    GCo G c fs gd → GKo G ip gl n c fs Kf D → Gst G s0 H0 ps ks ip gl σ H s → t D W σ H → GSg G n s0 H0 ps ks W c ((exec st G.env).wrap Kf J gd lv) fs s
structure GNs (G : GKn) (sts : List Stmt) (t : TN) : Prop where
  run : ∀ (ip : List (Addr × Obj)) (gl : List (Nat × GenState)) (n : Nat) (c : Code) (fs : List Frame) (Kf : Flow → Sem PySem.Fin) (J : Value → Sem PySem.Fin) (gd : Bool → Bool) (lv : List Value → List Value) (s0 s : Shared) (H0 H : Hp) (ps : List (Addr × Obj)) (ks : List Nat) (W : Wi) (σ : L2.St) (D : GD),
    GCo G c fs gd → GKo G ip gl n c fs Kf D → Gst G s0 H0 ps ks ip gl σ H s → t D W σ H → GSg G n s0 H0 ps ks W c ((execs sts G.env).wrap Kf J gd lv) fs s
/-- behind a piece of plain code -/
theorem Gst.piece {s1 : Shared} {σ' : L2.St} {H' : Hp} {ip' : List (Addr × Obj)} (h : Gst G s0 H0 ps ks ip gl σ H s) (k : KpG s (up (oldOf s) s1)) (hz : s.gens.size ≤ (up (oldOf s) s1).gens.size) (I : Inv (G.X (cutS G.e.L s0) H0 ps) ip' σ' H' s1) (hi : ∀ q ∈ ip', q ∈ ip) : Gst G s0 H0 ps ks ip' gl σ' H' (up (oldOf s) s1) :=
  ⟨I.upG h.I.bare, h.le, Nat.lt_of_lt_of_le h.gn hz, Nat.le_trans h.gz hz, fun p hp => ⟨(h.gl p hp).1, (h.gl p hp).2.1, k _ _ (h.gl p hp).2.2.1 (h.gl p hp).2.1.kp, (h.gl p hp).2.2.2⟩, fun p hp q hq => h.apart p hp q (hi q hq), fun q hq => h.ge q (hi q hq)⟩
/-- plain code of the generator -/
theorem Gst.thn {α : Type} {t : Sem α} {Q : α → Shared → Prop} {Q' : α → Shared → Prop} {E' : Value → Shared → Prop} (h : Gst G s0 H0 ps ks ip gl σ H s) (hw : wpAny (model G.e.P G.e.w) (G.e.A.deeper G.env) t Q (fun _ _ => False) (husht s))
    (hQ : ∀ a s1, MG (oldOf s) s1.gens → KpG s (up (oldOf s) s1) → s.gens.size ≤ (up (oldOf s) s1).gens.size → Q a s1 → Q' a (up (oldOf s) s1)) : wpAny (model G.e.P G.e.w) (G.e.A.deeper G.env) t Q' E' s := by
  refine wpAny_gsz (n := s.gens.size) (Nat.le_refl _) ?_
  exact thnG hw (fun a s1 m k q hz => hQ a s1 m k hz q) fun e s1 m z => z.elim
/-- a statement that yields nothing -/
def tPl (t : Shared → Hp → List (Addr × Obj) → TS) : TN := fun D W σ H => ∀ s H0 ps, t s H0 ps (D.at W) σ H
theorem gsp_of {D : GD} {W : Wi} {f : Flow} {s1 : Shared} (h : Gst G s0 H0 ps ks ip gl σ H s) (k : KpG s (up (oldOf s) s1)) (hz : s.gens.size ≤ (up (oldOf s) s1).gens.size) (q : SP (G.X (cutS G.e.L s0) H0 ps) ip (D.at W) f s1) : GSPx G s0 H0 ps ks ip gl D W f (up (oldOf s) s1) := by
  cases f with
  | next => obtain ⟨σ', H', I, q⟩ := q; exact ⟨σ', H', h.piece k hz I (fun _ z => z), q⟩
  | brk => obtain ⟨σ', H', I, q⟩ := q; exact ⟨σ', H', h.piece k hz I (fun _ z => z), q⟩
  | cont => obtain ⟨σ', H', I, q⟩ := q; exact ⟨σ', H', h.piece k hz I (fun _ z => z), q⟩
  | ret u => obtain ⟨v, σ', H', I, r, q⟩ := q; exact ⟨v, σ', H', h.piece k hz I (fun _ z => z), r, q⟩
theorem gn_ps {st : Stmt} {t : Shared → Hp → List (Addr × Obj) → TS} (h : ∀ s H ps, PS (G.X s H ps) st (t s H ps)) : GN G st (tPl t) := by
  refine ⟨fun ip gl n c fs Kf J gd lv s0 s H0 H ps ks W σ D co ko st ht => ?_⟩
  refine sg_wrap ?_
  rw [co.over]
  refine st.thn ((h (cutS G.e.L s0) H0 ps).run ip _ σ H (D.at W) st.I.hush (ht _ _ _)) fun f s1 _ k hz q => ?_
  exact ko n s0 H0 ps ks W _ f (Nat.le_refl _) (gsp_of st k hz q)
def tN0 : TN := fun D W σ H => D.nx W σ H
theorem gns_nil : GNs G [] tN0 := ⟨fun ip gl n c fs Kf J gd lv s0 s H0 H ps ks W σ D co ko st ht => ko n s0 H0 ps ks W s .next (Nat.le_refl _) ⟨σ, H, st, ht⟩⟩
def tNThen (t u : TN) : TN := fun D W σ H => t { D with nx := fun W' σ' H' => u D W' σ' H' } W σ H
theorem gns_cons {st : Stmt} {rest : List Stmt} {t u : TN} (a : GN G st t) (b : GNs G rest u) : GNs G (st :: rest) (tNThen t u) := by
  refine ⟨fun ip gl n c fs Kf J gd lv s0 s H0 H ps ks W σ D co ko st ht => ?_⟩
  show GSg _ _ _ _ _ _ _ _ ((execs _ G.env).wrap Kf J gd lv) _ _
  rw [execs_cons_wrap]
  refine a.run ip gl n c fs _ J gd lv s0 s H0 H ps ks W σ _ co (fun n' s0' H0' ps' ks' W' s' f hn hs => ?_) st ht
  cases f with
  | next =>
    obtain ⟨σ', H', st', q⟩ := hs
    exact b.run ip gl n' c fs Kf J gd lv s0' s' H0' H' ps' ks' W' σ' D co (ko.le hn) st' q
  | brk => exact ko n' s0' H0' ps' ks' W' s' .brk hn hs
  | cont => exact ko n' s0' H0' ps' ks' W' s' .cont hn hs
  | ret u => exact ko n' s0' H0' ps' ks' W' s' (.ret u) hn hs
theorem gns_one {st : Stmt} {t : TN} (a : GN G st t) : GNs G [st] (tNThen t tN0) := gns_cons a gns_nil
/-- yield -/
def tNY (rs : Beh) (te : Shared → Hp → List (Addr × Obj) → TE) : TN := fun D W σ H => ∀ s H0 ps, te s H0 ps σ H fun x H1 => W.Y x H1 ∧ ∀ H2 W', W'.i = W.i + 1 → rs W'.i H1 H2 W'.Y W'.F → D.nx W' σ H2
theorem gn_yield {e : Expr} {yp pos : Pos} {te : Shared → Hp → List (Addr × Obj) → TE} (wf : GWf G) (he : ∀ s H ps, PE (G.X s H ps) e (te s H ps)) (hco : G.env.scope.isCoroutine = false) (hi : interactive G.env = false) : GN G (.Expr (.Yield (some e) yp) pos) (tNY G.rs te) := by
  refine ⟨fun ip gl n c fs Kf J gd lv s0 s H0 H ps ks W σ D co ko st ht => ?_⟩
  rw [exec_Expr G.env _ pos hi rfl]
  show GSg _ _ _ _ _ _ _ _ (.at pos fun _ => ((eval e G.env >>= fun v => (standAt yp >>= fun _ => yieldOut G.env v)) >>= fun x => dropValue (.Yield (some e) yp) pos x).wrap Kf J gd lv) _ _
  have hy : ∀ v, yieldOut G.env v = yieldValue v := fun v => by
    have : G.env.scope.isCoroutine = false := hco
    simp only [yieldOut, this, Bool.false_eq_true, if_false]
  simp only [hy]
  refine sg_at ?_
  rw [Sem.bind_eq_wrap', Sem.bind_eq_wrap', Sem.wrap_wrap, Sem.wrap_wrap]
  refine sg_wrap ?_
  rw [co.over]
  refine st.thn ((he (cutS G.e.L s0) H0 ps).run ip _ σ H _ st.I.hush (ht _ _ _)) fun v s1 _ k hz q => ?_
  obtain ⟨x, H1, I1, rv, hY, hN⟩ := q
  have st1 := st.piece k hz I1 (fun _ z => z)
  obtain ⟨oL, hL, o⟩ := st1.out wf
  refine sg_at ?_
  refine sg_yield co.split co.gd co.guard fun p => ?_
  refine ⟨x, H1, _, rv, o, hY, ?_⟩
  cases n with
  | zero => trivial
  | succ n =>
    intro s2 H2 Y2 F2 ps2 gnd r2
    have st2 := st1.rise wf hL gnd
    exact ko n s2 H2 ps2 _ ⟨W.i + 1, Y2, F2⟩ s2 .next (Nat.le_succ _) ⟨σ, H2, st2, hN H2 ⟨W.i + 1, Y2, F2⟩ rfl r2⟩
end
end Gz
/-! Loops within a generator. -/
namespace Gz
open PySem PySem.Spec PyProof.Rows GenW L2
section
variable {M : Model} {A : Around} {R : RW} {Y : YW} {c : Code} {fs : List Frame} {s : Shared} {env : Env} {tg iter : Expr} {body : List Stmt} {pos : Pos}
/-- what stands below a loop's code -/
abbrev lpK (env : Env) (Kf : Flow → Sem PySem.Fin) (J : Value → Sem PySem.Fin) (gd : Bool → Bool) (lv : List Value → List Value) : Result → Sem PySem.Fin := fun r => ((match r with | .ok f => (.pure f : Sem Flow) | .error e => .raise e).onRaise (cameBack env)).wrap Kf J gd lv
theorem sg_For {Kf : Flow → Sem PySem.Fin} {J : Value → Sem PySem.Fin} {gd : Bool → Bool} {lv : List Value → List Value} (hs : ∀ x, foldedSetIterable iter env x = pure x)
    (h : wpAny M (A.over c fs) (eval iter env) (fun x s1 => wpAny M (A.over c fs) (pyIter x) (fun it s2 => ∀ p, Sg M A R Y (.forLoop tg it body [] env) (M.den (.forLoop tg it body [] env)) (.ret (lpK env Kf J gd lv) none (gd false) (lv []) c p [] :: fs) s2) (fun _ _ => False) s1) (fun _ _ => False) s) :
    Sg M A R Y c ((exec (.For tg iter body [] pos) env).wrap Kf J gd lv) fs s := by
  rw [exec_For]
  refine sg_bindw (wpAny_standAt ?_)
  refine sg_bindw (wpAny_mono h (fun x s1 h1 => ?_) fun _ _ z => z.elim)
  refine sg_bindw (wpAny_of_eq (hs x) ?_)
  refine sg_bindw (wpAny_standAt ?_)
  refine sg_bindw (wpAny_holding (wpAny_mono h1 (fun it s2 h2 => ?_) fun _ _ z => z.elim))
  exact sg_call h2
end
section
variable {P : Program} {w : World} {A : Around} {R : RW} {Y : YW} {fs : List Frame} {s : Shared} {env : Env} {tg : Expr} {it : Value} {body : List Stmt}
/-- what follows a turn's body -/
abbrev lpT (tg : Expr) (it : Value) (body : List Stmt) (env : Env) : Flow → Sem PySem.Fin := fun f => match f with
  | .next | .cont => .pure (.again (.forLoop tg it body [] env))
  | .brk => .pure (.done .next)
  | .ret v => .pure (.done (.ret v))
theorem sg_forLoop
    (h : wpAny (model P w) (A.over (.forLoop tg it body [] env) fs) (pyNext it) (fun r s1 => match r with
      | none => Sg (model P w) A R Y (.forLoop tg it body [] env) (.pure (.again (.block [] env))) fs s1
      | some v => wpAny (model P w) (A.over (.forLoop tg it body [] env) fs) (letOwnedTupleGo tg it v) (fun _ s2 => wpAny (model P w) (A.over (.forLoop tg it body [] env) fs) (assign tg env v) (fun _ s3 =>
          Sg (model P w) A R Y (.forLoop tg it body [] env) ((execs body env).wrap (lpT tg it body env) (ExT env) id id) fs s3) (fun _ _ => False) s2) (fun _ _ => False) s1) (fun _ _ => False) s) :
    Sg (model P w) A R Y (.forLoop tg it body [] env) ((model P w).den (.forLoop tg it body [] env)) fs s := by
  show Sg _ A R Y _ ((forTurn tg it body [] env).onRaise (fun x => do noteFrame x env; theTreesLotGoes x)) fs s
  unfold forTurn
  rw [Sem.onRaise_eq_wrap]
  refine sg_bindw (wpAny_standAt ?_)
  refine sg_bindw (wpAny_onRaise (wpAny_mono h (fun r s1 h1 => ?_) fun e s' he => he.elim))
  cases r with
  | none => exact h1
  | some v =>
    refine sg_bindw (wpAny_mono h1 (fun _ s2 h2 => ?_) fun e s' he => he.elim)
    refine sg_bindw (wpAny_mono h2 (fun _ s3 h3 => ?_) fun e s' he => he.elim)
    rw [Sem.bind_eq_wrap', Sem.wrap_wrap]
    rw [Sem.wrap_congr (execs body env) _ _ (K' := lpT tg it body env) (H' := ExT env) (fun f => by cases f <;> rfl)
        (fun e => by unfold ExT; first | exact Sem.bind_eq_wrap _ _ | (show (do noteFrame e env; theTreesLotGoes e : Sem Unit).bind (fun _ => .raise e) = _; rw [Sem.bind_eq_wrap]))]
    exact h3
end
section
variable {G : GKn} {s0 s : Shared} {H0 H : Hp} {ps ip : List (Addr × Obj)} {ks : List Nat} {gl : List (Nat × GenState)} {σ : L2.St}
theorem GCo.loop {c c' : Code} {fs : List Frame} {gd : Bool → Bool} {k : Result → Sem PySem.Fin} {l kp : List Value} {p : Pos} (co : GCo G c fs gd) (hw : c'.weight = 0) (hu : c'.cUnits = 0) : GCo G c' (.ret k none (gd false) l c p kp :: fs) id where
  over := (over_loop hw hu).trans co.over
  split := allRet_ret.mpr co.split
  guard := by
    show (gd false || fs.any Frame.guarded) = false
    rw [co.gd, co.guard]; rfl
  gd := rfl
/-- back from a loop -/
theorem sg_back {c c' : Code} {fs : List Frame} {Kf : Flow → Sem PySem.Fin} {J : Value → Sem PySem.Fin} {gd : Bool → Bool} {lv : List Value → List Value} {l kp : List Value} {p : Pos} {n : Nat} {D : GD} {W : Wi} {f : Flow} (ko : GKo G ip gl n c fs Kf D) (h : GSPx G s0 H0 ps ks ip gl D W f s) :
    GSg G n s0 H0 ps ks W c' (.pure (.done f)) (.ret (lpK G.env Kf J gd lv) none (gd false) l c p kp :: fs) s :=
  sg_leaf (.ok f) (ko n s0 H0 ps ks W s f (Nat.le_refl _) h)
/-- the Gst with more of its own -/
theorem Gst.more {ip' : List (Addr × Obj)} {gl' : List (Nat × GenState)} (h : Gst G s0 H0 ps ks ip gl σ H s) (I : Inv (G.X (cutS G.e.L s0) H0 ps) (ip ++ ip') σ H s) (ha : ∀ p ∈ ps, ∀ q ∈ ip', q.1 ≠ p.1) (hg : ∀ q ∈ ip', G.e.L ≤ q.1)
    (hl : ∀ p ∈ gl', p.1 ≠ G.g ∧ ok1 p.2 ∧ s.gens[p.1]? = some p.2 ∧ (p.1 ∈ ks ∨ s0.gens.size ≤ p.1)) : Gst G s0 H0 ps ks (ip ++ ip') (gl ++ gl') σ H s :=
  ⟨I, h.le, h.gn, h.gz, fun p hp => (List.mem_append.mp hp).elim (h.gl p) (hl p), fun p hp q hq => (List.mem_append.mp hq).elim (h.apart p hp q) (ha p hp q), fun q hq => (List.mem_append.mp hq).elim (h.ge q) (hg q)⟩
theorem Gst.less {ip' : List (Addr × Obj)} {gl' : List (Nat × GenState)} (h : Gst G s0 H0 ps ks (ip ++ ip') (gl ++ gl') σ H s) : Gst G s0 H0 ps ks ip gl σ H s :=
  ⟨h.I.unpinned, h.le, h.gn, h.gz, fun p hp => h.gl p (List.mem_append_left _ hp), fun p hp q hq => h.apart p hp q (List.mem_append_left _ hq), fun q hq => h.ge q (List.mem_append_left _ hq)⟩
/-- over what a def may walk, too -/
def tNFor (wi : Shared → Hp → List (Addr × Obj) → TI) (g : Shared → Hp → List (Addr × Obj) → TG) (tb : TN) : TN := fun D W σ H => ∀ s H0 ps, wi s H0 ps σ H fun J H1 => ∃ Wv : Nat → Nat → Wi → L2.St → Hp → Prop, (∃ m, Wv 0 m W σ H1) ∧ ∀ i m W σ H, Wv i m W σ H →
  (J.stop i H ∧ D.nx W σ H) ∨ (J.go i H ∧ ∃ N : Wi → L2.St → Hp → Prop, (∀ W' σ' H', N W' σ' H' → ∃ m', m' < m ∧ Wv (i + 1) m' W' σ' H') ∧ ∀ x H', J.yld i H x H' → ∀ s H0 ps, g s H0 ps x σ H' fun σ2 H2 => tb { D with nx := N, ct := N, bk := D.nx } W σ2 H2)
theorem gn_for {iter tg : Expr} {body : List Stmt} {pos : Pos} {wi : Shared → Hp → List (Addr × Obj) → TI} {g : Shared → Hp → List (Addr × Obj) → TG} {tb : TN} (wf : GWf G) (hi : ∀ s H ps, PI (G.X s H ps) tg iter (wi s H ps)) (hg : ∀ s H ps, PG (G.X s H ps) tg (g s H ps)) (hb : GNs G body tb)
    (hs : ∀ x, foldedSetIterable iter G.env x = pure x := by intro _; rfl) : GN G (.For tg iter body [] pos) (tNFor wi g tb) := by
  refine ⟨fun ip gl n c fs Kf J gd lv s0 s H0 H ps ks W σ D co ko st ht => ?_⟩
  refine sg_For hs ?_
  rw [co.over]
  refine st.thn ((hi (cutS G.e.L s0) H0 ps).run ip _ σ H _ st.I.hush (ht _ _ _)) fun x s1 m1 k1 hz1 q => ?_
  have hz1' : s.gens.size ≤ (up (oldOf s) s1).gens.size := hz1
  refine wpAny_gsz (n := s.gens.size) hz1 (wpAny_mono (wpAny_up m1 q) (fun itv s2' z => ?_) fun _ _ ⟨_, _, _, z⟩ => z.elim)
  obtain ⟨s2, m2, rfl, it, fp, tn, Jt, H2, rfl, I2, T, st2, f2, Wv, ⟨m0, w0⟩, turn⟩ := z
  intro hz2 p
  have kg2 : KpG s (up (oldOf s) s2) := fun i o e k => up_kept m2 (allBut_in (by simp) k e)
  have g2 : Gst G s0 H0 ps ks ip gl σ H2 (up (oldOf s) s2) := st.piece kg2 hz2 I2 (fun _ z => z)
  have st2 : tn 0 (up (oldOf s) s2).heap := st2
  -- what stays true of the iterator's own objects
  have fpS : ∀ b ∈ fp, b ≠ G.e.L ∧ b ∉ frs G.e.outer ∧ G.e.L ≤ b ∧ (∀ x c, G.env.cells.lookup x = some c → c ≠ b) ∧ ∀ q ∈ ip, q.1 ≠ b := fun b hb => by
    obtain ⟨_, q1, q2, q3, q4, q5⟩ := f2 b hb
    refine ⟨fun z => q1 (by rw [z]; exact wf.loc.symm), q2, ?_, q4, fun q hq => q5 q (List.mem_append_right _ hq)⟩
    rcases q3 with q3 | q3
    · cases q3
    · have q3 : (cut G.e.L s0.heap).objs.size ≤ b := q3
      rw [cut_size st.le] at q3
      exact q3
  have fpP : ∀ b ∈ fp, ∀ q ∈ ps, q.1 ≠ b := fun b hb q hq => (f2 b hb).2.2.2.2.2 q (List.mem_append_left _ hq)
  have fpH : ∀ b ∈ fp, H2 b = none := fun b hb => (f2 b hb).1
  generalize up (oldOf s) s2 = s' at g2 st2
  clear f2 I2 kg2 m2 hz2
  have stat : ∀ {s0 : Shared} {H0 H : Hp} {ps : List (Addr × Obj)}, G.e.L ≤ s0.heap.objs.size → (∀ b ∈ fp, ∀ q ∈ ps, q.1 ≠ b) → (∀ b ∈ fp, H b = none) → ∀ b ∈ fp, FpOk (G.X (cutS G.e.L s0) H0 ps) ip H b := fun {s0 H0 H ps} hle hp hn b hb => by
    obtain ⟨q1, q2, q3, q4, q5⟩ := fpS b hb
    refine ⟨hn b hb, fun z => q1 (z.trans wf.loc), q2, .inr ?_, q4, fun q hq => (List.mem_append.mp hq).elim (hp b hb q) (q5 q)⟩
    show (cut G.e.L s0.heap).objs.size ≤ b
    rw [cut_size hle]
    exact q3
  have gl_ := fun (kk : Result → Sem PySem.Fin) => co.loop (k := kk) (c' := .forLoop tg (.ref it) body [] G.env) (l := lv []) (kp := []) (p := p) rfl rfl
  have loop : ∀ (m n' i : Nat) (s0 s : Shared) (H0 H : Hp) (ps : List (Addr × Obj)) (ks : List Nat) (W : Wi) (σ : L2.St), n' ≤ n → Wv i m W σ H → Gst G s0 H0 ps ks ip gl σ H s → (∀ b ∈ fp, ∀ q ∈ ps, q.1 ≠ b) → tn i s.heap → (∀ b ∈ fp, H b = none) →
      GSg G n' s0 H0 ps ks W (.forLoop tg (.ref it) body [] G.env) ((model G.e.P G.e.w).den (.forLoop tg (.ref it) body [] G.env)) (.ret (lpK G.env Kf J gd lv) none (gd false) (lv []) c p [] :: fs) s := by
    intro m
    induction m using Nat.strongRecOn with
    | ind m ih =>
      intro n' i s0 s H0 H ps ks W σ hn w st hpP tni fr
      refine sg_forLoop ?_
      rw [(gl_ _).over]
      rcases turn i m W σ H w with ⟨stop, qn⟩ | ⟨go, N, hN, step⟩
      · refine st.thn (T.done (G.X (cutS G.e.L s0) H0 ps) rfl rfl rfl rfl i ip _ σ H (fun _ _ => False) st.I.hush (stat st.le hpP fr) tni stop) fun r s4 m4 k4 hz4 q => ?_
        obtain ⟨rfl, I4⟩ := q
        have st4 := st.piece k4 hz4 I4 (fun _ z => z)
        refine sg_again rfl ?_
        exact sg_back (ko.le hn) ⟨σ, H, st4, qn⟩
      · refine st.thn (T.item (G.X (cutS G.e.L s0) H0 ps) rfl rfl rfl rfl i ip _ σ H (fun _ _ => False) st.I.hush (stat st.le hpP fr) tni go) fun r s4 m4 k4 hz4 q => ?_
        obtain ⟨u, rfl, q⟩ := q
        refine wpAny_gsz (n := s.gens.size) hz4 (wpAny_mono (wpAny_up m4 q) (fun _ s5' z => ?_) fun _ _ ⟨_, _, _, z⟩ => z.elim)
        obtain ⟨s5, m5, rfl, x, H5, I5, r5, y5, tn5, fr5⟩ := z
        intro hz5
        have k5 : KpG s (up (oldOf s) s5) := fun i o e k => up_kept m5 (allBut_in (by simp) k e)
        have st5 := st.piece k5 hz5 I5 (fun _ z => z)
        have tn5 : tn (i + 1) (up (oldOf s) s5).heap := tn5
        generalize up (oldOf s) s5 = s5 at st5 tn5
        clear I5 k5 m5 hz5
        have I5' := st5.I.pinned (stat st.le hpP fr5) (T.obj _ _ tn5)
        have pin5 : ∀ q ∈ pinsAt fp s5.heap, q.1 ∈ fp := fun q hq => (of_pinsAt hq).1
        have st5' : Gst G s0 H0 ps ks (ip ++ pinsAt fp s5.heap) gl σ H5 s5 := by
          have := st5.more (gl' := []) I5' (fun q hq b hb z => hpP b.1 (pin5 b hb) q hq z.symm) (fun b hb => (fpS b.1 (pin5 b hb)).2.2.1) (fun p hp => by cases hp)
          rw [List.append_nil] at this
          exact this
        refine st5'.thn ((hg (cutS G.e.L s0) H0 ps).run _ _ σ H5 x u _ st5'.I.hush r5 (step x H5 y5 _ _ _)) fun _ s6 m6 k6 hz6 q6 => ?_
        obtain ⟨σ6, H6, I6, q6⟩ := q6
        have st6 := st5'.piece k6 hz6 I6 (fun _ z => z)
        have lessI : ∀ {s0 s : Shared} {H0 H : Hp} {ps : List (Addr × Obj)} {ks : List Nat} {σ : L2.St}, Gst G s0 H0 ps ks (ip ++ pinsAt fp s5.heap) gl σ H s → Gst G s0 H0 ps ks ip gl σ H s := fun {s0 s H0 H ps ks σ} z => by
          have z' : Gst G s0 H0 ps ks (ip ++ pinsAt fp s5.heap) (gl ++ []) σ H s := by rw [List.append_nil]; exact z
          exact z'.less
        refine hb.run (ip ++ pinsAt fp s5.heap) gl n' _ _ _ _ id id s0 _ H0 H6 ps ks W σ6 { D with nx := N, ct := N, bk := D.nx } (gl_ _) (fun n'' s0' H0' ps' ks' W' s' f hn' hs => ?_) st6 q6
        have again : (∃ σ' H', Gst G s0' H0' ps' ks' (ip ++ pinsAt fp s5.heap) gl σ' H' s' ∧ N W' σ' H') → GSg G n'' s0' H0' ps' ks' W' (.forLoop tg (.ref it) body [] G.env) (.pure (.again (.forLoop tg (.ref it) body [] G.env))) (.ret (lpK G.env Kf J gd lv) none (gd false) (lv []) c p [] :: fs) s' := fun ⟨σ', H', st', n3⟩ => by
          obtain ⟨m', hm, w3⟩ := hN W' σ' H' n3
          refine sg_again rfl (ih m' hm n'' (i + 1) s0' s' H0' H' ps' ks' W' σ' (Nat.le_trans hn' hn) w3 (lessI st') (fun b hb q hq => ?_) ?_ fun b hb => ?_)
          · obtain ⟨o, e, _⟩ := T.obj _ _ tn5 b hb
            exact fun z => st'.apart q hq (b, o) (List.mem_append_right _ (mem_pinsAt hb e)) z.symm
          · exact T.keep _ _ _ tn5 fun b hb o e => (st'.I.pin (b, o) (List.mem_append_right _ (List.mem_append_right _ (mem_pinsAt hb e)))).1
          · obtain ⟨o, e, _⟩ := T.obj _ _ tn5 b hb
            exact (st'.I.pin (b, o) (List.mem_append_right _ (List.mem_append_right _ (mem_pinsAt hb e)))).2.1
        cases f with
        | next => exact again hs
        | cont => exact again hs
        | brk =>
          obtain ⟨σ3, H3, st3, q3⟩ := hs
          exact sg_back (ko.le (Nat.le_trans hn' hn)) ⟨σ3, H3, lessI st3, q3⟩
        | ret v =>
          obtain ⟨v3, σ3, H3, st3, rv3, q3⟩ := hs
          exact sg_back (ko.le (Nat.le_trans hn' hn)) ⟨v3, σ3, H3, lessI st3, rv3, q3⟩
  exact loop m0 n 0 s0 s' H0 H2 ps ks W σ (Nat.le_refl _) w0 g2 fpP st2 fpH
end
end Gz
/-! A generator that walks another one. -/
namespace Gz
open PySem PySem.Spec PyProof.Rows GenW L2
end Gz
/-! A generator def's promise, by its body; calls of it. -/
namespace Gz
open PySem PySem.Spec PyProof.Rows GenW L2
theorem cut_self {h : Heap} : cut h.objs.size h = h := by
  obtain ⟨objs, life⟩ := h
  unfold cut
  congr 1
  exact Array.extract_size
theorem cutS_self {s : Shared} : cutS s.heap.objs.size s = s := by
  unfold cutS
  rw [cut_self]
theorem cells_nil : ∀ {names : List (Str × NameKind)} {n : Nat} {acc : List (Str × Addr)}, (∀ y ∈ names, y.2 ≠ .cell) → cellsFrom n names acc = acc
  | [], _, _, _ => rfl
  | (x, k) :: r, n, acc, h => by
    unfold cellsFrom
    rw [if_neg (by have := h (x, k) List.mem_cons_self; simpa using this)]
    exact cells_nil fun y hy => h y (List.mem_cons_of_mem _ hy)
/-- no cells are made at the entry -/
theorem _root_.L2.Inv.nofn {X : Cx} {pins : List (Addr × Obj)} {σ : L2.St} {H : Hp} {s : Shared} (I : Inv X pins σ H s) : Inv { X with fn := fun _ => false } pins σ H s :=
  ⟨⟨I.ok.mod, I.ok.kind, I.ok.glob, I.ok.blt, I.ok.above, I.ok.inj, I.ok.has, fun x c z _ => (by cases z), I.ok.hd, I.ok.frames, I.ok.stk, I.ok.exf, I.ok.bs, I.ok.bsz, I.ok.noex, I.ok.exfs, I.ok.funs, I.ok.frf⟩, I.os, I.bare, I.base, I.loc, I.cell, I.free, I.freeC, I.pin, I.hok, I.len⟩
section
variable {prog : Program} {w : World} {A : Around} {R : RW} {Y : YW} {fs : List Frame} {s : Shared} {env : Env}
theorem sg_func {body : List Stmt} (h : Sg (model prog w) A R Y (.func body env) ((execs body env).wrap (fun f => .pure (.done (.ret (match f with | .ret v => v | _ => .none)))) (fun e => (leaving env e).wrap (fun _ => .raise e) .raise id id) id id) fs s) :
    Sg (model prog w) A R Y (.func body env) ((model prog w).den (.func body env)) fs s := by
  show Sg _ _ _ _ _ (.point [] fun _ => ((execs body env).onRaise (leaving env)) >>= _) _ _
  refine sg_point ?_
  rw [Sem.onRaise_eq_wrap, Sem.bind_eq_wrap', Sem.wrap_wrap]
  rw [Sem.wrap_congr (execs body env) _ _ (K' := fun f => .pure (.done (.ret (match f with | .ret v => v | _ => .none)))) (H' := fun e => (leaving env e).wrap (fun _ => .raise e) .raise id id) (fun f => by cases f <;> rfl) (fun e => by rw [Sem.bind_eq_wrap, Sem.wrap_wrap]; rfl)]
  exact h
end
/-- a generator def's promise: the arguments, the heap, what is wanted of its behaviour -/
abbrev SpB := List V → Hp → (Beh → Prop) → Prop
/-- what a call of it gives -/
def GMz (P : Program) (w : World) (base : Heap) (k : Nat) (outer : List Env) (H : Hp) (s : Shared) (C : Beh → Prop) (u : Value) (s' : Shared) : Prop :=
  ∃ (a : Addr) (oa : Obj) (g : Nat) (c : Code) (rs : Beh) (fp : Fp), u = .ref a ∧ s.heap.objs.size ≤ a ∧ s'.heap.get? a = some oa ∧ (∀ h : Heap, h.get? a = some oa → h.IsGen a g) ∧ (∀ v, oa.data ≠ .cell v) ∧ s.gens.size ≤ g ∧ s'.gens[g]? = some (.fresh c) ∧ fp.gl = [] ∧
    (∀ q ∈ fp.hp, s.heap.objs.size ≤ q.1 ∧ q.1 ≠ a ∧ s'.heap.get? q.1 = some q.2 ∧ ∀ v, q.2.data ≠ .cell v) ∧ s'.os = s.os ∧ AllBare s'.gens ∧ (∀ b o, s.heap.get? b = some o → s'.heap.get? b = some o) ∧ C rs ∧
    ∀ A2 : Around, Room k A2 → A2.frames = some outer → ∀ n, Slp ⟨P, w, base, A2, outer, s.heap.objs.size⟩ g rs n 0 H (.fresh c) fp
structure GFz (P : Program) (w : World) (K : PySem.W.Frag) (mg : Str → Option Value) (base : Heap) (k : Nat) (f : Addr) (fd : FuncData) (ps : List Str) (sp : SpB) : Prop where
  len : ∀ vs H C, sp vs H C → vs.length = ps.length
  run : ∀ (A : Around) (outer : List Env) (s : Shared) (H : Hp) (args : Args) (us : List Value) (vs : List V) (C : Beh → Prop), Room k A → Env0 P w K mg base A outer s H → BindsTo s fd args (ps.zip us) → Vals vs us → sp vs H C →
    codeAny (model P w) A (.call (.ref f) args) (fun r s' => match r with | .ok (.ret u) => GMz P w base k outer H s C u s' | _ => False) s
/-- what is wanted where the body ends -/
def endD : GD := { nx := fun W _ H => W.F H, rt := fun W v H => v = .non ∧ W.F H }
/-- THE RULE -/
theorem gfz_of {P : Program} {w : World} {K : PySem.W.Frag} {mg : Str → Option Value} {base : Heap} {k : Nat} {f : Addr} {name qual : Str} {params : Arguments} {body : List Stmt} {scope : Scope} {dV kV doc pm cdv ct oc : Value} {an od : Option Addr}
    {osl : Array (Option Value)} {N ps : List Str} {sp : SpB} (lk : K.lookup f = some ⟨oc, od, .func (PySem.W.fnOf name qual params body scope dV kV doc pm an cdv ct), osl⟩) (hcd : PySem.W.codeIn K cdv qual = true) (S : GScope N ps scope) (nc : ∀ y ∈ scope.names, y.2 ≠ .cell)
    (len : ∀ vs H C, sp vs H C → vs.length = ps.length)
    (hbody : ∀ (vs : List V) (H : Hp) (C : Beh → Prop), sp vs H C → ∃ rs, C rs ∧ ∀ (A2 : Around) (outer : List Env) (L : Addr) (g : Nat), Room k (A2.deeper (envOfC qual scope L f cdv)) → GWf ⟨⟨P, w, base, A2, outer, L⟩, K, mg, N, envOfC qual scope L f cdv, g, rs⟩ →
      ∃ t, GNs ⟨⟨P, w, base, A2, outer, L⟩, K, mg, N, envOfC qual scope L f cdv, g, rs⟩ body t ∧ ∀ H2 Y F, rs 0 H H2 Y F → t endD ⟨0, Y, F⟩ (start N vs) H2) :
    GFz P w K mg base (k + 1) f (PySem.W.fnOf name qual params body scope dV kV doc pm an cdv ct) ps sp := by
  refine ⟨len, fun A outer s H args us vs C hr e0 hb r hsp => ?_⟩
  have hl := len _ _ _ hsp
  have KX : K.In s.heap := e0.mod.kin.keeps fun b o e => (e0.bs b o e).1
  have lim : s.heap.NoLimit := e0.mod.nolimit.keeps fun b o e => (e0.bs b o e).1
  have hkind : ∀ y ∈ ps.zip us, scope.names.lookup y.1 = some .local ∨ (scope.names.lookup y.1 = some .cell ∧ ((cellsFrom (s.heap.objs.size + 1) scope.names []).lookup y.1).isSome = true) := fun ⟨n, v⟩ hy => by
    rcases S.par n (List.of_mem_zip hy).1 with q | q
    · exact .inl q
    · exact .inr ⟨q, PySem.W.cellsFrom_some _ _ _ (.inl q)⟩
  refine codeAny_call_generator hr.depth (KX _ _ lk) rfl S.co S.gen rfl (PySem.W.codeRec_of KX hcd) (hb _ _ _ _ ?_)
  refine wpAny_newFunctionEnv_cells S.kind hkind fun env he s1 x => ?_
  subst he
  have lim1 : s1.heap.NoLimit := lim.keeps x.toInCall.keep
  refine ⟨lim1, ?_⟩
  obtain ⟨h1, tk, es1, hk1⟩ := x.done
  have os1 : s1.os = s.os := by rw [es1]
  have gen1 : s1.gens = s.gens := by rw [es1]
  have lt1 : s.heap.objs.size < s1.heap.objs.size := x.toInCall.ns.lt
  have kp1 : ∀ b o, s.heap.get? b = some o → s1.heap.get? b = some o := x.toInCall.keep
  obtain ⟨mL, hnL⟩ : ∃ m, s1.heap.Ns s.heap.objs.size m := ⟨_, x.toInCall.ns⟩
  obtain ⟨oL, esL, epL, hoL, hdL⟩ := id hnL
  obtain ⟨rs, hC, hbd⟩ := hbody vs H C hsp
  have main : ∀ (go : Obj) (nm qn : Value) (tk2 : Nat), go.cls = .type "generator" → go.data = .fields #[.int s1.gens.size 0, nm, qn] → go.slots = #[] → (∀ h : Heap, (h.push go).get? h.objs.size = some go) →
      GMz P w base (k + 1) outer H s C (.ref s1.heap.objs.size) { s1 with gens := s1.gens.push (.fresh (.func body (envOfC qual scope s.heap.objs.size f cdv))), toks := tk2, heap := s1.heap.push go } := by
    intro go nm qn tk2 hgc hgd0 hgs hgp
    have kp2 : ∀ b o, s1.heap.get? b = some o → (s1.heap.push go).get? b = some o := fun b o e => Heap.get?_push_of_some _ e
    have bare2 : AllBare (s1.gens.push (.fresh (.func body (envOfC qual scope s.heap.objs.size f cdv)))) := AllBare.push (by rw [gen1]; exact e0.bare) rfl
    refine ⟨s1.heap.objs.size, go, s1.gens.size, _, rs, ⟨[(s.heap.objs.size, oL)], []⟩, rfl, Nat.le_of_lt lt1, hgp _, fun h e => ⟨go, nm, qn, e, hgc, hgd0, hgs⟩, fun v q => (by rw [hgd0] at q; cases q), by rw [gen1]; exact Nat.le_refl _, Array.getElem?_push_size .., rfl, fun q hq => ?_, os1, bare2, fun b o e => kp2 b o (kp1 b o e), hC, ?_⟩
    · rw [List.mem_singleton.mp hq]
      exact ⟨Nat.le_refl _, Nat.ne_of_lt lt1, kp2 _ _ hoL, fun v z => by rw [hdL.1] at z; cases z⟩
    intro A2 hr2 hfr n
    cases n with
    | zero => trivial
    | succ n =>
      intro s2 H2 Y F pn gnd r2
      have e0w : Env0 P w K mg base A2 outer s H := ⟨hfr, e0.mod, e0.bs, e0.bsz, e0.funs, e0.frf, e0.hok, e0.bare⟩
      have wf : GWf ⟨⟨P, w, base, A2, outer, s.heap.objs.size⟩, K, mg, N, envOfC qual scope s.heap.objs.size f cdv, s1.gens.size, rs⟩ := ⟨rfl, fun x c e => (by rw [show (envOfC qual scope s.heap.objs.size f cdv).cells = [] from cells_nil nc] at e; cases e), hr2.hd, hfr⟩
      obtain ⟨t, ht, hq⟩ := hbd A2 outer s.heap.objs.size s1.gens.size (hr2.deeper _) wf
      have I1 : Inv (gcxOf P w K mg base N qual scope f cdv A2 outer s H (fun _ _ _ => False) []) [] (start N vs) H s1 := inv_startG S hr2.hd e0w hl r x
      have I2 := ((I1.wish fun _ _ => False).nofn).gens bare2
      have I3 := I2.kept (h' := s1.heap.push go) (t' := tk2) kp2
      have st : Gst ⟨⟨P, w, base, A2, outer, s.heap.objs.size⟩, K, mg, N, envOfC qual scope s.heap.objs.size f cdv, s1.gens.size, rs⟩ s H [] [] [] [] (start N vs) H { s1 with gens := s1.gens.push (.fresh (.func body (envOfC qual scope s.heap.objs.size f cdv))), toks := tk2, heap := s1.heap.push go } := by
        refine ⟨?_, Nat.le_refl _, ?_, ?_, fun p hp => (by cases hp), fun p hp => (by cases hp), fun p hp => (by cases hp)⟩
        · show Inv (GKn.X _ (cutS s.heap.objs.size s) H []) _ _ _ _
          rw [cutS_self]
          exact I3
        · show s1.gens.size < (s1.gens.push _).size
          rw [Array.size_push]; exact Nat.lt_succ_self _
        · show s.gens.size ≤ (s1.gens.push _).size
          rw [Array.size_push, gen1]; exact Nat.le_succ _
      have st2 := st.rise wf (oL := oL) (kp2 _ _ hoL) gnd
      show Sg _ _ _ _ (.func body _) ((model P w).den (.func body _)) [] s2
      refine sg_func ?_
      refine ht.run [] [] n _ [] _ _ id id s2 s2 H2 H2 pn [] ⟨0, Y, F⟩ (start N vs) endD ⟨over_func, rfl, rfl, rfl⟩ (fun n' s0' H0' ps' ks' W' s' fl hn' hs => ?_) st2 (hq H2 Y F r2)
      cases fl with
      | next =>
        obtain ⟨σ', H', st', q⟩ := hs
        exact sg_end (.ok (.ret .none)) ⟨.inl rfl, H', st'.out0 wf, q⟩
      | brk => obtain ⟨_, _, _, q⟩ := hs; exact q.elim
      | cont => obtain ⟨_, _, _, q⟩ := hs; exact q.elim
      | ret u =>
        obtain ⟨v, σ', H', st', rv, ev, q⟩ := hs
        subst ev
        have eu : u = Value.none := rv
        subst eu
        exact sg_end (.ok (.ret .none)) ⟨.inl rfl, H', st'.out0 wf, q⟩
  exact main _ _ _ _ rfl rfl rfl fun h => Heap.get?_push_size _ rfl
section
variable {X : Cx} {pins : List (Addr × Obj)} {σ : L2.St} {H : Hp} {s s' : Shared} {k : Nat}
/-- behind the call: the walker holds it -/
theorem gmz_held {C : Beh → Prop} {u : Value} (I : Inv X pins σ H s) (hr : Room k X.A.in1) (h : GMz X.prog X.w X.base k X.stack H s C u s') :
    ∃ a oa g L c fp rs, u = .ref a ∧ Low X L ∧ s.gens.size ≤ g ∧ fp.gl = [] ∧ (∀ p ∈ X.pn ++ pins, p.1 < L) ∧ (∀ n, Held X L pins a oa g rs n 0 H (.fresh c) fp σ H s') ∧ C rs := by
  obtain ⟨a, oa, g, c, rs, fp, rfl, ha, hoa, hg, hnc, hgs, hgn, hgl, hfp, os, bare, kp, hC, hs⟩ := h
  have lo : Low X s.heap.objs.size := ⟨I.lt, fun x c e => let ⟨v, z⟩ := I.cell x c e; z.lt, I.sz, fun b hb => let ⟨_, o, ho, _⟩ := I.stack.mem hb; Heap.lt_size ho⟩
  have J : Inv X pins σ H s' := I.call' (ch := []) os (Un.kept kp) (I.hok.kept kp) bare fun b z => by cases z
  have young : ∀ {b : Addr}, s.heap.objs.size ≤ b → ∀ p ∈ X.pn ++ pins, p.1 ≠ b := fun {b} hb p hp z => by
    have h1 := Heap.lt_size (I.pin p hp).1
    rw [z] at h1
    exact absurd h1 (Nat.not_lt.mpr hb)
  refine ⟨a, oa, g, s.heap.objs.size, c, fp, rs, rfl, lo, hgs, hgl, fun p hp => Heap.lt_size (I.pin p hp).1, fun n => ⟨J.pins_of fun p hp => ?_, hg, hgn, fun p hp q hq => ?_, fun p hp => (by rw [hgl] at hp; cases hp), hs _ hr I.ok.frames n, ha, fun p hp z => young ha p hp z.symm, fun q hq => (hfp q hq).1⟩, hC⟩
  · rcases List.mem_append.mp hp with hp | hp
    · exact J.pin p (List.mem_append_right _ hp)
    · rcases List.mem_cons.mp hp with rfl | hp
      · exact ⟨hoa, I.hok.fresh ha, Nat.ne_of_gt (Nat.lt_of_lt_of_le I.lt ha), I.nofs ha, hnc⟩
      · obtain ⟨q1, _, q3, q4⟩ := hfp p hp
        exact ⟨q3, I.hok.fresh q1, Nat.ne_of_gt (Nat.lt_of_lt_of_le I.lt q1), I.nofs q1, q4⟩
  · obtain ⟨q1, q2, _⟩ := hfp q hq
    rw [← List.append_assoc] at hp
    rcases List.mem_append.mp hp with hp | hp
    · exact fun z => young q1 p hp z.symm
    · rw [List.mem_singleton.mp hp]
      exact q2
end
end Gz
/-! Generators made by a call; comprehensions over them; list(g). -/
namespace Gz
open PySem PySem.Spec PyProof.Rows GenW L2
/-- a generator def by its promise: as it is called with its arguments -/
structure GFn (P : Program) (w : World) (K : PySem.W.Frag) (mg : Str → Option Value) (base : Heap) (k : Nat) (f : Addr) (sp : SpB) : Prop where
  run : ∀ (A : Around) (outer : List Env) (s : Shared) (H : Hp) (us : List Value) (vs : List V) (C : Beh → Prop), Room k A → Env0 P w K mg base A outer s H → Vals vs us → sp vs H C →
    codeAny (model P w) A (.call (.ref f) ⟨us, []⟩) (fun r s' => match r with | .ok (.ret u) => GMz P w base k outer H s C u s' | _ => False) s
theorem GFz.all {P : Program} {w : World} {K : PySem.W.Frag} {mg : Str → Option Value} {base : Heap} {k : Nat} {f : Addr} {fd : FuncData} {ps : List Str} {sp : SpB} (F : GFz P w K mg base k f fd ps sp) (hb : Binds K fd ps []) : GFn P w K mg base k f sp :=
  ⟨fun A outer s H us vs C hr e0 r h => F.run A outer s H ⟨us, []⟩ us vs C hr e0 (by
    have KX : K.In s.heap := e0.mod.kin.keeps fun b o e => (e0.bs b o e).1
    have := hb s us KX (by rw [List.append_nil, ← r.length]; exact F.len _ _ _ h)
    rw [List.append_nil] at this
    exact this) r h⟩
/-- x, a generator def of the module -/
def CalG (P : Program) (w : World) (K : PySem.W.Frag) (mg : Str → Option Value) (base : Heap) (k : Nat) (x : Str) (sp : SpB) : Prop :=
  ∃ f, GFn P w K mg base k f sp ∧ mg x = some (.ref f) ∧ PySem.W.keepIn K (.ref f) = true
section
variable {X : Cx} {k j : Nat} {p pos pos' apos : Pos} {x m : Str}
theorem run_gfz {pins : List (Addr × Obj)} {σ : L2.St} {H : Hp} {s : Shared} {us : List Value} {vs : List V} {f : Addr} {sp : SpB} {C : Beh → Hp → Prop} {E1 : Value → Shared → Prop} (F : GFn X.prog X.w X.K X.mg X.base k f sp) (hr : Room j X.A) (hk : k + 1 ≤ j) (I : Inv X pins σ H s) (r : Vals vs us) (h : sp vs H (fun rs => C rs H)) :
    wpAny (model X.prog X.w) X.A (call (.ref f) us) (fun u s1 => ∃ a oa g L c fp rs H1, u = .ref a ∧ Low X L ∧ s.gens.size ≤ g ∧ fp.gl = [] ∧ (∀ p ∈ X.pn ++ pins, p.1 < L) ∧ (∀ n, Held X L pins a oa g rs n 0 H1 (.fresh c) fp σ H1 s1) ∧ C rs H1) E1 s := by
  have hr1 : Room (k + 1) X.A := hr.mono hk
  refine wpAny_call (codeAny_mono (F.run X.A X.stack s H us vs _ (hr.mono (Nat.le_of_succ_le hk)) I.env0 r h) fun r s' hq => ?_)
  cases r with
  | error e => exact hq.elim
  | ok fl =>
    cases fl with
    | ret u =>
      obtain ⟨a, oa, g, L, c, fp, rs, h1, h2, h3, h4, h5, h6, h7⟩ := gmz_held I hr1.in1 hq
      exact ⟨a, oa, g, L, c, fp, rs, H, h1, h2, h3, h4, h5, h6, h7⟩
    | next => exact hq.elim
    | brk => exact hq.elim
    | cont => exact hq.elim
theorem run_gfz' {pins : List (Addr × Obj)} {σ : L2.St} {H : Hp} {s s0 : Shared} {us : List Value} {vs : List V} {f : Addr} {sp : SpB} {C : Beh → Hp → Prop} {E1 : Value → Shared → Prop} (F : GFn X.prog X.w X.K X.mg X.base k f sp) (hr : Room j X.A) (hk : k + 1 ≤ j) (hz : s0.gens.size ≤ s.gens.size) (I : Inv X pins σ H s) (r : Vals vs us) (h : sp vs H (fun rs => C rs H)) :
    wpAny (model X.prog X.w) X.A (call (.ref f) us) (fun u s1 => ∃ a oa g L c fp rs H1, u = .ref a ∧ Low X L ∧ s0.gens.size ≤ g ∧ fp.gl = [] ∧ (∀ p ∈ X.pn ++ pins, p.1 < L) ∧ (∀ n, Held X L pins a oa g rs n 0 H1 (.fresh c) fp σ H1 s1) ∧ C rs H1) E1 s :=
  thn (run_gfz F hr hk I r h) fun u s1 ⟨a, oa, g, L, c, fp, rs, H1, h1, h2, h3, h⟩ => ⟨a, oa, g, L, c, fp, rs, H1, h1, h2, Nat.le_trans hz h3, h⟩
/-- f(e, ..) -/
def tClG (sp : SpB) (t : TA) : TGz := fun σ H C => t σ H fun vs H1 => sp vs H1 fun rs => C rs H1
theorem pgz_cl {e : Expr} {es : List Expr} {t : TA} {sp : SpB} (c : CalG X.prog X.w X.K X.mg X.base k x sp) (hr : Room j X.A) (ha : PA X (e :: es) t) (hk : k + 1 ≤ j := by decide) (hg : Gl X x := by rfl) (hdb : (x == ("__debug__" : Str)) = false := by decide) (he : starEach (e :: es) X.env = (false, eval e X.env) :: starEach es X.env := by rfl) (hpl : (backTo pos' (starEach es X.env)).any (·.1) = false := by rfl) :
    PGz X (.Call (.Name x p) (e :: es) [] pos') (tClG sp t) := by
  obtain ⟨f, F, hm, hkp⟩ := c
  refine ⟨fun pins s σ H C I h => ?_⟩
  refine wpAny_gsz (n := s.gens.size) (Nat.le_refl _) ?_
  refine wpAny_Call_Name_kw (ld_glob I hg hm ?_ hdb)
  refine PySem.W.callWith_K (h₀ := X.base) I.ok.mod.kin hkp (thn (wpAny_gsz (n := s.gens.size) (Nat.le_refl _) (wpAny_mono (ha.run pos' pins s σ H _ I h) (fun us s1 z hz => (⟨z, hz⟩ : (_ ∧ s.gens.size ≤ s1.gens.size))) fun _ _ z _ _ => z)) fun us s1 ⟨⟨vs, H1, I1, r, q⟩, hz⟩ => ⟨I1.kIn, ?_⟩) he hpl
  exact wpAny_mono (run_gfz' (s0 := s) F hr hk hz I1 r q) (fun u s2 z _ => z) fun _ _ z _ => z
end
end Gz
/-! Comprehensions over generators. -/
namespace Gz
open PySem PySem.Spec PyProof.Rows GenW L2
/-- the walker is a comprehension's block, begun behind the generator -/
structure LowB (X : Cx) (L : Addr) : Prop where
  loc : L ≤ X.env.locals
  cell : ∀ x c, X.env.cells.lookup x = some c → c < L
  s0 : X.s_0.heap.objs.size ≤ L
  fs : ∀ b ∈ frs X.stack, b < L
theorem Inv.ranB {X : Cx} {L : Addr} {pins : List (Addr × Obj)} {gn : Nat} {σ : L2.St} {H H1 : Hp} {s s1 : Shared} {ks : List Nat} {fp : Fp} {oc : Obj} (lo : LowB X L) (hst : X.stack = X.outer) (I : Inv X pins σ H s) (hoc : s.heap.get? X.env.locals = some oc) (o : Out (geOf X L) gn s H s1 H1 ((X.env.locals, oc) :: (X.pn ++ pins)) ks fp) : Inv X (pins ++ fp.hp) σ H1 s1 := by
  have nst : ∀ {b}, b ∈ frs X.stack → b < L := fun hb => lo.fs _ hb
  let ch : List Addr := (List.range s.heap.objs.size).filter fun b => decide (L ≤ b ∧ b ≠ X.env.locals ∧ ∀ p ∈ X.pn ++ pins, p.1 ≠ b)
  have inCh : ∀ {b ob}, s.heap.get? b = some ob → b ∉ ch → b < L ∨ ∃ p ∈ (X.env.locals, oc) :: (X.pn ++ pins), p.1 = b := fun {b ob} e n => by
    by_cases hL : b < L
    · exact .inl hL
    · refine .inr (Classical.byContradiction fun z => n (List.mem_filter.mpr ⟨List.mem_range.mpr (Heap.lt_size e), decide_eq_true ⟨Nat.le_of_not_lt hL, fun q => z ⟨_, List.mem_cons_self, q.symm⟩, fun p hp q => z ⟨p, List.mem_cons_of_mem _ hp, q⟩⟩⟩))
  have at_ : ∀ p ∈ (X.env.locals, oc) :: (X.pn ++ pins), s.heap.get? p.1 = some p.2 := fun p hp => by
    rcases List.mem_cons.mp hp with rfl | hp
    · exact hoc
    · exact (I.pin p hp).1
  have un : Un (frs X.stack) ch H H1 s.heap s1.heap := by
    refine ⟨fun b ob e n hb hx => ?_, fun b ob e n hb hx => ?_, fun b ob e n hx => ?_, fun b ob e hx => ?_, o.un.tups, o.un.frzs, o.un.tbls⟩
    · rcases inCh e hx with hL | ⟨p, hp, rfl⟩
      · exact o.un.keep b ob ((cut_get hL).trans e) n hb (by simp)
      · have h1 := at_ p hp
        rw [e] at h1
        cases h1
        exact (o.pn p hp).1
    · exact o.un.slot b ob ((cut_get (nst hb)).trans e) n hb (by simp)
    · rcases inCh e hx with hL | ⟨p, hp, rfl⟩
      · exact o.un.free b ob ((cut_get hL).trans e) n (by simp)
      · exact (o.pn p hp).2
    · rcases inCh e hx with hL | ⟨p, hp, rfl⟩
      · exact o.un.there b ob ((cut_get hL).trans e) (by simp)
      · exact ⟨_, (o.pn p hp).1⟩
  have J : Inv X pins σ H1 s1 := I.call' o.os un o.hok o.bare fun b hb => by
    have hb := of_decide_eq_true (List.mem_filter.mp hb).2
    exact ⟨.inr (Nat.le_trans lo.s0 hb.1), hb.2.1, fun x c e z => absurd (lo.cell x c e) (by rw [z]; exact Nat.not_lt.mpr hb.1), hb.2.2⟩
  refine J.pins_of fun p hp => ?_
  rcases List.mem_append.mp hp with hp | hp
  · exact J.pin p (List.mem_append_right _ hp)
  · obtain ⟨h1, h2, h3, h4, h5⟩ := o.hp p hp
    refine ⟨h1, h2, h5 (X.env.locals, oc) List.mem_cons_self, fun z => ?_, h4⟩
    have : p.1 ∈ frs X.stack := by rw [hst]; exact z
    exact absurd (nst this) (Nat.not_lt.mpr h3)
/-- what the block knows of the generator -/
structure HeldB (X : Cx) (L : Addr) (pins : List (Addr × Obj)) (a : Addr) (oa : Obj) (g : Nat) (rs : Beh) (n i : Nat) (H0 : Hp) (st : GenState) (fp : Fp) (σ : L2.St) (H : Hp) (s : Shared) : Prop where
  I : Inv X (pins ++ (a, oa) :: fp.hp) σ H s
  isg : ∀ h : Heap, h.get? a = some oa → h.IsGen a g
  gs : s.gens[g]? = some st
  apart : ∀ p ∈ X.pn ++ (pins ++ [(a, oa)]), ∀ q ∈ fp.hp, q.1 ≠ p.1
  gl : ∀ p ∈ fp.gl, p.1 ≠ g ∧ ok1 p.2 ∧ s.gens[p.1]? = some p.2
  slp : Slp (geOf X L) g rs n i H0 st fp
  la : L ≤ a
theorem HeldB.isGen {X : Cx} {L : Addr} {pins : List (Addr × Obj)} {a : Addr} {oa : Obj} {g : Nat} {rs : Beh} {n i : Nat} {H0 : Hp} {gs : GenState} {fp : Fp} {σ : L2.St} {H : Hp} {s : Shared} (h : HeldB X L pins a oa g rs n i H0 gs fp σ H s) : s.heap.IsGen a g :=
  h.isg _ (h.I.pin (a, oa) (List.mem_append_right _ (List.mem_append_right _ List.mem_cons_self))).1
section
variable {X : Cx} {L : Addr} {pins : List (Addr × Obj)} {a : Addr} {oa : Obj} {g : Nat} {rs : Beh} {n i : Nat} {H0 : Hp} {gs : GenState} {fp : Fp} {σ : L2.St} {H : Hp} {s : Shared} {Y : V → Hp → Prop} {F : Hp → Prop}
theorem nextGB (hc : X.calm = true) (hroom : X.A.depth < recursionLimit) (lo : LowB X L) (hst : X.stack = X.outer) (h : HeldB X L pins a oa g rs (n + 1) i H0 gs fp σ H s) (r : rs i H0 H Y F) :
    wpAny (model X.prog X.w) X.A (pyNext (.ref a)) (fun r s1 => match r with
      | none => ∃ H1, Inv X (pins ++ [(a, oa)]) σ H1 s1 ∧ F H1
      | some v => ∃ x H1 gs' fp', RelV x v ∧ ok1 gs' ∧ HeldB X L pins a oa g rs n (i + 1) H1 gs' fp' σ H1 s1 ∧ Y x H1) (fun _ _ => False) s := by
  have I0 : Inv X (pins ++ [(a, oa)]) σ H s := h.I.pins_of fun p hp => h.I.pin p (List.mem_append_right _ (by
    rcases List.mem_append.mp hp with z | z
    · exact List.mem_append_left _ z
    · rw [List.mem_singleton.mp z]
      exact List.mem_append_right _ List.mem_cons_self))
  obtain ⟨oc, hoc, hcd⟩ : ∃ oc, s.heap.get? X.env.locals = some oc ∧ ∀ v, oc.data ≠ .cell v := by
    obtain ⟨m, ⟨o, es, ep, ho, hd⟩, _⟩ := h.I.loc
    exact ⟨o, ho, fun v z => by rw [hd.1] at z; cases z⟩
  have hgl : g < s.gens.size := (Array.getElem?_eq_some_iff.mp h.gs).1
  have gnd : Gnd (geOf X L) g (s.setGen g .running) H ((X.env.locals, oc) :: (X.pn ++ (pins ++ [(a, oa)]))) fp := by
    refine ⟨Nat.le_trans h.la (Nat.le_of_lt (Heap.lt_size (h.I.pin (a, oa) (List.mem_append_right _ (List.mem_append_right _ List.mem_cons_self))).1)), by rw [setGen_size]; exact hgl, h.I.bs, h.I.stack, h.I.stkFree, h.I.hok, allBare_setGen h.I.bare rfl, fun p hp => ?_, fun p hp => ?_, fun p hp => ?_⟩
    · rcases List.mem_cons.mp hp with rfl | hp
      · refine ⟨hoc, h.I.free, hcd, fun z => absurd (lo.fs _ z) (Nat.not_lt.mpr lo.loc), fun q hq => ?_⟩
        exact (h.I.pin q (List.mem_append_right _ (List.mem_append_right _ (List.mem_cons_of_mem _ hq)))).2.2.1
      · obtain ⟨h1, h2, h3, h4, h5⟩ := I0.pin p hp
        refine ⟨h1, h2, h5, fun z => ?_, fun q hq => h.apart p hp q hq⟩
        rcases List.mem_cons.mp (h.I.stkSub _ z) with y | y
        · exact h3 y
        · exact h4 y
    · obtain ⟨h1, h2, _⟩ := h.I.pin p (List.mem_append_right _ (List.mem_append_right _ (List.mem_cons_of_mem _ hp)))
      exact ⟨h1, h2⟩
    · obtain ⟨h1, h2, h3⟩ := h.gl p hp
      exact ⟨h1, h2, (setGen_ne h1).trans h3⟩
  have wk := h.slp _ H Y F _ gnd r
  refine wpAny_gsz (n := g + 1) hgl ?_
  refine next1 (I0.ok.hd hc) I0.nolimit hroom h.isGen h.gs (Y := fun v gs' s1 => ∃ x H1 fp', RelV x v ∧ Out (geOf X L) g (s.setGen g .running) H s1 H1 ((X.env.locals, oc) :: (X.pn ++ (pins ++ [(a, oa)]))) (fp.gl.map (·.1)) fp' ∧ Y x H1 ∧ Slp (geOf X L) g rs n (i + 1) H1 gs' fp')
    (F := fun s1 => ∃ H1, Out (geOf X L) g (s.setGen g .running) H s1 H1 ((X.env.locals, oc) :: (X.pn ++ (pins ++ [(a, oa)]))) (fp.gl.map (·.1)) ⟨[], []⟩ ∧ F H1) (Er := fun _ _ => False) ?_ ?_ ?_ ?_
  · cases gs with
    | running => exact wk
    | finished => exact wk
    | fresh c => exact sg_mono wk (fun r s1 h1 => .inl h1) fun _ _ _ h1 => h1
    | suspended k l c p fs cl => exact sg_mono wk (fun r s1 h1 => .inl h1) fun _ _ _ h1 => h1
  · intro v s₁ gs' ok ⟨x, H1, fp', rv, o, y, sl⟩ hsz
    have hsz1 : g < s₁.gens.size := by
      have : (s₁.setGen g gs').gens.size = s₁.gens.size := setGen_size _ _ _
      omega
    have J := Inv.ranB lo hst (I0.gens (g := (s.setGen g .running).gens) (allBare_setGen I0.bare rfl)) hoc (s1 := s₁) o
    refine ⟨x, H1, gs', fp', rv, ok, ⟨?_, h.isg, setGen_at hsz1, fun p hp q hq => (o.hp q hq).2.2.2.2 p (List.mem_cons_of_mem _ hp), fun p hp => ?_, sl, h.la⟩, y⟩
    · have J := J.gens (g := (s₁.setGen g gs').gens) (allBare_setGen o.bare ok.bare)
      rw [List.append_assoc] at J
      exact J
    · obtain ⟨h1, h2, h3, _⟩ := o.gl p hp
      exact ⟨h1, h2, (setGen_ne h1).trans h3⟩
  · intro s₁ ⟨H1, o, f⟩ h' hk hsz
    have J := Inv.ranB lo hst (I0.gens (g := (s.setGen g .running).gens) (allBare_setGen I0.bare rfl)) hoc (s1 := s₁) o
    have J := J.gens (g := (s₁.setGen g .finished).gens) (allBare_setGen o.bare rfl)
    refine ⟨H1, ?_, f⟩
    have J := J.kept (h' := h') (t' := s₁.toks) hk
    rw [show (pins ++ [(a, oa)]) ++ (Fp.mk [] []).hp = pins ++ [(a, oa)] from List.append_nil _] at J
    exact J
  · intro e s₁ z
    exact z.elim
theorem HeldB.kept {s1 : Shared} (h : HeldB X L pins a oa g rs n i H0 gs fp σ H s) (k : kp gs = true) (kg : KpG s s1) {σ' : L2.St} {H' : Hp} (I : Inv X (pins ++ (a, oa) :: fp.hp) σ' H' s1) :
    HeldB X L pins a oa g rs n i H0 gs fp σ' H' s1 := ⟨I, h.isg, kg g gs h.gs k, h.apart, fun p hp => ⟨(h.gl p hp).1, (h.gl p hp).2.1, kg _ _ (h.gl p hp).2.2 (h.gl p hp).2.1.kp⟩, h.slp, h.la⟩
end
/-- a lower ground -/
theorem _root_.L2.Inv.cutB {X : Cx} {L : Addr} {pins : List (Addr × Obj)} {σ : L2.St} {H : Hp} {s : Shared} (I : Inv X pins σ H s) (hL : L ≤ X.env.locals) (hz : L ≤ X.s_0.heap.objs.size) (hc : ∀ x c, X.fn x = true → X.env.cells.lookup x = some c → L ≤ c) (hb : X.base.objs.size ≤ L) (hf : ∀ b ∈ X.fs, b < L) :
    Inv { X with s_0 := cutS L X.s_0 } pins σ H s := by
  have z : (cut L X.s_0.heap).objs.size = L := cut_size hz
  have funs : (cut L X.s_0.heap).FunFrames X.base X.outer := by
    have all : ∀ l : List Env, (∀ b ∈ frs l, b < L) → X.s_0.heap.FunFrames X.base l → (cut L X.s_0.heap).FunFrames X.base l := by
      intro l
      induction l with
      | nil => intro _ _; trivial
      | cons env r ih =>
        intro hb hl
        obtain ⟨hk, ⟨L', o, hf, hn, ho, hd⟩, hr⟩ := hl
        have hm : L' ∈ frs (env :: r) := by unfold frs; rw [List.filterMap_cons, hf]; exact List.mem_cons_self
        exact ⟨hk, ⟨L', o, hf, hn, (cut_get (hb L' hm)).trans ho, hd⟩, ih (fun b q => hb b (by unfold frs; rw [List.filterMap_cons, hf]; exact List.mem_cons_of_mem _ q)) hr⟩
    exact all _ hf I.ok.funs
  refine ⟨⟨I.ok.mod, I.ok.kind, I.ok.glob, I.ok.blt, by show (cut L X.s_0.heap).objs.size ≤ _; rw [z]; exact hL, I.ok.inj, I.ok.has, fun x c q e => by show (cut L X.s_0.heap).objs.size ≤ c; rw [z]; exact hc x c q e, I.ok.hd, I.ok.frames, I.ok.stk, I.ok.exf, fun b o e => ⟨(cut_get (Nat.lt_of_lt_of_le (Heap.lt_size e) hb)).trans (I.ok.bs b o e).1, (I.ok.bs b o e).2⟩,
    by show _ ≤ (cut L X.s_0.heap).objs.size; rw [z]; exact hb, I.ok.noex, I.ok.exfs, funs, I.ok.frf⟩, I.os, I.bare, ⟨fun b o e => I.base.keep b o (cut_sub e).2, fun b o e => I.base.slot b o (cut_sub e).2, fun b o e => I.base.free b o (cut_sub e).2, fun b o e => I.base.there b o (cut_sub e).2, I.base.tups, I.base.frzs, I.base.tbls⟩, I.loc, I.cell, I.free, I.freeC, I.pin, I.hok, I.len⟩
section
variable {X : Cx}
/-- [elt for target in g if ..]; Wv by the turn, a measure, the heap at the last yield, the heap -/
def tLcG (t : TGz) (g : TG) (tt : TT) (te : TE) (vs : List Nat) : TE := fun σ H Q => t σ H fun rs H1 => ∀ D, H1 D = none → ∃ W : Nat → Nat → Hp → Hp → Prop, (∃ m, W 0 m H1 (upd H1 D (.lst []))) ∧ ∀ i m Hy H, W i m Hy H →
  rs i Hy H (fun x H' => ∃ Nx : Hp → Prop, (∀ H'', Nx H'' → ∃ m', m' < m ∧ W (i + 1) m' H' H'') ∧ g x (wipe σ vs) H' fun σ2 H2 => wipe σ2 vs = wipe σ vs ∧ tt σ2 H2 fun b H3 =>
    if b = true then te σ2 H3 fun y H4 => ∃ acc, H4 D = some (.lst acc) ∧ acc.length < sizeLine ∧ Nx (upd H4 D (.lst (acc ++ [y]))) else Nx H3) (fun H' => Q (.ref D) H')
end
end Gz
namespace Gz
open PySem PySem.Spec PyProof.Rows GenW L2
section
variable {X : Cx} {pins : List (Addr × Obj)} {s : Shared} {σ : L2.St} {H : Hp}
theorem lcG_core {Q : VK} {elt tg iter : Expr} {ifs : List Expr} {scope : Scope} {own : List (Str × Nat)} {pos pos' : Pos} {t : TGz} {g : TG} {tt : TT} {te : TE} {use : Option (Value → Sem Unit)} {Qf : Value → Shared → Prop}
    (hc : X.calm = true) (hN : X.N.Nodup) (hroom : X.A.depth < recursionLimit) (I : Inv X pins σ H s) (hi : PGz X iter t) (ok : BlkOk X.N X.env.scope scope own) (nocell : ∀ y ∈ scope.names, y.2 ≠ .cell)
    (hg : ∀ (s : Shared) (H : Hp) (C : Addr) (cl : List (Str × Addr)) (fp : List Addr), PG (X.blk s H scope (compEnvC scope cl C X.env) fp) tg g) (ht : ∀ (s : Shared) (H : Hp) (C : Addr) (cl : List (Str × Addr)) (fp : List Addr), PTs (X.blk s H scope (compEnvC scope cl C X.env) fp) ifs tt)
    (he : ∀ (s : Shared) (H : Hp) (C : Addr) (cl : List (Str × Addr)) (fp : List Addr), PE (X.blk s H scope (compEnvC scope cl C X.env) fp) elt te) (hs : ∀ x, foldedSetIterable iter X.env x = pure x)
    (h : tLcG t g tt te (own.map (·.2)) σ H Q)
    (hRR : ∀ D C s' m H', Inv X pins σ H' s' → Q (.ref D) H' → s'.heap.Ns C m → FpOk X pins H' C → compPost (model X.prog X.w) X.A X.xe use Qf (.ref D) C (.ok .next) s') :
    wpAny (model X.prog X.w) X.A (comprehension (.ListComp elt [⟨tg, iter, ifs, 0⟩] scope pos) scope X.env pos' (newList []) false (eval iter X.env) use) Qf X.xe s := by
  have hfree : ∀ y ∈ scope.names, y.2 = .free → ∃ c, X.env.cells.lookup y.1 = some c := fun y hy e => by
    rcases ok.free y hy e with k | k
    · exact I.ok.has _ (.inl k)
    · exact I.ok.has _ (.inr k)
  refine wpAny_comprehension_free (use := use) rfl hs (closure_ok hfree) ok.kind (fun y hy e => by rw [ok.uniq y hy, e]) (thn (hi.run pins s σ H _ I h) fun xv s1 hx => ?_)
  obtain ⟨a, oa, gn, L, cd, fp, rs, H1, rfl, lo, _, hgl, hpl, hd, q⟩ := hx
  refine wpAny_pyIter_gen (hd 0).isGen ?_
  refine wpAny_newObj_type (newEnv_comp ?_) (by show 0 ≤ sizeLine; decide)
  have I1 := (hd 0).I
  generalize hD : s1.heap.objs.size = D
  have hDn : H1 D = none := I1.hok.fresh (Nat.le_of_eq hD)
  obtain ⟨W, ⟨m0, w0⟩, turn⟩ := q D hDn
  have kp3 : ∀ b o, s1.heap.get? b = some o → (s1.heap.push { cls := .type "list", data := .seq ([] : List Value).toArray }).get? b = some o := fun b o e => Heap.get?_push_of_some _ e
  generalize hs3 : ({ s1 with heap := s1.heap.push { cls := .type "list", data := .seq ([] : List Value).toArray } } : Shared) = s3
  have h3 : s3.heap = s1.heap.push { cls := .type "list", data := .seq ([] : List Value).toArray } := by rw [← hs3]
  have g3 : s3.gens = s1.gens := by rw [← hs3]
  have I3 : Inv X (pins ++ (a, oa) :: fp.hp) σ (upd H1 D (.lst [])) s3 := by
    rw [← hs3]
    refine I1.laid (t' := s1.toks) kp3 (Nat.le_of_eq hD) ⟨Nat.zero_le _, [], 0, .nil, ?_⟩
    rw [← hD]
    exact Heap.get?_push_size _ rfl
  have hLa : L ≤ s3.heap.objs.size := Nat.le_trans (hd 0).la (Nat.le_of_lt (Heap.lt_size (I3.pin (a, oa) (List.mem_append_right _ (List.mem_append_right _ List.mem_cons_self))).1))
  have I4 := block_start (fp := []) I3 ok hN (fun b hb => by cases hb)
  have pg := hg (cutS L s3) (upd H1 D (.lst [])) s3.heap.objs.size (cellsFrom (s3.heap.objs.size + 1) scope.names (cloFrom X.env.cells scope.names [])) []
  have pt := ht (cutS L s3) (upd H1 D (.lst [])) s3.heap.objs.size (cellsFrom (s3.heap.objs.size + 1) scope.names (cloFrom X.env.cells scope.names [])) []
  have pe := he (cutS L s3) (upd H1 D (.lst [])) s3.heap.objs.size (cellsFrom (s3.heap.objs.size + 1) scope.names (cloFrom X.env.cells scope.names [])) []
  have ceC : ∀ y c, (compEnvC scope (cellsFrom (s3.heap.objs.size + 1) scope.names (cloFrom X.env.cells scope.names [])) s3.heap.objs.size X.env).cells.lookup y = some c → c < L := fun y c e => by
    have e : (cellsFrom (s3.heap.objs.size + 1) scope.names (cloFrom X.env.cells scope.names [])).lookup y = some c := e
    rw [cells_nil nocell] at e
    rcases cloFrom_mem (PySem.mem_of_lookup e) with z | ⟨z, ez⟩
    · cases z
    · obtain ⟨c', hc'⟩ := hfree _ z rfl
      have hc' : X.env.cells.lookup y = some c' := hc'
      rw [hc'] at ez
      rw [ez]
      exact lo.cell y c' hc'
  show codeAny _ _ (.compStart (.ListComp elt [⟨tg, iter, ifs, 0⟩] scope pos) 0 (.ref a) (.ref D) (compEnvC scope (cellsFrom (s3.heap.objs.size + 1) scope.names (cloFrom X.env.cells scope.names [])) s3.heap.objs.size X.env)) (compPost (model X.prog X.w) X.A X.xe use Qf (.ref D) s3.heap.objs.size) { s3 with heap := pushCells (s3.heap.push { cls := .type "dict", data := .dict #[] }) scope.names }
  generalize hce : compEnvC scope (cellsFrom (s3.heap.objs.size + 1) scope.names (cloFrom X.env.cells scope.names [])) s3.heap.objs.size X.env = ce at I4 pg pt pe ceC ⊢
  have cL : ce.locals = s3.heap.objs.size := by subst hce; rfl
  have kp4 : ∀ b o, s3.heap.get? b = some o → (pushCells (s3.heap.push { cls := .type "dict", data := .dict #[] }) scope.names).get? b = some o := fun b o e => pushCells_keeps _ _ _ _ (Heap.get?_push_of_some _ e)
  generalize hs4 : ({ s3 with heap := pushCells (s3.heap.push { cls := .type "dict", data := .dict #[] }) scope.names } : Shared) = s4 at I4 ⊢
  have h4 : s4.heap = pushCells (s3.heap.push { cls := .type "dict", data := .dict #[] }) scope.names := by rw [← hs4]
  have g4 : s4.gens = s3.gens := by rw [← hs4]
  have hbz : X.base.objs.size ≤ L := Nat.le_trans I1.ok.bsz lo.s0
  have I4c : Inv (X.blk (cutS L s3) (upd H1 D (.lst [])) scope ce []) [] (wipe σ (own.map (·.2))) (upd H1 D (.lst [])) s4 :=
    I4.cutB (L := L) (by show L ≤ ce.locals; rw [cL]; exact hLa) hLa (fun x c q e => by
      exfalso
      have q : (scope.names.lookup x == some NameKind.cell) = true := q
      have q : scope.names.lookup x = some .cell := by simpa using q
      exact nocell _ (PySem.mem_of_lookup q) rfl) hbz lo.fs
  have lob : LowB (X.blk (cutS L s3) (upd H1 D (.lst [])) scope ce []) L := ⟨by show L ≤ ce.locals; rw [cL]; exact hLa, ceC, by show (cut L s3.heap).objs.size ≤ L; rw [cut_size hLa]; exact Nat.le_refl _, lo.fs⟩
  have young : ∀ p ∈ (a, oa) :: fp.hp, s3.heap.get? p.1 = some p.2 ∧ (upd H1 D (.lst [])) p.1 = none ∧ ∀ v, p.2.data ≠ .cell v := fun p hp => by
    obtain ⟨h1, h2, _, _, h5⟩ := I3.pin p (List.mem_append_right _ (List.mem_append_right _ hp))
    exact ⟨h1, h2, h5⟩
  have nfs : ∀ p ∈ (a, oa) :: fp.hp, p.1 ∉ frs X.stack := fun p hp z => by
    obtain ⟨_, _, h3', h4', _⟩ := I3.pin p (List.mem_append_right _ (List.mem_append_right _ hp))
    rcases List.mem_cons.mp (I3.stkSub _ z) with y | y
    · exact h3' y
    · exact h4' y
  have I4p : Inv (X.blk (cutS L s3) (upd H1 D (.lst [])) scope ce []) ([] ++ (a, oa) :: fp.hp) (wipe σ (own.map (·.2))) (upd H1 D (.lst [])) s4 := I4c.pins_of fun p hp => by
    obtain ⟨h1, h2, h5⟩ := young p hp
    refine ⟨by rw [h4]; exact kp4 _ _ h1, h2, fun z => ?_, nfs p hp, h5⟩
    have := Heap.lt_size h1
    have z : p.1 = ce.locals := z
    rw [z, cL] at this
    exact absurd this (Nat.lt_irrefl _)
  have hb0 : ∀ k, HeldB (X.blk (cutS L s3) (upd H1 D (.lst [])) scope ce []) L [] a oa gn rs k 0 H1 (.fresh cd) fp (wipe σ (own.map (·.2))) (upd H1 D (.lst [])) s4 := fun k =>
    ⟨I4p, (hd k).isg, by rw [g4, g3]; exact (hd k).gs, fun p hp q hq => (hd k).apart p (by
      have hp : p ∈ [(a, oa)] := hp
      exact List.mem_append_right _ (List.mem_append_right _ hp)) q hq, fun p hp => (by rw [hgl] at hp; cases hp), (hd k).slp, (hd k).la⟩
  have I3x : Inv X pins σ (upd H1 D (.lst [])) s3 := I3.unpinned
  generalize hH3 : upd H1 D (.lst []) = H3 at I3 I3x I4c I4p hb0 pg pt pe w0 lob young
  have loop : codeAny (model X.prog X.w) X.A (.compLoop (.ListComp elt [⟨tg, iter, ifs, 0⟩] scope pos) 0 (.ref a) (.ref D) ce) (compPost (model X.prog X.w) X.A X.xe use Qf (.ref D) s3.heap.objs.size) s4 := by
    refine compLoop_any (fun m s' => ∃ k i Hy gs fp H', m < k ∧ HeldB (X.blk (cutS L s3) H3 scope ce []) L [] a oa gn rs k i Hy gs fp (wipe σ (own.map (·.2))) H' s' ∧ W i m Hy H') ?_ m0 ⟨m0 + 1, 0, H1, _, fp, H3, Nat.lt_succ_self _, hb0 _, w0⟩
    rintro m s5 ⟨k, i, Hy, gs, fp, H5, hk, h5, w5⟩
    obtain ⟨k, rfl⟩ : ∃ k', k = k' + 1 := ⟨k - 1, by omega⟩
    refine thnF (wpAny_mono (nextGB (X := X.blk (cutS L s3) H3 scope ce []) hc hroom lob rfl h5 (turn i m Hy H5 w5)) (fun r s6 z => z) fun _ _ z => z) fun r s6 h6 => ?_
    cases r with
    | none =>
      obtain ⟨H6, I6, qq⟩ := h6
      have o : Out (geOf X L) gn s3 H3 s6 H6 (X.pn ++ pins) [] ⟨[], []⟩ := by
        refine ⟨I6.os, I6.bare, I6.base, I6.hok, fun p hp => ?_, fun p hp => (by cases hp), fun p hp => (by cases hp)⟩
        obtain ⟨h1, h2, h3', h4', _⟩ := I3x.pin p hp
        have nst : p.1 ∉ frs X.stack := fun z => by
          rcases List.mem_cons.mp (I3x.stkSub _ z) with y | y
          · exact h3' y
          · exact h4' y
        exact ⟨I6.base.keep p.1 p.2 ((cut_get (hpl p hp)).trans h1) h2 nst (by simp), I6.base.free p.1 p.2 ((cut_get (hpl p hp)).trans h1) h2 (by simp)⟩
      have I7 := Inv.ran lo I3x o
      rw [show pins ++ (Fp.mk [] []).hp = pins from List.append_nil _] at I7
      have nC : H6 s3.heap.objs.size = none := by
        have z : H6 ce.locals = none := I6.free
        rw [cL] at z
        exact z
      obtain ⟨mm, hn, _⟩ := I6.loc
      have hn : s6.heap.Ns ce.locals mm := hn
      rw [cL] at hn
      exact hRR D s3.heap.objs.size s6 mm H6 I7 qq hn (I3x.fpOk (Nat.le_refl _) nC)
    | some v =>
      obtain ⟨x, H6, gs', fp', rv, ok1', h6, Nx, hNx, step⟩ := h6
      refine go_gen h6.isGen ?_
      have b6 := h6.I.bare
      refine thnF (thnG (pg.run _ _ _ H6 x v _ h6.I.hush rv step) (fun _ s8 m8 k8 q8 => ?_) fun _ _ _ z => z) fun _ _ z => z
      obtain ⟨σ8, H8, I8, hw8, q8⟩ := q8
      have I8 := I8.upG b6
      generalize up (oldOf s6) s8 = s8 at k8 I8
      have b8 := I8.bare
      refine thnF (thnG (pt.run _ _ σ8 H8 _ I8.hush q8) (fun b s9 m9 k9 q9 => ?_) fun _ _ _ z => z) fun _ _ z => z
      obtain ⟨H9, I9, q9⟩ := q9
      have I9 := I9.upG b8
      have k9 := k8.trans k9
      generalize up (oldOf s8) s9 = s9 at k9 I9
      have b9 := I9.bare
      have fin : ∀ {s' : Shared} {H' : Hp}, KpG s6 s' → Inv (X.blk (cutS L s3) H3 scope ce []) ([] ++ (a, oa) :: fp'.hp) σ8 H' s' → Nx H' → ∃ m', m' < m ∧ ∃ k i Hy gs fp H', m' < k ∧ HeldB (X.blk (cutS L s3) H3 scope ce []) L [] a oa gn rs k i Hy gs fp (wipe σ (own.map (·.2))) H' s' ∧ W i m' Hy H' := fun {s' H'} kg I' nx => by
        obtain ⟨m', hm, w'⟩ := hNx H' nx
        have hl : (wipe σ (own.map (·.2))).length = σ8.length := by rw [← hw8, wipe_length]
        refine ⟨m', hm, k, i + 1, H6, gs', fp', H', by omega, h6.kept ok1'.kp kg (I'.weak hl fun j v e => ?_), w'⟩
        rw [← hw8] at e
        exact (wipe_some e).1
      cases b with
      | false =>
        simp only [Bool.false_eq_true, if_false] at q9 ⊢
        exact fin k9 I9 q9
      | true =>
        simp only [if_true] at q9 ⊢
        refine thnF (thnG (pe.run _ _ σ8 H9 _ I9.hush q9) (fun z s10 m10 k10 q10 => ?_) fun _ _ _ z => z) fun _ _ z => z
        obtain ⟨yv, H10, I10, r10, acc, hD10, hz10, nx⟩ := q10
        have I10 := I10.upG b9
        have k10 := k9.trans k10
        generalize up (oldOf s9) s10 = s10 at k10 I10
        have b10 := I10.bare
        refine thnF (thnG (Q := fun _ s' => Inv (X.blk (cutS L s3) H3 scope ce []) ([] ++ (a, oa) :: fp'.hp) σ8 (upd H10 D (.lst (acc ++ [yv]))) s') (E := fun _ _ => False) (app_ok (X := X.blk (cutS L s3) H3 scope ce []) I10.hush hD10 hz10 r10 fun s11 I11 => I11) (fun _ s11 m11 k11 q11 => ?_) fun _ _ _ z => z) fun _ _ z => z
        exact fin (k10.trans k11) (q11.upG b10) nx
  exact codeAny_compStart_list loop (wpAny_pyIter_gen (by rw [h4]; exact ((hd 0).isGen.keeps fun b o e => kp4 b o (by rw [h3]; exact kp3 b o e))) loop)
/-- as a value -/
theorem pe_lcG {elt tg iter : Expr} {ifs : List Expr} {scope : Scope} {own : List (Str × Nat)} {pos : Pos} {t : TGz} {g : TG} {tt : TT} {te : TE} (hc : X.calm = true) (hN : X.N.Nodup) (hroom : X.A.depth < recursionLimit) (hi : PGz X iter t) (ok : BlkOk X.N X.env.scope scope own) (nocell : ∀ y ∈ scope.names, y.2 ≠ .cell)
    (hg : ∀ (s : Shared) (H : Hp) (C : Addr) (cl : List (Str × Addr)) (fp : List Addr), PG (X.blk s H scope (compEnvC scope cl C X.env) fp) tg g) (ht : ∀ (s : Shared) (H : Hp) (C : Addr) (cl : List (Str × Addr)) (fp : List Addr), PTs (X.blk s H scope (compEnvC scope cl C X.env) fp) ifs tt)
    (he : ∀ (s : Shared) (H : Hp) (C : Addr) (cl : List (Str × Addr)) (fp : List Addr), PE (X.blk s H scope (compEnvC scope cl C X.env) fp) elt te) (hs : ∀ x, foldedSetIterable iter X.env x = pure x := by intro _; rfl) :
    PE X (.ListComp elt [⟨tg, iter, ifs, 0⟩] scope pos) (tLcG t g tt te (own.map (·.2))) := by
  refine ⟨fun pins s σ H Q I h => ?_⟩
  rw [eval_ListComp]
  refine lcG_core hc hN hroom I hi ok nocell hg ht he hs h fun D C s' m H' I' q hn f => ⟨m, hn, fun h'' sb => ?_⟩
  obtain ⟨f0, f1, f2, f3, f4, f5⟩ := f
  exact ⟨.ref D, H', I'.turned (t' := s'.toks) (fun b o hb e => (sb.2 b hb).trans e) f0 f1 f3 f4 f5, rfl, q⟩
/-- name = [..], the name a local -/
theorem ps_setLcG {i : Nat} {y : Str} {py : Pos} {elt tg iter : Expr} {ifs : List Expr} {scope : Scope} {own : List (Str × Nat)} {pos spos : Pos} {t : TGz} {g : TG} {tt : TT} {te : TE} (hc : X.calm = true) (hN : X.N.Nodup) (hroom : X.A.depth < recursionLimit) (hy : X.N[i]? = some y) (hyl : X.env.scope.names.lookup y = some .local)
    (hsw : swapsWith (.ListComp elt [⟨tg, iter, ifs, 0⟩] scope pos) (some (.Name y py)) spos.line X.env = pure true) (hi : PGz X iter t) (ok : BlkOk X.N X.env.scope scope own) (nocell : ∀ y ∈ scope.names, y.2 ≠ .cell)
    (hg : ∀ (s : Shared) (H : Hp) (C : Addr) (cl : List (Str × Addr)) (fp : List Addr), PG (X.blk s H scope (compEnvC scope cl C X.env) fp) tg g) (ht : ∀ (s : Shared) (H : Hp) (C : Addr) (cl : List (Str × Addr)) (fp : List Addr), PTs (X.blk s H scope (compEnvC scope cl C X.env) fp) ifs tt)
    (he : ∀ (s : Shared) (H : Hp) (C : Addr) (cl : List (Str × Addr)) (fp : List Addr), PE (X.blk s H scope (compEnvC scope cl C X.env) fp) elt te) (hs : ∀ x, foldedSetIterable iter X.env x = pure x := by intro _; rfl) :
    PS X (.Assign [.Name y py] (.ListComp elt [⟨tg, iter, ifs, 0⟩] scope pos) spos) (tAsg (tLcG t g tt te (own.map (·.2))) (gName i)) := by
  refine ⟨fun pins s σ H D I h => ?_⟩
  rw [exec_Assign_Name_used _ _ _ _ hsw]
  refine wpAny_bind (wpAny_standAt (wpAny_bind ?_))
  show wpAny _ X.A (do let _ ← comprehension (.ListComp elt [⟨tg, iter, ifs, 0⟩] scope pos) scope X.env (firstIterPos [⟨tg, iter, ifs, 0⟩] pos) (newList []) false (eval iter X.env) (some (assign (.Name y py) X.env))) _ _ s
  have h : tLcG t g tt te (own.map (·.2)) σ H (fun x H1 => gName i x σ H1 D.nx) := h
  refine wpAny_bind (thn (lcG_core (Qf := fun _ s' => SP X pins D .next s') hc hN hroom I hi ok nocell hg ht he hs h fun L C s' m H' I' q hn f => ?_) fun _ s' hq => wpAny_pure (wpAny_pure hq))
  show wpAny _ _ (assign (.Name y py) X.env (.ref L)) _ _ _
  refine wpAny_assign_Name (store_ok2 (v := V.ref L) I' hN hy (.inl hyl) rfl (fun s2 I2 ⟨a, sb, ha⟩ => ?_) (.inr hyl))
  obtain ⟨f0, f1, f2, f3, f4, f5⟩ := f
  have haC : C ≠ a := by
    rcases ha with z | z
    · rw [z]; exact f1
    · exact fun e => f4 y a z e.symm
  refine ⟨m, hn.sameBut sb haC, fun h3 sb3 => ?_⟩
  exact ⟨_, H', I2.turned (t' := s2.toks) (fun b o hb e => (sb3.2 b hb).trans e) f0 f1 f3 f4 f5, q⟩
end
end Gz
/-! super() in a generator; statements right in its frame. -/
namespace Gz
open PySem PySem.Spec PyProof.Rows GenW L2 Hf
open Sem (wp)
/-! ### statements right in the generator's frame -/
end Gz
/-! A generator def with the cell __class__. -/
namespace Gz
open PySem PySem.Spec PyProof.Rows GenW L2 Hf
end Gz
/-! Generators that yield n things, and those who walk them. -/
namespace Gz
open PySem PySem.Spec PyProof.Rows GenW L2
section
variable {S : Hp → Hp → Prop} {n : Nat} {R : Nat → Hp → V → Hp → Prop}
/-- for x in what a def may walk, in a generator -/
theorem for_itN {J : It} {m0 : Nat} {G0 : Hp → Prop} {Y0 : Nat → Hp → V → Hp → Prop} (w : Walk J m0 G0 Y0) {g : Shared → Hp → List (Addr × Obj) → TG} {tb : TN} {D : GD} {W : Wi} {σ : L2.St} {H : Hp} (Pv : Nat → Wi → L2.St → Hp → Prop) (h0 : Pv 0 W σ H) (hG : ∀ i W σ H, i ≤ m0 → Pv i W σ H → G0 H)
    (hs : ∀ i x W σ H H1, i < m0 → Pv i W σ H → Y0 i H x H1 → ∀ s H0 ps, g s H0 ps x σ H1 fun σ2 H2 => tb { D with nx := Pv (i + 1), ct := Pv (i + 1), bk := D.nx } W σ2 H2) (hd : ∀ W σ H, Pv m0 W σ H → D.nx W σ H) :
    ∃ Wv : Nat → Nat → Wi → L2.St → Hp → Prop, (∃ m, Wv 0 m W σ H) ∧ ∀ i m W σ H, Wv i m W σ H →
      (J.stop i H ∧ D.nx W σ H) ∨ (J.go i H ∧ ∃ N : Wi → L2.St → Hp → Prop, (∀ W' σ' H', N W' σ' H' → ∃ m', m' < m ∧ Wv (i + 1) m' W' σ' H') ∧ ∀ x H', J.yld i H x H' → ∀ s H0 ps, g s H0 ps x σ H' fun σ2 H2 => tb { D with nx := N, ct := N, bk := D.nx } W σ2 H2) := by
  refine ⟨fun i m W σ H => m = m0 - i ∧ i ≤ m0 ∧ Pv i W σ H, ⟨m0, by simp, Nat.zero_le _, h0⟩, ?_⟩
  rintro i m W σ H ⟨rfl, hi, p⟩
  have q := hG i W σ H hi p
  by_cases hlt : i < m0
  · exact .inr ⟨w.goes i H hlt q, Pv (i + 1), fun W' σ' H' p' => ⟨m0 - (i + 1), by omega, rfl, hlt, p'⟩, fun x H' y => hs i x W σ H H' hlt p (w.yields i H x H' hlt q y)⟩
  · obtain rfl : i = m0 := by omega
    exact .inl ⟨w.stops H q, hd W σ H p⟩
end
end Gz
/-! ### generators whose sleep is told turn by turn -/
namespace Gz
open PySem PySem.Spec PyProof.Rows GenW L2
/-- as behN, what must stay told by the turn -/
def behM (S : Nat → Hp → Hp → Prop) (n : Nat) (R : Nat → Hp → V → Hp → Prop) : Beh := fun i H' H Y F => S i H' H ∧ (i < n → ∀ x H1, R i H x H1 → Y x H1) ∧ (n ≤ i → F H)
structure WishM (n : Nat) (R : Nat → Hp → V → Hp → Prop) (W : Wi) (H : Hp) : Prop where
  y : W.i < n → ∀ x H1, R W.i H x H1 → W.Y x H1
  f : n ≤ W.i → W.F H
section
variable {S : Nat → Hp → Hp → Prop} {n : Nat} {R : Nat → Hp → V → Hp → Prop}
theorem lc_gM {g : TG} {tt : TT} {te : TE} {vs : List Nat} {σ : L2.St} {H1 : Hp} {D : Addr} {Q : VK} (Pv : Nat → Hp → Hp → Prop) (h0 : Pv 0 H1 (upd H1 D (.lst []))) (hS : ∀ i Hy H, i ≤ n → Pv i Hy H → S i Hy H)
    (hs : ∀ i Hy x H H', i < n → Pv i Hy H → R i H x H' → g x (wipe σ vs) H' fun σ2 H2 => wipe σ2 vs = wipe σ vs ∧ tt σ2 H2 fun b H3 =>
      if b = true then te σ2 H3 fun y H4 => ∃ acc, H4 D = some (.lst acc) ∧ acc.length < sizeLine ∧ Pv (i + 1) H' (upd H4 D (.lst (acc ++ [y]))) else Pv (i + 1) H' H3) (hd : ∀ Hy H, Pv n Hy H → Q (.ref D) H) :
    ∃ W : Nat → Nat → Hp → Hp → Prop, (∃ m, W 0 m H1 (upd H1 D (.lst []))) ∧ ∀ i m Hy H, W i m Hy H →
      behM S n R i Hy H (fun x H' => ∃ Nx : Hp → Prop, (∀ H'', Nx H'' → ∃ m', m' < m ∧ W (i + 1) m' H' H'') ∧ g x (wipe σ vs) H' fun σ2 H2 => wipe σ2 vs = wipe σ vs ∧ tt σ2 H2 fun b H3 =>
        if b = true then te σ2 H3 fun y H4 => ∃ acc, H4 D = some (.lst acc) ∧ acc.length < sizeLine ∧ Nx (upd H4 D (.lst (acc ++ [y]))) else Nx H3) (fun H' => Q (.ref D) H') := by
  refine ⟨fun i m Hy H => m = n - i ∧ i ≤ n ∧ Pv i Hy H, ⟨n, by simp, Nat.zero_le _, h0⟩, ?_⟩
  rintro i m Hy H ⟨rfl, hi, p⟩
  refine ⟨hS i Hy H hi p, fun hlt x H' r => ?_, fun hge => ?_⟩
  · exact ⟨Pv (i + 1) H', fun H'' p' => ⟨n - (i + 1), by omega, rfl, hlt, p'⟩, hs i Hy x H H' hlt p r⟩
  · obtain rfl : i = n := by omega
    exact hd Hy H p
theorem use_yM {D : GD} {W : Wi} {σ : L2.St} {Hw H : Hp} {x : V} (wi : WishM n R W Hw) (hn : W.i < n) (r : R W.i Hw x H) (k : ∀ H2 W', W'.i = W.i + 1 → S (W.i + 1) H H2 → WishM n R W' H2 → D.nx W' σ H2) :
    W.Y x H ∧ ∀ H2 W', W'.i = W.i + 1 → behM S n R W'.i H H2 W'.Y W'.F → D.nx W' σ H2 :=
  ⟨wi.y hn x H r, fun H2 W' e b => k H2 W' e (e ▸ b.1) ⟨b.2.1, b.2.2⟩⟩
end
end Gz
namespace Hf
open PySem PySem.Spec PyProof.Rows L2
/-! ### the rows of sizes as a generator -/
/-- what no walk changes: all but the lists that hold no whole numbers -/
def goodO : HO → Prop
  | .lst xs => ∃ ns : List Int, ns ≠ [] ∧ xs = ns.map V.int
  | _ => True
def SC (H H' : Hp) : Prop := ∀ a o, H a = some o → goodO o → H' a = some o
theorem SC.of {H H' : Hp} (s : Same H H') : SC H H' := fun a o e _ => s a o e
theorem SC.trans {H H' J : Hp} (a : SC H H') (b : SC H' J) : SC H J := fun x o e g => b x o (a x o e g) g
theorem SzR.sc {C : Addr} {H H' : Hp} {q : Addr} {r : Int × V} (h : SzR C H q r) (e : SC H H') : SzR C H' q r := let ⟨dx, h⟩ := h; ⟨dx, e _ _ h trivial⟩
def clsS (i : Nat) (H' H : Hp) : Prop := (i = 0 → Same H' H) ∧ SC H' H
def RC (C : Addr) (l : List (Int × V)) : Nat → Hp → V → Hp → Prop := fun i H x H1 => Same H H1 ∧ ∃ (p : Addr) (r : Int × V), x = .ref p ∧ l[i]? = some r ∧ SzR C H1 p r
def behC (C : Addr) (l : List (Int × V)) : Gz.Beh := Gz.behM clsS l.length (RC C l)
theorem new_lstB {H : Hp} {Q : VK} {xs : List V} (hl : xs.length ≤ 1000000) (k : ∀ (p : Addr) (H' : Hp), H p = none → H' p = some (.lst xs) → Same H H' → Q (.ref p) H') : NewL Q xs H := ⟨Nat.le_of_lt (Nat.lt_of_le_of_lt hl (by decide)), fun p hp => k p _ hp upd_same (Same.new hp)⟩
def LcGK (g : TG) (tt : TT) (te : TE) (vs : List Nat) (σ : L2.St) (Q : VK) (rs : Gz.Beh) (H1 : Hp) : Prop := ∀ D, H1 D = none → ∃ W : Nat → Nat → Hp → Hp → Prop, (∃ m, W 0 m H1 (upd H1 D (.lst []))) ∧ ∀ i m Hy H, W i m Hy H →
  rs i Hy H (fun x H' => ∃ Nx : Hp → Prop, (∀ H'', Nx H'' → ∃ m', m' < m ∧ W (i + 1) m' H' H'') ∧ g x (wipe σ vs) H' fun σ2 H2 => wipe σ2 vs = wipe σ vs ∧ tt σ2 H2 fun b H3 =>
    if b = true then te σ2 H3 fun y H4 => ∃ acc, H4 D = some (.lst acc) ∧ acc.length < sizeLine ∧ Nx (upd H4 D (.lst (acc ++ [y]))) else Nx H3) (fun H' => Q (.ref D) H')
theorem rd_lcG {sp : Gz.SpB} {ta : TA} {g : TG} {tt : TT} {te : TE} {vs : List Nat} {σ : L2.St} {H : Hp} {Q : VK} (q : ta σ H fun xs H1 => sp xs H1 fun rs => LcGK g tt te vs σ Q rs H1) : Gz.tLcG (Gz.tClG sp ta) g tt te vs σ H Q := q
instance i_rd_lcG {sp : Gz.SpB} {ta : TA} {g : TG} {tt : TT} {te : TE} {vs : List Nat} {σ : L2.St} {H : Hp} {Q : VK} : RdC (Gz.tLcG (Gz.tClG sp ta) g tt te vs σ H Q) (ta σ H fun xs H1 => sp xs H1 fun rs => LcGK g tt te vs σ Q rs H1) := ⟨rd_lcG⟩
theorem lc_C {C : Addr} {l : List (Int × V)} {g : TG} {tt : TT} {te : TE} {vs : List Nat} {σ : L2.St} {Q : VK} {H1 : Hp} (Pv : Addr → Nat → Hp → Hp → Prop) (h0 : ∀ D, H1 D = none → Pv D 0 H1 (upd H1 D (.lst []))) (hS : ∀ D i Hy H, i ≤ l.length → Pv D i Hy H → clsS i Hy H)
    (hs : ∀ D i Hy x H H', H1 D = none → i < l.length → Pv D i Hy H → RC C l i H x H' → g x (wipe σ vs) H' fun σ2 H2 => wipe σ2 vs = wipe σ vs ∧ tt σ2 H2 fun b H3 =>
      if b = true then te σ2 H3 fun y H4 => ∃ acc, H4 D = some (.lst acc) ∧ acc.length < sizeLine ∧ Pv D (i + 1) H' (upd H4 D (.lst (acc ++ [y]))) else Pv D (i + 1) H' H3) (hd : ∀ D Hy H, H1 D = none → Pv D l.length Hy H → Q (.ref D) H) : LcGK g tt te vs σ Q (behC C l) H1 := fun D hD =>
  Gz.lc_gM (Pv D) (h0 D hD) (hS D) (fun i Hy x H H' => hs D i Hy x H H' hD) (fun Hy H => hd D Hy H hD)
/-- bounds of the places -/
def PlB (t : P3) : Prop := t.1.natAbs ≤ 400 ∧ t.2.1.natAbs ≤ 10 ^ 21 ∧ t.2.2.natAbs ≤ 400
theorem gap_b {L : List P3} {g : P3} (h : ∀ t ∈ L, PlB t) (m : IsGap L g) : GapB g := by
  obtain ⟨i, j, a, b, _, h1, h2, rfl⟩ := m
  obtain ⟨a1, a2, a3⟩ := h a (List.mem_of_getElem? h1)
  obtain ⟨b1, b2, b3⟩ := h b (List.mem_of_getElem? h2)
  refine ⟨?_, ?_, ?_⟩
  · show (a.1 - b.1).natAbs ≤ 1000; omega
  · show (a.2.1 - b.2.1).natAbs ≤ 10 ^ 22; omega
  · show (a.2.2 - b.2.2).natAbs ≤ 1000; omega
def spCls (CP C : Addr) : Gz.SpB := fun vs H Cc => ∃ (a : Addr) (as : List Addr) (L : List P3), vs = [.ref a] ∧ (H a = some (.lst (as.map V.ref)) ∨ H a = some (.tup (as.map V.ref))) ∧ F2 (PAt CP H) as L ∧ L.length ≤ 64 ∧ (∀ t ∈ L, PlB t) ∧ ∀ l, IsCls L l → l.length ≤ 16386 → Cc (behC C l)
theorem exists_sortedK {α : Type} (k : α → Int) : ∀ xs : List α, (xs.map k).Nodup → ∃ l : List α, l.Pairwise (fun a b => k a < k b) ∧ (∀ x, x ∈ l ↔ x ∈ xs) ∧ l.length = xs.length
  | [], _ => ⟨[], .nil, fun _ => Iff.rfl, rfl⟩
  | a :: xs, h => by
    rw [List.map_cons, List.nodup_cons] at h
    obtain ⟨l, up, mm, ll⟩ := exists_sortedK k xs h.2
    have ne : ∀ x ∈ l, k x ≠ k a := fun x hx e => h.1 (List.mem_map.mpr ⟨x, (mm x).mp hx, e⟩)
    have ins : ∀ l : List α, l.Pairwise (fun a b => k a < k b) → (∀ x ∈ l, k x ≠ k a) → ∃ m : List α, m.Pairwise (fun a b => k a < k b) ∧ (∀ x, x ∈ m ↔ x = a ∨ x ∈ l) ∧ m.length = l.length + 1 := fun l => by
      induction l with
      | nil => exact fun _ _ => ⟨[a], List.pairwise_singleton _ _, fun x => by simp, rfl⟩
      | cons b l ih =>
        intro up ne
        have u := List.pairwise_cons.mp up
        by_cases hb : k a < k b
        · refine ⟨a :: b :: l, List.pairwise_cons.mpr ⟨fun x hx => ?_, up⟩, fun x => by rw [List.mem_cons], rfl⟩
          rcases List.mem_cons.mp hx with rfl | hx
          · exact hb
          · have := u.1 x hx; omega
        · obtain ⟨m, um, mm, lm⟩ := ih u.2 fun x hx => ne x (List.mem_cons_of_mem _ hx)
          refine ⟨b :: m, List.pairwise_cons.mpr ⟨fun x hx => ?_, um⟩, fun x => ?_, by rw [List.length_cons, lm]; rfl⟩
          · rcases (mm x).mp hx with rfl | hx
            · have := ne b List.mem_cons_self; omega
            · exact u.1 x hx
          · rw [List.mem_cons, mm, List.mem_cons]
            constructor
            · rintro (h | h | h)
              · exact .inr (.inl h)
              · exact .inl h
              · exact .inr (.inr h)
            · rintro (h | h | h)
              · exact .inr (.inl h)
              · exact .inl h
              · exact .inr (.inr h)
    obtain ⟨m, um, m2, lm⟩ := ins l up ne
    refine ⟨m, um, fun x => ?_, by rw [lm, ll]; rfl⟩
    rw [m2, mm, List.mem_cons]
theorem exists_once : ∀ xs : List Int, ∃ ys : List Int, ys.Nodup ∧ (∀ x, x ∈ ys ↔ x ∈ xs) ∧ ys.length ≤ xs.length
  | [] => ⟨[], List.nodup_nil, fun _ => Iff.rfl, Nat.le_refl _⟩
  | a :: xs => by
    obtain ⟨ys, n, m, ll⟩ := exists_once xs
    exact ⟨addK ys a, addK_nd n, fun x => by rw [addK_mem, m, List.mem_cons]; exact or_comm, Nat.le_trans addK_len (Nat.succ_le_succ ll)⟩
theorem exists_sortedI (xs : List Int) : ∃ l : List Int, l.Pairwise (· < ·) ∧ (∀ x, x ∈ l ↔ x ∈ xs) ∧ l.length ≤ xs.length := by
  obtain ⟨ys, n, m, ll⟩ := exists_once xs
  obtain ⟨l, u, m2, l2⟩ := exists_sortedK (fun x : Int => x) ys (by rw [List.map_id']; exact n)
  exact ⟨l, u, fun x => (m2 x).trans (m x), by rw [l2]; exact ll⟩
theorem cand_len (L M : List P3) (p : Int) : (L.flatMap fun a => M.flatMap fun b => [tn0 (subP a b) p, tn1 (subP a b) p]).length = L.length * (M.length * 2) := by
  have h1 : ∀ (a : P3) (M : List P3), (M.flatMap fun b => [tn0 (subP a b) p, tn1 (subP a b) p]).length = M.length * 2 := fun a M => by
    induction M with
    | nil => rfl
    | cons b M ih => rw [List.flatMap_cons, List.length_append, ih]; show 2 + M.length * 2 = (M.length + 1) * 2; omega
  induction L with
  | nil => rw [List.flatMap_nil, List.length_nil, List.length_nil, Nat.zero_mul]
  | cons a L ih => rw [List.flatMap_cons, List.length_append, ih, h1]; show _ = (L.length + 1) * _; rw [Nat.succ_mul]; omega
open Classical in
theorem IsLows.ex (L : List P3) (p : Int) (hl : L.length ≤ 64) : ∃ lows, IsLows L p lows ∧ lows.length ≤ 8193 := by
  obtain ⟨ns, up, mm, ln⟩ := exists_sortedI ((L.flatMap fun a => L.flatMap fun b => [tn0 (subP a b) p, tn1 (subP a b) p]).filter fun h => decide (1 - p < h ∧ TurnAt L p h))
  have mm : ∀ x, x ∈ ns ↔ 1 - p < x ∧ TurnAt L p x := fun x => by
    rw [mm, List.mem_filter, decide_eq_true_eq]
    constructor
    · exact fun h => h.2
    · intro h
      refine ⟨?_, h⟩
      obtain ⟨_, i, j, a, b, _, h1, h2, _, t⟩ := h
      refine List.mem_flatMap.mpr ⟨a, List.mem_of_getElem? h1, List.mem_flatMap.mpr ⟨b, List.mem_of_getElem? h2, ?_⟩⟩
      rcases t with rfl | rfl
      · exact List.mem_cons_self
      · exact List.mem_cons_of_mem _ List.mem_cons_self
  have ln : ns.length ≤ 8192 := by
    have a := List.length_filter_le (fun h => decide (1 - p < h ∧ TurnAt L p h)) (L.flatMap fun a => L.flatMap fun b => [tn0 (subP a b) p, tn1 (subP a b) p])
    rw [cand_len] at a
    have : L.length * (L.length * 2) ≤ 64 * (64 * 2) := Nat.mul_le_mul hl (Nat.mul_le_mul_right _ hl)
    omega
  refine ⟨((1 - p) :: ns).map fun h => 2 * h + p, ⟨?_, ?_, fun n => ?_⟩, by rw [List.length_map, List.length_cons]; omega⟩
  · rw [List.pairwise_map]
    refine (List.pairwise_cons.mpr ⟨fun x hx => ((mm x).mp hx).1, up⟩).imp fun h => by omega
  · show some (2 * (1 - p) + p) = some (2 - p)
    congr 1
    omega
  · rw [List.map_cons, List.mem_cons, List.mem_map]
    constructor
    · rintro (h | ⟨h, h1, rfl⟩)
      · exact .inl (by omega)
      · exact .inr ⟨h, ((mm h).mp h1).1, rfl, ((mm h).mp h1).2⟩
    · rintro (h | ⟨h, h1, h2, h3⟩)
      · exact .inl (by omega)
      · exact .inr ⟨h, (mm h).mpr ⟨h1, h3⟩, h2.symm⟩
theorem lows_nd {L : List P3} {lo le : List Int} (h1 : IsLows L 1 lo) (h0 : IsLows L 0 le) : (lo ++ le).Nodup := by
  refine List.nodup_append.mpr ⟨h1.up.imp fun h => by omega, h0.up.imp fun h => by omega, fun a ha b hb e => ?_⟩
  have := h1.par (.inr rfl) a ha
  have := h0.par (.inl rfl) b hb
  omega
theorem IsCls.mk' {L : List P3} {lo le : List Int} (h1 : IsLows L 1 lo) (h0 : IsLows L 0 le) : ∃ l, IsCls L l ∧ (∀ r, r ∈ l ↔ r ∈ rowsOf lo ∨ r ∈ rowsOf le) ∧ l.length = lo.length + le.length := by
  obtain ⟨l, up, mm, ll⟩ := exists_sortedK (fun r : Int × V => r.1) (rowsOf lo ++ rowsOf le) (by rw [List.map_append, rowsOf_fst, rowsOf_fst]; exact lows_nd h1 h0)
  have mm : ∀ r, r ∈ l ↔ r ∈ rowsOf lo ∨ r ∈ rowsOf le := fun r => (mm r).trans List.mem_append
  exact ⟨l, ⟨up, lo, le, h1, h0, mm⟩, mm, by rw [ll, List.length_append, rowsOf_len, rowsOf_len]⟩
theorem IsCls.ex (L : List P3) (hl : L.length ≤ 64) : ∃ l, IsCls L l ∧ l.length ≤ 16386 := by
  obtain ⟨lo, h1, l1⟩ := IsLows.ex L 1 hl
  obtain ⟨le, h0, l0⟩ := IsLows.ex L 0 hl
  obtain ⟨l, h, _, ll⟩ := IsCls.mk' h1 h0
  exact ⟨l, h, by omega⟩
/-- a row is told by its least size -/
theorem IsCls.key {L : List P3} {l : List (Int × V)} (h : IsCls L l) {r s : Int × V} (hr : r ∈ l) (hs : s ∈ l) (e : r.1 = s.1) : r = s := by
  obtain ⟨up, _⟩ := h
  have key : ∀ {l : List (Int × V)}, l.Pairwise (fun a b => a.1 < b.1) → r ∈ l → s ∈ l → r = s := fun {l} => by
    induction l with
    | nil => exact fun _ h _ => by cases h
    | cons a l ih =>
      intro up hr hs
      have u := List.pairwise_cons.mp up
      rcases List.mem_cons.mp hr with e1 | hr2
      · rcases List.mem_cons.mp hs with e2 | hs2
        · rw [e1, e2]
        · rw [e1] at e
          have := u.1 s hs2; omega
      · rcases List.mem_cons.mp hs with e2 | hs2
        · rw [e2] at e
          have := u.1 r hr2; omega
        · exact ih u.2 hr2 hs2
  exact key up hr hs
theorem putK_new {kvs : List (Key × V)} {k : Key} {v : V} (h : ∀ kv ∈ kvs, kv.1 ≠ k) : putK kvs k v = kvs ++ [(k, v)] := by
  unfold putK
  rw [if_neg]
  intro z
  obtain ⟨kv, m, e⟩ := List.any_eq_true.mp z
  exact h kv m (of_decide_eq_true e)
theorem valV_in : ∀ {kvs : List (Key × V)} {k : Key} {v : V}, (kvs.map (·.1)).Nodup → (k, v) ∈ kvs → valV kvs k = some v
  | [], _, _, _, h => by cases h
  | kv :: kvs, k, v, n, h => by
    rw [List.map_cons, List.nodup_cons] at n
    rcases List.mem_cons.mp h with e | h
    · rw [← e]
      exact valV_pos rfl
    · rw [valV_neg (fun e => n.1 (by rw [e]; exact List.mem_map.mpr ⟨_, h, rfl⟩))]
      exact valV_in n.2 h
/-- the dict of the rows by their least sizes -/
def entR (x : (Int × V) × Addr) : Key × V := (Sum.inl x.1.1, V.ref x.2)
theorem ent_keys : ∀ {rs : List (Int × V)} {ps : List Addr}, ps.length = rs.length → ((rs.zip ps).map entR).map (·.1) = (rs.map (·.1)).map Sum.inl
  | [], [], _ => rfl
  | [], _ :: _, h => by cases h
  | _ :: _, [], h => by cases h
  | r :: rs, p :: ps, h => by
    rw [List.zip_cons_cons, List.map_cons, List.map_cons, ent_keys (Nat.succ.inj h)]
    rfl
theorem inl_nodup : ∀ {ks : List Int}, ks.Nodup → (ks.map (Sum.inl : Int → Key)).Nodup
  | [], _ => List.nodup_nil
  | k :: ks, h => by
    rw [List.nodup_cons] at h
    rw [List.map_cons, List.nodup_cons]
    refine ⟨fun z => ?_, inl_nodup h.2⟩
    obtain ⟨x, hx, e⟩ := List.mem_map.mp z
    injection e with e
    exact h.1 (e ▸ hx)
theorem IsCls.fst {L : List P3} {l : List (Int × V)} (h : IsCls L l) {lo le ns : List Int} (h1 : IsLows L 1 lo) (h0 : IsLows L 0 le) (up : ns.Pairwise (· < ·)) (mm : ∀ x, x ∈ ns ↔ x ∈ lo ++ le) : l.map (·.1) = ns ∧ ∀ r, r ∈ l ↔ r ∈ rowsOf lo ++ rowsOf le := by
  obtain ⟨u, lo', le', x1, x0, m⟩ := h
  cases x1.uniq h1
  cases x0.uniq h0
  refine ⟨sorted_ext (k := id) (by rw [List.pairwise_map]; exact u) up fun x => ?_, fun r => (m r).trans List.mem_append.symm⟩
  rw [mm, List.mem_map, List.mem_append]
  have e1 := rowsOf_fst lo
  have e0 := rowsOf_fst le
  constructor
  · rintro ⟨r, hr, rfl⟩
    refine ((m r).mp hr).imp (fun h => ?_) fun h => ?_
    · rw [← e1]; exact List.mem_map.mpr ⟨r, h, rfl⟩
    · rw [← e0]; exact List.mem_map.mpr ⟨r, h, rfl⟩
  · rintro (h | h)
    · rw [← e1] at h
      obtain ⟨r, hr, e⟩ := List.mem_map.mp h
      exact ⟨r, (m r).mpr (.inl hr), e⟩
    · rw [← e0] at h
      obtain ⟨r, hr, e⟩ := List.mem_map.mp h
      exact ⟨r, (m r).mpr (.inr hr), e⟩
/-- the class of a size -/
def spClsOf (K : PySem.W.Frag) (CP C CS : Addr) : Sp := fun vs H Q E => ∃ (a : Addr) (as : List Addr) (L : List P3) (v : V), vs = [.ref a, v] ∧ H a = some (.lst (as.map V.ref)) ∧ F2 (PAt CP H) as L ∧ L.length ≤ 64 ∧ (∀ t ∈ L, PlB t) ∧
  (((NotW K H v ∨ ∃ i : Int, v = .int i ∧ i < 1) ∧ Lets E CS H [("part", .str "size")]) ∨ ∃ n : Int, v = .int n ∧ 1 ≤ n ∧ ∀ l, IsCls L l → ∀ (p : Addr) (r : Int × V) (H' : Hp), SzR C H' p r → r ∈ l → szIn r.1 r.2 n = true → Same H H' → Q (.ref p) H')
theorem SC.put {H : Hp} {D : Addr} {as : List Addr} {o : HO} (h : H D = some (.lst (as.map V.ref))) : SC H (upd H D o) := fun a u e g => by
  by_cases z : a = D
  · subst z
    rw [h] at e
    cases e
    obtain ⟨ns, n, e⟩ := g
    cases as with
    | nil =>
      cases ns with
      | nil => exact absurd rfl n
      | cons x ns => cases e
    | cons x as =>
      cases ns with
      | nil => exact absurd rfl n
      | cons y ns => injection e with e1 _; cases e1
  · rw [upd_ne z]
    exact e
theorem filter_take {α : Type} {q : α → Bool} {l : List α} {i : Nat} {r : α} (h : l[i]? = some r) : (l.take (i + 1)).filter q = (l.take i).filter q ++ (if q r = true then [r] else []) := by
  rw [List.take_add_one, h, List.filter_append]
  congr 1
  show [r].filter q = _
  by_cases z : q r = true
  · rw [if_pos z, List.filter_cons_of_pos z]; rfl
  · rw [if_neg z, List.filter_cons_of_neg z]; rfl
theorem IsCls.hs {L : List P3} {l : List (Int × V)} (h : IsCls L l) : ∀ r ∈ l, Hs r.2 := fun r hr => by
  obtain ⟨_, lo, le, _, _, m⟩ := h
  have key : ∀ ls : List Int, ∀ r ∈ rowsOf ls, Hs r.2 := fun ls => by
    induction ls with
    | nil => intro r h; cases h
    | cons a ls ih =>
      cases ls with
      | nil => intro r h; rw [List.mem_singleton.mp h]; exact .inl rfl
      | cons b ls =>
        intro r h
        rw [rowsOf] at h
        rcases List.mem_cons.mp h with rfl | h
        · exact .inr ⟨_, rfl⟩
        · exact ih r h
  rcases (m r).mp hr with h | h
  · exact key _ r h
  · exact key _ r h
end Hf
namespace Hf
open PySem PySem.Spec PyProof.Rows L2
/-! ### what law k10 draws and reckons -/
def Pl10 (t : P3) : Prop := t.1.natAbs ≤ 4 ∧ t.2.1.natAbs ≤ 6 ∧ t.2.2.natAbs ≤ 1
theorem Pl10.b {t : P3} (h : Pl10 t) : PlB t := ⟨Nat.le_trans h.1 (by decide), Nat.le_trans h.2.1 (by decide), Nat.le_trans h.2.2 (by decide)⟩
theorem ne_of_none' {H : Hp} {a b : Addr} {o : HO} (n : H a = none) (e : H b = some o) : a ≠ b := fun z => by rw [z, e] at n; cases n
theorem bag_tup {b : Addr} {H : Hp} {xs : List V} (B : Bag H b) (h : H b = some (.tup xs)) : False := by
  obtain ⟨c, B⟩ := B
  rcases B with ⟨cs, a, r, s, e1, e2⟩
  rw [h] at e1
  cases e1
theorem bag_lst {b : Addr} {H : Hp} {xs : List V} (B : Bag H b) (h : H b = some (.lst xs)) : False := by
  obtain ⟨c, B⟩ := B
  rcases B with ⟨cs, a, r, s, e1, e2⟩
  rw [h] at e1
  cases e1
theorem TAt.keep {b : Addr} {H H' : Hp} {q : Addr} {t : P3} (h : TAt H q t) {c : Addr} (B : BagC H b c) (e : Keep b H H') : TAt H' q t := e _ _ h fun z => by
  have h' : H q = some (.tup (intsP t)) := h
  rw [z] at h'
  exact bag_tup ⟨c, B⟩ h'
theorem BagC.put {H : Hp} {b c l : Addr} {o : HO} (B : BagC H b c) (h1 : l ≠ b) (h2 : l ≠ c) : BagC (upd H l o) b c := by
  rcases B with ⟨cs, a, r, s, e1, e2, h⟩
  exact ⟨cs, a, r, s, (upd_ne (Ne.symm h1)).trans e1, (upd_ne (Ne.symm h2)).trans e2, h⟩
theorem BagC.same' {H H' : Hp} {b c : Addr} (B : BagC H b c) (e : Same H H') : BagC H' b c := by
  rcases B with ⟨cs, a, r, s, e1, e2, h⟩
  exact ⟨cs, a, r, s, e _ _ e1, e _ _ e2, h⟩
theorem BagC.nes {H : Hp} {b c l : Addr} (B : BagC H b c) (n : H l = none) : l ≠ b ∧ l ≠ c := by
  rcases B with ⟨cs, a, r, s, e1, e2, h⟩
  exact ⟨ne_of_none' n e1, ne_of_none' n e2⟩
/-- a statement, and what holds behind it -/
theorem ts_cutN {ts : TS} {D : Ends} {σ : L2.St} {H : Hp} (S : L2.St → Hp → Prop) (h : ∀ N : L2.St → Hp → Prop, (∀ σ' H', S σ' H' → N σ' H') → ts { D with nx := N } σ H) (fin : ∀ σ' H', S σ' H' → D.nx σ' H') : ts D σ H := h D.nx fin
theorem TAt.putL {H : Hp} {q l : Addr} {t : P3} {xs : List V} {o : HO} (h : TAt H q t) (e : H l = some (.lst xs)) : TAt (upd H l o) q t := (upd_ne (fun z => by have h' : H q = some (.tup (intsP t)) := h; rw [z, e] at h'; cases h')).trans h
theorem intsP_atom (t : P3) : ∀ x ∈ intsP t, Atom x := fun x hx => by
  unfold intsP at hx
  simp only [List.mem_cons, List.not_mem_nil, or_false] at hx
  rcases hx with rfl | rfl | rfl <;> exact atom_int _
theorem PAt.keepB {C b c : Addr} {H H' : Hp} {q : Addr} {t : P3} (h : PAt C H q t) (B : BagC H b c) (e : Keep b H H') : PAt C H' q t := by
  obtain ⟨dx, h⟩ := h
  refine ⟨dx, e _ _ h fun z => ?_⟩
  rw [z] at h
  rcases B with ⟨cs, a, r, s, e1, e2⟩
  rw [h] at e1
  cases e1
def spLParts10 : Sp := fun vs H Q _ => ∃ b c : Addr, vs = [.ref b] ∧ BagC H b c ∧ ∀ (q : Addr) (t : P3) (H' : Hp), TAt H' q t → Pl10 t → BagC H' b c → Keep b H H' → Q (.ref q) H'
def spLAt10 : Sp := fun vs H Q _ => ∃ (q : Addr) (t : P3) (n : Int), vs = [.ref q, .int n] ∧ TAt H q t ∧ Pl10 t ∧ 0 ≤ n ∧ n ≤ 1000 ∧ Q (.int (atP t n)) H
def spLPl10 (C : Addr) : Sp := fun vs H Q _ => ∃ (q : Addr) (t : P3), vs = [.ref q] ∧ TAt H q t ∧ ∀ (p : Addr) (H' : Hp), PAt C H' p t → Same H H' → Q (.ref p) H'
def spLSome10 : Sp := fun vs H Q _ => ∃ b c : Addr, vs = [.ref b] ∧ BagC H b c ∧ ∀ (l : Addr) (ts : List Addr) (L : List P3) (H' : Hp), H' l = some (.lst (ts.map V.ref)) → F2 (TAt H') ts L → L.length ≤ 5 → (∀ t ∈ L, Pl10 t) → BagC H' b c → Keep b H H' → Q (.ref l) H'
/-- a table of whole numbers -/
def MAt (H : Hp) (l : Addr) (M : List (List Int)) : Prop := ∃ ls : List Addr, H l = some (.lst (ls.map V.ref)) ∧ F2 (fun a r => H a = some (.lst (r.map V.int))) ls M
theorem MAt.same {H H' : Hp} {l : Addr} {M : List (List Int)} (h : MAt H l M) (e : Same H H') : MAt H' l M := let ⟨ls, a, f⟩ := h; ⟨ls, e _ _ a, F2.imp (fun x r h => e _ _ h) f⟩
def spLSigns : Sp := fun vs H Q _ => ∃ (l : Addr) (ts : List Addr) (L : List P3) (n : Int), vs = [.ref l, .int n] ∧ H l = some (.lst (ts.map V.ref)) ∧ F2 (TAt H) ts L ∧ L.length ≤ 5 ∧ (∀ t ∈ L, Pl10 t) ∧ 0 ≤ n ∧ n ≤ 1000 ∧ ∀ (m : Addr) (H' : Hp), MAt H' m (sgM L n) → Same H H' → Q (.ref m) H'
end Hf
namespace Hf
open PySem PySem.Spec PyProof.Rows L2
/-! ### tables compared -/
def tblD (M : List (List Int)) : List PyData := M.map fun r => .list (r.map PyData.int)
theorem dp_tbl {K : PySem.W.Frag} {H : Hp} : ∀ {ls : List Addr} {M : List (List Int)}, F2 (fun a r => H a = some (.lst (r.map V.int))) ls M → DpAll K H (ls.map V.ref) (tblD M)
  | _, _, .nil => .nil
  | _, _, .cons h f => .cons (.lst (SqL.of h) (dp_ints _)) (dp_tbl f)
theorem tbl_lay : ∀ M : List (List Int), PyData.canLayAll0 (tblD M) = true ∧ PyData.depthAll (tblD M) ≤ 2
  | [] => ⟨rfl, by simp [tblD, PyData.depthAll]⟩
  | r :: M => by
    have h := shp_ints r
    obtain ⟨a, b⟩ := tbl_lay M
    have hr : PyData.canLayAll0 (r.map PyData.int) = true ∧ PyData.depthAll (r.map PyData.int) ≤ 1 := by
      clear h a b
      induction r with
      | nil => exact ⟨rfl, by simp [PyData.depthAll]⟩
      | cons x r ih => exact ⟨by rw [List.map_cons, PyData.canLayAll0, ih.1]; simp [PyData.canLay0], by rw [List.map_cons, PyData.depthAll]; have := ih.2; simp only [PyData.depth]; omega⟩
    constructor
    · show PyData.canLayAll0 (_ :: tblD M) = true
      rw [PyData.canLayAll0, a]
      simp only [PyData.canLay0, hr.1, Bool.and_self]
    · show PyData.depthAll (_ :: tblD M) ≤ 2
      rw [PyData.depthAll]
      simp only [PyData.depth]
      have := hr.2
      omega
theorem tbl_shp (M : List (List Int)) : SeqAt.shaped (.list (tblD M)) = true := by
  obtain ⟨a, b⟩ := tbl_lay M
  simp only [SeqAt.shaped, PyData.canLay0, PyData.depth, Bool.and_eq_true, decide_eq_true_eq]
  exact ⟨a, decide_eq_true (by omega)⟩
theorem ints_eqv : ∀ xs ys : List Int, PyData.eqvAll (xs.map PyData.int) (ys.map PyData.int) = decide (xs = ys) := by
  intro xs
  induction xs with
  | nil => intro ys; cases ys <;> simp [PyData.eqvAll]
  | cons x xs ih =>
    intro ys
    cases ys with
    | nil => simp [PyData.eqvAll]
    | cons y ys =>
      simp only [List.map_cons, PyData.eqvAll, ih, PyData.eqv]
      rw [Bool.eq_iff_iff]
      simp [PyData.eqv]
theorem tbl_eqv : ∀ M N : List (List Int), PyData.eqvAll (tblD M) (tblD N) = decide (M = N) := by
  intro M
  induction M with
  | nil => intro N; cases N <;> simp [PyData.eqvAll, tblD]
  | cons r M ih =>
    intro N
    cases N with
    | nil => simp [PyData.eqvAll, tblD]
    | cons s N =>
      show PyData.eqvAll (PyData.list (r.map PyData.int) :: tblD M) (PyData.list (s.map PyData.int) :: tblD N) = _
      rw [PyData.eqvAll, ih, show PyData.eqv (.list (r.map PyData.int)) (.list (s.map PyData.int)) = decide (r = s) from by simp only [PyData.eqv]; exact ints_eqv r s, Bool.eq_iff_iff]
      simp
theorem use_neM {K : PySem.W.Frag} {H : Hp} {Q : VK} {a b : Addr} {M N : List (List Int)} (ha : MAt H a M) (hb : MAt H b N) (k : Q (.bl (!decide (M = N))) H) : rNeD K (.ref a) (.ref b) H Q := by
  obtain ⟨ls, ea, fa⟩ := ha
  obtain ⟨ms, eb, fb⟩ := hb
  refine use_neD (.lst (SqL.of ea) (dp_tbl fa)) (.lst (SqL.of eb) (dp_tbl fb)) (tbl_shp M) (tbl_shp N) ?_
  rw [show PyData.eqv (.list (tblD M)) (.list (tblD N)) = decide (M = N) from by simp only [PyData.eqv]; exact tbl_eqv M N]
  exact k
/-! ### the rows that the law finds by going through sizes -/
structure LawLows (L : List P3) (f : Int) (cnt : Nat) (ls : List Int) : Prop where
  up : ls.Pairwise (· < ·)
  hd : ls.head? = some f
  at_ : ∀ x, x ∈ ls ↔ x = f ∨ ∃ i : Nat, i < cnt ∧ x = f + 2 + 2 * (i : Int) ∧ sgM L x ≠ sgM L (x - 2)
theorem LawLows.one {L : List P3} {f : Int} : LawLows L f 0 [f] := ⟨List.pairwise_singleton _ _, rfl, fun x => by
  rw [List.mem_singleton]
  exact ⟨.inl, fun h => h.elim id fun ⟨i, h, _⟩ => absurd h (Nat.not_lt_zero _)⟩⟩
theorem LawLows.le {L : List P3} {f : Int} {cnt : Nat} {ls : List Int} (h : LawLows L f cnt ls) : ∀ x ∈ ls, x ≤ f + 2 * (cnt : Int) ∧ f ≤ x ∧ x % 2 = f % 2 := fun x hx => by
  rcases (h.at_ x).mp hx with rfl | ⟨i, hi, rfl, _⟩ <;> omega
theorem LawLows.no {L : List P3} {f : Int} {cnt : Nat} {ls : List Int} (h : LawLows L f cnt ls) (e : sgM L (f + 2 + 2 * (cnt : Int)) = sgM L (f + 2 + 2 * (cnt : Int) - 2)) : LawLows L f (cnt + 1) ls := ⟨h.up, h.hd, fun x => by
  rw [h.at_]
  constructor
  · rintro (h | ⟨i, hi, e1, e2⟩)
    · exact .inl h
    · exact .inr ⟨i, by omega, e1, e2⟩
  · rintro (h | ⟨i, hi, e1, e2⟩)
    · exact .inl h
    · by_cases z : i = cnt
      · subst z
        rw [e1] at e2
        exact absurd e e2
      · exact .inr ⟨i, by omega, e1, e2⟩⟩
theorem LawLows.yes {L : List P3} {f : Int} {cnt : Nat} {ls : List Int} (h : LawLows L f cnt ls) (e : sgM L (f + 2 + 2 * (cnt : Int)) ≠ sgM L (f + 2 + 2 * (cnt : Int) - 2)) : LawLows L f (cnt + 1) (ls ++ [f + 2 + 2 * (cnt : Int)]) := by
  refine ⟨List.pairwise_append.mpr ⟨h.up, List.pairwise_singleton _ _, fun x hx y hy => ?_⟩, ?_, fun x => ?_⟩
  · rw [List.mem_singleton.mp hy]
    have := (h.le x hx).1
    omega
  · have := h.hd
    cases ls with
    | nil => cases this
    | cons a l => exact this
  · rw [List.mem_append, List.mem_singleton, h.at_]
    constructor
    · rintro ((h | ⟨i, hi, e1, e2⟩) | h)
      · exact .inl h
      · exact .inr ⟨i, by omega, e1, e2⟩
      · exact .inr ⟨cnt, Nat.lt_succ_self _, h, by rw [h]; exact e⟩
    · rintro (h | ⟨i, hi, e1, e2⟩)
      · exact .inl (.inl h)
      · by_cases z : i = cnt
        · subst z
          exact .inr e1
        · exact .inl (.inr ⟨i, by omega, e1, e2⟩)
theorem pl10_turn {L : List P3} (pb : ∀ t ∈ L, Pl10 t) {p h : Int} (hp : Par p) (t : TurnAt L p h) : h.natAbs ≤ 20 := by
  obtain ⟨i, j, a, b, _, h1, h2, n, t⟩ := t
  obtain ⟨_, a2, a3⟩ := pb a (List.mem_of_getElem? h1)
  obtain ⟨_, b2, b3⟩ := pb b (List.mem_of_getElem? h2)
  have e : (hig (subP a b) p).natAbs ≤ 14 := by
    unfold hig subP
    rcases hp with rfl | rfl
    · simp only [Int.mul_zero]
      split <;> omega
    · simp only [Int.mul_one]
      split <;> omega
  rcases t with rfl | rfl
  · unfold tn0
    have := ediv_abs (hig (subP a b) p) (stp (subP a b))
    omega
  · unfold tn1
    have := ediv_abs (0 - hig (subP a b) p) (stp (subP a b))
    omega
theorem LawLows.is {L : List P3} (pb : ∀ t ∈ L, Pl10 t) {p : Int} (hp : Par p) {ls : List Int} (h : LawLows L (2 - p) 44 ls) : IsLows L p ls := by
  refine ⟨h.up, h.hd, fun x => ?_⟩
  rw [h.at_]
  constructor
  · rintro (h | ⟨i, hi, rfl, e⟩)
    · exact .inl h
    · refine .inr ⟨2 - p + i, by omega, by omega, (chg_iff hp).mp ?_⟩
      rw [show 2 * (2 - p + (i : Int)) + p = 2 - p + 2 + 2 * (i : Int) by omega]
      exact e
  · rintro (h | ⟨k, hk, rfl, t⟩)
    · exact .inl h
    · have b := pl10_turn pb hp t
      have e := (chg_iff hp).mpr t
      refine .inr ⟨(k - (2 - p)).toNat, ?_, ?_, e⟩
      · rcases hp with rfl | rfl <;> omega
      · omega
/-- a tuple of a least and a greatest size -/
def RowA (H : Hp) (q : Addr) (r : Int × V) : Prop := H q = some (.tup [.int r.1, r.2])
def entV (r : Int × V) : Key × V := (Sum.inl r.1, r.2)
def spLDue10 : Sp := fun vs H Q _ => ∃ (l : Addr) (ts : List Addr) (L : List P3), vs = [.ref l] ∧ H l = some (.lst (ts.map V.ref)) ∧ F2 (TAt H) ts L ∧ L.length ≤ 5 ∧ (∀ t ∈ L, Pl10 t) ∧ ∀ (d : Addr) (qs : List Addr) (rl : List (Int × V)) (H' : Hp), H' d = some (.lst (qs.map V.ref)) → F2 (RowA H') qs rl → IsCls L rl → rl.length ≤ 100 → Same H H' → Q (.ref d) H'
/-- the rows that are closed, and the one that is open -/
structure Opn (ls : List Int) (low : Int) (cl : List (Int × V)) : Prop where
  e : rowsOf (ls ++ [low]) = cl ++ [(low, .non)]
theorem Opn.one {f : Int} : Opn [] f [] := ⟨rfl⟩
theorem Opn.step {ls : List Int} {low n : Int} {cl : List (Int × V)} (h : Opn ls low cl) : Opn (ls ++ [low]) n (cl ++ [(low, .int (n - 2))]) := ⟨by
  rw [List.append_assoc, List.singleton_append, rowsOf_snoc, h.e, List.dropLast_concat, List.append_assoc]
  rfl⟩
theorem Opn.fst {ls : List Int} {low : Int} {cl : List (Int × V)} (h : Opn ls low cl) : cl.map (·.1) = ls := by
  have := rowsOf_fst (ls ++ [low])
  rw [h.e, List.map_append] at this
  exact (List.append_inj' this rfl).1
end Hf
/-! ### a generator def of the module called by keywords -/
namespace Gz
open PySem PySem.Spec PyProof.Rows GenW L2 Hf
def CalGK (P : Program) (w : World) (K : PySem.W.Frag) (mg : Str → Option Value) (base : Heap) (k : Nat) (x : Str) (ks : List Str) (q : List V → List V) (sp : SpB) : Prop :=
  ∃ (f : Addr) (fd : FuncData) (ps : List Str) (g : List Value → List Value → List Value) (gV : List V → List V → List V), GFz P w K mg base k f fd ps sp ∧ mg x = some (.ref f) ∧ PySem.W.keepIn K (.ref f) = true ∧ KBn K fd ps 0 ks g gV ∧ ∀ zs : List V, zs.length = ks.length → gV [] zs = q zs
def tClGK (m : Nat) (q : List V → List V) (sp : SpB) (tk : TA) : TGz := fun σ H C => tk σ H fun zs H1 => zs.length = m ∧ sp (q zs) H1 fun rs => C rs H1
theorem pgz_clK {X : Cx} {k j : Nat} {x : Str} {ks : List Str} {q : List V → List V} {sp : SpB} {kws : List Keyword} {tk : TA} {p pos : Pos} (c : CalGK X.prog X.w X.K X.mg X.base k x ks q sp) (hr : Room j X.A) (hkw : PK X kws tk) (hk : k + 1 ≤ j := by decide) (hg : Gl X x := by rfl)
    (hall : (backToKw pos (keywordEach kws X.env)).all (·.1.isSome) = true := by rfl) (hks : (backToKw pos (keywordEach kws X.env)).filterMap (·.1) = ks := by rfl) (hdb : (x == ("__debug__" : Str)) = false := by decide)
    (hpl : ((backTo pos (starEach [] X.env)).any (·.1) || (backToKw pos (keywordEach kws X.env)).any (·.1.isNone)) = false := by rfl) : PGz X (.Call (.Name x p) [] kws pos) (tClGK ks.length q sp tk) := by
  obtain ⟨f, fd, ps, g, gV, F, hm, kp, hb, hgv⟩ := c
  refine ⟨fun pins s σ H C I h => ?_⟩
  refine wpAny_gsz (n := s.gens.size) (Nat.le_refl _) ?_
  refine wpAny_Call_Name_kw (ld_glob I hg hm ?_ hdb)
  refine PySem.W.callWith_KW0 (h₀ := X.base) I.ok.mod.kin kp hall ?_ hpl
  refine thn (wpAny_gsz (n := s.gens.size) (Nat.le_refl _) (wpAny_mono (hkw.run pos pins s σ H _ I h) (fun us s1 z hz => (⟨z, hz⟩ : (_ ∧ s.gens.size ≤ s1.gens.size))) fun _ _ z _ _ => z)) fun ws s2 ⟨⟨zs, H2, I2, rz, l2, q2⟩, hz⟩ => ⟨I2.kIn, ?_⟩
  rw [hks]
  have hr1 : Room (k + 1) X.A := hr.mono hk
  have hlz : zs.length = ks.length := l2
  have hlw : ws.length = ks.length := rz.length.symm.trans l2
  refine wpAny_call (codeAny_mono (F.run X.A X.stack s2 H2 ⟨[], ks.zip ws⟩ (g [] ws) (gV [] zs) _ (hr.mono (Nat.le_of_succ_le hk)) I2.env0 (hb.to s2 [] ws I2.kIn rfl hlw) (hb.rel .nil rz) (by rw [hgv _ hlz]; exact q2)) fun r s' hq => ?_)
  cases r with
  | error e => exact hq.elim
  | ok fl =>
    cases fl with
    | ret u =>
      obtain ⟨a, oa, gi, L, c, fp, rs, h1, h2, h3, h4, h5, h6, h7⟩ := gmz_held I2 hr1.in1 hq
      exact fun _ => ⟨a, oa, gi, L, c, fp, rs, H2, h1, h2, Nat.le_trans hz h3, h4, h5, h6, h7⟩
    | next => exact hq.elim
    | brk => exact hq.elim
    | cont => exact hq.elim
end Gz
namespace Hf
open PySem PySem.Spec PyProof.Rows L2
theorem rd_lcGK {m : Nat} {q : List V → List V} {sp : Gz.SpB} {tk : TA} {g : TG} {tt : TT} {te : TE} {vs : List Nat} {σ : L2.St} {H : Hp} {Q : VK} (h : tk σ H fun zs H1 => zs.length = m ∧ sp (q zs) H1 fun rs => LcGK g tt te vs σ Q rs H1) : Gz.tLcG (Gz.tClGK m q sp tk) g tt te vs σ H Q := h
instance i_rd_lcGK {m : Nat} {q : List V → List V} {sp : Gz.SpB} {tk : TA} {g : TG} {tt : TT} {te : TE} {vs : List Nat} {σ : L2.St} {H : Hp} {Q : VK} : RdC (Gz.tLcG (Gz.tClGK m q sp tk) g tt te vs σ H Q) (tk σ H fun zs H1 => zs.length = m ∧ sp (q zs) H1 fun rs => LcGK g tt te vs σ Q rs H1) := ⟨rd_lcGK⟩
end Hf
namespace Hf
open PySem PySem.Spec PyProof.Rows L2
theorem RowA.put {H : Hp} {q l : Addr} {r : Int × V} {xs : List V} {o : HO} (h : RowA H q r) (e : H l = some (.lst xs)) : RowA (upd H l o) q r := (upd_ne (fun z => by have h' : H q = some (.tup [.int r.1, r.2]) := h; rw [z, e] at h'; cases h')).trans h
theorem RowA.same {H H' : Hp} {q : Addr} {r : Int × V} (h : RowA H q r) (e : Same H H') : RowA H' q r := e _ _ h
theorem RowA.keep {H H' : Hp} {q b c : Addr} {r : Int × V} (h : RowA H q r) (B : BagC H b c) (e : Keep b H H') : RowA H' q r := e _ _ h fun z => by
  have h' : H q = some (.tup [.int r.1, r.2]) := h
  rw [z] at h'
  exact bag_tup ⟨c, B⟩ h'
/-- [(row.low, row.high) for row in classes(..)] -/
theorem use_told {K : PySem.W.Frag} {mg : Str → Option Value} {C : Addr} {j : Nat} {σ : L2.St} {H : Hp} {Q : VK} {l : List (Int × V)} (C0 : SzC K mg C) (hj : j < σ.length) (ll : l.length ≤ 16386) (k : ∀ (D : Addr) (qs : List Addr) (H' : Hp), H D = none → H' D = some (.lst (qs.map V.ref)) → F2 (RowA H') qs l → Same H H' → Q (.ref D) H') :
    LcGK (gName j) tYes (tTup (tCons (tFld K (tVar j) "low") (tCons (tFld K (tVar j) "high") tNil))) [j] σ Q (behC C l) H := by
  refine lc_C (fun D i Hy H' => ∃ qs : List Addr, H' D = some (.lst (qs.map V.ref)) ∧ F2 (RowA H') qs (l.take i) ∧ Same H H' ∧ clsS i Hy H') (fun D hD => ⟨[], upd_same, by rw [List.take_zero]; exact .nil, Same.new hD, fun _ => Same.new hD, SC.of (Same.new hD)⟩) (fun D i Hy H' _ z => z.choose_spec.2.2.2) ?_ ?_
  · rintro D i Hy x A1 A2 hD hi ⟨qs, eD, fR, sA, _⟩ ⟨s2, p, r, rfl, hr, dx, g⟩
    have eD2 := s2 _ _ eD
    refine rd_gname ?_
    refine ⟨wipe1, ?_⟩
    rw [show ∀ (σ : L2.St) (H : Hp) (k : Bool → Hp → Prop), tYes σ H k = k true H from fun _ _ _ => rfl]
    refine iteT ?_
    have hv : ((wipe σ [j]).set j (some (V.ref p)))[j]? = some (some (V.ref p)) := by rw [List.getElem?_set_self (by show j < List.length (σ.set j none); rw [List.length_set]; exact hj)]
    refine rd_tup ?_
    refine rd_cons ?_
    refine rd_fld ?_
    refine ⟨.ref p, hv, ?_⟩
    refine rd_fldK g C0.cl C0.n1 sz_low ?_
    refine rd_cons ?_
    refine rd_fld ?_
    refine ⟨.ref p, hv, ?_⟩
    refine rd_fldK g C0.cl C0.n2 sz_high ?_
    refine rd_nil ?_
    refine ⟨by show 2 ≤ sizeLine; decide, fun t n3 => ?_⟩
    have s3 := Same.new (o := .tup [V.int r.1, r.2]) n3
    have e3 := upd_same (H := A2) (a := t) (o := .tup [V.int r.1, r.2])
    generalize upd A2 t _ = H3 at *
    have eD3 := s3 _ _ eD2
    have tD : t ≠ D := ne_of_none' n3 eD2
    refine ⟨_, eD3, by rw [List.length_map, fR.len, List.length_take]; exact Nat.lt_of_le_of_lt (Nat.le_trans (Nat.min_le_left _ _) (show i ≤ 20000 by omega)) (by decide), qs ++ [t], by rw [List.map_append]; exact upd_same, ?_, fun b u e => ?_, fun z => absurd z (Nat.succ_ne_zero _), fun b u e g => SC.put eD3 b u (s3 b u e) g⟩
    · rw [List.take_add_one, hr]
      exact F2.append (F2.imp (fun a r h => RowA.put (RowA.same h (s2.trans s3)) eD3) fR) (.cons ((upd_ne tD).trans e3) .nil)
    · rw [upd_ne (fun q => by rw [q, hD] at e; cases e)]
      exact (sA.trans (s2.trans s3)) b u e
  · rintro D Hy A1 hD ⟨qs, eD, fR, sA, _⟩
    rw [List.take_length] at fR
    exact k D qs A1 hD eD fR sA
/-! ### rows as data -/
def rowD (r : Int × V) : PyData := .tuple [.int r.1, dv r.2]
theorem dp_row {K : PySem.W.Frag} {H : Hp} {q : Addr} {r : Int × V} (h : RowA H q r) (hs : Hs r.2) : Dp K H (.ref q) (rowD r) := by
  obtain ⟨a, v⟩ := r
  rcases hs with rfl | ⟨j, rfl⟩
  · exact .tup (SqT.of h) (.cons (.int a) (.cons .non .nil))
  · exact .tup (SqT.of h) (.cons (.int a) (.cons (.int j) .nil))
theorem dp_rowsA {K : PySem.W.Frag} {H : Hp} : ∀ {qs : List Addr} {l : List (Int × V)}, F2 (RowA H) qs l → (∀ r ∈ l, Hs r.2) → DpAll K H (qs.map V.ref) (l.map rowD)
  | _, _, .nil, _ => .nil
  | _, _, .cons h f, hs => .cons (dp_row h (hs _ List.mem_cons_self)) (dp_rowsA f fun r hr => hs r (List.mem_cons_of_mem _ hr))
theorem row_lay (r : Int × V) : PyData.canLay0 (rowD r) = true ∧ PyData.depth (rowD r) ≤ 1 := by
  obtain ⟨a, v⟩ := r
  cases v <;> exact ⟨by simp [rowD, dv, PyData.canLay0, PyData.canLayAll0], by simp [rowD, dv, PyData.depth, PyData.depthAll]⟩
theorem rowsA_lay : ∀ l : List (Int × V), PyData.canLayAll0 (l.map rowD) = true ∧ PyData.depthAll (l.map rowD) ≤ 1
  | [] => ⟨rfl, by simp [PyData.depthAll]⟩
  | r :: l => by
    obtain ⟨a, b⟩ := row_lay r
    obtain ⟨c, d⟩ := rowsA_lay l
    constructor
    · rw [List.map_cons, PyData.canLayAll0, a, c]; rfl
    · rw [List.map_cons, PyData.depthAll]; omega
theorem rowsA_shp (l : List (Int × V)) : SeqAt.shaped (.list (l.map rowD)) = true := by
  obtain ⟨a, b⟩ := rowsA_lay l
  simp only [SeqAt.shaped, PyData.canLay0, PyData.depth, Bool.and_eq_true, decide_eq_true_eq]
  exact ⟨a, decide_eq_true (by omega)⟩
theorem row_shp (r : Int × V) : SeqAt.shaped (rowD r) = true := by
  obtain ⟨a, b⟩ := row_lay r
  simp only [SeqAt.shaped, a, Bool.true_and]
  exact decide_eq_true (by omega)
theorem row_refl (r : Int × V) : PyData.eqv (rowD r) (rowD r) = true := by
  obtain ⟨a, v⟩ := r
  cases v <;> simp [rowD, dv, PyData.eqv, PyData.eqvAll]
theorem rowsA_refl : ∀ l : List (Int × V), PyData.eqvAll (l.map rowD) (l.map rowD) = true
  | [] => by simp [PyData.eqvAll]
  | r :: l => by rw [List.map_cons, PyData.eqvAll, row_refl, rowsA_refl l]; rfl
theorem use_neRows {K : PySem.W.Frag} {H : Hp} {Q : VK} {a b : Addr} {qs ps : List Addr} {l : List (Int × V)} (ha : H a = some (.lst (qs.map V.ref))) (fa : F2 (RowA H) qs l) (hb : H b = some (.lst (ps.map V.ref))) (fb : F2 (RowA H) ps l) (hs : ∀ r ∈ l, Hs r.2) (k : Q (.bl false) H) : rNeD K (.ref a) (.ref b) H Q := by
  refine use_neD (.lst (SqL.of ha) (dp_rowsA fa hs)) (.lst (SqL.of hb) (dp_rowsA fb hs)) (rowsA_shp l) (rowsA_shp l) ?_
  rw [show PyData.eqv (.list (l.map rowD)) (.list (l.map rowD)) = true from by simp only [PyData.eqv]; exact rowsA_refl l]
  exact k
theorem use_eqRows {K : PySem.W.Frag} {H : Hp} {Q : VK} {a b : Addr} {qs ps : List Addr} {l : List (Int × V)} (ha : H a = some (.lst (qs.map V.ref))) (fa : F2 (RowA H) qs l) (hb : H b = some (.lst (ps.map V.ref))) (fb : F2 (RowA H) ps l) (hs : ∀ r ∈ l, Hs r.2) (k : Q (.bl true) H) : rEqD K (.ref a) (.ref b) H Q := by
  refine ⟨_, _, .lst (SqL.of ha) (dp_rowsA fa hs), .lst (SqL.of hb) (dp_rowsA fb hs), rowsA_shp l, rowsA_shp l, ?_⟩
  rw [show PyData.eqv (.list (l.map rowD)) (.list (l.map rowD)) = true from by simp only [PyData.eqv]; exact rowsA_refl l]
  exact k
theorem use_notRow {K : PySem.W.Frag} {H : Hp} {Q : VK} {t b : Addr} {qs : List Addr} {r : Int × V} {l : List (Int × V)} (ht : RowA H t r) (hb : H b = some (.lst (qs.map V.ref))) (fb : F2 (RowA H) qs l) (hs : ∀ r ∈ l, Hs r.2) (hm : r ∈ l) (k : Q (.bl false) H) : rInLD K true (.ref t) (.ref b) H Q := by
  refine ⟨_, _, dp_row ht (hs r hm), .lst (SqL.of hb) (dp_rowsA fb hs), row_shp r, rowsA_shp l, by have := (row_lay r).2; omega, ?_⟩
  rw [show ((l.map rowD).any fun z => PyData.eqv z (rowD r)) = true from List.any_eq_true.mpr ⟨rowD r, List.mem_map.mpr ⟨r, hm, rfl⟩, row_refl r⟩]
  exact k
/-- far away -/
def farL (x : Int) : List P3 := [(1, 0, 0), (0, x, 0)]
def farR (x : Int) : List (Int × V) := [(1, .int (2 * x - 1)), (2, .int (2 * x - 2)), (2 * x, .int (2 * x)), (2 * x + 1, .int (2 * x + 1)), (2 * x + 2, .non), (2 * x + 3, .non)]
theorem far_turn {x p h : Int} (hp : Par p) : TurnAt (farL x) p h ↔ h = x ∨ h = x + 1 := by
  have e : subP ((1, 0, 0) : P3) (0, x, 0) = (1, 0 - x, 0) := rfl
  have e0 : tn0 (1, 0 - x, 0) p = x := by unfold tn0 hig stp; simp only [Int.zero_mul]; rw [if_pos (by decide), if_pos (by decide)]; omega
  have e1 : tn1 (1, 0 - x, 0) p = x + 1 := by unfold tn1 hig stp; simp only [Int.zero_mul]; rw [if_pos (by decide), if_pos (by decide)]; omega
  constructor
  · rintro ⟨i, j, a, b, hij, h1, h2, n, t⟩
    have hj : j < 2 := (List.getElem?_eq_some_iff.mp h2).1
    obtain ⟨rfl, rfl⟩ : i = 0 ∧ j = 1 := by omega
    cases h1
    cases h2
    rw [e, e0, e1] at t
    exact t
  · intro t
    refine ⟨0, 1, _, _, by decide, rfl, rfl, (by rw [e]; show (1 : Int) ≠ 0; decide), ?_⟩
    rw [e, e0, e1]
    exact t
theorem far_lows {x p : Int} (hp : Par p) (hx : 10 ≤ x) : IsLows (farL x) p [2 - p, 2 * x + p, 2 * x + p + 2] := by
  refine ⟨?_, rfl, fun n => ?_⟩
  · refine List.pairwise_cons.mpr ⟨fun y hy => ?_, List.pairwise_cons.mpr ⟨fun y hy => ?_, List.pairwise_singleton _ _⟩⟩
    · simp only [List.mem_cons, List.not_mem_nil, or_false] at hy
      rcases hy with rfl | rfl <;> rcases hp with rfl | rfl <;> omega
    · rw [List.mem_singleton.mp hy]
      omega
  · simp only [List.mem_cons, List.not_mem_nil, or_false]
    constructor
    · rintro (h | h | h)
      · exact .inl h
      · exact .inr ⟨x, by rcases hp with rfl | rfl <;> omega, h, (far_turn hp).mpr (.inl rfl)⟩
      · exact .inr ⟨x + 1, by rcases hp with rfl | rfl <;> omega, by omega, (far_turn hp).mpr (.inr rfl)⟩
    · rintro (h | ⟨k, h1, h2, t⟩)
      · exact .inl h
      · rcases (far_turn hp).mp t with rfl | rfl
        · exact .inr (.inl h2)
        · exact .inr (.inr (by omega))
theorem far_cls {x : Int} (hx : 10 ≤ x) : IsCls (farL x) (farR x) := by
  refine ⟨?_, _, _, far_lows (.inr rfl) hx, far_lows (.inl rfl) hx, fun r => ?_⟩
  · have h : ((farR x).map (·.1)).Pairwise (· < ·) := by
      show [1, 2, 2 * x, 2 * x + 1, 2 * x + 2, 2 * x + 3].Pairwise (· < ·)
      refine List.pairwise_cons.mpr ⟨fun y hy => ?_, List.pairwise_cons.mpr ⟨fun y hy => ?_, List.pairwise_cons.mpr ⟨fun y hy => ?_, List.pairwise_cons.mpr ⟨fun y hy => ?_, List.pairwise_cons.mpr ⟨fun y hy => ?_, List.pairwise_singleton _ _⟩⟩⟩⟩⟩
      all_goals simp only [List.mem_cons, List.not_mem_nil, or_false] at hy
      · rcases hy with rfl | rfl | rfl | rfl | rfl <;> omega
      · rcases hy with rfl | rfl | rfl | rfl <;> omega
      · rcases hy with rfl | rfl | rfl <;> omega
      · rcases hy with rfl | rfl <;> omega
      · subst hy; omega
    rw [List.pairwise_map] at h
    exact h
  · have e1 : rowsOf [2 - 1, 2 * x + 1, 2 * x + 1 + 2] = [(1, .int (2 * x - 1)), (2 * x + 1, .int (2 * x + 1)), (2 * x + 3, .non)] := by
      rw [rowsOf, rowsOf, rowsOf, show 2 * x + 1 - 2 = 2 * x - 1 by omega, show 2 * x + 1 + 2 - 2 = 2 * x + 1 by omega, show 2 * x + 1 + 2 = 2 * x + 3 by omega]
      rfl
    have e0 : rowsOf [2 - 0, 2 * x + 0, 2 * x + 0 + 2] = [(2, .int (2 * x - 2)), (2 * x, .int (2 * x)), (2 * x + 2, .non)] := by
      rw [rowsOf, rowsOf, rowsOf, show 2 * x + 0 - 2 = 2 * x - 2 by omega, show 2 * x + 0 + 2 - 2 = 2 * x by omega, show 2 * x + 0 + 2 = 2 * x + 2 by omega, show 2 * x + 0 = 2 * x by omega]
      rfl
    rw [e1, e0]
    unfold farR
    simp only [List.mem_cons, List.not_mem_nil, or_false]
    constructor
    · rintro (h | h | h | h | h | h)
      · exact .inl (.inl h)
      · exact .inr (.inl h)
      · exact .inr (.inr (.inl h))
      · exact .inl (.inr (.inl h))
      · exact .inr (.inr (.inr h))
      · exact .inl (.inr (.inr h))
    · rintro ((h | h | h) | (h | h | h))
      · exact .inl h
      · exact .inr (.inr (.inr (.inl h)))
      · exact .inr (.inr (.inr (.inr (.inr h))))
      · exact .inr (.inl h)
      · exact .inr (.inr (.inl h))
      · exact .inr (.inr (.inr (.inr (.inl h))))
def spLFar10 : Sp := fun vs H Q _ => ∃ x : Int, vs = [.int x] ∧ 10 ≤ x ∧ x ≤ 10 ^ 21 ∧ ∀ H', Same H H' → Q (.bl true) H'
theorem PAt.putL {C l : Addr} {H : Hp} {q : Addr} {t : P3} {xs : List V} {o : HO} (h : PAt C H q t) (e : H l = some (.lst xs)) : PAt C (upd H l o) q t := by
  obtain ⟨dx, h⟩ := h
  exact ⟨dx, (upd_ne (fun z => by rw [z, e] at h; cases h)).trans h⟩
/-- [place(p) for p in ..] -/
theorem lc_made {K : PySem.W.Frag} {C l : Addr} {j : Nat} {σ : L2.St} {H : Hp} {Q : VK} {E : XK} {ts : List Addr} {L : List P3} (hl : H l = some (.lst (ts.map V.ref))) (f : F2 (TAt H) ts L) (ll : L.length ≤ 64) (hj : j < σ.length) (k : ∀ (D : Addr) (ps : List Addr) (H' : Hp), H D = none → H' D = some (.lst (ps.map V.ref)) → F2 (PAt C H') ps L → Same H H' → Q (.ref D) H') :
    LcK (gName j) tYes (tCl (spLPl10 C) E (tCons (tVar j) tNil)) [j] σ Q (Itl K l) H := by
  intro D hD
  refine lc_it (walk_list (K := K) (a := l) (xs := ts.map V.ref)) (fun i H' => ∃ ps : List Addr, H' D = some (.lst (ps.map V.ref)) ∧ F2 (PAt C H') ps (L.take i) ∧ Same H H') ⟨[], upd_same, by rw [List.take_zero]; exact .nil, Same.new hD⟩ (fun i H' _ z => SqL.of (z.choose_spec.2.2 _ _ hl)) ?_ ?_
  · rintro i x H1 H2 hi ⟨ps, eD, fP, s⟩ ⟨rfl, hx⟩
    obtain ⟨q, hq, rfl⟩ := map_get hx
    obtain ⟨t, ht, tq⟩ := F2.get f hq
    have lt := (List.getElem?_eq_some_iff.mp ht).1
    refine rd_gname ?_
    refine ⟨wipe1, ?_⟩
    rw [show ∀ (σ : L2.St) (H : Hp) (k : Bool → Hp → Prop), tYes σ H k = k true H from fun _ _ _ => rfl]
    refine iteT ?_
    have hv : ((wipe σ [j]).set j (some (V.ref q)))[j]? = some (some (V.ref q)) := by rw [List.getElem?_set_self (by show j < List.length (σ.set j none); rw [List.length_set]; exact hj)]
    refine rd_cl ?_
    refine rd_cons ?_
    refine ⟨.ref q, hv, ?_⟩
    refine rd_nil ?_
    refine ⟨q, t, rfl, TAt.same tq s, fun p H3 g s3 => ?_⟩
    have eD2 := s3 _ _ eD
    refine ⟨_, eD2, small1000 (by rw [List.length_map, fP.len, List.length_take]; omega), ps ++ [p], by rw [List.map_append]; exact upd_same, ?_, fun b u e => ?_⟩
    · rw [List.take_add_one, ht]
      exact F2.append (F2.imp (fun a r h => PAt.putL (PlaceAt.same h s3) eD2) fP) (.cons (PAt.putL g eD2) .nil)
    · rw [upd_ne (fun z => by rw [z, hD] at e; cases e)]
      exact (s.trans s3) b u e
  · rintro H1 ⟨ps, eD, fP, s⟩
    rw [List.length_map, f.len, List.take_length] at fP
    exact k D ps H1 hD eD fP s
theorem prs_same {C : Addr} {H : Hp} {ps : List Addr} {L : List P3} (f : F2 (PAt C H) ps L) : Prs (DIns C (SamePl C)) (ps.map V.ref) (ps.map V.ref) H := ⟨rfl, fun i x y h1 h2 => by
  obtain ⟨p, hp, rfl⟩ := map_get h1
  rw [List.getElem?_map, hp] at h2
  cases h2
  obtain ⟨t, _, dx, g⟩ := F2.get f hp
  exact ⟨p, p, dx, dx, _, _, rfl, rfl, g, g, t.1, t.2.1, t.2.2, ⟨dx, g⟩, ⟨dx, g⟩⟩⟩
/-- a value that is no size -/
def OdS (K : PySem.W.Frag) (H : Hp) (v : V) : Prop := NotW K H v ∨ ∃ i : Int, v = .int i ∧ i < 1
end Hf
namespace Kx
open PySem PySem.Spec PyProof.Rows L2 Hf
def top (i : Nat) : Stmt := PySem.Challenge.pw_heldfloods_k10_classes_of_places.main.body.getD i (.Pass ⟨0, 0, 0, 0⟩)
abbrev s_BadPlace_init : Stmt := (inClass (top 2) 0)
abbrev s_BadSize_init : Stmt := (inClass (top 3) 0)
abbrev s_BadClass_init : Stmt := (inClass (top 4) 0)
abbrev s_is_whole : Stmt := (top 8)
theorem sc_is_whole : FnScope ["value"] ["value"] (defScope s_is_whole) := ⟨rfl, rfl, rfl, by decide +kernel, rfl, by decide +kernel, by decide +kernel⟩
abbrev s_Place_init : Stmt := (inClass (top 12) 0)
theorem sc_Place_init : FnScope ["self", "slope", "offset", "odd", "part", "value"] ["self", "slope", "offset", "odd"] (defScope s_Place_init) := ⟨rfl, rfl, rfl, by decide +kernel, rfl, by decide +kernel, by decide +kernel⟩
abbrev s_Place_eq : Stmt := (inClass (top 12) 8)
theorem sc_Place_eq : FnScope ["self", "other"] ["self", "other"] (defScope s_Place_eq) := ⟨rfl, rfl, rfl, by decide +kernel, rfl, by decide +kernel, by decide +kernel⟩
abbrev s_Sizes_init : Stmt := (inClass (top 21) 0)
theorem sc_Sizes_init : FnScope ["self", "low", "high"] ["self", "low", "high"] (defScope s_Sizes_init) := ⟨rfl, rfl, rfl, by decide +kernel, rfl, by decide +kernel, by decide +kernel⟩
abbrev s_Sizes_contains : Stmt := (inClass (top 21) 1)
theorem sc_Sizes_contains : FnScope ["self", "value"] ["self", "value"] (defScope s_Sizes_contains) := ⟨rfl, rfl, rfl, by decide +kernel, rfl, by decide +kernel, by decide +kernel⟩
abbrev s_ascending : Stmt := (top 19)
theorem sc_ascending : FnScope ["numbers", "number"] ["numbers"] (defScope s_ascending) := ⟨rfl, rfl, rfl, by decide +kernel, rfl, by decide +kernel, by decide +kernel⟩
abbrev s_gaps_of : Stmt := (top 22)
theorem sc_gaps_of : FnScope ["places", "found", "at", "one", "other"] ["places"] (defScope s_gaps_of) := ⟨rfl, rfl, rfl, by decide +kernel, rfl, by decide +kernel, by decide +kernel⟩
abbrev s_turns_of : Stmt := (top 23)
theorem sc_turns_of : FnScope ["gaps", "parity", "found", "slope", "offset", "odd", "steep", "high"] ["gaps", "parity"] (defScope s_turns_of) := ⟨rfl, rfl, rfl, by decide +kernel, rfl, by decide +kernel, by decide +kernel⟩
abbrev s_classes_of_parity : Stmt := (top 24)
theorem sc_classes_of_parity : FnScope ["gaps", "parity", "first", "later", "lows", "half", "low", "high"] ["gaps", "parity"] (defScope s_classes_of_parity) := ⟨rfl, rfl, rfl, by decide +kernel, rfl, by decide +kernel, by decide +kernel⟩
abbrev s_classes : Stmt := (top 25)
abbrev s_class_of : Stmt := (top 26)
theorem sc_class_of : FnScope ["places", "size", "one"] ["places", "size"] (defScope s_class_of) := ⟨rfl, rfl, rfl, by decide +kernel, rfl, by decide +kernel, by decide +kernel⟩
abbrev s_l_bag : Stmt := (top 28)
theorem sc_l_bag : FnScope ["_law_script", "_law_state", "_law_cell"] ["_law_script"] (defScope s_l_bag) := ⟨rfl, rfl, rfl, by decide +kernel, rfl, by decide +kernel, by decide +kernel⟩
abbrev s_l_draw : Stmt := (top 29)
theorem sc_l_draw : FnScope ["_law_bag_here", "_law_limit", "_law_cell", "_law_mixed", "_law_found"] ["_law_bag_here", "_law_limit"] (defScope s_l_draw) := ⟨rfl, rfl, rfl, by decide +kernel, rfl, by decide +kernel, by decide +kernel⟩
abbrev s_l_parts : Stmt := (top 30)
theorem sc_l_parts : FnScope ["_law_bag_here", "_law_kind", "_law_k"] ["_law_bag_here"] (defScope s_l_parts) := ⟨rfl, rfl, rfl, by decide +kernel, rfl, by decide +kernel, by decide +kernel⟩
abbrev s_l_at : Stmt := (top 31)
theorem sc_l_at : FnScope ["_law_parts_here", "_law_wide", "_law_half"] ["_law_parts_here", "_law_wide"] (defScope s_l_at) := ⟨rfl, rfl, rfl, by decide +kernel, rfl, by decide +kernel, by decide +kernel⟩
abbrev s_l_place : Stmt := (top 32)
theorem sc_l_place : FnScope ["_law_parts_here"] ["_law_parts_here"] (defScope s_l_place) := ⟨rfl, rfl, rfl, by decide +kernel, rfl, by decide +kernel, by decide +kernel⟩
abbrev s_l_heard : Stmt := (top 33)
theorem sc_l_heard : FnScope ["_law_ask", "error"] ["_law_ask"] (defScope s_l_heard) := ⟨rfl, rfl, rfl, by decide +kernel, rfl, by decide +kernel, by decide +kernel⟩
abbrev s_l_some : Stmt := (top 34)
theorem sc_l_some : FnScope ["_law_bag_here", "_law_found", "_law_k", "_law_parts_here"] ["_law_bag_here"] (defScope s_l_some) := ⟨rfl, rfl, rfl, by decide +kernel, rfl, by decide +kernel, by decide +kernel⟩
abbrev s_l_signs : Stmt := (top 35)
theorem sc_l_signs : FnScope ["_law_some_here", "_law_n", "_law_found", "_law_one", "_law_here", "_law_other"] ["_law_some_here", "_law_n"] (defScope s_l_signs) := ⟨rfl, rfl, rfl, by decide +kernel, rfl, by decide +kernel, by decide +kernel⟩
abbrev s_l_due : Stmt := (top 36)
theorem sc_l_due : FnScope ["_law_some_here", "_law_rows", "_law_first", "_law_low", "_law_n", "_law_one"] ["_law_some_here"] (defScope s_l_due) := ⟨rfl, rfl, rfl, by decide +kernel, rfl, by decide +kernel, by decide +kernel⟩
abbrev s_l_far_right : Stmt := (top 37)
theorem sc_l_far_right : FnScope ["_law_far", "_law_told", "_law_due_here", "_law_row"] ["_law_far"] (defScope s_l_far_right) := ⟨rfl, rfl, rfl, by decide +kernel, rfl, by decide +kernel, by decide +kernel⟩
abbrev s_law : Stmt := (top 38)
theorem sc_law : FnScope ["_law_script", "_law_bag_here", "_law_turn", "_law_some_here", "_law_due_here", "_law_kept", "_law_row", "_law_n", "_law_made", "_law_value", "_law_parts_here"] ["_law_script"] (defScope s_law) := ⟨rfl, rfl, rfl, by decide +kernel, rfl, by decide +kernel, by decide +kernel⟩
structure Txt (K : PySem.W.Frag) (mg : Str → Option Value) : Prop where
  b_abs : mg "abs" = none
  b_bool : mg "bool" = none
  b_dict : mg "dict" = none
  b_enumerate : mg "enumerate" = none
  b_int : mg "int" = none
  b_isinstance : mg "isinstance" = none
  b_len : mg "len" = none
  b_list : mg "list" = none
  b_range : mg "range" = none
  b_sorted : mg "sorted" = none
  b_super : mg "super" = none
  b_tuple : mg "tuple" = none
  b_zip : mg "zip" = none
end Kx
namespace Kx
open PySem PySem.Spec PyProof.Rows L2 Hf
local macro_rules | `(tactic| walk_at "r1") => `(tactic| with_reducible first | refine RdC.pf ?_ | refine rd_bl ?_ | refine rd_blP ?_ | refine rd_par2 ?_)
local macro_rules | `(tactic| walk_at "rd") => `(tactic| repeat (first | walk_at "r1" | ((with_reducible refine' rd_var ?hh ?_); (case hh => exact rfl)) | ((with_reducible refine' rd_eq ?hh ?_); (case hh => exact rfl)) | ((with_reducible refine' rd_ne ?hh ?_); (case hh => exact rfl)) | ((with_reducible refine' rd_aug ?hh ?_); (case hh => exact rfl))))
local macro_rules | `(tactic| walk_at "pl") => `(tactic| repeat (first | walk_at "rd1" | (refine rd_fldK (by assumption) (PlC.cl (by assumption)) (by first | exact PlC.n1 (by assumption) | exact PlC.n2 (by assumption) | exact PlC.n3 (by assumption)) (by first | exact pl_slope | exact pl_offset | exact pl_odd) ?_)))
local macro_rules | `(tactic| walk_at "rd1") => `(tactic| first | walk_at "r1" | ((with_reducible refine' rd_var ?hh ?_); (case hh => exact rfl)) | ((with_reducible refine' rd_eq ?hh ?_); (case hh => exact rfl)) | ((with_reducible refine' rd_ne ?hh ?_); (case hh => exact rfl)) | ((with_reducible refine' rd_aug ?hh ?_); (case hh => exact rfl)))
local macro_rules | `(tactic| walk_at "lf") => `(tactic| first | assumption | (refine PlaceAt.same ?_ (by assumption); walk_at "lf") | (refine PlaceAt.keep ?_ (by assumption) (by assumption); walk_at "lf"))
local macro_rules | `(tactic| walk_at "lo") => `(tactic| first | assumption | (refine (by assumption : Same _ _) _ _ ?_; walk_at "lo") | (refine (by assumption : Keep _ _ _) _ _ ?_ (by assumption); walk_at "lo"))
local macro_rules | `(tactic| walk_at "sm") => `(tactic| first | assumption | exact Same.refl _ | exact same_tr (by assumption) (by walk_at "sm"))
local macro_rules | `(tactic| walk_at "hp") => `(tactic| first | assumption | ((with_reducible show (_ : Option HO) = some _); exact same_at (by assumption) (by walk_at "hp")) | ((with_reducible show PicG _ _ _ _ _ _); exact picg_at (by assumption) (by walk_at "hp")) | ((with_reducible show F2 _ _ _); exact tups_at (by assumption) (by walk_at "hp")) | ((with_reducible show Pen _ _ _ _); exact pen_at (by assumption) (by walk_at "hp")))
section
variable {P : Program} {w : World} {K : PySem.W.Frag} {mg : Str → Option Value} {base : Heap}
theorem ok_l_bag (T : Txt K mg) (D : DefAt K mg "_law_bag" s_l_bag ["_law_script"]) : Cal P w K mg base 1 "_law_bag" (spBag K) := by
  obtain ⟨f, fd, hm, F, b⟩ := D
  refine ⟨f, fnR0 F b sc_l_bag (fun vs H Q E h => ?_) (fun cdv A outer s H vs Q E hr h => ⟨t_bag K 7 69621 11, ?_, pure_bag K (by decide) (by decide) (by decide) (by decide) (by decide) vs H Q E h rfl⟩), hm, F.kp⟩
  · obtain ⟨a, ns, rfl, _⟩ := h
    rfl
  · exact (pss_cons (ps_set (i := 1) sc_l_bag.nd rfl (Or.inl rfl) pe_int)
  (pss_cons (ps_for PassesOwn.never rfl (pi_list (pe_slice sl_list (pv 0) po_none (po_some pe_int))) (pg_name (i := 2) sc_l_bag.nd rfl (Or.inl rfl))
  (pss_one (ps_set (i := 1) sc_l_bag.nd rfl (Or.inl rfl) (pe_op op_mod (pe_callTy call_int1 (by rfl) T.b_int (by decide +kernel) (pa_cons (pe_op op_add (pe_op op_add (pe_op op_mulW (pv 1) pe_int) (pe_op op_mod (pe_callB call_abs (by rfl) T.b_abs (by decide +kernel) (pa_cons (pv 2) pa_nil)) pe_int)) pe_int) pa_nil)) pe_int))))
  (pss_one (ps_ret (pe_disp (pps_cons pe_str (pe_callTy call_list_of (by rfl) T.b_list (by decide +kernel) (pa_cons (pe_slice sl_list (pv 0) po_none (po_some pe_int)) pa_nil)) (pps_cons pe_str pe_int (pps_cons pe_str pe_int (pps_cons pe_str (pv 1) pps_nil)))) (by rfl) (by rfl) (fun z => by cases z) (by decide))))))
theorem ok_l_draw (T : Txt K mg) (D : DefAt K mg "_law_draw" s_l_draw ["_law_bag_here", "_law_limit"]) : Cal P w K mg base 1 "_law_draw" spDraw := by
  obtain ⟨f, fd, hm, F, b⟩ := D
  refine ⟨f, fnR0 F b sc_l_draw (fun vs H Q E h => ?_) (fun cdv A outer s H vs Q E hr h => ?_), hm, F.kp⟩
  · obtain ⟨b, c, n, rfl, _⟩ := h
    rfl
  · have hu := hu_of hr
    refine ⟨t_draw K 48271 13, ?_, pure_draw K (by decide) (by decide) (by decide) vs H Q E h rfl⟩
    exact (pss_cons (ps_while PassesOwn.never (pw_and (pt_cmpR op_lt (pe_dget hu (pv 0) pe_str (fun _ _ => rfl)) pe_int (nomark _)) (pw_and1 (pt_cmpR op_lt (pe_dget hu (pv 0) pe_str (fun _ _ => rfl)) (pe_callB call_len_seq (by rfl) T.b_len (by decide +kernel) (pa_cons (pe_dget hu (pv 0) pe_str (fun _ _ => rfl)) pa_nil)) (nomark _)))).pt
  (pss_cons (ps_set (i := 2) sc_l_draw.nd rfl (Or.inl rfl) (pe_callB call_abs (by rfl) T.b_abs (by decide +kernel) (pa_cons (pe_ix ix_list (pe_dget hu (pv 0) pe_str (fun _ _ => rfl)) (pe_dget hu (pv 0) pe_str (fun _ _ => rfl)) (fun _ _ => rfl)) pa_nil)))
  (pss_cons (ps_dput hu (pv 0) pe_str (pe_op op_add (pe_dget hu (pv 0) pe_str (fun _ _ => rfl)) pe_int) rfl)
  (pss_cons (ps_if (pt_cmpR op_lt (pv 2) (pe_op op_pow pe_int pe_int) (nomark _)) (pss_cons (ps_set (i := 3) sc_l_draw.nd rfl (Or.inl rfl) (pe_op op_mod (pe_callTy call_int1 (by rfl) T.b_int (by decide +kernel) (pa_cons (pe_op op_add (pe_op op_pow (pe_op op_add (pv 2) pe_int) pe_int) (pe_op op_mulW (pe_dget hu (pv 0) pe_str (fun _ _ => rfl)) (pe_op op_add (pe_dget hu (pv 0) pe_str (fun _ _ => rfl)) pe_int))) pa_nil)) pe_int))
  (pss_one (ps_ret (pe_op op_mod (pv 3) (pv 1))))) pss_nil)
  (pss_one (ps_dput hu (pv 0) pe_str (pv 2) rfl))))))
  (pss_cons (ps_if (pt_cmpR op_ge (pe_dget hu (pv 0) pe_str (fun _ _ => rfl)) pe_int (nomark _)) (pss_cons (ps_set (i := 4) sc_l_draw.nd rfl (Or.inl rfl) (pe_op op_mod (pe_callTy call_int1 (by rfl) T.b_int (by decide +kernel) (pa_cons (pe_dget hu (pv 0) pe_str (fun _ _ => rfl)) pa_nil)) (pv 1)))
  (pss_cons (ps_dput hu (pv 0) pe_str (pe_op op_fdivW (pe_dget hu (pv 0) pe_str (fun _ _ => rfl)) (pv 1)) rfl)
  (pss_one (ps_ret (pv 4))))) pss_nil)
  (pss_cons (ps_dput hu (pv 0) pe_str (pe_op op_mod (pe_callTy call_int1 (by rfl) T.b_int (by decide +kernel) (pa_cons (pe_op op_add (pe_op op_mulW (pe_dget hu (pv 0) pe_str (fun _ _ => rfl)) pe_int) pe_int) pa_nil)) pe_int) rfl)
  (pss_one (ps_ret (pe_op op_mod (pe_op op_mod (pe_callTy call_int1 (by rfl) T.b_int (by decide +kernel) (pa_cons (pe_op op_pow (pe_dget hu (pv 0) pe_str (fun _ _ => rfl)) pe_int) pa_nil)) pe_int) (pv 1)))))))
theorem ok_is_whole (T : Txt K mg) (D : DefAt K mg "is_whole" s_is_whole ["value"]) : Cal P w K mg base 1 "is_whole" (spWhole K) := by
  obtain ⟨f, fd, hm, F, b⟩ := D
  refine ⟨f, fnR0 F b sc_is_whole (fun vs H Q E h => ?_) (fun cdv A outer s H vs Q E hr h => ?_), hm, F.kp⟩
  · obtain ⟨v, t, b1, b2, rfl, ty, h1, h2, k⟩ := h
    rfl
  · obtain ⟨v, t, b1, b2, rfl, ty, h1, h2, k⟩ := h
    have hu := hu_of hr
    refine ⟨_, (pss_one (ps_ret (pe_and (pe_callB call_isi (by rfl) T.b_isinstance (by decide +kernel) (pa_cons (pv 0) (pa_cons (pe_tInt T.b_int) pa_nil))) (pe_one (pe_not (pe_callB call_isi (by rfl) T.b_isinstance (by decide +kernel) (pa_cons (pv 0) (pa_cons (pe_tBool T.b_bool) pa_nil)))))))), ?_⟩
    try dsimp only [cxOf, Cx.nox, Cx.wish, List.map]
    refine ⟨_, rfl, _, _, t, _, b1, rfl, .ty "int", ty, h1, b1, rfl, ?_⟩
    cases b1 with
    | false => exact iteF k
    | true => exact iteT ⟨_, rfl, _, _, t, _, b2, rfl, .ty "bool", ty, h2, b2, rfl, k⟩
theorem ok_BadPlace_init {f C cc cda : Addr} {dV kV doc pm ct oc : Value} {an od : Option Addr} {osl : Array (Option Value)} (lk : K.lookup f = some ⟨oc, od, .func (PySem.W.ksFn "__init__" "BadPlace.__init__" (defArgs s_BadPlace_init) (defBody s_BadPlace_init) (defScope s_BadPlace_init) dV kV doc pm an (.ref cda) ct cc), osl⟩) (hcd : PySem.W.codeIn K (.ref cda) "BadPlace.__init__" = true)
    (T : OexC K C) (U : SupC P K mg C cc cda) (hno0 : PySem.W.findIn K (.ref C) "part" = some none) : FnOk P w K mg base (L2.CX P w) 1 f (PySem.W.ksFn "__init__" "BadPlace.__init__" (defArgs s_BadPlace_init) (defBody s_BadPlace_init) (defScope s_BadPlace_init) dV kV doc pm an (.ref cda) ct cc) ["self", "part"] (spErr C ["part"]) :=
  ok_err1 (P := P) (w := w) (mg := mg) (base := base) lk hcd (NdefX.nscope_by (by decide +kernel)) rfl rfl rfl T U (fun _ => rfl) hno0 (by decide) (by decide) (fun _ => rfl)
theorem ok_BadSize_init {f C cc cda : Addr} {dV kV doc pm ct oc : Value} {an od : Option Addr} {osl : Array (Option Value)} (lk : K.lookup f = some ⟨oc, od, .func (PySem.W.ksFn "__init__" "BadSize.__init__" (defArgs s_BadSize_init) (defBody s_BadSize_init) (defScope s_BadSize_init) dV kV doc pm an (.ref cda) ct cc), osl⟩) (hcd : PySem.W.codeIn K (.ref cda) "BadSize.__init__" = true)
    (T : OexC K C) (U : SupC P K mg C cc cda) (hno0 : PySem.W.findIn K (.ref C) "part" = some none) : FnOk P w K mg base (L2.CX P w) 1 f (PySem.W.ksFn "__init__" "BadSize.__init__" (defArgs s_BadSize_init) (defBody s_BadSize_init) (defScope s_BadSize_init) dV kV doc pm an (.ref cda) ct cc) ["self", "part"] (spErr C ["part"]) :=
  ok_err1 (P := P) (w := w) (mg := mg) (base := base) lk hcd (NdefX.nscope_by (by decide +kernel)) rfl rfl rfl T U (fun _ => rfl) hno0 (by decide) (by decide) (fun _ => rfl)
theorem ok_BadClass_init {f C cc cda : Addr} {dV kV doc pm ct oc : Value} {an od : Option Addr} {osl : Array (Option Value)} (lk : K.lookup f = some ⟨oc, od, .func (PySem.W.ksFn "__init__" "BadClass.__init__" (defArgs s_BadClass_init) (defBody s_BadClass_init) (defScope s_BadClass_init) dV kV doc pm an (.ref cda) ct cc), osl⟩) (hcd : PySem.W.codeIn K (.ref cda) "BadClass.__init__" = true)
    (T : OexC K C) (U : SupC P K mg C cc cda) (hno0 : PySem.W.findIn K (.ref C) "part" = some none) : FnOk P w K mg base (L2.CX P w) 1 f (PySem.W.ksFn "__init__" "BadClass.__init__" (defArgs s_BadClass_init) (defBody s_BadClass_init) (defScope s_BadClass_init) dV kV doc pm an (.ref cda) ct cc) ["self", "part"] (spErr C ["part"]) :=
  ok_err1 (P := P) (w := w) (mg := mg) (base := base) lk hcd (NdefX.nscope_by (by decide +kernel)) rfl rfl rfl T U (fun _ => rfl) hno0 (by decide) (by decide) (fun _ => rfl)
end
end Kx
namespace Kx
open PySem PySem.Spec PyProof.Rows L2 Hf
local macro_rules | `(tactic| walk_at "r1") => `(tactic| with_reducible first | refine RdC.pf ?_ | refine rd_bl ?_ | refine rd_blP ?_ | refine rd_par2 ?_)
local macro_rules | `(tactic| walk_at "rd") => `(tactic| repeat (first | walk_at "r1" | ((with_reducible refine' rd_var ?hh ?_); (case hh => exact rfl)) | ((with_reducible refine' rd_eq ?hh ?_); (case hh => exact rfl)) | ((with_reducible refine' rd_ne ?hh ?_); (case hh => exact rfl)) | ((with_reducible refine' rd_aug ?hh ?_); (case hh => exact rfl))))
local macro_rules | `(tactic| walk_at "pl") => `(tactic| repeat (first | walk_at "rd1" | (refine rd_fldK (by assumption) (PlC.cl (by assumption)) (by first | exact PlC.n1 (by assumption) | exact PlC.n2 (by assumption) | exact PlC.n3 (by assumption)) (by first | exact pl_slope | exact pl_offset | exact pl_odd) ?_)))
local macro_rules | `(tactic| walk_at "rd1") => `(tactic| first | walk_at "r1" | ((with_reducible refine' rd_var ?hh ?_); (case hh => exact rfl)) | ((with_reducible refine' rd_eq ?hh ?_); (case hh => exact rfl)) | ((with_reducible refine' rd_ne ?hh ?_); (case hh => exact rfl)) | ((with_reducible refine' rd_aug ?hh ?_); (case hh => exact rfl)))
local macro_rules | `(tactic| walk_at "lf") => `(tactic| first | assumption | (refine PlaceAt.same ?_ (by assumption); walk_at "lf") | (refine PlaceAt.keep ?_ (by assumption) (by assumption); walk_at "lf"))
local macro_rules | `(tactic| walk_at "lo") => `(tactic| first | assumption | (refine (by assumption : Same _ _) _ _ ?_; walk_at "lo") | (refine (by assumption : Keep _ _ _) _ _ ?_ (by assumption); walk_at "lo"))
local macro_rules | `(tactic| walk_at "sm") => `(tactic| first | assumption | exact Same.refl _ | exact same_tr (by assumption) (by walk_at "sm"))
local macro_rules | `(tactic| walk_at "hp") => `(tactic| first | assumption | ((with_reducible show (_ : Option HO) = some _); exact same_at (by assumption) (by walk_at "hp")) | ((with_reducible show PicG _ _ _ _ _ _); exact picg_at (by assumption) (by walk_at "hp")) | ((with_reducible show F2 _ _ _); exact tups_at (by assumption) (by walk_at "hp")) | ((with_reducible show Pen _ _ _ _); exact pen_at (by assumption) (by walk_at "hp")))
section
variable {P : Program} {w : World} {K : PySem.W.Frag} {mg : Str → Option Value} {base : Heap}
theorem ok_Place_initX {C CB : Addr} (T : Txt K mg) (C0 : PlC K mg C) (c_is_whole : Cal P w K mg base 1 "is_whole" (spWhole K)) (Er_BadPlace : Err P w K mg base "BadPlace" CB ["part"]) {f : Addr} {fd : FuncData} {dvs : List V} {kws : List (Str × V)} (F : FunD K "__init__" "Place.__init__" (defArgs s_Place_init) (defBody s_Place_init) (defScope s_Place_init) dvs kws f fd) {ps : List Str} (hps : ps = (["self", "slope", "offset", "odd"] : List Str)) : FnOk P w K mg base (L2.CX P w) 3 f fd ps (spPlX K C CB) := by
  subst hps
  refine fnOkDX F sc_Place_init (fun vs H Q E h => ?_) (fun cdv A outer s H vs Q E hr tk h => ?_)
  · obtain ⟨p, dx, v1, v2, v3, rfl, _⟩ := h
    rfl
  · obtain ⟨p, dx, v1, v2, v3, rfl, hp, h⟩ := h
    refine ⟨_, (pss_cons (ps_for (passes_of rfl) rfl (pi_tup (pe_tup (pa_cons (pe_tup (pa_cons pe_str (pa_cons (pv 1) pa_nil))) (pa_cons (pe_tup (pa_cons pe_str (pa_cons (pv 2) pa_nil))) (pa_cons (pe_tup (pa_cons pe_str (pa_cons (pv 3) pa_nil))) pa_nil))))) (pg_tup rfl (pgs_cons (pg_name (i := 4) sc_Place_init.nd rfl (Or.inl rfl)) (pgs_cons (pg_name (i := 5) sc_Place_init.nd rfl (Or.inl rfl)) pgs_nil)))
  (pss_one (ps_if (pt_not (pt_val (pe_cl c_is_whole hr passL (pa_cons (pv 5) pa_nil)))) (pss_one (ps_raE rfl tk (pmk_err Er_BadPlace hr (pa_cons (pv 4) pa_nil)))) pss_nil)))
  (pss_cons (ps_fld (pv 0) (pv 1) rfl)
  (pss_cons (ps_fld (pv 0) (pv 2) rfl)
  (pss_one (ps_fld (pv 0) (pv 3) rfl))))), ?_⟩
    try dsimp only [cxOf, Cx.nox, Cx.wish, List.map]
    walk_at "rd"
    refine new_tup (by show 2 ≤ 1000; decide) fun t1 H1 n1 e1 s1 => ?_
    walk_at "rd"
    refine new_tup (by show 2 ≤ 1000; decide) fun t2 H2 n2 e2 s2 => ?_
    walk_at "rd"
    refine new_tup (by show 2 ≤ 1000; decide) fun t3 H3 n3 e3 s3 => ?_
    walk_at "rd"
    refine new_tup (by show 3 ≤ 1000; decide) fun t4 H4 n4 e4 s4 => ?_
    have e1 := s4 _ _ (s3 _ _ (s2 _ _ e1))
    have e2 := s4 _ _ (s3 _ _ e2)
    have e3 := s4 _ _ e3
    have sm := ((s1.trans s2).trans s3).trans s4
    have ep := sm _ _ hp
    refine ⟨t4, rfl, ⟨_, SqT.of e4⟩, ?_⟩
    rcases h with ⟨h1, kE⟩ | ⟨s, rfl, ⟨h2, kE⟩ | ⟨o, rfl, ⟨h3, kE⟩ | ⟨d, rfl, k⟩⟩⟩
    · refine for_tup (K := K) (a := t4) (xs := [.ref t1, .ref t2, .ref t3]) (fun i σ H' => i ≤ 0 ∧ ∃ (v4 v5 : Option V), σ = [some (.ref p), some v1, some v2, some v3, v4, v5] ∧ H' = H4)
        ⟨by omega, none, none, rfl, rfl⟩ (fun i σ H' _ ⟨_, _, _, _, e⟩ => by rw [e]; exact SqT.of e4) ?_ ?_
      · rintro i y σ H' hi ⟨hm, v4, v5, rfl, rfl⟩
        match i, hi with
        | 0, hi =>
          cases hi
          refine rd_gtup (SqT.of e1) rfl ?_
          walk_at "rd"
          refine wh_not (h1.same sm) ?_
          walk_at "rd"
          refine iteT ?_
          walk_at "rd"
          exact use_err rfl (by decide) fun d hd => kE d _ upd_same (sm.trans (Same.new hd))
        | 1, hi =>
          exact absurd hm (by omega)
        | 2, hi =>
          exact absurd hm (by omega)
        | i + 3, hi => simp at hi
      · rintro σ H' ⟨hm, v4, v5, rfl, rfl⟩
        exact absurd (show 3 ≤ _ from hm) (by decide)
    · refine for_tup (K := K) (a := t4) (xs := [.ref t1, .ref t2, .ref t3]) (fun i σ H' => i ≤ 1 ∧ ∃ (v4 v5 : Option V), σ = [some (.ref p), some (.int s), some v2, some v3, v4, v5] ∧ H' = H4)
        ⟨by omega, none, none, rfl, rfl⟩ (fun i σ H' _ ⟨_, _, _, _, e⟩ => by rw [e]; exact SqT.of e4) ?_ ?_
      · rintro i y σ H' hi ⟨hm, v4, v5, rfl, rfl⟩
        match i, hi with
        | 0, hi =>
          cases hi
          refine rd_gtup (SqT.of e1) rfl ?_
          walk_at "rd"
          refine wh_int ?_
          walk_at "rd"
          exact iteF ⟨by omega, _, _, rfl, rfl⟩
        | 1, hi =>
          cases hi
          refine rd_gtup (SqT.of e2) rfl ?_
          walk_at "rd"
          refine wh_not (h2.same sm) ?_
          walk_at "rd"
          refine iteT ?_
          walk_at "rd"
          exact use_err rfl (by decide) fun d hd => kE d _ upd_same (sm.trans (Same.new hd))
        | 2, hi =>
          exact absurd hm (by omega)
        | i + 3, hi => simp at hi
      · rintro σ H' ⟨hm, v4, v5, rfl, rfl⟩
        exact absurd (show 3 ≤ _ from hm) (by decide)
    · refine for_tup (K := K) (a := t4) (xs := [.ref t1, .ref t2, .ref t3]) (fun i σ H' => i ≤ 2 ∧ ∃ (v4 v5 : Option V), σ = [some (.ref p), some (.int s), some (.int o), some v3, v4, v5] ∧ H' = H4)
        ⟨by omega, none, none, rfl, rfl⟩ (fun i σ H' _ ⟨_, _, _, _, e⟩ => by rw [e]; exact SqT.of e4) ?_ ?_
      · rintro i y σ H' hi ⟨hm, v4, v5, rfl, rfl⟩
        match i, hi with
        | 0, hi =>
          cases hi
          refine rd_gtup (SqT.of e1) rfl ?_
          walk_at "rd"
          refine wh_int ?_
          walk_at "rd"
          exact iteF ⟨by omega, _, _, rfl, rfl⟩
        | 1, hi =>
          cases hi
          refine rd_gtup (SqT.of e2) rfl ?_
          walk_at "rd"
          refine wh_int ?_
          walk_at "rd"
          exact iteF ⟨by omega, _, _, rfl, rfl⟩
        | 2, hi =>
          cases hi
          refine rd_gtup (SqT.of e3) rfl ?_
          walk_at "rd"
          refine wh_not (h3.same sm) ?_
          walk_at "rd"
          refine iteT ?_
          walk_at "rd"
          exact use_err rfl (by decide) fun d hd => kE d _ upd_same (sm.trans (Same.new hd))
        | i + 3, hi => simp at hi
      · rintro σ H' ⟨hm, v4, v5, rfl, rfl⟩
        exact absurd (show 3 ≤ _ from hm) (by decide)
    · refine for_tup (K := K) (a := t4) (xs := [.ref t1, .ref t2, .ref t3]) (fun i σ H' => i ≤ 3 ∧ ∃ (v4 v5 : Option V), σ = [some (.ref p), some (.int s), some (.int o), some (.int d), v4, v5] ∧ H' = H4)
        ⟨by omega, none, none, rfl, rfl⟩ (fun i σ H' _ ⟨_, _, _, _, e⟩ => by rw [e]; exact SqT.of e4) ?_ ?_
      · rintro i y σ H' hi ⟨hm, v4, v5, rfl, rfl⟩
        match i, hi with
        | 0, hi =>
          cases hi
          refine rd_gtup (SqT.of e1) rfl ?_
          walk_at "rd"
          refine wh_int ?_
          walk_at "rd"
          exact iteF ⟨by omega, _, _, rfl, rfl⟩
        | 1, hi =>
          cases hi
          refine rd_gtup (SqT.of e2) rfl ?_
          walk_at "rd"
          refine wh_int ?_
          walk_at "rd"
          exact iteF ⟨by omega, _, _, rfl, rfl⟩
        | 2, hi =>
          cases hi
          refine rd_gtup (SqT.of e3) rfl ?_
          walk_at "rd"
          refine wh_int ?_
          walk_at "rd"
          exact iteF ⟨by omega, _, _, rfl, rfl⟩
        | i + 3, hi => simp at hi
      · rintro σ H' ⟨hm, v4, v5, rfl, rfl⟩
        refine ⟨_, rfl, _, rfl, p, C, dx, [], rfl, ep, C0.cl, C0.n1, (by show 0 < 1000; decide), ?_⟩
        refine ⟨_, rfl, _, rfl, p, C, dx, _, rfl, upd_same, C0.cl, C0.n2, (by show 1 < 1000; decide), ?_⟩
        refine ⟨_, rfl, _, rfl, p, C, dx, _, rfl, upd_same, C0.cl, C0.n3, ?_, ?_⟩
        · rw [pf_nil, pf_miss f_so, pf_nil]
          show 2 < 1000
          decide
        · refine k _ (Eq.trans upd_same (congrArg (fun l => some (HO.ins C dx l)) pl_make)) fun b u e n => ?_
          rw [upd_ne n, upd_ne n, upd_ne n]
          exact sm b u e
theorem ok_Place_eq {C : Addr} (T : Txt K mg) (C0 : PlC K mg C) (D : MetAt K C "__eq__" "Place.__eq__" s_Place_eq ["self", "other"]) : Met P w K mg base 1 C "__eq__" (spPlEq C) := by
  obtain ⟨f, fd, hm, F, b⟩ := D
  refine ⟨f, fnR0 F b sc_Place_eq (fun vs H Q E h => ?_) (fun cdv A outer s H vs Q E hr h => ?_), hm⟩
  · obtain ⟨p, q, s, o, d, s', o', d', rfl, ⟨dx, hp⟩, ⟨dy, hq⟩, k⟩ := h
    rfl
  · obtain ⟨p, q, s, o, d, s', o', d', rfl, ⟨dx, hp⟩, ⟨dy, hq⟩, k⟩ := h
    have hu := hu_of hr
    refine ⟨_, (pss_one (ps_ret (pe_and (pe_callB call_isi (by rfl) T.b_isinstance (by decide +kernel) (pa_cons (pv 1) (pa_cons (pe_glob (v := .ref C) (by rfl) C0.g rfl) pa_nil))) (pe_and (pe_cmpR op_eq (pe_fld (pv 0) rfl) (pe_fld (pv 1) rfl) (nomark _)) (pe_and (pe_cmpR op_eq (pe_fld (pv 0) rfl) (pe_fld (pv 1) rfl) (nomark _)) (pe_one (pe_cmpR op_eq (pe_fld (pv 0) rfl) (pe_fld (pv 1) rfl) (nomark _)))))))), ?_⟩
    try dsimp only [cxOf, Cx.nox, Cx.wish, List.map]
    walk_at "rd"
    refine rd_isi (.own C) (C0.ty hq) kit_self ?_
    walk_at "rd"
    refine iteT ?_
    walk_at "pl"
    rw [show (decide (V.int s = V.int s')) = decide (s = s') from by simp]
    by_cases h1 : s = s'
    · rw [decide_eq_true h1] at k ⊢
      refine iteT ?_
      walk_at "pl"
      rw [show (decide (V.int o = V.int o')) = decide (o = o') from by simp]
      by_cases h2 : o = o'
      · rw [decide_eq_true h2] at k ⊢
        refine iteT ?_
        walk_at "pl"
        rw [show (decide (V.int d = V.int d')) = decide (d = d') from by simp]
        rw [Bool.true_and, Bool.true_and] at k
        exact k
      · rw [decide_eq_false h2] at k ⊢
        refine iteF ?_
        rw [Bool.and_false, Bool.false_and] at k
        exact k
    · rw [decide_eq_false h1] at k ⊢
      refine iteF ?_
      rw [Bool.false_and, Bool.false_and] at k
      exact k
end
end Kx
namespace Kx
open PySem PySem.Spec PyProof.Rows L2 Hf
local macro_rules | `(tactic| walk_at "r1") => `(tactic| with_reducible first | refine RdC.pf ?_ | refine rd_bl ?_ | refine rd_blP ?_ | refine rd_par2 ?_)
local macro_rules | `(tactic| walk_at "rd") => `(tactic| repeat (first | walk_at "r1" | ((with_reducible refine' rd_var ?hh ?_); (case hh => exact rfl)) | ((with_reducible refine' rd_eq ?hh ?_); (case hh => exact rfl)) | ((with_reducible refine' rd_ne ?hh ?_); (case hh => exact rfl)) | ((with_reducible refine' rd_aug ?hh ?_); (case hh => exact rfl))))
local macro_rules | `(tactic| walk_at "pl") => `(tactic| repeat (first | walk_at "rd1" | (refine rd_fldK (by assumption) (PlC.cl (by assumption)) (by first | exact PlC.n1 (by assumption) | exact PlC.n2 (by assumption) | exact PlC.n3 (by assumption)) (by first | exact pl_slope | exact pl_offset | exact pl_odd) ?_)))
local macro_rules | `(tactic| walk_at "rd1") => `(tactic| first | walk_at "r1" | ((with_reducible refine' rd_var ?hh ?_); (case hh => exact rfl)) | ((with_reducible refine' rd_eq ?hh ?_); (case hh => exact rfl)) | ((with_reducible refine' rd_ne ?hh ?_); (case hh => exact rfl)) | ((with_reducible refine' rd_aug ?hh ?_); (case hh => exact rfl)))
local macro_rules | `(tactic| walk_at "lf") => `(tactic| first | assumption | (refine PlaceAt.same ?_ (by assumption); walk_at "lf") | (refine PlaceAt.keep ?_ (by assumption) (by assumption); walk_at "lf"))
local macro_rules | `(tactic| walk_at "lo") => `(tactic| first | assumption | (refine (by assumption : Same _ _) _ _ ?_; walk_at "lo") | (refine (by assumption : Keep _ _ _) _ _ ?_ (by assumption); walk_at "lo"))
local macro_rules | `(tactic| walk_at "sm") => `(tactic| first | assumption | exact Same.refl _ | exact same_tr (by assumption) (by walk_at "sm"))
local macro_rules | `(tactic| walk_at "hp") => `(tactic| first | assumption | ((with_reducible show (_ : Option HO) = some _); exact same_at (by assumption) (by walk_at "hp")) | ((with_reducible show PicG _ _ _ _ _ _); exact picg_at (by assumption) (by walk_at "hp")) | ((with_reducible show F2 _ _ _); exact tups_at (by assumption) (by walk_at "hp")) | ((with_reducible show Pen _ _ _ _); exact pen_at (by assumption) (by walk_at "hp")))
section
variable {P : Program} {w : World} {K : PySem.W.Frag} {mg : Str → Option Value} {base : Heap}
theorem ok_Sizes_init {C CB : Addr} (T : Txt K mg) (C0 : SzC K mg C) (c_is_whole : Cal P w K mg base 1 "is_whole" (spWhole K)) (Er_BadClass : Err P w K mg base "BadClass" CB ["part"]) {f : Addr} {fd : FuncData} {dvs : List V} {kws : List (Str × V)} (F : FunD K "__init__" "Sizes.__init__" (defArgs s_Sizes_init) (defBody s_Sizes_init) (defScope s_Sizes_init) dvs kws f fd) {ps : List Str} (hps : ps = (["self", "low", "high"] : List Str)) : FnOk P w K mg base (L2.CX P w) 3 f fd ps (spSzI K C CB) := by
  subst hps
  refine fnOkDX F sc_Sizes_init (fun vs H Q E h => ?_) (fun cdv A outer s H vs Q E hr tk h => ?_)
  · obtain ⟨p, dx, lo, hi, rfl, _⟩ := h
    rfl
  · obtain ⟨p, dx, lo, hi, rfl, hp, h⟩ := h
    refine ⟨_, (pss_cons (ps_if (pw_or (pt_not (pt_val (pe_cl c_is_whole hr passL (pa_cons (pv 1) pa_nil)))) (pw_or1 (pt_cmpR op_lt (pv 1) pe_int (nomark _)))).pt (pss_one (ps_raE rfl tk (pmk_err Er_BadClass hr (pa_cons pe_str pa_nil)))) pss_nil)
  (pss_cons (ps_if (pw_and (pt_cmpR op_notN (pv 2) pe_non (nomark _)) (pw_and1 (pw_or (pt_not (pt_val (pe_cl c_is_whole hr passL (pa_cons (pv 2) pa_nil)))) (pw_or (pt_cmpR op_lt (pv 2) (pv 1) (nomark _)) (pw_or1 (pt_cmpR op_eq (pe_op op_mod (pe_op op_sub (pv 2) (pv 1)) pe_int) pe_int (nomark _))))).pt)).pt (pss_one (ps_raE rfl tk (pmk_err Er_BadClass hr (pa_cons pe_str pa_nil)))) pss_nil)
  (pss_cons (ps_fld (pv 0) (pv 1) rfl)
  (pss_one (ps_fld (pv 0) (pv 2) rfl))))), ?_⟩
    try dsimp only [cxOf, Cx.nox, Cx.wish, List.map]
    walk_at "rd"
    rcases h with ⟨hl, kE⟩ | ⟨i, rfl, hi1, h⟩
    · rcases hl with hl | ⟨i, rfl, hi1⟩
      · refine wh_not hl ?_
        walk_at "rd"
        refine iteT ?_
        refine iteT ?_
        walk_at "rd"
        exact use_err rfl (by decide) kE
      · refine wh_int ?_
        walk_at "rd"
        refine iteF ?_
        walk_at "rd"
        refine ite_yes (decide_eq_true hi1) ?_
        walk_at "rd"
        exact use_err rfl (by decide) kE
    · refine wh_int ?_
      walk_at "rd"
      refine iteF ?_
      walk_at "rd"
      refine ite_no (decide_eq_false (by omega)) ?_
      walk_at "rd"
      refine ⟨rfl, ?_⟩
      walk_at "rd"
      rcases h with ⟨hb, kE⟩ | ⟨ho, k⟩
      · rcases hb with ⟨hne, hw⟩ | ⟨j, rfl, hj⟩
        · refine ite_yes (by rw [decide_eq_false hne]; rfl) ?_
          walk_at "rd"
          refine wh_not hw ?_
          walk_at "rd"
          refine iteT ?_
          refine iteT ?_
          walk_at "rd"
          exact use_err rfl (by decide) kE
        · refine ite_yes nn_int ?_
          walk_at "rd"
          refine wh_int ?_
          walk_at "rd"
          refine iteF ?_
          walk_at "rd"
          refine ite_split (fun hlt => ?_) (fun hlt => ?_)
          · refine iteT ?_
            walk_at "rd"
            exact use_err rfl (by decide) kE
          · have hlt := of_decide_eq_false hlt
            walk_at "rd"
            refine rd_I (by decide) ?_
            walk_at "rd"
            refine ite_yes (by rw [eqI2]; exact decide_eq_true (by omega)) ?_
            walk_at "rd"
            exact use_err rfl (by decide) kE
      · have fin : ∀ (H9 : Hp), H9 = upd (upd H p (.ins C dx (putF "low" (.int i) []))) p (.ins C dx (putF "high" hi (putF "low" (.int i) []))) → Q .non H9 := fun H9 e => by
          rw [e]
          refine k _ (Eq.trans upd_same (congrArg (fun l => some (HO.ins C dx l)) sz_make)) fun b u e n => ?_
          rw [upd_ne n, upd_ne n]
          exact e
        rcases ho with rfl | ⟨j, rfl, h1, h2⟩
        · refine ite_no (by rfl) ?_
          refine iteF ?_
          walk_at "rd"
          refine ⟨p, C, dx, [], rfl, hp, C0.cl, C0.n1, (by show 0 < 1000; decide), ?_⟩
          walk_at "rd"
          refine ⟨p, C, dx, _, rfl, upd_same, C0.cl, C0.n2, (by show 1 < 1000; decide), ?_⟩
          exact fin _ rfl
        · refine ite_yes nn_int ?_
          walk_at "rd"
          refine wh_int ?_
          walk_at "rd"
          refine iteF ?_
          walk_at "rd"
          refine ite_no (decide_eq_false (by omega)) ?_
          walk_at "rd"
          refine rd_I (by decide) ?_
          walk_at "rd"
          refine ite_no (by rw [eqI2]; exact decide_eq_false (by omega)) ?_
          walk_at "rd"
          refine ⟨p, C, dx, [], rfl, hp, C0.cl, C0.n1, (by show 0 < 1000; decide), ?_⟩
          walk_at "rd"
          refine ⟨p, C, dx, _, rfl, upd_same, C0.cl, C0.n2, (by show 1 < 1000; decide), ?_⟩
          exact fin _ rfl
theorem ok_Sizes_contains {C : Addr} (T : Txt K mg) (C0 : SzC K mg C) (c_is_whole : Cal P w K mg base 1 "is_whole" (spWhole K)) (D : MetAt K C "__contains__" "Sizes.__contains__" s_Sizes_contains ["self", "value"]) : Met P w K mg base 2 C "__contains__" (spSzIn K C) := by
  obtain ⟨f, fd, hm, F, b⟩ := D
  refine ⟨f, fnR0 F b sc_Sizes_contains (fun vs H Q E h => ?_) (fun cdv A outer s H vs Q E hr h => ?_), hm⟩
  · obtain ⟨p, lo, hi, v, rfl, ⟨dx, hp⟩, hh, h⟩ := h
    rfl
  · obtain ⟨p, lo, hi, v, rfl, ⟨dx, hp⟩, hh, h⟩ := h
    have hu := hu_of hr
    refine ⟨_, (pss_cons (ps_if (pw_or (pt_not (pt_val (pe_cl c_is_whole hr passL (pa_cons (pv 1) pa_nil)))) (pw_or (pt_cmpR op_lt (pv 1) (pe_fld (pv 0) rfl) (nomark _)) (pw_or1 (pt_cmpR op_eq (pe_op op_mod (pe_op op_sub (pv 1) (pe_fld (pv 0) rfl)) pe_int) pe_int (nomark _))))).pt (pss_one (ps_ret pe_bl)) pss_nil)
  (pss_one (ps_ret (pe_or (pe_cmpR op_isN (pe_fld (pv 0) rfl) pe_non (nomark _)) (pe_one (pe_cmpR op_le (pv 1) (pe_fld (pv 0) rfl) (nomark _))))))), ?_⟩
    try dsimp only [cxOf, Cx.nox, Cx.wish, List.map]
    walk_at "rd"
    rcases h with ⟨hw, k⟩ | ⟨n, rfl, k⟩
    · refine wh_not hw ?_
      walk_at "rd"
      refine iteT ?_
      refine iteT ?_
      walk_at "rd"
      exact k
    · refine wh_int ?_
      walk_at "rd"
      refine iteF ?_
      walk_at "rd"
      refine rd_fldK hp C0.cl C0.n1 sz_low ?_
      walk_at "rd"
      unfold szIn at k
      refine ite_split (fun hlt => ?_) (fun hlt => ?_)
      · have hlt := of_decide_eq_true hlt
        refine iteT ?_
        walk_at "rd"
        rw [decide_eq_false (show ¬ lo ≤ n from by omega)] at k
        exact k
      · have hlt := of_decide_eq_false hlt
        rw [decide_eq_true (show lo ≤ n from by omega), Bool.true_and] at k
        walk_at "rd"
        refine rd_fldK hp C0.cl C0.n1 sz_low ?_
        walk_at "rd"
        refine rd_I (by decide) ?_
        walk_at "rd"
        rw [eqI2]
        refine ite_split (fun h2 => ?_) (fun h2 => ?_)
        · have h2 := of_decide_eq_true h2
          walk_at "rd"
          rw [decide_eq_false (show ¬ (n - lo) % 2 = 0 from by omega)] at k
          exact k
        · have h2 := of_decide_eq_false h2
          rw [decide_eq_true (show (n - lo) % 2 = 0 from by omega), Bool.true_and] at k
          walk_at "rd"
          refine rd_fldK hp C0.cl C0.n2 sz_high ?_
          walk_at "rd"
          refine ⟨rfl, ?_⟩
          walk_at "rd"
          rcases hh with rfl | ⟨j, rfl⟩
          · refine ite_yes (by rfl) ?_
            exact k
          · refine ite_no (decide_eq_false (by intro z; cases z)) ?_
            walk_at "rd"
            refine rd_fldK hp C0.cl C0.n2 sz_high ?_
            walk_at "rd"
            exact k
end
end Kx
namespace Kx
open PySem PySem.Spec PyProof.Rows L2 Hf
local macro_rules | `(tactic| walk_at "r1") => `(tactic| with_reducible first | refine RdC.pf ?_ | refine rd_bl ?_ | refine rd_blP ?_ | refine rd_par2 ?_)
local macro_rules | `(tactic| walk_at "rd") => `(tactic| repeat (first | walk_at "r1" | ((with_reducible refine' rd_var ?hh ?_); (case hh => exact rfl)) | ((with_reducible refine' rd_eq ?hh ?_); (case hh => exact rfl)) | ((with_reducible refine' rd_ne ?hh ?_); (case hh => exact rfl)) | ((with_reducible refine' rd_aug ?hh ?_); (case hh => exact rfl))))
local macro_rules | `(tactic| walk_at "pl") => `(tactic| repeat (first | walk_at "rd1" | (refine rd_fldK (by assumption) (PlC.cl (by assumption)) (by first | exact PlC.n1 (by assumption) | exact PlC.n2 (by assumption) | exact PlC.n3 (by assumption)) (by first | exact pl_slope | exact pl_offset | exact pl_odd) ?_)))
local macro_rules | `(tactic| walk_at "rd1") => `(tactic| first | walk_at "r1" | ((with_reducible refine' rd_var ?hh ?_); (case hh => exact rfl)) | ((with_reducible refine' rd_eq ?hh ?_); (case hh => exact rfl)) | ((with_reducible refine' rd_ne ?hh ?_); (case hh => exact rfl)) | ((with_reducible refine' rd_aug ?hh ?_); (case hh => exact rfl)))
local macro_rules | `(tactic| walk_at "lf") => `(tactic| first | assumption | (refine PlaceAt.same ?_ (by assumption); walk_at "lf") | (refine PlaceAt.keep ?_ (by assumption) (by assumption); walk_at "lf"))
local macro_rules | `(tactic| walk_at "lo") => `(tactic| first | assumption | (refine (by assumption : Same _ _) _ _ ?_; walk_at "lo") | (refine (by assumption : Keep _ _ _) _ _ ?_ (by assumption); walk_at "lo"))
local macro_rules | `(tactic| walk_at "sm") => `(tactic| first | assumption | exact Same.refl _ | exact same_tr (by assumption) (by walk_at "sm"))
local macro_rules | `(tactic| walk_at "hp") => `(tactic| first | assumption | ((with_reducible show (_ : Option HO) = some _); exact same_at (by assumption) (by walk_at "hp")) | ((with_reducible show PicG _ _ _ _ _ _); exact picg_at (by assumption) (by walk_at "hp")) | ((with_reducible show F2 _ _ _); exact tups_at (by assumption) (by walk_at "hp")) | ((with_reducible show Pen _ _ _ _); exact pen_at (by assumption) (by walk_at "hp")))
section
variable {P : Program} {w : World} {K : PySem.W.Frag} {mg : Str → Option Value} {base : Heap}
theorem ok_ascending (T : Txt K mg) (D : DefAt K mg "ascending" s_ascending ["numbers"]) : Cal P w K mg base 1 "ascending" (spAsc K) := by
  obtain ⟨f, fd, hm, F, b⟩ := D
  refine ⟨f, fnR0 F b sc_ascending (fun vs H Q E h => ?_) (fun cdv A outer s H vs Q E hr h => ?_), hm, F.kp⟩
  · obtain ⟨a, xs, rfl, ha, hl, k⟩ := h
    rfl
  · obtain ⟨a, xs, rfl, ha, hl, k⟩ := h
    have hu := hu_of hr
    refine ⟨_, (pss_one (ps_ret (pe_callB cr_sortedI (by rfl) T.b_sorted (by decide +kernel) (pa_cons (pe_lc (own := [("number", 1)]) (by rfl) sc_ascending.nd (pi_keysF (pe_dc (own := [("number", 1)]) (by rfl) sc_ascending.nd (pi_list (pv 0)) (blkOk_by (own := [("number", 1)]) (N := ["numbers", "number"]) (sc := defScope s_ascending) (by decide +kernel)) (fun _ _ _ _ _ => (pg_name (i := 1) sc_ascending.nd rfl (Or.inl rfl))) (fun _ _ _ _ _ => pts_nil) (fun _ _ _ _ _ => (pv 1)) (fun _ _ _ _ _ => pe_bl))) (blkOk_by (own := [("number", 1)]) (N := ["numbers", "number"]) (sc := defScope s_ascending) (by decide +kernel)) (fun _ _ _ _ _ => (pg_name (i := 1) sc_ascending.nd rfl (Or.inl rfl))) (fun _ _ _ _ _ => pts_nil) (fun _ _ _ _ _ => (pe_callTy call_int1 (by rfl) T.b_int (by decide +kernel) (pa_cons (pv 1) pa_nil)))) pa_nil)))), ?_⟩
    try dsimp only [cxOf, Cx.nox, Cx.wish, List.map]
    walk_at "rd"
    refine ⟨a, rfl, ⟨_, SqL.of ha⟩, ?_⟩
    refine dc_intsT (fun _ => true) (by show 1 < 2; decide) ha hl (fun z σ' H' R _ _ r => r) fun d kvs ks H1 nd ed KK mm lk s1 => ?_
    refine ⟨d, kvs, rfl, ed, fun od => ?_⟩
    have sF : Same H (upd H1 d (.frz od (.dK kvs))) := fun b u e => by
      have hb : b ≠ d := fun q => by rw [q, nd] at e; cases e
      rw [upd_ne hb]
      exact s1 b u e
    have lk2 : kvs.length ≤ 1000000 := by rw [KK.a.len]; omega
    refine lc_mapB (walk_keys (d := d) (o := od) (kvs := kvs)) (fun j => .int (ks.getD j 0)) (fun H' s => s _ _ upd_same) lk2 (fun j x H5 H6 R hj s5 y r1 => ?_) (fun D5 H5 nD5 eD5 s5 => ?_)
    · obtain ⟨rfl, kk, v, hkv, rfl⟩ := y
      have hk : (kvs.map (·.1))[j]? = some kk := by rw [List.getElem?_map, hkv]; rfl
      rw [KK.a] at hk
      obtain ⟨z, hz, rfl⟩ := map_get hk
      rw [show ks.getD j 0 = z from by rw [List.getD_eq_getElem?_getD, hz]; rfl] at r1
      refine rd_gname ?_
      refine ⟨rfl, ?_⟩
      walk_at "rd"
      exact .inl ⟨_, rfl, r1 _ (Same.refl _)⟩
    rw [KK.a.len, range_getD (fun z => V.int z) 0 ks] at eD5
    walk_at "rd"
    refine ⟨D5, ks, rfl, SqL.of eD5, fun ns p pm pw np => ?_⟩
    have s7 := Same.new (o := .lst (ns.map V.int)) np
    refine k p ns _ upd_same (sorted_lt pm pw KK.n) (fun x => ?_) (by rw [pm.length_eq]; exact lk) ((sF.trans s5).trans s7)
    rw [pm.mem_iff, mm]
    exact ⟨fun h => h.1, fun h => ⟨h, rfl⟩⟩
theorem ok_gaps_of {C : Addr} (T : Txt K mg) (C0 : PlC K mg C) (D : DefAt K mg "gaps_of" s_gaps_of ["places"]) : Cal P w K mg base 1 "gaps_of" (spGaps C) := by
  obtain ⟨f, fd, hm, F, b⟩ := D
  refine ⟨f, fnR0 F b sc_gaps_of (fun vs H Q E h => ?_) (fun cdv A outer s H vs Q E hr h => ?_), hm, F.kp⟩
  · obtain ⟨a, as, P, rfl, ha, fP, hl, k⟩ := h
    rfl
  · obtain ⟨a, as, P, rfl, ha, fP, hl, k⟩ := h
    have hu := hu_of hr
    refine ⟨_, (pss_cons (ps_set (i := 1) sc_gaps_of.nd rfl (Or.inl rfl) pe_dnewT)
  (pss_cons (ps_for PassesOwn.never rfl (pi_enum rfl T.b_enumerate (pa_cons (pv 0) pa_nil)) (pg_tup rfl (pgs_cons (pg_name (i := 2) sc_gaps_of.nd rfl (Or.inl rfl)) (pgs_cons (pg_name (i := 3) sc_gaps_of.nd rfl (Or.inl rfl)) pgs_nil)))
  (pss_one (ps_for PassesOwn.never rfl (pi_list (pe_slice sl_list (pv 0) (po_some (pe_op op_add (pv 2) pe_int)) po_none)) (pg_name (i := 4) sc_gaps_of.nd rfl (Or.inl rfl))
  (pss_one (ps_dput hu (pv 1) (pe_tup (pa_cons (pe_op op_sub (pe_fld (pv 3) rfl) (pe_fld (pv 4) rfl)) (pa_cons (pe_op op_sub (pe_fld (pv 3) rfl) (pe_fld (pv 4) rfl)) (pa_cons (pe_op op_sub (pe_fld (pv 3) rfl) (pe_fld (pv 4) rfl)) pa_nil)))) pe_bl rfl)))))
  (pss_one (ps_ret (pe_callTy (call_list_dT rfl) (by rfl) T.b_list (by decide +kernel) (pa_cons (pv 1) pa_nil)))))), ?_⟩
    try dsimp only [cxOf, Cx.nox, Cx.wish, List.map]
    walk_at "rd"
    refine rd_dnewT fun d nd => ?_
    have s1 := Same.new (o := .dT []) nd
    have ed := upd_same (H := H) (a := d) (o := .dT [])
    generalize upd H d _ = H1 at *
    have lp := fP.len
    have mutS : ∀ {H' : Hp} {o : HO}, Same H H' → Same H (upd H' d o) := fun s b u e => by
      rw [upd_ne (fun q => by rw [q, nd] at e; cases e)]
      exact s b u e
    walk_at "rd"
    refine ⟨a, as.map V.ref, rfl, SqL.of (s1 _ _ ha), ?_⟩
    refine for_it (walk_enum (K := K) (a := a) (xs := as.map V.ref)) (fun j σ H' => ∃ (v2 v3 v4 : Option V) (kvs : List (List L2.Key × V)) (gs : List P3), σ = [some (.ref a), some (.ref d), v2, v3, v4] ∧ H' d = some (.dT kvs) ∧ GsN kvs gs ∧ (∀ g, g ∈ gs ↔ GapTo P j g) ∧ gs.length ≤ j * 64 ∧ Same H H') ⟨none, none, none, [], [], rfl, ed, GsN.nil, fun g => ⟨fun h => (by cases h), fun h => (by obtain ⟨_, _, _, _, h, _⟩ := h; exact absurd h (Nat.not_lt_zero _))⟩, Nat.zero_le _, s1⟩ (fun j σ H' _ z => SqL.of (by obtain ⟨_, _, _, _, _, _, _, _, _, _, s⟩ := z; exact s _ _ ha)) ?_ ?_
    · rintro j xv σ B1 B2 hj ⟨v2, v3, v4, kvs, gs, rfl, e1, G1, m1, l1, sB⟩ ⟨tt, x, z, rfl, nt, rfl, ex, ez⟩
      rw [List.length_map] at hj
      obtain ⟨q, hq, rfl⟩ := map_get ez
      obtain ⟨t, ht, g⟩ := F2.get fP hq
      cases ex
      refine rd_gtup (SqT.of upd_same) rfl ?_
      have st := Same.new (o := .tup [.int (j : Nat), .ref q]) nt
      have sB2 := sB.trans st
      have e2 := st _ _ e1
      generalize upd B1 tt _ = B3 at *
      walk_at "rd"
      refine ⟨_, rfl, ?_⟩
      refine rd_noPart ?_
      refine use_slFrom (n := j) (sB2 _ _ ha) (by rw [List.length_map]; omega) fun p B4 np e4 s4 => ?_
      have pd : p ≠ d := fun z => by rw [z, e2] at np; cases np
      have sB4 := sB2.trans s4
      have e5 := s4 _ _ e2
      rw [← List.map_drop] at e4
      walk_at "rd"
      refine ⟨p, rfl, ⟨_, SqL.of e4⟩, for_list (K := K) (a := p) (xs := (as.drop (j + 1)).map V.ref) (fun i σ H' => ∃ (v4 : Option V) (kvs : List (List L2.Key × V)) (gs : List P3), σ = [some (.ref a), some (.ref d), some (.int (j : Nat)), some (.ref q), v4] ∧ H' d = some (.dT kvs) ∧ GsN kvs gs ∧ (∀ g, g ∈ gs ↔ GapTo P j g ∨ ∃ (i' : Nat) (b : P3), i' < i ∧ P[j + 1 + i']? = some b ∧ g = subP t b) ∧ gs.length ≤ j * 64 + i ∧ Same H H' ∧ H' p = some (.lst ((as.drop (j + 1)).map V.ref))) ⟨v4, kvs, gs, rfl, e5, G1, fun g => ⟨fun h => .inl ((m1 g).mp h), fun h => h.elim (fun h => (m1 g).mpr h) (fun h => (by obtain ⟨_, _, h, _⟩ := h; exact absurd h (Nat.not_lt_zero _)))⟩, l1, sB4, e4⟩ ?_ ?_ ?_⟩
      · rintro i σ A1 _ ⟨_, _, _, _, _, _, _, _, _, e⟩
        exact SqL.of e
      · rintro i xv σ A1 hv ⟨v4, kvs, gs, rfl, ea, GA, mA, lA, sA, pA⟩
        obtain ⟨r, hr2, rfl⟩ := map_get hv
        rw [List.getElem?_drop] at hr2
        obtain ⟨b, hb, gb⟩ := F2.get fP hr2
        have li : j + 1 + i < P.length := (List.getElem?_eq_some_iff.mp hb).1
        obtain ⟨dq, hq2⟩ := g
        obtain ⟨dr, hr3⟩ := gb
        have hq3 := sA _ _ hq2
        have hr4 := sA _ _ hr3
        refine rd_gname ?_
        walk_at "pl"
        refine new_tup (by show 3 ≤ 1000; decide) fun tk A2 n2 e6 s6 => ?_
        refine ⟨d, _, rfl, DPut.t (k := key3 (subP t b)) (s6 _ _ ea) e6 (by rw [GA.len]; exact Nat.lt_of_le_of_lt (show gs.length ≤ 5000 by omega) (by decide)), ?_⟩
        refine ⟨_, _, addG gs (subP t b), rfl, upd_same, GA.add _ _, fun g => ?_, Nat.le_trans addG_len (by omega), mutS (sA.trans s6), (upd_ne pd).trans (s6 _ _ pA)⟩
        rw [addG_mem, mA]
        constructor
        · rintro ((h | ⟨i', b', h1, h2, h3⟩) | rfl)
          · exact .inl h
          · exact .inr ⟨i', b', by omega, h2, h3⟩
          · exact .inr ⟨i, b, by omega, hb, rfl⟩
        · rintro (h | ⟨i', b', h1, h2, h3⟩)
          · exact .inl (.inl h)
          · by_cases e : i' = i
            · subst e
              rw [hb] at h2
              cases h2
              exact .inr h3
            · exact .inl (.inr ⟨i', b', by omega, h2, h3⟩)
      · rintro σ A1 ⟨v4, kvs, gs, rfl, ea, GA, mA, lA, sA, pA⟩
        rw [List.length_map, List.length_drop] at mA lA
        refine ⟨_, _, _, kvs, gs, rfl, ea, GA, fun g => ?_, by rw [Nat.succ_mul]; omega, sA⟩
        rw [mA]
        constructor
        · rintro (⟨i, k, x, y, h1, h2, h3⟩ | ⟨i', b', h1, h2, h3⟩)
          · exact ⟨i, k, x, y, by omega, h2, h3⟩
          · exact ⟨j, j + 1 + i', t, b', by omega, by omega, ht, h2, h3⟩
        · rintro ⟨i, k, x, y, h1, h2, h3, h4, h5⟩
          by_cases e : i = j
          · subst e
            rw [ht] at h3
            cases h3
            have := (List.getElem?_eq_some_iff.mp h4).1
            exact .inr ⟨k - (i + 1), y, by omega, by rw [show i + 1 + (k - (i + 1)) = k by omega]; exact h4, h5⟩
          · exact .inl ⟨i, k, x, y, by omega, h2, h3, h4, h5⟩
    · rintro σ B1 ⟨v2, v3, v4, kvs, gs, rfl, e1, G1, m1, l1, sB⟩
      rw [List.length_map, lp] at m1 l1
      walk_at "rd"
      refine ⟨d, kvs, rfl, .inl e1, fun l bs nl ik => ?_⟩
      have s2 := Same.new (o := .lst (bs.map V.ref)) nl
      refine k l bs gs _ upd_same (F2.imp (fun x t h => TAt.same h s2) (keys_T G1 ik)) (by omega) (fun g => ?_) (sB.trans s2)
      rw [m1]
      constructor
      · rintro ⟨i, k, x, y, h1, h2, h3⟩
        exact ⟨i, k, x, y, h2, h3⟩
      · rintro ⟨i, k, x, y, h2, h3, h4⟩
        exact ⟨i, k, x, y, (List.getElem?_eq_some_iff.mp h3).1, h2, h3, h4⟩
end
end Kx
namespace Kx
open PySem PySem.Spec PyProof.Rows L2 Hf
local macro_rules | `(tactic| walk_at "r1") => `(tactic| with_reducible first | refine RdC.pf ?_ | refine rd_bl ?_ | refine rd_blP ?_ | refine rd_par2 ?_)
local macro_rules | `(tactic| walk_at "rd") => `(tactic| repeat (first | walk_at "r1" | ((with_reducible refine' rd_var ?hh ?_); (case hh => exact rfl)) | ((with_reducible refine' rd_eq ?hh ?_); (case hh => exact rfl)) | ((with_reducible refine' rd_ne ?hh ?_); (case hh => exact rfl)) | ((with_reducible refine' rd_aug ?hh ?_); (case hh => exact rfl))))
local macro_rules | `(tactic| walk_at "pl") => `(tactic| repeat (first | walk_at "rd1" | (refine rd_fldK (by assumption) (PlC.cl (by assumption)) (by first | exact PlC.n1 (by assumption) | exact PlC.n2 (by assumption) | exact PlC.n3 (by assumption)) (by first | exact pl_slope | exact pl_offset | exact pl_odd) ?_)))
local macro_rules | `(tactic| walk_at "rd1") => `(tactic| first | walk_at "r1" | ((with_reducible refine' rd_var ?hh ?_); (case hh => exact rfl)) | ((with_reducible refine' rd_eq ?hh ?_); (case hh => exact rfl)) | ((with_reducible refine' rd_ne ?hh ?_); (case hh => exact rfl)) | ((with_reducible refine' rd_aug ?hh ?_); (case hh => exact rfl)))
local macro_rules | `(tactic| walk_at "lf") => `(tactic| first | assumption | (refine PlaceAt.same ?_ (by assumption); walk_at "lf") | (refine PlaceAt.keep ?_ (by assumption) (by assumption); walk_at "lf"))
local macro_rules | `(tactic| walk_at "lo") => `(tactic| first | assumption | (refine (by assumption : Same _ _) _ _ ?_; walk_at "lo") | (refine (by assumption : Keep _ _ _) _ _ ?_ (by assumption); walk_at "lo"))
local macro_rules | `(tactic| walk_at "sm") => `(tactic| first | assumption | exact Same.refl _ | exact same_tr (by assumption) (by walk_at "sm"))
local macro_rules | `(tactic| walk_at "hp") => `(tactic| first | assumption | ((with_reducible show (_ : Option HO) = some _); exact same_at (by assumption) (by walk_at "hp")) | ((with_reducible show PicG _ _ _ _ _ _); exact picg_at (by assumption) (by walk_at "hp")) | ((with_reducible show F2 _ _ _); exact tups_at (by assumption) (by walk_at "hp")) | ((with_reducible show Pen _ _ _ _); exact pen_at (by assumption) (by walk_at "hp")))
section
variable {P : Program} {w : World} {K : PySem.W.Frag} {mg : Str → Option Value} {base : Heap}
theorem ok_turns_of (T : Txt K mg) (D : DefAt K mg "turns_of" s_turns_of ["gaps", "parity"]) : Cal P w K mg base 1 "turns_of" (spTurns K) := by
  obtain ⟨f, fd, hm, F, b⟩ := D
  refine ⟨f, fnR0 F b sc_turns_of (fun vs H Q E h => ?_) (fun cdv A outer s H vs Q E hr h => ?_), hm, F.kp⟩
  · obtain ⟨a, ts, gs, p, rfl, ha, fG, hl, hp, gb, k⟩ := h
    rfl
  · obtain ⟨a, ts, gs, p, rfl, ha, fG, hl, hp, gb, k⟩ := h
    have hu := hu_of hr
    refine ⟨_, (pss_cons (ps_set (i := 2) sc_turns_of.nd rfl (Or.inl rfl) pe_dnewK)
  (pss_cons (ps_for PassesOwn.never rfl (pi_list (pv 0)) (pg_tup rfl (pgs_cons (pg_name (i := 3) sc_turns_of.nd rfl (Or.inl rfl)) (pgs_cons (pg_name (i := 4) sc_turns_of.nd rfl (Or.inl rfl)) (pgs_cons (pg_name (i := 5) sc_turns_of.nd rfl (Or.inl rfl)) pgs_nil))))
  (pss_one (ps_if (pt_cmpR op_ne (pv 3) pe_int (nomark _)) (pss_cons (ps_asg (pe_ifExp (pt_cmpR op_gt (pv 3) pe_int (nomark _)) (pe_tup (pa_cons (pv 3) (pa_cons (pe_op op_add (pv 4) (pe_op op_mulW (pv 5) (pv 1))) pa_nil))) (pe_tup (pa_cons (pe_op op_sub pe_int (pv 3)) (pa_cons (pe_op op_sub (pe_op op_sub pe_int (pv 4)) (pe_op op_mulW (pv 5) (pv 1))) pa_nil)))) (pg_tup rfl (pgs_cons (pg_name (i := 6) sc_turns_of.nd rfl (Or.inl rfl)) (pgs_cons (pg_name (i := 7) sc_turns_of.nd rfl (Or.inl rfl)) pgs_nil))))
  (pss_cons (ps_dput hu (pv 2) (pe_un un_neg (pe_op op_fdivW (pv 7) (pv 6))) pe_bl rfl)
  (pss_one (ps_dput hu (pv 2) (pe_op op_add (pe_op op_fdivW (pe_op op_sub pe_int (pv 7)) (pv 6)) pe_int) pe_bl rfl)))) pss_nil)))
  (pss_one (ps_ret (pe_callTy (call_list_dK rfl) (by rfl) T.b_list (by decide +kernel) (pa_cons (pv 2) pa_nil)))))), ?_⟩
    try dsimp only [cxOf, Cx.nox, Cx.wish, List.map]
    walk_at "rd"
    refine new_dict fun d H1 nd ed s1 => ?_
    have mutS : ∀ {H' : Hp} {o : HO}, Same H H' → Same H (upd H' d o) := fun s b u e => by
      rw [upd_ne (fun q => by rw [q, nd] at e; cases e)]
      exact s b u e
    walk_at "rd"
    refine ⟨a, rfl, ⟨_, SqL.of (s1 _ _ ha)⟩, for_list (K := K) (a := a) (xs := ts.map V.ref) (fun j σ H' => ∃ (v3 v4 v5 v6 v7 : Option V) (kvs : List (L2.Key × V)) (ns : List Int), σ = [some (.ref a), some (.int p), some (.ref d), v3, v4, v5, v6, v7] ∧ H' d = some (.dK kvs) ∧ KsN kvs ns ∧ (∀ h, h ∈ ns ↔ IsTurn (gs.take j) p h) ∧ ns.length ≤ j * 2 ∧ Same H H') ⟨none, none, none, none, none, [], [], rfl, ed, KsN.nil, fun h => ⟨fun h => (by cases h), fun h => (by obtain ⟨_, h, _⟩ := h; rw [List.take_zero] at h; cases h)⟩, Nat.zero_le _, s1⟩ ?_ ?_ ?_⟩
    · rintro i σ A1 _ ⟨_, _, _, _, _, _, _, _, _, _, _, _, s⟩
      exact SqL.of (s _ _ ha)
    · rintro j xv σ A1 hv ⟨v3, v4, v5, v6, v7, kvs, ns, rfl, ed1, KK, mm, ll, sA⟩
      obtain ⟨q, hq, rfl⟩ := map_get hv
      obtain ⟨g, hg, tg⟩ := F2.get fG hq
      have lj : j < gs.length := (List.getElem?_eq_some_iff.mp hg).1
      obtain ⟨b1, b2, b3⟩ := gb g (List.mem_of_getElem? hg)
      have tk : gs.take (j + 1) = gs.take j ++ [g] := by rw [List.take_add_one, hg]; rfl
      refine rd_gtup (SqT.of (sA _ _ tg)) rfl ?_
      dsimp only [intsP]
      walk_at "rd"
      have sp : Sm p := by rcases hp with rfl | rfl <;> exact ⟨by decide, by decide⟩
      have s1' : Sm g.1 := ⟨by omega, by omega⟩
      have s3' : Sm g.2.2 := ⟨by omega, by omega⟩
      by_cases h0 : g.1 = 0
      · rw [decide_eq_true (congrArg V.int h0)]
        refine iteF ?_
        walk_at "rd"
        refine ⟨_, _, _, _, _, kvs, ns, rfl, ed1, KK, fun h => ?_, by omega, sA⟩
        rw [mm, tk]
        constructor
        · rintro ⟨g', hg', r⟩
          exact ⟨g', List.mem_append_left _ hg', r⟩
        · rintro ⟨g', hg', r⟩
          rcases List.mem_append.mp hg' with z | z
          · exact ⟨g', z, r⟩
          · rw [List.mem_singleton.mp z] at r
            exact absurd h0 r.1
      · rw [decide_eq_false (fun z => h0 (by injection z))]
        refine iteT ?_
        walk_at "rd"
        have fin : ∀ (v3 v4 v5 v6 v7 : Option V) (kvs' : List (L2.Key × V)) (H' : Hp), H' d = some (.dK kvs') → KsN kvs' (addK (addK ns (tn0 g p)) (tn1 g p)) → Same H H' → ∃ (v3' v4' v5' v6' v7' : Option V) (kvs : List (L2.Key × V)) (ns : List Int), [some (.ref a), some (.int p), some (.ref d), v3, v4, v5, v6, v7] = [some (.ref a), some (.int p), some (.ref d), v3', v4', v5', v6', v7'] ∧ H' d = some (.dK kvs) ∧ KsN kvs ns ∧ (∀ h, h ∈ ns ↔ IsTurn (gs.take (j + 1)) p h) ∧ ns.length ≤ (j + 1) * 2 ∧ Same H H' := fun v3 v4 v5 v6 v7 kvs' H' e K2 s => ⟨v3, v4, v5, v6, v7, kvs', _, rfl, e, K2, fun h => by
            rw [addK_mem, addK_mem, mm, tk]
            constructor
            · rintro ((⟨g', hg', r⟩ | r) | r)
              · exact ⟨g', List.mem_append_left _ hg', r⟩
              · exact ⟨g, List.mem_append_right _ (List.mem_singleton.mpr rfl), h0, .inl r⟩
              · exact ⟨g, List.mem_append_right _ (List.mem_singleton.mpr rfl), h0, .inr r⟩
            · rintro ⟨g', hg', r⟩
              rcases List.mem_append.mp hg' with z | z
              · exact .inl (.inl ⟨g', z, r⟩)
              · rw [List.mem_singleton.mp z] at r
                rcases r.2 with r | r
                · exact .inl (.inr r)
                · exact .inr r, Nat.le_trans addK_len (Nat.succ_le_of_lt (Nat.lt_of_le_of_lt addK_len (by omega))), s⟩
        refine ite_split (fun hpos => ?_) (fun hpos => ?_)
        · have hpos := of_decide_eq_true hpos
          have es : g.1 = stp g := by unfold stp; rw [if_pos hpos]
          have ec : g.2.1 + g.2.2 * p = hig g p := by unfold hig; rw [if_pos hpos]
          have s0 : 0 < stp g := by rw [← es]; exact hpos
          have ss : Sm (stp g) := by rw [← es]; exact s1'
          walk_at "rd"
          refine rd_I (cMul_sm s3' sp) ?_
          walk_at "rd"
          refine new_tup (by show 2 ≤ 1000; decide) fun t A2 n2 et s4 => ?_
          rw [es, ec] at et
          have st := s4
          refine rd_gtup (SqT.of et) rfl ?_
          walk_at "rd"
          refine rd_I (cDiv_sm s0 ss) ?_
          walk_at "rd"
          refine ⟨d, _, rfl, DPut.k (k := .inl (tn0 g p)) (st _ _ ed1) (by rw [KK.a.len]; exact Nat.lt_of_le_of_lt (show ns.length ≤ 10000 by omega) (by decide)), ?_⟩
          walk_at "rd"
          refine rd_I (cDiv_sm s0 ss) ?_
          walk_at "rd"
          refine ⟨d, _, rfl, DPut.k (k := .inl (tn1 g p)) upd_same (by rw [(KK.add _ _).a.len]; exact Nat.lt_of_le_of_lt (Nat.le_trans addK_len (show ns.length + 1 ≤ 10000 by omega)) (by decide)), ?_⟩
          exact fin _ _ _ _ _ _ _ upd_same ((KK.add _ _).add _ _) (mutS (mutS (sA.trans st)))
        · have hpos := of_decide_eq_false hpos
          have es : 0 - g.1 = stp g := by unfold stp; rw [if_neg hpos]
          have ec : 0 - g.2.1 - g.2.2 * p = hig g p := by unfold hig; rw [if_neg hpos]
          have s0 : 0 < stp g := by rw [← es]; omega
          have ss : Sm (stp g) := by rw [← es]; exact ⟨by omega, by omega⟩
          walk_at "rd"
          refine rd_I (cMul_sm s3' sp) ?_
          walk_at "rd"
          refine new_tup (by show 2 ≤ 1000; decide) fun t A2 n2 et s4 => ?_
          rw [es, ec] at et
          have st := s4
          refine rd_gtup (SqT.of et) rfl ?_
          walk_at "rd"
          refine rd_I (cDiv_sm s0 ss) ?_
          walk_at "rd"
          refine ⟨d, _, rfl, DPut.k (k := .inl (tn0 g p)) (st _ _ ed1) (by rw [KK.a.len]; exact Nat.lt_of_le_of_lt (show ns.length ≤ 10000 by omega) (by decide)), ?_⟩
          walk_at "rd"
          refine rd_I (cDiv_sm s0 ss) ?_
          walk_at "rd"
          refine ⟨d, _, rfl, DPut.k (k := .inl (tn1 g p)) upd_same (by rw [(KK.add _ _).a.len]; exact Nat.lt_of_le_of_lt (Nat.le_trans addK_len (show ns.length + 1 ≤ 10000 by omega)) (by decide)), ?_⟩
          exact fin _ _ _ _ _ _ _ upd_same ((KK.add _ _).add _ _) (mutS (mutS (sA.trans st)))
    · rintro σ B1 ⟨v3, v4, v5, v6, v7, kvs, ns, rfl, e1, KK, mm, ll, sB⟩
      rw [List.length_map, fG.len] at mm ll
      rw [List.take_length] at mm
      walk_at "rd"
      refine ⟨d, kvs, rfl, e1, fun l nl => ?_⟩
      have s2 := Same.new (o := .lst (kvs.map fun kv => kV kv.1)) nl
      have e9 : kvs.map (fun kv => kV kv.1) = ns.map V.int := by
        have := congrArg (List.map kV) KK.a
        rw [List.map_map, List.map_map] at this
        exact this
      refine k l ns _ (upd_same.trans (by rw [e9])) (by omega) mm (sB.trans s2)
end
end Kx
namespace Kx
open PySem PySem.Spec PyProof.Rows L2 Hf
local macro_rules | `(tactic| walk_at "r1") => `(tactic| with_reducible first | refine RdC.pf ?_ | refine rd_bl ?_ | refine rd_blP ?_ | refine rd_par2 ?_)
local macro_rules | `(tactic| walk_at "rd") => `(tactic| repeat (first | walk_at "r1" | ((with_reducible refine' rd_var ?hh ?_); (case hh => exact rfl)) | ((with_reducible refine' rd_eq ?hh ?_); (case hh => exact rfl)) | ((with_reducible refine' rd_ne ?hh ?_); (case hh => exact rfl)) | ((with_reducible refine' rd_aug ?hh ?_); (case hh => exact rfl))))
local macro_rules | `(tactic| walk_at "pl") => `(tactic| repeat (first | walk_at "rd1" | (refine rd_fldK (by assumption) (PlC.cl (by assumption)) (by first | exact PlC.n1 (by assumption) | exact PlC.n2 (by assumption) | exact PlC.n3 (by assumption)) (by first | exact pl_slope | exact pl_offset | exact pl_odd) ?_)))
local macro_rules | `(tactic| walk_at "rd1") => `(tactic| first | walk_at "r1" | ((with_reducible refine' rd_var ?hh ?_); (case hh => exact rfl)) | ((with_reducible refine' rd_eq ?hh ?_); (case hh => exact rfl)) | ((with_reducible refine' rd_ne ?hh ?_); (case hh => exact rfl)) | ((with_reducible refine' rd_aug ?hh ?_); (case hh => exact rfl)))
local macro_rules | `(tactic| walk_at "lf") => `(tactic| first | assumption | (refine PlaceAt.same ?_ (by assumption); walk_at "lf") | (refine PlaceAt.keep ?_ (by assumption) (by assumption); walk_at "lf"))
local macro_rules | `(tactic| walk_at "lo") => `(tactic| first | assumption | (refine (by assumption : Same _ _) _ _ ?_; walk_at "lo") | (refine (by assumption : Keep _ _ _) _ _ ?_ (by assumption); walk_at "lo"))
local macro_rules | `(tactic| walk_at "sm") => `(tactic| first | assumption | exact Same.refl _ | exact same_tr (by assumption) (by walk_at "sm"))
local macro_rules | `(tactic| walk_at "hp") => `(tactic| first | assumption | ((with_reducible show (_ : Option HO) = some _); exact same_at (by assumption) (by walk_at "hp")) | ((with_reducible show PicG _ _ _ _ _ _); exact picg_at (by assumption) (by walk_at "hp")) | ((with_reducible show F2 _ _ _); exact tups_at (by assumption) (by walk_at "hp")) | ((with_reducible show Pen _ _ _ _); exact pen_at (by assumption) (by walk_at "hp")))
section
variable {P : Program} {w : World} {K : PySem.W.Frag} {mg : Str → Option Value} {base : Heap}
theorem ok_classes_of_parity (T : Txt K mg) {C CB : Addr} (c_turns_of : Cal P w K mg base 1 "turns_of" (spTurns K)) (M_Sizes : Mak P w K mg base 3 "Sizes" C (spSzI K C CB)) (D : DefAt K mg "classes_of_parity" s_classes_of_parity ["gaps", "parity"]) : Cal P w K mg base 5 "classes_of_parity" (spCoP C) := by
  obtain ⟨f, fd, hm, F, b⟩ := D
  refine ⟨f, fnR0 F b sc_classes_of_parity (fun vs H Q E h => ?_) (fun cdv A outer s H vs Q E hr h => ?_), hm, F.kp⟩
  · obtain ⟨a, ts, gs, p, rfl, ha, fG, hl, hp, gb, k⟩ := h
    rfl
  · obtain ⟨a, ts, gs, p, rfl, ha, fG, hl, hp, gb, k⟩ := h
    have hu := hu_of hr
    refine ⟨_, (pss_cons (ps_set (i := 2) sc_classes_of_parity.nd rfl (Or.inr rfl) (pe_op op_sub pe_int (pv 1)))
  (pss_cons (ps_setDc (i := 3) (mine := [("half", 5)]) (by rfl) sc_classes_of_parity.nd rfl rfl (swD_true rfl rfl rfl (by decide +kernel)) (pi_list (pe_cl c_turns_of hr passL (pa_cons (pv 0) (pa_cons (pv 1) pa_nil)))) (blkOk_by (own := [("half", 5)]) (N := ["gaps", "parity", "first", "later", "lows", "half", "low", "high"]) (sc := defScope s_classes_of_parity) (by decide +kernel)) (fun _ _ _ _ _ => (pg_name (i := 5) sc_classes_of_parity.nd rfl (Or.inl rfl))) (fun _ _ _ _ _ => (pts_one (pt_cmpR op_gt (pv 5) (pv 2) (nomark _)))) (fun _ _ _ _ _ => (pv 5)) (fun _ _ _ _ _ => pe_bl))
  (pss_cons (ps_setLc (i := 4) (own := [("half", 5)]) (by rfl) sc_classes_of_parity.nd rfl rfl (sw_true rfl rfl rfl (by decide +kernel)) (pi_list (pe_lst (pa_cons (pv 2) (StX.pa_star (pe_callB cr_sortedI (by rfl) T.b_sorted (by decide +kernel) (pa_cons (pe_lock (pe_lc (own := [("half", 5)]) (by rfl) sc_classes_of_parity.nd (pi_keys (pv 3)) (blkOk_by (own := [("half", 5)]) (N := ["gaps", "parity", "first", "later", "lows", "half", "low", "high"]) (sc := defScope s_classes_of_parity) (by decide +kernel)) (fun _ _ _ _ _ => (pg_name (i := 5) sc_classes_of_parity.nd rfl (Or.inl rfl))) (fun _ _ _ _ _ => pts_nil) (fun _ _ _ _ _ => (pe_callTy call_int1 (by rfl) T.b_int (by decide +kernel) (pa_cons (pv 5) pa_nil))))) pa_nil)) pa_nil)))) (blkOk_by (own := [("half", 5)]) (N := ["gaps", "parity", "first", "later", "lows", "half", "low", "high"]) (sc := defScope s_classes_of_parity) (by decide +kernel)) (fun _ _ _ _ _ => (pg_name (i := 5) sc_classes_of_parity.nd rfl (Or.inl rfl))) (fun _ _ _ _ _ => pts_nil) (fun _ _ _ _ _ => (pe_op op_add (pe_op op_mulW pe_int (pv 5)) (pv 1))))
  (pss_one (ps_ret (pe_lc (own := [("low", 6), ("high", 7)]) (by rfl) sc_classes_of_parity.nd (RZ.pi_zipA rfl T.b_zip (pa_cons (pv 4) (pa_cons (pe_lst (StX.pa_star (pe_lc (own := [("low", 6)]) (by rfl) sc_classes_of_parity.nd (pi_list (pe_slice sl_list (pv 4) (po_some pe_int) po_none)) (blkOk_by (own := [("low", 6)]) (N := ["gaps", "parity", "first", "later", "lows", "half", "low", "high"]) (sc := defScope s_classes_of_parity) (by decide +kernel)) (fun _ _ _ _ _ => (pg_name (i := 6) sc_classes_of_parity.nd rfl (Or.inl rfl))) (fun _ _ _ _ _ => pts_nil) (fun _ _ _ _ _ => (pe_op op_sub (pv 6) pe_int))) (pa_cons pe_non pa_nil))) pa_nil))) (blkOk_by (own := [("low", 6), ("high", 7)]) (N := ["gaps", "parity", "first", "later", "lows", "half", "low", "high"]) (sc := defScope s_classes_of_parity) (by decide +kernel)) (fun _ _ _ _ _ => (pg_tupB (K := K) (n := 2) rfl (pgs_cons (pg_name (i := 6) sc_classes_of_parity.nd rfl (Or.inl rfl)) (pgs_cons (pg_name (i := 7) sc_classes_of_parity.nd rfl (Or.inl rfl)) pgs_nil)))) (fun _ _ _ _ _ => pts_nil) (fun _ _ _ _ _ => (pe_ma M_Sizes hr passL (pa_cons (pv 6) (pa_cons (pv 7) pa_nil)))))))))), ?_⟩
    try dsimp only [cxOf, Cx.nox, Cx.wish, List.map]
    walk_at "rd"
    refine ⟨a, ts, gs, p, rfl, ha, fG, hl, hp, gb, fun l1 ns H1 e1 ln m1 s1 => ?_⟩
    walk_at "rd"
    refine ⟨l1, rfl, ⟨_, SqL.of e1⟩, ?_⟩
    refine dc_intsT (fun z => decide (1 - p < z)) (by show 5 < 8; decide) e1 (by omega) (fun z σ' H' R hσ s r => ?_) fun d kvs ks H2 nd ed KK mm lk s2 => ?_
    · subst hσ
      walk_at "rd"
      exact r
    have nd0 : H d = none := none_of s1 nd
    have S2 := s1.trans s2
    walk_at "rd"
    refine rd_lockE ed trivial fun od => ?_
    walk_at "rd"
    refine ⟨d, od, rfl, .inl ⟨kvs, upd_same, ?_⟩⟩
    refine lc_mapB (walk_keys (d := d) (o := od) (kvs := kvs)) (fun j => .int (ks.getD j 0)) (fun H' s => s _ _ upd_same) (by rw [KK.a.len]; omega) (fun j x H5 H6 R hj s5 y r1 => ?_) (fun D5 H5 nD5 eD5 s5 => ?_)
    · obtain ⟨rfl, kk, v, hkv, rfl⟩ := y
      have hk : (kvs.map (·.1))[j]? = some kk := by rw [List.getElem?_map, hkv]; rfl
      rw [KK.a] at hk
      obtain ⟨z, hz, rfl⟩ := map_get hk
      rw [show ks.getD j 0 = z from by rw [List.getD_eq_getElem?_getD, hz]; rfl] at r1
      refine rd_gname ?_
      refine ⟨rfl, ?_⟩
      walk_at "rd"
      exact .inl ⟨_, rfl, r1 _ (Same.refl _)⟩
    rw [KK.a.len, range_getD (fun z => V.int z) 0 ks] at eD5
    have ef5 := s5 _ _ upd_same
    refine ⟨ef5, ?_⟩
    have Dd : D5 ≠ d := fun z => by rw [z, upd_same] at nD5; cases nD5
    have s6 : Same H (upd H5 d (.dK kvs)) := lock_same S2 nd0 s5
    have eD6 := (upd_ne Dd (H := H5) (o := .dK kvs)).trans eD5
    generalize upd H5 d _ = H6 at *
    walk_at "rd"
    refine ⟨D5, ks, rfl, SqL.of eD6, fun ns2 q pm pw nq => ?_⟩
    have s7 := Same.new (o := .lst (ns2.map V.int)) nq
    have e7 := upd_same (H := H6) (a := q) (o := .lst (ns2.map V.int))
    generalize upd H6 q _ = H7 at *
    have up := sorted_lt pm pw KK.n
    have mm2 : ∀ x, x ∈ ns2 ↔ IsTurn gs p x ∧ 1 - p < x := fun x => by rw [pm.mem_iff, mm, m1, decide_eq_true_eq]
    have ln2 : ns2.length ≤ 8192 := by rw [pm.length_eq]; omega
    walk_at "rd"
    refine ⟨q, _, rfl, .inr (SqL.of e7), ?_⟩
    walk_at "rd"
    refine new_lstB (by show (V.int (1 - p) :: (ns2.map V.int ++ [])).length ≤ 1000000; rw [List.append_nil, List.length_cons, List.length_map]; omega) fun l8 H8 n8 e8 s8 => ?_
    rw [List.append_nil, show V.int (1 - p) :: ns2.map V.int = ((1 - p) :: ns2).map V.int from rfl] at e8
    refine ⟨l8, rfl, ⟨_, SqL.of e8⟩, ?_⟩
    have LG := lowsG_of up mm2
    have lnL : (((1 - p) :: ns2).map fun h => 2 * h + p).length ≤ 8193 := by rw [List.length_map, List.length_cons]; omega
    have smh : ∀ h ∈ (1 - p) :: ns2, h.natAbs ≤ 10 ^ 23 := fun h hh => by
      rcases List.mem_cons.mp hh with rfl | hh
      · rcases hp with rfl | rfl <;> decide
      · exact turn_abs hp gb ((mm2 h).mp hh).1
    generalize hms : (1 - p) :: ns2 = ms at *
    refine lc_mapB (walk_list (K := K) (a := l8) (xs := ms.map V.int)) (fun j => .int (2 * ms.getD j 0 + p)) (fun H' s => SqL.of (s _ _ e8)) (by rw [List.length_map] at lnL ⊢; omega) (fun j x H9 H10 R hj s9 y r1 => ?_) (fun D9 H9 nD9 eD9 s9 => ?_)
    · obtain ⟨rfl, hx⟩ := y
      obtain ⟨z, hz, rfl⟩ := map_get hx
      have zs := smh z (List.mem_of_getElem? hz)
      rw [show ms.getD j 0 = z from by rw [List.getD_eq_getElem?_getD, hz]; rfl] at r1
      refine rd_gname ?_
      refine ⟨rfl, ?_⟩
      walk_at "rd"
      refine rd_I (cMul_sm (show Sm 2 from ⟨by decide, by decide⟩) ⟨by omega, by omega⟩) ?_
      walk_at "rd"
      exact r1 _ (Same.refl _)
    rw [List.length_map, range_getD (fun z => V.int (2 * z + p)) 0 ms, show ms.map (fun z => V.int (2 * z + p)) = (ms.map fun h => 2 * h + p).map V.int from by rw [List.map_map]; rfl] at eD9
    have S9 := (s6.trans s7).trans (s8.trans s9)
    generalize ms.map (fun h => 2 * h + p) = lows at *
    have neL : lows ≠ [] := fun z => by rw [z] at LG; exact nomatch LG.hd
    have posL := List.length_pos_iff.mpr neL
    walk_at "rd"
    refine ⟨_, rfl, ?_⟩
    refine rd_noPart ?_
    refine use_sl1L eD9 (by rw [List.length_map]; exact posL) fun l10 H10 n10 e10 s10 => ?_
    rw [← List.map_drop] at e10
    walk_at "rd"
    refine ⟨l10, rfl, ⟨_, SqL.of e10⟩, ?_⟩
    refine lc_mapB (walk_list (K := K) (a := l10) (xs := (lows.drop 1).map V.int)) (fun j => .int ((lows.drop 1).getD j 0 - 2)) (fun H' s => SqL.of (s _ _ e10)) (by rw [List.length_map, List.length_drop]; omega) (fun j x H11 H12 R hj s11 y r1 => ?_) (fun D11 H11 nD11 eD11 s11 => ?_)
    · obtain ⟨rfl, hx⟩ := y
      obtain ⟨z, hz, rfl⟩ := map_get hx
      rw [show (lows.drop 1).getD j 0 = z from by rw [List.getD_eq_getElem?_getD, hz]; rfl] at r1
      refine rd_gname ?_
      refine ⟨rfl, ?_⟩
      walk_at "rd"
      exact r1 _ (Same.refl _)
    rw [List.length_map, range_getD (fun z => V.int (z - 2)) 0 (lows.drop 1)] at eD11
    walk_at "rd"
    refine ⟨D11, _, rfl, .inr (SqL.of eD11), ?_⟩
    walk_at "rd"
    refine new_lstB (by show ((lows.drop 1).map (fun z => V.int (z - 2)) ++ [V.non]).length ≤ 1000000; rw [List.length_append, List.length_map, List.length_drop, List.length_singleton]; omega) fun l12 H12 n12 e12 s12 => ?_
    rw [show (lows.drop 1).map (fun z => V.int (z - 2)) ++ [V.non] = hisOf lows from rfl] at e12
    have e13 := (s10.trans (s11.trans s12)) _ _ eD9
    have S12 := S9.trans (s10.trans (s11.trans s12))
    walk_at "rd"
    refine ⟨D9, l12, _, _, rfl, .inl ⟨SqL.of e13, SqL.of e12, ?_⟩⟩
    intro D hD
    refine lc_it (walk_zip (K := K) (a := D9) (b := l12) (n := lows.length) (xs := lows.map V.int) (ys := hisOf lows) (by rw [hisOf_len neL, List.length_map, Nat.min_self])) (fun j H' => ∃ ps : List Addr, H' D = some (.lst (ps.map V.ref)) ∧ F2 (SzR C H') ps ((rowsOf lows).take j) ∧ Same H12 H') ⟨[], upd_same, by rw [List.take_zero]; exact .nil, Same.new hD⟩ (fun j H' _ z => by obtain ⟨_, _, _, s⟩ := z; exact ⟨SqL.of (s _ _ e13), SqL.of (s _ _ e12)⟩) ?_ ?_
    · rintro j x H13 _ hj ⟨ps, eD, fS, s⟩ ⟨T0, u, v, rfl, nT, rfl, hu, hv⟩
      obtain ⟨z, hz, rfl⟩ := map_get hu
      have hr : (rowsOf lows)[j]? = some (z, v) := by rw [rowsOf_zip neL]; exact zip_getA hz hv
      obtain ⟨k1, k2⟩ := LG.ok hp (z, v) (List.mem_of_getElem? hr)
      have sT := Same.new (o := .tup [.int z, v]) nT
      have eD' := sT _ _ eD
      refine rd_gtup (SqT.of upd_same) rfl ?_
      generalize upd H13 T0 _ = H14 at *
      walk_at "rd"
      refine ⟨rfl, ?_⟩
      walk_at "rd"
      refine iteT ?_
      walk_at "rd"
      refine use_sz (K := K) (CB := CB) k1 k2 fun p2 H15 np2 g2 s15 => ?_
      have eD2 := s15 _ _ eD'
      have lps := fS.len
      refine ⟨_, eD2, by rw [List.length_map, lps]; exact Nat.lt_of_le_of_lt (Nat.le_trans (List.length_take_le _ _) (show j ≤ 10000 by omega)) (by decide), ps ++ [p2], by rw [List.map_append]; exact upd_same, ?_, fun b u e => ?_⟩
      · rw [List.take_add_one, hr]
        exact F2.append (F2.imp (fun a d h => SzR.put (SzR.same h (sT.trans s15)) eD2) fS) (.cons (SzR.put (r := (z, v)) g2 eD2) .nil)
      · rw [upd_ne (fun q => by rw [q, hD] at e; cases e)]
        exact (s.trans (sT.trans s15)) b u e
    · rintro H13 ⟨ps, eD, fS, s⟩
      rw [show (rowsOf lows).take lows.length = rowsOf lows from by rw [← rowsOf_len lows, List.take_length]] at fS
      exact k D ps lows H13 LG lnL eD fS (S12.trans s)
end
end Kx
namespace Kx
open PySem PySem.Spec PyProof.Rows L2 Hf
local macro_rules | `(tactic| walk_at "r1") => `(tactic| with_reducible first | refine RdC.pf ?_ | refine rd_bl ?_ | refine rd_blP ?_ | refine rd_par2 ?_)
local macro_rules | `(tactic| walk_at "rd") => `(tactic| repeat (first | walk_at "r1" | ((with_reducible refine' rd_var ?hh ?_); (case hh => exact rfl)) | ((with_reducible refine' rd_eq ?hh ?_); (case hh => exact rfl)) | ((with_reducible refine' rd_ne ?hh ?_); (case hh => exact rfl)) | ((with_reducible refine' rd_aug ?hh ?_); (case hh => exact rfl))))
local macro_rules | `(tactic| walk_at "pl") => `(tactic| repeat (first | walk_at "rd1" | (refine rd_fldK (by assumption) (PlC.cl (by assumption)) (by first | exact PlC.n1 (by assumption) | exact PlC.n2 (by assumption) | exact PlC.n3 (by assumption)) (by first | exact pl_slope | exact pl_offset | exact pl_odd) ?_)))
local macro_rules | `(tactic| walk_at "rd1") => `(tactic| first | walk_at "r1" | ((with_reducible refine' rd_var ?hh ?_); (case hh => exact rfl)) | ((with_reducible refine' rd_eq ?hh ?_); (case hh => exact rfl)) | ((with_reducible refine' rd_ne ?hh ?_); (case hh => exact rfl)) | ((with_reducible refine' rd_aug ?hh ?_); (case hh => exact rfl)))
local macro_rules | `(tactic| walk_at "lf") => `(tactic| first | assumption | (refine PlaceAt.same ?_ (by assumption); walk_at "lf") | (refine PlaceAt.keep ?_ (by assumption) (by assumption); walk_at "lf"))
local macro_rules | `(tactic| walk_at "lo") => `(tactic| first | assumption | (refine (by assumption : Same _ _) _ _ ?_; walk_at "lo") | (refine (by assumption : Keep _ _ _) _ _ ?_ (by assumption); walk_at "lo"))
local macro_rules | `(tactic| walk_at "sm") => `(tactic| first | assumption | exact Same.refl _ | exact same_tr (by assumption) (by walk_at "sm"))
local macro_rules | `(tactic| walk_at "hp") => `(tactic| first | assumption | ((with_reducible show (_ : Option HO) = some _); exact same_at (by assumption) (by walk_at "hp")) | ((with_reducible show PicG _ _ _ _ _ _); exact picg_at (by assumption) (by walk_at "hp")) | ((with_reducible show F2 _ _ _); exact tups_at (by assumption) (by walk_at "hp")) | ((with_reducible show Pen _ _ _ _); exact pen_at (by assumption) (by walk_at "hp")))
section
variable {P : Program} {w : World} {K : PySem.W.Frag} {mg : Str → Option Value} {base : Heap}
open Gz
theorem gsc_classes : GScope ["places", "gaps", "odd", "even", "by_low", "low", "one"] ["places"] (defScope s_classes) := ⟨rfl, rfl, rfl, by decide +kernel, rfl, by decide +kernel, by decide +kernel⟩
theorem ok_classes {CP C : Addr} (T : Txt K mg) (C0 : SzC K mg C) (c_gaps_of : Cal P w K mg base 1 "gaps_of" (spGaps CP)) (c_classes_of_parity : Cal P w K mg base 5 "classes_of_parity" (spCoP C)) (c_ascending : Cal P w K mg base 1 "ascending" (spAsc K)) {f : Addr} {kV doc pm cdv ct oc : Value} {an od : Option Addr} {osl : Array (Option Value)} (lk : K.lookup f = some ⟨oc, od, .func (PySem.W.fnOf "classes" "classes" (defArgs s_classes) (defBody s_classes) (defScope s_classes) .none kV doc pm an cdv ct), osl⟩) (hcd : PySem.W.codeIn K cdv "classes" = true) :
    GFz P w K mg base 7 f (PySem.W.fnOf "classes" "classes" (defArgs s_classes) (defBody s_classes) (defScope s_classes) .none kV doc pm an cdv ct) ["places"] (spCls CP C) := by
  refine gfz_of (k := 6) (N := ["places", "gaps", "odd", "even", "by_low", "low", "one"]) lk hcd gsc_classes (by decide +kernel) (fun vs H C h => ?_) (fun vs H Cc h => ?_)
  · obtain ⟨a, as, P, rfl, _⟩ := h
    rfl
  · obtain ⟨a, as, P, rfl, ha, fP, hl, pb, hC⟩ := h
    obtain ⟨l, IC, ll⟩ := IsCls.ex P hl
    refine ⟨_, hC l IC ll, fun A2 outer Lo gg hr wf => ?_⟩
    have hu := hu_of hr
    refine ⟨_, (gns_cons (gn_ps (fun s H ps => (ps_set (i := 1) gsc_classes.nd rfl (Or.inl rfl) (pe_cl c_gaps_of hr passL (pa_cons (pe_callTy call_list_of (by rfl) T.b_list (by decide +kernel) (pa_cons (pv 0) pa_nil)) pa_nil)))))
  (gns_cons (gn_ps (fun s H ps => (ps_par (i := 2) (j := 3) rfl gsc_classes.nd rfl rfl (by decide) rfl rfl (pa_cons (pe_cl c_classes_of_parity hr passL (pa_cons (pv 1) (pa_cons pe_int pa_nil))) (pa_cons (pe_cl c_classes_of_parity hr passL (pa_cons (pv 1) (pa_cons pe_int pa_nil))) pa_nil)) rfl)))
  (gns_cons (gn_ps (fun s H ps => (ps_setDc (i := 4) (mine := [("one", 6)]) (by rfl) gsc_classes.nd rfl rfl (swD_true rfl rfl rfl (by decide +kernel)) (pi_list (pe_lst (StX.pa_star (pv 2) (StX.pa_star (pv 3) pa_nil)))) (blkOk_by (own := [("one", 6)]) (N := ["places", "gaps", "odd", "even", "by_low", "low", "one"]) (sc := defScope s_classes) (by decide +kernel)) (fun _ _ _ _ _ => (pg_name (i := 6) gsc_classes.nd rfl (Or.inl rfl))) (fun _ _ _ _ _ => pts_nil) (fun _ _ _ _ _ => (pe_fldB (K := K) (pv 6) rfl)) (fun _ _ _ _ _ => (pv 6)))))
  (gns_one (gn_for wf (fun s H ps => (pi_list (pe_cl c_ascending hr passL (pa_cons (pe_callTy (call_list_dK rfl) (by rfl) T.b_list (by decide +kernel) (pa_cons (pv 4) pa_nil)) pa_nil)))) (fun s H ps => (pg_name (i := 5) gsc_classes.nd rfl (Or.inl rfl)))
  (gns_one (gn_yield wf (fun s H ps => (pe_dget hu (pv 4) (pv 5) (fun _ _ => rfl))) rfl rfl))))))), ?_⟩
    intro H2 Y F r2 s H0 ps
    obtain ⟨⟨s0, _⟩, w2⟩ := r2
    replace s0 := s0 rfl
    have wi : WishM l.length (RC C l) ⟨0, Y, F⟩ H2 := ⟨w2.1, w2.2⟩
    clear w2
    have ha2 : SqL K H2 a (as.map V.ref) ∨ SqT K H2 a (as.map V.ref) := ha.elim (fun h => .inl (SqL.of (s0 _ _ h))) (fun h => .inr (SqT.of (s0 _ _ h)))
    have fP2 := F2.imp (fun x t h => PlaceAt.same h s0) fP
    walk_at "rd"
    refine ⟨a, _, rfl, ha2, fun l1 n1 => ?_⟩
    have s1 := Same.new (o := .lst (as.map V.ref)) n1
    have e1 := upd_same (H := H2) (a := l1) (o := .lst (as.map V.ref))
    generalize upd H2 l1 _ = H3 at *
    walk_at "rd"
    refine ⟨l1, as, P, rfl, e1, F2.imp (fun x t h => PlaceAt.same h s1) fP2, hl, fun g1 ts gs H4 e4 fG lg mg4 s4 => ?_⟩
    have gb : ∀ g ∈ gs, GapB g := fun g hg => gap_b pb ((mg4 g).mp hg)
    walk_at "rd"
    intro s H0 ps
    walk_at "rd"
    refine ⟨g1, ts, gs, 1, rfl, e4, fG, lg, .inr rfl, gb, fun lo1 ps1 lows1 H5 L1 ll1 e5 f5 s5 => ?_⟩
    walk_at "rd"
    refine ⟨g1, ts, gs, 0, rfl, s5 _ _ e4, F2.imp (fun x t h => TAt.same h s5) fG, lg, .inl rfl, gb, fun lo0 ps0 lows0 H6 L0 ll0 e6 f6 s6 => ?_⟩
    walk_at "rd"
    intro s H0 ps
    walk_at "rd"
    refine ⟨lo1, _, rfl, .inr (SqL.of (s6 _ _ e5)), ?_⟩
    walk_at "rd"
    refine ⟨lo0, _, rfl, .inr (SqL.of e6), ?_⟩
    walk_at "rd"
    have IL1 := L1.of mg4
    have IL0 := L0.of mg4
    have fR : F2 (SzR C H6) (ps1 ++ ps0) (rowsOf lows1 ++ rowsOf lows0) := F2.append (F2.imp (fun x t h => SzR.same h s6) f5) f6
    have nd : ((rowsOf lows1 ++ rowsOf lows0).map (·.1)).Nodup := by rw [List.map_append, rowsOf_fst, rowsOf_fst]; exact lows_nd IL1 IL0
    have efst : (rowsOf lows1 ++ rowsOf lows0).map (·.1) = lows1 ++ lows0 := by rw [List.map_append, rowsOf_fst, rowsOf_fst]
    have lR := fR.len
    have lps : (ps1 ++ ps0).length ≤ 16386 := by rw [lR, List.length_append, rowsOf_len, rowsOf_len]; omega
    have S6 := s1.trans (s4.trans (s5.trans s6))
    rw [List.append_nil, ← List.map_append]
    generalize hrs : rowsOf lows1 ++ rowsOf lows0 = rs at *
    generalize ps1 ++ ps0 = qs at *
    refine new_lstB (by rw [List.length_map]; omega) fun lq H7 n7 e7 s7 => ?_
    have fR7 := F2.imp (fun x t h => SzR.same h s7) fR
    refine ⟨lq, rfl, ⟨_, SqL.of e7⟩, ?_⟩
    intro D hD
    refine dc_it (walk_list (K := K) (a := lq) (xs := qs.map V.ref)) (fun j H' => H' D = some (.dK (((rs.zip qs).take j).map entR)) ∧ Same H7 H') ⟨upd_same, Same.new hD⟩ (fun j H' _ z => SqL.of (z.2 _ _ e7)) ?_ ?_
    · rintro j x J1 J2 hj ⟨eD, sJ⟩ ⟨rfl, hx⟩
      obtain ⟨p, hp, rfl⟩ := map_get hx
      obtain ⟨r, hr, g⟩ := F2.get fR7 hp
      obtain ⟨dx, g'⟩ := g
      have g2 := sJ _ _ g'
      have hz : (rs.zip qs)[j]? = some (r, p) := zip_getA hr hp
      refine rd_gname ?_
      refine ⟨rfl, ?_⟩
      walk_at "rd"
      refine iteT ?_
      walk_at "rd"
      refine rd_fldK g2 C0.cl C0.n1 sz_low ?_
      walk_at "rd"
      refine ⟨_, .inl r.1, rfl, eD, by rw [List.length_map, List.length_take]; exact Nat.lt_of_le_of_lt (Nat.le_trans (Nat.min_le_left _ _) (show j ≤ 20000 by rw [List.length_map] at hj; omega)) (by decide), ?_, fun b u e => ?_⟩
      · rw [putK_new, List.take_add_one, hz]
        · rw [List.map_append]
          exact upd_same
        · intro kv hkv e
          obtain ⟨y, hy, rfl⟩ := List.mem_map.mp hkv
          obtain ⟨i, hi⟩ := List.getElem?_of_mem hy
          have ilt : i < j := by
            have := (List.getElem?_eq_some_iff.mp hi).1
            rw [List.length_take] at this
            omega
          rw [List.getElem?_take, if_pos ilt] at hi
          have hi2 : (rs.map (·.1))[i]? = some r.1 := by
            have h1 : rs[i]? = some y.1 := (List.getElem?_zip_eq_some.mp hi).1
            rw [List.getElem?_map, h1]
            injection e with e
            exact congrArg some e
          have hj2 : (rs.map (·.1))[j]? = some r.1 := by rw [List.getElem?_map, hr]; rfl
          obtain ⟨i1, i2⟩ := List.getElem?_eq_some_iff.mp hi2
          obtain ⟨j1, j2⟩ := List.getElem?_eq_some_iff.mp hj2
          exact List.pairwise_iff_getElem.mp nd i j i1 j1 ilt (i2.trans j2.symm)
      · rw [upd_ne (fun q => by rw [q, hD] at e; cases e)]
        exact sJ b u e
    rintro H8 ⟨eD, s8⟩
    rw [List.length_map, show (rs.zip qs).take qs.length = rs.zip qs from List.take_of_length_le (by rw [List.length_zip]; omega)] at eD
    have S8 := S6.trans (s7.trans s8)
    have fR8 := F2.imp (fun x t h => SzR.same h s8) fR7
    walk_at "rd"
    intro s H0 ps
    walk_at "rd"
    refine ⟨D, _, rfl, eD, fun q9 n9 => ?_⟩
    have hk : ((rs.zip qs).map entR).map (fun kv => L2.kV kv.1) = (lows1 ++ lows0).map V.int := by rw [← efst, show (fun kv : Key × V => L2.kV kv.1) = L2.kV ∘ (·.1) from rfl, ← List.map_map, ent_keys lR, List.map_map]; rfl
    rw [hk]
    have s9 := Same.new (o := .lst ((lows1 ++ lows0).map V.int)) n9
    have e9 := upd_same (H := H8) (a := q9) (o := .lst ((lows1 ++ lows0).map V.int))
    generalize upd H8 q9 _ = H9 at *
    walk_at "rd"
    refine ⟨q9, lows1 ++ lows0, rfl, e9, by rw [← efst, List.length_map, ← lR]; omega, fun la ns H10 e10 up10 mm10 ln10 s10 => ?_⟩
    obtain ⟨ef, em⟩ := IC.fst IL1 IL0 up10 mm10
    rw [hrs] at em
    have S10 := S8.trans (s9.trans s10)
    have eD10 := s10 _ _ (s9 _ _ eD)
    have fR10 := F2.imp (fun x t h => SzR.same h (s9.trans s10)) fR8
    have lns : ns.length = l.length := by rw [← ef, List.length_map]
    have nne : ns ≠ [] := fun z => by
      have := L1.hd
      have h2 : (2 - 1 : Int) ∈ ns := (mm10 _).mpr (List.mem_append_left _ (List.mem_of_mem_head? this))
      rw [z] at h2
      cases h2
    walk_at "rd"
    refine ⟨la, rfl, ⟨_, SqL.of e10⟩, ?_⟩
    refine for_itN (walk_list (K := K) (a := la) (xs := ns.map V.int)) (fun j W σ H' => (∃ v5 v6 : Option V, σ = [some (.ref a), some (.ref g1), some (.ref lo1), some (.ref lo0), some (.ref D), v5, v6]) ∧ W.i = j ∧ (∃ Hw, WishM l.length (RC C l) W Hw ∧ Same Hw H' ∧ (0 < j → H' = Hw)) ∧ SC H10 H') ⟨⟨_, _, rfl⟩, rfl, ⟨H2, wi, S10, fun z => absurd z (Nat.lt_irrefl _)⟩, fun _ _ e _ => e⟩ (fun j W σ H' _ z => SqL.of (z.2.2.2 _ _ e10 ⟨ns, nne, rfl⟩)) ?_ ?_
    · rintro j x W σ B1 B2 hj ⟨⟨v5, v6, rfl⟩, ei, ⟨Hw, wj, sw, eq0⟩, sc⟩ ⟨rfl, hx⟩ s H0 ps
      obtain ⟨z, hz, rfl⟩ := map_get hx
      have hzl : (l.map (·.1))[j]? = some z := by rw [ef]; exact hz
      obtain ⟨r, hr, e1⟩ := map_get hzl
      have hrm := (em r).mp (List.mem_of_getElem? hr)
      obtain ⟨i, hi⟩ := List.getElem?_of_mem hrm
      obtain ⟨p, hp⟩ : ∃ p, qs[i]? = some p := ⟨_, List.getElem?_eq_getElem (by rw [lR]; exact (List.getElem?_eq_some_iff.mp hi).1)⟩
      obtain ⟨r', hr', g⟩ := F2.get fR10 hp
      rw [hi] at hr'
      cases hr'
      have hz2 : (r, p) ∈ rs.zip qs := List.mem_of_getElem? (zip_getA hi hp)
      refine rd_gname ?_
      intro s H0 ps
      refine ⟨.ref D, rfl, ?_⟩
      walk_at "rd"
      have hv : valV ((rs.zip qs).map entR) (Sum.inl z) = some (.ref p) := valV_in (by rw [ent_keys lR]; exact inl_nodup nd) (List.mem_map.mpr ⟨(r, p), hz2, by rw [show entR (r, p) = (Sum.inl r.1, V.ref p) from rfl, e1]⟩)
      refine ⟨D, .ref p, rfl, ?_, ?_⟩
      · rw [← hv]
        exact DGet.k (k := .inl z) (sc _ _ eD10 trivial)
      refine use_yM wj (by rw [ei]; exact (List.getElem?_eq_some_iff.mp hr).1) ⟨sw, p, r, rfl, by rw [ei]; exact hr, g.sc sc⟩ fun J2 W' e' sS wW => ?_
      exact ⟨⟨_, _, rfl⟩, by omega, ⟨J2, wW, Same.refl _, fun _ => rfl⟩, sc.trans sS.2⟩
    · rintro W σ B1 ⟨⟨v5, v6, rfl⟩, ei, ⟨Hw, wj, sw, eq0⟩, sc⟩
      rw [List.length_map, lns] at ei eq0
      have np : 0 < l.length := by rw [← lns]; exact List.length_pos_iff.mpr nne
      rw [eq0 np]
      exact wj.f (by rw [ei]; exact Nat.le_refl _)
end
end Kx
namespace Kx
open PySem PySem.Spec PyProof.Rows L2 Hf
local macro_rules | `(tactic| walk_at "r1") => `(tactic| with_reducible first | refine RdC.pf ?_ | refine rd_bl ?_ | refine rd_blP ?_ | refine rd_par2 ?_)
local macro_rules | `(tactic| walk_at "rd") => `(tactic| repeat (first | walk_at "r1" | ((with_reducible refine' rd_var ?hh ?_); (case hh => exact rfl)) | ((with_reducible refine' rd_eq ?hh ?_); (case hh => exact rfl)) | ((with_reducible refine' rd_ne ?hh ?_); (case hh => exact rfl)) | ((with_reducible refine' rd_aug ?hh ?_); (case hh => exact rfl))))
local macro_rules | `(tactic| walk_at "pl") => `(tactic| repeat (first | walk_at "rd1" | (refine rd_fldK (by assumption) (PlC.cl (by assumption)) (by first | exact PlC.n1 (by assumption) | exact PlC.n2 (by assumption) | exact PlC.n3 (by assumption)) (by first | exact pl_slope | exact pl_offset | exact pl_odd) ?_)))
local macro_rules | `(tactic| walk_at "rd1") => `(tactic| first | walk_at "r1" | ((with_reducible refine' rd_var ?hh ?_); (case hh => exact rfl)) | ((with_reducible refine' rd_eq ?hh ?_); (case hh => exact rfl)) | ((with_reducible refine' rd_ne ?hh ?_); (case hh => exact rfl)) | ((with_reducible refine' rd_aug ?hh ?_); (case hh => exact rfl)))
local macro_rules | `(tactic| walk_at "lf") => `(tactic| first | assumption | (refine PlaceAt.same ?_ (by assumption); walk_at "lf") | (refine PlaceAt.keep ?_ (by assumption) (by assumption); walk_at "lf"))
local macro_rules | `(tactic| walk_at "lo") => `(tactic| first | assumption | (refine (by assumption : Same _ _) _ _ ?_; walk_at "lo") | (refine (by assumption : Keep _ _ _) _ _ ?_ (by assumption); walk_at "lo"))
local macro_rules | `(tactic| walk_at "sm") => `(tactic| first | assumption | exact Same.refl _ | exact same_tr (by assumption) (by walk_at "sm"))
local macro_rules | `(tactic| walk_at "hp") => `(tactic| first | assumption | ((with_reducible show (_ : Option HO) = some _); exact same_at (by assumption) (by walk_at "hp")) | ((with_reducible show PicG _ _ _ _ _ _); exact picg_at (by assumption) (by walk_at "hp")) | ((with_reducible show F2 _ _ _); exact tups_at (by assumption) (by walk_at "hp")) | ((with_reducible show Pen _ _ _ _); exact pen_at (by assumption) (by walk_at "hp")))
section
variable {P : Program} {w : World} {K : PySem.W.Frag} {mg : Str → Option Value} {base : Heap}
theorem ok_class_of {C CP CS : Addr} (T : Txt K mg) (c_is_whole : Cal P w K mg base 1 "is_whole" (spWhole K)) (C0 : SzC K mg C) (m_in : Met P w K mg base 2 C "__contains__" (spSzIn K C)) (Er_BadSize : Err P w K mg base "BadSize" CS ["part"]) (c_classes : Gz.CalG P w K mg base 7 "classes" (spCls CP C)) (D : DefAt K mg "class_of" s_class_of ["places", "size"]) : Cal P w K mg base 9 "class_of" (spClsOf K CP C CS) := by
  obtain ⟨f, fd, hm, F, b⟩ := D
  refine ⟨f, fnRX F b sc_class_of (fun vs H Q E h => ?_) (fun cdv A outer s H vs Q E hr tk h => ?_), hm, F.kp⟩
  · obtain ⟨a, as, P, v, rfl, ha, fP, hl, pb, h⟩ := h
    rfl
  · obtain ⟨a, as, P, v, rfl, ha, fP, hl, pb, h⟩ := h
    have hu := hu_of hr
    refine ⟨_, (pss_cons (ps_if (pw_or (pt_not (pt_val (pe_cl c_is_whole hr passL (pa_cons (pv 1) pa_nil)))) (pw_or1 (pt_cmpR op_lt (pv 1) pe_int (nomark _)))).pt (pss_one (ps_raE rfl tk (pmk_err Er_BadSize hr (pa_cons pe_str pa_nil)))) pss_nil)
  (pss_one (ps_ret (pe_ix ix_list (Gz.pe_lcG (own := [("one", 2)]) rfl sc_class_of.nd hr.depth (Gz.pgz_cl c_classes hr (pa_cons (pv 0) pa_nil)) (blkOk_by (own := [("one", 2)]) (N := ["places", "size", "one"]) (sc := defScope s_class_of) (by decide +kernel)) (by decide +kernel) (fun _ _ _ _ _ => (pg_name (i := 2) sc_class_of.nd rfl (Or.inl rfl))) (fun _ _ _ _ _ => (pts_one (pt_cmpR (op_inM m_in hr passL) (pv 1) (pv 2) (by with_unfolding_all rfl)))) (fun _ _ _ _ _ => (pv 2))) pe_int (fun _ _ => rfl))))), ?_⟩
    try dsimp only [cxOf, Cx.nox, Cx.wish, List.map]
    walk_at "rd"
    rcases h with ⟨hb, kE⟩ | ⟨n, rfl, n1, k⟩
    · rcases hb with hw | ⟨i, rfl, hi⟩
      · refine wh_not hw ?_
        walk_at "rd"
        refine iteT ?_
        refine iteT ?_
        walk_at "rd"
        exact use_err rfl (by decide) kE
      · refine wh_int ?_
        walk_at "rd"
        refine iteF ?_
        walk_at "rd"
        refine ite_yes (decide_eq_true hi) ?_
        walk_at "rd"
        exact use_err rfl (by decide) kE
    refine wh_int ?_
    walk_at "rd"
    refine iteF ?_
    walk_at "rd"
    refine ite_no (decide_eq_false (by omega)) ?_
    walk_at "rd"
    refine ⟨a, as, P, rfl, .inl ha, fP, hl, pb, fun l IC ll => ?_⟩
    refine lc_C (fun D i Hy H' => ∃ ps : List Addr, H' D = some (.lst (ps.map V.ref)) ∧ F2 (SzR C H') ps ((l.take i).filter fun r => szIn r.1 r.2 n) ∧ Same H H' ∧ clsS i Hy H') (fun D hD => ⟨[], upd_same, by rw [List.take_zero]; exact .nil, Same.new hD, fun _ => Same.new hD, SC.of (Same.new hD)⟩) (fun D i Hy H' _ z => z.choose_spec.2.2.2) ?_ ?_
    · rintro D i Hy x A1 A2 hD hi ⟨ps, eD, fS, sA, _⟩ ⟨s2, p, r, rfl, hr, g⟩
      have eD2 := s2 _ _ eD
      have lps := fS.len
      refine rd_gname ?_
      refine ⟨rfl, ?_⟩
      walk_at "rd"
      refine use_szN (g : SzAt C A2 p r.1 r.2) (IC.hs r (List.mem_of_getElem? hr)) ?_
      rw [Bool.bne_false]
      refine ⟨_, rfl, ?_⟩
      have llt : ((l.take i).filter fun r => szIn r.1 r.2 n).length ≤ 20000 := Nat.le_trans (List.length_filter_le _ _) (by rw [List.length_take]; omega)
      by_cases hin : szIn r.1 r.2 n = true
      · rw [hin]
        refine iteT ?_
        walk_at "rd"
        refine ⟨_, eD2, by rw [List.length_map, lps]; exact Nat.lt_of_le_of_lt llt (by decide), ps ++ [p], by rw [List.map_append]; exact upd_same, ?_, fun b u e => ?_, fun z => absurd z (Nat.succ_ne_zero _), SC.put eD2⟩
        · rw [filter_take hr, if_pos hin]
          exact F2.append (F2.imp (fun a d h => SzR.put (SzR.same h s2) eD2) fS) (.cons (SzR.put g eD2) .nil)
        · rw [upd_ne (fun q => by rw [q, hD] at e; cases e)]
          exact (sA.trans s2) b u e
      · rw [Bool.not_eq_true] at hin
        rw [hin]
        refine iteF ?_
        refine ⟨ps, eD2, ?_, sA.trans s2, fun z => absurd z (Nat.succ_ne_zero _), fun _ _ e _ => e⟩
        rw [filter_take hr, if_neg (by rw [hin]; decide), List.append_nil]
        exact F2.imp (fun a d h => SzR.same h s2) fS
    · rintro D Hy A1 hD ⟨ps, eD, fS, sA, _⟩
      rw [List.take_length] at fS
      obtain ⟨r0, hr0, hs0⟩ := IC.cover n1
      have lps := fS.len
      obtain ⟨r, hr⟩ : ∃ r, (l.filter fun r => szIn r.1 r.2 n)[0]? = some r := ⟨_, List.getElem?_eq_getElem (List.length_pos_of_mem (List.mem_filter.mpr ⟨hr0, hs0⟩))⟩
      obtain ⟨p, hp⟩ : ∃ p, ps[0]? = some p := ⟨_, List.getElem?_eq_getElem (by rw [lps]; exact (List.getElem?_eq_some_iff.mp hr).1)⟩
      obtain ⟨r', hr', g⟩ := F2.get fS hp
      rw [hr] at hr'
      cases hr'
      have hm := List.mem_filter.mp (List.mem_of_getElem? hr)
      walk_at "rd"
      refine use_ixL (SqL.of eD) (i := 0) (v := .ref p) (atI_nat (j := 0) (by rw [List.getElem?_map, hp]; rfl)) ?_
      exact k l IC p r A1 g hm.1 hm.2 sA
end
end Kx
namespace Kx
open PySem PySem.Spec PyProof.Rows L2 Hf
local macro_rules | `(tactic| walk_at "r1") => `(tactic| with_reducible first | refine RdC.pf ?_ | refine rd_bl ?_ | refine rd_blP ?_ | refine rd_par2 ?_)
local macro_rules | `(tactic| walk_at "rd") => `(tactic| repeat (first | walk_at "r1" | ((with_reducible refine' rd_var ?hh ?_); (case hh => exact rfl)) | ((with_reducible refine' rd_eq ?hh ?_); (case hh => exact rfl)) | ((with_reducible refine' rd_ne ?hh ?_); (case hh => exact rfl)) | ((with_reducible refine' rd_aug ?hh ?_); (case hh => exact rfl))))
local macro_rules | `(tactic| walk_at "pl") => `(tactic| repeat (first | walk_at "rd1" | (refine rd_fldK (by assumption) (PlC.cl (by assumption)) (by first | exact PlC.n1 (by assumption) | exact PlC.n2 (by assumption) | exact PlC.n3 (by assumption)) (by first | exact pl_slope | exact pl_offset | exact pl_odd) ?_)))
local macro_rules | `(tactic| walk_at "rd1") => `(tactic| first | walk_at "r1" | ((with_reducible refine' rd_var ?hh ?_); (case hh => exact rfl)) | ((with_reducible refine' rd_eq ?hh ?_); (case hh => exact rfl)) | ((with_reducible refine' rd_ne ?hh ?_); (case hh => exact rfl)) | ((with_reducible refine' rd_aug ?hh ?_); (case hh => exact rfl)))
local macro_rules | `(tactic| walk_at "lf") => `(tactic| first | assumption | (refine PlaceAt.same ?_ (by assumption); walk_at "lf") | (refine PlaceAt.keep ?_ (by assumption) (by assumption); walk_at "lf"))
local macro_rules | `(tactic| walk_at "lo") => `(tactic| first | assumption | (refine (by assumption : Same _ _) _ _ ?_; walk_at "lo") | (refine (by assumption : Keep _ _ _) _ _ ?_ (by assumption); walk_at "lo"))
local macro_rules | `(tactic| walk_at "sm") => `(tactic| first | assumption | exact Same.refl _ | exact same_tr (by assumption) (by walk_at "sm"))
local macro_rules | `(tactic| walk_at "hp") => `(tactic| first | assumption | ((with_reducible show (_ : Option HO) = some _); exact same_at (by assumption) (by walk_at "hp")) | ((with_reducible show PicG _ _ _ _ _ _); exact picg_at (by assumption) (by walk_at "hp")) | ((with_reducible show F2 _ _ _); exact tups_at (by assumption) (by walk_at "hp")) | ((with_reducible show Pen _ _ _ _); exact pen_at (by assumption) (by walk_at "hp")))
section
variable {P : Program} {w : World} {K : PySem.W.Frag} {mg : Str → Option Value} {base : Heap}
theorem ok_l_parts (T : Txt K mg) (c_l_draw : Cal P w K mg base 1 "_law_draw" spDraw) (D : DefAt K mg "_law_parts" s_l_parts ["_law_bag_here"]) : Cal P w K mg base 2 "_law_parts" spLParts10 := by
  obtain ⟨f, fd, hm, F, b⟩ := D
  refine ⟨f, fnR0 F b sc_l_parts (fun vs H Q E h => ?_) (fun cdv A outer s H vs Q E hr h => ?_), hm, F.kp⟩
  · obtain ⟨b, c, rfl, B, k⟩ := h
    rfl
  · obtain ⟨b, c, rfl, B, k⟩ := h
    have hu := hu_of hr
    refine ⟨_, (pss_cons (ps_par (i := 1) (j := 2) rfl sc_l_parts.nd rfl rfl (by decide) rfl rfl (pa_cons (pe_cl c_l_draw hr passL (pa_cons (pv 0) (pa_cons pe_int pa_nil))) (pa_cons (pe_cl c_l_draw hr passL (pa_cons (pv 0) (pa_cons pe_int pa_nil))) pa_nil)) rfl)
  (pss_cons (ps_if (pt_cmpR op_lt (pv 1) pe_int (nomark _)) (pss_one (ps_ret (pe_tup (pa_cons pe_int (pa_cons (pv 2) (pa_cons pe_int pa_nil)))))) pss_nil)
  (pss_cons (ps_if (pt_cmpR op_lt (pv 1) pe_int (nomark _)) (pss_one (ps_ret (pe_tup (pa_cons pe_int (pa_cons (pe_op op_sub pe_int (pv 2)) (pa_cons pe_int pa_nil)))))) pss_nil)
  (pss_one (ps_ret (pe_tup (pa_cons pe_int (pa_cons (pe_op op_sub (pv 2) pe_int) (pa_cons pe_int pa_nil))))))))), ?_⟩
    try dsimp only [cxOf, Cx.nox, Cx.wish, List.map]
    walk_at "rd"
    refine use_drawC (n := 7) B (by decide) (by decide) fun i H1 l1 u1 B1 k1 => ?_
    walk_at "rd"
    refine use_drawC (n := 4) B1 (by decide) (by decide) fun j H2 l2 u2 B2 k2 => ?_
    walk_at "rd"
    refine ite_split (fun _ => ?_) (fun _ => ?_)
    · walk_at "rd"
      refine new_tup (by show 3 ≤ 1000; decide) fun q H3 n3 e3 s3 => ?_
      exact k q (_, _, _) H3 e3 ⟨by show (0 : Int).natAbs ≤ 4; decide, by show j.natAbs ≤ 6; omega, by show (0 : Int).natAbs ≤ 1; decide⟩ (B2.same' s3) ((k1.trans k2).trans (Keep.of s3))
    walk_at "rd"
    refine ite_split (fun _ => ?_) (fun _ => ?_)
    · walk_at "rd"
      refine new_tup (by show 3 ≤ 1000; decide) fun q H3 n3 e3 s3 => ?_
      exact k q (_, _, _) H3 e3 ⟨by show (2 : Int).natAbs ≤ 4; decide, by show (0 - j).natAbs ≤ 6; omega, by show (1 : Int).natAbs ≤ 1; decide⟩ (B2.same' s3) ((k1.trans k2).trans (Keep.of s3))
    walk_at "rd"
    refine new_tup (by show 3 ≤ 1000; decide) fun q H3 n3 e3 s3 => ?_
    exact k q (_, _, _) H3 e3 ⟨by show (1 : Int).natAbs ≤ 4; decide, by show (j - 1).natAbs ≤ 6; omega, by show (0 : Int).natAbs ≤ 1; decide⟩ (B2.same' s3) ((k1.trans k2).trans (Keep.of s3))
theorem ok_l_at (T : Txt K mg) (D : DefAt K mg "_law_at" s_l_at ["_law_parts_here", "_law_wide"]) : Cal P w K mg base 1 "_law_at" spLAt10 := by
  obtain ⟨f, fd, hm, F, b⟩ := D
  refine ⟨f, fnR0 F b sc_l_at (fun vs H Q E h => ?_) (fun cdv A outer s H vs Q E hr h => ?_), hm, F.kp⟩
  · obtain ⟨q, t, n, rfl, ht, pb, n0, n9, k⟩ := h
    rfl
  · obtain ⟨q, t, n, rfl, ht, pb, n0, n9, k⟩ := h
    have hu := hu_of hr
    refine ⟨_, (pss_cons (ps_set (i := 2) sc_l_at.nd rfl (Or.inl rfl) (pe_op op_fdivW (pv 1) pe_int))
  (pss_one (ps_ret (pe_op op_add (pe_op op_add (pe_op op_mulW (pe_ix ix_tup (pv 0) pe_int (fun _ _ => rfl)) (pv 2)) (pe_ix ix_tup (pv 0) pe_int (fun _ _ => rfl))) (pe_op op_mulW (pe_ix ix_tup (pv 0) pe_int (fun _ _ => rfl)) (pe_op op_sub (pv 1) (pe_op op_mulW pe_int (pv 2)))))))), ?_⟩
    try dsimp only [cxOf, Cx.nox, Cx.wish, List.map]
    obtain ⟨p1, p2, p3⟩ := pb
    have q1 : Sm (n / 2) := ⟨by omega, by omega⟩
    walk_at "rd"
    refine rd_I (cDiv_sm (by decide) ⟨by decide, by decide⟩) ?_
    walk_at "rd"
    refine use_ixT (SqT.of ht) (i := 0) rfl ?_
    walk_at "rd"
    refine rd_I (cMul_sm ⟨by omega, by omega⟩ q1) ?_
    walk_at "rd"
    refine use_ixT (SqT.of ht) (i := 1) rfl ?_
    walk_at "rd"
    refine use_ixT (SqT.of ht) (i := 2) rfl ?_
    walk_at "rd"
    refine rd_I (cMul_sm ⟨by decide, by decide⟩ q1) ?_
    walk_at "rd"
    refine rd_I (cMul_sm ⟨by omega, by omega⟩ ⟨by omega, by omega⟩) ?_
    walk_at "rd"
    rw [show n - 2 * (n / 2) = n % 2 by omega]
    exact k
theorem ok_l_place (T : Txt K mg) {C CB : Addr} (M_Place : Mak P w K mg base 3 "Place" C (spPlX K C CB)) (D : DefAt K mg "_law_place" s_l_place ["_law_parts_here"]) : Cal P w K mg base 5 "_law_place" (spLPl10 C) := by
  obtain ⟨f, fd, hm, F, b⟩ := D
  refine ⟨f, fnR0 F b sc_l_place (fun vs H Q E h => ?_) (fun cdv A outer s H vs Q E hr h => ?_), hm, F.kp⟩
  · obtain ⟨q, t, rfl, ht, k⟩ := h
    rfl
  · obtain ⟨q, t, rfl, ht, k⟩ := h
    have hu := hu_of hr
    refine ⟨_, (pss_one (ps_ret (pe_ma M_Place hr passL (pa_cons (pe_ix ix_tup (pv 0) pe_int (fun _ _ => rfl)) (pa_cons (pe_ix ix_tup (pv 0) pe_int (fun _ _ => rfl)) (pa_cons (pe_ix ix_tup (pv 0) pe_int (fun _ _ => rfl)) pa_nil)))))), ?_⟩
    try dsimp only [cxOf, Cx.nox, Cx.wish, List.map]
    walk_at "rd"
    refine use_ixT (SqT.of ht) (i := 0) rfl ?_
    walk_at "rd"
    refine use_ixT (SqT.of ht) (i := 1) rfl ?_
    walk_at "rd"
    refine use_ixT (SqT.of ht) (i := 2) rfl ?_
    walk_at "rd"
    refine use_plX fun p H1 np g s1 => ?_
    exact k p H1 g s1
end
end Kx
namespace Kx
open PySem PySem.Spec PyProof.Rows L2 Hf
local macro_rules | `(tactic| walk_at "r1") => `(tactic| with_reducible first | refine RdC.pf ?_ | refine rd_bl ?_ | refine rd_blP ?_ | refine rd_par2 ?_)
local macro_rules | `(tactic| walk_at "rd") => `(tactic| repeat (first | walk_at "r1" | ((with_reducible refine' rd_var ?hh ?_); (case hh => exact rfl)) | ((with_reducible refine' rd_eq ?hh ?_); (case hh => exact rfl)) | ((with_reducible refine' rd_ne ?hh ?_); (case hh => exact rfl)) | ((with_reducible refine' rd_aug ?hh ?_); (case hh => exact rfl))))
local macro_rules | `(tactic| walk_at "pl") => `(tactic| repeat (first | walk_at "rd1" | (refine rd_fldK (by assumption) (PlC.cl (by assumption)) (by first | exact PlC.n1 (by assumption) | exact PlC.n2 (by assumption) | exact PlC.n3 (by assumption)) (by first | exact pl_slope | exact pl_offset | exact pl_odd) ?_)))
local macro_rules | `(tactic| walk_at "rd1") => `(tactic| first | walk_at "r1" | ((with_reducible refine' rd_var ?hh ?_); (case hh => exact rfl)) | ((with_reducible refine' rd_eq ?hh ?_); (case hh => exact rfl)) | ((with_reducible refine' rd_ne ?hh ?_); (case hh => exact rfl)) | ((with_reducible refine' rd_aug ?hh ?_); (case hh => exact rfl)))
local macro_rules | `(tactic| walk_at "lf") => `(tactic| first | assumption | (refine PlaceAt.same ?_ (by assumption); walk_at "lf") | (refine PlaceAt.keep ?_ (by assumption) (by assumption); walk_at "lf"))
local macro_rules | `(tactic| walk_at "lo") => `(tactic| first | assumption | (refine (by assumption : Same _ _) _ _ ?_; walk_at "lo") | (refine (by assumption : Keep _ _ _) _ _ ?_ (by assumption); walk_at "lo"))
local macro_rules | `(tactic| walk_at "sm") => `(tactic| first | assumption | exact Same.refl _ | exact same_tr (by assumption) (by walk_at "sm"))
local macro_rules | `(tactic| walk_at "hp") => `(tactic| first | assumption | ((with_reducible show (_ : Option HO) = some _); exact same_at (by assumption) (by walk_at "hp")) | ((with_reducible show PicG _ _ _ _ _ _); exact picg_at (by assumption) (by walk_at "hp")) | ((with_reducible show F2 _ _ _); exact tups_at (by assumption) (by walk_at "hp")) | ((with_reducible show Pen _ _ _ _); exact pen_at (by assumption) (by walk_at "hp")))
section
variable {P : Program} {w : World} {K : PySem.W.Frag} {mg : Str → Option Value} {base : Heap}
theorem ok_l_some (T : Txt K mg) (c_l_draw : Cal P w K mg base 1 "_law_draw" spDraw) (c_l_parts : Cal P w K mg base 2 "_law_parts" spLParts10) (D : DefAt K mg "_law_some" s_l_some ["_law_bag_here"]) : Cal P w K mg base 3 "_law_some" spLSome10 := by
  obtain ⟨f, fd, hm, F, b⟩ := D
  refine ⟨f, fnR0 F b sc_l_some (fun vs H Q E h => ?_) (fun cdv A outer s H vs Q E hr h => ?_), hm, F.kp⟩
  · obtain ⟨b, c, rfl, B, k⟩ := h
    rfl
  · obtain ⟨b, c, rfl, B, k⟩ := h
    have hu := hu_of hr
    refine ⟨_, (pss_cons (ps_set (i := 1) sc_l_some.nd rfl (Or.inl rfl) (pe_lst pa_nil))
  (pss_cons (ps_for PassesOwn.never rfl (pi_range1 rfl T.b_range (pa_cons (pe_cl c_l_draw hr passL (pa_cons (pv 0) (pa_cons pe_int pa_nil))) pa_nil)) (pg_name (i := 2) sc_l_some.nd rfl (Or.inl rfl))
  (pss_cons (ps_set (i := 3) sc_l_some.nd rfl (Or.inl rfl) (pe_cl c_l_parts hr passL (pa_cons (pv 0) pa_nil)))
  (pss_cons (ps_if (pt_cmpR op_eq (pe_cl c_l_draw hr passL (pa_cons (pv 0) (pa_cons pe_int pa_nil))) pe_int (nomark _)) (pss_one (ps_set (i := 3) sc_l_some.nd rfl (Or.inl rfl) (pe_tup (pa_cons (pe_op op_sub (pe_cl c_l_draw hr passL (pa_cons (pv 0) (pa_cons pe_int pa_nil))) pe_int) (pa_cons (pe_op op_sub (pe_cl c_l_draw hr passL (pa_cons (pv 0) (pa_cons pe_int pa_nil))) pe_int) (pa_cons (pe_op op_sub (pe_cl c_l_draw hr passL (pa_cons (pv 0) (pa_cons pe_int pa_nil))) pe_int) pa_nil)))))) pss_nil)
  (pss_cons (ps_if (pw_and (pt_cmpR (op_neD hr.units) (pv 1) (pe_lst pa_nil) (nomark _)) (pw_and1 (pt_cmpR op_eq (pe_cl c_l_draw hr passL (pa_cons (pv 0) (pa_cons pe_int pa_nil))) pe_int (nomark _)))).pt (pss_one (ps_set (i := 3) sc_l_some.nd rfl (Or.inl rfl) (pe_ix ix_list (pv 1) (pe_un un_neg pe_int) (fun _ _ => rfl)))) pss_nil)
  (pss_one (ps_expr (pe_bm PySem.F.plainAttrs_list PySem.F.slot_list_append PySem.F.type_list_append mt_append (pv 1) (pa_cons (pv 3) pa_nil))))))))
  (pss_one (ps_ret (pv 1))))), ?_⟩
    try dsimp only [cxOf, Cx.nox, Cx.wish, List.map]
    walk_at "rd"
    refine new_lst (by show 0 ≤ 1000; decide) fun l H1 n1 e1 s1 => ?_
    walk_at "rd"
    have nlb := (B.nes n1).1
    have nlc := (B.nes n1).2
    refine use_drawC (n := 6) (B.same' s1) (by decide) (by decide) fun m H2 m0 m5 B2 k2 => ?_
    walk_at "rd"
    refine ⟨m, rfl, by omega, by omega, for_range (n := m.toNat) (fun j σ H' => ∃ (v2 v3 : Option V) (ts : List Addr) (P : List P3), σ = [some (.ref b), some (.ref l), v2, v3] ∧ H' l = some (.lst (ts.map V.ref)) ∧ F2 (TAt H') ts P ∧ P.length ≤ j ∧ (∀ t ∈ P, Pl10 t) ∧ BagC H' b c ∧ Keep b H H') ⟨none, none, [], [], rfl, k2 _ _ e1 nlb, .nil, Nat.le_refl _, fun t h => (by cases h), B2, (Keep.of s1).trans k2⟩ ?_ ?_⟩
    · rintro j σ A1 hj ⟨v2, v3, ts, P, rfl, e2, fP, lP, pP, B3, K3⟩
      refine rd_gname ?_
      walk_at "rd"
      refine ⟨b, c, rfl, B3, fun q t A2 tq pq B4 K4 => ?_⟩
      have e3 := K4 _ _ e2 nlb
      have f3 := F2.imp (fun x t h => TAt.keep h B3 K4) fP
      have K5 := K3.trans K4
      clear e2 fP B3 K3 K4
      refine rd_gname ?_
      dsimp only
      refine rd_seq ?_
      dsimp only
      refine ts_cutN (fun σ' H' => ∃ (v2 : Option V) (q : Addr) (t : P3), σ' = [some (.ref b), some (.ref l), v2, some (.ref q)] ∧ TAt H' q t ∧ Pl10 t ∧ H' l = some (.lst (ts.map V.ref)) ∧ F2 (TAt H') ts P ∧ BagC H' b c ∧ Keep b H H') (fun N nx => ?_) ?_
      · walk_at "rd"
        refine use_drawC (n := 3) B4 (by decide) (by decide) fun i A3 i0 i1 B5 K6 => ?_
        walk_at "rd"
        refine ite_split (fun _ => ?_) (fun _ => ?_)
        · walk_at "rd"
          refine use_drawC (n := 6) B5 (by decide) (by decide) fun x1 A4 x0 x2 B6 K7 => ?_
          walk_at "rd"
          refine use_drawC (n := 13) B6 (by decide) (by decide) fun y1 A5 y0 y2 B7 K8 => ?_
          walk_at "rd"
          refine use_drawC (n := 3) B7 (by decide) (by decide) fun z1 A6 z0 z2 B8 K9 => ?_
          walk_at "rd"
          refine new_tup (by show 3 ≤ 1000; decide) fun q3 A7 n7 e7 s7 => ?_
          have KK := K6.trans (K7.trans (K8.trans K9))
          have e8 := s7 _ _ (KK _ _ e3 nlb)
          have f8 := F2.imp (fun x t h => TAt.same (TAt.keep h B4 KK) s7) f3
          exact nx _ _ ⟨_, q3, (x1 - 1, y1 - 6, z1 - 1), rfl, e7, ⟨by show (x1 - 1).natAbs ≤ 4; omega, by show (y1 - 6).natAbs ≤ 6; omega, by show (z1 - 1).natAbs ≤ 1; omega⟩, e8, f8, B8.same s7, K5.trans (KK.trans (Keep.of s7))⟩
        · walk_at "rd"
          exact nx _ _ ⟨_, q, t, rfl, TAt.keep tq B4 K6, pq, K6 _ _ e3 nlb, F2.imp (fun x t h => TAt.keep h B4 K6) f3, B5, K5.trans K6⟩
      · rintro σ A3 ⟨v2, q, t, rfl, tq, pq, e3, f3, B4, K5⟩
        walk_at "rd"
        refine new_lst (by show 0 ≤ 1000; decide) fun l0 A4 n4 e4 s4 => ?_
        have e5 := s4 _ _ e3
        have f5 := F2.imp (fun x t h => TAt.same h s4) f3
        have B5 := B4.same s4
        have K6 := K5.trans (Keep.of s4)
        refine use_neNilI e5 (fun x hx => ?_) e4 ?_
        · obtain ⟨y, hy, rfl⟩ := List.mem_map.mp hx
          obtain ⟨i, hi⟩ := List.getElem?_of_mem hy
          obtain ⟨u, _, hu⟩ := F2.get f5 hi
          exact ⟨_, .tup hu (intsP_atom u)⟩
        have tq5 := TAt.same tq s4
        clear e3 f3 B4 K5 tq
        by_cases hnil : ts.map V.ref = []
        · rw [decide_eq_true hnil]
          refine ⟨_, rfl, iteF ?_⟩
          refine iteF ?_
          walk_at "rd"
          refine is_lst e5 ?_
          walk_at "rd"
          refine ⟨l, _, _, rfl, rfl, e5, small1000 (by rw [List.length_map, (f5).len]; omega), ?_⟩
          exact ⟨_, _, ts ++ [q], P ++ [t], rfl, by rw [List.map_append]; exact upd_same, F2.append (F2.imp (fun x t h => TAt.putL h (e5)) f5) (.cons (TAt.putL tq5 (e5)) .nil), by rw [List.length_append]; exact Nat.succ_le_succ lP, fun u2 hu2 => (List.mem_append.mp hu2).elim (pP u2) (fun z => by rw [List.mem_singleton.mp z]; exact pq), B5.lay nlb nlc, fun a o ea ha => (upd_ne (fun z => by rw [z, n1] at ea; cases ea)).trans (K6 a o ea ha)⟩
        · rw [decide_eq_false hnil]
          refine ⟨_, rfl, iteT ?_⟩
          walk_at "rd"
          refine use_drawC (n := 4) B5 (by decide) (by decide) fun i A5 i0 i1 B6 K7 => ?_
          have e7 := K7 _ _ e5 nlb
          have f7 := F2.imp (fun x t h => TAt.keep h B5 K7) f5
          have tq7 := TAt.keep tq5 B5 K7
          have K8 := K6.trans K7
          walk_at "rd"
          refine ite_split (fun _ => ?_) (fun _ => ?_)
          · walk_at "rd"
            obtain ⟨ts0, x, hx⟩ : ∃ ts0 x, ts = ts0 ++ [x] := ⟨ts.dropLast, ts.getLast (fun z => hnil (by rw [z]; rfl)), (List.dropLast_concat_getLast _).symm⟩
            obtain ⟨u, hu, tu⟩ := F2.get f7 (show ts[ts0.length]? = some x by rw [hx, List.getElem?_append_right (Nat.le_refl _), Nat.sub_self]; rfl)
            refine use_ixL (SqL.of e7) (i := -1) (v := .ref x) (by rw [hx, List.map_append]; exact L2.atI_last _ _) ?_
            walk_at "rd"
            refine is_lst e7 ?_
            walk_at "rd"
            refine ⟨l, _, _, rfl, rfl, e7, small1000 (by rw [List.length_map, (f7).len]; omega), ?_⟩
            exact ⟨_, _, ts ++ [x], P ++ [u], rfl, by rw [List.map_append]; exact upd_same, F2.append (F2.imp (fun x t h => TAt.putL h (e7)) f7) (.cons (TAt.putL tu (e7)) .nil), by rw [List.length_append]; exact Nat.succ_le_succ lP, fun u2 hu2 => (List.mem_append.mp hu2).elim (pP u2) (fun z => by rw [List.mem_singleton.mp z]; exact pP u (List.mem_of_getElem? hu)), B6.lay nlb nlc, fun a o ea ha => (upd_ne (fun z => by rw [z, n1] at ea; cases ea)).trans (K8 a o ea ha)⟩
          · walk_at "rd"
            walk_at "rd"
            refine is_lst e7 ?_
            walk_at "rd"
            refine ⟨l, _, _, rfl, rfl, e7, small1000 (by rw [List.length_map, (f7).len]; omega), ?_⟩
            exact ⟨_, _, ts ++ [q], P ++ [t], rfl, by rw [List.map_append]; exact upd_same, F2.append (F2.imp (fun x t h => TAt.putL h (e7)) f7) (.cons (TAt.putL tq7 (e7)) .nil), by rw [List.length_append]; exact Nat.succ_le_succ lP, fun u2 hu2 => (List.mem_append.mp hu2).elim (pP u2) (fun z => by rw [List.mem_singleton.mp z]; exact pq), B6.lay nlb nlc, fun a o ea ha => (upd_ne (fun z => by rw [z, n1] at ea; cases ea)).trans (K8 a o ea ha)⟩
    · rintro σ A1 ⟨v2, v3, ts, P, rfl, e2, fP, lP, pP, B3, K3⟩
      walk_at "rd"
      exact k l ts P A1 e2 fP (by omega) pP B3 K3
end
end Kx
namespace Kx
open PySem PySem.Spec PyProof.Rows L2 Hf
local macro_rules | `(tactic| walk_at "r1") => `(tactic| with_reducible first | refine RdC.pf ?_ | refine rd_bl ?_ | refine rd_blP ?_ | refine rd_par2 ?_)
local macro_rules | `(tactic| walk_at "rd") => `(tactic| repeat (first | walk_at "r1" | ((with_reducible refine' rd_var ?hh ?_); (case hh => exact rfl)) | ((with_reducible refine' rd_eq ?hh ?_); (case hh => exact rfl)) | ((with_reducible refine' rd_ne ?hh ?_); (case hh => exact rfl)) | ((with_reducible refine' rd_aug ?hh ?_); (case hh => exact rfl))))
local macro_rules | `(tactic| walk_at "pl") => `(tactic| repeat (first | walk_at "rd1" | (refine rd_fldK (by assumption) (PlC.cl (by assumption)) (by first | exact PlC.n1 (by assumption) | exact PlC.n2 (by assumption) | exact PlC.n3 (by assumption)) (by first | exact pl_slope | exact pl_offset | exact pl_odd) ?_)))
local macro_rules | `(tactic| walk_at "rd1") => `(tactic| first | walk_at "r1" | ((with_reducible refine' rd_var ?hh ?_); (case hh => exact rfl)) | ((with_reducible refine' rd_eq ?hh ?_); (case hh => exact rfl)) | ((with_reducible refine' rd_ne ?hh ?_); (case hh => exact rfl)) | ((with_reducible refine' rd_aug ?hh ?_); (case hh => exact rfl)))
local macro_rules | `(tactic| walk_at "lf") => `(tactic| first | assumption | (refine PlaceAt.same ?_ (by assumption); walk_at "lf") | (refine PlaceAt.keep ?_ (by assumption) (by assumption); walk_at "lf"))
local macro_rules | `(tactic| walk_at "lo") => `(tactic| first | assumption | (refine (by assumption : Same _ _) _ _ ?_; walk_at "lo") | (refine (by assumption : Keep _ _ _) _ _ ?_ (by assumption); walk_at "lo"))
local macro_rules | `(tactic| walk_at "sm") => `(tactic| first | assumption | exact Same.refl _ | exact same_tr (by assumption) (by walk_at "sm"))
local macro_rules | `(tactic| walk_at "hp") => `(tactic| first | assumption | ((with_reducible show (_ : Option HO) = some _); exact same_at (by assumption) (by walk_at "hp")) | ((with_reducible show PicG _ _ _ _ _ _); exact picg_at (by assumption) (by walk_at "hp")) | ((with_reducible show F2 _ _ _); exact tups_at (by assumption) (by walk_at "hp")) | ((with_reducible show Pen _ _ _ _); exact pen_at (by assumption) (by walk_at "hp")))
section
variable {P : Program} {w : World} {K : PySem.W.Frag} {mg : Str → Option Value} {base : Heap}
theorem ok_l_signs (T : Txt K mg) (c_l_at : Cal P w K mg base 1 "_law_at" spLAt10) (D : DefAt K mg "_law_signs" s_l_signs ["_law_some_here", "_law_n"]) : Cal P w K mg base 2 "_law_signs" spLSigns := by
  obtain ⟨f, fd, hm, F, b⟩ := D
  refine ⟨f, fnR0 F b sc_l_signs (fun vs H Q E h => ?_) (fun cdv A outer s H vs Q E hr h => ?_), hm, F.kp⟩
  · obtain ⟨l, ts, P, n, rfl, hl, fP, lP, pb, n0, n9, k⟩ := h
    rfl
  · obtain ⟨l, ts, P, n, rfl, hl, fP, lP, pb, n0, n9, k⟩ := h
    have hu := hu_of hr
    refine ⟨_, (pss_cons (ps_set (i := 2) sc_l_signs.nd rfl (Or.inl rfl) (pe_lst pa_nil))
  (pss_cons (ps_for PassesOwn.never rfl (pi_list (pv 0)) (pg_name (i := 3) sc_l_signs.nd rfl (Or.inl rfl))
  (pss_cons (ps_set (i := 4) sc_l_signs.nd rfl (Or.inr rfl) (pe_cl c_l_at hr passL (pa_cons (pv 3) (pa_cons (pv 1) pa_nil))))
  (pss_one (ps_expr (pe_bm PySem.F.plainAttrs_list PySem.F.slot_list_append PySem.F.type_list_append mt_append (pv 2) (pa_cons (pe_lc (own := [("_law_other", 5)]) (by rfl) sc_l_signs.nd (pi_list (pv 0)) (blkOk_by (own := [("_law_other", 5)]) (N := ["_law_some_here", "_law_n", "_law_found", "_law_one", "_law_here", "_law_other"]) (sc := defScope s_l_signs) (by decide +kernel)) (fun _ _ _ _ _ => (pg_name (i := 5) sc_l_signs.nd rfl (Or.inl rfl))) (fun _ _ _ _ _ => pts_nil) (fun _ _ _ _ _ => (pe_op op_sub (pe_callTy call_int1 (by rfl) T.b_int (by decide +kernel) (pa_cons (pe_cmpR op_gt (pv 4) (pe_cl c_l_at hr passL (pa_cons (pv 5) (pa_cons (pv 1) pa_nil))) (nomark _)) pa_nil)) (pe_callTy call_int1 (by rfl) T.b_int (by decide +kernel) (pa_cons (pe_cmpR op_lt (pv 4) (pe_cl c_l_at hr passL (pa_cons (pv 5) (pa_cons (pv 1) pa_nil))) (nomark _)) pa_nil))))) pa_nil))))))
  (pss_one (ps_ret (pv 2))))), ?_⟩
    try dsimp only [cxOf, Cx.nox, Cx.wish, List.map]
    walk_at "rd"
    refine new_lst (by show 0 ≤ 1000; decide) fun g H1 n1 e1 s1 => ?_
    walk_at "rd"
    have gl : g ≠ l := ne_of_none' n1 hl
    refine ⟨l, rfl, ⟨_, SqL.of (s1 _ _ hl)⟩, for_list (K := K) (a := l) (xs := ts.map V.ref) (fun j σ H' => ∃ (v3 v4 v5 : Option V) (ls : List Addr), σ = [some (.ref l), some (.int n), some (.ref g), v3, v4, v5] ∧ H' g = some (.lst (ls.map V.ref)) ∧ F2 (fun a r => H' a = some (.lst (r.map V.int)) ∧ a ≠ g) ls ((sgM P n).take j) ∧ Same H H') ⟨none, none, none, [], rfl, e1, by rw [List.take_zero]; exact .nil, s1⟩ ?_ ?_ ?_⟩
    · rintro j σ A1 _ ⟨_, _, _, _, _, _, _, s⟩
      exact SqL.of (s _ _ hl)
    · rintro j xv σ A1 hv ⟨v3, v4, v5, ls, rfl, eg, fg, sA⟩
      obtain ⟨x, hx, rfl⟩ := map_get hv
      obtain ⟨t, ht, tx⟩ := F2.get fP hx
      have tx1 := TAt.same tx sA
      refine rd_gname ?_
      walk_at "rd"
      refine ⟨x, t, n, rfl, tx1, pb t (List.mem_of_getElem? ht), n0, n9, ?_⟩
      walk_at "rd"
      refine is_lst eg ?_
      walk_at "rd"
      refine ⟨l, rfl, ⟨_, SqL.of (sA _ _ hl)⟩, ?_⟩
      refine lc_mapW (walk_list (K := K) (a := l) (xs := ts.map V.ref)) (fun i => .int ((P.map fun b => sgI (atP t n) (atP b n)).getD i 0)) (fun H' s => SqL.of (s _ _ (sA _ _ hl))) (by rw [List.length_map, fP.len]; omega) (fun i y B1 B2 R hi sB yy r1 => ?_) (fun D B1 nD eD sD => ?_)
      · obtain ⟨rfl, hy⟩ := yy
        obtain ⟨z, hz, rfl⟩ := map_get hy
        obtain ⟨u, hu, tu⟩ := F2.get fP hz
        have tu1 := TAt.same tu (sA.trans sB)
        rw [show (P.map fun b => sgI (atP t n) (atP b n)).getD i 0 = sgI (atP t n) (atP u n) from by rw [List.getD_eq_getElem?_getD, List.getElem?_map, hu]; rfl] at r1
        refine rd_gname ?_
        refine ⟨rfl, ?_⟩
        walk_at "rd"
        refine ⟨z, u, n, rfl, tu1, pb u (List.mem_of_getElem? hu), n0, n9, ?_⟩
        walk_at "rd"
        refine .inr ⟨_, rfl, ?_⟩
        walk_at "rd"
        refine ⟨z, u, n, rfl, tu1, pb u (List.mem_of_getElem? hu), n0, n9, ?_⟩
        walk_at "rd"
        refine .inr ⟨_, rfl, ?_⟩
        walk_at "rd"
        have e : sgI (atP t n) (atP u n) = (if decide (atP u n < atP t n) = true then 1 else 0) - (if decide (atP t n < atP u n) = true then 1 else 0) := by
          unfold sgI
          by_cases a : atP u n < atP t n <;> by_cases b : atP t n < atP u n <;> simp [a, b]
        rw [e] at r1
        exact r1 _ (Same.refl _)
      rw [List.length_map, fP.len, ← List.length_map (f := fun b => sgI (atP t n) (atP b n)), range_getD (fun z => V.int z) 0] at eD
      have eg2 := sD _ _ eg
      have Dg : D ≠ g := ne_of_none' nD eg
      have lls : (ls.map V.ref).length ≤ 1000 := by
        have : (sgM P n).length ≤ 5 := by unfold sgM; rw [List.length_map]; exact lP
        rw [List.length_map, fg.len, List.length_take]
        omega
      walk_at "rd"
      refine ⟨g, _, _, rfl, rfl, eg2, small1000 lls, ?_⟩
      refine ⟨_, _, _, ls ++ [D], rfl, by rw [List.map_append]; exact upd_same, ?_, fun b u e => (upd_ne (fun z => by rw [z, n1] at e; cases e)).trans ((sA.trans sD) b u e)⟩
      have hr : (sgM P n)[j]? = some (P.map fun b => sgI (atP t n) (atP b n)) := by unfold sgM; rw [List.getElem?_map, ht]; rfl
      rw [List.take_add_one, hr]
      exact F2.append (F2.imp (fun a r h => ⟨(upd_ne h.2).trans (sD _ _ h.1), h.2⟩) fg) (.cons ⟨(upd_ne Dg).trans eD, Dg⟩ .nil)
    · rintro σ A1 ⟨v3, v4, v5, ls, rfl, eg, fg, sA⟩
      rw [List.length_map, fP.len, show (sgM P n).take P.length = sgM P n from List.take_of_length_le (by unfold sgM; rw [List.length_map]; exact Nat.le_refl _)] at fg
      walk_at "rd"
      exact k g A1 ⟨ls, eg, F2.imp (fun a r h => h.1) fg⟩ sA
end
end Kx
namespace Kx
open PySem PySem.Spec PyProof.Rows L2 Hf
local macro_rules | `(tactic| walk_at "r1") => `(tactic| with_reducible first | refine RdC.pf ?_ | refine rd_bl ?_ | refine rd_blP ?_ | refine rd_par2 ?_)
local macro_rules | `(tactic| walk_at "rd") => `(tactic| repeat (first | walk_at "r1" | ((with_reducible refine' rd_var ?hh ?_); (case hh => exact rfl)) | ((with_reducible refine' rd_eq ?hh ?_); (case hh => exact rfl)) | ((with_reducible refine' rd_ne ?hh ?_); (case hh => exact rfl)) | ((with_reducible refine' rd_aug ?hh ?_); (case hh => exact rfl))))
local macro_rules | `(tactic| walk_at "pl") => `(tactic| repeat (first | walk_at "rd1" | (refine rd_fldK (by assumption) (PlC.cl (by assumption)) (by first | exact PlC.n1 (by assumption) | exact PlC.n2 (by assumption) | exact PlC.n3 (by assumption)) (by first | exact pl_slope | exact pl_offset | exact pl_odd) ?_)))
local macro_rules | `(tactic| walk_at "rd1") => `(tactic| first | walk_at "r1" | ((with_reducible refine' rd_var ?hh ?_); (case hh => exact rfl)) | ((with_reducible refine' rd_eq ?hh ?_); (case hh => exact rfl)) | ((with_reducible refine' rd_ne ?hh ?_); (case hh => exact rfl)) | ((with_reducible refine' rd_aug ?hh ?_); (case hh => exact rfl)))
local macro_rules | `(tactic| walk_at "lf") => `(tactic| first | assumption | (refine PlaceAt.same ?_ (by assumption); walk_at "lf") | (refine PlaceAt.keep ?_ (by assumption) (by assumption); walk_at "lf"))
local macro_rules | `(tactic| walk_at "lo") => `(tactic| first | assumption | (refine (by assumption : Same _ _) _ _ ?_; walk_at "lo") | (refine (by assumption : Keep _ _ _) _ _ ?_ (by assumption); walk_at "lo"))
local macro_rules | `(tactic| walk_at "sm") => `(tactic| first | assumption | exact Same.refl _ | exact same_tr (by assumption) (by walk_at "sm"))
local macro_rules | `(tactic| walk_at "hp") => `(tactic| first | assumption | ((with_reducible show (_ : Option HO) = some _); exact same_at (by assumption) (by walk_at "hp")) | ((with_reducible show PicG _ _ _ _ _ _); exact picg_at (by assumption) (by walk_at "hp")) | ((with_reducible show F2 _ _ _); exact tups_at (by assumption) (by walk_at "hp")) | ((with_reducible show Pen _ _ _ _); exact pen_at (by assumption) (by walk_at "hp")))
section
variable {P : Program} {w : World} {K : PySem.W.Frag} {mg : Str → Option Value} {base : Heap}
theorem ok_l_due (T : Txt K mg) (c_l_signs : Cal P w K mg base 2 "_law_signs" spLSigns) (D : DefAt K mg "_law_due" s_l_due ["_law_some_here"]) : Cal P w K mg base 3 "_law_due" spLDue10 := by
  obtain ⟨f, fd, hm, F, b⟩ := D
  refine ⟨f, fnR0 F b sc_l_due (fun vs H Q E h => ?_) (fun cdv A outer s H vs Q E hr h => ?_), hm, F.kp⟩
  · obtain ⟨l, ts, P, rfl, hl, fP, lP, pb, k⟩ := h
    rfl
  · obtain ⟨l, ts, P, rfl, hl, fP, lP, pb, k⟩ := h
    have hu := hu_of hr
    refine ⟨_, (pss_cons (ps_set (i := 1) sc_l_due.nd rfl (Or.inr rfl) pe_dnewK)
  (pss_cons (ps_for PassesOwn.never rfl (pi_list (pe_lst (pa_cons pe_int (pa_cons pe_int pa_nil)))) (pg_name (i := 2) sc_l_due.nd rfl (Or.inl rfl))
  (pss_cons (ps_set (i := 3) sc_l_due.nd rfl (Or.inl rfl) (pv 2))
  (pss_cons (ps_for PassesOwn.never rfl (pi_range3 rfl T.b_range (pa_cons (pe_op op_add (pv 2) pe_int) (pa_cons pe_int (pa_cons pe_int pa_nil)))) (pg_name (i := 4) sc_l_due.nd rfl (Or.inl rfl))
  (pss_one (ps_if (pt_cmpR (op_neD hr.units) (pe_cl c_l_signs hr passL (pa_cons (pv 0) (pa_cons (pv 4) pa_nil))) (pe_cl c_l_signs hr passL (pa_cons (pv 0) (pa_cons (pe_op op_sub (pv 4) pe_int) pa_nil))) (nomark _)) (pss_cons (ps_dput hu (pv 1) (pv 3) (pe_op op_sub (pv 4) pe_int) rfl)
  (pss_one (ps_set (i := 3) sc_l_due.nd rfl (Or.inl rfl) (pv 4)))) pss_nil)))
  (pss_one (ps_dput hu (pv 1) (pv 3) pe_non rfl)))))
  (pss_one (ps_ret (pe_lc (own := [("_law_low", 3)]) (by rfl) sc_l_due.nd (pi_list (pe_callB cr_sortedI (by rfl) T.b_sorted (by decide +kernel) (pa_cons (pe_lock (pe_lc (own := [("_law_one", 5)]) (by rfl) sc_l_due.nd (pi_keys (pv 1)) (blkOk_by (own := [("_law_one", 5)]) (N := ["_law_some_here", "_law_rows", "_law_first", "_law_low", "_law_n", "_law_one"]) (sc := defScope s_l_due) (by decide +kernel)) (fun _ _ _ _ _ => (pg_name (i := 5) sc_l_due.nd rfl (Or.inl rfl))) (fun _ _ _ _ _ => pts_nil) (fun _ _ _ _ _ => (pe_callTy call_int1 (by rfl) T.b_int (by decide +kernel) (pa_cons (pv 5) pa_nil))))) pa_nil))) (blkOk_by (own := [("_law_low", 3)]) (N := ["_law_some_here", "_law_rows", "_law_first", "_law_low", "_law_n", "_law_one"]) (sc := defScope s_l_due) (by decide +kernel)) (fun _ _ _ _ _ => (pg_name (i := 3) sc_l_due.nd rfl (Or.inl rfl))) (fun _ _ _ _ _ => pts_nil) (fun _ _ _ _ _ => (pe_tup (pa_cons (pv 3) (pa_cons (pe_dget hu (pv 1) (pv 3) (fun _ _ => rfl)) pa_nil))))))))), ?_⟩
    try dsimp only [cxOf, Cx.nox, Cx.wish, List.map]
    walk_at "rd"
    refine new_dict fun d H1 nd ed s1 => ?_
    have mutS : ∀ {H' : Hp} {o : HO}, Same H H' → Same H (upd H' d o) := fun s b u e => by
      rw [upd_ne (fun q => by rw [q, nd] at e; cases e)]
      exact s b u e
    walk_at "rd"
    refine new_lst (by show 2 ≤ 1000; decide) fun l2 H2 n2 e2 s2 => ?_
    have l2d : l2 ≠ d := ne_of_none' n2 ed
    refine ⟨l2, rfl, ⟨_, SqL.of e2⟩, for_list (K := K) (a := l2) (xs := [V.int 1, V.int 2]) (fun j σ H' => ∃ (v2 v3 v4 v5 : Option V) (R : List (Int × V)), σ = [some (.ref l), some (.ref d), v2, v3, v4, v5] ∧ H' d = some (.dK (R.map entV)) ∧ Same H H' ∧ H' l2 = some (.lst [V.int 1, V.int 2]) ∧ R.length ≤ 45 * j ∧ (j = 0 → R = []) ∧ (j = 1 → ∃ lo, LawLows P 1 44 lo ∧ R = rowsOf lo) ∧ (j = 2 → ∃ lo le, LawLows P 1 44 lo ∧ LawLows P 2 44 le ∧ R = rowsOf lo ++ rowsOf le)) ⟨none, none, none, none, [], rfl, s2 _ _ ed, s1.trans s2, e2, Nat.le_refl _, fun _ => rfl, fun z => (by cases z), fun z => (by cases z)⟩ ?_ ?_ ?_⟩
    · rintro j σ A1 _ ⟨_, _, _, _, _, _, _, _, e, _⟩
      exact SqL.of e
    · rintro j xv σ A1 hv ⟨v2, v3, v4, v5, R0, rfl, e3, sA, eL, lR, r0, r1, _⟩
      obtain ⟨rfl, j2, hR⟩ : xv = .int ((j : Int) + 1) ∧ j < 2 ∧ ∀ r ∈ R0, r.1 % 2 ≠ ((j : Int) + 1) % 2 := by
        match j, hv with
        | 0, hv =>
          cases hv
          exact ⟨rfl, by decide, fun r hr => by rw [r0 rfl] at hr; cases hr⟩
        | 1, hv =>
          cases hv
          refine ⟨rfl, by decide, fun r hr => ?_⟩
          obtain ⟨lo, hlo, rfl⟩ := r1 rfl
          have h1 : r.1 ∈ lo := by rw [← rowsOf_fst lo]; exact List.mem_map.mpr ⟨r, hr, rfl⟩
          have := (hlo.le _ h1).2.2
          show r.1 % 2 ≠ (1 + 1 : Int) % 2
          omega
      generalize hf : (j : Int) + 1 = f at *
      have f1 : 1 ≤ f := by omega
      have f2 : f ≤ 2 := by omega
      refine rd_gname ?_
      walk_at "rd"
      refine rd_iRng3 ?_
      walk_at "rd"
      refine ⟨_, _, _, _, rfl, rgc_any (by omega) (by omega) (by omega) (by omega), ?_⟩
      rw [show ((91 - (f + 2) + 1) / 2).toNat = 44 by omega]
      refine for_rangeC (lo := f + 2) (c := 2) (n := 44) (fun i σ H' => ∃ (v4 v5 : Option V) (ls : List Int) (low : Int) (cl : List (Int × V)), σ = [some (.ref l), some (.ref d), some (.int f), some (.int low), v4, v5] ∧ H' d = some (.dK ((R0 ++ cl).map entV)) ∧ Opn ls low cl ∧ LawLows P f i (ls ++ [low]) ∧ cl.length ≤ i ∧ Same H H' ∧ H' l2 = some (.lst [V.int 1, V.int 2])) ⟨v4, v5, [], f, [], rfl, by rw [List.append_nil]; exact e3, .one, .one, Nat.le_refl _, sA, eL⟩ ?_ ?_
      · rintro i σ A2 hi ⟨v4, v5, ls, low, cl, rfl, e4, O, W, lc, sB, eL2⟩
        rw [show f + 2 + ((i : Nat) : Int) * 2 = f + 2 + 2 * (i : Int) by omega]
        generalize hn : f + 2 + 2 * (i : Int) = n at *
        refine rd_gname ?_
        walk_at "rd"
        refine ⟨l, ts, P, n, rfl, sB _ _ hl, F2.imp (fun x t h => TAt.same h sB) fP, lP, pb, by omega, by omega, fun m1 A3 M1 s3 => ?_⟩
        walk_at "rd"
        refine ⟨l, ts, P, n - 2, rfl, (sB.trans s3) _ _ hl, F2.imp (fun x t h => TAt.same h (sB.trans s3)) fP, lP, pb, by omega, by omega, fun m2 A4 M2 s4 => ?_⟩
        refine use_neM (M1.same s4) M2 ?_
        have sB4 := sB.trans (s3.trans s4)
        have e5 := (s3.trans s4) _ _ e4
        have eL5 := (s3.trans s4) _ _ eL2
        by_cases hc : sgM P n = sgM P (n - 2)
        · rw [decide_eq_true hc]
          refine ⟨_, rfl, iteF ?_⟩
          walk_at "rd"
          exact ⟨_, _, ls, low, cl, rfl, e5, O, W.no (by rw [hn]; exact hc), by omega, sB4, eL5⟩
        · rw [decide_eq_false hc]
          refine ⟨_, rfl, iteT ?_⟩
          walk_at "rd"
          have fresh : ∀ kv ∈ (R0 ++ cl).map entV, kv.1 ≠ Sum.inl low := fun kv hkv e => by
            obtain ⟨r, hr, rfl⟩ := List.mem_map.mp hkv
            have e : r.1 = low := by injection e
            rcases List.mem_append.mp hr with h | h
            · have a := hR r h
              have b := (W.le low (List.mem_append_right _ List.mem_cons_self)).2.2
              rw [e] at a
              exact a b
            · have a : r.1 ∈ ls := by rw [← O.fst]; exact List.mem_map.mpr ⟨r, h, rfl⟩
              have b := (List.pairwise_append.mp W.up).2.2 r.1 a low List.mem_cons_self
              omega
          refine ⟨d, _, rfl, DPut.k (k := .inl low) e5 (small1000 (by rw [List.length_map, List.length_append]; omega)), ?_⟩
          rw [putK_new fresh]
          walk_at "rd"
          refine ⟨_, _, ls ++ [low], n, cl ++ [(low, .int (n - 2))], rfl, upd_same.trans (by rw [← List.append_assoc, List.map_append (l₁ := R0 ++ cl)]; rfl), O.step, ?_, by rw [List.length_append]; exact Nat.succ_le_succ lc, mutS sB4, (upd_ne l2d).trans eL5⟩
          have := W.yes (by rw [hn]; exact hc)
          rw [hn] at this
          exact this
      · rintro σ A2 ⟨v4, v5, ls, low, cl, rfl, e4, O, W, lc, sB, eL2⟩
        walk_at "rd"
        have fresh : ∀ kv ∈ (R0 ++ cl).map entV, kv.1 ≠ Sum.inl low := fun kv hkv e => by
          obtain ⟨r, hr, rfl⟩ := List.mem_map.mp hkv
          have e : r.1 = low := by injection e
          rcases List.mem_append.mp hr with h | h
          · have a := hR r h
            have b := (W.le low (List.mem_append_right _ List.mem_cons_self)).2.2
            rw [e] at a
            exact a b
          · have a : r.1 ∈ ls := by rw [← O.fst]; exact List.mem_map.mpr ⟨r, h, rfl⟩
            have b := (List.pairwise_append.mp W.up).2.2 r.1 a low List.mem_cons_self
            omega
        refine ⟨d, _, rfl, DPut.k (k := .inl low) e4 (small1000 (by rw [List.length_map, List.length_append]; omega)), ?_⟩
        rw [putK_new fresh]
        have eR : (R0 ++ cl).map entV ++ [(Sum.inl low, V.non)] = (R0 ++ rowsOf (ls ++ [low])).map entV := by
          rw [O.e, ← List.append_assoc, List.map_append (l₁ := R0 ++ cl)]
          rfl
        rw [eR]
        refine ⟨_, _, _, _, R0 ++ rowsOf (ls ++ [low]), rfl, upd_same, mutS sB, (upd_ne l2d).trans eL2, ?_, fun z => absurd z (Nat.succ_ne_zero _), fun z => ?_, fun z => ?_⟩
        · rw [O.e, List.length_append, List.length_append, List.length_singleton]
          omega
        · have j0 : j = 0 := Nat.succ.inj z
          rw [r0 j0]
          have : f = 1 := by omega
          subst this
          exact ⟨_, W, rfl⟩
        · have j1 : j = 1 := Nat.succ.inj z
          obtain ⟨lo, hlo, e⟩ := r1 j1
          have : f = 2 := by omega
          subst this
          exact ⟨lo, _, hlo, W, by rw [e]⟩
    · rintro σ A1 ⟨v2, v3, v4, v5, R, rfl, e3, sA, eL, lR, _, _, r2⟩
      obtain ⟨lo, le, W1, W2, hR⟩ := r2 rfl
      have I1 : IsLows P 1 lo := LawLows.is pb (.inr rfl) W1
      have I0 : IsLows P 0 le := LawLows.is pb (.inl rfl) W2
      have efst : R.map (·.1) = lo ++ le := by rw [hR, List.map_append, rowsOf_fst, rowsOf_fst]
      have KK : KsA (R.map entV) (lo ++ le) := by
        show (R.map entV).map (·.1) = (lo ++ le).map Sum.inl
        rw [← efst, List.map_map, List.map_map]
        rfl
      have lR2 : R.length ≤ 90 := lR
      have lk : (lo ++ le).length = R.length := by rw [← efst, List.length_map]
      walk_at "rd"
      refine rd_lockE e3 trivial fun od => ?_
      walk_at "rd"
      refine ⟨d, od, rfl, .inl ⟨_, upd_same, ?_⟩⟩
      refine lc_mapW (walk_keys (d := d) (o := od) (kvs := R.map entV)) (fun j => .int ((lo ++ le).getD j 0)) (fun H' s => s _ _ upd_same) (by rw [List.length_map]; omega) (fun j x H5 H6 R' hj s5 y r1 => ?_) (fun D5 H5 nD5 eD5 s5 => ?_)
      · obtain ⟨rfl, kk, v, hkv, rfl⟩ := y
        have hk : ((R.map entV).map (·.1))[j]? = some kk := by rw [List.getElem?_map, hkv]; rfl
        rw [KK] at hk
        obtain ⟨z, hz, rfl⟩ := map_get hk
        rw [show (lo ++ le).getD j 0 = z from by rw [List.getD_eq_getElem?_getD, hz]; rfl] at r1
        refine rd_gname ?_
        refine ⟨rfl, ?_⟩
        walk_at "rd"
        exact .inl ⟨_, rfl, r1 _ (Same.refl _)⟩
      rw [List.length_map, ← lk, range_getD (fun z => V.int z) 0 (lo ++ le)] at eD5
      have ef5 := s5 _ _ upd_same
      refine ⟨ef5, ?_⟩
      have Dd : D5 ≠ d := fun z => by rw [z, upd_same] at nD5; cases nD5
      have s6 : Same H (upd H5 d (.dK (R.map entV))) := lock_same sA nd s5
      have e6 : upd H5 d (.dK (R.map entV)) d = some (.dK (R.map entV)) := upd_same
      have eD6 := (upd_ne Dd (H := H5) (o := .dK (R.map entV))).trans eD5
      generalize upd H5 d _ = H6 at *
      walk_at "rd"
      refine ⟨D5, lo ++ le, rfl, SqL.of eD6, fun ns q pm pw nq => ?_⟩
      have s7 := Same.new (o := .lst (ns.map V.int)) nq
      have e7 := upd_same (H := H6) (a := q) (o := .lst (ns.map V.int))
      generalize upd H6 q _ = H7 at *
      have ndk := lows_nd I1 I0
      have up := sorted_lt pm pw ndk
      have ln : ns.length = R.length := by rw [pm.length_eq, lk]
      have hval : ∀ r ∈ R, valV (R.map entV) (Sum.inl r.1) = some r.2 := fun r hr => valV_in (by rw [show (R.map entV).map (·.1) = (lo ++ le).map Sum.inl from KK]; exact inl_nodup ndk) (List.mem_map.mpr ⟨r, hr, rfl⟩)
      have hkey : ∀ z ∈ ns, ∃ r ∈ R, r.1 = z := fun z hz => by
        have := pm.mem_iff.mp hz
        rw [← efst] at this
        obtain ⟨r, hr, e⟩ := List.mem_map.mp this
        exact ⟨r, hr, e⟩
      have IC : IsCls P (ns.map fun z => (z, (valV (R.map entV) (Sum.inl z)).getD .non)) := by
        refine ⟨by rw [List.pairwise_map]; exact up, lo, le, I1, I0, fun r => ?_⟩
        rw [List.mem_map, ← List.mem_append, ← hR]
        constructor
        · rintro ⟨z, hz, rfl⟩
          obtain ⟨r, hr, rfl⟩ := hkey z hz
          rw [hval r hr]
          exact hr
        · intro hr
          refine ⟨r.1, pm.mem_iff.mpr (by rw [← efst]; exact List.mem_map.mpr ⟨r, hr, rfl⟩), ?_⟩
          rw [hval r hr]
          rfl
      generalize hrl : ns.map (fun z => (z, (valV (R.map entV) (Sum.inl z)).getD V.non)) = rl at IC
      have lrl : rl.length = ns.length := by rw [← hrl, List.length_map]
      walk_at "rd"
      refine ⟨q, rfl, ⟨_, SqL.of e7⟩, ?_⟩
      have e8 := s7 _ _ e6
      intro D hD
      refine lc_it (walk_list (K := K) (a := q) (xs := ns.map V.int)) (fun j H' => ∃ qs : List Addr, H' D = some (.lst (qs.map V.ref)) ∧ F2 (RowA H') qs (rl.take j) ∧ Same H7 H') ⟨[], upd_same, by rw [List.take_zero]; exact .nil, Same.new hD⟩ (fun j H' _ z => SqL.of (z.choose_spec.2.2 _ _ e7)) ?_ ?_
      · rintro j x H8 H9 hj ⟨qs, eD, fR, s9⟩ ⟨rfl, hx⟩
        obtain ⟨z, hz, rfl⟩ := map_get hx
        obtain ⟨r, hr, rfl⟩ := hkey z (List.mem_of_getElem? hz)
        have hrr : rl[j]? = some r := by rw [← hrl, List.getElem?_map, hz]; show some (r.1, _) = _; rw [hval r hr]; rfl
        refine rd_gname ?_
        refine ⟨rfl, ?_⟩
        walk_at "rd"
        refine iteT ?_
        walk_at "rd"
        refine ⟨d, r.2, rfl, ?_, ?_⟩
        · rw [← hval r hr]
          exact DGet.k (k := .inl r.1) (s9 _ _ e8)
        walk_at "rd"
        refine new_tup (by show 2 ≤ 1000; decide) fun t H10 n10 e10 s10 => ?_
        have eD2 := s10 _ _ eD
        have tD : t ≠ D := ne_of_none' n10 eD
        refine ⟨_, eD2, small1000 (by rw [List.length_map, fR.len, List.length_take]; omega), qs ++ [t], by rw [List.map_append]; exact upd_same, ?_, fun b u e => ?_⟩
        · rw [List.take_add_one, hrr]
          refine F2.append (F2.imp (fun a r h => (upd_ne (fun z => by have h' : H9 a = some (.tup [.int r.1, r.2]) := h; rw [z, eD] at h'; cases h')).trans (s10 _ _ h)) fR) (.cons ((upd_ne tD).trans e10) .nil)
        · rw [upd_ne (fun q => by rw [q, hD] at e; cases e)]
          exact (s9.trans s10) b u e
      · rintro H9 ⟨qs, eD, fR, s9⟩
        rw [List.length_map, ← lrl, List.take_length] at fR
        exact k D qs rl H9 eD fR IC (by omega) (s6.trans (s7.trans s9))
end
end Kx
namespace Kx
open PySem PySem.Spec PyProof.Rows L2 Hf
local macro_rules | `(tactic| walk_at "r1") => `(tactic| with_reducible first | refine RdC.pf ?_ | refine rd_bl ?_ | refine rd_blP ?_ | refine rd_par2 ?_)
local macro_rules | `(tactic| walk_at "rd") => `(tactic| repeat (first | walk_at "r1" | ((with_reducible refine' rd_var ?hh ?_); (case hh => exact rfl)) | ((with_reducible refine' rd_eq ?hh ?_); (case hh => exact rfl)) | ((with_reducible refine' rd_ne ?hh ?_); (case hh => exact rfl)) | ((with_reducible refine' rd_aug ?hh ?_); (case hh => exact rfl))))
local macro_rules | `(tactic| walk_at "pl") => `(tactic| repeat (first | walk_at "rd1" | (refine rd_fldK (by assumption) (PlC.cl (by assumption)) (by first | exact PlC.n1 (by assumption) | exact PlC.n2 (by assumption) | exact PlC.n3 (by assumption)) (by first | exact pl_slope | exact pl_offset | exact pl_odd) ?_)))
local macro_rules | `(tactic| walk_at "rd1") => `(tactic| first | walk_at "r1" | ((with_reducible refine' rd_var ?hh ?_); (case hh => exact rfl)) | ((with_reducible refine' rd_eq ?hh ?_); (case hh => exact rfl)) | ((with_reducible refine' rd_ne ?hh ?_); (case hh => exact rfl)) | ((with_reducible refine' rd_aug ?hh ?_); (case hh => exact rfl)))
local macro_rules | `(tactic| walk_at "lf") => `(tactic| first | assumption | (refine PlaceAt.same ?_ (by assumption); walk_at "lf") | (refine PlaceAt.keep ?_ (by assumption) (by assumption); walk_at "lf"))
local macro_rules | `(tactic| walk_at "lo") => `(tactic| first | assumption | (refine (by assumption : Same _ _) _ _ ?_; walk_at "lo") | (refine (by assumption : Keep _ _ _) _ _ ?_ (by assumption); walk_at "lo"))
local macro_rules | `(tactic| walk_at "sm") => `(tactic| first | assumption | exact Same.refl _ | exact same_tr (by assumption) (by walk_at "sm"))
local macro_rules | `(tactic| walk_at "hp") => `(tactic| first | assumption | ((with_reducible show (_ : Option HO) = some _); exact same_at (by assumption) (by walk_at "hp")) | ((with_reducible show PicG _ _ _ _ _ _); exact picg_at (by assumption) (by walk_at "hp")) | ((with_reducible show F2 _ _ _); exact tups_at (by assumption) (by walk_at "hp")) | ((with_reducible show Pen _ _ _ _); exact pen_at (by assumption) (by walk_at "hp")))
section
variable {P : Program} {w : World} {K : PySem.W.Frag} {mg : Str → Option Value} {base : Heap}
open LamX in
theorem heard_gives {X : Cx} {g : Addr} {cdg : Value} {q : Str} {HE CB : Addr} (gh : X.mg "HoldError" = some (.ref HE)) (gb : X.mg "BadSize" = some (.ref CB)) (bi : X.mg "isinstance" = none) (ex : ExcC X.K CB) (xf : XfC X.K CB) (hno : PySem.W.findIn X.K (.ref CB) "part" = some none) (em : PySem.W.exmOne X.K (.ref CB) (.ref HE) = some true) :
    GivesTo X ["_law_ask", "error"] "_law_heard" (defScope s_l_heard) g cdg (defBody s_l_heard) "_law_ask" q (THear CB "size" "part") := by
  intro f c' s H Q tl act hc h
  refine ⟨_, pss_one (ps_try_as (X := (cxOf C8.CX0 X.prog X.w X.K X.mg X.base ["_law_ask", "error"] "_law_heard" (defScope s_l_heard) g cdg X.A X.stack s H C8.E0).nox) (c := .ref HE) (i := 1)
      (tb := fun W D σ H => ∃ Ech : XK, (∀ cls d σ' H', Ech cls d H' → W cls d σ' H') ∧ σ[0]? = some (some (.ref f)) ∧ H c' = some (CodeO c' q) ∧ tl Ech H (fun v H' => NewT D.rt [.str "told", v] H'))
      (ts := fun a cls d D σ H => cls = .ref CB ∧ (∃ σ0 : L2.St, σ = σ0.set 1 (some (.ref a))) ∧ ∃ (dd : Addr) (fs : List (Str × V)) (v : V), d = some dd ∧ H dd = some (.xd fs) ∧ fs.lookup ("part" : Str) = some v ∧ NewT D.rt [.str "size", v] H)
      rfl rfl sc_l_heard.nd rfl rfl ⟨rfl, by decide, .inl gh⟩ LamX.takes0 (fun W pn xe tk _ => ?_) (fun a oe cls d pn hz hf => ?_)), ?_⟩
  · refine ⟨fun pins s' σ H' D I h' => ?_⟩
    obtain ⟨Ech, hW, h1, h2, h3⟩ := h'
    exact (pss_one (ps_ret (pe_tup (pa_cons pe_str (pa_cons (act W pn xe Ech _ _ tk hW) pa_nil))))).run pins s' σ H' D I ⟨h1, h2, h3⟩
  · refine ⟨fun pins s' σ H' D I h' => ?_⟩
    obtain ⟨rfl, ⟨σ0, hσ⟩, dd, fs, v, rfl, hd, hl, k⟩ := h'
    have hs1 : σ[1]? = some (some (.ref a)) := by
      have hlen : σ.length = 2 := I.len
      rw [hσ] at hlen ⊢
      rw [List.length_set] at hlen
      rw [List.getElem?_set_self (by omega)]
    refine (pss_one (ps_ret (pe_ifExp (X := ((cxOf C8.CX0 X.prog X.w X.K X.mg X.base ["_law_ask", "error"] "_law_heard" (defScope s_l_heard) g cdg X.A X.stack s H C8.E0).nox).suite a ((a, oe) :: pn)) (pt_val (pe_callB (call_isD (X := (cxOf C8.CX0 X.prog X.w X.K X.mg X.base ["_law_ask", "error"] "_law_heard" (defScope s_l_heard) g cdg X.A X.stack s H C8.E0).nox) (a := a) (pn := pn) (fs := fs) ex hz hf) (by rfl) bi (by decide +kernel) (pa_cons (pv 1) (pa_cons (pe_glob (v := .ref CB) (by rfl) gb rfl) pa_nil)))) (pe_tup (pa_cons pe_str (pa_cons (pe_xf (X := (cxOf C8.CX0 X.prog X.w X.K X.mg X.base ["_law_ask", "error"] "_law_heard" (defScope s_l_heard) g cdg X.A X.stack s H C8.E0).nox) (a := a) (pn := pn) xf hno hz hf (pv 1)) pa_nil))) (pe_tup (pa_cons pe_str (pa_cons pe_non pa_nil)))))).run pins s' σ H' D I ?_
    refine ⟨_, hs1, ⟨fs, hd⟩, .ref CB, .ref CB, true, rfl, (fun u r => r), kit_self, ?_⟩
    exact ⟨true, rfl, iteT ⟨.ref a, hs1, rfl, rfl, dd, fs, v, rfl, hd, hl, k⟩⟩
  · refine ⟨fun cls d H' => cls = .ref CB ∧ ∃ (dd : Addr) (fs : List (Str × V)) (v : V), d = some dd ∧ H' dd = some (.xd fs) ∧ fs.lookup ("part" : Str) = some v ∧ NewT Q [.str "size", v] H', fun cls d σ' H' z => ?_, rfl, hc, h⟩
    obtain ⟨rfl, dd, fs, v, rfl, hd, hl, k⟩ := z
    exact ⟨true, em, fun _ a _ => ⟨rfl, ⟨σ', rfl⟩, dd, fs, v, rfl, hd, hl, k⟩, fun z => by cases z⟩
end
end Kx
namespace Kx
open PySem PySem.Spec PyProof.Rows L2 Hf
local macro_rules | `(tactic| walk_at "r1") => `(tactic| with_reducible first | refine RdC.pf ?_ | refine rd_bl ?_ | refine rd_blP ?_ | refine rd_par2 ?_)
local macro_rules | `(tactic| walk_at "rd") => `(tactic| repeat (first | walk_at "r1" | ((with_reducible refine' rd_var ?hh ?_); (case hh => exact rfl)) | ((with_reducible refine' rd_eq ?hh ?_); (case hh => exact rfl)) | ((with_reducible refine' rd_ne ?hh ?_); (case hh => exact rfl)) | ((with_reducible refine' rd_aug ?hh ?_); (case hh => exact rfl))))
local macro_rules | `(tactic| walk_at "pl") => `(tactic| repeat (first | walk_at "rd1" | (refine rd_fldK (by assumption) (PlC.cl (by assumption)) (by first | exact PlC.n1 (by assumption) | exact PlC.n2 (by assumption) | exact PlC.n3 (by assumption)) (by first | exact pl_slope | exact pl_offset | exact pl_odd) ?_)))
local macro_rules | `(tactic| walk_at "rd1") => `(tactic| first | walk_at "r1" | ((with_reducible refine' rd_var ?hh ?_); (case hh => exact rfl)) | ((with_reducible refine' rd_eq ?hh ?_); (case hh => exact rfl)) | ((with_reducible refine' rd_ne ?hh ?_); (case hh => exact rfl)) | ((with_reducible refine' rd_aug ?hh ?_); (case hh => exact rfl)))
local macro_rules | `(tactic| walk_at "lf") => `(tactic| first | assumption | (refine PlaceAt.same ?_ (by assumption); walk_at "lf") | (refine PlaceAt.keep ?_ (by assumption) (by assumption); walk_at "lf"))
local macro_rules | `(tactic| walk_at "lo") => `(tactic| first | assumption | (refine (by assumption : Same _ _) _ _ ?_; walk_at "lo") | (refine (by assumption : Keep _ _ _) _ _ ?_ (by assumption); walk_at "lo"))
local macro_rules | `(tactic| walk_at "sm") => `(tactic| first | assumption | exact Same.refl _ | exact same_tr (by assumption) (by walk_at "sm"))
local macro_rules | `(tactic| walk_at "hp") => `(tactic| first | assumption | ((with_reducible show (_ : Option HO) = some _); exact same_at (by assumption) (by walk_at "hp")) | ((with_reducible show PicG _ _ _ _ _ _); exact picg_at (by assumption) (by walk_at "hp")) | ((with_reducible show F2 _ _ _); exact tups_at (by assumption) (by walk_at "hp")) | ((with_reducible show Pen _ _ _ _); exact pen_at (by assumption) (by walk_at "hp")))
section
variable {P : Program} {w : World} {K : PySem.W.Frag} {mg : Str → Option Value} {base : Heap}
theorem ok_l_far_right {C : Addr} (T : Txt K mg) {CP C CB : Addr} (C0 : SzC K mg C) (M_Place2 : Mak P w K mg base 3 "Place" CP (spPlX2 K CP CB)) (c_classes : Gz.CalG P w K mg base 7 "classes" (spCls CP C)) (D : DefAt K mg "_law_far_right" s_l_far_right ["_law_far"]) : Cal P w K mg base 9 "_law_far_right" spLFar10 := by
  obtain ⟨f, fd, hm, F, b⟩ := D
  refine ⟨f, fnR0 F b sc_l_far_right (fun vs H Q E h => ?_) (fun cdv A outer s H vs Q E hr h => ?_), hm, F.kp⟩
  · obtain ⟨x, rfl, x1, x2, k⟩ := h
    rfl
  · obtain ⟨x, rfl, x1, x2, k⟩ := h
    have hu := hu_of hr
    refine ⟨_, (pss_cons (Gz.ps_setLcG (i := 1) (own := [("_law_row", 3)]) rfl sc_l_far_right.nd hr.depth rfl rfl (sw_true rfl rfl rfl (by decide +kernel)) (Gz.pgz_cl c_classes hr (pa_cons (pe_lst (pa_cons (pe_ma M_Place2 hr passL (pa_cons pe_int (pa_cons pe_int pa_nil))) (pa_cons (pe_ma M_Place2 hr passL (pa_cons pe_int (pa_cons (pv 0) pa_nil))) pa_nil))) pa_nil)) (blkOk_by (own := [("_law_row", 3)]) (N := ["_law_far", "_law_told", "_law_due_here", "_law_row"]) (sc := defScope s_l_far_right) (by decide +kernel)) (by decide +kernel) (fun _ _ _ _ _ => (pg_name (i := 3) sc_l_far_right.nd rfl (Or.inl rfl))) (fun _ _ _ _ _ => pts_nil) (fun _ _ _ _ _ => (pe_tup (pa_cons (pe_fldB (K := K) (pv 3) rfl) (pa_cons (pe_fldB (K := K) (pv 3) rfl) pa_nil)))))
  (pss_cons (ps_set (i := 2) sc_l_far_right.nd rfl (Or.inl rfl) (pe_lst (pa_cons (pe_tup (pa_cons pe_int (pa_cons (pe_op op_sub (pe_op op_mulW pe_int (pv 0)) pe_int) pa_nil))) (pa_cons (pe_tup (pa_cons pe_int (pa_cons (pe_op op_sub (pe_op op_mulW pe_int (pv 0)) pe_int) pa_nil))) (pa_cons (pe_tup (pa_cons (pe_op op_mulW pe_int (pv 0)) (pa_cons (pe_op op_mulW pe_int (pv 0)) pa_nil))) (pa_cons (pe_tup (pa_cons (pe_op op_add (pe_op op_mulW pe_int (pv 0)) pe_int) (pa_cons (pe_op op_add (pe_op op_mulW pe_int (pv 0)) pe_int) pa_nil))) pa_nil))))))
  (pss_one (ps_ret (pe_cmpR (op_eqD hr.units) (pv 1) (pe_op op_cat (pv 2) (pe_lst (pa_cons (pe_tup (pa_cons (pe_op op_add (pe_op op_mulW pe_int (pv 0)) pe_int) (pa_cons pe_non pa_nil))) (pa_cons (pe_tup (pa_cons (pe_op op_add (pe_op op_mulW pe_int (pv 0)) pe_int) (pa_cons pe_non pa_nil))) pa_nil)))) (nomark _)))))), ?_⟩
    try dsimp only [cxOf, Cx.nox, Cx.wish, List.map]
    have sx : Sm x := ⟨by omega, by omega⟩
    walk_at "rd"
    refine use_plX2 fun p1 H1 n1 g1 s1 => ?_
    walk_at "rd"
    refine use_plX2 fun p2 H2 n2 g2 s2 => ?_
    walk_at "rd"
    refine new_lst (by show 2 ≤ 1000; decide) fun l H3 n3 e3 s3 => ?_
    refine ⟨l, [p1, p2], farL x, rfl, .inl e3, .cons (PlaceAt.same (PlaceAt.same g1 s2) s3) (.cons (PlaceAt.same g2 s3) .nil), by show 2 ≤ 64; decide, fun t ht => ?_, fun rl IC lr => ?_⟩
    · unfold farL at ht
      simp only [List.mem_cons, List.not_mem_nil, or_false] at ht
      rcases ht with rfl | rfl
      · exact ⟨by decide, by decide, by decide⟩
      · exact ⟨by show (0 : Int).natAbs ≤ 400; decide, by show x.natAbs ≤ 10 ^ 21; omega, by show (0 : Int).natAbs ≤ 400; decide⟩
    have IF := far_cls (x := x) (by omega)
    cases IC.uniq IF
    refine use_told (mg := mg) C0 (by show 3 < 4; decide) lr fun D qs H4 nD eD fR s4 => ?_
    walk_at "rd"
    refine rd_I (cMul_sm ⟨by decide, by decide⟩ sx) ?_
    walk_at "rd"
    refine new_tup (by show 2 ≤ 1000; decide) fun t1 J1 m1 f1 z1 => ?_
    walk_at "rd"
    refine rd_I (cMul_sm ⟨by decide, by decide⟩ sx) ?_
    walk_at "rd"
    refine new_tup (by show 2 ≤ 1000; decide) fun t2 J2 m2 f2 z2 => ?_
    walk_at "rd"
    refine rd_I (cMul_sm ⟨by decide, by decide⟩ sx) ?_
    walk_at "rd"
    refine rd_I (cMul_sm ⟨by decide, by decide⟩ sx) ?_
    walk_at "rd"
    refine new_tup (by show 2 ≤ 1000; decide) fun t3 J3 m3 f3 z3 => ?_
    walk_at "rd"
    refine rd_I (cMul_sm ⟨by decide, by decide⟩ sx) ?_
    walk_at "rd"
    refine rd_I (cMul_sm ⟨by decide, by decide⟩ sx) ?_
    walk_at "rd"
    refine new_tup (by show 2 ≤ 1000; decide) fun t4 J4 m4 f4 z4 => ?_
    walk_at "rd"
    refine new_lst (by show 4 ≤ 1000; decide) fun l5 J5 m5 f5 z5 => ?_
    walk_at "rd"
    refine rd_I (cMul_sm ⟨by decide, by decide⟩ sx) ?_
    walk_at "rd"
    refine new_tup (by show 2 ≤ 1000; decide) fun t6 J6 m6 f6 z6 => ?_
    walk_at "rd"
    refine rd_I (cMul_sm ⟨by decide, by decide⟩ sx) ?_
    walk_at "rd"
    refine new_tup (by show 2 ≤ 1000; decide) fun t7 J7 m7 f7 z7 => ?_
    walk_at "rd"
    refine new_lst (by show 2 ≤ 1000; decide) fun l8 J8 m8 f8 z8 => ?_
    have zz := z6.trans (z7.trans z8)
    refine use_catZ (zz _ _ f5) f8 (by show 4 + 2 ≤ 1000; decide) fun l9 J9 m9 f9 z9 => ?_
    have Z4 := z5.trans (zz.trans z9)
    have f9' : J9 l9 = some (.lst ([t1, t2, t3, t4, t6, t7].map V.ref)) := f9
    have SA := z1.trans (z2.trans (z3.trans (z4.trans Z4)))
    refine use_eqRows (SA _ _ eD) (F2.imp (fun a r h => RowA.same h SA) fR) f9' (.cons ((z2.trans (z3.trans (z4.trans Z4))) _ _ f1) (.cons ((z3.trans (z4.trans Z4)) _ _ f2) (.cons ((z4.trans Z4) _ _ f3) (.cons (Z4 _ _ f4) (.cons ((z7.trans (z8.trans z9)) _ _ f6) (.cons ((z8.trans z9) _ _ f7) .nil)))))) IF.hs ?_
    exact k J9 (s1.trans (s2.trans (s3.trans (s4.trans SA))))
end
end Kx
namespace Kx
open PySem PySem.Spec PyProof.Rows L2 Hf
local macro_rules | `(tactic| walk_at "r1") => `(tactic| with_reducible first | refine RdC.pf ?_ | refine rd_bl ?_ | refine rd_blP ?_ | refine rd_par2 ?_)
local macro_rules | `(tactic| walk_at "rd") => `(tactic| repeat (first | walk_at "r1" | ((with_reducible refine' rd_var ?hh ?_); (case hh => exact rfl)) | ((with_reducible refine' rd_eq ?hh ?_); (case hh => exact rfl)) | ((with_reducible refine' rd_ne ?hh ?_); (case hh => exact rfl)) | ((with_reducible refine' rd_aug ?hh ?_); (case hh => exact rfl))))
local macro_rules | `(tactic| walk_at "pl") => `(tactic| repeat (first | walk_at "rd1" | (refine rd_fldK (by assumption) (PlC.cl (by assumption)) (by first | exact PlC.n1 (by assumption) | exact PlC.n2 (by assumption) | exact PlC.n3 (by assumption)) (by first | exact pl_slope | exact pl_offset | exact pl_odd) ?_)))
local macro_rules | `(tactic| walk_at "rd1") => `(tactic| first | walk_at "r1" | ((with_reducible refine' rd_var ?hh ?_); (case hh => exact rfl)) | ((with_reducible refine' rd_eq ?hh ?_); (case hh => exact rfl)) | ((with_reducible refine' rd_ne ?hh ?_); (case hh => exact rfl)) | ((with_reducible refine' rd_aug ?hh ?_); (case hh => exact rfl)))
local macro_rules | `(tactic| walk_at "lf") => `(tactic| first | assumption | (refine PlaceAt.same ?_ (by assumption); walk_at "lf") | (refine PlaceAt.keep ?_ (by assumption) (by assumption); walk_at "lf"))
local macro_rules | `(tactic| walk_at "lo") => `(tactic| first | assumption | (refine (by assumption : Same _ _) _ _ ?_; walk_at "lo") | (refine (by assumption : Keep _ _ _) _ _ ?_ (by assumption); walk_at "lo"))
local macro_rules | `(tactic| walk_at "sm") => `(tactic| first | assumption | exact Same.refl _ | exact same_tr (by assumption) (by walk_at "sm"))
local macro_rules | `(tactic| walk_at "hp") => `(tactic| first | assumption | ((with_reducible show (_ : Option HO) = some _); exact same_at (by assumption) (by walk_at "hp")) | ((with_reducible show PicG _ _ _ _ _ _); exact picg_at (by assumption) (by walk_at "hp")) | ((with_reducible show F2 _ _ _); exact tups_at (by assumption) (by walk_at "hp")) | ((with_reducible show Pen _ _ _ _); exact pen_at (by assumption) (by walk_at "hp")))
section
variable {P : Program} {w : World} {K : PySem.W.Frag} {mg : Str → Option Value} {base : Heap}
open LamX in
theorem ok_law {C : Addr} (T : Txt K mg) (C0 : SzC K mg C) (c0 P0 : Addr) (TB : LamX.TabB base mg c0 P0) (D_heard : DefAt K mg "_law_heard" s_l_heard ["_law_ask"]) {HE CS CP : Addr} (gh : mg "HoldError" = some (.ref HE)) (gb : mg "BadSize" = some (.ref CS)) (ex : ExcC K CS) (xf : XfC K CS) (hno : PySem.W.findIn K (.ref CS) "part" = some none) (em : PySem.W.exmOne K (.ref CS) (.ref HE) = some true) (m_in : Met P w K mg base 2 C "__contains__" (spSzIn K C)) (m_eq : Met P w K mg base 1 CP "__eq__" (spPlEq CP)) (c_l_bag : Cal P w K mg base 1 "_law_bag" (spBag K)) (c_l_draw : Cal P w K mg base 1 "_law_draw" spDraw) (c_l_some : Cal P w K mg base 3 "_law_some" spLSome10) (c_l_place : Cal P w K mg base 5 "_law_place" (spLPl10 CP)) (c_l_due : Cal P w K mg base 3 "_law_due" spLDue10) (c_l_far_right : Cal P w K mg base 9 "_law_far_right" spLFar10) (c_classes : Gz.CalG P w K mg base 7 "classes" (spCls CP C)) (c_classesK : Gz.CalGK P w K mg base 7 "classes" ["places"] (fun zs => zs) (spCls CP C)) (c_class_of : Cal P w K mg base 9 "class_of" (spClsOf K CP C CS)) {f : Addr} {dV kV doc pm ct oc : Value} {an od : Option Addr} {osl : Array (Option Value)} (lk : K.lookup f = some ⟨oc, od, .func (PySem.W.fnOf "law" "law" (defArgs s_law) (defBody s_law) (defScope s_law) dV kV doc pm an (.ref c0) ct), osl⟩) (hcd : PySem.W.codeIn K (.ref c0) "law" = true) (b : L2.Binds K (PySem.W.fnOf "law" "law" (defArgs s_law) (defBody s_law) (defScope s_law) dV kV doc pm an (.ref c0) ct) ["_law_script"] []) : FnG P w K mg base (L2.CX P w) 13 f (spLawT K [(P0, "law.<locals>.<lambda>")]) := by
  obtain ⟨fh, fdh, hmh, Fh, bh⟩ := D_heard
  obtain ⟨och, odh, kVh, doch, pmh, anh, cdvh, cth, oslh, rfl, lkh, hcdh⟩ := Fh.ex
  refine fnG_of lk hcd sc_law b (fun vs H Q E h => ?_) (fun A outer s H vs Q E hr hgd h => ?_)
  · obtain ⟨a, ns, rfl, _⟩ := h
    rfl
  · obtain ⟨a, ns, rfl, hS, hlen, hT, k⟩ := h
    have hu := hu_of hr
    refine ⟨_, PSs.nox (pss_cons (ps_set (i := 1) sc_law.nd rfl (Or.inl rfl) (pe_cl c_l_bag hr passL (pa_cons (pv 0) pa_nil)))
  (pss_cons (ps_for PassesOwn.never rfl (pi_range1 rfl T.b_range (pa_cons pe_int pa_nil)) (pg_name (i := 2) sc_law.nd rfl (Or.inl rfl))
  (pss_cons (ps_set (i := 3) sc_law.nd rfl (Or.inl rfl) (pe_cl c_l_some hr passL (pa_cons (pv 1) pa_nil)))
  (pss_cons (ps_set (i := 8) sc_law.nd rfl (Or.inr rfl) (pe_lc (own := [("_law_parts_here", 10)]) (by rfl) sc_law.nd (pi_list (pv 3)) (blkOk_by (own := [("_law_parts_here", 10)]) (N := ["_law_script", "_law_bag_here", "_law_turn", "_law_some_here", "_law_due_here", "_law_kept", "_law_row", "_law_n", "_law_made", "_law_value", "_law_parts_here"]) (sc := defScope s_law) (by decide +kernel)) (fun _ _ _ _ _ => (pg_name (i := 10) sc_law.nd rfl (Or.inl rfl))) (fun _ _ _ _ _ => pts_nil) (fun _ _ _ _ _ => (pe_cl c_l_place hr passL (pa_cons (pv 10) pa_nil)))))
  (pss_cons (ps_par (i := 4) (j := 5) rfl sc_law.nd rfl rfl (by decide) rfl rfl (pa_cons (pe_cl c_l_due hr passL (pa_cons (pv 3) pa_nil)) (pa_cons (pe_callTy call_list_of (by rfl) T.b_list (by decide +kernel) (pa_cons (pv 8) pa_nil)) pa_nil)) rfl)
  (pss_cons (ps_if (pt_cmpR (op_neD hr.units) (Gz.pe_lcG (own := [("_law_row", 6)]) rfl sc_law.nd hr.depth (Gz.pgz_cl c_classes hr (pa_cons (pv 8) pa_nil)) (blkOk_by (own := [("_law_row", 6)]) (N := ["_law_script", "_law_bag_here", "_law_turn", "_law_some_here", "_law_due_here", "_law_kept", "_law_row", "_law_n", "_law_made", "_law_value", "_law_parts_here"]) (sc := defScope s_law) (by decide +kernel)) (by decide +kernel) (fun _ _ _ _ _ => (pg_name (i := 6) sc_law.nd rfl (Or.inl rfl))) (fun _ _ _ _ _ => pts_nil) (fun _ _ _ _ _ => (pe_tup (pa_cons (pe_fldB (K := K) (pv 6) rfl) (pa_cons (pe_fldB (K := K) (pv 6) rfl) pa_nil))))) (pv 4) (nomark _)) (pss_one (ps_ret pe_bl)) pss_nil)
  (pss_cons (ps_if (pt_cmpR (op_neD hr.units) (Gz.pe_lcG (own := [("_law_row", 6)]) rfl sc_law.nd hr.depth (Gz.pgz_clK c_classesK hr (pk_cons (pe_callTy call_tuple_of (by rfl) T.b_tuple (by decide +kernel) (pa_cons (pv 8) pa_nil)) pk_nil)) (blkOk_by (own := [("_law_row", 6)]) (N := ["_law_script", "_law_bag_here", "_law_turn", "_law_some_here", "_law_due_here", "_law_kept", "_law_row", "_law_n", "_law_made", "_law_value", "_law_parts_here"]) (sc := defScope s_law) (by decide +kernel)) (by decide +kernel) (fun _ _ _ _ _ => (pg_name (i := 6) sc_law.nd rfl (Or.inl rfl))) (fun _ _ _ _ _ => pts_nil) (fun _ _ _ _ _ => (pe_tup (pa_cons (pe_fldB (K := K) (pv 6) rfl) (pa_cons (pe_fldB (K := K) (pv 6) rfl) pa_nil))))) (pv 4) (nomark _)) (pss_one (ps_ret pe_bl)) pss_nil)
  (pss_cons (ps_for PassesOwn.never rfl (pi_list (pe_lst (pa_cons pe_int (pa_cons pe_int (pa_cons (pe_op op_add pe_int (pe_cl c_l_draw hr passL (pa_cons (pv 1) (pa_cons pe_int pa_nil)))) (pa_cons (pe_op op_add (pe_op op_pow pe_int pe_int) (pe_cl c_l_draw hr passL (pa_cons (pv 1) (pa_cons pe_int pa_nil)))) pa_nil)))))) (pg_name (i := 7) sc_law.nd rfl (Or.inl rfl))
  (pss_cons (ps_set (i := 6) sc_law.nd rfl (Or.inl rfl) (pe_cl c_class_of hr passL (pa_cons (pv 8) (pa_cons (pv 7) pa_nil))))
  (pss_one (ps_if (pw_or (pt_cmpR (op_notInLD hr.units) (pe_tup (pa_cons (pe_fld (pv 6) rfl) (pa_cons (pe_fld (pv 6) rfl) pa_nil))) (pv 4) (by with_unfolding_all rfl)) (pw_or1 (pt_cmpR (op_notInM m_in hr passL) (pv 7) (pv 6) (by with_unfolding_all rfl)))).pt (pss_one (ps_ret pe_bl)) pss_nil))))
  (pss_cons (ps_if (pt_cmpR (op_nePls m_eq hr) (pv 8) (pv 5) (nomark _)) (pss_one (ps_ret pe_bl)) pss_nil)
  (pss_cons (ps_set (i := 9) sc_law.nd rfl (Or.inr rfl) (pe_ix ix_list (pe_lst (pa_cons pe_non (pa_cons pe_bl (pa_cons pe_int (pa_cons (pe_un un_neg pe_int) (pa_cons pe_str (pa_cons (pe_tup (pa_cons pe_int pa_nil)) (pa_cons (pe_lst pa_nil) (pa_cons pe_dnewK pa_nil))))))))) (pe_cl c_l_draw hr passL (pa_cons (pv 1) (pa_cons pe_int pa_nil))) (fun _ _ => rfl)))
  (pss_one (ps_if (pt_cmpR (op_neD hr.units) (pe_lamcall (T := [(P0, "law.<locals>.<lambda>")]) (TT := THear CS "size" "part") (k := 10) (by rfl) hmh Fh.kp lkh hcdh bh sc_l_heard rfl (Or.inl rfl) (heard_gives gh gb T.b_isinstance ex xf hno em) TB rfl (.head _) (fun p hp _ => by rcases List.mem_singleton.mp hp with rfl; rfl) hr (show LamS (defScope s_law) _ from lamS_by (by decide +kernel)) rfl (fun _ _ _ _ _ => rfl) (fun A outer s H E f c hr => pe_cl c_class_of hr (passE (takes_of rfl rfl rfl rfl)) (pa_cons (pv 8) (pa_cons (pv 9) pa_nil)))) (pe_tup (pa_cons pe_str (pa_cons pe_str pa_nil))) (nomark _)) (pss_one (ps_ret pe_bl)) pss_nil)))))))))))
  (pss_one (ps_ret (pe_cl c_l_far_right hr passL (pa_cons (pe_op op_add (pe_op op_pow pe_int pe_int) (pe_cl c_l_draw hr passL (pa_cons (pv 1) (pa_cons pe_int pa_nil)))) pa_nil)))))), ?_⟩
    try dsimp only [cxOf, Cx.nox, Cx.wish, List.map]
    walk_at "rd"
    refine ⟨a, ns, rfl, hS, hlen, fun b H1 nb B1 s1 => ?_⟩
    obtain ⟨c, B1⟩ := B1
    have hT := Tabs.ext hT s1
    have p30 : (10 : Int) ^ (30 : Int).toNat = 1000000000000000000000000000000 := by decide
    have p20 : (10 : Int) ^ (20 : Int).toNat = 100000000000000000000 := by decide
    walk_at "rd"
    refine ⟨4, rfl, by decide, by decide, for_range (n := 4) (fun i σ H' => ∃ v2 v3 v4 v5 v6 v7 v8 v9 v10 : Option V, σ = [some (.ref a), some (.ref b), v2, v3, v4, v5, v6, v7, v8, v9, v10] ∧ BagC H' b c ∧ Tabs [(P0, "law.<locals>.<lambda>")] H') ⟨none, none, none, none, none, none, none, none, none, rfl, B1, hT⟩ ?_ ?_⟩
    · rintro i σ H2 hi ⟨v2, v3, v4, v5, v6, v7, v8, v9, v10, rfl, B2, hT2⟩
      refine rd_gname ?_
      walk_at "rd"
      refine ⟨b, c, rfl, B2, fun l ts P H3 e3 fT lP pb B3 k3 => ?_⟩
      have hT3 := Tabs.keep hT2 B2.bag k3
      clear B2 hT2 k3
      walk_at "rd"
      refine ⟨l, rfl, ⟨_, SqL.of e3⟩, ?_⟩
      refine lc_made e3 fT (by omega) (by show 10 < 11; decide) fun m ps H4 nm em fP s4 => ?_
      walk_at "rd"
      refine ⟨l, ts, P, rfl, s4 _ _ e3, F2.imp (fun x t h => TAt.same h s4) fT, lP, pb, fun d qs rl H5 ed fR IC lrl s5 => ?_⟩
      walk_at "rd"
      refine ⟨m, _, rfl, .inl (SqL.of (s5 _ _ em)), fun kk nk => ?_⟩
      have s6 := Same.new (o := .lst (ps.map V.ref)) nk
      have ek := upd_same (H := H5) (a := kk) (o := .lst (ps.map V.ref))
      generalize upd H5 kk _ = H6 at *
      have em6 := s6 _ _ (s5 _ _ em)
      have fP6 := F2.imp (fun x t h => PlaceAt.same h (s5.trans s6)) fP
      have ed6 := s6 _ _ ed
      have fR6 := F2.imp (fun a r h => RowA.same h s6) fR
      have B6 := B3.same (s4.trans (s5.trans s6))
      have hT6 := Tabs.ext hT3 (s4.trans (s5.trans s6))
      clear B3 hT3 s4 s5 s6 em fP ed fR e3 fT nm nk
      have lP64 : P.length ≤ 64 := by omega
      have pB : ∀ t ∈ P, PlB t := fun t ht => (pb t ht).b
      walk_at "rd"
      refine ⟨m, ps, P, rfl, .inl em6, fP6, lP64, pB, fun rl2 IC2 lr2 => ?_⟩
      cases IC2.uniq IC
      refine use_told (mg := mg) C0 (by show 6 < 11; decide) lr2 fun D7 q7 H7 n7 e7 f7 s7 => ?_
      walk_at "rd"
      refine use_neRows e7 f7 (s7 _ _ ed6) (F2.imp (fun a r h => RowA.same h s7) fR6) IC.hs ?_
      refine ⟨_, rfl, iteF ?_⟩
      walk_at "rd"
      refine ⟨m, _, rfl, .inl ⟨SqL.of (s7 _ _ em6), fun tq ntq => ?_⟩⟩
      have s8 := Same.new (o := .tup (ps.map V.ref)) ntq
      have et := upd_same (H := H7) (a := tq) (o := .tup (ps.map V.ref))
      generalize upd H7 tq _ = H8 at *
      have S8 := s7.trans s8
      walk_at "rd"
      refine ⟨rfl, tq, ps, P, rfl, .inr et, F2.imp (fun x t h => PlaceAt.same h S8) fP6, lP64, pB, fun rl3 IC3 lr3 => ?_⟩
      cases IC3.uniq IC
      refine use_told (mg := mg) C0 (by show 6 < 11; decide) lr3 fun D9 q9 H9 n9 e9 f9 s9 => ?_
      have S9 := S8.trans s9
      walk_at "rd"
      refine use_neRows e9 f9 (S9 _ _ ed6) (F2.imp (fun a r h => RowA.same h S9) fR6) IC.hs ?_
      refine ⟨_, rfl, iteF ?_⟩
      have em9 := S9 _ _ em6
      have ek9 := S9 _ _ ek
      have ed9 := S9 _ _ ed6
      have fP9 := F2.imp (fun x t h => PlaceAt.same h S9) fP6
      have fR9 := F2.imp (fun a r h => RowA.same h S9) fR6
      have B9 := B6.same S9
      have hT9 := Tabs.ext hT6 S9
      clear B6 hT6 s7 s8 s9 S8 S9 em6 ek ed6 fP6 fR6 e7 f7 e9 f9 et n7 n9 ntq
      walk_at "rd"
      refine use_drawC (n := 60) B9 (by decide) (by decide) fun x1 H10 x10 x11 B10 k10 => ?_
      walk_at "rd"
      refine rd_I ⟨by decide, by decide, by decide⟩ ?_
      rw [p30]
      walk_at "rd"
      refine use_drawC (n := 2) B10 (by decide) (by decide) fun x2 H11 x20 x21 B11 k11 => ?_
      walk_at "rd"
      refine new_lst (by show 4 ≤ 1000; decide) fun lz H12 n12 e12 s12 => ?_
      have K12 := (k10.trans k11).trans (Keep.of s12)
      have mb : ∀ {q : Addr} {xs : List V}, H9 q = some (.lst xs) → q ≠ b := fun {q xs} e z => bag_lst ⟨c, B9⟩ (z ▸ e)
      have em12 := K12 _ _ em9 (mb em9)
      have ek12 := K12 _ _ ek9 (mb ek9)
      have ed12 := K12 _ _ ed9 (mb ed9)
      have fP12 := F2.imp (fun x t h => PAt.keepB h B9 K12) fP9
      have fR12 := F2.imp (fun a r h => RowA.keep h B9 K12) fR9
      have B12 := B11.same s12
      have hT12 := Tabs.ext (Tabs.keep (Tabs.keep hT9 B9.bag k10) B10.bag k11) s12
      clear hT9 K12 k10 k11 s12 em9 ek9 ed9 fP9 fR9 B10 B11
      walk_at "rd"
      refine ⟨lz, rfl, ⟨_, SqL.of e12⟩, for_list (K := K) (a := lz) (xs := [V.int 1, V.int 2, V.int (1 + x1), V.int (1000000000000000000000000000000 + x2)]) (fun j σ H' => (∃ w6 w7 w9 : Option V, σ = [some (.ref a), some (.ref b), some (.int (0 + (i : Int))), some (.ref l), some (.ref d), some (.ref kk), w6, w7, some (.ref m), w9, v10]) ∧ Same H12 H') ⟨⟨_, _, _, rfl⟩, Same.refl _⟩ ?_ ?_ ?_⟩
      · rintro j σ A1 _ ⟨_, s⟩
        exact SqL.of (s _ _ e12)
      · rintro j xv σ A1 hv ⟨⟨w6, w7, w9, rfl⟩, sA⟩
        obtain ⟨n, rfl, n1⟩ : ∃ n : Int, xv = .int n ∧ 1 ≤ n := by
          match j, hv with
          | 0, hv => cases hv; exact ⟨_, rfl, by decide⟩
          | 1, hv => cases hv; exact ⟨_, rfl, by decide⟩
          | 2, hv => cases hv; exact ⟨_, rfl, by omega⟩
          | 3, hv => cases hv; exact ⟨_, rfl, by omega⟩
        refine rd_gname ?_
        walk_at "rd"
        refine ⟨m, ps, P, .int n, rfl, sA _ _ em12, F2.imp (fun x t h => PlaceAt.same h sA) fP12, lP64, pB, .inr ⟨n, rfl, n1, fun rl4 IC4 p r A2 g hr hs s2 => ?_⟩⟩
        cases IC4.uniq IC
        obtain ⟨dx, g'⟩ := id g
        walk_at "rd"
        refine rd_fldK g' C0.cl C0.n1 sz_low ?_
        walk_at "rd"
        refine rd_fldK g' C0.cl C0.n2 sz_high ?_
        walk_at "rd"
        refine new_tup (by show 2 ≤ 1000; decide) fun t3 A3 n3 e3 s3 => ?_
        have S3 := sA.trans (s2.trans s3)
        walk_at "rd"
        refine use_notRow (r := r) e3 (S3 _ _ ed12) (F2.imp (fun a r h => RowA.same h S3) fR12) IC.hs hr ?_
        refine ⟨_, rfl, iteF ?_⟩
        walk_at "rd"
        refine use_szN (SzAt.same g s3) (IC.hs r hr) ?_
        rw [hs]
        refine ⟨_, rfl, iteF ?_⟩
        walk_at "rd"
        exact ⟨⟨_, _, _, rfl⟩, S3⟩
      rintro σ A1 ⟨⟨w6, w7, w9, rfl⟩, sA⟩
      have em13 := sA _ _ em12
      have ek13 := sA _ _ ek12
      have fP13 := F2.imp (fun x t h => PlaceAt.same h sA) fP12
      have B13 := B12.same sA
      have hT13 := Tabs.ext hT12 sA
      clear hT12 B12 em12 ek12 ed12 fP12 fR12 sA e12 n12
      walk_at "rd"
      refine ⟨⟨m, kk, _, _, rfl, rfl, em13, ek13, prs_same fP13⟩, fun A2 s2 => ?_⟩
      have s2 : Same A1 A2 := s2
      refine ⟨_, rfl, iteF ?_⟩
      have em14 := s2 _ _ em13
      have fP14 := F2.imp (fun x t h => PlaceAt.same h s2) fP13
      have B14 := B13.same s2
      have hT14 := Tabs.ext hT13 s2
      clear hT13 B13 em13 ek13 fP13 s2
      walk_at "rd"
      refine new_tup (by show 1 ≤ 1000; decide) fun t1 J1 m1 f1 z1 => ?_
      walk_at "rd"
      refine new_lst (by show 0 ≤ 1000; decide) fun t2 J2 m2 f2 z2 => ?_
      walk_at "rd"
      refine new_dict fun t3 J3 m3 f3 z3 => ?_
      walk_at "rd"
      refine new_lst (by show 8 ≤ 1000; decide) fun t4 J4 m4 f4 z4 => ?_
      have Z4 := z1.trans (z2.trans (z3.trans z4))
      have B15 := B14.same Z4
      walk_at "rd"
      refine use_drawC (n := 8) B15 (by decide) (by decide) fun x3 J5 x30 x31 B16 k16 => ?_
      have b1 : t1 ≠ b := (B14.nes m1).1
      have b2 : t2 ≠ b := ((B14.same z1).nes m2).1
      have b3 : t3 ≠ b := (((B14.same z1).same z2).nes m3).1
      have b4 : t4 ≠ b := ((((B14.same z1).same z2).same z3).nes m4).1
      have g1 := k16 _ _ ((z2.trans (z3.trans z4)) _ _ f1) b1
      have g2 := k16 _ _ ((z3.trans z4) _ _ f2) b2
      have g3 := k16 _ _ (z4 _ _ f3) b3
      have g4 := k16 _ _ f4 b4
      have em16 := k16 _ _ (Z4 _ _ em14) (fun z => bag_lst ⟨c, B15⟩ (z ▸ Z4 _ _ em14))
      have fP16 := F2.imp (fun x t h => PAt.keepB (PlaceAt.same h Z4) B15 k16) fP14
      have hT16 := Tabs.keep (Tabs.ext hT14 Z4) B15.bag k16
      obtain ⟨v, hv, hodd⟩ : ∃ v, atI [V.non, V.bl true, V.int 0, V.int (-2), V.str "1", V.ref t1, V.ref t2, V.ref t3] x3 = some v ∧ OdS K J5 v := by
        have : x3 = 0 ∨ x3 = 1 ∨ x3 = 2 ∨ x3 = 3 ∨ x3 = 4 ∨ x3 = 5 ∨ x3 = 6 ∨ x3 = 7 := by omega
        rcases this with rfl | rfl | rfl | rfl | rfl | rfl | rfl | rfl
        · exact ⟨_, rfl, .inl nw_non⟩
        · exact ⟨_, rfl, .inl nw_bl⟩
        · exact ⟨_, rfl, .inr ⟨_, rfl, by decide⟩⟩
        · exact ⟨_, rfl, .inr ⟨_, rfl, by decide⟩⟩
        · exact ⟨_, rfl, .inl nw_str⟩
        · exact ⟨_, rfl, .inl (nw_tup g1)⟩
        · exact ⟨_, rfl, .inl (nw_lst g2)⟩
        · exact ⟨_, rfl, .inl (nw_dict g3)⟩
      refine use_ixL (SqL.of g4) (i := x3) hv ?_
      clear hT14 B14 B15 em14 fP14 Z4 z1 z2 z3 z4 f1 f2 f3 f4 g1 g2 g3 g4 hv k16
      walk_at "rd"
      refine rd_lam hT16 fun J6 eN hT17 => ?_
      unfold THear
      walk_at "rd"
      refine ⟨m, ps, P, v, rfl, eN _ _ em16 (fun q z => by cases z), F2.imp (fun x t h => by obtain ⟨dx, h⟩ := h; exact ⟨dx, eN _ _ h (fun q z => by cases z)⟩) fP16, lP64, pB, .inl ⟨hodd.imp (fun z => z.extN eN) id, fun de nde => ?_⟩⟩
      have s7 := Same.new (o := .xd [("part", V.str "size")]) nde
      refine ⟨rfl, de, _, _, rfl, upd_same, lk_hit, ?_⟩
      generalize upd J6 de _ = J7 at *
      refine new_tup (by show 2 ≤ 1000; decide) fun t5 J8 m8 f8 z8 => ?_
      walk_at "rd"
      refine new_tup (by show 2 ≤ 1000; decide) fun t6 J9 m9 f9 z9 => ?_
      refine use_neTT (by decide +kernel) (by decide +kernel) (z9 _ _ f8) f9 ?_
      refine ⟨_, rfl, iteF ?_⟩
      walk_at "rd"
      exact ⟨_, _, _, _, _, _, _, _, _, rfl, (B16.extN eN).same (s7.trans (z8.trans z9)), Tabs.ext hT17 (s7.trans (z8.trans z9))⟩
    · rintro σ H2 ⟨v2, v3, v4, v5, v6, v7, v8, v9, v10, rfl, B2, hT2⟩
      walk_at "rd"
      refine rd_I ⟨by decide, by decide, by decide⟩ ?_
      rw [p20]
      walk_at "rd"
      refine use_drawC (n := 100) B2 (by decide) (by decide) fun x H3 x0 x1 B3 k3 => ?_
      walk_at "rd"
      refine ⟨_, rfl, by omega, by omega, fun H4 s4 => ?_⟩
      exact k H4
end
end Kx
namespace Kx
open PySem PySem.Spec PyProof.Rows L2 Hf
open LamX in
theorem all_mk {l : PySem.W.OpenLaw} {q : Program} {w : World} {K : PySem.W.Frag} {h : Heap} {mg : Str → Option Value} {fa : Addr} (X : K.In h) (G : h.Ns mainGlobals mg) (hfa : mg "law" = some (.ref fa)) (TT : TopTabs q K mg h)
    {C : Addr} {cdC : ClassData} {rAf : Addr} {foA roA foS roS : Option Value} {HE : Addr} {CB ccBadPlace cdaBadPlace : Addr} {nmBadPlace qnBadPlace : Str} {NBBadPlace : Addr} {bsBadPlace bmBadPlace : List Value} {snBadPlace : List Str} {subBadPlace : List Value} {abBadPlace : Bool} {colBadPlace : Option Bool} {ddBadPlace : Option Addr} {q0BadPlace q1BadPlace q2BadPlace q3BadPlace q5BadPlace : Option Value} {cdBadPlace : ClassData} {fBadPlace : Addr} {odBadPlace anBadPlace : Option Addr} {slBadPlace : Array (Option Value)} {ocBadPlace kVBadPlace dcBadPlace pmBadPlace ctBadPlace : Value} {cclBadPlace : Value} {cddBadPlace : Option Addr} {cvsBadPlace : Array Value} {ccsBadPlace : Array (Option Value)} {fileBadPlace : Str} {tfBadPlace : Tok} {clvBadPlace : Value} {cldBadPlace : Option Addr} {cslBadPlace : Array (Option Value)} {CS ccBadSize cdaBadSize : Addr} {nmBadSize qnBadSize : Str} {NBBadSize : Addr} {bsBadSize bmBadSize : List Value} {snBadSize : List Str} {subBadSize : List Value} {abBadSize : Bool} {colBadSize : Option Bool} {ddBadSize : Option Addr} {q0BadSize q1BadSize q2BadSize q3BadSize q5BadSize : Option Value} {cdBadSize : ClassData} {fBadSize : Addr} {odBadSize anBadSize : Option Addr} {slBadSize : Array (Option Value)} {ocBadSize kVBadSize dcBadSize pmBadSize ctBadSize : Value} {cclBadSize : Value} {cddBadSize : Option Addr} {cvsBadSize : Array Value} {ccsBadSize : Array (Option Value)} {fileBadSize : Str} {tfBadSize : Tok} {clvBadSize : Value} {cldBadSize : Option Addr} {cslBadSize : Array (Option Value)} {CC ccBadClass cdaBadClass : Addr} {nmBadClass qnBadClass : Str} {NBBadClass : Addr} {bsBadClass bmBadClass : List Value} {snBadClass : List Str} {subBadClass : List Value} {abBadClass : Bool} {colBadClass : Option Bool} {ddBadClass : Option Addr} {q0BadClass q1BadClass q2BadClass q3BadClass q5BadClass : Option Value} {cdBadClass : ClassData} {fBadClass : Addr} {odBadClass anBadClass : Option Addr} {slBadClass : Array (Option Value)} {ocBadClass kVBadClass dcBadClass pmBadClass ctBadClass : Value} {cclBadClass : Value} {cddBadClass : Option Addr} {cvsBadClass : Array Value} {ccsBadClass : Array (Option Value)} {fileBadClass : Str} {tfBadClass : Tok} {clvBadClass : Value} {cldBadClass : Option Addr} {cslBadClass : Array (Option Value)} {CZ : Addr} {f1 : Addr} {od1 an1 : Option Addr} {sl1 : Array (Option Value)} {oc1 kV1 dc1 pm1 cd1 ct1 : Value} {T1 : Addr} {dt1 : Tok} {dcq1 : Value} {dd1 : Option Addr} {dn1 : Nat} {ds1 : Array (Option Value)} {f2 : Addr} {od2 an2 : Option Addr} {sl2 : Array (Option Value)} {oc2 kV2 dc2 pm2 cd2 ct2 : Value} {f3 : Addr} {od3 an3 : Option Addr} {sl3 : Array (Option Value)} {oc3 kV3 dc3 pm3 cd3 ct3 : Value} {f4 : Addr} {od4 an4 : Option Addr} {sl4 : Array (Option Value)} {oc4 kV4 dc4 pm4 cd4 ct4 : Value} {TI : Addr} {dcI : Value} {ddI : Option Addr} {dnI : Nat} {dsI : Array (Option Value)} {f5 : Addr} {od5 an5 : Option Addr} {sl5 : Array (Option Value)} {oc5 kV5 dc5 pm5 cd5 ct5 : Value} {f6 : Addr} {od6 an6 : Option Addr} {sl6 : Array (Option Value)} {oc6 kV6 dc6 pm6 cd6 ct6 : Value} {f7 : Addr} {od7 an7 : Option Addr} {sl7 : Array (Option Value)} {oc7 kV7 dc7 pm7 cd7 ct7 : Value} {f8 : Addr} {od8 an8 : Option Addr} {sl8 : Array (Option Value)} {oc8 kV8 dc8 pm8 cd8 ct8 : Value} {f9 : Addr} {od9 an9 : Option Addr} {sl9 : Array (Option Value)} {oc9 kV9 dc9 pm9 cd9 ct9 : Value} {f10 : Addr} {od10 an10 : Option Addr} {sl10 : Array (Option Value)} {oc10 kV10 dc10 pm10 cd10 ct10 : Value} {f11 : Addr} {od11 an11 : Option Addr} {sl11 : Array (Option Value)} {oc11 kV11 dc11 pm11 cd11 ct11 : Value} {f12 : Addr} {od12 an12 : Option Addr} {sl12 : Array (Option Value)} {oc12 kV12 dc12 pm12 cd12 ct12 : Value} {f13 : Addr} {od13 an13 : Option Addr} {sl13 : Array (Option Value)} {oc13 kV13 dc13 pm13 cd13 ct13 : Value} {f14 : Addr} {od14 an14 : Option Addr} {sl14 : Array (Option Value)} {oc14 kV14 dc14 pm14 cd14 ct14 : Value} {f15 : Addr} {od15 an15 : Option Addr} {sl15 : Array (Option Value)} {oc15 kV15 dc15 pm15 cd15 ct15 : Value} {f16 : Addr} {od16 an16 : Option Addr} {sl16 : Array (Option Value)} {oc16 kV16 dc16 pm16 cd16 ct16 : Value} {f17 : Addr} {od17 an17 : Option Addr} {sl17 : Array (Option Value)} {oc17 kV17 dc17 pm17 cd17 ct17 : Value} {f18 : Addr} {od18 an18 : Option Addr} {sl18 : Array (Option Value)} {oc18 kV18 dc18 pm18 cd18 ct18 : Value} {f19 : Addr} {od19 an19 : Option Addr} {sl19 : Array (Option Value)} {oc19 kV19 dc19 pm19 cd19 ct19 : Value} {f20 : Addr} {od20 an20 : Option Addr} {sl20 : Array (Option Value)} {oc20 kV20 dc20 pm20 cd20 ct20 : Value} {f21 : Addr} {od21 an21 : Option Addr} {sl21 : Array (Option Value)} {oc21 kV21 dc21 pm21 cd21 ct21 : Value} {od0 an0 : Option Addr} {sl0 : Array (Option Value)} {oc0 kV0 dc0 pm0 ct0 : Value} {f0 c0 P0 : Addr} {e0 : Value} {dd0 : Option Addr} {vs0 : Array Value} {s0 : Array (Option Value)}
    (z_abs : PySem.W.nsIn K mainGlobals "abs" = some none)
    (z_bool : PySem.W.nsIn K mainGlobals "bool" = some none)
    (z_dict : PySem.W.nsIn K mainGlobals "dict" = some none)
    (z_enumerate : PySem.W.nsIn K mainGlobals "enumerate" = some none)
    (z_int : PySem.W.nsIn K mainGlobals "int" = some none)
    (z_isinstance : PySem.W.nsIn K mainGlobals "isinstance" = some none)
    (z_len : PySem.W.nsIn K mainGlobals "len" = some none)
    (z_list : PySem.W.nsIn K mainGlobals "list" = some none)
    (z_range : PySem.W.nsIn K mainGlobals "range" = some none)
    (z_sorted : PySem.W.nsIn K mainGlobals "sorted" = some none)
    (z_super : PySem.W.nsIn K mainGlobals "super" = some none)
    (z_tuple : PySem.W.nsIn K mainGlobals "tuple" = some none)
    (z_zip : PySem.W.nsIn K mainGlobals "zip" = some none)
    (gC : PySem.W.nsIn K mainGlobals "Place" = some (some (.ref C)))
    (pg : PySem.W.plainGet K C Str.empty = true)
    (hd : PySem.W.hasDictIn K C = true)
    (po : PySem.W.plainOver K C = true)
    (sa : PySem.W.findIn K (.ref C) "__setattr__" = some (some (.builtin "object.__setattr__")))
    (n1 : PySem.W.findIn K (.ref C) "slope" = some none)
    (n2 : PySem.W.findIn K (.ref C) "offset" = some none)
    (n3 : PySem.W.findIn K (.ref C) "odd" = some none)
    (sf : PySem.W.selfFirst K C = true)
    (cC : PySem.W.clsIn K C = some cdC)
    (iC : PySem.W.isClsIn K C = true)
    (tC : PySem.W.typeIn K (.ref C) = some (.type "type"))
    (ne1 : PySem.W.findIn K (.ref C) "__ne__" = some (some (.builtin "object.__ne__")))
    (ne2 : PySem.W.subIn K (.ref C) (.type "object") = some true)
    (ha : PySem.W.findIn K (.ref C) "__class__" = some (some (.builtin "object.__class__")))
    (hn : PySem.W.specialIn K (.builtin "object.__class__") "__get__" = some (some (.builtin "getset_descriptor.__get__")))
    (tk : PySem.W.takesIn K (.builtin "object.__class__") = some true)
    (mo : PySem.W.mroIn K C (.type "object") = some true)
    (sI : PySem.W.subIn K (.ref C) (.type "int") = some false)
    (rA : PySem.W.findIn K (.ref C) (dunderR "add") = some (some (.ref rAf)))
    (rS : PySem.W.findIn K (.ref C) (dunderR "sub") = some none)
    (oA : PySem.W.findIn K (.type "int") (PySem.dunder "add") = some foA)
    (pA : PySem.W.findIn K (.type "int") (dunderR "add") = some roA)
    (oS : PySem.W.findIn K (.type "int") (PySem.dunder "sub") = some foS)
    (pS : PySem.W.findIn K (.type "int") (dunderR "sub") = some roS)
    (sIC : PySem.W.subIn K (.type "int") (.ref C) = some false)
    (hi : PySem.W.findIn K (.ref C) "__iadd__" = some none)
    (mk : PySem.W.makesIn K C = true)
    (kc : PySem.W.keepIn K (.ref C) = true)
    (pm : cdC.mro = [.ref C, .type "object"])
    (gH : PySem.W.nsIn K mainGlobals "HoldError" = some (some (.ref HE)))
    (top : (l.prog.main.scope.names.lookup ("super" : Str)).isSome = false)
    (opq : PySem.W.nsIn K cStatics "thirdparty.any" = some none)
    (h1 : PySem.W.subIn K (.ref HE) (.type "BaseException") = some true)
    (h2 : PySem.W.hasDictIn K HE = true)
    (h3 : PySem.W.typeIn K (.ref HE) = some (.type "type"))
    (gBadPlace : PySem.W.nsIn K mainGlobals "BadPlace" = some (some (.ref CB)))
    (lBadPlace : K.lookup CB = some (excClassObj nmBadPlace qnBadPlace CB NBBadPlace bsBadPlace bmBadPlace true snBadPlace subBadPlace abBadPlace colBadPlace ddBadPlace q0BadPlace q1BadPlace q2BadPlace q3BadPlace q5BadPlace "ValueError.__new__"))
    (rBadPlace : PySem.HandSPX.refsVE bmBadPlace = true)
    (saBadPlace : PySem.W.findIn K (.ref CB) "__setattr__" = some (some (.builtin "object.__setattr__")))
    (exBadPlace : PySem.W.subIn K (.ref CB) (.type "BaseException") = some true)
    (tyBadPlace : PySem.W.typeIn K (.ref CB) = some (.type "type"))
    (kBadPlace : PySem.W.keepIn K (.ref CB) = true)
    (iBadPlace : PySem.W.findIn K (.ref CB) "__init__" = some (some (.ref fBadPlace)))
    (tIBadPlace : PySem.W.typeIn K (.ref fBadPlace) = some (.type "function"))
    (lIBadPlace : K.lookup fBadPlace = some ⟨ocBadPlace, odBadPlace, .func (PySem.W.ksFn "__init__" "BadPlace.__init__" (defArgs s_BadPlace_init) (defBody s_BadPlace_init) (defScope s_BadPlace_init) .none kVBadPlace dcBadPlace pmBadPlace anBadPlace (.ref cdaBadPlace) ctBadPlace ccBadPlace), slBadPlace⟩)
    (cIBadPlace : PySem.W.codeIn K (.ref cdaBadPlace) "BadPlace.__init__" = true)
    (lkBadPlace : K.lookup cdaBadPlace = some ⟨cclBadPlace, cddBadPlace, .fields cvsBadPlace, ccsBadPlace⟩)
    (vkBadPlace : cvsBadPlace[2]? = some (Value.str fileBadPlace tfBadPlace))
    (fkBadPlace : ((l.prog.main.file : Str) == fileBadPlace) = true)
    (lccBadPlace : K.lookup ccBadPlace = some ⟨clvBadPlace, cldBadPlace, .cell (some (.ref CB)), cslBadPlace⟩)
    (clBadPlace : PySem.W.clsIn K CB = some cdBadPlace)
    (mrBadPlace : PySem.W.mroIn K CB (.ref CB) = some true)
    (iniBadPlace : PySem.W.ks_superIn K CB CB "__init__" = some (some (.builtin "ValueError.__init__")))
    (isVBadPlace : PySem.W.subIn K (.ref CB) (.type "ValueError") = some true)
    (no0BadPlace : PySem.W.findIn K (.ref CB) "part" = some none)
    (gaBadPlace : PySem.W.findIn K (.ref CB) "__getattribute__" = some (some (.builtin "BaseException.__getattribute__")))
    (ggBadPlace : PySem.W.findIn K (.ref CB) "__getattr__" = some none)
    (hdBadPlace : PySem.W.hasDictIn K CB = true)
    (haBadPlace : PySem.W.findIn K (.ref CB) "__class__" = some (some (.builtin "object.__class__")))
    (moBadPlace : PySem.W.mroIn K CB (.type "object") = some true)
    (heBadPlace : PySem.W.subIn K (.ref CB) (.ref HE) = some true)
    (gBadSize : PySem.W.nsIn K mainGlobals "BadSize" = some (some (.ref CS)))
    (lBadSize : K.lookup CS = some (excClassObj nmBadSize qnBadSize CS NBBadSize bsBadSize bmBadSize true snBadSize subBadSize abBadSize colBadSize ddBadSize q0BadSize q1BadSize q2BadSize q3BadSize q5BadSize "ValueError.__new__"))
    (rBadSize : PySem.HandSPX.refsVE bmBadSize = true)
    (saBadSize : PySem.W.findIn K (.ref CS) "__setattr__" = some (some (.builtin "object.__setattr__")))
    (exBadSize : PySem.W.subIn K (.ref CS) (.type "BaseException") = some true)
    (tyBadSize : PySem.W.typeIn K (.ref CS) = some (.type "type"))
    (kBadSize : PySem.W.keepIn K (.ref CS) = true)
    (iBadSize : PySem.W.findIn K (.ref CS) "__init__" = some (some (.ref fBadSize)))
    (tIBadSize : PySem.W.typeIn K (.ref fBadSize) = some (.type "function"))
    (lIBadSize : K.lookup fBadSize = some ⟨ocBadSize, odBadSize, .func (PySem.W.ksFn "__init__" "BadSize.__init__" (defArgs s_BadSize_init) (defBody s_BadSize_init) (defScope s_BadSize_init) .none kVBadSize dcBadSize pmBadSize anBadSize (.ref cdaBadSize) ctBadSize ccBadSize), slBadSize⟩)
    (cIBadSize : PySem.W.codeIn K (.ref cdaBadSize) "BadSize.__init__" = true)
    (lkBadSize : K.lookup cdaBadSize = some ⟨cclBadSize, cddBadSize, .fields cvsBadSize, ccsBadSize⟩)
    (vkBadSize : cvsBadSize[2]? = some (Value.str fileBadSize tfBadSize))
    (fkBadSize : ((l.prog.main.file : Str) == fileBadSize) = true)
    (lccBadSize : K.lookup ccBadSize = some ⟨clvBadSize, cldBadSize, .cell (some (.ref CS)), cslBadSize⟩)
    (clBadSize : PySem.W.clsIn K CS = some cdBadSize)
    (mrBadSize : PySem.W.mroIn K CS (.ref CS) = some true)
    (iniBadSize : PySem.W.ks_superIn K CS CS "__init__" = some (some (.builtin "ValueError.__init__")))
    (isVBadSize : PySem.W.subIn K (.ref CS) (.type "ValueError") = some true)
    (no0BadSize : PySem.W.findIn K (.ref CS) "part" = some none)
    (gaBadSize : PySem.W.findIn K (.ref CS) "__getattribute__" = some (some (.builtin "BaseException.__getattribute__")))
    (ggBadSize : PySem.W.findIn K (.ref CS) "__getattr__" = some none)
    (hdBadSize : PySem.W.hasDictIn K CS = true)
    (haBadSize : PySem.W.findIn K (.ref CS) "__class__" = some (some (.builtin "object.__class__")))
    (moBadSize : PySem.W.mroIn K CS (.type "object") = some true)
    (heBadSize : PySem.W.subIn K (.ref CS) (.ref HE) = some true)
    (gBadClass : PySem.W.nsIn K mainGlobals "BadClass" = some (some (.ref CC)))
    (lBadClass : K.lookup CC = some (excClassObj nmBadClass qnBadClass CC NBBadClass bsBadClass bmBadClass true snBadClass subBadClass abBadClass colBadClass ddBadClass q0BadClass q1BadClass q2BadClass q3BadClass q5BadClass "ValueError.__new__"))
    (rBadClass : PySem.HandSPX.refsVE bmBadClass = true)
    (saBadClass : PySem.W.findIn K (.ref CC) "__setattr__" = some (some (.builtin "object.__setattr__")))
    (exBadClass : PySem.W.subIn K (.ref CC) (.type "BaseException") = some true)
    (tyBadClass : PySem.W.typeIn K (.ref CC) = some (.type "type"))
    (kBadClass : PySem.W.keepIn K (.ref CC) = true)
    (iBadClass : PySem.W.findIn K (.ref CC) "__init__" = some (some (.ref fBadClass)))
    (tIBadClass : PySem.W.typeIn K (.ref fBadClass) = some (.type "function"))
    (lIBadClass : K.lookup fBadClass = some ⟨ocBadClass, odBadClass, .func (PySem.W.ksFn "__init__" "BadClass.__init__" (defArgs s_BadClass_init) (defBody s_BadClass_init) (defScope s_BadClass_init) .none kVBadClass dcBadClass pmBadClass anBadClass (.ref cdaBadClass) ctBadClass ccBadClass), slBadClass⟩)
    (cIBadClass : PySem.W.codeIn K (.ref cdaBadClass) "BadClass.__init__" = true)
    (lkBadClass : K.lookup cdaBadClass = some ⟨cclBadClass, cddBadClass, .fields cvsBadClass, ccsBadClass⟩)
    (vkBadClass : cvsBadClass[2]? = some (Value.str fileBadClass tfBadClass))
    (fkBadClass : ((l.prog.main.file : Str) == fileBadClass) = true)
    (lccBadClass : K.lookup ccBadClass = some ⟨clvBadClass, cldBadClass, .cell (some (.ref CC)), cslBadClass⟩)
    (clBadClass : PySem.W.clsIn K CC = some cdBadClass)
    (mrBadClass : PySem.W.mroIn K CC (.ref CC) = some true)
    (iniBadClass : PySem.W.ks_superIn K CC CC "__init__" = some (some (.builtin "ValueError.__init__")))
    (isVBadClass : PySem.W.subIn K (.ref CC) (.type "ValueError") = some true)
    (no0BadClass : PySem.W.findIn K (.ref CC) "part" = some none)
    (gaBadClass : PySem.W.findIn K (.ref CC) "__getattribute__" = some (some (.builtin "BaseException.__getattribute__")))
    (ggBadClass : PySem.W.findIn K (.ref CC) "__getattr__" = some none)
    (hdBadClass : PySem.W.hasDictIn K CC = true)
    (haBadClass : PySem.W.findIn K (.ref CC) "__class__" = some (some (.builtin "object.__class__")))
    (moBadClass : PySem.W.mroIn K CC (.type "object") = some true)
    (heBadClass : PySem.W.subIn K (.ref CC) (.ref HE) = some true)
    (gCZ : PySem.W.nsIn K mainGlobals "Sizes" = some (some (.ref CZ)))
    (zpg : PySem.W.plainGet K CZ Str.empty = true)
    (zhd : PySem.W.hasDictIn K CZ = true)
    (zpo : PySem.W.plainOver K CZ = true)
    (zsa : PySem.W.findIn K (.ref CZ) "__setattr__" = some (some (.builtin "object.__setattr__")))
    (zn1 : PySem.W.findIn K (.ref CZ) "low" = some none)
    (zn2 : PySem.W.findIn K (.ref CZ) "high" = some none)
    (ziC : PySem.W.isClsIn K CZ = true)
    (ztC : PySem.W.typeIn K (.ref CZ) = some (.type "type"))
    (zne1 : PySem.W.findIn K (.ref CZ) "__ne__" = some (some (.builtin "object.__ne__")))
    (zne2 : PySem.W.subIn K (.ref CZ) (.type "object") = some true)
    (zha : PySem.W.findIn K (.ref CZ) "__class__" = some (some (.builtin "object.__class__")))
    (zmo : PySem.W.mroIn K CZ (.type "object") = some true)
    (zsT : PySem.W.subIn K (.type "tuple") (.ref CZ) = some false)
    (zmk : PySem.W.makesIn K CZ = true)
    (zkc : PySem.W.keepIn K (.ref CZ) = true)
    (a1 : PySem.W.findIn K (.ref C) "__init__" = some (some (.ref f1)))
    (i1 : PySem.W.isFn K (.ref f1) = true)
    (l1 : K.lookup f1 = some ⟨oc1, od1, .func (PySem.W.fnOf "__init__" "Place.__init__" (defArgs s_Place_init) (defBody s_Place_init) (defScope s_Place_init) (.ref T1) kV1 dc1 pm1 an1 cd1 ct1), sl1⟩)
    (t1 : K.lookup T1 = some ⟨dcq1, dd1, .seq #[.int 0 dt1] dn1, ds1⟩)
    (c1 : PySem.W.codeIn K cd1 "Place.__init__" = true)
    (k1 : PySem.W.keepIn K (.ref f1) = true)
    (a2 : PySem.W.findIn K (.ref C) "__eq__" = some (some (.ref f2)))
    (i2 : PySem.W.isFn K (.ref f2) = true)
    (l2 : K.lookup f2 = some ⟨oc2, od2, .func (PySem.W.fnOf "__eq__" "Place.__eq__" (defArgs s_Place_eq) (defBody s_Place_eq) (defScope s_Place_eq) .none kV2 dc2 pm2 an2 cd2 ct2), sl2⟩)
    (c2 : PySem.W.codeIn K cd2 "Place.__eq__" = true)
    (k2 : PySem.W.keepIn K (.ref f2) = true)
    (a3 : PySem.W.findIn K (.ref CZ) "__contains__" = some (some (.ref f3)))
    (i3 : PySem.W.isFn K (.ref f3) = true)
    (l3 : K.lookup f3 = some ⟨oc3, od3, .func (PySem.W.fnOf "__contains__" "Sizes.__contains__" (defArgs s_Sizes_contains) (defBody s_Sizes_contains) (defScope s_Sizes_contains) .none kV3 dc3 pm3 an3 cd3 ct3), sl3⟩)
    (c3 : PySem.W.codeIn K cd3 "Sizes.__contains__" = true)
    (k3 : PySem.W.keepIn K (.ref f3) = true)
    (a4 : PySem.W.findIn K (.ref CZ) "__init__" = some (some (.ref f4)))
    (i4 : PySem.W.isFn K (.ref f4) = true)
    (l4 : K.lookup f4 = some ⟨oc4, od4, .func (PySem.W.fnOf "__init__" "Sizes.__init__" (defArgs s_Sizes_init) (defBody s_Sizes_init) (defScope s_Sizes_init) (.ref TI) kV4 dc4 pm4 an4 cd4 ct4), sl4⟩)
    (tI2 : K.lookup TI = some ⟨dcI, ddI, .seq #[.none] dnI, dsI⟩)
    (c4 : PySem.W.codeIn K cd4 "Sizes.__init__" = true)
    (k4 : PySem.W.keepIn K (.ref f4) = true)
    (a5 : PySem.W.nsIn K mainGlobals "is_whole" = some (some (.ref f5)))
    (l5 : K.lookup f5 = some ⟨oc5, od5, .func (PySem.W.fnOf "is_whole" "is_whole" (defArgs s_is_whole) (defBody s_is_whole) (defScope s_is_whole) .none kV5 dc5 pm5 an5 cd5 ct5), sl5⟩)
    (c5 : PySem.W.codeIn K cd5 "is_whole" = true)
    (k5 : PySem.W.keepIn K (.ref f5) = true)
    (a6 : PySem.W.nsIn K mainGlobals "ascending" = some (some (.ref f6)))
    (l6 : K.lookup f6 = some ⟨oc6, od6, .func (PySem.W.fnOf "ascending" "ascending" (defArgs s_ascending) (defBody s_ascending) (defScope s_ascending) .none kV6 dc6 pm6 an6 cd6 ct6), sl6⟩)
    (c6 : PySem.W.codeIn K cd6 "ascending" = true)
    (k6 : PySem.W.keepIn K (.ref f6) = true)
    (a7 : PySem.W.nsIn K mainGlobals "gaps_of" = some (some (.ref f7)))
    (l7 : K.lookup f7 = some ⟨oc7, od7, .func (PySem.W.fnOf "gaps_of" "gaps_of" (defArgs s_gaps_of) (defBody s_gaps_of) (defScope s_gaps_of) .none kV7 dc7 pm7 an7 cd7 ct7), sl7⟩)
    (c7 : PySem.W.codeIn K cd7 "gaps_of" = true)
    (k7 : PySem.W.keepIn K (.ref f7) = true)
    (a8 : PySem.W.nsIn K mainGlobals "turns_of" = some (some (.ref f8)))
    (l8 : K.lookup f8 = some ⟨oc8, od8, .func (PySem.W.fnOf "turns_of" "turns_of" (defArgs s_turns_of) (defBody s_turns_of) (defScope s_turns_of) .none kV8 dc8 pm8 an8 cd8 ct8), sl8⟩)
    (c8 : PySem.W.codeIn K cd8 "turns_of" = true)
    (k8 : PySem.W.keepIn K (.ref f8) = true)
    (a9 : PySem.W.nsIn K mainGlobals "classes_of_parity" = some (some (.ref f9)))
    (l9 : K.lookup f9 = some ⟨oc9, od9, .func (PySem.W.fnOf "classes_of_parity" "classes_of_parity" (defArgs s_classes_of_parity) (defBody s_classes_of_parity) (defScope s_classes_of_parity) .none kV9 dc9 pm9 an9 cd9 ct9), sl9⟩)
    (c9 : PySem.W.codeIn K cd9 "classes_of_parity" = true)
    (k9 : PySem.W.keepIn K (.ref f9) = true)
    (a10 : PySem.W.nsIn K mainGlobals "class_of" = some (some (.ref f10)))
    (l10 : K.lookup f10 = some ⟨oc10, od10, .func (PySem.W.fnOf "class_of" "class_of" (defArgs s_class_of) (defBody s_class_of) (defScope s_class_of) .none kV10 dc10 pm10 an10 cd10 ct10), sl10⟩)
    (c10 : PySem.W.codeIn K cd10 "class_of" = true)
    (k10 : PySem.W.keepIn K (.ref f10) = true)
    (a11 : PySem.W.nsIn K mainGlobals "_law_bag" = some (some (.ref f11)))
    (l11 : K.lookup f11 = some ⟨oc11, od11, .func (PySem.W.fnOf "_law_bag" "_law_bag" (defArgs s_l_bag) (defBody s_l_bag) (defScope s_l_bag) .none kV11 dc11 pm11 an11 cd11 ct11), sl11⟩)
    (c11 : PySem.W.codeIn K cd11 "_law_bag" = true)
    (k11 : PySem.W.keepIn K (.ref f11) = true)
    (a12 : PySem.W.nsIn K mainGlobals "_law_draw" = some (some (.ref f12)))
    (l12 : K.lookup f12 = some ⟨oc12, od12, .func (PySem.W.fnOf "_law_draw" "_law_draw" (defArgs s_l_draw) (defBody s_l_draw) (defScope s_l_draw) .none kV12 dc12 pm12 an12 cd12 ct12), sl12⟩)
    (c12 : PySem.W.codeIn K cd12 "_law_draw" = true)
    (k12 : PySem.W.keepIn K (.ref f12) = true)
    (a13 : PySem.W.nsIn K mainGlobals "_law_parts" = some (some (.ref f13)))
    (l13 : K.lookup f13 = some ⟨oc13, od13, .func (PySem.W.fnOf "_law_parts" "_law_parts" (defArgs s_l_parts) (defBody s_l_parts) (defScope s_l_parts) .none kV13 dc13 pm13 an13 cd13 ct13), sl13⟩)
    (c13 : PySem.W.codeIn K cd13 "_law_parts" = true)
    (k13 : PySem.W.keepIn K (.ref f13) = true)
    (a14 : PySem.W.nsIn K mainGlobals "_law_at" = some (some (.ref f14)))
    (l14 : K.lookup f14 = some ⟨oc14, od14, .func (PySem.W.fnOf "_law_at" "_law_at" (defArgs s_l_at) (defBody s_l_at) (defScope s_l_at) .none kV14 dc14 pm14 an14 cd14 ct14), sl14⟩)
    (c14 : PySem.W.codeIn K cd14 "_law_at" = true)
    (k14 : PySem.W.keepIn K (.ref f14) = true)
    (a15 : PySem.W.nsIn K mainGlobals "_law_place" = some (some (.ref f15)))
    (l15 : K.lookup f15 = some ⟨oc15, od15, .func (PySem.W.fnOf "_law_place" "_law_place" (defArgs s_l_place) (defBody s_l_place) (defScope s_l_place) .none kV15 dc15 pm15 an15 cd15 ct15), sl15⟩)
    (c15 : PySem.W.codeIn K cd15 "_law_place" = true)
    (k15 : PySem.W.keepIn K (.ref f15) = true)
    (a16 : PySem.W.nsIn K mainGlobals "_law_heard" = some (some (.ref f16)))
    (l16 : K.lookup f16 = some ⟨oc16, od16, .func (PySem.W.fnOf "_law_heard" "_law_heard" (defArgs s_l_heard) (defBody s_l_heard) (defScope s_l_heard) .none kV16 dc16 pm16 an16 cd16 ct16), sl16⟩)
    (c16 : PySem.W.codeIn K cd16 "_law_heard" = true)
    (k16 : PySem.W.keepIn K (.ref f16) = true)
    (a17 : PySem.W.nsIn K mainGlobals "_law_some" = some (some (.ref f17)))
    (l17 : K.lookup f17 = some ⟨oc17, od17, .func (PySem.W.fnOf "_law_some" "_law_some" (defArgs s_l_some) (defBody s_l_some) (defScope s_l_some) .none kV17 dc17 pm17 an17 cd17 ct17), sl17⟩)
    (c17 : PySem.W.codeIn K cd17 "_law_some" = true)
    (k17 : PySem.W.keepIn K (.ref f17) = true)
    (a18 : PySem.W.nsIn K mainGlobals "_law_signs" = some (some (.ref f18)))
    (l18 : K.lookup f18 = some ⟨oc18, od18, .func (PySem.W.fnOf "_law_signs" "_law_signs" (defArgs s_l_signs) (defBody s_l_signs) (defScope s_l_signs) .none kV18 dc18 pm18 an18 cd18 ct18), sl18⟩)
    (c18 : PySem.W.codeIn K cd18 "_law_signs" = true)
    (k18 : PySem.W.keepIn K (.ref f18) = true)
    (a19 : PySem.W.nsIn K mainGlobals "_law_due" = some (some (.ref f19)))
    (l19 : K.lookup f19 = some ⟨oc19, od19, .func (PySem.W.fnOf "_law_due" "_law_due" (defArgs s_l_due) (defBody s_l_due) (defScope s_l_due) .none kV19 dc19 pm19 an19 cd19 ct19), sl19⟩)
    (c19 : PySem.W.codeIn K cd19 "_law_due" = true)
    (k19 : PySem.W.keepIn K (.ref f19) = true)
    (a20 : PySem.W.nsIn K mainGlobals "_law_far_right" = some (some (.ref f20)))
    (l20 : K.lookup f20 = some ⟨oc20, od20, .func (PySem.W.fnOf "_law_far_right" "_law_far_right" (defArgs s_l_far_right) (defBody s_l_far_right) (defScope s_l_far_right) .none kV20 dc20 pm20 an20 cd20 ct20), sl20⟩)
    (c20 : PySem.W.codeIn K cd20 "_law_far_right" = true)
    (k20 : PySem.W.keepIn K (.ref f20) = true)
    (a21 : PySem.W.nsIn K mainGlobals "classes" = some (some (.ref f21)))
    (l21 : K.lookup f21 = some ⟨oc21, od21, .func (PySem.W.fnOf "classes" "classes" (defArgs s_classes) (defBody s_classes) (defScope s_classes) .none kV21 dc21 pm21 an21 cd21 ct21), sl21⟩)
    (c21 : PySem.W.codeIn K cd21 "classes" = true)
    (k21 : PySem.W.keepIn K (.ref f21) = true)
    (a0 : PySem.W.nsIn K mainGlobals "law" = some (some (.ref f0)))
    (l0 : K.lookup f0 = some ⟨oc0, od0, .func (PySem.W.fnOf "law" "law" (defArgs s_law) (defBody s_law) (defScope s_law) .none kV0 dc0 pm0 an0 (.ref c0) ct0), sl0⟩)
    (cd0 : PySem.W.codeIn K (.ref c0) "law" = true)
    (lc0 : K.lookup c0 = some ⟨e0, dd0, .fields vs0, s0⟩)
    (v11 : vs0[11]? = some (Value.ref P0))
    (nP0 : K.lookup P0 = none)
    (ch0 : PySem.W.codeHdIn K c0 P0 = true)
    (rec : ((recsOf q).any fun e => e.name == ("law" : Str)) = true) :
    LawGT l w K 13 mg fa h := by
  have e := hfa.symm.trans (PySem.W.mg_of X G a0)
  cases e
  have T : Txt K mg := ⟨PySem.W.mg_none_of X G z_abs, PySem.W.mg_none_of X G z_bool, PySem.W.mg_none_of X G z_dict, PySem.W.mg_none_of X G z_enumerate, PySem.W.mg_none_of X G z_int, PySem.W.mg_none_of X G z_isinstance, PySem.W.mg_none_of X G z_len, PySem.W.mg_none_of X G z_list, PySem.W.mg_none_of X G z_range, PySem.W.mg_none_of X G z_sorted, PySem.W.mg_none_of X G z_super, PySem.W.mg_none_of X G z_tuple, PySem.W.mg_none_of X G z_zip⟩
  have C0 : PlC K mg C := ⟨⟨pg, hd, po, sa⟩, n1, n2, n3, PySem.W.mg_of X G gC, sf, plainMro_mk cC pm, ⟨ne1, ne2⟩, ha, hn, tk, mo, kitOne_mk iC tC sIC, sI, ⟨⟨_, rA, .inr ⟨_, rfl⟩⟩, ⟨_, oA⟩, ⟨_, pA⟩, sIC⟩, ⟨⟨_, rS, .inl rfl⟩, ⟨_, oS⟩, ⟨_, pS⟩, sIC⟩, hi⟩
  have O_BadPlace : OexC K CB := ⟨⟨nmBadPlace, qnBadPlace, NBBadPlace, bsBadPlace, bmBadPlace, snBadPlace, subBadPlace, abBadPlace, colBadPlace, ddBadPlace, q0BadPlace, q1BadPlace, q2BadPlace, q3BadPlace, q5BadPlace, lBadPlace, rBadPlace⟩, saBadPlace, exBadPlace, tyBadPlace, kBadPlace⟩
  have U_BadPlace : SupC l.prog K mg CB ccBadPlace cdaBadPlace := ⟨⟨_, _, _, _, _, _, lkBadPlace, vkBadPlace, fkBadPlace⟩, ⟨_, _, _, lccBadPlace⟩, ⟨_, clBadPlace⟩, mrBadPlace, PySem.W.mg_none_of X G z_super, top, opq, iniBadPlace, isVBadPlace⟩
  have X_BadPlace : ExcC K CB := ⟨gaBadPlace, ggBadPlace, exBadPlace, hdBadPlace, haBadPlace, hn, tk, moBadPlace⟩
  have F_BadPlace : XfC K CB := ⟨gaBadPlace, ggBadPlace, exBadPlace, hdBadPlace⟩
  have O_BadSize : OexC K CS := ⟨⟨nmBadSize, qnBadSize, NBBadSize, bsBadSize, bmBadSize, snBadSize, subBadSize, abBadSize, colBadSize, ddBadSize, q0BadSize, q1BadSize, q2BadSize, q3BadSize, q5BadSize, lBadSize, rBadSize⟩, saBadSize, exBadSize, tyBadSize, kBadSize⟩
  have U_BadSize : SupC l.prog K mg CS ccBadSize cdaBadSize := ⟨⟨_, _, _, _, _, _, lkBadSize, vkBadSize, fkBadSize⟩, ⟨_, _, _, lccBadSize⟩, ⟨_, clBadSize⟩, mrBadSize, PySem.W.mg_none_of X G z_super, top, opq, iniBadSize, isVBadSize⟩
  have X_BadSize : ExcC K CS := ⟨gaBadSize, ggBadSize, exBadSize, hdBadSize, haBadSize, hn, tk, moBadSize⟩
  have F_BadSize : XfC K CS := ⟨gaBadSize, ggBadSize, exBadSize, hdBadSize⟩
  have O_BadClass : OexC K CC := ⟨⟨nmBadClass, qnBadClass, NBBadClass, bsBadClass, bmBadClass, snBadClass, subBadClass, abBadClass, colBadClass, ddBadClass, q0BadClass, q1BadClass, q2BadClass, q3BadClass, q5BadClass, lBadClass, rBadClass⟩, saBadClass, exBadClass, tyBadClass, kBadClass⟩
  have U_BadClass : SupC l.prog K mg CC ccBadClass cdaBadClass := ⟨⟨_, _, _, _, _, _, lkBadClass, vkBadClass, fkBadClass⟩, ⟨_, _, _, lccBadClass⟩, ⟨_, clBadClass⟩, mrBadClass, PySem.W.mg_none_of X G z_super, top, opq, iniBadClass, isVBadClass⟩
  have X_BadClass : ExcC K CC := ⟨gaBadClass, ggBadClass, exBadClass, hdBadClass, haBadClass, hn, tk, moBadClass⟩
  have F_BadClass : XfC K CC := ⟨gaBadClass, ggBadClass, exBadClass, hdBadClass⟩
  have S0 : SzC K mg CZ := ⟨⟨zpg, zhd, zpo, zsa⟩, zn1, zn2, PySem.W.mg_of X G gCZ, ⟨zne1, zne2⟩, zha, hn, tk, zmo, kitOne_ty ziC ztC zsT, zsT⟩
  have F1 := funD1_mk (st := s_Place_init) l1 t1 c1 k1
  have b1 : Binds K _ ["self", "slope", "offset", "odd"] [] := FunD.full F1 fun _ _ _ _ _ _ _ us its h1 h2 => match us, h1, its, h2 with | [_, _, _, _], _, [_], _ => ⟨_, rfl, rfl⟩
  have d_Place_eq : MetAt K C "__eq__" "Place.__eq__" s_Place_eq ["self", "other"] := metAt_mk a2 i2 l2 c2 k2 (fun _ _ _ _ _ _ us hl => match us, hl with | [_, _], _ => rfl)
  have d_Sizes_contains : MetAt K CZ "__contains__" "Sizes.__contains__" s_Sizes_contains ["self", "value"] := metAt_mk a3 i3 l3 c3 k3 (fun _ _ _ _ _ _ us hl => match us, hl with | [_, _], _ => rfl)
  have FI := funDN_mk (st := s_Sizes_init) l4 tI2 c4 k4
  have bI : Binds K _ ["self", "low", "high"] [] := FunD.full FI fun _ _ _ _ _ _ _ us its h1 h2 => match us, h1, its, h2 with | [_, _, _], _, [_], _ => ⟨_, rfl, rfl⟩
  have d_is_whole : DefAt K mg "is_whole" s_is_whole ["value"] := defAt_mk X G a5 l5 c5 k5 (fun _ _ _ _ _ _ us hl => match us, hl with | [_], _ => rfl)
  have d_ascending : DefAt K mg "ascending" s_ascending ["numbers"] := defAt_mk X G a6 l6 c6 k6 (fun _ _ _ _ _ _ us hl => match us, hl with | [_], _ => rfl)
  have d_gaps_of : DefAt K mg "gaps_of" s_gaps_of ["places"] := defAt_mk X G a7 l7 c7 k7 (fun _ _ _ _ _ _ us hl => match us, hl with | [_], _ => rfl)
  have d_turns_of : DefAt K mg "turns_of" s_turns_of ["gaps", "parity"] := defAt_mk X G a8 l8 c8 k8 (fun _ _ _ _ _ _ us hl => match us, hl with | [_, _], _ => rfl)
  have d_classes_of_parity : DefAt K mg "classes_of_parity" s_classes_of_parity ["gaps", "parity"] := defAt_mk X G a9 l9 c9 k9 (fun _ _ _ _ _ _ us hl => match us, hl with | [_, _], _ => rfl)
  have d_class_of : DefAt K mg "class_of" s_class_of ["places", "size"] := defAt_mk X G a10 l10 c10 k10 (fun _ _ _ _ _ _ us hl => match us, hl with | [_, _], _ => rfl)
  have d_l_bag : DefAt K mg "_law_bag" s_l_bag ["_law_script"] := defAt_mk X G a11 l11 c11 k11 (fun _ _ _ _ _ _ us hl => match us, hl with | [_], _ => rfl)
  have d_l_draw : DefAt K mg "_law_draw" s_l_draw ["_law_bag_here", "_law_limit"] := defAt_mk X G a12 l12 c12 k12 (fun _ _ _ _ _ _ us hl => match us, hl with | [_, _], _ => rfl)
  have d_l_parts : DefAt K mg "_law_parts" s_l_parts ["_law_bag_here"] := defAt_mk X G a13 l13 c13 k13 (fun _ _ _ _ _ _ us hl => match us, hl with | [_], _ => rfl)
  have d_l_at : DefAt K mg "_law_at" s_l_at ["_law_parts_here", "_law_wide"] := defAt_mk X G a14 l14 c14 k14 (fun _ _ _ _ _ _ us hl => match us, hl with | [_, _], _ => rfl)
  have d_l_place : DefAt K mg "_law_place" s_l_place ["_law_parts_here"] := defAt_mk X G a15 l15 c15 k15 (fun _ _ _ _ _ _ us hl => match us, hl with | [_], _ => rfl)
  have d_l_heard : DefAt K mg "_law_heard" s_l_heard ["_law_ask"] := defAt_mk X G a16 l16 c16 k16 (fun _ _ _ _ _ _ us hl => match us, hl with | [_], _ => rfl)
  have d_l_some : DefAt K mg "_law_some" s_l_some ["_law_bag_here"] := defAt_mk X G a17 l17 c17 k17 (fun _ _ _ _ _ _ us hl => match us, hl with | [_], _ => rfl)
  have d_l_signs : DefAt K mg "_law_signs" s_l_signs ["_law_some_here", "_law_n"] := defAt_mk X G a18 l18 c18 k18 (fun _ _ _ _ _ _ us hl => match us, hl with | [_, _], _ => rfl)
  have d_l_due : DefAt K mg "_law_due" s_l_due ["_law_some_here"] := defAt_mk X G a19 l19 c19 k19 (fun _ _ _ _ _ _ us hl => match us, hl with | [_], _ => rfl)
  have d_l_far_right : DefAt K mg "_law_far_right" s_l_far_right ["_law_far"] := defAt_mk X G a20 l20 c20 k20 (fun _ _ _ _ _ _ us hl => match us, hl with | [_], _ => rfl)
  have FG := fun_mk (st := s_classes) l21 c21 k21
  refine ⟨[(c0, P0)], spLawT K [(P0, "law.<locals>.<lambda>")], fun p hp => ?_, fun p hp => ?_, fun p hp => ?_, fun H a ns hl hH hS => ⟨a, ns, rfl, hS, hl, fun p hp => ?_, fun _ => rfl⟩, fun base _ _ TBs => ?_⟩
  · rw [List.mem_singleton.mp hp]
    exact TT "law" _ c0 P0 _ _ _ _ _ _ rec (PySem.W.mg_of X G a0) l0 rfl rfl lc0 v11
  · rw [List.mem_singleton.mp hp]
    exact nP0
  · rw [List.mem_singleton.mp hp]
    exact PySem.W.codeHd_of_K X ch0
  · rw [List.mem_singleton.mp hp]
    exact TabS.nil (hH (c0, P0) List.mem_cons_self)
  · exact by
      have Er_BadPlace : Err l.prog w K mg base "BadPlace" CB ["part"] := ⟨O_BadPlace, PySem.W.mg_of X G gBadPlace, fBadPlace, _, _, iBadPlace, tIBadPlace, ok_BadPlace_init (P := l.prog) (w := w) (K := K) (mg := mg) (base := base) lIBadPlace cIBadPlace O_BadPlace U_BadPlace no0BadPlace, fun s us _ hl => .of_eq (match us, hl with | [_, _], _ => rfl)⟩
      have Er_BadSize : Err l.prog w K mg base "BadSize" CS ["part"] := ⟨O_BadSize, PySem.W.mg_of X G gBadSize, fBadSize, _, _, iBadSize, tIBadSize, ok_BadSize_init (P := l.prog) (w := w) (K := K) (mg := mg) (base := base) lIBadSize cIBadSize O_BadSize U_BadSize no0BadSize, fun s us _ hl => .of_eq (match us, hl with | [_, _], _ => rfl)⟩
      have Er_BadClass : Err l.prog w K mg base "BadClass" CC ["part"] := ⟨O_BadClass, PySem.W.mg_of X G gBadClass, fBadClass, _, _, iBadClass, tIBadClass, ok_BadClass_init (P := l.prog) (w := w) (K := K) (mg := mg) (base := base) lIBadClass cIBadClass O_BadClass U_BadClass no0BadClass, fun s us _ hl => .of_eq (match us, hl with | [_, _], _ => rfl)⟩
      have c_is_whole := ok_is_whole (P := l.prog) (w := w) (K := K) (mg := mg) (base := base) T d_is_whole
      have okPI := ok_Place_initX (P := l.prog) (w := w) (K := K) (mg := mg) (base := base) (ps := ["self", "slope", "offset", "odd"]) T C0 c_is_whole Er_BadPlace F1 rfl
      have MkP : Mk K C f1 := ⟨mk, a1, i1, kc⟩
      have M_Place : Mak l.prog w K mg base 3 "Place" C (spPlX K C CB) := ⟨_, FnOk.all okPI b1, C0.g, MkP⟩
      have M_Place2 : Mak l.prog w K mg base 3 "Place" C (spPlX2 K C CB) := by
        obtain ⟨ds, rr, bb⟩ := FunD.dflt (n := 3) (ps := (["self", "slope", "offset", "odd"] : List Str)) F1 rfl fun _ _ _ _ _ _ _ us its h1 h2 => match us, h1, its, h2 with | [_, _, _], _, [_], _ => ⟨_, rfl, rfl⟩
        exact ⟨_, okPI.raw bb rr, C0.g, MkP⟩
      have m_peq := ok_Place_eq (P := l.prog) (w := w) (K := K) (mg := mg) (base := base) T C0 d_Place_eq
      have okI := ok_Sizes_init (P := l.prog) (w := w) (K := K) (mg := mg) (base := base) (ps := ["self", "low", "high"]) T S0 c_is_whole Er_BadClass FI rfl
      have Mk0 : Mk K CZ f4 := ⟨zmk, a4, i4, zkc⟩
      have M_Sizes : Mak l.prog w K mg base 3 "Sizes" CZ (spSzI K CZ CC) := ⟨_, FnOk.all okI bI, S0.g, Mk0⟩
      have m_in := ok_Sizes_contains (P := l.prog) (w := w) (K := K) (mg := mg) (base := base) T S0 c_is_whole d_Sizes_contains
      have c_asc := ok_ascending (P := l.prog) (w := w) (K := K) (mg := mg) (base := base) T d_ascending
      have c_gaps := ok_gaps_of (P := l.prog) (w := w) (K := K) (mg := mg) (base := base) T C0 d_gaps_of
      have c_turns := ok_turns_of (P := l.prog) (w := w) (K := K) (mg := mg) (base := base) T d_turns_of
      have c_cop := ok_classes_of_parity (C := CZ) (CB := CC) (P := l.prog) (w := w) (K := K) (mg := mg) (base := base) T c_turns M_Sizes d_classes_of_parity
      have gz := ok_classes (CP := C) (C := CZ) (P := l.prog) (w := w) (K := K) (mg := mg) (base := base) T S0 c_gaps c_cop c_asc l21 c21
      have c_classes : Gz.CalG l.prog w K mg base 7 "classes" (spCls C CZ) := ⟨_, gz.all (FG.binds (fun _ _ _ _ _ _ us hl => match us, hl with | [_], _ => rfl)), PySem.W.mg_of X G a21, k21⟩
      have c_classesK : Gz.CalGK l.prog w K mg base 7 "classes" ["places"] (fun zs => zs) (spCls C CZ) := ⟨_, _, _, fun us ws => us ++ ws, fun us ws => us ++ ws, gz, PySem.W.mg_of X G a21, k21, ⟨fun s us ws _ h1 h2 => .of_eq (match us, h1, ws, h2 with | [], _, [_], _ => rfl), fun r1 r2 => r1.append r2⟩, fun zs _ => rfl⟩
      have c_class_of := ok_class_of (CP := C) (P := l.prog) (w := w) (K := K) (mg := mg) (base := base) T c_is_whole S0 m_in Er_BadSize c_classes d_class_of
      have c_draw := ok_l_draw (P := l.prog) (w := w) (K := K) (mg := mg) (base := base) T d_l_draw
      have c_parts := ok_l_parts (P := l.prog) (w := w) (K := K) (mg := mg) (base := base) T c_draw d_l_parts
      have c_at := ok_l_at (P := l.prog) (w := w) (K := K) (mg := mg) (base := base) T d_l_at
      have c_place := ok_l_place (C := C) (CB := CB) (P := l.prog) (w := w) (K := K) (mg := mg) (base := base) T M_Place d_l_place
      have c_some := ok_l_some (P := l.prog) (w := w) (K := K) (mg := mg) (base := base) T c_draw c_parts d_l_some
      have c_signs := ok_l_signs (P := l.prog) (w := w) (K := K) (mg := mg) (base := base) T c_at d_l_signs
      have c_due := ok_l_due (P := l.prog) (w := w) (K := K) (mg := mg) (base := base) T c_signs d_l_due
      have c_far := @ok_l_far_right l.prog w K mg base C T C CZ CB S0 M_Place2 c_classes d_l_far_right
      exact ok_law (CP := C) (P := l.prog) (w := w) (K := K) (mg := mg) (base := base) T S0 c0 P0 (TBs (c0, P0) List.mem_cons_self) d_l_heard (PySem.W.mg_of X G gH) (PySem.W.mg_of X G gBadSize) X_BadSize F_BadSize no0BadSize (PySem.W.exm_ref h1 h2 h3 heBadSize) m_in m_peq (ok_l_bag (P := l.prog) (w := w) (K := K) (mg := mg) (base := base) T d_l_bag) c_draw c_some c_place c_due c_far c_classes c_classesK c_class_of l0 cd0 (fun s us _ hl => .of_eq (match us, hl with | [_], _ => rfl))
end Kx
open PySem PySem.W PyProof.Rows
set_option maxRecDepth 100000 in
set_option maxHeartbeats 0 in
theorem PySem.Challenge.cw_heldfloods_k10_classes_of_places_holds : PySem.Challenge.rw_heldfloods_k10_classes_of_places.Holds := by
  w_on; o_law; k_head; (case hw => w_witness2)
  k_fill
  refine Hf.walkGT (l := PySem.Challenge.rw_heldfloods_k10_classes_of_places) (k := 13) (by decide) rfl rfl (fun w h Y => PySem.W.km_in_of Y) ?F
  case F =>
    intro w mg fa h KX G hmg TT
    refine' Kx.all_mk KX G hmg TT ?z_abs ?z_bool ?z_dict ?z_enumerate ?z_int ?z_isinstance ?z_len ?z_list ?z_range ?z_sorted ?z_super ?z_tuple ?z_zip ?gC ?pg ?hd ?po ?sa ?n1 ?n2 ?n3 ?sf ?cC ?iC ?tC ?ne1 ?ne2 ?ha ?hn ?tk ?mo ?sI ?rA ?rS ?oA ?pA ?oS ?pS ?sIC ?hi ?mk ?kc ?pm ?gH ?top ?opq ?h1 ?h2 ?h3 ?gBadPlace ?lBadPlace ?rBadPlace ?saBadPlace ?exBadPlace ?tyBadPlace ?kBadPlace ?iBadPlace ?tIBadPlace ?lIBadPlace ?cIBadPlace ?lkBadPlace ?vkBadPlace ?fkBadPlace ?lccBadPlace ?clBadPlace ?mrBadPlace ?iniBadPlace ?isVBadPlace ?no0BadPlace ?gaBadPlace ?ggBadPlace ?hdBadPlace ?haBadPlace ?moBadPlace ?heBadPlace ?gBadSize ?lBadSize ?rBadSize ?saBadSize ?exBadSize ?tyBadSize ?kBadSize ?iBadSize ?tIBadSize ?lIBadSize ?cIBadSize ?lkBadSize ?vkBadSize ?fkBadSize ?lccBadSize ?clBadSize ?mrBadSize ?iniBadSize ?isVBadSize ?no0BadSize ?gaBadSize ?ggBadSize ?hdBadSize ?haBadSize ?moBadSize ?heBadSize ?gBadClass ?lBadClass ?rBadClass ?saBadClass ?exBadClass ?tyBadClass ?kBadClass ?iBadClass ?tIBadClass ?lIBadClass ?cIBadClass ?lkBadClass ?vkBadClass ?fkBadClass ?lccBadClass ?clBadClass ?mrBadClass ?iniBadClass ?isVBadClass ?no0BadClass ?gaBadClass ?ggBadClass ?hdBadClass ?haBadClass ?moBadClass ?heBadClass ?gCZ ?zpg ?zhd ?zpo ?zsa ?zn1 ?zn2 ?ziC ?ztC ?zne1 ?zne2 ?zha ?zmo ?zsT ?zmk ?zkc ?a1 ?i1 ?l1 ?t1 ?c1 ?k1 ?a2 ?i2 ?l2 ?c2 ?k2 ?a3 ?i3 ?l3 ?c3 ?k3 ?a4 ?i4 ?l4 ?tI2 ?c4 ?k4 ?a5 ?l5 ?c5 ?k5 ?a6 ?l6 ?c6 ?k6 ?a7 ?l7 ?c7 ?k7 ?a8 ?l8 ?c8 ?k8 ?a9 ?l9 ?c9 ?k9 ?a10 ?l10 ?c10 ?k10 ?a11 ?l11 ?c11 ?k11 ?a12 ?l12 ?c12 ?k12 ?a13 ?l13 ?c13 ?k13 ?a14 ?l14 ?c14 ?k14 ?a15 ?l15 ?c15 ?k15 ?a16 ?l16 ?c16 ?k16 ?a17 ?l17 ?c17 ?k17 ?a18 ?l18 ?c18 ?k18 ?a19 ?l19 ?c19 ?k19 ?a20 ?l20 ?c20 ?k20 ?a21 ?l21 ?c21 ?k21 ?a0 ?l0 ?cd0 ?lc0 ?v11 ?nP0 ?ch0 ?rec
    (case z_abs => k_is)
    (case z_bool => k_is)
    (case z_dict => k_is)
    (case z_enumerate => k_is)
    (case z_int => k_is)
    (case z_isinstance => k_is)
    (case z_len => k_is)
    (case z_list => k_is)
    (case z_range => k_is)
    (case z_sorted => k_is)
    (case z_super => k_is)
    (case z_tuple => k_is)
    (case z_zip => k_is)
    (case gC => k_is)
    (case pg => k_is)
    (case hd => k_is)
    (case po => k_is)
    (case sa => k_is)
    (case n1 => k_is)
    (case n2 => k_is)
    (case n3 => k_is)
    (case sf => k_is)
    (case cC => k_is)
    (case iC => k_is)
    (case tC => k_is)
    (case ne1 => k_is)
    (case ne2 => k_is)
    (case ha => k_is)
    (case hn => k_is)
    (case tk => k_is)
    (case mo => k_is)
    (case sI => k_is)
    (case rA => k_is)
    (case rS => k_is)
    (case oA => k_is)
    (case pA => k_is)
    (case oS => k_is)
    (case pS => k_is)
    (case sIC => k_is)
    (case hi => k_is)
    (case mk => k_is)
    (case kc => k_is)
    (case pm => rfl)
    (case gH => k_is)
    (case top => rfl)
    (case opq => k_is)
    (case h1 => k_is)
    (case h2 => k_is)
    (case h3 => k_is)
    (case gBadPlace => k_is)
    (case lBadPlace => k_is)
    (case rBadPlace => rfl)
    (case saBadPlace => k_is)
    (case exBadPlace => k_is)
    (case tyBadPlace => k_is)
    (case kBadPlace => k_is)
    (case iBadPlace => k_is)
    (case tIBadPlace => k_is)
    (case lIBadPlace => k_is)
    (case cIBadPlace => k_is)
    (case lkBadPlace => k_is)
    (case vkBadPlace => rfl)
    (case fkBadPlace => rfl)
    (case lccBadPlace => k_is)
    (case clBadPlace => k_is)
    (case mrBadPlace => k_is)
    (case iniBadPlace => first | rfl | kernel_rfl)
    (case isVBadPlace => k_is)
    (case no0BadPlace => k_is)
    (case gaBadPlace => k_is)
    (case ggBadPlace => k_is)
    (case hdBadPlace => k_is)
    (case haBadPlace => k_is)
    (case moBadPlace => k_is)
    (case heBadPlace => k_is)
    (case gBadSize => k_is)
    (case lBadSize => k_is)
    (case rBadSize => rfl)
    (case saBadSize => k_is)
    (case exBadSize => k_is)
    (case tyBadSize => k_is)
    (case kBadSize => k_is)
    (case iBadSize => k_is)
    (case tIBadSize => k_is)
    (case lIBadSize => k_is)
    (case cIBadSize => k_is)
    (case lkBadSize => k_is)
    (case vkBadSize => rfl)
    (case fkBadSize => rfl)
    (case lccBadSize => k_is)
    (case clBadSize => k_is)
    (case mrBadSize => k_is)
    (case iniBadSize => first | rfl | kernel_rfl)
    (case isVBadSize => k_is)
    (case no0BadSize => k_is)
    (case gaBadSize => k_is)
    (case ggBadSize => k_is)
    (case hdBadSize => k_is)
    (case haBadSize => k_is)
    (case moBadSize => k_is)
    (case heBadSize => k_is)
    (case gBadClass => k_is)
    (case lBadClass => k_is)
    (case rBadClass => rfl)
    (case saBadClass => k_is)
    (case exBadClass => k_is)
    (case tyBadClass => k_is)
    (case kBadClass => k_is)
    (case iBadClass => k_is)
    (case tIBadClass => k_is)
    (case lIBadClass => k_is)
    (case cIBadClass => k_is)
    (case lkBadClass => k_is)
    (case vkBadClass => rfl)
    (case fkBadClass => rfl)
    (case lccBadClass => k_is)
    (case clBadClass => k_is)
    (case mrBadClass => k_is)
    (case iniBadClass => first | rfl | kernel_rfl)
    (case isVBadClass => k_is)
    (case no0BadClass => k_is)
    (case gaBadClass => k_is)
    (case ggBadClass => k_is)
    (case hdBadClass => k_is)
    (case haBadClass => k_is)
    (case moBadClass => k_is)
    (case heBadClass => k_is)
    (case gCZ => k_is)
    (case zpg => k_is)
    (case zhd => k_is)
    (case zpo => k_is)
    (case zsa => k_is)
    (case zn1 => k_is)
    (case zn2 => k_is)
    (case ziC => k_is)
    (case ztC => k_is)
    (case zne1 => k_is)
    (case zne2 => k_is)
    (case zha => k_is)
    (case zmo => k_is)
    (case zsT => k_is)
    (case zmk => k_is)
    (case zkc => k_is)
    (case a1 => k_is)
    (case i1 => k_is)
    (case l1 => k_is)
    (case t1 => k_is)
    (case c1 => k_is)
    (case k1 => k_is)
    (case a2 => k_is)
    (case i2 => k_is)
    (case l2 => k_is)
    (case c2 => k_is)
    (case k2 => k_is)
    (case a3 => k_is)
    (case i3 => k_is)
    (case l3 => k_is)
    (case c3 => k_is)
    (case k3 => k_is)
    (case a4 => k_is)
    (case i4 => k_is)
    (case l4 => k_is)
    (case tI2 => k_is)
    (case c4 => k_is)
    (case k4 => k_is)
    (case a5 => k_is)
    (case l5 => k_is)
    (case c5 => k_is)
    (case k5 => k_is)
    (case a6 => k_is)
    (case l6 => k_is)
    (case c6 => k_is)
    (case k6 => k_is)
    (case a7 => k_is)
    (case l7 => k_is)
    (case c7 => k_is)
    (case k7 => k_is)
    (case a8 => k_is)
    (case l8 => k_is)
    (case c8 => k_is)
    (case k8 => k_is)
    (case a9 => k_is)
    (case l9 => k_is)
    (case c9 => k_is)
    (case k9 => k_is)
    (case a10 => k_is)
    (case l10 => k_is)
    (case c10 => k_is)
    (case k10 => k_is)
    (case a11 => k_is)
    (case l11 => k_is)
    (case c11 => k_is)
    (case k11 => k_is)
    (case a12 => k_is)
    (case l12 => k_is)
    (case c12 => k_is)
    (case k12 => k_is)
    (case a13 => k_is)
    (case l13 => k_is)
    (case c13 => k_is)
    (case k13 => k_is)
    (case a14 => k_is)
    (case l14 => k_is)
    (case c14 => k_is)
    (case k14 => k_is)
    (case a15 => k_is)
    (case l15 => k_is)
    (case c15 => k_is)
    (case k15 => k_is)
    (case a16 => k_is)
    (case l16 => k_is)
    (case c16 => k_is)
    (case k16 => k_is)
    (case a17 => k_is)
    (case l17 => k_is)
    (case c17 => k_is)
    (case k17 => k_is)
    (case a18 => k_is)
    (case l18 => k_is)
    (case c18 => k_is)
    (case k18 => k_is)
    (case a19 => k_is)
    (case l19 => k_is)
    (case c19 => k_is)
    (case k19 => k_is)
    (case a20 => k_is)
    (case l20 => k_is)
    (case c20 => k_is)
    (case k20 => k_is)
    (case a21 => k_is)
    (case l21 => k_is)
    (case c21 => k_is)
    (case k21 => k_is)
    (case a0 => k_is)
    (case l0 => k_is)
    (case cd0 => k_is)
    (case lc0 => k_is)
    (case v11 => rfl)
    (case nP0 => rfl)
    (case ch0 => rfl)
    (case rec => rfl)
