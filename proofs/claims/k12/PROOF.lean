import PyProof.Rows.All
import Wide.All
import OpenK.AllK
import Wide.FinOn
import HandS.Base
import HandS.Call
import HandS.List
import HandS.Exc
import HandS.ExcOwn
import HandS.Wide
import HandS.Words
import HandS.Defaults
import HandS.Ends
import HandS.EndBits
import HandS.ExcInit
import HandS.ClsMeth
import PyProof.ReprReads
import HandS.IsInst
import HandS.Property
import HandS.MakeKw
import PyProof.ReprBulk
import HandS.Head0
import HandS.Head1
import HandS.Head2
import HandS.HeadHook1
import HandS.HeadHook2
import HandS.ExcIs
import HandS.ExcField
import KE.KSuper
import HandS.MakeKwOnly
import HandS.WordsExc
import KE.KExcIs
import HandS.Comp
import HandS.TryOnly
import HandS.SlotsOwn
import HandS.NoneIn
import KE.KOpsOwn
import HandS.HeadEnd
import PySem.Challenge.RW_twintext_k12_pairings_made_or_refused
set_option Elab.async false
set_option linter.all false
set_option maxRecDepth 100000
set_option maxHeartbeats 4000000
/-! L3a: readings in steps; facts about the abstract heap that stay. -/
namespace L3
open PySem PySem.Spec PyProof.Rows L2

/-! ### what stays -/
/-- all that is tracked stays -/
def Ex (H H' : Hp) : Prop := ∀ a o, H a = some o → H' a = some o
theorem Ex.refl (H : Hp) : Ex H H := fun _ _ h => h
theorem Ex.trans {H H1 H2 : Hp} (a : Ex H H1) (b : Ex H1 H2) : Ex H H2 := fun x o h => b x o (a x o h)
theorem Ex.new {H : Hp} {p : Addr} {o : HO} (h : H p = none) : Ex H (upd H p o) := fun a u e => by
  rw [upd_ne (ne_of_none e h)]
  exact e
theorem Ex.back {H H' : Hp} {p : Addr} (e : Ex H H') (h : H' p = none) : H p = none := by
  cases h1 : H p with
  | none => rfl
  | some o =>
    rw [e p o h1] at h
    cases h
/-- all but the list at b stays; at b stands a list before -/
structure Bx (b : Addr) (H H' : Hp) : Prop where
  keep : ∀ a o, a ≠ b → H a = some o → H' a = some o
  was : ∃ l, H b = some (.lst l)
/-- a fact that stays under R -/
class Mono (R : Hp → Hp → Prop) (φ : Hp → Prop) : Prop where
  up : ∀ {H H' : Hp}, R H H' → φ H → φ H'
theorem up {R : Hp → Hp → Prop} {φ : Hp → Prop} [Mono R φ] {H H' : Hp} (e : R H H') (h : φ H) : φ H' := Mono.up e h
/-- at a stands o -/
def At (a : Addr) (o : HO) (H : Hp) : Prop := H a = some o
instance {a : Addr} {o : HO} : Mono Ex (At a o) := ⟨fun e h => e _ _ h⟩
theorem Bx.other {b : Addr} {H H' : Hp} {a : Addr} {o : HO} (e : Bx b H H') (h : H a = some o) (n : ∀ l, o ≠ .lst l) : H' a = some o := by
  refine e.keep a o (fun z => ?_) h
  obtain ⟨l, hl⟩ := e.was
  rw [z, hl] at h
  exact n l (Option.some.inj h).symm
instance {b a : Addr} {xs : List V} : Mono (Bx b) (At a (.tup xs)) := ⟨fun e h => e.other h fun l z => by cases z⟩
instance {b a C dx : Addr} {fs : List (Str × V)} : Mono (Bx b) (At a (.ins C dx fs)) := ⟨fun e h => e.other h fun l z => by cases z⟩
instance {b a x : Addr} : Mono (Bx b) (At a (.own x)) := ⟨fun e h => e.other h fun l z => by cases z⟩
instance {b a : Addr} {fs : List (Str × V)} : Mono (Bx b) (At a (.xd fs)) := ⟨fun e h => e.other h fun l z => by cases z⟩
instance {b a : Addr} {o : Obj} {u : HO} : Mono (Bx b) (At a (.frz o u)) := ⟨fun e h => e.other h fun l z => by cases z⟩
/-- a list, not the one at b -/
def AtL (b a : Addr) (xs : List V) (H : Hp) : Prop := a ≠ b ∧ H a = some (.lst xs)
instance {b a : Addr} {xs : List V} : Mono Ex (AtL b a xs) := ⟨fun e h => ⟨h.1, e _ _ h.2⟩⟩
instance {b a : Addr} {xs : List V} : Mono (Bx b) (AtL b a xs) := ⟨fun e h => ⟨h.1, e.keep _ _ h.1 h.2⟩⟩
/-- the script -/
def Scr (K : PySem.W.Frag) (b a : Addr) (xs : List V) (H : Hp) : Prop := a ≠ b ∧ SqL K H a xs
theorem ex_sq {K : PySem.W.Frag} {a : Addr} {xs : List V} {H H' : Hp} (k : ∀ o, H a = some o → H' a = some o) (h : SqL K H a xs) : SqL K H' a xs := by
  rcases h with (h | ⟨o, h⟩) | h
  · exact .inl (.inl (k _ h))
  · exact .inl (.inr ⟨o, k _ h⟩)
  · exact .inr h
theorem ex_sqT {K : PySem.W.Frag} {a : Addr} {xs : List V} {H H' : Hp} (k : ∀ o, H a = some o → H' a = some o) (h : SqT K H a xs) : SqT K H' a xs := by
  rcases h with (h | ⟨o, h⟩) | h
  · exact .inl (.inl (k _ h))
  · exact .inl (.inr ⟨o, k _ h⟩)
  · exact .inr h
instance {K : PySem.W.Frag} {b a : Addr} {xs : List V} : Mono Ex (Scr K b a xs) := ⟨fun e h => ⟨h.1, ex_sq (fun o => e a o) h.2⟩⟩
instance {K : PySem.W.Frag} {b a : Addr} {xs : List V} : Mono (Bx b) (Scr K b a xs) := ⟨fun e h => ⟨h.1, ex_sq (fun o => e.keep a o h.1) h.2⟩⟩

/-! ### steps through a reading -/
section
variable {K : PySem.W.Frag} {σ : L2.St} {H : Hp} {Q : VK} {ta tb tc te : TE} {x y v : V} {D : Ends} {t u : TS}
theorem i_var {i : Nat} (h : σ[i]? = some (some v)) (q : Q v H) : tVar i σ H Q := ⟨v, h, q⟩
theorem i_c (q : Q v H) : tC v σ H Q := q
theorem i_op {r : R2} (q : ta σ H fun x H1 => tb σ H1 fun y H2 => r x y H2 Q) : tOp r ta tb σ H Q := q
theorem i_un {r : V → Hp → VK → Prop} (q : ta σ H fun x H1 => r x H1 Q) : tUn r ta σ H Q := q
theorem i_I0 {g : Int → Int → V} {i j : Int} (q : Q (g i j) H) : rI0 g (.int i) (.int j) H Q := ⟨i, j, rfl, rfl, q⟩
theorem i_I {C : Int → Int → Prop} {g : Int → Int → V} {i j : Int} (c : C i j) (q : Q (g i j) H) : rI C g (.int i) (.int j) H Q := ⟨i, j, rfl, rfl, c, q⟩
theorem i_U {g : Int → V} {i : Int} (q : Q (g i) H) : rU g (.int i) H Q := ⟨i, rfl, q⟩
theorem i_eq (s : scal x y = true) (q : Q (.bl (decide (x = y))) H) : rEq x y H Q := ⟨s, q⟩
theorem i_ne (s : scal x y = true) (q : Q (.bl (!decide (x = y))) H) : rNe x y H Q := ⟨s, q⟩
theorem i_ixL {p : Addr} {xs : List V} {i : Int} (h : SqL K H p xs) (ha : atI xs i = some v) (q : Q v H) : rIxL K (.ref p) (.int i) H Q := ⟨p, xs, i, v, rfl, rfl, h, ha, q⟩
theorem i_ixT {p : Addr} {xs : List V} {i : Int} (h : SqT K H p xs) (ha : atI xs i = some v) (q : Q v H) : rIxT K (.ref p) (.int i) H Q := ⟨p, xs, i, v, rfl, rfl, h, ha, q⟩
theorem i_ixT' {p : Addr} {xs : List V} {i : Int} (h : H p = some (.tup xs)) (ha : atI xs i = some v) (q : Q v H) : rIxT K (.ref p) (.int i) H Q := i_ixT (SqT.of h) ha q
theorem i_ixL' {p : Addr} {xs : List V} {i : Int} (h : H p = some (.lst xs)) (ha : atI xs i = some v) (q : Q v H) : rIxL K (.ref p) (.int i) H Q := i_ixL (SqL.of h) ha q
theorem i_tup {ta : TA} (q : ta σ H fun xs H1 => xs.length ≤ sizeLine ∧ ∀ p, H1 p = none → Q (.ref p) (upd H1 p (.tup xs))) : tTup ta σ H Q := q
theorem i_lst {ta : TA} (q : ta σ H fun xs H1 => xs.length ≤ sizeLine ∧ ∀ p, H1 p = none → Q (.ref p) (upd H1 p (.lst xs))) : tLst ta σ H Q := q
theorem i_nil {QA : List V → Hp → Prop} (q : QA [] H) : tNil σ H QA := q
theorem i_cons {tr : TA} {QA : List V → Hp → Prop} (q : ta σ H fun x H1 => tr σ H1 fun xs H2 => QA (x :: xs) H2) : tCons ta tr σ H QA := q
/-- a new object: forget which heap it is -/
theorem new_of {o : HO} {F : Addr → Hp → Prop} (h : ∀ p H', Ex H H' → H p = none → H' p = some o → F p H') : ∀ p, H p = none → F p (upd H p o) := fun p hp => h p _ (Ex.new hp) hp upd_same
theorem i_test {QB : Bool → Hp → Prop} (q : te σ H fun x H1 => ∃ k, x = .bl k ∧ QB k H1) : tTest te σ H QB := q
theorem i_B {QB : Bool → Hp → Prop} (q : te σ H fun x H1 => ∃ k, x = .bl k ∧ QB k H1) : tB te σ H QB := q
theorem i_bl {b : Bool} {F : Bool → Prop} (q : F b) : ∃ k, V.bl b = .bl k ∧ F k := ⟨b, rfl, q⟩
theorem i_chain {r r' : R2} (q : ta σ H fun x H1 => tb σ H1 fun y H2 => r x y H2 fun z H3 => ∃ k, z = .bl k ∧ (if k = true then tc σ H3 fun w' H4 => r' y w' H4 Q else Q (.bl false) H3)) : tChain r r' ta tb tc σ H Q := q
theorem i_not {c : TT} {QB : Bool → Hp → Prop} (q : c σ H fun k H1 => QB (!k) H1) : tNot c σ H QB := q
theorem i_and {c d : TT} {QB : Bool → Hp → Prop} (q : c σ H fun k H1 => if k = true then d σ H1 QB else QB false H1) : tAnd c d σ H QB := q
theorem i_or {c d : TT} {QB : Bool → Hp → Prop} (q : c σ H fun k H1 => if k = true then QB true H1 else d σ H1 QB) : tOr c d σ H QB := q
theorem i_andV (q : ta σ H fun x H1 => ∃ k, x = .bl k ∧ if k = true then tb σ H1 Q else Q (.bl false) H1) : tAndV ta tb σ H Q := q
theorem i_orV (q : ta σ H fun x H1 => ∃ k, x = .bl k ∧ if k = true then Q (.bl true) H1 else tb σ H1 Q) : tOrV ta tb σ H Q := q
theorem i_notV (q : ta σ H fun x H1 => ∃ k, x = .bl k ∧ Q (.bl (!k)) H1) : tNotV ta σ H Q := q
theorem i_if {c : TT} (q : c σ H fun k H1 => if k = true then ta σ H1 Q else tb σ H1 Q) : tIf c ta tb σ H Q := q
theorem i_cb {r : List V → Hp → VK → Prop} {t : TA} (q : t σ H fun vs H1 => r vs H1 Q) : tCB r t σ H Q := q
theorem i_fld {a C dx : Addr} {fs : List (Str × V)} {f : Str} (ho : H a = some (.ins C dx fs)) (c : Cls K C) (n : NoAttr K C f) (l : fs.lookup f = some v) (q : Q v H) : (fun x H1 => ∃ a C dx fs v, x = V.ref a ∧ H1 a = some (.ins C dx fs) ∧ Cls K C ∧ NoAttr K C f ∧ fs.lookup f = some v ∧ Q v H1) (V.ref a) H := ⟨a, C, dx, fs, v, rfl, ho, c, n, l, q⟩
theorem i_fldE {f : Str} (q : te σ H fun x H1 => ∃ a C dx fs v, x = V.ref a ∧ H1 a = some (.ins C dx fs) ∧ Cls K C ∧ NoAttr K C f ∧ fs.lookup f = some v ∧ Q v H1) : tFld K te f σ H Q := q
theorem i_seq (q : t ⟨u D, D.rt, D.bk, D.ct⟩ σ H) : tSeq t u D σ H := q
theorem i_next (q : D.nx σ H) : tNext D σ H := q
theorem i_nx {n : L2.St → Hp → Prop} {r : VK} {b c : L2.St → Hp → Prop} (q : n σ H) : Ends.nx ⟨n, r, b, c⟩ σ H := q
theorem i_rt {n : L2.St → Hp → Prop} {r : VK} {b c : L2.St → Hp → Prop} (q : r v H) : Ends.rt ⟨n, r, b, c⟩ v H := q
theorem i_asg {i : Nat} (q : te σ H fun x H1 => D.nx (σ.set i (some x)) H1) : tAsg te (gName i) D σ H := q
theorem i_par {i j : Nat} {ta : TA} (q : ta σ H fun vs H1 => ∃ v w, vs = [v, w] ∧ D.nx ((σ.set i (some v)).set j (some w)) H1) : tPar i j ta D σ H := q
theorem i_par2 {F : V → V → Prop} (q : F x y) : ∃ v w, [x, y] = [v, w] ∧ F v w := ⟨x, y, rfl, q⟩
theorem i_ret (q : te σ H D.rt) : tRet te D σ H := q
theorem i_drop (q : te σ H fun _ H1 => D.nx σ H1) : tDrop te D σ H := q
theorem i_ifS {c : TT} (q : c σ H fun k H1 => if k = true then t D σ H1 else u D σ H1) : tIfS c t u D σ H := q
theorem i_true {P R : Prop} (q : P) : if true = true then P else R := q
theorem i_false {P R : Prop} (q : R) : if false = true then P else R := by
  rw [if_neg Bool.false_ne_true]
  exact q
theorem i_dec {c : Prop} [Decidable c] {P R : Prop} (h1 : c → P) (h2 : ¬ c → R) : if decide c = true then P else R := by
  by_cases h : c
  · rw [decide_eq_true h]
    exact h1 h
  · rw [decide_eq_false h]
    exact i_false (h2 h)
theorem i_ndec {c : Prop} [Decidable c] {P R : Prop} (h1 : ¬ c → P) (h2 : c → R) : if (!decide c) = true then P else R := by
  by_cases h : c
  · rw [decide_eq_true h]
    exact i_false (h2 h)
  · rw [decide_eq_false h]
    exact h1 h
theorem i_bool {b : Bool} {P R : Prop} (h1 : b = true → P) (h2 : b = false → R) : if b = true then P else R := by
  cases b with
  | true => exact h1 rfl
  | false => exact i_false (h2 rfl)
end
end L3

/-! L3b: defs that are called where no builtin's repr is under way (so that repr of data can be used within them). -/
namespace L3
open PySem PySem.Spec PyProof.Rows L2

/-- as FnOk, for calls with nothing guarded -/
structure FnG (P : Program) (w : World) (K : PySem.W.Frag) (mg : Str → Option Value) (base : Heap) (k : Nat) (f : Addr) (fd : FuncData) (ps : List Str) (sp : Sp) : Prop where
  len : ∀ vs H Q E, sp vs H Q E → vs.length = ps.length
  run : ∀ (A : Around) (outer : List Env) (s : Shared) (H : Hp) (args : Args) (us : List Value) (vs : List V) (Q : VK) (E : XK),
    A.guards = some [] → Room k A → Env0 P w K mg base A outer s H → BindsTo s fd args (ps.zip us) → Vals vs us → sp vs H Q E →
    codeAny (model P w) A (.call (.ref f) args) (CR (L2.CX P w) outer P w H s Q E) s
section
variable {P : Program} {w : World} {K : PySem.W.Frag} {mg : Str → Option Value} {base : Heap} {k j : Nat} {f : Addr} {fd : FuncData} {ps : List Str} {sp : Sp}
theorem FnG.of (F : FnOk P w K mg base (L2.CX P w) k f fd ps sp) : FnG P w K mg base k f fd ps sp :=
  ⟨F.len, fun A outer s H args us vs Q E _ hr e0 hb hv h => F.run A outer s H args us vs Q E hr e0 hb hv h⟩
theorem FnG.mono (F : FnG P w K mg base j f fd ps sp) (h : j ≤ k) : FnG P w K mg base k f fd ps sp :=
  ⟨F.len, fun A outer s H args us vs Q E g hr => F.run A outer s H args us vs Q E g (hr.mono h)⟩
/-- a promise that asks more -/
theorem FnG.imp {sp' : Sp} (F : FnG P w K mg base k f fd ps sp) (h : ∀ vs H Q E, sp' vs H Q E → sp vs H Q E) : FnG P w K mg base k f fd ps sp' :=
  ⟨fun vs H Q E q => F.len vs H Q E (h _ _ _ _ q), fun A outer s H args us vs Q E g hr e0 hb hv q => F.run A outer s H args us vs Q E g hr e0 hb hv (h _ _ _ _ q)⟩
/-- a body keeps its promise: the reading may lean on the guards -/
theorem fnG_of {x qual : Str} {params : Arguments} {body : List Stmt} {scope : Scope} {dvs : List V} {kws : List (Str × V)} {N : List Str} (F : FunD K x qual params body scope dvs kws f fd) (S : FnScope N ps scope)
    (len : ∀ vs H Q E, sp vs H Q E → vs.length = ps.length)
    (hbody : ∀ (cdv : Value) (A : Around) (outer : List Env) (s : Shared) (H : Hp) (vs : List V) (Q : VK) (E : XK), A.guards = some [] → Room k (A.deeper (envOfC qual scope s.heap.objs.size f cdv)) → sp vs H Q E →
      ∃ t, PSs (cxOf (L2.CX P w) P w K mg base N qual scope f cdv A outer s H E) body t ∧ t ⟨fun _ H' => Q .non H', Q, fun _ _ => False, fun _ _ => False⟩ (start N vs) H) :
    FnG P w K mg base (k + 1) f fd ps sp := by
  obtain ⟨oc, od, dV, kV, doc, pm, an, cdv, ct, osl, rfl, lk, hcd, _, _⟩ := F.ex
  constructor
  · exact len
  · intro A outer s H args us vs Q E g hr e0 hb rv hsp
    have keeps : ∀ b o, base.get? b = some o → s.heap.get? b = some o := fun b o e => (e0.bs b o e).1
    have kinds : ∀ y ∈ ps.zip us, scope.names.lookup y.1 = some .local ∨ (scope.names.lookup y.1 = some .cell ∧ ((cellsFrom (s.heap.objs.size + 1) scope.names []).lookup y.1).isSome = true) := by
      rintro ⟨n, v⟩ hy
      cases S.par n (List.of_mem_zip hy).1 with
      | inl q => exact .inl q
      | inr q => exact .inr ⟨q, PySem.W.cellsFrom_some _ _ _ (.inl q)⟩
    refine codeAny_call_function hr.depth ((e0.mod.kin.keeps keeps) _ _ lk) rfl S.co S.gen rfl (PySem.W.codeRec_of (e0.mod.kin.keeps keeps) hcd) (hb _ _ _ _ ?_)
    refine wpAny_newFunctionEnv_cells S.kind kinds fun env he s1 ic => ?_
    subst he
    constructor
    · exact (e0.mod.nolimit.keeps keeps).keeps ic.toInCall.keep
    · obtain ⟨t, ht, hq⟩ := hbody cdv A outer s H vs Q E g (hr.deeper _) hsp
      have I0 := inv_start (CX := L2.CX P w) (E := E) S hr.hd e0 (len _ _ _ _ hsp) rv ic
      apply codeAny_func
      apply wpAny_mono (ht.run [] s1 (start N vs) H _ I0 hq)
      · intro fl s' hs
        have done : ∀ (σ' : L2.St) (H' : Hp) (v : V) (u : Value), Inv (cxOf (L2.CX P w) P w K mg base N qual scope f cdv A outer s H E) [] σ' H' s' → RelV v u → Q v H' → CE outer P w H s Q u s' := by
          intro σ' H' v u J r q
          exact ⟨v, H', J.os, J.bare, J.base, J.hok, r, q⟩
        match fl, hs with
        | .ret u, ⟨v, σ', H', J, r, q⟩ => exact done σ' H' v u J r q
        | .next, ⟨σ', H', J, q⟩ => exact done σ' H' .non .none J rfl q
        | .brk, ⟨_, _, _, q⟩ => exact q.elim
        | .cont, ⟨_, _, _, q⟩ => exact q.elim
      · intro e s' hs
        exact hs
end

/-! ### names that stand for defs, classes -/
/-- the module's name x stands for a def that keeps sp -/
def DefOk (P : Program) (w : World) (K : PySem.W.Frag) (mg : Str → Option Value) (base : Heap) (k : Nat) (x : Str) (ps : List Str) (sp : Sp) : Prop :=
  ∃ f fd, FnG P w K mg base k f fd ps sp ∧ mg x = some (.ref f) ∧ PySem.W.keepIn K (.ref f) = true ∧ Binds K fd ps []
/-- the method m of the class at C is a def that keeps sp -/
def MethOk (P : Program) (w : World) (K : PySem.W.Frag) (mg : Str → Option Value) (base : Heap) (k : Nat) (C : Addr) (m : Str) (ps : List Str) (sp : Sp) : Prop :=
  ∃ f fd, FnG P w K mg base k f fd ps sp ∧ Meth K C m f ∧ Binds K fd ps []
/-- the class x at C is made by an __init__ that keeps sp -/
def MakeOk (P : Program) (w : World) (K : PySem.W.Frag) (mg : Str → Option Value) (base : Heap) (k : Nat) (x : Str) (C : Addr) (ps : List Str) (sp : Sp) : Prop :=
  ∃ f fd, FnG P w K mg base k f fd ps sp ∧ Mk K C f ∧ mg x = some (.ref C) ∧ Binds K fd ps []

def tCal (sp : Sp) (W : WX) (t : TA) : TE := fun σ H Q => t σ H fun vs H1 => sp vs H1 Q fun cls d H' => W cls d σ H'
def tMth (C : Addr) (m : Str) (sp : Sp) (W : WX) (to : TE) (t : TA) : TE := fun σ H Q => to σ H fun x H1 => ∃ a dx fs, x = .ref a ∧ H1 a = some (.ins C dx fs) ∧ fs.lookup m = none ∧ t σ H1 fun vs H2 => sp (x :: vs) H2 Q fun cls d H' => W cls d σ H'
def tMak (C : Addr) (sp : Sp) (W : WX) (t : TA) : TE := fun σ H Q => t σ H fun vs H1 => ∀ x dx, H1 x = none → H1 dx = none → dx ≠ x →
  sp (.ref x :: vs) (upd (upd H1 dx (.own x)) x (.ins C dx [])) (fun v H2 => v = .non ∧ Q (.ref x) H2) fun cls d H' => W cls d σ H'
section
variable {X : Cx} {k : Nat} {f C : Addr} {fd : FuncData} {ps : List Str} {sp : Sp} {W : WX} {x m : Str} {p pos apos : Pos} {e o : Expr} {es : List Expr} {ta to : TE} {t : TA}
theorem run_g {pins : List (Addr × Obj)} {σ : L2.St} {H : Hp} {s : Shared} {Q : VK} {us : List Value} {vs : List V} (F : FnG X.prog X.w X.K X.mg X.base k f fd ps sp) (g : X.A.guards = some []) (hr : Room k X.A) (hb : Binds X.K fd ps []) (tk : Takes X W)
    (I : Inv X pins σ H s) (r : Vals vs us) (h : sp vs H Q fun cls d H' => W cls d σ H') : wpAny (model X.prog X.w) X.A (call (.ref f) us) (EP X pins σ Q) X.xe s := by
  have hl : us.length = ps.length := r.length.symm.trans (F.len _ _ _ _ h)
  have b : BindsTo s fd ⟨us, []⟩ (ps.zip us) := by
    have b0 := hb s us I.kIn (by simpa using hl)
    simpa using b0
  apply wpAny_call
  refine codeAny_mono (F.run X.A X.stack s H ⟨us, []⟩ us vs Q _ g hr I.env0 b r h) ?_
  intro r s' hq
  match r, hq with
  | .error e, hq => exact passAt tk σ pins H s e s' I hq
  | .ok (.ret u), hq => exact I.after hq
  | .ok .next, hq => exact hq.elim
  | .ok .brk, hq => exact hq.elim
  | .ok .cont, hq => exact hq.elim
/-- f(..) -/
theorem pe_dcall (D : DefOk X.prog X.w X.K X.mg X.base k x ps sp) (g : X.A.guards = some []) (hr : Room k X.A) (tk : Takes X W) (ha : PA X (e :: es) t) (hg : Gl X x := by rfl)
    (hdb : (x == ("__debug__" : Str)) = false := by decide) (he : starEach (e :: es) X.env = (false, eval e X.env) :: starEach es X.env := by rfl) (hpl : (backTo pos (starEach es X.env)).any (·.1) = false := by rfl) :
    PE X (.Call (.Name x p) (e :: es) [] pos) (tCal sp W t) := by
  obtain ⟨f, fd, F, hm, hk, hb⟩ := D
  constructor
  intro pins s σ H Q I h
  refine wpAny_Call_Name_kw (ld_glob I hg hm ?_ hdb)
  refine PySem.W.callWith_K (h₀ := X.base) I.ok.mod.kin hk (thn (ha.run pos pins s σ H _ I h) ?_) he hpl
  rintro us s1 ⟨vs, H1, I1, r, q⟩
  exact ⟨I1.kIn, run_g F g hr hb tk I1 r q⟩
theorem pe_dcall0 (D : DefOk X.prog X.w X.K X.mg X.base k x ps sp) (g : X.A.guards = some []) (hr : Room k X.A) (tk : Takes X W) (hg : Gl X x := by rfl)
    (hdb : (x == ("__debug__" : Str)) = false := by decide) : PE X (.Call (.Name x p) [] [] pos) (tCal sp W tNil) := by
  obtain ⟨f, fd, F, hm, hk, hb⟩ := D
  constructor
  intro pins s σ H Q I h
  refine wpAny_Call_Name_kw (ld_glob I hg hm ?_ hdb)
  exact PySem.W.callWith_K0 I.kIn hk (run_g (us := []) F g hr hb tk I .nil h)
/-- o.m(..) -/
theorem pe_dmeth {pl : Sem Bool} (D : MethOk X.prog X.w X.K X.mg X.base k C m ps sp) (c : Cls X.K C) (g : X.A.guards = some []) (hr : Room k X.A) (tk : Takes X W) (ho : PE X o to) (ha : PA X (e :: es) t)
    (hst : starEach (e :: es) X.env = (false, eval e X.env) :: starEach es X.env := by rfl) (hpl : (backTo pos (starEach es X.env)).any (·.1) = false := by rfl)
    (ht : eval (.Call (.Attribute o m apos) (e :: es) [] pos) X.env = (do
      let ov ← eval o X.env
      standAt apos.atName
      let (f, first) ← holding [ov] (getMethod ov m pl)
      callWith pos f first (backTo pos (starEach (e :: es) X.env)) (backToKw pos (keywordEach [] X.env))) := by rfl) :
    PE X (.Call (.Attribute o m apos) (e :: es) [] pos) (tMth C m sp W to t) := by
  obtain ⟨f, fd, F, hm, hb⟩ := D
  constructor
  intro pins s σ H Q I h
  refine PySem.W.methodCall_KW (pl := pl) (thn (ho.run pins s σ H _ I h) ?_) ht
  rintro u s1 ⟨x, H1, I1, rx, a, dx, fs, rfl, ea, l, q⟩
  cases rx
  refine getmeth_ok I1 ea c hm l ?_
  refine PySem.W.callWith_K (first := [.ref a]) (h₀ := X.base) I.ok.mod.kin hm.kp (thn (ha.run pos pins s1 σ H1 _ I1 q) ?_) hst hpl
  rintro us s2 ⟨vs, H2, I2, r, q2⟩
  exact ⟨I2.kIn, run_g (us := .ref a :: us) (vs := .ref a :: vs) F g hr hb tk I2 (.cons rfl r) q2⟩
theorem pe_dmeth0 {pl : Sem Bool} (D : MethOk X.prog X.w X.K X.mg X.base k C m ps sp) (c : Cls X.K C) (g : X.A.guards = some []) (hr : Room k X.A) (tk : Takes X W) (ho : PE X o to)
    (ht : eval (.Call (.Attribute o m apos) [] [] pos) X.env = (do
      let ov ← eval o X.env
      standAt apos.atName
      let (f, first) ← holding [ov] (getMethod ov m pl)
      callWith pos f first (backTo pos (starEach [] X.env)) (backToKw pos (keywordEach [] X.env))) := by rfl) :
    PE X (.Call (.Attribute o m apos) [] [] pos) (tMth C m sp W to tNil) := by
  obtain ⟨f, fd, F, hm, hb⟩ := D
  constructor
  intro pins s σ H Q I h
  refine PySem.W.methodCall_KW (pl := pl) (thn (ho.run pins s σ H _ I h) ?_) ht
  rintro u s1 ⟨x, H1, I1, rx, a, dx, fs, rfl, ea, l, q⟩
  cases rx
  refine getmeth_ok I1 ea c hm l ?_
  exact PySem.W.callWith_K0 (first := [.ref a]) I1.kIn hm.kp (run_g (us := [.ref a]) (vs := [.ref a]) F g hr hb tk I1 (.cons rfl .nil) q)
theorem guards_make {A : Around} {C : Addr} {us : List Value} {kw : List (Str × Value)} (g : A.guards = some []) : (A.under (.builtin "type.__call__" ⟨.ref C :: us, kw⟩)).guards = some [] := by
  have e : (Code.builtin "type.__call__" ⟨.ref C :: us, kw⟩).guards = [] := by
    first | rfl | kernel_rfl
  show pushGuards (Code.builtin "type.__call__" ⟨.ref C :: us, kw⟩).guards A.guards = some []
  rw [e, g]
  rfl
/-- C(..) by its own __init__ -/
theorem run_mk {pins : List (Addr × Obj)} {σ : L2.St} {H : Hp} {s : Shared} {Q : VK} {us : List Value} {vs : List V} (M : Mk X.K C f) (F : FnG X.prog X.w X.K X.mg X.base k f fd ps sp) (g : X.A.guards = some []) (hr : Room (k + 1) X.A) (hb : Binds X.K fd ps [])
    (tk : Takes X W) (I : Inv X pins σ H s) (r : Vals vs us)
    (h : ∀ x dx, H x = none → H dx = none → dx ≠ x → sp (.ref x :: vs) (upd (upd H dx (.own x)) x (.ins C dx [])) (fun v H2 => v = .non ∧ Q (.ref x) H2) fun cls d H' => W cls d σ H') :
    wpAny (model X.prog X.w) X.A (call (.ref C) us) (EP X pins σ Q) X.xe s := by
  have n1 : H (s.heap.objs.size + 1) = none := I.hok.fresh (Nat.le_succ _)
  have n0 : H s.heap.objs.size = none := I.hok.fresh (Nat.le_refl _)
  have hq := h (s.heap.objs.size + 1) s.heap.objs.size n1 n0 (Nat.ne_of_lt (Nat.lt_succ_self _))
  have J := Inv.made (C := C) I
  have rv : Vals (V.ref (s.heap.objs.size + 1) :: vs) (Value.ref (s.heap.objs.size + 1) :: us) := .cons rfl r
  have hl : (Value.ref (s.heap.objs.size + 1) :: us).length = ps.length := rv.length.symm.trans (F.len _ _ _ _ hq)
  have b := hb _ (Value.ref (s.heap.objs.size + 1) :: us) J.kIn (by simpa using hl)
  rw [List.append_nil] at b
  apply wpAny_call
  refine make_map (f := f) I.kIn M.makes M.init (beq_iff_eq.mp M.fn) (codeAny_mono (F.run _ X.stack _ _ ⟨Value.ref (s.heap.objs.size + 1) :: us, []⟩ (Value.ref (s.heap.objs.size + 1) :: us) _ _ _ (guards_make g) (hr.make C us []) (J.env0.make C us []) b rv hq) ?_)
  intro r s' hq'
  match r, hq' with
  | .error e, hq' => exact passAt tk σ pins _ _ e s' J hq'
  | .ok (.ret u), hq' =>
    obtain ⟨v, H', I3, rv, rfl, q3⟩ := J.after hq'
    exact ⟨rv, ⟨V.ref (s.heap.objs.size + 1), H', I3, rfl, q3⟩⟩
  | .ok .next, hq' => exact hq'.elim
  | .ok .brk, hq' => exact hq'.elim
  | .ok .cont, hq' => exact hq'.elim
theorem pe_dmake (D : MakeOk X.prog X.w X.K X.mg X.base k x C ps sp) (g : X.A.guards = some []) (hr : Room (k + 1) X.A) (tk : Takes X W) (ha : PA X (e :: es) t) (hg : Gl X x := by rfl)
    (hdb : (x == ("__debug__" : Str)) = false := by decide) (he : starEach (e :: es) X.env = (false, eval e X.env) :: starEach es X.env := by rfl) (hpl : (backTo pos (starEach es X.env)).any (·.1) = false := by rfl) :
    PE X (.Call (.Name x p) (e :: es) [] pos) (tMak C sp W t) := by
  obtain ⟨f, fd, F, M, hm, hb⟩ := D
  constructor
  intro pins s σ H Q I h
  refine wpAny_Call_Name_kw (ld_glob I hg hm ?_ hdb)
  refine PySem.W.callWith_K (h₀ := X.base) I.ok.mod.kin M.kp (thn (ha.run pos pins s σ H _ I h) ?_) he hpl
  rintro us s1 ⟨vs, H1, I1, r, q⟩
  exact ⟨I1.kIn, run_mk M F g hr hb tk I1 r q⟩
theorem pe_dmake0 (D : MakeOk X.prog X.w X.K X.mg X.base k x C ps sp) (g : X.A.guards = some []) (hr : Room (k + 1) X.A) (tk : Takes X W) (hg : Gl X x := by rfl)
    (hdb : (x == ("__debug__" : Str)) = false := by decide) : PE X (.Call (.Name x p) [] [] pos) (tMak C sp W tNil) := by
  obtain ⟨f, fd, F, M, hm, hb⟩ := D
  constructor
  intro pins s σ H Q I h
  refine wpAny_Call_Name_kw (ld_glob I hg hm ?_ hdb)
  exact PySem.W.callWith_K0 I.kIn M.kp (run_mk (us := []) M F g hr hb tk I .nil h)
end

/-! ### exceptions of own classes: C(..) where C.__init__ first calls its base's -/
section
variable {X : Cx} {k : Nat} {C : Addr} {ps : List Str} {sp : Sp} {x : Str} {p pos p1 p2 : Pos} {e : Expr} {es : List Expr} {ta : TA}
/-- what an own class over ValueError must be, so that its __init__ can be called by its name -/
structure BaseInit (K : PySem.W.Frag) (mg : Str → Option Value) (B : Str) (CB : Addr) (mc : Value) : Prop where
  mgB : mg B = some (.ref CB)
  rd : ClX.CRead K CB mc
  at_ : PySem.W.findCls K (.ref CB) mc "__init__" = some (.val (.builtin "ValueError.__init__"))
/-- B.__init__(self, ..) -/
theorem pe_binit {pl : Sem Bool} {B : Str} {CB : Addr} {mc : Value} (T : BaseInit X.K X.mg B CB mc) (ha : PA X (e :: es) ta) (hg : Gl X B := by rfl) (hdb : (B == ("__debug__" : Str)) = false := by decide)
    (hc : eval (.Call (.Attribute (.Name B p1) "__init__" p2) (e :: es) [] pos) X.env = (do
      let ov ← eval (.Name B p1) X.env
      standAt p2.atName
      let (f, first) ← holding [ov] (getMethod ov "__init__" pl)
      callWith pos f first (backTo pos (starEach (e :: es) X.env)) (backToKw pos (keywordEach [] X.env))) := by rfl)
    (he : starEach (e :: es) X.env = (false, eval e X.env) :: starEach es X.env := by rfl) (hpl : (backTo pos (starEach es X.env)).any (·.1) = false := by rfl) :
    PE X (.Call (.Attribute (.Name B p1) "__init__" p2) (e :: es) [] pos) (tVeI X.K ta) := by
  constructor
  intro pins s σ H Q I h
  refine PySem.W.methodCall_KW (ld_glob I hg T.mgB ?_ hdb) hc
  refine PySem.W.method_cls I.kIn T.rd.ga (PySem.W.cls_value I.kIn T.rd.rd T.at_ rfl ?_)
  show wpAny _ _ (callWith pos (Value.builtin "ValueError.__init__") [] (backTo pos (starEach (e :: es) X.env)) []) _ _ _
  refine PyProof.Rows.callWith_method1 (thn (ha.run pos pins _ σ H _ (I.tok _) h) ?_) he hpl
  rintro us s1 ⟨vs, H1, I1, r1, a, C, ws, rfl, hl, T, ea, q⟩
  cases r1 with
  | cons ra rw' =>
    cases ra
    refine oinit_ok T I1 ea ?_ fun s' J => ⟨.non, H1, J, rfl, q⟩
    rw [← Paired.length rw', sizeLine_eq]
    omega
/-- __init__ of an error with one, two fields -/
def spErr1 (C : Addr) (f1 : Str) : Sp := fun vs H Q _ => ∃ (a : Addr) (v1 : V), vs = [.ref a, v1] ∧ H a = some (exo a C none) ∧
  ∀ d, H d = none → d ≠ a → Q .non (upd (upd H d (exd d [(f1, v1)])) a (exo a C (some d)))
def spErr2 (C : Addr) (f1 f2 : Str) : Sp := fun vs H Q _ => ∃ (a : Addr) (v1 v2 : V), vs = [.ref a, v1, v2] ∧ H a = some (exo a C none) ∧
  ∀ d, H d = none → d ≠ a → Q .non (upd (upd (upd H d (exd d [(f1, v1)])) a (exo a C (some d))) d (exd d [(f2, v2), (f1, v1)]))
/-- the own error class x at C: its __init__ keeps sp -/
def ErrOk (P : Program) (w : World) (K : PySem.W.Frag) (mg : Str → Option Value) (base : Heap) (k : Nat) (x : Str) (C : Addr) (ps : List Str) (sp : Sp) : Prop :=
  ∃ f fd, FnOk P w K mg base (L2.CX P w) k f fd ps sp ∧ OexC K C ∧ PySem.W.findIn K (.ref C) "__init__" = some (some (.ref f)) ∧ PySem.W.typeIn K (.ref f) = some (.type "function") ∧ mg x = some (.ref C) ∧ Binds K fd ps []
/-- C(e, ..) for a raise, at the arguments' values -/
def errIn (C : Addr) (sp : Sp) (vs : List V) (H1 : Hp) (Q : XK) : Prop := vs.length ≤ 1000 ∧ ∀ a, H1 a = none → sp (.ref a :: (vs ++ [])) (upd H1 a (exo a C none))
  (fun v H2 => v = .non ∧ ∃ (d : Addr) (fs : List (Str × V)), H2 a = some (exo a C (some d)) ∧ H2 d = some (exd d fs) ∧ H1 d = none ∧ Q (.ref C) (some d) (upd (del H2 a) d (.xd fs))) (fun _ _ _ => False)
def tErr (C : Addr) (sp : Sp) (ta : TA) : L2.St → Hp → XK → Prop := fun σ H Q => ta σ H fun vs H1 => errIn C sp vs H1 Q
theorem passF {P : Program} {w : World} {X : Cx} (hP : X.prog = P) (hw : X.w = w) : Passes (L2.CX P w) X (fun _ _ _ => False) := by
  subst hP hw
  rintro _ _ _ _ _ _ _ ⟨_, _, _, _, _, _, _, _, _, _, _, _, z⟩
  exact z.elim
theorem pmk_err (D : ErrOk X.prog X.w X.K X.mg X.base k x C ps sp) (hr : Room (k + 1) X.A) (ha : PA X (e :: es) ta) (hg : Gl X x := by rfl)
    (hdb : (x == ("__debug__" : Str)) = false := by decide) (he : starEach (e :: es) X.env = (false, eval e X.env) :: starEach es X.env := by rfl) (hpl : (backTo pos (starEach es X.env)).any (·.1) = false := by rfl) :
    PMk X (.Call (.Name x p) (e :: es) [] pos) (tErr C sp ta) := by
  obtain ⟨f, fd, F, T, iC, tI, hmg, hb⟩ := D
  exact pmk_oex (dvs := []) T iC tI F hr hb .nil (passF rfl rfl) hg hmg ha hdb he hpl
end
section
variable {C : Addr} {f1 f2 : Str}
theorem err_heap {H1 : Hp} {a d : Addr} {z : HO} {fs gs : List (Str × V)} (na : H1 a = none) (nd : H1 d = none) :
    Ex H1 (upd (del (upd (upd (upd (upd H1 a z) d (exd d fs)) a (exo a C (some d))) d (exd d gs)) a) d (.xd gs)) := fun b o h => by
  have ha := ne_of_none h na
  have hd := ne_of_none h nd
  rw [upd_ne hd, del_ne ha, upd_ne hd, upd_ne ha, upd_ne hd, upd_ne ha]
  exact h
theorem err_heap1 {H1 : Hp} {a d : Addr} {z : HO} {fs : List (Str × V)} (na : H1 a = none) (nd : H1 d = none) :
    Ex H1 (upd (del (upd (upd (upd H1 a z) d (exd d fs)) a (exo a C (some d))) a) d (.xd fs)) := fun b o h => by
  have ha := ne_of_none h na
  have hd := ne_of_none h nd
  rw [upd_ne hd, del_ne ha, upd_ne ha, upd_ne hd, upd_ne ha]
  exact h
theorem i_err2 {H1 : Hp} {v1 v2 : V} {Q : XK} (q : ∀ d H', H1 d = none → Ex H1 H' → H' d = some (.xd [(f2, v2), (f1, v1)]) → Q (.ref C) (some d) H') : errIn C (spErr2 C f1 f2) [v1, v2] H1 Q := by
  refine ⟨by show 2 ≤ 1000; decide, fun a na => ⟨a, v1, v2, rfl, upd_same, fun d nd da => ⟨rfl, d, [(f2, v2), (f1, v1)], ?_, upd_same, ?_, ?_⟩⟩⟩
  · rw [upd_ne (Ne.symm da), upd_same]
  · rw [upd_ne da] at nd
    exact nd
  · rw [upd_ne da] at nd
    exact q d _ nd (err_heap na nd) upd_same
theorem i_err1 {H1 : Hp} {v1 : V} {Q : XK} (q : ∀ d H', H1 d = none → Ex H1 H' → H' d = some (.xd [(f1, v1)]) → Q (.ref C) (some d) H') : errIn C (spErr1 C f1) [v1] H1 Q := by
  refine ⟨by show 1 ≤ 1000; decide, fun a na => ⟨a, v1, rfl, upd_same, fun d nd da => ⟨rfl, d, [(f1, v1)], upd_same, ?_, ?_, ?_⟩⟩⟩
  · rw [upd_ne da, upd_same]
  · rw [upd_ne da] at nd
    exact nd
  · rw [upd_ne da] at nd
    exact q d _ nd (err_heap1 na nd) upd_same
end

/-! ### the readings of such an __init__ -/
section
variable {K : PySem.W.Frag} {C : Addr} {f1 f2 : Str} {ws : Str} {vs : List V} {H : Hp} {Q : VK} {E : XK} {N : List Str}
theorem pure_err2 (O : OexC K C) (n1 : PySem.W.findIn K (.ref C) f1 = some none) (n2 : PySem.W.findIn K (.ref C) f2 = some none) (hN : N.length = 3) (h : spErr2 C f1 f2 vs H Q E) :
    tSeq (tDrop (tVeI K (tCons (tVar 0) (tCons (tC (.str ws)) tNil)))) (tSeq (tOst K f1 (tVar 0) (tVar 1)) (tOst K f2 (tVar 0) (tVar 2))) ⟨fun _ H' => Q .non H', Q, fun _ _ => False, fun _ _ => False⟩ (start N vs) H := by
  obtain ⟨a, v1, v2, rfl, ha, k⟩ := h
  refine ⟨_, rfl, a, C, _, rfl, by show 1 ≤ 1000; decide, O, ha, ?_⟩
  refine ⟨_, rfl, _, rfl, a, C, rfl, O, n1, .inl ⟨ha, fun d nd da => ?_⟩⟩
  refine ⟨_, rfl, _, rfl, a, C, rfl, O, n2, .inr ⟨d, _, upd_same, ?_, by show 1 ≤ 900; decide, k d nd da⟩⟩
  rw [upd_ne da, upd_same]
theorem pure_err1 (O : OexC K C) (n1 : PySem.W.findIn K (.ref C) f1 = some none) (hN : N.length = 2) (h : spErr1 C f1 vs H Q E) :
    tSeq (tDrop (tVeI K (tCons (tVar 0) (tCons (tC (.str ws)) tNil)))) (tOst K f1 (tVar 0) (tVar 1)) ⟨fun _ H' => Q .non H', Q, fun _ _ => False, fun _ _ => False⟩ (start N vs) H := by
  obtain ⟨a, v1, rfl, ha, k⟩ := h
  refine ⟨_, rfl, a, C, _, rfl, by show 1 ≤ 1000; decide, O, ha, ?_⟩
  exact ⟨_, rfl, _, rfl, a, C, rfl, O, n1, .inl ⟨ha, fun d nd da => k d nd da⟩⟩
theorem len_err2 : ∀ (vs : List V) H Q E, spErr2 C f1 f2 vs H Q E → vs.length = 3 := by
  rintro vs H Q E ⟨a, v1, v2, rfl, _⟩
  rfl
theorem len_err1 : ∀ (vs : List V) H Q E, spErr1 C f1 vs H Q E → vs.length = 2 := by
  rintro vs H Q E ⟨a, v1, rfl, _⟩
  rfl
end
end L3

/-! L3c: data (tuples of flat things), repr, isinstance, products of any ints, the draws of a law. -/
namespace L3
open PySem PySem.Spec PyProof.Rows L2

/-! ### data without lists -/
mutual
inductive Dt (H : Hp) : V → PyData → Prop
  | non : Dt H .non .none
  | bl (b : Bool) : Dt H (.bl b) (.bool b)
  | int (i : Int) : Dt H (.int i) (.int i)
  | str (x : Str) : Dt H (.str x) (.str x)
  | tup {a : Addr} {xs : List V} {ds : List PyData} : H a = some (.tup xs) → DtAll H xs ds → Dt H (.ref a) (.tuple ds)
inductive DtAll (H : Hp) : List V → List PyData → Prop
  | nil : DtAll H [] []
  | cons {v : V} {vs : List V} {d : PyData} {ds : List PyData} : Dt H v d → DtAll H vs ds → DtAll H (v :: vs) (d :: ds)
end
mutual
theorem Dt.dp {K : PySem.W.Frag} {H : Hp} : ∀ {v : V} {d : PyData}, Dt H v d → Dp K H v d
  | _, _, .non => .non
  | _, _, .bl b => .bl b
  | _, _, .int i => .int i
  | _, _, .str x => .str x
  | _, _, .tup e r => .tup (SqT.of e) (DtAll.dp r)
theorem DtAll.dp {K : PySem.W.Frag} {H : Hp} : ∀ {vs : List V} {ds : List PyData}, DtAll H vs ds → DpAll K H vs ds
  | _, _, .nil => .nil
  | _, _, .cons h r => .cons (Dt.dp h) (DtAll.dp r)
end
mutual
theorem Dt.up {H H' : Hp} (k : ∀ a xs, H a = some (.tup xs) → H' a = some (.tup xs)) : ∀ {v : V} {d : PyData}, Dt H v d → Dt H' v d
  | _, _, .non => .non
  | _, _, .bl b => .bl b
  | _, _, .int i => .int i
  | _, _, .str x => .str x
  | _, _, .tup e r => .tup (k _ _ e) (DtAll.up k r)
theorem DtAll.up {H H' : Hp} (k : ∀ a xs, H a = some (.tup xs) → H' a = some (.tup xs)) : ∀ {vs : List V} {ds : List PyData}, DtAll H vs ds → DtAll H' vs ds
  | _, _, .nil => .nil
  | _, _, .cons h r => .cons (Dt.up k h) (DtAll.up k r)
end
/-- v is the data d -/
def Da (v : V) (d : PyData) (H : Hp) : Prop := Dt H v d
instance {v : V} {d : PyData} : Mono Ex (Da v d) := ⟨fun e h => Dt.up (fun a xs q => e a _ q) h⟩
instance {b : Addr} {v : V} {d : PyData} : Mono (Bx b) (Da v d) := ⟨fun e h => Dt.up (fun a xs q => e.other q fun l z => by cases z) h⟩
theorem Dt.int_of {H : Hp} {v : V} {i : Int} (h : Dt H v (.int i)) : v = .int i := by cases h; rfl
theorem Dt.bl_of {H : Hp} {v : V} {b : Bool} (h : Dt H v (.bool b)) : v = .bl b := by cases h; rfl
theorem Dt.str_of {H : Hp} {v : V} {x : Str} (h : Dt H v (.str x)) : v = .str x := by cases h; rfl
theorem Dt.non_of {H : Hp} {v : V} (h : Dt H v .none) : v = .non := by cases h; rfl

/-! ### small data can be shown -/
mutual
def Sml : PyData → Prop
  | .none => True
  | .bool _ => True
  | .int i => i.natAbs < 10 ^ 400
  | .str x => ∀ c ∈ x.cps.toList, c < 16 ^ 8
  | .list xs => SmlAll xs
  | .tuple xs => SmlAll xs
  | .dict _ => False
def SmlAll : List PyData → Prop
  | [] => True
  | x :: xs => Sml x ∧ SmlAll xs
end
mutual
theorem Sml.ok : ∀ (d : PyData), Sml d → d.showable = true ∧ d.hasDict = false ∧ d.leavesShort 402 = true
  | .none, _ => ⟨rfl, rfl, rfl⟩
  | .bool b, _ => ⟨rfl, rfl, rfl⟩
  | .int i, h => by
    have h1 : i.natAbs < 10 ^ 400 := h
    refine ⟨?_, rfl, ?_⟩
    · simp only [PyData.showable, decide_eq_true_eq]
      have h2 : i.natAbs < 2 ^ 1920 := Nat.lt_trans h1 (by decide +kernel)
      exact log2_small h2
    · simp only [PyData.leavesShort, decide_eq_true_eq]
      have e := int_text_length_le10 (k := 400) (by decide) h1
      show (Str.ofString (toString i)).length ≤ 402
      rw [PySem.ofString_length]
      omega
  | .str x, h => by
    refine ⟨rfl, rfl, ?_⟩
    simp only [PyData.leavesShort, List.all_eq_true, decide_eq_true_eq]
    exact h
  | .list xs, h => by
    have q := SmlAll.ok xs h
    exact ⟨by simp only [PyData.showable]; exact q.1, by simp only [PyData.hasDict]; exact q.2.1, by simp only [PyData.leavesShort]; exact q.2.2⟩
  | .tuple xs, h => by
    have q := SmlAll.ok xs h
    exact ⟨by simp only [PyData.showable]; exact q.1, by simp only [PyData.hasDict]; exact q.2.1, by simp only [PyData.leavesShort]; exact q.2.2⟩
  | .dict kvs, h => h.elim
theorem SmlAll.ok : ∀ (xs : List PyData), SmlAll xs → PyData.showableAll xs = true ∧ PyData.hasDictAll xs = false ∧ PyData.leavesShortAll 402 xs = true
  | [], _ => ⟨rfl, rfl, rfl⟩
  | x :: xs, h => by
    have q := Sml.ok x h.1
    have r := SmlAll.ok xs h.2
    refine ⟨?_, ?_, ?_⟩
    · simp only [PyData.showableAll, q.1, r.1, Bool.and_self]
    · simp only [PyData.hasDictAll, q.2.1, r.2.1, Bool.or_self]
    · simp only [PyData.leavesShortAll, q.2.2, r.2.2, Bool.and_self]
end
/-- what repr asks of data -/
structure Shw (d : PyData) : Prop where
  sml : Sml d
  dep : d.depth ≤ 50
  blk : d.bulk ≤ 40000
theorem Shw.size {d : PyData} (h : Shw d) : d.shown.length ≤ sizeLine := by
  have a := PyData.shown_le_bulk 402 (by decide) d (Sml.ok d h.sml).2.2
  have b := h.blk
  rw [sizeLine_eq]
  have c : (402 + 2) * d.bulk ≤ 404 * 40000 := Nat.mul_le_mul (Nat.le_refl _) b
  omega
/-! ### repr -/
def rReprD (K : PySem.W.Frag) : List V → Hp → VK → Prop := fun xs H Q => ∃ x d, xs = [x] ∧ Dp K H x d ∧ Shw d ∧ Q (.str d.shown) H
theorem call_reprD {X : Cx} (g : X.A.guards = some []) (hu : X.A.units + 64 < cLine) : CallR X (.builtin "repr") (rReprD X.K) := by
  intro pins s σ H xs us Q I r h
  obtain ⟨x, d, rfl, hd, hs, q⟩ := h
  obtain ⟨u, rfl, ru⟩ := vals1 r
  obtain ⟨as, rd⟩ := Dp.reads I d x u hd ru
  have z := Sml.ok d hs.sml
  have hdep := hs.dep
  cases rd with
  | none => exact PySem.P.repr_of_none ⟨.str _, H, I.tok _, ⟨_, rfl⟩, by simpa only [PyData.shown_none] using q⟩
  | bool b => exact PySem.P.repr_of_bool ⟨.str _, H, I.tok _, ⟨_, rfl⟩, by simpa only [PyData.shown_bool] using q⟩
  | int i t =>
    exact PySem.P.repr_of_int (by simpa [PyData.showable] using z.1) ⟨.str _, H, I.tok _, ⟨_, rfl⟩, by simpa only [PyData.shown_int] using q⟩
  | str y t => exact PySem.P.repr_of_str ⟨.str _, H, I.tok _, ⟨_, rfl⟩, by simpa only [PyData.shown_str] using q⟩ (by simpa only [PyData.shown_str] using hs.size)
  | list h1 h2 h3 h4 =>
    exact repr_of_reads' (.list h1 h2 h3 h4) z.1 (PyData.noDict_hsm z.2.1) g (by omega) (fun b o e => e) (fun h' u tk hk => ⟨.str _, H, I.kept (t' := tk) hk, ⟨_, rfl⟩, q⟩) hs.size
  | tuple h1 h2 h3 h4 =>
    exact repr_of_reads' (.tuple h1 h2 h3 h4) z.1 (PyData.noDict_hsm z.2.1) g (by omega) (fun b o e => e) (fun h' u tk hk => ⟨.str _, H, I.kept (t' := tk) hk, ⟨_, rfl⟩, q⟩) hs.size
  | dict h1 h2 h3 h4 h5 => exact hs.sml.elim
theorem i_repr {K : PySem.W.Frag} {H : Hp} {Q : VK} {x : V} {d : PyData} (h : Dp K H x d) (s : Shw d) (q : Q (.str d.shown) H) : rReprD K [x] H Q := ⟨x, d, rfl, h, s, q⟩

/-! ### isinstance -/
theorem i_isi {K : PySem.W.Frag} {H : Hp} {Q : VK} {x c : V} {t u : Value} {b : Bool} (k : ClsV c u) (ty : TyX K H x t) (e : PySem.W.kitOne K t u = some b) (q : Q (.bl b) H) : rIsi K [x, c] H Q := ⟨x, c, t, u, b, rfl, k, ty, e, q⟩
/-- is it an int, a bool -/
def isI : PyData → Bool
  | .bool _ => true
  | .int _ => true
  | _ => false
def isBl : PyData → Bool
  | .bool _ => true
  | _ => false
def isInt : PyData → Bool
  | .int _ => true
  | _ => false
theorem isInt_eq (d : PyData) : (isI d && !isBl d) = isInt d := by cases d <;> rfl
theorem i_isiI {K : PySem.W.Frag} {H : Hp} {Q : VK} {x : V} {d : PyData} (h : Dt H x d) (q : Q (.bl (isI d)) H) : rIsi K [x, .ty "int"] H Q := by
  cases h with
  | non => exact i_isi (.ty _) (.base .non) (kit_ty (show kitB "NoneType" "int" = some false by decide +kernel)) q
  | bl b => exact i_isi (.ty _) (.base (.bl b)) (kit_ty (show kitB "bool" "int" = some true by decide +kernel)) q
  | int i => exact i_isi (.ty _) (.base (.int i)) (kit_ty (show kitB "int" "int" = some true by decide +kernel)) q
  | str y => exact i_isi (.ty _) (.base (.str y)) (kit_ty (show kitB "str" "int" = some false by decide +kernel)) q
  | tup e r => exact i_isi (.ty _) (.base (.tup e)) (kit_ty (show kitB "tuple" "int" = some false by decide +kernel)) q
theorem i_isiB {K : PySem.W.Frag} {H : Hp} {Q : VK} {x : V} {d : PyData} (h : Dt H x d) (q : Q (.bl (isBl d)) H) : rIsi K [x, .ty "bool"] H Q := by
  cases h with
  | non => exact i_isi (.ty _) (.base .non) (kit_ty (show kitB "NoneType" "bool" = some false by decide +kernel)) q
  | bl b => exact i_isi (.ty _) (.base (.bl b)) (kit_ty (show kitB "bool" "bool" = some true by decide +kernel)) q
  | int i => exact i_isi (.ty _) (.base (.int i)) (kit_ty (show kitB "int" "bool" = some false by decide +kernel)) q
  | str y => exact i_isi (.ty _) (.base (.str y)) (kit_ty (show kitB "str" "bool" = some false by decide +kernel)) q
  | tup e r => exact i_isi (.ty _) (.base (.tup e)) (kit_ty (show kitB "tuple" "bool" = some false by decide +kernel)) q

/-! ### products -/
def CMulX (i j : Int) : Prop := CMul i j ∨ CMulW i j
theorem op_mulX {X : Cx} : OpR X (binaryOp .Mult) (rI CMulX fun i j => .int (i * j)) := opI fun i j _ _ _ _ _ hc q => by
  rcases hc with hc | hc
  · exact mul_int q hc.ok
  · exact mul_int q hc.ok
theorem mulL {i j : Int} (h1 : -(2 ^ 64) < i) (h2 : i < 2 ^ 64) : CMulX i j := .inl (.inl ⟨h1, h2⟩)
theorem mulR {i j : Int} (h1 : -(2 ^ 64) < j) (h2 : j < 2 ^ 64) : CMulX i j := .inl (.inr ⟨h1, h2⟩)
theorem mulW {i j : Int} {a b : Nat} (ha : i.natAbs < 2 ^ a) (hb : j.natAbs < 2 ^ b) (h0 : 0 < a := by decide) (h1 : 0 < b := by decide) (h : a + b ≤ 1000000 := by decide) : CMulX i j := .inr (wide_mul ha hb h0 h1 h)
theorem divW {i j : Int} (h : 0 < j) (hb : j < 2 ^ 4000) : CDivW i j := wide_div (b := 4000) h (by omega) (by decide) (by decide)
end L3

/-! L3d: the steps as tactics; the draws of a law. -/
namespace L3
open PySem PySem.Spec PyProof.Rows L2
instance {a : Addr} {o : HO} : Mono Ex (fun H => H a = some o) := ⟨fun e h => e _ _ h⟩
instance {b a : Addr} {xs : List V} : Mono (Bx b) (fun H => H a = some (.tup xs)) := ⟨fun e h => e.other h fun l z => by cases z⟩
instance {b a C dx : Addr} {fs : List (Str × V)} : Mono (Bx b) (fun H => H a = some (.ins C dx fs)) := ⟨fun e h => e.other h fun l z => by cases z⟩
instance {b a x : Addr} : Mono (Bx b) (fun H => H a = some (.own x)) := ⟨fun e h => e.other h fun l z => by cases z⟩
instance {b a : Addr} {fs : List (Str × V)} : Mono (Bx b) (fun H => H a = some (.xd fs)) := ⟨fun e h => e.other h fun l z => by cases z⟩
def newT (xs : List V) (H : Hp) (Q : VK) : Prop := xs.length ≤ sizeLine ∧ ∀ p, H p = none → Q (.ref p) (upd H p (.tup xs))
def newL (xs : List V) (H : Hp) (Q : VK) : Prop := xs.length ≤ sizeLine ∧ ∀ p, H p = none → Q (.ref p) (upd H p (.lst xs))
section
variable {K : PySem.W.Frag} {σ : L2.St} {H : Hp} {Q : VK} {ta tb tc te : TE} {x y v : V} {D : Ends} {t u : TS}
theorem j_tup {ta : TA} (q : ta σ H fun xs H1 => newT xs H1 Q) : tTup ta σ H Q := q
theorem j_lst {ta : TA} (q : ta σ H fun xs H1 => newL xs H1 Q) : tLst ta σ H Q := q
theorem i_newT {xs : List V} (k : ∀ p H', Ex H H' → H p = none → H' p = some (.tup xs) → Q (.ref p) H') (l : xs.length ≤ 1000 := by (simp only [List.length_cons, List.length_nil]; decide)) : newT xs H Q :=
  ⟨Nat.le_trans l (by decide), fun p hp => k p _ (Ex.new hp) hp upd_same⟩
theorem i_newL {xs : List V} (k : ∀ p H', Ex H H' → H p = none → H' p = some (.lst xs) → Q (.ref p) H') (l : xs.length ≤ 1000 := by (simp only [List.length_cons, List.length_nil]; decide)) : newL xs H Q :=
  ⟨Nat.le_trans l (by decide), fun p hp => k p _ (Ex.new hp) hp upd_same⟩
/-- a store into a list at a place -/
theorem i_setL {p : Addr} {xs : List V} {i : Int} {j : Nat} {QS : Hp → Prop} (h : H p = some (.lst xs)) (hj : ixN xs.length i = some j) (q : QS (upd H p (.lst (xs.set j v)))) : rSetL (.ref p) (.int i) v H QS := ⟨p, xs, i, j, rfl, rfl, h, hj, q⟩
theorem i_sub {to ti : TE} {ts : TSet} (q : te σ H fun v H0 => to σ H0 fun o H1 => ti σ H1 fun i H2 => ts o i v H2 fun H3 => D.nx σ H3) : tAsg te (gSub to ti ts) D σ H := q
theorem i_abs {i : Int} (q : Q (.int (if i < 0 then -i else i)) H) : (fun (xs : List V) (H : Hp) (Q : VK) => ∃ i, xs = [V.int i] ∧ Q (.int (if i < 0 then -i else i)) H) [.int i] H Q := ⟨i, rfl, q⟩
theorem i_isF {A B : Prop} {b : Bool} (hb : b = false) (h : B) : if b = true then A else B := by
  rw [hb]
  exact i_false h
theorem i_isT {A B : Prop} {b : Bool} (hb : b = true) (h : A) : if b = true then A else B := by
  rw [hb]
  exact h
end
end L3
namespace L3
open PySem PySem.Spec PyProof.Rows L2
/-! ### the box of a law's draws -/
/-- at b: what is left of a great integer, the seed, a count -/
def Box (b : Addr) (H : Hp) : Prop := ∃ x y z : Int, H b = some (.lst [.int x, .int y, .int z]) ∧ 0 ≤ x ∧ 1 ≤ y ∧ y ≤ 2147483629 ∧ 0 ≤ z
instance {b : Addr} : Mono Ex (Box b) := ⟨fun e ⟨x, y, z, h, r⟩ => ⟨x, y, z, e _ _ h, r⟩⟩
theorem Bx.upd {b : Addr} {H : Hp} {l l' : List V} (h : H b = some (.lst l)) : Bx b H (upd H b (.lst l')) := ⟨fun a o n q => by rw [upd_ne n]; exact q, l, h⟩
theorem Bx.trans {b : Addr} {H H1 H2 : Hp} (a : Bx b H H1) (c : Bx b H1 H2) : Bx b H H2 := ⟨fun x o n h => c.keep x o n (a.keep x o n h), a.was⟩
theorem Bx.ex {b : Addr} {H H' : Hp} (h : Box b H) (e : Ex H H') : Bx b H H' := by
  obtain ⟨x, y, z, h, _⟩ := h
  exact ⟨fun a o _ q => e a o q, _, h⟩
theorem Bx.refl {b : Addr} {H : Hp} (h : Box b H) : Bx b H H := Bx.ex h (Ex.refl H)
/-- a draw: any number from 0 to n - 1 -/
def spTake : Sp := fun vs H Q _ => ∃ (b : Addr) (n : Int), vs = [.ref b, .int n] ∧ Box b H ∧ 1 ≤ n ∧ n < 2 ^ 4000 ∧ ∀ (d : Int) H', 0 ≤ d → d < n → Bx b H H' → Box b H' → Q (.int d) H'
theorem len_take : ∀ (vs : List V) H Q E, spTake vs H Q E → vs.length = 2 := by
  rintro vs H Q E ⟨b, n, rfl, _⟩
  rfl
/-- the box of a cell -/
def spBox (K : PySem.W.Frag) : Sp := fun vs H Q _ => ∃ (a : Addr) (ns : List Int) (k o : Int), vs = [.ref a, .int k, .int o] ∧ SqL K H a (ns.map V.int) ∧ 0 ≤ k ∧ k ≤ 1000 ∧ 0 ≤ o ∧ o ≤ 1000 ∧
  ∀ b H', H b = none → Ex H H' → Box b H' → Q (.ref b) H'
theorem len_box {K : PySem.W.Frag} : ∀ (vs : List V) H Q E, spBox K vs H Q E → vs.length = 3 := by
  rintro vs H Q E ⟨a, ns, k, o, rfl, _⟩
  rfl
end L3

/-! L3e: what the top leaves, as one Bool of a part of the heap; a law's end. -/
namespace L3
open PySem PySem.Spec PyProof.Rows L2
/-! ### the part of the heap that is looked at -/
def asX (g : Addr → Option Obj) : Nat → List Addr
  | 0 => [mainGlobals, cStatics]
  | n + 1 => He.growD g (asX g n)
abbrev AlX : Type := Bool × List He.FnW
def obsX (ck : PySem.W.Frag → Bool) (fn : List He.DefD) (K : PySem.W.Frag) : AlX := (ck K && fn.all fun d => d.ok K, fn.map fun d => He.fnW K d.at_)
def valX (fn : List He.DefD) : AlX := (true, fn.map He.DefD.val)
def SaysX (ck : PySem.W.Frag → Bool) (fn : List He.DefD) (K : PySem.W.Frag) : Prop := obsX ck fn K = valX fn
def obsXG (n : Nat) (ck : PySem.W.Frag → Bool) (fn : List He.DefD) (g : Addr → Option Obj) : AlX := obsX ck fn (He.frG g (asX g n))
def hookX (n : Nat) (ck : PySem.W.Frag → Bool) (fn : List He.DefD) : PySem.W.Hook where
  α := AlX
  obs := fun s => obsXG n ck fn s.heap.get?
  val := fun _ => valX fn
  says := fun _ h => ∃ K : PySem.W.Frag, K.In h ∧ SaysX ck fn K
  of := fun _ _ e => ⟨_, He.frG_in, e⟩
  keeps := fun _ _ _ ⟨K, hK, c⟩ k => ⟨K, PySem.W.Frag.In.keeps hK k, c⟩
theorem obsXG_eq {n : Nat} {ck : PySem.W.Frag → Bool} {fn : List He.DefD} {g : Addr → Option Obj} {s : Shared} (h : ∀ a, g a = s.heap.get? a) : obsXG n ck fn g = (hookX n ck fn).obs s := by
  have e : g = s.heap.get? := funext h
  rw [e]
  rfl
section
variable {ck : PySem.W.Frag → Bool} {fn : List He.DefD} {K : PySem.W.Frag}
theorem SaysX.cks (c : SaysX ck fn K) : ck K = true :=
  (He.ba (show (ck K && fn.all fun d => d.ok K) = true from congrArg (fun z : AlX => z.1) c)).1
theorem SaysX.def_ (c : SaysX ck fn K) (i : Nat) {d : He.DefD} (h : fn[i]? = some d := by rfl) : ∃ fd, FunD K d.name d.qual d.params d.body d.scope (d.dvs K) (d.kws K) (He.fAd K d.at_) fd := by
  have c1 := (He.ba (show (ck K && fn.all fun d => d.ok K) = true from congrArg (fun z : AlX => z.1) c)).2
  have e2 : (fn.map fun d => He.fnW K d.at_)[i]? = (fn.map He.DefD.val)[i]? := congrArg (fun z : AlX => z.2[i]?) c
  rw [List.getElem?_map, List.getElem?_map, h] at e2
  exact He.DefD.funD (Option.some.inj e2) (List.all_eq_true.mp c1 d (List.mem_of_getElem? h))
end
/-! ### own error classes over ValueError -/
def oexB (K : PySem.W.Frag) (C : Addr) : Bool := (match K.lookup C with
    | some ⟨.type "type", _, .cls cd, sl⟩ => (match cd.mro, sl.toList with
      | .ref C' :: bm, [_, _, _, _, some (.builtin n), _] => C' == C && n == "ValueError.__new__" && !cd.hasDel && cd.hasDict && PySem.HandSPX.refsVE bm
      | _, _ => false)
    | _ => false) &&
  (decide (PySem.W.findIn K (.ref C) "__setattr__" = some (some (.builtin "object.__setattr__"))) && (decide (PySem.W.subIn K (.ref C) (.type "BaseException") = some true) && (decide (PySem.W.typeIn K (.ref C) = some (.type "type")) && PySem.W.keepIn K (.ref C))))
theorem oexB_ok {K : PySem.W.Frag} {C : Addr} (h : oexB K C = true) : OexC K C := by
  obtain ⟨h1, h2⟩ := He.ba h
  obtain ⟨h3, h4⟩ := He.ba h2
  obtain ⟨h5, h6⟩ := He.ba h4
  obtain ⟨h7, h8⟩ := He.ba h6
  refine ⟨?_, of_decide_eq_true h3, of_decide_eq_true h5, of_decide_eq_true h7, h8⟩
  split at h1
  · rename_i dd cd sl ho
    split at h1
    · rename_i C' bm k0 k1 k2 k3 n k5 hm hs
      simp only [Bool.and_eq_true, beq_iff_eq, Bool.not_eq_true'] at h1
      obtain ⟨⟨⟨⟨rfl, rfl⟩, hdel⟩, hdct⟩, hb⟩ := h1
      obtain ⟨nm, bs, mro, ns, qn, hd, sn, sub, ab, col, del⟩ := cd
      dsimp only at hm hdel hdct
      subst hm hdel hdct
      obtain ⟨l⟩ := sl
      simp only at hs
      subst hs
      exact ⟨nm, qn, ns, bs, bm, sn, sub, ab, col, dd, k0, k1, k2, k3, k5, ho, hb⟩
    · cases h1
  · cases h1
/-- its __init__ -/
def initB (K : PySem.W.Frag) (C : Addr) : Bool := decide (PySem.W.findIn K (.ref C) "__init__" = some (some (.ref (He.ma K C "__init__")))) && decide (PySem.W.typeIn K (.ref (He.ma K C "__init__")) = some (.type "function"))
/-- B.__init__ is ValueError's -/
def baseB (K : PySem.W.Frag) (C : Addr) : Bool := (PySem.W.readsIn K C (.type "type") && decide (PySem.W.specialIn K (.ref C) "__getattribute__" = some (some (.builtin "type.__getattribute__")))) &&
  (match PySem.W.findCls K (.ref C) (.type "type") "__init__" with
    | some (.val (.builtin n)) => n == "ValueError.__init__"
    | _ => false)
theorem baseB_ok {K : PySem.W.Frag} {mg : Str → Option Value} {B : Str} {C : Addr} (hg : mg B = some (.ref C)) (h : baseB K C = true) : BaseInit K mg B C (.type "type") := by
  obtain ⟨h1, h2⟩ := He.ba h
  obtain ⟨h3, h4⟩ := He.ba h1
  refine ⟨hg, ⟨h3, of_decide_eq_true h4⟩, ?_⟩
  split at h2
  · rename_i n e
    rw [e, beq_iff_eq.mp h2]
  · cases h2

/-! ### a law's end -/
theorem law_g {P : Program} {w : World} {K : PySem.W.Frag} {mg mb : Str → Option Value} {k : Nat} {fa a : Addr} {fd : FuncData} {x : Str} {sp : Sp} {s1 : Shared} {vs : List Value} {ns : List Int}
    (KX : K.In s1.heap) (hns : s1.heap.Ns mainGlobals mg) (hb : s1.heap.Ns builtinsNs mb) (hbb : ∀ y : Str, y ≠ "__name__" → mb y = bootBuiltins y) (hlim : s1.heap.NoLimit) (hg : s1.gens = #[])
    (ha : s1.heap.get? a = some { cls := .type "list", data := .seq vs.toArray }) (hi : IntsAre vs ns) (hl : ns.length ≤ sizeLine) (hr : Room k callerA)
    (F : ∀ base : Heap, K.In base → base.Ns mainGlobals mg → FnG P w K mg base k fa fd [x] sp) (hbind : ∀ (s : Shared) (u : Value), BindsTo s fd ⟨[u], []⟩ [(x, u)])
    (hsp : ∀ H : Hp, Only H → SqL K H a (ns.map V.int) → sp [.ref a] H (fun v _ => v = .bl true) fun _ _ _ => False) :
    codeAny (model P w) callerA (.call (.ref fa) ⟨[.ref a], []⟩) (fun r s' => r = .ok (.ret (.bool true)) ∧ OldK s1.heap s'.heap ∧ s'.os = s1.os ∧ AllBare s'.gens) s1 := by
  have lenV : vs.length = ns.length := by
    have z := hi.length
    omega
  -- the script is tracked as a frozen list, or it is an object of the text's own
  have run : ∀ H : Hp, Only H → SqL K H a (ns.map V.int) → HOk P w H s1.heap → (∀ b, b ≠ a → H b = none) → (K.lookup a ≠ none → H a = none) →
      codeAny (model P w) callerA (.call (.ref fa) ⟨[.ref a], []⟩) (fun r s' => r = .ok (.ret (.bool true)) ∧ OldK s1.heap s'.heap ∧ s'.os = s1.os ∧ AllBare s'.gens) s1 := by
    intro H hO hS hok out hK
    have dictFree : ∀ (b : Addr) (o : Obj) (es : Array DictEntry) (ep : Nat), s1.heap.get? b = some o → o.data = .dict es ep → H b = none := by
      intro b o es ep e d
      refine out b fun z => ?_
      rw [z, ha] at e
      cases e
      exact nomatch d
    have ns' : ∀ (b : Addr) (m : Str → Option Value), s1.heap.Ns b m → (hidT s1.heap H).Ns b m := by
      rintro b m ⟨o, es, ep, e, d, r⟩
      exact ⟨o, es, ep, hidT_get e (dictFree b o es ep e d), d, r⟩
    have kin : K.In (hidT s1.heap H) := by
      intro b o e
      refine hidT_get (KX b o e) ?_
      by_cases z : b = a
      · rw [z] at e ⊢
        exact hK (by rw [e]; simp)
      · exact out b z
    have lim : (hidT s1.heap H).NoLimit := by
      obtain ⟨mc, h1, h2⟩ := hlim
      exact ⟨mc, ns' _ _ h1, h2⟩
    have e0 : Env0 P w K mg (hidT s1.heap H) callerA [] s1 H := by
      constructor
      · rfl
      · exact ⟨kin, ns' _ _ hns, ⟨mb, ns' _ _ hb, hbb⟩, lim⟩
      · exact fun b o e => of_hidT e
      · exact Nat.le_of_eq (hidT_size _ _)
      · exact trivial
      · intro b z
        exact absurd (show b ∈ ([] : List Addr) from z) (by simp)
      · exact hok
      · exact .of_eq hg
    apply codeAny_mono ((F _ kin (ns' _ _ hns)).run callerA [] s1 H ⟨[.ref a], []⟩ [.ref a] [.ref a] _ _ rfl hr e0 (hbind s1 (.ref a)) (.cons rfl .nil) (hsp H hO hS))
    intro r s' q
    match r, q with
    | .error e, q =>
      obtain ⟨_, _, _, _, _, _, _, _, _, _, _, _, z⟩ := q
      exact z.elim
    | .ok .next, q => exact q.elim
    | .ok .brk, q => exact q.elim
    | .ok .cont, q => exact q.elim
    | .ok (.ret u), ⟨v, H', os, bare, un, hok', rv, hv⟩ =>
      have hv' : v = .bl true := hv
      subst hv'
      cases rv
      refine ⟨rfl, OldK.of_keep ?_, os, bare⟩
      intro b o e
      rcases hO b with z | ⟨ob, xs, z⟩
      · exact un.keep b o e z (fun q => absurd (show b ∈ ([] : List Addr) from q) (by simp)) (by simp)
      · have e1 := (hok b _ z).1
        have e2 := (hok' b _ (un.frzs b ob _ z)).1
        rw [e] at e1
        cases e1
        exact e2
  have rv := vals_ints hi
  by_cases hk : K.lookup a = none
  · let ob : Obj := { cls := .type "list", data := .seq vs.toArray }
    let H : Hp := fun b => if b = a then some (.frz ob (.lst (ns.map V.int))) else none
    have Ha : H a = some (.frz ob (.lst (ns.map V.int))) := if_pos rfl
    have Hn : ∀ b, b ≠ a → H b = none := fun b z => if_neg z
    refine run H (fun b => ?_) (.inl (.inr ⟨ob, Ha⟩)) (fun b u z => ?_) Hn fun z => absurd hk z
    · by_cases z : b = a
      · exact .inr ⟨ob, _, z ▸ Ha⟩
      · exact .inl (Hn b z)
    · by_cases q : b = a
      · subst q
        rw [Ha] at z
        cases z
        exact ⟨ha, by rw [List.length_map]; exact hl, vs, 0, rv, ha⟩
      · rw [Hn b q] at z
        cases z
  · obtain ⟨o, ho⟩ := Option.ne_none_iff_exists'.mp hk
    have e := KX a o ho
    rw [ha] at e
    cases e
    exact run (fun _ => none) (fun _ => .inl rfl) (.inr ⟨_, vs.toArray, _, ho, rfl, rfl, rfl, by rw [List.size_toArray, lenV]; exact hl, by simpa using rv⟩) (fun _ _ z => nomatch z) (fun _ _ => rfl) fun _ => rfl
theorem walk_g {l : PySem.W.OpenLaw} {n k : Nat} {q : Program} {loose : List Str} {XP : (Str → Option Value) → Heap → Prop} {YP : World → Heap → Prop} {d : DefRec} {x : Str}
    (hn : l.most = some n) (hn2 : n ≤ sizeLine) (hdf : d.params.defaults = []) (hr : Room k callerA)
    (F : ∀ (w : World) (mg : Str → Option Value) (fa : Addr) (h : Heap), YP w h → h.Ns mainGlobals mg → mg d.name = some (.ref fa) →
      ∃ (K : PySem.W.Frag) (fd : FuncData) (sp : Sp), K.In h ∧ (∀ (s : Shared) (u : Value), BindsTo s fd ⟨[u], []⟩ [(x, u)]) ∧
        (∀ (H : Hp) (a : Addr) (ns : List Int), ns.length ≤ n → Only H → SqL K H a (ns.map V.int) → sp [.ref a] H (fun v _ => v = .bl true) fun _ _ _ => False) ∧
        ∀ base : Heap, K.In base → base.Ns mainGlobals mg → FnG l.prog w K mg base k fa fd [x] sp) :
    PySem.W.WalkO q loose XP YP l.row.toRowW d [] (fun f vs => PySem.call f vs) :=
  Att.attach_call hn hdf fun w s0 s1 mg mb fa o pm cd doc a vs ns G Y ho hd hcd hmg hobj hints hlen hg => by
    obtain ⟨K, fd, sp, KX, hb, hsp, hF⟩ := F w mg fa _ Y G.T.g hmg
    exact law_g KX G.T.g G.T.b G.T.builtins G.T.nolimit hg hobj hints (Nat.le_trans hlen hn2) hr hF hb fun H hO hS => hsp H a ns hlen hO hS
/-- the law's promise: handed a script, it gives True -/
def spLaw (K : PySem.W.Frag) : Sp := fun vs H Q _ => ∃ (a : Addr) (ns : List Int), vs = [.ref a] ∧ SqL K H a (ns.map V.int) ∧ ns.length ≤ 63 ∧ ∀ H', Q (.bl true) H'
theorem len_law {K : PySem.W.Frag} : ∀ (vs : List V) H Q E, spLaw K vs H Q E → vs.length = 1 := by
  rintro vs H Q E ⟨a, ns, rfl, _⟩
  rfl
end L3

/-! L3g: an __init__ that says super().__init__(..): a def with the cell __class__. -/
namespace L3
open PySem PySem.Spec PyProof.Rows L2
/-- a def that closes over __class__ (the cell at cc, which holds the class at D), its code object told by its file -/
structure FunS (P : Program) (K : PySem.W.Frag) (x qual : Str) (params : Arguments) (body : List Stmt) (scope : Scope) (cc D : Addr) (f : Addr) (fd : FuncData) : Prop where
  ex : ∃ (oc : Value) (od : Option Addr) (doc pm : Value) (an : Option Addr) (cda : Addr) (ct : Value) (osl : Array (Option Value)),
    fd = PySem.W.fnX x qual params body scope [("__class__", cc)] .none .none doc pm an (.ref cda) ct ∧ K.lookup f = some ⟨oc, od, .func fd, osl⟩ ∧ PySem.W.codeIn K (.ref cda) qual = true ∧
    ∃ (o1 : Value) (d1 : Option Addr) (vs : Array Value) (l1 : Array (Option Value)) (file : Str) (tf : Tok), K.lookup cda = some ⟨o1, d1, .fields vs, l1⟩ ∧ vs[2]? = some (.str file tf) ∧ ((P.main.file : Str) == file) = true
  cell : ∃ (o1 : Value) (d1 : Option Addr) (l1 : Array (Option Value)), K.lookup cc = some ⟨o1, d1, .cell (some (.ref D)), l1⟩
  kp : PySem.W.keepIn K (.ref f) = true
structure SupScope (N Ps : List Str) (sc : Scope) : Prop where
  kind : sc.kind = .function
  co : sc.isCoroutine = false
  gen : sc.isGenerator = false
  nd : N.Nodup
  pre : N.take Ps.length = Ps
  par : ∀ x ∈ Ps, sc.names.lookup x = some .local
  nocell : ∀ y ∈ sc.names, y.2 ≠ .cell
  free : ∀ y ∈ sc.names, y.2 = .free → y.1 = "__class__"
theorem lookup_rev {β : Type} {y : Str} {u : β} : ∀ {l : List (Str × β)}, (y, u) ∈ l → (∀ q ∈ l, q.1 = y → q.2 = u) → l.lookup y = some u
  | [], h, _ => by cases h
  | (z, v) :: r, h, k => by
    by_cases e : y = z
    · subst e
      have e2 := k _ List.mem_cons_self rfl
      dsimp only at e2
      subst e2
      simp [List.lookup]
    · have e1 : (y == z) = false := by simpa using e
      have h2 : (y, u) ∈ r := by
        rcases List.mem_cons.mp h with q | q
        · cases q
          exact absurd rfl e
        · exact q
      simp only [List.lookup, e1]
      exact lookup_rev h2 fun q hq => k q (List.mem_cons_of_mem _ hq)
theorem zip_lookup {ps : List Str} {us : List Value} {i : Nat} {y : Str} {u : Value} (nd : ps.Nodup) (hp : ps[i]? = some y) (hu : us[i]? = some u) : (ps.zip us).reverse.lookup y = some u := by
  refine lookup_rev (List.mem_reverse.mpr ?_) fun q hq e => ?_
  · have z : (ps.zip us)[i]? = some (y, u) := by rw [List.getElem?_zip_eq_some]; exact ⟨hp, hu⟩
    exact List.mem_of_getElem? z
  · obtain ⟨j, hj⟩ := List.getElem?_of_mem (List.mem_reverse.mp hq)
    obtain ⟨a, b⟩ := q
    rw [List.getElem?_zip_eq_some] at hj
    dsimp only at e
    subst e
    have ij : j = i := nodup_ix nd hj.1 hp
    subst ij
    rw [hu] at hj
    exact (Option.some.inj hj.2).symm
/-- the context of such a body -/
def cxS (P : Program) (w : World) (K : PySem.W.Frag) (mg : Str → Option Value) (base : Heap) (N : List Str) (fd : FuncData) (f : Addr) (A : Around) (outer : List Env) (s : Shared) (H : Hp) (E : XK) : Cx where
  prog := P
  w := w
  K := K
  mg := mg
  base := base
  A := A.deeper (callEnv fd s.heap.objs.size f)
  N := N
  s_0 := s
  H_0 := H
  env := callEnv fd s.heap.objs.size f
  outer := outer
  stack := callEnv fd s.heap.objs.size f :: outer
  ex := []
  calm := true
  fn := fun x => !(x == "__class__")
  pn := []
  xe := fun e s' => wpAny (model P w) (A.deeper (callEnv fd s.heap.objs.size f)) (leaving (callEnv fd s.heap.objs.size f) e) (fun _ s'' => L2.CX P w outer H s E e s'') (fun e' s'' => L2.CX P w outer H s E e' s'') s'
/-- statements, known to be those of the running def -/
structure PSA (X : Cx) (c : Code) (st : List Stmt) (t : TS) : Prop where
  run : ∀ (pins : List (Addr × Obj)) (s : Shared) (σ : L2.St) (H : Hp) (D : Ends), Inv X pins σ H s → t D σ H → _root_.PySem.wpAt (model X.prog X.w) X.A c (execs st X.env) (SP X pins D) X.xe s
theorem psa_of {X : Cx} {c : Code} {st : List Stmt} {t : TS} (h : PSs X st t) : PSA X c st t := ⟨fun pins s σ H D I q => _root_.PySem.wpAt_of_wpAny (h.run pins s σ H D I q)⟩
theorem psa_cons {X : Cx} {c : Code} {st : Stmt} {rest : List Stmt} {t u : TS} (h1 : PS X st t) (h2 : PSA X c rest u) : PSA X c (st :: rest) (tSeq t u) := by
  constructor
  intro pins s σ H D I h
  refine PySem.ks_wpAt_execs_cons (_root_.PySem.wpAt_of_wpAny (thn (h1.run pins s σ H { D with nx := u D } I h) ?_))
  intro f s1 q
  match f, q with
  | .next, ⟨σ', H', I', q⟩ => exact h2.run pins s1 σ' H' D I' q
  | .ret v, q => exact q
  | .brk, q => exact q
  | .cont, q => exact q
section
variable {P : Program} {w : World} {K : PySem.W.Frag} {mg : Str → Option Value} {base : Heap} {k : Nat} {f cc D : Addr} {fd : FuncData} {x qual : Str} {params : Arguments} {body : List Stmt} {scope : Scope} {N ps : List Str} {sp : Sp}
theorem inv_sup (F : FunS P K x qual params body scope cc D f fd) (S : SupScope N ps scope) {A : Around} {outer : List Env} {s : Shared} {H : Hp} {E : XK} {us : List Value} {vs : List V} {h1 : Heap} {tk : Nat} (hd : A.handled = none) (e0 : Env0 P w K mg base A outer s H) (hl : vs.length = ps.length) (r : Vals vs us)
    (hns : h1.Ns s.heap.objs.size (fun y => (ps.zip us).reverse.lookup y)) (hk : ∀ b o, s.heap.get? b = some o → h1.get? b = some o) :
    Inv (cxS P w K mg base N fd f A outer s H E) [] (start N vs) H { s with heap := h1, toks := tk } := by
  obtain ⟨oc, od, doc, pm, an, cda, ct, osl, rfl, lk, hcd, hco⟩ := F.ex
  obtain ⟨o1, d1, l1, hcell⟩ := F.cell
  have hpl : ps.length ≤ N.length := by
    have z := congrArg List.length S.pre
    rw [List.length_take] at z
    omega
  have ndP : ps.Nodup := by
    rw [← S.pre]
    exact S.nd.sublist (List.take_sublist _ _)
  have base_cc := e0.mod.kin cc _ hcell
  have cells : ∀ (y : Str) (c : Addr), ([("__class__", cc)] : List (Str × Addr)).lookup y = some c → y = "__class__" ∧ c = cc := by
    intro y c h
    by_cases e : y = "__class__"
    · subst e
      simp [List.lookup] at h
      exact ⟨rfl, h.symm⟩
    · have e1 : (y == ("__class__" : Str)) = false := by simpa using e
      simp [List.lookup, e1] at h
  have noEx : ∀ b : Addr, b ∉ (cxS P w K mg base N (PySem.W.fnX x qual params body scope [("__class__", cc)] .none .none doc pm an (.ref cda) ct) f A outer s H E).ex := fun b z => absurd (show b ∈ ([] : List Addr) from z) (by simp)
  constructor
  · constructor
    · exact e0.mod
    · exact S.kind
    · rfl
    · rfl
    · exact Nat.le_refl _
    · intro y z c h h'
      exact (cells y c h).1.trans (cells z c h').1.symm
    · intro y hy
      have hy' : scope.names.lookup y = some .cell ∨ scope.names.lookup y = some .free := hy
      rcases hy' with q | q
      · exact absurd rfl (S.nocell _ (PySem.mem_of_lookup q))
      · have e := S.free _ (PySem.mem_of_lookup q) rfl
        dsimp only at e
        subst e
        exact ⟨cc, by simp [cxS, callEnv, newEnv, List.lookup]⟩
    · intro y c hf h
      have e := (cells y c h).1
      subst e
      simp [cxS] at hf
    · exact fun _ => hd
    · exact Around.frames_deeper e0.frames
    · exact .inr ⟨rfl, rfl⟩
    · exact fun b z => absurd z (noEx b)
    · exact e0.bs
    · exact e0.bsz
    · exact fun b _ _ => noEx b
    · exact fun b z => absurd z (noEx b)
    · exact e0.funs
    · exact e0.frf
  · rfl
  · exact e0.bare
  · exact Un.kept hk
  · refine ⟨_, hns, fun i y v h1 h2 h3 => ?_⟩
    have hi : i < vs.length := by
      unfold L2.start at h2
      by_cases hi : i < vs.length
      · exact hi
      · rw [List.getElem?_append_right (by simpa using hi), List.getElem?_replicate] at h2
        split at h2 <;> cases h2
    have hv : vs[i]? = some v := by
      unfold L2.start at h2
      rw [List.getElem?_append_left (by simpa using hi), List.getElem?_map] at h2
      cases e : vs[i]? with
      | none =>
        rw [e] at h2
        cases h2
      | some a =>
        rw [e] at h2
        cases h2
        rfl
    obtain ⟨u, hu, rv⟩ := r.get hv
    have hp : ps[i]? = some y := by
      rw [← S.pre, List.getElem?_take_of_lt (by omega)]
      exact h1
    exact ⟨u, rv, .inl ⟨S.par y (List.mem_of_getElem? hp), zip_lookup ndP hp hu⟩⟩
  · intro y c h
    obtain ⟨_, rfl⟩ := cells y c h
    exact ⟨_, _, hk _ _ (e0.bs _ _ base_cc).1, rfl⟩
  · exact e0.hok.fresh (Nat.le_refl _)
  · intro y c h
    obtain ⟨_, rfl⟩ := cells y c h
    exact (e0.bs _ _ base_cc).2
  · intro p hp
    exact absurd (show p ∈ ([] : List (Addr × Obj)) from hp) (by simp)
  · exact e0.hok.kept hk
  · unfold L2.start
    show _ = N.length
    rw [List.length_append, List.length_map, List.length_replicate]
    omega
/-- such a def keeps its promise -/
theorem fnS_of (F : FunS P K x qual params body scope cc D f fd) (S : SupScope N ps scope) (len : ∀ vs H Q E, sp vs H Q E → vs.length = ps.length)
    (hbody : ∀ (A : Around) (outer : List Env) (s : Shared) (H : Hp) (vs : List V) (Q : VK) (E : XK), Room k (A.deeper (callEnv fd s.heap.objs.size f)) → sp vs H Q E →
      ∃ t, PSA (cxS P w K mg base N fd f A outer s H E) (.func body (callEnv fd s.heap.objs.size f)) body t ∧ t ⟨fun _ H' => Q .non H', Q, fun _ _ => False, fun _ _ => False⟩ (start N vs) H) :
    FnOk P w K mg base (L2.CX P w) (k + 1) f fd ps sp := by
  obtain ⟨oc, od, doc, pm, an, cda, ct, osl, efd, lk, hcd, hco⟩ := F.ex
  constructor
  · exact len
  · intro A outer s H args us vs Q E hr e0 hb rv hsp
    have keeps : ∀ b o, base.get? b = some o → s.heap.get? b = some o := fun b o e => (e0.bs b o e).1
    refine PySem.ks_codeAny_call_defAt (fd := fd) (body := body) (binds := ps.zip us) hr.depth ((e0.mod.kin.keeps keeps) _ _ lk) rfl (e0.mod.nolimit.keeps keeps) ?_ (by rw [efd]) hb (by rw [efd]; exact S.nocell) ?_ (fun h1 hns hk => ?_) (by rw [efd]; exact S.co) (by rw [efd]; exact S.gen) (by rw [efd]; exact S.kind)
    · rw [efd]
      exact PySem.W.codeRec_of (e0.mod.kin.keeps keeps) hcd
    · rw [efd]
      rintro ⟨n, v⟩ hy
      exact S.par n (List.of_mem_zip hy).1
    · obtain ⟨t, ht, hq⟩ := hbody A outer s H vs Q E (hr.deeper _) hsp
      have I0 := inv_sup (w := w) (mg := mg) (base := base) (E := E) (tk := s.toks + (ps.zip us).length) F S hr.hd e0 (len _ _ _ _ hsp) rv hns hk
      refine _root_.PySem.wpAt_mono (ht.run [] _ (start N vs) H _ I0 hq) ?_ ?_
      · intro fl s' hs
        have done : ∀ (σ' : L2.St) (H' : Hp) (v : V) (u : Value), Inv (cxS P w K mg base N fd f A outer s H E) [] σ' H' s' → RelV v u → Q v H' → CE outer P w H s Q u s' := by
          intro σ' H' v u J r q
          exact ⟨v, H', J.os, J.bare, J.base, J.hok, r, q⟩
        match fl, hs with
        | .ret u, ⟨v, σ', H', J, r, q⟩ => exact done σ' H' v u J r q
        | .next, ⟨σ', H', J, q⟩ => exact done σ' H' .non .none J rfl q
        | .brk, ⟨_, _, _, q⟩ => exact q.elim
        | .cont, ⟨_, _, _, q⟩ => exact q.elim
      · intro e s' hs
        exact hs
end
/-! ### super().__init__(..) -/
/-- what of the class C behind D is its __init__: the def at g -/
structure SupInit (K : PySem.W.Frag) (mg : Str → Option Value) (C D g : Addr) : Prop where
  free : mg "super" = none
  st : PySem.W.nsIn K cStatics "thirdparty.any" = some none
  clsD : ∃ cd, PySem.W.clsIn K D = some cd
  clsC : ∃ cd, PySem.W.clsIn K C = some cd
  sub : PySem.W.mroIn K C (.ref D) = some true
  at_ : PySem.W.ks_superIn K C D "__init__" = some (some (.ref g))
  ty : PySem.W.typeIn K (.ref g) = some (.type "function")
  fi : PySem.W.fnIn K g = true
  top : True
def tSup (C : Addr) (sp : Sp) (W : WX) (t : TA) : TE := fun σ H Q => ∃ a dx fs, σ[0]? = some (some (.ref a)) ∧ H a = some (.ins C dx fs) ∧ t σ H fun vs H1 => sp (.ref a :: vs) H1 Q fun cls d H' => W cls d σ H'
section
variable {X : Cx} {k : Nat} {g : Addr} {fd : FuncData} {ps : List Str} {sp : Sp} {W : WX}
theorem code_s {pins : List (Addr × Obj)} {σ : L2.St} {H : Hp} {s : Shared} {Q : VK} {us : List Value} {vs : List V} (G : FnOk X.prog X.w X.K X.mg X.base (L2.CX X.prog X.w) k g fd ps sp) (hr : Room k X.A) (hb : Binds X.K fd ps []) (tk : Takes X W)
    (I : Inv X pins σ H s) (r : Vals vs us) (h : sp vs H Q fun cls d H' => W cls d σ H') :
    codeAny (model X.prog X.w) X.A (.call (.ref g) ⟨us, []⟩) (fun r s' => match r with | .ok (.ret v) => EP X pins σ Q v s' | .ok _ => False | .error e => X.xe e s') s := by
  have hl : us.length = ps.length := r.length.symm.trans (G.len _ _ _ _ h)
  have b : BindsTo s fd ⟨us, []⟩ (ps.zip us) := by
    have b0 := hb s us I.kIn (by simpa using hl)
    simpa using b0
  refine codeAny_mono (G.run X.A X.stack s H ⟨us, []⟩ us vs Q _ hr I.env0 b r h) ?_
  intro r s' hq
  match r, hq with
  | .error e, hq => exact passAt tk σ pins H s e s' I hq
  | .ok (.ret u), hq => exact I.after hq
  | .ok .next, hq => exact hq.elim
  | .ok .brk, hq => exact hq.elim
  | .ok .cont, hq => exact hq.elim
end
section
variable {P : Program} {w : World} {K : PySem.W.Frag} {mg : Str → Option Value} {base : Heap} {k : Nat} {f cc C D g : Addr} {fd fdg : FuncData} {x qual p0 : Str} {params : Arguments} {body rest : List Stmt} {scope : Scope} {N ps psg : List Str} {sp : Sp}
  {A : Around} {outer : List Env} {s0 : Shared} {H0 : Hp} {E0 : XK} {e : Expr} {es : List Expr} {t : TA} {u : TS} {W : WX} {q0 q1 q2 q3 q4 : Pos}
theorem psa_super {pl : Sem Bool} (F : FunS P K x qual params body scope cc D f fd) (S : SupScope N ps scope) (hN : N[0]? = some p0) (hps : scope.names.lookup p0 = some .local) (hpar : (params.posonlyargs ++ params.args).head?.map (·.arg) = some p0)
    (hks : scope.names.lookup ("super" : Str) = some .globalImplicit) (hkc : scope.names.lookup ("__class__" : Str) = some .free) (htop : (P.main.scope.names.lookup ("super" : Str)).isSome = false)
    (T : SupInit K mg C D g) (G : FnOk P w K mg base (L2.CX P w) k g fdg psg sp) (hr : Room k (A.deeper (callEnv fd s0.heap.objs.size f))) (hb : Binds K fdg psg []) (tk : Takes (cxS P w K mg base N fd f A outer s0 H0 E0) W)
    (ha : PA (cxS P w K mg base N fd f A outer s0 H0 E0) (e :: es) t) (hrest : PSA (cxS P w K mg base N fd f A outer s0 H0 E0) (.func body (callEnv fd s0.heap.objs.size f)) rest u)
    (hq : interactive (callEnv fd s0.heap.objs.size f) = false)
    (he : starEach (e :: es) (callEnv fd s0.heap.objs.size f) = (false, eval e (callEnv fd s0.heap.objs.size f)) :: starEach es (callEnv fd s0.heap.objs.size f) := by rfl)
    (hpl : (backTo q3 (starEach es (callEnv fd s0.heap.objs.size f))).any (·.1) = false := by rfl)
    (hs : swapsWith (.Call (.Attribute (.Call (.Name "super" q0) [] [] q1) "__init__" q2) (e :: es) [] q3) none q4.line (callEnv fd s0.heap.objs.size f) = pure false := by rfl)
    (hev : eval (.Call (.Attribute (.Call (.Name "super" q0) [] [] q1) "__init__" q2) (e :: es) [] q3) (callEnv fd s0.heap.objs.size f) = (do
      let ov ← attributeBase (.Call (.Name "super" q0) [] [] q1) "__init__" (callEnv fd s0.heap.objs.size f) (eval (.Call (.Name "super" q0) [] [] q1) (callEnv fd s0.heap.objs.size f))
      standAt q2.atName
      let (f1, first) ← holding [ov] (getMethod ov "__init__" pl)
      callWith q3 f1 first (backTo q3 (starEach (e :: es) (callEnv fd s0.heap.objs.size f))) []) := by rfl) :
    PSA (cxS P w K mg base N fd f A outer s0 H0 E0) (.func body (callEnv fd s0.heap.objs.size f)) (.Expr (.Call (.Attribute (.Call (.Name "super" q0) [] [] q1) "__init__" q2) (e :: es) [] q3) q4 :: rest)
      (tSeq (tDrop (tSup C sp W t)) u) := by
  obtain ⟨oc, od, doc, pm, an, cda, ct, osl, rfl, lk, hcd, o1, d1, vs1, l1, file, tf, hco, hvs, hfile⟩ := F.ex
  obtain ⟨o2, d2, l2, hcell⟩ := F.cell
  obtain ⟨cdD, hD⟩ := T.clsD
  obtain ⟨cdC, hC⟩ := T.clsC
  constructor
  intro pins s σ H D' I h
  obtain ⟨a, dx, fs, hσ, ha0, h⟩ := h
  refine PySem.ks_wpAt_execs_cons (PySem.ks_wpAt_Expr_any ?_ hq hs)
  refine PySem.ks_wpAt_MethodCall (pl := pl) ?_ hev
  have X1 := I.kIn
  obtain ⟨mb, hb1, hb2⟩ := I.mod.blt
  obtain ⟨mA, O, _, _, _, _⟩ := ins_get I.hok ha0
  obtain ⟨od1, J, _⟩ := O.look
  obtain ⟨ar, har, hpn⟩ : ∃ ar : Arg, (params.posonlyargs ++ params.args).head? = some ar ∧ ar.arg = p0 := by
    cases e1 : (params.posonlyargs ++ params.args).head? with
    | none =>
      rw [e1] at hpar
      cases hpar
    | some ar =>
      rw [e1] at hpar
      exact ⟨ar, rfl, Option.some.inj hpar⟩
  obtain ⟨m, hm, hl⟩ := I.loc
  obtain ⟨u0, ru, lk0⟩ := hl 0 p0 (.ref a) hN hσ (.inl hps)
  have ru' : u0 = Value.ref a := ru
  subst ru'
  have hself : m p0 = some (.ref a) := by
    rcases lk0 with ⟨_, q⟩ | ⟨q, _⟩
    · exact q
    · have q' : scope.names.lookup p0 = some .cell ∨ scope.names.lookup p0 = some .free := q
      rw [hps] at q'
      rcases q' with z | z <;> cases z
  obtain ⟨oD, hD1, hD2⟩ : ∃ oD, s.heap.get? D = some oD ∧ oD.data = .cls cdD := by
    unfold PySem.W.clsIn at hD
    split at hD
    · rename_i c d cd' sl ho
      cases hD
      exact ⟨_, X1 _ _ ho, rfl⟩
    · cases hD
  refine PySem.ks_wpAt_super_base (env := callEnv (PySem.W.fnX x qual params body scope [("__class__", cc)] .none .none doc pm an (.ref cda) ct) s0.heap.objs.size f) hks hkc (by decide) rfl (X1 _ _ lk) rfl har rfl (X1 _ _ hco) rfl hvs hfile htop ?_
  have hg1 : s.heap.Ns mainGlobals mg := I.mod.glob.keeps I.bk
  refine PySem.W.ks_loadName_global S.kind hks (Calls.loadGlobal_builtin hg1 T.free (hb1.keeps I.bk) ((hb2 "super" (by decide)).trans (by decide +kernel)) ⟨rfl, ?_⟩)
  refine wpAny_loadName_free S.kind hkc (by simp [callEnv, newEnv, List.lookup]) ⟨_, X1 _ _ hcell, rfl⟩ ?_
  rw [hpn]
  refine wpAny_loadName_local S.kind hps hm hself ?_
  have hxa : a ≠ C := PySem.W.ks_ne X1 J hC
  have J0 := J
  obtain ⟨hp, gg, dd, tt, oo⟩ := s
  refine PySem.ks_wpAny_isType_cls hD1 hD2 ⟨rfl, ?_⟩
  refine PySem.ks_wpAny_call_super hD1 hD2 J.at_ J.cls (fun c e => ?_) (PySem.W.looks_mroIn X1 T.sub) (fun h' eh kh => ?_)
  · have z := J.no
    unfold PySem.W.notCls at z
    rw [e] at z
    exact Bool.noConfusion z
  have I1 := ClX.pin_new (t' := tt) (o := { cls := .type "super", dict := none, data := .fields #[.ref D, .ref a, .ref C], slots := #[] }) I kh (Nat.le_refl _) eh (fun v z => by cases z)
  have X2 := I1.kIn
  have hal : PySem.W.alongIn K "__init__" ((cdC.mro.dropWhile (· != .ref D)).drop 1) = some (some (.ref g)) := by
    have z := T.at_
    unfold PySem.W.ks_superIn at z
    rw [hC] at z
    exact z
  obtain ⟨og, hog, hogc⟩ : ∃ og, h'.get? g = some og ∧ og.cls = .type "function" := by
    have ht' : (K.lookup g).map (·.cls) = some (.type "function") := T.ty
    cases z : K.lookup g with
    | none =>
      rw [z] at ht'
      cases ht'
    | some og =>
      rw [z] at ht'
      exact ⟨og, X2 _ _ z, Option.some.inj ht'⟩
  refine PySem.ks_wpAny_getMethod_super eh (PySem.W.looks_opaque X2 T.st) (l₀ := cdC.mro) ?_ rfl X2 hal hog hogc hxa (by decide) ?_
  · exact fun A Q E s k q => wpAny_bind ((PySem.W.looks_clsIn X2 hC) A _ E s k (wpAny_pure q))
  have I2 := ClX.pin_new (t' := tt + 1) (o := PySem.W.methodObj (.ref g) (.ref a)) I1 (fun b o z => Heap.get?_push_of_some _ z) (Nat.le_refl _) (Heap.get?_push_at rfl rfl) (fun v z => by cases z)
  refine ClX.callwith_cm (C := a) (g := g) I2 (ClX.base_none I1 (Nat.le_refl _)) T.fi (thn (ha.run q3 _ _ σ H _ I2 h) ?_) he hpl
  rintro us s3 ⟨vs, H2, I3, rv, q2⟩
  refine ⟨⟨ClX.pin_at I3, I3.kIn⟩, ?_⟩
  have z := wpAny_call (PySem.W.method_call (ClX.pin_at I3) (code_s (us := .ref a :: us) (vs := .ref a :: vs) G hr hb tk I3 (.cons rfl rv) q2))
  refine thn z ?_
  rintro v s4 ⟨v', H3, I4, r4, q5⟩
  exact hrest.run pins s4 σ H3 D' (ClX.unpin (ClX.unpin I4)) q5
end
end L3

/-! L3f: the program's defs (FnOk) called, made, read; isinstance of own errors; facts as Bools; the hook. -/
namespace L3
open PySem PySem.Spec PyProof.Rows L2
/-! ### defs, classes, properties whose promise holds anywhere -/
def DefO (P : Program) (w : World) (K : PySem.W.Frag) (mg : Str → Option Value) (base : Heap) (k : Nat) (x : Str) (ps : List Str) (sp : Sp) : Prop :=
  ∃ f fd, FnOk P w K mg base (L2.CX P w) k f fd ps sp ∧ mg x = some (.ref f) ∧ PySem.W.keepIn K (.ref f) = true ∧ Binds K fd ps []
def MethO (P : Program) (w : World) (K : PySem.W.Frag) (mg : Str → Option Value) (base : Heap) (k : Nat) (C : Addr) (m : Str) (ps : List Str) (sp : Sp) : Prop :=
  ∃ f fd, FnOk P w K mg base (L2.CX P w) k f fd ps sp ∧ Meth K C m f ∧ Binds K fd ps []
/-- the class x at C is made by its __init__, the def at f, which keeps sp -/
def MakeO (P : Program) (w : World) (K : PySem.W.Frag) (mg : Str → Option Value) (base : Heap) (k : Nat) (x : Str) (C : Addr) (ps : List Str) (sp : Sp) : Prop :=
  ∃ f fd, FnOk P w K mg base (L2.CX P w) k f fd ps sp ∧ Mk K C f ∧ mg x = some (.ref C) ∧ Binds K fd ps []
def PropO (P : Program) (w : World) (K : PySem.W.Frag) (mg : Str → Option Value) (base : Heap) (k : Nat) (C : Addr) (m : Str) (ps : List Str) (sp : Sp) : Prop :=
  ∃ p g fd, FnOk P w K mg base (L2.CX P w) k g fd ps sp ∧ PropOf K C m p g ∧ Binds K fd ps []
section
variable {X : Cx} {k : Nat} {f C : Addr} {fd : FuncData} {ps : List Str} {sp : Sp} {W : WX} {x m : Str} {p pos apos : Pos} {e o : Expr} {es : List Expr} {ta to : TE} {t : TA}
theorem run_o {pins : List (Addr × Obj)} {σ : L2.St} {H : Hp} {s : Shared} {Q : VK} {us : List Value} {vs : List V} (F : FnOk X.prog X.w X.K X.mg X.base (L2.CX X.prog X.w) k f fd ps sp) (hr : Room k X.A) (hb : Binds X.K fd ps []) (tk : Takes X W)
    (I : Inv X pins σ H s) (r : Vals vs us) (h : sp vs H Q fun cls d H' => W cls d σ H') : wpAny (model X.prog X.w) X.A (call (.ref f) us) (EP X pins σ Q) X.xe s :=
  run_fnS (E := fun σ cls d H' => W cls d σ H') F hr hb (passAt tk σ) I r h
theorem pe_ocall (D : DefO X.prog X.w X.K X.mg X.base k x ps sp) (hr : Room k X.A) (tk : Takes X W) (ha : PA X (e :: es) t) (hg : Gl X x := by rfl)
    (hdb : (x == ("__debug__" : Str)) = false := by decide) (he : starEach (e :: es) X.env = (false, eval e X.env) :: starEach es X.env := by rfl) (hpl : (backTo pos (starEach es X.env)).any (·.1) = false := by rfl) :
    PE X (.Call (.Name x p) (e :: es) [] pos) (tCal sp W t) := by
  obtain ⟨f, fd, F, hm, hk, hb⟩ := D
  constructor
  intro pins s σ H Q I h
  refine wpAny_Call_Name_kw (ld_glob I hg hm ?_ hdb)
  refine PySem.W.callWith_K (h₀ := X.base) I.ok.mod.kin hk (thn (ha.run pos pins s σ H _ I h) ?_) he hpl
  rintro us s1 ⟨vs, H1, I1, r, q⟩
  exact ⟨I1.kIn, run_o F hr hb tk I1 r q⟩
theorem pe_ocall0 (D : DefO X.prog X.w X.K X.mg X.base k x ps sp) (hr : Room k X.A) (tk : Takes X W) (hg : Gl X x := by rfl)
    (hdb : (x == ("__debug__" : Str)) = false := by decide) : PE X (.Call (.Name x p) [] [] pos) (tCal sp W tNil) := by
  obtain ⟨f, fd, F, hm, hk, hb⟩ := D
  constructor
  intro pins s σ H Q I h
  refine wpAny_Call_Name_kw (ld_glob I hg hm ?_ hdb)
  exact PySem.W.callWith_K0 I.kIn hk (run_o (us := []) F hr hb tk I .nil h)
theorem pe_ometh {pl : Sem Bool} (D : MethO X.prog X.w X.K X.mg X.base k C m ps sp) (c : Cls X.K C) (hr : Room k X.A) (tk : Takes X W) (ho : PE X o to) (ha : PA X (e :: es) t)
    (hst : starEach (e :: es) X.env = (false, eval e X.env) :: starEach es X.env := by rfl) (hpl : (backTo pos (starEach es X.env)).any (·.1) = false := by rfl)
    (ht : eval (.Call (.Attribute o m apos) (e :: es) [] pos) X.env = (do
      let ov ← eval o X.env
      standAt apos.atName
      let (f, first) ← holding [ov] (getMethod ov m pl)
      callWith pos f first (backTo pos (starEach (e :: es) X.env)) (backToKw pos (keywordEach [] X.env))) := by rfl) :
    PE X (.Call (.Attribute o m apos) (e :: es) [] pos) (tMth C m sp W to t) := by
  obtain ⟨f, fd, F, hm, hb⟩ := D
  constructor
  intro pins s σ H Q I h
  refine PySem.W.methodCall_KW (pl := pl) (thn (ho.run pins s σ H _ I h) ?_) ht
  rintro u s1 ⟨x, H1, I1, rx, a, dx, fs, rfl, ea, l, q⟩
  cases rx
  refine getmeth_ok I1 ea c hm l ?_
  refine PySem.W.callWith_K (first := [.ref a]) (h₀ := X.base) I.ok.mod.kin hm.kp (thn (ha.run pos pins s1 σ H1 _ I1 q) ?_) hst hpl
  rintro us s2 ⟨vs, H2, I2, r, q2⟩
  exact ⟨I2.kIn, run_o (us := .ref a :: us) (vs := .ref a :: vs) F hr hb tk I2 (.cons rfl r) q2⟩
theorem pe_ometh0 {pl : Sem Bool} (D : MethO X.prog X.w X.K X.mg X.base k C m ps sp) (c : Cls X.K C) (hr : Room k X.A) (tk : Takes X W) (ho : PE X o to)
    (ht : eval (.Call (.Attribute o m apos) [] [] pos) X.env = (do
      let ov ← eval o X.env
      standAt apos.atName
      let (f, first) ← holding [ov] (getMethod ov m pl)
      callWith pos f first (backTo pos (starEach [] X.env)) (backToKw pos (keywordEach [] X.env))) := by rfl) :
    PE X (.Call (.Attribute o m apos) [] [] pos) (tMth C m sp W to tNil) := by
  obtain ⟨f, fd, F, hm, hb⟩ := D
  constructor
  intro pins s σ H Q I h
  refine PySem.W.methodCall_KW (pl := pl) (thn (ho.run pins s σ H _ I h) ?_) ht
  rintro u s1 ⟨x, H1, I1, rx, a, dx, fs, rfl, ea, l, q⟩
  cases rx
  refine getmeth_ok I1 ea c hm l ?_
  exact PySem.W.callWith_K0 (first := [.ref a]) I1.kIn hm.kp (run_o (us := [.ref a]) (vs := [.ref a]) F hr hb tk I1 (.cons rfl .nil) q)
theorem mk_o {pins : List (Addr × Obj)} {σ : L2.St} {H : Hp} {s : Shared} {Q : VK} {us : List Value} {vs : List V} (M : Mk X.K C f) (F : FnOk X.prog X.w X.K X.mg X.base (L2.CX X.prog X.w) k f fd ps sp) (hr : Room (k + 1) X.A) (hb : Binds X.K fd ps [])
    (tk : Takes X W) (I : Inv X pins σ H s) (r : Vals vs us)
    (h : ∀ x dx, H x = none → H dx = none → dx ≠ x → sp (.ref x :: vs) (upd (upd H dx (.own x)) x (.ins C dx [])) (fun v H2 => v = .non ∧ Q (.ref x) H2) fun cls d H' => W cls d σ H') :
    wpAny (model X.prog X.w) X.A (call (.ref C) us) (EP X pins σ Q) X.xe s := by
  have n1 : H (s.heap.objs.size + 1) = none := I.hok.fresh (Nat.le_succ _)
  have n0 : H s.heap.objs.size = none := I.hok.fresh (Nat.le_refl _)
  have hq := h (s.heap.objs.size + 1) s.heap.objs.size n1 n0 (Nat.ne_of_lt (Nat.lt_succ_self _))
  have J := Inv.made (C := C) I
  have rv : Vals (V.ref (s.heap.objs.size + 1) :: vs) (Value.ref (s.heap.objs.size + 1) :: us) := .cons rfl r
  have hl : (Value.ref (s.heap.objs.size + 1) :: us).length = ps.length := rv.length.symm.trans (F.len _ _ _ _ hq)
  have b := hb _ (Value.ref (s.heap.objs.size + 1) :: us) J.kIn (by simpa using hl)
  rw [List.append_nil] at b
  apply wpAny_call
  refine make_map (f := f) I.kIn M.makes M.init (beq_iff_eq.mp M.fn) (codeAny_mono (F.run _ X.stack _ _ ⟨Value.ref (s.heap.objs.size + 1) :: us, []⟩ (Value.ref (s.heap.objs.size + 1) :: us) _ _ _ (hr.make C us []) (J.env0.make C us []) b rv hq) ?_)
  intro r s' hq'
  match r, hq' with
  | .error e, hq' => exact passAt tk σ pins _ _ e s' J hq'
  | .ok (.ret u), hq' =>
    obtain ⟨v, H', I3, rv, rfl, q3⟩ := J.after hq'
    exact ⟨rv, ⟨V.ref (s.heap.objs.size + 1), H', I3, rfl, q3⟩⟩
  | .ok .next, hq' => exact hq'.elim
  | .ok .brk, hq' => exact hq'.elim
  | .ok .cont, hq' => exact hq'.elim
theorem pe_omake (D : MakeO X.prog X.w X.K X.mg X.base k x C ps sp) (hr : Room (k + 1) X.A) (tk : Takes X W) (ha : PA X (e :: es) t) (hg : Gl X x := by rfl)
    (hdb : (x == ("__debug__" : Str)) = false := by decide) (he : starEach (e :: es) X.env = (false, eval e X.env) :: starEach es X.env := by rfl) (hpl : (backTo pos (starEach es X.env)).any (·.1) = false := by rfl) :
    PE X (.Call (.Name x p) (e :: es) [] pos) (tMak C sp W t) := by
  obtain ⟨f, fd, F, M, hm, hb⟩ := D
  constructor
  intro pins s σ H Q I h
  refine wpAny_Call_Name_kw (ld_glob I hg hm ?_ hdb)
  refine PySem.W.callWith_K (h₀ := X.base) I.ok.mod.kin M.kp (thn (ha.run pos pins s σ H _ I h) ?_) he hpl
  rintro us s1 ⟨vs, H1, I1, r, q⟩
  exact ⟨I1.kIn, mk_o M F hr hb tk I1 r q⟩
/-- e.m, a property -/
def tPro (C : Addr) (sp : Sp) (ta : TE) : TE := fun σ H Q => ta σ H fun x H1 => ∃ a dx fs, x = .ref a ∧ H1 a = some (.ins C dx fs) ∧ sp [.ref a] H1 Q E0
theorem pe_oprop (D : PropO X.prog X.w X.K X.mg X.base k C m ps sp) (c : Cls X.K C) (hr : Room (k + 1) X.A) (ho : PE X o to) (hab : attributeBase o m X.env (eval o X.env) = eval o X.env := by rfl) :
    PE X (.Attribute o m pos) (tPro C sp to) := by
  obtain ⟨p, g, fd, F, hp, hb⟩ := D
  have z := pe_prop (E := E0) (dvs := []) (pos := pos) ho c hp F hr hb .nil passL hab
  exact z
end
/-! ### isinstance -/
/-- what of a class makes isinstance ask its instances plainly -/
structure InsF (K : PySem.W.Frag) (C : Addr) : Prop where
  cl : Cls K C
  ha : PySem.W.findIn K (.ref C) "__class__" = some (some (.builtin "object.__class__"))
  hn : PySem.W.specialIn K (.builtin "object.__class__") "__get__" = some (some (.builtin "getset_descriptor.__get__"))
  ht : PySem.W.takesIn K (.builtin "object.__class__") = some true
  hm : PySem.W.mroIn K C (.type "object") = some true
theorem InsF.ty {K : PySem.W.Frag} {C : Addr} (T : InsF K C) {H : Hp} {a dx : Addr} {fs : List (Str × V)} (h : H a = some (.ins C dx fs)) : TyX K H (.ref a) (.ref C) := .base (.ins h T.cl T.ha T.hn T.ht T.hm)
structure ExcF (K : PySem.W.Frag) (D : Addr) : Prop where
  cl : (PySem.W.clsIn K D).isSome = true
  hg : PySem.W.findIn K (.ref D) "__getattribute__" = some (some (.builtin "BaseException.__getattribute__"))
  hk : PySem.W.findIn K (.ref D) "__getattr__" = some none
  hs : PySem.W.subIn K (.ref D) (.type "BaseException") = some true
  ha : PySem.W.findIn K (.ref D) "__class__" = some (some (.builtin "object.__class__"))
  hn : PySem.W.specialIn K (.builtin "object.__class__") "__get__" = some (some (.builtin "getset_descriptor.__get__"))
  ht : PySem.W.takesIn K (.builtin "object.__class__") = some true
  hm : PySem.W.mroIn K D (.type "object") = some true
/-- isinstance(e, c), e the exception that the suite holds, its own dict at d -/
def rIsX (K : PySem.W.Frag) (D a : Addr) (d : Option Addr) : List V → Hp → VK → Prop := fun xs H Q => ∃ (c : V) (cv : Value) (b : Bool) (dd : Addr) (fs : List (Str × V)), xs = [.ref a, c] ∧ ClsV c cv ∧ d = some dd ∧ H dd = some (.xd fs) ∧ PySem.W.kitOne K (.ref D) cv = some b ∧ Q (.bl b) H
theorem call_isX {X : Cx} {a D : Addr} {d : Option Addr} {oe : Obj} {pn : List (Addr × Obj)} (C : ExcF X.K D) (hz : Zc (.ref D) d oe) (hf : ∃ vs, oe.data = .fields vs) : CallR (X.suite a ((a, oe) :: pn)) (.builtin "isinstance") (rIsX X.K D a d) := by
  intro pins s σ H xs us Q I r h
  obtain ⟨c, cv, b, dd, fs, rfl, hcv, rfl, hd, e, q⟩ := h
  obtain ⟨u1, u2, rfl, r1, r2⟩ := vals2 r
  cases r1
  have ec := hcv.eq r2
  subst ec
  obtain ⟨hget, _⟩ := I.pin (a, oe) (List.mem_append.mpr (.inl List.mem_cons_self))
  obtain ⟨vs, hv⟩ := hf
  have hx : ObjOk X.prog X.w H s.heap dd (.xd fs) := I.hok dd _ hd
  obtain ⟨mA, hns, _⟩ := hx
  obtain ⟨od, ho, _⟩ := lookIn_ns hns
  have J : PySem.W.InstAt s.heap a oe D (some od) := ⟨hget, hz.1, by unfold PySem.W.notCls; rw [hv] <;> rfl, by rw [hz.2]; exact ho⟩
  exact PySem.W.kia_one (PySem.W.kitx_exc C.cl C.hg C.hk C.hs C.ha C.hn C.ht C.hm) I.kIn J e (fun z => nomatch z) fun tk => ⟨.bl b, H, I.kept (t' := tk) fun _ _ z => z, rfl, q⟩
/-! ### facts as Bools -/
def insB (K : PySem.W.Frag) (C : Addr) : Bool := decide (PySem.W.findIn K (.ref C) "__class__" = some (some (.builtin "object.__class__"))) && (decide (PySem.W.specialIn K (.builtin "object.__class__") "__get__" = some (some (.builtin "getset_descriptor.__get__"))) &&
  (decide (PySem.W.takesIn K (.builtin "object.__class__") = some true) && decide (PySem.W.mroIn K C (.type "object") = some true)))
theorem insB_ok {K : PySem.W.Frag} {C : Addr} (c : Cls K C) (h : insB K C = true) : InsF K C := by
  obtain ⟨h1, h2⟩ := He.ba h
  obtain ⟨h3, h4⟩ := He.ba h2
  obtain ⟨h5, h6⟩ := He.ba h4
  exact ⟨c, of_decide_eq_true h1, of_decide_eq_true h3, of_decide_eq_true h5, of_decide_eq_true h6⟩
def excB (K : PySem.W.Frag) (C : Addr) : Bool := ((PySem.W.clsIn K C).isSome && PySem.W.hasDictIn K C) && (decide (PySem.W.findIn K (.ref C) "__getattribute__" = some (some (.builtin "BaseException.__getattribute__"))) && (decide (PySem.W.findIn K (.ref C) "__getattr__" = some none) &&
  (decide (PySem.W.subIn K (.ref C) (.type "BaseException") = some true) && insB K C)))
theorem excB_ok {K : PySem.W.Frag} {C : Addr} (h : excB K C = true) : ExcF K C ∧ XfC K C := by
  obtain ⟨h0, h2⟩ := He.ba h
  obtain ⟨h1, h9⟩ := He.ba h0
  obtain ⟨h3, h4⟩ := He.ba h2
  obtain ⟨h5, h6⟩ := He.ba h4
  obtain ⟨h7, h8⟩ := He.ba h6
  obtain ⟨a1, a2⟩ := He.ba h8
  obtain ⟨a3, a4⟩ := He.ba a2
  obtain ⟨a5, a6⟩ := He.ba a4
  exact ⟨⟨h1, of_decide_eq_true h3, of_decide_eq_true h5, of_decide_eq_true h7, of_decide_eq_true a1, of_decide_eq_true a3, of_decide_eq_true a5, of_decide_eq_true a6⟩, ⟨of_decide_eq_true h3, of_decide_eq_true h5, of_decide_eq_true h7, h9⟩⟩
/-- the property m of C: its getter -/
def gAdr (K : PySem.W.Frag) (C : Addr) (m : Str) : Addr := match PySem.W.recIn K (He.ma K C m) "property" with
  | some (.ref g :: _) => g
  | _ => 0
def propB (K : PySem.W.Frag) (C : Addr) (m : Str) : Bool := (decide (PySem.W.findIn K (.ref C) m = some (some (.ref (He.ma K C m)))) && (decide (PySem.W.specialIn K (.ref (He.ma K C m)) "__get__" = some (some (.builtin "property.__get__"))) && decide (PySem.W.takesIn K (.ref (He.ma K C m)) = some true))) &&
  (match PySem.W.recIn K (He.ma K C m) "property" with
    | some (.ref _ :: _) => true
    | _ => false)
theorem propB_ok {K : PySem.W.Frag} {C : Addr} {m : Str} (h : propB K C m = true) : PropOf K C m (He.ma K C m) (gAdr K C m) := by
  obtain ⟨h0, h4⟩ := He.ba h
  obtain ⟨h1, h2⟩ := He.ba h0
  obtain ⟨h3, h5⟩ := He.ba h2
  refine ⟨of_decide_eq_true h1, of_decide_eq_true h3, of_decide_eq_true h5, ?_⟩
  split at h4
  · rename_i g r e
    refine ⟨r, ?_⟩
    unfold gAdr
    rw [e]
  · cases h4
def supIB (K : PySem.W.Frag) (C D g : Addr) : Bool := decide (PySem.W.nsIn K mainGlobals "super" = some none) && (decide (PySem.W.nsIn K cStatics "thirdparty.any" = some none) && ((PySem.W.clsIn K D).isSome && ((PySem.W.clsIn K C).isSome && (decide (PySem.W.mroIn K C (.ref D) = some true) &&
  (decide (PySem.W.ks_superIn K C D "__init__" = some (some (.ref g))) && (decide (PySem.W.typeIn K (.ref g) = some (.type "function")) && PySem.W.fnIn K g))))))
theorem supIB_ok {K : PySem.W.Frag} {mg : Str → Option Value} {h : Heap} {C D g : Addr} (X : K.In h) (G : h.Ns mainGlobals mg) (b : supIB K C D g = true) : SupInit K mg C D g := by
  obtain ⟨h1, b⟩ := He.ba b
  obtain ⟨h2, b⟩ := He.ba b
  obtain ⟨h3, b⟩ := He.ba b
  obtain ⟨h4, b⟩ := He.ba b
  obtain ⟨h5, b⟩ := He.ba b
  obtain ⟨h6, b⟩ := He.ba b
  obtain ⟨h7, h8⟩ := He.ba b
  exact ⟨PySem.W.mg_none_of X G (of_decide_eq_true h1), of_decide_eq_true h2, Option.isSome_iff_exists.mp h3, Option.isSome_iff_exists.mp h4, of_decide_eq_true h5, of_decide_eq_true h6, of_decide_eq_true h7, h8, trivial⟩
/-- a def with the cell __class__ -/
def supB (K : PySem.W.Frag) (file : Str) (a D : Addr) : Bool := PySem.W.keepIn K (.ref a) && (match K.lookup a with
  | some ⟨_, _, .func fd, _⟩ => (match fd.closure, fd.defaults, fd.kwdefaults, fd.code with
    | [(n, cc)], .none, .none, .ref cda => n == "__class__" && (PySem.W.codeIn K (.ref cda) fd.qualname && ((match K.lookup cc with
        | some ⟨_, _, .cell (some (.ref D')), _⟩ => D' == D
        | _ => false) && (match K.lookup cda with
        | some ⟨_, _, .fields vs, _⟩ => (match vs[2]? with
          | some (Value.str fl _) => file == fl
          | _ => false)
        | _ => false)))
    | _, _, _, _ => false)
  | _ => false)
/-! ### one def as the head sees it -/
abbrev FnV : Type := Option (Str × Str × Arguments × FuncBody × Scope × Addr × List Str × Addr)
def fnV (K : PySem.W.Frag) (a : Addr) : FnV := match K.lookup a with
  | some ⟨_, _, .func fd, _⟩ => some (fd.name, fd.qualname, fd.params, fd.body, fd.scope, fd.globals, fd.closure.map (·.1), fd.builtins)
  | _ => none
structure DefX where
  adr : PySem.W.Frag → Addr
  name : Str
  qual : Str
  st : Stmt
  cl : List Str := []
  dfl : List He.Dv := []
  kwd : List (Str × He.Dv) := []
def DefX.val (d : DefX) : FnV := some (d.name, d.qual, defArgs d.st, .stmts (defBody d.st), defScope d.st, mainGlobals, d.cl, builtinsNs)
def DefX.ok (K : PySem.W.Frag) (d : DefX) : Bool := PySem.W.keepIn K (.ref (d.adr K)) && (match K.lookup (d.adr K) with
  | some ⟨_, _, .func fd, _⟩ => PySem.W.codeIn K fd.code d.qual && (He.dflB K fd.defaults (d.dfl.map (He.Dv.v K)) && He.kwdB K fd.kwdefaults (d.kwd.map fun q => (q.1, q.2.v K)))
  | _ => false)
theorem DefX.funD {K : PySem.W.Frag} {d : DefX} (hcl : d.cl = []) (e : fnV K (d.adr K) = d.val) (c : d.ok K = true) :
    ∃ fd, FunD K d.name d.qual (defArgs d.st) (defBody d.st) (defScope d.st) (d.dfl.map (He.Dv.v K)) (d.kwd.map fun q => (q.1, q.2.v K)) (d.adr K) fd := by
  obtain ⟨kp, c2⟩ := He.ba c
  unfold fnV at e
  split at e
  · rename_i oc od fd osl lk
    rw [lk] at c2
    obtain ⟨k1, k2⟩ := He.ba c2
    obtain ⟨k3, k4⟩ := He.ba k2
    unfold DefX.val at e
    rw [hcl] at e
    simp only [Option.some.injEq, Prod.mk.injEq] at e
    obtain ⟨h1, h2, h3, h4, h5, h6, h7, h8⟩ := e
    have h7' : fd.closure = [] := List.map_eq_nil_iff.mp h7
    obtain ⟨n1, n2, n3, n4, n5, n6, n7, n8, n9, n10, n11, n12, n13, n14, n15⟩ := fd
    dsimp only at h1 h2 h3 h4 h5 h6 h7' h8 k1 k3 k4
    subst h1 h2 h3 h4 h5 h6 h7' h8
    exact ⟨_, ⟨oc, od, n8, n9, n10, n11, n12, n13, n14, osl, rfl, lk, k1, He.dflB_ok k3, He.kwdB_ok k4⟩, kp⟩
  · cases e
theorem DefX.funS {P : Program} {K : PySem.W.Frag} {d : DefX} {D : Addr} {file : Str} (hf : P.main.file = file) (e : fnV K (d.adr K) = d.val) (c : supB K file (d.adr K) D = true) :
    ∃ cc fd, FunS P K d.name d.qual (defArgs d.st) (defBody d.st) (defScope d.st) cc D (d.adr K) fd := by
  obtain ⟨kp, c2⟩ := He.ba c
  unfold fnV at e
  split at e
  · rename_i oc od fd osl lk
    rw [lk] at c2
    unfold DefX.val at e
    simp only [Option.some.injEq, Prod.mk.injEq] at e
    obtain ⟨h1, h2, h3, h4, h5, h6, h7, h8⟩ := e
    obtain ⟨n1, n2, n3, n4, n5, n6, n7, n8, n9, n10, n11, n12, n13, n14, n15⟩ := fd
    dsimp only at h1 h2 h3 h4 h5 h6 h7 h8 c2
    split at c2
    · rename_i q0 q1 q2 q3 n cc cda
      subst h1 h2 h3 h4 h5 h6 h8
      obtain ⟨a1, c2⟩ := He.ba c2
      obtain ⟨a2, c2⟩ := He.ba c2
      obtain ⟨a3, a4⟩ := He.ba c2
      have en : n = "__class__" := beq_iff_eq.mp a1
      subst en
      refine ⟨cc, _, ⟨oc, od, n10, n11, n12, cda, n14, osl, rfl, lk, a2, ?_⟩, ?_, kp⟩
      · split at a4
        · rename_i o1 d1 vs l1 lk2
          split at a4
          · rename_i fl tf hvs
            exact ⟨o1, d1, vs, l1, fl, tf, lk2, hvs, by rw [hf]; exact a4⟩
          · cases a4
        · cases a4
      · split at a3
        · rename_i o1 d1 D' l1 lk2
          exact ⟨o1, d1, l1, by rw [lk2, beq_iff_eq.mp a3]⟩
        · cases a3
    · cases c2
  · cases e
abbrev AlV : Type := Bool × List FnV
def obsV (ck : PySem.W.Frag → Bool) (fn : List DefX) (K : PySem.W.Frag) : AlV := (ck K && fn.all fun d => !d.cl.isEmpty || d.ok K, fn.map fun d => fnV K (d.adr K))
def valV (fn : List DefX) : AlV := (true, fn.map DefX.val)
def SaysV (ck : PySem.W.Frag → Bool) (fn : List DefX) (K : PySem.W.Frag) : Prop := obsV ck fn K = valV fn
def obsVG (n : Nat) (ck : PySem.W.Frag → Bool) (fn : List DefX) (g : Addr → Option Obj) : AlV := obsV ck fn (He.frG g (asX g n))
def hookV (n : Nat) (ck : PySem.W.Frag → Bool) (fn : List DefX) : PySem.W.Hook where
  α := AlV
  obs := fun s => obsVG n ck fn s.heap.get?
  val := fun _ => valV fn
  says := fun _ h => ∃ K : PySem.W.Frag, K.In h ∧ SaysV ck fn K
  of := fun _ _ e => ⟨_, He.frG_in, e⟩
  keeps := fun _ _ _ ⟨K, hK, c⟩ k => ⟨K, PySem.W.Frag.In.keeps hK k, c⟩
theorem obsVG_eq {n : Nat} {ck : PySem.W.Frag → Bool} {fn : List DefX} {g : Addr → Option Obj} {s : Shared} (h : ∀ a, g a = s.heap.get? a) : obsVG n ck fn g = (hookV n ck fn).obs s := by
  have e : g = s.heap.get? := funext h
  rw [e]
  rfl
section
variable {ck : PySem.W.Frag → Bool} {fn : List DefX} {K : PySem.W.Frag}
theorem SaysV.cks (c : SaysV ck fn K) : ck K = true :=
  (He.ba (show (ck K && fn.all fun d => !d.cl.isEmpty || d.ok K) = true from congrArg (fun z : AlV => z.1) c)).1
theorem SaysV.at_ (c : SaysV ck fn K) (i : Nat) {d : DefX} (h : fn[i]? = some d := by rfl) : fnV K (d.adr K) = d.val := by
  have e2 : (fn.map fun d => fnV K (d.adr K))[i]? = (fn.map DefX.val)[i]? := congrArg (fun z : AlV => z.2[i]?) c
  rw [List.getElem?_map, List.getElem?_map, h] at e2
  exact Option.some.inj e2
theorem SaysV.def_ (c : SaysV ck fn K) (i : Nat) {d : DefX} (h : fn[i]? = some d := by rfl) (hcl : d.cl = [] := by rfl) :
    ∃ fd, FunD K d.name d.qual (defArgs d.st) (defBody d.st) (defScope d.st) (d.dfl.map (He.Dv.v K)) (d.kwd.map fun q => (q.1, q.2.v K)) (d.adr K) fd := by
  have c1 := (He.ba (show (ck K && fn.all fun d => !d.cl.isEmpty || d.ok K) = true from congrArg (fun z : AlV => z.1) c)).2
  have c2 := List.all_eq_true.mp c1 d (List.mem_of_getElem? h)
  rw [hcl] at c2
  exact DefX.funD hcl (c.at_ i h) (by simpa using c2)
end
end L3

/-! L3h: binding by keywords, a made instance by keywords; facts by a list; loops over ranges; application of promises. -/
namespace L3
open PySem PySem.Spec PyProof.Rows L2
/-! ### binding -/
theorem kbinds00 {K : PySem.W.Frag} {x qual : Str} {params : Arguments} {body : List Stmt} {scope : Scope} {f : Addr} {fd : FuncData} {ps : List Str} (F : FunD K x qual params body scope [] [] f fd) (n : Nat) (ks : List Str) (g : {α : Type} → List α → List α → List α)
    (hrel : ∀ {vs zs : List V} {us ws : List Value}, Vals vs us → Vals zs ws → Vals (g vs zs) (g us ws))
    (h : ∀ (kV doc pm : Value) (an : Option Addr) (cdv ct : Value) (us ws : List Value), us.length = n → ws.length = ks.length → bindArgs (PySem.W.fnOf x qual params body scope .none kV doc pm an cdv ct) ⟨us, ks.zip ws⟩ = pure (ps.zip (g us ws))) :
    KBn K fd ps n ks (fun us ws => g us ws) (fun vs zs => g vs zs) := by
  obtain ⟨oc, od, dV, kV, doc, pm, an, cdv, ct, osl, rfl, lk, hcd, hD, hK⟩ := F.ex
  rcases hD with ⟨_, rfl⟩ | ⟨e, _⟩
  · exact ⟨fun s us ws X l1 l2 => .of_eq (h kV doc pm an cdv ct us ws l1 l2), fun r1 r2 => hrel r1 r2⟩
  · exact absurd rfl e
section
variable {P : Program} {K : PySem.W.Frag} {x qual : Str} {params : Arguments} {body : List Stmt} {scope : Scope} {cc D f : Addr} {fd : FuncData} {ps : List Str}
theorem FunS.bindsN (F : FunS P K x qual params body scope cc D f fd)
    (h : ∀ (doc pm : Value) (an : Option Addr) (cdv ct : Value) (us : List Value), us.length = ps.length → bindArgs (PySem.W.fnX x qual params body scope [("__class__", cc)] .none .none doc pm an cdv ct) ⟨us, []⟩ = pure (ps.zip us)) : Binds K fd ps [] := by
  obtain ⟨oc, od, doc, pm, an, cda, ct, osl, rfl, lk, hcd, hco⟩ := F.ex
  exact .all (h doc pm an (.ref cda) ct)
theorem FunS.kbinds (F : FunS P K x qual params body scope cc D f fd) (n : Nat) (ks : List Str) (g : {α : Type} → List α → List α → List α)
    (hrel : ∀ {vs zs : List V} {us ws : List Value}, Vals vs us → Vals zs ws → Vals (g vs zs) (g us ws))
    (h : ∀ (doc pm : Value) (an : Option Addr) (cdv ct : Value) (us ws : List Value), us.length = n → ws.length = ks.length → bindArgs (PySem.W.fnX x qual params body scope [("__class__", cc)] .none .none doc pm an cdv ct) ⟨us, ks.zip ws⟩ = pure (ps.zip (g us ws))) :
    KBn K fd ps n ks (fun us ws => g us ws) (fun vs zs => g vs zs) := by
  obtain ⟨oc, od, doc, pm, an, cda, ct, osl, rfl, lk, hcd, hco⟩ := F.ex
  exact ⟨fun s us ws X l1 l2 => .of_eq (h doc pm an (.ref cda) ct us ws l1 l2), fun r1 r2 => hrel r1 r2⟩
end
/-- C(k = v, ..), its __init__ of any number of keywords -/
def MakeK (P : Program) (w : World) (K : PySem.W.Frag) (mg : Str → Option Value) (base : Heap) (k : Nat) (x : Str) (C : Addr) (ps ks : List Str) (g : List Value → List Value → List Value) (gV : List V → List V → List V) (sp : Sp) : Prop :=
  ∃ f fd, FnOk P w K mg base (L2.CX P w) k f fd ps sp ∧ Mk K C f ∧ mg x = some (.ref C) ∧ KBn K fd ps 1 ks g gV
theorem pe_omakeK {X : Cx} {k : Nat} {x : Str} {C : Addr} {ps ks : List Str} {g : List Value → List Value → List Value} {gV : List V → List V → List V} {sp : Sp} {kws : List Keyword} {tk : TA} {p pos : Pos} (D : MakeK X.prog X.w X.K X.mg X.base k x C ps ks g gV sp) (hr : Room (k + 1) X.A) (hkw : PK X kws tk) (hg : Gl X x := by rfl)
    (hall : (backToKw pos (keywordEach kws X.env)).all (·.1.isSome) = true := by rfl) (hks : (backToKw pos (keywordEach kws X.env)).filterMap (·.1) = ks := by rfl) (hdb : (x == ("__debug__" : Str)) = false := by decide)
    (hpl : ((backTo pos (starEach [] X.env)).any (·.1) || (backToKw pos (keywordEach kws X.env)).any (·.1.isNone)) = false := by rfl) :
    PE X (.Call (.Name x p) [] kws pos) (tMakeK C 0 ks.length sp gV E0 tNil tk) := by
  obtain ⟨f, fd, F, M, hm, hb⟩ := D
  exact pe_makeK0 M F hr hg hm hb passL hkw hall hks hdb hpl
/-! ### isinstance of what a suite holds -/
def rIsC (K : PySem.W.Frag) (D a : Addr) (cls : Value) (d : Option Addr) : List V → Hp → VK → Prop := fun xs H Q => cls = .ref D ∧ rIsX K D a d xs H Q
theorem call_isC {X : Cx} {a D : Addr} {cls : Value} {d : Option Addr} {oe : Obj} {pn : List (Addr × Obj)} (C : ExcF X.K D) (hz : Zc cls d oe) (hf : ∃ vs, oe.data = .fields vs) : CallR (X.suite a ((a, oe) :: pn)) (.builtin "isinstance") (rIsC X.K D a cls d) := by
  intro pins s σ H xs us Q I r h
  obtain ⟨e, h⟩ := h
  subst e
  exact call_isX C hz hf pins s σ H xs us Q I r h
/-! ### methods, properties of instances of some classes -/
def tProF (Γ : Addr → Prop) (sp : Addr → Sp) (ta : TE) : TE := fun σ H Q => ta σ H fun x H1 => ∃ a C dx fs, x = .ref a ∧ H1 a = some (.ins C dx fs) ∧ Γ C ∧ sp C [.ref a] H1 Q E0
theorem pe_fprop {X : Cx} {k : Nat} {m : Str} {ps : List Str} {sp : Addr → Sp} {o : Expr} {to : TE} {pos : Pos} {Γ : Addr → Prop} (D : ∀ C, Γ C → PropO X.prog X.w X.K X.mg X.base k C m ps (sp C) ∧ Cls X.K C) (hr : Room (k + 1) X.A) (ho : PE X o to) (hab : attributeBase o m X.env (eval o X.env) = eval o X.env := by rfl) :
    PE X (.Attribute o m pos) (tProF Γ sp to) := by
  constructor
  intro pins s σ H Q I h
  refine attr_of hab (thn (ho.run pins s σ H _ I h) ?_)
  rintro u s1 ⟨x, H1, I1, rx, a, C, dx, fs, rfl, ea, hC, q⟩
  cases rx
  obtain ⟨⟨p, g, fd, F, hp, hb⟩, c⟩ := D C hC
  exact getprop_ok (dvs := []) (E := E0) I1 ea c hp F hr hb .nil passL q
def tMthF (Γ : Addr → Prop) (m : Str) (sp : Addr → Sp) (W : WX) (to : TE) (t : TA) : TE := fun σ H Q => to σ H fun x H1 => ∃ a C dx fs, x = .ref a ∧ H1 a = some (.ins C dx fs) ∧ Γ C ∧ fs.lookup m = none ∧ t σ H1 fun vs H2 => sp C (x :: vs) H2 Q fun cls d H' => W cls d σ H'
section
variable {X : Cx} {k : Nat} {Γ : Addr → Prop} {ps : List Str} {sp : Addr → Sp} {W : WX} {m : Str} {pos apos : Pos} {e o : Expr} {es : List Expr} {to : TE} {t : TA}
theorem pe_fmeth {pl : Sem Bool} (D : ∀ C, Γ C → MethO X.prog X.w X.K X.mg X.base k C m ps (sp C) ∧ Cls X.K C) (hr : Room k X.A) (tk : Takes X W) (ho : PE X o to) (ha : PA X (e :: es) t)
    (hst : starEach (e :: es) X.env = (false, eval e X.env) :: starEach es X.env := by rfl) (hpl : (backTo pos (starEach es X.env)).any (·.1) = false := by rfl)
    (ht : eval (.Call (.Attribute o m apos) (e :: es) [] pos) X.env = (do
      let ov ← eval o X.env
      standAt apos.atName
      let (f, first) ← holding [ov] (getMethod ov m pl)
      callWith pos f first (backTo pos (starEach (e :: es) X.env)) (backToKw pos (keywordEach [] X.env))) := by rfl) :
    PE X (.Call (.Attribute o m apos) (e :: es) [] pos) (tMthF Γ m sp W to t) := by
  constructor
  intro pins s σ H Q I h
  refine PySem.W.methodCall_KW (pl := pl) (thn (ho.run pins s σ H _ I h) ?_) ht
  rintro u s1 ⟨x, H1, I1, rx, a, C, dx, fs, rfl, ea, hC, l, q⟩
  cases rx
  obtain ⟨⟨f, fd, F, hm, hb⟩, c⟩ := D C hC
  refine getmeth_ok I1 ea c hm l ?_
  refine PySem.W.callWith_K (first := [.ref a]) (h₀ := X.base) I.ok.mod.kin hm.kp (thn (ha.run pos pins s1 σ H1 _ I1 q) ?_) hst hpl
  rintro us s2 ⟨vs, H2, I2, r, q2⟩
  exact ⟨I2.kIn, run_o (us := .ref a :: us) (vs := .ref a :: vs) F hr hb tk I2 (.cons rfl r) q2⟩
theorem pe_fmeth0 {pl : Sem Bool} (D : ∀ C, Γ C → MethO X.prog X.w X.K X.mg X.base k C m ps (sp C) ∧ Cls X.K C) (hr : Room k X.A) (tk : Takes X W) (ho : PE X o to)
    (ht : eval (.Call (.Attribute o m apos) [] [] pos) X.env = (do
      let ov ← eval o X.env
      standAt apos.atName
      let (f, first) ← holding [ov] (getMethod ov m pl)
      callWith pos f first (backTo pos (starEach [] X.env)) (backToKw pos (keywordEach [] X.env))) := by rfl) :
    PE X (.Call (.Attribute o m apos) [] [] pos) (tMthF Γ m sp W to tNil) := by
  constructor
  intro pins s σ H Q I h
  refine PySem.W.methodCall_KW (pl := pl) (thn (ho.run pins s σ H _ I h) ?_) ht
  rintro u s1 ⟨x, H1, I1, rx, a, C, dx, fs, rfl, ea, hC, l, q⟩
  cases rx
  obtain ⟨⟨f, fd, F, hm, hb⟩, c⟩ := D C hC
  refine getmeth_ok I1 ea c hm l ?_
  exact PySem.W.callWith_K0 (first := [.ref a]) I1.kIn hm.kp (run_o (us := [.ref a]) (vs := [.ref a]) F hr hb tk I1 (.cons rfl .nil) q)
end
/-- the reading of such a call's object -/
theorem i_proF {Γ : Addr → Prop} {sp : Addr → Sp} {ta : TE} {σ : L2.St} {H : Hp} {Q : VK} (q : ta σ H fun x H1 => ∃ a C dx fs, x = .ref a ∧ H1 a = some (.ins C dx fs) ∧ Γ C ∧ sp C [.ref a] H1 Q E0) : tProF Γ sp ta σ H Q := q
theorem i_mthF {Γ : Addr → Prop} {m : Str} {sp : Addr → Sp} {W : WX} {to : TE} {t : TA} {σ : L2.St} {H : Hp} {Q : VK} (q : to σ H fun x H1 => ∃ a C dx fs, x = .ref a ∧ H1 a = some (.ins C dx fs) ∧ Γ C ∧ fs.lookup m = none ∧ t σ H1 fun vs H2 => sp C (x :: vs) H2 Q fun cls d H' => W cls d σ H') : tMthF Γ m sp W to t σ H Q := q
/-! ### facts by a list -/
abbrev Fc : Type := PySem.W.Frag → Bool
def ckL (fs : List Fc) (K : PySem.W.Frag) : Bool := fs.all fun φ => φ K
theorem ck_at {fs : List Fc} {fn : List DefX} {K : PySem.W.Frag} (c : SaysV (ckL fs) fn K) (i : Nat) {φ : Fc} (h : fs[i]? = some φ := by rfl) : φ K = true :=
  List.all_eq_true.mp c.cks φ (List.mem_of_getElem? h)
def fNone (x f : Str) : Fc := fun K => decide (PySem.W.findIn K (.ref (He.ga K x)) f = some none)
def fKit (x y : Str) (b : Bool) : Fc := fun K => decide (PySem.W.kitOne K (.ref (He.ga K x)) (.ref (He.ga K y)) = some b)
def fOex (x : Str) : Fc := fun K => oexB K (He.ga K x) && initB K (He.ga K x)
def fExc (x : Str) : Fc := fun K => excB K (He.ga K x)
def fIns (x : Str) : Fc := fun K => (He.Fa.cls x).ok K && insB K (He.ga K x)
def fBase (x : Str) : Fc := fun K => baseB K (He.ga K x)
def fProp (x m : Str) : Fc := fun K => propB K (He.ga K x) m
def fInh (x y m : Str) : Fc := fun K => decide (PySem.W.findIn K (.ref (He.ga K x)) m = some (some (.ref (He.ma K (He.ga K y) m))))
def fNe (x y : Str) : Fc := fun K => decide (He.ga K x ≠ He.ga K y)
/-- x's super().__init__ is y's -/
def fSup (x y : Str) : Fc := fun K => supIB K (He.ga K x) (He.ga K x) (He.ma K (He.ga K y) "__init__")
def fSupD (x m file : Str) : Fc := fun K => supB K file (He.ma K (He.ga K x) m) (He.ga K x)
/-! ### the contexts' wishes -/
section
variable {P : Program} {w : World} {K : PySem.W.Frag} {mg : Str → Option Value} {base : Heap} {N : List Str} {qual : Str} {scope : Scope} {f : Addr} {fd : FuncData} {cdv : Value} {A : Around} {outer : List Env} {s : Shared} {H : Hp} {E : XK}
theorem tkC : Takes (cxOf (L2.CX P w) P w K mg base N qual scope f cdv A outer s H E) (fun cls d _ H => E cls d H) := takes_of rfl rfl rfl rfl
theorem ownC : PassesOwn (model P w) (cxOf (L2.CX P w) P w K mg base N qual scope f cdv A outer s H E).A (cxOf (L2.CX P w) P w K mg base N qual scope f cdv A outer s H E).env (cxOf (L2.CX P w) P w K mg base N qual scope f cdv A outer s H E).xe := PassesOwn.leaving
theorem tkS : Takes (cxS P w K mg base N fd f A outer s H E) (fun cls d _ H => E cls d H) := takes_of rfl rfl rfl rfl
end
/-! ### loops over ranges -/
section
variable {σ : L2.St} {H : Hp} {D : Ends} {tb : TS} {ta : TA} {sl : Nat}
/-- a loop, by what it walks over -/
def forI (J : It) (g : TG) (tb : TS) (D : Ends) (σ : L2.St) (H : Hp) : Prop := ∃ W : Nat → Nat → L2.St → Hp → Prop, (∃ m, W 0 m σ H) ∧ ∀ i m σ H, W i m σ H →
  (J.stop i H ∧ D.nx σ H) ∨ (J.go i H ∧ ∃ N : L2.St → Hp → Prop, (∀ σ' H', N σ' H' → ∃ m', m' < m ∧ W (i + 1) m' σ' H') ∧ ∀ x H', J.yld i H x H' → g x σ H' fun σ2 H2 => tb { D with nx := N, ct := N, bk := D.nx } σ2 H2)
theorem i_for {wi : TI} {g : TG} (q : wi σ H fun J H1 => forI J g tb D σ H1) : tFor wi g tb D σ H := q
theorem i_rng1 {R : It → Hp → Prop} (q : ta σ H fun vs H1 => ∃ j : Int, vs = [.int j] ∧ -(2 ^ 62) ≤ j ∧ j < 2 ^ 62 ∧ R (Itr 0 j.toNat) H1) : iRng1 ta σ H R := q
theorem i_rng2 {R : It → Hp → Prop} (q : ta σ H fun vs H1 => ∃ i j : Int, vs = [.int i, .int j] ∧ (-(2 ^ 62) ≤ i ∧ i < 2 ^ 62 ∧ -(2 ^ 62) ≤ j ∧ j < 2 ^ 62) ∧ R (Itr i (j - i).toNat) H1) : iRng2 ta σ H R := q
theorem for_rng {lo : Int} {n : Nat} {g : TG} (J : Nat → L2.St → Hp → Prop) (h0 : J 0 σ H)
    (step : ∀ i σ' H', i < n → J i σ' H' → g (.int (lo + (i : Int))) σ' H' fun σ2 H2 => tb { D with nx := J (i + 1), ct := J (i + 1), bk := D.nx } σ2 H2) (done : ∀ σ' H', J n σ' H' → D.nx σ' H') :
    forI (Itr lo n) g tb D σ H := by
  refine ⟨fun i m σ H => i ≤ n ∧ m = n - i ∧ J i σ H, ⟨n, Nat.zero_le _, rfl, h0⟩, ?_⟩
  rintro i m σ1 H1 ⟨hi, rfl, hJ⟩
  by_cases e : i = n
  · subst e
    exact .inl ⟨Nat.le_refl _, done _ _ hJ⟩
  · have hl : i < n := by omega
    refine .inr ⟨hl, J (i + 1), fun σ' H' q => ⟨n - (i + 1), by omega, by omega, rfl, q⟩, ?_⟩
    rintro x H' ⟨rfl, rfl⟩
    exact step i σ1 H' hl hJ
end
/-! ### the script beside a box -/
def Scq (K : PySem.W.Frag) (b a : Addr) (xs : List V) (H : Hp) : Prop := (a ≠ b ∧ SqL K H a xs) ∨ ∀ H', SqL K H' a xs
instance {K : PySem.W.Frag} {b a : Addr} {xs : List V} : Mono Ex (Scq K b a xs) := ⟨fun e h => h.imp (fun h => ⟨h.1, ex_sq (fun o => e a o) h.2⟩) id⟩
instance {K : PySem.W.Frag} {b a : Addr} {xs : List V} : Mono (Bx b) (Scq K b a xs) := ⟨fun e h => h.imp (fun h => ⟨h.1, ex_sq (fun o => e.keep a o h.1) h.2⟩) id⟩
instance {K : PySem.W.Frag} {a : Addr} {xs : List V} : Mono Ex (fun H => SqL K H a xs) := ⟨fun e h => ex_sq (fun o => e a o) h⟩
theorem Scq.of {K : PySem.W.Frag} {b a : Addr} {xs : List V} {H : Hp} (h : SqL K H a xs) (n : H b = none) : Scq K b a xs H := by
  rcases h with (h | ⟨o, h⟩) | h
  · exact .inl ⟨ne_of_none h n, .inl (.inl h)⟩
  · exact .inl ⟨ne_of_none h n, .inl (.inr ⟨o, h⟩)⟩
  · exact .inr fun _ => .inr h
theorem Scq.sq {K : PySem.W.Frag} {b a : Addr} {xs : List V} {H : Hp} (h : Scq K b a xs H) : SqL K H a xs := h.elim (fun h => h.2) fun h => h H
theorem i_nfalse {A B : Prop} (q : A) : if (!false) = true then A else B := q
theorem i_ntrue {A B : Prop} (q : B) : if (!true) = true then A else B := by
  rw [if_neg (by decide)]
  exact q
/-! ### promises applied -/
theorem i_cal {sp : Sp} {W : WX} {ta : TA} {σ : L2.St} {H : Hp} {Q : VK} (q : ta σ H fun vs H1 => sp vs H1 Q fun cls d H' => W cls d σ H') : tCal sp W ta σ H Q := q
/-- C(..): a new instance, then its __init__'s promise -/
def makI (C : Addr) (sp : Sp) (Q : VK) (E : XK) (vs : List V) (H1 : Hp) : Prop := ∀ x dx, H1 x = none → H1 dx = none → dx ≠ x →
  sp (.ref x :: vs) (upd (upd H1 dx (.own x)) x (.ins C dx [])) (fun v H2 => v = .non ∧ Q (.ref x) H2) E
theorem i_mak {C : Addr} {sp : Sp} {W : WX} {t : TA} {σ : L2.St} {H : Hp} {Q : VK} (q : t σ H fun vs H1 => makI C sp Q (fun cls d H' => W cls d σ H') vs H1) : tMak C sp W t σ H Q := q
theorem i_pro {C : Addr} {sp : Sp} {ta : TE} {σ : L2.St} {H : Hp} {Q : VK} (q : ta σ H fun x H1 => ∃ a dx fs, x = .ref a ∧ H1 a = some (.ins C dx fs) ∧ sp [.ref a] H1 Q E0) : tPro C sp ta σ H Q := q
theorem i_err {C : Addr} {sp : Sp} {ta : TA} {σ : L2.St} {H : Hp} {Q : XK} (q : ta σ H fun vs H1 => errIn C sp vs H1 Q) : tErr C sp ta σ H Q := q
theorem i_mth {C : Addr} {m : Str} {sp : Sp} {W : WX} {to : TE} {t : TA} {σ : L2.St} {H : Hp} {Q : VK} (q : to σ H fun x H1 => ∃ a dx fs, x = .ref a ∧ H1 a = some (.ins C dx fs) ∧ fs.lookup m = none ∧ t σ H1 fun vs H2 => sp (x :: vs) H2 Q fun cls d H' => W cls d σ H') : tMth C m sp W to t σ H Q := q
def makIK (C : Addr) (n m : Nat) (sp : Sp) (gV : List V → List V → List V) (E : XK) (Q : VK) (vs zs : List V) (H2 : Hp) : Prop := vs.length = n ∧ zs.length = m ∧ ∀ x dx, H2 x = none → H2 dx = none → dx ≠ x →
  sp (gV (.ref x :: vs) zs) (upd (upd H2 dx (.own x)) x (.ins C dx [])) (fun v H3 => v = .non ∧ Q (.ref x) H3) E
theorem i_makK {C : Addr} {n m : Nat} {sp : Sp} {gV : List V → List V → List V} {E : XK} {t tk : TA} {σ : L2.St} {H : Hp} {Q : VK} (q : t σ H fun vs H1 => tk σ H1 fun zs H2 => makIK C n m sp gV E Q vs zs H2) : tMakeK C n m sp gV E t tk σ H Q := q
theorem makIK_of {C : Addr} {n m : Nat} {sp : Sp} {gV : List V → List V → List V} {E : XK} {Q : VK} {vs zs us : List V} {H2 : Hp} (e : ∀ x, gV (.ref x :: vs) zs = .ref x :: us) (q : makI C sp Q E us H2) (h1 : vs.length = n := by rfl) (h2 : zs.length = m := by rfl) : makIK C n m sp gV E Q vs zs H2 :=
  ⟨h1, h2, fun x dx a b c => by
    rw [e x]
    exact q x dx a b c⟩
theorem ap_take {b : Addr} {n : Int} {H : Hp} {Q : VK} {E : XK} (hb : Box b H) (h : ∀ (d : Int) H', 0 ≤ d → d < n → Bx b H H' → Box b H' → Q (.int d) H') (h1 : 1 ≤ n := by decide) (h2 : n < 2 ^ 4000 := by decide) : spTake [.ref b, .int n] H Q E := ⟨b, n, rfl, hb, h1, h2, h⟩
theorem ap_box {K : PySem.W.Frag} {a : Addr} {ns : List Int} {k o : Int} {H : Hp} {Q : VK} {E : XK} (hs : SqL K H a (ns.map V.int)) (h : ∀ b H', H b = none → Ex H H' → Box b H' → Q (.ref b) H') (h1 : 0 ≤ k ∧ k ≤ 1000 ∧ 0 ≤ o ∧ o ≤ 1000) : spBox K [.ref a, .int k, .int o] H Q E :=
  ⟨a, ns, k, o, rfl, hs, h1.1, h1.2.1, h1.2.2.1, h1.2.2.2, h⟩
end L3
namespace L3
open PySem PySem.Spec PyProof.Rows L2
theorem funD_same {K : PySem.W.Frag} {x qual : Str} {params : Arguments} {body : List Stmt} {scope : Scope} {dvs : List V} {kws : List (Str × V)} {f : Addr} {fd fd' : FuncData} (F : FunD K x qual params body scope dvs kws f fd) (G : FunD K x qual params body scope dvs kws f fd') : fd = fd' := by
  obtain ⟨oc, od, dV, kV, doc, pm, an, cdv, ct, osl, e1, lk, _⟩ := F.ex
  obtain ⟨oc2, od2, dV2, kV2, doc2, pm2, an2, cdv2, ct2, osl2, e2, lk2, _⟩ := G.ex
  rw [lk] at lk2
  cases lk2
  rfl
theorem i_sfld {K : PySem.W.Frag} {ta tv : TE} {f : Str} {D : Ends} {σ : L2.St} {H : Hp} (q : tv σ H fun y H1 => ta σ H1 fun x H2 => ∃ a C dx fs, x = .ref a ∧ H2 a = some (.ins C dx fs) ∧ Cls K C ∧ NoAttr K C f ∧ fs.length < 1000 ∧
  D.nx σ (upd H2 a (.ins C dx (putF f y fs)))) : sFld K ta tv f D σ H := q
theorem i_ost {K : PySem.W.Frag} {f : Str} {to te : TE} {D : Ends} {σ : L2.St} {H : Hp} (q : tOst K f to te D σ H) : tOst K f to te D σ H := q
theorem i_xf {a : Addr} {cls : Value} {d : Option Addr} {C : Addr} {f : Str} {te : TE} {σ : L2.St} {H : Hp} {Q : VK} (q : te σ H fun x H1 => x = .ref a ∧ cls = .ref C ∧ ∃ (dd : Addr) (fs : List (Str × V)) (v : V), d = some dd ∧ H1 dd = some (.xd fs) ∧ fs.lookup f = some v ∧ Q v H1) : tXf a cls d C f te σ H Q := q
theorem i_sup {C : Addr} {sp : Sp} {W : WX} {t : TA} {σ : L2.St} {H : Hp} {Q : VK} (q : ∃ a dx fs, σ[0]? = some (some (.ref a)) ∧ H a = some (.ins C dx fs) ∧ t σ H fun vs H1 => sp (.ref a :: vs) H1 Q fun cls d H' => W cls d σ H') : tSup C sp W t σ H Q := q
end L3
namespace L3
open PySem PySem.Spec PyProof.Rows L2
/-! ### the same rules, K written (within a try, whose readings know the wish alone) -/
section
variable {X : Cx} {K : PySem.W.Frag} (h : X.K = K)
include h
theorem ix_listK : IxR X (rIxL K) := h ▸ ix_list
theorem ix_tupK : IxR X (rIxT K) := h ▸ ix_tup
theorem call_isiK : CallR X (.builtin "isinstance") (rIsi K) := h ▸ call_isi
theorem call_len_seqK : CallR X (.builtin "len") (fun xs H Q => ∃ p ys, xs = [.ref p] ∧ (SqL K H p ys ∨ SqT K H p ys) ∧ Q (.int ys.length) H) := h ▸ call_len_seq
theorem sl_tupK : SlR X (rSlT K) := h ▸ sl_tup
theorem sl_listK : SlR X (rSlL K) := h ▸ sl_list
theorem op_in_seqK : OpR X (compareOp .In) (rIn K false) := h ▸ op_in_seq
theorem op_notIn_seqK : OpR X (compareOp .NotIn) (rIn K true) := h ▸ op_notIn_seq
theorem op_eqDK (hu : X.A.units + 64 < cLine) : OpR X (compareOp .Eq) (rEqD K) := h ▸ op_eqD hu
theorem op_neDK (hu : X.A.units + 64 < cLine) : OpR X (compareOp .NotEq) (rNeD K) := h ▸ op_neD hu
theorem pe_fldK {e : Expr} {f : Str} {pos : Pos} {ta : TE} (he : PE X e ta) (hb : attributeBase e f X.env (eval e X.env) = eval e X.env := by rfl) : PE X (.Attribute e f pos) (tFld K ta f) := h ▸ pe_fld he hb
theorem pi_listK {tg l : Expr} {tl : TE} (hl : PE X l tl) : PI X tg l (iList K tl) := h ▸ pi_list hl
theorem pi_tupK {tg l : Expr} {tl : TE} (hl : PE X l tl) : PI X tg l (iTup K tl) := h ▸ pi_tup hl
end
end L3

/-! L3k: what the program's defs promise: integers, stretches. -/
namespace L3
open PySem PySem.Spec PyProof.Rows L2
def spIsInt : Sp := fun vs H Q _ => ∃ v d, vs = [v] ∧ Dt H v d ∧ Q (.bl (isInt d)) H
theorem len_isint : ∀ (vs : List V) H Q E, spIsInt vs H Q E → vs.length = 1 := by
  rintro vs H Q E ⟨v, d, rfl, _⟩
  rfl
theorem ap_isint {v : V} {d : PyData} {H : Hp} {Q : VK} {E : XK} (h : Dt H v d) (q : Q (.bl (isInt d)) H) : spIsInt [v] H Q E := ⟨v, d, rfl, h, q⟩
theorem isInt_of {d : PyData} (h : isInt d = true) : ∃ i, d = .int i := by
  cases d <;> first | exact ⟨_, rfl⟩ | cases h
/-- the classes of stretches -/
def isSt (K : PySem.W.Frag) (C : Addr) : Prop := C = He.ga K "Stretch" ∨ C = He.ga K "Backward"
def isBk (K : PySem.W.Frag) (C : Addr) : Prop := C = He.ga K "Backward"
/-- a stretch may have these -/
def goodS : PyData → PyData → Bool
  | .int s, .int n => decide (0 ≤ s) && decide (1 ≤ n)
  | _, _ => false
theorem goodS_of {a b : PyData} (h : goodS a b = true) : ∃ s n : Int, a = .int s ∧ b = .int n ∧ 0 ≤ s ∧ 1 ≤ n := by
  unfold goodS at h
  split at h
  · rename_i s n
    obtain ⟨h1, h2⟩ := Bool.and_eq_true_iff.mp h
    exact ⟨s, n, rfl, rfl, of_decide_eq_true h1, of_decide_eq_true h2⟩
  · cases h
/-- a two-field error at CE, with v1, v2, leaves -/
def Raised2 (CE : Addr) (f1 f2 : Str) (v1 v2 : V) (H : Hp) (E : XK) : Prop := ∀ d H', H d = none → Ex H H' → H' d = some (.xd [(f2, v2), (f1, v1)]) → E (.ref CE) (some d) H'
theorem Raised2.up {CE : Addr} {f1 f2 : Str} {v1 v2 : V} {H H1 : Hp} {E : XK} (r : Raised2 CE f1 f2 v1 v2 H E) (e : Ex H H1) : Raised2 CE f1 f2 v1 v2 H1 E := fun d H' nd e2 hd => r d H' (Ex.back e nd) (e.trans e2) hd
/-- __init__ of a stretch: what is made, or refused -/
def spInitS (K : PySem.W.Frag) (Γ : Addr → Prop) : Sp := fun vs H Q E => ∃ a C dx v1 v2 d1 d2, vs = [.ref a, v1, v2] ∧ Γ C ∧ H a = some (.ins C dx []) ∧ Dt H v1 d1 ∧ Dt H v2 d2 ∧
  (goodS d1 d2 = true → Q .non (upd (upd H a (.ins C dx [("start", v1)])) a (.ins C dx [("start", v1), ("size", v2)]))) ∧
  (goodS d1 d2 = false → Raised2 (He.ga K "InvalidStretch") "start" "size" v1 v2 H E)
theorem len_initS {K : PySem.W.Frag} {Γ : Addr → Prop} : ∀ (vs : List V) H Q E, spInitS K Γ vs H Q E → vs.length = 3 := by
  rintro vs H Q E ⟨a, C, dx, v1, v2, d1, d2, rfl, _⟩
  rfl
/-- x is a stretch of class C -/
def StH (C x : Addr) (s n : Int) (H : Hp) : Prop := ∃ dx, H x = some (.ins C dx [("start", .int s), ("size", .int n)])
instance {C x : Addr} {s n : Int} : Mono Ex (StH C x s n) := ⟨fun e ⟨dx, h⟩ => ⟨dx, e _ _ h⟩⟩
instance {b C x : Addr} {s n : Int} : Mono (Bx b) (StH C x s n) := ⟨fun e ⟨dx, h⟩ => ⟨dx, e.other h fun l z => by cases z⟩⟩
theorem Dt.upd_ {H : Hp} {v : V} {d : PyData} {a : Addr} {o : HO} (h : Dt H v d) (n : ∀ xs, H a ≠ some (.tup xs)) : Dt (upd H a o) v d :=
  Dt.up (fun b xs e => by
    have z : b ≠ a := fun z => n xs (z ▸ e)
    rw [upd_ne z]
    exact e) h
/-- a stretch is made, or refused -/
theorem ap_makeS {K : PySem.W.Frag} {Γ : Addr → Prop} {C : Addr} {v1 v2 : V} {d1 d2 : PyData} {H : Hp} {Q : VK} {E : XK} (hC : Γ C) (h1 : Dt H v1 d1) (h2 : Dt H v2 d2)
    (good : ∀ s n : Int, v1 = .int s → v2 = .int n → d1 = .int s → d2 = .int n → 0 ≤ s → 1 ≤ n → ∀ x H', Ex H H' → H x = none → StH C x s n H' → Q (.ref x) H')
    (bad : goodS d1 d2 = false → ∀ d H', Ex H H' → H d = none → H' d = some (.xd [("size", v2), ("start", v1)]) → E (.ref (He.ga K "InvalidStretch")) (some d) H') :
    makI C (spInitS K Γ) Q E [v1, v2] H := by
  intro x dx nx nd dn
  have e1 : Ex H (upd (upd H dx (.own x)) x (.ins C dx [])) := fun b o e => by
    rw [upd_ne (ne_of_none e nx), upd_ne (ne_of_none e nd)]
    exact e
  refine ⟨x, C, dx, v1, v2, d1, d2, rfl, hC, upd_same, up (φ := Da v1 d1) e1 h1, up (φ := Da v2 d2) e1 h2, fun g => ⟨rfl, ?_⟩, fun g => ?_⟩
  · obtain ⟨s, n, rfl, rfl, hs, hn⟩ := goodS_of g
    have q1 := h1.int_of
    have q2 := h2.int_of
    subst q1 q2
    refine good s n rfl rfl rfl rfl hs hn x _ (fun b o e => ?_) nx ⟨dx, upd_same⟩
    have z := ne_of_none e nx
    rw [upd_ne z, upd_ne z]
    exact e1 b o e
  · intro d H' nd' e2 hd
    have e3 : H d = none := Ex.back e1 nd'
    exact bad g d H' (e1.trans e2) e3 hd
theorem ap_makeG {K : PySem.W.Frag} {Γ : Addr → Prop} {C : Addr} {s n : Int} {H : Hp} {Q : VK} {E : XK} (hC : Γ C) (hs : 0 ≤ s) (hn : 1 ≤ n) (good : ∀ x H', Ex H H' → H x = none → StH C x s n H' → Q (.ref x) H') :
    makI C (spInitS K Γ) Q E [.int s, .int n] H :=
  ap_makeS hC (.int s) (.int n) (fun s' n' e1 e2 _ _ _ _ x H' e h q => by
    cases e1
    cases e2
    exact good x H' e h q) fun g => by
    have z : goodS (.int s) (.int n) = true := by
      show (decide (0 ≤ s) && decide (1 ≤ n)) = true
      rw [decide_eq_true hs, decide_eq_true hn]
      rfl
    rw [z] at g
    cases g
/-- its last place -/
def spLast (K : PySem.W.Frag) : Sp := fun vs H Q _ => ∃ C x s n, vs = [.ref x] ∧ isSt K C ∧ StH C x s n H ∧ Q (.int (s + n - 1)) H
theorem len_last {K : PySem.W.Frag} : ∀ (vs : List V) H Q E, spLast K vs H Q E → vs.length = 1 := by
  rintro vs H Q E ⟨C, x, s, n, rfl, _⟩
  rfl
/-! ### small steps -/
theorem i_ix2 {K : PySem.W.Frag} {p : Addr} {x y : V} {b : Bool} {H : Hp} {Q : VK} (h : SqL K H p [x, y]) (ht : b = true → Q y H) (hf : b = false → Q x H) : rIxL K (.ref p) (.int (if b = true then 1 else 0)) H Q := by
  cases b with
  | true => exact i_ixL h rfl (ht rfl)
  | false => exact i_ixL h rfl (hf rfl)
theorem abs_nonneg (i : Int) : 0 ≤ (if i < 0 then -i else i) := by
  split <;> omega
theorem atI_map {ns : List Int} {k : Int} (h : 0 ≤ k) (h2 : k < ns.length) : ∃ i, atI (ns.map V.int) k = some (.int i) := by
  have e : ∃ n : Nat, k = n := ⟨k.toNat, by omega⟩
  obtain ⟨n, rfl⟩ := e
  have hn : n < ns.length := by omega
  exact ⟨ns[n], atI_nat (by simp [hn])⟩
theorem box_ne {b p : Addr} {H : Hp} (h : Box b H) (n : H p = none) : p ≠ b := fun z => by
  obtain ⟨_, _, _, z2, _⟩ := h
  rw [← z, n] at z2
  cases z2
theorem i_cat {l b : Addr} {xs zs : List V} {H : Hp} {Q : VK} (h1 : H l = some (.lst xs)) (h2 : H b = some (.lst zs)) (q : ∀ p H', Ex H H' → H p = none → H' p = some (.lst (xs ++ zs)) → Q (.ref p) H') (hl : xs.length + zs.length ≤ 1000 := by first | (simp only [List.length_append, List.length_cons, List.length_nil]; decide) | (simp; done)) : rCat (.ref l) (.ref b) H Q :=
  ⟨l, b, xs, zs, rfl, rfl, h1, h2, Nat.le_trans hl (by decide), fun p hp => q p _ (Ex.new hp) hp upd_same⟩
/-- any place of a list -/
theorem i_ixAll {K : PySem.W.Frag} {p : Addr} {xs : List V} {d : Int} {H : Hp} {Q : VK} (h : SqL K H p xs) (h0 : 0 ≤ d) (h1 : d < xs.length) (q : ∀ v, v ∈ xs → Q v H) : rIxL K (.ref p) (.int d) H Q := by
  obtain ⟨n, rfl⟩ : ∃ n : Nat, d = n := ⟨d.toNat, by omega⟩
  have hn : n < xs.length := by omega
  exact i_ixL h (atI_nat (v := xs[n]) (by simp [hn])) (q _ (List.getElem_mem hn))
/-- what values of a law's draws are -/
structure Vd (d : PyData) : Prop where
  sml : Sml d
  dep : d.depth ≤ 3
  blk : d.bulk ≤ 50
  itg : ∀ i, d = .int i → i.natAbs ≤ 10 ^ 31
  lay : d.canLay0 = true
theorem Vd.int {i : Int} (h : i.natAbs ≤ 10 ^ 31) : Vd (.int i) := ⟨by show i.natAbs < 10 ^ 400; exact Nat.lt_of_le_of_lt h (by decide +kernel), by show 0 ≤ 3; decide, by show 0 ≤ 50; decide, fun j e => by cases e; exact h, by simp only [PyData.canLay0]⟩
/-- such values in a tuple can be shown -/
theorem Shw.tup {xs : List PyData} (h : SmlAll xs) (d : (PyData.tuple xs).depth ≤ 50) (b : (PyData.tuple xs).bulk ≤ 40000) : Shw (.tuple xs) := ⟨h, d, b⟩
/-! ### data with lists stay, too -/
mutual
theorem Dp.upE {K : PySem.W.Frag} {H H' : Hp} (e : Ex H H') : ∀ {v : V} {d : PyData}, Dp K H v d → Dp K H' v d
  | _, _, .non => .non
  | _, _, .bl b => .bl b
  | _, _, .int i => .int i
  | _, _, .str x => .str x
  | _, _, .lst q r => .lst (ex_sq (fun o => e _ o) q) (DpAll.upE e r)
  | _, _, .tup q r => .tup (ex_sqT (fun o => e _ o) q) (DpAll.upE e r)
theorem DpAll.upE {K : PySem.W.Frag} {H H' : Hp} (e : Ex H H') : ∀ {vs : List V} {ds : List PyData}, DpAll K H vs ds → DpAll K H' vs ds
  | _, _, .nil => .nil
  | _, _, .cons h r => .cons (Dp.upE e h) (DpAll.upE e r)
end
theorem DtAll.append {H : Hp} : ∀ {vs us : List V} {ds es : List PyData}, DtAll H vs ds → DtAll H us es → DtAll H (vs ++ us) (ds ++ es)
  | _, _, _, _, .nil, r => r
  | _, _, _, _, .cons h t, r => .cons h (DtAll.append t r)
theorem DtAll.len {H : Hp} : ∀ {vs : List V} {ds : List PyData}, DtAll H vs ds → vs.length = ds.length
  | _, _, .nil => rfl
  | _, _, .cons _ t => congrArg Nat.succ (DtAll.len t)
theorem eqv_nil (ds : List PyData) : PyData.eqv (.list ds) (.list []) = ds.isEmpty := by
  cases ds <;> simp [PyData.eqv, PyData.eqvAll]
/-! ### draws of data -/
def spDraw (φ : PyData → Prop) : Sp := fun vs H Q _ => ∃ b, vs = [.ref b] ∧ Box b H ∧ ∀ v d H', φ d → Dt H' v d → Bx b H H' → Box b H' → Q v H'
theorem len_draw {φ : PyData → Prop} : ∀ (vs : List V) H Q E, spDraw φ vs H Q E → vs.length = 1 := by
  rintro vs H Q E ⟨b, rfl, _⟩
  rfl
theorem ap_draw {φ : PyData → Prop} {b : Addr} {H : Hp} {Q : VK} {E : XK} (h : Box b H) (q : ∀ v d H', φ d → Dt H' v d → Bx b H H' → Box b H' → Q v H') : spDraw φ [.ref b] H Q E := ⟨b, rfl, h, q⟩
/-- an integer of the range lo .. hi -/
def spDrawI (lo hi : Int) : Sp := fun vs H Q _ => ∃ b, vs = [.ref b] ∧ Box b H ∧ ∀ (i : Int) H', lo ≤ i → i ≤ hi → Bx b H H' → Box b H' → Q (.int i) H'
theorem len_drawI {lo hi : Int} : ∀ (vs : List V) H Q E, spDrawI lo hi vs H Q E → vs.length = 1 := by
  rintro vs H Q E ⟨b, rfl, _⟩
  rfl
theorem ap_drawI {lo hi : Int} {b : Addr} {H : Hp} {Q : VK} {E : XK} (h : Box b H) (q : ∀ (i : Int) H', lo ≤ i → i ≤ hi → Bx b H H' → Box b H' → Q (.int i) H') : spDrawI lo hi [.ref b] H Q E := ⟨b, rfl, h, q⟩
theorem Bx.self {b : Addr} {H : Hp} (h : Box b H) : Bx b H H := Bx.refl h
end L3

/-! L3o: own operators of instances; comprehensions. -/
namespace L3
open PySem PySem.Spec PyProof.Rows L2
/-! ### own operators -/
/-- an operator of one operand -/
def tOwn1 (Γ : Addr → Prop) (sp : Addr → Sp) (W : WX) (to : TE) : TE := fun σ H Q => to σ H fun x H1 => ∃ a C dx fs, x = .ref a ∧ H1 a = some (.ins C dx fs) ∧ Γ C ∧ sp C [.ref a] H1 Q fun cls d H' => W cls d σ H'
theorem i_own1 {Γ : Addr → Prop} {sp : Addr → Sp} {W : WX} {to : TE} {σ : L2.St} {H : Hp} {Q : VK} (q : to σ H fun x H1 => ∃ a C dx fs, x = .ref a ∧ H1 a = some (.ins C dx fs) ∧ Γ C ∧ sp C [.ref a] H1 Q fun cls d H' => W cls d σ H') : tOwn1 Γ sp W to σ H Q := q
/-- of two -/
def tOwn2 (Γ : Addr → Prop) (Δ : V → Hp → Prop) (sp : Addr → Sp) (W : WX) (to te : TE) : TE := fun σ H Q => to σ H fun x H1 => te σ H1 fun y H2 => ∃ a C dx fs, x = .ref a ∧ H2 a = some (.ins C dx fs) ∧ Γ C ∧ Δ y H2 ∧ sp C [.ref a, y] H2 Q fun cls d H' => W cls d σ H'
theorem i_own2 {Γ : Addr → Prop} {Δ : V → Hp → Prop} {sp : Addr → Sp} {W : WX} {to te : TE} {σ : L2.St} {H : Hp} {Q : VK} (q : to σ H fun x H1 => te σ H1 fun y H2 => ∃ a C dx fs, x = .ref a ∧ H2 a = some (.ins C dx fs) ∧ Γ C ∧ Δ y H2 ∧ sp C [.ref a, y] H2 Q fun cls d H' => W cls d σ H') : tOwn2 Γ Δ sp W to te σ H Q := q
section
variable {X : Cx} {k : Nat} {Γ : Addr → Prop} {ps : List Str} {sp : Addr → Sp} {W : WX} {pos : Pos} {e o : Expr} {to te : TE}
theorem pe_inv (D : ∀ C, Γ C → MethO X.prog X.w X.K X.mg X.base k C "__invert__" ps (sp C) ∧ Cls X.K C) (hr : Room k X.A) (tk : Takes X W) (ho : PE X o to) : PE X (.UnaryOp .Invert o pos) (tOwn1 Γ sp W to) := by
  constructor
  intro pins s σ H Q I h
  refine UnaryOp_ (thn (ho.run pins s σ H _ I h) ?_)
  rintro u s1 ⟨x, H1, I1, rx, a, C, dx, fs, rfl, ea, hC, q⟩
  cases rx
  obtain ⟨⟨f, fd, F, hm, hb⟩, c⟩ := D C hC
  obtain ⟨mA, O, _⟩ := ins_get I1.hok ea
  obtain ⟨od, J, _⟩ := O.look
  obtain ⟨m, hF⟩ := I1.fr
  exact PySem.W.ksp_inv hF I1.ok.mod.kin J hm.at_ hm.fn (run_o (us := [.ref a]) (vs := [.ref a]) F hr hb tk I1 (.cons rfl .nil) q)
theorem cmp_back {X : Cx} {pins : List (Addr × Obj)} {σ : L2.St} {Q : VK} {v : Value} {s' : Shared} (h : EP X pins σ Q v s') : PySem.W.CmpBack (EP X pins σ Q) v s' := by
  obtain ⟨z, H, I, r, q⟩ := id h
  cases v with
  | notImplemented => cases z <;> first | (cases r; done) | (obtain ⟨_, r⟩ := r; cases r)
  | _ => exact h
/-- what of a class its operator with an int asks -/
structure OpI (K : PySem.W.Frag) (C : Addr) (op : Operator) : Prop where
  first : PySem.W.selfFirst K C = true
  refl : PySem.W.findIn K (.ref C) (PySem.dunderR op.info.2) = some none
  fo : ∃ z, PySem.W.findIn K (.type "int") (PySem.dunder op.info.2) = some z
  ro : ∃ z, PySem.W.findIn K (.type "int") (PySem.dunderR op.info.2) = some z
  sub : PySem.W.subIn K (.type "int") (.ref C) = some false
theorem pe_ownI {op : Operator} (D : ∀ C, Γ C → MethO X.prog X.w X.K X.mg X.base k C (PySem.dunder op.info.2) ps (sp C) ∧ Cls X.K C ∧ OpI X.K C op) (hr : Room k X.A) (tk : Takes X W) (ho : PE X o to) (he : PE X e te) :
    PE X (.BinOp o op e pos) (tOwn2 Γ (fun y _ => ∃ i : Int, y = .int i) sp W to te) := by
  constructor
  intro pins s σ H Q I h
  refine wpAny_BinOp (binT ho he I h ?_)
  rintro v u s2 x y H2 I2 rx ry ⟨a, C, dx, fs, rfl, ea, hC, ⟨i, rfl⟩, q⟩
  obtain ⟨⟨f, fd, F, hm, hb⟩, c, Z⟩ := D C hC
  cases rx
  obtain ⟨t, rfl⟩ := (show ∃ t, u = Value.int i t from ry)
  obtain ⟨mA, O, _⟩ := ins_get I2.hok ea
  obtain ⟨od, J, _⟩ := O.look
  obtain ⟨m, hF⟩ := I2.fr
  obtain ⟨fo, hfo⟩ := Z.fo
  obtain ⟨ro, hro⟩ := Z.ro
  refine PySem.W.ksp_binT (T := "int") hF I2.ok.mod.kin J rfl Z.first hm.at_ hm.fn Z.refl (.inl rfl) hfo hro Z.sub ?_
  exact thn (run_o (us := [.ref a, .int i t]) (vs := [.ref a, .int i]) F hr hb tk I2 (.cons rfl (.cons ⟨t, rfl⟩ .nil)) q) fun _ _ z => cmp_back z
end
end L3
namespace L3
open PySem PySem.Spec PyProof.Rows L2
/-! ### comprehensions -/
theorem Bx.updN {b D : Addr} {H1 H : Hp} {o : HO} (x : Bx b H1 H) (n : H1 D = none) : Bx b H1 (L2.upd H D o) := ⟨fun a u e h => by
  rw [upd_ne (ne_of_none h n)]
  exact x.keep a u e h, x.was⟩
theorem Ex.updN {D : Addr} {H1 H : Hp} {o : HO} (x : Ex H1 H) (n : H1 D = none) : Ex H1 (L2.upd H D o) := fun a u h => by
  rw [upd_ne (ne_of_none h n)]
  exact x a u h
theorem Box.updN {b D : Addr} {H : Hp} {o : HO} (h : Box b H) (n : D ≠ b) : Box b (L2.upd H D o) := by
  obtain ⟨x, y, z, hb, r⟩ := h
  exact ⟨x, y, z, by rw [upd_ne (Ne.symm n)]; exact hb, r⟩
def lcI (J : It) (g : TG) (tt : TT) (te : TE) (vs : List Nat) (σ : L2.St) (Q : VK) (H1 : Hp) : Prop := ∀ D, H1 D = none → ∃ W : Nat → Nat → Hp → Prop, (∃ m, W 0 m (upd H1 D (.lst []))) ∧ ∀ i m H, W i m H →
  (J.stop i H ∧ Q (.ref D) H) ∨ (J.go i H ∧ ∃ Nx : Hp → Prop, (∀ H', Nx H' → ∃ m', m' < m ∧ W (i + 1) m' H') ∧ ∀ x H', J.yld i H x H' → g x (wipe σ vs) H' fun σ2 H2 => wipe σ2 vs = wipe σ vs ∧ tt σ2 H2 fun b H3 =>
    if b = true then te σ2 H3 fun y H4 => ∃ acc, H4 D = some (.lst acc) ∧ acc.length < sizeLine ∧ Nx (upd H4 D (.lst (acc ++ [y]))) else Nx H3)
theorem i_lc {wi : TI} {g : TG} {tt : TT} {te : TE} {vs : List Nat} {σ : L2.St} {H : Hp} {Q : VK} (q : wi σ H fun J H1 => lcI J g tt te vs σ Q H1) : tLc wi g tt te vs σ H Q := q
theorem i_yes {σ : L2.St} {H : Hp} {QB : Bool → Hp → Prop} (q : QB true H) : tYes σ H QB := q
/-- the new item y is put behind -/
def lcK (D : Addr) (R : Nat → List V → Hp → Prop) (i : Nat) (y : V) (H4 : Hp) : Prop := ∃ acc, H4 D = some (.lst acc) ∧ acc.length < sizeLine ∧ ∃ acc', upd H4 D (.lst (acc ++ [y])) D = some (.lst acc') ∧ R (i + 1) acc' (upd H4 D (.lst (acc ++ [y])))
/-- none is -/
def lcN (D : Addr) (R : Nat → List V → Hp → Prop) (i : Nat) (H3 : Hp) : Prop := ∃ acc, H3 D = some (.lst acc) ∧ R (i + 1) acc H3
theorem lcK_of {D : Addr} {R : Nat → List V → Hp → Prop} {i : Nat} {y : V} {H4 : Hp} {acc : List V} (h : H4 D = some (.lst acc)) (r : R (i + 1) (acc ++ [y]) (upd H4 D (.lst (acc ++ [y])))) (l : acc.length ≤ 100000) : lcK D R i y H4 :=
  ⟨acc, h, Nat.lt_of_le_of_lt l (by decide), _, upd_same, r⟩
theorem lcN_of {D : Addr} {R : Nat → List V → Hp → Prop} {i : Nat} {H4 : Hp} {acc : List V} (h : H4 D = some (.lst acc)) (r : R (i + 1) acc H4) : lcN D R i H4 := ⟨acc, h, r⟩
def lcT (g : TG) (tt : TT) (te : TE) (vs : List Nat) (σ : L2.St) (D : Addr) (R : Nat → List V → Hp → Prop) (i : Nat) (x : V) (H : Hp) : Prop := g x (wipe σ vs) H fun σ2 H2 => wipe σ2 vs = wipe σ vs ∧ tt σ2 H2 fun b H3 =>
  if b = true then te σ2 H3 fun y H4 => lcK D R i y H4 else lcN D R i H3
section
variable {g : TG} {tt : TT} {te : TE} {vs : List Nat} {σ : L2.St} {H1 : Hp} {Q : VK} {K : PySem.W.Frag}
theorem i_lcT {D : Addr} {R : Nat → List V → Hp → Prop} {i : Nat} {x : V} {H : Hp} (q : g x (wipe σ vs) H fun σ2 H2 => wipe σ2 vs = wipe σ vs ∧ tt σ2 H2 fun b H3 =>
  if b = true then te σ2 H3 fun y H4 => lcK D R i y H4 else lcN D R i H3) : lcT g tt te vs σ D R i x H := q
theorem lc_rngA {lo : Int} {n : Nat} (R : Addr → Nat → List V → Hp → Prop)
    (h : ∀ D, H1 D = none → R D 0 [] (upd H1 D (.lst [])) ∧ (∀ i acc H, i < n → H D = some (.lst acc) → R D i acc H → lcT g tt te vs σ D (R D) i (.int (lo + (i : Int))) H) ∧ (∀ acc H, H D = some (.lst acc) → R D n acc H → Q (.ref D) H)) :
    lcI (Itr lo n) g tt te vs σ Q H1 := by
  intro D nD
  obtain ⟨h0, hs, hd⟩ := h D nD
  exact lc_range (fun i H => ∃ acc, H D = some (.lst acc) ∧ R D i acc H) ⟨[], upd_same, h0⟩ (fun i H hi ⟨acc, e, r⟩ => hs i acc H hi e r) fun H ⟨acc, e, r⟩ => hd acc H e r
theorem lc_lstA {a : Addr} {xs : List V} (R : Addr → Nat → List V → Hp → Prop)
    (h : ∀ D, H1 D = none → R D 0 [] (upd H1 D (.lst [])) ∧ (∀ i acc H, R D i acc H → SqL K H a xs) ∧ (∀ i x acc H, xs[i]? = some x → H D = some (.lst acc) → R D i acc H → lcT g tt te vs σ D (R D) i x H) ∧ (∀ acc H, H D = some (.lst acc) → R D xs.length acc H → Q (.ref D) H)) :
    lcI (Itl K a) g tt te vs σ Q H1 := by
  intro D nD
  obtain ⟨h0, hl, hs, hd⟩ := h D nD
  exact lc_list (K := K) (a := a) (xs := xs) (fun i H => ∃ acc, H D = some (.lst acc) ∧ R D i acc H) ⟨[], upd_same, h0⟩ (fun i H _ ⟨acc, e, r⟩ => hl i acc H r) (fun i x H hi ⟨acc, e, r⟩ => hs i x acc H hi e r) fun H ⟨acc, e, r⟩ => hd acc H e r
theorem lc_tupA {a : Addr} {xs : List V} (R : Addr → Nat → List V → Hp → Prop)
    (h : ∀ D, H1 D = none → R D 0 [] (upd H1 D (.lst [])) ∧ (∀ i acc H, R D i acc H → SqT K H a xs) ∧ (∀ i x acc H, xs[i]? = some x → H D = some (.lst acc) → R D i acc H → lcT g tt te vs σ D (R D) i x H) ∧ (∀ acc H, H D = some (.lst acc) → R D xs.length acc H → Q (.ref D) H)) :
    lcI (Itt K a) g tt te vs σ Q H1 := by
  intro D nD
  obtain ⟨h0, hl, hs, hd⟩ := h D nD
  exact lc_tup (K := K) (a := a) (xs := xs) (fun i H => ∃ acc, H D = some (.lst acc) ∧ R D i acc H) ⟨[], upd_same, h0⟩ (fun i H _ ⟨acc, e, r⟩ => hl i acc H r) (fun i x H hi ⟨acc, e, r⟩ => hs i x acc H hi e r) fun H ⟨acc, e, r⟩ => hd acc H e r
end
end L3
namespace L3
open PySem PySem.Spec PyProof.Rows L2
theorem i_itup {K : PySem.W.Frag} {tl : TE} {σ : L2.St} {H : Hp} {R : It → Hp → Prop} (q : tl σ H fun x H1 => ∃ a, x = .ref a ∧ (∃ xs, SqT K H1 a xs) ∧ R (Itt K a) H1) : iTup K tl σ H R := q
theorem i_ilst {K : PySem.W.Frag} {tl : TE} {σ : L2.St} {H : Hp} {R : It → Hp → Prop} (q : tl σ H fun x H1 => ∃ a, x = .ref a ∧ (∃ xs, SqL K H1 a xs) ∧ R (Itl K a) H1) : iList K tl σ H R := q
/-- a turn for each item: Φ what stays of the heap, φ what is known of the j-th new item -/
structure RP (Φ : Hp → Prop) (φ : Nat → V → Hp → Prop) (i : Nat) (acc : List V) (H : Hp) : Prop where
  len : acc.length = i
  all : ∀ j v, acc[j]? = some v → φ j v H
  fr : Φ H
/-- Φ bears the new list -/
def Bears (Φ : Hp → Prop) (H1 : Hp) : Prop := ∀ D H o, H1 D = none → Φ H → Φ (upd H D o)
theorem bears_ex {H0 H1 : Hp} (e : Ex H0 H1) : Bears (Ex H0) H1 := fun D H o n h => h.updN (Ex.back e n)
theorem bears_bx {b : Addr} {H1 : Hp} (hb : Box b H1) : Bears (fun H => Bx b H1 H ∧ Box b H) H1 := fun D H o n h => ⟨h.1.updN n, h.2.updN (box_ne hb n)⟩
theorem lcP_fin {Φ : Hp → Prop} {φ : Nat → V → Hp → Prop} {R : Hp → Hp → Prop} {D : Addr} {i : Nat} {acc : List V} {y : V} {H H1 H4 : Hp} (n : H1 D = none) (hΦ : Bears Φ H1) (r : RP Φ φ i acc H) (e : R H H4) (eD : H4 D = some (.lst acc)) (f : Φ H4) (hy : φ i y H4) (l : acc.length ≤ 100000)
    (m1 : ∀ j v, φ j v H → φ j v H4) (m2 : ∀ j v, φ j v H4 → φ j v (upd H4 D (.lst (acc ++ [y])))) : lcK D (RP Φ φ) i y H4 := by
  refine lcK_of eD ⟨?_, fun j v h => ?_, hΦ D H4 _ n f⟩ l
  · rw [List.length_append, r.len]
    rfl
  · refine m2 j v ?_
    by_cases hj : j < acc.length
    · rw [List.getElem?_append_left hj] at h
      exact m1 j v (r.all j v h)
    · rw [List.getElem?_append_right (by omega)] at h
      have e0 : j - acc.length = 0 := by
        by_cases z : j - acc.length = 0
        · exact z
        · rw [List.getElem?_eq_none (by simp; omega)] at h
          cases h
      rw [e0] at h
      have e2 : y = v := by simpa using h
      subst e2
      have e3 : j = i := by rw [← r.len]; omega
      subst e3
      exact hy
section
variable {g : TG} {tt : TT} {te : TE} {vs : List Nat} {σ : L2.St} {H1 : Hp} {Q : VK} {K : PySem.W.Frag} {Φ : Hp → Prop} {φ : Nat → V → Hp → Prop}
theorem rp0 {D : Addr} (h0 : Φ H1) (hΦ : Bears Φ H1) (n : H1 D = none) : RP Φ φ 0 [] (upd H1 D (.lst [])) := ⟨rfl, fun j v h => by simp at h, hΦ D H1 _ n h0⟩
theorem lc_rngP {lo : Int} {n : Nat} (h0 : Φ H1) (hΦ : Bears Φ H1)
    (step : ∀ D i acc H, H1 D = none → i < n → H D = some (.lst acc) → RP Φ φ i acc H → lcT g tt te vs σ D (RP Φ φ) i (.int (lo + (i : Int))) H)
    (done : ∀ D acc H, H1 D = none → H D = some (.lst acc) → RP Φ φ n acc H → Q (.ref D) H) : lcI (Itr lo n) g tt te vs σ Q H1 :=
  lc_rngA (fun _ => RP Φ φ) fun D nD => ⟨rp0 h0 hΦ nD, fun i acc H hi e r => step D i acc H nD hi e r, fun acc H e r => done D acc H nD e r⟩
theorem lc_lstP {a : Addr} {xs : List V} (h0 : Φ H1) (hΦ : Bears Φ H1) (src : ∀ H, Φ H → SqL K H a xs)
    (step : ∀ D i x acc H, H1 D = none → xs[i]? = some x → H D = some (.lst acc) → RP Φ φ i acc H → lcT g tt te vs σ D (RP Φ φ) i x H)
    (done : ∀ D acc H, H1 D = none → H D = some (.lst acc) → RP Φ φ xs.length acc H → Q (.ref D) H) : lcI (Itl K a) g tt te vs σ Q H1 :=
  lc_lstA (fun _ => RP Φ φ) fun D nD => ⟨rp0 h0 hΦ nD, fun i acc H r => src H r.fr, fun i x acc H hi e r => step D i x acc H nD hi e r, fun acc H e r => done D acc H nD e r⟩
theorem lc_tupP {a : Addr} {xs : List V} (h0 : Φ H1) (hΦ : Bears Φ H1) (src : ∀ H, Φ H → SqT K H a xs)
    (step : ∀ D i x acc H, H1 D = none → xs[i]? = some x → H D = some (.lst acc) → RP Φ φ i acc H → lcT g tt te vs σ D (RP Φ φ) i x H)
    (done : ∀ D acc H, H1 D = none → H D = some (.lst acc) → RP Φ φ xs.length acc H → Q (.ref D) H) : lcI (Itt K a) g tt te vs σ Q H1 :=
  lc_tupA (fun _ => RP Φ φ) fun D nD => ⟨rp0 h0 hΦ nD, fun i acc H r => src H r.fr, fun i x acc H hi e r => step D i x acc H nD hi e r, fun acc H e r => done D acc H nD e r⟩
/-- the items known beforehand -/
def isY (ys : List V) : Nat → V → Hp → Prop := fun j v _ => ys[j]? = some v
theorem RP.eq {ys acc : List V} {n : Nat} {H : Hp} (r : RP Φ (isY ys) n acc H) (h : ys.length = n) : acc = ys := by
  apply List.ext_getElem?
  intro j
  by_cases hj : j < acc.length
  · have := r.all j acc[j] (by simp [hj])
    rw [this]
    simp [hj]
  · rw [List.getElem?_eq_none (by omega), List.getElem?_eq_none (by have := r.len; omega)]
end
end L3
namespace L3
open PySem PySem.Spec PyProof.Rows L2
theorem i_gc {t : TG} {u : TGs} {v : V} {r : List V} {σ : L2.St} {H : Hp} {Q : L2.St → Hp → Prop} (q : t v σ H fun σ' H' => u r σ' H' Q) : gCons t u (v :: r) σ H Q := ⟨v, r, rfl, q⟩
theorem i_gn {σ : L2.St} {H : Hp} {Q : L2.St → Hp → Prop} (q : Q σ H) : gNil [] σ H Q := ⟨rfl, q⟩
theorem i_gv {i : Nat} {v : V} {σ : L2.St} {H : Hp} {Q : L2.St → Hp → Prop} (q : Q (σ.set i (some v)) H) : gName i v σ H Q := q
theorem i_asgG {te : TE} {g : TG} {D : Ends} {σ : L2.St} {H : Hp} (q : te σ H fun x H1 => g x σ H1 D.nx) : tAsg te g D σ H := q
theorem i_glst {K : PySem.W.Frag} {n : Nat} {t : TGs} {p : Addr} {xs : List V} {σ : L2.St} {H : Hp} {Q : L2.St → Hp → Prop} (h : SqL K H p xs) (q : t xs σ H Q) (l : xs.length = n := by rfl) : gLst K n t (.ref p) σ H Q := ⟨p, xs, rfl, h, l, q⟩
theorem i_gtup {K : PySem.W.Frag} {n : Nat} {t : TGs} {p : Addr} {xs : List V} {σ : L2.St} {H : Hp} {Q : L2.St → Hp → Prop} (h : SqT K H p xs) (q : t xs σ H Q) (l : xs.length = n := by rfl) : gTup K n t (.ref p) σ H Q := ⟨p, xs, rfl, h, l, q⟩
end L3
namespace L3
open PySem PySem.Spec PyProof.Rows L2
theorem i_gsub {to ti : TE} {t : TSet} {v : V} {σ : L2.St} {H : Hp} {Q : L2.St → Hp → Prop} (q : to σ H fun o H1 => ti σ H1 fun i H2 => t o i v H2 fun H3 => Q σ H3) : gSub to ti t v σ H Q := q
end L3

/-! L3p: what the pairings' defs promise. -/
namespace L3
open PySem PySem.Spec PyProof.Rows L2
/-- all but what stands at a stays -/
def Ux (a : Addr) (H H' : Hp) : Prop := ∀ c o, c ≠ a → H c = some o → H' c = some o
theorem Ux.of {a : Addr} {H H' : Hp} (e : Ex H H') : Ux a H H' := fun c o _ h => e c o h
theorem Ux.upd {a : Addr} {H H' : Hp} {o : HO} (e : Ux a H H') : Ux a H (L2.upd H' a o) := fun c u n h => by
  rw [upd_ne n]
  exact e c u n h
theorem Ux.trans {a : Addr} {H H' H2 : Hp} (e : Ux a H H') (f : Ux a H' H2) : Ux a H H2 := fun c o n h => f c o n (e c o n h)
/-- the classes of pairings -/
def isPa (K : PySem.W.Frag) (C : Addr) : Prop := C = He.ga K "Slide" ∨ C = He.ga K "Turn"
/-- the name of the number -/
def fldP (K : PySem.W.Frag) (C : Addr) : Str := if C = He.ga K "Slide" then "by" else "total"
/-- the least place of the image -/
def imP (K : PySem.W.Frag) (C : Addr) (s n b : Int) : Int := if C = He.ga K "Slide" then s + b else b - s - n + 1
/-- the inverse's number -/
def nbP (K : PySem.W.Frag) (C : Addr) (b : Int) : Int := if C = He.ga K "Slide" then -b else b
/-- the image's class -/
def icP (K : PySem.W.Frag) (C : Addr) : Addr := if C = He.ga K "Slide" then He.ga K "Stretch" else He.ga K "Backward"
structure NeP (K : PySem.W.Frag) : Prop where
  ne : He.ga K "Turn" ≠ He.ga K "Slide"
section
variable {K : PySem.W.Frag} {s n b : Int}
theorem fldS : fldP K (He.ga K "Slide") = "by" := if_pos rfl
theorem imS : imP K (He.ga K "Slide") s n b = s + b := if_pos rfl
theorem nbS : nbP K (He.ga K "Slide") b = -b := if_pos rfl
theorem icS : icP K (He.ga K "Slide") = He.ga K "Stretch" := if_pos rfl
theorem fldT (z : NeP K) : fldP K (He.ga K "Turn") = "total" := if_neg z.ne
theorem imT (z : NeP K) : imP K (He.ga K "Turn") s n b = b - s - n + 1 := if_neg z.ne
theorem nbT (z : NeP K) : nbP K (He.ga K "Turn") b = b := if_neg z.ne
theorem icT (z : NeP K) : icP K (He.ga K "Turn") = He.ga K "Backward" := if_neg z.ne
end
/-- a pairing of class C -/
structure PrH (K : PySem.W.Frag) (C x : Addr) (s n b : Int) (H : Hp) : Prop where
  at_ : ∃ dx, H x = some (.ins C dx [("start", .int s), ("size", .int n), (fldP K C, .int b)])
  cl : isPa K C
  s0 : 0 ≤ s
  n1 : 1 ≤ n
  im : 0 ≤ imP K C s n b
instance {K : PySem.W.Frag} {C x : Addr} {s n b : Int} : Mono Ex (PrH K C x s n b) := ⟨fun e h => ⟨h.at_.imp fun dx q => e _ _ q, h.cl, h.s0, h.n1, h.im⟩⟩
instance {b' : Addr} {K : PySem.W.Frag} {C x : Addr} {s n b : Int} : Mono (Bx b') (PrH K C x s n b) := ⟨fun e h => ⟨h.at_.imp fun dx q => e.other q (fun l z => by cases z), h.cl, h.s0, h.n1, h.im⟩⟩
/-- the inverse has its least places the other way round -/
theorem im_inv {K : PySem.W.Frag} {C : Addr} {s n b : Int} : imP K C (imP K C s n b) n (nbP K C b) = s := by
  unfold imP nbP
  by_cases h : C = He.ga K "Slide"
  · rw [if_pos h, if_pos h, if_pos h]
    omega
  · rw [if_neg h, if_neg h, if_neg h]
    omega
theorem nb_inv {K : PySem.W.Frag} {C : Addr} {b : Int} : nbP K C (nbP K C b) = b := by
  unfold nbP
  by_cases h : C = He.ga K "Slide"
  · rw [if_pos h, if_pos h]
    omega
  · rw [if_neg h, if_neg h]
/-- start, size, number may be those of a pairing, but for its image -/
def goodN : PyData → PyData → PyData → Bool
  | .int s, .int n, .int _ => decide (0 ≤ s) && decide (1 ≤ n)
  | _, _, _ => false
theorem goodN_of {a b c : PyData} (h : goodN a b c = true) : ∃ s n t : Int, a = .int s ∧ b = .int n ∧ c = .int t ∧ 0 ≤ s ∧ 1 ≤ n := by
  unfold goodN at h
  split at h
  · rename_i s n t
    obtain ⟨h1, h2⟩ := Bool.and_eq_true_iff.mp h
    exact ⟨s, n, t, rfl, rfl, rfl, of_decide_eq_true h1, of_decide_eq_true h2⟩
  · cases h
theorem goodN_off {a b c : PyData} (h : (isInt a && (isInt b && (isInt c && true))) = false) : goodN a b c = false := by
  unfold goodN
  split
  · cases h
  · rfl
def spChkN (K : PySem.W.Frag) : Sp := fun vs H Q E => ∃ v1 v2 v3 d1 d2 d3, vs = [v1, v2, v3] ∧ Dt H v1 d1 ∧ Dt H v2 d2 ∧ Dt H v3 d3 ∧ (goodN d1 d2 d3 = true → ∀ H', Ex H H' → Q .non H') ∧ (goodN d1 d2 d3 = false → Raised2 (He.ga K "InvalidPairing") "start" "size" v1 v2 H E)
theorem len_chkN {K : PySem.W.Frag} : ∀ (vs : List V) H Q E, spChkN K vs H Q E → vs.length = 3 := by
  rintro vs H Q E ⟨v1, v2, v3, d1, d2, d3, rfl, _⟩
  rfl
def spChkI (K : PySem.W.Frag) : Sp := fun vs H Q E => ∃ v1 v2 l, vs = [v1, v2, .int l] ∧ (0 ≤ l → Q .non H) ∧ (l < 0 → Raised2 (He.ga K "InvalidPairing") "start" "size" v1 v2 H E)
theorem len_chkI {K : PySem.W.Frag} : ∀ (vs : List V) H Q E, spChkI K vs H Q E → vs.length = 3 := by
  rintro vs H Q E ⟨v1, v2, l, rfl, _⟩
  rfl
def spLeast : Sp := fun vs H Q _ => ∃ s n t : Int, vs = [.int s, .int n, .int t] ∧ Q (.int (t - s - n + 1)) H
theorem len_least : ∀ (vs : List V) H Q E, spLeast vs H Q E → vs.length = 3 := by
  rintro vs H Q E ⟨s, n, t, rfl, _⟩
  rfl
/-- Pairing.__init__ -/
def spPair (K : PySem.W.Frag) : Sp := fun vs H Q _ => ∃ a C dx v1 v2, vs = [.ref a, v1, v2] ∧ isPa K C ∧ H a = some (.ins C dx []) ∧ Q .non (upd (upd H a (.ins C dx [("start", v1)])) a (.ins C dx [("start", v1), ("size", v2)]))
theorem len_pair {K : PySem.W.Frag} : ∀ (vs : List V) H Q E, spPair K vs H Q E → vs.length = 3 := by
  rintro vs H Q E ⟨a, C, dx, v1, v2, rfl, _⟩
  rfl
def goodP (K : PySem.W.Frag) (C : Addr) : PyData → PyData → PyData → Bool
  | .int s, .int n, .int b => decide (0 ≤ s) && (decide (1 ≤ n) && decide (0 ≤ imP K C s n b))
  | _, _, _ => false
theorem goodP_of {K : PySem.W.Frag} {C : Addr} {x y z : PyData} (h : goodP K C x y z = true) : ∃ s n b : Int, x = .int s ∧ y = .int n ∧ z = .int b ∧ 0 ≤ s ∧ 1 ≤ n ∧ 0 ≤ imP K C s n b := by
  unfold goodP at h
  split at h
  · rename_i s n b
    obtain ⟨h1, h2⟩ := Bool.and_eq_true_iff.mp h
    obtain ⟨h2, h3⟩ := Bool.and_eq_true_iff.mp h2
    exact ⟨s, n, b, rfl, rfl, rfl, of_decide_eq_true h1, of_decide_eq_true h2, of_decide_eq_true h3⟩
  · cases h
theorem goodP_in {K : PySem.W.Frag} {C : Addr} {s n b : Int} (h0 : 0 ≤ s) (h1 : 1 ≤ n) (h2 : 0 ≤ imP K C s n b) : goodP K C (.int s) (.int n) (.int b) = true := by
  show (decide (0 ≤ s) && (decide (1 ≤ n) && decide (0 ≤ imP K C s n b))) = true
  rw [decide_eq_true h0, decide_eq_true h1, decide_eq_true h2]
  rfl
theorem goodP_off {K : PySem.W.Frag} {C : Addr} {x y z : PyData} (h : goodN x y z = false) : goodP K C x y z = false := by
  unfold goodP
  split
  · rename_i s n b
    have h' : (decide (0 ≤ s) && decide (1 ≤ n)) = false := h
    cases q : decide (0 ≤ s) with
    | false => rfl
    | true =>
      rw [q] at h'
      have h2 : decide (1 ≤ n) = false := h'
      rw [h2]
      rfl
  · rfl
theorem goodP_im {K : PySem.W.Frag} {C : Addr} {s n b : Int} (h : imP K C s n b < 0) : goodP K C (.int s) (.int n) (.int b) = false := by
  show (decide (0 ≤ s) && (decide (1 ≤ n) && decide (0 ≤ imP K C s n b))) = false
  rw [decide_eq_false (by omega : ¬ 0 ≤ imP K C s n b), Bool.and_false, Bool.and_false]
/-- __init__ of a pairing of class C -/
def spInitP (K : PySem.W.Frag) (C : Addr) : Sp := fun vs H Q E => ∃ a dx v1 v2 v3 d1 d2 d3, vs = [.ref a, v1, v2, v3] ∧ H a = some (.ins C dx []) ∧ Dt H v1 d1 ∧ Dt H v2 d2 ∧ Dt H v3 d3 ∧
  (goodP K C d1 d2 d3 = true → ∀ H', Ux a H H' → H' a = some (.ins C dx [("start", v1), ("size", v2), (fldP K C, v3)]) → Q .non H') ∧
  (goodP K C d1 d2 d3 = false → Raised2 (He.ga K "InvalidPairing") "start" "size" v1 v2 H E)
theorem len_initP {K : PySem.W.Frag} {C : Addr} : ∀ (vs : List V) H Q E, spInitP K C vs H Q E → vs.length = 4 := by
  rintro vs H Q E ⟨a, dx, v1, v2, v3, d1, d2, d3, rfl, _⟩
  rfl
/-- a pairing is made, or refused -/
theorem ap_makeP {K : PySem.W.Frag} {C : Addr} {v1 v2 v3 : V} {d1 d2 d3 : PyData} {H : Hp} {Q : VK} {E : XK} (hC : isPa K C) (h1 : Dt H v1 d1) (h2 : Dt H v2 d2) (h3 : Dt H v3 d3)
    (good : ∀ s n b : Int, v1 = .int s → v2 = .int n → v3 = .int b → d1 = .int s → d2 = .int n → d3 = .int b → ∀ x H', Ex H H' → H x = none → PrH K C x s n b H' → Q (.ref x) H')
    (bad : goodP K C d1 d2 d3 = false → ∀ d H', Ex H H' → H d = none → H' d = some (.xd [("size", v2), ("start", v1)]) → E (.ref (He.ga K "InvalidPairing")) (some d) H') :
    makI C (spInitP K C) Q E [v1, v2, v3] H := by
  intro x dx nx nd dn
  have e1 : Ex H (upd (upd H dx (.own x)) x (.ins C dx [])) := fun b o e => by
    rw [upd_ne (ne_of_none e nx), upd_ne (ne_of_none e nd)]
    exact e
  refine ⟨x, dx, v1, v2, v3, d1, d2, d3, rfl, upd_same, up (φ := Da v1 d1) e1 h1, up (φ := Da v2 d2) e1 h2, up (φ := Da v3 d3) e1 h3, fun g H' u hx => ⟨rfl, ?_⟩, fun g => ?_⟩
  · obtain ⟨s, n, b, rfl, rfl, rfl, hs, hn, hi⟩ := goodP_of g
    have q1 := h1.int_of
    have q2 := h2.int_of
    have q3 := h3.int_of
    subst q1 q2 q3
    refine good s n b rfl rfl rfl rfl rfl rfl x _ (fun c o e => ?_) nx ⟨⟨dx, hx⟩, hC, hs, hn, hi⟩
    exact u c o (ne_of_none e nx) (e1 c o e)
  · intro d H' nd' e2 hd
    exact bad g d H' (e1.trans e2) (Ex.back e1 nd') hd
theorem ap_makePG {K : PySem.W.Frag} {C : Addr} {s n b : Int} {H : Hp} {Q : VK} {E : XK} (hC : isPa K C) (hs : 0 ≤ s) (hn : 1 ≤ n) (hi : 0 ≤ imP K C s n b) (good : ∀ x H', Ex H H' → H x = none → PrH K C x s n b H' → Q (.ref x) H') :
    makI C (spInitP K C) Q E [.int s, .int n, .int b] H :=
  ap_makeP hC (.int s) (.int n) (.int b) (fun s' n' b' e1 e2 e3 _ _ _ x H' e h q => by
    cases e1
    cases e2
    cases e3
    exact good x H' e h q) fun g => by
    rw [goodP_in hs hn hi] at g
    cases g
/-- the properties of a pairing, its inverse -/
def spDom (K : PySem.W.Frag) (C : Addr) : Sp := fun vs H Q _ => ∃ x s n b, vs = [.ref x] ∧ PrH K C x s n b H ∧ ∀ y H', Ex H H' → H y = none → StH (He.ga K "Stretch") y s n H' → Q (.ref y) H'
def spImg (K : PySem.W.Frag) (C : Addr) : Sp := fun vs H Q _ => ∃ x s n b, vs = [.ref x] ∧ PrH K C x s n b H ∧ ∀ y H', Ex H H' → H y = none → StH (icP K C) y (imP K C s n b) n H' → Q (.ref y) H'
def spInv (K : PySem.W.Frag) (C : Addr) : Sp := fun vs H Q _ => ∃ x s n b, vs = [.ref x] ∧ PrH K C x s n b H ∧ ∀ y H', Ex H H' → H y = none → PrH K C y (imP K C s n b) n (nbP K C b) H' → Q (.ref y) H'
def spUp (K : PySem.W.Frag) (C : Addr) : Sp := fun vs H Q _ => ∃ x s n b, vs = [.ref x] ∧ PrH K C x s n b H ∧ (s ≤ imP K C s n b → Q (.ref x) H) ∧ (imP K C s n b < s → ∀ y H', Ex H H' → H y = none → PrH K C y (imP K C s n b) n (nbP K C b) H' → Q (.ref y) H')
theorem len_dom {K : PySem.W.Frag} {C : Addr} : ∀ (vs : List V) H Q E, spDom K C vs H Q E → vs.length = 1 := by
  rintro vs H Q E ⟨x, s, n, b, rfl, _⟩
  rfl
theorem len_img {K : PySem.W.Frag} {C : Addr} : ∀ (vs : List V) H Q E, spImg K C vs H Q E → vs.length = 1 := by
  rintro vs H Q E ⟨x, s, n, b, rfl, _⟩
  rfl
theorem len_inv {K : PySem.W.Frag} {C : Addr} : ∀ (vs : List V) H Q E, spInv K C vs H Q E → vs.length = 1 := by
  rintro vs H Q E ⟨x, s, n, b, rfl, _⟩
  rfl
theorem len_up {K : PySem.W.Frag} {C : Addr} : ∀ (vs : List V) H Q E, spUp K C vs H Q E → vs.length = 1 := by
  rintro vs H Q E ⟨x, s, n, b, rfl, _⟩
  rfl
end L3
local macro_rules | `(tactic| walk_at "he") => `(tactic| first | assumption | exact L2.upd_same | exact L2.SqL.of (by assumption) | exact L2.SqL.of L2.upd_same | exact L2.SqT.of (by assumption))
local macro_rules | `(tactic| walk_at "sd") => `(tactic| first | ((try dsimp only); omega) | exact L3.mulR (by omega) (by omega) | exact L3.mulL (by omega) (by omega) | exact L3.divW (by omega) (by omega) | exact ⟨by decide, by decide, by omega⟩)
local macro_rules | `(tactic| walk_at "go1") => `(tactic| first
  | (with_reducible refine L3.i_op ?_)
  | ((with_reducible refine' L3.i_var ?hv ?_); (case hv => rfl))
  | (with_reducible refine L3.i_c ?_)
  | (with_reducible refine L3.i_I0 ?_)
  | ((with_reducible refine' L3.i_ixL ?h1 ?h2 ?_); (case h1 => walk_at "he"); (case h2 => rfl))
  | (with_reducible refine L3.i_asg ?_) | (with_reducible refine L3.i_nx ?_) | (with_reducible refine L3.i_seq ?_)
  | (with_reducible refine L3.i_cons ?_) | (with_reducible refine L3.i_nil ?_)
  | ((with_reducible refine L3.i_I ?c ?_); (case c => walk_at "sd"))
  | (with_reducible refine L3.i_bl ?_) | (with_reducible refine L3.i_test ?_) | (with_reducible refine L3.i_ifS ?_)
  | (with_reducible refine L3.i_ret ?_) | (with_reducible refine L3.i_rt ?_) | (with_reducible refine L3.i_cb ?_)
  | ((with_reducible refine' L3.i_ixT ?h1 ?h2 ?_); (case h1 => walk_at "he"); (case h2 => rfl))
  | (with_reducible refine L3.j_tup ?_) | (with_reducible refine L3.j_lst ?_)
  | (with_reducible refine L3.i_and ?_) | (with_reducible refine L3.i_or ?_) | (with_reducible refine L3.i_not ?_) | (with_reducible refine L3.i_andV ?_) | (with_reducible refine L3.i_orV ?_) | (with_reducible refine L3.i_notV ?_)
  | (with_reducible refine L3.i_if ?_) | (with_reducible refine L3.i_true ?_) | (with_reducible refine L3.i_false ?_)
  | (with_reducible refine L3.i_next ?_) | (with_reducible refine L3.i_par ?_) | (with_reducible refine L3.i_par2 ?_) | (with_reducible refine L3.i_drop ?_)
  | (with_reducible refine L3.i_nfalse ?_) | (with_reducible refine L3.i_ntrue ?_) | ((with_reducible refine' L3.i_eq ?s ?_); (case s => rfl)) | ((with_reducible refine' L3.i_ne ?s ?_); (case s => rfl))
  | (with_reducible refine L3.i_cal ?_) | (with_reducible refine L3.i_mak ?_) | (with_reducible refine L3.i_proF ?_) | (with_reducible refine L3.i_err ?_) | (with_reducible refine L3.i_for ?_) | (with_reducible refine L3.i_rng1 ?_) | (with_reducible refine L3.i_rng2 ?_)
  | (with_reducible refine L3.i_makK ?_) | (with_reducible refine L3.i_sfld ?_) | (with_reducible refine L3.i_xf ?_) | (with_reducible refine L3.i_mthF ?_) | (with_reducible refine L3.i_lc ?_) | (with_reducible refine L3.i_yes ?_) | (with_reducible refine L3.i_gc ?_) | (with_reducible refine L3.i_gsub ?_) | (with_reducible refine L3.i_gn ?_) | (with_reducible refine L3.i_gv ?_) | (with_reducible refine L3.i_asgG ?_) | (with_reducible refine L3.i_itup ?_) | (with_reducible refine L3.i_ilst ?_) | (with_reducible refine L3.i_lcT ?_) | (with_reducible refine L3.i_own1 ?_) | (with_reducible refine L3.i_own2 ?_)
  | (with_reducible refine L3.i_fldE ?_) | (with_reducible refine L3.i_B ?_) | (with_reducible refine L3.i_chain ?_)
  | (with_reducible refine L3.i_un ?_) | (with_reducible refine L3.i_U ?_) | (with_reducible refine L3.i_sub ?_)
  | ((with_reducible refine' L3.i_setL ?h1 ?h2 ?_); (case h1 => walk_at "he"); (case h2 => rfl)))
local macro_rules | `(tactic| walk_at "go") => `(tactic| repeat walk_at "go1")

namespace Law
open PySem PySem.Spec PyProof.Rows L2 L3
def top (i : Nat) : Stmt := PySem.Challenge.pw_twintext_k12_pairings_made_or_refused.main.body.getD i (.Pass ⟨0, 0, 0, 0⟩)
structure Tx (P : Program) (K : PySem.W.Frag) (mg : Str → Option Value) : Prop where
  j_Backward_last : PySem.W.findIn K (.ref (He.ga K "Backward")) "last" = some (some (.ref (He.ma K (He.ga K "Stretch") "last")))
  f_is_integer : ∃ fd, FunD K "is_integer" "is_integer" (defArgs (top 9)) (defBody (top 9)) (defScope (top 9)) [] [] (He.ga K "is_integer") fd
  g_is_integer : mg "is_integer" = some (.ref (He.ga K "is_integer"))
  z_int : mg "int" = none
  z_isinstance : mg "isinstance" = none
  z_bool : mg "bool" = none
  n_InvalidStretch_start : PySem.W.findIn K (.ref (He.ga K "InvalidStretch")) "start" = some none
  n_InvalidStretch_size : PySem.W.findIn K (.ref (He.ga K "InvalidStretch")) "size" = some none
  f_InvalidStretchD_initD : ∃ fd, FunD K "__init__" "InvalidStretch.__init__" (defArgs (inClass (top 3) 0)) (defBody (inClass (top 3) 0)) (defScope (inClass (top 3) 0)) [] [] (He.ma K (He.ga K "InvalidStretch") "__init__") fd
  o_InvalidStretch : OexC K (He.ga K "InvalidStretch") ∧ PySem.W.findIn K (.ref (He.ga K "InvalidStretch")) "__init__" = some (some (.ref (He.ma K (He.ga K "InvalidStretch") "__init__"))) ∧ PySem.W.typeIn K (.ref (He.ma K (He.ga K "InvalidStretch") "__init__")) = some (.type "function")
  g_InvalidStretch : mg "InvalidStretch" = some (.ref (He.ga K "InvalidStretch"))
  b_TwinError : BaseInit K mg "TwinError" (He.ga K "TwinError") (.type "type")
  c_Stretch : Cls K (He.ga K "Stretch")
  c_Backward : Cls K (He.ga K "Backward")
  a_Stretch_start : NoAttr K (He.ga K "Stretch") "start"
  a_Stretch_size : NoAttr K (He.ga K "Stretch") "size"
  i_Stretch : InsF K (He.ga K "Stretch")
  a_Backward_start : NoAttr K (He.ga K "Backward") "start"
  a_Backward_size : NoAttr K (He.ga K "Backward") "size"
  i_Backward : InsF K (He.ga K "Backward")
  f_StretchD_initD : ∃ fd, FunD K "__init__" "Stretch.__init__" (defArgs (inClass (top 15) 0)) (defBody (inClass (top 15) 0)) (defScope (inClass (top 15) 0)) [] [] (He.ma K (He.ga K "Stretch") "__init__") fd
  k_Stretch : Mk K (He.ga K "Stretch") (He.ma K (He.ga K "Stretch") "__init__")
  g_Stretch : mg "Stretch" = some (.ref (He.ga K "Stretch"))
  f_Stretch_last : ∃ fd, FunD K "last" "Stretch.last" (defArgs (inClass (top 15) 1)) (defBody (inClass (top 15) 1)) (defScope (inClass (top 15) 1)) [] [] (gAdr K (He.ga K "Stretch") "last") fd
  p_Stretch_last : PropOf K (He.ga K "Stretch") "last" (He.ma K (He.ga K "Stretch") "last") (gAdr K (He.ga K "Stretch") "last")
  f_BackwardD_initD : ∃ cc fd, FunS P K "__init__" "Backward.__init__" (defArgs (inClass (top 16) 0)) (defBody (inClass (top 16) 0)) (defScope (inClass (top 16) 0)) cc (He.ga K "Backward") (He.ma K (He.ga K "Backward") "__init__") fd
  k_Backward : Mk K (He.ga K "Backward") (He.ma K (He.ga K "Backward") "__init__")
  g_Backward : mg "Backward" = some (.ref (He.ga K "Backward"))
  u_Backward_Stretch : SupInit K mg (He.ga K "Backward") (He.ga K "Backward") (He.ma K (He.ga K "Stretch") "__init__")
  n_InvalidPairing_start : PySem.W.findIn K (.ref (He.ga K "InvalidPairing")) "start" = some none
  n_InvalidPairing_size : PySem.W.findIn K (.ref (He.ga K "InvalidPairing")) "size" = some none
  f_InvalidPairingD_initD : ∃ fd, FunD K "__init__" "InvalidPairing.__init__" (defArgs (inClass (top 4) 0)) (defBody (inClass (top 4) 0)) (defScope (inClass (top 4) 0)) [] [] (He.ma K (He.ga K "InvalidPairing") "__init__") fd
  o_InvalidPairing : OexC K (He.ga K "InvalidPairing") ∧ PySem.W.findIn K (.ref (He.ga K "InvalidPairing")) "__init__" = some (some (.ref (He.ma K (He.ga K "InvalidPairing") "__init__"))) ∧ PySem.W.typeIn K (.ref (He.ma K (He.ga K "InvalidPairing") "__init__")) = some (.type "function")
  g_InvalidPairing : mg "InvalidPairing" = some (.ref (He.ga K "InvalidPairing"))
  f_check_numbers : ∃ fd, FunD K "check_numbers" "check_numbers" (defArgs (top 18)) (defBody (top 18)) (defScope (top 18)) [] [] (He.ga K "check_numbers") fd
  g_check_numbers : mg "check_numbers" = some (.ref (He.ga K "check_numbers"))
  z_all : mg "all" = none
  f_check_image : ∃ fd, FunD K "check_image" "check_image" (defArgs (top 19)) (defBody (top 19)) (defScope (top 19)) [] [] (He.ga K "check_image") fd
  g_check_image : mg "check_image" = some (.ref (He.ga K "check_image"))
  f_least_turned : ∃ fd, FunD K "least_turned" "least_turned" (defArgs (top 21)) (defBody (top 21)) (defScope (top 21)) [] [] (He.ga K "least_turned") fd
  g_least_turned : mg "least_turned" = some (.ref (He.ga K "least_turned"))
  a_Slide_start : NoAttr K (He.ga K "Slide") "start"
  a_Slide_size : NoAttr K (He.ga K "Slide") "size"
  a_Slide_by : NoAttr K (He.ga K "Slide") "by"
  a_Slide_total : NoAttr K (He.ga K "Slide") "total"
  c_Slide : Cls K (He.ga K "Slide")
  i_Slide : InsF K (He.ga K "Slide")
  a_Turn_start : NoAttr K (He.ga K "Turn") "start"
  a_Turn_size : NoAttr K (He.ga K "Turn") "size"
  a_Turn_by : NoAttr K (He.ga K "Turn") "by"
  a_Turn_total : NoAttr K (He.ga K "Turn") "total"
  c_Turn : Cls K (He.ga K "Turn")
  i_Turn : InsF K (He.ga K "Turn")
  ne_Turn_Slide : He.ga K "Turn" ≠ He.ga K "Slide"
  f_PairingD_initD : ∃ fd, FunD K "__init__" "Pairing.__init__" (defArgs (inClass (top 22) 0)) (defBody (inClass (top 22) 0)) (defScope (inClass (top 22) 0)) [] [] (He.ma K (He.ga K "Pairing") "__init__") fd
  k_Pairing : Mk K (He.ga K "Pairing") (He.ma K (He.ga K "Pairing") "__init__")
  g_Pairing : mg "Pairing" = some (.ref (He.ga K "Pairing"))
  f_SlideD_initD : ∃ cc fd, FunS P K "__init__" "Slide.__init__" (defArgs (inClass (top 25) 0)) (defBody (inClass (top 25) 0)) (defScope (inClass (top 25) 0)) cc (He.ga K "Slide") (He.ma K (He.ga K "Slide") "__init__") fd
  k_Slide : Mk K (He.ga K "Slide") (He.ma K (He.ga K "Slide") "__init__")
  g_Slide : mg "Slide" = some (.ref (He.ga K "Slide"))
  u_Slide_Pairing : SupInit K mg (He.ga K "Slide") (He.ga K "Slide") (He.ma K (He.ga K "Pairing") "__init__")
  f_TurnD_initD : ∃ cc fd, FunS P K "__init__" "Turn.__init__" (defArgs (inClass (top 26) 0)) (defBody (inClass (top 26) 0)) (defScope (inClass (top 26) 0)) cc (He.ga K "Turn") (He.ma K (He.ga K "Turn") "__init__") fd
  k_Turn : Mk K (He.ga K "Turn") (He.ma K (He.ga K "Turn") "__init__")
  g_Turn : mg "Turn" = some (.ref (He.ga K "Turn"))
  u_Turn_Pairing : SupInit K mg (He.ga K "Turn") (He.ga K "Turn") (He.ma K (He.ga K "Pairing") "__init__")
  f_Slide_domain : ∃ fd, FunD K "domain" "Slide.domain" (defArgs (inClass (top 25) 1)) (defBody (inClass (top 25) 1)) (defScope (inClass (top 25) 1)) [] [] (gAdr K (He.ga K "Slide") "domain") fd
  p_Slide_domain : PropOf K (He.ga K "Slide") "domain" (He.ma K (He.ga K "Slide") "domain") (gAdr K (He.ga K "Slide") "domain")
  a_Slide_domain : PropOf K (He.ga K "Slide") "domain" (He.ma K (He.ga K "Slide") "domain") (gAdr K (He.ga K "Slide") "domain")
  f_Slide_image : ∃ fd, FunD K "image" "Slide.image" (defArgs (inClass (top 25) 2)) (defBody (inClass (top 25) 2)) (defScope (inClass (top 25) 2)) [] [] (gAdr K (He.ga K "Slide") "image") fd
  p_Slide_image : PropOf K (He.ga K "Slide") "image" (He.ma K (He.ga K "Slide") "image") (gAdr K (He.ga K "Slide") "image")
  f_SlideD_invertD : ∃ fd, FunD K "__invert__" "Slide.__invert__" (defArgs (inClass (top 25) 8)) (defBody (inClass (top 25) 8)) (defScope (inClass (top 25) 8)) [] [] (He.ma K (He.ga K "Slide") "__invert__") fd
  m_SlideD_invertD : Meth K (He.ga K "Slide") "__invert__" (He.ma K (He.ga K "Slide") "__invert__")
  f_Turn_domain : ∃ fd, FunD K "domain" "Turn.domain" (defArgs (inClass (top 26) 1)) (defBody (inClass (top 26) 1)) (defScope (inClass (top 26) 1)) [] [] (gAdr K (He.ga K "Turn") "domain") fd
  p_Turn_domain : PropOf K (He.ga K "Turn") "domain" (He.ma K (He.ga K "Turn") "domain") (gAdr K (He.ga K "Turn") "domain")
  a_Turn_domain : PropOf K (He.ga K "Turn") "domain" (He.ma K (He.ga K "Turn") "domain") (gAdr K (He.ga K "Turn") "domain")
  f_Turn_image : ∃ fd, FunD K "image" "Turn.image" (defArgs (inClass (top 26) 2)) (defBody (inClass (top 26) 2)) (defScope (inClass (top 26) 2)) [] [] (gAdr K (He.ga K "Turn") "image") fd
  p_Turn_image : PropOf K (He.ga K "Turn") "image" (He.ma K (He.ga K "Turn") "image") (gAdr K (He.ga K "Turn") "image")
  f_TurnD_invertD : ∃ fd, FunD K "__invert__" "Turn.__invert__" (defArgs (inClass (top 26) 8)) (defBody (inClass (top 26) 8)) (defScope (inClass (top 26) 8)) [] [] (He.ma K (He.ga K "Turn") "__invert__") fd
  m_TurnD_invertD : Meth K (He.ga K "Turn") "__invert__" (He.ma K (He.ga K "Turn") "__invert__")
  f_Slide_upright : ∃ fd, FunD K "upright" "Slide.upright" (defArgs (inClass (top 25) 3)) (defBody (inClass (top 25) 3)) (defScope (inClass (top 25) 3)) [] [] (gAdr K (He.ga K "Slide") "upright") fd
  p_Slide_upright : PropOf K (He.ga K "Slide") "upright" (He.ma K (He.ga K "Slide") "upright") (gAdr K (He.ga K "Slide") "upright")
  f_Turn_upright : ∃ fd, FunD K "upright" "Turn.upright" (defArgs (inClass (top 26) 3)) (defBody (inClass (top 26) 3)) (defScope (inClass (top 26) 3)) [] [] (gAdr K (He.ga K "Turn") "upright") fd
  p_Turn_upright : PropOf K (He.ga K "Turn") "upright" (He.ma K (He.ga K "Turn") "upright") (gAdr K (He.ga K "Turn") "upright")
  f__law_box : ∃ fd, FunD K "_law_box" "_law_box" (defArgs (top 28)) (defBody (top 28)) (defScope (top 28)) [] [] (He.ga K "_law_box") fd
  g__law_box : mg "_law_box" = some (.ref (He.ga K "_law_box"))
  z_len : mg "len" = none
  z_abs : mg "abs" = none
  f__law_take : ∃ fd, FunD K "_law_take" "_law_take" (defArgs (top 29)) (defBody (top 29)) (defScope (top 29)) [] [] (He.ga K "_law_take") fd
  g__law_take : mg "_law_take" = some (.ref (He.ga K "_law_take"))
  f__law_number : ∃ fd, FunD K "_law_number" "_law_number" (defArgs (top 30)) (defBody (top 30)) (defScope (top 30)) [] [] (He.ga K "_law_number") fd
  g__law_number : mg "_law_number" = some (.ref (He.ga K "_law_number"))
  f__law_value : ∃ fd, FunD K "_law_value" "_law_value" (defArgs (top 31)) (defBody (top 31)) (defScope (top 31)) [] [] (He.ga K "_law_value") fd
  g__law_value : mg "_law_value" = some (.ref (He.ga K "_law_value"))
  f__law_is_integer : ∃ fd, FunD K "_law_is_integer" "_law_is_integer" (defArgs (top 32)) (defBody (top 32)) (defScope (top 32)) [] [] (He.ga K "_law_is_integer") fd
  g__law_is_integer : mg "_law_is_integer" = some (.ref (He.ga K "_law_is_integer"))
  y_Slide_Slide : PySem.W.kitOne K (.ref (He.ga K "Slide")) (.ref (He.ga K "Slide")) = some true
  y_Slide_Turn : PySem.W.kitOne K (.ref (He.ga K "Slide")) (.ref (He.ga K "Turn")) = some false
  y_Slide_Pairing : PySem.W.kitOne K (.ref (He.ga K "Slide")) (.ref (He.ga K "Pairing")) = some true
  y_Turn_Slide : PySem.W.kitOne K (.ref (He.ga K "Turn")) (.ref (He.ga K "Slide")) = some false
  y_Turn_Turn : PySem.W.kitOne K (.ref (He.ga K "Turn")) (.ref (He.ga K "Turn")) = some true
  y_Turn_Pairing : PySem.W.kitOne K (.ref (He.ga K "Turn")) (.ref (He.ga K "Pairing")) = some true
  y_Stretch_Stretch : PySem.W.kitOne K (.ref (He.ga K "Stretch")) (.ref (He.ga K "Stretch")) = some true
  y_Stretch_Backward : PySem.W.kitOne K (.ref (He.ga K "Stretch")) (.ref (He.ga K "Backward")) = some false
  y_Backward_Stretch : PySem.W.kitOne K (.ref (He.ga K "Backward")) (.ref (He.ga K "Stretch")) = some true
  y_Backward_Backward : PySem.W.kitOne K (.ref (He.ga K "Backward")) (.ref (He.ga K "Backward")) = some true
  ne_Stretch_Backward : He.ga K "Stretch" ≠ He.ga K "Backward"
  f__law_numbers : ∃ fd, FunD K "_law_numbers" "_law_numbers" (defArgs (top 33)) (defBody (top 33)) (defScope (top 33)) [] [] (He.ga K "_law_numbers") fd
  g__law_numbers : mg "_law_numbers" = some (.ref (He.ga K "_law_numbers"))
  f__law_ends : ∃ fd, FunD K "_law_ends" "_law_ends" (defArgs (top 34)) (defBody (top 34)) (defScope (top 34)) [] [] (He.ga K "_law_ends") fd
  g__law_ends : mg "_law_ends" = some (.ref (He.ga K "_law_ends"))
  q_InvalidPairing_InvalidPairing : PySem.W.exmOne K (.ref (He.ga K "InvalidPairing")) (.ref (He.ga K "InvalidPairing")) = some true
  y_InvalidPairing_TwinError : PySem.W.kitOne K (.ref (He.ga K "InvalidPairing")) (.ref (He.ga K "TwinError")) = some true
  y_InvalidPairing_InvalidStretch : PySem.W.kitOne K (.ref (He.ga K "InvalidPairing")) (.ref (He.ga K "InvalidStretch")) = some false
  f__law_told : ∃ fd, FunD K "_law_told" "_law_told" (defArgs (top 35)) (defBody (top 35)) (defScope (top 35)) [] [] (He.ga K "_law_told") fd
  g__law_told : mg "_law_told" = some (.ref (He.ga K "_law_told"))
  g_TwinError : mg "TwinError" = some (.ref (He.ga K "TwinError"))
  x_InvalidPairing : ExcF K (He.ga K "InvalidPairing") ∧ XfC K (He.ga K "InvalidPairing")
  f__law_due : ∃ fd, FunD K "_law_due" "_law_due" (defArgs (top 36)) (defBody (top 36)) (defScope (top 36)) [] [] (He.ga K "_law_due") fd
  g__law_due : mg "_law_due" = some (.ref (He.ga K "_law_due"))
  f_law : ∃ fd, FunD K "law" "law" (defArgs (top 37)) (defBody (top 37)) (defScope (top 37)) [] [] (He.ga K "law") fd
  g_law : mg "law" = some (.ref (He.ga K "law"))
  z_range : mg "range" = none
  z_min : mg "min" = none
  z_max : mg "max" = none
  z_repr : mg "repr" = none
  top_super : (P.main.scope.names.lookup ("super" : Str)).isSome = false
section
variable {P : Program} {w : World} {K : PySem.W.Frag} {mg : Str → Option Value} {base : Heap}
abbrev s_is_integer : Stmt := top 9
theorem sc_is_integer : FnScope ["value"] ["value"] (defScope s_is_integer) := ⟨rfl, rfl, rfl, by decide +kernel, rfl, by decide +kernel, by decide +kernel⟩
theorem fo_is_integer (T : Tx P K mg) : (∃ fd, FunD K "is_integer" "is_integer" (defArgs s_is_integer) (defBody s_is_integer) (defScope s_is_integer) [] [] (He.ga K "is_integer") fd ∧ FnOk P w K mg base (L2.CX P w) 1 (He.ga K "is_integer") fd ["value"] spIsInt) := by
  obtain ⟨fd, F⟩ := T.f_is_integer
  refine ⟨fd, F, F.ok sc_is_integer len_isint ?_⟩
  intro cdv A outer s H vs Q E hr h
  have nd := sc_is_integer.nd
  obtain ⟨v, d, rfl, hd, k⟩ := h
  refine ⟨_, (pss_one (ps_ret (pe_and (pe_callB call_isi (by rfl) T.z_isinstance (by decide +kernel) (pa_cons (pv 0) (pa_cons (pe_bltn (v := .ty "int") rfl T.z_int (by first | exact PyProof.Rows.Boot.«int» | decide +kernel) rfl) pa_nil))) (pe_one (pe_not (pe_callB call_isi (by rfl) T.z_isinstance (by decide +kernel) (pa_cons (pv 0) (pa_cons (pe_bltn (v := .ty "bool") rfl T.z_bool (by first | exact PyProof.Rows.Boot.«bool» | decide +kernel) rfl) pa_nil)))))))), ?_⟩
  try dsimp only [cxOf]
  simp only [L2.start, List.map_cons, List.map_nil, List.length_cons, List.length_nil, List.replicate, List.cons_append, List.nil_append, Nat.reduceAdd, Nat.reduceSub]
  walk_at "go"
  refine i_isiI hd ?_
  refine ⟨_, rfl, i_bool (fun e => ?_) fun e => ?_⟩
  · walk_at "go"
    refine i_isiB hd ?_
    refine ⟨_, rfl, ?_⟩
    have q := isInt_eq d
    rw [e] at q
    rw [← q] at k
    exact k
  · have q := isInt_eq d
    rw [e] at q
    rw [← q] at k
    exact k
theorem ok_is_integer (T : Tx P K mg) : DefO P w K mg base 1 "is_integer" ["value"] spIsInt := by
  obtain ⟨fd, F, G⟩ := fo_is_integer (P := P) (w := w) (base := base) T
  exact ⟨_, fd, G, T.g_is_integer, F.kp, F.bindsN fun _ _ _ _ _ _ us hl => match us, hl with | [_], _ => rfl⟩
abbrev s_InvalidStretchD_initD : Stmt := inClass (top 3) 0
theorem sc_InvalidStretchD_initD : FnScope ["self", "start", "size"] ["self", "start", "size"] (defScope s_InvalidStretchD_initD) := ⟨rfl, rfl, rfl, by decide +kernel, rfl, by decide +kernel, by decide +kernel⟩
theorem fo_InvalidStretchD_initD (T : Tx P K mg) : (∃ fd, FunD K "__init__" "InvalidStretch.__init__" (defArgs s_InvalidStretchD_initD) (defBody s_InvalidStretchD_initD) (defScope s_InvalidStretchD_initD) [] [] (He.ma K (He.ga K "InvalidStretch") "__init__") fd ∧ FnOk P w K mg base (L2.CX P w) 1 (He.ma K (He.ga K "InvalidStretch") "__init__") fd ["self", "start", "size"] (spErr2 (He.ga K "InvalidStretch") "start" "size")) := by
  obtain ⟨fd, F⟩ := T.f_InvalidStretchD_initD
  refine ⟨fd, F, F.ok sc_InvalidStretchD_initD len_err2 ?_⟩
  intro cdv A outer s H vs Q E hr h
  have nd := sc_InvalidStretchD_initD.nd

  refine ⟨_, (pss_cons (ps_expr (L3.pe_binit T.b_TwinError (pa_cons (pv 0) (pa_cons pe_str pa_nil))))
  (pss_cons (ps_ost (pv 0) (pv 1))
  (pss_one (ps_ost (pv 0) (pv 2))))), ?_⟩
  exact pure_err2 T.o_InvalidStretch.1 T.n_InvalidStretch_start T.n_InvalidStretch_size rfl h
theorem ok_InvalidStretch (T : Tx P K mg) : ErrOk P w K mg base 1 "InvalidStretch" (He.ga K "InvalidStretch") ["self", "start", "size"] (spErr2 (He.ga K "InvalidStretch") "start" "size") := by
  obtain ⟨fd, F, G⟩ := fo_InvalidStretchD_initD (P := P) (w := w) (base := base) T
  exact ⟨_, fd, G, T.o_InvalidStretch.1, T.o_InvalidStretch.2.1, T.o_InvalidStretch.2.2, T.g_InvalidStretch, F.bindsN fun _ _ _ _ _ _ us hl => match us, hl with | [_, _, _], _ => rfl⟩
theorem clsSt (T : Tx P K mg) {C : Addr} (h : isSt K C) : Cls K C := by
  rcases h with rfl | rfl
  · exact T.c_Stretch
  · exact T.c_Backward
theorem startSt (T : Tx P K mg) {C : Addr} (h : isSt K C) : NoAttr K C "start" := by
  rcases h with rfl | rfl
  · exact T.a_Stretch_start
  · exact T.a_Backward_start
theorem sizeSt (T : Tx P K mg) {C : Addr} (h : isSt K C) : NoAttr K C "size" := by
  rcases h with rfl | rfl
  · exact T.a_Stretch_size
  · exact T.a_Backward_size
abbrev s_StretchD_initD : Stmt := inClass (top 15) 0
theorem sc_StretchD_initD : FnScope ["self", "start", "size"] ["self", "start", "size"] (defScope s_StretchD_initD) := ⟨rfl, rfl, rfl, by decide +kernel, rfl, by decide +kernel, by decide +kernel⟩
theorem fo_StretchD_initD (T : Tx P K mg) : (∃ fd, FunD K "__init__" "Stretch.__init__" (defArgs s_StretchD_initD) (defBody s_StretchD_initD) (defScope s_StretchD_initD) [] [] (He.ma K (He.ga K "Stretch") "__init__") fd ∧ FnOk P w K mg base (L2.CX P w) 3 (He.ma K (He.ga K "Stretch") "__init__") fd ["self", "start", "size"] (spInitS K (isSt K))) := by
  obtain ⟨fd, F⟩ := T.f_StretchD_initD
  refine ⟨fd, F, F.ok sc_StretchD_initD len_initS ?_⟩
  intro cdv A outer s H vs Q E hr h
  have nd := sc_StretchD_initD.nd
  obtain ⟨a, C, dx, v1, v2, d1, d2, rfl, hC, ha, h1, h2, good, bad⟩ := h
  refine ⟨_, (pss_cons (ps_if (PW.pt (pw_or (pt_not (pt_val (L3.pe_ocall (ok_is_integer T) (hr.mono (by decide)) tkC (pa_cons (pv 1) pa_nil)))) (pw_or (pt_not (pt_val (L3.pe_ocall (ok_is_integer T) (hr.mono (by decide)) tkC (pa_cons (pv 2) pa_nil)))) (pw_or (pt_cmpR op_lt (pv 1) pe_int (nomark _)) (pw_or1 (pt_cmpR op_lt (pv 2) pe_int (nomark _))))))) (pss_one (ps_raise rfl tkC (L3.pmk_err (ok_InvalidStretch T) (hr.mono (by decide)) (pa_cons (pv 1) (pa_cons (pv 2) pa_nil))))) pss_nil)
  (pss_cons (ps_fld (pv 0) (pv 1) rfl)
  (pss_one (ps_fld (pv 0) (pv 2) rfl)))), ?_⟩
  try dsimp only [cxOf]
  simp only [L2.start, List.map_cons, List.map_nil, List.length_cons, List.length_nil, List.replicate, List.cons_append, List.nil_append, Nat.reduceAdd, Nat.reduceSub]
  have refuse : goodS d1 d2 = false → errIn (He.ga K "InvalidStretch") (spErr2 (He.ga K "InvalidStretch") "start" "size") [v1, v2] H E := fun g => i_err2 fun d H' nd e hd => bad g d H' nd e hd
  walk_at "go"
  refine ap_isint h1 ?_
  walk_at "go"
  refine i_bool (fun e => ?_) fun e => ?_
  · walk_at "go"
    refine refuse ?_
    cases d1 <;> first | rfl | cases e
  obtain ⟨i, rfl⟩ := isInt_of (d := d1) (by cases d1 <;> first | rfl | cases e)
  have q1 := h1.int_of
  subst q1
  walk_at "go"
  refine ap_isint h2 ?_
  walk_at "go"
  refine i_bool (fun e => ?_) fun e => ?_
  · walk_at "go"
    refine refuse ?_
    cases d2 <;> first | rfl | cases e
  obtain ⟨j, rfl⟩ := isInt_of (d := d2) (by cases d2 <;> first | rfl | cases e)
  have q2 := h2.int_of
  subst q2
  walk_at "go"
  apply i_dec <;> intro c1
  · walk_at "go"
    refine refuse ?_
    show (decide (0 ≤ i) && decide (1 ≤ j)) = false
    rw [decide_eq_false (by omega : ¬ 0 ≤ i)]
    rfl
  walk_at "go"
  apply i_dec <;> intro c2
  · walk_at "go"
    refine refuse ?_
    show (decide (0 ≤ i) && decide (1 ≤ j)) = false
    rw [decide_eq_false (by omega : ¬ 1 ≤ j), Bool.and_false]
  walk_at "go"
  refine ⟨a, C, dx, [], rfl, ha, clsSt T hC, startSt T hC, by decide, ?_⟩
  walk_at "go"
  refine ⟨a, C, dx, _, rfl, upd_same, clsSt T hC, sizeSt T hC, (by show 1 < 1000; decide), ?_⟩
  walk_at "go"
  refine good ?_
  show (decide (0 ≤ i) && decide (1 ≤ j)) = true
  rw [decide_eq_true (by omega : 0 ≤ i), decide_eq_true (by omega : 1 ≤ j)]
  rfl
theorem ok_Stretch (T : Tx P K mg) : MakeO P w K mg base 3 "Stretch" (He.ga K "Stretch") ["self", "start", "size"] (spInitS K (isSt K)) := by
  obtain ⟨fd, F, G⟩ := fo_StretchD_initD (P := P) (w := w) (base := base) T
  exact ⟨_, fd, G, T.k_Stretch, T.g_Stretch, F.bindsN fun _ _ _ _ _ _ us hl => match us, hl with | [_, _, _], _ => rfl⟩
def gK_Stretch {α : Type} : List α → List α → List α := fun vs zs => match zs with | [z0, z1] => vs ++ [z1, z0] | _ => vs ++ zs
theorem okK_Stretch (T : Tx P K mg) : MakeK P w K mg base 3 "Stretch" (He.ga K "Stretch") ["self", "start", "size"] ["size", "start"] gK_Stretch gK_Stretch (spInitS K (isSt K)) := by
  obtain ⟨fd, F, G⟩ := fo_StretchD_initD (P := P) (w := w) (base := base) T
  refine ⟨_, fd, G, T.k_Stretch, T.g_Stretch, kbinds00 F 1 ["size", "start"] gK_Stretch ?_ ?_⟩
  · intro vs zs us ws ra rb
    match rb with
    | .cons r0 (.cons r1 .nil) => exact L2.Vals.append ra (.cons r1 (.cons r0 .nil))
    | .nil => exact L2.Vals.append ra .nil
    | .cons a0 .nil => exact L2.Vals.append ra (.cons a0 .nil)
    | .cons a0 (.cons a1 (.cons a2 a9)) => exact L2.Vals.append ra (.cons a0 (.cons a1 (.cons a2 a9)))
  · intro _ _ _ _ _ _ us ws l1 l2
    match us, ws, l1, l2 with
    | [_], [_, _], _, _ => rfl
abbrev s_Stretch_last : Stmt := inClass (top 15) 1
theorem sc_Stretch_last : FnScope ["self"] ["self"] (defScope s_Stretch_last) := ⟨rfl, rfl, rfl, by decide +kernel, rfl, by decide +kernel, by decide +kernel⟩
theorem fo_Stretch_last (T : Tx P K mg) : (∃ fd, FunD K "last" "Stretch.last" (defArgs s_Stretch_last) (defBody s_Stretch_last) (defScope s_Stretch_last) [] [] (gAdr K (He.ga K "Stretch") "last") fd ∧ FnOk P w K mg base (L2.CX P w) 1 (gAdr K (He.ga K "Stretch") "last") fd ["self"] (spLast K)) := by
  obtain ⟨fd, F⟩ := T.f_Stretch_last
  refine ⟨fd, F, F.ok sc_Stretch_last len_last ?_⟩
  intro cdv A outer s H vs Q E hr h
  have nd := sc_Stretch_last.nd
  obtain ⟨C, x, s, n, rfl, hC, ⟨dx, hx⟩, k⟩ := h
  refine ⟨_, (pss_one (ps_ret (pe_op op_sub (pe_op op_add (pe_fld (pv 0) rfl) (pe_fld (pv 0) rfl)) pe_int))), ?_⟩
  try dsimp only [cxOf]
  simp only [L2.start, List.map_cons, List.map_nil, List.length_cons, List.length_nil, List.replicate, List.cons_append, List.nil_append, Nat.reduceAdd, Nat.reduceSub]
  walk_at "go"
  refine ⟨x, C, dx, _, _, rfl, hx, clsSt T hC, startSt T hC, rfl, ?_⟩
  walk_at "go"
  refine ⟨x, C, dx, _, _, rfl, hx, clsSt T hC, sizeSt T hC, rfl, ?_⟩
  walk_at "go"
  exact k
theorem ok_Stretch_last (T : Tx P K mg) : PropO P w K mg base 1 (He.ga K "Stretch") "last" ["self"] (spLast K) := by
  obtain ⟨fd, F, G⟩ := fo_Stretch_last (P := P) (w := w) (base := base) T
  exact ⟨_, _, fd, G, T.p_Stretch_last, F.bindsN fun _ _ _ _ _ _ us hl => match us, hl with | [_], _ => rfl⟩
abbrev s_BackwardD_initD : Stmt := inClass (top 16) 0
theorem sc_BackwardD_initD : SupScope ["self", "start", "size"] ["self", "start", "size"] (defScope s_BackwardD_initD) := ⟨rfl, rfl, rfl, by decide +kernel, rfl, by decide +kernel, by decide +kernel, by decide +kernel⟩
theorem fo_BackwardD_initD (T : Tx P K mg) : (∃ cc fd, FunS P K "__init__" "Backward.__init__" (defArgs s_BackwardD_initD) (defBody s_BackwardD_initD) (defScope s_BackwardD_initD) cc (He.ga K "Backward") (He.ma K (He.ga K "Backward") "__init__") fd ∧ FnOk P w K mg base (L2.CX P w) 4 (He.ma K (He.ga K "Backward") "__init__") fd ["self", "start", "size"] (spInitS K (isBk K))) := by
  obtain ⟨cc, fd, F⟩ := T.f_BackwardD_initD
  obtain ⟨_, _, doc, pm, an, cda, ct, _, efd, _⟩ := id F.ex
  subst efd
  refine ⟨cc, _, F, fnS_of F sc_BackwardD_initD len_initS ?_⟩
  obtain ⟨g, fdG, G, mG, gG, bG⟩ := ok_Stretch (P := P) (w := w) (base := base) T
  have eg : g = He.ma K (He.ga K "Stretch") "__init__" := by
    have a := mG.init
    have b := T.k_Stretch.init
    rw [a] at b
    exact Value.ref.inj (Option.some.inj (Option.some.inj b))
  subst eg
  intro A outer s H vs Q E hr h
  have nd := sc_BackwardD_initD.nd
  obtain ⟨a, C, dx, v1, v2, d1, d2, rfl, rfl, ha, h1, h2, good, bad⟩ := h
  refine ⟨_, (L3.psa_super (pl := _) (p0 := "self") F sc_BackwardD_initD rfl rfl rfl rfl rfl T.top_super T.u_Backward_Stretch G (hr.mono (by decide)) bG tkS (pa_cons (pv 1) (pa_cons (pv 2) pa_nil)) (psa_of pss_nil) rfl), ?_⟩
  try dsimp only [cxS]
  simp only [L2.start, List.map_cons, List.map_nil, List.length_cons, List.length_nil, List.replicate, List.cons_append, List.nil_append, Nat.reduceAdd, Nat.reduceSub]
  walk_at "go"
  refine i_sup ⟨a, dx, [], rfl, ha, ?_⟩
  walk_at "go"
  exact ⟨a, _, dx, v1, v2, d1, d2, rfl, .inr rfl, ha, h1, h2, good, bad⟩
theorem ok_Backward (T : Tx P K mg) : MakeO P w K mg base 4 "Backward" (He.ga K "Backward") ["self", "start", "size"] (spInitS K (isBk K)) := by
  obtain ⟨cc, fd, F, G⟩ := fo_BackwardD_initD (P := P) (w := w) (base := base) T
  exact ⟨_, fd, G, T.k_Backward, T.g_Backward, F.bindsN fun _ _ _ _ _ us hl => match us, hl with | [_, _, _], _ => rfl⟩
def gK_Backward {α : Type} : List α → List α → List α := fun vs zs => match zs with | [z0, z1] => vs ++ [z1, z0] | _ => vs ++ zs
theorem okK_Backward (T : Tx P K mg) : MakeK P w K mg base 4 "Backward" (He.ga K "Backward") ["self", "start", "size"] ["size", "start"] gK_Backward gK_Backward (spInitS K (isBk K)) := by
  obtain ⟨cc, fd, F, G⟩ := fo_BackwardD_initD (P := P) (w := w) (base := base) T
  refine ⟨_, fd, G, T.k_Backward, T.g_Backward, FunS.kbinds F 1 ["size", "start"] gK_Backward ?_ ?_⟩
  · intro vs zs us ws ra rb
    match rb with
    | .cons r0 (.cons r1 .nil) => exact L2.Vals.append ra (.cons r1 (.cons r0 .nil))
    | .nil => exact L2.Vals.append ra .nil
    | .cons a0 .nil => exact L2.Vals.append ra (.cons a0 .nil)
    | .cons a0 (.cons a1 (.cons a2 a9)) => exact L2.Vals.append ra (.cons a0 (.cons a1 (.cons a2 a9)))
  · intro _ _ _ _ _ us ws l1 l2
    match us, ws, l1, l2 with
    | [_], [_, _], _, _ => rfl
theorem okp_St_last (T : Tx P K mg) : ∀ C, isSt K C → PropO P w K mg base 1 C "last" ["self"] (spLast K) ∧ Cls K C := by
  intro C hC
  rcases hC with rfl | rfl
  · exact ⟨ok_Stretch_last T, T.c_Stretch⟩
  · obtain ⟨fd2, F2, G⟩ := fo_Stretch_last (P := P) (w := w) (base := base) T
    exact ⟨⟨_, _, fd2, G, ⟨T.j_Backward_last, T.p_Stretch_last.get, T.p_Stretch_last.tak, T.p_Stretch_last.rec_⟩, F2.bindsN fun _ _ _ _ _ _ us hl => match us, hl with | [_], _ => rfl⟩, T.c_Backward⟩

abbrev s_InvalidPairingD_initD : Stmt := inClass (top 4) 0
theorem sc_InvalidPairingD_initD : FnScope ["self", "start", "size"] ["self", "start", "size"] (defScope s_InvalidPairingD_initD) := ⟨rfl, rfl, rfl, by decide +kernel, rfl, by decide +kernel, by decide +kernel⟩
theorem fo_InvalidPairingD_initD (T : Tx P K mg) : (∃ fd, FunD K "__init__" "InvalidPairing.__init__" (defArgs s_InvalidPairingD_initD) (defBody s_InvalidPairingD_initD) (defScope s_InvalidPairingD_initD) [] [] (He.ma K (He.ga K "InvalidPairing") "__init__") fd ∧ FnOk P w K mg base (L2.CX P w) 1 (He.ma K (He.ga K "InvalidPairing") "__init__") fd ["self", "start", "size"] (spErr2 (He.ga K "InvalidPairing") "start" "size")) := by
  obtain ⟨fd, F⟩ := T.f_InvalidPairingD_initD
  refine ⟨fd, F, F.ok sc_InvalidPairingD_initD len_err2 ?_⟩
  intro cdv A outer s H vs Q E hr h
  have nd := sc_InvalidPairingD_initD.nd

  refine ⟨_, (pss_cons (ps_expr (L3.pe_binit T.b_TwinError (pa_cons (pv 0) (pa_cons pe_str pa_nil))))
  (pss_cons (ps_ost (pv 0) (pv 1))
  (pss_one (ps_ost (pv 0) (pv 2))))), ?_⟩
  exact pure_err2 T.o_InvalidPairing.1 T.n_InvalidPairing_start T.n_InvalidPairing_size rfl h
theorem ok_InvalidPairing (T : Tx P K mg) : ErrOk P w K mg base 1 "InvalidPairing" (He.ga K "InvalidPairing") ["self", "start", "size"] (spErr2 (He.ga K "InvalidPairing") "start" "size") := by
  obtain ⟨fd, F, G⟩ := fo_InvalidPairingD_initD (P := P) (w := w) (base := base) T
  exact ⟨_, fd, G, T.o_InvalidPairing.1, T.o_InvalidPairing.2.1, T.o_InvalidPairing.2.2, T.g_InvalidPairing, F.bindsN fun _ _ _ _ _ _ us hl => match us, hl with | [_, _, _], _ => rfl⟩
abbrev s_check_numbers : Stmt := top 18
theorem sc_check_numbers : FnScope ["start", "size", "number", "value"] ["start", "size", "number"] (defScope s_check_numbers) := ⟨rfl, rfl, rfl, by decide +kernel, rfl, by decide +kernel, by decide +kernel⟩
theorem fo_check_numbers (T : Tx P K mg) : (∃ fd, FunD K "check_numbers" "check_numbers" (defArgs s_check_numbers) (defBody s_check_numbers) (defScope s_check_numbers) [] [] (He.ga K "check_numbers") fd ∧ FnOk P w K mg base (L2.CX P w) 3 (He.ga K "check_numbers") fd ["start", "size", "number"] (spChkN K)) := by
  obtain ⟨fd, F⟩ := T.f_check_numbers
  refine ⟨fd, F, F.ok sc_check_numbers len_chkN ?_⟩
  intro cdv A outer s H vs Q E hr h
  have nd := sc_check_numbers.nd
  obtain ⟨v1, v2, v3, d1, d2, d3, rfl, h1, h2, h3, good, bad⟩ := h
  refine ⟨_, (pss_one (ps_if (PW.pt (pw_or (pt_not (pt_val (pe_callB (cr_all rfl) (by rfl) T.z_all (by decide +kernel) (pa_cons (pe_lc (own := [("value", 3)]) (g := gName 3) (tt := tYes) rfl nd (pi_tup (pe_tup (pa_cons (pv 0) (pa_cons (pv 1) (pa_cons (pv 2) pa_nil))))) (blkOk_by (own := [("value", 3)]) (N := ["start", "size", "number", "value"]) (sc := defScope s_check_numbers) (by decide +kernel)) (fun _ _ _ _ _ => (pg_name (i := 3) nd rfl (.inl rfl))) (fun _ _ _ _ _ => pts_nil) (fun _ _ _ _ _ => (L3.pe_ocall (ok_is_integer T) (hr.mono (by decide)) takes0 (pa_cons (pv 3) pa_nil)))) pa_nil)))) (pw_or (pt_cmpR op_lt (pv 0) pe_int (nomark _)) (pw_or1 (pt_cmpR op_lt (pv 1) pe_int (nomark _)))))) (pss_one (ps_raise rfl tkC (L3.pmk_err (ok_InvalidPairing T) (hr.mono (by decide)) (pa_cons (pv 0) (pa_cons (pv 1) pa_nil))))) pss_nil)), ?_⟩
  try dsimp only [cxOf]
  simp only [L2.start, List.map_cons, List.map_nil, List.length_cons, List.length_nil, List.replicate, List.cons_append, List.nil_append, Nat.reduceAdd, Nat.reduceSub]
  have refuse : ∀ H', Ex H H' → goodN d1 d2 d3 = false → errIn (He.ga K "InvalidPairing") (spErr2 (He.ga K "InvalidPairing") "start" "size") [v1, v2] H' E := fun H' e g => i_err2 fun d H2 nd e2 hd => bad g d H2 (Ex.back e nd) (e.trans e2) hd
  walk_at "go"
  refine i_newT fun p H1 e1 n1 t1 => ?_
  walk_at "go"
  refine ⟨p, rfl, ⟨_, SqT.of t1⟩, ?_⟩
  have h1 := up (φ := Da _ _) e1 h1
  have h2 := up (φ := Da _ _) e1 h2
  have h3 := up (φ := Da _ _) e1 h3
  refine lc_tupP (Φ := Ex H1) (φ := isY [.bl (L3.isInt d1), .bl (L3.isInt d2), .bl (L3.isInt d3)]) (xs := [v1, v2, v3]) (Ex.refl H1) (bears_ex (Ex.refl H1)) (fun H e => SqT.of (e _ _ t1)) (fun D i x acc H2 nD hx eD r => ?_) (fun D acc H2 nD eD r => ?_)
  · obtain ⟨d, hd, hy⟩ : ∃ d, Da x d H1 ∧ [V.bl (L3.isInt d1), .bl (L3.isInt d2), .bl (L3.isInt d3)][i]? = some (.bl (L3.isInt d)) := by
      match i, hx with
      | 0, hx => cases hx; exact ⟨d1, h1, rfl⟩
      | 1, hx => cases hx; exact ⟨d2, h2, rfl⟩
      | 2, hx => cases hx; exact ⟨d3, h3, rfl⟩
    have hi : i < 3 := (List.getElem?_eq_some_iff.mp hx).1
    walk_at "go"
    refine ⟨rfl, ?_⟩
    walk_at "go"
    refine ap_isint (up r.fr hd) ?_
    exact lcP_fin (R := Ex) nD (bears_ex (Ex.refl H1)) r (Ex.refl _) eD r.fr hy (by have := r.len; omega) (fun _ _ h => h) fun _ _ h => h
  have ea := r.eq rfl
  subst ea
  have e12 := r.fr
  walk_at "go"
  refine ⟨D, [L3.isInt d1, L3.isInt d2, L3.isInt d3], rfl, SqL.of eD, ?_⟩
  walk_at "go"
  show if (!(L3.isInt d1 && (L3.isInt d2 && (L3.isInt d3 && true)))) = true then _ else _
  cases z : (L3.isInt d1 && (L3.isInt d2 && (L3.isInt d3 && true))) with
  | false =>
    walk_at "go"
    exact refuse H2 (e1.trans e12) (goodN_off z)
  | true =>
    obtain ⟨z1, z2⟩ := Bool.and_eq_true_iff.mp z
    obtain ⟨z2, z3⟩ := Bool.and_eq_true_iff.mp z2
    obtain ⟨s, rfl⟩ := isInt_of z1
    obtain ⟨n, rfl⟩ := isInt_of z2
    obtain ⟨t, rfl⟩ := isInt_of (Bool.and_eq_true_iff.mp z3).1
    have q1 := Dt.int_of h1
    have q2 := Dt.int_of h2
    subst q1 q2
    walk_at "go"
    apply i_dec <;> intro c1
    · walk_at "go"
      refine refuse H2 (e1.trans e12) ?_
      show (decide (0 ≤ s) && decide (1 ≤ n)) = false
      rw [decide_eq_false (by omega : ¬ 0 ≤ s)]
      rfl
    walk_at "go"
    apply i_dec <;> intro c2
    · walk_at "go"
      refine refuse H2 (e1.trans e12) ?_
      show (decide (0 ≤ s) && decide (1 ≤ n)) = false
      rw [decide_eq_false (by omega : ¬ 1 ≤ n), Bool.and_false]
    walk_at "go"
    refine good ?_ H2 (e1.trans e12)
    show (decide (0 ≤ s) && decide (1 ≤ n)) = true
    rw [decide_eq_true (by omega : 0 ≤ s), decide_eq_true (by omega : 1 ≤ n)]
    rfl
theorem ok_check_numbers (T : Tx P K mg) : DefO P w K mg base 3 "check_numbers" ["start", "size", "number"] (spChkN K) := by
  obtain ⟨fd, F, G⟩ := fo_check_numbers (P := P) (w := w) (base := base) T
  exact ⟨_, fd, G, T.g_check_numbers, F.kp, F.bindsN fun _ _ _ _ _ _ us hl => match us, hl with | [_, _, _], _ => rfl⟩
abbrev s_check_image : Stmt := top 19
theorem sc_check_image : FnScope ["start", "size", "least"] ["start", "size", "least"] (defScope s_check_image) := ⟨rfl, rfl, rfl, by decide +kernel, rfl, by decide +kernel, by decide +kernel⟩
theorem fo_check_image (T : Tx P K mg) : (∃ fd, FunD K "check_image" "check_image" (defArgs s_check_image) (defBody s_check_image) (defScope s_check_image) [] [] (He.ga K "check_image") fd ∧ FnOk P w K mg base (L2.CX P w) 3 (He.ga K "check_image") fd ["start", "size", "least"] (spChkI K)) := by
  obtain ⟨fd, F⟩ := T.f_check_image
  refine ⟨fd, F, F.ok sc_check_image len_chkI ?_⟩
  intro cdv A outer s H vs Q E hr h
  have nd := sc_check_image.nd
  obtain ⟨v1, v2, l, rfl, good, bad⟩ := h
  refine ⟨_, (pss_one (ps_if (pt_cmpR op_lt (pv 2) pe_int (nomark _)) (pss_one (ps_raise rfl tkC (L3.pmk_err (ok_InvalidPairing T) (hr.mono (by decide)) (pa_cons (pv 0) (pa_cons (pv 1) pa_nil))))) pss_nil)), ?_⟩
  try dsimp only [cxOf]
  simp only [L2.start, List.map_cons, List.map_nil, List.length_cons, List.length_nil, List.replicate, List.cons_append, List.nil_append, Nat.reduceAdd, Nat.reduceSub]
  walk_at "go"
  apply i_dec <;> intro c1
  · walk_at "go"
    exact i_err2 fun d H2 nd e2 hd => bad c1 d H2 nd e2 hd
  walk_at "go"
  exact good (by omega)
theorem ok_check_image (T : Tx P K mg) : DefO P w K mg base 3 "check_image" ["start", "size", "least"] (spChkI K) := by
  obtain ⟨fd, F, G⟩ := fo_check_image (P := P) (w := w) (base := base) T
  exact ⟨_, fd, G, T.g_check_image, F.kp, F.bindsN fun _ _ _ _ _ _ us hl => match us, hl with | [_, _, _], _ => rfl⟩
abbrev s_least_turned : Stmt := top 21
theorem sc_least_turned : FnScope ["start", "size", "total"] ["start", "size", "total"] (defScope s_least_turned) := ⟨rfl, rfl, rfl, by decide +kernel, rfl, by decide +kernel, by decide +kernel⟩
theorem fo_least_turned (T : Tx P K mg) : (∃ fd, FunD K "least_turned" "least_turned" (defArgs s_least_turned) (defBody s_least_turned) (defScope s_least_turned) [] [] (He.ga K "least_turned") fd ∧ FnOk P w K mg base (L2.CX P w) 1 (He.ga K "least_turned") fd ["start", "size", "total"] spLeast) := by
  obtain ⟨fd, F⟩ := T.f_least_turned
  refine ⟨fd, F, F.ok sc_least_turned len_least ?_⟩
  intro cdv A outer s H vs Q E hr h
  have nd := sc_least_turned.nd
  obtain ⟨s, n, t, rfl, k⟩ := h
  refine ⟨_, (pss_one (ps_ret (pe_op op_add (pe_op op_sub (pe_op op_sub (pv 2) (pv 0)) (pv 1)) pe_int))), ?_⟩
  try dsimp only [cxOf]
  simp only [L2.start, List.map_cons, List.map_nil, List.length_cons, List.length_nil, List.replicate, List.cons_append, List.nil_append, Nat.reduceAdd, Nat.reduceSub]
  walk_at "go"
  exact k
theorem ok_least_turned (T : Tx P K mg) : DefO P w K mg base 1 "least_turned" ["start", "size", "total"] spLeast := by
  obtain ⟨fd, F, G⟩ := fo_least_turned (P := P) (w := w) (base := base) T
  exact ⟨_, fd, G, T.g_least_turned, F.kp, F.bindsN fun _ _ _ _ _ _ us hl => match us, hl with | [_, _, _], _ => rfl⟩
theorem neP (T : Tx P K mg) : NeP K := ⟨T.ne_Turn_Slide⟩
theorem clsPa (T : Tx P K mg) {C : Addr} (h : isPa K C) : Cls K C := by
  rcases h with rfl | rfl
  · exact T.c_Slide
  · exact T.c_Turn
theorem startPa (T : Tx P K mg) {C : Addr} (h : isPa K C) : NoAttr K C "start" := by
  rcases h with rfl | rfl
  · exact T.a_Slide_start
  · exact T.a_Turn_start
theorem sizePa (T : Tx P K mg) {C : Addr} (h : isPa K C) : NoAttr K C "size" := by
  rcases h with rfl | rfl
  · exact T.a_Slide_size
  · exact T.a_Turn_size
abbrev s_PairingD_initD : Stmt := inClass (top 22) 0
theorem sc_PairingD_initD : FnScope ["self", "start", "size"] ["self", "start", "size"] (defScope s_PairingD_initD) := ⟨rfl, rfl, rfl, by decide +kernel, rfl, by decide +kernel, by decide +kernel⟩
theorem fo_PairingD_initD (T : Tx P K mg) : (∃ fd, FunD K "__init__" "Pairing.__init__" (defArgs s_PairingD_initD) (defBody s_PairingD_initD) (defScope s_PairingD_initD) [] [] (He.ma K (He.ga K "Pairing") "__init__") fd ∧ FnOk P w K mg base (L2.CX P w) 1 (He.ma K (He.ga K "Pairing") "__init__") fd ["self", "start", "size"] (spPair K)) := by
  obtain ⟨fd, F⟩ := T.f_PairingD_initD
  refine ⟨fd, F, F.ok sc_PairingD_initD len_pair ?_⟩
  intro cdv A outer s H vs Q E hr h
  have nd := sc_PairingD_initD.nd
  obtain ⟨a, C, dx, v1, v2, rfl, hC, ha, k⟩ := h
  refine ⟨_, (pss_cons (ps_fld (pv 0) (pv 1) rfl)
  (pss_one (ps_fld (pv 0) (pv 2) rfl))), ?_⟩
  try dsimp only [cxOf]
  simp only [L2.start, List.map_cons, List.map_nil, List.length_cons, List.length_nil, List.replicate, List.cons_append, List.nil_append, Nat.reduceAdd, Nat.reduceSub]
  walk_at "go"
  refine ⟨a, C, dx, [], rfl, ha, clsPa T hC, startPa T hC, by decide, ?_⟩
  walk_at "go"
  refine ⟨a, C, dx, _, rfl, upd_same, clsPa T hC, sizePa T hC, (by show 1 < 1000; decide), ?_⟩
  walk_at "go"
  exact k
theorem ok_Pairing (T : Tx P K mg) : MakeO P w K mg base 1 "Pairing" (He.ga K "Pairing") ["self", "start", "size"] (spPair K) := by
  obtain ⟨fd, F, G⟩ := fo_PairingD_initD (P := P) (w := w) (base := base) T
  exact ⟨_, fd, G, T.k_Pairing, T.g_Pairing, F.bindsN fun _ _ _ _ _ _ us hl => match us, hl with | [_, _, _], _ => rfl⟩
abbrev s_SlideD_initD : Stmt := inClass (top 25) 0
theorem sc_SlideD_initD : SupScope ["self", "start", "size", "by"] ["self", "start", "size", "by"] (defScope s_SlideD_initD) := ⟨rfl, rfl, rfl, by decide +kernel, rfl, by decide +kernel, by decide +kernel, by decide +kernel⟩
theorem fo_SlideD_initD (T : Tx P K mg) : (∃ cc fd, FunS P K "__init__" "Slide.__init__" (defArgs s_SlideD_initD) (defBody s_SlideD_initD) (defScope s_SlideD_initD) cc (He.ga K "Slide") (He.ma K (He.ga K "Slide") "__init__") fd ∧ FnOk P w K mg base (L2.CX P w) 4 (He.ma K (He.ga K "Slide") "__init__") fd ["self", "start", "size", "by"] (spInitP K (He.ga K "Slide"))) := by
  obtain ⟨cc, fd, F⟩ := T.f_SlideD_initD
  obtain ⟨_, _, doc, pm, an, cda, ct, _, efd, _⟩ := id F.ex
  subst efd
  refine ⟨cc, _, F, fnS_of F sc_SlideD_initD len_initP ?_⟩
  obtain ⟨g, fdG, G, mG, gG, bG⟩ := ok_Pairing (P := P) (w := w) (base := base) T
  have eg : g = He.ma K (He.ga K "Pairing") "__init__" := by
    have a := mG.init
    have b := T.k_Pairing.init
    rw [a] at b
    exact Value.ref.inj (Option.some.inj (Option.some.inj b))
  subst eg
  intro A outer s H vs Q E hr h
  have nd := sc_SlideD_initD.nd
  obtain ⟨a, dx, v1, v2, v3, d1, d2, d3, rfl, ha, h1, h2, h3, good, bad⟩ := h
  refine ⟨_, (L3.psa_cons (ps_expr (L3.pe_ocall (ok_check_numbers T) (hr.mono (by decide)) tkS (pa_cons (pv 1) (pa_cons (pv 2) (pa_cons (pv 3) pa_nil)))))
  (L3.psa_cons (ps_expr (L3.pe_ocall (ok_check_image T) (hr.mono (by decide)) tkS (pa_cons (pv 1) (pa_cons (pv 2) (pa_cons (pe_op op_add (pv 1) (pv 3)) pa_nil)))))
  (L3.psa_super (pl := _) (p0 := "self") F sc_SlideD_initD rfl rfl rfl rfl rfl T.top_super T.u_Slide_Pairing G (hr.mono (by decide)) bG tkS (pa_cons (pv 1) (pa_cons (pv 2) pa_nil)) (psa_of (pss_one (ps_fld (pv 0) (pv 3) rfl))) rfl))), ?_⟩
  try dsimp only [cxS]
  simp only [L2.start, List.map_cons, List.map_nil, List.length_cons, List.length_nil, List.replicate, List.cons_append, List.nil_append, Nat.reduceAdd, Nat.reduceSub]
  walk_at "go"
  refine ⟨v1, v2, v3, d1, d2, d3, rfl, h1, h2, h3, fun g1 H1 e1 => ?_, fun g => bad (goodP_off g)⟩
  obtain ⟨s, n, t, rfl, rfl, rfl, hs, hn⟩ := goodN_of g1
  have q1 := Dt.int_of h1
  have q2 := Dt.int_of h2
  have q3 := Dt.int_of h3
  subst q1 q2 q3
  walk_at "go"
  refine ⟨_, _, _, rfl, fun l0 => ?_, fun l0 => (bad (goodP_im (by rw [imS]; exact l0))).up e1⟩
  walk_at "go"
  refine i_sup ⟨a, dx, [], rfl, e1 _ _ ha, ?_⟩
  walk_at "go"
  refine ⟨a, _, dx, _, _, rfl, .inl rfl, e1 _ _ ha, ?_⟩
  walk_at "go"
  refine ⟨a, _, dx, _, rfl, upd_same, T.c_Slide, T.a_Slide_by, (by show 2 < 1000; decide), ?_⟩
  walk_at "go"
  refine good (goodP_in hs hn (by rw [imS]; exact l0)) _ (Ux.upd (Ux.upd (Ux.upd (Ux.of e1)))) ?_
  rw [fldS]
  exact upd_same
theorem ok_Slide (T : Tx P K mg) : MakeO P w K mg base 4 "Slide" (He.ga K "Slide") ["self", "start", "size", "by"] (spInitP K (He.ga K "Slide")) := by
  obtain ⟨cc, fd, F, G⟩ := fo_SlideD_initD (P := P) (w := w) (base := base) T
  exact ⟨_, fd, G, T.k_Slide, T.g_Slide, F.bindsN fun _ _ _ _ _ us hl => match us, hl with | [_, _, _, _], _ => rfl⟩
def gK_Slide {α : Type} : List α → List α → List α := fun vs zs => match zs with | [z0, z1, z2] => vs ++ [z2, z1, z0] | _ => vs ++ zs
theorem okK_Slide (T : Tx P K mg) : MakeK P w K mg base 4 "Slide" (He.ga K "Slide") ["self", "start", "size", "by"] ["by", "size", "start"] gK_Slide gK_Slide (spInitP K (He.ga K "Slide")) := by
  obtain ⟨cc, fd, F, G⟩ := fo_SlideD_initD (P := P) (w := w) (base := base) T
  refine ⟨_, fd, G, T.k_Slide, T.g_Slide, FunS.kbinds F 1 ["by", "size", "start"] gK_Slide ?_ ?_⟩
  · intro vs zs us ws ra rb
    match rb with
    | .cons r0 (.cons r1 (.cons r2 .nil)) => exact L2.Vals.append ra (.cons r2 (.cons r1 (.cons r0 .nil)))
    | .nil => exact L2.Vals.append ra .nil
    | .cons a0 .nil => exact L2.Vals.append ra (.cons a0 .nil)
    | .cons a0 (.cons a1 .nil) => exact L2.Vals.append ra (.cons a0 (.cons a1 .nil))
    | .cons a0 (.cons a1 (.cons a2 (.cons a3 a9))) => exact L2.Vals.append ra (.cons a0 (.cons a1 (.cons a2 (.cons a3 a9))))
  · intro _ _ _ _ _ us ws l1 l2
    match us, ws, l1, l2 with
    | [_], [_, _, _], _, _ => rfl
abbrev s_TurnD_initD : Stmt := inClass (top 26) 0
theorem sc_TurnD_initD : SupScope ["self", "start", "size", "total"] ["self", "start", "size", "total"] (defScope s_TurnD_initD) := ⟨rfl, rfl, rfl, by decide +kernel, rfl, by decide +kernel, by decide +kernel, by decide +kernel⟩
theorem fo_TurnD_initD (T : Tx P K mg) : (∃ cc fd, FunS P K "__init__" "Turn.__init__" (defArgs s_TurnD_initD) (defBody s_TurnD_initD) (defScope s_TurnD_initD) cc (He.ga K "Turn") (He.ma K (He.ga K "Turn") "__init__") fd ∧ FnOk P w K mg base (L2.CX P w) 4 (He.ma K (He.ga K "Turn") "__init__") fd ["self", "start", "size", "total"] (spInitP K (He.ga K "Turn"))) := by
  obtain ⟨cc, fd, F⟩ := T.f_TurnD_initD
  obtain ⟨_, _, doc, pm, an, cda, ct, _, efd, _⟩ := id F.ex
  subst efd
  refine ⟨cc, _, F, fnS_of F sc_TurnD_initD len_initP ?_⟩
  obtain ⟨g, fdG, G, mG, gG, bG⟩ := ok_Pairing (P := P) (w := w) (base := base) T
  have eg : g = He.ma K (He.ga K "Pairing") "__init__" := by
    have a := mG.init
    have b := T.k_Pairing.init
    rw [a] at b
    exact Value.ref.inj (Option.some.inj (Option.some.inj b))
  subst eg
  intro A outer s H vs Q E hr h
  have nd := sc_TurnD_initD.nd
  obtain ⟨a, dx, v1, v2, v3, d1, d2, d3, rfl, ha, h1, h2, h3, good, bad⟩ := h
  refine ⟨_, (L3.psa_cons (ps_expr (L3.pe_ocall (ok_check_numbers T) (hr.mono (by decide)) tkS (pa_cons (pv 1) (pa_cons (pv 2) (pa_cons (pv 3) pa_nil)))))
  (L3.psa_cons (ps_expr (L3.pe_ocall (ok_check_image T) (hr.mono (by decide)) tkS (pa_cons (pv 1) (pa_cons (pv 2) (pa_cons (L3.pe_ocall (ok_least_turned T) (hr.mono (by decide)) tkS (pa_cons (pv 1) (pa_cons (pv 2) (pa_cons (pv 3) pa_nil)))) pa_nil)))))
  (L3.psa_super (pl := _) (p0 := "self") F sc_TurnD_initD rfl rfl rfl rfl rfl T.top_super T.u_Turn_Pairing G (hr.mono (by decide)) bG tkS (pa_cons (pv 1) (pa_cons (pv 2) pa_nil)) (psa_of (pss_one (ps_fld (pv 0) (pv 3) rfl))) rfl))), ?_⟩
  try dsimp only [cxS]
  simp only [L2.start, List.map_cons, List.map_nil, List.length_cons, List.length_nil, List.replicate, List.cons_append, List.nil_append, Nat.reduceAdd, Nat.reduceSub]
  walk_at "go"
  refine ⟨v1, v2, v3, d1, d2, d3, rfl, h1, h2, h3, fun g1 H1 e1 => ?_, fun g => bad (goodP_off g)⟩
  obtain ⟨s, n, t, rfl, rfl, rfl, hs, hn⟩ := goodN_of g1
  have q1 := Dt.int_of h1
  have q2 := Dt.int_of h2
  have q3 := Dt.int_of h3
  subst q1 q2 q3
  walk_at "go"
  refine ⟨_, _, _, rfl, ?_⟩
  walk_at "go"
  refine ⟨_, _, _, rfl, fun l0 => ?_, fun l0 => (bad (goodP_im (by rw [imT (neP T)]; exact l0))).up e1⟩
  walk_at "go"
  refine i_sup ⟨a, dx, [], rfl, e1 _ _ ha, ?_⟩
  walk_at "go"
  refine ⟨a, _, dx, _, _, rfl, .inr rfl, e1 _ _ ha, ?_⟩
  walk_at "go"
  refine ⟨a, _, dx, _, rfl, upd_same, T.c_Turn, T.a_Turn_total, (by show 2 < 1000; decide), ?_⟩
  walk_at "go"
  refine good (goodP_in hs hn (by rw [imT (neP T)]; exact l0)) _ (Ux.upd (Ux.upd (Ux.upd (Ux.of e1)))) ?_
  rw [fldT (neP T)]
  exact upd_same
theorem ok_Turn (T : Tx P K mg) : MakeO P w K mg base 4 "Turn" (He.ga K "Turn") ["self", "start", "size", "total"] (spInitP K (He.ga K "Turn")) := by
  obtain ⟨cc, fd, F, G⟩ := fo_TurnD_initD (P := P) (w := w) (base := base) T
  exact ⟨_, fd, G, T.k_Turn, T.g_Turn, F.bindsN fun _ _ _ _ _ us hl => match us, hl with | [_, _, _, _], _ => rfl⟩
def gK_Turn {α : Type} : List α → List α → List α := fun vs zs => match zs with | [z0, z1, z2] => vs ++ [z2, z1, z0] | _ => vs ++ zs
theorem okK_Turn (T : Tx P K mg) : MakeK P w K mg base 4 "Turn" (He.ga K "Turn") ["self", "start", "size", "total"] ["total", "size", "start"] gK_Turn gK_Turn (spInitP K (He.ga K "Turn")) := by
  obtain ⟨cc, fd, F, G⟩ := fo_TurnD_initD (P := P) (w := w) (base := base) T
  refine ⟨_, fd, G, T.k_Turn, T.g_Turn, FunS.kbinds F 1 ["total", "size", "start"] gK_Turn ?_ ?_⟩
  · intro vs zs us ws ra rb
    match rb with
    | .cons r0 (.cons r1 (.cons r2 .nil)) => exact L2.Vals.append ra (.cons r2 (.cons r1 (.cons r0 .nil)))
    | .nil => exact L2.Vals.append ra .nil
    | .cons a0 .nil => exact L2.Vals.append ra (.cons a0 .nil)
    | .cons a0 (.cons a1 .nil) => exact L2.Vals.append ra (.cons a0 (.cons a1 .nil))
    | .cons a0 (.cons a1 (.cons a2 (.cons a3 a9))) => exact L2.Vals.append ra (.cons a0 (.cons a1 (.cons a2 (.cons a3 a9))))
  · intro _ _ _ _ _ us ws l1 l2
    match us, ws, l1, l2 with
    | [_], [_, _, _], _, _ => rfl
abbrev s_Slide_domain : Stmt := inClass (top 25) 1
theorem sc_Slide_domain : FnScope ["self"] ["self"] (defScope s_Slide_domain) := ⟨rfl, rfl, rfl, by decide +kernel, rfl, by decide +kernel, by decide +kernel⟩
theorem fo_Slide_domain (T : Tx P K mg) : (∃ fd, FunD K "domain" "Slide.domain" (defArgs s_Slide_domain) (defBody s_Slide_domain) (defScope s_Slide_domain) [] [] (gAdr K (He.ga K "Slide") "domain") fd ∧ FnOk P w K mg base (L2.CX P w) 5 (gAdr K (He.ga K "Slide") "domain") fd ["self"] (spDom K (He.ga K "Slide"))) := by
  obtain ⟨fd, F⟩ := T.f_Slide_domain
  refine ⟨fd, F, F.ok sc_Slide_domain len_dom ?_⟩
  intro cdv A outer s H vs Q E hr h
  have nd := sc_Slide_domain.nd
  obtain ⟨x, s, n, b, rfl, hp, k⟩ := h
  obtain ⟨⟨dx, hx⟩, hC, hs, hn, hi⟩ := id hp
  rw [fldS] at hx
  refine ⟨_, (pss_one (ps_ret (L3.pe_omake (ok_Stretch T) (hr.mono (by decide)) tkC (pa_cons (pe_fld (pv 0) rfl) (pa_cons (pe_fld (pv 0) rfl) pa_nil))))), ?_⟩
  try dsimp only [cxOf]
  simp only [L2.start, List.map_cons, List.map_nil, List.length_cons, List.length_nil, List.replicate, List.cons_append, List.nil_append, Nat.reduceAdd, Nat.reduceSub]
  walk_at "go"
  refine ⟨x, _, dx, _, _, rfl, hx, T.c_Slide, T.a_Slide_start, rfl, ?_⟩
  walk_at "go"
  refine ⟨x, _, dx, _, _, rfl, hx, T.c_Slide, T.a_Slide_size, rfl, ?_⟩
  walk_at "go"

  refine ap_makeG (Γ := isSt K) (.inl rfl) hs hn fun y H2 e2 n2 hy => ?_
  walk_at "go"
  exact k y H2 e2 n2 hy
theorem ok_Slide_domain (T : Tx P K mg) : PropO P w K mg base 5 (He.ga K "Slide") "domain" ["self"] (spDom K (He.ga K "Slide")) := by
  obtain ⟨fd, F, G⟩ := fo_Slide_domain (P := P) (w := w) (base := base) T
  exact ⟨_, _, fd, G, T.p_Slide_domain, F.bindsN fun _ _ _ _ _ _ us hl => match us, hl with | [_], _ => rfl⟩
abbrev s_Slide_image : Stmt := inClass (top 25) 2
theorem sc_Slide_image : FnScope ["self"] ["self"] (defScope s_Slide_image) := ⟨rfl, rfl, rfl, by decide +kernel, rfl, by decide +kernel, by decide +kernel⟩
theorem fo_Slide_image (T : Tx P K mg) : (∃ fd, FunD K "image" "Slide.image" (defArgs s_Slide_image) (defBody s_Slide_image) (defScope s_Slide_image) [] [] (gAdr K (He.ga K "Slide") "image") fd ∧ FnOk P w K mg base (L2.CX P w) 6 (gAdr K (He.ga K "Slide") "image") fd ["self"] (spImg K (He.ga K "Slide"))) := by
  obtain ⟨fd, F⟩ := T.f_Slide_image
  refine ⟨fd, F, F.ok sc_Slide_image len_img ?_⟩
  intro cdv A outer s H vs Q E hr h
  have nd := sc_Slide_image.nd
  obtain ⟨x, s, n, b, rfl, hp, k⟩ := h
  obtain ⟨⟨dx, hx⟩, hC, hs, hn, hi⟩ := id hp
  rw [fldS] at hx
  refine ⟨_, (pss_one (ps_ret (L3.pe_omake (ok_Stretch T) (hr.mono (by decide)) tkC (pa_cons (pe_op op_add (pe_fld (pv 0) rfl) (pe_fld (pv 0) rfl)) (pa_cons (pe_fld (pv 0) rfl) pa_nil))))), ?_⟩
  try dsimp only [cxOf]
  simp only [L2.start, List.map_cons, List.map_nil, List.length_cons, List.length_nil, List.replicate, List.cons_append, List.nil_append, Nat.reduceAdd, Nat.reduceSub]
  walk_at "go"
  refine ⟨x, _, dx, _, _, rfl, hx, T.c_Slide, T.a_Slide_start, rfl, ?_⟩
  walk_at "go"
  refine ⟨x, _, dx, _, _, rfl, hx, T.c_Slide, T.a_Slide_by, rfl, ?_⟩
  walk_at "go"
  refine ⟨x, _, dx, _, _, rfl, hx, T.c_Slide, T.a_Slide_size, rfl, ?_⟩
  walk_at "go"

  rw [imS] at hi k
  refine ap_makeG (Γ := isSt K) (.inl rfl) hi hn fun y H2 e2 n2 hy => ?_
  walk_at "go"
  rw [icS] at k
  exact k y H2 e2 n2 hy
theorem ok_Slide_image (T : Tx P K mg) : PropO P w K mg base 6 (He.ga K "Slide") "image" ["self"] (spImg K (He.ga K "Slide")) := by
  obtain ⟨fd, F, G⟩ := fo_Slide_image (P := P) (w := w) (base := base) T
  exact ⟨_, _, fd, G, T.p_Slide_image, F.bindsN fun _ _ _ _ _ _ us hl => match us, hl with | [_], _ => rfl⟩
abbrev s_SlideD_invertD : Stmt := inClass (top 25) 8
theorem sc_SlideD_invertD : FnScope ["self"] ["self"] (defScope s_SlideD_invertD) := ⟨rfl, rfl, rfl, by decide +kernel, rfl, by decide +kernel, by decide +kernel⟩
theorem fo_SlideD_invertD (T : Tx P K mg) : (∃ fd, FunD K "__invert__" "Slide.__invert__" (defArgs s_SlideD_invertD) (defBody s_SlideD_invertD) (defScope s_SlideD_invertD) [] [] (He.ma K (He.ga K "Slide") "__invert__") fd ∧ FnOk P w K mg base (L2.CX P w) 6 (He.ma K (He.ga K "Slide") "__invert__") fd ["self"] (spInv K (He.ga K "Slide"))) := by
  obtain ⟨fd, F⟩ := T.f_SlideD_invertD
  refine ⟨fd, F, F.ok sc_SlideD_invertD len_inv ?_⟩
  intro cdv A outer s H vs Q E hr h
  have nd := sc_SlideD_invertD.nd
  obtain ⟨x, s, n, b, rfl, hp, k⟩ := h
  obtain ⟨⟨dx, hx⟩, hC, hs, hn, hi⟩ := id hp
  rw [fldS] at hx
  refine ⟨_, (pss_one (ps_ret (L3.pe_omake (ok_Slide T) (hr.mono (by decide)) tkC (pa_cons (pe_op op_add (pe_fld (pv 0) rfl) (pe_fld (pv 0) rfl)) (pa_cons (pe_fld (pv 0) rfl) (pa_cons (pe_un un_neg (pe_fld (pv 0) rfl)) pa_nil)))))), ?_⟩
  try dsimp only [cxOf]
  simp only [L2.start, List.map_cons, List.map_nil, List.length_cons, List.length_nil, List.replicate, List.cons_append, List.nil_append, Nat.reduceAdd, Nat.reduceSub]
  walk_at "go"
  refine ⟨x, _, dx, _, _, rfl, hx, T.c_Slide, T.a_Slide_start, rfl, ?_⟩
  walk_at "go"
  refine ⟨x, _, dx, _, _, rfl, hx, T.c_Slide, T.a_Slide_by, rfl, ?_⟩
  walk_at "go"
  refine ⟨x, _, dx, _, _, rfl, hx, T.c_Slide, T.a_Slide_size, rfl, ?_⟩
  walk_at "go"
  refine ⟨x, _, dx, _, _, rfl, hx, T.c_Slide, T.a_Slide_by, rfl, ?_⟩
  walk_at "go"

  rw [imS, nbS] at k
  have hi2 := hi
  rw [imS] at hi2
  refine ap_makePG (.inl rfl) hi2 hn (by rw [imS]; omega) fun y H2 e2 n2 hy => ?_
  walk_at "go"
  exact k y H2 e2 n2 hy
theorem ok_SlideD_invertD (T : Tx P K mg) : MethO P w K mg base 6 (He.ga K "Slide") "__invert__" ["self"] (spInv K (He.ga K "Slide")) := by
  obtain ⟨fd, F, G⟩ := fo_SlideD_invertD (P := P) (w := w) (base := base) T
  exact ⟨_, fd, G, T.m_SlideD_invertD, F.bindsN fun _ _ _ _ _ _ us hl => match us, hl with | [_], _ => rfl⟩
abbrev s_Turn_domain : Stmt := inClass (top 26) 1
theorem sc_Turn_domain : FnScope ["self"] ["self"] (defScope s_Turn_domain) := ⟨rfl, rfl, rfl, by decide +kernel, rfl, by decide +kernel, by decide +kernel⟩
theorem fo_Turn_domain (T : Tx P K mg) : (∃ fd, FunD K "domain" "Turn.domain" (defArgs s_Turn_domain) (defBody s_Turn_domain) (defScope s_Turn_domain) [] [] (gAdr K (He.ga K "Turn") "domain") fd ∧ FnOk P w K mg base (L2.CX P w) 5 (gAdr K (He.ga K "Turn") "domain") fd ["self"] (spDom K (He.ga K "Turn"))) := by
  obtain ⟨fd, F⟩ := T.f_Turn_domain
  refine ⟨fd, F, F.ok sc_Turn_domain len_dom ?_⟩
  intro cdv A outer s H vs Q E hr h
  have nd := sc_Turn_domain.nd
  obtain ⟨x, s, n, b, rfl, hp, k⟩ := h
  obtain ⟨⟨dx, hx⟩, hC, hs, hn, hi⟩ := id hp
  rw [fldT (neP T)] at hx
  refine ⟨_, (pss_one (ps_ret (L3.pe_omake (ok_Stretch T) (hr.mono (by decide)) tkC (pa_cons (pe_fld (pv 0) rfl) (pa_cons (pe_fld (pv 0) rfl) pa_nil))))), ?_⟩
  try dsimp only [cxOf]
  simp only [L2.start, List.map_cons, List.map_nil, List.length_cons, List.length_nil, List.replicate, List.cons_append, List.nil_append, Nat.reduceAdd, Nat.reduceSub]
  walk_at "go"
  refine ⟨x, _, dx, _, _, rfl, hx, T.c_Turn, T.a_Turn_start, rfl, ?_⟩
  walk_at "go"
  refine ⟨x, _, dx, _, _, rfl, hx, T.c_Turn, T.a_Turn_size, rfl, ?_⟩
  walk_at "go"

  refine ap_makeG (Γ := isSt K) (.inl rfl) hs hn fun y H2 e2 n2 hy => ?_
  walk_at "go"
  exact k y H2 e2 n2 hy
theorem ok_Turn_domain (T : Tx P K mg) : PropO P w K mg base 5 (He.ga K "Turn") "domain" ["self"] (spDom K (He.ga K "Turn")) := by
  obtain ⟨fd, F, G⟩ := fo_Turn_domain (P := P) (w := w) (base := base) T
  exact ⟨_, _, fd, G, T.p_Turn_domain, F.bindsN fun _ _ _ _ _ _ us hl => match us, hl with | [_], _ => rfl⟩
abbrev s_Turn_image : Stmt := inClass (top 26) 2
theorem sc_Turn_image : FnScope ["self"] ["self"] (defScope s_Turn_image) := ⟨rfl, rfl, rfl, by decide +kernel, rfl, by decide +kernel, by decide +kernel⟩
theorem fo_Turn_image (T : Tx P K mg) : (∃ fd, FunD K "image" "Turn.image" (defArgs s_Turn_image) (defBody s_Turn_image) (defScope s_Turn_image) [] [] (gAdr K (He.ga K "Turn") "image") fd ∧ FnOk P w K mg base (L2.CX P w) 6 (gAdr K (He.ga K "Turn") "image") fd ["self"] (spImg K (He.ga K "Turn"))) := by
  obtain ⟨fd, F⟩ := T.f_Turn_image
  refine ⟨fd, F, F.ok sc_Turn_image len_img ?_⟩
  intro cdv A outer s H vs Q E hr h
  have nd := sc_Turn_image.nd
  obtain ⟨x, s, n, b, rfl, hp, k⟩ := h
  obtain ⟨⟨dx, hx⟩, hC, hs, hn, hi⟩ := id hp
  rw [fldT (neP T)] at hx
  refine ⟨_, (pss_one (ps_ret (L3.pe_omake (ok_Backward T) (hr.mono (by decide)) tkC (pa_cons (L3.pe_ocall (ok_least_turned T) (hr.mono (by decide)) tkC (pa_cons (pe_fld (pv 0) rfl) (pa_cons (pe_fld (pv 0) rfl) (pa_cons (pe_fld (pv 0) rfl) pa_nil)))) (pa_cons (pe_fld (pv 0) rfl) pa_nil))))), ?_⟩
  try dsimp only [cxOf]
  simp only [L2.start, List.map_cons, List.map_nil, List.length_cons, List.length_nil, List.replicate, List.cons_append, List.nil_append, Nat.reduceAdd, Nat.reduceSub]
  walk_at "go"
  refine ⟨x, _, dx, _, _, rfl, hx, T.c_Turn, T.a_Turn_start, rfl, ?_⟩
  walk_at "go"
  refine ⟨x, _, dx, _, _, rfl, hx, T.c_Turn, T.a_Turn_size, rfl, ?_⟩
  walk_at "go"
  refine ⟨x, _, dx, _, _, rfl, hx, T.c_Turn, T.a_Turn_total, rfl, ?_⟩
  walk_at "go"
  refine ⟨_, _, _, rfl, ?_⟩
  walk_at "go"
  refine ⟨x, _, dx, _, _, rfl, hx, T.c_Turn, T.a_Turn_size, rfl, ?_⟩
  walk_at "go"

  rw [imT (neP T)] at hi k
  refine ap_makeG (Γ := isBk K) rfl hi hn fun y H2 e2 n2 hy => ?_
  walk_at "go"
  rw [icT (neP T)] at k
  exact k y H2 e2 n2 hy
theorem ok_Turn_image (T : Tx P K mg) : PropO P w K mg base 6 (He.ga K "Turn") "image" ["self"] (spImg K (He.ga K "Turn")) := by
  obtain ⟨fd, F, G⟩ := fo_Turn_image (P := P) (w := w) (base := base) T
  exact ⟨_, _, fd, G, T.p_Turn_image, F.bindsN fun _ _ _ _ _ _ us hl => match us, hl with | [_], _ => rfl⟩
abbrev s_TurnD_invertD : Stmt := inClass (top 26) 8
theorem sc_TurnD_invertD : FnScope ["self"] ["self"] (defScope s_TurnD_invertD) := ⟨rfl, rfl, rfl, by decide +kernel, rfl, by decide +kernel, by decide +kernel⟩
theorem fo_TurnD_invertD (T : Tx P K mg) : (∃ fd, FunD K "__invert__" "Turn.__invert__" (defArgs s_TurnD_invertD) (defBody s_TurnD_invertD) (defScope s_TurnD_invertD) [] [] (He.ma K (He.ga K "Turn") "__invert__") fd ∧ FnOk P w K mg base (L2.CX P w) 6 (He.ma K (He.ga K "Turn") "__invert__") fd ["self"] (spInv K (He.ga K "Turn"))) := by
  obtain ⟨fd, F⟩ := T.f_TurnD_invertD
  refine ⟨fd, F, F.ok sc_TurnD_invertD len_inv ?_⟩
  intro cdv A outer s H vs Q E hr h
  have nd := sc_TurnD_invertD.nd
  obtain ⟨x, s, n, b, rfl, hp, k⟩ := h
  obtain ⟨⟨dx, hx⟩, hC, hs, hn, hi⟩ := id hp
  rw [fldT (neP T)] at hx
  refine ⟨_, (pss_one (ps_ret (L3.pe_omake (ok_Turn T) (hr.mono (by decide)) tkC (pa_cons (L3.pe_ocall (ok_least_turned T) (hr.mono (by decide)) tkC (pa_cons (pe_fld (pv 0) rfl) (pa_cons (pe_fld (pv 0) rfl) (pa_cons (pe_fld (pv 0) rfl) pa_nil)))) (pa_cons (pe_fld (pv 0) rfl) (pa_cons (pe_fld (pv 0) rfl) pa_nil)))))), ?_⟩
  try dsimp only [cxOf]
  simp only [L2.start, List.map_cons, List.map_nil, List.length_cons, List.length_nil, List.replicate, List.cons_append, List.nil_append, Nat.reduceAdd, Nat.reduceSub]
  walk_at "go"
  refine ⟨x, _, dx, _, _, rfl, hx, T.c_Turn, T.a_Turn_start, rfl, ?_⟩
  walk_at "go"
  refine ⟨x, _, dx, _, _, rfl, hx, T.c_Turn, T.a_Turn_size, rfl, ?_⟩
  walk_at "go"
  refine ⟨x, _, dx, _, _, rfl, hx, T.c_Turn, T.a_Turn_total, rfl, ?_⟩
  walk_at "go"
  refine ⟨_, _, _, rfl, ?_⟩
  walk_at "go"
  refine ⟨x, _, dx, _, _, rfl, hx, T.c_Turn, T.a_Turn_size, rfl, ?_⟩
  walk_at "go"
  refine ⟨x, _, dx, _, _, rfl, hx, T.c_Turn, T.a_Turn_total, rfl, ?_⟩
  walk_at "go"

  rw [imT (neP T), nbT (neP T)] at k
  have hi2 := hi
  rw [imT (neP T)] at hi2
  refine ap_makePG (.inr rfl) hi2 hn (by rw [imT (neP T)]; omega) fun y H2 e2 n2 hy => ?_
  walk_at "go"
  exact k y H2 e2 n2 hy
theorem ok_TurnD_invertD (T : Tx P K mg) : MethO P w K mg base 6 (He.ga K "Turn") "__invert__" ["self"] (spInv K (He.ga K "Turn")) := by
  obtain ⟨fd, F, G⟩ := fo_TurnD_invertD (P := P) (w := w) (base := base) T
  exact ⟨_, fd, G, T.m_TurnD_invertD, F.bindsN fun _ _ _ _ _ _ us hl => match us, hl with | [_], _ => rfl⟩
theorem okm_Pa_invert (T : Tx P K mg) : ∀ C, isPa K C → MethO P w K mg base 6 C "__invert__" ["self"] (spInv K C) ∧ Cls K C := by
  rintro C (rfl | rfl)
  · exact ⟨ok_SlideD_invertD T, T.c_Slide⟩
  · exact ⟨ok_TurnD_invertD T, T.c_Turn⟩
theorem okp_Pa_domain (T : Tx P K mg) : ∀ C, isPa K C → PropO P w K mg base 5 C "domain" ["self"] (spDom K C) ∧ Cls K C := by
  rintro C (rfl | rfl)
  · exact ⟨ok_Slide_domain T, T.c_Slide⟩
  · exact ⟨ok_Turn_domain T, T.c_Turn⟩
theorem okp_Pa_image (T : Tx P K mg) : ∀ C, isPa K C → PropO P w K mg base 6 C "image" ["self"] (spImg K C) ∧ Cls K C := by
  rintro C (rfl | rfl)
  · exact ⟨ok_Slide_image T, T.c_Slide⟩
  · exact ⟨ok_Turn_image T, T.c_Turn⟩
abbrev s_Slide_upright : Stmt := inClass (top 25) 3
theorem sc_Slide_upright : FnScope ["self"] ["self"] (defScope s_Slide_upright) := ⟨rfl, rfl, rfl, by decide +kernel, rfl, by decide +kernel, by decide +kernel⟩
theorem fo_Slide_upright (T : Tx P K mg) : (∃ fd, FunD K "upright" "Slide.upright" (defArgs s_Slide_upright) (defBody s_Slide_upright) (defScope s_Slide_upright) [] [] (gAdr K (He.ga K "Slide") "upright") fd ∧ FnOk P w K mg base (L2.CX P w) 7 (gAdr K (He.ga K "Slide") "upright") fd ["self"] (spUp K (He.ga K "Slide"))) := by
  obtain ⟨fd, F⟩ := T.f_Slide_upright
  refine ⟨fd, F, F.ok sc_Slide_upright len_up ?_⟩
  intro cdv A outer s H vs Q E hr h
  have nd := sc_Slide_upright.nd
  obtain ⟨x, s, n, b, rfl, hp, k1, k2⟩ := h
  obtain ⟨⟨dx, hx⟩, hC, hs, hn, hi⟩ := id hp
  rw [fldS] at hx
  refine ⟨_, (pss_one (ps_ret (pe_ifExp (pt_cmpR op_ge (pe_fld (pv 0) rfl) pe_int (nomark _)) (pv 0) (L3.pe_inv (okm_Pa_invert T) (hr.mono (by decide)) tkC (pv 0))))), ?_⟩
  try dsimp only [cxOf]
  simp only [L2.start, List.map_cons, List.map_nil, List.length_cons, List.length_nil, List.replicate, List.cons_append, List.nil_append, Nat.reduceAdd, Nat.reduceSub]
  walk_at "go"
  refine ⟨x, _, dx, _, _, rfl, hx, T.c_Slide, T.a_Slide_by, rfl, ?_⟩
  walk_at "go"

  apply i_dec <;> intro c1
  · walk_at "go"
    refine k1 ?_
    rw [imS]
    omega
  · walk_at "go"
    refine ⟨x, _, dx, _, rfl, hx, .inl rfl, x, s, n, b, rfl, hp, fun y H2 e2 n2 hy => ?_⟩
    walk_at "go"
    refine k2 ?_ y H2 e2 n2 hy
    rw [imS]
    omega
theorem ok_Slide_upright (T : Tx P K mg) : PropO P w K mg base 7 (He.ga K "Slide") "upright" ["self"] (spUp K (He.ga K "Slide")) := by
  obtain ⟨fd, F, G⟩ := fo_Slide_upright (P := P) (w := w) (base := base) T
  exact ⟨_, _, fd, G, T.p_Slide_upright, F.bindsN fun _ _ _ _ _ _ us hl => match us, hl with | [_], _ => rfl⟩
abbrev s_Turn_upright : Stmt := inClass (top 26) 3
theorem sc_Turn_upright : FnScope ["self"] ["self"] (defScope s_Turn_upright) := ⟨rfl, rfl, rfl, by decide +kernel, rfl, by decide +kernel, by decide +kernel⟩
theorem fo_Turn_upright (T : Tx P K mg) : (∃ fd, FunD K "upright" "Turn.upright" (defArgs s_Turn_upright) (defBody s_Turn_upright) (defScope s_Turn_upright) [] [] (gAdr K (He.ga K "Turn") "upright") fd ∧ FnOk P w K mg base (L2.CX P w) 7 (gAdr K (He.ga K "Turn") "upright") fd ["self"] (spUp K (He.ga K "Turn"))) := by
  obtain ⟨fd, F⟩ := T.f_Turn_upright
  refine ⟨fd, F, F.ok sc_Turn_upright len_up ?_⟩
  intro cdv A outer s H vs Q E hr h
  have nd := sc_Turn_upright.nd
  obtain ⟨x, s, n, b, rfl, hp, k1, k2⟩ := h
  obtain ⟨⟨dx, hx⟩, hC, hs, hn, hi⟩ := id hp
  rw [fldT (neP T)] at hx
  refine ⟨_, (pss_one (ps_ret (pe_ifExp (pt_cmpR op_ge (L3.pe_ocall (ok_least_turned T) (hr.mono (by decide)) tkC (pa_cons (pe_fld (pv 0) rfl) (pa_cons (pe_fld (pv 0) rfl) (pa_cons (pe_fld (pv 0) rfl) pa_nil)))) (pe_fld (pv 0) rfl) (nomark _)) (pv 0) (L3.pe_inv (okm_Pa_invert T) (hr.mono (by decide)) tkC (pv 0))))), ?_⟩
  try dsimp only [cxOf]
  simp only [L2.start, List.map_cons, List.map_nil, List.length_cons, List.length_nil, List.replicate, List.cons_append, List.nil_append, Nat.reduceAdd, Nat.reduceSub]
  walk_at "go"
  refine ⟨x, _, dx, _, _, rfl, hx, T.c_Turn, T.a_Turn_start, rfl, ?_⟩
  walk_at "go"
  refine ⟨x, _, dx, _, _, rfl, hx, T.c_Turn, T.a_Turn_size, rfl, ?_⟩
  walk_at "go"
  refine ⟨x, _, dx, _, _, rfl, hx, T.c_Turn, T.a_Turn_total, rfl, ?_⟩
  walk_at "go"
  refine ⟨_, _, _, rfl, ?_⟩
  walk_at "go"
  refine ⟨x, _, dx, _, _, rfl, hx, T.c_Turn, T.a_Turn_start, rfl, ?_⟩
  walk_at "go"

  apply i_dec <;> intro c1
  · walk_at "go"
    refine k1 ?_
    rw [imT (neP T)]
    omega
  · walk_at "go"
    refine ⟨x, _, dx, _, rfl, hx, .inr rfl, x, s, n, b, rfl, hp, fun y H2 e2 n2 hy => ?_⟩
    walk_at "go"
    refine k2 ?_ y H2 e2 n2 hy
    rw [imT (neP T)]
    omega
theorem ok_Turn_upright (T : Tx P K mg) : PropO P w K mg base 7 (He.ga K "Turn") "upright" ["self"] (spUp K (He.ga K "Turn")) := by
  obtain ⟨fd, F, G⟩ := fo_Turn_upright (P := P) (w := w) (base := base) T
  exact ⟨_, _, fd, G, T.p_Turn_upright, F.bindsN fun _ _ _ _ _ _ us hl => match us, hl with | [_], _ => rfl⟩
theorem okp_Pa_upright (T : Tx P K mg) : ∀ C, isPa K C → PropO P w K mg base 7 C "upright" ["self"] (spUp K C) ∧ Cls K C := by
  rintro C (rfl | rfl)
  · exact ⟨ok_Slide_upright T, T.c_Slide⟩
  · exact ⟨ok_Turn_upright T, T.c_Turn⟩
abbrev s__law_box : Stmt := top 28
theorem sc__law_box : FnScope ["_law_script", "_law_k", "_law_own", "_law_cell", "_law_seed"] ["_law_script", "_law_k", "_law_own"] (defScope s__law_box) := ⟨rfl, rfl, rfl, by decide +kernel, rfl, by decide +kernel, by decide +kernel⟩
theorem fo__law_box (T : Tx P K mg) : (∃ fd, FunD K "_law_box" "_law_box" (defArgs s__law_box) (defBody s__law_box) (defScope s__law_box) [] [] (He.ga K "_law_box") fd ∧ FnOk P w K mg base (L2.CX P w) 1 (He.ga K "_law_box") fd ["_law_script", "_law_k", "_law_own"] (spBox K)) := by
  obtain ⟨fd, F⟩ := T.f__law_box
  refine ⟨fd, F, F.ok sc__law_box len_box ?_⟩
  intro cdv A outer s H vs Q E hr h
  have nd := sc__law_box.nd
  obtain ⟨a, ns, k, o, rfl, hs, hk, hk2, ho, ho2, q⟩ := h
  refine ⟨_, (pss_cons (ps_set (i := 3) nd rfl (.inl rfl) (pe_op op_add (pe_op op_add (pe_op L3.op_mulX pe_int (pv 1)) (pe_op L3.op_mulX pe_int (pv 2))) pe_int))
  (pss_cons (ps_if (pt_cmpR op_lt (pv 1) (pe_callB call_len_seq (by rfl) T.z_len boot_len (pa_cons (pv 0) pa_nil)) (nomark _)) (pss_one (ps_set (i := 3) nd rfl (.inl rfl) (pe_callB call_abs (by rfl) T.z_abs (by decide +kernel) (pa_cons (pe_ix ix_list (pv 0) (pv 1) (fun _ _ => rfl)) pa_nil)))) (pss_one (ps_if (pt_cmpR op_gt (pe_callB call_len_seq (by rfl) T.z_len boot_len (pa_cons (pv 0) pa_nil)) pe_int (nomark _)) (pss_one (ps_set (i := 3) nd rfl (.inl rfl) (pe_op op_add (pv 3) (pe_op L3.op_mulX (pe_op op_mod (pe_callB call_abs (by rfl) T.z_abs (by decide +kernel) (pa_cons (pe_ix ix_list (pv 0) (pe_op op_mod (pv 1) (pe_callB call_len_seq (by rfl) T.z_len boot_len (pa_cons (pv 0) pa_nil))) (fun _ _ => rfl)) pa_nil)) pe_int) pe_int)))) pss_nil)))
  (pss_cons (ps_set (i := 4) nd rfl (.inl rfl) (pe_op op_add (pe_op op_mod (pe_op op_add (pe_op L3.op_mulX (pe_op op_mod (pv 3) pe_int) pe_int) (pe_op L3.op_mulX pe_int (pe_op op_add (pv 1) (pe_op L3.op_mulX pe_int (pv 2))))) pe_int) pe_int))
  (pss_one (ps_ret (pe_lst (pa_cons (pe_ix ix_list (pe_lst (pa_cons pe_int (pa_cons (pv 3) pa_nil))) (pe_callTy call_int1 (by rfl) T.z_int (by decide +kernel) (pa_cons (pe_cmpR op_ge (pv 3) (pe_op op_pow pe_int pe_int) (nomark _)) pa_nil)) (fun _ _ => rfl)) (pa_cons (pv 4) (pa_cons pe_int pa_nil))))))))), ?_⟩
  try dsimp only [cxOf]
  simp only [L2.start, List.map_cons, List.map_nil, List.length_cons, List.length_nil, List.replicate, List.cons_append, List.nil_append, Nat.reduceAdd, Nat.reduceSub]
  walk_at "go"
  refine ⟨a, _, rfl, .inl hs, ?_⟩
  walk_at "go"
  apply i_dec <;> intro c1
  · rw [List.length_map] at c1
    obtain ⟨i, hi⟩ := atI_map hk c1
    walk_at "go"
    refine i_ixL hs hi ?_
    walk_at "go"
    refine ⟨_, rfl, ?_⟩
    walk_at "go"
    refine i_newL fun p1 H1 e1 n1 h1 => ?_
    walk_at "go"
    refine .inr ⟨_, rfl, ?_⟩
    refine i_ix2 (SqL.of h1) (fun hb => ?_) fun hb => ?_
    · have hc := of_decide_eq_true hb
      walk_at "go"
      refine i_newL fun p2 H2 e2 n2 h2 => ?_
      refine q p2 H2 (Ex.back e1 n2) (e1.trans e2) ⟨_, _, _, h2, ?_, ?_, ?_, ?_⟩
      · exact Int.le_trans (by decide) hc
      all_goals omega
    · walk_at "go"
      refine i_newL fun p2 H2 e2 n2 h2 => ?_
      refine q p2 H2 (Ex.back e1 n2) (e1.trans e2) ⟨_, _, _, h2, ?_, ?_, ?_, ?_⟩
      all_goals omega
  · walk_at "go"
    refine ⟨a, _, rfl, .inl hs, ?_⟩
    walk_at "go"
    apply i_dec <;> intro c2
    · rw [List.length_map] at c2
      walk_at "go"
      refine ⟨a, _, rfl, .inl hs, ?_⟩
      rw [List.length_map]
      walk_at "go"
      obtain ⟨i, hi⟩ := atI_map (ns := ns) (k := k % ns.length) (Int.emod_nonneg _ (by omega)) (Int.emod_lt_of_pos _ (by omega))
      refine i_ixL hs hi ?_
      walk_at "go"
      refine ⟨_, rfl, ?_⟩
      have ai := abs_nonneg i
      walk_at "go"
      refine i_newL fun p1 H1 e1 n1 h1 => ?_
      walk_at "go"
      refine .inr ⟨_, rfl, ?_⟩
      refine i_ix2 (SqL.of h1) (fun hb => ?_) fun hb => ?_
      · have hc := of_decide_eq_true hb
        walk_at "go"
        refine i_newL fun p2 H2 e2 n2 h2 => ?_
        refine q p2 H2 (Ex.back e1 n2) (e1.trans e2) ⟨_, _, _, h2, ?_, ?_, ?_, ?_⟩
        · exact Int.le_trans (by decide) hc
        all_goals omega
      · walk_at "go"
        refine i_newL fun p2 H2 e2 n2 h2 => ?_
        refine q p2 H2 (Ex.back e1 n2) (e1.trans e2) ⟨_, _, _, h2, ?_, ?_, ?_, ?_⟩
        all_goals omega
    · walk_at "go"
      walk_at "go"
      refine i_newL fun p1 H1 e1 n1 h1 => ?_
      walk_at "go"
      refine .inr ⟨_, rfl, ?_⟩
      refine i_ix2 (SqL.of h1) (fun hb => ?_) fun hb => ?_
      · have hc := of_decide_eq_true hb
        walk_at "go"
        refine i_newL fun p2 H2 e2 n2 h2 => ?_
        refine q p2 H2 (Ex.back e1 n2) (e1.trans e2) ⟨_, _, _, h2, ?_, ?_, ?_, ?_⟩
        · exact Int.le_trans (by decide) hc
        all_goals omega
      · walk_at "go"
        refine i_newL fun p2 H2 e2 n2 h2 => ?_
        refine q p2 H2 (Ex.back e1 n2) (e1.trans e2) ⟨_, _, _, h2, ?_, ?_, ?_, ?_⟩
        all_goals omega
theorem ok__law_box (T : Tx P K mg) : DefO P w K mg base 1 "_law_box" ["_law_script", "_law_k", "_law_own"] (spBox K) := by
  obtain ⟨fd, F, G⟩ := fo__law_box (P := P) (w := w) (base := base) T
  exact ⟨_, fd, G, T.g__law_box, F.kp, F.bindsN fun _ _ _ _ _ _ us hl => match us, hl with | [_, _, _], _ => rfl⟩
abbrev s__law_take : Stmt := top 29
theorem sc__law_take : FnScope ["_law_box_here", "_law_many", "_law_digit", "_law_raw", "_law_wide"] ["_law_box_here", "_law_many"] (defScope s__law_take) := ⟨rfl, rfl, rfl, by decide +kernel, rfl, by decide +kernel, by decide +kernel⟩
theorem fo__law_take (T : Tx P K mg) : (∃ fd, FunD K "_law_take" "_law_take" (defArgs s__law_take) (defBody s__law_take) (defScope s__law_take) [] [] (He.ga K "_law_take") fd ∧ FnOk P w K mg base (L2.CX P w) 1 (He.ga K "_law_take") fd ["_law_box_here", "_law_many"] spTake) := by
  obtain ⟨fd, F⟩ := T.f__law_take
  refine ⟨fd, F, F.ok sc__law_take len_take ?_⟩
  intro cdv A outer s H vs Q E hr h
  have nd := sc__law_take.nd
  obtain ⟨b, n, rfl, ⟨x, y, z, hb, hx, hy, hy2, hz⟩, hn, hn2, k⟩ := h
  refine ⟨_, (pss_cons (ps_if (pt_cmpR op_gt (pe_ix ix_list (pv 0) pe_int (fun _ _ => rfl)) pe_int (nomark _)) (pss_cons (ps_set (i := 2) nd rfl (.inl rfl) (pe_op op_mod (pe_ix ix_list (pv 0) pe_int (fun _ _ => rfl)) (pv 1)))
  (pss_cons (ps_asg (pe_op op_fdivW (pe_ix ix_list (pv 0) pe_int (fun _ _ => rfl)) (pv 1)) (pg_sub (pv 0) pe_int set_list))
  (pss_one (ps_ret (pv 2))))) pss_nil)
  (pss_cons (ps_asg (pe_op op_add (pe_ix ix_list (pv 0) pe_int (fun _ _ => rfl)) pe_int) (pg_sub (pv 0) pe_int set_list))
  (pss_cons (ps_set (i := 3) nd rfl (.inl rfl) (pe_op op_mod (pe_op L3.op_mulX (pe_op op_add (pe_ix ix_list (pv 0) pe_int (fun _ _ => rfl)) (pe_op L3.op_mulX pe_int (pe_ix ix_list (pv 0) pe_int (fun _ _ => rfl)))) pe_int) pe_int))
  (pss_cons (ps_asg (pe_op op_add (pe_op op_mod (pe_op op_add (pe_op L3.op_mulX (pv 3) pe_int) pe_int) pe_int) pe_int) (pg_sub (pv 0) pe_int set_list))
  (pss_cons (ps_if (pt_cmpR op_lt (pv 1) (pe_op op_pow pe_int pe_int) (nomark _)) (pss_one (ps_ret (pe_op op_mod (pe_op op_fdivW (pe_op op_add (pe_op L3.op_mulX (pv 3) pe_int) (pe_ix ix_list (pv 0) pe_int (fun _ _ => rfl))) pe_int) (pv 1)))) pss_nil)
  (pss_cons (ps_set (i := 4) nd rfl (.inl rfl) (pe_op L3.op_mulX (pe_op op_add (pe_op L3.op_mulX (pv 3) pe_int) (pe_ix ix_list (pv 0) pe_int (fun _ _ => rfl))) (pe_op op_pow pe_int pe_int)))
  (pss_one (ps_ret (pe_op op_mod (pe_op op_add (pe_op op_add (pv 4) (pe_op L3.op_mulX (pe_op op_pow (pe_ix ix_list (pv 0) pe_int (fun _ _ => rfl)) pe_int) pe_int)) (pv 3)) (pv 1)))))))))), ?_⟩
  try dsimp only [cxOf]
  simp only [L2.start, List.map_cons, List.map_nil, List.length_cons, List.length_nil, List.replicate, List.cons_append, List.nil_append, Nat.reduceAdd, Nat.reduceSub]
  walk_at "go"
  apply i_dec <;> intro hx0
  · walk_at "go"
    refine k _ _ (Int.emod_nonneg _ (by omega)) (Int.emod_lt_of_pos _ (by omega)) (Bx.upd hb) ⟨x / n, y, z, upd_same, Int.ediv_nonneg hx (by omega), hy, hy2, hz⟩
  · walk_at "go"
    apply i_dec <;> intro h40
    · walk_at "go"
      exact k _ _ (Int.emod_nonneg _ (by omega)) (Int.emod_lt_of_pos _ (by omega)) ((Bx.upd hb).trans (Bx.upd upd_same)) ⟨x, _, z + 1, upd_same, hx, by omega, by omega, by omega⟩
    · walk_at "go"
      exact k _ _ (Int.emod_nonneg _ (by omega)) (Int.emod_lt_of_pos _ (by omega)) ((Bx.upd hb).trans (Bx.upd upd_same)) ⟨x, _, z + 1, upd_same, hx, by omega, by omega, by omega⟩
theorem ok__law_take (T : Tx P K mg) : DefO P w K mg base 1 "_law_take" ["_law_box_here", "_law_many"] spTake := by
  obtain ⟨fd, F, G⟩ := fo__law_take (P := P) (w := w) (base := base) T
  exact ⟨_, fd, G, T.g__law_take, F.kp, F.bindsN fun _ _ _ _ _ _ us hl => match us, hl with | [_, _], _ => rfl⟩
abbrev s__law_number : Stmt := top 30
theorem sc__law_number : FnScope ["_law_box_here", "_law_some"] ["_law_box_here"] (defScope s__law_number) := ⟨rfl, rfl, rfl, by decide +kernel, rfl, by decide +kernel, by decide +kernel⟩
theorem fo__law_number (T : Tx P K mg) : (∃ fd, FunD K "_law_number" "_law_number" (defArgs s__law_number) (defBody s__law_number) (defScope s__law_number) [] [] (He.ga K "_law_number") fd ∧ FnOk P w K mg base (L2.CX P w) 2 (He.ga K "_law_number") fd ["_law_box_here"] (spDrawI (-11) (10 ^ 31))) := by
  obtain ⟨fd, F⟩ := T.f__law_number
  refine ⟨fd, F, F.ok sc__law_number len_drawI ?_⟩
  intro cdv A outer s H vs Q E hr h
  have nd := sc__law_number.nd
  obtain ⟨b, rfl, hb, k⟩ := h
  refine ⟨_, (pss_cons (ps_set (i := 1) nd rfl (.inl rfl) (pe_lst (pa_cons (L3.pe_ocall (ok__law_take T) (hr.mono (by decide)) tkC (pa_cons (pv 0) (pa_cons pe_int pa_nil))) (pa_cons (L3.pe_ocall (ok__law_take T) (hr.mono (by decide)) tkC (pa_cons (pv 0) (pa_cons pe_int pa_nil))) (pa_cons (L3.pe_ocall (ok__law_take T) (hr.mono (by decide)) tkC (pa_cons (pv 0) (pa_cons pe_int pa_nil))) (pa_cons (pe_op op_sub (pe_op op_pow pe_int pe_int) (L3.pe_ocall (ok__law_take T) (hr.mono (by decide)) tkC (pa_cons (pv 0) (pa_cons pe_int pa_nil)))) pa_nil))))))
  (pss_cons (ps_set (i := 1) nd rfl (.inl rfl) (pe_op op_cat (pv 1) (pe_lst (pa_cons (pe_op op_sub pe_int (L3.pe_ocall (ok__law_take T) (hr.mono (by decide)) tkC (pa_cons (pv 0) (pa_cons pe_int pa_nil)))) (pa_cons (pe_ix ix_list (pe_lst (pa_cons (L3.pe_ocall (ok__law_take T) (hr.mono (by decide)) tkC (pa_cons (pv 0) (pa_cons (pe_op op_pow pe_int pe_int) pa_nil))) (pa_cons (pe_op op_pow pe_int pe_int) pa_nil))) (L3.pe_ocall (ok__law_take T) (hr.mono (by decide)) tkC (pa_cons (pv 0) (pa_cons pe_int pa_nil))) (fun _ _ => rfl)) pa_nil)))))
  (pss_one (ps_ret (pe_ix ix_list (pv 1) (L3.pe_ocall (ok__law_take T) (hr.mono (by decide)) tkC (pa_cons (pv 0) (pa_cons pe_int pa_nil))) (fun _ _ => rfl)))))), ?_⟩
  try dsimp only [cxOf]
  simp only [L2.start, List.map_cons, List.map_nil, List.length_cons, List.length_nil, List.replicate, List.cons_append, List.nil_append, Nat.reduceAdd, Nat.reduceSub]
  walk_at "go"
  refine ap_take hb fun d2 H2 p2 q2 x2 hb2 => ?_
  walk_at "go"
  refine ap_take hb2 fun d3 H3 p3 q3 x3 hb3 => ?_
  walk_at "go"
  refine ap_take hb3 fun d4 H4 p4 q4 x4 hb4 => ?_
  walk_at "go"
  refine ap_take hb4 fun d5 H5 p5 q5 x5 hb5 => ?_
  walk_at "go"
  refine i_newL fun p H6 e6 n6 h6 => ?_
  have pb := box_ne hb5 n6
  have hb6 := up e6 hb5
  walk_at "go"
  refine ap_take hb6 (fun d7 H7 p7 q7 x7 hb7 => ?_)
  have h7 := x7.keep _ _ pb h6
  walk_at "go"
  refine ap_take hb7 (fun d8 H8 p8 q8 x8 hb8 => ?_)
  have h8 := x8.keep _ _ pb h7
  walk_at "go"
  refine i_newL fun p' H9 e9 n9 h9 => ?_
  have hb9 := up e9 hb8
  have pb' := box_ne hb8 n9
  walk_at "go"
  refine ap_take hb9 fun d10 H10 p10 q10 x10 hb10 => ?_
  have g10 := x10.keep _ _ pb' h9
  have h10 := x10.keep _ _ pb (e9 _ _ h8)
  refine i_ixAll (SqL.of g10) p10 q10 fun v hv => ?_
  obtain ⟨i, rfl, l1, l2⟩ : ∃ i : Int, v = .int i ∧ -11 ≤ i ∧ i ≤ 10 ^ 31 := by
    rcases List.mem_cons.mp hv with rfl | hv
    · exact ⟨_, rfl, by omega, by have z : d8 < 10 ^ 30 := q8; omega⟩
    rcases List.mem_cons.mp hv with rfl | hv
    · exact ⟨_, rfl, by decide, by decide⟩
    cases hv
  walk_at "go"
  refine i_newL fun p11 H11 e11 n11 h11 => ?_
  walk_at "go"
  refine i_cat (e11 _ _ h10) h11 fun p12 H12 e12 n12 h12 => ?_
  have hb12 := up (e11.trans e12) hb10
  have pb12 := box_ne (up e11 hb10) n12
  walk_at "go"
  refine ap_take hb12 fun d13 H13 p13 q13 x13 hb13 => ?_
  have h13 := x13.keep _ _ pb12 h12
  walk_at "go"
  refine i_ixAll (SqL.of h13) p13 q13 fun v hv => ?_
  obtain ⟨j, rfl, l3, l4⟩ : ∃ i : Int, v = .int i ∧ -11 ≤ i ∧ i ≤ 10 ^ 31 := by
    rcases List.mem_cons.mp hv with rfl | hv
    · exact ⟨_, rfl, by omega, by omega⟩
    rcases List.mem_cons.mp hv with rfl | hv
    · exact ⟨_, rfl, by omega, by omega⟩
    rcases List.mem_cons.mp hv with rfl | hv
    · exact ⟨_, rfl, by omega, by omega⟩
    rcases List.mem_cons.mp hv with rfl | hv
    · exact ⟨10 ^ 30 - d5, rfl, by omega, by omega⟩
    rcases List.mem_cons.mp hv with rfl | hv
    · exact ⟨_, rfl, by omega, by omega⟩
    rcases List.mem_cons.mp hv with rfl | hv
    · exact ⟨_, rfl, l1, l2⟩
    cases hv
  walk_at "go"
  exact k j _ l3 l4 (x2.trans (x3.trans (x4.trans (x5.trans ((Bx.ex hb5 e6).trans (x7.trans (x8.trans ((Bx.ex hb8 e9).trans (x10.trans ((Bx.ex hb10 (e11.trans e12)).trans x13)))))))))) hb13
theorem ok__law_number (T : Tx P K mg) : DefO P w K mg base 2 "_law_number" ["_law_box_here"] (spDrawI (-11) (10 ^ 31)) := by
  obtain ⟨fd, F, G⟩ := fo__law_number (P := P) (w := w) (base := base) T
  exact ⟨_, fd, G, T.g__law_number, F.kp, F.bindsN fun _ _ _ _ _ _ us hl => match us, hl with | [_], _ => rfl⟩
abbrev s__law_value : Stmt := top 31
theorem sc__law_value : FnScope ["_law_box_here", "_law_odd"] ["_law_box_here"] (defScope s__law_value) := ⟨rfl, rfl, rfl, by decide +kernel, rfl, by decide +kernel, by decide +kernel⟩
theorem fo__law_value (T : Tx P K mg) : (∃ fd, FunD K "_law_value" "_law_value" (defArgs s__law_value) (defBody s__law_value) (defScope s__law_value) [] [] (He.ga K "_law_value") fd ∧ FnOk P w K mg base (L2.CX P w) 3 (He.ga K "_law_value") fd ["_law_box_here"] (spDraw Vd)) := by
  obtain ⟨fd, F⟩ := T.f__law_value
  refine ⟨fd, F, F.ok sc__law_value len_draw ?_⟩
  intro cdv A outer s H vs Q E hr h
  have nd := sc__law_value.nd
  obtain ⟨b, rfl, hb, k⟩ := h
  refine ⟨_, (pss_cons (ps_set (i := 1) nd rfl (.inl rfl) (pe_lst (pa_cons pe_bl (pa_cons pe_bl (pa_cons pe_non (pa_cons pe_str (pa_cons pe_str (pa_cons (pe_tup pa_nil) (pa_cons (pe_tup (pa_cons pe_int pa_nil)) (pa_cons (pe_tup (pa_cons pe_int (pa_cons pe_int pa_nil))) (pa_cons (pe_op op_sub pe_int pe_int) pa_nil)))))))))))
  (pss_one (ps_ret (pe_ifExp (pt_cmpR op_gt (L3.pe_ocall (ok__law_take T) (hr.mono (by decide)) tkC (pa_cons (pv 0) (pa_cons pe_int pa_nil))) pe_int (nomark _)) (L3.pe_ocall (ok__law_number T) (hr.mono (by decide)) tkC (pa_cons (pv 0) pa_nil)) (pe_ix ix_list (pv 1) (L3.pe_ocall (ok__law_take T) (hr.mono (by decide)) tkC (pa_cons (pv 0) (pa_cons pe_int pa_nil))) (fun _ _ => rfl)))))), ?_⟩
  try dsimp only [cxOf]
  simp only [L2.start, List.map_cons, List.map_nil, List.length_cons, List.length_nil, List.replicate, List.cons_append, List.nil_append, Nat.reduceAdd, Nat.reduceSub]
  walk_at "go"
  refine i_newT fun p1 H1 e1 n1 h1 => ?_
  walk_at "go"
  refine i_newT fun p2 H2 e2 n2 h2 => ?_
  walk_at "go"
  refine i_newT fun p3 H3 e3 n3 h3 => ?_
  walk_at "go"
  refine i_newL fun p4 H4 e4 n4 h4 => ?_
  have e14 := (e1.trans (e2.trans (e3.trans e4)))
  have hb4 := up e14 hb
  have p4b := box_ne (up (e1.trans (e2.trans e3)) hb) n4
  have x4 := Bx.ex hb e14
  have t1 : Da (.ref p1) (.tuple []) H4 := .tup ((e2.trans (e3.trans e4)) _ _ h1) .nil
  have t2 : Da (.ref p2) (.tuple [.int 1]) H4 := .tup ((e3.trans e4) _ _ h2) (.cons (.int 1) .nil)
  have t3 : Da (.ref p3) (.tuple [.int 0, .int 1]) H4 := .tup (e4 _ _ h3) (.cons (.int 0) (.cons (.int 1) .nil))
  walk_at "go"
  refine ap_take hb4 fun d5 H5 p5 q5 x5 hb5 => ?_
  walk_at "go"
  apply i_dec <;> intro c1
  · walk_at "go"
    refine ap_drawI hb5 fun i H6 l1 l2 x6 hb6 => ?_
    exact k _ _ _ (Vd.int (by omega)) (.int i) (x4.trans (x5.trans x6)) hb6
  · walk_at "go"
    refine ap_take hb5 fun d6 H6 p6 q6 x6 hb6 => ?_
    have x46 := x5.trans x6
    refine i_ixAll (SqL.of (x46.keep _ _ p4b h4)) p6 q6 fun v hv => ?_
    have go : ∀ d, Vd d → Dt H6 v d → Q v H6 := fun d g h => k v d H6 g h (x4.trans x46) hb6
    rcases List.mem_cons.mp hv with rfl | hv
    · exact go (.bool true) ⟨trivial, by decide, by decide, (by intro i h; cases h), by decide +kernel⟩ (.bl true)
    rcases List.mem_cons.mp hv with rfl | hv
    · exact go (.bool false) ⟨trivial, by decide, by decide, (by intro i h; cases h), by decide +kernel⟩ (.bl false)
    rcases List.mem_cons.mp hv with rfl | hv
    · exact go .none ⟨trivial, by decide, by decide, (by intro i h; cases h), by decide +kernel⟩ .non
    rcases List.mem_cons.mp hv with rfl | hv
    · exact go (.str "") ⟨(by intro c h; cases h), by decide, by decide, (by intro i h; cases h), by decide +kernel⟩ (.str _)
    rcases List.mem_cons.mp hv with rfl | hv
    · exact go (.str "3") ⟨by show ∀ c ∈ ("3" : Str).cps.toList, c < 16 ^ 8; decide, by decide, by decide, (by intro i h; cases h), by decide +kernel⟩ (.str _)
    rcases List.mem_cons.mp hv with rfl | hv
    · exact go (.tuple []) ⟨trivial, by decide, by decide, (by intro i h; cases h), by decide +kernel⟩ (up x46 t1)
    rcases List.mem_cons.mp hv with rfl | hv
    · exact go (.tuple [.int 1]) ⟨⟨by show (1 : Int).natAbs < 10 ^ 400; decide +kernel, trivial⟩, by decide, by decide, (by intro i h; cases h), by decide +kernel⟩ (up x46 t2)
    rcases List.mem_cons.mp hv with rfl | hv
    · exact go (.tuple [.int 0, .int 1]) ⟨⟨by show (0 : Int).natAbs < 10 ^ 400; decide +kernel, by show (1 : Int).natAbs < 10 ^ 400; decide +kernel, trivial⟩, by decide, by decide, (by intro i h; cases h), by decide +kernel⟩ (up x46 t3)
    rcases List.mem_cons.mp hv with rfl | hv
    · exact go (.int (0 - 5)) (Vd.int (by decide)) (.int _)
    cases hv
theorem ok__law_value (T : Tx P K mg) : DefO P w K mg base 3 "_law_value" ["_law_box_here"] (spDraw Vd) := by
  obtain ⟨fd, F, G⟩ := fo__law_value (P := P) (w := w) (base := base) T
  exact ⟨_, fd, G, T.g__law_value, F.kp, F.bindsN fun _ _ _ _ _ _ us hl => match us, hl with | [_], _ => rfl⟩
abbrev s__law_is_integer : Stmt := top 32
theorem sc__law_is_integer : FnScope ["_law_value_here"] ["_law_value_here"] (defScope s__law_is_integer) := ⟨rfl, rfl, rfl, by decide +kernel, rfl, by decide +kernel, by decide +kernel⟩
theorem fo__law_is_integer (T : Tx P K mg) : (∃ fd, FunD K "_law_is_integer" "_law_is_integer" (defArgs s__law_is_integer) (defBody s__law_is_integer) (defScope s__law_is_integer) [] [] (He.ga K "_law_is_integer") fd ∧ FnOk P w K mg base (L2.CX P w) 1 (He.ga K "_law_is_integer") fd ["_law_value_here"] spIsInt) := by
  obtain ⟨fd, F⟩ := T.f__law_is_integer
  refine ⟨fd, F, F.ok sc__law_is_integer len_isint ?_⟩
  intro cdv A outer s H vs Q E hr h
  have nd := sc__law_is_integer.nd
  obtain ⟨v, d, rfl, hd, k⟩ := h
  refine ⟨_, (pss_one (ps_ret (pe_and (pe_callB call_isi (by rfl) T.z_isinstance (by decide +kernel) (pa_cons (pv 0) (pa_cons (pe_bltn (v := .ty "int") rfl T.z_int (by first | exact PyProof.Rows.Boot.«int» | decide +kernel) rfl) pa_nil))) (pe_one (pe_not (pe_callB call_isi (by rfl) T.z_isinstance (by decide +kernel) (pa_cons (pv 0) (pa_cons (pe_bltn (v := .ty "bool") rfl T.z_bool (by first | exact PyProof.Rows.Boot.«bool» | decide +kernel) rfl) pa_nil)))))))), ?_⟩
  try dsimp only [cxOf]
  simp only [L2.start, List.map_cons, List.map_nil, List.length_cons, List.length_nil, List.replicate, List.cons_append, List.nil_append, Nat.reduceAdd, Nat.reduceSub]
  walk_at "go"
  refine i_isiI hd ?_
  refine ⟨_, rfl, i_bool (fun e => ?_) fun e => ?_⟩
  · walk_at "go"
    refine i_isiB hd ?_
    refine ⟨_, rfl, ?_⟩
    have q := isInt_eq d
    rw [e] at q
    rw [← q] at k
    exact k
  · have q := isInt_eq d
    rw [e] at q
    rw [← q] at k
    exact k
theorem ok__law_is_integer (T : Tx P K mg) : DefO P w K mg base 1 "_law_is_integer" ["_law_value_here"] spIsInt := by
  obtain ⟨fd, F, G⟩ := fo__law_is_integer (P := P) (w := w) (base := base) T
  exact ⟨_, fd, G, T.g__law_is_integer, F.kp, F.bindsN fun _ _ _ _ _ _ us hl => match us, hl with | [_], _ => rfl⟩

def kdP (K : PySem.W.Frag) (C : Addr) : Str := if C = He.ga K "Slide" then "slide" else "turn"
theorem kdS : kdP K (He.ga K "Slide") = "slide" := if_pos rfl
theorem kdT (T : Tx P K mg) : kdP K (He.ga K "Turn") = "turn" := if_neg T.ne_Turn_Slide
def rowP (K : PySem.W.Frag) (C : Addr) (s n b : Int) : PyData := .tuple [.str (kdP K C), .int s, .int n, .int b]
def spNums (K : PySem.W.Frag) : Sp := fun vs H Q _ => ∃ C x s n b, vs = [.ref x] ∧ PrH K C x s n b H ∧ ∀ v H', Ex H H' → Da v (rowP K C s n b) H' → Q v H'
theorem len_nums : ∀ (vs : List V) H Q E, spNums K vs H Q E → vs.length = 1 := by
  rintro vs H Q E ⟨C, x, s, n, b, rfl, _⟩
  rfl
def bkw (K : PySem.W.Frag) (C : Addr) : Bool := decide (C = He.ga K "Backward")
def spEnds (K : PySem.W.Frag) : Sp := fun vs H Q _ => ∃ C x s n, vs = [.ref x] ∧ isSt K C ∧ StH C x s n H ∧ ∀ v H', Ex H H' → Da v (.tuple [.int s, .int n, .bool true, .bool (bkw K C)]) H' → Q v H'
theorem len_ends : ∀ (vs : List V) H Q E, spEnds K vs H Q E → vs.length = 1 := by
  rintro vs H Q E ⟨C, x, s, n, rfl, _⟩
  rfl

abbrev s__law_numbers : Stmt := top 33
theorem sc__law_numbers : FnScope ["_law_pairing"] ["_law_pairing"] (defScope s__law_numbers) := ⟨rfl, rfl, rfl, by decide +kernel, rfl, by decide +kernel, by decide +kernel⟩
theorem fo__law_numbers (T : Tx P K mg) : (∃ fd, FunD K "_law_numbers" "_law_numbers" (defArgs s__law_numbers) (defBody s__law_numbers) (defScope s__law_numbers) [] [] (He.ga K "_law_numbers") fd ∧ FnOk P w K mg base (L2.CX P w) 1 (He.ga K "_law_numbers") fd ["_law_pairing"] (spNums K)) := by
  obtain ⟨fd, F⟩ := T.f__law_numbers
  refine ⟨fd, F, F.ok sc__law_numbers len_nums ?_⟩
  intro cdv A outer s H vs Q E hr h
  have nd := sc__law_numbers.nd
  obtain ⟨C, x, s, n, b, rfl, hp, k⟩ := h
  obtain ⟨⟨dx, hx⟩, hC, hs, hn, hi⟩ := id hp
  refine ⟨_, (pss_cons (ps_if (PW.pt (pw_and (pt_val (pe_callB call_isi (by rfl) T.z_isinstance (by decide +kernel) (pa_cons (pv 0) (pa_cons (pe_glob (v := .ref (He.ga _ "Slide")) rfl (T.g_Slide) rfl) pa_nil)))) (pw_and (pt_val (pe_callB call_isi (by rfl) T.z_isinstance (by decide +kernel) (pa_cons (pv 0) (pa_cons (pe_glob (v := .ref (He.ga _ "Pairing")) rfl (T.g_Pairing) rfl) pa_nil)))) (pw_and1 (pt_not (pt_val (pe_callB call_isi (by rfl) T.z_isinstance (by decide +kernel) (pa_cons (pv 0) (pa_cons (pe_glob (v := .ref (He.ga _ "Turn")) rfl (T.g_Turn) rfl) pa_nil))))))))) (pss_one (ps_ret (pe_tup (pa_cons pe_str (pa_cons (pe_fld (pv 0) rfl) (pa_cons (pe_fld (pv 0) rfl) (pa_cons (pe_fld (pv 0) rfl) pa_nil))))))) pss_nil)
  (pss_cons (ps_if (PW.pt (pw_and (pt_val (pe_callB call_isi (by rfl) T.z_isinstance (by decide +kernel) (pa_cons (pv 0) (pa_cons (pe_glob (v := .ref (He.ga _ "Turn")) rfl (T.g_Turn) rfl) pa_nil)))) (pw_and1 (pt_val (pe_callB call_isi (by rfl) T.z_isinstance (by decide +kernel) (pa_cons (pv 0) (pa_cons (pe_glob (v := .ref (He.ga _ "Pairing")) rfl (T.g_Pairing) rfl) pa_nil))))))) (pss_one (ps_ret (pe_tup (pa_cons pe_str (pa_cons (pe_fld (pv 0) rfl) (pa_cons (pe_fld (pv 0) rfl) (pa_cons (pe_fld (pv 0) rfl) pa_nil))))))) pss_nil)
  (pss_one (ps_ret pe_non)))), ?_⟩
  try dsimp only [cxOf]
  simp only [L2.start, List.map_cons, List.map_nil, List.length_cons, List.length_nil, List.replicate, List.cons_append, List.nil_append, Nat.reduceAdd, Nat.reduceSub]
  walk_at "go"
  rcases hC with rfl | rfl
  · rw [fldS] at hx
    refine i_isi (.own _) (T.i_Slide.ty hx) T.y_Slide_Slide ?_
    walk_at "go"
    refine i_isi (.own _) (T.i_Slide.ty hx) T.y_Slide_Pairing ?_
    walk_at "go"
    refine i_isi (.own _) (T.i_Slide.ty hx) T.y_Slide_Turn ?_
    walk_at "go"
    refine ⟨x, _, dx, _, _, rfl, hx, T.c_Slide, T.a_Slide_start, rfl, ?_⟩
    walk_at "go"
    refine ⟨x, _, dx, _, _, rfl, hx, T.c_Slide, T.a_Slide_size, rfl, ?_⟩
    walk_at "go"
    refine ⟨x, _, dx, _, _, rfl, hx, T.c_Slide, T.a_Slide_by, rfl, ?_⟩
    walk_at "go"
    refine i_newT fun p2 H2 e2 n2 t2 => ?_
    walk_at "go"
    refine k _ H2 e2 (.tup t2 ?_)
    rw [kdS]
    exact .cons (.str _) (.cons (.int _) (.cons (.int _) (.cons (.int _) .nil)))

  · rw [fldT (neP T)] at hx
    refine i_isi (.own _) (T.i_Turn.ty hx) T.y_Turn_Slide ?_
    walk_at "go"
    refine i_isi (.own _) (T.i_Turn.ty hx) T.y_Turn_Turn ?_
    walk_at "go"
    refine i_isi (.own _) (T.i_Turn.ty hx) T.y_Turn_Pairing ?_
    walk_at "go"
    refine ⟨x, _, dx, _, _, rfl, hx, T.c_Turn, T.a_Turn_start, rfl, ?_⟩
    walk_at "go"
    refine ⟨x, _, dx, _, _, rfl, hx, T.c_Turn, T.a_Turn_size, rfl, ?_⟩
    walk_at "go"
    refine ⟨x, _, dx, _, _, rfl, hx, T.c_Turn, T.a_Turn_total, rfl, ?_⟩
    walk_at "go"
    refine i_newT fun p2 H2 e2 n2 t2 => ?_
    walk_at "go"
    refine k _ H2 e2 (.tup t2 ?_)
    rw [kdT T]
    exact .cons (.str _) (.cons (.int _) (.cons (.int _) (.cons (.int _) .nil)))
theorem ok__law_numbers (T : Tx P K mg) : DefO P w K mg base 1 "_law_numbers" ["_law_pairing"] (spNums K) := by
  obtain ⟨fd, F, G⟩ := fo__law_numbers (P := P) (w := w) (base := base) T
  exact ⟨_, fd, G, T.g__law_numbers, F.kp, F.bindsN fun _ _ _ _ _ _ us hl => match us, hl with | [_], _ => rfl⟩
abbrev s__law_ends : Stmt := top 34
theorem sc__law_ends : FnScope ["_law_stretch"] ["_law_stretch"] (defScope s__law_ends) := ⟨rfl, rfl, rfl, by decide +kernel, rfl, by decide +kernel, by decide +kernel⟩
theorem fo__law_ends (T : Tx P K mg) : (∃ fd, FunD K "_law_ends" "_law_ends" (defArgs s__law_ends) (defBody s__law_ends) (defScope s__law_ends) [] [] (He.ga K "_law_ends") fd ∧ FnOk P w K mg base (L2.CX P w) 1 (He.ga K "_law_ends") fd ["_law_stretch"] (spEnds K)) := by
  obtain ⟨fd, F⟩ := T.f__law_ends
  refine ⟨fd, F, F.ok sc__law_ends len_ends ?_⟩
  intro cdv A outer s H vs Q E hr h
  have nd := sc__law_ends.nd
  obtain ⟨C, x, s, n, rfl, hC, ⟨dx, hx⟩, k⟩ := h
  refine ⟨_, (pss_one (ps_ret (pe_tup (pa_cons (pe_fld (pv 0) rfl) (pa_cons (pe_fld (pv 0) rfl) (pa_cons (pe_callB call_isi (by rfl) T.z_isinstance (by decide +kernel) (pa_cons (pv 0) (pa_cons (pe_glob (v := .ref (He.ga _ "Stretch")) rfl (T.g_Stretch) rfl) pa_nil))) (pa_cons (pe_callB call_isi (by rfl) T.z_isinstance (by decide +kernel) (pa_cons (pv 0) (pa_cons (pe_glob (v := .ref (He.ga _ "Backward")) rfl (T.g_Backward) rfl) pa_nil))) pa_nil))))))), ?_⟩
  try dsimp only [cxOf]
  simp only [L2.start, List.map_cons, List.map_nil, List.length_cons, List.length_nil, List.replicate, List.cons_append, List.nil_append, Nat.reduceAdd, Nat.reduceSub]
  walk_at "go"
  rcases hC with rfl | rfl
  · refine ⟨x, _, dx, _, _, rfl, hx, T.c_Stretch, T.a_Stretch_start, rfl, ?_⟩
    walk_at "go"
    refine ⟨x, _, dx, _, _, rfl, hx, T.c_Stretch, T.a_Stretch_size, rfl, ?_⟩
    walk_at "go"
    refine i_isi (.own _) (T.i_Stretch.ty hx) T.y_Stretch_Stretch ?_
    walk_at "go"
    refine i_isi (.own _) (T.i_Stretch.ty hx) T.y_Stretch_Backward ?_
    walk_at "go"
    refine i_newT fun p2 H2 e2 n2 t2 => ?_
    walk_at "go"
    refine k _ H2 e2 (.tup t2 ?_)
    rw [show bkw K (He.ga K "Stretch") = false from decide_eq_false T.ne_Stretch_Backward]
    exact .cons (.int _) (.cons (.int _) (.cons (.bl _) (.cons (.bl _) .nil)))

  · refine ⟨x, _, dx, _, _, rfl, hx, T.c_Backward, T.a_Backward_start, rfl, ?_⟩
    walk_at "go"
    refine ⟨x, _, dx, _, _, rfl, hx, T.c_Backward, T.a_Backward_size, rfl, ?_⟩
    walk_at "go"
    refine i_isi (.own _) (T.i_Backward.ty hx) T.y_Backward_Stretch ?_
    walk_at "go"
    refine i_isi (.own _) (T.i_Backward.ty hx) T.y_Backward_Backward ?_
    walk_at "go"
    refine i_newT fun p2 H2 e2 n2 t2 => ?_
    walk_at "go"
    refine k _ H2 e2 (.tup t2 ?_)
    rw [show bkw K (He.ga K "Backward") = true from decide_eq_true rfl]
    exact .cons (.int _) (.cons (.int _) (.cons (.bl _) (.cons (.bl _) .nil)))
theorem ok__law_ends (T : Tx P K mg) : DefO P w K mg base 1 "_law_ends" ["_law_stretch"] (spEnds K) := by
  obtain ⟨fd, F, G⟩ := fo__law_ends (P := P) (w := w) (base := base) T
  exact ⟨_, fd, G, T.g__law_ends, F.kp, F.bindsN fun _ _ _ _ _ _ us hl => match us, hl with | [_], _ => rfl⟩

def upP (K : PySem.W.Frag) (C : Addr) (s n b : Int) : PyData := if s ≤ imP K C s n b then rowP K C s n b else rowP K C (imP K C s n b) n (nbP K C b)
def endD (s n : Int) (b : Bool) : PyData := .tuple [.int s, .int n, .bool true, .bool b]
def dueP (K : PySem.W.Frag) (C : Addr) (d1 d2 d3 : PyData) : PyData := match d1, d2, d3 with
  | .int s, .int n, .int b => if goodP K C (.int s) (.int n) (.int b) = true then .list [rowP K C s n b, endD s n (bkw K (He.ga K "Stretch")), endD (imP K C s n b) n (bkw K (icP K C)), upP K C s n b] else .tuple [.str "refused", .int s, .int n]
  | d1, d2, _ => .tuple [.str "refused", d1, d2]
theorem dueP_good {C : Addr} {s n b : Int} (h : goodP K C (.int s) (.int n) (.int b) = true) : dueP K C (.int s) (.int n) (.int b) = .list [rowP K C s n b, endD s n (bkw K (He.ga K "Stretch")), endD (imP K C s n b) n (bkw K (icP K C)), upP K C s n b] := if_pos h
theorem dueP_bad {C : Addr} {d1 d2 d3 : PyData} (h : goodP K C d1 d2 d3 = false) : dueP K C d1 d2 d3 = .tuple [.str "refused", d1, d2] := by
  unfold dueP
  split
  · rw [h]
    rfl
  · rfl
def spTold (K : PySem.W.Frag) : Sp := fun vs H Q _ => ∃ C v1 v2 v3 d1 d2 d3, vs = [.str (kdP K C), v1, v2, v3] ∧ isPa K C ∧ Dt H v1 d1 ∧ Dt H v2 d2 ∧ Dt H v3 d3 ∧ ∀ v H', Ex H H' → Dp K H' v (dueP K C d1 d2 d3) → Q v H'
theorem len_told : ∀ (vs : List V) H Q E, spTold K vs H Q E → vs.length = 4 := by
  rintro vs H Q E ⟨C, v1, v2, v3, d1, d2, d3, rfl, _⟩
  rfl
theorem icSt (T : Tx P K mg) {C : Addr} (h : isPa K C) : isSt K (icP K C) := by
  rcases h with rfl | rfl
  · rw [icS]
    exact .inl rfl
  · rw [icT (neP T)]
    exact .inr rfl
theorem eqSS : decide (V.str "slide" = V.str "slide") = true := by decide
theorem eqTS : decide (V.str "turn" = V.str "slide") = false := by decide
theorem eqST : decide (V.str "slide" = V.str "turn") = false := by decide
theorem eqTT : decide (V.str "turn" = V.str "turn") = true := by decide
/-- what can be held beside other data -/
structure Cl (d : PyData) : Prop where
  lay : d.canLay0 = true
  dep : d.depth ≤ 60
theorem Cl.int (i : Int) : Cl (.int i) := ⟨by simp only [PyData.canLay0], by show 0 ≤ 60; decide⟩
theorem Cl.vd {d : PyData} (h : Vd d) : Cl d := ⟨h.lay, Nat.le_trans h.dep (by decide)⟩
def spDue (K : PySem.W.Frag) : Sp := fun vs H Q _ => ∃ C v1 v2 v3 d1 d2 d3, vs = [.str (kdP K C), v1, v2, v3] ∧ isPa K C ∧ Dt H v1 d1 ∧ Dt H v2 d2 ∧ Dt H v3 d3 ∧ (Cl d1 ∧ Cl d2 ∧ Cl d3) ∧ ∀ v H', Ex H H' → Dp K H' v (dueP K C d1 d2 d3) → Q v H'
theorem len_due : ∀ (vs : List V) H Q E, spDue K vs H Q E → vs.length = 4 := by
  rintro vs H Q E ⟨C, v1, v2, v3, d1, d2, d3, rfl, _⟩
  rfl
theorem lay_filter {f : PyData → Bool} : ∀ {xs : List PyData}, (∀ d ∈ xs, Cl d) → PyData.canLayAll0 (xs.filter f) = true ∧ PyData.depthAll (xs.filter f) ≤ 60
  | [], _ => ⟨by simp [PyData.canLayAll0], by simp [PyData.depthAll]⟩
  | x :: xs, h => by
    have q := lay_filter (f := f) (xs := xs) fun d hd => h d (List.mem_cons_of_mem _ hd)
    have hx := h x List.mem_cons_self
    cases z : f x with
    | true =>
      rw [List.filter_cons_of_pos z]
      refine ⟨by simp [PyData.canLayAll0, hx.lay, q.1], ?_⟩
      have a := hx.dep
      have b := q.2
      simp only [PyData.depthAll]
      omega
    | false =>
      rw [List.filter_cons_of_neg (by simp [z])]
      exact q
theorem shaped_list {xs : List PyData} (h : PyData.canLayAll0 xs = true ∧ PyData.depthAll xs ≤ 60) : SeqAt.shaped (.list xs) = true := by
  unfold SeqAt.shaped
  have a := h.2
  rw [show (PyData.list xs).canLay0 = true by simp [PyData.canLay0, h.1]]
  simp only [PyData.depth]
  exact decide_eq_true (by omega)

abbrev s__law_told : Stmt := top 35
theorem sc__law_told : FnScope ["_law_kind", "_law_low", "_law_many", "_law_last", "_law_found", "_law_one", "_law_ends_here", "e"] ["_law_kind", "_law_low", "_law_many", "_law_last"] (defScope s__law_told) := ⟨rfl, rfl, rfl, by decide +kernel, rfl, by decide +kernel, by decide +kernel⟩
theorem fo__law_told (T : Tx P K mg) : (∃ fd, FunD K "_law_told" "_law_told" (defArgs s__law_told) (defBody s__law_told) (defScope s__law_told) [] [] (He.ga K "_law_told") fd ∧ FnOk P w K mg base (L2.CX P w) 9 (He.ga K "_law_told") fd ["_law_kind", "_law_low", "_law_many", "_law_last"] (spTold K)) := by
  obtain ⟨fd, F⟩ := T.f__law_told
  refine ⟨fd, F, F.ok sc__law_told len_told ?_⟩
  intro cdv A outer s H vs Q E hr h
  have nd := sc__law_told.nd
  obtain ⟨C, v1, v2, v3, d1, d2, d3, rfl, hC, h1, h2, h3, k⟩ := h
  refine ⟨_, (pss_cons (ps_set (i := 4) nd rfl (.inl rfl) (pe_tup (pa_cons pe_str pa_nil)))
  (pss_cons (L2.ps_try_as (i := 7) rfl rfl nd rfl rfl ⟨rfl, by decide, .inl T.g_InvalidPairing⟩ tkC
    (fun W pn xe tk1 own1 => (pss_cons (ps_set (i := 5) nd rfl (.inl rfl) (pe_ifExp (pt_cmpR op_eq (pv 0) pe_str (nomark _)) (L3.pe_omake (ok_Slide T) (hr.mono (by decide)) tk1 (pa_cons (pv 1) (pa_cons (pv 2) (pa_cons (pv 3) pa_nil)))) (L3.pe_omake (ok_Turn T) (hr.mono (by decide)) tk1 (pa_cons (pv 1) (pa_cons (pv 2) (pa_cons (pv 3) pa_nil))))))
  (pss_cons (ps_set (i := 6) nd rfl (.inl rfl) (pe_lst (pa_cons (L3.pe_ocall (ok__law_ends T) (hr.mono (by decide)) tk1 (pa_cons (L3.pe_fprop (okp_Pa_domain T) (hr.mono (by decide)) (pv 5)) pa_nil)) (pa_cons (L3.pe_ocall (ok__law_ends T) (hr.mono (by decide)) tk1 (pa_cons (L3.pe_fprop (okp_Pa_image T) (hr.mono (by decide)) (pv 5)) pa_nil)) pa_nil))))
  (pss_one (ps_set (i := 4) nd rfl (.inl rfl) (pe_op op_cat (pe_op op_cat (pe_lst (pa_cons (L3.pe_ocall (ok__law_numbers T) (hr.mono (by decide)) tk1 (pa_cons (pv 5) pa_nil)) pa_nil)) (pv 6)) (pe_lst (pa_cons (L3.pe_ocall (ok__law_numbers T) (hr.mono (by decide)) tk1 (pa_cons (L3.pe_fprop (okp_Pa_upright T) (hr.mono (by decide)) (pv 5)) pa_nil)) pa_nil))))))))
    (fun a oe cls d pn hz hf => (pss_one (ps_if (PW.pt (pw_and (pt_val (pe_callB (L3.call_isC T.x_InvalidPairing.1 hz hf) (by rfl) T.z_isinstance (by decide +kernel) (pa_cons (pv 7) (pa_cons (pe_glob (v := .ref (He.ga _ "TwinError")) rfl (T.g_TwinError) rfl) pa_nil)))) (pw_and1 (pt_not (pt_val (pe_callB (L3.call_isC T.x_InvalidPairing.1 hz hf) (by rfl) T.z_isinstance (by decide +kernel) (pa_cons (pv 7) (pa_cons (pe_glob (v := .ref (He.ga _ "InvalidStretch")) rfl (T.g_InvalidStretch) rfl) pa_nil)))))))) (pss_one (ps_set (i := 4) nd rfl (.inl rfl) (pe_tup (pa_cons pe_str (pa_cons (L2.pe_xf T.x_InvalidPairing.2 T.n_InvalidPairing_start hz hf (pv 7)) (pa_cons (L2.pe_xf T.x_InvalidPairing.2 T.n_InvalidPairing_size hz hf (pv 7)) pa_nil)))))) pss_nil))))
  (pss_one (ps_ret (pv 4))))), ?_⟩
  try dsimp only [cxOf]
  simp only [L2.start, List.map_cons, List.map_nil, List.length_cons, List.length_nil, List.replicate, List.cons_append, List.nil_append, Nat.reduceAdd, Nat.reduceSub]
  walk_at "go"
  refine i_newT fun p1 H1 e1 n1 t1 => ?_
  have h1' := up (φ := Da v1 d1) e1 h1
  have h2' := up (φ := Da v2 d2) e1 h2
  have h3' := up (φ := Da v3 d3) e1 h3
  walk_at "go"
  rcases hC with rfl | rfl
  · rw [kdS]
    rw [show decide (V.str "slide" = V.str "slide") = true from decide_eq_true rfl]
    walk_at "go"
    refine ap_makeP (.inl rfl) h1' h2' h3' (fun s n b q1 q2 q3 q4 q5 q6 x H2 e2 n2 hp => ?_) (fun g d H2 e2 n2 hd => ?_)
    · subst q1 q2 q3 q4 q5 q6
      obtain ⟨⟨dx, hx⟩, hC, hs, hn, hi⟩ := id hp
      walk_at "go"
      refine ⟨x, _, dx, _, rfl, hx, hC, ⟨x, s, n, b, rfl, hp, fun y H3 e3 n3 hy => ?_⟩⟩
      walk_at "go"
      refine ⟨_, y, s, n, rfl, .inl rfl, hy, fun w1 H4 e4 hw1 => ?_⟩
      have hp4 := up (e3.trans e4) hp
      walk_at "go"
      refine ⟨x, _, dx, _, rfl, (e3.trans e4) _ _ hx, hC, ⟨x, s, n, b, rfl, hp4, fun z H5 e5 n5 hz => ?_⟩⟩
      walk_at "go"
      refine ⟨_, z, _, n, rfl, icSt T hC, hz, fun w2 H6 e6 hw2 => ?_⟩
      walk_at "go"
      refine i_newL fun p7 H7 e7 n7 t7 => ?_
      have hp7 := up (e5.trans (e6.trans e7)) hp4
      walk_at "go"
      refine ⟨_, x, s, n, b, rfl, hp7, fun w3 H8 e8 hw3 => ?_⟩
      walk_at "go"
      refine i_newL fun p9 H9 e9 n9 t9 => ?_
      walk_at "go"
      refine i_cat t9 ((e8.trans e9) _ _ t7) fun p10 H10 e10 n10 t10 => ?_
      have e710 := e8.trans (e9.trans e10)
      have hp10 := up e710 hp7
      walk_at "go"
      refine ⟨x, _, dx, _, rfl, (e3.trans (e4.trans (e5.trans (e6.trans (e7.trans e710))))) _ _ hx, hC, ⟨x, s, n, b, rfl, hp10, fun c1 => ?_, fun c1 y2 H10' e10' n10' hy2 => ?_⟩⟩
      · walk_at "go"
        refine ⟨_, x, s, n, b, rfl, hp10, fun w4 H11 e11 hw4 => ?_⟩
        have hw4 : Da w4 (upP K (He.ga K "Slide") s n b) H11 := by
          unfold upP
          rw [if_pos c1]
          exact hw4
        walk_at "go"
        refine i_newL fun p12 H12 e12 n12 t12 => ?_
        walk_at "go"
        refine i_cat ((e11.trans e12) _ _ t10) t12 fun p13 H13 e13 n13 t13 => ?_
        walk_at "go"
        have e613 := e7.trans (e710.trans (e11.trans (e12.trans e13)))
        refine k _ H13 (e1.trans (e2.trans ((e3.trans (e4.trans (e5.trans e6))).trans e613))) ?_
        rw [dueP_good (goodP_in hs hn hi)]
        have a1 := up (φ := Da _ _) (e9.trans (e10.trans (e11.trans (e12.trans e13)))) hw3
        have a2 := up (φ := Da _ _) (e5.trans (e6.trans e613)) hw1
        have a3 := up (φ := Da _ _) e613 hw2
        have a4 := up (φ := Da _ _) (e12.trans e13) hw4
        exact .lst (SqL.of t13) (.cons (Dt.dp a1) (.cons (Dt.dp a2) (.cons (Dt.dp a3) (.cons (Dt.dp a4) .nil))))
      · walk_at "go"
        refine ⟨_, y2, _, n, _, rfl, hy2, fun w4 H11 e11' hw4 => ?_⟩
        have e11 := e10'.trans e11'
        have hw4 : Da w4 (upP K (He.ga K "Slide") s n b) H11 := by
          unfold upP
          rw [if_neg (by omega)]
          exact hw4
        walk_at "go"
        refine i_newL fun p12 H12 e12 n12 t12 => ?_
        walk_at "go"
        refine i_cat ((e11.trans e12) _ _ t10) t12 fun p13 H13 e13 n13 t13 => ?_
        walk_at "go"
        have e613 := e7.trans (e710.trans (e11.trans (e12.trans e13)))
        refine k _ H13 (e1.trans (e2.trans ((e3.trans (e4.trans (e5.trans e6))).trans e613))) ?_
        rw [dueP_good (goodP_in hs hn hi)]
        have a1 := up (φ := Da _ _) (e9.trans (e10.trans (e11.trans (e12.trans e13)))) hw3
        have a2 := up (φ := Da _ _) (e5.trans (e6.trans e613)) hw1
        have a3 := up (φ := Da _ _) e613 hw2
        have a4 := up (φ := Da _ _) (e12.trans e13) hw4
        exact .lst (SqL.of t13) (.cons (Dt.dp a1) (.cons (Dt.dp a2) (.cons (Dt.dp a3) (.cons (Dt.dp a4) .nil))))
    · refine ⟨true, T.q_InvalidPairing_InvalidPairing, fun _ a na => ?_, fun z => by cases z⟩
      walk_at "go"
      refine ⟨rfl, _, _, true, _, _, rfl, .own _, rfl, hd, T.y_InvalidPairing_TwinError, ?_⟩
      walk_at "go"
      refine ⟨rfl, _, _, false, _, _, rfl, .own _, rfl, hd, T.y_InvalidPairing_InvalidStretch, ?_⟩
      walk_at "go"
      refine ⟨rfl, rfl, _, _, _, rfl, hd, rfl, ?_⟩
      walk_at "go"
      refine ⟨rfl, rfl, _, _, _, rfl, hd, rfl, ?_⟩
      walk_at "go"
      refine i_newT fun p3 H3 e3 n3 t3 => ?_
      walk_at "go"
      refine k _ H3 (e1.trans (e2.trans e3)) ?_
      rw [dueP_bad g]
      exact (Dt.tup t3 (.cons (.str _) (.cons (up (φ := Da v1 d1) (e2.trans e3) h1') (.cons (up (φ := Da v2 d2) (e2.trans e3) h2') .nil)))).dp
  · rw [kdT T]
    rw [show decide (V.str "turn" = V.str "slide") = false from by decide]
    walk_at "go"
    refine ap_makeP (.inr rfl) h1' h2' h3' (fun s n b q1 q2 q3 q4 q5 q6 x H2 e2 n2 hp => ?_) (fun g d H2 e2 n2 hd => ?_)
    · subst q1 q2 q3 q4 q5 q6
      obtain ⟨⟨dx, hx⟩, hC, hs, hn, hi⟩ := id hp
      walk_at "go"
      refine ⟨x, _, dx, _, rfl, hx, hC, ⟨x, s, n, b, rfl, hp, fun y H3 e3 n3 hy => ?_⟩⟩
      walk_at "go"
      refine ⟨_, y, s, n, rfl, .inl rfl, hy, fun w1 H4 e4 hw1 => ?_⟩
      have hp4 := up (e3.trans e4) hp
      walk_at "go"
      refine ⟨x, _, dx, _, rfl, (e3.trans e4) _ _ hx, hC, ⟨x, s, n, b, rfl, hp4, fun z H5 e5 n5 hz => ?_⟩⟩
      walk_at "go"
      refine ⟨_, z, _, n, rfl, icSt T hC, hz, fun w2 H6 e6 hw2 => ?_⟩
      walk_at "go"
      refine i_newL fun p7 H7 e7 n7 t7 => ?_
      have hp7 := up (e5.trans (e6.trans e7)) hp4
      walk_at "go"
      refine ⟨_, x, s, n, b, rfl, hp7, fun w3 H8 e8 hw3 => ?_⟩
      walk_at "go"
      refine i_newL fun p9 H9 e9 n9 t9 => ?_
      walk_at "go"
      refine i_cat t9 ((e8.trans e9) _ _ t7) fun p10 H10 e10 n10 t10 => ?_
      have e710 := e8.trans (e9.trans e10)
      have hp10 := up e710 hp7
      walk_at "go"
      refine ⟨x, _, dx, _, rfl, (e3.trans (e4.trans (e5.trans (e6.trans (e7.trans e710))))) _ _ hx, hC, ⟨x, s, n, b, rfl, hp10, fun c1 => ?_, fun c1 y2 H10' e10' n10' hy2 => ?_⟩⟩
      · walk_at "go"
        refine ⟨_, x, s, n, b, rfl, hp10, fun w4 H11 e11 hw4 => ?_⟩
        have hw4 : Da w4 (upP K (He.ga K "Turn") s n b) H11 := by
          unfold upP
          rw [if_pos c1]
          exact hw4
        walk_at "go"
        refine i_newL fun p12 H12 e12 n12 t12 => ?_
        walk_at "go"
        refine i_cat ((e11.trans e12) _ _ t10) t12 fun p13 H13 e13 n13 t13 => ?_
        walk_at "go"
        have e613 := e7.trans (e710.trans (e11.trans (e12.trans e13)))
        refine k _ H13 (e1.trans (e2.trans ((e3.trans (e4.trans (e5.trans e6))).trans e613))) ?_
        rw [dueP_good (goodP_in hs hn hi)]
        have a1 := up (φ := Da _ _) (e9.trans (e10.trans (e11.trans (e12.trans e13)))) hw3
        have a2 := up (φ := Da _ _) (e5.trans (e6.trans e613)) hw1
        have a3 := up (φ := Da _ _) e613 hw2
        have a4 := up (φ := Da _ _) (e12.trans e13) hw4
        exact .lst (SqL.of t13) (.cons (Dt.dp a1) (.cons (Dt.dp a2) (.cons (Dt.dp a3) (.cons (Dt.dp a4) .nil))))
      · walk_at "go"
        refine ⟨_, y2, _, n, _, rfl, hy2, fun w4 H11 e11' hw4 => ?_⟩
        have e11 := e10'.trans e11'
        have hw4 : Da w4 (upP K (He.ga K "Turn") s n b) H11 := by
          unfold upP
          rw [if_neg (by omega)]
          exact hw4
        walk_at "go"
        refine i_newL fun p12 H12 e12 n12 t12 => ?_
        walk_at "go"
        refine i_cat ((e11.trans e12) _ _ t10) t12 fun p13 H13 e13 n13 t13 => ?_
        walk_at "go"
        have e613 := e7.trans (e710.trans (e11.trans (e12.trans e13)))
        refine k _ H13 (e1.trans (e2.trans ((e3.trans (e4.trans (e5.trans e6))).trans e613))) ?_
        rw [dueP_good (goodP_in hs hn hi)]
        have a1 := up (φ := Da _ _) (e9.trans (e10.trans (e11.trans (e12.trans e13)))) hw3
        have a2 := up (φ := Da _ _) (e5.trans (e6.trans e613)) hw1
        have a3 := up (φ := Da _ _) e613 hw2
        have a4 := up (φ := Da _ _) (e12.trans e13) hw4
        exact .lst (SqL.of t13) (.cons (Dt.dp a1) (.cons (Dt.dp a2) (.cons (Dt.dp a3) (.cons (Dt.dp a4) .nil))))
    · refine ⟨true, T.q_InvalidPairing_InvalidPairing, fun _ a na => ?_, fun z => by cases z⟩
      walk_at "go"
      refine ⟨rfl, _, _, true, _, _, rfl, .own _, rfl, hd, T.y_InvalidPairing_TwinError, ?_⟩
      walk_at "go"
      refine ⟨rfl, _, _, false, _, _, rfl, .own _, rfl, hd, T.y_InvalidPairing_InvalidStretch, ?_⟩
      walk_at "go"
      refine ⟨rfl, rfl, _, _, _, rfl, hd, rfl, ?_⟩
      walk_at "go"
      refine ⟨rfl, rfl, _, _, _, rfl, hd, rfl, ?_⟩
      walk_at "go"
      refine i_newT fun p3 H3 e3 n3 t3 => ?_
      walk_at "go"
      refine k _ H3 (e1.trans (e2.trans e3)) ?_
      rw [dueP_bad g]
      exact (Dt.tup t3 (.cons (.str _) (.cons (up (φ := Da v1 d1) (e2.trans e3) h1') (.cons (up (φ := Da v2 d2) (e2.trans e3) h2') .nil)))).dp
theorem ok__law_told (T : Tx P K mg) : DefO P w K mg base 9 "_law_told" ["_law_kind", "_law_low", "_law_many", "_law_last"] (spTold K) := by
  obtain ⟨fd, F, G⟩ := fo__law_told (P := P) (w := w) (base := base) T
  exact ⟨_, fd, G, T.g__law_told, F.kp, F.bindsN fun _ _ _ _ _ _ us hl => match us, hl with | [_, _, _, _], _ => rfl⟩
abbrev s__law_due : Stmt := top 36
theorem sc__law_due : FnScope ["_law_kind", "_law_low", "_law_many", "_law_last", "_law_values", "_law_value_here", "_law_first", "_law_row", "_law_image", "_law_number_here", "_law_rising"] ["_law_kind", "_law_low", "_law_many", "_law_last"] (defScope s__law_due) := ⟨rfl, rfl, rfl, by decide +kernel, rfl, by decide +kernel, by decide +kernel⟩
theorem fo__law_due (T : Tx P K mg) : (∃ fd, FunD K "_law_due" "_law_due" (defArgs s__law_due) (defBody s__law_due) (defScope s__law_due) [] [] (He.ga K "_law_due") fd ∧ FnOk P w K mg base (L2.CX P w) 2 (He.ga K "_law_due") fd ["_law_kind", "_law_low", "_law_many", "_law_last"] (spDue K)) := by
  obtain ⟨fd, F⟩ := T.f__law_due
  refine ⟨fd, F, F.ok sc__law_due len_due ?_⟩
  intro cdv A outer s H vs Q E hr h
  have nd := sc__law_due.nd
  obtain ⟨C, v1, v2, v3, d1, d2, d3, rfl, hC, h1, h2, h3, ⟨c1, c2, c3⟩, k⟩ := h
  refine ⟨_, (pss_cons (ps_set (i := 4) nd rfl (.inl rfl) (pe_tup (pa_cons (pv 1) (pa_cons (pv 2) (pa_cons (pv 3) pa_nil)))))
  (pss_cons (ps_if (pt_cmpR (op_neD hr.units) (pe_lc (own := [("_law_value_here", 5)]) (g := gName 5) rfl nd (pi_tup (pv 4)) (blkOk_by (own := [("_law_value_here", 5)]) (N := ["_law_kind", "_law_low", "_law_many", "_law_last", "_law_values", "_law_value_here", "_law_first", "_law_row", "_law_image", "_law_number_here", "_law_rising"]) (sc := defScope s__law_due) (by decide +kernel)) (fun _ _ _ _ _ => (pg_name (i := 5) nd rfl (.inl rfl))) (fun _ _ _ _ _ => (pts_one (pt_not (pt_val (L3.pe_ocall (ok__law_is_integer T) (hr.mono (by decide)) takes0 (pa_cons (pv 5) pa_nil)))))) (fun _ _ _ _ _ => (pv 5))) (pe_lst pa_nil) (nomark _)) (pss_one (ps_ret (pe_tup (pa_cons pe_str (pa_cons (pv 1) (pa_cons (pv 2) pa_nil)))))) pss_nil)
  (pss_cons (ps_if (PW.pt (pw_or (pt_cmpR op_lt (pv 1) pe_int (nomark _)) (pw_or1 (pt_cmpR op_lt (pv 2) pe_int (nomark _))))) (pss_one (ps_ret (pe_tup (pa_cons pe_str (pa_cons (pv 1) (pa_cons (pv 2) pa_nil)))))) pss_nil)
  (pss_cons (ps_set (i := 6) nd rfl (.inl rfl) (pe_ifExp (pt_cmpR op_eq (pv 0) pe_str (nomark _)) (pe_op op_add (pv 1) (pv 3)) (pe_op op_add (pe_op op_sub (pe_op op_sub (pv 3) (pv 1)) (pv 2)) pe_int)))
  (pss_cons (ps_if (pt_cmpR op_lt (pv 6) pe_int (nomark _)) (pss_one (ps_ret (pe_tup (pa_cons pe_str (pa_cons (pv 1) (pa_cons (pv 2) pa_nil)))))) pss_nil)
  (pss_cons (ps_set (i := 7) nd rfl (.inl rfl) (pe_tup (pa_cons (pv 0) (pa_cons (pv 1) (pa_cons (pv 2) (pa_cons (pv 3) pa_nil))))))
  (pss_cons (ps_set (i := 8) nd rfl (.inl rfl) (pe_tup (pa_cons (pv 6) (pa_cons (pv 2) (pa_cons pe_bl (pa_cons (pe_cmpR op_eq (pv 0) pe_str (nomark _)) pa_nil))))))
  (pss_cons (ps_set (i := 9) nd rfl (.inl rfl) (pe_ifExp (pt_cmpR op_eq (pv 0) pe_str (nomark _)) (pe_op op_sub pe_int (pv 3)) (pv 3)))
  (pss_cons (ps_set (i := 10) nd rfl (.inl rfl) (pe_ifExp (pt_cmpR op_ge (pv 6) (pv 1) (nomark _)) (pv 7) (pe_tup (pa_cons (pv 0) (pa_cons (pv 6) (pa_cons (pv 2) (pa_cons (pv 9) pa_nil)))))))
  (pss_one (ps_ret (pe_lst (pa_cons (pv 7) (pa_cons (pe_tup (pa_cons (pv 1) (pa_cons (pv 2) (pa_cons pe_bl (pa_cons pe_bl pa_nil))))) (pa_cons (pv 8) (pa_cons (pv 10) pa_nil)))))))))))))))), ?_⟩
  try dsimp only [cxOf]
  simp only [L2.start, List.map_cons, List.map_nil, List.length_cons, List.length_nil, List.replicate, List.cons_append, List.nil_append, Nat.reduceAdd, Nat.reduceSub]
  walk_at "go"
  refine i_newT fun p1 H1 e1 n1 t1 => ?_
  walk_at "go"
  refine ⟨p1, rfl, ⟨_, SqT.of t1⟩, ?_⟩
  have h1 := up (φ := Da _ _) e1 h1
  have h2 := up (φ := Da _ _) e1 h2
  have h3 := up (φ := Da _ _) e1 h3
  refine lc_tupA (xs := [v1, v2, v3]) (fun D i acc H => Ex H1 H ∧ DtAll H acc (([d1, d2, d3].take i).filter fun d => !L3.isInt d)) fun D nD => ⟨⟨Ex.new nD, .nil⟩, fun i acc H r => SqT.of (r.1 _ _ t1), fun i x acc H2 hx eD r => ?_, fun acc H2 eD r => ?_⟩
  · obtain ⟨d, hd, hy⟩ : ∃ d, Da x d H1 ∧ [d1, d2, d3][i]? = some d := by
      match i, hx with
      | 0, hx => cases hx; exact ⟨d1, h1, rfl⟩
      | 1, hx => cases hx; exact ⟨d2, h2, rfl⟩
      | 2, hx => cases hx; exact ⟨d3, h3, rfl⟩
    have hd := up r.1 hd
    have ek : ([d1, d2, d3].take (i + 1)).filter (fun d => !L3.isInt d) = ([d1, d2, d3].take i).filter (fun d => !L3.isInt d) ++ [d].filter fun d => !L3.isInt d := by
      rw [List.take_succ, hy, List.filter_append]
      rfl
    walk_at "go"
    refine ⟨rfl, ?_⟩
    walk_at "go"
    refine ap_isint hd ?_
    walk_at "go"
    cases z : L3.isInt d with
    | true =>
      walk_at "go"
      refine lcN_of eD ⟨r.1, ?_⟩
      rw [ek, List.filter_cons_of_neg (by simp [z]), List.filter_nil, List.append_nil]
      exact r.2
    | false =>
      walk_at "go"
      refine lcK_of eD ⟨r.1.updN nD, ?_⟩ ?_
      · rw [ek, List.filter_cons_of_pos (by simp [z]), List.filter_nil]
        have q : DtAll H2 (acc ++ [x]) _ := r.2.append (.cons hd .nil)
        exact DtAll.up (fun a xs e => by rw [upd_ne (fun q => by rw [q, eD] at e; cases e)]; exact e) q
      · have l1 := r.2.len
        have l2 := List.length_filter_le (fun d => !L3.isInt d) ([d1, d2, d3].take i)
        rw [List.length_take] at l2
        have l3 : [d1, d2, d3].length = 3 := rfl
        omega
  have e12 := r.1
  have hacc : DtAll H2 acc ([d1, d2, d3].filter fun d => !L3.isInt d) := r.2
  have h1 := up (φ := Da _ _) e12 h1
  have h2 := up (φ := Da _ _) e12 h2
  have h3 := up (φ := Da _ _) e12 h3
  have refuse : goodP K C d1 d2 d3 = false → ∀ {H3 : Hp}, Ex H2 H3 → newT [V.str "refused", v1, v2] H3 Q := fun g H3 e3 => by
    refine i_newT fun p4 H4 e4 n4 t4 => ?_
    refine k _ H4 (e1.trans (e12.trans (e3.trans e4))) ?_
    rw [dueP_bad g]
    exact Dt.dp (.tup t4 (.cons (.str _) (.cons (up (φ := Da _ _) (e3.trans e4) h1) (.cons (up (φ := Da _ _) (e3.trans e4) h2) .nil))))
  walk_at "go"
  refine i_newL fun p3 H3 e3 n3 t3 => ?_
  walk_at "go"
  refine ⟨_, _, .lst (SqL.of (e3 _ _ eD)) (DtAll.dp (DtAll.up (fun a xs q => e3 a _ q) hacc)), .lst (SqL.of t3) .nil, shaped_list (lay_filter fun d hd => ?_), by decide +kernel, ?_⟩
  · rcases List.mem_cons.mp hd with rfl | hd
    · exact c1
    rcases List.mem_cons.mp hd with rfl | hd
    · exact c2
    rcases List.mem_cons.mp hd with rfl | hd
    · exact c3
    cases hd
  rw [eqv_nil]
  have fe : (List.filter (fun d => !L3.isInt d) [d1, d2, d3]).isEmpty = (L3.isInt d1 && (L3.isInt d2 && (L3.isInt d3 && true))) := by
    cases z1 : L3.isInt d1 <;> cases z2 : L3.isInt d2 <;> cases z3 : L3.isInt d3 <;> simp [List.filter, z1, z2, z3]
  rw [fe]
  cases z : (L3.isInt d1 && (L3.isInt d2 && (L3.isInt d3 && true))) with
  | false =>
    walk_at "go"
    exact refuse (goodP_off (goodN_off z)) e3
  | true =>
  obtain ⟨z1, z2⟩ := Bool.and_eq_true_iff.mp z
  obtain ⟨z2, z3⟩ := Bool.and_eq_true_iff.mp z2
  obtain ⟨s, rfl⟩ := isInt_of z1
  obtain ⟨n, rfl⟩ := isInt_of z2
  obtain ⟨t, rfl⟩ := isInt_of (Bool.and_eq_true_iff.mp z3).1
  have q1 := Dt.int_of h1
  have q2 := Dt.int_of h2
  have q3 := Dt.int_of h3
  subst q1 q2 q3
  walk_at "go"
  apply i_dec <;> intro b1
  · walk_at "go"
    refine refuse (goodP_off ?_) e3
    show (decide (0 ≤ s) && decide (1 ≤ n)) = false
    rw [decide_eq_false (by omega : ¬ 0 ≤ s)]
    rfl
  walk_at "go"
  apply i_dec <;> intro b2
  · walk_at "go"
    refine refuse (goodP_off ?_) e3
    show (decide (0 ≤ s) && decide (1 ≤ n)) = false
    rw [decide_eq_false (by omega : ¬ 1 ≤ n), Bool.and_false]
  walk_at "go"
  rcases hC with rfl | rfl
  · rw [kdS, eqSS]
    walk_at "go"
    apply i_dec <;> intro c3
    · walk_at "go"
      refine refuse (goodP_im (by rw [imS]; omega)) e3
    have hgood : goodP K (He.ga K "Slide") (.int s) (.int n) (.int t) = true := goodP_in (by omega) (by omega) (by rw [imS]; omega)
    walk_at "go"
    refine i_newT fun p4 H4 e4 n4 t4 => ?_
    walk_at "go"
    rw [eqST]
    walk_at "go"
    have hp4 : Da (.ref p4) (rowP K (He.ga K "Slide") s n t) H4 := by
      unfold rowP
      rw [kdS]
      exact .tup t4 (.cons (.str _) (.cons (.int _) (.cons (.int _) (.cons (.int _) .nil))))
    walk_at "go"
    refine i_newT fun p5 H5 e5 n5 t5 => ?_
    walk_at "go"
    have hp5 : Da (.ref p5) (endD (imP K (He.ga K "Slide") s n t) n (bkw K (icP K (He.ga K "Slide")))) H5 := by
      rw [imS, icS]
      rw [show bkw K (He.ga K "Stretch") = false from decide_eq_false T.ne_Stretch_Backward]
      exact .tup t5 (.cons (.int _) (.cons (.int _) (.cons (.bl _) (.cons (.bl _) .nil))))
    rw [eqSS]
    walk_at "go"
    have e123 := e1.trans (e12.trans e3)
    have fin : ∀ w p7 H6 H7, Ex H5 H6 → Ex H6 H7 → H7 p7 = some (.tup [V.int s, V.int n, V.bl true, V.bl false]) → Da w (upP K (He.ga K "Slide") s n t) H6 → newL [.ref p4, .ref p7, .ref p5, w] H7 Q := fun w p7 H6 H7 e6 e7 t7 hw => by
      refine i_newL fun p8 H8 e8 n8 t8 => ?_
      refine k _ H8 (e123.trans (e4.trans (e5.trans (e6.trans (e7.trans e8))))) ?_
      rw [dueP_good hgood]
      have a1 := up (φ := Da _ _) (e5.trans (e6.trans (e7.trans e8))) hp4
      have a2 : Da (.ref p7) (endD s n (bkw K (He.ga K "Stretch"))) H8 := by
        rw [show bkw K (He.ga K "Stretch") = false from decide_eq_false T.ne_Stretch_Backward]
        exact up (φ := Da _ _) e8 (.tup t7 (.cons (.int _) (.cons (.int _) (.cons (.bl _) (.cons (.bl _) .nil)))))
      have a3 := up (φ := Da _ _) (e6.trans (e7.trans e8)) hp5
      have a4 := up (φ := Da _ _) (e7.trans e8) hw
      exact .lst (SqL.of t8) (.cons (Dt.dp a1) (.cons (Dt.dp a2) (.cons (Dt.dp a3) (.cons (Dt.dp a4) .nil))))
    apply i_dec <;> intro c4
    · walk_at "go"
      refine i_newT fun p7 H7 e7 n7 t7 => ?_
      walk_at "go"
      refine fin _ p7 H5 H7 (Ex.refl _) e7 t7 ?_
      unfold upP
      rw [if_pos (by rw [imS]; omega)]
      exact up (φ := Da _ _) e5 hp4
    · walk_at "go"
      refine i_newT fun p6 H6 e6 n6 t6 => ?_
      walk_at "go"
      refine i_newT fun p7 H7 e7 n7 t7 => ?_
      walk_at "go"
      refine fin _ p7 H6 H7 e6 e7 t7 ?_
      unfold upP
      rw [if_neg (by rw [imS]; omega)]
      unfold rowP
      rw [kdS, imS, nbS]
      rw [← Int.zero_sub]
      exact .tup t6 (.cons (.str _) (.cons (.int _) (.cons (.int _) (.cons (.int _) .nil))))
  · rw [kdT T, eqTS]
    walk_at "go"
    apply i_dec <;> intro c3
    · walk_at "go"
      refine refuse (goodP_im (by rw [imT (neP T)]; omega)) e3
    have hgood : goodP K (He.ga K "Turn") (.int s) (.int n) (.int t) = true := goodP_in (by omega) (by omega) (by rw [imT (neP T)]; omega)
    walk_at "go"
    refine i_newT fun p4 H4 e4 n4 t4 => ?_
    walk_at "go"
    rw [eqTT]
    walk_at "go"
    have hp4 : Da (.ref p4) (rowP K (He.ga K "Turn") s n t) H4 := by
      unfold rowP
      rw [kdT T]
      exact .tup t4 (.cons (.str _) (.cons (.int _) (.cons (.int _) (.cons (.int _) .nil))))
    walk_at "go"
    refine i_newT fun p5 H5 e5 n5 t5 => ?_
    walk_at "go"
    have hp5 : Da (.ref p5) (endD (imP K (He.ga K "Turn") s n t) n (bkw K (icP K (He.ga K "Turn")))) H5 := by
      rw [imT (neP T), icT (neP T)]
      rw [show bkw K (He.ga K "Backward") = true from decide_eq_true rfl]
      exact .tup t5 (.cons (.int _) (.cons (.int _) (.cons (.bl _) (.cons (.bl _) .nil))))
    rw [eqTS]
    walk_at "go"
    have e123 := e1.trans (e12.trans e3)
    have fin : ∀ w p7 H6 H7, Ex H5 H6 → Ex H6 H7 → H7 p7 = some (.tup [V.int s, V.int n, V.bl true, V.bl false]) → Da w (upP K (He.ga K "Turn") s n t) H6 → newL [.ref p4, .ref p7, .ref p5, w] H7 Q := fun w p7 H6 H7 e6 e7 t7 hw => by
      refine i_newL fun p8 H8 e8 n8 t8 => ?_
      refine k _ H8 (e123.trans (e4.trans (e5.trans (e6.trans (e7.trans e8))))) ?_
      rw [dueP_good hgood]
      have a1 := up (φ := Da _ _) (e5.trans (e6.trans (e7.trans e8))) hp4
      have a2 : Da (.ref p7) (endD s n (bkw K (He.ga K "Stretch"))) H8 := by
        rw [show bkw K (He.ga K "Stretch") = false from decide_eq_false T.ne_Stretch_Backward]
        exact up (φ := Da _ _) e8 (.tup t7 (.cons (.int _) (.cons (.int _) (.cons (.bl _) (.cons (.bl _) .nil)))))
      have a3 := up (φ := Da _ _) (e6.trans (e7.trans e8)) hp5
      have a4 := up (φ := Da _ _) (e7.trans e8) hw
      exact .lst (SqL.of t8) (.cons (Dt.dp a1) (.cons (Dt.dp a2) (.cons (Dt.dp a3) (.cons (Dt.dp a4) .nil))))
    apply i_dec <;> intro c4
    · walk_at "go"
      refine i_newT fun p7 H7 e7 n7 t7 => ?_
      walk_at "go"
      refine fin _ p7 H5 H7 (Ex.refl _) e7 t7 ?_
      unfold upP
      rw [if_pos (by rw [imT (neP T)]; omega)]
      exact up (φ := Da _ _) e5 hp4
    · walk_at "go"
      refine i_newT fun p6 H6 e6 n6 t6 => ?_
      walk_at "go"
      refine i_newT fun p7 H7 e7 n7 t7 => ?_
      walk_at "go"
      refine fin _ p7 H6 H7 e6 e7 t7 ?_
      unfold upP
      rw [if_neg (by rw [imT (neP T)]; omega)]
      unfold rowP
      rw [kdT T, imT (neP T), nbT (neP T)]
      skip
      exact .tup t6 (.cons (.str _) (.cons (.int _) (.cons (.int _) (.cons (.int _) .nil))))
theorem ok__law_due (T : Tx P K mg) : DefO P w K mg base 2 "_law_due" ["_law_kind", "_law_low", "_law_many", "_law_last"] (spDue K) := by
  obtain ⟨fd, F, G⟩ := fo__law_due (P := P) (w := w) (base := base) T
  exact ⟨_, fd, G, T.g__law_due, F.kp, F.bindsN fun _ _ _ _ _ _ us hl => match us, hl with | [_, _, _, _], _ => rfl⟩

structure Bd (d : PyData) : Prop where
  cl : Cl d
  sml : Sml d
  itg : ∀ i, d = .int i → i.natAbs ≤ 10 ^ 33
theorem Bd.vd {d : PyData} (h : Vd d) : Bd d := ⟨Cl.vd h, h.sml, fun i e => Nat.le_trans (h.itg i e) (by decide)⟩
theorem Bd.int {i : Int} (h : i.natAbs ≤ 10 ^ 33) : Bd (.int i) := ⟨Cl.int i, by show i.natAbs < 10 ^ 400; exact Nat.lt_of_le_of_lt h (by decide +kernel), fun j e => by cases e; exact h⟩
theorem row_sml {C : Addr} {s n b : Int} (h1 : s.natAbs ≤ 10 ^ 34) (h2 : n.natAbs ≤ 10 ^ 34) (h3 : b.natAbs ≤ 10 ^ 34) : Sml (rowP K C s n b) ∧ (rowP K C s n b).depth = 1 ∧ (rowP K C s n b).bulk ≤ 20 := by
  have z : (10 : Nat) ^ 34 < 10 ^ 400 := by decide +kernel
  unfold rowP kdP
  split
  · exact ⟨⟨by show ∀ c ∈ ("slide" : Str).cps.toList, c < 16 ^ 8; decide, Nat.lt_of_le_of_lt h1 z, Nat.lt_of_le_of_lt h2 z, Nat.lt_of_le_of_lt h3 z, trivial⟩, by simp only [PyData.depth, PyData.depthAll]; rfl, by simp only [PyData.bulk, PyData.bulkAll]; decide⟩
  · exact ⟨⟨by show ∀ c ∈ ("turn" : Str).cps.toList, c < 16 ^ 8; decide, Nat.lt_of_le_of_lt h1 z, Nat.lt_of_le_of_lt h2 z, Nat.lt_of_le_of_lt h3 z, trivial⟩, by simp only [PyData.depth, PyData.depthAll]; rfl, by simp only [PyData.bulk, PyData.bulkAll]; decide⟩
theorem end_sml {s n : Int} {b : Bool} (h1 : s.natAbs ≤ 10 ^ 34) (h2 : n.natAbs ≤ 10 ^ 34) : Sml (endD s n b) ∧ (endD s n b).depth = 1 ∧ (endD s n b).bulk ≤ 20 := by
  have z : (10 : Nat) ^ 34 < 10 ^ 400 := by decide +kernel
  exact ⟨⟨Nat.lt_of_le_of_lt h1 z, Nat.lt_of_le_of_lt h2 z, trivial, trivial, trivial⟩, by simp only [endD, PyData.depth, PyData.depthAll]; rfl, by simp only [endD, PyData.bulk, PyData.bulkAll]; decide⟩
theorem dueP_shw {C : Addr} {d1 d2 d3 : PyData} (g1 : Vd d1) (g2 : Vd d2) (g3 : Bd d3) : Shw (dueP K C d1 d2 d3) := by
  by_cases h : goodP K C d1 d2 d3 = true
  · obtain ⟨s, n, b, rfl, rfl, rfl, hs, hn, hi⟩ := goodP_of h
    rw [dueP_good h]
    have h1 := g1.itg s rfl
    have h2 := g2.itg n rfl
    have h3 := g3.itg b rfl
    have h4 : (imP K C s n b).natAbs ≤ 10 ^ 34 := by
      unfold imP
      split <;> omega
    have h5 : (nbP K C b).natAbs ≤ 10 ^ 34 := by
      unfold nbP
      split <;> omega
    have r1 := row_sml (K := K) (C := C) (s := s) (n := n) (b := b) (by omega) (by omega) (by omega)
    have r2 := end_sml (s := s) (n := n) (b := bkw K (He.ga K "Stretch")) (by omega) (by omega)
    have r3 := end_sml (s := imP K C s n b) (n := n) (b := bkw K (icP K C)) h4 (by omega)
    have r4 : Sml (upP K C s n b) ∧ (upP K C s n b).depth = 1 ∧ (upP K C s n b).bulk ≤ 20 := by
      unfold upP
      split
      · exact r1
      · exact row_sml h4 (by omega) h5
    refine ⟨⟨r1.1, r2.1, r3.1, r4.1, trivial⟩, ?_, ?_⟩
    · simp only [PyData.depth, PyData.depthAll]
      omega
    · simp only [PyData.bulk, PyData.bulkAll]
      omega
  · rw [dueP_bad (by simpa using h)]
    refine Shw.tup ⟨by show ∀ c ∈ ("refused" : Str).cps.toList, c < 16 ^ 8; decide, g1.sml, g2.sml, trivial⟩ ?_ ?_
    · have h1 := g1.dep
      have h2 := g2.dep
      simp only [PyData.depth, PyData.depthAll]
      omega
    · have h1 := g1.blk
      have h2 := g2.blk
      have h3 : ("refused" : Str).cps.size = 7 := by decide
      simp only [PyData.bulk, PyData.bulkAll]
      omega

abbrev s_law : Stmt := top 37
theorem sc_law : FnScope ["_law_script", "_law_k", "_law_box_here", "_law_turn", "_law_kind", "_law_low", "_law_many", "_law_last", "_law_side", "_law_numbers_here", "_law_value_here", "_law_some", "_law_due_here", "_law_named", "_law_one"] ["_law_script"] (defScope s_law) := ⟨rfl, rfl, rfl, by decide +kernel, rfl, by decide +kernel, by decide +kernel⟩
theorem fo_law (T : Tx P K mg) : (∃ fd, FunD K "law" "law" (defArgs s_law) (defBody s_law) (defScope s_law) [] [] (He.ga K "law") fd ∧ FnG P w K mg base 12 (He.ga K "law") fd ["_law_script"] (spLaw K)) := by
  obtain ⟨fd, F⟩ := T.f_law
  refine ⟨fd, F, fnG_of F sc_law len_law ?_⟩
  intro cdv A outer s H vs Q E g hr h
  have nd := sc_law.nd
  obtain ⟨a, ns, rfl, hs, hlen, q⟩ := h
  refine ⟨_, (pss_cons (ps_for ownC rfl (pi_range1 rfl T.z_range (pa_cons (pe_callB (call_max2 rfl) (by rfl) T.z_max (by decide +kernel) (pa_cons pe_int (pa_cons (pe_callB (call_min2 rfl) (by rfl) T.z_min (by decide +kernel) (pa_cons pe_int (pa_cons (pe_callB call_len_seq (by rfl) T.z_len boot_len (pa_cons (pv 0) pa_nil)) pa_nil))) pa_nil))) pa_nil)) (pg_name (i := 1) nd rfl (.inl rfl))
   (pss_cons (ps_set (i := 2) nd rfl (.inr rfl) (L3.pe_ocall (ok__law_box T) (hr.mono (by decide)) tkC (pa_cons (pv 0) (pa_cons (pv 1) (pa_cons pe_int pa_nil)))))
  (pss_cons (ps_for ownC rfl (pi_range1 rfl T.z_range (pa_cons pe_int pa_nil)) (pg_name (i := 3) nd rfl (.inl rfl))
   (pss_cons (ps_set (i := 4) nd rfl (.inl rfl) (pe_ix ix_list (pe_lst (pa_cons pe_str (pa_cons pe_str pa_nil))) (L3.pe_ocall (ok__law_take T) (hr.mono (by decide)) tkC (pa_cons (pv 2) (pa_cons pe_int pa_nil))) (fun _ _ => rfl)))
  (pss_cons (ps_asg (pe_lc (own := [("_law_side", 8)]) (g := gName 8) (tt := tYes) rfl nd (pi_range1 rfl T.z_range (pa_cons pe_int pa_nil)) (blkOk_by (own := [("_law_side", 8)]) (N := ["_law_script", "_law_k", "_law_box_here", "_law_turn", "_law_kind", "_law_low", "_law_many", "_law_last", "_law_side", "_law_numbers_here", "_law_value_here", "_law_some", "_law_due_here", "_law_named", "_law_one"]) (sc := defScope s_law) (by decide +kernel)) (fun _ _ _ _ _ => (pg_name (i := 8) nd rfl (.inl rfl))) (fun _ _ _ _ _ => pts_nil) (fun _ _ _ _ _ => (L3.pe_ocall (ok__law_value T) (hr.mono (by decide)) takes0 (pa_cons (pv 2) pa_nil)))) (pg_lst rfl (pgs_cons (pg_name (i := 5) nd rfl (.inl rfl)) (pgs_cons (pg_name (i := 6) nd rfl (.inl rfl)) (pgs_cons (pg_name (i := 7) nd rfl (.inl rfl)) pgs_nil)))))
  (pss_cons (ps_setLc (i := 9) (own := [("_law_value_here", 10)]) (g := gName 10) rfl nd rfl rfl (sw_true rfl rfl rfl (by decide +kernel)) (pi_tup (pe_tup (pa_cons (pv 5) (pa_cons (pv 6) pa_nil)))) (blkOk_by (own := [("_law_value_here", 10)]) (N := ["_law_script", "_law_k", "_law_box_here", "_law_turn", "_law_kind", "_law_low", "_law_many", "_law_last", "_law_side", "_law_numbers_here", "_law_value_here", "_law_some", "_law_due_here", "_law_named", "_law_one"]) (sc := defScope s_law) (by decide +kernel)) (fun _ _ _ _ _ => (pg_name (i := 10) nd rfl (.inl rfl))) (fun _ _ _ _ _ => (pts_one (pt_val (L3.pe_ocall (ok__law_is_integer T) (hr.mono (by decide)) takes0 (pa_cons (pv 10) pa_nil))))) (fun _ _ _ _ _ => (pv 10)))
  (pss_cons (ps_if (PW.pt (pw_and (pt_cmpR op_eq (pe_callB call_len_seq (by rfl) T.z_len boot_len (pa_cons (pv 9) pa_nil)) pe_int (nomark _)) (pw_and1 (pt_cmpR op_eq (L3.pe_ocall (ok__law_take T) (hr.mono (by decide)) tkC (pa_cons (pv 2) (pa_cons pe_int pa_nil))) pe_int (nomark _))))) (pss_cons (ps_set (i := 11) nd rfl (.inl rfl) (pe_lst (pa_cons (pe_op op_sub pe_int (pv 5)) (pa_cons (pe_op op_sub pe_int (pv 5)) (pa_cons (pe_op op_sub (pe_op op_sub pe_int (pv 5)) pe_int) pa_nil)))))
  (pss_cons (ps_if (pt_cmpR op_eq (pv 4) pe_str (nomark _)) (pss_one (ps_set (i := 11) nd rfl (.inl rfl) (pe_lst (pa_cons (pe_op op_sub (pe_op op_add (pv 5) (pv 6)) pe_int) (pa_cons (pe_op op_add (pv 5) (pv 6)) (pa_cons (pe_op op_sub (pe_op op_add (pv 5) (pv 6)) pe_int) pa_nil)))))) pss_nil)
  (pss_one (ps_set (i := 7) nd rfl (.inl rfl) (pe_ix ix_list (pv 11) (L3.pe_ocall (ok__law_take T) (hr.mono (by decide)) tkC (pa_cons (pv 2) (pa_cons pe_int pa_nil))) (fun _ _ => rfl)))))) pss_nil)
  (pss_cons (ps_set (i := 12) nd rfl (.inl rfl) (L3.pe_ocall (ok__law_due T) (hr.mono (by decide)) tkC (pa_cons (pv 4) (pa_cons (pv 5) (pa_cons (pv 6) (pa_cons (pv 7) pa_nil))))))
  (pss_one (ps_if (pt_cmpR op_ne (pe_callB (L3.call_reprD g hr.units) (by rfl) T.z_repr (by decide +kernel) (pa_cons (L3.pe_ocall (ok__law_told T) (hr.mono (by decide)) tkC (pa_cons (pv 4) (pa_cons (pv 5) (pa_cons (pv 6) (pa_cons (pv 7) pa_nil))))) pa_nil)) (pe_callB (L3.call_reprD g hr.units) (by rfl) T.z_repr (by decide +kernel) (pa_cons (pv 12) pa_nil)) (nomark _)) (pss_one (ps_ret pe_bl)) pss_nil))))))))
  (pss_cons (ps_set (i := 13) nd rfl (.inl rfl) (pe_lst (pa_cons (L3.pe_omakeK (okK_Slide T) (hr.mono (by decide)) (pk_cons pe_int (pk_cons pe_int (pk_cons pe_int pk_nil)))) (pa_cons (L3.pe_omakeK (okK_Turn T) (hr.mono (by decide)) (pk_cons pe_int (pk_cons pe_int (pk_cons pe_int pk_nil)))) pa_nil))))
  (pss_one (ps_if (pt_cmpR (op_neD hr.units) (pe_lc (own := [("_law_one", 14)]) (g := gName 14) (tt := tYes) rfl nd (pi_list (pv 13)) (blkOk_by (own := [("_law_one", 14)]) (N := ["_law_script", "_law_k", "_law_box_here", "_law_turn", "_law_kind", "_law_low", "_law_many", "_law_last", "_law_side", "_law_numbers_here", "_law_value_here", "_law_some", "_law_due_here", "_law_named", "_law_one"]) (sc := defScope s_law) (by decide +kernel)) (fun _ _ _ _ _ => (pg_name (i := 14) nd rfl (.inl rfl))) (fun _ _ _ _ _ => pts_nil) (fun _ _ _ _ _ => (L3.pe_ocall (ok__law_numbers T) (hr.mono (by decide)) takes0 (pa_cons (pv 14) pa_nil)))) (pe_lst (pa_cons (pe_tup (pa_cons pe_str (pa_cons pe_int (pa_cons pe_int (pa_cons pe_int pa_nil))))) (pa_cons (pe_tup (pa_cons pe_str (pa_cons pe_int (pa_cons pe_int (pa_cons pe_int pa_nil))))) pa_nil))) (nomark _)) (pss_one (ps_ret pe_bl)) pss_nil))))))
  (pss_one (ps_ret pe_bl))), ?_⟩
  try dsimp only [cxOf]
  simp only [L2.start, List.map_cons, List.map_nil, List.length_cons, List.length_nil, List.replicate, List.cons_append, List.nil_append, Nat.reduceAdd, Nat.reduceSub]
  walk_at "go"
  refine ⟨a, _, rfl, .inl hs, ?_⟩
  rw [List.length_map]
  walk_at "go"
  refine ⟨_, _, rfl, ?_⟩
  walk_at "go"
  refine ⟨_, _, rfl, ?_⟩
  walk_at "go"
  refine ⟨_, rfl, ?_, ?_, ?_⟩
  · split <;> split <;> omega
  · split <;> split <;> omega
  refine for_rng (fun i σ H => (∃ s1 s2 s3 s4 s5 s6 s7 s8 s9 s10 s11 s12 s13 s14, σ = [some (.ref a), s1, s2, s3, s4, s5, s6, s7, s8, s9, s10, s11, s12, s13, s14]) ∧ SqL K H a (ns.map V.int)) ⟨⟨_, _, _, _, _, _, _, _, _, _, _, _, _, _, rfl⟩, hs⟩ ?_ ?_
  · rintro i σ1 H1 hi ⟨⟨s1, s2, s3, s4, s5, s6, s7, s8, s9, s10, s11, s12, s13, s14, rfl⟩, hs1⟩
    have hi2 : i < 1000 := by
      revert hi
      split <;> split <;> intro hi <;> omega
    show tSeq _ _ _ _ _
    walk_at "go"
    refine ap_box hs1 (fun b H2 nb e2 hb2 => ?_) (by omega)
    have sc2 := up e2 (Scq.of hs1 nb)
    walk_at "go"
    refine ⟨_, rfl, by decide, by decide, ?_⟩
    refine for_rng (fun j σ H => (∃ s3 s4 s5 s6 s7 s8 s9 s10 s11 s12 s13 s14, σ = [some (.ref a), some (.int (0 + (i : Int))), some (.ref b), s3, s4, s5, s6, s7, s8, s9, s10, s11, s12, s13, s14]) ∧ Scq K b a (ns.map V.int) H ∧ Box b H) ⟨⟨_, _, _, _, _, _, _, _, _, _, _, _, rfl⟩, sc2, hb2⟩ ?_ ?_
    · rintro j σ3 H3 hj ⟨⟨s3, s4, s5, s6, s7, s8, s9, s10, s11, s12, s13, s14, rfl⟩, sc3, hb3⟩
      show tSeq _ _ _ _ _
      walk_at "go"
      refine i_newL fun p4 H4 e4 n4 t4 => ?_
      have p4b := box_ne hb3 n4
      have hb4 := up e4 hb3
      walk_at "go"
      refine ap_take hb4 fun d5 H5 p5 q5 x5 hb5 => ?_
      have t5 := x5.keep _ _ p4b t4
      have sc5 := up x5 (up e4 sc3)
      walk_at "go"
      refine i_ixAll (SqL.of t5) p5 q5 fun v hv => ?_
      obtain ⟨C, hC, rfl⟩ : ∃ C, isPa K C ∧ v = .str (kdP K C) := by
        rcases List.mem_cons.mp hv with rfl | hv
        · exact ⟨_, .inl rfl, by rw [kdS]⟩
        rcases List.mem_cons.mp hv with rfl | hv
        · exact ⟨_, .inr rfl, by rw [kdT T]⟩
        cases hv
      walk_at "go"
      refine ⟨_, rfl, by decide, by decide, ?_⟩
      refine lc_rngP (Φ := fun H => Bx b H5 H ∧ Box b H) (φ := fun _ v H => ∃ d, Vd d ∧ Da v d H) ⟨Bx.self hb5, hb5⟩ (bears_bx hb5) (fun D i acc H nD hi eD r => ?_) (fun D acc H6 nD eD r => ?_)
      · walk_at "go"
        refine ⟨rfl, ?_⟩
        walk_at "go"
        refine ap_draw r.fr.2 fun v d H7 gd hd x7 hb7 => ?_
        have dn : D ≠ b := box_ne hb5 nD
        exact lcP_fin (R := Bx b) nD (bears_bx hb5) r x7 (x7.keep _ _ dn eD) ⟨r.fr.1.trans x7, hb7⟩ ⟨d, gd, hd⟩ (by rw [r.len]; have : i < 3 := hi; omega) (fun _ _ ⟨d, g, h⟩ => ⟨d, g, up x7 h⟩) (fun _ _ ⟨d, g, h⟩ => ⟨d, g, up (Bx.upd (x7.keep _ _ dn eD)) h⟩)
      obtain ⟨w1, w2, w3, rfl⟩ : ∃ w1 w2 w3, acc = [w1, w2, w3] := by
        match acc, r.len with
        | [a, b, c], _ => exact ⟨a, b, c, rfl⟩
      obtain ⟨d1, g1, h1⟩ := r.all 0 w1 rfl
      obtain ⟨d2, g2, h2⟩ := r.all 1 w2 rfl
      obtain ⟨d3, g3', h3⟩ := r.all 2 w3 rfl
      have g3 := Bd.vd g3'
      have hb6 := r.fr.2
      have sc6 := up r.fr.1 sc5
      walk_at "go"
      refine i_glst (SqL.of eD) ?_
      walk_at "go"
      refine i_newT fun p7 H7 e7 n7 t7 => ?_
      have h1 := up (φ := Da _ _) e7 h1
      have h2 := up (φ := Da _ _) e7 h2
      have h3 := up (φ := Da _ _) e7 h3
      walk_at "go"
      refine ⟨p7, rfl, ⟨_, SqT.of t7⟩, ?_⟩
      refine lc_tupA (xs := [w1, w2]) (fun D i acc H => Ex H7 H ∧ acc.length = (([d1, d2].take i).filter L3.isInt).length) fun D nD => ⟨⟨Ex.new nD, rfl⟩, fun i acc H r => SqT.of (r.1 _ _ t7), fun i x acc H8 hx eD r => ?_, fun acc H8 eD8 r8 => ?_⟩
      · obtain ⟨d, hd, hy⟩ : ∃ d, Da x d H7 ∧ [d1, d2][i]? = some d := by
          match i, hx with
          | 0, hx => cases hx; exact ⟨d1, h1, rfl⟩
          | 1, hx => cases hx; exact ⟨d2, h2, rfl⟩
        have hd := up r.1 hd
        have ek : ([d1, d2].take (i + 1)).filter L3.isInt = ([d1, d2].take i).filter L3.isInt ++ [d].filter L3.isInt := by
          rw [List.take_succ, hy, List.filter_append]
          rfl
        walk_at "go"
        refine ⟨rfl, ?_⟩
        walk_at "go"
        refine ap_isint hd ?_
        walk_at "go"
        cases z : L3.isInt d with
        | false =>
          walk_at "go"
          refine lcN_of eD ⟨r.1, ?_⟩
          rw [ek, List.filter_cons_of_neg (by simp [z]), List.filter_nil, List.append_nil]
          exact r.2
        | true =>
          walk_at "go"
          refine lcK_of eD ⟨r.1.updN nD, ?_⟩ ?_
          · rw [ek, List.filter_cons_of_pos (by simp [z]), List.filter_nil, List.length_append, List.length_append, r.2]
            rfl
          · have l1 := r.2
            have l2 := List.length_filter_le L3.isInt ([d1, d2].take i)
            rw [List.length_take] at l2
            have l3 : [d1, d2].length = 2 := rfl
            omega
      have e78 := e7.trans r8.1
      have hacc : acc.length = ([d1, d2].filter L3.isInt).length := r8.2
      have h1 := up (φ := Da _ _) r8.1 h1
      have h2 := up (φ := Da _ _) r8.1 h2
      have h3 := up (φ := Da _ _) r8.1 h3
      have sc := up e78 sc6
      have hb := up e78 hb6
      walk_at "go"
      refine ⟨D, _, rfl, .inl (SqL.of eD8), ?_⟩
      walk_at "go"
      apply i_dec <;> intro c1
      · walk_at "go"
        refine ap_take hb fun d9 H9 p9 q9 x9 hb => ?_
        have h1 := up (φ := Da _ _) x9 h1
        have h2 := up (φ := Da _ _) x9 h2
        have h3 := up (φ := Da _ _) x9 h3
        have sc := up x9 sc
        walk_at "go"
        apply i_dec <;> intro c2
        · have l2 : ([d1, d2].filter L3.isInt).length = 2 := by
            have z : (acc.length : Int) = 2 := V.int.inj c1
            omega
          have z1 : L3.isInt d1 = true := by
            cases z1 : L3.isInt d1 <;> cases z2 : L3.isInt d2 <;> simp [List.filter, z1, z2] at l2 ⊢
          have z2 : L3.isInt d2 = true := by
            cases z1 : L3.isInt d1 <;> cases z2 : L3.isInt d2 <;> simp [List.filter, z1, z2] at l2 ⊢
          obtain ⟨s, rfl⟩ := isInt_of z1
          obtain ⟨n, rfl⟩ := isInt_of z2
          have q1 := Dt.int_of h1
          have q2 := Dt.int_of h2
          subst q1 q2
          have bs := g1.itg s rfl
          have bn := g2.itg n rfl
          walk_at "go"
          refine i_newL fun p10 H10 e10 n10 t10 => ?_
          have p10b := box_ne hb n10
          have h1 := up (φ := Da _ _) e10 h1
          have h2 := up (φ := Da _ _) e10 h2
          have sc := up e10 sc
          have hb := up e10 hb
          walk_at "go"
          rcases id hC with rfl | rfl
          · rw [kdS, eqST]
            walk_at "go"
            refine ap_take hb fun d11 H11 p11 q11 x11 hb => ?_
            have t11 := x11.keep _ _ p10b t10
            have h1 := up (φ := Da _ _) x11 h1
            have h2 := up (φ := Da _ _) x11 h2
            have sc := up x11 sc
            walk_at "go"
            refine i_ixAll (SqL.of t11) p11 q11 fun v hv => ?_
            obtain ⟨t, rfl, bt⟩ : ∃ i : Int, v = .int i ∧ i.natAbs ≤ 10 ^ 33 := by
              rcases List.mem_cons.mp hv with rfl | hv
              · exact ⟨_, rfl, by omega⟩
              rcases List.mem_cons.mp hv with rfl | hv
              · exact ⟨_, rfl, by omega⟩
              rcases List.mem_cons.mp hv with rfl | hv
              · exact ⟨_, rfl, by omega⟩
              cases hv
            have g3 := Bd.int bt
            have h3 : Da (.int t) (.int t) H11 := .int t
            rw [← kdS (K := K)]
            walk_at "go"
            refine ⟨He.ga K "Slide", _, _, _, _, _, _, rfl, hC, h1, h2, h3, ⟨Cl.vd g1, Cl.vd g2, g3.cl⟩, fun v9 H9 e9 hv9 => ?_⟩
            walk_at "go"
            refine ⟨He.ga K "Slide", _, _, _, _, _, _, rfl, hC, up (φ := Da _ _) e9 h1, up (φ := Da _ _) e9 h2, up (φ := Da _ _) e9 h3, fun v10 H10 e10 hv10 => ?_⟩
            walk_at "go"
            refine i_repr hv10 (dueP_shw g1 g2 g3) ?_
            walk_at "go"
            refine i_repr (Dp.upE e10 hv9) (dueP_shw g1 g2 g3) ?_
            walk_at "go"
            apply i_ndec <;> intro ne
            · exact absurd rfl ne
            walk_at "go"
            exact ⟨⟨_, _, _, _, _, _, _, _, _, _, _, _, rfl⟩, up (e9.trans e10) sc, up (e9.trans e10) hb⟩
          · rw [kdT T, eqTT]
            walk_at "go"
            refine i_newL fun p12 H12 e12 n12 t12 => ?_
            have p12b := box_ne hb n12
            have h1 := up (φ := Da _ _) e12 h1
            have h2 := up (φ := Da _ _) e12 h2
            have sc := up e12 sc
            have hb := up e12 hb
            walk_at "go"
            refine ap_take hb fun d11 H11 p11 q11 x11 hb => ?_
            have t11 := x11.keep _ _ p12b t12
            have h1 := up (φ := Da _ _) x11 h1
            have h2 := up (φ := Da _ _) x11 h2
            have sc := up x11 sc
            walk_at "go"
            refine i_ixAll (SqL.of t11) p11 q11 fun v hv => ?_
            obtain ⟨t, rfl, bt⟩ : ∃ i : Int, v = .int i ∧ i.natAbs ≤ 10 ^ 33 := by
              rcases List.mem_cons.mp hv with rfl | hv
              · exact ⟨_, rfl, by omega⟩
              rcases List.mem_cons.mp hv with rfl | hv
              · exact ⟨_, rfl, by omega⟩
              rcases List.mem_cons.mp hv with rfl | hv
              · exact ⟨_, rfl, by omega⟩
              cases hv
            have g3 := Bd.int bt
            have h3 : Da (.int t) (.int t) H11 := .int t
            rw [← kdT (K := K) T]
            walk_at "go"
            refine ⟨He.ga K "Turn", _, _, _, _, _, _, rfl, hC, h1, h2, h3, ⟨Cl.vd g1, Cl.vd g2, g3.cl⟩, fun v9 H9 e9 hv9 => ?_⟩
            walk_at "go"
            refine ⟨He.ga K "Turn", _, _, _, _, _, _, rfl, hC, up (φ := Da _ _) e9 h1, up (φ := Da _ _) e9 h2, up (φ := Da _ _) e9 h3, fun v10 H10 e10 hv10 => ?_⟩
            walk_at "go"
            refine i_repr hv10 (dueP_shw g1 g2 g3) ?_
            walk_at "go"
            refine i_repr (Dp.upE e10 hv9) (dueP_shw g1 g2 g3) ?_
            walk_at "go"
            apply i_ndec <;> intro ne
            · exact absurd rfl ne
            walk_at "go"
            exact ⟨⟨_, _, _, _, _, _, _, _, _, _, _, _, rfl⟩, up (e9.trans e10) sc, up (e9.trans e10) hb⟩
        · walk_at "go"
          refine ⟨C, _, _, _, _, _, _, rfl, hC, h1, h2, h3, ⟨Cl.vd g1, Cl.vd g2, g3.cl⟩, fun v9 H9 e9 hv9 => ?_⟩
          walk_at "go"
          refine ⟨C, _, _, _, _, _, _, rfl, hC, up (φ := Da _ _) e9 h1, up (φ := Da _ _) e9 h2, up (φ := Da _ _) e9 h3, fun v10 H10 e10 hv10 => ?_⟩
          walk_at "go"
          refine i_repr hv10 (dueP_shw g1 g2 g3) ?_
          walk_at "go"
          refine i_repr (Dp.upE e10 hv9) (dueP_shw g1 g2 g3) ?_
          walk_at "go"
          apply i_ndec <;> intro ne
          · exact absurd rfl ne
          walk_at "go"
          exact ⟨⟨_, _, _, _, _, _, _, _, _, _, _, _, rfl⟩, up (e9.trans e10) sc, up (e9.trans e10) hb⟩
      · walk_at "go"
        refine ⟨C, _, _, _, _, _, _, rfl, hC, h1, h2, h3, ⟨Cl.vd g1, Cl.vd g2, g3.cl⟩, fun v9 H9 e9 hv9 => ?_⟩
        walk_at "go"
        refine ⟨C, _, _, _, _, _, _, rfl, hC, up (φ := Da _ _) e9 h1, up (φ := Da _ _) e9 h2, up (φ := Da _ _) e9 h3, fun v10 H10 e10 hv10 => ?_⟩
        walk_at "go"
        refine i_repr hv10 (dueP_shw g1 g2 g3) ?_
        walk_at "go"
        refine i_repr (Dp.upE e10 hv9) (dueP_shw g1 g2 g3) ?_
        walk_at "go"
        apply i_ndec <;> intro ne
        · exact absurd rfl ne
        walk_at "go"
        exact ⟨⟨_, _, _, _, _, _, _, _, _, _, _, _, rfl⟩, up (e9.trans e10) sc, up (e9.trans e10) hb⟩
    · rintro σ3 H3 ⟨⟨s3, s4, s5, s6, s7, s8, s9, s10, s11, s12, s13, s14, rfl⟩, sc3, hb3⟩
      walk_at "go"
      refine makIK_of (us := [.int 4, .int 3, .int 2]) (fun _ => rfl) (ap_makePG (.inl rfl) (by decide) (by decide) (by rw [imS]; decide) fun x H4 e4 n4 hx => ?_)
      walk_at "go"
      refine makIK_of (us := [.int 2, .int 3, .int 9]) (fun _ => rfl) (ap_makePG (.inr rfl) (by decide) (by decide) (by rw [imT (neP T)]; decide) fun y H5 e5 n5 hy => ?_)
      walk_at "go"
      refine i_newL fun p6 H6 e6 n6 t6 => ?_
      have hx := up (e5.trans e6) hx
      have hy := up e6 hy
      walk_at "go"
      refine ⟨p6, rfl, ⟨_, SqL.of t6⟩, ?_⟩
      refine lc_lstP (xs := [V.ref x, V.ref y]) (Φ := Ex H6) (φ := fun j v H => ∃ d, [rowP K (He.ga K "Slide") 4 3 2, rowP K (He.ga K "Turn") 2 3 9][j]? = some d ∧ Da v d H) (Ex.refl H6) (bears_ex (Ex.refl H6)) (fun H e => SqL.of (e _ _ t6)) (fun D i x acc H7 nD hi eD r => ?_) (fun D acc H7 nD eD r => ?_)
      · obtain ⟨C, z, s, n, t, rfl, hz, er⟩ : ∃ C z s n t, x = .ref z ∧ PrH K C z s n t H6 ∧ [rowP K (He.ga K "Slide") 4 3 2, rowP K (He.ga K "Turn") 2 3 9][i]? = some (rowP K C s n t) := by
          match i, hi with
          | 0, hi => cases hi; exact ⟨_, _, 4, 3, 2, rfl, hx, rfl⟩
          | 1, hi => cases hi; exact ⟨_, _, 2, 3, 9, rfl, hy, rfl⟩
        have li : i < 2 := (List.getElem?_eq_some_iff.mp hi).1
        walk_at "go"
        refine ⟨rfl, ?_⟩
        walk_at "go"
        refine ⟨C, z, s, n, t, rfl, up r.fr hz, fun v H8 e8 hv => ?_⟩
        exact lcP_fin (R := Ex) nD (bears_ex (Ex.refl H6)) r e8 (e8 _ _ eD) (r.fr.trans e8) ⟨_, er, hv⟩ (by rw [r.len]; omega) (fun _ _ ⟨d, g, h⟩ => ⟨d, g, up e8 h⟩) (fun _ _ ⟨d, g, h⟩ => ⟨d, g, up (Bx.upd (e8 _ _ eD)) h⟩)
      obtain ⟨w1, w2, rfl⟩ : ∃ w1 w2, acc = [w1, w2] := by
        match acc, r.len with
        | [a, b], _ => exact ⟨a, b, rfl⟩
      obtain ⟨d1, g1, h1⟩ := r.all 0 w1 rfl
      obtain ⟨d2, g2, h2⟩ := r.all 1 w2 rfl
      cases g1
      cases g2
      have e67 := r.fr
      walk_at "go"
      refine i_newT fun p8 H8 e8 n8 t8 => ?_
      walk_at "go"
      refine i_newT fun p9 H9 e9 n9 t9 => ?_
      walk_at "go"
      refine i_newL fun p10 H10 e10 n10 t10 => ?_
      walk_at "go"
      have h1 := up (φ := Da _ _) (e8.trans (e9.trans e10)) h1
      have h2 := up (φ := Da _ _) (e8.trans (e9.trans e10)) h2
      unfold rowP at h1 h2
      rw [kdS] at h1
      rw [kdT T] at h2
      have a8 : Da (.ref p8) (.tuple [.str "slide", .int 4, .int 3, .int 2]) H10 := .tup ((e9.trans e10) _ _ t8) (.cons (.str _) (.cons (.int _) (.cons (.int _) (.cons (.int _) .nil))))
      have a9 : Da (.ref p9) (.tuple [.str "turn", .int 2, .int 3, .int 9]) H10 := .tup (e10 _ _ t9) (.cons (.str _) (.cons (.int _) (.cons (.int _) (.cons (.int _) .nil))))
      refine ⟨_, _, .lst (SqL.of ((e8.trans (e9.trans e10)) _ _ eD)) (.cons (Dt.dp h1) (.cons (Dt.dp h2) .nil)), .lst (SqL.of t10) (.cons (Dt.dp a8) (.cons (Dt.dp a9) .nil)), by decide +kernel, by decide +kernel, ?_⟩
      have e : PyData.eqv (.list [.tuple [.str "slide", .int 4, .int 3, .int 2], .tuple [.str "turn", .int 2, .int 3, .int 9]]) (.list [.tuple [.str "slide", .int 4, .int 3, .int 2], .tuple [.str "turn", .int 2, .int 3, .int 9]]) = true := by decide +kernel
      rw [e]
      walk_at "go"
      exact ⟨⟨_, _, _, _, _, _, _, _, _, _, _, _, _, _, rfl⟩, (up (e4.trans (e5.trans (e6.trans (e67.trans (e8.trans (e9.trans e10)))))) sc3).sq⟩
  · rintro σ1 H1 ⟨⟨s1, s2, s3, s4, s5, s6, s7, s8, s9, s10, s11, s12, s13, s14, rfl⟩, hs1⟩
    walk_at "go"
    exact q _
end
/-! ### the head -/
def dxs : List DefX := [
  { adr := fun K => He.ga K "is_integer", name := "is_integer", qual := "is_integer", st := s_is_integer },
  { adr := fun K => He.ma K (He.ga K "InvalidStretch") "__init__", name := "__init__", qual := "InvalidStretch.__init__", st := s_InvalidStretchD_initD },
  { adr := fun K => He.ma K (He.ga K "Stretch") "__init__", name := "__init__", qual := "Stretch.__init__", st := s_StretchD_initD },
  { adr := fun K => gAdr K (He.ga K "Stretch") "last", name := "last", qual := "Stretch.last", st := s_Stretch_last },
  { adr := fun K => He.ma K (He.ga K "Backward") "__init__", name := "__init__", qual := "Backward.__init__", st := s_BackwardD_initD, cl := ["__class__"] },
  { adr := fun K => He.ma K (He.ga K "InvalidPairing") "__init__", name := "__init__", qual := "InvalidPairing.__init__", st := s_InvalidPairingD_initD },
  { adr := fun K => He.ga K "check_numbers", name := "check_numbers", qual := "check_numbers", st := s_check_numbers },
  { adr := fun K => He.ga K "check_image", name := "check_image", qual := "check_image", st := s_check_image },
  { adr := fun K => He.ga K "least_turned", name := "least_turned", qual := "least_turned", st := s_least_turned },
  { adr := fun K => He.ma K (He.ga K "Pairing") "__init__", name := "__init__", qual := "Pairing.__init__", st := s_PairingD_initD },
  { adr := fun K => He.ma K (He.ga K "Slide") "__init__", name := "__init__", qual := "Slide.__init__", st := s_SlideD_initD, cl := ["__class__"] },
  { adr := fun K => He.ma K (He.ga K "Turn") "__init__", name := "__init__", qual := "Turn.__init__", st := s_TurnD_initD, cl := ["__class__"] },
  { adr := fun K => gAdr K (He.ga K "Slide") "domain", name := "domain", qual := "Slide.domain", st := s_Slide_domain },
  { adr := fun K => gAdr K (He.ga K "Slide") "image", name := "image", qual := "Slide.image", st := s_Slide_image },
  { adr := fun K => He.ma K (He.ga K "Slide") "__invert__", name := "__invert__", qual := "Slide.__invert__", st := s_SlideD_invertD },
  { adr := fun K => gAdr K (He.ga K "Turn") "domain", name := "domain", qual := "Turn.domain", st := s_Turn_domain },
  { adr := fun K => gAdr K (He.ga K "Turn") "image", name := "image", qual := "Turn.image", st := s_Turn_image },
  { adr := fun K => He.ma K (He.ga K "Turn") "__invert__", name := "__invert__", qual := "Turn.__invert__", st := s_TurnD_invertD },
  { adr := fun K => gAdr K (He.ga K "Slide") "upright", name := "upright", qual := "Slide.upright", st := s_Slide_upright },
  { adr := fun K => gAdr K (He.ga K "Turn") "upright", name := "upright", qual := "Turn.upright", st := s_Turn_upright },
  { adr := fun K => He.ga K "_law_box", name := "_law_box", qual := "_law_box", st := s__law_box },
  { adr := fun K => He.ga K "_law_take", name := "_law_take", qual := "_law_take", st := s__law_take },
  { adr := fun K => He.ga K "_law_number", name := "_law_number", qual := "_law_number", st := s__law_number },
  { adr := fun K => He.ga K "_law_value", name := "_law_value", qual := "_law_value", st := s__law_value },
  { adr := fun K => He.ga K "_law_is_integer", name := "_law_is_integer", qual := "_law_is_integer", st := s__law_is_integer },
  { adr := fun K => He.ga K "_law_numbers", name := "_law_numbers", qual := "_law_numbers", st := s__law_numbers },
  { adr := fun K => He.ga K "_law_ends", name := "_law_ends", qual := "_law_ends", st := s__law_ends },
  { adr := fun K => He.ga K "_law_told", name := "_law_told", qual := "_law_told", st := s__law_told },
  { adr := fun K => He.ga K "_law_due", name := "_law_due", qual := "_law_due", st := s__law_due },
  { adr := fun K => He.ga K "law", name := "law", qual := "law", st := s_law }]
def fcs : List Fc := [
  fInh "Backward" "Stretch" "last",
  fun K => (He.Fa.glo "is_integer").ok K,
  fun K => (He.Fa.free "int").ok K,
  fun K => (He.Fa.free "isinstance").ok K,
  fun K => (He.Fa.free "bool").ok K,
  fNone "InvalidStretch" "start",
  fNone "InvalidStretch" "size",
  fOex "InvalidStretch",
  fun K => (He.Fa.glo "InvalidStretch").ok K,
  fun K => (He.Fa.glo "TwinError").ok K,
  fBase "TwinError",
  fun K => (He.Fa.cls "Stretch").ok K,
  fun K => (He.Fa.cls "Backward").ok K,
  fun K => (He.Fa.noat "Stretch" "start").ok K,
  fun K => (He.Fa.noat "Stretch" "size").ok K,
  fIns "Stretch",
  fun K => (He.Fa.noat "Backward" "start").ok K,
  fun K => (He.Fa.noat "Backward" "size").ok K,
  fIns "Backward",
  fun K => (He.Fa.mkr "Stretch").ok K,
  fun K => (He.Fa.glo "Stretch").ok K,
  fProp "Stretch" "last",
  fSupD "Backward" "__init__" "/claim/cut.py",
  fun K => (He.Fa.mkr "Backward").ok K,
  fun K => (He.Fa.glo "Backward").ok K,
  fSup "Backward" "Stretch",
  fNone "InvalidPairing" "start",
  fNone "InvalidPairing" "size",
  fOex "InvalidPairing",
  fun K => (He.Fa.glo "InvalidPairing").ok K,
  fun K => (He.Fa.glo "check_numbers").ok K,
  fun K => (He.Fa.free "all").ok K,
  fun K => (He.Fa.glo "check_image").ok K,
  fun K => (He.Fa.glo "least_turned").ok K,
  fun K => (He.Fa.noat "Slide" "start").ok K,
  fun K => (He.Fa.noat "Slide" "size").ok K,
  fun K => (He.Fa.noat "Slide" "by").ok K,
  fun K => (He.Fa.noat "Slide" "total").ok K,
  fun K => (He.Fa.cls "Slide").ok K,
  fIns "Slide",
  fun K => (He.Fa.noat "Turn" "start").ok K,
  fun K => (He.Fa.noat "Turn" "size").ok K,
  fun K => (He.Fa.noat "Turn" "by").ok K,
  fun K => (He.Fa.noat "Turn" "total").ok K,
  fun K => (He.Fa.cls "Turn").ok K,
  fIns "Turn",
  fNe "Turn" "Slide",
  fun K => (He.Fa.mkr "Pairing").ok K,
  fun K => (He.Fa.glo "Pairing").ok K,
  fSupD "Slide" "__init__" "/claim/cut.py",
  fun K => (He.Fa.mkr "Slide").ok K,
  fun K => (He.Fa.glo "Slide").ok K,
  fSup "Slide" "Pairing",
  fSupD "Turn" "__init__" "/claim/cut.py",
  fun K => (He.Fa.mkr "Turn").ok K,
  fun K => (He.Fa.glo "Turn").ok K,
  fSup "Turn" "Pairing",
  fProp "Slide" "domain",
  fProp "Slide" "image",
  fun K => (He.Fa.meth "Slide" "__invert__").ok K,
  fProp "Turn" "domain",
  fProp "Turn" "image",
  fun K => (He.Fa.meth "Turn" "__invert__").ok K,
  fProp "Slide" "upright",
  fProp "Turn" "upright",
  fun K => (He.Fa.glo "_law_box").ok K,
  fun K => (He.Fa.free "len").ok K,
  fun K => (He.Fa.free "abs").ok K,
  fun K => (He.Fa.glo "_law_take").ok K,
  fun K => (He.Fa.glo "_law_number").ok K,
  fun K => (He.Fa.glo "_law_value").ok K,
  fun K => (He.Fa.glo "_law_is_integer").ok K,
  fKit "Slide" "Slide" true,
  fKit "Slide" "Turn" false,
  fKit "Slide" "Pairing" true,
  fKit "Turn" "Slide" false,
  fKit "Turn" "Turn" true,
  fKit "Turn" "Pairing" true,
  fKit "Stretch" "Stretch" true,
  fKit "Stretch" "Backward" false,
  fKit "Backward" "Stretch" true,
  fKit "Backward" "Backward" true,
  fNe "Stretch" "Backward",
  fun K => (He.Fa.glo "_law_numbers").ok K,
  fun K => (He.Fa.glo "_law_ends").ok K,
  fun K => (He.Fa.exm "InvalidPairing" "InvalidPairing" true).ok K,
  fKit "InvalidPairing" "TwinError" true,
  fKit "InvalidPairing" "InvalidStretch" false,
  fun K => (He.Fa.glo "_law_told").ok K,
  fExc "InvalidPairing",
  fun K => (He.Fa.glo "_law_due").ok K,
  fun K => (He.Fa.glo "law").ok K,
  fun K => (He.Fa.free "range").ok K,
  fun K => (He.Fa.free "min").ok K,
  fun K => (He.Fa.free "max").ok K,
  fun K => (He.Fa.free "repr").ok K]
theorem oex_ok {K : PySem.W.Frag} {x : Str} (h : fOex x K = true) : OexC K (He.ga K x) ∧ PySem.W.findIn K (.ref (He.ga K x)) "__init__" = some (some (.ref (He.ma K (He.ga K x) "__init__"))) ∧ PySem.W.typeIn K (.ref (He.ma K (He.ga K x) "__init__")) = some (.type "function") := by
  obtain ⟨h1, h2⟩ := He.ba h
  obtain ⟨h3, h4⟩ := He.ba h2
  exact ⟨oexB_ok h1, of_decide_eq_true h3, of_decide_eq_true h4⟩
theorem ins_ok {K : PySem.W.Frag} {x : Str} (h : fIns x K = true) : InsF K (He.ga K x) := by
  obtain ⟨h1, h2⟩ := He.ba h
  exact insB_ok (He.cls_ok h1) h2
theorem tx {P : Program} {K : PySem.W.Frag} {mg : Str → Option Value} {h : Heap} (hP : P.main.file = "/claim/cut.py") (hS : (P.main.scope.names.lookup ("super" : Str)).isSome = false) (X : K.In h) (G : h.Ns mainGlobals mg) (c : SaysV (ckL fcs) dxs K) : Tx P K mg := ⟨
  of_decide_eq_true (ck_at (φ := fInh "Backward" "Stretch" "last") c 0),
  c.def_ 0,
  He.glo_ok X G (ck_at (φ := fun K => (He.Fa.glo "is_integer").ok K) c 1),
  He.free_ok X G (ck_at (φ := fun K => (He.Fa.free "int").ok K) c 2),
  He.free_ok X G (ck_at (φ := fun K => (He.Fa.free "isinstance").ok K) c 3),
  He.free_ok X G (ck_at (φ := fun K => (He.Fa.free "bool").ok K) c 4),
  of_decide_eq_true (ck_at (φ := fNone "InvalidStretch" "start") c 5),
  of_decide_eq_true (ck_at (φ := fNone "InvalidStretch" "size") c 6),
  c.def_ 1,
  oex_ok (ck_at c 7),
  He.glo_ok X G (ck_at (φ := fun K => (He.Fa.glo "InvalidStretch").ok K) c 8),
  baseB_ok (He.glo_ok X G (ck_at (φ := fun K => (He.Fa.glo "TwinError").ok K) c 9)) (ck_at (φ := fBase "TwinError") c 10),
  He.cls_ok (ck_at (φ := fun K => (He.Fa.cls "Stretch").ok K) c 11),
  He.cls_ok (ck_at (φ := fun K => (He.Fa.cls "Backward").ok K) c 12),
  He.noat_ok (ck_at (φ := fun K => (He.Fa.noat "Stretch" "start").ok K) c 13),
  He.noat_ok (ck_at (φ := fun K => (He.Fa.noat "Stretch" "size").ok K) c 14),
  ins_ok (ck_at c 15),
  He.noat_ok (ck_at (φ := fun K => (He.Fa.noat "Backward" "start").ok K) c 16),
  He.noat_ok (ck_at (φ := fun K => (He.Fa.noat "Backward" "size").ok K) c 17),
  ins_ok (ck_at c 18),
  c.def_ 2,
  He.mkr_ok (ck_at (φ := fun K => (He.Fa.mkr "Stretch").ok K) c 19),
  He.glo_ok X G (ck_at (φ := fun K => (He.Fa.glo "Stretch").ok K) c 20),
  c.def_ 3,
  propB_ok (ck_at (φ := fProp "Stretch" "last") c 21),
  DefX.funS (d := { adr := fun K => He.ma K (He.ga K "Backward") "__init__", name := "__init__", qual := "Backward.__init__", st := s_BackwardD_initD, cl := ["__class__"] }) (D := He.ga K "Backward") (file := "/claim/cut.py") hP (c.at_ 4) (ck_at (φ := fSupD "Backward" "__init__" "/claim/cut.py") c 22),
  He.mkr_ok (ck_at (φ := fun K => (He.Fa.mkr "Backward").ok K) c 23),
  He.glo_ok X G (ck_at (φ := fun K => (He.Fa.glo "Backward").ok K) c 24),
  supIB_ok X G (ck_at (φ := fSup "Backward" "Stretch") c 25),
  of_decide_eq_true (ck_at (φ := fNone "InvalidPairing" "start") c 26),
  of_decide_eq_true (ck_at (φ := fNone "InvalidPairing" "size") c 27),
  c.def_ 5,
  oex_ok (ck_at c 28),
  He.glo_ok X G (ck_at (φ := fun K => (He.Fa.glo "InvalidPairing").ok K) c 29),
  c.def_ 6,
  He.glo_ok X G (ck_at (φ := fun K => (He.Fa.glo "check_numbers").ok K) c 30),
  He.free_ok X G (ck_at (φ := fun K => (He.Fa.free "all").ok K) c 31),
  c.def_ 7,
  He.glo_ok X G (ck_at (φ := fun K => (He.Fa.glo "check_image").ok K) c 32),
  c.def_ 8,
  He.glo_ok X G (ck_at (φ := fun K => (He.Fa.glo "least_turned").ok K) c 33),
  He.noat_ok (ck_at (φ := fun K => (He.Fa.noat "Slide" "start").ok K) c 34),
  He.noat_ok (ck_at (φ := fun K => (He.Fa.noat "Slide" "size").ok K) c 35),
  He.noat_ok (ck_at (φ := fun K => (He.Fa.noat "Slide" "by").ok K) c 36),
  He.noat_ok (ck_at (φ := fun K => (He.Fa.noat "Slide" "total").ok K) c 37),
  He.cls_ok (ck_at (φ := fun K => (He.Fa.cls "Slide").ok K) c 38),
  ins_ok (ck_at c 39),
  He.noat_ok (ck_at (φ := fun K => (He.Fa.noat "Turn" "start").ok K) c 40),
  He.noat_ok (ck_at (φ := fun K => (He.Fa.noat "Turn" "size").ok K) c 41),
  He.noat_ok (ck_at (φ := fun K => (He.Fa.noat "Turn" "by").ok K) c 42),
  He.noat_ok (ck_at (φ := fun K => (He.Fa.noat "Turn" "total").ok K) c 43),
  He.cls_ok (ck_at (φ := fun K => (He.Fa.cls "Turn").ok K) c 44),
  ins_ok (ck_at c 45),
  of_decide_eq_true (ck_at (φ := fNe "Turn" "Slide") c 46),
  c.def_ 9,
  He.mkr_ok (ck_at (φ := fun K => (He.Fa.mkr "Pairing").ok K) c 47),
  He.glo_ok X G (ck_at (φ := fun K => (He.Fa.glo "Pairing").ok K) c 48),
  DefX.funS (d := { adr := fun K => He.ma K (He.ga K "Slide") "__init__", name := "__init__", qual := "Slide.__init__", st := s_SlideD_initD, cl := ["__class__"] }) (D := He.ga K "Slide") (file := "/claim/cut.py") hP (c.at_ 10) (ck_at (φ := fSupD "Slide" "__init__" "/claim/cut.py") c 49),
  He.mkr_ok (ck_at (φ := fun K => (He.Fa.mkr "Slide").ok K) c 50),
  He.glo_ok X G (ck_at (φ := fun K => (He.Fa.glo "Slide").ok K) c 51),
  supIB_ok X G (ck_at (φ := fSup "Slide" "Pairing") c 52),
  DefX.funS (d := { adr := fun K => He.ma K (He.ga K "Turn") "__init__", name := "__init__", qual := "Turn.__init__", st := s_TurnD_initD, cl := ["__class__"] }) (D := He.ga K "Turn") (file := "/claim/cut.py") hP (c.at_ 11) (ck_at (φ := fSupD "Turn" "__init__" "/claim/cut.py") c 53),
  He.mkr_ok (ck_at (φ := fun K => (He.Fa.mkr "Turn").ok K) c 54),
  He.glo_ok X G (ck_at (φ := fun K => (He.Fa.glo "Turn").ok K) c 55),
  supIB_ok X G (ck_at (φ := fSup "Turn" "Pairing") c 56),
  c.def_ 12,
  propB_ok (ck_at (φ := fProp "Slide" "domain") c 57),
  propB_ok (ck_at (φ := fProp "Slide" "domain") c 57),
  c.def_ 13,
  propB_ok (ck_at (φ := fProp "Slide" "image") c 58),
  c.def_ 14,
  He.meth_ok (ck_at (φ := fun K => (He.Fa.meth "Slide" "__invert__").ok K) c 59),
  c.def_ 15,
  propB_ok (ck_at (φ := fProp "Turn" "domain") c 60),
  propB_ok (ck_at (φ := fProp "Turn" "domain") c 60),
  c.def_ 16,
  propB_ok (ck_at (φ := fProp "Turn" "image") c 61),
  c.def_ 17,
  He.meth_ok (ck_at (φ := fun K => (He.Fa.meth "Turn" "__invert__").ok K) c 62),
  c.def_ 18,
  propB_ok (ck_at (φ := fProp "Slide" "upright") c 63),
  c.def_ 19,
  propB_ok (ck_at (φ := fProp "Turn" "upright") c 64),
  c.def_ 20,
  He.glo_ok X G (ck_at (φ := fun K => (He.Fa.glo "_law_box").ok K) c 65),
  He.free_ok X G (ck_at (φ := fun K => (He.Fa.free "len").ok K) c 66),
  He.free_ok X G (ck_at (φ := fun K => (He.Fa.free "abs").ok K) c 67),
  c.def_ 21,
  He.glo_ok X G (ck_at (φ := fun K => (He.Fa.glo "_law_take").ok K) c 68),
  c.def_ 22,
  He.glo_ok X G (ck_at (φ := fun K => (He.Fa.glo "_law_number").ok K) c 69),
  c.def_ 23,
  He.glo_ok X G (ck_at (φ := fun K => (He.Fa.glo "_law_value").ok K) c 70),
  c.def_ 24,
  He.glo_ok X G (ck_at (φ := fun K => (He.Fa.glo "_law_is_integer").ok K) c 71),
  of_decide_eq_true (ck_at (φ := fKit "Slide" "Slide" true) c 72),
  of_decide_eq_true (ck_at (φ := fKit "Slide" "Turn" false) c 73),
  of_decide_eq_true (ck_at (φ := fKit "Slide" "Pairing" true) c 74),
  of_decide_eq_true (ck_at (φ := fKit "Turn" "Slide" false) c 75),
  of_decide_eq_true (ck_at (φ := fKit "Turn" "Turn" true) c 76),
  of_decide_eq_true (ck_at (φ := fKit "Turn" "Pairing" true) c 77),
  of_decide_eq_true (ck_at (φ := fKit "Stretch" "Stretch" true) c 78),
  of_decide_eq_true (ck_at (φ := fKit "Stretch" "Backward" false) c 79),
  of_decide_eq_true (ck_at (φ := fKit "Backward" "Stretch" true) c 80),
  of_decide_eq_true (ck_at (φ := fKit "Backward" "Backward" true) c 81),
  of_decide_eq_true (ck_at (φ := fNe "Stretch" "Backward") c 82),
  c.def_ 25,
  He.glo_ok X G (ck_at (φ := fun K => (He.Fa.glo "_law_numbers").ok K) c 83),
  c.def_ 26,
  He.glo_ok X G (ck_at (φ := fun K => (He.Fa.glo "_law_ends").ok K) c 84),
  He.exm_ok (ck_at (φ := fun K => (He.Fa.exm "InvalidPairing" "InvalidPairing" true).ok K) c 85),
  of_decide_eq_true (ck_at (φ := fKit "InvalidPairing" "TwinError" true) c 86),
  of_decide_eq_true (ck_at (φ := fKit "InvalidPairing" "InvalidStretch" false) c 87),
  c.def_ 27,
  He.glo_ok X G (ck_at (φ := fun K => (He.Fa.glo "_law_told").ok K) c 88),
  He.glo_ok X G (ck_at (φ := fun K => (He.Fa.glo "TwinError").ok K) c 9),
  excB_ok (ck_at (φ := fExc "InvalidPairing") c 89),
  c.def_ 28,
  He.glo_ok X G (ck_at (φ := fun K => (He.Fa.glo "_law_due").ok K) c 90),
  c.def_ 29,
  He.glo_ok X G (ck_at (φ := fun K => (He.Fa.glo "law").ok K) c 91),
  He.free_ok X G (ck_at (φ := fun K => (He.Fa.free "range").ok K) c 92),
  He.free_ok X G (ck_at (φ := fun K => (He.Fa.free "min").ok K) c 93),
  He.free_ok X G (ck_at (φ := fun K => (He.Fa.free "max").ok K) c 94),
  He.free_ok X G (ck_at (φ := fun K => (He.Fa.free "repr").ok K) c 95),
  hS⟩
abbrev hkV : PySem.W.Hook := hookV 5 (ckL fcs) dxs
def obV (s : PySem.W.SharedT) : AlV := obsVG 5 (ckL fcs) dxs (HandSHeadRun.getT s)
theorem obV_eq (s : PySem.W.SharedT) : obV s = hkV.obs s.abs := obsVG_eq (HandSHeadRun.getT_eq s)
abbrev RO : PySem.W.OpenRow := PySem.W.OpenLaw.row PySem.Challenge.rw_twintext_k12_pairings_made_or_refused
def looseV : List Str := (["_wall", "__name__", "TwinError", "InvalidStretch", "InvalidPairing", "InvalidLine", "NoPlace", "MOST_DIGITS", "is_integer", "number_of", "common_part", "contains", "check_index", "Stretch", "Backward", "check_numbers", "check_image", "has_place", "least_turned", "Pairing", "on_part", "composed", "Slide", "Turn", "_law_box", "_law_take", "_law_number", "_law_value", "_law_is_integer", "_law_numbers"] : List Str) ++ (["_law_ends", "_law_told", "_law_due"] : List Str)
theorem runV (w : World) : HandSHeadRun.RunEq RO (PySem.W.view RO.prog [37]) hkV obV 12000 looseV w := by
  intro os
  kernel_rfl
end Law
open PySem PySem.W PySem.Calls PyProof.Rows
theorem PySem.Challenge.cw_twintext_k12_pairings_made_or_refused_holds : PySem.Challenge.rw_twintext_k12_pairings_made_or_refused.Holds := by
  w_on; o_law
  refine HandSHeadRun.head_any (r := OpenLaw.row PySem.Challenge.rw_twintext_k12_pairings_made_or_refused) (q := view (OpenLaw.row PySem.Challenge.rw_twintext_k12_pairings_made_or_refused).prog [37]) (H := Law.hkV) (ob := Law.obV) (M := 12000) (loose := Law.looseV) (d := HandSHeadRun.topDef (OpenLaw.row PySem.Challenge.rw_twintext_k12_pairings_made_or_refused).prog 37) (kwd := []) Law.obV_eq
    (by kernel_rfl) (fun s => by kernel_rfl) Law.runV (by kernel_rfl) (by kernel_rfl) (by kernel_rfl) (by rfl) (by first | assumption | decide +kernel) (by decide +kernel) ⟨rfl, rfl, rfl, rfl, rfl, by decide +kernel⟩ ?hw ?hc
  case hw => w_witness2
  case hc =>
    refine L3.walk_g (l := PySem.Challenge.rw_twintext_k12_pairings_made_or_refused) (n := 63) (k := 12) (x := "_law_script") rfl (by decide) (by kernel_rfl) ⟨rfl, by decide, by decide⟩ ?F
    intro w mg fa h Y G hmg0
    obtain ⟨K, KX, c⟩ := Y
    have hmg : mg ("law" : PySem.Str) = some (.ref fa) := by
      have e : (HandSHeadRun.topDef (OpenLaw.row PySem.Challenge.rw_twintext_k12_pairings_made_or_refused).prog 37).name = ("law" : PySem.Str) := by kernel_rfl
      rw [← e]
      exact hmg0
    have T := Law.tx (P := PySem.Challenge.rw_twintext_k12_pairings_made_or_refused.prog) (by kernel_rfl) (by kernel_rfl) KX G c
    have e := hmg.symm.trans T.g_law
    cases e
    obtain ⟨fd, F, _⟩ := Law.fo_law (P := PySem.Challenge.rw_twintext_k12_pairings_made_or_refused.prog) (w := w) (base := h) T
    refine ⟨K, fd, L3.spLaw K, KX, fun s v => (L2.FunD.bindsA (ps := ["_law_script"]) F fun _ _ _ _ _ _ us hl => match us, hl with | [_], _ => rfl) s [v] rfl, fun H a ns hl _ hS => ⟨a, ns, rfl, hS, hl, fun _ => rfl⟩, fun base _ _ => ?_⟩
    obtain ⟨fd', F', G'⟩ := Law.fo_law (P := PySem.Challenge.rw_twintext_k12_pairings_made_or_refused.prog) (w := w) (base := base) T
    have ef : fd' = fd := L3.funD_same F' F
    subst ef
    exact G'
