import PyProof.Rows.All
import Wide.All
import OpenK.AllK
import Wide.FinOn
import HandS.ForExc
import HandS.More
import HandS.Defaults
import HandS.MakeKw
import HandS.MakeKwOnly
import HandS.Property
import HandS.ClsMeth
import HandS.Codes
import HandS.IsInst
import HandS.ExcIs
import HandS.ExcSuper
import HandS.ExcCtx
import HandS.Wide
import HandS.WideBits
import HandS.CallSlots
import HandS.Iter
import HandS.Comp
import HandS.FStr
import HandS.SlotsOwn
import KE.KOpsOwn
import KE.KStateDown
import HandS.Head0
import HandS.Head1
import HandS.Head2
import HandS.HeadEnd
import HandS.HeadHook1
import HandS.HeadHook2
import HandS.ExcField
import HandS.TryOnly
import HandS.TryMany
import HandS.HotCalls
import HandS.ExcInitHot
import HandS.Star
import KE.GoesEnum
import KE.KExcSuper
import KE.KSuper
import KE.KExcIs
import HandS.Dict
import KE.KIsAll
import HandS.Style
import HandS.OwnEq
import PyProof.DictUpdate
import HandS.ReSub
import HandS.TupAny
import HandS.SortInts
import HandS.MethStar
import HandS.SuiteRaise
import HandS.RaiseFrom
import PyProof.EvalArms
import HandS.Ends
import PyProof.ReprRoads
import PySem.Challenge.RW_resendtimers_k63_changes_made
set_option Elab.async false
set_option linter.all false
set_option maxRecDepth 100000
set_option maxHeartbeats 4000000
namespace Rs
open PySem PySem.Spec PyProof.Rows L2

section
variable {X : Cx}
variable {σ : L2.St} {H : Hp} {D : Ends} {Q : VK} {QT : Bool → Hp → Prop} {QA : List V → Hp → Prop}
/-- what a call that raises leaves -/
abbrev RX (P : Program) (w : World) : CXT := L2N.CX P w
structure Body (X : Cx) (k : Nat) (E : L2.St → XK) : Prop where
  calm : X.calm = true
  room : Room k X.A
  tk : L2N.Takes X fun cls d σ H => E σ cls d H
  po : PassesOwn (model X.prog X.w) X.A X.env X.xe
  stk : (∀ x, X.fn x = true) → X.stack = X.env :: X.outer
  fr : (∀ x, X.fn x = true) → X.env.frame = some X.env.locals
theorem Body.at {k : Nat} {E : L2.St → XK} (B : Body X k E) (σ : L2.St) : PassesAt (RX X.prog X.w) X σ (E σ) := L2N.passAt B.tk σ
section
variable {k j : Nat} {E : L2.St → XK} {x m : Str} {sp : Sp} {p pos apos : Pos} {e o : Expr} {es : List Expr} {C : Addr}
end
end
end Rs

namespace Rs
open PySem PySem.Spec PyProof.Rows L2

/-- a source of draws: its numbers' list, the place, the rest of a great number, the seed -/
def SrcL (l : Addr) : HO → Prop := fun o => ∃ i b r : Int, o = .lst [.ref l, .int i, .int b, .int r] ∧ 0 ≤ i ∧ 0 ≤ r ∧ r < 2147483647
def Src (o : HO) : Prop := ∃ l, SrcL l o
theorem not_src_ins {C dx : Addr} {fs : List (Str × V)} : ¬ Src (.ins C dx fs) := by
  rintro ⟨l, i, b, r, e, _⟩
  cases e
/-- what stays as it is: no source, or a row that begins with an instance -/
def Good (H : Hp) (o : HO) : Prop := ¬ Src o ∨ ∃ l C dx fs rest, o = .lst (.ref l :: rest) ∧ H l = some (.ins C dx fs)
structure Ex (H H' : Hp) : Prop where
  kp : ∀ a o, H a = some o → Good H o → H' a = some o
  src : ∀ a l o, H a = some o → SrcL l o → ∃ o', H' a = some o' ∧ SrcL l o'
theorem Ex.keep {H H' : Hp} (x : Ex H H') (a : Addr) (o : HO) (h : H a = some o) (n : ¬ Src o) : H' a = some o := x.kp a o h (.inl n)
theorem Ex.back {H H' : Hp} {p : Addr} (x : Ex H H') (h : H' p = none) : H p = none := by
  cases q : H p with
  | none => rfl
  | some o =>
    by_cases s : Src o
    · obtain ⟨l, s⟩ := s
      obtain ⟨o', e, _⟩ := x.src p l o q s
      rw [h] at e
      cases e
    · have e := x.keep p o q s
      rw [h] at e
      cases e
theorem not_src_tup {xs : List V} : ¬ Src (.tup xs) := by
  rintro ⟨l, i, b, r, e, _⟩
  cases e
theorem Ex.ins {H H' : Hp} {a C dx : Addr} {fs : List (Str × V)} (x : Ex H H') (h : H a = some (.ins C dx fs)) : H' a = some (.ins C dx fs) := x.keep _ _ h not_src_ins
theorem Ex.tup {H H' : Hp} {a : Addr} {xs : List V} (x : Ex H H') (h : H a = some (.tup xs)) : H' a = some (.tup xs) := x.keep _ _ h not_src_tup

/-- any value v with R, in any heap that has grown from H -/
def Ret (H : Hp) (R : V → Hp → Prop) (Q : VK) : Prop := ∀ v H', Ex H H' → R v H' → Q v H'
theorem Ret.at {H H' : Hp} {R : V → Hp → Prop} {Q : VK} {v : V} (k : Ret H R Q) (x : Ex H H') (r : R v H') : Q v H' := k v H' x r
end Rs

namespace Rs
open PySem PySem.Spec PyProof.Rows L2
open AutoSeq1 (wpAny_loadPart')

section
variable (i : Int) (t : Tok) (x : Addr) (ox : Obj)
abbrev DeclS (x : Addr) (ox : Obj) : PySem.Spec := fun _ R s => s.heap.get? x = some ox ∧ ox.data = .plain ∧ R (.ok (.ret .notImplemented)) s
end
section
variable {X : Cx} {k j : Nat} {E : XK} {sp : Sp} {C f g a b dx dy : Addr} {fs gs : List (Str × V)} {H : Hp} {Q : VK} {op : Operator} {i : Int}
theorem back {pins : List (Addr × Obj)} {σ : L2.St} {A : Around} {t : Sem Value} {R : Value → Shared → Prop} {s : Shared} (h : wpAny (model X.prog X.w) A t (EP X pins σ Q) R s) :
    wpAny (model X.prog X.w) A t (PySem.W.CmpBack (EP X pins σ Q)) R s := wpAny_mono h (fun u s' z => by
  obtain ⟨v, H', I, r, q⟩ := z
  exact SlX.cmpback r ⟨v, H', I, r, q⟩) fun _ _ z => z
theorem inst_of {pins : List (Addr × Obj)} {σ : L2.St} {s : Shared} (I : Inv X pins σ H s) (e : H a = some (.ins C dx fs)) : ∃ od, PySem.W.InstAt s.heap a (PySem.W.instObj C dx) C (some od) := by
  obtain ⟨mA, O, _⟩ := ins_get I.hok e
  obtain ⟨od, J, _⟩ := O.look
  exact ⟨od, J⟩
end
end Rs

namespace Rs
open PySem PySem.Spec PyProof.Rows L2

section
variable {X : Cx} {k j : Nat} {E : XK} {sp : Sp} {C f g a b dx dy : Addr} {fs gs : List (Str × V)} {H : Hp} {Q : VK} {op : Operator} {cop : CmpOp} {i : Int}

end
end Rs

namespace Rs
open PySem PySem.Spec PyProof.Rows L2

section
variable {X : Cx} {σ : L2.St} {H : Hp} {D : Ends} {Q Q' : VK} {QT : Bool → Hp → Prop} {QA QA' : List V → Hp → Prop} {k j : Nat} {E : L2.St → XK} {x m : Str} {sp : Sp} {p pos apos : Pos} {e o a b c : Expr} {es : List Expr} {C : Addr}

end
end Rs

namespace Rs
open PySem PySem.Spec PyProof.Rows L2

section
variable {X : Cx} {σ : L2.St} {H : Hp} {D : Ends} {Q Q' : VK} {QT QT' : Bool → Hp → Prop} {QA QA' : List V → Hp → Prop} {k j : Nat} {E : L2.St → XK} {x m : Str} {sp : Sp} {p pos apos : Pos} {e o a b c : Expr} {es : List Expr} {C : Addr}

variable {i l : Int}
end
end Rs

namespace Rs
open PySem PySem.Spec PyProof.Rows L2
section
variable {P : Program} {w : World} {K : PySem.W.Frag} {mg : Str → Option Value} {base : Heap} {N : List Str} {qual : Str} {sc : Scope} {f : Addr} {cdv : Value} {A : Around} {outer : List Env} {s : Shared} {H : Hp} {E : XK} {k : Nat}
end
end Rs

namespace Rs
open PySem PySem.Spec PyProof.Rows L2 He

section
variable {P : Program} {w : World} {K : PySem.W.Frag} {mg : Str → Option Value} {base : Heap} {N ps : List Str} {name qual : Str} {pa : Arguments} {body : List Stmt} {sc : Scope} {dvs : List V} {kws : List (Str × V)} {f : Addr} {fd : FuncData} {k : Nat} {sp : Sp}
end
section
variable {X : Cx} {N : List Str} {sc : Scope} {i : Nat} {x : Str}
end

structure DefA where
  ad : PySem.W.Frag → Addr
  name : Str
  qual : Str
  params : Arguments
  body : List Stmt
  scope : Scope
  dfl : List Dv := []
  kwd : List (Str × Dv) := []
  clo : Bool := false
def DefA.seen (d : DefA) (K : PySem.W.Frag) : FnW := match K.lookup (d.ad K) with
  | some ⟨_, _, .func z, _⟩ => some (z.name, z.qualname, z.params, z.body, z.scope, z.globals, (bif d.clo then [] else z.closure), z.builtins)
  | _ => none
def DefA.told (d : DefA) : FnW := some (d.name, d.qual, d.params, .stmts d.body, d.scope, mainGlobals, [], builtinsNs)
def DefA.dvs (d : DefA) (K : PySem.W.Frag) : List V := d.dfl.map (Dv.v K)
def DefA.kws (d : DefA) (K : PySem.W.Frag) : List (Str × V) := d.kwd.map fun z => (z.1, z.2.v K)
def DefA.good (d : DefA) (K : PySem.W.Frag) : Bool := PySem.W.keepIn K (.ref (d.ad K)) && (match K.lookup (d.ad K) with
  | some ⟨_, _, .func z, _⟩ => PySem.W.codeIn K z.code d.qual && (d.clo || (dflB K z.defaults (d.dvs K) && kwdB K z.kwdefaults (d.kws K)))
  | _ => false)
def pgA (K : PySem.W.Frag) (C : Addr) (m : Str) : Addr := match PySem.W.recIn K (ma K C m) "property" with
  | some (.ref g :: _) => g
  | _ => 0
abbrev AlA : Type := Bool × List FnW
def obsX (ψ : List (PySem.W.Frag → Bool)) (fn : List DefA) (K : PySem.W.Frag) : AlA := ((ψ.all fun b => b K) && fn.all fun d => d.good K, fn.map fun d => d.seen K)
def valX (fn : List DefA) : AlA := (true, fn.map DefA.told)
def SaysX (ψ : List (PySem.W.Frag → Bool)) (fn : List DefA) (K : PySem.W.Frag) : Prop := obsX ψ fn K = valX fn
def visitY (m : Nat) (acc : List Addr) : List Addr → Nat × List Addr
  | [] => (m, acc)
  | r :: rs => match Nat.beq (Nat.land (Nat.shiftRight m r) 1) 1 with
    | true => visitY m acc rs
    | false => visitY (Nat.lor m (Nat.shiftLeft 1 r)) (r :: acc) rs
def namesY (g : Addr → Option Obj) (a : Addr) : List Addr := match g a with
  | some o => refsD o
  | none => []
def layerY (g : Addr → Option Obj) (m : Nat) (acc : List Addr) : List Addr → Nat × List Addr
  | [] => (m, acc)
  | a :: as => match visitY m acc (namesY g a) with
    | (m', acc') => layerY g m' acc' as
def goY (g : Addr → Option Obj) : Nat → Nat → List Addr → List Addr → List Addr
  | 0, _, _, all => all
  | n + 1, m, fr, all => match layerY g m [] fr with
    | (m', fr') => goY g n m' fr' (fr' ++ all)
def asY (g : Addr → Option Obj) (n : Nat) : List Addr := goY g n (Nat.shiftLeft 1 mainGlobals) [mainGlobals] [mainGlobals]
def hookX (n : Nat) (ψ : List (PySem.W.Frag → Bool)) (fn : List DefA) : PySem.W.Hook where
  α := AlA
  obs := fun s => obsX ψ fn (frG s.heap.get? ((asY s.heap.get? n).reverse ++ [cStatics]))
  val := fun _ => valX fn
  says := fun _ h => ∃ K : PySem.W.Frag, K.In h ∧ SaysX ψ fn K
  of := fun _ _ e => ⟨_, frG_in, e⟩
  keeps := fun _ _ _ z k => by
    obtain ⟨K, hK, c⟩ := z
    exact ⟨K, PySem.W.Frag.In.keeps hK k, c⟩
def obX (n : Nat) (ψ : List (PySem.W.Frag → Bool)) (fn : List DefA) (s : PySem.W.SharedT) : AlA := obsX ψ fn (frG (HandSHeadRun.getT s) ((asY (HandSHeadRun.getT s) n).reverse ++ [cStatics]))
section
variable {ψ : List (PySem.W.Frag → Bool)} {fn : List DefA} {K : PySem.W.Frag}
theorem SaysX.all (c : SaysX ψ fn K) : (∀ b ∈ ψ, b K = true) ∧ (∀ d ∈ fn, d.good K = true) ∧ ∀ d ∈ fn, d.seen K = d.told := by
  have c1 : ((ψ.all fun b => b K) && fn.all fun d => d.good K) = true := congrArg (fun z : AlA => z.1) c
  have c2 : fn.map (fun d => d.seen K) = fn.map DefA.told := congrArg (fun z : AlA => z.2) c
  rw [Bool.and_eq_true] at c1
  refine ⟨List.all_eq_true.mp c1.1, List.all_eq_true.mp c1.2, fun d hd => ?_⟩
  obtain ⟨i, hi, e⟩ := List.mem_iff_getElem.mp hd
  have e1 : (fn.map fun d => d.seen K)[i]? = (fn.map DefA.told)[i]? := by rw [c2]
  rw [List.getElem?_map, List.getElem?_map, List.getElem?_eq_getElem hi, e] at e1
  exact Option.some.inj e1
end

def isRefO : Option Value → Bool
  | none => true
  | some (.ref _) => true
  | _ => false
def binOwnB (K : PySem.W.Frag) (C f : Addr) (op : Operator) : Bool :=
  PySem.W.selfFirst K C && (decide (PySem.W.findIn K (.ref C) (PySem.dunder op.info.2) = some (some (.ref f))) && (PySem.W.isFn K (.ref f) && ((match PySem.W.findIn K (.ref C) (dunderR op.info.2) with
    | some rc => isRefO rc
    | none => false) && ((PySem.W.findIn K (.type "int") (PySem.dunder op.info.2)).isSome && ((PySem.W.findIn K (.type "int") (dunderR op.info.2)).isSome && decide (PySem.W.subIn K (.type "int") (.ref C) = some false))))))
def binRefB (K : PySem.W.Frag) (C f g : Addr) (op : Operator) : Bool :=
  PySem.W.selfFirst K C && (decide (PySem.W.findIn K (.ref C) (PySem.dunder op.info.2) = some (some (.ref f))) && (decide (PySem.W.findIn K (.ref C) (dunderR op.info.2) = some (some (.ref g))) && (PySem.W.isFn K (.ref g) && decide (PySem.W.subIn K (.ref C) (.type "int") = some false))))
def cmpOwnB (K : PySem.W.Frag) (C f : Addr) (op : CmpOp) : Bool := decide (PySem.W.findIn K (.ref C) (cmpInfo op).2.1 = some (some (.ref f))) && (PySem.W.isFn K (.ref f) && PySem.W.notFirst K C (.type "int"))
def cmpRefB (K : PySem.W.Frag) (C g : Addr) (op : CmpOp) : Bool := decide (PySem.W.findIn K (.ref C) (cmpInfo op).2.2 = some (some (.ref g))) && (PySem.W.isFn K (.ref g) && decide (PySem.W.subIn K (.ref C) (.type "int") = some false))
def negOwnB (K : PySem.W.Frag) (C f : Addr) : Bool := decide (PySem.W.findIn K (.ref C) "__neg__" = some (some (.ref f))) && PySem.W.isFn K (.ref f)
def noInplB (K : PySem.W.Frag) (C : Addr) (op : Operator) : Bool := (match PySem.W.clsIn K C with
  | some cd => decide (cd.mro = [.ref C, .type "object"])
  | none => false) && (decide (PySem.W.findIn K (.ref C) (dunderI op.info.2) = some none) && decide (PySem.W.findIn K (.type "object") (dunderI op.info.2) = some none))
def propB (K : PySem.W.Frag) (C : Addr) (m : Str) : Bool := decide (PySem.W.findIn K (.ref C) m = some (some (.ref (ma K C m)))) && (decide (PySem.W.specialIn K (.ref (ma K C m)) "__get__" = some (some (.builtin "property.__get__"))) && (decide (PySem.W.takesIn K (.ref (ma K C m)) = some true) &&
  (match PySem.W.recIn K (ma K C m) "property" with
    | some (.ref g :: _) => decide (g = pgA K C m)
    | _ => false)))
/-- what isinstance asks of the class at C -/
structure IsC (K : PySem.W.Frag) (C : Addr) : Prop where
  cl : Cls K C
  ca : PySem.W.findIn K (.ref C) "__class__" = some (some (.builtin "object.__class__"))
  cn : PySem.W.specialIn K (.builtin "object.__class__") "__get__" = some (some (.builtin "getset_descriptor.__get__"))
  ct : PySem.W.takesIn K (.builtin "object.__class__") = some true
  cm : PySem.W.mroIn K C (.type "object") = some true
def isCB (K : PySem.W.Frag) (x : Str) : Bool := (Fa.cls x).ok K && (decide (PySem.W.findIn K (.ref (ga K x)) "__class__" = some (some (.builtin "object.__class__"))) && (decide (PySem.W.specialIn K (.builtin "object.__class__") "__get__" = some (some (.builtin "getset_descriptor.__get__"))) &&
  (decide (PySem.W.takesIn K (.builtin "object.__class__") = some true) && decide (PySem.W.mroIn K (ga K x) (.type "object") = some true))))
theorem IsC.ty {K : PySem.W.Frag} {C a dx : Addr} {fs : List (Str × V)} {H : Hp} (c : IsC K C) (h : H a = some (.ins C dx fs)) : TyX K H (.ref a) (.ref C) := .base (.ins h c.cl c.ca c.cn c.ct c.cm)
def kitCB (K : PySem.W.Frag) (C : Addr) : Bool := decide (PySem.W.kitOne K (.ref C) (.ref C) = some true) && (decide (PySem.W.kitOne K (.ref C) (.type "int") = some false) && (decide (PySem.W.kitOne K (.ref C) (.type "bool") = some false) && (decide (PySem.W.kitOne K (.ref C) (.type "str") = some false) &&
  ((["int", "bool", "str", "NoneType", "tuple", "list"] : List String).all fun n => decide (PySem.W.kitOne K (.type n) (.ref C) = some false)))))
end Rs

namespace Rs
open PySem PySem.Spec PyProof.Rows L2 He PySem.Calls
section
variable {P : Program} {w : World} {K : PySem.W.Frag} {mg : Str → Option Value} {base : Heap} {N ps : List Str} {name qual : Str} {pa : Arguments} {body : List Stmt} {sc : Scope} {dvs : List V} {kws : List (Str × V)} {f : Addr} {fd : FuncData} {k : Nat} {sp : Sp}
end
def absOwnB (K : PySem.W.Frag) (C f : Addr) : Bool := decide (PySem.W.findIn K (.ref C) "__abs__" = some (some (.ref f))) && PySem.W.isFn K (.ref f)
end Rs

namespace Rs
open PySem PySem.Spec PyProof.Rows L2 He
def excPlainB (K : PySem.W.Frag) (C : Addr) : Bool := PySem.W.excIn K C veBase "ValueError.__new__" && (PySem.W.keepIn K (.ref C) && (decide (PySem.W.subIn K (.ref C) (.type "BaseException") = some true) && decide (PySem.W.typeIn K (.ref C) = some (.type "type"))))
section
variable {X : Cx} {σ : L2.St} {H : Hp} {Q : VK} {x : Str} {pos : Pos}
end
end Rs

namespace Rs
open PySem PySem.Spec PyProof.Rows L2 He
section
variable {X : Cx} {σ : L2.St} {H : Hp} {D : Ends} {Q Q' : VK} {k j : Nat} {E : XK} {x : Str} {p pos pos' : Pos} {a b c e o : Expr}
end
section
variable {H : Hp} {p l : Addr} {i b r : Int} {P : Hp → Prop}
end
end Rs

namespace Mt
structure Sz (q : Rat) (n : Nat) : Prop where
  num : q.num.natAbs < 2 ^ n
  den : q.den < 2 ^ n
theorem num_le (t b : Int) : (Rat.divInt t b).num.natAbs ≤ t.natAbs := by
  rw [Rat.num_divInt, Int.natAbs_ediv_of_dvd, Int.natAbs_mul]
  · refine Nat.le_trans (Nat.div_le_self _ _) ?_
    have : b.sign.natAbs ≤ 1 := by
      rcases Int.lt_trichotomy b 0 with h | h | h
      · rw [Int.sign_eq_neg_one_of_neg h]; decide
      · subst h; decide
      · rw [Int.sign_eq_one_of_pos h]; decide
    calc b.sign.natAbs * t.natAbs ≤ 1 * t.natAbs := Nat.mul_le_mul_right _ this
      _ = t.natAbs := Nat.one_mul _
  · exact Int.dvd_mul_of_dvd_right (Int.gcd_dvd_right ..)
theorem den_le {t b : Int} (hb : b ≠ 0) : (Rat.divInt t b).den ≤ b.natAbs := by
  rw [Rat.den_divInt, if_neg hb]
  exact Nat.div_le_self _ _
theorem Sz.div {t b : Int} {n : Nat} (hb : b ≠ 0) (h1 : t.natAbs < 2 ^ n) (h2 : b.natAbs < 2 ^ n) : Sz (Rat.divInt t b) n := ⟨Nat.lt_of_le_of_lt (num_le t b) h1, Nat.lt_of_le_of_lt (den_le hb) h2⟩
theorem int_eq (i : Int) : Rat.divInt i 1 = (i : Rat) := by
  have h := Rat.num_divInt_den (i : Rat)
  rw [Rat.num_intCast] at h
  exact h
end Mt

namespace Rs
open PySem PySem.Spec PyProof.Rows L2 He Mt
section
variable {X : Cx} {k : Nat} {E : L2.St → XK} {H : Hp} {Q : VK} {p p' : Addr} {a b c d : Int}
end
end Rs
namespace Rs
open PySem PySem.Spec PyProof.Rows L2 He Mt
end Rs

namespace Rs
open PySem PySem.Spec PyProof.Rows L2 He
open AutoSeq1 (wpAny_loadPart')
section
variable {X : Cx} {σ : L2.St} {H : Hp}
end
section
variable {P : Program} {w : World} {K : PySem.W.Frag} {mg : Str → Option Value} {base : Heap} {N ps : List Str} {name qual : Str} {pa : Arguments} {body : List Stmt} {sc : Scope} {dvs : List V} {kws : List (Str × V)} {f : Addr} {fd : FuncData} {k : Nat} {sp : SpN}
end
section
variable {X : Cx} {σ : L2.St} {H : Hp} {pins : List (Addr × Obj)} {s : Shared}
end

structure NeOwn (K : PySem.W.Frag) (C f : Addr) : Prop where
  eq : PySem.W.findIn K (.ref C) "__eq__" = some (some (.ref f))
  fn : PySem.W.isFn K (.ref f) = true
  ne : PySem.W.findIn K (.ref C) "__ne__" = some (some (.builtin "object.__ne__"))
  ob : PySem.W.mroIn K C (.type "object") = some true
  tu : PySem.W.mroIn K C (.type "tuple") = some false
  li : PySem.W.mroIn K C (.type "list") = some false
  st : PySem.W.mroIn K C (.type "str") = some false
  sub : PySem.W.subIn K (.ref C) (.type "int") = some false
def neOwnB (K : PySem.W.Frag) (C f : Addr) : Bool := decide (PySem.W.findIn K (.ref C) "__eq__" = some (some (.ref f))) && (PySem.W.isFn K (.ref f) && (decide (PySem.W.findIn K (.ref C) "__ne__" = some (some (.builtin "object.__ne__"))) &&
  (decide (PySem.W.mroIn K C (.type "object") = some true) && (decide (PySem.W.mroIn K C (.type "tuple") = some false) && (decide (PySem.W.mroIn K C (.type "list") = some false) && (decide (PySem.W.mroIn K C (.type "str") = some false) && decide (PySem.W.subIn K (.ref C) (.type "int") = some false)))))))
section
variable {M : Model} {prog : Program} {w : World} {A : Around} {E : Value → Shared → Prop} {s : Shared} {K : PySem.W.Frag} {x C f : Addr} {ox : Obj} {od : Option Obj} {b : Value}
end

section
variable (x : Addr) (ox : Obj)
theorem decl_eqB (i : Bool) : Meets (Builtin.«int.__eq__» ⟨[.bool i, .ref x], []⟩) (DeclS x ox) := .of_wp fun prog w A R s q => by
  obtain ⟨hp, g, d, tk, os⟩ := s
  obtain ⟨e1, e2, z⟩ := q
  wp_walk using wpAny_loadPart' e1, wpAny_load e1
  rw [e2]
  wp_walk
  exact ⟨_, rfl, z⟩
theorem decl_neB (i : Bool) : Meets (Builtin.«int.__ne__» ⟨[.bool i, .ref x], []⟩) (DeclS x ox) := .of_wp fun prog w A R s q => by
  obtain ⟨hp, g, d, tk, os⟩ := s
  obtain ⟨e1, e2, z⟩ := q
  wp_walk using wpAny_loadPart' e1, wpAny_load e1
  rw [e2]
  wp_walk
  exact ⟨_, rfl, z⟩
theorem decl_eqS (z : Str) (t : Tok) : Meets (Builtin.«str.__eq__» ⟨[.str z t, .ref x], []⟩) (DeclS x ox) := .of_wp fun prog w A R s q => by
  obtain ⟨hp, g, d, tk, os⟩ := s
  obtain ⟨e1, e2, z⟩ := q
  wp_walk using wpAny_loadPart' e1, wpAny_load e1
  rw [e2]
  wp_walk
  exact ⟨_, rfl, z⟩
theorem decl_neS (z : Str) (t : Tok) : Meets (Builtin.«str.__ne__» ⟨[.str z t, .ref x], []⟩) (DeclS x ox) := .of_wp fun prog w A R s q => by
  obtain ⟨hp, g, d, tk, os⟩ := s
  obtain ⟨e1, e2, z⟩ := q
  wp_walk using wpAny_loadPart' e1, wpAny_load e1
  rw [e2]
  wp_walk
  exact ⟨_, rfl, z⟩
theorem decl_eqN : Meets (Builtin.«NoneType.__eq__» ⟨[.none, .ref x], []⟩) (DeclS x ox) := .of_wp fun prog w A R s q => by
  obtain ⟨hp, g, d, tk, os⟩ := s
  obtain ⟨e1, e2, z⟩ := q
  wp_walk
  exact ⟨_, rfl, z⟩
theorem decl_neN : Meets (Builtin.«NoneType.__ne__» ⟨[.none, .ref x], []⟩) (DeclS x ox) := .of_wp fun prog w A R s q => by
  obtain ⟨hp, g, d, tk, os⟩ := s
  obtain ⟨e1, e2, z⟩ := q
  wp_walk
  exact ⟨_, rfl, z⟩
end
section
variable {M : Model} {A : Around} {E : Value → Shared → Prop} {s : Shared} {K : PySem.W.Frag} {x C f p : Addr} {ox : Obj} {od : Option Obj} {Q : Fin → Shared → Prop}
theorem isI_no {T : String} (X : K.In s.heap) (I : PySem.W.InstAt s.heap x ox C od) (h : PySem.W.mroIn K C (.type T) = some false) : PySem.W.Looks M s.heap (isInstance (.ref x) (.type T)) false := I.type.andThen (PySem.W.looks_mroIn X h)
theorem shape_eqT : ∃ r : Bool → Sem Fin, Builtin.«tuple.__eq__» ⟨[.ref p, .ref x], []⟩ = (isInstance (.ref x) (.type "tuple") >>= r) ∧ r false = (ret .notImplemented >>= fun y => pure y) := ⟨_, rfl, rfl⟩
theorem shape_neT : ∃ r : Bool → Sem Fin, Builtin.«tuple.__ne__» ⟨[.ref p, .ref x], []⟩ = (isInstance (.ref x) (.type "tuple") >>= r) ∧ r false = (ret .notImplemented >>= fun y => pure y) := ⟨_, rfl, rfl⟩
theorem shape_eqL : ∃ r : Bool → Sem Fin, Builtin.«list.__eq__» ⟨[.ref p, .ref x], []⟩ = (isInstance (.ref x) (.type "list") >>= r) ∧ r false = (ret .notImplemented >>= fun y => pure y) := ⟨_, rfl, rfl⟩
theorem shape_neL : ∃ r : Bool → Sem Fin, Builtin.«list.__ne__» ⟨[.ref p, .ref x], []⟩ = (isInstance (.ref x) (.type "list") >>= r) ∧ r false = (ret .notImplemented >>= fun y => pure y) := ⟨_, rfl, rfl⟩
theorem shape_go {t : Sem Fin} {T : String} (h : ∃ r : Bool → Sem Fin, t = (isInstance (.ref x) (.type T) >>= r) ∧ r false = (ret .notImplemented >>= fun y => pure y)) (X : K.In s.heap) (I : PySem.W.InstAt s.heap x ox C od) (hm : PySem.W.mroIn K C (.type T) = some false) (q : Q (.done (.ret .notImplemented)) s) :
    wpAny M A t Q E s := by
  obtain ⟨r, rfl, h⟩ := h
  refine wpAny_bind ((isI_no X I hm).here ?_)
  rw [h]
  exact wpAny_bind (wpAny_pure (wpAny_pure q))
end

/-- v is no int, no bool and no instance -/
inductive Fgn (H : Hp) : V → Prop
  | non : Fgn H .non
  | bl (b : Bool) : Fgn H (.bl b)
  | str (z : Str) : Fgn H (.str z)
  | tup {p : Addr} {xs : List V} : H p = some (.tup xs) → Fgn H (.ref p)
  | lst {p : Addr} {xs : List V} : H p = some (.lst xs) → Fgn H (.ref p)
/-- what its value does beside the instance at x -/
structure FgnAt (K : PySem.W.Frag) (s : Shared) (x C : Addr) (u : Value) : Prop where
  ty : ∃ T, s.TypeIs u T ∧ PySem.W.subIn K (.type T) (.ref C) = some false
  eq : ∀ prog w A E, wpAny (model prog w) A (tryCompare u "__eq__" (.ref x)) (fun r s' => r = none ∧ s' = s) E s
  ne : ∀ prog w A E, wpAny (model prog w) A (tryCompare u "__ne__" (.ref x)) (fun r s' => r = none ∧ s' = s) E s
  same : ∀ (M : Model) A E (Q : Bool → Shared → Prop), Q false s → wpAny M A (isSame (.ref x) u) Q E s
  one : ∀ op, oneThing? op (.ref x) u = none
theorem sub_tc {K : PySem.W.Frag} {T : String} {C : Addr} {l : List Value} (h : fastBuiltinMro T = some l) (hl : ∀ v ∈ l, ∃ n, v = Value.type n) : PySem.W.subIn K (.type T) (.ref C) = some false := by
  show (fastBuiltinMro T).map (·.contains (.ref C)) = some false
  rw [h]
  refine congrArg some (Bool.eq_false_iff.mpr fun q => ?_)
  obtain ⟨n, e⟩ := hl _ (List.contains_iff_mem.mp q)
  cases e
theorem tys {l : List String} {v : Value} (h : v ∈ l.map Value.type) : ∃ n, v = Value.type n := by
  obtain ⟨n, _, rfl⟩ := List.mem_map.mp h
  exact ⟨n, rfl⟩
theorem isSame_inst {M : Model} {A : Around} {E : Value → Shared → Prop} {s : Shared} {x p C dx : Addr} {o : Obj} {Q : Bool → Shared → Prop} (h1 : s.heap.get? x = some (PySem.W.instObj C dx)) (h2 : s.heap.get? p = some o) (hc : o.cls ≠ .ref C) (q : Q false s) :
    wpAny M A (isSame (.ref x) (.ref p)) Q E s := by
  have ne : (x == p) = false := Bool.eq_false_iff.mpr fun e => by
    cases eq_of_beq e
    rw [h1] at h2
    cases h2
    exact hc rfl
  unfold isSame
  simp only [ne, Bool.false_eq_true, if_false]
  refine wpAny_bind (wpAny_load h1 (wpAny_bind (wpAny_load h2 ?_)))
  exact wpAny_pure q
theorem Fgn.at {X : Cx} {pins : List (Addr × Obj)} {σ : L2.St} {H : Hp} {s : Shared} {a C dx f : Addr} {fs : List (Str × V)} {v : V} {u : Value} (g : Fgn H v) (I : Inv X pins σ H s) (r : RelV v u) (ea : H a = some (.ins C dx fs)) (c : NeOwn X.K C f) : FgnAt X.K s a C u := by
  obtain ⟨od, J⟩ := inst_of I ea
  have KX := I.kIn
  have pl : (PySem.W.instObj C dx).data = .plain := rfl
  cases g with
  | non =>
    cases r
    exact ⟨⟨"NoneType", rfl, sub_tc (l := ["NoneType", "object"].map Value.type) (by decide +kernel) fun v h => tys h⟩,
      fun prog w A E => wpAny_tryCompare_declines (show s.TypeIs .none "NoneType" from rfl) F.slot_NoneType_eq_refl (call_meets F.slot_NoneType_eq_refl rfl F.entry_NoneType_eq (F.args_NoneType_eq_2 _ _) (decl_eqN a _) ⟨J.at_, pl, rfl, rfl, rfl⟩),
      fun prog w A E => wpAny_tryCompare_declines (show s.TypeIs .none "NoneType" from rfl) F.slot_NoneType_ne_refl (call_meets F.slot_NoneType_ne_refl rfl F.entry_NoneType_ne (F.args_NoneType_ne_2 _ _) (decl_neN a _) ⟨J.at_, pl, rfl, rfl, rfl⟩),
      fun M A E Q q => wpAny_of_eq (rfl : isSame (.ref a) .none = pure false) q, fun op => rfl⟩
  | bl b =>
    cases r
    exact ⟨⟨"bool", rfl, sub_tc (l := ["bool", "int", "object"].map Value.type) (by decide +kernel) fun v h => tys h⟩,
      fun prog w A E => wpAny_tryCompare_declines (show s.TypeIs (.bool b) "bool" from rfl) F.slot_bool_eq_refl (call_meets F.slot_bool_eq_refl rfl F.entry_int_eq (F.args_int_eq_2 _ _) (decl_eqB a _ b) ⟨J.at_, pl, rfl, rfl, rfl⟩),
      fun prog w A E => wpAny_tryCompare_declines (show s.TypeIs (.bool b) "bool" from rfl) F.slot_bool_ne_refl (call_meets F.slot_bool_ne_refl rfl F.entry_int_ne (F.args_int_ne_2 _ _) (decl_neB a _ b) ⟨J.at_, pl, rfl, rfl, rfl⟩),
      fun M A E Q q => wpAny_of_eq (rfl : isSame (.ref a) (.bool b) = pure false) q, fun op => rfl⟩
  | str z =>
    obtain ⟨t, rfl⟩ := r
    exact ⟨⟨"str", typeIs_str _ _ _, sub_tc (l := ["str", "object"].map Value.type) (by decide +kernel) fun v h => tys h⟩,
      fun prog w A E => wpAny_tryCompare_declines (typeIs_str s z t) F.slot_str_eq_refl (call_meets F.slot_str_eq_refl (typeIs_str s z t) F.entry_str_eq (F.args_str_eq_2 _ _) (decl_eqS a _ z t) ⟨J.at_, pl, rfl, rfl, rfl⟩),
      fun prog w A E => wpAny_tryCompare_declines (typeIs_str s z t) F.slot_str_ne_refl (call_meets F.slot_str_ne_refl (typeIs_str s z t) F.entry_str_ne (F.args_str_ne_2 _ _) (decl_neS a _ z t) ⟨J.at_, pl, rfl, rfl, rfl⟩),
      fun M A E Q q => wpAny_of_eq (rfl : isSame (.ref a) (.str z t) = pure false) q, fun op => rfl⟩
  | tup hp =>
    cases r
    rename_i p xs
    obtain ⟨its, rv, ⟨o, ho, hc, _⟩, _⟩ := I.tuple (.of hp)
    have hT : s.TypeIs (.ref p) "tuple" := ⟨o, ho, hc⟩
    exact ⟨⟨"tuple", hT, sub_tc (l := ["tuple", "object"].map Value.type) (by decide +kernel) fun v h => tys h⟩,
      fun prog w A E => wpAny_tryCompare_declines hT F.slot_tuple_eq_refl (wpAny_call (codeAny_call_builtin F.slot_tuple_eq_refl.plain F.entry_tuple_eq (F.slot_tuple_eq_refl.check _ _ _ _ _ _ _ _ hT (F.args_tuple_eq_2 _ _) (shape_go shape_eqT KX J c.tu ⟨rfl, rfl, rfl⟩)))),
      fun prog w A E => wpAny_tryCompare_declines hT F.slot_tuple_ne_refl (wpAny_call (codeAny_call_builtin F.slot_tuple_ne_refl.plain F.entry_tuple_ne (F.slot_tuple_ne_refl.check _ _ _ _ _ _ _ _ hT (F.args_tuple_ne_2 _ _) (shape_go shape_neT KX J c.tu ⟨rfl, rfl, rfl⟩)))),
      fun M A E Q q => isSame_inst J.at_ ho (by rw [hc]; exact fun z => nomatch z) q, fun op => rfl⟩
  | lst hp =>
    cases r
    rename_i p xs
    obtain ⟨its, n, rv, ho, _⟩ := I.lst hp
    have hT : s.TypeIs (.ref p) "list" := ⟨_, ho, rfl⟩
    exact ⟨⟨"list", hT, sub_tc (l := ["list", "object"].map Value.type) (by decide +kernel) fun v h => tys h⟩,
      fun prog w A E => wpAny_tryCompare_declines hT F.slot_list_eq_refl (wpAny_call (codeAny_call_builtin F.slot_list_eq_refl.plain F.entry_list_eq (F.slot_list_eq_refl.check _ _ _ _ _ _ _ _ hT (F.args_list_eq_2 _ _) (shape_go shape_eqL KX J c.li ⟨rfl, rfl, rfl⟩)))),
      fun prog w A E => wpAny_tryCompare_declines hT F.slot_list_ne_refl (wpAny_call (codeAny_call_builtin F.slot_list_ne_refl.plain F.entry_list_ne (F.slot_list_ne_refl.check _ _ _ _ _ _ _ _ hT (F.args_list_ne_2 _ _) (shape_go shape_neL KX J c.li ⟨rfl, rfl, rfl⟩)))),
      fun M A E Q q => isSame_inst J.at_ ho (fun z => nomatch z) q, fun op => rfl⟩

section
variable {X : Cx} {k j : Nat} {E : XK} {sp : SpN} {C f a dx : Addr} {fs : List (Str × V)} {H : Hp} {Q : VK} {v : V}
end
section
variable {X : Cx} {k j : Nat} {E : XK} {sp : Sp} {C f a b dx dy : Addr} {fs gs : List (Str × V)} {H : Hp} {Q : VK} {v : V} {i : Int}
end
end Rs

namespace Rs
open PySem PySem.Spec PyProof.Rows L2 He
section
variable {X : Cx} {σ : L2.St} {H : Hp} {D : Ends} {Q : VK} {x y : Str} {i : Int} {a b c e : Expr} {p pos : Pos}
end
section
variable {X : Cx} {σ : L2.St} {H : Hp} {D : Ends} {k : Nat} {E : L2.St → XK} {x : Str} {px pos : Pos} {a : Expr} {i : Nat} {body : List Stmt}
end
end Rs

namespace Rs
open PySem PySem.Spec PyProof.Rows L2 He
section
variable {X : Cx} {i : Nat} {x : Str} {pn : List (Addr × Obj)} {xe : Value → Shared → Prop} {a : Addr}
end
section
variable {X : Cx} {x n : Str} {c : Value} {i k : Nat} {E : L2.St → XK} {D : Ends} {σ : L2.St} {H : Hp} {body suite : List Stmt} {b₀ : Stmt} {np pos pos' : Pos}
end
section
variable {X : Cx} {a D : Addr} {oe : Obj} {pn : List (Addr × Obj)} {σ : L2.St} {H : Hp} {Q : VK} {e b : Expr} {p pos : Pos}
end
def excCB (K : PySem.W.Frag) (D : Addr) : Bool := decide (PySem.W.findIn K (.ref D) "__getattribute__" = some (some (.builtin "BaseException.__getattribute__"))) && (decide (PySem.W.findIn K (.ref D) "__getattr__" = some none) && (decide (PySem.W.subIn K (.ref D) (.type "BaseException") = some true) && (PySem.W.hasDictIn K D &&
  (decide (PySem.W.findIn K (.ref D) "__class__" = some (some (.builtin "object.__class__"))) && (decide (PySem.W.specialIn K (.builtin "object.__class__") "__get__" = some (some (.builtin "getset_descriptor.__get__"))) && (decide (PySem.W.takesIn K (.builtin "object.__class__") = some true) && decide (PySem.W.mroIn K D (.type "object") = some true)))))))
end Rs

namespace Rs
open PySem PySem.Spec PyProof.Rows L2 He PySem.Calls ClX
section
variable {X : Cx} {σ : L2.St} {H : Hp} {Q : VK} {QA : List V → Hp → Prop} {k j n : Nat} {E : L2.St → XK} {x : Str} {sp : Sp} {p pos kpos : Pos} {e : Expr} {es : List Expr} {kws : List Keyword} {C f : Addr} {fd : FuncData} {ps ks : List Str} {nm : Option Str} {g : List Value → List Value → List Value} {gV : List V → List V → List V}
end
section
variable {X : Cx} {σ : L2.St} {H : Hp} {Q : VK} {k j : Nat} {E : L2.St → XK} {m : Str} {sp : Sp} {pos apos : Pos} {o e : Expr} {es : List Expr} {C p g : Addr}
end
end Rs

namespace Rs
open PySem PySem.Spec PyProof.Rows L2 He
section
variable {P : Program} {w : World} {K : PySem.W.Frag} {mg : Str → Option Value} {base : Heap} {N ps : List Str} {name qual : Str} {pa : Arguments} {body : List Stmt} {sc : Scope} {dvs : List V} {kws : List (Str × V)} {f : Addr} {fd : FuncData} {k : Nat} {sp : Sp}
end
section
variable {X : Cx} {σ : L2.St} {H : Hp} {Q : VK} {k j : Nat} {x : Str} {sp : Sp} {p pos : Pos} {e : Expr} {es : List Expr}
end
end Rs

namespace Rs
open PySem PySem.Spec PyProof.Rows L2 He
section
variable {X : Cx} {σ : L2.St} {k j : Nat} {E : L2.St → XK} {sp : Sp} {C f g a b dx dy : Addr} {fs gs : List (Str × V)} {H : Hp} {Q : VK} {op : Operator} {i : Int} {e1 e2 : Expr} {pos : Pos}
end
end Rs

namespace Rs
open PySem PySem.Spec PyProof.Rows L2 He
section
variable {X : Cx} {s : Shared} {H : Hp} {scope : Scope} {C : Addr} {cl : List (Str × Addr)} {fp : List Addr} {k i : Nat} {E : L2.St → XK} {x : Str}
end
section
variable {X : Cx} {σ : L2.St} {H : Hp} {Q : VK} {D : Ends} {k i n : Nat} {E : L2.St → XK} {x y : Str} {scope : Scope} {elt iter : Expr} {px py pos spos : Pos}
end
end Rs

namespace Rs
open PySem PySem.Spec PyProof.Rows L2 He PySem.Calls
section
variable {prog : Program} {w : World} {A : Around} {E : Value → Shared → Prop} {s : Shared}
end
section
variable {X : Cx} {k i j n m : Nat} {E : L2.St → XK} {x y : Str} {D : Ends} {σ : L2.St} {H : Hp} {body : List Stmt} {e : Expr} {p pos pc px py tp : Pos} {kk : Nat}
end
end Rs

namespace Rs
open PySem PySem.Spec PyProof.Rows L2 He PySem.Calls
/-- t looks names up in the dict at D, then goes on as r -/
def KwTo {α : Type} (D : Addr) : List (Str × Value) → Sem α → Sem α → Prop
  | [], t, r => t = r
  | q :: l, t, r => ∃ (β γ : Type) (k1 : Option Value → Sem β) (k2 : β → Sem γ) (k3 : γ → Sem α) (a : β), (t = ((nsGet D q.1 >>= k1) >>= k2) >>= k3) ∧ k1 (some q.2) = pure a ∧ KwTo D l (k2 a >>= k3) r
theorem KwTo.run {α : Type} {K : PySem.W.Frag} {M : Model} {A : Around} {s : Shared} {D : Addr} {Q : α → Shared → Prop} {E : Value → Shared → Prop} (X : K.In s.heap) :
    ∀ {l : List (Str × Value)} {t r : Sem α}, (∀ q ∈ l, PySem.W.nsIn K D q.1 = some (some q.2)) → KwTo D l t r → wpAny M A r Q E s → wpAny M A t Q E s
  | [], t, r, _, e, h => by
    cases e
    exact h
  | q :: l, t, r, hl, e, h => by
    obtain ⟨β, γ, k1, k2, k3, a, e1, e2, e3⟩ := e
    have l1 : PySem.W.Looks M s.heap (nsGet D q.1 >>= k1) a := (PySem.W.looks_nsIn X (hl q List.mem_cons_self)).andThen (PySem.W.Looks.of_pure e2)
    rw [e1, bind_assoc]
    exact wpAny_bind (l1.here (KwTo.run X (fun p hp => hl p (List.mem_cons_of_mem _ hp)) e3 h))
section
variable {P : Program} {w : World} {K : PySem.W.Frag} {mg : Str → Option Value} {base : Heap} {N ps : List Str} {pv name qual : Str} {pa : Arguments} {body : List Stmt} {sc : Scope} {kws : List (Str × V)} {f : Addr} {fd : FuncData} {k : Nat} {sp : Sp}
end
section
variable {X : Cx} {σ : L2.St} {H : Hp} {Q : VK} {k j : Nat} {E : L2.St → XK} {x : Str} {sp : List V → List V → Hp → VK → XK → Prop} {p pos : Pos} {e : Expr} {es : List Expr} {kws : List Keyword} {C f : Addr} {ks : List Str}
end
structure ExX (S : Addr → Prop) (H H' : Hp) : Prop where
  kp : ∀ a o, ¬ S a → H a = some o → Good H o → H' a = some o
  src : ∀ a l o, ¬ S a → H a = some o → SrcL l o → ∃ o', H' a = some o' ∧ SrcL l o'
  th : ∀ a, H a ≠ none → H' a ≠ none
section
variable {S : Addr → Prop} {H H1 H2 : Hp}
theorem Ex.there (x : Ex H H1) (a : Addr) (h : H a ≠ none) : H1 a ≠ none := fun z => h (x.back z)
theorem Ex.x (x : Ex H H1) : ExX S H H1 := ⟨fun a o _ h g => x.kp a o h g, fun a l o _ h s => x.src a l o h s, x.there⟩
end
end Rs

namespace Rs
open PySem PySem.Spec PyProof.Rows L2 He
section
variable {X : Cx} {σ : L2.St} {H : Hp} {D D' : Ends} {Q : VK} {k j : Nat} {E : L2.St → XK} {m : Str} {sp : Sp} {C : Addr} {c o e : Expr} {a b st : List Stmt} {s1 : Stmt} {pos apos cpos : Pos}
end
end Rs

namespace Rs
open PySem PySem.Spec PyProof.Rows L2 He
end Rs
namespace Rs
open PySem PySem.Spec PyProof.Rows L2 He
section
variable {X : Cx} {x par m qual fld : Str} {p pos pos2 : Pos} {C f : Addr} {j k : Nat} {pa : Arguments} {sc : Scope} {ar : Arg} {p0 p1 p2 p3 p4 p5 p6 p7 p8 p9 : Pos} {E : L2.St → XK} {D : Ends} {σ : L2.St} {H : Hp} {ea : Expr}
end
end Rs
namespace Rs
open PySem PySem.Spec PyProof.Rows L2 He
section
variable {X : Cx} {a D dd : Addr} {oe : Obj} {pn : List (Addr × Obj)} {σ : L2.St} {H : Hp} {Q : VK} {e b : Expr} {p pos : Pos} {n : Str}
end
def excIB (P : Program) (K : PySem.W.Frag) (C f : Addr) : Bool := PySem.W.excInitIn K C PySem.HandSPX.veTail "ValueError.__new__" && ((match PySem.W.clsIn K C with
    | some cd => PySem.HandSPX.refsVE cd.mro && cd.hasDict
    | none => false) && (PySem.W.keepIn K (.ref C) && (decide (PySem.W.subIn K (.ref C) (.type "BaseException") = some true) && (decide (PySem.W.subIn K (.ref C) (.type "ValueError") = some true) && (decide (PySem.W.typeIn K (.ref C) = some (.type "type")) &&
  (decide (PySem.W.findIn K (.ref C) "__setattr__" = some (some (.builtin "object.__setattr__"))) && (decide (PySem.W.findIn K (.ref C) "__init__" = some (some (.ref f))) && (decide (PySem.W.typeIn K (.ref f) = some (.type "function")) &&
  (decide (PySem.W.ks_superIn K C C "__init__" = some (some (.builtin "ValueError.__init__"))) && (decide (PySem.W.mroIn K C (.ref C) = some true) && (decide (PySem.W.nsIn K cStatics "thirdparty.any" = some none) && !(P.main.scope.names.lookup ("super" : Str)).isSome)))))))))))
def isCellOf (C : Addr) (o : Option Obj) : Bool := match o with
  | some ob => (match ob.data with
    | .cell v => decide (v = some (.ref C))
    | _ => false)
  | none => false
def isStrAs (z : Str) (v : Value) : Bool := match v with
  | .str file _ => z == file
  | _ => false
def isCodeOf (z : Str) (o : Option Obj) : Bool := match o with
  | some ob => (match ob.data with
    | .fields vs => (match vs[2]? with
      | some v => isStrAs z v
      | none => false)
    | _ => false)
  | none => false
def isCodeAt (z : Str) (K : PySem.W.Frag) (v : Value) : Bool := match v with
  | .ref cda => isCodeOf z (K.lookup cda)
  | _ => false
def isCloOf (K : PySem.W.Frag) (C : Addr) (cl : List (Str × Addr)) : Bool := match cl with
  | [q] => decide (q.1 = "__class__") && isCellOf C (K.lookup q.2)
  | _ => false
def funOf (o : Option Obj) : Option FuncData := match o with
  | some ob => (match ob.data with
    | .func z => some z
    | _ => none)
  | none => none
def funCB (P : Program) (K : PySem.W.Frag) (C f : Addr) : Bool := match funOf (K.lookup f) with
  | some z => isCloOf K C z.closure && (isCodeAt P.main.file K z.code && decide (z.defaults = .none))
  | none => false
end Rs

namespace Rs
open PySem PySem.Spec PyProof.Rows L2 He
section
variable {X : Cx} {pins : List (Addr × Obj)} {D : Ends}
end
section
variable {X : Cx} {body : List Stmt} {h0 : ExceptHandler} {hds : List ExceptHandler} {l : List Clause} {pos : Pos} {tb : WX → TS} {out : WX}
end
section
variable {X : Cx} {k : Nat} {E : L2.St → XK} {D : Ends} {σ : L2.St} {H : Hp} {body : List Stmt} {h0 : ExceptHandler} {hds : List ExceptHandler} {l : List Clause} {pos : Pos}
end
section
variable {X : Cx} {k : Nat} {E : L2.St → XK} {H : Hp} {Q : VK} {v u : V} {d e : PyData}
end
section
variable {X : Cx} {σ : L2.St} {H : Hp} {Q : VK} {a b : Expr} {pos p2 : Pos}
end
end Rs

namespace Rs
open PySem PySem.Spec PyProof.Rows L2 He
def strsAre : List Str → List Value → Bool
  | [], [] => true
  | x :: xs, v :: vs => isStrAs x v && strsAre xs vs
  | _, _ => false
def seqOf (d : Data) : Option (Array Value) := match d with
  | .seq i _ => some i
  | _ => none
def kTupB (K : PySem.W.Frag) (a : Addr) (xs : List Str) : Bool := match K.lookup a with
  | some o => decide (o.cls = .type "tuple") && ((match seqOf o.data with
    | some i => decide (i.size ≤ 100) && strsAre xs i.toList
    | none => false))
  | none => false
section
variable {X : Cx} {k : Nat} {E : L2.St → XK} {σ : L2.St} {H : Hp} {D : Ends} {Q : VK} {o i e value : Expr} {pos pos' p : Pos} {j : Nat} {x : Str}
end
section
variable {ks : List Key} {vs : List V} {k : Key} {v : V} {i : Nat}
end
section
variable {X : Cx} {σ : L2.St}
end
section
variable {X : Cx} {a D : Addr} {oe : Obj} {pn : List (Addr × Obj)} {σ : L2.St} {H : Hp} {Q : VK} {e b : Expr} {p pos : Pos}
end
end Rs

namespace Mt
end Mt

namespace Mt
end Mt

namespace Mt
end Mt

namespace Mt
end Mt

namespace Mt
theorem Sz.int {i : Int} {n : Nat} (h : i.natAbs < 2 ^ n) (h0 : 0 < n) : Sz (i : Rat) n := by
  rw [← int_eq]
  exact Sz.div (by decide) h (Nat.one_lt_two_pow (by omega))
end Mt

namespace Mt
section
variable {α : Type} [Add α] [LT α] [DecidableRel (LT.lt (α := α))]
end
section
variable {α β : Type} [Add α] [LT α] [DecidableRel (LT.lt (α := α))] [Add β] [LT β] [DecidableRel (LT.lt (α := β))]
variable {f : α → β} (ha : ∀ a b, f (a + b) = f a + f b) (hl : ∀ a b, f a < f b ↔ a < b) {z w : α} {d : Bool} {ds : List (Option α)}
end
end Mt

namespace Mt
section
variable {W : Int} {d : Bool} {ds : List (Option Int)}
end
end Mt

namespace Mt
section
variable {u : Rat} {d : Bool} {ds : List (Option Rat)}
end
end Mt

namespace Mt
section
variable {W Y : Int} {d : Bool}
end
end Mt

namespace Rs
open PySem PySem.Spec PyProof.Rows L2 He
open TL (tl len_tl ext_tl tl_append)
section
variable {X : Cx} {σ : L2.St} {H : Hp} {D : Ends} {Q Q' : VK} {k : Nat} {E : L2.St → XK} {x y z : Str} {p px pos pos' apos p2 : Pos} {a b c e o : Expr} {i : Nat} {body : List Stmt}
end
end Rs

namespace Rs
open PySem PySem.Spec PyProof.Rows L2 He
open TL (tl len_tl ext_tl tl_append tl_num numL numL_lt numL_step numL_digits numL_ne numL_free numL_val numL_inj numL_len int_num joinL spl pre spl_hit spl_miss spl_nil split_spl)
end Rs

namespace Rs
open PySem PySem.Spec PyProof.Rows L2 He
open TL (tl len_tl ext_tl tl_append tl_num numL numL_lt numL_step numL_digits numL_ne numL_free numL_val numL_inj numL_len int_num joinL spl pre spl_hit spl_miss spl_nil split_spl)
end Rs

namespace Rs
open PySem PySem.Spec PyProof.Rows L2 He
section
variable {P : Program} {w : World} {K : PySem.W.Frag} {mg : Str → Option Value} {base : Heap} {N ps : List Str} {pv name qual : Str} {pa : Arguments} {body : List Stmt} {sc : Scope} {f : Addr} {fd : FuncData} {k : Nat} {sp : Sp}
end
section
variable {X : Cx} {σ : L2.St} {H : Hp} {Q : VK} {o : Expr} {apos pos : Pos}
end
end Rs
namespace Rs
open PySem PySem.SeqAt
open AutoSeq1 (wpAny_loadPart')
open MeetsSeq MeetsSeq2 MeetsSeq3 SeqRoads2
section
variable {prog : Program} {w : World} {A : Around} {R : Result → Shared → Prop}
end
section
variable {prog : Program} {w : World} {A : Around} {E : Value → Shared → Prop} {s : Shared}
end
end Rs
namespace Rs
open PySem PySem.Spec PyProof.Rows L2 He
section
variable {X : Cx} {n k : Nat} {D : Eqv} {E : L2.St → XK} {H : Hp} {Q : VK}
end
end Rs

namespace Rs
open PySem PySem.Spec PyProof.Rows L2 He
section
variable {X : Cx} {σ : L2.St} {H : Hp} {Q : VK} {D : Ends} {k i n : Nat} {E : L2.St → XK} {x y : Str} {scope : Scope} {elt a : Expr} {px py pos spos pr pc : Pos}
end
end Rs

namespace Mt
open PySem
section
variable {u d : Rat} {b : Bool}
end
end Mt

namespace Rs
open PySem PySem.Spec
section
variable {prog : Program} {w : World} {K : Type} [DecidableEq K] {knd : KeyKind prog w K} {A : Around} {E : Value → Shared → Prop} {s : Shared}
end
end Rs

namespace Rs
open PySem PySem.Spec PyProof.Rows L2 He
section
variable {X : Cx} {pins : List (Addr × Obj)} {σ : L2.St} {H : Hp} {s : Shared} {A : Around} {E : Value → Shared → Prop}
end
section
variable {prog : Program} {w : World} {A : Around} {s : Shared} {E : Value → Shared → Prop}
end
section
variable {M : Model} {A : Around} {E : Value → Shared → Prop} {s : Shared} {f : Value} {first : List Value} {pos : Pos} {Q : Value → Shared → Prop} {P : Heap → Prop} {args : List (Bool × Sem Value)} {kws : List (Option Str × Sem Value)}
end
section
variable {X : Cx} {σ : L2.St} {H : Hp} {Q : VK} {k j : Nat} {E : L2.St → XK} {x : Str} {sp : Sp} {p pos kpos : Pos} {e : Expr} {C : Addr} {ks : List Str} {gV : List V → List V → List V}
end
end Rs

namespace Rs
open PySem PySem.Spec PyProof.Rows L2 He
section
variable {prog : Program} {w : World} {A : Around} {s : Shared} {E : Value → Shared → Prop}
end
section
variable {X : Cx} {σ : L2.St} {H : Hp} {Q : VK} {e1 e2 ek : Expr} {pos : Pos}
end
end Rs

namespace Rs
open PySem PySem.Spec PyProof.Rows L2 He
section
variable {prog : Program} {w : World} {A : Around} {s : Shared} {E : Value → Shared → Prop}
end
section
variable {X : Cx} {σ : L2.St}
end
section
variable {P : Program} {w : World} {K : PySem.W.Frag} {mg : Str → Option Value} {base : Heap} {N ps : List Str} {pd name qual : Str} {pa : Arguments} {body : List Stmt} {sc : Scope} {f : Addr} {fd : FuncData} {k : Nat} {sp : Sp} {ks : List Str}
end
section
variable {X : Cx} {σ : L2.St} {H : Hp} {Q : VK} {k j : Nat} {E : L2.St → XK} {m : Str} {sp : Sp} {pos apos : Pos} {o : Expr} {C : Addr} {ks : List Str} {kws : List Keyword}
end
end Rs

namespace Rs
open PySem PySem.Spec PyProof.Rows L2 He
section
variable {X : Cx} {σ : L2.St} {H : Hp} {D : Ends} {k j : Nat} {E : L2.St → XK} {f : Str} {C p g : Addr} {sp : Sp} {value o : Expr} {pos pos' : Pos}
end
section
variable {X : Cx} {σ : L2.St} {H : Hp} {D : Ends} {k : Nat} {E : L2.St → XK} {x : Str} {px pos p : Pos} {a : Expr} {i : Nat} {body : List Stmt} {Q : VK}
end
end Rs

namespace Rs
open PySem PySem.Spec PyProof.Rows L2 He
section
variable {X : Cx} {k j : Nat} {E : XK} {C f a dx : Addr} {fs : List (Str × V)} {H : Hp} {Q : VK} {v : V}
end
end Rs

namespace Rs
open PySem PySem.Spec PyProof.Rows L2 He
section
variable {X : Cx} {σ : L2.St} {H : Hp} {Q : VK} {QA : List V → Hp → Prop} {k j i : Nat} {E : L2.St → XK} {sp : Sp} {p pos px pr pc : Pos} {fe e : Expr} {es : List Expr} {C g : Addr} {x : Str} {scope : Scope} {elt a : Expr}
end
end Rs

namespace Rs
open PySem PySem.Spec PyProof.Rows L2 He
section
variable {X : Cx} {σ : L2.St} {H : Hp} {Q : VK} {k j : Nat} {E : L2.St → XK} {x : Str} {sp : List V → Sp} {p pos : Pos} {e : Expr} {es : List Expr} {C : Addr} {ks : List Str} {kws : List Keyword}
end
end Rs

namespace Mt
end Mt

namespace Mt
section
variable {W U : Int} {d : Bool} {ds : List (Option Int)}
end
end Mt

namespace Rs
open PySem PySem.Spec PyProof.Rows L2 He
section
variable {X : Cx} {k : Nat} {E : L2.St → XK} {σ : L2.St} {H : Hp} {D : Ends} {Q : VK} {a b e : Expr} {es : List Expr} {pos p2 : Pos}
end
end Rs

namespace Rs
open PySem PySem.Spec PyProof.Rows L2 He
section
variable {X : Cx} {H : Hp} {Q : VK} {k j : Nat} {E : XK} {C f a dx : Addr} {fs : List (Str × V)} {sp : Sp} {v : V}
end
end Rs

namespace Rs
open PySem PySem.Spec PyProof.Rows L2 He
section
variable {X : Cx} {k j : Nat} {E : XK} {sp sp' : SpN} {C C' f f' a b dx dy : Addr} {fs gs : List (Str × V)} {H : Hp} {Q : VK}
end
end Rs

namespace Rs
open PySem PySem.Spec PyProof.Rows L2 He
section
variable {X : Cx} {σ : L2.St} {H : Hp} {Q : VK} {k j : Nat} {a b e : Expr} {p pos : Pos}
end
section
variable {X : Cx} {σ : L2.St} {H : Hp} {Q : VK} {k j : Nat} {E : L2.St → XK} {x : Str} {sp : List V → Sp} {p pos sp_ : Pos} {e : Expr} {C : Addr}
end
end Rs

namespace Rs
open PySem PySem.Spec PyProof.Rows L2 He
section
variable {X : Cx} {k : Nat} {E : L2.St → XK} {σ : L2.St} {H : Hp} {D : Ends} {e : Expr} {pos : Pos}
end
end Rs

namespace Rs
open PySem PySem.Spec PyProof.Rows L2 He
section
open PySem.W
end
section
variable {X : Cx} {k j : Nat} {E : XK} {sp : Sp} {C D f f' a b dx dy : Addr} {fs gs : List (Str × V)} {H : Hp} {Q : VK} {op : Operator} {cop : CmpOp}
end
section
variable {X : Cx} {σ : L2.St} {H : Hp} {Q : VK} {k : Nat} {a o e : Expr} {p pos apos cpos : Pos}
end
end Rs

namespace Rs
open PySem PySem.Spec PyProof.Rows L2 He
/-- a method that can be taken as a value -/
def bMethB (K : PySem.W.Frag) (C : Addr) (m : Str) (g : Addr) : Bool := decide (PySem.W.findIn K (.ref C) m = some (some (.ref g))) && (PySem.W.isFn K (.ref g) && (PySem.W.keepIn K (.ref g) && (decide (PySem.W.specialIn K (.ref g) "__get__" = some (some (.builtin "function.__get__"))) &&
  (decide (PySem.W.takesIn K (.ref g) = some false) && (decide (PySem.W.copiedNames.contains m = false) && PySem.W.fnIn K g)))))
end Rs

namespace Rs
open PySem PySem.Spec PyProof.Rows L2 He
section
variable {M : Model} {A : Around} {E : Value → Shared → Prop} {t : Shared} {b : Addr} {o : Obj} {vb : Array Value}
end
section
variable {P : Program} {w : World} {K : PySem.W.Frag} {mg : Str → Option Value} {base : Heap} {N ps : List Str} {name qual : Str} {pa : Arguments} {body : List Stmt} {sc : Scope} {dvs : List V} {kws : List (Str × V)} {f : Addr} {fd : FuncData} {k : Nat} {sp : Sp}
end
section
variable {X : Cx} {σ : L2.St} {H : Hp} {Q : VK} {D : Ends} {k j i : Nat} {E : L2.St → XK} {x n : Str} {sp : Sp} {p pos pos' np cpos : Pos} {e ea : Expr} {es : List Expr} {c : Value} {C : Addr} {fld : Str} {body suite : List Stmt} {b₀ : Stmt}
end
end Rs

namespace Rs
open PySem PySem.Spec PyProof.Rows L2 He
section
variable {X : Cx} {k i j l n m : Nat} {E : L2.St → XK} {x y z : Str} {D : Ends} {σ : L2.St} {H : Hp} {body : List Stmt} {e : Expr} {p pos pc px py pz tp tp2 : Pos} {kk kk2 : Nat}
end
section
variable {P : Program} {w : World} {K : PySem.W.Frag} {mg : Str → Option Value} {base : Heap} {N ps : List Str} {pd name qual : Str} {pa : Arguments} {body : List Stmt} {sc : Scope} {f : Addr} {fd : FuncData} {k : Nat} {sp : Sp} {ks : List Str}
end
section
variable {X : Cx} {σ : L2.St} {H : Hp} {Q : VK} {k j : Nat} {E : L2.St → XK} {m : Str} {sp : Sp} {pos apos kpos : Pos} {o e : Expr} {C g : Addr} {ks : List Str}
end
end Rs

namespace Rs
open PySem PySem.Spec PyProof.Rows L2 He
section
variable {X : Cx} {σ : L2.St} {H : Hp} {Q : VK} {e b : Expr} {p pos : Pos} {a D dd : Addr} {oe : Obj} {pn : List (Addr × Obj)} {n : Str}
end
section
variable {X : Cx} {σ : L2.St} {H : Hp} {Q : VK} {a : Expr} {p pos : Pos}
end
section
variable {P : Program} {w : World} {K : PySem.W.Frag} {mg : Str → Option Value} {base : Heap} {N ps : List Str} {name qual : Str} {pa : Arguments} {body : List Stmt} {sc : Scope} {f : Addr} {fd : FuncData} {k : Nat} {sp : Sp}
end
section
variable {P : Program} {w : World} {K : PySem.W.Frag} {mg mb : Str → Option Value} {k : Nat} {fa a : Addr} {sp : Sp} {s : Shared} {H : Hp} {us : List Value} {ns : List Int}
end
end Rs


namespace Rt
open PySem PySem.Spec PyProof.Rows L2 He Rs Mt
def top (i : Nat) : Stmt := PySem.Challenge.pw_resendtimers_k63_changes_made.main.body.getD i (.Pass ⟨0, 0, 0, 0⟩)
abbrev s_BadBook___init__ : Stmt := inClass (top 5) 0
abbrev s_NoChange___init__ : Stmt := inClass (top 6) 0
abbrev s_is_integer : Stmt := top 11
abbrev s_common : Stmt := top 12
abbrev s_Time___init__ : Stmt := inClass (top 15) 0
abbrev s_Time_top : Stmt := inClass (top 15) 1
abbrev s_Time_bottom : Stmt := inClass (top 15) 2
abbrev s_Time___add__ : Stmt := inClass (top 15) 4
abbrev s_Time___radd__ : Stmt := inClass (top 15) 5
abbrev s_Time___sub__ : Stmt := inClass (top 15) 6
abbrev s_Time___rsub__ : Stmt := inClass (top 15) 7
abbrev s_Time___mul__ : Stmt := inClass (top 15) 8
abbrev s_Time___rmul__ : Stmt := inClass (top 15) 9
abbrev s_Time___neg__ : Stmt := inClass (top 15) 13
abbrev s_Time___abs__ : Stmt := inClass (top 15) 14
abbrev s_Time___eq__ : Stmt := inClass (top 15) 16
abbrev s_Time___lt__ : Stmt := inClass (top 15) 17
abbrev s_Time___le__ : Stmt := inClass (top 15) 18
abbrev s_Time___gt__ : Stmt := inClass (top 15) 19
abbrev s_Time___ge__ : Stmt := inClass (top 15) 20
abbrev s_is_time : Stmt := top 16
abbrev s_time_of : Stmt := top 17
abbrev s_is_positive : Stmt := top 24
abbrev s_is_latest : Stmt := top 25
abbrev s_is_roof : Stmt := top 26
abbrev s_is_allowed : Stmt := top 27
abbrev s_checked : Stmt := top 28
abbrev s_Book___init__ : Stmt := inClass (top 34) 0
abbrev s_Book_change : Stmt := inClass (top 34) 1
abbrev s_Book_put_part : Stmt := inClass (top 34) 2
abbrev s_Book_sample : Stmt := inClass (top 34) 3
abbrev s_Book_share : Stmt := inClass (top 34) 5
abbrev s_Book_latest : Stmt := inClass (top 34) 7
abbrev s_Book_factor : Stmt := inClass (top 34) 9
abbrev s_Book_margin : Stmt := inClass (top 34) 11
abbrev s_Book_floor : Stmt := inClass (top 34) 13
abbrev s_Book_roof : Stmt := inClass (top 34) 15
abbrev s_Book_doubled : Stmt := inClass (top 34) 17
abbrev s_Book_kept : Stmt := inClass (top 34) 19
abbrev s_Book_twin : Stmt := inClass (top 34) 23
abbrev s_changed : Stmt := top 36
abbrev s__law_begin : Stmt := top 38
abbrev s__law_draw : Stmt := top 39
abbrev s__law_divisor : Stmt := top 40
abbrev s__law_cut : Stmt := top 41
abbrev s__law_sum : Stmt := top 42
abbrev s__law_less : Stmt := top 43
abbrev s__law_time : Stmt := top 44
abbrev s__law_is : Stmt := top 45
abbrev s__law_number : Stmt := top 46
abbrev s__law_moment : Stmt := top 47
abbrev s__law_share : Stmt := top 48
abbrev s__law_rules : Stmt := top 49
abbrev s__law_book : Stmt := top 50
abbrev s__law_reads : Stmt := top 51
abbrev s__law_first_bad : Stmt := top 52
abbrev s__law_odd : Stmt := top 53
abbrev s__law_bent : Stmt := top 54
abbrev s__law_thing : Stmt := top 55
abbrev s__law_words : Stmt := top 56
abbrev s__law_made : Stmt := top 57
abbrev s__law_due : Stmt := top 58
abbrev s__law_row : Stmt := top 59
abbrev s_law : Stmt := top 60

section
set_option maxHeartbeats 0
def w_BadBook___init__ : DefA := ⟨fun K => ma K (ga K "BadBook") "__init__", "__init__", "BadBook.__init__", defArgs s_BadBook___init__, defBody s_BadBook___init__, defScope s_BadBook___init__, [], [], true⟩
def w_NoChange___init__ : DefA := ⟨fun K => ma K (ga K "NoChange") "__init__", "__init__", "NoChange.__init__", defArgs s_NoChange___init__, defBody s_NoChange___init__, defScope s_NoChange___init__, [], [], true⟩
def w_is_integer : DefA := ⟨fun K => ga K "is_integer", "is_integer", "is_integer", defArgs s_is_integer, defBody s_is_integer, defScope s_is_integer, [], [], false⟩
def w_common : DefA := ⟨fun K => ga K "common", "common", "common", defArgs s_common, defBody s_common, defScope s_common, [], [], false⟩
def w_Time___init__ : DefA := ⟨fun K => ma K (ga K "Time") "__init__", "__init__", "Time.__init__", defArgs s_Time___init__, defBody s_Time___init__, defScope s_Time___init__, [.int 1], [], false⟩
def w_Time_top : DefA := ⟨fun K => pgA K (ga K "Time") "top", "top", "Time.top", defArgs s_Time_top, defBody s_Time_top, defScope s_Time_top, [], [], false⟩
def w_Time_bottom : DefA := ⟨fun K => pgA K (ga K "Time") "bottom", "bottom", "Time.bottom", defArgs s_Time_bottom, defBody s_Time_bottom, defScope s_Time_bottom, [], [], false⟩
def w_Time___add__ : DefA := ⟨fun K => ma K (ga K "Time") "__add__", "__add__", "Time.__add__", defArgs s_Time___add__, defBody s_Time___add__, defScope s_Time___add__, [], [], false⟩
def w_Time___radd__ : DefA := ⟨fun K => ma K (ga K "Time") "__radd__", "__radd__", "Time.__radd__", defArgs s_Time___radd__, defBody s_Time___radd__, defScope s_Time___radd__, [], [], false⟩
def w_Time___sub__ : DefA := ⟨fun K => ma K (ga K "Time") "__sub__", "__sub__", "Time.__sub__", defArgs s_Time___sub__, defBody s_Time___sub__, defScope s_Time___sub__, [], [], false⟩
def w_Time___rsub__ : DefA := ⟨fun K => ma K (ga K "Time") "__rsub__", "__rsub__", "Time.__rsub__", defArgs s_Time___rsub__, defBody s_Time___rsub__, defScope s_Time___rsub__, [], [], false⟩
def w_Time___mul__ : DefA := ⟨fun K => ma K (ga K "Time") "__mul__", "__mul__", "Time.__mul__", defArgs s_Time___mul__, defBody s_Time___mul__, defScope s_Time___mul__, [], [], false⟩
def w_Time___rmul__ : DefA := ⟨fun K => ma K (ga K "Time") "__rmul__", "__rmul__", "Time.__rmul__", defArgs s_Time___rmul__, defBody s_Time___rmul__, defScope s_Time___rmul__, [], [], false⟩
def w_Time___neg__ : DefA := ⟨fun K => ma K (ga K "Time") "__neg__", "__neg__", "Time.__neg__", defArgs s_Time___neg__, defBody s_Time___neg__, defScope s_Time___neg__, [], [], false⟩
def w_Time___abs__ : DefA := ⟨fun K => ma K (ga K "Time") "__abs__", "__abs__", "Time.__abs__", defArgs s_Time___abs__, defBody s_Time___abs__, defScope s_Time___abs__, [], [], false⟩
def w_Time___eq__ : DefA := ⟨fun K => ma K (ga K "Time") "__eq__", "__eq__", "Time.__eq__", defArgs s_Time___eq__, defBody s_Time___eq__, defScope s_Time___eq__, [], [], false⟩
def w_Time___lt__ : DefA := ⟨fun K => ma K (ga K "Time") "__lt__", "__lt__", "Time.__lt__", defArgs s_Time___lt__, defBody s_Time___lt__, defScope s_Time___lt__, [], [], false⟩
def w_Time___le__ : DefA := ⟨fun K => ma K (ga K "Time") "__le__", "__le__", "Time.__le__", defArgs s_Time___le__, defBody s_Time___le__, defScope s_Time___le__, [], [], false⟩
def w_Time___gt__ : DefA := ⟨fun K => ma K (ga K "Time") "__gt__", "__gt__", "Time.__gt__", defArgs s_Time___gt__, defBody s_Time___gt__, defScope s_Time___gt__, [], [], false⟩
def w_Time___ge__ : DefA := ⟨fun K => ma K (ga K "Time") "__ge__", "__ge__", "Time.__ge__", defArgs s_Time___ge__, defBody s_Time___ge__, defScope s_Time___ge__, [], [], false⟩
def w_is_time : DefA := ⟨fun K => ga K "is_time", "is_time", "is_time", defArgs s_is_time, defBody s_is_time, defScope s_is_time, [], [], false⟩
def w_time_of : DefA := ⟨fun K => ga K "time_of", "time_of", "time_of", defArgs s_time_of, defBody s_time_of, defScope s_time_of, [], [], false⟩
def w_is_positive : DefA := ⟨fun K => ga K "is_positive", "is_positive", "is_positive", defArgs s_is_positive, defBody s_is_positive, defScope s_is_positive, [], [], false⟩
def w_is_latest : DefA := ⟨fun K => ga K "is_latest", "is_latest", "is_latest", defArgs s_is_latest, defBody s_is_latest, defScope s_is_latest, [], [], false⟩
def w_is_roof : DefA := ⟨fun K => ga K "is_roof", "is_roof", "is_roof", defArgs s_is_roof, defBody s_is_roof, defScope s_is_roof, [], [], false⟩
def w_is_allowed : DefA := ⟨fun K => ga K "is_allowed", "is_allowed", "is_allowed", defArgs s_is_allowed, defBody s_is_allowed, defScope s_is_allowed, [], [], false⟩
def w_checked : DefA := ⟨fun K => ga K "checked", "checked", "checked", defArgs s_checked, defBody s_checked, defScope s_checked, [], [], false⟩
def w_Book___init__ : DefA := ⟨fun K => ma K (ga K "Book") "__init__", "__init__", "Book.__init__", defArgs s_Book___init__, defBody s_Book___init__, defScope s_Book___init__, [], [("sample", .str "first"), ("share", .int 1), ("latest", .non), ("factor", .int 1), ("margin", .int 0), ("floor", .non), ("roof", .non), ("doubled", .bl false), ("kept", .bl false)], false⟩
def w_Book_change : DefA := ⟨fun K => ma K (ga K "Book") "change", "change", "Book.change", defArgs s_Book_change, defBody s_Book_change, defScope s_Book_change, [], [], false⟩
def w_Book_put_part : DefA := ⟨fun K => ma K (ga K "Book") "put_part", "put_part", "Book.put_part", defArgs s_Book_put_part, defBody s_Book_put_part, defScope s_Book_put_part, [], [], false⟩
def w_Book_sample : DefA := ⟨fun K => pgA K (ga K "Book") "sample", "sample", "Book.sample", defArgs s_Book_sample, defBody s_Book_sample, defScope s_Book_sample, [], [], false⟩
def w_Book_share : DefA := ⟨fun K => pgA K (ga K "Book") "share", "share", "Book.share", defArgs s_Book_share, defBody s_Book_share, defScope s_Book_share, [], [], false⟩
def w_Book_latest : DefA := ⟨fun K => pgA K (ga K "Book") "latest", "latest", "Book.latest", defArgs s_Book_latest, defBody s_Book_latest, defScope s_Book_latest, [], [], false⟩
def w_Book_factor : DefA := ⟨fun K => pgA K (ga K "Book") "factor", "factor", "Book.factor", defArgs s_Book_factor, defBody s_Book_factor, defScope s_Book_factor, [], [], false⟩
def w_Book_margin : DefA := ⟨fun K => pgA K (ga K "Book") "margin", "margin", "Book.margin", defArgs s_Book_margin, defBody s_Book_margin, defScope s_Book_margin, [], [], false⟩
def w_Book_floor : DefA := ⟨fun K => pgA K (ga K "Book") "floor", "floor", "Book.floor", defArgs s_Book_floor, defBody s_Book_floor, defScope s_Book_floor, [], [], false⟩
def w_Book_roof : DefA := ⟨fun K => pgA K (ga K "Book") "roof", "roof", "Book.roof", defArgs s_Book_roof, defBody s_Book_roof, defScope s_Book_roof, [], [], false⟩
def w_Book_doubled : DefA := ⟨fun K => pgA K (ga K "Book") "doubled", "doubled", "Book.doubled", defArgs s_Book_doubled, defBody s_Book_doubled, defScope s_Book_doubled, [], [], false⟩
def w_Book_kept : DefA := ⟨fun K => pgA K (ga K "Book") "kept", "kept", "Book.kept", defArgs s_Book_kept, defBody s_Book_kept, defScope s_Book_kept, [], [], false⟩
def w_Book_twin : DefA := ⟨fun K => ma K (ga K "Book") "twin", "twin", "Book.twin", defArgs s_Book_twin, defBody s_Book_twin, defScope s_Book_twin, [], [], false⟩
def w_changed : DefA := ⟨fun K => ga K "changed", "changed", "changed", defArgs s_changed, defBody s_changed, defScope s_changed, [], [], false⟩
def w__law_begin : DefA := ⟨fun K => ga K "_law_begin", "_law_begin", "_law_begin", defArgs s__law_begin, defBody s__law_begin, defScope s__law_begin, [], [], false⟩
def w__law_draw : DefA := ⟨fun K => ga K "_law_draw", "_law_draw", "_law_draw", defArgs s__law_draw, defBody s__law_draw, defScope s__law_draw, [], [], false⟩
def w__law_divisor : DefA := ⟨fun K => ga K "_law_divisor", "_law_divisor", "_law_divisor", defArgs s__law_divisor, defBody s__law_divisor, defScope s__law_divisor, [], [], false⟩
def w__law_cut : DefA := ⟨fun K => ga K "_law_cut", "_law_cut", "_law_cut", defArgs s__law_cut, defBody s__law_cut, defScope s__law_cut, [], [], false⟩
def w__law_sum : DefA := ⟨fun K => ga K "_law_sum", "_law_sum", "_law_sum", defArgs s__law_sum, defBody s__law_sum, defScope s__law_sum, [], [], false⟩
def w__law_less : DefA := ⟨fun K => ga K "_law_less", "_law_less", "_law_less", defArgs s__law_less, defBody s__law_less, defScope s__law_less, [], [], false⟩
def w__law_time : DefA := ⟨fun K => ga K "_law_time", "_law_time", "_law_time", defArgs s__law_time, defBody s__law_time, defScope s__law_time, [], [], false⟩
def w__law_is : DefA := ⟨fun K => ga K "_law_is", "_law_is", "_law_is", defArgs s__law_is, defBody s__law_is, defScope s__law_is, [], [], false⟩
def w__law_number : DefA := ⟨fun K => ga K "_law_number", "_law_number", "_law_number", defArgs s__law_number, defBody s__law_number, defScope s__law_number, [], [], false⟩
def w__law_moment : DefA := ⟨fun K => ga K "_law_moment", "_law_moment", "_law_moment", defArgs s__law_moment, defBody s__law_moment, defScope s__law_moment, [], [], false⟩
def w__law_share : DefA := ⟨fun K => ga K "_law_share", "_law_share", "_law_share", defArgs s__law_share, defBody s__law_share, defScope s__law_share, [], [], false⟩
def w__law_rules : DefA := ⟨fun K => ga K "_law_rules", "_law_rules", "_law_rules", defArgs s__law_rules, defBody s__law_rules, defScope s__law_rules, [], [], false⟩
def w__law_book : DefA := ⟨fun K => ga K "_law_book", "_law_book", "_law_book", defArgs s__law_book, defBody s__law_book, defScope s__law_book, [], [], false⟩
def w__law_reads : DefA := ⟨fun K => ga K "_law_reads", "_law_reads", "_law_reads", defArgs s__law_reads, defBody s__law_reads, defScope s__law_reads, [], [], false⟩
def w__law_first_bad : DefA := ⟨fun K => ga K "_law_first_bad", "_law_first_bad", "_law_first_bad", defArgs s__law_first_bad, defBody s__law_first_bad, defScope s__law_first_bad, [], [], false⟩
def w__law_odd : DefA := ⟨fun K => ga K "_law_odd", "_law_odd", "_law_odd", defArgs s__law_odd, defBody s__law_odd, defScope s__law_odd, [], [], false⟩
def w__law_bent : DefA := ⟨fun K => ga K "_law_bent", "_law_bent", "_law_bent", defArgs s__law_bent, defBody s__law_bent, defScope s__law_bent, [], [], false⟩
def w__law_thing : DefA := ⟨fun K => ga K "_law_thing", "_law_thing", "_law_thing", defArgs s__law_thing, defBody s__law_thing, defScope s__law_thing, [], [], false⟩
def w__law_words : DefA := ⟨fun K => ga K "_law_words", "_law_words", "_law_words", defArgs s__law_words, defBody s__law_words, defScope s__law_words, [], [], false⟩
def w__law_made : DefA := ⟨fun K => ga K "_law_made", "_law_made", "_law_made", defArgs s__law_made, defBody s__law_made, defScope s__law_made, [], [], false⟩
def w__law_due : DefA := ⟨fun K => ga K "_law_due", "_law_due", "_law_due", defArgs s__law_due, defBody s__law_due, defScope s__law_due, [], [], false⟩
def w__law_row : DefA := ⟨fun K => ga K "_law_row", "_law_row", "_law_row", defArgs s__law_row, defBody s__law_row, defScope s__law_row, [], [], false⟩
def w_law : DefA := ⟨fun K => ga K "law", "law", "law", defArgs s_law, defBody s_law, defScope s_law, [], [], false⟩
def fn1 : List DefA := [w_BadBook___init__, w_NoChange___init__, w_is_integer, w_common, w_Time___init__, w_Time_top, w_Time_bottom, w_Time___add__, w_Time___radd__, w_Time___sub__, w_Time___rsub__, w_Time___mul__, w_Time___rmul__, w_Time___neg__, w_Time___abs__, w_Time___eq__, w_Time___lt__, w_Time___le__, w_Time___gt__, w_Time___ge__, w_is_time, w_time_of, w_is_positive, w_is_latest, w_is_roof, w_is_allowed, w_checked, w_Book___init__, w_Book_change, w_Book_put_part, w_Book_sample, w_Book_share, w_Book_latest, w_Book_factor, w_Book_margin, w_Book_floor, w_Book_roof, w_Book_doubled, w_Book_kept, w_Book_twin, w_changed, w__law_begin, w__law_draw, w__law_divisor, w__law_cut, w__law_sum, w__law_less, w__law_time, w__law_is, w__law_number, w__law_moment, w__law_share, w__law_rules, w__law_book, w__law_reads, w__law_first_bad, w__law_odd, w__law_bent, w__law_thing, w__law_words, w__law_made, w__law_due, w__law_row, w_law]
def ψ1 : List (PySem.W.Frag → Bool) := [
  fun K => excCB K (ga K "ResendError"),
  fun K => excCB K (ga K "NoTime"),
  fun K => excPlainB K (ga K "NoTime"),
  fun K => excCB K (ga K "NoText"),
  fun K => excCB K (ga K "BadBook"),
  fun K => decide (PySem.W.exmOne K (.ref (ga K "BadBook")) (.ref (ga K "BadBook")) = some true),
  fun K => excIB PySem.Challenge.pw_resendtimers_k63_changes_made K (ga K "BadBook") (ma K (ga K "BadBook") "__init__"),
  fun K => funCB PySem.Challenge.pw_resendtimers_k63_changes_made K (ga K "BadBook") (ma K (ga K "BadBook") "__init__"),
  fun K => decide (PySem.W.findIn K (.ref (ga K "BadBook")) "part" = some none),
  fun K => excCB K (ga K "NoChange"),
  fun K => decide (PySem.W.exmOne K (.ref (ga K "NoChange")) (.ref (ga K "NoChange")) = some true),
  fun K => decide (PySem.W.kitOne K (.ref (ga K "NoChange")) (.ref (ga K "BadBook")) = some false),
  fun K => decide (PySem.W.kitOne K (.ref (ga K "NoChange")) (.ref (ga K "ResendError")) = some true),
  fun K => excIB PySem.Challenge.pw_resendtimers_k63_changes_made K (ga K "NoChange") (ma K (ga K "NoChange") "__init__"),
  fun K => funCB PySem.Challenge.pw_resendtimers_k63_changes_made K (ga K "NoChange") (ma K (ga K "NoChange") "__init__"),
  fun K => decide (PySem.W.findIn K (.ref (ga K "NoChange")) "at" = some none),
  fun K => isCB K "Time",
  fun K => kitCB K (ga K "Time"),
  fun K => (Fa.mkr "Time").ok K,
  fun K => (Fa.noat "Time" "over_line").ok K,
  fun K => (Fa.noat "Time" "under_line").ok K,
  fun K => decide (PySem.W.subIn K (.ref (ga K "Time")) (.type "NoneType") = some false),
  fun K => neOwnB K (ga K "Time") (ma K (ga K "Time") "__eq__"),
  fun K => absOwnB K (ga K "Time") (ma K (ga K "Time") "__abs__"),
  fun K => binOwnB K (ga K "Time") (ma K (ga K "Time") "__add__") .Add,
  fun K => noInplB K (ga K "Time") .Add,
  fun K => cmpOwnB K (ga K "Time") (ma K (ga K "Time") "__eq__") .Eq,
  fun K => cmpRefB K (ga K "Time") (ma K (ga K "Time") "__eq__") .Eq,
  fun K => binOwnB K (ga K "Time") (ma K (ga K "Time") "__floordiv__") .FloorDiv,
  fun K => cmpOwnB K (ga K "Time") (ma K (ga K "Time") "__ge__") .GtE,
  fun K => cmpRefB K (ga K "Time") (ma K (ga K "Time") "__ge__") .LtE,
  fun K => cmpOwnB K (ga K "Time") (ma K (ga K "Time") "__gt__") .Gt,
  fun K => cmpRefB K (ga K "Time") (ma K (ga K "Time") "__gt__") .Lt,
  fun K => cmpOwnB K (ga K "Time") (ma K (ga K "Time") "__le__") .LtE,
  fun K => cmpRefB K (ga K "Time") (ma K (ga K "Time") "__le__") .GtE,
  fun K => cmpOwnB K (ga K "Time") (ma K (ga K "Time") "__lt__") .Lt,
  fun K => cmpRefB K (ga K "Time") (ma K (ga K "Time") "__lt__") .Gt,
  fun K => binOwnB K (ga K "Time") (ma K (ga K "Time") "__mul__") .Mult,
  fun K => noInplB K (ga K "Time") .Mult,
  fun K => negOwnB K (ga K "Time") (ma K (ga K "Time") "__neg__"),
  fun K => binOwnB K (ga K "Time") (ma K (ga K "Time") "__pow__") .Pow,
  fun K => binRefB K (ga K "Time") (ma K (ga K "Time") "__add__") (ma K (ga K "Time") "__radd__") .Add,
  fun K => binRefB K (ga K "Time") (ma K (ga K "Time") "__floordiv__") (ma K (ga K "Time") "__rfloordiv__") .FloorDiv,
  fun K => binRefB K (ga K "Time") (ma K (ga K "Time") "__mul__") (ma K (ga K "Time") "__rmul__") .Mult,
  fun K => binRefB K (ga K "Time") (ma K (ga K "Time") "__sub__") (ma K (ga K "Time") "__rsub__") .Sub,
  fun K => binOwnB K (ga K "Time") (ma K (ga K "Time") "__sub__") .Sub,
  fun K => noInplB K (ga K "Time") .Sub,
  fun K => propB K (ga K "Time") "bottom",
  fun K => (Fa.meth "Time" "over").ok K,
  fun K => (Fa.meth "Time" "power").ok K,
  fun K => propB K (ga K "Time") "top",
  fun K => isCB K "Book",
  fun K => kitCB K (ga K "Book"),
  fun K => (Fa.mkr "Book").ok K,
  fun K => (Fa.noat "Book" "rules").ok K,
  fun K => decide (PySem.W.subIn K (.ref (ga K "Book")) (.type "NoneType") = some false),
  fun K => bMethB K (ga K "Book") "change" (ma K (ga K "Book") "change"),
  fun K => (Fa.meth "Book" "change").ok K,
  fun K => propB K (ga K "Book") "doubled",
  fun K => propB K (ga K "Book") "factor",
  fun K => propB K (ga K "Book") "floor",
  fun K => propB K (ga K "Book") "kept",
  fun K => propB K (ga K "Book") "latest",
  fun K => propB K (ga K "Book") "margin",
  fun K => (Fa.meth "Book" "put_part").ok K,
  fun K => propB K (ga K "Book") "roof",
  fun K => propB K (ga K "Book") "sample",
  fun K => propB K (ga K "Book") "share",
  fun K => (Fa.meth "Book" "twin").ok K,
  fun K => (Fa.int "MOST_FIGURES" 60).ok K,
  fun K => (Fa.str "FIGURES" "0123456789").ok K,
  fun K => (Fa.glo "is_integer").ok K,
  fun K => (Fa.glo "NoTime").ok K,
  fun K => (Fa.glo "common").ok K,
  fun K => (Fa.glo "is_time").ok K,
  fun K => (Fa.glo "time_of").ok K,
  fun K => (Fa.glo "Time").ok K,
  fun K => (Fa.int "MOST_POWER" 10000).ok K,
  fun K => (Fa.glo "raised").ok K,
  fun K => (Fa.glo "NoText").ok K,
  fun K => (Fa.glo "read_count").ok K,
  fun K => (Fa.int "MOST_LATEST" 20).ok K,
  fun K => (Fa.glo "is_positive").ok K,
  fun K => (Fa.glo "SAMPLES").ok K,
  fun K => kTupB K (ga K "SAMPLES") ["first", "last", "marked", "clean"],
  fun K => (Fa.glo "is_latest").ok K,
  fun K => (Fa.glo "is_roof").ok K,
  fun K => (Fa.glo "PARTS").ok K,
  fun K => kTupB K (ga K "PARTS") ["sample", "share", "latest", "factor", "margin", "floor", "roof", "doubled", "kept"],
  fun K => (Fa.glo "is_allowed").ok K,
  fun K => (Fa.glo "BadBook").ok K,
  fun K => (Fa.glo "greater").ok K,
  fun K => (Fa.glo "lesser").ok K,
  fun K => (Fa.glo "checked").ok K,
  fun K => (Fa.glo "word_of").ok K,
  fun K => (Fa.glo "Book").ok K,
  fun K => (Fa.glo "bends").ok K,
  fun K => (Fa.glo "made_of").ok K,
  fun K => (Fa.glo "last_rise").ok K,
  fun K => (Fa.glo "part_of").ok K,
  fun K => (Fa.glo "NoChange").ok K,
  fun K => (Fa.glo "_law_divisor").ok K,
  fun K => (Fa.glo "_law_cut").ok K,
  fun K => (Fa.glo "_law_draw").ok K,
  fun K => (Fa.glo "_law_share").ok K,
  fun K => (Fa.glo "_law_moment").ok K,
  fun K => (Fa.glo "_law_sum").ok K,
  fun K => (Fa.glo "_law_time").ok K,
  fun K => (Fa.glo "_law_is").ok K,
  fun K => (Fa.glo "_law_number").ok K,
  fun K => (Fa.glo "_law_less").ok K,
  fun K => (Fa.glo "_law_odd").ok K,
  fun K => (Fa.glo "changed").ok K,
  fun K => (Fa.glo "ResendError").ok K,
  fun K => (Fa.glo "_law_first_bad").ok K,
  fun K => (Fa.glo "_law_words").ok K,
  fun K => (Fa.glo "_law_thing").ok K,
  fun K => (Fa.glo "_law_begin").ok K,
  fun K => (Fa.glo "_law_rules").ok K,
  fun K => (Fa.glo "_law_book").ok K,
  fun K => (Fa.glo "_law_bent").ok K,
  fun K => (Fa.glo "_law_row").ok K,
  fun K => (Fa.glo "_law_due").ok K,
  fun K => (Fa.glo "_law_made").ok K,
  fun K => (Fa.glo "_law_reads").ok K,
  fun K => (Fa.glo "law").ok K,
  fun K => (Fa.free "isinstance").ok K,
  fun K => (Fa.free "int").ok K,
  fun K => (Fa.free "bool").ok K,
  fun K => (Fa.free "abs").ok K,
  fun K => (Fa.free "len").ok K,
  fun K => (Fa.free "str").ok K,
  fun K => (Fa.free "NotImplemented").ok K,
  fun K => (Fa.free "dict").ok K,
  fun K => (Fa.free "range").ok K,
  fun K => (Fa.free "all").ok K,
  fun K => (Fa.free "zip").ok K,
  fun K => (Fa.free "enumerate").ok K,
  fun K => (Fa.free "list").ok K,
  fun K => (Fa.free "repr").ok K,
  fun K => (Fa.free "super").ok K]
def fn : List DefA := fn1
def ψ : List (PySem.W.Frag → Bool) := ψ1
abbrev R : PySem.W.OpenRow := PySem.W.OpenLaw.row PySem.Challenge.rw_resendtimers_k63_changes_made
def loose : List Str := [("_wall" : Str), ("__name__" : Str), ("ResendError" : Str), ("NoTime" : Str), ("NoText" : Str), ("BadBook" : Str), ("NoChange" : Str), ("MOST_FIGURES" : Str), ("MOST_POWER" : Str), ("FIGURES" : Str), ("is_integer" : Str), ("common" : Str), ("raised" : Str), ("read_count" : Str), ("Time" : Str), ("is_time" : Str), ("time_of" : Str), ("lesser" : Str), ("greater" : Str), ("PARTS" : Str), ("SAMPLES" : Str), ("MOST_LATEST" : Str), ("is_positive" : Str), ("is_latest" : Str), ("is_roof" : Str), ("is_allowed" : Str), ("checked" : Str), ("word_of" : Str), ("part_of" : Str), ("made_of" : Str), ("bends" : Str), ("last_rise" : Str), ("Book" : Str), ("changed" : Str), ("_law_begin" : Str), ("_law_draw" : Str), ("_law_divisor" : Str), ("_law_cut" : Str), ("_law_sum" : Str), ("_law_less" : Str), ("_law_time" : Str), ("_law_is" : Str), ("_law_number" : Str), ("_law_moment" : Str), ("_law_share" : Str), ("_law_rules" : Str), ("_law_book" : Str), ("_law_reads" : Str), ("_law_first_bad" : Str), ("_law_odd" : Str), ("_law_bent" : Str), ("_law_thing" : Str), ("_law_words" : Str), ("_law_made" : Str), ("_law_due" : Str), ("_law_row" : Str)]
theorem run1 (w : World) : HandSHeadRun.RunEq R (PySem.W.view R.prog [60]) (hookX 6 ψ1 fn1) (obX 6 ψ1 fn1) 8000 loose w := by
  intro os
  kernel_rfl
theorem run (w : World) : HandSHeadRun.RunEq R (PySem.W.view R.prog [60]) (hookX 6 ψ fn) (obX 6 ψ fn) 8000 loose w := run1 w

end
end Rt
/-! A walk straight over the text: each construct by its rule, the values typed by facts about them. -/
namespace Rs
open PySem PySem.Spec PyProof.Rows L2

/-! ### the text itself as its own reading -/
section
variable {X : Cx}
def WE (X : Cx) (e : Expr) : TE := fun σ H Q => ∀ pins s, Inv X pins σ H s → wpAny (model X.prog X.w) X.A (eval e X.env) (EP X pins σ Q) X.xe s
def WT (X : Cx) (e : Expr) : TT := fun σ H Q => ∀ pins s, Inv X pins σ H s → wpAny (model X.prog X.w) X.A (isTrue e X.env (eval e X.env)) (TP X pins σ Q) X.xe s
def WW (X : Cx) (e : Expr) : TT := fun σ H Q => ∀ whole pins s, Inv X pins σ H s → wpAny (model X.prog X.w) X.A (isTrue e X.env whole) (TP X pins σ Q) X.xe s
def WA (X : Cx) (es : List Expr) : TA := fun σ H Q => ∀ pos pins s, Inv X pins σ H s → wpAny (model X.prog X.w) X.A (spliced (backTo pos (starEach es X.env))) (AP X pins σ Q) X.xe s
def WS (X : Cx) (st : Stmt) : TS := fun D σ H => ∀ pins s, Inv X pins σ H s → wpAny (model X.prog X.w) X.A (exec st X.env) (SP X pins D) X.xe s
def WB (X : Cx) (st : List Stmt) : TS := fun D σ H => ∀ pins s, Inv X pins σ H s → wpAny (model X.prog X.w) X.A (execs st X.env) (SP X pins D) X.xe s
theorem peS {e : Expr} : PE X e (WE X e) := ⟨fun pins s _ _ _ I h => h pins s I⟩
theorem ptS {e : Expr} : PT X e (WT X e) := ⟨fun pins s _ _ _ I h => h pins s I⟩
theorem pwS {e : Expr} : PW X e (WW X e) := ⟨fun whole pins s _ _ _ I h => h whole pins s I⟩
theorem paS {es : List Expr} : PA X es (WA X es) := ⟨fun pos pins s _ _ _ I h => h pos pins s I⟩
theorem psS {st : Stmt} : PS X st (WS X st) := ⟨fun pins s _ _ _ I h => h pins s I⟩
theorem pbS {st : List Stmt} : PSs X st (WB X st) := ⟨fun pins s _ _ _ I h => h pins s I⟩
variable {σ : L2.St} {H : Hp} {D : Ends} {Q : VK} {QT : Bool → Hp → Prop} {QA : List V → Hp → Prop}
theorem weP {e : Expr} {t : TE} (p : PE X e t) (h : t σ H Q) : WE X e σ H Q := fun pins s I => p.run pins s σ H Q I h
theorem wtP {e : Expr} {t : TT} (p : PT X e t) (h : t σ H QT) : WT X e σ H QT := fun pins s I => p.run pins s σ H QT I h
theorem wwP {e : Expr} {t : TT} (p : PW X e t) (h : t σ H QT) : WW X e σ H QT := fun whole pins s I => p.run whole pins s σ H QT I h
theorem waP {es : List Expr} {t : TA} (p : PA X es t) (h : t σ H QA) : WA X es σ H QA := fun pos pins s I => p.run pos pins s σ H QA I h
theorem wsP {st : Stmt} {t : TS} (p : PS X st t) (h : t D σ H) : WS X st D σ H := fun pins s I => p.run pins s σ H D I h
theorem wbP {st : List Stmt} {t : TS} (p : PSs X st t) (h : t D σ H) : WB X st D σ H := fun pins s I => p.run pins s σ H D I h

/-! ### names -/
/-- slot i of the running body is the name x, its own -/
structure Sl (X : Cx) (i : Nat) (x : Str) : Prop where
  at_ : X.N[i]? = some x
  nd : X.N.Nodup
  loc : Loc X.env.scope x
  fn : X.fn x = true ∨ X.env.scope.names.lookup x = some .local
  d1 : (x == ("__debug__" : Str)) = false
  d2 : (x == ("__classdict__" : Str)) = false
/-- x is a name of the module or a built-in one here -/
structure Gn (X : Cx) (x : Str) : Prop where
  gl : Gl X x
  d1 : (x == ("__debug__" : Str)) = false
/-- .. and a built-in one -/
structure Bn (X : Cx) (x : Str) : Prop where
  gl : Gl X x
  no : X.mg x = none
theorem we_name {i : Nat} {x : Str} {v : V} {pos : Pos} (n : Sl X i x) (h : σ[i]? = some (some v)) (q : Q v H) : WE X (.Name x pos) σ H Q :=
  weP (pe_var n.at_ (n.loc.elim .inl fun z => .inr (.inl z)) n.d1 n.d2) ⟨v, h, q⟩
theorem we_int {i : Int} {j : Nat} {pos : Pos} (q : Q (.int i) H) : WE X (.Constant (.int i) j pos) σ H Q := weP pe_int q
theorem we_str {x : Str} {j : Nat} {pos : Pos} (q : Q (.str x) H) : WE X (.Constant (.str x) j pos) σ H Q := weP pe_str q
theorem we_bool {b : Bool} {j : Nat} {pos : Pos} (q : Q (.bl b) H) : WE X (.Constant (.bool b) j pos) σ H Q := weP pe_bl q
theorem we_none {j : Nat} {pos : Pos} (q : Q .non H) : WE X (.Constant .none j pos) σ H Q := weP pe_non q
/-- a module's constant -/
theorem we_glob {x : Str} {v : V} {u : Value} {pos : Pos} (g : Gn X x) (hm : X.mg x = some u) (r : RelV v u) (q : Q v H) : WE X (.Name x pos) σ H Q := weP (pe_glob g.gl hm r g.d1) q

/-! ### operators: what the value of one is, by the values of its sides -/
def Op2 (X : Cx) (f : Value → Value → Sem Value) (x y : V) (H : Hp) (Q : VK) : Prop := ∀ pins s σ u v, Inv X pins σ H s → RelV x u → RelV y v → wpAny (model X.prog X.w) X.A (f u v) (EP X pins σ Q) X.xe s
def Op1 (X : Cx) (f : Value → Sem Value) (x : V) (H : Hp) (Q : VK) : Prop := ∀ pins s σ u, Inv X pins σ H s → RelV x u → wpAny (model X.prog X.w) X.A (f u) (EP X pins σ Q) X.xe s
def CallV (X : Cx) (f : Value) (xs : List V) (H : Hp) (Q : VK) : Prop := ∀ pins s σ us, Inv X pins σ H s → Vals xs us → wpAny (model X.prog X.w) X.A (call f us) (EP X pins σ Q) X.xe s
theorem op2R {f : Value → Value → Sem Value} : OpR X f (Op2 X f) := fun pins s σ _ _ _ u v _ I rx ry h => h pins s σ u v I rx ry
theorem op2_of {f : Value → Value → Sem Value} {r : R2} {x y : V} (o : OpR X f r) (h : r x y H Q) : Op2 X f x y H Q := fun pins s σ u v I rx ry => o pins s σ H x y u v Q I rx ry h
theorem op1R {f : Value → Sem Value} : UnR X f (Op1 X f) := fun pins s σ _ _ u _ I rx h => h pins s σ u I rx
theorem op1_of {f : Value → Sem Value} {r : V → Hp → VK → Prop} {x : V} (o : UnR X f r) (h : r x H Q) : Op1 X f x H Q := fun pins s σ u I rx => o pins s σ H x u Q I rx h
theorem we_bin {op : Operator} {a b : Expr} {pos : Pos} (h : WE X a σ H fun x H1 => WE X b σ H1 fun y H2 => Op2 X (binaryOp op) x y H2 Q) : WE X (.BinOp a op b pos) σ H Q := weP (pe_op op2R peS peS) h
theorem we_un {op : UnaryOp} {a : Expr} {pos : Pos} (h : WE X a σ H fun x H1 => Op1 X (unaryOp op) x H1 Q) : WE X (.UnaryOp op a pos) σ H Q := weP (pe_un op1R peS) h
theorem we_cmp {op : CmpOp} {a b : Expr} {pos : Pos} (h : WE X a σ H fun x H1 => WE X b σ H1 fun y H2 => Op2 X (compareOp op) x y H2 Q) (hm : behindInMarks op b = false := by first | exact nomark _ | rfl) : WE X (.Compare a [op] [b] pos) σ H Q :=
  weP (pe_cmpR op2R peS peS hm) h
theorem wt_cmp {op : CmpOp} {a b : Expr} {pos : Pos} (h : WE X a σ H fun x H1 => WE X b σ H1 fun y H2 => Op2 X (compareOp op) x y H2 fun z H3 => ∃ k, z = .bl k ∧ QT k H3) (hm : behindInMarks op b = false := by first | exact nomark _ | rfl) :
    WT X (.Compare a [op] [b] pos) σ H QT := wtP (pt_cmpR op2R peS peS hm) h
theorem we_chain {op op' : CmpOp} {a b c : Expr} {pos : Pos} (h : WE X a σ H fun x H1 => WE X b σ H1 fun y H2 => Op2 X (compareOp op) x y H2 fun z H3 => ∃ k, z = .bl k ∧ if k = true then WE X c σ H3 fun w H4 => Op2 X (compareOp op') y w H4 Q else Q (.bl false) H3)
    (h1 : lastMarks [op, op'] [b, c] = false := by rfl) : WE X (.Compare a [op, op'] [b, c] pos) σ H Q := weP (pe_chain op2R op2R peS peS peS h1) h
theorem wt_chain {op op' : CmpOp} {a b c : Expr} {pos : Pos} (h : WE X a σ H fun x H1 => WE X b σ H1 fun y H2 => Op2 X (compareOp op) x y H2 fun z H3 => ∃ k, z = .bl k ∧ if k = true then WE X c σ H3 fun w H4 => Op2 X (compareOp op') y w H4 fun z2 H5 => ∃ k, z2 = .bl k ∧ QT k H5 else ∃ k2, V.bl false = .bl k2 ∧ QT k2 H3)
    (h1 : lastMarks [op, op'] [b, c] = false := by rfl) : WT X (.Compare a [op, op'] [b, c] pos) σ H QT := wtP (pt_chain op2R op2R peS peS peS h1) h

/-! ### tests -/
theorem wt_and2 {a b : Expr} {pos : Pos} (h : WT X a σ H fun k H1 => if k = true then WT X b σ H1 QT else QT false H1) : WT X (.BoolOp .And [a, b] pos) σ H QT := wtP (PW.pt (pw_and ptS (pw_and1 ptS))) h
theorem wt_and3 {a b c : Expr} {pos : Pos} (h : WT X a σ H fun k H1 => if k = true then WT X b σ H1 fun k2 H2 => if k2 = true then WT X c σ H2 QT else QT false H2 else QT false H1) : WT X (.BoolOp .And [a, b, c] pos) σ H QT :=
  wtP (PW.pt (pw_and ptS (pw_and ptS (pw_and1 ptS)))) h
theorem wt_or2 {a b : Expr} {pos : Pos} (h : WT X a σ H fun k H1 => if k = true then QT true H1 else WT X b σ H1 QT) : WT X (.BoolOp .Or [a, b] pos) σ H QT := wtP (PW.pt (pw_or ptS (pw_or1 ptS))) h
theorem wt_or3 {a b c : Expr} {pos : Pos} (h : WT X a σ H fun k H1 => if k = true then QT true H1 else WT X b σ H1 fun k2 H2 => if k2 = true then QT true H2 else WT X c σ H2 QT) : WT X (.BoolOp .Or [a, b, c] pos) σ H QT :=
  wtP (PW.pt (pw_or ptS (pw_or ptS (pw_or1 ptS)))) h
theorem wt_or4 {a b c d : Expr} {pos : Pos} (h : WT X a σ H fun k H1 => if k = true then QT true H1 else WT X b σ H1 fun k2 H2 => if k2 = true then QT true H2 else WT X c σ H2 fun k3 H3 => if k3 = true then QT true H3 else WT X d σ H3 QT) :
    WT X (.BoolOp .Or [a, b, c, d] pos) σ H QT := wtP (PW.pt (pw_or ptS (pw_or ptS (pw_or ptS (pw_or1 ptS))))) h
theorem wt_not {a : Expr} {pos : Pos} (h : WT X a σ H fun k H1 => QT (!k) H1) : WT X (.UnaryOp .Not a pos) σ H QT := wtP (pt_not ptS) h
/-- a test that is a value's truth, the value True or False -/
theorem wt_val {e : Expr} (h : WE X e σ H fun v H1 => ∃ k, v = .bl k ∧ QT k H1) (he : ∀ whole, isTrue e X.env whole = (do let v ← whole; standAt e.pos; holding [v] (truthy v)) := by intro _; rfl) : WT X e σ H QT := wtP (pt_val peS he) h
/-- .. any value -/
theorem wt_truth {e : Expr} (h : WE X e σ H fun v H1 => ∃ k, TruV X.K v H1 k ∧ QT k H1) (he : ∀ whole, isTrue e X.env whole = (do let v ← whole; standAt e.pos; holding [v] (truthy v)) := by intro _; rfl) : WT X e σ H QT := wtP (pt_truth peS he) h
theorem we_and2 {a b : Expr} {pos : Pos} (h : WE X a σ H fun x H1 => ∃ c, x = .bl c ∧ if c = true then WE X b σ H1 Q else Q (.bl false) H1) : WE X (.BoolOp .And [a, b] pos) σ H Q := weP (pe_and peS (pe_one peS)) h
theorem we_and3 {a b c : Expr} {pos : Pos} (h : WE X a σ H fun x H1 => ∃ k, x = .bl k ∧ if k = true then WE X b σ H1 fun y H2 => ∃ k2, y = .bl k2 ∧ if k2 = true then WE X c σ H2 Q else Q (.bl false) H2 else Q (.bl false) H1) :
    WE X (.BoolOp .And [a, b, c] pos) σ H Q := weP (pe_and peS (pe_and peS (pe_one peS))) h
theorem we_or2 {a b : Expr} {pos : Pos} (h : WE X a σ H fun x H1 => ∃ c, x = .bl c ∧ if c = true then Q (.bl true) H1 else WE X b σ H1 Q) : WE X (.BoolOp .Or [a, b] pos) σ H Q := weP (pe_or peS (pe_one peS)) h
theorem we_not {a : Expr} {pos : Pos} (h : WE X a σ H fun x H1 => ∃ c, x = .bl c ∧ Q (.bl (!c)) H1) : WE X (.UnaryOp .Not a pos) σ H Q := weP (pe_not peS) h
theorem we_if {c a b : Expr} {pos : Pos} (h : WT X c σ H fun k H1 => if k = true then WE X a σ H1 Q else WE X b σ H1 Q) : WE X (.IfExp c a b pos) σ H Q := weP (pe_ifExp ptS peS peS) h

/-! ### arguments, tuples, lists -/
theorem wa_nil (q : QA [] H) : WA X [] σ H QA := waP pa_nil q
theorem wa_cons {e : Expr} {es : List Expr} (h : WE X e σ H fun x H1 => WA X es σ H1 fun xs H2 => QA (x :: xs) H2) (hs : starEach (e :: es) X.env = (false, eval e X.env) :: starEach es X.env := by rfl) : WA X (e :: es) σ H QA := waP (pa_cons peS paS hs) h

/-! ### statements -/
theorem wb_nil (h : D.nx σ H) : WB X [] D σ H := wbP pss_nil h
theorem wb_cons {st : Stmt} {rest : List Stmt} (h : WS X st { D with nx := fun σ' H' => WB X rest D σ' H' } σ H) : WB X (st :: rest) D σ H := wbP (pss_cons psS pbS) h
theorem wb_one {st : Stmt} (h : WS X st D σ H) : WB X [st] D σ H := wbP (pss_one psS) h
theorem ws_pass {pos : Pos} (h : D.nx σ H) : WS X (.Pass pos) D σ H := wsP ps_pass h
theorem ws_break {pos : Pos} (h : D.bk σ H) : WS X (.Break pos) D σ H := wsP ps_break h
theorem ws_continue {pos : Pos} (h : D.ct σ H) : WS X (.Continue pos) D σ H := wsP ps_continue h
theorem ws_set {i : Nat} {x : Str} {e : Expr} {pos pos' : Pos} (n : Sl X i x) (h : WE X e σ H fun v H1 => D.nx (σ.set i (some v)) H1) (hs : swapsWith e (some (.Name x pos')) pos.line X.env = pure false := by rfl) : WS X (.Assign [.Name x pos'] e pos) D σ H :=
  wsP (ps_set n.nd n.at_ n.loc peS hs n.fn) h
theorem ws_ret {e : Expr} {pos : Pos} (h : WE X e σ H D.rt) : WS X (.Return (some e) pos) D σ H := wsP (ps_ret peS) h
theorem ws_retN {pos : Pos} (h : D.rt .non H) : WS X (.Return none pos) D σ H := wsP ps_retN h
theorem ws_if {c : Expr} {a b : List Stmt} {pos : Pos} (h : WT X c σ H fun k H1 => if k = true then WB X a D σ H1 else WB X b D σ H1) : WS X (.If c a b pos) D σ H := wsP (ps_if ptS pbS pbS) h
theorem ws_expr {e : Expr} {pos : Pos} (h : WE X e σ H fun _ H1 => D.nx σ H1) (hs : swapsWith e none pos.line X.env = pure false := by rfl) : WS X (.Expr e pos) D σ H := wsP (ps_expr peS hs) h
theorem ws_while {c : Expr} {body : List Stmt} {pos : Pos} (hp : PassesOwn (model X.prog X.w) X.A X.env X.xe) (h : tWhile (WT X c) (WB X body) D σ H) : WS X (.While c body [] pos) D σ H := wsP (ps_while hp ptS pbS) h
theorem ws_never {st : Stmt} (h : False) : WS X st D σ H := h.elim

/-! ### what runs around a body -/
theorem Body.pass {k : Nat} {E : XK} (B : Body X k fun _ => E) : Passes (RX X.prog X.w) X E := L2N.passes_call B.tk fun _ _ _ _ h => h
/-- what may leave a call whose exceptions are taken at these slots -/
theorem out_at {CX : CXT} {E : XK} {pins : List (Addr × Obj)} {s : Shared} (hx : PassesAt CX X σ E) (I : Inv X pins σ H s) : ∀ (o : Result) (t : Shared), CR CX X.stack X.prog X.w H s Q E o t → (match o with | .ok (.ret v) => EP X pins σ Q v t | .ok _ => False | .error e => X.xe e t)
  | .ok (.ret _), _, q => I.after q
  | .ok .next, _, q => q
  | .ok .brk, _, q => q
  | .ok .cont, _, q => q
  | .error _, _, q => hx _ _ _ _ _ I q
theorem go_at {CX : CXT} {k : Nat} {f : Addr} {sp : Sp} {E : XK} {pins : List (Addr × Obj)} {s : Shared} {us : List Value} {vs : List V} (F : FnR X.prog X.w X.K X.mg X.base CX k f sp) (hr : Room k X.A) (hx : PassesAt CX X σ E) (I : Inv X pins σ H s) (r : Vals vs us) (h : sp vs H Q E) :
    wpAny (model X.prog X.w) X.A (call (.ref f) us) (EP X pins σ Q) X.xe s := wpAny_call (codeAny_mono (F _ _ s H us vs Q E hr I.env0 r h) (out_at hx I))
theorem make_at {CX : CXT} {k : Nat} {C f : Addr} {fd : FuncData} {ps : List Str} {ds : List Value} {dvs : List V} {sp : Sp} {E : XK} {pins : List (Addr × Obj)} {s : Shared} {us : List Value} {vs : List V} (M : Mk X.K C f) (F : FnOk X.prog X.w X.K X.mg X.base CX k f fd ps sp) (hr : Room (k + 1) X.A) (hb : Binds X.K fd ps ds) (hd : Vals dvs ds)
    (hx : PassesAt CX X σ E) (I : Inv X pins σ H s) (r : Vals vs us) (h : ∀ a dx, H a = none → H dx = none → dx ≠ a → sp (.ref a :: (vs ++ dvs)) (upd (upd H dx (.own a)) a (.ins C dx [])) (fun v H2 => v = .non ∧ Q (.ref a) H2) E) :
    wpAny (model X.prog X.w) X.A (call (.ref C) us) (EP X pins σ Q) X.xe s := by
  have J := Inv.made (C := C) I
  have hq := h (s.heap.objs.size + 1) s.heap.objs.size (I.hok.fresh (Nat.le_succ _)) (I.hok.fresh (Nat.le_refl _)) (Nat.ne_of_lt (Nat.lt_succ_self _))
  have rr : Vals (V.ref (s.heap.objs.size + 1) :: (vs ++ dvs)) (Value.ref (s.heap.objs.size + 1) :: (us ++ ds)) := .cons rfl (r.append hd)
  have bd := hb _ (Value.ref (s.heap.objs.size + 1) :: us) J.kIn ((F.len _ _ _ _ hq).symm.trans rr.length).symm
  have run := F.run _ X.stack _ _ ⟨Value.ref (s.heap.objs.size + 1) :: us, []⟩ _ _ _ E (hr.make C us []) (J.env0.make C us []) bd rr hq
  refine wpAny_call (make_map (f := f) I.kIn M.makes M.init (beq_iff_eq.mp M.fn) (codeAny_mono run fun o t q => ?_))
  have z := out_at hx J o t q
  cases o with
  | error e => exact z
  | ok fl =>
    cases fl with
    | ret u =>
      obtain ⟨v, H', I3, rv, rfl, q3⟩ := z
      exact ⟨rv, ⟨V.ref (s.heap.objs.size + 1), H', I3, rfl, q3⟩⟩
    | next => exact z.elim
    | brk => exact z.elim
    | cont => exact z.elim
/-- a def of the module -/
def GFn (P : Program) (w : World) (K : PySem.W.Frag) (mg : Str → Option Value) (base : Heap) (k : Nat) (x : Str) (sp : Sp) : Prop :=
  ∃ f, mg x = some (.ref f) ∧ PySem.W.keepIn K (.ref f) = true ∧ FnR P w K mg base (RX P w) k f sp
abbrev Fn (X : Cx) : Nat → Str → Sp → Prop := GFn X.prog X.w X.K X.mg X.base
/-- a class of the module, made by its __init__; dvs: the defaults that fill up -/
def GMk (P : Program) (w : World) (K : PySem.W.Frag) (mg : Str → Option Value) (base : Heap) (k : Nat) (x : Str) (C : Addr) (sp : Sp) (dvs : List V) : Prop :=
  ∃ f fd ps ds, mg x = some (.ref C) ∧ Mk K C f ∧ FnOk P w K mg base (RX P w) k f fd ps sp ∧ Binds K fd ps ds ∧ Vals dvs ds
abbrev Kl (X : Cx) : Nat → Str → Addr → Sp → List V → Prop := GMk X.prog X.w X.K X.mg X.base
/-- a method -/
def GMe (P : Program) (w : World) (K : PySem.W.Frag) (mg : Str → Option Value) (base : Heap) (k : Nat) (C : Addr) (m : Str) (sp : Sp) : Prop :=
  ∃ f, Meth K C m f ∧ FnR P w K mg base (RX P w) k f sp
abbrev Me (X : Cx) : Nat → Addr → Str → Sp → Prop := GMe X.prog X.w X.K X.mg X.base
section
variable {k j : Nat} {E : L2.St → XK} {x m : Str} {sp : Sp} {p pos apos : Pos} {e o : Expr} {es : List Expr} {C : Addr}
theorem we_call (B : Body X k E) (g : Gn X x) (f : Fn X j x sp) (hj : j ≤ k) (h : WA X (e :: es) σ H fun vs H1 => sp vs H1 Q (E σ))
    (hs : starEach (e :: es) X.env = (false, eval e X.env) :: starEach es X.env := by rfl) (hl : (backTo pos (starEach es X.env)).any (·.1) = false := by rfl) : WE X (.Call (.Name x p) (e :: es) [] pos) σ H Q := by
  obtain ⟨a, hm, hk, F⟩ := f
  intro pins s I
  refine wpAny_Call_Name_kw (ld_glob I g.gl hm ?_ g.d1)
  refine PySem.W.callWith_K (h₀ := X.base) I.ok.mod.kin hk (thn (h pos pins s I) fun us s1 z => ?_) hs hl
  obtain ⟨vs, H1, I1, r, q⟩ := z
  exact ⟨I1.kIn, go_at F (B.room.mono hj) (B.at σ) I1 r q⟩
theorem we_call0 (B : Body X k E) (g : Gn X x) (f : Fn X j x sp) (hj : j ≤ k) (h : sp [] H Q (E σ)) : WE X (.Call (.Name x p) [] [] pos) σ H Q := by
  obtain ⟨a, hm, hk, F⟩ := f
  intro pins s I
  refine wpAny_Call_Name_kw (ld_glob I g.gl hm ?_ g.d1)
  exact PySem.W.callWith_K0 I.kIn hk (go_at (us := []) F (B.room.mono hj) (B.at σ) I .nil h)
/-- what runs when an own def is called by a built-in way (an operator, a property) -/
theorem run_own {E : XK} {f : Addr} {pins : List (Addr × Obj)} {s : Shared} {vs : List V} {us : List Value} (B : Body X k fun _ => E) (F : FnR X.prog X.w X.K X.mg X.base (RX X.prog X.w) j f sp) (hj : j ≤ k) (I : Inv X pins σ H s) (r : Vals vs us) (h : sp vs H Q E) :
    wpAny (model X.prog X.w) X.A (call (.ref f) us) (EP X pins σ Q) X.xe s := wpAny_call (run_fnR F (B.room.mono hj) B.pass I r h)
theorem we_make {dvs : List V} (B : Body X k E) (g : Gn X x) (f : Kl X j x C sp dvs) (hj : j + 1 ≤ k) (h : WA X (e :: es) σ H fun vs H1 => ∀ a dx, H1 a = none → H1 dx = none → dx ≠ a →
      sp (.ref a :: (vs ++ dvs)) (upd (upd H1 dx (.own a)) a (.ins C dx [])) (fun v H2 => v = .non ∧ Q (.ref a) H2) (E σ))
    (hs : starEach (e :: es) X.env = (false, eval e X.env) :: starEach es X.env := by rfl) (hl : (backTo pos (starEach es X.env)).any (·.1) = false := by rfl) : WE X (.Call (.Name x p) (e :: es) [] pos) σ H Q := by
  obtain ⟨fi, fd, ps, ds, hm, M, F, hb, hd⟩ := f
  intro pins s I
  refine wpAny_Call_Name_kw (ld_glob I g.gl hm ?_ g.d1)
  refine PySem.W.callWith_K (h₀ := X.base) I.ok.mod.kin M.kp (thn (h pos pins s I) fun us s1 z => ?_) hs hl
  obtain ⟨vs, H1, I1, r, q⟩ := z
  exact ⟨I1.kIn, make_at M F (B.room.mono hj) hb hd (B.at σ) I1 r q⟩
theorem we_meth {pl : Sem Bool} (B : Body X k E) (c : Cls X.K C) (f : Me X j C m sp) (hj : j ≤ k)
    (h : WE X o σ H fun y H1 => ∃ a dx fs, y = .ref a ∧ H1 a = some (.ins C dx fs) ∧ fs.lookup m = none ∧ WA X (e :: es) σ H1 fun vs H2 => sp (.ref a :: vs) H2 Q (E σ))
    (hs : starEach (e :: es) X.env = (false, eval e X.env) :: starEach es X.env := by rfl) (hl : (backTo pos (starEach es X.env)).any (·.1) = false := by rfl)
    (ht : eval (.Call (.Attribute o m apos) (e :: es) [] pos) X.env = (do
      let it ← eval o X.env
      standAt apos.atName
      let (g, first) ← holding [it] (getMethod it m pl)
      callWith pos g first (backTo pos (starEach (e :: es) X.env)) (backToKw pos (keywordEach [] X.env))) := by rfl) : WE X (.Call (.Attribute o m apos) (e :: es) [] pos) σ H Q := by
  obtain ⟨g, hm, F⟩ := f
  intro pins s I
  refine PySem.W.methodCall_KW (pl := pl) (thn (h pins s I) fun u s1 z => ?_) ht
  obtain ⟨y, H1, I1, ry, a, dx, fs, rfl, e1, l, q⟩ := z
  cases ry
  refine getmeth_ok I1 e1 c hm l ?_
  refine PySem.W.callWith_K (first := [.ref a]) (h₀ := X.base) I.ok.mod.kin hm.kp (thn (q pos pins s1 I1) fun us s2 z => ?_) hs hl
  obtain ⟨vs, H2, I2, r, q2⟩ := z
  exact ⟨I2.kIn, go_at (us := .ref a :: us) (vs := .ref a :: vs) F (B.room.mono hj) (B.at σ) I2 (.cons rfl r) q2⟩
end
end
end Rs

namespace Rs
open PySem PySem.Spec PyProof.Rows L2

/-! ### what stays: all objects but the law's source of draws, which stays a source -/
theorem Good.mono {H H' : Hp} {o : HO} (x : Ex H H') (g : Good H o) : Good H' o := by
  rcases g with g | ⟨l, C, dx, fs, rest, e, h⟩
  · exact .inl g
  · exact .inr ⟨l, C, dx, fs, rest, e, x.keep _ _ h not_src_ins⟩
theorem Ex.refl (H : Hp) : Ex H H := ⟨fun _ _ h _ => h, fun _ _ o h s => ⟨o, h, s⟩⟩
theorem Ex.trans {H H1 H2 : Hp} (x : Ex H H1) (y : Ex H1 H2) : Ex H H2 := ⟨fun a o h g => y.kp a o (x.kp a o h g) (g.mono x), fun a l o h s => by
  obtain ⟨o1, h1, s1⟩ := x.src a l o h s
  exact y.src a l o1 h1 s1⟩
theorem Ex.new {H : Hp} {p : Addr} {o : HO} (hp : H p = none) : Ex H (upd H p o) :=
  ⟨fun a u h _ => (upd_ne (ne_of_none h hp)).trans h, fun a l u h s => ⟨u, (upd_ne (ne_of_none h hp)).trans h, s⟩⟩
/-- an object that H does not know is stored to -/
theorem Ex.put {H H' : Hp} {p : Addr} {o : HO} (x : Ex H H') (hp : H p = none) : Ex H (upd H' p o) :=
  ⟨fun a u h g => (upd_ne (ne_of_none h hp)).trans (x.kp a u h g), fun a l u h s => by
    obtain ⟨o1, h1, s1⟩ := x.src a l u h s
    exact ⟨o1, (upd_ne (ne_of_none h hp)).trans h1, s1⟩⟩
theorem Ex.new2 {H : Hp} {p dx : Addr} {o u : HO} (hp : H p = none) (hd : H dx = none) : Ex H (upd (upd H dx u) p o) := (Ex.new hd).put hp
theorem Ex.made {H : Hp} {p dx : Addr} {o u z : HO} (hp : H p = none) (hd : H dx = none) : Ex H (upd (upd (upd H dx u) p o) p z) := (Ex.new2 hp hd).put hp
theorem Ex.src' {H : Hp} {a l : Addr} {o o' : HO} (hl : ∀ C dx fs, H l ≠ some (.ins C dx fs)) (h : H a = some o) (s : SrcL l o) (s' : SrcL l o') : Ex H (upd H a o') := by
  refine ⟨fun b u hb n => ?_, fun b m u hb t => ?_⟩
  · by_cases e : b = a
    · subst e
      rw [h] at hb
      cases hb
      rcases n with n | ⟨l2, C, dx, fs, rest, e2, h2⟩
      · exact absurd ⟨l, s⟩ n
      · obtain ⟨i, c, r, e1, _⟩ := s
        have e3 := e1.symm.trans e2
        injection e3 with e4
        injection e4 with e5
        injection e5 with e6
        subst e6
        exact absurd h2 (hl _ _ _)
    · exact (upd_ne e).trans hb
  · by_cases e : b = a
    · subst e
      rw [h] at hb
      cases hb
      refine ⟨o', upd_same, ?_⟩
      obtain ⟨i, c, r, e1, _⟩ := s
      obtain ⟨i2, c2, r2, e2, _⟩ := t
      have e3 := e1.symm.trans e2
      injection e3 with e4
      injection e4 with e5
      injection e5 with e6
      subst e6
      exact s'
    · exact ⟨u, (upd_ne e).trans hb, t⟩
theorem not_src_own {a : Addr} : ¬ Src (.own a) := by
  rintro ⟨l, i, b, r, e, _⟩
  cases e
theorem not_src_ints {ns : List Int} : ¬ Src (.lst (ns.map V.int)) := by
  rintro ⟨l, i, b, r, e, _⟩
  cases ns with
  | nil => cases e
  | cons n ns =>
    injection e with e
    injection e with e1 _
    cases e1
theorem Ret.now {H : Hp} {R : V → Hp → Prop} {Q : VK} {v : V} (k : Ret H R Q) (r : R v H) : Q v H := k v H (Ex.refl H) r
theorem Ret.mono {H H' : Hp} {R : V → Hp → Prop} {Q : VK} (k : Ret H R Q) (x : Ex H H') : Ret H' R Q := fun v H2 y r => k v H2 (x.trans y) r

/-! ### times -/
/-- the fields of the time q -/
def tfs (q : Rat) : List (Str × V) := [(("over_line" : Str), .int q.num), (("under_line" : Str), .int q.den)]
/-- v is an instance of the class at C that is the time q -/
def TimeV (C : Addr) (q : Rat) (v : V) (H : Hp) : Prop := ∃ p dx, v = .ref p ∧ H p = some (.ins C dx (tfs q))
theorem TimeV.mono {C : Addr} {q : Rat} {v : V} {H H' : Hp} (x : Ex H H') (h : TimeV C q v H) : TimeV C q v H' := by
  obtain ⟨p, dx, e, h⟩ := h
  exact ⟨p, dx, e, x.ins h⟩
end Rs

namespace Rs
open PySem PySem.Spec PyProof.Rows L2
open AutoSeq1 (wpAny_loadPart')

/-! ### an int beside an object of an own class: the int's own slots decline -/
section
variable (i : Int) (t : Tok) (x : Addr) (ox : Obj)
theorem decl_add : Meets (Builtin.«int.__add__» ⟨[.int i t, .ref x], []⟩) (DeclS x ox) := .of_wp fun prog w A R s q => by
  obtain ⟨hp, g, d, tk, os⟩ := s
  obtain ⟨e1, e2, z⟩ := q
  wp_walk using wpAny_loadPart' e1, wpAny_load e1
  rw [e2]
  wp_walk
  exact ⟨_, rfl, z⟩
theorem decl_sub : Meets (Builtin.«int.__sub__» ⟨[.int i t, .ref x], []⟩) (DeclS x ox) := .of_wp fun prog w A R s q => by
  obtain ⟨hp, g, d, tk, os⟩ := s
  obtain ⟨e1, e2, z⟩ := q
  wp_walk using wpAny_loadPart' e1, wpAny_load e1
  rw [e2]
  wp_walk
  exact ⟨_, rfl, z⟩
theorem decl_mul : Meets (Builtin.«int.__mul__» ⟨[.int i t, .ref x], []⟩) (DeclS x ox) := .of_wp fun prog w A R s q => by
  obtain ⟨hp, g, d, tk, os⟩ := s
  obtain ⟨e1, e2, z⟩ := q
  wp_walk using wpAny_loadPart' e1, wpAny_load e1
  rw [e2]
  wp_walk
  exact ⟨_, rfl, z⟩
theorem decl_eq : Meets (Builtin.«int.__eq__» ⟨[.int i t, .ref x], []⟩) (DeclS x ox) := .of_wp fun prog w A R s q => by
  obtain ⟨hp, g, d, tk, os⟩ := s
  obtain ⟨e1, e2, z⟩ := q
  wp_walk using wpAny_loadPart' e1, wpAny_load e1
  rw [e2]
  wp_walk
  exact ⟨_, rfl, z⟩
theorem decl_lt : Meets (Builtin.«int.__lt__» ⟨[.int i t, .ref x], []⟩) (DeclS x ox) := .of_wp fun prog w A R s q => by
  obtain ⟨hp, g, d, tk, os⟩ := s
  obtain ⟨e1, e2, z⟩ := q
  wp_walk using wpAny_loadPart' e1, wpAny_load e1
  rw [e2]
  wp_walk
  exact ⟨_, rfl, z⟩
theorem decl_le : Meets (Builtin.«int.__le__» ⟨[.int i t, .ref x], []⟩) (DeclS x ox) := .of_wp fun prog w A R s q => by
  obtain ⟨hp, g, d, tk, os⟩ := s
  obtain ⟨e1, e2, z⟩ := q
  wp_walk using wpAny_loadPart' e1, wpAny_load e1
  rw [e2]
  wp_walk
  exact ⟨_, rfl, z⟩
theorem decl_gt : Meets (Builtin.«int.__gt__» ⟨[.int i t, .ref x], []⟩) (DeclS x ox) := .of_wp fun prog w A R s q => by
  obtain ⟨hp, g, d, tk, os⟩ := s
  obtain ⟨e1, e2, z⟩ := q
  wp_walk using wpAny_loadPart' e1, wpAny_load e1
  rw [e2]
  wp_walk
  exact ⟨_, rfl, z⟩
theorem decl_ge : Meets (Builtin.«int.__ge__» ⟨[.int i t, .ref x], []⟩) (DeclS x ox) := .of_wp fun prog w A R s q => by
  obtain ⟨hp, g, d, tk, os⟩ := s
  obtain ⟨e1, e2, z⟩ := q
  wp_walk using wpAny_loadPart' e1, wpAny_load e1
  rw [e2]
  wp_walk
  exact ⟨_, rfl, z⟩
end
/-- the int's own def for op declines -/
structure IntDecl (nm : Str) : Prop where
  ex : ∃ id B, Slot "int" nm id ∧ entryFor table id = some B ∧ (∀ a b, argsOk id ⟨[a, b], []⟩) ∧ ∀ i t x ox, Meets (B ⟨[.int i t, .ref x], []⟩) (DeclS x ox)
theorem idecl_add : IntDecl (dunder "add") := ⟨_, _, PySem.F.slot_int_add, PySem.F.entry_int_add, PySem.F.args_int_add_2, decl_add⟩
theorem idecl_sub : IntDecl (dunder "sub") := ⟨_, _, PySem.F.slot_int_sub, PySem.F.entry_int_sub, PySem.F.args_int_sub_2, decl_sub⟩
theorem idecl_mul : IntDecl (dunder "mul") := ⟨_, _, PySem.F.slot_int_mul, PySem.F.entry_int_mul, PySem.F.args_int_mul_2, decl_mul⟩
theorem idecl_eq : IntDecl (cmpInfo .Eq).2.1 := ⟨_, _, PySem.F.slot_int_eq, PySem.F.entry_int_eq, PySem.F.args_int_eq_2, decl_eq⟩
theorem idecl_lt : IntDecl (cmpInfo .Lt).2.1 := ⟨_, _, PySem.F.slot_int_lt, PySem.F.entry_int_lt, PySem.F.args_int_lt_2, decl_lt⟩
theorem idecl_le : IntDecl (cmpInfo .LtE).2.1 := ⟨_, _, PySem.F.slot_int_le, PySem.F.entry_int_le, PySem.F.args_int_le_2, decl_le⟩
theorem idecl_gt : IntDecl (cmpInfo .Gt).2.1 := ⟨_, _, PySem.F.slot_int_gt, PySem.F.entry_int_gt, PySem.F.args_int_gt_2, decl_gt⟩
theorem idecl_ge : IntDecl (cmpInfo .GtE).2.1 := ⟨_, _, PySem.F.slot_int_ge, PySem.F.entry_int_ge, PySem.F.args_int_ge_2, decl_ge⟩

/-! ### operators of an own class -/
/-- the class at C has op at f (its reflected form, if any, is a def too); no int is one of its instances -/
structure BinOwn (K : PySem.W.Frag) (C f : Addr) (op : Operator) : Prop where
  sf : PySem.W.selfFirst K C = true
  at_ : PySem.W.findIn K (.ref C) (PySem.dunder op.info.2) = some (some (.ref f))
  fn : PySem.W.isFn K (.ref f) = true
  rc : ∃ rc, PySem.W.findIn K (.ref C) (dunderR op.info.2) = some rc ∧ (rc = none ∨ ∃ g : Addr, rc = some (.ref g))
  it : ∃ fo ro, PySem.W.findIn K (.type "int") (PySem.dunder op.info.2) = some fo ∧ PySem.W.findIn K (.type "int") (dunderR op.info.2) = some ro
  sub : PySem.W.subIn K (.type "int") (.ref C) = some false
/-- .. the reflected form at g -/
structure BinRef (K : PySem.W.Frag) (C g : Addr) (op : Operator) : Prop where
  sf : PySem.W.selfFirst K C = true
  fl : ∃ f : Addr, PySem.W.findIn K (.ref C) (PySem.dunder op.info.2) = some (some (.ref f))
  at_ : PySem.W.findIn K (.ref C) (dunderR op.info.2) = some (some (.ref g))
  fn : PySem.W.isFn K (.ref g) = true
  sub : PySem.W.subIn K (.ref C) (.type "int") = some false
structure CmpOwn (K : PySem.W.Frag) (C f : Addr) (op : CmpOp) : Prop where
  at_ : PySem.W.findIn K (.ref C) (cmpInfo op).2.1 = some (some (.ref f))
  fn : PySem.W.isFn K (.ref f) = true
  nfi : PySem.W.notFirst K C (.type "int") = true
structure CmpRef (K : PySem.W.Frag) (C g : Addr) (op : CmpOp) : Prop where
  at_ : PySem.W.findIn K (.ref C) (cmpInfo op).2.2 = some (some (.ref g))
  fn : PySem.W.isFn K (.ref g) = true
  sub : PySem.W.subIn K (.ref C) (.type "int") = some false
section
variable {X : Cx} {k j : Nat} {E : XK} {sp : Sp} {C f g a b dx dy : Addr} {fs gs : List (Str × V)} {H : Hp} {Q : VK} {op : Operator} {i : Int}
/-- o op o', one class -/
theorem bin_tt (B : Body X k fun _ => E) (c : BinOwn X.K C f op) (F : FnR X.prog X.w X.K X.mg X.base (RX X.prog X.w) j f sp) (hj : j ≤ k) (ea : H a = some (.ins C dx fs)) (eb : H b = some (.ins C dy gs)) (h : sp [.ref a, .ref b] H Q E) :
    Op2 X (binaryOp op) (.ref a) (.ref b) H Q := by
  intro pins s σ u v I ru rv
  cases ru
  cases rv
  obtain ⟨od, J⟩ := inst_of I ea
  obtain ⟨od', J'⟩ := inst_of I eb
  obtain ⟨m, hF⟩ := I.fr
  exact PySem.W.binop_K hF I.ok.mod.kin J J'.type c.sf c.at_ c.fn (back (run_own (vs := [.ref a, .ref b]) B F hj I (.cons rfl (.cons rfl .nil)) h))
/-- o op int -/
theorem bin_ti (B : Body X k fun _ => E) (c : BinOwn X.K C f op) (F : FnR X.prog X.w X.K X.mg X.base (RX X.prog X.w) j f sp) (hj : j ≤ k) (ea : H a = some (.ins C dx fs)) (h : sp [.ref a, .int i] H Q E) : Op2 X (binaryOp op) (.ref a) (.int i) H Q := by
  intro pins s σ u v I ru rv
  cases ru
  obtain ⟨t, rfl⟩ := rv
  obtain ⟨od, J⟩ := inst_of I ea
  obtain ⟨m, hF⟩ := I.fr
  obtain ⟨rc, h1, h2⟩ := c.rc
  obtain ⟨fo, ro, h3, h4⟩ := c.it
  exact PySem.W.ksp_binT (T := "int") hF I.ok.mod.kin J rfl c.sf c.at_ c.fn h1 h2 h3 h4 c.sub (back (run_own (vs := [.ref a, .int i]) B F hj I (.cons rfl (.cons ⟨t, rfl⟩ .nil)) h))
/-- what int op o comes to, by what o's reflected def does -/
theorem int_left {prog : Program} {w : World} {A : Around} {R : Value → Shared → Prop} {P : Value → Shared → Prop} {s : Shared} {K : PySem.W.Frag} {x : Addr} {ox : Obj} {od : Option Obj} {t : Tok} (KX : K.In s.heap) (J : PySem.W.InstAt s.heap x ox C od) (hd : ox.data = .plain)
    (c : BinRef K C g op) (hf : fillsNumberSlot (.type "int") op.info.2 = pure true) (d : IntDecl (dunder op.info.2)) (h : wpAny (model prog w) A (call (.ref g) [.ref x, .int i t]) (PySem.W.CmpBack P) R s) : wpAny (model prog w) A (binaryOp op (.int i t) (.ref x)) P R s := by
  obtain ⟨cd, rest, hcd, hm⟩ := PySem.W.ksp_first c.sf
  obtain ⟨fl, hfl⟩ := c.fl
  obtain ⟨id, Bi, sl, en, ar, dc⟩ := d.ex
  have cat := c.at_
  rcases hi : op.info with ⟨sym, nm⟩
  rw [hi] at hf sl hfl cat
  dsimp only at hf sl hfl cat
  have l1 : s.TypeIs (.int i t) "int" := typeIs_int _ _ _
  have l2 : PySem.W.Looks (model prog w) s.heap (typeOf (.ref x)) (.ref C) := J.type
  have l3 : PySem.W.Looks (model prog w) s.heap (fillsNumberSlot (.ref C) nm) true := PySem.W.fills_K KX hcd hm hfl
  have l4 : PySem.W.Looks (model prog w) s.heap (isSubtype (.ref C) (.type "int")) false := PySem.W.looks_subIn KX c.sub
  have ne : (Value.type "int" == Value.ref C) = false := Bool.eq_false_iff.mpr fun q => by cases beq_iff_eq.mp q
  have dcl : wpAny (model prog w) A (call (.builtin id) [.int i t, .ref x]) (fun v s' => v = .notImplemented ∧ s' = s) R s := call_meets sl l1 en (ar _ _) (dc i t x ox) ⟨J.at_, hd, rfl, rfl⟩
  have oth : wpAny (model prog w) A (tryMethod (.ref x) (dunderR nm) (.int i t)) (fun r s' => ∃ v, r = some v ∧ P v s') R s := PySem.W.ksp_try KX J cat c.fn h
  have py : numberSlotInPython (.type "int") nm = pure false := rfl
  simp only [binaryOp, hi]
  refine wpAny_holding (wpAny_bind ?_)
  unfold binaryOp1
  refine wpAny_bind (wpAny_typeOf l1 (wpAny_bind (l2.here (wpAny_bind (wpAny_of_eq hf ?_)))))
  simp only [ne, Bool.false_eq_true, if_false]
  refine wpAny_bind (l3.here ?_)
  simp only [Bool.and_self, if_true]
  refine wpAny_bind (l4.here ?_)
  simp only [Bool.false_eq_true, if_false, pure_bind, Bool.not_false, Bool.and_self, if_true, py]
  refine wpAny_bind (m := tryMethod (.int i t) _ (.ref x)) (wpAny_tryMethod_declines l1 sl (wpAny_mono dcl (fun v s1 z => ⟨z.1, ?_⟩) fun _ _ z => z))
  obtain ⟨_, rfl⟩ := z
  refine wpAny_bind (wpAny_mono oth (fun r s2 z => ?_) fun _ _ z => z)
  obtain ⟨v, rfl, q⟩ := z
  exact wpAny_bind (wpAny_rule (wpAny_pure (wpAny_pure q)))
theorem bin_it (B : Body X k fun _ => E) (c : BinRef X.K C g op) (hf : fillsNumberSlot (.type "int") op.info.2 = pure true) (d : IntDecl (dunder op.info.2)) (F : FnR X.prog X.w X.K X.mg X.base (RX X.prog X.w) j g sp) (hj : j ≤ k) (ea : H a = some (.ins C dx fs))
    (h : sp [.ref a, .int i] H Q E) : Op2 X (binaryOp op) (.int i) (.ref a) H Q := by
  intro pins s σ u v I ru rv
  cases rv
  obtain ⟨t, rfl⟩ := ru
  obtain ⟨od, J⟩ := inst_of I ea
  exact int_left I.kIn J rfl c hf d (back (run_own (vs := [.ref a, .int i]) B F hj I (.cons rfl (.cons ⟨t, rfl⟩ .nil)) h))
end
end Rs

namespace Rs
open PySem PySem.Spec PyProof.Rows L2

section
variable {X : Cx} {k j : Nat} {E : XK} {sp : Sp} {C f g a b dx dy : Addr} {fs gs : List (Str × V)} {H : Hp} {Q : VK} {op : Operator} {cop : CmpOp} {i : Int}

/-! ### comparisons of an own class -/
def Rich (op : CmpOp) : Prop := ∀ a b, compareOp op a b = richCompare op a b
theorem rich_eq : Rich .Eq := fun _ _ => rfl
theorem rich_ne : Rich .NotEq := fun _ _ => rfl
theorem rich_lt : Rich .Lt := fun _ _ => rfl
theorem rich_le : Rich .LtE := fun _ _ => rfl
theorem rich_gt : Rich .Gt := fun _ _ => rfl
theorem rich_ge : Rich .GtE := fun _ _ => rfl
theorem cmp_tt (B : Body X k fun _ => E) (r : Rich cop) (c : CmpOwn X.K C f cop) (F : FnR X.prog X.w X.K X.mg X.base (RX X.prog X.w) j f sp) (hj : j ≤ k) (ea : H a = some (.ins C dx fs)) (eb : H b = some (.ins C dy gs)) (h : sp [.ref a, .ref b] H Q E) :
    Op2 X (compareOp cop) (.ref a) (.ref b) H Q := by
  intro pins s σ u v I ru rv
  cases ru
  cases rv
  obtain ⟨od, J⟩ := inst_of I ea
  obtain ⟨od', J'⟩ := inst_of I eb
  obtain ⟨m, hF⟩ := I.fr
  rw [r]
  exact PySem.W.cmp_K (op := cop) (tb := .ref C) B.room.units0 hF I.ok.mod.kin J J'.type (by unfold PySem.W.notFirst; simp) c.at_ c.fn (back (run_own (vs := [.ref a, .ref b]) B F hj I (.cons rfl (.cons rfl .nil)) h))
theorem cmp_ti (B : Body X k fun _ => E) (r : Rich cop) (c : CmpOwn X.K C f cop) (F : FnR X.prog X.w X.K X.mg X.base (RX X.prog X.w) j f sp) (hj : j ≤ k) (ea : H a = some (.ins C dx fs)) (h : sp [.ref a, .int i] H Q E) : Op2 X (compareOp cop) (.ref a) (.int i) H Q := by
  intro pins s σ u v I ru rv
  cases ru
  obtain ⟨t, rfl⟩ := rv
  obtain ⟨od, J⟩ := inst_of I ea
  obtain ⟨m, hF⟩ := I.fr
  rw [r]
  exact PySem.W.cmp_K (op := cop) (tb := .type "int") B.room.units0 hF I.ok.mod.kin J (PySem.W.Looks.of_pure rfl) c.nfi c.at_ c.fn (back (run_own (vs := [.ref a, .int i]) B F hj I (.cons rfl (.cons ⟨t, rfl⟩ .nil)) h))
theorem int_cmp {prog : Program} {w : World} {A : Around} {R : Value → Shared → Prop} {P : Value → Shared → Prop} {s : Shared} {K : PySem.W.Frag} {x : Addr} {ox : Obj} {od : Option Obj} {t : Tok} (hu : A.units < cLine) (KX : K.In s.heap) (J : PySem.W.InstAt s.heap x ox C od)
    (hd : ox.data = .plain) (c : CmpRef K C g cop) (d : IntDecl (cmpInfo cop).2.1) (h : wpAny (model prog w) A (call (.ref g) [.ref x, .int i t]) (PySem.W.CmpBack P) R s) : wpAny (model prog w) A (richCompare cop (.int i t) (.ref x)) P R s := by
  obtain ⟨id, Bi, sl, en, ar, dc⟩ := d.ex
  have cat := c.at_
  rcases hi : cmpInfo cop with ⟨sym, n1, n2⟩
  rw [hi] at sl cat
  dsimp only at sl cat
  have l1 : s.TypeIs (.int i t) "int" := typeIs_int _ _ _
  have l2 : PySem.W.Looks (model prog w) s.heap (typeOf (.ref x)) (.ref C) := J.type
  have l4 : PySem.W.Looks (model prog w) s.heap (isSubtype (.ref C) (.type "int")) false := PySem.W.looks_subIn KX c.sub
  have ne : (Value.type "int" != Value.ref C) = true := by simp
  have dcl : wpAny (model prog w) A (call (.builtin id) [.int i t, .ref x]) (fun v s' => v = .notImplemented ∧ s' = s) R s := call_meets sl l1 en (ar _ _) (dc i t x ox) ⟨J.at_, hd, rfl, rfl⟩
  have oth : wpAny (model prog w) A (tryCompare (.ref x) n2 (.int i t)) (fun r s' => ∃ v, r = some v ∧ P v s') R s := by
    unfold tryCompare
    refine wpAny_bind (PySem.W.ifBound_K KX J cat c.fn (wpAny_mono h (fun v s' hv => ?_) fun _ _ z => z))
    cases v <;> first | exact hv.elim | exact wpAny_pure ⟨_, rfl, hv⟩
  simp only [richCompare, hi, l1.oneThing_none]
  refine wpAny_holding (wpAny_bind (wpAny_cRoomFor hu ?_))
  refine wpAny_bind (wpAny_typeOf l1 (wpAny_bind (l2.here ?_)))
  simp only [ne, if_true]
  refine wpAny_bind (l4.here ?_)
  simp only [Bool.false_eq_true, if_false, Bool.not_false, if_true]
  refine wpAny_bind (m := tryCompare (.int i t) _ (.ref x)) (wpAny_tryCompare_declines l1 sl (wpAny_mono dcl (fun v s1 z => ⟨z.1, ?_⟩) fun _ _ z => z))
  obtain ⟨_, rfl⟩ := z
  refine wpAny_bind (m := tryCompare (.ref x) _ (.int i t)) (wpAny_mono oth (fun r s2 z => ?_) fun _ _ z => z)
  obtain ⟨v, rfl, q⟩ := z
  exact wpAny_pure q
theorem cmp_it (B : Body X k fun _ => E) (r : Rich cop) (c : CmpRef X.K C g cop) (d : IntDecl (cmpInfo cop).2.1) (F : FnR X.prog X.w X.K X.mg X.base (RX X.prog X.w) j g sp) (hj : j ≤ k) (ea : H a = some (.ins C dx fs))
    (h : sp [.ref a, .int i] H Q E) : Op2 X (compareOp cop) (.int i) (.ref a) H Q := by
  intro pins s σ u v I ru rv
  cases rv
  obtain ⟨t, rfl⟩ := ru
  obtain ⟨od, J⟩ := inst_of I ea
  rw [r]
  exact int_cmp B.room.units0 I.kIn J rfl c d (back (run_own (vs := [.ref a, .int i]) B F hj I (.cons rfl (.cons ⟨t, rfl⟩ .nil)) h))

/-! ### op= of an own class without an in-place form -/
structure NoInpl (K : PySem.W.Frag) (C : Addr) (op : Operator) : Prop where
  mro : ∃ cd, PySem.W.clsIn K C = some cd ∧ cd.mro = [.ref C, .type "object"]
  h1 : PySem.W.findIn K (.ref C) (dunderI op.info.2) = some none
  h2 : PySem.W.findIn K (.type "object") (dunderI op.info.2) = some none
theorem noFill {M : Model} {h : Heap} {K : PySem.W.Frag} (KX : K.In h) (n : NoInpl K C op) (add : Bool) : PySem.W.Looks M h (fillsInplaceSlot (.ref C) op.info.2 add) false := by
  obtain ⟨cd, hcd, hm⟩ := n.mro
  intro A Q E s kp q
  have l1 := PySem.W.looks_findIn (M := M) KX n.h1
  have l2 := PySem.W.looks_findIn (M := M) KX n.h2
  have lm : PySem.W.Looks M h (mroOf (.ref C)) cd.mro := (PySem.W.looks_clsIn KX hcd).andThen (f := fun cd => pure cd.mro) .now
  unfold fillsInplaceSlot
  refine wpAny_bind (lm A _ E s kp ?_)
  rw [hm, List.anyM_cons]
  refine wpAny_bind (wpAny_bind (l1 A _ E s kp (wpAny_pure ?_)))
  rw [if_neg Bool.false_ne_true, List.anyM_cons]
  refine wpAny_bind (wpAny_bind (l2 A _ E s kp (wpAny_pure ?_)))
  rw [if_neg Bool.false_ne_true, List.anyM_nil]
  exact wpAny_pure q
theorem one_tt {prog : Program} {w : World} {A : Around} {R : Value → Shared → Prop} {P : Value → Shared → Prop} {s : Shared} {K : PySem.W.Frag} {x : Addr} {y : Value} {ox : Obj} {od : Option Obj} (KX : K.In s.heap) (J : PySem.W.InstAt s.heap x ox C od)
    (hy : PySem.W.Looks (model prog w) s.heap (typeOf y) (.ref C)) (c : BinOwn K C f op) (h : wpAny (model prog w) A (call (.ref f) [.ref x, y]) (PySem.W.CmpBack P) R s) :
    wpAny (model prog w) A (binaryOp1 op.info.2 (.ref x) y) (fun r s' => ∃ v, r = some v ∧ P v s') R s := by
  obtain ⟨cd, rest, hcd, hm⟩ := PySem.W.ksp_first c.sf
  have l3 : PySem.W.Looks (model prog w) s.heap (fillsNumberSlot (.ref C) op.info.2) true := PySem.W.fills_K KX hcd hm c.at_
  unfold binaryOp1
  refine wpAny_bind (J.type.here (wpAny_bind (hy.here (wpAny_bind (l3.here ?_)))))
  simp only [beq_self_eq_true, if_true]
  refine wpAny_bind (wpAny_pure ?_)
  simp only [Bool.and_false, Bool.false_eq_true, if_false, Bool.false_and]
  refine wpAny_bind (wpAny_pure ?_)
  simp only [Bool.false_eq_true, if_false]
  refine wpAny_bind (m := tryMethod (.ref x) _ y) (wpAny_mono (PySem.W.ksp_try KX J c.at_ c.fn h) (fun r s' z => ?_) fun _ _ z => z)
  obtain ⟨v, rfl, q⟩ := z
  exact wpAny_pure ⟨v, rfl, q⟩
theorem inp_tt (B : Body X k fun _ => E) (n : NoInpl X.K C op) (c : BinOwn X.K C f op) (F : FnR X.prog X.w X.K X.mg X.base (RX X.prog X.w) j f sp) (hj : j ≤ k) (ea : H a = some (.ins C dx fs)) (eb : H b = some (.ins C dy gs)) (h : sp [.ref a, .ref b] H Q E) :
    Op2 X (inplaceOp op) (.ref a) (.ref b) H Q := by
  intro pins s σ u v I ru rv
  cases ru
  cases rv
  obtain ⟨od, J⟩ := inst_of I ea
  obtain ⟨od', J'⟩ := inst_of I eb
  have one := one_tt I.kIn J J'.type c (back (run_own (vs := [.ref a, .ref b]) B F hj I (.cons rfl (.cons rfl .nil)) h))
  unfold inplaceOp
  refine wpAny_holding (wpAny_bind (J.type.here (wpAny_bind ((noFill I.kIn n _).here ?_))))
  simp only [Bool.false_eq_true, if_false]
  refine wpAny_bind (wpAny_mono one (fun r s' z => ?_) fun _ _ z => z)
  obtain ⟨w', rfl, q⟩ := z
  exact wpAny_pure q
theorem inp_int {f : Value → Value → Sem Value} {y z : Int} (o : OpR X (inplaceOp op) (rI0 fun i j => .int z)) (q : Q (.int z) H) : Op2 X (inplaceOp op) (.int i) (.int y) H Q := op2_of o ⟨i, y, rfl, rfl, q⟩
theorem ws_aug {D : Ends} {σ : L2.St} {i : Nat} {x : Str} {e : Expr} {pos pos' : Pos} {v : V} (n : Sl X i x) (h0 : σ[i]? = some (some v)) (h : WE X e σ H fun y H1 => Op2 X (inplaceOp op) v y H1 fun z H2 => D.nx (σ.set i (some z)) H2) :
    WS X (.AugAssign (.Name x pos') op e pos) D σ H :=
  wsP (ps_aug (ti := fun x y H Q => Op2 X (inplaceOp op) x y H Q) n.nd n.at_ n.loc peS (fun pins s σ H x y v u Q I rx ry q => q pins s σ v u I rx ry) n.fn) ⟨v, h0, h⟩

/-! ### -x of an own class -/
structure NegOwn (K : PySem.W.Frag) (C f : Addr) : Prop where
  at_ : PySem.W.findIn K (.ref C) "__neg__" = some (some (.ref f))
  fn : PySem.W.isFn K (.ref f) = true
theorem neg_t (B : Body X k fun _ => E) (c : NegOwn X.K C f) (F : FnR X.prog X.w X.K X.mg X.base (RX X.prog X.w) j f sp) (hj : j ≤ k) (ea : H a = some (.ins C dx fs)) (h : sp [.ref a] H Q E) : Op1 X (unaryOp .USub) (.ref a) H Q := by
  intro pins s σ u I ru
  cases ru
  obtain ⟨od, J⟩ := inst_of I ea
  obtain ⟨m, hF⟩ := I.fr
  exact PySem.W.ksp_neg hF I.ok.mod.kin J c.at_ c.fn (run_own (vs := [.ref a]) B F hj I (.cons rfl .nil) h)
end
end Rs

namespace Rs
open PySem PySem.Spec PyProof.Rows L2

section
variable {X : Cx} {σ : L2.St} {H : Hp} {D : Ends} {Q Q' : VK} {QT : Bool → Hp → Prop} {QA QA' : List V → Hp → Prop} {k j : Nat} {E : L2.St → XK} {x m : Str} {sp : Sp} {p pos apos : Pos} {e o a b c : Expr} {es : List Expr} {C : Addr}

theorem we_mono (h : WE X e σ H Q) (z : ∀ v H', Q v H' → Q' v H') : WE X e σ H Q' := fun pins s I => thn (h pins s I) fun u s' y => by
  obtain ⟨v, H', I', r, q⟩ := y
  exact ⟨v, H', I', r, z v H' q⟩
theorem wa_mono (h : WA X es σ H QA) (z : ∀ v H', QA v H' → QA' v H') : WA X es σ H QA' := fun pos pins s I => thn (h pos pins s I) fun u s' y => by
  obtain ⟨v, H', I', r, q⟩ := y
  exact ⟨v, H', I', r, z v H' q⟩

/-! ### built-ins by their names -/
theorem we_callB {id : String} {r : List V → Hp → VK → Prop} (hc : CallR X (.builtin id) r) (bn : Bn X x) (hv : bootBuiltins x = some (.builtin id)) (h : WA X (e :: es) σ H fun xs H1 => r xs H1 Q)
    (hn : x ≠ "__name__" := by decide) (hd : (x == ("__debug__" : Str)) = false := by decide) (he : starEach (e :: es) X.env = (false, eval e X.env) :: starEach es X.env := by rfl) (hl : (backTo pos (starEach es X.env)).any (·.1) = false := by rfl) :
    WE X (.Call (.Name x p) (e :: es) [] pos) σ H Q := weP (pe_callB hc bn.gl bn.no hv paS hn hd he hl) h
theorem we_callT {T : String} {r : List V → Hp → VK → Prop} (hc : CallR X (.type T) r) (bn : Bn X x) (hv : bootBuiltins x = some (.type T)) (h : WA X (e :: es) σ H fun xs H1 => r xs H1 Q)
    (hn : x ≠ "__name__" := by decide) (hd : (x == ("__debug__" : Str)) = false := by decide) (he : starEach (e :: es) X.env = (false, eval e X.env) :: starEach es X.env := by rfl) (hl : (backTo pos (starEach es X.env)).any (·.1) = false := by rfl) :
    WE X (.Call (.Name x p) (e :: es) [] pos) σ H Q := weP (pe_callTy hc bn.gl bn.no hv paS hn hd he hl) h
theorem we_ty {T : String} (bn : Bn X x) (hv : bootBuiltins x = some (.type T)) (q : Q (.ty T) H) (hn : x ≠ "__name__" := by decide) (hd : (x == ("__debug__" : Str)) = false := by decide) : WE X (.Name x pos) σ H Q := weP (pe_bltn (v := .ty T) bn.gl bn.no hv rfl hn hd) q
theorem wa_one (h : WE X e σ H fun v H1 => QA [v] H1) (hs : starEach [e] X.env = [(false, eval e X.env)] := by rfl) : WA X [e] σ H QA := wa_cons (we_mono h fun v H1 q => wa_nil q) hs
theorem wa_two (h : WE X a σ H fun v H1 => WE X b σ H1 fun w H2 => QA [v, w] H2) (hs : starEach [a, b] X.env = (false, eval a X.env) :: starEach [b] X.env := by rfl) (ht : starEach [b] X.env = [(false, eval b X.env)] := by rfl) : WA X [a, b] σ H QA :=
  wa_cons (we_mono h fun _ _ q => wa_one q ht) hs
theorem wa_three (h : WE X a σ H fun v H1 => WE X b σ H1 fun w H2 => WE X c σ H2 fun u H3 => QA [v, w, u] H3) (hs : starEach [a, b, c] X.env = (false, eval a X.env) :: starEach [b, c] X.env := by rfl) (ht : starEach [b, c] X.env = (false, eval b X.env) :: starEach [c] X.env := by rfl)
    (hu : starEach [c] X.env = [(false, eval c X.env)] := by rfl) : WA X [a, b, c] σ H QA := wa_cons (we_mono h fun _ _ q => wa_two q ht hu) hs
/-- what isinstance answers -/
def Isi (K : PySem.W.Frag) (x y : V) (H : Hp) (r : Bool) : Prop := ∃ t u, ClsV y u ∧ TyX K H x t ∧ PySem.W.kitOne K t u = some r
theorem we_isi (bn : Bn X "isinstance") (h : WE X a σ H fun v H1 => WE X b σ H1 fun w H2 => ∃ r, Isi X.K v w H2 r ∧ Q (.bl r) H2)
    (hs : starEach [a, b] X.env = (false, eval a X.env) :: starEach [b] X.env := by rfl) (ht : starEach [b] X.env = [(false, eval b X.env)] := by rfl) (hl : (backTo pos (starEach [b] X.env)).any (·.1) = false := by rfl) :
    WE X (.Call (.Name "isinstance" p) [a, b] [] pos) σ H Q :=
  we_callB call_isi bn boot_isinstance (wa_two (we_mono h fun v H1 q => we_mono q fun w H2 q => by
    obtain ⟨r, ⟨t, u, h1, h2, h3⟩, q⟩ := q
    exact ⟨v, w, t, u, r, rfl, h1, h2, h3, q⟩) hs ht) (by decide) (by decide) hs hl
theorem we_abs (bn : Bn X "abs") (h : WE X a σ H fun v H1 => ∃ i, v = .int i ∧ Q (.int (if i < 0 then -i else i)) H1) (hs : starEach [a] X.env = [(false, eval a X.env)] := by rfl) (hl : (backTo pos (starEach [] X.env)).any (·.1) = false := by rfl) :
    WE X (.Call (.Name "abs" p) [a] [] pos) σ H Q := we_callB call_abs bn boot_abs (wa_one (we_mono h fun v H1 q => by
    obtain ⟨i, rfl, q⟩ := q
    exact ⟨i, rfl, q⟩) hs) (by decide) (by decide) hs hl

/-! ### tuples and lists -/
theorem we_tup {k : Nat} (h : WA X es σ H fun vs H1 => vs.length ≤ sizeLine ∧ ∀ p H2, H1 p = none → Ex H1 H2 → H2 = upd H1 p (.tup vs) → Q (.ref p) H2) : WE X (.Tuple es k pos) σ H Q := weP (pe_tup paS) (wa_mono h fun vs H1 q => ⟨q.1, fun p hp => q.2 p _ hp (Ex.new hp) rfl⟩)
theorem we_lst (h : WA X es σ H fun vs H1 => vs.length ≤ sizeLine ∧ ∀ p H2, H1 p = none → Ex H1 H2 → H2 = upd H1 p (.lst vs) → Q (.ref p) H2) : WE X (.List es pos) σ H Q := weP (pe_lst paS) (wa_mono h fun vs H1 q => ⟨q.1, fun p hp => q.2 p _ hp (Ex.new hp) rfl⟩)
/-! ### fields, items -/
theorem we_fld {f : Str} {C : Addr} (c : Cls X.K C) (n : NoAttr X.K C f) (h : WE X e σ H fun y H1 => ∃ a dx fs v, y = .ref a ∧ H1 a = some (.ins C dx fs) ∧ fs.lookup f = some v ∧ Q v H1) (hb : attributeBase e f X.env (eval e X.env) = eval e X.env := by rfl) :
    WE X (.Attribute e f pos) σ H Q := weP (pe_fld peS hb) (we_mono h fun y H1 q => by
  obtain ⟨a, dx, fs, v, rfl, h1, h2, q⟩ := q
  exact ⟨a, C, dx, fs, v, rfl, h1, c, n, h2, q⟩)
theorem ws_fld {f : Str} {C : Addr} {value : Expr} {pos' : Pos} (c : Cls X.K C) (n : NoAttr X.K C f) (h : WE X value σ H fun y H1 => WE X o σ H1 fun z H2 => ∃ a dx fs, z = .ref a ∧ H2 a = some (.ins C dx fs) ∧ fs.length < 1000 ∧ D.nx σ (upd H2 a (.ins C dx (putF f y fs))))
    (hs : swapsWith value (some (.Attribute o f pos')) pos.line X.env = pure false := by rfl) : WS X (.Assign [.Attribute o f pos'] value pos) D σ H := wsP (ps_fld peS peS hs) (we_mono h fun y H1 q => we_mono q fun z H2 q => by
  obtain ⟨a, dx, fs, rfl, h1, h2, q⟩ := q
  exact ⟨a, C, dx, fs, rfl, h1, c, n, h2, q⟩)
theorem we_ix {r : R2} (hr : IxR X r) (h : WE X a σ H fun v H1 => WE X b σ H1 fun w H2 => r v w H2 Q) (hb : PlainIx b := by intro _ _; rfl) : WE X (.Subscript a b pos) σ H Q := weP (pe_ix hr peS peS hb) h
theorem pass0N {X : Cx} : Passes (RX X.prog X.w) X.nox E0 := fun _ _ _ _ _ _ _ c => by
  obtain ⟨_, _, _, _, _, _, _, _, _, _, _, _, z⟩ := c
  exact z.elim
/-- o.f, a property whose getter raises nothing -/
theorem we_prop {f : Str} {C pp g : Addr} {fd : FuncData} {ps : List Str} {ds : List Value} {dvs : List V} (B : Body X k E) (c : Cls X.K C) (hp : PropOf X.K C f pp g) (F : FnOk X.prog X.w X.K X.mg X.base (RX X.prog X.w) j g fd ps sp) (hj : j + 1 ≤ k)
    (hb : Binds X.K fd ps ds) (hd : Vals dvs ds) (h : WE X e σ H fun y H1 => ∃ a dx fs, y = .ref a ∧ H1 a = some (.ins C dx fs) ∧ sp (.ref a :: dvs) H1 Q E0) (he : attributeBase e f X.env (eval e X.env) = eval e X.env := by rfl) : WE X (.Attribute e f pos) σ H Q :=
  weP (pe_prop peS c hp F (B.room.mono hj) hb hd pass0N he) h
/-- a, b = x, y -/
theorem ws_par {i i' : Nat} {x y : Str} {px py pt : Pos} {kt k2 : Nat} {pt2 : Pos} (B : Body X k E) (n : Sl X i x) (n' : Sl X i' y) (hk : X.env.blockKind = .function) (hx : X.env.kindOf x = some .local) (hy : X.env.kindOf y = some .local)
    (h : WE X a σ H fun v H1 => WE X b σ H1 fun w H2 => D.nx ((σ.set i (some v)).set i' (some w)) H2) (hii : i ≠ i' := by decide) (hne : (y == x) = false := by decide) (hl : (py.line == px.line) = true := by rfl)
    (h1 : ([a, b].any fun | .Starred .. => true | _ => false) = false := by rfl) (h2 : [a, b].all (foldedForSure 8) = false := by rfl) (h3 : [a, b].all (constantsAlone 8) = false := by rfl)
    (hs : starEach [a, b] X.env = (false, eval a X.env) :: starEach [b] X.env := by rfl) (ht : starEach [b] X.env = [(false, eval b X.env)] := by rfl) : WS X (.Assign [.Tuple [.Name x px, .Name y py] kt pt] (.Tuple [a, b] k2 pt2) pos) D σ H := by
  have hw : swappedStores [.Tuple [.Name x px, .Name y py] kt pt] (.Tuple [a, b] k2 pt2) X.env = pure (some [x, y]) := by
    have e1 : ([x, y] : List Str).eraseDups.length = 2 := by
      have : ¬ (y == x) = true := by rw [hne]; exact Bool.false_ne_true
      simp [List.eraseDups_cons, hne]
    unfold swappedStores
    simp only [hk, hx, hy, hl, h2, h3, List.length_cons, List.length_nil, List.head?_cons, Option.map_some, Option.getD_some, List.filterMap_cons, List.filterMap_nil, Expr.pos, beq_self_eq_true, Bool.and_self, Bool.and_true, if_true, e1]
    rw [if_neg (by decide)]
    refine (if_neg (fun q => Bool.false_ne_true (h1.symm.trans q))).trans ?_
    rw [if_neg (by decide), if_neg Bool.false_ne_true, if_neg Bool.false_ne_true]
  exact wsP (ps_par B.calm n.nd n.at_ n'.at_ hii hx hy paS hw) (wa_two (we_mono h fun v H1 q => we_mono q fun w H2 q => ⟨v, w, rfl, q⟩) hs ht)
end
end Rs

namespace Rs
open PySem PySem.Spec PyProof.Rows L2

section
variable {X : Cx} {σ : L2.St} {H : Hp} {D : Ends} {Q Q' : VK} {QT QT' : Bool → Hp → Prop} {QA QA' : List V → Hp → Prop} {k j : Nat} {E : L2.St → XK} {x m : Str} {sp : Sp} {p pos apos : Pos} {e o a b c : Expr} {es : List Expr} {C : Addr}

theorem wt_mono (h : WT X e σ H QT) (z : ∀ v H', QT v H' → QT' v H') : WT X e σ H QT' := fun pins s I => thn (h pins s I) fun u s' y => by
  obtain ⟨H', I', q⟩ := y
  exact ⟨H', I', z u H' q⟩
theorem op2_mono {f : Value → Value → Sem Value} {v w : V} (h : Op2 X f v w H Q) (z : ∀ v H', Q v H' → Q' v H') : Op2 X f v w H Q' := fun pins s σ u v I r1 r2 => thn (h pins s σ u v I r1 r2) fun u s' y => by
  obtain ⟨v, H', I', r, q⟩ := y
  exact ⟨v, H', I', r, z v H' q⟩
/-! ### whiles and fors -/
theorem ws_while_by {body : List Stmt} (P : L2.St → Hp → Prop) (μ : L2.St → Hp → Nat) (B : Body X k E) (h0 : P σ H)
    (hs : ∀ σ H, P σ H → WT X c σ H fun r H1 => if r = true then WB X body { D with nx := fun σ' H' => P σ' H' ∧ μ σ' H' < μ σ H, ct := fun σ' H' => P σ' H' ∧ μ σ' H' < μ σ H, bk := D.nx } σ H1 else D.nx σ H1) : WS X (.While c body [] pos) D σ H :=
  ws_while B.po (while_by P μ h0 hs fun _ _ _ _ z h => wt_mono h z)
theorem ws_for_range {i : Nat} {x : Str} {body : List Stmt} {pr pc px : Pos} {n : Int} (B : Body X k E) (s : Sl X i x) (bn : Bn X "range") (P : Nat → L2.St → Hp → Prop)
    (h : WE X a σ H fun v H1 => v = .int n ∧ P 0 σ H1)
    (ht : ∀ j σ H, j < n.toNat → P j σ H → WB X body { D with nx := P (j + 1), ct := P (j + 1), bk := D.nx } (σ.set i (some (.int j))) H) (hd : ∀ σ H, P n.toNat σ H → D.nx σ H) (lo : -1000000000 ≤ n := by decide) (hi : n ≤ 1000000000 := by decide)
    (hs : starEach [a] X.env = [(false, eval a X.env)] := by rfl) : WS X (.For (.Name x px) (.Call (.Name "range" pr) [a] [] pc) body [] pos) D σ H := by
  refine wsP (ps_for B.po B.calm (pi_range1 bn.gl bn.no paS hs) (pg_name s.nd s.at_ s.loc s.fn) pbS) ?_
  refine wa_one (we_mono h fun v H1 q => ?_) hs
  obtain ⟨rfl, q⟩ := q
  refine ⟨n, rfl, by omega, by omega, for_range (lo := 0) P q (fun j σ H hj p => ?_) hd⟩
  have z := ht j σ H hj p
  show WB X body _ (σ.set i (some (.int (0 + (j : Int))))) H
  rw [Int.zero_add]
  exact z
/-- for x in a list that stands still -/
theorem ws_for_list {i : Nat} {x : Str} {body : List Stmt} {px : Pos} {xs : List V} (B : Body X k E) (s : Sl X i x) (P : Nat → L2.St → Hp → Prop)
    (h : WE X a σ H fun v H1 => ∃ l, v = .ref l ∧ P 0 σ H1 ∧ (∀ j σ H, j ≤ xs.length → P j σ H → SqL X.K H l xs))
    (ht : ∀ j v σ H, xs[j]? = some v → P j σ H → WB X body { D with nx := P (j + 1), ct := P (j + 1), bk := D.nx } (σ.set i (some v)) H) (hd : ∀ σ H, P xs.length σ H → D.nx σ H) (hs : ∀ v, foldedSetIterable a X.env v = pure v := by intro _; rfl) : WS X (.For (.Name x px) a body [] pos) D σ H := by
  refine wsP (ps_for B.po B.calm (pi_list peS) (pg_name s.nd s.at_ s.loc s.fn) pbS hs) ?_
  refine we_mono h fun v H1 q => ?_
  obtain ⟨l, rfl, q0, hl⟩ := q
  exact ⟨l, rfl, ⟨xs, hl 0 σ H1 (Nat.zero_le _) q0⟩, for_list P q0 hl ht hd⟩
theorem ws_for_tup {i : Nat} {x : Str} {body : List Stmt} {px : Pos} {xs : List V} (B : Body X k E) (s : Sl X i x) (P : Nat → L2.St → Hp → Prop)
    (h : WE X a σ H fun v H1 => ∃ l, v = .ref l ∧ P 0 σ H1 ∧ (∀ j σ H, j ≤ xs.length → P j σ H → SqT X.K H l xs))
    (ht : ∀ j v σ H, xs[j]? = some v → P j σ H → WB X body { D with nx := P (j + 1), ct := P (j + 1), bk := D.nx } (σ.set i (some v)) H) (hd : ∀ σ H, P xs.length σ H → D.nx σ H) (hs : ∀ v, foldedSetIterable a X.env v = pure v := by intro _; rfl) : WS X (.For (.Name x px) a body [] pos) D σ H := by
  refine wsP (ps_for B.po B.calm (pi_tup peS) (pg_name s.nd s.at_ s.loc s.fn) pbS hs) ?_
  refine we_mono h fun v H1 q => ?_
  obtain ⟨l, rfl, q0, hl⟩ := q
  exact ⟨l, rfl, ⟨xs, hl 0 σ H1 (Nat.zero_le _) q0⟩, for_tup P q0 hl ht hd⟩

/-! ### ints -/
variable {i l : Int}
theorem o_add (q : Q (.int (i + l)) H) : Op2 X (binaryOp .Add) (.int i) (.int l) H Q := op2_of op_add ⟨i, l, rfl, rfl, q⟩
theorem o_sub (q : Q (.int (i - l)) H) : Op2 X (binaryOp .Sub) (.int i) (.int l) H Q := op2_of op_sub ⟨i, l, rfl, rfl, q⟩
theorem o_mul (hc : CMulW i l) (q : Q (.int (i * l)) H) : Op2 X (binaryOp .Mult) (.int i) (.int l) H Q := op2_of op_mulW ⟨i, l, rfl, rfl, hc, q⟩
theorem o_mod (hc : 0 < l) (q : Q (.int (i % l)) H) : Op2 X (binaryOp .Mod) (.int i) (.int l) H Q := op2_of op_mod ⟨i, l, rfl, rfl, hc, q⟩
/-- // by any divisor of less than 9000 bits -/
theorem o_fdiv (hc : l ≠ 0) (hz : l.natAbs.log2 < 9000) (q : Q (.int (i.fdiv l)) H) : Op2 X (binaryOp .FloorDiv) (.int i) (.int l) H Q := by
  intro pins s σ u v I ru rv
  obtain ⟨t, rfl⟩ := ru
  obtain ⟨t', rfl⟩ := rv
  exact floordiv_int hc ⟨.int (i.fdiv l), H, I.tok _, ⟨_, rfl⟩, q⟩ (.inl (PyProof.noPylong_of_log2 hz))
theorem log2_small {n m : Nat} (h : n < 2 ^ m) (hm : 0 < m) (h9 : m ≤ 9000) : n.log2 < 9000 := Nat.lt_of_lt_of_le (PySem.Flt.log2_lt_of hm h) h9
theorem o_pow (hc : CPow i l) (q : Q (.int (i ^ l.toNat)) H) : Op2 X (binaryOp .Pow) (.int i) (.int l) H Q := op2_of op_pow ⟨i, l, rfl, rfl, hc, q⟩
theorem o_lt (q : Q (.bl (decide (i < l))) H) : Op2 X (compareOp .Lt) (.int i) (.int l) H Q := op2_of op_lt ⟨i, l, rfl, rfl, q⟩
theorem o_le (q : Q (.bl (decide (i ≤ l))) H) : Op2 X (compareOp .LtE) (.int i) (.int l) H Q := op2_of op_le ⟨i, l, rfl, rfl, q⟩
theorem o_gt (q : Q (.bl (decide (l < i))) H) : Op2 X (compareOp .Gt) (.int i) (.int l) H Q := op2_of op_gt ⟨i, l, rfl, rfl, q⟩
theorem o_ge (q : Q (.bl (decide (l ≤ i))) H) : Op2 X (compareOp .GtE) (.int i) (.int l) H Q := op2_of op_ge ⟨i, l, rfl, rfl, q⟩
theorem o_eq (q : Q (.bl (decide (i = l))) H) : Op2 X (compareOp .Eq) (.int i) (.int l) H Q := op2_of op_eq ⟨rfl, by rw [show decide (V.int i = V.int l) = decide (i = l) from by simp]; exact q⟩
theorem o_ne (q : Q (.bl (!decide (i = l))) H) : Op2 X (compareOp .NotEq) (.int i) (.int l) H Q := op2_of op_ne ⟨rfl, by rw [show decide (V.int i = V.int l) = decide (i = l) from by simp]; exact q⟩
theorem o_eqB {r t : Bool} (q : Q (.bl (r == t)) H) : Op2 X (compareOp .Eq) (.bl r) (.bl t) H Q := op2_of op_eq ⟨rfl, by rw [show decide (V.bl r = V.bl t) = (r == t) from by cases r <;> cases t <;> rfl]; exact q⟩
theorem o_neB {r t : Bool} (q : Q (.bl (r != t)) H) : Op2 X (compareOp .NotEq) (.bl r) (.bl t) H Q := op2_of op_ne ⟨rfl, by rw [show (!decide (V.bl r = V.bl t)) = (r != t) from by cases r <;> cases t <;> rfl]; exact q⟩
theorem o_eqS {r t : Str} (q : Q (.bl (decide (r = t))) H) : Op2 X (compareOp .Eq) (.str r) (.str t) H Q := op2_of op_eq ⟨rfl, by rw [show decide (V.str r = V.str t) = decide (r = t) from by simp]; exact q⟩
theorem o_neS {r t : Str} (q : Q (.bl (!decide (r = t))) H) : Op2 X (compareOp .NotEq) (.str r) (.str t) H Q := op2_of op_ne ⟨rfl, by rw [show decide (V.str r = V.str t) = decide (r = t) from by simp]; exact q⟩
theorem o_isN {v : V} (q : Q (.bl (decide (v = .non))) H) : Op2 X (compareOp .Is) v .non H Q := op2_of op_isN ⟨rfl, q⟩
theorem o_notN {v : V} (q : Q (.bl (!decide (v = .non))) H) : Op2 X (compareOp .IsNot) v .non H Q := op2_of op_notN ⟨rfl, q⟩
theorem o_neg (q : Q (.int (-i)) H) : Op1 X (unaryOp .USub) (.int i) H Q := op1_of un_neg ⟨i, rfl, q⟩
/-! ### small ends -/
theorem bl_ok {r : Bool} {P : Bool → Prop} (h : P r) : ∃ c, V.bl r = V.bl c ∧ P c := ⟨r, rfl, h⟩
theorem int_ok {P : Int → Prop} (h : P i) : ∃ c, V.int i = V.int c ∧ P c := ⟨i, rfl, h⟩
theorem ite_dec {c A B : Prop} [Decidable c] (h1 : c → A) (h2 : ¬ c → B) : if decide c = true then A else B := by
  by_cases h : c
  · rw [decide_eq_true h]; exact iteT (h1 h)
  · rw [decide_eq_false h]; exact iteF (h2 h)
theorem ite_ndec {c A B : Prop} [Decidable c] (h1 : ¬ c → A) (h2 : c → B) : if (!decide c) = true then A else B := by
  by_cases h : c
  · rw [decide_eq_true h]; exact iteF (h2 h)
  · rw [decide_eq_false h]; exact iteT (h1 h)
theorem ite_b {r : Bool} {A B : Prop} (h1 : r = true → A) (h2 : r = false → B) : if r = true then A else B := by
  cases r with
  | true => exact iteT (h1 rfl)
  | false => exact iteF (h2 rfl)
end
end Rs

namespace Rs
open PySem PySem.Spec PyProof.Rows L2
section
variable {P : Program} {w : World} {K : PySem.W.Frag} {mg : Str → Option Value} {base : Heap} {N : List Str} {qual : Str} {sc : Scope} {f : Addr} {cdv : Value} {A : Around} {outer : List Env} {s : Shared} {H : Hp} {E : XK} {k : Nat}
abbrev bx (P : Program) (w : World) (K : PySem.W.Frag) (mg : Str → Option Value) (base : Heap) (N : List Str) (qual : Str) (sc : Scope) (f : Addr) (cdv : Value) (A : Around) (outer : List Env) (s : Shared) (H : Hp) (E : XK) : Cx := cxOf (RX P w) P w K mg base N qual sc f cdv A outer s H E
theorem body_of (hr : Room k (A.deeper (envOfC qual sc s.heap.objs.size f cdv))) : Body (bx P w K mg base N qual sc f cdv A outer s H E) k fun _ => E := ⟨rfl, hr, L2N.takes_of rfl rfl rfl rfl, passes_of rfl, fun _ => rfl, fun _ => rfl⟩
end
end Rs

namespace Rs
open PySem PySem.Spec PyProof.Rows L2 He

/-! ### a def by its body, over any context that runs it -/
section
variable {P : Program} {w : World} {K : PySem.W.Frag} {mg : Str → Option Value} {base : Heap} {N ps : List Str} {name qual : Str} {pa : Arguments} {body : List Stmt} {sc : Scope} {dvs : List V} {kws : List (Str × V)} {f : Addr} {fd : FuncData} {k : Nat} {sp : Sp}
theorem def_ok (F : FunD K name qual pa body sc dvs kws f fd) (S : FnScope N ps sc) (len : ∀ vs H Q E, sp vs H Q E → vs.length = ps.length)
    (hb : ∀ (X : Cx), X.prog = P → X.w = w → X.K = K → X.mg = mg → X.base = base → X.N = N → X.env.scope = sc → (∀ x, X.fn x = true) → N.Nodup → ∀ (H : Hp) (vs : List V) (Q : VK) (E : XK), Body X k (fun _ => E) → sp vs H Q E → WB X body { nx := fun _ H' => Q .non H', rt := Q } (start N vs) H) :
    FnOk P w K mg base (RX P w) (k + 1) f fd ps sp :=
  F.ok S len fun cdv A outer s H vs Q E hr h => ⟨_, pbS, hb (bx P w K mg base N qual sc f cdv A outer s H E) rfl rfl rfl rfl rfl rfl rfl (fun _ => rfl) S.nd H vs Q E (body_of hr) h⟩
end
section
variable {X : Cx} {N : List Str} {sc : Scope} {i : Nat} {x : Str}
theorem slot_of (eN : X.N = N) (es : X.env.scope = sc) (hf : ∀ x, X.fn x = true) (nd : N.Nodup) (hi : N[i]? = some x) (hl : Loc sc x) (d1 : (x == ("__debug__" : Str)) = false) (d2 : (x == ("__classdict__" : Str)) = false) : Sl X i x :=
  ⟨by rw [eN]; exact hi, by rw [eN]; exact nd, by rw [es]; exact hl, .inl (hf x), d1, d2⟩
theorem gn_of (es : X.env.scope = sc) (h : sc.names.lookup x = some .globalImplicit) (d1 : (x == ("__debug__" : Str)) = false) : Gn X x := ⟨by unfold Gl Env.kindOf; rw [es]; exact h, d1⟩
theorem bn_of (es : X.env.scope = sc) (h : sc.names.lookup x = some .globalImplicit) (no : X.mg x = none) : Bn X x := ⟨by unfold Gl Env.kindOf; rw [es]; exact h, no⟩
theorem kd_of {r : NameKind} (es : X.env.scope = sc) (h : sc.names.lookup x = some r) : X.env.kindOf x = some r := by unfold Env.kindOf; rw [es]; exact h
theorem blk_of (es : X.env.scope = sc) (h : sc.kind = .function) : X.env.blockKind = .function := by
  unfold Env.blockKind
  rw [es, h]
  rfl
end

/-! ### what the head tells: any facts of the written part, and each def by its place -/
theorem DefA.fun_ {d : DefA} {K : PySem.W.Frag} (hc : d.clo = false) (e : d.seen K = d.told) (c : d.good K = true) : ∃ fd, FunD K d.name d.qual d.params d.body d.scope (d.dvs K) (d.kws K) (d.ad K) fd := by
  obtain ⟨kp, c⟩ := ba c
  unfold DefA.seen at e
  rw [hc] at e c
  generalize hl : K.lookup (d.ad K) = lk at e c
  match lk, e, c with
  | some ⟨oc, od, .func ⟨m1, m2, m3, m4, m5, m6, m7, m8, m9, m10, m11, m12, m13, m14, m15⟩, osl⟩, e, c =>
    have e' : (some (m1, m2, m3, m4, m5, m6, m7, m15) : FnW) = d.told := e
    unfold DefA.told at e'
    injection e' with e'
    injection e' with h1 e'
    injection e' with h2 e'
    injection e' with h3 e'
    injection e' with h4 e'
    injection e' with h5 e'
    injection e' with h6 e'
    injection e' with h7 h8
    subst h1 h2 h3 h4 h5 h6 h7 h8
    obtain ⟨k1, c⟩ := ba (show (PySem.W.codeIn K m13 d.qual && (dflB K m8 (d.dvs K) && kwdB K m9 (d.kws K))) = true from c)
    obtain ⟨k2, k3⟩ := ba c
    exact ⟨_, ⟨oc, od, m8, m9, m10, m11, m12, m13, m14, osl, rfl, hl, k1, dflB_ok k2, kwdB_ok k3⟩, kp⟩
/-- a def that closes over its class's cell: all but the closure -/
theorem DefA.funC {d : DefA} {K : PySem.W.Frag} (hc : d.clo = true) (e : d.seen K = d.told) (c : d.good K = true) : ∃ (oc : Value) (od : Option Addr) (cl : List (Str × Addr)) (dV kV doc pm : Value) (an : Option Addr) (cdv ct : Value) (osl : Array (Option Value)),
    K.lookup (d.ad K) = some ⟨oc, od, .func (PySem.W.fnX d.name d.qual d.params d.body d.scope cl dV kV doc pm an cdv ct), osl⟩ ∧ PySem.W.codeIn K cdv d.qual = true := by
  obtain ⟨kp, c⟩ := ba c
  unfold DefA.seen at e
  rw [hc] at e c
  generalize hl : K.lookup (d.ad K) = lk at e c
  match lk, e, c with
  | some ⟨oc, od, .func ⟨m1, m2, m3, m4, m5, m6, m7, m8, m9, m10, m11, m12, m13, m14, m15⟩, osl⟩, e, c =>
    have e' : (some (m1, m2, m3, m4, m5, m6, [], m15) : FnW) = d.told := e
    unfold DefA.told at e'
    injection e' with e'
    injection e' with h1 e'
    injection e' with h2 e'
    injection e' with h3 e'
    injection e' with h4 e'
    injection e' with h5 e'
    injection e' with h6 e'
    injection e' with h7 h8
    subst h1 h2 h3 h4 h5 h6 h8
    obtain ⟨k1, c⟩ := ba (show (PySem.W.codeIn K m13 d.qual && _) = true from c)
    exact ⟨oc, od, m7, m8, m9, m10, m11, m12, m13, m14, osl, rfl, k1⟩
/-- a module's def; a class's method; a property's getter, setter -/
def aG (x : Str) : PySem.W.Frag → Addr := fun K => ga K x
def aM (C m : Str) : PySem.W.Frag → Addr := fun K => ma K (ga K C) m
def aP (C m : Str) : PySem.W.Frag → Addr := fun K => pgA K (ga K C) m
/-! ### the objects that the top leaves, layer by layer; those seen are kept as the bits of a number -/
theorem obX_eq (n : Nat) (ψ : List (PySem.W.Frag → Bool)) (fn : List DefA) (s : PySem.W.SharedT) : obX n ψ fn s = (hookX n ψ fn).obs s.abs := by
  have e : HandSHeadRun.getT s = s.abs.heap.get? := funext (HandSHeadRun.getT_eq s)
  show obsX ψ fn (frG (HandSHeadRun.getT s) ((asY (HandSHeadRun.getT s) n).reverse ++ [cStatics])) = obsX ψ fn (frG s.abs.heap.get? ((asY s.abs.heap.get? n).reverse ++ [cStatics]))
  rw [e]
section
variable {ψ : List (PySem.W.Frag → Bool)} {fn : List DefA} {K : PySem.W.Frag}
theorem SaysX.fact (c : SaysX ψ fn K) (i : Nat) {b : PySem.W.Frag → Bool} (h : ψ[i]? = some b := by rfl) : b K = true := c.all.1 b (List.mem_of_getElem? h)
theorem SaysX.dfn (c : SaysX ψ fn K) (i : Nat) {d : DefA} (h : fn[i]? = some d := by rfl) (hc : d.clo = false := by rfl) : ∃ fd, FunD K d.name d.qual d.params d.body d.scope (d.dvs K) (d.kws K) (d.ad K) fd :=
  DefA.fun_ hc (c.all.2.2 d (List.mem_of_getElem? h)) (c.all.2.1 d (List.mem_of_getElem? h))
theorem SaysX.dfc (c : SaysX ψ fn K) (i : Nat) {d : DefA} (h : fn[i]? = some d := by rfl) (hc : d.clo = true := by rfl) : ∃ (oc : Value) (od : Option Addr) (cl : List (Str × Addr)) (dV kV doc pm : Value) (an : Option Addr) (cdv ct : Value) (osl : Array (Option Value)),
    K.lookup (d.ad K) = some ⟨oc, od, .func (PySem.W.fnX d.name d.qual d.params d.body d.scope cl dV kV doc pm an cdv ct), osl⟩ ∧ PySem.W.codeIn K cdv d.qual = true :=
  DefA.funC hc (c.all.2.2 d (List.mem_of_getElem? h)) (c.all.2.1 d (List.mem_of_getElem? h))
end

/-! ### looks at a class -/
theorem binOwn_ok {K : PySem.W.Frag} {C f : Addr} {op : Operator} (h : binOwnB K C f op = true) : BinOwn K C f op := by
  obtain ⟨h1, h⟩ := ba h
  obtain ⟨h2, h⟩ := ba h
  obtain ⟨h3, h⟩ := ba h
  obtain ⟨h4, h⟩ := ba h
  obtain ⟨h5, h⟩ := ba h
  obtain ⟨h6, h7⟩ := ba h
  obtain ⟨fo, h5⟩ := Option.isSome_iff_exists.mp h5
  obtain ⟨ro, h6⟩ := Option.isSome_iff_exists.mp h6
  refine ⟨h1, of_decide_eq_true h2, h3, ?_, ⟨fo, ro, h5, h6⟩, of_decide_eq_true h7⟩
  cases q : PySem.W.findIn K (.ref C) (dunderR op.info.2) with
  | none => rw [q] at h4; cases h4
  | some rc =>
    rw [q] at h4
    refine ⟨rc, rfl, ?_⟩
    match rc, h4 with
    | none, _ => exact .inl rfl
    | some (.ref g), _ => exact .inr ⟨g, rfl⟩
theorem binRef_ok {K : PySem.W.Frag} {C f g : Addr} {op : Operator} (h : binRefB K C f g op = true) : BinRef K C g op := by
  obtain ⟨h1, h⟩ := ba h
  obtain ⟨h2, h⟩ := ba h
  obtain ⟨h3, h⟩ := ba h
  obtain ⟨h4, h5⟩ := ba h
  exact ⟨h1, ⟨f, of_decide_eq_true h2⟩, of_decide_eq_true h3, h4, of_decide_eq_true h5⟩
theorem cmpOwn_ok {K : PySem.W.Frag} {C f : Addr} {op : CmpOp} (h : cmpOwnB K C f op = true) : CmpOwn K C f op := by
  obtain ⟨h1, h⟩ := ba h
  obtain ⟨h2, h3⟩ := ba h
  exact ⟨of_decide_eq_true h1, h2, h3⟩
theorem cmpRef_ok {K : PySem.W.Frag} {C g : Addr} {op : CmpOp} (h : cmpRefB K C g op = true) : CmpRef K C g op := by
  obtain ⟨h1, h⟩ := ba h
  obtain ⟨h2, h3⟩ := ba h
  exact ⟨of_decide_eq_true h1, h2, of_decide_eq_true h3⟩
theorem negOwn_ok {K : PySem.W.Frag} {C f : Addr} (h : negOwnB K C f = true) : NegOwn K C f := by
  obtain ⟨h1, h2⟩ := ba h
  exact ⟨of_decide_eq_true h1, h2⟩
theorem noInpl_ok {K : PySem.W.Frag} {C : Addr} {op : Operator} (h : noInplB K C op = true) : NoInpl K C op := by
  obtain ⟨h1, h⟩ := ba h
  obtain ⟨h2, h3⟩ := ba h
  refine ⟨?_, of_decide_eq_true h2, of_decide_eq_true h3⟩
  cases q : PySem.W.clsIn K C with
  | none => rw [q] at h1; cases h1
  | some cd => rw [q] at h1; exact ⟨cd, rfl, of_decide_eq_true h1⟩
theorem prop_ok {K : PySem.W.Frag} {C : Addr} {m : Str} (h : propB K C m = true) : PropOf K C m (ma K C m) (pgA K C m) := by
  obtain ⟨h1, h⟩ := ba h
  obtain ⟨h2, h⟩ := ba h
  obtain ⟨h3, h4⟩ := ba h
  refine ⟨of_decide_eq_true h1, of_decide_eq_true h2, of_decide_eq_true h3, ?_⟩
  generalize hr : PySem.W.recIn K (ma K C m) "property" = r at h4
  match r, h4 with
  | some (.ref g :: rest), h4 => exact ⟨rest, by rw [of_decide_eq_true h4]⟩
theorem isC_ok {K : PySem.W.Frag} {x : Str} (h : isCB K x = true) : IsC K (ga K x) := by
  obtain ⟨h1, h⟩ := ba h
  obtain ⟨h2, h⟩ := ba h
  obtain ⟨h3, h⟩ := ba h
  obtain ⟨h4, h5⟩ := ba h
  exact ⟨cls_ok h1, of_decide_eq_true h2, of_decide_eq_true h3, of_decide_eq_true h4, of_decide_eq_true h5⟩
/-- isinstance's answers for the class of the name x, by the kinds of values -/
structure KitC (K : PySem.W.Frag) (C : Addr) : Prop where
  self : PySem.W.kitOne K (.ref C) (.ref C) = some true
  int : PySem.W.kitOne K (.ref C) (.type "int") = some false
  bool : PySem.W.kitOne K (.ref C) (.type "bool") = some false
  str : PySem.W.kitOne K (.ref C) (.type "str") = some false
  ofInt : PySem.W.kitOne K (.type "int") (.ref C) = some false
  ofBool : PySem.W.kitOne K (.type "bool") (.ref C) = some false
  ofStr : PySem.W.kitOne K (.type "str") (.ref C) = some false
  ofNone : PySem.W.kitOne K (.type "NoneType") (.ref C) = some false
  ofTup : PySem.W.kitOne K (.type "tuple") (.ref C) = some false
  ofLst : PySem.W.kitOne K (.type "list") (.ref C) = some false
theorem kitC_ok {K : PySem.W.Frag} {C : Addr} (h : kitCB K C = true) : KitC K C := by
  obtain ⟨h1, h⟩ := ba h
  obtain ⟨h2, h⟩ := ba h
  obtain ⟨h3, h⟩ := ba h
  obtain ⟨h4, h5⟩ := ba h
  have z := fun n hn => of_decide_eq_true (List.all_eq_true.mp h5 n hn)
  exact ⟨of_decide_eq_true h1, of_decide_eq_true h2, of_decide_eq_true h3, of_decide_eq_true h4, z _ (by simp), z _ (by simp), z _ (by simp), z _ (by simp), z _ (by simp), z _ (by simp)⟩
end Rs

namespace Rs
open PySem PySem.Spec PyProof.Rows L2 He PySem.Calls
/-! ### a body whose exceptions nobody waits for (the law itself) -/
section
variable {P : Program} {w : World} {K : PySem.W.Frag} {mg : Str → Option Value} {base : Heap} {N ps : List Str} {name qual : Str} {pa : Arguments} {body : List Stmt} {sc : Scope} {dvs : List V} {kws : List (Str × V)} {f : Addr} {fd : FuncData} {k : Nat} {sp : Sp}
theorem def_okN (F : FunD K name qual pa body sc dvs kws f fd) (S : FnScope N ps sc) (len : ∀ vs H Q E, sp vs H Q E → vs.length = ps.length)
    (hb : ∀ (X : Cx), X.prog = P → X.w = w → X.K = K → X.mg = mg → X.base = base → X.N = N → X.env.scope = sc → (∀ x, X.fn x = true) → N.Nodup → ∀ (H : Hp) (vs : List V) (Q : VK) (E : XK), Body X k (fun _ => E0) → sp vs H Q E → WB X body { nx := fun _ H' => Q .non H', rt := Q } (start N vs) H) :
    FnOk P w K mg base CX0 (k + 1) f fd ps sp :=
  F.ok S len fun cdv A outer s H vs Q E hr h => ⟨_, pbS, hb (cxOf CX0 P w K mg base N qual sc f cdv A outer s H E) rfl rfl rfl rfl rfl rfl rfl (fun _ => rfl) S.nd H vs Q E ⟨rfl, hr, (fun _ _ x => by obtain ⟨_, _, _, _, _, _, _, _, _, _, _, _, _, _, _, _, z⟩ := x; exact z.elim), passes_of rfl, fun _ => rfl, fun _ => rfl⟩ h⟩
theorem GFn.mk {x : Str} (F : FunD K name qual pa body sc [] kws f fd) (hm : mg x = some (.ref f)) (ok : FnOk P w K mg base (RX P w) k f fd ps sp) (hb : Binds K fd ps []) : GFn P w K mg base k x sp :=
  ⟨f, hm, F.kp, (FnOk.raw ok hb .nil).imp fun vs H Q E h => by rw [List.append_nil]; exact h⟩
end
theorem raw_of {P : Program} {w : World} {K : PySem.W.Frag} {mg : Str → Option Value} {base : Heap} {ps : List Str} {name qual : Str} {pa : Arguments} {body : List Stmt} {sc : Scope} {kws : List (Str × V)} {f : Addr} {fd : FuncData} {k : Nat} {sp : Sp} (F : FunD K name qual pa body sc [] kws f fd)
    (ok : FnOk P w K mg base (RX P w) k f fd ps sp) (hb : Binds K fd ps []) : FnR P w K mg base (RX P w) k f sp := (FnOk.raw ok hb .nil).imp fun vs H Q E h => by rw [List.append_nil]; exact h
/-! ### abs(x) of an own class -/
structure AbsOwn (K : PySem.W.Frag) (C f : Addr) : Prop where
  at_ : PySem.W.findIn K (.ref C) "__abs__" = some (some (.ref f))
  fn : PySem.W.isFn K (.ref f) = true
theorem absOwn_ok {K : PySem.W.Frag} {C f : Addr} (h : absOwnB K C f = true) : AbsOwn K C f := by
  obtain ⟨h1, h2⟩ := ba h
  exact ⟨of_decide_eq_true h1, h2⟩
theorem abs_own {prog : Program} {w : World} {A : Around} {R : Value → Shared → Prop} {P : Value → Shared → Prop} {s : Shared} {K : PySem.W.Frag} {x C f : Addr} {ox : Obj} {od : Option Obj} (KX : K.In s.heap) (J : PySem.W.InstAt s.heap x ox C od)
    (c : AbsOwn K C f) (h : wpAny (model prog w) A.in1 (call (.ref f) [.ref x]) P R s) : wpAny (model prog w) A (call (.builtin "abs") [.ref x]) P R s := by
  refine call_function_entry kind_abs plain_abs entry_abs (args_abs _) ?_
  unfold Builtin.«abs»
  refine wpAny_bind (wpAny_of_eq (a := Value.ref x) rfl ?_)
  refine wpAny_bind (PySem.W.special_fn KX J c.at_ (beq_iff_eq.mp c.fn) (wpAny_mono h (fun v s' q => ?_) fun _ _ z => z))
  exact wpAny_pure ⟨_, rfl, q⟩
theorem we_absT {X : Cx} {σ : L2.St} {H : Hp} {Q : VK} {k j : Nat} {E : XK} {C f : Addr} {sp : Sp} {a : Expr} {p pos : Pos} (bn : Bn X "abs") (B : Body X k fun _ => E) (c : AbsOwn X.K C f) (F : FnR X.prog X.w X.K X.mg X.base (RX X.prog X.w) j f sp) (hj : j + 1 ≤ k)
    (h : WE X a σ H fun v H1 => ∃ x dx fs, v = .ref x ∧ H1 x = some (.ins C dx fs) ∧ sp [.ref x] H1 Q E) (hs : starEach [a] X.env = [(false, eval a X.env)] := by rfl) (hl : (backTo pos (starEach [] X.env)).any (·.1) = false := by rfl) :
    WE X (.Call (.Name "abs" p) [a] [] pos) σ H Q := by
  have hc : CallR X (.builtin "abs") fun xs H Q => ∃ x dx fs, xs = [.ref x] ∧ H x = some (.ins C dx fs) ∧ sp [.ref x] H Q E := by
    intro pins s σ H xs us Q I r q
    obtain ⟨x, dx, fs, rfl, ea, q⟩ := q
    obtain ⟨u, rfl, ru⟩ := vals1 r
    cases ru
    obtain ⟨od, J⟩ := inst_of I ea
    exact abs_own I.kIn J c (wpAny_call (SlX.run_at (us := [.ref x]) (ws := [.ref x]) F (B.room.mono hj).in1 I.env0.in1 B.pass I (.cons rfl .nil) q))
  exact we_callB hc bn boot_abs (wa_one (we_mono h fun v H1 q => by
    obtain ⟨x, dx, fs, rfl, q⟩ := q
    exact ⟨x, dx, fs, rfl, q⟩) hs) (by decide) (by decide) hs hl
end Rs

namespace Rs
open PySem PySem.Spec PyProof.Rows L2 He
/-! ### raise of an own class of errors without an __init__ of its own -/
structure ExcPlain (K : PySem.W.Frag) (C : Addr) : Prop where
  ex : PySem.W.excIn K C veBase "ValueError.__new__" = true
  kp : PySem.W.keepIn K (.ref C) = true
  sb : PySem.W.subIn K (.ref C) (.type "BaseException") = some true
  ty : PySem.W.typeIn K (.ref C) = some (.type "type")
theorem excPlain_ok {K : PySem.W.Frag} {C : Addr} (h : excPlainB K C = true) : ExcPlain K C := by
  obtain ⟨h1, h⟩ := ba h
  obtain ⟨h2, h⟩ := ba h
  obtain ⟨h3, h4⟩ := ba h
  exact ⟨h1, h2, of_decide_eq_true h3, of_decide_eq_true h4⟩
theorem ws_raise {X : Cx} {k : Nat} {E : L2.St → XK} {D : Ends} {σ : L2.St} {H : Hp} {x m : Str} {j : Nat} {p p2 pos pos2 : Pos} {C : Addr} (B : Body X k E) (g : Gn X x) (hm : X.mg x = some (.ref C)) (c : ExcPlain X.K C) (h : E σ (.ref C) none H) :
    WS X (.Raise (some (.Call (.Name x p) [.Constant (.str m) j p2] [] pos)) none pos2) D σ H :=
  wsP (L2N.ps_raise B.calm B.tk (L2N.pmk_own PySem.F.excBase_ValueError c.ex hm c.kp (raises_own c.sb c.ty) g.gl g.d1)) h
section
variable {X : Cx} {σ : L2.St} {H : Hp} {Q : VK} {x : Str} {pos : Pos}
theorem we_ref {C : Addr} (g : Gn X x) (hm : X.mg x = some (.ref C)) (q : Q (.ref C) H) : WE X (.Name x pos) σ H Q := we_glob (v := .ref C) g hm rfl q
theorem we_cint {i : Int} {t : Tok} (g : Gn X x) (hm : X.mg x = some (.int i t)) (q : Q (.int i) H) : WE X (.Name x pos) σ H Q := we_glob (v := .int i) g hm ⟨t, rfl⟩ q
theorem we_cstr {z : Str} {t : Tok} (g : Gn X x) (hm : X.mg x = some (.str z t)) (q : Q (.str z) H) : WE X (.Name x pos) σ H Q := we_glob (v := .str z) g hm ⟨t, rfl⟩ q
end
theorem iteNT {A B : Prop} (h : B) : if (!true) = true then A else B := iteF h
theorem iteNF {A B : Prop} (h : A) : if (!false) = true then A else B := iteT h
theorem ite_nb {r : Bool} {A B : Prop} (h1 : r = false → A) (h2 : r = true → B) : if (!r) = true then A else B := by
  cases r with
  | false => exact iteT (h1 rfl)
  | true => exact iteF (h2 rfl)
/-! ### a time's fields -/
theorem ou_ : ¬ (("under_line" : Str) = "over_line") := by decide +kernel
theorem uo_ : ¬ (("over_line" : Str) = "under_line") := by decide +kernel
theorem tfs_put (q : Rat) : putF "under_line" (.int q.den) (putF "over_line" (.int q.num) []) = tfs q := by
  show (if ("over_line" : Str) = "under_line" then [(("over_line" : Str), V.int q.den)] else (("over_line" : Str), V.int q.num) :: putF "under_line" (V.int q.den) []) = _
  rw [if_neg uo_]
  rfl
theorem tfs_over (q : Rat) : (tfs q).lookup ("over_line" : Str) = some (.int q.num) := by
  unfold tfs
  rw [List.lookup_cons_self]
theorem tfs_under (q : Rat) : (tfs q).lookup ("under_line" : Str) = some (.int q.den) := by
  unfold tfs
  rw [List.lookup_cons]
  have e : (("under_line" : Str) == "over_line") = false := by simpa using ou_
  rw [e, List.lookup_cons_self]
end Rs

namespace Rs
open PySem PySem.Spec PyProof.Rows L2 He
section
variable {X : Cx} {σ : L2.St} {H : Hp} {D : Ends} {Q Q' : VK} {k j : Nat} {E : XK} {x : Str} {p pos pos' : Pos} {a b c e o : Expr}
/-! ### items -/
theorem we_at (h : WE X a σ H fun v H1 => WE X b σ H1 fun w H2 => rIx X.K v w H2 Q) (hb : PlainIx b := by intro _ _; rfl) : WE X (.Subscript a b pos) σ H Q := we_ix ix_seq h hb
theorem at_l {K : PySem.W.Frag} {p : Addr} {xs : List V} {i : Int} {v : V} (hp : H p = some (.lst xs)) (he : atI xs i = some v) (q : Q v H) : rIx K (.ref p) (.int i) H Q := .inl ⟨p, xs, i, v, rfl, rfl, .of hp, he, q⟩
theorem at_t {K : PySem.W.Frag} {p : Addr} {xs : List V} {i : Int} {v : V} (hp : H p = some (.tup xs)) (he : atI xs i = some v) (q : Q v H) : rIx K (.ref p) (.int i) H Q := .inr (.inl ⟨p, xs, i, v, rfl, rfl, .of hp, he, q⟩)
theorem ws_put (h : WE X e σ H fun v H1 => WE X a σ H1 fun x H2 => WE X b σ H2 fun y H3 => ∃ p xs i j, x = .ref p ∧ y = .int i ∧ H3 p = some (.lst xs) ∧ ixN xs.length i = some j ∧ D.nx σ (upd H3 p (.lst (xs.set j v))))
    (hs : swapsWithSole [.Subscript a b pos'] e pos.line X.env = pure false := by rfl) (hw : swappedStores [.Subscript a b pos'] e X.env = pure none := by rfl)
    (ha : ∀ v, assign (.Subscript a b pos') X.env v = (do
      let ov ← holding [v] (eval a X.env)
      let iv ← holding [v, ov] (eval b X.env)
      standAt pos'
      holding [v, ov, iv] (setItem ov iv v)
      release [v, ov, iv] []) := by intro _; rfl) : WS X (.Assign [.Subscript a b pos'] e pos) D σ H :=
  wsP (ps_asg peS (pg_sub peS peS set_list ha) hs hw) (we_mono h fun v H1 z => we_mono z fun x H2 z => we_mono z fun y H3 z => by
    obtain ⟨p, xs, i, j, rfl, rfl, h1, h2, z⟩ := z
    exact ⟨p, xs, i, j, rfl, rfl, h1, h2, z⟩)
theorem put_l {p : Addr} {xs : List V} {i : Int} {j : Nat} {v : V} {P : Hp → Prop} (hp : H p = some (.lst xs)) (hj : ixN xs.length i = some j) (q : P (upd H p (.lst (xs.set j v)))) :
    ∃ p' xs i' j, V.ref p = .ref p' ∧ V.int i = .int i' ∧ H p' = some (.lst xs) ∧ ixN xs.length i' = some j ∧ P (upd H p' (.lst (xs.set j v))) := ⟨p, xs, i, j, rfl, rfl, hp, hj, q⟩
/-! ### len, int, list(..[:n]) -/
theorem we_len (bn : Bn X "len") (h : WE X a σ H fun v H1 => ∃ n, LenV X.K v H1 n ∧ Q (.int n) H1) (hs : starEach [a] X.env = [(false, eval a X.env)] := by rfl) (hl : (backTo pos (starEach [] X.env)).any (·.1) = false := by rfl) :
    WE X (.Call (.Name "len" p) [a] [] pos) σ H Q := we_callB call_len bn boot_len (wa_one (we_mono h fun v H1 q => by
    obtain ⟨n, h1, q⟩ := q
    exact ⟨v, n, rfl, h1, q⟩) hs) (by decide) (by decide) hs hl
theorem len_l {K : PySem.W.Frag} {p : Addr} {xs : List V} {P : Nat → Prop} (hp : H p = some (.lst xs)) (q : P xs.length) : ∃ n, LenV K (.ref p) H n ∧ P n := ⟨xs.length, .inl ⟨xs, .of hp, rfl⟩, q⟩
theorem len_t {K : PySem.W.Frag} {p : Addr} {xs : List V} {P : Nat → Prop} (hp : H p = some (.tup xs)) (q : P xs.length) : ∃ n, LenV K (.ref p) H n ∧ P n := ⟨xs.length, .inr ⟨xs, .of hp, rfl⟩, q⟩
theorem we_int1 (bn : Bn X "int") (h : WE X a σ H fun v H1 => ∃ i, v = .int i ∧ Q (.int i) H1) (hs : starEach [a] X.env = [(false, eval a X.env)] := by rfl) (hl : (backTo pos (starEach [] X.env)).any (·.1) = false := by rfl) :
    WE X (.Call (.Name "int" p) [a] [] pos) σ H Q := we_callT call_int1 bn boot_int (wa_one (we_mono h fun v H1 q => by
    obtain ⟨i, rfl, q⟩ := q
    exact .inl ⟨i, rfl, q⟩) hs) (by decide) (by decide) hs hl
theorem we_listof (bn : Bn X "list") (h : WE X a σ H fun v H1 => ∃ p ys, v = .ref p ∧ (SqL X.K H1 p ys ∨ SqT X.K H1 p ys) ∧ ∀ l, H1 l = none → Q (.ref l) (upd H1 l (.lst ys))) (hs : starEach [a] X.env = [(false, eval a X.env)] := by rfl) (hl : (backTo pos (starEach [] X.env)).any (·.1) = false := by rfl) :
    WE X (.Call (.Name "list" p) [a] [] pos) σ H Q := we_callT call_list_of bn boot_list (wa_one (we_mono h fun v H1 q => by
    obtain ⟨p, ys, rfl, h1, q⟩ := q
    exact ⟨p, ys, rfl, h1, q⟩) hs) (by decide) (by decide) hs hl
/-- a[:hi] of a list -/
theorem we_cutU {p2 : Pos} (h : WE X a σ H fun v H1 => WE X b σ H1 fun w H2 => ∃ p xs i, v = .ref p ∧ w = .int i ∧ SqL X.K H2 p xs ∧ ∀ l, H2 l = none → Q (.ref l) (upd H2 l (.lst (cutV xs none (some i))))) : WE X (.Subscript a (.Slice none (some b) none p2) pos) σ H Q :=
  weP (pe_slice sl_list peS po_none (po_some peS)) (we_mono h fun v H1 z => we_mono z fun w H2 z => by
    obtain ⟨p, xs, i, rfl, rfl, h1, z⟩ := z
    exact ⟨i, rfl, p, xs, rfl, h1, z⟩)
/-! ### the source of draws -/
structure Sou (H : Hp) (p : Addr) : Prop where
  ex : ∃ l o ns, H p = some o ∧ SrcL l o ∧ H l = some (.lst (List.map V.int ns))
theorem Sou.mono {H H' : Hp} {p : Addr} (s : Sou H p) (x : Ex H H') : Sou H' p := by
  obtain ⟨l, o, ns, h1, h2, h3⟩ := s.ex
  obtain ⟨o', h4, h5⟩ := x.src p l o h1 h2
  exact ⟨l, o', ns, h4, h5, x.keep l _ h3 not_src_ints⟩
/-- any number below n -/
def Draw (H : Hp) (n : Int) (Q : VK) : Prop := ∀ d H', Ex H H' → 0 ≤ d → d < n → Q (.int d) H'
theorem Draw.mono {H H' : Hp} {n : Int} {Q : VK} (k : Draw H n Q) (x : Ex H H') : Draw H' n Q := fun d H2 y h1 h2 => k d H2 (x.trans y) h1 h2
def spDraw : Sp := fun vs H Q _ => ∃ p n, vs = [.ref p, .int n] ∧ Sou H p ∧ 0 < n ∧ n.natAbs < 2 ^ 8000 ∧ Draw H n Q
theorem dr_ok {p : Addr} {n : Int} {H : Hp} {Q : VK} {E : XK} (s : Sou H p) (h0 : 0 < n) (h1 : n.natAbs < 2 ^ 8000) (k : Draw H n Q) : spDraw [.ref p, .int n] H Q E := ⟨p, n, rfl, s, h0, h1, k⟩
theorem small_n {n : Int} (h : n.natAbs < 2 ^ 200) : n.natAbs < 2 ^ 8000 := Nat.lt_of_lt_of_le h (Nat.pow_le_pow_right (by decide) (by decide))
end
theorem cpow_of {i j : Int} (h : (decide (0 ≤ j) && decide (j ≤ 1000000) && decide (i.natAbs < 2 ^ 64)) = true) : CPow i j := by
  obtain ⟨h1, h2⟩ := ba h
  obtain ⟨h0, h1⟩ := ba h1
  exact ⟨of_decide_eq_true h0, of_decide_eq_true h1, of_decide_eq_true h2⟩
theorem cmul31 {i j : Int} (h1 : 0 ≤ i) (h2 : i < 2147483647) (h3 : j.natAbs < 2 ^ 31) : CMulW i j := wide_mul (a := 31) (b := 31) (by omega) h3 (by decide) (by decide) (by decide)
section
variable {H : Hp} {p l : Addr} {i b r : Int} {P : Hp → Prop}
theorem src_of (h1 : 0 ≤ i) (h2 : 0 ≤ r) (h3 : r < 2147483647) : SrcL l (.lst [.ref l, .int i, .int b, .int r]) := ⟨i, b, r, rfl, h1, h2, h3⟩
theorem putS1 {ns : List Int} {n : Int} (hl : H l = some (.lst (List.map V.int ns))) (hp : H p = some (.lst [.ref l, .int i, .int b, .int r])) (s : SrcL l (.lst [.ref l, .int i, .int b, .int r])) (s' : 0 ≤ n) (q : ∀ H', Ex H H' → H' l = some (.lst (List.map V.int ns)) → H' p = some (.lst [.ref l, .int n, .int b, .int r]) → SrcL l (.lst [.ref l, .int n, .int b, .int r]) → P H') :
    ∃ p' xs i' j, V.ref p = .ref p' ∧ V.int 1 = .int i' ∧ H p' = some (.lst xs) ∧ ixN xs.length i' = some j ∧ P (upd H p' (.lst (xs.set j (.int n)))) := by
  have s2 : SrcL l (.lst [.ref l, .int n, .int b, .int r]) := by
    obtain ⟨i2, b2, r2, e, h1, h2, h3⟩ := s
    injection e with e; injection e with _ e; injection e with e1 e; injection e with e2 e; injection e with e3 e
    cases e1; cases e2; cases e3
    exact ⟨_, _, _, rfl, s', h2, h3⟩
  have xx := Ex.src' (fun C dx fs z => by rw [hl] at z; cases z) hp s s2
  exact ⟨p, _, 1, 1, rfl, rfl, hp, rfl, q _ xx (xx.keep l _ hl not_src_ints) upd_same s2⟩
theorem putS2 {ns : List Int} {n : Int} (hl : H l = some (.lst (List.map V.int ns))) (hp : H p = some (.lst [.ref l, .int i, .int b, .int r])) (s : SrcL l (.lst [.ref l, .int i, .int b, .int r])) (q : ∀ H', Ex H H' → H' l = some (.lst (List.map V.int ns)) → H' p = some (.lst [.ref l, .int i, .int n, .int r]) → SrcL l (.lst [.ref l, .int i, .int n, .int r]) → P H') :
    ∃ p' xs i' j, V.ref p = .ref p' ∧ V.int 2 = .int i' ∧ H p' = some (.lst xs) ∧ ixN xs.length i' = some j ∧ P (upd H p' (.lst (xs.set j (.int n)))) := by
  have s2 : SrcL l (.lst [.ref l, .int i, .int n, .int r]) := by
    obtain ⟨i2, b2, r2, e, h1, h2, h3⟩ := s
    injection e with e; injection e with _ e; injection e with e1 e; injection e with e2 e; injection e with e3 e
    cases e1; cases e2; cases e3
    exact ⟨_, _, _, rfl, h1, h2, h3⟩
  have xx := Ex.src' (fun C dx fs z => by rw [hl] at z; cases z) hp s s2
  exact ⟨p, _, 2, 2, rfl, rfl, hp, rfl, q _ xx (xx.keep l _ hl not_src_ints) upd_same s2⟩
theorem putS3 {ns : List Int} {n : Int} (hl : H l = some (.lst (List.map V.int ns))) (hp : H p = some (.lst [.ref l, .int i, .int b, .int r])) (s : SrcL l (.lst [.ref l, .int i, .int b, .int r])) (h0 : 0 ≤ n) (h9 : n < 2147483647) (q : ∀ H', Ex H H' → H' l = some (.lst (List.map V.int ns)) → H' p = some (.lst [.ref l, .int i, .int b, .int n]) → SrcL l (.lst [.ref l, .int i, .int b, .int n]) → P H') :
    ∃ p' xs i' j, V.ref p = .ref p' ∧ V.int 3 = .int i' ∧ H p' = some (.lst xs) ∧ ixN xs.length i' = some j ∧ P (upd H p' (.lst (xs.set j (.int n)))) := by
  have s2 : SrcL l (.lst [.ref l, .int i, .int b, .int n]) := by
    obtain ⟨i2, b2, r2, e, h1, h2, h3⟩ := s
    injection e with e; injection e with _ e; injection e with e1 e; injection e with e2 e; injection e with e3 e
    cases e1; cases e2; cases e3
    exact ⟨_, _, _, rfl, h1, h0, h9⟩
  have xx := Ex.src' (fun C dx fs z => by rw [hl] at z; cases z) hp s s2
  exact ⟨p, _, 3, 3, rfl, rfl, hp, rfl, q _ xx (xx.keep l _ hl not_src_ints) upd_same s2⟩
end
end Rs

namespace Mt
/-- the greatest common divisor, at least 1 -/
def g1 (a b : Int) : Int := if (Int.gcd a b : Int) > 0 then (Int.gcd a b : Int) else 1
theorem g1_pos (a b : Int) : 0 < g1 a b := by unfold g1; split <;> omega
theorem g1_of {a b : Int} (hb : b ≠ 0) : g1 a b = (Int.gcd a b : Int) := by
  unfold g1
  have : 0 < Int.gcd a b := Int.gcd_pos_of_ne_zero_right a hb
  rw [if_pos (by omega)]
/-- one turn of Euclid's algorithm -/
theorem gcd_turn (a b : Int) : Int.gcd b (a % b) = Int.gcd a b := by
  have e := Int.emod_def a b
  rw [e, Int.gcd_comm a b, Int.sub_eq_add_neg, Int.neg_mul_eq_mul_neg, Int.gcd_add_mul_left_right]
theorem gcd_abs (a b : Int) : Int.gcd (if a < 0 then -a else a) (if b < 0 then -b else b) = Int.gcd a b := by
  split <;> split <;> simp
theorem abs_nn (a : Int) : 0 ≤ if a < 0 then -a else a := by split <;> omega
theorem fdiv_dvd_neg {a g : Int} (hg : 0 < g) (h : g ∣ a) : a.fdiv (0 - g) = -(a / g) := by
  obtain ⟨c, rfl⟩ := h
  have h1 : (0 - g) ∣ g * c := ⟨-c, by rw [Int.zero_sub]; rw [Int.neg_mul_neg]⟩
  rw [Int.fdiv_eq_ediv_of_dvd h1, Int.zero_sub, Int.ediv_neg]
theorem fdiv_dvd {a g : Int} (hg : 0 < g) (h : g ∣ a) : a.fdiv g = a / g := Int.fdiv_eq_ediv_of_nonneg a (by omega)
theorem gcd_dvd (t b : Int) : (Int.gcd t b : Int) ∣ t ∧ (Int.gcd t b : Int) ∣ b := ⟨Int.gcd_dvd_left .., Int.gcd_dvd_right ..⟩
/-- what Time.__init__ stores -/
theorem made_num {t b : Int} (hb : b ≠ 0) : t.fdiv (if b < 0 then 0 - g1 t b else g1 t b) = (Rat.divInt t b).num := by
  have hg := g1_pos t b
  have e := g1_of (a := t) hb
  have hd : g1 t b ∣ t := by rw [e]; exact (gcd_dvd t b).1
  rw [Rat.num_divInt, Int.gcd_comm b t, ← e]
  split
  · rename_i hn
    rw [fdiv_dvd_neg hg hd, Int.sign_eq_neg_one_of_neg hn, Int.neg_one_mul, Int.neg_ediv_of_dvd hd]
  · rename_i hn
    rw [fdiv_dvd hg hd, Int.sign_eq_one_of_pos (by omega), Int.one_mul]
theorem made_den {t b : Int} (hb : b ≠ 0) : b.fdiv (if b < 0 then 0 - g1 t b else g1 t b) = ((Rat.divInt t b).den : Int) := by
  have hg := g1_pos t b
  have e := g1_of (a := t) hb
  have hd : g1 t b ∣ b := by rw [e]; exact (gcd_dvd t b).2
  rw [Rat.den_divInt, if_neg hb, Int.gcd_comm b t, Int.natCast_ediv, ← e]
  split
  · rename_i hn
    rw [fdiv_dvd_neg hg hd, ← Int.neg_ediv_of_dvd hd]
    congr 1
    omega
  · rename_i hn
    rw [fdiv_dvd hg hd]
    congr 1
    omega
theorem g1_le {t b : Int} (hb : b ≠ 0) : (g1 t b).natAbs ≤ b.natAbs := by
  rw [g1_of hb, Int.natAbs_natCast]
  exact Nat.le_of_dvd (by omega) (Int.gcd_dvd_natAbs_right t b)

/-! ### sizes -/
theorem Sz.mono {q : Rat} {n m : Nat} (h : Sz q n) (l : n ≤ m) : Sz q m := ⟨Nat.lt_of_lt_of_le h.num (Nat.pow_le_pow_right (by decide) l), Nat.lt_of_lt_of_le h.den (Nat.pow_le_pow_right (by decide) l)⟩
theorem pow_add' {a b x y : Nat} (h1 : x < 2 ^ a) (h2 : y < 2 ^ b) : x * y < 2 ^ (a + b) := by
  rw [Nat.pow_add]
  exact Nat.mul_lt_mul'' h1 h2
theorem add_lt {a x y : Nat} (h1 : x < 2 ^ a) (h2 : y < 2 ^ a) : x + y < 2 ^ (a + 1) := by
  rw [Nat.pow_succ]
  omega
theorem mulB {a b : Nat} {x y : Int} (h1 : x.natAbs < 2 ^ a) (h2 : y.natAbs < 2 ^ b) : (x * y).natAbs < 2 ^ (a + b) := by
  rw [Int.natAbs_mul]
  exact pow_add' h1 h2
theorem addB {a : Nat} {x y : Int} (h1 : x.natAbs < 2 ^ a) (h2 : y.natAbs < 2 ^ a) : (x + y).natAbs < 2 ^ (a + 1) := Nat.lt_of_le_of_lt (Int.natAbs_add_le x y) (add_lt h1 h2)
theorem subB {a : Nat} {x y : Int} (h1 : x.natAbs < 2 ^ a) (h2 : y.natAbs < 2 ^ a) : (x - y).natAbs < 2 ^ (a + 1) := Nat.lt_of_le_of_lt (Int.natAbs_sub_le x y) (add_lt h1 h2)
/-! ### the operators -/
theorem mk_div (n : Int) (d : Nat) : mkRat n d = Rat.divInt n d := rfl
theorem add_eq (q r : Rat) : Rat.divInt (q.num * r.den + r.num * q.den) (q.den * r.den) = q + r := by
  rw [Rat.add_def', mk_div, Int.natCast_mul]
theorem sub_eq (q r : Rat) : Rat.divInt (q.num * r.den - r.num * q.den) (q.den * r.den) = q - r := by
  rw [Rat.sub_def', mk_div, Int.natCast_mul]
theorem mul_eq (q r : Rat) : Rat.divInt (q.num * r.num) (q.den * r.den) = q * r := by
  rw [Rat.mul_def', mk_div, Int.natCast_mul]
theorem neg_eq (q : Rat) : Rat.divInt (0 - q.num) q.den = -q := by
  rw [Int.zero_sub, ← Rat.neg_divInt, Rat.num_divInt_den]
theorem den_pos (q : Rat) : (0 : Int) < q.den := by have := q.den_nz; omega
theorem den_ne (q : Rat) : (q.den : Int) ≠ 0 := by have := q.den_nz; omega
end Mt

namespace Rs
open PySem PySem.Spec PyProof.Rows L2 He Mt
theorem dp_ints {K : PySem.W.Frag} {H : Hp} : ∀ ns : List Int, DpAll K H (ns.map V.int) (ns.map PyData.int)
  | [] => .nil
  | n :: ns => .cons (.int n) (dp_ints ns)
theorem shaped2 (a b : Int) : SeqAt.shaped (.tuple [.int a, .int b]) = true := rfl
theorem eqv2 (a b c d : Int) : PyData.eqv (.tuple [.int a, .int b]) (.tuple [.int c, .int d]) = (decide (a = c) && decide (b = d)) := by
  simp only [PyData.eqv, PyData.eqvAll, Bool.and_true]
  rfl
section
variable {X : Cx} {k : Nat} {E : L2.St → XK} {H : Hp} {Q : VK} {p p' : Addr} {a b c d : Int}
theorem o_eqT2 (B : Body X k E) (h : H p = some (.tup [.int a, .int b])) (h' : H p' = some (.tup [.int c, .int d])) (q : Q (.bl (decide (a = c) && decide (b = d))) H) : Op2 X (compareOp .Eq) (.ref p) (.ref p') H Q :=
  op2_of (op_eqD (by have := B.room.un; omega)) ⟨.tuple [.int a, .int b], .tuple [.int c, .int d], .tup (.of h) (dp_ints [a, b]), .tup (.of h') (dp_ints [c, d]), shaped2 a b, shaped2 c d, by rw [eqv2]; exact q⟩
end
/-! ### what comes back, in any heap that has grown -/
def Num (H : Hp) (n : Nat) (Q : VK) : Prop := ∀ d H', Ex H H' → d.natAbs < 2 ^ n → Q (.int d) H'
def Und (H : Hp) (n : Nat) (Q : VK) : Prop := ∀ d H', Ex H H' → d ≠ 0 → d.natAbs < 2 ^ n → Q (.int d) H'
def Prs (H : Hp) (a b : Int) (Q : VK) : Prop := ∀ p H', Ex H H' → H' p = some (.tup [.int a, .int b]) → Q (.ref p) H'
def Yes (H : Hp) (Q : VK) : Prop := ∀ H', Ex H H' → Q (.bl true) H'
theorem Yes.mono {H H' : Hp} {Q : VK} (k : Yes H Q) (x : Ex H H') : Yes H' Q := fun H2 y => k H2 (x.trans y)
theorem ret_i {H : Hp} {R : V → Hp → Prop} {Q : VK} (h : ∀ v H', Ex H H' → R v H' → Q v H') : Ret H R Q := h
theorem draw_i {H : Hp} {n : Int} {Q : VK} (h : ∀ d H', Ex H H' → 0 ≤ d → d < n → Q (.int d) H') : Draw H n Q := h
theorem num_i {H : Hp} {n : Nat} {Q : VK} (h : ∀ d H', Ex H H' → d.natAbs < 2 ^ n → Q (.int d) H') : Num H n Q := h
theorem und_i {H : Hp} {n : Nat} {Q : VK} (h : ∀ d H', Ex H H' → d ≠ 0 → d.natAbs < 2 ^ n → Q (.int d) H') : Und H n Q := h
theorem prs_i {H : Hp} {a b : Int} {Q : VK} (h : ∀ p H', Ex H H' → H' p = some (.tup [.int a, .int b]) → Q (.ref p) H') : Prs H a b Q := h
theorem yes_i {H : Hp} {Q : VK} (h : ∀ H', Ex H H' → Q (.bl true) H') : Yes H Q := h
theorem Num.mono {H H' : Hp} {n : Nat} {Q : VK} (k : Num H n Q) (x : Ex H H') : Num H' n Q := fun d H2 y h => k d H2 (x.trans y) h
theorem Und.mono {H H' : Hp} {n : Nat} {Q : VK} (k : Und H n Q) (x : Ex H H') : Und H' n Q := fun d H2 y h h2 => k d H2 (x.trans y) h h2
theorem Prs.mono {H H' : Hp} {a b : Int} {Q : VK} (k : Prs H a b Q) (x : Ex H H') : Prs H' a b Q := fun p H2 y h => k p H2 (x.trans y) h
theorem cm_sm {i j : Int} (h1 : i.natAbs < 2 ^ 2000) (h2 : j.natAbs < 2 ^ 2000) : CMulW i j := wide_mul h1 h2 (by decide) (by decide) (by decide)
theorem le_pow {i : Int} {n m : Nat} (h : i.natAbs < 2 ^ n) (l : n ≤ m) : i.natAbs < 2 ^ m := Nat.lt_of_lt_of_le h (Nat.pow_le_pow_right (by decide) l)
end Rs
namespace Rs
open PySem PySem.Spec PyProof.Rows L2 He Mt
theorem tup_i {H : Hp} {vs : List V} {P : Addr → Hp → Prop} (hl : vs.length ≤ sizeLine) (h : ∀ p H', Ex H H' → H' p = some (.tup vs) → P p H') : vs.length ≤ sizeLine ∧ ∀ p H2, H p = none → Ex H H2 → H2 = upd H p (.tup vs) → P p H2 :=
  ⟨hl, fun p H2 h0 x e => h p H2 x (by rw [e]; exact upd_same)⟩
theorem lst_i {H : Hp} {vs : List V} {P : Addr → Hp → Prop} (hl : vs.length ≤ sizeLine) (h : ∀ p H', H p = none → Ex H H' → H' p = some (.lst vs) → P p H') : vs.length ≤ sizeLine ∧ ∀ p H2, H p = none → Ex H H2 → H2 = upd H p (.lst vs) → P p H2 :=
  ⟨hl, fun p H2 h0 x e => h p H2 h0 x (by rw [e]; exact upd_same)⟩
theorem len1 {a : V} : [a].length ≤ sizeLine := (show 1 ≤ sizeLine by decide)
theorem len5 {a b c d e : V} : [a, b, c, d, e].length ≤ sizeLine := (show 5 ≤ sizeLine by decide)
theorem len2 {a b : V} : [a, b].length ≤ sizeLine := (show 2 ≤ sizeLine by decide)
theorem len3 {a b c : V} : [a, b, c].length ≤ sizeLine := (show 3 ≤ sizeLine by decide)
theorem len4 {a b c d : V} : [a, b, c, d].length ≤ sizeLine := (show 4 ≤ sizeLine by decide)
def spBegin (K : PySem.W.Frag) : Sp := fun vs H Q _ => ∃ a ns, vs = [.ref a] ∧ SqL K H a (List.map V.int ns) ∧ ∀ p H', Ex H H' → Sou H' p → Q (.ref p) H'
theorem cut_ints (ns : List Int) (i : Int) : ∃ ms : List Int, cutV (ns.map V.int) none (some i) = ms.map V.int := by
  refine ⟨(ns.drop (HT.sIx (ns.map V.int).length 0 none)).take (HT.sIx (ns.map V.int).length (ns.map V.int).length (some i) - HT.sIx (ns.map V.int).length 0 none), ?_⟩
  unfold cutV
  rw [List.map_take, List.map_drop]
theorem src0 {l : Addr} {i b r : Int} (h1 : 0 ≤ i) (h2 : 0 ≤ r) (h3 : r < 2147483647) : SrcL l (.lst [.ref l, .int i, .int b, .int r]) := ⟨i, b, r, rfl, h1, h2, h3⟩
end Rs

namespace Rs
open PySem PySem.Spec PyProof.Rows L2 He
open AutoSeq1 (wpAny_loadPart')
/-! ### a def that returns NotImplemented -/
section
variable {X : Cx} {σ : L2.St} {H : Hp}
def SPN (X : Cx) (pins : List (Addr × Obj)) (D : Hp → Prop) (f : Flow) (s' : Shared) : Prop := f = .ret .notImplemented ∧ ∃ σ' H', Inv X pins σ' H' s' ∧ D H'
def WBN (X : Cx) (st : List Stmt) (D : Hp → Prop) (σ : L2.St) (H : Hp) : Prop := ∀ pins s, Inv X pins σ H s → wpAny (model X.prog X.w) X.A (execs st X.env) (SPN X pins D) X.xe s
theorem wbn_if {c : Expr} {p pos pos2 : Pos} {rest : List Stmt} {D : Hp → Prop} (bn : Bn X "NotImplemented") (h : WT X c σ H fun k H1 => k = true ∧ D H1) : WBN X (.If c [.Return (some (.Name "NotImplemented" p)) pos] [] pos2 :: rest) D σ H := by
  intro pins s I
  refine wpAny_execs_cons (wpAny_If (thn (h pins s I) fun d s1 z => ?_))
  obtain ⟨H1, I1, rfl, q⟩ := z
  refine wpAny_execs_cons (wpAny_Return_some (ld_blt I1 bn.gl bn.no PyProof.Rows.Boot.NotImplemented ?_))
  exact ⟨rfl, σ, H1, I1, q⟩
end
/-- a def, by position, that returns NotImplemented -/
abbrev SpN := List V → Hp → (Hp → Prop) → XK → Prop
def CRN (CX : CXT) (outer : List Env) (P : Program) (w : World) (H : Hp) (s : Shared) (D : Hp → Prop) (E : XK) (r : Result) (s' : Shared) : Prop :=
  match r with
  | .ok (.ret u) => u = .notImplemented ∧ ∃ H', s'.os = s.os ∧ AllBare s'.gens ∧ Un (frs outer) [] H H' s.heap s'.heap ∧ HOk P w H' s'.heap ∧ D H'
  | .ok _ => False
  | .error e => CX outer H s E e s'
def FnN (P : Program) (w : World) (K : PySem.W.Frag) (mg : Str → Option Value) (base : Heap) (CX : CXT) (k : Nat) (f : Addr) (sp : SpN) : Prop :=
  ∀ (A : Around) (outer : List Env) (s : Shared) (H : Hp) (us : List Value) (vs : List V) (D : Hp → Prop) (E : XK), Room k A → Env0 P w K mg base A outer s H → Vals vs us → sp vs H D E →
    codeAny (model P w) A (.call (.ref f) ⟨us, []⟩) (CRN CX outer P w H s D E) s
section
variable {P : Program} {w : World} {K : PySem.W.Frag} {mg : Str → Option Value} {base : Heap} {N ps : List Str} {name qual : Str} {pa : Arguments} {body : List Stmt} {sc : Scope} {dvs : List V} {kws : List (Str × V)} {f : Addr} {fd : FuncData} {k : Nat} {sp : SpN}
theorem def_ni (F : FunD K name qual pa body sc dvs kws f fd) (hb : Binds K fd ps []) (S : FnScope N ps sc) (len : ∀ vs H D E, sp vs H D E → vs.length = ps.length)
    (hbody : ∀ (X : Cx), X.prog = P → X.w = w → X.K = K → X.mg = mg → X.base = base → X.N = N → X.env.scope = sc → (∀ x, X.fn x = true) → N.Nodup → ∀ (H : Hp) (vs : List V) (D : Hp → Prop) (E : XK), Body X k (fun _ => E) → sp vs H D E → WBN X body D (start N vs) H) :
    FnN P w K mg base (RX P w) (k + 1) f sp := by
  obtain ⟨oc, od, dV, kV, doc, pm, an, cdv, ct, osl, rfl, lk, hcd, _, _⟩ := F.ex
  intro A outer s H us vs D E hr e0 r hsp
  have hl := len _ _ _ _ hsp
  have KX : K.In s.heap := e0.mod.kin.keeps fun b o e => (e0.bs b o e).1
  have lim : s.heap.NoLimit := e0.mod.nolimit.keeps fun b o e => (e0.bs b o e).1
  have hkind : ∀ y ∈ ps.zip us, sc.names.lookup y.1 = some .local ∨ (sc.names.lookup y.1 = some .cell ∧ ((cellsFrom (s.heap.objs.size + 1) sc.names []).lookup y.1).isSome = true) := fun ⟨n, v⟩ hy => by
    rcases S.par n (List.of_mem_zip hy).1 with q | q
    · exact .inl q
    · exact .inr ⟨q, PySem.W.cellsFrom_some _ _ _ (.inl q)⟩
  have hul : (us ++ []).length = ps.length := by rw [List.append_nil, ← r.length, hl]
  have hbd := hb s us KX hul
  rw [List.append_nil] at hbd
  refine codeAny_call_function hr.depth (KX _ _ lk) rfl S.co S.gen rfl (PySem.W.codeRec_of KX hcd) (hbd _ _ _ _ ?_)
  refine wpAny_newFunctionEnv_cells S.kind hkind fun env he s1 x => ?_
  subst he
  refine ⟨lim.keeps x.toInCall.keep, codeAny_func ?_⟩
  have I : Inv (bx P w K mg base N qual sc f cdv A outer s H E) [] (start N vs) H s1 := inv_start S hr.hd e0 hl r x
  have hq := hbody (bx P w K mg base N qual sc f cdv A outer s H E) rfl rfl rfl rfl rfl rfl rfl (fun _ => rfl) S.nd H vs D E (body_of (hr.deeper _)) hsp
  refine wpAny_mono (hq [] s1 I) (fun fl s' hs => ?_) fun e s' hs => hs
  obtain ⟨rfl, σ', H', J, q⟩ := hs
  exact ⟨rfl, H', J.os, J.bare, J.base, J.hok, q⟩
end
section
variable {X : Cx} {σ : L2.St} {H : Hp} {pins : List (Addr × Obj)} {s : Shared}
def EPN (X : Cx) (pins : List (Addr × Obj)) (σ : L2.St) (D : Hp → Prop) (u : Value) (s' : Shared) : Prop := u = .notImplemented ∧ ∃ H', Inv X pins σ H' s' ∧ D H'
theorem run_ni {A : Around} {j : Nat} {f : Addr} {sp : SpN} {E : XK} {D : Hp → Prop} {us : List Value} {vs : List V} (F : FnN X.prog X.w X.K X.mg X.base (RX X.prog X.w) j f sp) (hr : Room j A) (e0 : Env0 X.prog X.w X.K X.mg X.base A X.stack s H) (hx : Passes (RX X.prog X.w) X E) (I : Inv X pins σ H s) (r : Vals vs us) (h : sp vs H D E) :
    wpAny (model X.prog X.w) A (call (.ref f) us) (EPN X pins σ D) X.xe s := by
  refine wpAny_call (codeAny_mono (F A X.stack s H us vs D E hr e0 r h) fun r s' hq => ?_)
  cases r with
  | error e => exact hx pins σ H s e s' I hq
  | ok fl =>
    cases fl with
    | ret u =>
      obtain ⟨rfl, H', h1, h2, h3, h4, q⟩ := hq
      obtain ⟨v, H2, I2, _, q2⟩ := I.after (show CE X.stack X.prog X.w H s (fun _ H' => D H') Value.none s' from ⟨V.non, H', h1, h2, h3, h4, rfl, q⟩)
      exact ⟨rfl, H2, I2, q2⟩
    | next => exact False.elim hq
    | brk => exact False.elim hq
    | cont => exact False.elim hq
end

/-! ### object.__ne__ of an own class with an __eq__ of its own -/
theorem neOwn_ok {K : PySem.W.Frag} {C f : Addr} (h : neOwnB K C f = true) : NeOwn K C f := by
  obtain ⟨h1, h⟩ := ba h
  obtain ⟨h2, h⟩ := ba h
  obtain ⟨h3, h⟩ := ba h
  obtain ⟨h4, h⟩ := ba h
  obtain ⟨h5, h⟩ := ba h
  obtain ⟨h6, h⟩ := ba h
  obtain ⟨h7, h8⟩ := ba h
  exact ⟨of_decide_eq_true h1, h2, of_decide_eq_true h3, of_decide_eq_true h4, of_decide_eq_true h5, of_decide_eq_true h6, of_decide_eq_true h7, of_decide_eq_true h8⟩
section
variable {M : Model} {prog : Program} {w : World} {A : Around} {E : Value → Shared → Prop} {s : Shared} {K : PySem.W.Frag} {x C f : Addr} {ox : Obj} {od : Option Obj} {b : Value}
theorem ifBound_objNe {args : List Value} {Q : Option Value → Shared → Prop} (X : K.In s.heap) (I : PySem.W.InstAt s.heap x ox C od) (hs : PySem.W.findIn K (.ref C) "__ne__" = some (some (.builtin "object.__ne__")))
    (h : wpAny M A (call (.builtin "object.__ne__") (.ref x :: args)) (fun v => Q (some v)) E s) : wpAny M A (callSpecialIfBound? (.ref x) "__ne__" args) Q E s := by
  simp only [callSpecialIfBound?, bindSpecialIfBound?]
  refine wpAny_holding (wpAny_bind (wpAny_bind (wpAny_bind (I.type.here ((PySem.W.looks_findIn X hs).here ?_)))))
  refine wpAny_bind (wpAny_askSetting (wpAny_ite ?_))
  have fin : wpAny M A (call (.builtin "object.__ne__") ([.ref x] ++ args) >>= fun v => pure (some v)) Q E s := wpAny_bind (wpAny_mono h (fun v s' h' => wpAny_pure h') fun _ _ h' => h')
  split
  · exact wpAny_bind (wpAny_of_eq (F.cmp_object.ne.bind _) (wpAny_pure (by exact fin)))
  · exact wpAny_tryCatch (wpAny_bind (wpAny_of_eq (F.cmp_object.ne.bind _) (wpAny_pure (by exact fin))))
/-- x.__ne__(b) where x.__eq__(b) is a bool or NotImplemented -/
theorem try_ne {Q : Option Value → Shared → Prop} (hu : A.units + 1 < cLine) (X : K.In s.heap) (I : PySem.W.InstAt s.heap x ox C od) (c : NeOwn K C f)
    (h : wpAny (model prog w) A.in1 (call (.ref f) [.ref x, b]) (fun v s' => (∃ r, v = .bool r ∧ Q (some (.bool (!r))) s') ∨ (v = .notImplemented ∧ Q none s')) E s) :
    wpAny (model prog w) A (tryCompare (.ref x) "__ne__" b) Q E s := by
  unfold tryCompare
  refine wpAny_bind (ifBound_objNe X I c.ne (wpAny_call (codeAny_call_builtin F.cmp_object.ne.plain F.cmpEntry_ne (PySem.W.check_slot F.cmpKind_ne F.cmpSplit_ne (I.type.andThen (PySem.W.looks_mroIn X c.ob)) (F.cmpArgs_ne _ _) ?_))))
  unfold Builtin.«object.__ne__»
  have hu' : A.in1.units < cLine := hu
  repeat (first
    | with_reducible refine wpAny_cRoomFor hu' ?_
    | (refine wpAny_bind (m := callSpecialIfBound? (.ref x) (Str.ofString "__eq__") [b])
        (PySem.W.ifBound_K X I c.eq c.fn (wpAny_mono h (fun v s' z => ?_) fun _ _ e => e)))
    | wp_step)
  rcases z with ⟨r, rfl, q⟩ | ⟨rfl, q⟩
  · repeat (first | exact ⟨_, rfl, wpAny_pure q⟩ | exact wpAny_truthy_bool q | (refine wpAny_bind (m := truthy (.bool _)) (wpAny_truthy_bool ?_)) | wp_step)
    exact q
  · repeat (first | exact ⟨_, rfl, wpAny_pure q⟩ | wp_step)
    exact q
end

/-! ### a value of another kind beside an instance: its own == and != decline -/
section
variable (x : Addr) (ox : Obj)
theorem decl_ne (i : Int) (t : Tok) : Meets (Builtin.«int.__ne__» ⟨[.int i t, .ref x], []⟩) (DeclS x ox) := .of_wp fun prog w A R s q => by
  obtain ⟨hp, g, d, tk, os⟩ := s
  obtain ⟨e1, e2, z⟩ := q
  wp_walk using wpAny_loadPart' e1, wpAny_load e1
  rw [e2]
  wp_walk
  exact ⟨_, rfl, z⟩
end
section
variable {M : Model} {A : Around} {E : Value → Shared → Prop} {s : Shared} {K : PySem.W.Frag} {x C f p : Addr} {ox : Obj} {od : Option Obj} {Q : Fin → Shared → Prop}
end

section
variable {X : Cx} {k j : Nat} {E : XK} {sp : SpN} {C f a dx : Addr} {fs : List (Str × V)} {H : Hp} {Q : VK} {v : V}
theorem looks_ty {M : Model} {s : Shared} {u : Value} {T : String} (h : s.TypeIs u T) {A : Around} {E : Value → Shared → Prop} {Q : Value → Shared → Prop} (q : Q (.type T) s) : wpAny M A (typeOf u) Q E s := wpAny_typeOf h q
/-- x == v, v of another kind -/
theorem eq_fgn (B : Body X k fun _ => E) (c : NeOwn X.K C f) (F : FnN X.prog X.w X.K X.mg X.base (RX X.prog X.w) j f sp) (hj : j ≤ k) (ea : H a = some (.ins C dx fs)) (g : Fgn H v) (h : sp [.ref a, v] H (fun H' => H' a = some (.ins C dx fs) ∧ Fgn H' v ∧ Q (.bl false) H') E) :
    Op2 X (compareOp .Eq) (.ref a) v H Q := by
  intro pins s σ u u' I ru rv
  cases ru
  obtain ⟨od, J⟩ := inst_of I ea
  have G := g.at I rv ea c
  obtain ⟨T, hT, hs⟩ := G.ty
  have r1 := run_ni (us := [.ref a, u']) (vs := [.ref a, v]) F (B.room.mono hj) I.env0 B.pass I (.cons rfl (.cons rv .nil)) h
  show wpAny _ _ (richCompare .Eq (.ref a) u') _ _ s
  simp only [richCompare, cmpInfo_Eq, oneThing_ref]
  refine wpAny_holding (wpAny_bind (wpAny_cRoomFor B.room.units0 ?_))
  refine wpAny_bind (J.type.here (wpAny_bind (looks_ty hT ?_)))
  have ne : (Value.ref C != Value.type T) = true := by simp
  simp only [ne, if_true]
  refine wpAny_bind ((PySem.W.looks_subIn I.kIn hs).here ?_)
  simp only [Bool.false_eq_true, if_false, Bool.not_false, if_true]
  refine wpAny_bind (m := tryCompare (.ref a) _ u') ?_
  unfold tryCompare
  refine wpAny_bind (PySem.W.ifBound_K I.kIn J c.eq c.fn (wpAny_mono r1 (fun v s1 z => ?_) fun _ _ z => z))
  obtain ⟨rfl, H1, I1, e1, g1, q⟩ := z
  refine wpAny_pure ?_
  have G1 := g1.at I1 rv e1 c
  refine wpAny_bind (m := tryCompare u' _ (.ref a)) (wpAny_mono (G1.eq _ _ _ _) (fun r s2 z => ?_) fun _ _ z => z)
  obtain ⟨rfl, rfl⟩ := z
  exact wpAny_bind (wpAny_rule (wpAny_bind (G1.same _ _ _ _ (wpAny_pure ⟨.bl false, H1, I1, rfl, q⟩))))
/-- x != v, v of another kind -/
theorem ne_fgn (B : Body X k fun _ => E) (c : NeOwn X.K C f) (F : FnN X.prog X.w X.K X.mg X.base (RX X.prog X.w) j f sp) (hj : j + 1 ≤ k) (ea : H a = some (.ins C dx fs)) (g : Fgn H v) (h : sp [.ref a, v] H (fun H' => H' a = some (.ins C dx fs) ∧ Fgn H' v ∧ Q (.bl true) H') E) :
    Op2 X (compareOp .NotEq) (.ref a) v H Q := by
  intro pins s σ u u' I ru rv
  cases ru
  obtain ⟨od, J⟩ := inst_of I ea
  have G := g.at I rv ea c
  obtain ⟨T, hT, hs⟩ := G.ty
  have r1 := run_ni (us := [.ref a, u']) (vs := [.ref a, v]) F (B.room.mono hj).in1 I.env0.in1 B.pass I (.cons rfl (.cons rv .nil)) h
  show wpAny _ _ (richCompare .NotEq (.ref a) u') _ _ s
  simp only [richCompare, cmpInfo_NotEq, oneThing_ref]
  refine wpAny_holding (wpAny_bind (wpAny_cRoomFor B.room.units0 ?_))
  refine wpAny_bind (J.type.here (wpAny_bind (looks_ty hT ?_)))
  have ne : (Value.ref C != Value.type T) = true := by simp
  simp only [ne, if_true]
  refine wpAny_bind ((PySem.W.looks_subIn I.kIn hs).here ?_)
  simp only [Bool.false_eq_true, if_false, Bool.not_false, if_true]
  refine wpAny_bind (m := tryCompare (.ref a) _ u') (try_ne (by have := B.room.un; omega) I.kIn J c (wpAny_mono r1 (fun v s1 z => .inr ?_) fun _ _ z => z))
  obtain ⟨rfl, H1, I1, e1, g1, q⟩ := z
  refine ⟨rfl, ?_⟩
  have G1 := g1.at I1 rv e1 c
  refine wpAny_bind (m := tryCompare u' _ (.ref a)) (wpAny_mono (G1.ne _ _ _ _) (fun r s2 z => ?_) fun _ _ z => z)
  obtain ⟨rfl, rfl⟩ := z
  exact wpAny_bind (wpAny_rule (wpAny_bind (G1.same _ _ _ _ (wpAny_pure ⟨.bl true, H1, I1, rfl, q⟩))))
end
section
variable {X : Cx} {k j : Nat} {E : XK} {sp : Sp} {C f a b dx dy : Addr} {fs gs : List (Str × V)} {H : Hp} {Q : VK} {v : V} {i : Int}
/-- the answer of __eq__, turned round -/
def NotQ (Q : VK) : VK := fun z H' => ∃ r, z = .bl r ∧ Q (.bl (!r)) H'
theorem ne_back {pins : List (Addr × Obj)} {σ : L2.St} {A : Around} {t : Sem Value} {R : Value → Shared → Prop} {s : Shared} (h : wpAny (model X.prog X.w) A t (EP X pins σ (NotQ Q)) R s) :
    wpAny (model X.prog X.w) A t (fun v s' => (∃ r, v = .bool r ∧ EP X pins σ Q (.bool (!r)) s') ∨ (v = .notImplemented ∧ False)) R s := wpAny_mono h (fun u s' z => by
  obtain ⟨v, H', I, r, c, rfl, q⟩ := z
  cases r
  exact .inl ⟨c, rfl, .bl (!c), H', I, rfl, q⟩) fun _ _ z => z
theorem ne_own (B : Body X k fun _ => E) (c : NeOwn X.K C f) (F : FnR X.prog X.w X.K X.mg X.base (RX X.prog X.w) j f sp) (hj : j + 1 ≤ k) {pins : List (Addr × Obj)} {s : Shared} {σ : L2.St} {u' : Value} (I : Inv X pins σ H s) (rv : RelV v u') (ea : H a = some (.ins C dx fs)) (h : sp [.ref a, v] H (NotQ Q) E) :
    wpAny (model X.prog X.w) X.A (tryCompare (.ref a) "__ne__" u') (fun r s' => ∃ v, r = some v ∧ EP X pins σ Q v s') X.xe s := by
  obtain ⟨od, J⟩ := inst_of I ea
  have r1 := ne_back (wpAny_call (SlX.run_at (us := [.ref a, u']) (ws := [.ref a, v]) F (B.room.mono hj).in1 I.env0.in1 B.pass I (.cons rfl (.cons rv .nil)) h))
  refine try_ne (by have := B.room.un; omega) I.kIn J c (wpAny_mono r1 (fun v s1 z => ?_) fun _ _ z => z)
  rcases z with ⟨r, rfl, q⟩ | ⟨_, q⟩
  · exact .inl ⟨r, rfl, _, rfl, q⟩
  · exact q.elim
theorem ne_tt (B : Body X k fun _ => E) (c : NeOwn X.K C f) (F : FnR X.prog X.w X.K X.mg X.base (RX X.prog X.w) j f sp) (hj : j + 1 ≤ k) (ea : H a = some (.ins C dx fs)) (eb : H b = some (.ins C dy gs)) (h : sp [.ref a, .ref b] H (NotQ Q) E) :
    Op2 X (compareOp .NotEq) (.ref a) (.ref b) H Q := by
  intro pins s σ u v I ru rv
  cases ru
  cases rv
  obtain ⟨od, J⟩ := inst_of I ea
  obtain ⟨od', J'⟩ := inst_of I eb
  have r1 := ne_own B c F hj I (v := .ref b) (u' := .ref b) rfl ea h
  show wpAny _ _ (richCompare .NotEq (.ref a) (.ref b)) _ _ s
  simp only [richCompare, cmpInfo_NotEq, oneThing_ref]
  refine wpAny_holding (wpAny_bind (wpAny_cRoomFor B.room.units0 ?_))
  refine wpAny_bind (J.type.here (wpAny_bind (J'.type.here ?_)))
  have ne : (Value.ref C != Value.ref C) = false := by simp
  simp only [ne, Bool.false_eq_true, if_false]
  refine wpAny_bind (wpAny_pure ?_)
  simp only [Bool.false_eq_true, if_false]
  refine wpAny_bind (m := tryCompare (.ref a) _ (.ref b)) (wpAny_mono r1 (fun r s1 z => ?_) fun _ _ z => z)
  obtain ⟨w', rfl, q⟩ := z
  exact wpAny_pure q
theorem ne_ti (B : Body X k fun _ => E) (c : NeOwn X.K C f) (F : FnR X.prog X.w X.K X.mg X.base (RX X.prog X.w) j f sp) (hj : j + 1 ≤ k) (ea : H a = some (.ins C dx fs)) (h : sp [.ref a, .int i] H (NotQ Q) E) : Op2 X (compareOp .NotEq) (.ref a) (.int i) H Q := by
  intro pins s σ u v I ru rv
  cases ru
  obtain ⟨t, rfl⟩ := rv
  obtain ⟨od, J⟩ := inst_of I ea
  have r1 := ne_own B c F hj I (v := .int i) (u' := .int i t) ⟨t, rfl⟩ ea h
  show wpAny _ _ (richCompare .NotEq (.ref a) (.int i t)) _ _ s
  simp only [richCompare, cmpInfo_NotEq, oneThing_ref]
  refine wpAny_holding (wpAny_bind (wpAny_cRoomFor B.room.units0 ?_))
  refine wpAny_bind (J.type.here (wpAny_bind (looks_ty (typeIs_int _ _ _) ?_)))
  have ne : (Value.ref C != Value.type "int") = true := by simp
  simp only [ne, if_true]
  refine wpAny_bind ((PySem.W.looks_subIn I.kIn (sub_tc (l := ["int", "object"].map Value.type) (by decide +kernel) fun v h => tys h)).here ?_)
  simp only [Bool.false_eq_true, if_false, Bool.not_false, if_true]
  refine wpAny_bind (m := tryCompare (.ref a) _ (.int i t)) (wpAny_mono r1 (fun r s1 z => ?_) fun _ _ z => z)
  obtain ⟨w', rfl, q⟩ := z
  exact wpAny_pure q
theorem ne_it (B : Body X k fun _ => E) (c : NeOwn X.K C f) (F : FnR X.prog X.w X.K X.mg X.base (RX X.prog X.w) j f sp) (hj : j + 1 ≤ k) (ea : H a = some (.ins C dx fs)) (h : sp [.ref a, .int i] H (NotQ Q) E) : Op2 X (compareOp .NotEq) (.int i) (.ref a) H Q := by
  intro pins s σ u v I ru rv
  cases rv
  obtain ⟨t, rfl⟩ := ru
  obtain ⟨od, J⟩ := inst_of I ea
  have r1 := ne_own B c F hj I (v := .int i) (u' := .int i t) ⟨t, rfl⟩ ea h
  have l1 : s.TypeIs (.int i t) "int" := typeIs_int _ _ _
  have dcl : wpAny (model X.prog X.w) X.A (tryCompare (.int i t) "__ne__" (.ref a)) (fun r s' => r = none ∧ s' = s) X.xe s :=
    wpAny_tryCompare_declines l1 PySem.F.slot_int_ne (call_meets PySem.F.slot_int_ne l1 PySem.F.entry_int_ne (PySem.F.args_int_ne_2 _ _) (decl_ne a _ i t) ⟨J.at_, rfl, rfl, rfl, rfl⟩)
  show wpAny _ _ (richCompare .NotEq (.int i t) (.ref a)) _ _ s
  simp only [richCompare, cmpInfo_NotEq, l1.oneThing_none]
  refine wpAny_holding (wpAny_bind (wpAny_cRoomFor B.room.units0 ?_))
  refine wpAny_bind (looks_ty l1 (wpAny_bind (J.type.here ?_)))
  have ne : (Value.type "int" != Value.ref C) = true := by simp
  simp only [ne, if_true]
  refine wpAny_bind ((PySem.W.looks_subIn I.kIn c.sub).here ?_)
  simp only [Bool.false_eq_true, if_false, Bool.not_false, if_true]
  refine wpAny_bind (m := tryCompare (.int i t) _ (.ref a)) (wpAny_mono dcl (fun r s1 z => ?_) fun _ _ z => z)
  obtain ⟨rfl, rfl⟩ := z
  refine wpAny_bind (m := tryCompare (.ref a) _ (.int i t)) (wpAny_mono r1 (fun r s2 z => ?_) fun _ _ z => z)
  obtain ⟨w', rfl, q⟩ := z
  exact wpAny_pure q
end
end Rs

namespace Rs
open PySem PySem.Spec PyProof.Rows L2 He
/-! ### texts -/
/-- an int's text -/
def itx (i : Int) : Str := Str.ofString (toString i)
theorem itx_len {i : Int} (h : i.natAbs.log2 < 1920) : (itx i).length ≤ 1921 := int_text_len_1921 h
section
variable {X : Cx} {σ : L2.St} {H : Hp} {D : Ends} {Q : VK} {x y : Str} {i : Int} {a b c e : Expr} {p pos : Pos}
theorem we_strI (bn : Bn X "str") (h : WE X a σ H fun v H1 => ∃ i, v = .int i ∧ i.natAbs.log2 < 1920 ∧ Q (.str (itx i)) H1) (hs : starEach [a] X.env = [(false, eval a X.env)] := by rfl) (hl : (backTo pos (starEach [] X.env)).any (·.1) = false := by rfl) :
    WE X (.Call (.Name "str" p) [a] [] pos) σ H Q := we_callT call_str_int bn boot_str (wa_one (we_mono h fun v H1 q => by
    obtain ⟨i, rfl, h1, q⟩ := q
    exact ⟨i, rfl, h1, q⟩) hs) (by decide) (by decide) hs hl
theorem o_catS (hz : x.length + y.length ≤ sizeLine) (q : Q (.str (x ++ y)) H) : Op2 X (binaryOp .Add) (.str x) (.str y) H Q := op2_of op_add_str ⟨x, y, rfl, rfl, hz, q⟩
theorem we_fmt (h : WE X e σ H fun v H1 => (∃ y : Str, v = .str y ∧ y.length ≤ sizeLine ∧ Q (.str y) H1) ∨ ∃ i : Int, v = .int i ∧ i.natAbs.log2 < 1920 ∧ Q (.str (itx i)) H1) : WE X (.FormattedValue e (-1) none pos) σ H Q := weP (pe_fmt peS) h
theorem str_e (x : Str) : Str.empty ++ x = x := by
  cases x
  show Str.append _ _ = _
  simp [Str.append, Str.empty]
theorem str_assoc (x y z : Str) : x ++ y ++ z = x ++ (y ++ z) := by
  show Str.append (Str.append _ _) _ = Str.append _ (Str.append _ _)
  simp [Str.append, Array.append_assoc]
theorem str_len (x y : Str) : (x ++ y).length = x.length + y.length := by
  show (Str.append x y).length = _
  simp [Str.append, Str.length]
theorem we_js3 (h : WE X a σ H fun v H1 => ∃ x : Str, v = .str x ∧ x.length ≤ sizeLine ∧ WE X b σ H1 fun w H2 => ∃ y : Str, w = .str y ∧ (x ++ y).length ≤ sizeLine ∧ WE X c σ H2 fun u H3 => ∃ z : Str, u = .str z ∧ (x ++ y ++ z).length ≤ sizeLine ∧ Q (.str (x ++ y ++ z)) H3) : WE X (.JoinedStr [a, b, c] pos) σ H Q :=
  weP (pe_joined (.cons peS (.cons peS (.cons peS .nil)))) (we_mono h fun v H1 z => by
    obtain ⟨x, rfl, h1, z⟩ := z
    refine ⟨x, rfl, by rw [str_e]; exact h1, we_mono z fun w H2 z => ?_⟩
    obtain ⟨y, rfl, h2, z⟩ := z
    refine ⟨y, rfl, by rw [str_e]; exact h2, we_mono z fun u H3 z => ?_⟩
    obtain ⟨t, rfl, h3, z⟩ := z
    exact ⟨t, rfl, by rw [str_e]; exact h3, by rw [str_e]; exact z⟩)
end
/-- the text of a fraction in lowest terms -/
def ftx (n d : Int) : Str := if d = 1 then itx n else itx n ++ "/" ++ itx d

section
variable {X : Cx} {σ : L2.St} {H : Hp} {D : Ends} {k : Nat} {E : L2.St → XK} {x : Str} {px pos : Pos} {a : Expr} {i : Nat} {body : List Stmt}
/-- for x in a list: all is chosen once the list is there -/
def ForL (X : Cx) (xs : List V) (l : Addr) (i : Nat) (body : List Stmt) (D : Ends) (σ : L2.St) (H : Hp) : Prop :=
  ∃ P : Nat → L2.St → Hp → Prop, P 0 σ H ∧ (∀ j σ H, j ≤ xs.length → P j σ H → SqL X.K H l xs) ∧ (∀ j v σ H, xs[j]? = some v → P j σ H → WB X body { D with nx := P (j + 1), ct := P (j + 1), bk := D.nx } (σ.set i (some v)) H) ∧ ∀ σ H, P xs.length σ H → D.nx σ H
theorem ws_for_listE (B : Body X k E) (s : Sl X i x) (h : WE X a σ H fun v H1 => ∃ l xs, v = .ref l ∧ ForL X xs l i body D σ H1) (hs : ∀ v, foldedSetIterable a X.env v = pure v := by intro _; rfl) : WS X (.For (.Name x px) a body [] pos) D σ H := by
  refine wsP (ps_for B.po B.calm (pi_list peS) (pg_name s.nd s.at_ s.loc s.fn) pbS hs) ?_
  refine we_mono h fun v H1 q => ?_
  obtain ⟨l, xs, rfl, P, q0, hl, ht, hd⟩ := q
  exact ⟨l, rfl, ⟨xs, hl 0 σ H1 (Nat.zero_le _) q0⟩, for_list P q0 hl ht hd⟩
def ForT (X : Cx) (xs : List V) (l : Addr) (i : Nat) (body : List Stmt) (D : Ends) (σ : L2.St) (H : Hp) : Prop :=
  ∃ P : Nat → L2.St → Hp → Prop, P 0 σ H ∧ (∀ j σ H, j ≤ xs.length → P j σ H → SqT X.K H l xs) ∧ (∀ j v σ H, xs[j]? = some v → P j σ H → WB X body { D with nx := P (j + 1), ct := P (j + 1), bk := D.nx } (σ.set i (some v)) H) ∧ ∀ σ H, P xs.length σ H → D.nx σ H
theorem ws_for_tupE (B : Body X k E) (s : Sl X i x) (h : WE X a σ H fun v H1 => ∃ l xs, v = .ref l ∧ ForT X xs l i body D σ H1) (hs : ∀ v, foldedSetIterable a X.env v = pure v := by intro _; rfl) : WS X (.For (.Name x px) a body [] pos) D σ H := by
  refine wsP (ps_for B.po B.calm (pi_tup peS) (pg_name s.nd s.at_ s.loc s.fn) pbS hs) ?_
  refine we_mono h fun v H1 q => ?_
  obtain ⟨l, xs, rfl, P, q0, hl, ht, hd⟩ := q
  exact ⟨l, rfl, ⟨xs, hl 0 σ H1 (Nat.zero_le _) q0⟩, for_tup P q0 hl ht hd⟩
end
end Rs

namespace Rs
open PySem PySem.Spec PyProof.Rows L2 He
/-! ### try .. except -/
section
variable {X : Cx} {i : Nat} {x : Str} {pn : List (Addr × Obj)} {xe : Value → Shared → Prop} {a : Addr}
theorem Sl.tr (s : Sl X i x) : Sl (X.tr pn xe) i x := ⟨s.at_, s.nd, s.loc, s.fn, s.d1, s.d2⟩
theorem Gn.tr (s : Gn X x) : Gn (X.tr pn xe) x := ⟨s.gl, s.d1⟩
theorem Bn.tr (s : Bn X x) : Bn (X.tr pn xe) x := ⟨s.gl, s.no⟩
theorem Sl.su (s : Sl X i x) : Sl (X.suite a pn) i x := ⟨s.at_, s.nd, s.loc, s.fn, s.d1, s.d2⟩
theorem Gn.su (s : Gn X x) : Gn (X.suite a pn) x := ⟨s.gl, s.d1⟩
theorem Bn.su (s : Bn X x) : Bn (X.suite a pn) x := ⟨s.gl, s.no⟩
theorem Body.tr {k : Nat} {E E' : L2.St → XK} (B : Body X k E) (tk : L2N.Takes (X.tr pn xe) fun cls d σ H => E' σ cls d H) (po : PassesOwn (model X.prog X.w) X.A X.env xe) : Body (X.tr pn xe) k E' := ⟨B.calm, B.room, tk, po, B.stk, B.fr⟩
end
section
variable {X : Cx} {x n : Str} {c : Value} {i k : Nat} {E : L2.St → XK} {D : Ends} {σ : L2.St} {H : Hp} {body suite : List Stmt} {b₀ : Stmt} {np pos pos' : Pos}
/-- an except suite: where it runs, a the exception -/
def Sui (X : Cx) (st : List Stmt) (a : Addr) (cls : Value) (d : Option Addr) : TS := fun D σ H => ∀ oe pn, L2N.Zn cls d oe → (∃ vs, oe.data = .fields vs) → WB (X.suite a ((a, oe) :: pn)) st D σ H
theorem ws_try_as (B : Body X k E) (s : Sl X i n) (hln : X.env.kindOf n = some .local) (hc : Names X x c)
    (h : ∀ pn xe, Body (X.tr pn xe) k (fun σ cls d H => wAs X.K c i (Sui X (b₀ :: suite)) (fun cls d σ H => E σ cls d H) D cls d σ H) → WB (X.tr pn xe) body D σ H) (hf : ∀ x, X.fn x = true := by assumption) :
    WS X (.Try body [.ExceptHandler (some (.Name x np)) (some n) (b₀ :: suite) pos'] [] [] pos) D σ H :=
  wsP (L2N.ps_try_as (tb := fun W D σ H => ∀ pn xe, L2N.Takes (X.tr pn xe) W → PassesOwn (model X.prog X.w) X.A X.env xe → WB (X.tr pn xe) body D σ H) (ts := Sui X (b₀ :: suite)) (B.stk hf) (B.fr hf) s.nd s.at_ hln hc B.tk
    (fun W pn xe tk po => ⟨fun pins t σ H D I q => q pn xe tk po pins t I⟩) (fun a oe cls d pn hz hf => ⟨fun pins t σ H D I q => q oe pn hz hf pins t I⟩)) fun pn xe tk po => h pn xe (B.tr tk po)
theorem ws_try_only (B : Body X k E) (hc : Names X x c)
    (h : ∀ pn xe, Body (X.tr pn xe) k (fun σ cls d H => wMany X.K (fun cls d σ H => E σ cls d H) D [(c, Sui X (b₀ :: suite))] cls d σ H) → WB (X.tr pn xe) body D σ H) (hf : ∀ x, X.fn x = true := by assumption) :
    WS X (.Try body [.ExceptHandler (some (.Name x np)) none (b₀ :: suite) pos'] [] [] pos) D σ H :=
  wsP (L2N.ps_try_many (tb := fun W D σ H => ∀ pn xe, L2N.Takes (X.tr pn xe) W → PassesOwn (model X.prog X.w) X.A X.env xe → WB (X.tr pn xe) body D σ H) (l := [(c, Sui X (b₀ :: suite))]) (B.stk hf) (B.fr hf) B.tk
    (fun W pn xe tk po => ⟨fun pins t σ H D I q => q pn xe tk po pins t I⟩) (.cons hc (fun a oe cls d pn hz hf => ⟨fun pins t σ H D I q => q oe pn hz hf pins t I⟩) .nil)) fun pn xe tk po => h pn xe (B.tr tk po)
theorem nm_own {C : Addr} (g : Gn X x) (hm : X.mg x = some (.ref C)) : Names X x (.ref C) := ⟨g.gl, g.d1, .inl hm⟩
/-- the clause takes the exception -/
theorem as_yes {K : PySem.W.Frag} {ts : Addr → Value → Option Addr → TS} {Wout : WX} {cls : Value} {d : Option Addr} (e : PySem.W.exmOne K cls c = some true)
    (h : ∀ a, H a = none → ts a cls d { nx := fun σ' H' => D.nx (σ'.set i none) H', rt := D.rt, bk := fun σ' H' => D.bk (σ'.set i none) H', ct := fun σ' H' => D.ct (σ'.set i none) H' } (σ.set i (some (.ref a))) H) : wAs K c i ts Wout D cls d σ H :=
  ⟨true, e, fun _ => h, fun q => nomatch q⟩
theorem as_no {K : PySem.W.Frag} {ts : Addr → Value → Option Addr → TS} {Wout : WX} {cls : Value} {d : Option Addr} (e : PySem.W.exmOne K cls c = some false) (h : Wout cls d σ H) : wAs K c i ts Wout D cls d σ H := ⟨false, e, (fun q => nomatch q), fun _ => h⟩
theorem only_yes {K : PySem.W.Frag} {ts : Addr → Value → Option Addr → TS} {Wout : WX} {cls : Value} {d : Option Addr} (e : PySem.W.exmOne K cls c = some true) (h : ∀ a, H a = none → ts a cls d D σ H) : wMany K Wout D [(c, ts)] cls d σ H := ⟨true, e, fun _ => h, fun q => nomatch q⟩
theorem only_no {K : PySem.W.Frag} {ts : Addr → Value → Option Addr → TS} {Wout : WX} {cls : Value} {d : Option Addr} (e : PySem.W.exmOne K cls c = some false) (h : Wout cls d σ H) : wMany K Wout D [(c, ts)] cls d σ H := ⟨false, e, (fun q => nomatch q), fun _ => h⟩
end
/-! ### isinstance(e, C) in a suite -/
section
variable {X : Cx} {a D : Addr} {oe : Obj} {pn : List (Addr × Obj)} {σ : L2.St} {H : Hp} {Q : VK} {e b : Expr} {p pos : Pos}
theorem we_isE (C : ExcC X.K D) (hz : L2N.Zn (.ref D) none oe) (hf : ∃ vs, oe.data = .fields vs) (bn : Bn (X.suite a ((a, oe) :: pn)) "isinstance")
    (h : WE (X.suite a ((a, oe) :: pn)) e σ H fun v H1 => WE (X.suite a ((a, oe) :: pn)) b σ H1 fun w H2 => v = .ref a ∧ ∃ cv r, (∀ u, RelV w u → u = cv) ∧ PySem.W.kitOne X.K (.ref D) cv = some r ∧ Q (.bl r) H2)
    (hs : starEach [e, b] X.env = (false, eval e X.env) :: starEach [b] X.env := by rfl) (ht : starEach [b] X.env = [(false, eval b X.env)] := by rfl) (hl : (backTo pos (starEach [b] X.env)).any (·.1) = false := by rfl) :
    WE (X.suite a ((a, oe) :: pn)) (.Call (.Name "isinstance" p) [e, b] [] pos) σ H Q :=
  we_callB (call_isE (pn := pn) C hz.zc hf) bn boot_isinstance (wa_two (we_mono h fun v H1 q => we_mono q fun w H2 q => by
    obtain ⟨rfl, cv, r, h1, h2, q⟩ := q
    exact ⟨w, cv, r, rfl, h1, h2, q⟩) hs ht) (by decide) (by decide) hs hl
theorem cv_ref {K : PySem.W.Frag} {C : Addr} {r : Bool} {P : Bool → Prop} (h : PySem.W.kitOne K (.ref D) (.ref C) = some r) (q : P r) : V.ref a = .ref a ∧ ∃ cv r, (∀ u, RelV (.ref C) u → u = cv) ∧ PySem.W.kitOne K (.ref D) cv = some r ∧ P r := ⟨rfl, _, _, fun _ z => z, h, q⟩
theorem cv_ty {K : PySem.W.Frag} {T : String} {r : Bool} {P : Bool → Prop} (h : PySem.W.kitOne K (.ref D) (.type T) = some r) (q : P r) : V.ref a = .ref a ∧ ∃ cv r, (∀ u, RelV (.ty T) u → u = cv) ∧ PySem.W.kitOne K (.ref D) cv = some r ∧ P r := ⟨rfl, _, _, fun _ z => z, h, q⟩
end
theorem excC_ok {K : PySem.W.Frag} {D : Addr} (h : excCB K D = true) : ExcC K D := by
  obtain ⟨h1, h⟩ := ba h
  obtain ⟨h2, h⟩ := ba h
  obtain ⟨h3, h⟩ := ba h
  obtain ⟨h4, h⟩ := ba h
  obtain ⟨h5, h⟩ := ba h
  obtain ⟨h6, h⟩ := ba h
  obtain ⟨h7, h8⟩ := ba h
  exact ⟨of_decide_eq_true h1, of_decide_eq_true h2, of_decide_eq_true h3, h4, of_decide_eq_true h5, of_decide_eq_true h6, of_decide_eq_true h7, of_decide_eq_true h8⟩
end Rs

namespace Rs
open PySem PySem.Spec PyProof.Rows L2 He PySem.Calls ClX
/-! ### keywords -/
def WK (X : Cx) (kws : List Keyword) : TA := fun σ H Q => ∀ pos pins s, Inv X pins σ H s → wpAny (model X.prog X.w) X.A (evalAll ((backToKw pos (keywordEach kws X.env)).map (·.2))) (AP X pins σ Q) X.xe s
theorem pkS {X : Cx} {kws : List Keyword} : PK X kws (WK X kws) := ⟨fun pos pins s _ _ _ I h => h pos pins s I⟩
section
variable {X : Cx} {σ : L2.St} {H : Hp} {Q : VK} {QA : List V → Hp → Prop} {k j n : Nat} {E : L2.St → XK} {x : Str} {sp : Sp} {p pos kpos : Pos} {e : Expr} {es : List Expr} {kws : List Keyword} {C f : Addr} {fd : FuncData} {ps ks : List Str} {nm : Option Str} {g : List Value → List Value → List Value} {gV : List V → List V → List V}
theorem wk_nil (q : QA [] H) : WK X [] σ H QA := fun pos pins s I => pk_nil.run pos pins s σ H QA I q
theorem wk_cons (h : WE X e σ H fun v H1 => WK X kws σ H1 fun vs H2 => QA (v :: vs) H2) : WK X (⟨nm, e, kpos⟩ :: kws) σ H QA := fun pos pins s I => (pk_cons peS pkS).run pos pins s σ H QA I h
/-- a def called with keywords -/
def GKn (P : Program) (w : World) (K : PySem.W.Frag) (mg : Str → Option Value) (base : Heap) (k : Nat) (x : Str) (sp : Sp) (n : Nat) (ks : List Str) (gV : List V → List V → List V) : Prop :=
  ∃ f fd ps g, mg x = some (.ref f) ∧ PySem.W.keepIn K (.ref f) = true ∧ FnOk P w K mg base (RX P w) k f fd ps sp ∧ KBn K fd ps n ks g gV
theorem kw_at {CX : CXT} {E : XK} {pins : List (Addr × Obj)} {s : Shared} {us ws : List Value} {vs zs : List V} (F : FnOk X.prog X.w X.K X.mg X.base CX k f fd ps sp) (hr : Room k X.A) (hb : KBn X.K fd ps n ks g gV) (hx : PassesAt CX X σ E)
    (I : Inv X pins σ H s) (r : Vals vs us) (rz : Vals zs ws) (l1 : vs.length = n) (l2 : zs.length = ks.length) (h : sp (gV vs zs) H Q E) : wpAny (model X.prog X.w) X.A (call (.ref f) us (ks.zip ws)) (EP X pins σ Q) X.xe s :=
  wpAny_call (codeAny_mono (F.run _ _ s H _ _ _ Q E hr I.env0 (hb.to s us ws I.kIn (r.length.symm.trans l1) (rz.length.symm.trans l2)) (hb.rel r rz) h) (out_at hx I))
theorem we_callK (B : Body X k E) (gn : Gn X x) (f : GKn X.prog X.w X.K X.mg X.base j x sp n ks gV) (hj : j ≤ k) (h : WA X (e :: es) σ H fun vs H1 => WK X kws σ H1 fun zs H2 => vs.length = n ∧ zs.length = ks.length ∧ sp (gV vs zs) H2 Q (E σ))
    (hall : (backToKw pos (keywordEach kws X.env)).all (·.1.isSome) = true := by rfl) (hks : (backToKw pos (keywordEach kws X.env)).filterMap (·.1) = ks := by rfl)
    (he : starEach (e :: es) X.env = (false, eval e X.env) :: starEach es X.env := by rfl) (hpl : ((backTo pos (starEach (e :: es) X.env)).any (·.1) || (backToKw pos (keywordEach kws X.env)).any (·.1.isNone)) = false := by rfl) :
    WE X (.Call (.Name x p) (e :: es) kws pos) σ H Q := by
  obtain ⟨f, fd, ps, g, hm, hk, F, hb⟩ := f
  intro pins s I
  refine wpAny_Call_Name_kw (ld_glob I gn.gl hm ?_ gn.d1)
  refine PySem.W.callWith_KW (h₀ := X.base) I.ok.mod.kin hk hall (thn (h pos pins s I) fun us s1 z => ?_) hpl he
  obtain ⟨vs, H1, I1, r, q⟩ := z
  refine thn (q pos pins s1 I1) fun ws s2 z => ?_
  obtain ⟨zs, H2, I2, rz, l1, l2, q⟩ := z
  refine ⟨I2.kIn, ?_⟩
  rw [hks]
  exact kw_at F (B.room.mono hj) hb (B.at σ) I2 r rz l1 l2 q
/-- a class made with keywords -/
def GKk (P : Program) (w : World) (K : PySem.W.Frag) (mg : Str → Option Value) (base : Heap) (k : Nat) (x : Str) (C : Addr) (sp : Sp) (n : Nat) (ks : List Str) (gV : List V → List V → List V) : Prop :=
  ∃ f fd ps g, mg x = some (.ref C) ∧ Mk K C f ∧ FnOk P w K mg base (RX P w) k f fd ps sp ∧ KBn K fd ps (n + 1) ks g gV
theorem kmake_at {CX : CXT} {E : XK} {pins : List (Addr × Obj)} {s : Shared} {us ws : List Value} {vs zs : List V} (M : Mk X.K C f) (F : FnOk X.prog X.w X.K X.mg X.base CX k f fd ps sp) (hr : Room (k + 1) X.A) (hb : KBn X.K fd ps (n + 1) ks g gV)
    (hx : PassesAt CX X σ E) (I : Inv X pins σ H s) (r : Vals vs us) (rz : Vals zs ws) (l1 : vs.length = n) (l2 : zs.length = ks.length) (h : ∀ a dx, H a = none → H dx = none → dx ≠ a → sp (gV (.ref a :: vs) zs) (upd (upd H dx (.own a)) a (.ins C dx [])) (fun v H2 => v = .non ∧ Q (.ref a) H2) E) :
    wpAny (model X.prog X.w) X.A (call (.ref C) us (ks.zip ws)) (EP X pins σ Q) X.xe s := by
  have J := Inv.made (C := C) I
  have hq := h (s.heap.objs.size + 1) s.heap.objs.size (I.hok.fresh (Nat.le_succ _)) (I.hok.fresh (Nat.le_refl _)) (Nat.ne_of_lt (Nat.lt_succ_self _))
  have ru : Vals (V.ref (s.heap.objs.size + 1) :: vs) (Value.ref (s.heap.objs.size + 1) :: us) := .cons rfl r
  have bd := hb.to _ (Value.ref (s.heap.objs.size + 1) :: us) ws J.kIn (ru.length.symm.trans (congrArg Nat.succ l1)) (rz.length.symm.trans l2)
  have run := F.run _ X.stack _ _ ⟨Value.ref (s.heap.objs.size + 1) :: us, ks.zip ws⟩ _ _ _ E (hr.make C us (ks.zip ws)) (J.env0.make C us (ks.zip ws)) bd (hb.rel ru rz) hq
  refine wpAny_call (make_map (f := f) I.kIn M.makes M.init (beq_iff_eq.mp M.fn) (codeAny_mono run fun o t q => ?_))
  have z := out_at hx J o t q
  cases o with
  | error e => exact z
  | ok fl =>
    cases fl with
    | ret u =>
      obtain ⟨v, H', I3, rv, rfl, q3⟩ := z
      exact ⟨rv, ⟨V.ref (s.heap.objs.size + 1), H', I3, rfl, q3⟩⟩
    | next => exact z.elim
    | brk => exact z.elim
    | cont => exact z.elim
theorem we_makeK (B : Body X k E) (gn : Gn X x) (f : GKk X.prog X.w X.K X.mg X.base j x C sp n ks gV) (hj : j + 1 ≤ k) (h : WA X (e :: es) σ H fun vs H1 => WK X kws σ H1 fun zs H2 => vs.length = n ∧ zs.length = ks.length ∧ ∀ a dx, H2 a = none → H2 dx = none → dx ≠ a → sp (gV (.ref a :: vs) zs) (upd (upd H2 dx (.own a)) a (.ins C dx [])) (fun v H3 => v = .non ∧ Q (.ref a) H3) (E σ))
    (hall : (backToKw pos (keywordEach kws X.env)).all (·.1.isSome) = true := by rfl) (hks : (backToKw pos (keywordEach kws X.env)).filterMap (·.1) = ks := by rfl)
    (he : starEach (e :: es) X.env = (false, eval e X.env) :: starEach es X.env := by rfl) (hpl : ((backTo pos (starEach (e :: es) X.env)).any (·.1) || (backToKw pos (keywordEach kws X.env)).any (·.1.isNone)) = false := by rfl) :
    WE X (.Call (.Name x p) (e :: es) kws pos) σ H Q := by
  obtain ⟨f, fd, ps, g, hm, M, F, hb⟩ := f
  intro pins s I
  refine wpAny_Call_Name_kw (ld_glob I gn.gl hm ?_ gn.d1)
  refine PySem.W.callWith_KW (h₀ := X.base) I.ok.mod.kin M.kp hall (thn (h pos pins s I) fun us s1 z => ?_) hpl he
  obtain ⟨vs, H1, I1, r, q⟩ := z
  refine thn (q pos pins s1 I1) fun ws s2 z => ?_
  obtain ⟨zs, H2, I2, rz, l1, l2, q⟩ := z
  refine ⟨I2.kIn, ?_⟩
  rw [hks]
  exact kmake_at M F (B.room.mono hj) hb (B.at σ) I2 r rz l1 l2 q
theorem we_makeK0 (B : Body X k E) (gn : Gn X x) (f : GKk X.prog X.w X.K X.mg X.base j x C sp 0 ks gV) (hj : j + 1 ≤ k) (h : WK X kws σ H fun zs H2 => zs.length = ks.length ∧ ∀ a dx, H2 a = none → H2 dx = none → dx ≠ a → sp (gV [.ref a] zs) (upd (upd H2 dx (.own a)) a (.ins C dx [])) (fun v H3 => v = .non ∧ Q (.ref a) H3) (E σ))
    (hall : (backToKw pos (keywordEach kws X.env)).all (·.1.isSome) = true := by rfl) (hks : (backToKw pos (keywordEach kws X.env)).filterMap (·.1) = ks := by rfl)
    (hpl : ((backTo pos (starEach [] X.env)).any (·.1) || (backToKw pos (keywordEach kws X.env)).any (·.1.isNone)) = false := by rfl) :
    WE X (.Call (.Name x p) [] kws pos) σ H Q := by
  obtain ⟨f, fd, ps, g, hm, M, F, hb⟩ := f
  intro pins s I
  refine wpAny_Call_Name_kw (ld_glob I gn.gl hm ?_ gn.d1)
  refine PySem.W.callWith_KW0 (h₀ := X.base) I.ok.mod.kin M.kp hall ?_ hpl
  refine thn (h pos pins s I) fun ws s2 z => ?_
  obtain ⟨zs, H2, I2, rz, l2, q⟩ := z
  refine ⟨I2.kIn, ?_⟩
  rw [hks]
  exact kmake_at (us := []) (vs := []) M F (B.room.mono hj) hb (B.at σ) I2 .nil rz rfl l2 q
end
/-! ### C.m(..), m a static method -/
structure StatOf (K : PySem.W.Frag) (C : Addr) (m : Str) (p g : Addr) : Prop where
  rd : CRead K C (.type "type")
  ty : PySem.W.typeIn K (.ref C) = some (.type "type")
  at_ : PySem.W.findCls K (.ref C) (.type "type") m = some (.get (.builtin "staticmethod.__get__") (.ref p) .none (.ref C))
  rc : ∃ rest, PySem.W.recIn K p "staticmethod" = some (.ref g :: rest)
  kp : PySem.W.keepIn K (.ref g) = true
def sgA (K : PySem.W.Frag) (C : Addr) (m : Str) : Addr := match PySem.W.recIn K (ma K C m) "staticmethod" with
  | some (.ref g :: _) => g
  | _ => 0
def statB (K : PySem.W.Frag) (C : Addr) (m : Str) : Bool := PySem.W.readsIn K C (.type "type") && (decide (PySem.W.specialIn K (.ref C) "__getattribute__" = some (some (.builtin "type.__getattribute__"))) && (decide (PySem.W.typeIn K (.ref C) = some (.type "type")) &&
  ((match PySem.W.findCls K (.ref C) (.type "type") m with
    | some (.get i p o D) => decide (i = .builtin "staticmethod.__get__") && (decide (p = .ref (ma K C m)) && (decide (o = .none) && decide (D = .ref C)))
    | _ => false) && (PySem.W.keepIn K (.ref (sgA K C m)) &&
  (match PySem.W.recIn K (ma K C m) "staticmethod" with
    | some (.ref g :: _) => decide (g = sgA K C m)
    | _ => false)))))
theorem stat_ok {K : PySem.W.Frag} {C : Addr} {m : Str} (h : statB K C m = true) : StatOf K C m (ma K C m) (sgA K C m) := by
  obtain ⟨h1, h⟩ := ba h
  obtain ⟨h2, h⟩ := ba h
  obtain ⟨h3, h⟩ := ba h
  obtain ⟨h4, h⟩ := ba h
  obtain ⟨h5, h6⟩ := ba h
  refine ⟨⟨h1, of_decide_eq_true h2⟩, of_decide_eq_true h3, ?_, ?_, h5⟩
  · generalize hr : PySem.W.findCls K (.ref C) (.type "type") m = r at h4
    match r, h4 with
    | some (.get i p o D), h4 =>
      obtain ⟨q1, q⟩ := ba h4
      obtain ⟨q2, q⟩ := ba q
      obtain ⟨q3, q4⟩ := ba q
      rw [of_decide_eq_true q1, of_decide_eq_true q2, of_decide_eq_true q3, of_decide_eq_true q4]
  · generalize hr : PySem.W.recIn K (ma K C m) "staticmethod" = r at h6
    match r, h6 with
    | some (.ref g :: rest), h6 => exact ⟨rest, by rw [of_decide_eq_true h6]⟩
section
variable {X : Cx} {σ : L2.St} {H : Hp} {Q : VK} {k j : Nat} {E : L2.St → XK} {m : Str} {sp : Sp} {pos apos : Pos} {o e : Expr} {es : List Expr} {C p g : Addr}
theorem we_stat {pl : Sem Bool} (B : Body X k E) (t : StatOf X.K C m p g) (F : FnR X.prog X.w X.K X.mg X.base (RX X.prog X.w) j g sp) (hj : j ≤ k) (h : WE X o σ H fun y H1 => y = .ref C ∧ WA X (e :: es) σ H1 fun vs H2 => sp vs H2 Q (E σ))
    (hs : starEach (e :: es) X.env = (false, eval e X.env) :: starEach es X.env := by rfl) (hl : (backTo pos (starEach es X.env)).any (·.1) = false := by rfl)
    (ht : eval (.Call (.Attribute o m apos) (e :: es) [] pos) X.env = (do
      let it ← eval o X.env
      standAt apos.atName
      let (g, first) ← holding [it] (getMethod it m pl)
      callWith pos g first (backTo pos (starEach (e :: es) X.env)) (backToKw pos (keywordEach [] X.env))) := by rfl) : WE X (.Call (.Attribute o m apos) (e :: es) [] pos) σ H Q := by
  intro pins s I
  refine PySem.W.methodCall_KW (pl := pl) (thn (h pins s I) fun u s1 z => ?_) ht
  obtain ⟨y, H1, I1, ry, rfl, q⟩ := z
  cases ry
  obtain ⟨rest, hp⟩ := t.rc
  refine PySem.W.method_cls I1.kIn t.rd.ga (PySem.W.cls_bind I1.kIn t.rd.rd t.at_ (wpAny_call (PySem.W.sm_get (s := { s1 with toks := s1.toks + 1 }) I1.kIn hp (PySem.W.handed_on rfl ?_))))
  have I2 := I1.tok (s1.toks + 1)
  refine PySem.W.callWith_K (first := []) (h₀ := X.base) I.ok.mod.kin t.kp (thn (q pos pins _ I2) fun us s2 z => ?_) hs hl
  obtain ⟨vs, H2, I3, r, q2⟩ := z
  exact ⟨I3.kIn, go_at F (B.room.mono hj) (B.at σ) I3 r q2⟩
end
/-! ### an own __bool__ -/
structure BoolOwn (K : PySem.W.Frag) (C f : Addr) : Prop where
  at_ : PySem.W.findIn K (.ref C) "__bool__" = some (some (.ref f))
  fn : PySem.W.isFn K (.ref f) = true
def boolOwnB (K : PySem.W.Frag) (C f : Addr) : Bool := decide (PySem.W.findIn K (.ref C) "__bool__" = some (some (.ref f))) && PySem.W.isFn K (.ref f)
theorem boolOwn_ok {K : PySem.W.Frag} {C f : Addr} (h : boolOwnB K C f = true) : BoolOwn K C f := by
  obtain ⟨h1, h2⟩ := ba h
  exact ⟨of_decide_eq_true h1, h2⟩
theorem bool_own {prog : Program} {w : World} {A : Around} {R : Value → Shared → Prop} {P : Value → Shared → Prop} {s : Shared} {K : PySem.W.Frag} {x C f : Addr} {ox : Obj} {od : Option Obj} (KX : K.In s.heap) (J : PySem.W.InstAt s.heap x ox C od) (c : BoolOwn K C f)
    (h : wpAny (model prog w) A.in1.in1 (call (.ref f) [.ref x]) (fun v t => ∃ b, v = .bool b ∧ P (.bool b) t) R s) : wpAny (model prog w) A (call (.type "bool") [.ref x]) P R s := by
  refine callType_codes (T := "bool") (Bi := Builtin.«object.__init__») (Q₁ := fun r t => ∃ b, r = .bool b ∧ P r t) PySem.F.called_bool (PySem.F.typeCall_bool_1 _) PySem.F.entry_object_init ?_ ?_
  · refine codeAny_of_tree ?_
    show wpAny _ A.in1.in1 (do checkBuiltinCall "bool.__new__" ⟨[.type "bool", .ref x], []⟩; again (.builtin "bool.__new__" ⟨[.type "bool", .ref x], []⟩)) _ _ s
    refine wpAny_bind (wpAny_of_eq (PySem.F.newCall_bool_1 _) (wpAny_pure ⟨plainId_quiet (by decide +kernel) _, codeAny_builtin PySem.F.entry_bool_new ?_⟩))
    rw [Around.under_plainId (by decide +kernel) _]
    unfold Builtin.«bool.__new__»
    have f1 := PySem.F.conv_sub_bool
    repeat (first
      | (refine wpAny_bind (m := callSpecial? (.ref x) (Str.ofString "__bool__")) (PySem.W.special_fn KX J c.at_ (beq_iff_eq.mp c.fn) (wpAny_mono h (fun v t z => ?_) fun _ _ z => z)))
      | (unfold truthy; refine wpAny_bind (wpAny_bind (m := callSpecial? (.ref x) (Str.ofString "__bool__")) (PySem.W.special_fn KX J c.at_ (beq_iff_eq.mp c.fn) (wpAny_mono h (fun v t z => ?_) fun _ _ z => z))))
      | assumption
      | wp_step)
    obtain ⟨b, rfl, q⟩ := z
    repeat (first | exact ⟨b, rfl, q⟩ | exact wpAny_pure ⟨b, rfl, q⟩ | wp_step)
  · rintro obj t ⟨b, rfl, q⟩
    exact ⟨rfl, PySem.F.args_object_init_2 _ _, object_init_meets PySem.F.called_bool.init.lookup PySem.F.called_bool.made (by decide) prog w A.in1 _ t ⟨rfl, rfl, q⟩⟩
end Rs

namespace Rs
open PySem PySem.Spec PyProof.Rows L2 He
/-! ### calls within an except suite (of defs that raise nothing there) -/
section
variable {P : Program} {w : World} {K : PySem.W.Frag} {mg : Str → Option Value} {base : Heap} {N ps : List Str} {name qual : Str} {pa : Arguments} {body : List Stmt} {sc : Scope} {dvs : List V} {kws : List (Str × V)} {f : Addr} {fd : FuncData} {k : Nat} {sp : Sp}
theorem def_okH (F : FunD K name qual pa body sc dvs kws f fd) (S : FnScope N ps sc) (len : ∀ vs H Q E, sp vs H Q E → vs.length = ps.length)
    (hb : ∀ (X : Cx), X.prog = P → X.w = w → X.K = K → X.mg = mg → X.base = base → X.N = N → X.env.scope = sc → (∀ x, X.fn x = true) → N.Nodup → ∀ (H : Hp) (vs : List V) (Q : VK) (E : XK), L2H.HotC X → L2H.RoomH k X.A → sp vs H Q E → WB X body { nx := fun _ H' => Q .non H', rt := Q } (start N vs) H) :
    L2H.FnH P w K mg base CX0 (k + 1) f fd ps sp := by
  obtain ⟨oc, od, dV, kV, doc, pm, an, cdv, ct, osl, rfl, lk, hcd, _, _⟩ := F.ex
  exact L2H.fn_ofH lk hcd S len fun A outer s H vs Q E p hot hr h => ⟨_, pbS, hb (L2H.cxH CX0 P w K mg base N qual sc f cdv A outer s H E p) rfl rfl rfl rfl rfl rfl rfl (fun _ => rfl) S.nd H vs Q E ⟨p, hot, List.mem_cons_self⟩ hr h⟩
def GFnH (P : Program) (w : World) (K : PySem.W.Frag) (mg : Str → Option Value) (base : Heap) (k : Nat) (x : Str) (sp : Sp) : Prop :=
  ∃ f fd ps, mg x = some (.ref f) ∧ PySem.W.keepIn K (.ref f) = true ∧ L2H.FnH P w K mg base CX0 k f fd ps sp ∧ Binds K fd ps []
end
section
variable {X : Cx} {σ : L2.St} {H : Hp} {Q : VK} {k j : Nat} {x : Str} {sp : Sp} {p pos : Pos} {e : Expr} {es : List Expr}
theorem we_callH (hc : L2H.HotC X) (hr : L2H.RoomH k X.A) (g : Gn X x) (f : GFnH X.prog X.w X.K X.mg X.base j x sp) (hj : j ≤ k) (h : WA X (e :: es) σ H fun vs H1 => sp vs H1 Q E0)
    (hs : starEach (e :: es) X.env = (false, eval e X.env) :: starEach es X.env := by rfl) (hl : (backTo pos (starEach es X.env)).any (·.1) = false := by rfl) : WE X (.Call (.Name x p) (e :: es) [] pos) σ H Q := by
  obtain ⟨a, fd, ps, hm, hk, F, hb⟩ := f
  exact weP (L2H.pe_callH (E := fun _ => E0) F (hr.mono hj) hc g.gl hm hk hb (fun σ _ _ _ _ _ _ c => c.elim) paS g.d1 hs hl) h
theorem hot_suite {a : Addr} {oe : Obj} {cls : Value} {d : Option Addr} {pn : List (Addr × Obj)} (hz : L2N.Zn cls d oe) (hf : ∃ vs, oe.data = .fields vs) : L2H.HotC (X.suite a ((a, oe) :: pn)) := by
  obtain ⟨vs, hv⟩ := hf
  exact ⟨(a, oe), ⟨rfl, vs, hv, hz.2.2 vs hv⟩, List.mem_cons_self⟩
theorem room_suite {a : Addr} {pn : List (Addr × Obj)} {E : L2.St → XK} (B : Body X k E) : L2H.RoomH k (X.suite a pn).A := ⟨B.room.dp, B.room.un⟩
end
end Rs

namespace Rs
open PySem PySem.Spec PyProof.Rows L2 He
/-! ### operators that may raise, at these slots -/
def OpA (X : Cx) (f : Value → Value → Sem Value) (σ : L2.St) (x y : V) (H : Hp) (Q : VK) : Prop := ∀ pins s u v, Inv X pins σ H s → RelV x u → RelV y v → wpAny (model X.prog X.w) X.A (f u v) (EP X pins σ Q) X.xe s
section
variable {X : Cx} {σ : L2.St} {k j : Nat} {E : L2.St → XK} {sp : Sp} {C f g a b dx dy : Addr} {fs gs : List (Str × V)} {H : Hp} {Q : VK} {op : Operator} {i : Int} {e1 e2 : Expr} {pos : Pos}
theorem we_binA (h : WE X e1 σ H fun x H1 => WE X e2 σ H1 fun y H2 => OpA X (binaryOp op) σ x y H2 Q) : WE X (.BinOp e1 op e2 pos) σ H Q := fun pins s I =>
  wpAny_BinOp (binT peS peS (R := fun x y H2 => OpA X (binaryOp op) σ x y H2 Q) I h fun v u s2 x y H2 I2 rx ry q => q pins s2 v u I2 rx ry)
theorem binA_tt (B : Body X k E) (c : BinOwn X.K C f op) (F : FnR X.prog X.w X.K X.mg X.base (RX X.prog X.w) j f sp) (hj : j ≤ k) (ea : H a = some (.ins C dx fs)) (eb : H b = some (.ins C dy gs)) (h : sp [.ref a, .ref b] H Q (E σ)) :
    OpA X (binaryOp op) σ (.ref a) (.ref b) H Q := by
  intro pins s u v I ru rv
  cases ru
  cases rv
  obtain ⟨od, J⟩ := inst_of I ea
  obtain ⟨od', J'⟩ := inst_of I eb
  obtain ⟨m, hF⟩ := I.fr
  exact PySem.W.binop_K hF I.ok.mod.kin J J'.type c.sf c.at_ c.fn (back (go_at (vs := [.ref a, .ref b]) F (B.room.mono hj) (B.at σ) I (.cons rfl (.cons rfl .nil)) h))
theorem binA_ti (B : Body X k E) (c : BinOwn X.K C f op) (F : FnR X.prog X.w X.K X.mg X.base (RX X.prog X.w) j f sp) (hj : j ≤ k) (ea : H a = some (.ins C dx fs)) (h : sp [.ref a, .int i] H Q (E σ)) : OpA X (binaryOp op) σ (.ref a) (.int i) H Q := by
  intro pins s u v I ru rv
  cases ru
  obtain ⟨t, rfl⟩ := rv
  obtain ⟨od, J⟩ := inst_of I ea
  obtain ⟨m, hF⟩ := I.fr
  obtain ⟨rc, h1, h2⟩ := c.rc
  obtain ⟨fo, ro, h3, h4⟩ := c.it
  exact PySem.W.ksp_binT (T := "int") hF I.ok.mod.kin J rfl c.sf c.at_ c.fn h1 h2 h3 h4 c.sub (back (go_at (vs := [.ref a, .int i]) F (B.room.mono hj) (B.at σ) I (.cons rfl (.cons ⟨t, rfl⟩ .nil)) h))
theorem binA_it (B : Body X k E) (c : BinRef X.K C g op) (hf : fillsNumberSlot (.type "int") op.info.2 = pure true) (d : IntDecl (dunder op.info.2)) (F : FnR X.prog X.w X.K X.mg X.base (RX X.prog X.w) j g sp) (hj : j ≤ k) (ea : H a = some (.ins C dx fs))
    (h : sp [.ref a, .int i] H Q (E σ)) : OpA X (binaryOp op) σ (.int i) (.ref a) H Q := by
  intro pins s u v I ru rv
  cases rv
  obtain ⟨t, rfl⟩ := ru
  obtain ⟨od, J⟩ := inst_of I ea
  exact int_left I.kIn J rfl c hf d (back (go_at (vs := [.ref a, .int i]) F (B.room.mono hj) (B.at σ) I (.cons rfl (.cons ⟨t, rfl⟩ .nil)) h))
theorem op2A {f : Value → Value → Sem Value} {x y : V} (h : Op2 X f x y H Q) : OpA X f σ x y H Q := fun pins s u v I => h pins s σ u v I
end
theorem decl_fdiv (i : Int) (t : Tok) (x : Addr) (ox : Obj) : Meets (Builtin.«int.__floordiv__» ⟨[.int i t, .ref x], []⟩) (DeclS x ox) := .of_wp fun prog w A R s q => by
  obtain ⟨hp, g, d, tk, os⟩ := s
  obtain ⟨e1, e2, z⟩ := q
  wp_walk using AutoSeq1.wpAny_loadPart' e1, wpAny_load e1
  simp only [e2]
  wp_walk using AutoSeq1.wpAny_loadPart' e1, wpAny_load e1
  simp only [e2]
  wp_walk using AutoSeq1.wpAny_loadPart' e1, wpAny_load e1
  exact ⟨_, rfl, z⟩
theorem idecl_fdiv : IntDecl (dunder "floordiv") := ⟨_, _, PySem.F.slot_int_floordiv, PySem.F.entry_int_floordiv, PySem.F.args_int_floordiv_2, decl_fdiv⟩
end Rs

namespace Rs
open PySem PySem.Spec PyProof.Rows L2 He
/-! ### within a comprehension's block -/
abbrev Bk (X : Cx) (s : Shared) (H : Hp) (scope : Scope) (C : Addr) (cl : List (Str × Addr)) (fp : List Addr) : Cx := X.blk s H scope (compEnvC scope cl C X.env) fp
section
variable {X : Cx} {s : Shared} {H : Hp} {scope : Scope} {C : Addr} {cl : List (Str × Addr)} {fp : List Addr} {k i : Nat} {E : L2.St → XK} {x : Str}
theorem Body.blk (B : Body X k E) (h0 : scope.names.lookup ("0" : Str) = none) : Body (Bk X s H scope C cl fp) k fun _ => E0 :=
  ⟨B.calm, B.room, (fun _ _ y => by obtain ⟨_, _, _, _, _, _, _, _, _, _, _, _, _, _, _, _, z⟩ := y; exact z.elim), PassesOwn.never,
    (fun hf => absurd (hf "0") (by show ¬ ((scope.names.lookup ("0" : Str) == some NameKind.cell) = true); rw [h0]; decide)), (fun hf => absurd (hf "0") (by show ¬ ((scope.names.lookup ("0" : Str) == some NameKind.cell) = true); rw [h0]; decide))⟩
/-- a name that is read -/
structure SlF (X : Cx) (i : Nat) (x : Str) : Prop where
  at_ : X.N[i]? = some x
  vis : Vis X.env.scope x
  d1 : (x == ("__debug__" : Str)) = false
  d2 : (x == ("__classdict__" : Str)) = false
theorem we_nameF {σ : L2.St} {H : Hp} {Q : VK} {v : V} {pos : Pos} (n : SlF X i x) (h : σ[i]? = some (some v)) (q : Q v H) : WE X (.Name x pos) σ H Q := weP (pe_var n.at_ n.vis n.d1 n.d2) ⟨v, h, q⟩
theorem Sl.own (n : Sl X i x) (h : scope.names.lookup x = some .local) : Sl (Bk X s H scope C cl fp) i x :=
  ⟨n.at_, n.nd, .inl (lookup_relS_keep (by decide) h), .inr (lookup_relS_keep (by decide) h), n.d1, n.d2⟩
/-- the block's own name -/
theorem own_of {N : List Str} (eN : X.N = N) (nd : N.Nodup) (hi : N[i]? = some x) (h : scope.names.lookup x = some .local) (d1 : (x == ("__debug__" : Str)) = false) (d2 : (x == ("__classdict__" : Str)) = false) : Sl (Bk X s H scope C cl fp) i x :=
  ⟨by show X.N[i]? = _; rw [eN]; exact hi, by show X.N.Nodup; rw [eN]; exact nd, .inl (lookup_relS_keep (by decide) h), .inr (lookup_relS_keep (by decide) h), d1, d2⟩
theorem gn_blk (h : scope.names.lookup x = some .globalImplicit) (d1 : (x == ("__debug__" : Str)) = false) : Gn (Bk X s H scope C cl fp) x := ⟨lookup_relS_keep (by decide) h, d1⟩
theorem bn_blk (h : scope.names.lookup x = some .globalImplicit) (no : X.mg x = none) : Bn (Bk X s H scope C cl fp) x := ⟨lookup_relS_keep (by decide) h, no⟩
/-- a name captured from the def -/
theorem free_of {N : List Str} {sc : Scope} (eN : X.N = N) (es : X.env.scope = sc) (hi : N[i]? = some x) (h : (relS scope sc).names.lookup x = some .cell) (d1 : (x == ("__debug__" : Str)) = false) (d2 : (x == ("__classdict__" : Str)) = false) : SlF (Bk X s H scope C cl fp) i x :=
  ⟨by show X.N[i]? = _; rw [eN]; exact hi, .inr (.inl (by show (relS scope X.env.scope).names.lookup x = _; rw [es]; exact h)), d1, d2⟩
end
/-! ### [e for x in xs] -/
/-- what the items come to -/
def LcG (X : Cx) (scope : Scope) (elt : Expr) (i : Nat) (sq : Hp → Addr → List V → Prop) (σ : L2.St) (a : Addr) (xs : List V) (Q : VK) (H1 : Hp) : Prop :=
  ∀ D, H1 D = none → ∃ P : Nat → Hp → Prop, P 0 (upd H1 D (.lst [])) ∧ (∀ j H, j ≤ xs.length → P j H → sq H a xs) ∧
    (∀ j v H, xs[j]? = some v → P j H → ∀ s H0 C cl fp, WE (Bk X s H0 scope C cl fp) elt (σ.set i (some v)) H fun y H4 => ∃ acc, H4 D = some (.lst acc) ∧ acc.length < sizeLine ∧ P (j + 1) (upd H4 D (.lst (acc ++ [y])))) ∧ ∀ H, P xs.length H → Q (.ref D) H
section
variable {X : Cx} {σ : L2.St} {H : Hp} {Q : VK} {D : Ends} {k i n : Nat} {E : L2.St → XK} {x y : Str} {scope : Scope} {elt iter : Expr} {px py pos spos : Pos}
theorem set2 {σ : L2.St} {i : Nat} {a b : Option V} : (σ.set i a).set i b = σ.set i b := List.set_set ..
def teB (X : Cx) (scope : Scope) (elt : Expr) : TE := fun σ H Q => ∀ s H0 C cl fp, WE (Bk X s H0 scope C cl fp) elt σ H Q
theorem lc_by (h : WE X iter σ H fun v H1 => ∃ a xs, v = .ref a ∧ SqL X.K H1 a xs ∧ LcG X scope elt i (SqL X.K) σ a xs Q H1) : tLc (iList X.K (WE X iter)) (gName i) tYes (teB X scope elt) [i] σ H Q := by
  refine we_mono h fun v H1 q => ?_
  obtain ⟨a, xs, rfl, hq, q⟩ := q
  refine ⟨a, rfl, ⟨xs, hq⟩, fun D hD => ?_⟩
  obtain ⟨P, h0, hl, hs, hd⟩ := q D hD
  refine lc_list P h0 hl (fun j v H hv p => ?_) hd
  refine ⟨(show ((σ.set i none).set i (some v)).set i none = σ.set i none by rw [set2, set2]), (iteT (B := P (j + 1) H) ?_ : if true = true then teB X scope elt ((σ.set i none).set i (some v)) H fun y H4 => ∃ acc, H4 D = some (.lst acc) ∧ acc.length < sizeLine ∧ P (j + 1) (upd H4 D (.lst (acc ++ [y]))) else P (j + 1) H)⟩
  intro s H0 C cl fp
  have e : (σ.set i none).set i (some v) = σ.set i (some v) := set2
  have z := hs j v H hv p s H0 C cl fp
  rw [← e] at z
  exact z
theorem lc_byT (h : WE X iter σ H fun v H1 => ∃ a xs, v = .ref a ∧ SqT X.K H1 a xs ∧ LcG X scope elt i (SqT X.K) σ a xs Q H1) : tLc (iTup X.K (WE X iter)) (gName i) tYes (teB X scope elt) [i] σ H Q := by
  refine we_mono h fun v H1 q => ?_
  obtain ⟨a, xs, rfl, hq, q⟩ := q
  refine ⟨a, rfl, ⟨xs, hq⟩, fun D hD => ?_⟩
  obtain ⟨P, h0, hl, hs, hd⟩ := q D hD
  refine lc_tup P h0 hl (fun j v H hv p => ?_) hd
  refine ⟨(show ((σ.set i none).set i (some v)).set i none = σ.set i none by rw [set2, set2]), (iteT (B := P (j + 1) H) ?_ : if true = true then teB X scope elt ((σ.set i none).set i (some v)) H fun y H4 => ∃ acc, H4 D = some (.lst acc) ∧ acc.length < sizeLine ∧ P (j + 1) (upd H4 D (.lst (acc ++ [y]))) else P (j + 1) H)⟩
  intro s H0 C cl fp
  have e : (σ.set i none).set i (some v) = σ.set i (some v) := set2
  have z := hs j v H hv p s H0 C cl fp
  rw [← e] at z
  exact z
theorem peB : ∀ (s : Shared) (H : Hp) (C : Addr) (cl : List (Str × Addr)) (fp : List Addr), PE (X.blk s H scope (compEnvC scope cl C X.env) fp) elt (teB X scope elt) := fun s H C cl fp => ⟨fun pins t σ H' Q I h => h s H C cl fp pins t I⟩
theorem we_lc (B : Body X k E) (nd : X.N.Nodup) (hi : X.N[i]? = some x) (hx : scope.names.lookup x = some .local) (ok : BlkOk X.N X.env.scope scope [(x, i)])
    (h : WE X iter σ H fun v H1 => ∃ a xs, v = .ref a ∧ SqL X.K H1 a xs ∧ LcG X scope elt i (SqL X.K) σ a xs Q H1) (hs : ∀ v, foldedSetIterable iter X.env v = pure v := by intro _; rfl) : WE X (.ListComp elt [⟨.Name x px, iter, [], 0⟩] scope pos) σ H Q :=
  weP (pe_lc (own := [(x, i)]) (g := gName i) (tt := tYes) B.calm nd (pi_list peS) ok (fun _ _ _ _ _ => pg_name nd hi (.inl (lookup_relS_keep (by decide) hx)) (.inr (lookup_relS_keep (by decide) hx))) (fun _ _ _ _ _ => pts_nil) peB hs) (lc_by h)
theorem we_lcT (B : Body X k E) (nd : X.N.Nodup) (hi : X.N[i]? = some x) (hx : scope.names.lookup x = some .local) (ok : BlkOk X.N X.env.scope scope [(x, i)])
    (h : WE X iter σ H fun v H1 => ∃ a xs, v = .ref a ∧ SqT X.K H1 a xs ∧ LcG X scope elt i (SqT X.K) σ a xs Q H1) (hs : ∀ v, foldedSetIterable iter X.env v = pure v := by intro _; rfl) : WE X (.ListComp elt [⟨.Name x px, iter, [], 0⟩] scope pos) σ H Q :=
  weP (pe_lc (own := [(x, i)]) (g := gName i) (tt := tYes) B.calm nd (pi_tup peS) ok (fun _ _ _ _ _ => pg_name nd hi (.inl (lookup_relS_keep (by decide) hx)) (.inr (lookup_relS_keep (by decide) hx))) (fun _ _ _ _ _ => pts_nil) peB hs) (lc_byT h)
theorem ws_setLc (B : Body X k E) (m : Sl X n y) (hy : X.env.scope.names.lookup y = some .local) (hk : X.env.scope.kind = .function) (hi : X.N[i]? = some x) (hx : scope.names.lookup x = some .local) (ok : BlkOk X.N X.env.scope scope [(x, i)])
    (h : WE X iter σ H fun v H1 => ∃ a xs, v = .ref a ∧ SqL X.K H1 a xs ∧ LcG X scope elt i (SqL X.K) σ a xs (fun v H' => D.nx (σ.set n (some v)) H') H1) (hl : (py.line == spos.line) = true := by rfl)
    (ha : (scope.names.any fun (n, k) => n == y && (k == .local || k == .cell)) = false := by decide +kernel) (he : pos.line = spos.line := by rfl) (hs : ∀ v, foldedSetIterable iter X.env v = pure v := by intro _; rfl) :
    WS X (.Assign [.Name y py] (.ListComp elt [⟨.Name x px, iter, [], 0⟩] scope pos) spos) D σ H :=
  wsP (ps_setLc (own := [(x, i)]) (g := gName i) (tt := tYes) B.calm m.nd m.at_ hy (sw_true hk hy (by rw [he]; exact hl) ha) (pi_list peS) ok (fun _ _ _ _ _ => pg_name m.nd hi (.inl (lookup_relS_keep (by decide) hx)) (.inr (lookup_relS_keep (by decide) hx))) (fun _ _ _ _ _ => pts_nil) peB hs) (lc_by h)
end
end Rs

namespace Rs
open PySem PySem.Spec PyProof.Rows L2 He PySem.Calls
/-! ### for i, x in enumerate(a tuple) -/
theorem new_enum (a : Addr) (its : Array Value) :
    Meets (Builtin.«enumerate.__new__» ⟨[.type "enumerate", .ref a], []⟩) (fun _ R t => Heap.IsTuple t.heap a its ∧
      R (.ok (.ret (.ref (t.heap.push { cls := .type "tuple_iterator", data := .fields #[.ref a, .int 0 0] }).objs.size)))
        { t with heap := (t.heap.push { cls := .type "tuple_iterator", data := .fields #[.ref a, .int 0 0] }).push { cls := .type "enumerate", data := .fields #[.none, .bool false, .ref t.heap.objs.size, rawInt 0, .none, .none] } }) :=
  .of_wp fun pg wd A R t z => by
    obtain ⟨hh, gg, dd, kk, oo⟩ := t
    obtain ⟨y, z⟩ := z
    have su := PySem.sub_enumerate
    have st : ∀ {A' : Around} {E : Value → Shared → Prop} {Q : Value → Shared → Prop}, Q (.ref hh.objs.size) ⟨hh.push { cls := .type "tuple_iterator", data := .fields #[.ref a, .int 0 0] }, gg, dd, kk, oo⟩ → wpAny (model pg wd) A' (pyIter (.ref a)) Q E ⟨hh, gg, dd, kk, oo⟩ :=
      fun q => wpAny_pyIter_tuple (s := ⟨hh, gg, dd, kk, oo⟩) y q
    wp_walk using st
    refine wpAny_stack_any fun fr => wpAny_pure ?_
    split
    · rename_i cc _ _ _ _ _
      cases (cc == Value.type "enumerate")
      all_goals (wp_walk using st; exact ⟨_, rfl, z⟩)
    · wp_walk using st
      exact ⟨_, rfl, z⟩
section
variable {prog : Program} {w : World} {A : Around} {E : Value → Shared → Prop} {s : Shared}
theorem call_enumT {a : Addr} {its : Array Value} {Q : Value → Shared → Prop} (y : Heap.IsTuple s.heap a its)
    (h : ∀ h', IsEnum h' (s.heap.objs.size + 1) s.heap.objs.size 0 .none → h'.IsTupleIter s.heap.objs.size a 0 → (∀ b o, s.heap.get? b = some o → h'.get? b = some o) → Q (.ref (s.heap.objs.size + 1)) { s with heap := h' }) :
    wpAny (model prog w) A (call (.type "enumerate") [.ref a]) Q E s := by
  refine callType_new F.called_enumerate (by decide) (F.typeCall_enumerate_1 _) (F.newCall_enumerate_1 _) (fun ob => F.args_object_init_2 ob _) F.entry_enumerate_new (new_enum a its) ⟨y, ?_⟩
  generalize hg : s.heap.push { cls := .type "tuple_iterator", data := .fields #[.ref a, .int 0 0] } = g
  have sz : g.objs.size = s.heap.objs.size + 1 := by rw [← hg]; exact Heap.size_push ..
  have i0 : g.get? s.heap.objs.size = some { cls := .type "tuple_iterator", data := .fields #[.ref a, .int 0 0] } := by rw [← hg]; exact Heap.get?_push_size _ rfl
  have kp : ∀ b o, s.heap.get? b = some o → g.get? b = some o := fun b o z => by rw [← hg]; exact Heap.get?_push_of_some _ z
  have e0 : IsEnum (g.push { cls := .type "enumerate", data := .fields #[.none, .bool false, .ref s.heap.objs.size, rawInt 0, .none, .none] }) (s.heap.objs.size + 1) s.heap.objs.size 0 .none := by
    rw [← sz]
    exact Heap.get?_push_size _ rfl
  show _ ∧ _
  rw [sz]
  exact ⟨⟨_, e0, rfl⟩, h _ e0 ⟨_, Heap.get?_push_of_some _ i0, rfl, rfl⟩ fun b o z => Heap.get?_push_of_some _ (kp b o z)⟩
end
/-- the pairs, each a new tuple -/
def Iet (K : PySem.W.Frag) (a : Addr) : It :=
  ⟨fun j H => ∃ (ys : List V) (y : V), SqT K H a ys ∧ ys[j]? = some y, fun j H v H' => ∃ T y, v = .ref T ∧ H T = none ∧ H' = upd H T (.tup [.int (j : Nat), y]) ∧ ∀ ys, SqT K H a ys → ys[j]? = some y, fun j H => ∃ ys : List V, SqT K H a ys ∧ ys.length = j⟩
theorem turn_enumT {P : Program} {w : World} {K : PySem.W.Frag} {es : List Expr} {kk : Nat} {tp : Pos} (a e it : Addr) :
    Turn P w K (.Tuple es kk tp) (Iet K a) [e, it] e (fun j h => (∃ old, IsEnum h e it ((j : Nat) : Int) old) ∧ h.IsTupleIter it a j ∧ e ≠ it) where
  mem := List.mem_cons_self
  obj := fun j h q b hb => by
    obtain ⟨⟨old, he⟩, ⟨o, ho, hc, hd⟩, _⟩ := q
    rcases List.mem_cons.mp hb with z | z
    · rw [z]
      exact ⟨_, he, fun v q => nomatch q⟩
    · rw [List.mem_singleton.mp z]
      exact ⟨o, ho, fun v q => by rw [hd] at q; cases q⟩
  keep := fun j h h' q kp => ⟨q.1.imp fun old z => kp e List.mem_cons_self _ z, q.2.1.at fun o z => kp it (List.mem_cons_of_mem _ List.mem_cons_self) o z, q.2.2⟩
  item := by
    rintro X rfl rfl rfl hc j pins s σ H E I hf ⟨⟨old, he⟩, hit, hne⟩ ⟨ys, y, hq, hy⟩
    obtain ⟨its, rv, tp, hz⟩ := I.tuple hq
    obtain ⟨u, hu, ru⟩ := rv.get hy
    have sz1 : e < s.heap.objs.size := Heap.lt_size he
    have sz2 : it < s.heap.objs.size := by obtain ⟨_, q, _⟩ := hit; exact Heap.lt_size q
    have szf : ∀ b ∈ [e, it], b < s.heap.objs.size := fun b hb => by
      rcases List.mem_cons.mp hb with z | z
      · rw [z]; exact sz1
      · rw [List.mem_singleton.mp z]; exact sz2
    have jl : j < its.toArray.size := by
      rw [List.size_toArray]
      exact (List.getElem?_eq_some_iff.mp hu).1
    have na : ∀ b ∈ [e, it], a ≠ b := fun b hb z => by
      obtain ⟨o, ho, hcl, _⟩ := tp
      rcases List.mem_cons.mp hb with q | q
      · rw [z, q] at ho
        rw [show s.heap.get? e = _ from he] at ho
        cases ho
        exact absurd hcl (by simp)
      · rw [z, List.mem_singleton.mp q] at ho
        obtain ⟨o', ho', hc', _⟩ := hit
        rw [ho'] at ho
        cases ho
        rw [hc'] at hcl
        exact absurd hcl (by simp)
    refine wpAny_pyNext_enum_itemD (Draws.tuple (A := X.A.in1) (I.ok.hd hc) it a (na it (List.mem_cons_of_mem _ List.mem_cons_self)) its.toArray) he ⟨hit, tp⟩ jl hne (fun z => ?_) fun x h' tk hx ho hit' hT hsz hk => ?_
    · rcases List.mem_cons.mp z with z | z
      · exact hne z
      · exact na e List.mem_cons_self (List.mem_singleton.mp z).symm
    have ex : x = u := by
      have z : its.toArray[j]? = some u := by simpa using hu
      exact Option.some.inj ((show its.toArray[j]? = some x from hx).symm.trans z)
    subst ex
    refine ⟨_, rfl, wpAny_letOwnedTupleGo_enum (s := { s with heap := h', toks := tk + 1 }) ho fun g he' sb => ?_⟩
    have hT2 : g.get? s.heap.objs.size = some { cls := .type "tuple", data := .seq #[.int j tk, x] } := (sb.2 _ (Nat.ne_of_gt sz1)).trans hT
    have new : ObjOk X.prog X.w (upd H s.heap.objs.size (.tup [.int (j : Nat), y])) g s.heap.objs.size (.tup [.int (j : Nat), y]) :=
      ⟨(show 2 ≤ sizeLine by decide), [.int j tk, x], .cons ⟨_, rfl⟩ (.cons ru .nil), ⟨_, hT2, rfl, _, rfl⟩⟩
    have I1 : Inv X pins σ (upd H s.heap.objs.size (.tup [.int (j : Nat), y])) { s with heap := g, toks := tk + 1 } :=
      I.turnedNew (ch := [e, it]) (fun b ob hb q => (sb.2 b (fun z => hb (by simp [z]))).trans (hk b ob (fun z => hb (by simp [z])) (fun z => hb (by simp [z])) q)) hf (Nat.le_refl _) new
    refine ⟨.ref s.heap.objs.size, _, I1, rfl, ⟨_, y, rfl, I.hok.fresh (Nat.le_refl _), rfl, fun zs hz => by rw [I.tuple_inj hz hq]; exact hy⟩, ⟨⟨x, ?_⟩, hit'.1.at fun o q => (sb.2 it (Ne.symm hne)).trans q, hne⟩, fun b hb => ?_⟩
    · rw [show ((j + 1 : Nat) : Int) = (j : Int) + 1 by omega]
      exact he'
    · rw [upd_ne (Nat.ne_of_lt (szf b hb))]
      exact (hf b hb).1
  done := by
    rintro X rfl rfl rfl hc j pins s σ H E I hf ⟨⟨old, he⟩, hit, hne⟩ ⟨ys, hq, hl⟩
    obtain ⟨its, rv, tp, hz⟩ := I.tuple hq
    obtain ⟨f0, f1, f2, f3, f4, f5⟩ := hf it (List.mem_cons_of_mem _ List.mem_cons_self)
    have na : a ≠ it := fun z => by
      obtain ⟨o, ho, hcl, _⟩ := tp
      obtain ⟨o', ho', hc', _⟩ := hit
      rw [z, ho'] at ho
      cases ho
      rw [hc'] at hcl
      exact absurd hcl (by simp)
    have ej : its.toArray.size = j := by rw [List.size_toArray, ← rv.length, hl]
    subst ej
    exact wpAny_pyNext_enum_endD (Draws.tuple (A := X.A.in1) (I.ok.hd hc) it a na its.toArray) he ⟨hit, tp⟩ fun h' eb => ⟨rfl, I.turned (t' := s.toks) (fun b o hb q => eb b o hb q) f0 f1 f3 f4 f5⟩
  self := fun A j s Q E q z => by
    obtain ⟨⟨old, he⟩, _⟩ := q
    exact wpAny_pyIter_enum he z
def iEnumT (K : PySem.W.Frag) (t : TA) : TI := fun σ H R => t σ H fun vs H1 => ∃ a ys, vs = [.ref a] ∧ SqT K H1 a ys ∧ R (Iet K a) H1
theorem pi_enumT {X : Cx} {e : Expr} {t : TA} {p pos tp : Pos} {es : List Expr} {kk : Nat} (bn : Bn X "enumerate") (ha : PA X [e] t) (hs : starEach [e] X.env = [(false, eval e X.env)] := by rfl) :
    PI X (.Tuple es kk tp) (.Call (.Name "enumerate" p) [e] [] pos) (iEnumT X.K t) := by
  refine ⟨fun pins s σ H R I h => ?_⟩
  refine Call_ (ld_blt I bn.gl bn.no boot_enumerate (PyProof.Rows.callWith_type1 (thn (ha.run pos pins s σ H _ I h) fun us s1 z => ?_) hs rfl))
  obtain ⟨vs, H1, I1, r, a, ys, e1, hq, q⟩ := z
  subst e1
  obtain ⟨u, rfl, ru⟩ := vals1 r
  cases ru
  obtain ⟨its, rv, tp, hz⟩ := I1.tuple hq
  refine call_enumT tp fun h' e0 i0 kp => wpAny_pyIter_enum e0 ?_
  refine ⟨s1.heap.objs.size + 1, [s1.heap.objs.size + 1, s1.heap.objs.size], _, _, H1, rfl, I1.kept (t' := s1.toks) kp, turn_enumT a _ _, ⟨⟨.none, e0⟩, i0, Nat.succ_ne_self _⟩, fun b hb => ?_, q⟩
  have hle : s1.heap.objs.size ≤ b := by
    rcases List.mem_cons.mp hb with z | z
    · rw [z]; exact Nat.le_succ _
    · rw [List.mem_singleton.mp z]; exact Nat.le_refl _
  exact I1.fpOk hle (I1.hok.fresh hle)
section
variable {X : Cx} {k i j n m : Nat} {E : L2.St → XK} {x y : Str} {D : Ends} {σ : L2.St} {H : Hp} {body : List Stmt} {e : Expr} {p pos pc px py tp : Pos} {kk : Nat}
/-- for x, y in enumerate(a tuple) -/
theorem ws_for_enumT (B : Body X k E) (s1 : Sl X i x) (s2 : Sl X j y) (bn : Bn X "enumerate")
    (h : WE X e σ H fun v H1 => ∃ a ys, v = .ref a ∧ SqT X.K H1 a ys ∧ ∃ P : Nat → L2.St → Hp → Prop, P 0 σ H1 ∧ (∀ n σ H, n ≤ ys.length → P n σ H → SqT X.K H a ys) ∧
      (∀ n v σ H H', ys[n]? = some v → P n σ H → Ex H H' → WB X body { D with nx := P (n + 1), ct := P (n + 1), bk := D.nx } ((σ.set i (some (.int n))).set j (some v)) H') ∧ ∀ σ H, P ys.length σ H → D.nx σ H)
    (hs : starEach [e] X.env = [(false, eval e X.env)] := by rfl) (hf : ∀ v, foldedSetIterable (.Call (.Name "enumerate" p) [e] [] pc) X.env v = pure v := by intro _; rfl)
    (h1 : (assignEach [.Name x px, .Name y py] X.env).map (·.2) = assign (.Name x px) X.env :: (assignEach [.Name y py] X.env).map (·.2) := by rfl) (h2 : (assignEach [.Name y py] X.env).map (·.2) = assign (.Name y py) X.env :: (assignEach [] X.env).map (·.2) := by rfl)
    (h3 : (assignEach [.Name x px, .Name y py] X.env).length = 2 := by rfl) (h4 : (assignEach [.Name x px, .Name y py] X.env).findIdx? (·.1) = none := by rfl) :
    WS X (.For (.Tuple [.Name x px, .Name y py] kk tp) (.Call (.Name "enumerate" p) [e] [] pc) body [] pos) D σ H := by
  refine wsP (ps_for B.po B.calm (pi_enumT bn paS hs) (pg_tup B.calm (pgs_cons (pg_name s1.nd s1.at_ s1.loc s1.fn) (pgs_cons (pg_name s2.nd s2.at_ s2.loc s2.fn) pgs_nil h2) h1) h3 h4) pbS hf) ?_
  refine wa_one (we_mono h fun v H1 q => ?_) hs
  obtain ⟨a, ys, rfl, hq, P, p0, hl, hb, hd⟩ := q
  refine ⟨a, ys, rfl, hq, fun n m σ H => m = ys.length - n ∧ n ≤ ys.length ∧ P n σ H, ⟨ys.length, rfl, Nat.zero_le _, p0⟩, ?_⟩
  rintro n m σ H ⟨rfl, hn, pn⟩
  have hqn := hl n σ H hn pn
  by_cases lt : n < ys.length
  · refine .inr ⟨⟨ys, ys[n], hqn, List.getElem?_eq_getElem lt⟩, P (n + 1), fun σ' H' p' => ⟨ys.length - (n + 1), by omega, rfl, lt, p'⟩, ?_⟩
    rintro w H' ⟨T, y', rfl, hT, rfl, hy⟩
    have x0 := Ex.new (o := .tup [.int (n : Nat), y']) hT
    exact ⟨T, _, rfl, .of upd_same, rfl, .int n, _, rfl, y', _, rfl, rfl, hb n y' σ H _ (hy ys hqn) pn x0⟩
  · have en : ys.length = n := by omega
    subst en
    exact .inl ⟨⟨ys, hqn, rfl⟩, hd σ H pn⟩
end
end Rs

namespace Rs
open PySem PySem.Spec PyProof.Rows L2 He PySem.Calls
/-! ### defs with *args and keywords -/
theorem cxUpN {P : Program} {w : World} : StX.CXUp (RX P w) := by
  intro outer s H s2 H2 E e s' un kp ho z
  obtain ⟨a, B, H', cls, d, ea, fl, hok, ub, na, os, ag, he⟩ := z
  refine ⟨a, B, H', cls, d, ea, fl, hok, ⟨?_, ?_, ?_, ?_, ?_, ?_, ?_⟩, na, os.trans ho, ag, he⟩
  · exact fun b o q n hb => ub.keep b o (kp b o q) (un.free b o q n (by simp)) hb
  · exact fun b o q hb => ub.slot b o (kp b o q) hb
  · exact fun b o q n => ub.free b o (kp b o q) (un.free b o q n (by simp))
  · exact fun b o q hb => ub.there b o (kp b o q) hb
  · exact fun b xs q => ub.tups b xs (un.tups b xs q)
  · exact fun b o xs q => ub.frzs b o xs (un.frzs b o xs q)
  · intro b ps q
    obtain ⟨u1, e1⟩ := un.tbls b ps q
    obtain ⟨u2, e2⟩ := ub.tbls b _ e1
    exact ⟨u1 ++ u2, by rw [e2, Array.append_assoc]⟩
def FnSK (P : Program) (w : World) (K : PySem.W.Frag) (mg : Str → Option Value) (base : Heap) (CX : CXT) (k : Nat) (f : Addr) (ks : List Str) (sp : List V → List V → Hp → VK → XK → Prop) : Prop :=
  ∀ (A : Around) (outer : List Env) (s : Shared) (H : Hp) (us ws : List Value) (vs zs : List V) (Q : VK) (E : XK), Room k A → Env0 P w K mg base A outer s H → Vals vs us → Vals zs ws → zs.length = ks.length → sp vs zs H Q E →
    codeAny (model P w) A (.call (.ref f) ⟨us, ks.zip ws⟩) (CR CX outer P w H s Q E) s
/-- the promise with the rest as a new tuple -/
def spStar (n : Nat) (g : List V → List V → List V) (sp : Sp) : List V → List V → Hp → VK → XK → Prop := fun vs zs H Q E => ∃ ws rest, vs = ws ++ rest ∧ ws.length = n ∧ rest.length ≤ sizeLine ∧ ∀ p, H p = none → sp (g ws zs ++ [.ref p]) (upd H p (.tup rest)) Q E
section
variable {P : Program} {w : World} {K : PySem.W.Frag} {mg : Str → Option Value} {base : Heap} {N ps : List Str} {pv name qual : Str} {pa : Arguments} {body : List Stmt} {sc : Scope} {kws : List (Str × V)} {f : Addr} {fd : FuncData} {k : Nat} {sp : Sp}
theorem def_star (F : FunD K name qual pa body sc [] kws f fd) (S : FnScope N (ps ++ [pv]) sc) (n : Nat) (ks : List Str) (ms : List (Str × V)) (g : {α : Type} → List α → List α → List α → List α) (hk : kws ≠ []) (hms : ∀ q ∈ ms, q ∈ kws)
    (hrel : ∀ {vs mz zs : List V} {us mv ws : List Value}, Vals vs us → Vals mz mv → Vals zs ws → Vals (g vs mz zs) (g us mv ws))
    (hlen : ∀ {us mv ws : List V}, us.length = n → mv.length = ms.length → ws.length = ks.length → (g us mv ws).length = ps.length)
    (h : ∀ (D : Addr) (doc pm : Value) (an : Option Addr) (cdv ct : Value) (us rest mv ws : List Value), us.length = n → mv.length = ms.length → ws.length = ks.length →
      KwTo D ((ms.map (·.1)).zip mv) (bindArgs (PySem.W.fnOf name qual pa body sc .none (.ref D) doc pm an cdv ct) ⟨us ++ rest, ks.zip ws⟩) (newTuple rest >>= fun t => pure (ps.zip (g us mv ws) ++ [(pv, t)])))
    (hb : ∀ (X : Cx), X.prog = P → X.w = w → X.K = K → X.mg = mg → X.base = base → X.N = N → X.env.scope = sc → (∀ x, X.fn x = true) → N.Nodup → ∀ (H : Hp) (vs : List V) (Q : VK) (E : XK), Body X k (fun _ => E) → sp vs H Q E → WB X body { nx := fun _ H' => Q .non H', rt := Q } (start N vs) H) :
    FnSK P w K mg base (RX P w) (k + 1) f ks (spStar n (fun vs zs => g vs (ms.map (·.2)) zs) sp) := by
  obtain ⟨oc, od, dV, kV, doc, pm, an, cdv, ct, osl, rfl, lk, hcd, hD, hK⟩ := F.ex
  rcases hD with ⟨_, rfl⟩ | ⟨e, _⟩
  case inr => exact absurd rfl e
  rcases hK with e | ⟨D, rfl, hq⟩
  · exact absurd e hk
  obtain ⟨mv, hl, rk, hks⟩ := kwd_vals (ms := ms) fun q hm => hq q (hms q hm)
  intro A outer s H us ws vs zs Q E hr e0 r rz lz z
  obtain ⟨v1, rest, rfl, l1, sz, z⟩ := z
  obtain ⟨u1, u2, rfl, r1, r2⟩ := StX.vals_split r
  have nw : H s.heap.objs.size = none := e0.hok.fresh (Nat.le_refl _)
  have lu : u1.length = n := r1.length.symm.trans l1
  have lw : ws.length = ks.length := rz.length.symm.trans lz
  have rg := hrel r1 rk rz
  have lg := hlen l1 (by rw [List.length_map]) lz (mv := ms.map (·.2))
  have KX : K.In s.heap := e0.mod.kin.keeps fun b o e => (e0.bs b o e).1
  refine StX.run_bnd lk hcd S hr e0 (G := fun xs H2 => ∃ p, H p = none ∧ xs = g v1 (ms.map (·.2)) zs ++ [V.ref p] ∧ H2 = upd H p (.tup rest)) (fun A' Ex Q' hh => ?_) fun s2 H2 xs q hr' => ?_
  · refine KwTo.run KX hks (h D doc pm an cdv ct u1 u2 mv ws lu hl lw) (wpAny_bind (wpAny_newTuple (wpAny_pure ?_) (by rw [← r2.length]; exact sz)))
    have new : ObjOk P w (upd H s.heap.objs.size (.tup rest)) (s.heap.push ({ cls := .type "tuple", data := .seq u2.toArray } : Obj)) s.heap.objs.size (.tup rest) := ⟨sz, u2, r2, ⟨_, Heap.get?_push_size _ rfl, rfl, _, rfl⟩⟩
    have un := StX.un_laid (fs := frs outer) (s := s) (o := ({ cls := .type "tuple", data := .seq u2.toArray } : Obj)) (u := .tup rest) nw
    have fin := hh _ _ (g v1 (ms.map (·.2)) zs ++ [V.ref s.heap.objs.size]) (g u1 mv ws ++ [Value.ref s.heap.objs.size]) (StX.env0_laid e0 new) un rfl
      (fun e s' => cxUpN outer s H _ _ E e s' un (fun b o q => Heap.get?_push_of_some _ q) rfl) (rg.append (.cons rfl .nil)) (by rw [List.length_append, List.length_append, lg]; rfl) ⟨_, nw, rfl, rfl⟩
    rw [List.zip_append (by rw [← lg, rg.length])] at fin
    exact fin
  · obtain ⟨p, hp, rfl, rfl⟩ := q
    exact ⟨_, pbS, hb (bx P w K mg base N qual sc f cdv A outer s2 (upd H p (.tup rest)) E) rfl rfl rfl rfl rfl rfl rfl (fun _ => rfl) S.nd _ _ Q E (body_of hr') (z p hp)⟩
/-- a class made so -/
def GSK (P : Program) (w : World) (K : PySem.W.Frag) (mg : Str → Option Value) (base : Heap) (k : Nat) (x : Str) (C : Addr) (ks : List Str) (sp : List V → List V → Hp → VK → XK → Prop) : Prop :=
  ∃ f, mg x = some (.ref C) ∧ Mk K C f ∧ FnSK P w K mg base (RX P w) k f ks sp
end
section
variable {X : Cx} {σ : L2.St} {H : Hp} {Q : VK} {k j : Nat} {E : L2.St → XK} {x : Str} {sp : List V → List V → Hp → VK → XK → Prop} {p pos : Pos} {e : Expr} {es : List Expr} {kws : List Keyword} {C f : Addr} {ks : List Str}
theorem smake_at {pins : List (Addr × Obj)} {s : Shared} {us ws : List Value} {vs zs : List V} {E : XK} (M : Mk X.K C f) (F : FnSK X.prog X.w X.K X.mg X.base (RX X.prog X.w) k f ks sp) (hr : Room (k + 1) X.A)
    (hx : PassesAt (RX X.prog X.w) X σ E) (I : Inv X pins σ H s) (r : Vals vs us) (rz : Vals zs ws) (l2 : zs.length = ks.length) (h : ∀ a dx, H a = none → H dx = none → dx ≠ a → sp (.ref a :: vs) zs (upd (upd H dx (.own a)) a (.ins C dx [])) (fun v H2 => v = .non ∧ Q (.ref a) H2) E) :
    wpAny (model X.prog X.w) X.A (call (.ref C) us (ks.zip ws)) (EP X pins σ Q) X.xe s := by
  have J := Inv.made (C := C) I
  have hq := h (s.heap.objs.size + 1) s.heap.objs.size (I.hok.fresh (Nat.le_succ _)) (I.hok.fresh (Nat.le_refl _)) (Nat.ne_of_lt (Nat.lt_succ_self _))
  have rs : Vals (V.ref (s.heap.objs.size + 1) :: vs) (Value.ref (s.heap.objs.size + 1) :: us) := .cons rfl r
  have run := F _ X.stack _ _ (Value.ref (s.heap.objs.size + 1) :: us) ws _ _ _ E (hr.make C us (ks.zip ws)) (J.env0.make C us (ks.zip ws)) rs rz l2 hq
  refine wpAny_call (make_map (f := f) I.kIn M.makes M.init (beq_iff_eq.mp M.fn) (codeAny_mono run fun o t q => ?_))
  have z := out_at hx J o t q
  cases o with
  | error e => exact z
  | ok fl =>
    cases fl with
    | ret u =>
      obtain ⟨v, H', I3, rv, rfl, q3⟩ := z
      exact ⟨rv, ⟨V.ref (s.heap.objs.size + 1), H', I3, rfl, q3⟩⟩
    | next => exact z.elim
    | brk => exact z.elim
    | cont => exact z.elim
theorem we_makeSK (B : Body X k E) (gn : Gn X x) (f : GSK X.prog X.w X.K X.mg X.base j x C ks sp) (hj : j + 1 ≤ k) (h : WA X (e :: es) σ H fun vs H1 => WK X kws σ H1 fun zs H2 => zs.length = ks.length ∧ ∀ a dx, H2 a = none → H2 dx = none → dx ≠ a → sp (.ref a :: vs) zs (upd (upd H2 dx (.own a)) a (.ins C dx [])) (fun v H3 => v = .non ∧ Q (.ref a) H3) (E σ))
    (hall : (backToKw pos (keywordEach kws X.env)).all (·.1.isSome) = true := by rfl) (hks : (backToKw pos (keywordEach kws X.env)).filterMap (·.1) = ks := by rfl)
    (he : starEach (e :: es) X.env = (false, eval e X.env) :: starEach es X.env := by rfl) (hpl : ((backTo pos (starEach (e :: es) X.env)).any (·.1) || (backToKw pos (keywordEach kws X.env)).any (·.1.isNone)) = false := by rfl) :
    WE X (.Call (.Name x p) (e :: es) kws pos) σ H Q := by
  obtain ⟨f, hm, M, F⟩ := f
  intro pins s I
  refine wpAny_Call_Name_kw (ld_glob I gn.gl hm ?_ gn.d1)
  refine PySem.W.callWith_KW (h₀ := X.base) I.ok.mod.kin M.kp hall (thn (h pos pins s I) fun us s1 z => ?_) hpl he
  obtain ⟨vs, H1, I1, r, q⟩ := z
  refine thn (q pos pins s1 I1) fun ws s2 z => ?_
  obtain ⟨zs, H2, I2, rz, l2, q⟩ := z
  refine ⟨I2.kIn, ?_⟩
  rw [hks]
  exact smake_at M F (B.room.mono hj) (B.at σ) I2 r rz l2 q
theorem we_makeS (B : Body X k E) (gn : Gn X x) (f : GSK X.prog X.w X.K X.mg X.base j x C [] sp) (hj : j + 1 ≤ k) (h : WA X (e :: es) σ H fun vs H2 => ∀ a dx, H2 a = none → H2 dx = none → dx ≠ a → sp (.ref a :: vs) [] (upd (upd H2 dx (.own a)) a (.ins C dx [])) (fun v H3 => v = .non ∧ Q (.ref a) H3) (E σ))
    (hs : starEach (e :: es) X.env = (false, eval e X.env) :: starEach es X.env := by rfl) (hl : (backTo pos (starEach es X.env)).any (·.1) = false := by rfl) : WE X (.Call (.Name x p) (e :: es) [] pos) σ H Q := by
  obtain ⟨f, hm, M, F⟩ := f
  intro pins s I
  refine wpAny_Call_Name_kw (ld_glob I gn.gl hm ?_ gn.d1)
  refine PySem.W.callWith_K (h₀ := X.base) I.ok.mod.kin M.kp (thn (h pos pins s I) fun us s1 z => ?_) hs hl
  obtain ⟨vs, H1, I1, r, q⟩ := z
  exact ⟨I1.kIn, smake_at (zs := []) (ws := []) M F (B.room.mono hj) (B.at σ) I1 r .nil rfl q⟩
end
/-! ### what stays but for the objects at S -/
section
variable {S : Addr → Prop} {H H1 H2 : Hp}
theorem ExX.refl (H : Hp) : ExX S H H := ⟨fun _ _ _ h _ => h, fun _ _ o _ h s => ⟨o, h, s⟩, fun _ h => h⟩
/-- instances that stand: S has none of those that rows begin with -/
theorem ExX.put {a : Addr} {o : HO} (x : ExX S H H1) (h : S a) : ExX S H (upd H1 a o) :=
  ⟨fun b u n hb g => (upd_ne (show b ≠ a from fun e => n (by rw [e]; exact h))).trans (x.kp b u n hb g), fun b l u n hb s => by
    obtain ⟨o1, h1, s1⟩ := x.src b l u n hb s
    exact ⟨o1, (upd_ne (show b ≠ a from fun e => n (by rw [e]; exact h))).trans h1, s1⟩, fun b hb => by
    by_cases e : b = a
    · subst e
      rw [upd_same]
      exact fun z => nomatch z
    · rw [upd_ne e]
      exact x.th b hb⟩
theorem ExX.ex (x : ExX S H H1) (y : Ex H1 H2) (hS : ∀ a o, S a → H1 a = some o → ∃ C dx fs, o = .ins C dx fs ∨ ∃ xs, o = .lst xs) (hG : ∀ l C dx fs, S l → H l = some (.ins C dx fs) → ∃ C dx fs, H1 l = some (.ins C dx fs)) : ExX S H H2 :=
  ⟨fun a o n h g => y.kp a o (x.kp a o n h g) (by
    rcases g with g | ⟨l, C, dx, fs, rest, e, h2⟩
    · exact .inl g
    · by_cases sl : S l
      · obtain ⟨C', dx', fs', h3⟩ := hG l C dx fs sl h2
        exact .inr ⟨l, C', dx', fs', rest, e, h3⟩
      · exact .inr ⟨l, C, dx, fs, rest, e, x.kp _ _ sl h2 (.inl not_src_ins)⟩), fun a l o n h s => by
    obtain ⟨o1, h1, s1⟩ := x.src a l o n h s
    exact y.src a l o1 h1 s1, fun a h => y.there a (x.th a h)⟩
/-- S is new to H0 -/
theorem ExX.fresh (x0 : Ex H H1) (x : ExX S H1 H2) (hS : ∀ a, S a → H a = none) : Ex H H2 :=
  ⟨fun a o h g => x.kp a o (fun s => by rw [hS a s] at h; cases h) (x0.kp a o h g) (g.mono x0), fun a l o h s => by
    obtain ⟨o1, h1, s1⟩ := x0.src a l o h s
    exact x.src a l o1 (fun s => by rw [hS a s] at h; cases h) h1 s1⟩
theorem ExX.ins {a C dx : Addr} {fs : List (Str × V)} (x : ExX S H H1) (n : ¬ S a) (h : H a = some (.ins C dx fs)) : H1 a = some (.ins C dx fs) := x.kp _ _ n h (.inl not_src_ins)
theorem ExX.tup {a : Addr} {xs : List V} (x : ExX S H H1) (n : ¬ S a) (h : H a = some (.tup xs)) : H1 a = some (.tup xs) := x.kp _ _ n h (.inl not_src_tup)
end
end Rs

namespace Rs
open PySem PySem.Spec PyProof.Rows L2 He
section
variable {X : Cx} {σ : L2.St} {H : Hp} {D D' : Ends} {Q : VK} {k j : Nat} {E : L2.St → XK} {m : Str} {sp : Sp} {C : Addr} {c o e : Expr} {a b st : List Stmt} {s1 : Stmt} {pos apos cpos : Pos}
/-! ### what follows may be wanted less -/
theorem wb_mono (h : WB X st D σ H) (n : ∀ σ H, D.nx σ H → D'.nx σ H) (r : ∀ v H, D.rt v H → D'.rt v H) (bk : ∀ σ H, D.bk σ H → D'.bk σ H) (ct : ∀ σ H, D.ct σ H → D'.ct σ H) : WB X st D' σ H := fun pins s I => thn (h pins s I) fun fl s' z => by
  cases fl with
  | next => obtain ⟨σ', H', J, q⟩ := z; exact ⟨σ', H', J, n _ _ q⟩
  | brk => obtain ⟨σ', H', J, q⟩ := z; exact ⟨σ', H', J, bk _ _ q⟩
  | cont => obtain ⟨σ', H', J, q⟩ := z; exact ⟨σ', H', J, ct _ _ q⟩
  | ret u => obtain ⟨v, σ', H', J, rv, q⟩ := z; exact ⟨v, σ', H', J, rv, r _ _ q⟩
theorem ws_mono (h : WS X s1 D σ H) (n : ∀ σ H, D.nx σ H → D'.nx σ H) (r : ∀ v H, D.rt v H → D'.rt v H) (bk : ∀ σ H, D.bk σ H → D'.bk σ H) (ct : ∀ σ H, D.ct σ H → D'.ct σ H) : WS X s1 D' σ H := fun pins s I => thn (h pins s I) fun fl s' z => by
  cases fl with
  | next => obtain ⟨σ', H', J, q⟩ := z; exact ⟨σ', H', J, n _ _ q⟩
  | brk => obtain ⟨σ', H', J, q⟩ := z; exact ⟨σ', H', J, bk _ _ q⟩
  | cont => obtain ⟨σ', H', J, q⟩ := z; exact ⟨σ', H', J, ct _ _ q⟩
  | ret u => obtain ⟨v, σ', H', J, rv, q⟩ := z; exact ⟨v, σ', H', J, rv, r _ _ q⟩
/-- a statement's end, told by R -/
theorem ws_to (R : L2.St → Hp → Prop) (h : WS X s1 { D with nx := R } σ H) (n : ∀ σ H, R σ H → D.nx σ H) : WS X s1 D σ H := ws_mono h n (fun _ _ z => z) (fun _ _ z => z) (fun _ _ z => z)
theorem wt_to {QT : Bool → Hp → Prop} (R : Bool → Hp → Prop) (h : WT X c σ H R) (n : ∀ r H, R r H → QT r H) : WT X c σ H QT := wt_mono h n
theorem we_to (R : V → Hp → Prop) (h : WE X e σ H R) (n : ∀ r H, R r H → Q r H) : WE X e σ H Q := we_mono h n
/-! ### o.m() of an own class; xs.append(e) -/
theorem we_meth0 {pl : Sem Bool} (B : Body X k E) (c : Cls X.K C) (f : Me X j C m sp) (hj : j ≤ k)
    (h : WE X o σ H fun y H1 => ∃ a dx fs, y = .ref a ∧ H1 a = some (.ins C dx fs) ∧ fs.lookup m = none ∧ sp [.ref a] H1 Q (E σ))
    (ht : eval (.Call (.Attribute o m apos) [] [] pos) X.env = (do
      let it ← eval o X.env
      standAt apos.atName
      let (g, first) ← holding [it] (getMethod it m pl)
      callWith pos g first (backTo pos (starEach [] X.env)) (backToKw pos (keywordEach [] X.env))) := by rfl) : WE X (.Call (.Attribute o m apos) [] [] pos) σ H Q := by
  obtain ⟨g, hm, F⟩ := f
  intro pins s I
  refine PySem.W.methodCall_KW (pl := pl) (thn (h pins s I) fun u s1 z => ?_) ht
  obtain ⟨y, H1, I1, ry, a, dx, fs, rfl, e1, l, q⟩ := z
  cases ry
  refine getmeth_ok I1 e1 c hm l ?_
  exact PySem.W.callWith_K0 (first := [.ref a]) I1.kIn hm.kp (go_at (us := [.ref a]) (vs := [.ref a]) F (B.room.mono hj) (B.at σ) I1 (.cons rfl .nil) q)
theorem we_append (h : WE X o σ H fun v H1 => ∃ l vs, v = .ref l ∧ H1 l = some (.lst vs) ∧ WE X e σ H1 fun y H2 => ∃ vs, H2 l = some (.lst vs) ∧ vs.length < sizeLine ∧ Q .non (upd H2 l (.lst (vs ++ [y]))))
    (hbase : attributeBase o "append" X.env (eval o X.env) = eval o X.env := by rfl)
    (hfew : ((backTo cpos (starEach [e] X.env)).all (fun x => !x.1) && (backToKw cpos (keywordEach [] X.env)).all (fun x => x.1.isSome) && decide ([e].length + ([] : List Keyword).length + (if ([] : List Keyword).isEmpty then 0 else 1) < 30)) = true := by rfl)
    (hline : (apos.endLine == cpos.line) = true := by rfl) (hs : starEach [e] X.env = (false, eval e X.env) :: starEach [] X.env := by rfl) (hplain : (backTo cpos (starEach [] X.env)).any (·.1) = false := by rfl) :
    WE X (.Call (.Attribute o "append" apos) [e] [] cpos) σ H Q :=
  weP (pe_bm PySem.F.plainAttrs_list PySem.F.slot_list_append PySem.F.type_list_append mt_append peS paS hbase hfew hline hs hplain) (we_mono h fun v H1 z => by
    obtain ⟨l, vs, rfl, hl, z⟩ := z
    refine ⟨.inl ⟨rfl, vs, .of hl⟩, wa_one (we_mono z fun y H2 z => ?_) hs⟩
    obtain ⟨vs2, h2, hz, z⟩ := z
    exact ⟨l, vs2, y, rfl, rfl, h2, hz, z⟩)
end
end Rs

namespace Rs
open PySem PySem.Spec PyProof.Rows L2 He
/-! ### own exceptions whose __init__(self, x) says super().__init__("..") and self.f = x -/
/-- the def at f, with the cell of its class -/
structure FunC (P : Program) (K : PySem.W.Frag) (C : Addr) (qual : Str) (pa : Arguments) (body : List Stmt) (sc : Scope) (f : Addr) : Prop where
  ex : ∃ (oc : Value) (od : Option Addr) (name : Str) (kV doc pm : Value) (an : Option Addr) (cda cc : Addr) (ct : Value) (osl : Array (Option Value)),
    K.lookup f = some ⟨oc, od, .func (PySem.W.ksFn name qual pa body sc .none kV doc pm an (.ref cda) ct cc), osl⟩ ∧ PySem.W.codeIn K (.ref cda) qual = true ∧
    (∃ cl cld csl, K.lookup cc = some ⟨cl, cld, .cell (some (.ref C)), csl⟩) ∧
    ∃ ccl cdd ccs vs file tf, K.lookup cda = some ⟨ccl, cdd, .fields vs, ccs⟩ ∧ vs[2]? = some (.str file tf) ∧ ((P.main.file : Str) == file) = true
/-- the class -/
structure ExcI (P : Program) (K : PySem.W.Frag) (C f : Addr) : Prop where
  ex : PySem.W.excInitIn K C PySem.HandSPX.veTail "ValueError.__new__" = true
  cl : ∃ cd, PySem.W.clsIn K C = some cd ∧ PySem.HandSPX.refsVE cd.mro = true ∧ cd.hasDict = true
  kp : PySem.W.keepIn K (.ref C) = true
  sb : PySem.W.subIn K (.ref C) (.type "BaseException") = some true
  ve : PySem.W.subIn K (.ref C) (.type "ValueError") = some true
  ty : PySem.W.typeIn K (.ref C) = some (.type "type")
  sa : PySem.W.findIn K (.ref C) "__setattr__" = some (some (.builtin "object.__setattr__"))
  ini : PySem.W.findIn K (.ref C) "__init__" = some (some (.ref f))
  tf : PySem.W.typeIn K (.ref f) = some (.type "function")
  su : PySem.W.ks_superIn K C C "__init__" = some (some (.builtin "ValueError.__init__"))
  mr : PySem.W.mroIn K C (.ref C) = some true
  op : PySem.W.nsIn K cStatics "thirdparty.any" = some none
  top : (P.main.scope.names.lookup ("super" : Str)).isSome = false
open PySem.W in
theorem ini_run {P : Program} {w : World} {K : PySem.W.Frag} {mg : Str → Option Value} {A : Around} {R : Result → Shared → Prop} {h : Heap} {g : Array GenState} {dr : Drawn} {t : Nat} {os : OsState}
    {C f e t0 : Addr} {qual fld par m : Str} {pa : Arguments} {sc : Scope} {ar : Arg} {v : Value} {j : Nat} {p0 p1 p2 p3 p4 p5 p6 p7 p8 p9 : Pos}
    (hroom : A.depth < recursionLimit) (X : K.In h) (hglob : h.Ns mainGlobals mg) (hblt : ∃ mb, h.Ns builtinsNs mb ∧ ∀ x : Str, x ≠ "__name__" → mb x = bootBuiltins x) (hlim : h.NoLimit) (hsu : mg "super" = none)
    (I : ExcI P K C f) (F : FunC P K C qual pa [.Expr (.Call (.Attribute (.Call (.Name "super" p0) [] [] p1) "__init__" p2) [.Constant (.str m) j p3] [] p4) p5, .Assign [.Attribute (.Name "self" p6) fld p7] (.Name par p8) p9] sc f)
    (hlin : (p2.endLine == p4.line) = true) (hp : (pa.posonlyargs ++ pa.args).head? = some ar) (har : ar.arg = "self")
    (hbind : ∀ (name : Str) (kV doc pm cdv ct : Value) (an : Option Addr) (cc : Addr) (body : List Stmt) (a b : Value), bindArgs (ksFn name qual pa body sc .none kV doc pm an cdv ct cc) ⟨[a, b], []⟩ = pure ([("self", a), (par, b)] : List (Str × Value)))
    (hps : par ≠ "self") (hks : sc.names.lookup ("super" : Str) = some .globalImplicit) (hkc : sc.names.lookup ("__class__" : Str) = some .free) (hka : sc.names.lookup ("self" : Str) = some .local) (hkb : sc.names.lookup par = some .local)
    (hcell : ∀ x ∈ sc.names, x.2 ≠ .cell) (hco : sc.isCoroutine = false) (hgen : sc.isGenerator = false) (hk : sc.kind = .function) (hno : PySem.W.findIn K (.ref C) fld = some none) (hdp : (par == ("__debug__" : Str)) = false)
    (he : h.get? e = some (PySem.HandSPX.excO C t0)) (hKe : K.lookup e = none)
    (hq : ∀ h' t' dx t1, (∀ b o, b ≠ e → h.get? b = some o → h'.get? b = some o) → h.objs.size ≤ dx → dx ≠ e → h'.get? e = some ({ cls := .ref C, dict := some dx, data := .fields #[.ref t1, .none, .none, .none, .bool false, .none] } : Obj) →
      h'.Ns1 dx (fun y => if y = fld then some v else none) → R (.ok (.ret .none)) ⟨h', g, dr, t', os⟩) :
    codeAny (model P w) A (.call (.ref f) ⟨[.ref e, v], []⟩) R ⟨h, g, dr, t, os⟩ := by
  obtain ⟨oc, od, name, kV, doc, pm, an, cda, cc, ct, osl, lk, hcd, ⟨cl, cld, csl, hcellK⟩, ccl, cdd, ccs, vs, file, tf, hcode, hvs, hfile⟩ := F.ex
  obtain ⟨cd, hcl, hmro, hdict⟩ := I.cl
  obtain ⟨mb, hb1, hb2⟩ := hblt
  refine ks_codeAny_call_defAt (binds := ([("self", .ref e), (par, v)] : List (Str × Value))) hroom (X _ _ lk) rfl hlim (codeRec_of X hcd) rfl (.of_eq (hbind _ _ _ _ _ _ _ _ _ _ _)) hcell (fun y hy => ?_) (fun h₁ hns hk₁ => ?_) hco hgen hk
  · rcases List.mem_cons.mp hy with rfl | hy
    · exact hka
    · rcases List.mem_cons.mp hy with rfl | hy
      · exact hkb
      · cases hy
  show _root_.PySem.wpAt _ (A.deeper (ksEnv qual sc h.objs.size f (.ref cda) cc)) (.func _ (ksEnv qual sc h.objs.size f (.ref cda) cc)) (execs _ (ksEnv qual sc h.objs.size f (.ref cda) cc)) _ _ _
  have X1 : K.In h₁ := X.keeps hk₁
  have he1 := hk₁ _ _ he
  have hv0 : (fun x => ([("self", Value.ref e), (par, v)] : List (Str × Value)).reverse.lookup x) ("self" : Str) = some (.ref e) := by
    show ([(par, v), ("self", Value.ref e)] : List (Str × Value)).lookup ("self" : Str) = _
    rw [List.lookup_cons, show (("self" : Str) == par) = false from by simpa using fun z => hps z.symm, List.lookup_cons_self]
  have hv1 : (fun x => ([("self", Value.ref e), (par, v)] : List (Str × Value)).reverse.lookup x) par = some v := by
    show ([(par, v), ("self", Value.ref e)] : List (Str × Value)).lookup par = _
    rw [List.lookup_cons_self]
  obtain ⟨oD, hD1, hD2⟩ : ∃ oD, h₁.get? C = some oD ∧ oD.data = .cls cd := by
    have hD := hcl
    unfold clsIn at hD
    split at hD
    · rename_i c d cd' sl ho
      cases hD
      exact ⟨_, X1 _ _ ho, rfl⟩
    · cases hD
  have hint : interactive (ksEnv qual sc h.objs.size f (.ref cda) cc) = false := by
    unfold interactive
    show (sc.kind == ScopeKind.module && _) = false
    rw [hk]
    rfl
  refine ks_wpAt_execs_cons ?_
  refine ks_wpAt_Expr_any ?_ hint
  refine ks_wpAt_MethodCall (pl := (do return (← importBound (.Call (.Name "super" p0) [] [] p1) (ksEnv qual sc h.objs.size f (.ref cda) cc)).getD true)) ?_ (by
    show (do
      let ov ← attributeBase (.Call (.Name "super" p0) [] [] p1) "__init__" (ksEnv qual sc h.objs.size f (.ref cda) cc) (eval (.Call (.Name "super" p0) [] [] p1) (ksEnv qual sc h.objs.size f (.ref cda) cc))
      standAt p2.atName
      methodCall (.Call (.Name "super" p0) [] [] p1) "__init__" p2 p4 (ksEnv qual sc h.objs.size f (.ref cda) cc) ov 1 (backTo p4 (starEach [.Constant (.str m) j p3] (ksEnv qual sc h.objs.size f (.ref cda) cc))) []) = _
    unfold methodCall methodCallPos
    rw [hlin]
    rfl)
  refine ks_wpAt_super_base (env := ksEnv qual sc h.objs.size f (.ref cda) cc) hks hkc (by decide) rfl (X1 _ _ lk) rfl hp rfl (X1 _ _ hcode) rfl hvs hfile I.top ?_
  refine ks_loadName_global hk hks (PySem.Calls.loadGlobal_builtin (env := ksEnv qual sc h.objs.size f (.ref cda) cc) (hglob.keeps hk₁) hsu (hb1.keeps hk₁) ((hb2 _ (by decide)).trans (show bootBuiltins "super" = some (.type "super") by kernel_rfl)) ⟨rfl, ?_⟩)
  refine wpAny_loadName_free hk hkc rfl ⟨_, X1 _ _ hcellK, rfl⟩ ?_
  refine wpAny_loadName_local hk (by rw [har]; exact hka) hns (by rw [har]; exact hv0) ?_
  refine ks_wpAny_isType_cls hD1 hD2 ⟨rfl, ?_⟩
  refine ks_wpAny_call_super hD1 hD2 he1 rfl (fun c z => by cases z) (looks_mroIn X1 I.mr) (fun h2 e2 k2 => ?_)
  have X2 : K.In h2 := X1.keeps k2
  have he2 := k2 _ _ he1
  have I2 : InstAt h2 e (PySem.HandSPX.excO C t0) C none := ⟨he2, rfl, rfl, trivial⟩
  have hsup : alongIn K "__init__" ((cd.mro.dropWhile (· != .ref C)).drop 1) = some (some (.builtin "ValueError.__init__")) := by
    have z := I.su
    unfold ks_superIn at z
    rw [hcl] at z
    exact z
  refine kxs_getMethod kxs_ValueError e2 (looks_opaque X2 I.op) (l₀ := cd.mro) (fun A Q E s k q => wpAny_bind ((looks_clsIn X2 hcl) A _ E s k (wpAny_pure q))) rfl X2 hsup (I2.type.andThen (looks_subIn X2 I.ve)) (ks_ne X2 I2 hcl) (by decide) ?_
  have k3 : ∀ b o, h2.get? b = some o → (h2.push (kxs_mw "ValueError.__init__" e)).get? b = some o := fun b o z => Heap.get?_push_of_some _ z
  have hu : (h2.push (kxs_mw "ValueError.__init__" e)).get? h2.objs.size = some (kxs_mw "ValueError.__init__" e) := Heap.get?_push_at rfl rfl
  generalize h2.push (kxs_mw "ValueError.__init__" e) = h3 at k3 hu ⊢
  have X3 : K.In h3 := X2.keeps k3
  have he3 := k3 _ _ he2
  refine kxs_callWith (i := "ValueError.__init__") (x := e) rfl ?_
  show wpAny _ _ (evalArgs (.ref h2.objs.size) true [(false, eval (.Constant (.str m) j p3) (ksEnv qual sc h.objs.size f (.ref cda) cc))] []) _ _ _
  refine PySem.Calls.evalArgs_plain (Calls.spliced_cons (Calls.Constant_str (Calls.spliced_nil ?_)))
  refine ⟨hu, ?_⟩
  show wpAny _ _ (call (.ref h2.objs.size) [.str m _]) _ _ _
  obtain ⟨nm, N', qn, bs, bm, hdct, sn, sub, ab, col, dd, k0, k1, k2', k3', k5, hC, hT⟩ := excInit_of X3 I.ex
  refine wpAny_call (codeAny_of_tree ?_)
  show wpAny _ (A.deeper _).in1 (callAny (.ref h2.objs.size) ⟨[.str m _], []⟩) _ _ _
  simp only [callAny]
  refine wpAny_bind (wpAny_load hu ?_)
  simp only [kxs_mw, show (Value.type "method-wrapper" == Value.type "method" || Value.type "method-wrapper" == Value.type "builtin_function_or_method" || Value.type "method-wrapper" == Value.type "method-wrapper") = true by decide, if_true]
  refine KFB.if_so (by decide) ?_
  refine wpAny_bind (check_bound_init PySem.F.excBase_ValueError.toExcCallFacts hC he3 rfl ?_)
  refine wpAny_bind (wpAny_pure (wpAny_pure ?_))
  refine ⟨plainId_quiet PySem.F.excBase_ValueError.init.plain _, codeAny_builtin PySem.F.excBase_ValueError.initEntry ?_⟩
  refine exc_init_tree (cls := .ref C) (t0 := t0) (dv := none) (c2 := .none) (c3 := .none) (b4 := .bool false) he3 (by show 1 ≤ sizeLine; rw [sizeLine_eq]; omega) fun h5 k5' e5 t5 => ?_
  have kk5 : ∀ b o, b ≠ e → h.get? b = some o → h5.get? b = some o := fun b o hb ho => k5' b o hb (k3 _ _ (k2 _ _ (hk₁ _ _ ho)))
  have Le : h.objs.size ≠ e := fun z => by
    have y := Heap.lt_size he
    rw [z] at y
    exact absurd y (Nat.lt_irrefl _)
  have hns5 : h5.Ns h.objs.size (fun x => ([("self", Value.ref e), (par, v)] : List (Str × Value)).reverse.lookup x) := by
    obtain ⟨oL, es, ep, hL, r⟩ := hns
    exact ⟨oL, es, ep, k5' _ _ Le (k3 _ _ (k2 _ _ hL)), r⟩
  have X5 : K.In h5 := fun b o hb => by
    by_cases hbe : b = e
    · rw [hbe, hKe] at hb
      cases hb
    · exact kk5 b o hbe (X _ _ hb)
  refine ks_wpAt_execs_cons (ks_wpAt_Assign_Attr ?_)
  refine _root_.PySem.wpAt_of_wpAny (wpAny_Name (wpAny_loadName_local hk hkb hns5 hv1 ?_) hdp)
  refine wpAny_Name (wpAny_loadName_local hk hka hns5 hv0 ?_) (by decide)
  refine set_plain X5 (ox := PySem.HandSPX.excO C h3.objs.size) (od := none) ⟨e5, rfl, rfl, trivial⟩ I.sa ?_
  refine PySem.HandSPX.exc_osa X5 e5 hcl hmro hdict hno (fun h6 tk6 dx k6 dn dne hx hn => ?_)
  refine _root_.PySem.wpAt_of_wpAny (wpAny_pure ?_)
  have s5 : h.objs.size ≤ h5.objs.size := by
    obtain ⟨oL, es, ep, hL, r⟩ := hns5
    exact Nat.le_of_lt (Heap.lt_size hL)
  exact hq h6 tk6 dx h3.objs.size (fun b o hb ho => k6 b o hb (kk5 b o hb ho)) (Nat.le_trans s5 dn) dne hx hn
end Rs
namespace Rs
open PySem PySem.Spec PyProof.Rows L2 He
section
variable {X : Cx} {x par m qual fld : Str} {p pos pos2 : Pos} {C f : Addr} {j k : Nat} {pa : Arguments} {sc : Scope} {ar : Arg} {p0 p1 p2 p3 p4 p5 p6 p7 p8 p9 : Pos} {E : L2.St → XK} {D : Ends} {σ : L2.St} {H : Hp} {ea : Expr}
/-- all that the head and the text tell of such a class -/
structure IniC (P : Program) (K : PySem.W.Frag) (mg : Str → Option Value) (C : Addr) (fld : Str) : Prop where
  ex : ∃ (f : Addr) (qual par m : Str) (pa : Arguments) (sc : Scope) (ar : Arg) (j : Nat) (p0 p1 p2 p3 p4 p5 p6 p7 p8 p9 : Pos), ExcI P K C f ∧
    FunC P K C qual pa [.Expr (.Call (.Attribute (.Call (.Name "super" p0) [] [] p1) "__init__" p2) [.Constant (.str m) j p3] [] p4) p5, .Assign [.Attribute (.Name "self" p6) fld p7] (.Name par p8) p9] sc f ∧
    (p2.endLine == p4.line) = true ∧ (pa.posonlyargs ++ pa.args).head? = some ar ∧ ar.arg = "self" ∧
    (∀ (name : Str) (kV doc pm cdv ct : Value) (an : Option Addr) (cc : Addr) (body : List Stmt) (a b : Value), bindArgs (PySem.W.ksFn name qual pa body sc .none kV doc pm an cdv ct cc) ⟨[a, b], []⟩ = pure ([("self", a), (par, b)] : List (Str × Value))) ∧
    par ≠ "self" ∧ sc.names.lookup ("super" : Str) = some .globalImplicit ∧ sc.names.lookup ("__class__" : Str) = some .free ∧ sc.names.lookup ("self" : Str) = some .local ∧ sc.names.lookup par = some .local ∧
    (∀ x ∈ sc.names, x.2 ≠ .cell) ∧ sc.isCoroutine = false ∧ sc.isGenerator = false ∧ sc.kind = .function ∧ (par == ("__debug__" : Str)) = false
  no : PySem.W.findIn K (.ref C) fld = some none
  su : mg "super" = none
theorem pmk_ini (hr : Room 2 X.A) (c : IniC X.prog X.K X.mg C fld) (g : Gn X x) (hm : X.mg x = some (.ref C))
    (he : starEach [ea] X.env = (false, eval ea X.env) :: starEach [] X.env := by rfl) :
    L2N.PMk X (.Call (.Name x p) [ea] [] pos) (fun σ H Q => WE X ea σ H fun v H1 => ∀ d, H1 d = none → Q (.ref C) (some d) (upd H1 d (.xd [(fld, v)]))) := by
  intro pins s σ H Q I h
  obtain ⟨f, qual, par, m, pa, sc, ar, j, p0, p1, p2, p3, p4, p5, p6, p7, p8, p9, T, F, hlin, hp, har, hbind, hps, hks, hkc, hka, hkb, hcell, hco, hgen, hk, hdp⟩ := c.ex
  refine wpAny_Call_Name_kw (ld_glob I g.gl hm ?_ g.d1)
  refine PySem.W.callWith_K (h₀ := X.base) I.ok.mod.kin T.kp (thn ((wa_one (QA := fun vs H1 => ∃ v, vs = [v] ∧ ∀ d, H1 d = none → Q (.ref C) (some d) (upd H1 d (.xd [(fld, v)]))) (we_mono h fun v H1 q => ⟨v, rfl, q⟩) he) pos pins s I) fun us s1 z => ?_) he rfl
  obtain ⟨vs, H1, I1, r1, v, rfl, q1⟩ := z
  refine ⟨I1.kIn, ?_⟩
  cases r1 with
  | @cons _ u0 _ ur ru rn =>
  cases rn
  show wpAny _ _ (call (.ref C) [u0]) _ _ _
  obtain ⟨nm, N', qn, bs, bm, hdct, sn, sub, ab, col, dd, k0, k1, k2, k3, k5, hC, hT⟩ := PySem.W.excInit_of I1.kIn T.ex
  obtain ⟨hp', gn, dr, tk, os⟩ := s1
  have kk : ∀ b o, hp'.get? b = some o → ((hp'.push (PySem.W.kdv_tup [u0])).push (PySem.HandSPX.excO C hp'.objs.size)).get? b = some o := fun b o e => Heap.get?_push_of_some _ (Heap.get?_push_of_some _ e)
  have hget : ((hp'.push (PySem.W.kdv_tup [u0])).push (PySem.HandSPX.excO C hp'.objs.size)).get? (hp'.objs.size + 1) = some (PySem.HandSPX.excO C hp'.objs.size) := by heap_get
  have hnew : hp'.get? (hp'.objs.size + 1) = none := Heap.get?_none_of_le (Nat.le_succ _)
  obtain ⟨mb, hb1, hb2⟩ := I1.mod.blt
  refine wpAny_call (PySem.HandSPX.call_own PySem.F.excBase_ValueError hT hC (PySem.W.looks_findIn I1.kIn T.ini) (fun self => PySem.W.bind_fn I1.kIn self T.tf) (by show 1 ≤ sizeLine; rw [sizeLine_eq]; omega)
    (ini_run (mg := X.mg) (hr.make C [u0] []).depth (I1.kIn.keeps kk) ((I1.mod.glob.keeps I1.bk).keeps kk) ⟨mb, (hb1.keeps I1.bk).keeps kk, hb2⟩ (I1.nolimit.keeps kk) c.su T F hlin hp har hbind hps hks hkc hka hkb hcell hco hgen hk c.no hdp hget ?_ ?_))
  · cases z : X.K.lookup (hp'.objs.size + 1) with
    | none => rfl
    | some o =>
      have y := I1.kIn _ _ z
      rw [hnew] at y
      cases y
  · intro h' t' dx t1 k' dn dne hx hn
    have hsz : hp'.objs.size ≤ dx := Nat.le_trans (by rw [Heap.size_push, Heap.size_push]; omega) dn
    obtain ⟨G, g1, g2⟩ := restrict h' fun b => decide (b ≠ hp'.objs.size + 1)
    have gk : ∀ b, b ≠ hp'.objs.size + 1 → G.get? b = h'.get? b := fun b hb => g1 b (decide_eq_true hb)
    have ge : G.get? (hp'.objs.size + 1) = none := g2 _ (by simp)
    have kG : ∀ b o, hp'.get? b = some o → G.get? b = some o := fun b o e => by
      have hb : b ≠ hp'.objs.size + 1 := fun z => by
        rw [z, hnew] at e
        cases e
      rw [gk b hb]
      exact k' b o hb (kk b o e)
    have J : Inv X pins σ (upd H1 dx (.xd [(fld, v)])) ⟨G, gn, dr, t', os⟩ := I1.laid (t' := t') (a := dx) (o := .xd [(fld, v)]) (h' := G) kG hsz
      ⟨_, hn.at fun o y => (gk dx dne).trans y, relO_put (fs := []) ru fun g => True.intro⟩
    refine ⟨rfl, hp'.objs.size + 1, _, _, ⟨G, gn, dr, t', os⟩, _, .ref C, some dx, rfl, J, fun b o z => ?_, ge, hx, ⟨rfl, rfl, fun vs e => by cases e; rfl⟩, rfl, rfl, ?_, rfl, I1.bare, raises_own T.sb T.ty, q1 dx (I1.hok.fresh hsz)⟩
    · by_cases hba : b = hp'.objs.size + 1
      · rw [hba, ge] at z
        cases z
      · exact (gk b hba).symm.trans z
    · rw [upd_ne (Ne.symm dne)]
      exact I1.hok.fresh (Nat.le_succ _)
theorem ws_raiseI (B : Body X k E) (hk : 2 ≤ k) (c : IniC X.prog X.K X.mg C fld) (g : Gn X x) (hm : X.mg x = some (.ref C))
    (h : WE X ea σ H fun v H1 => ∀ d, H1 d = none → E σ (.ref C) (some d) (upd H1 d (.xd [(fld, v)])))
    (he : starEach [ea] X.env = (false, eval ea X.env) :: starEach [] X.env := by rfl) : WS X (.Raise (some (.Call (.Name x p) [ea] [] pos)) none pos2) D σ H :=
  wsP (L2N.ps_raise B.calm B.tk (pmk_ini (B.room.mono hk) c g hm he)) h
end
end Rs
namespace Rs
open PySem PySem.Spec PyProof.Rows L2 He
/-! ### such an exception in a suite -/
def rIsED (K : PySem.W.Frag) (D a dd : Addr) : List V → Hp → VK → Prop := fun xs H Q => ∃ (c : V) (cv : Value) (b : Bool) (fs : List (Str × V)), xs = [.ref a, c] ∧ H dd = some (.xd fs) ∧ (∀ u, RelV c u → u = cv) ∧ PySem.W.kitOne K (.ref D) cv = some b ∧ Q (.bl b) H
theorem call_isED {X : Cx} {a D dd : Addr} {oe : Obj} {pn : List (Addr × Obj)} (C : ExcC X.K D) (hz : Zc (.ref D) (some dd) oe) (hf : ∃ vs, oe.data = .fields vs) : CallR (X.suite a ((a, oe) :: pn)) (.builtin "isinstance") (rIsED X.K D a dd) := by
  intro pins s σ H xs us Q I r h
  obtain ⟨c, cv, b, fs, rfl, hdd, hcv, e, q⟩ := h
  cases r with
  | cons rx rr =>
    cases rr with
    | cons rt rr =>
      cases rr
      cases rx
      have ec := hcv _ rt
      subst ec
      obtain ⟨hget, _⟩ := I.pin (a, oe) (List.mem_append.mpr (.inl List.mem_cons_self))
      have hx : ObjOk X.prog X.w H s.heap dd (.xd fs) := I.hok dd _ hdd
      obtain ⟨mA, hns, hr⟩ := hx
      obtain ⟨od, ho, hl⟩ := lookIn_ns hns
      obtain ⟨vs, hv⟩ := hf
      have J : PySem.W.InstAt s.heap a oe D (some od) := ⟨hget, hz.1, by unfold PySem.W.notCls; rw [hv] <;> rfl, by rw [hz.2]; exact ho⟩
      have hcl : (PySem.W.clsIn X.K D).isSome = true := by
        cases z : PySem.W.clsIn X.K D with
        | none =>
          have y := C.hd
          unfold PySem.W.hasDictIn at y
          rw [z] at y
          cases y
        | some cd => rfl
      exact PySem.W.kia_one (PySem.W.kitx_exc (od := some od) hcl C.hg C.hk C.hs C.ha C.hn C.ht C.hm) I.kIn J e (fun z => nomatch z) fun tk => ⟨.bl b, H, I.kept (t' := tk) fun _ _ z => z, rfl, q⟩
section
variable {X : Cx} {a D dd : Addr} {oe : Obj} {pn : List (Addr × Obj)} {σ : L2.St} {H : Hp} {Q : VK} {e b : Expr} {p pos : Pos} {n : Str}
theorem we_isED (C : ExcC X.K D) (hz : L2N.Zn (.ref D) (some dd) oe) (hf : ∃ vs, oe.data = .fields vs) (bn : Bn (X.suite a ((a, oe) :: pn)) "isinstance")
    (h : WE (X.suite a ((a, oe) :: pn)) e σ H fun v H1 => WE (X.suite a ((a, oe) :: pn)) b σ H1 fun w H2 => v = .ref a ∧ (∃ fs, H2 dd = some (.xd fs)) ∧ ∃ cv r, (∀ u, RelV w u → u = cv) ∧ PySem.W.kitOne X.K (.ref D) cv = some r ∧ Q (.bl r) H2)
    (hs : starEach [e, b] X.env = (false, eval e X.env) :: starEach [b] X.env := by rfl) (ht : starEach [b] X.env = [(false, eval b X.env)] := by rfl) (hl : (backTo pos (starEach [b] X.env)).any (·.1) = false := by rfl) :
    WE (X.suite a ((a, oe) :: pn)) (.Call (.Name "isinstance" p) [e, b] [] pos) σ H Q :=
  we_callB (call_isED (pn := pn) C hz.zc hf) bn boot_isinstance (wa_two (we_mono h fun v H1 q => we_mono q fun w H2 q => by
    obtain ⟨rfl, ⟨fs, hd⟩, cv, r, h1, h2, q⟩ := q
    exact ⟨w, cv, r, fs, rfl, hd, h1, h2, q⟩) hs ht) (by decide) (by decide) hs hl
/-- e.f -/
theorem we_xf (C : ExcC X.K D) (hno : PySem.W.findIn X.K (.ref D) n = some none) (hz : L2N.Zn (.ref D) (some dd) oe) (hf : ∃ vs, oe.data = .fields vs)
    (h : WE (X.suite a ((a, oe) :: pn)) e σ H fun v H1 => v = .ref a ∧ ∃ fs y, H1 dd = some (.xd fs) ∧ fs.lookup n = some y ∧ Q y H1) (hb : attributeBase e n X.env (eval e X.env) = eval e X.env := by rfl) :
    WE (X.suite a ((a, oe) :: pn)) (.Attribute e n pos) σ H Q :=
  weP (pe_xf ⟨C.hg, C.hk, C.hs, C.hd⟩ hno hz.zc hf peS hb) (we_mono h fun v H1 z => by
    obtain ⟨rfl, fs, y, h1, h2, q⟩ := z
    exact ⟨rfl, rfl, dd, fs, y, rfl, h1, h2, q⟩)
end
/-! ### looks -/
theorem excI_ok {P : Program} {K : PySem.W.Frag} {C f : Addr} (h : excIB P K C f = true) : ExcI P K C f := by
  obtain ⟨h1, h⟩ := ba h
  obtain ⟨h2, h⟩ := ba h
  obtain ⟨h3, h⟩ := ba h
  obtain ⟨h4, h⟩ := ba h
  obtain ⟨h5, h⟩ := ba h
  obtain ⟨h6, h⟩ := ba h
  obtain ⟨h7, h⟩ := ba h
  obtain ⟨h8, h⟩ := ba h
  obtain ⟨h9, h⟩ := ba h
  obtain ⟨h10, h⟩ := ba h
  obtain ⟨h11, h⟩ := ba h
  obtain ⟨h12, h13⟩ := ba h
  refine ⟨h1, ?_, h3, of_decide_eq_true h4, of_decide_eq_true h5, of_decide_eq_true h6, of_decide_eq_true h7, of_decide_eq_true h8, of_decide_eq_true h9, of_decide_eq_true h10, of_decide_eq_true h11, of_decide_eq_true h12, by simpa using h13⟩
  cases z : PySem.W.clsIn K C with
  | none => rw [z] at h2; cases h2
  | some cd =>
    rw [z] at h2
    obtain ⟨a, b⟩ := ba (show (PySem.HandSPX.refsVE cd.mro && cd.hasDict) = true from h2)
    exact ⟨cd, rfl, a, b⟩
theorem isCell_ok {C : Addr} {o : Option Obj} (h : isCellOf C o = true) : ∃ cl cld csl, o = some ⟨cl, cld, .cell (some (.ref C)), csl⟩ := by
  cases o with
  | none => cases h
  | some ob =>
    obtain ⟨a1, a2, dt, a3⟩ := ob
    cases dt with
    | cell v => exact ⟨_, _, _, by rw [of_decide_eq_true (show decide (v = some (.ref C)) = true from h)]⟩
    | _ => cases h
theorem isStr_ok {z : Str} {v : Value} (h : isStrAs z v = true) : ∃ file tk, v = .str file tk ∧ (z == file) = true := by
  cases v with
  | str file tk => exact ⟨_, _, rfl, h⟩
  | _ => cases h
theorem isCode_ok {z : Str} {o : Option Obj} (h : isCodeOf z o = true) : ∃ ccl cdd ccs vs file tf, o = some ⟨ccl, cdd, .fields vs, ccs⟩ ∧ vs[2]? = some (.str file tf) ∧ (z == file) = true := by
  cases o with
  | none => cases h
  | some ob =>
    obtain ⟨a1, a2, dt, a3⟩ := ob
    cases dt with
    | fields vs =>
      have h : (match vs[2]? with
        | some v => isStrAs z v
        | none => false) = true := h
      cases e : vs[2]? with
      | none => rw [e] at h; cases h
      | some v =>
        rw [e] at h
        obtain ⟨file, tk, rfl, h2⟩ := isStr_ok h
        exact ⟨_, _, _, vs, file, tk, rfl, e, h2⟩
    | _ => cases h
theorem isCodeAt_ok {z : Str} {K : PySem.W.Frag} {v : Value} (h : isCodeAt z K v = true) : ∃ cda, v = .ref cda ∧ isCodeOf z (K.lookup cda) = true := by
  cases v with
  | ref cda => exact ⟨_, rfl, h⟩
  | _ => cases h
theorem isClo_ok {K : PySem.W.Frag} {C : Addr} {cl : List (Str × Addr)} (h : isCloOf K C cl = true) : ∃ cc, cl = ([("__class__", cc)] : List (Str × Addr)) ∧ isCellOf C (K.lookup cc) = true := by
  cases cl with
  | nil => cases h
  | cons q r =>
    cases r with
    | nil =>
      obtain ⟨n, cc⟩ := q
      obtain ⟨h1, h2⟩ := ba (show (decide (n = "__class__") && isCellOf C (K.lookup cc)) = true from h)
      exact ⟨cc, by rw [of_decide_eq_true h1], h2⟩
    | cons _ _ => cases h
theorem funC_ok {P : Program} {K : PySem.W.Frag} {C f : Addr} {name qual : Str} {pa : Arguments} {body : List Stmt} {sc : Scope} (h : funCB P K C f = true)
    (F : ∃ (oc : Value) (od : Option Addr) (cl : List (Str × Addr)) (dV kV doc pm : Value) (an : Option Addr) (cdv ct : Value) (osl : Array (Option Value)),
      K.lookup f = some ⟨oc, od, .func (PySem.W.fnX name qual pa body sc cl dV kV doc pm an cdv ct), osl⟩ ∧ PySem.W.codeIn K cdv qual = true) : FunC P K C qual pa body sc f := by
  obtain ⟨oc, od, cl, dV, kV, doc, pm, an, cdv, ct, osl, lk, hcd⟩ := F
  unfold funCB at h
  rw [lk] at h
  obtain ⟨h1, h2⟩ := ba (show (isCloOf K C cl && (isCodeAt P.main.file K cdv && decide (dV = .none))) = true from h)
  obtain ⟨h6, h5⟩ := ba h2
  have e5 : dV = .none := of_decide_eq_true h5
  subst e5
  obtain ⟨cc, rfl, h3⟩ := isClo_ok h1
  obtain ⟨cda, rfl, h4⟩ := isCodeAt_ok h6
  exact ⟨oc, od, name, kV, doc, pm, an, cda, cc, ct, osl, lk, hcd, isCell_ok h3, isCode_ok h4⟩
end Rs

namespace Rs
open PySem PySem.Spec PyProof.Rows L2 He
/-! ### several except clauses, each with a name or without one -/
/-- a clause: its class, the slot of its name, its suite -/
abbrev Clause : Type := Value × Option Nat × (Addr → Value → Option Addr → TS)
def offSlot (o : Option Nat) (D : Ends) : Ends := match o with
  | none => D
  | some i => { nx := fun t G => D.nx (t.set i none) G, rt := D.rt, bk := fun t G => D.bk (t.set i none) G, ct := fun t G => D.ct (t.set i none) G }
def onSlot (o : Option Nat) (a : Addr) (t : L2.St) : L2.St := match o with
  | none => t
  | some i => t.set i (some (.ref a))
def wRow (K : PySem.W.Frag) (out : WX) (D : Ends) : List Clause → WX
  | [] => out
  | z :: r => fun cls d t G => ∃ b, PySem.W.exmOne K cls z.1 = some b ∧ (b = true → ∀ a, G a = none → z.2.2 a cls d (offSlot z.2.1 D) (onSlot z.2.1 a t) G) ∧ (b = false → wRow K out D r cls d t G)
/-- a suite reads as ts -/
def SuOk (X : Cx) (st : List Stmt) (ts : Addr → Value → Option Addr → TS) : Prop :=
  ∀ (a : Addr) (o : Obj) (cls : Value) (d : Option Addr) (pn : List (Addr × Obj)), L2N.Zn cls d o → (∃ vs, o.data = .fields vs) → PSs (X.suite a ((a, o) :: pn)) st (ts a cls d)
inductive RowOk (X : Cx) : List ExceptHandler → List Clause → Prop
  | nil : RowOk X [] []
  | bare {x : Str} {c : Value} {ts : Addr → Value → Option Addr → TS} {b0 : Stmt} {su : List Stmt} {p1 p2 : Pos} {hs : List ExceptHandler} {l : List Clause} (hc : Names X x c) (ok : SuOk X (b0 :: su) ts) (r : RowOk X hs l) :
      RowOk X (.ExceptHandler (some (.Name x p1)) none (b0 :: su) p2 :: hs) ((c, none, ts) :: l)
  | named {x n : Str} {i : Nat} {c : Value} {ts : Addr → Value → Option Addr → TS} {b0 : Stmt} {su : List Stmt} {p1 p2 : Pos} {hs : List ExceptHandler} {l : List Clause} (hi : X.N[i]? = some n) (hk : X.env.kindOf n = some .local) (hc : Names X x c)
      (ok : SuOk X (b0 :: su) ts) (r : RowOk X hs l) : RowOk X (.ExceptHandler (some (.Name x p1)) (some n) (b0 :: su) p2 :: hs) ((c, some i, ts) :: l)
section
variable {X : Cx} {pins : List (Addr × Obj)} {D : Ends}
/-- behind a suite without a name -/
theorem suite_end {a : Addr} {o : Obj} {f : Flow} {t : Shared} (ok : X.Ok) (h : SP (X.suite a ((a, o) :: (X.pn ++ pins))) [] D f t) : SP X pins D f t := by
  cases f with
  | next => exact h.elim fun _ h => h.elim fun _ h => ⟨_, _, h.1.unsuite ok, h.2⟩
  | brk => exact h.elim fun _ h => h.elim fun _ h => ⟨_, _, h.1.unsuite ok, h.2⟩
  | cont => exact h.elim fun _ h => h.elim fun _ h => ⟨_, _, h.1.unsuite ok, h.2⟩
  | ret u => exact h.elim fun _ h => h.elim fun _ h => h.elim fun _ h => ⟨_, _, _, h.1.unsuite ok, h.2⟩
/-- behind a body under try -/
theorem tried_end {pn : List (Addr × Obj)} {xe : Value → Shared → Prop} {f : Flow} {t : Shared} (ok : X.Ok) (back : ∀ {σ : L2.St} {G : Hp}, Inv (X.tr pn xe) [] σ G t → Inv X pins σ G t) (h : SP (X.tr pn xe) [] D f t) : SP X pins D f t := by
  cases f with
  | next => exact h.elim fun _ h => h.elim fun _ h => ⟨_, _, back h.1, h.2⟩
  | brk => exact h.elim fun _ h => h.elim fun _ h => ⟨_, _, back h.1, h.2⟩
  | cont => exact h.elim fun _ h => h.elim fun _ h => ⟨_, _, back h.1, h.2⟩
  | ret u => exact h.elim fun _ h => h.elim fun _ h => h.elim fun _ h => ⟨_, _, _, back h.1, h.2⟩
end
section
variable {X : Cx} {body : List Stmt} {h0 : ExceptHandler} {hds : List ExceptHandler} {l : List Clause} {pos : Pos} {tb : WX → TS} {out : WX}
theorem ps_try_row (stk : X.stack = X.env :: X.outer) (fra : X.env.frame = some X.env.locals) (nod : X.N.Nodup) (tk : L2N.Takes X out)
    (hb : ∀ (W : WX) (pn : List (Addr × Obj)) (xe : Value → Shared → Prop), L2N.Takes (X.tr pn xe) W → PassesOwn (model X.prog X.w) X.A X.env xe → PSs (X.tr pn xe) body (tb W))
    (rows : RowOk X (h0 :: hds) l) : PS X (.Try body (h0 :: hds) [] [] pos) (fun D σ H => tb (wRow X.K out D l) D σ H) := by
  refine ⟨fun pins s σ H D I h => wpAny_Try_except ?_⟩
  have ok := I.ok
  have kf : X.A.frames = some (X.env :: X.outer) := stk ▸ ok.frames
  refine wpAny_mono ((hb _ (X.pn ++ pins) (fun e t1 => wpAny (model X.prog X.w) X.A (noteFrame e X.env) (fun _ t2 => wpAny (model X.prog X.w) X.A (setFlight e none)
    (fun _ t3 => wpAny (model X.prog X.w) X.A (handleBy e X.env (h0 :: hds)) (SP X pins D) X.xe t3) X.xe t2) X.xe t1) (fun u t xx => ?_) PassesOwn.looking).run [] s σ H D (I.toTry _) h)
    (fun f t z => ?_) (fun _ _ z => z)
  case refine_2 =>
    have z' := tried_end (pins := pins) ok (fun J => J.ofTry ok) z
    cases f with
    | next => exact wpAny_execs_nil z'
    | brk => exact z'
    | cont => exact z'
    | ret _ => exact z'
  obtain ⟨a, B, t0, pins0, τ, G, cls, d, rfl, J0, nb, up, sky, ha0, eo, ag, wish⟩ := xx
  have J := J0.ofTry (pins := pins) ok
  have sk : Sky B (X.env :: X.outer) a (L2N.Zn cls d) X.env.locals t.heap := stk ▸ sky
  show wpAny (model X.prog X.w) X.A (noteFrame (Value.ref a) X.env) _ _ t
  refine L2N.Sky.land L2N.Zn.steady kf fra sk fun g3 fl up3 => ?_
  have J3 : Inv X pins τ G { t with heap := g3 } := J.landed nb fl.1 (up.trans up3) eo ag
  obtain ⟨o3, vs3, e3, z3, dt3⟩ := fl.there
  have noFrame : a ∉ frs (X.env :: X.outer) := fun hm => by
    obtain ⟨_, o', e', hnf⟩ := fl.2.2.1.mem hm
    rw [e3] at e'
    cases e'
    exact hnf _ dt3
  have na : a ≠ X.env.locals := fun q => noFrame (List.mem_filterMap.mpr ⟨X.env, List.mem_cons_self, fra.trans (congrArg some q.symm)⟩)
  have nf : a ∉ X.fs := fun q => noFrame ((List.mem_filterMap.mp q).elim fun e h => List.mem_filterMap.mpr ⟨e, List.mem_cons_of_mem _ h.1, h.2⟩)
  have S3 := J3.suite e3 dt3 ha0 na nf
  have kind : PySem.W.Looks (model X.prog X.w) g3 (typeOf (Value.ref a)) cls := fun _ _ _ _ k q => wpAny_typeOf_ref (k _ _ e3) (z3.1 ▸ q)
  have named : ∀ {x : Str} {c : Value} {np : Pos} {Q : Value → Shared → Prop} {E : Value → Shared → Prop}, Names X x c → Q c { t with heap := g3 } →
      wpAny (model X.prog X.w) (X.A.mark (some (.ref a))) (eval (.Name x np) X.env) Q E { t with heap := g3 } := fun hc q => by
    rcases hc with ⟨g1, g2, m | ⟨m1, m2, m3⟩⟩
    · exact ld_glob (X := X.suite a ((a, o3) :: (X.pn ++ pins))) S3 g1 m q g2
    · exact ld_blt (X := X.suite a ((a, o3) :: (X.pn ++ pins))) S3 g1 m1 m2 q m3 g2
  have all : ∀ {rs : List ExceptHandler} {ls : List Clause}, RowOk X rs ls → wRow X.K out D ls cls d τ G → wpAny (model X.prog X.w) X.A (handleBy (.ref a) X.env rs) (SP X pins D) X.xe { t with heap := g3 } := by
    intro rs ls ro
    induction ro with
    | nil =>
      intro w
      refine wpAny_handleBy_nil ?_
      obtain ⟨_, _, _, o5, v5, C5, k5, t5, q1, q2, q3, q4, q5⟩ := id fl
      unfold PySem.passOn
      refine wpAny_bind (wpAny_field q1 q3 q4 ?_)
      rw [if_neg (show ¬ ((Value.ref C5 == Value.none) = true) by simp)]
      have last : wpAny (model X.prog X.w) X.A (setFlight (.ref a) X.env.frame) (fun _ t4 => wpAny (model X.prog X.w) X.A (throw (.ref a) : Sem Flow) (SP X pins D) X.xe t4) X.xe { t with heap := g3 } := by
        rw [fra]
        exact HandSPX.setFlight_upZ fl fun g4 fl4 up4 => wpAny_throw (tk _ _ ⟨a, B, t0, pins, τ, G, cls, d, rfl, J, nb, (up.trans up3).trans up4, .inr (.inr (by rw [stk]; exact fl4)), ha0, eo, ag, w⟩)
      first
        | exact wpAny_bind (wpAny_pure (wpAny_bind last))
        | exact wpAny_bind last
    | @bare x c ts b0 su p1 p2 hs l hc so r ih =>
      rintro ⟨b, eb, yes, no⟩
      refine wpAny_handleBy_cons (codeAny_handlers_test (named hc ((PySem.W.exm_one (M := model X.prog X.w) J3.kIn kind eb).here ?_))) (by intro q; cases q)
      cases b with
      | false => exact ih (no rfl)
      | true =>
        refine codeAny_handlers_suite (HandSPX.lands_againZ fl fun g4 fl4 up4 => ?_)
        obtain ⟨o4, v4, e4, z4, dt4⟩ := fl4.there
        have J4 : Inv X pins τ G { t with heap := g4 } := J.landed nb fl4.1 ((up.trans up3).trans up4) eo ag
        have S4 := J4.suite e4 dt4 ha0 na nf
        exact wpAny_mono ((so a o4 cls d (X.pn ++ pins) z4 ⟨_, dt4⟩).run [] _ _ G _ S4 (yes rfl a ha0)) (fun _ _ z => suite_end ok z) (fun _ _ z => False.elim z)
    | @named x n i c ts b0 su p1 p2 hs l hi hk hc so r ih =>
      rintro ⟨b, eb, yes, no⟩
      refine wpAny_handleBy_cons (codeAny_handlers_test (named hc ((PySem.W.exm_one (M := model X.prog X.w) J3.kIn kind eb).here ?_))) (by intro q; cases q)
      cases b with
      | false => exact ih (no rfl)
      | true =>
        refine codeAny_handlers_suite_as (HandSPX.lands_againZ fl fun g4 fl4 up4 => ?_)
        obtain ⟨o4, v4, e4, z4, dt4⟩ := fl4.there
        have J4 : Inv X pins τ G { t with heap := g4 } := J.landed nb fl4.1 ((up.trans up3).trans up4) eo ag
        have S4 := J4.suite e4 dt4 ha0 na nf
        refine store_ok (X := X.suite a ((a, o4) :: (X.pn ++ pins))) (v := .ref a) S4 nod hi (.inl hk) rfl (fun t5 S5 => ?_) (.inr hk)
        refine wpAny_mono ((so a o4 cls d (X.pn ++ pins) z4 ⟨_, dt4⟩).run [] t5 _ G _ S5 (yes rfl a ha0)) (fun f t6 z => ?_) (fun _ _ z => False.elim z)
        have gone : ∀ {τ6 : L2.St} {G6 : Hp} {R : Shared → Prop}, Inv X pins τ6 G6 t6 → (∀ t7, Inv X pins (τ6.set i none) G6 t7 → R t7) →
            wpAny (model X.prog X.w) X.A (do bindName X.env n .none; unbindBehindTheSuite X.env n p2) (fun _ t7 => R t7) X.xe t6 := fun S hq => gone_ok S nod hi hk hq
        have z' := suite_end (pins := pins) ok z
        cases f with
        | next => exact z'.elim fun _ h => h.elim fun _ h => gone h.1 fun t7 J7 => ⟨_, _, J7, h.2⟩
        | brk => exact z'.elim fun _ h => h.elim fun _ h => gone h.1 fun t7 J7 => ⟨_, _, J7, h.2⟩
        | cont => exact z'.elim fun _ h => h.elim fun _ h => gone h.1 fun t7 J7 => ⟨_, _, J7, h.2⟩
        | ret u => exact z'.elim fun _ h => h.elim fun _ h => h.elim fun _ h => gone h.1 fun t7 J7 => ⟨_, _, _, J7, h.2.1, h.2.2⟩
  exact all rows wish
end
section
variable {X : Cx} {k : Nat} {E : L2.St → XK} {D : Ends} {σ : L2.St} {H : Hp} {body : List Stmt} {h0 : ExceptHandler} {hds : List ExceptHandler} {l : List Clause} {pos : Pos}
theorem su_ok {st : List Stmt} : SuOk X st (Sui X st) := fun a oe cls d pn hz hf => ⟨fun pins t σ H D I q => q oe pn hz hf pins t I⟩
theorem ws_try_row (B : Body X k E) (nod : X.N.Nodup) (rows : RowOk X (h0 :: hds) l)
    (h : ∀ pn xe, Body (X.tr pn xe) k (fun σ cls d H => wRow X.K (fun cls d σ H => E σ cls d H) D l cls d σ H) → WB (X.tr pn xe) body D σ H) (hf : ∀ x, X.fn x = true := by assumption) :
    WS X (.Try body (h0 :: hds) [] [] pos) D σ H :=
  wsP (ps_try_row (tb := fun W D σ H => ∀ pn xe, L2N.Takes (X.tr pn xe) W → PassesOwn (model X.prog X.w) X.A X.env xe → WB (X.tr pn xe) body D σ H) (B.stk hf) (B.fr hf) nod B.tk
    (fun W pn xe tk po => ⟨fun pins t σ H D I q => q pn xe tk po pins t I⟩) rows) fun pn xe tk po => h pn xe (B.tr tk po)
theorem row_yes {K : PySem.W.Frag} {out : WX} {z : Clause} {r : List Clause} {cls : Value} {d : Option Addr} (e : PySem.W.exmOne K cls z.1 = some true) (h : ∀ a, H a = none → z.2.2 a cls d (offSlot z.2.1 D) (onSlot z.2.1 a σ) H) : wRow K out D (z :: r) cls d σ H := ⟨true, e, fun _ => h, fun q => nomatch q⟩
theorem row_no {K : PySem.W.Frag} {out : WX} {z : Clause} {r : List Clause} {cls : Value} {d : Option Addr} (e : PySem.W.exmOne K cls z.1 = some false) (h : wRow K out D r cls d σ H) : wRow K out D (z :: r) cls d σ H := ⟨false, e, (fun q => nomatch q), fun _ => h⟩
end
/-! ### data beside data -/
section
variable {X : Cx} {k : Nat} {E : L2.St → XK} {H : Hp} {Q : VK} {v u : V} {d e : PyData}
theorem o_eqDp (B : Body X k E) (hv : Dp X.K H v d) (hu : Dp X.K H u e) (sd : SeqAt.shaped d = true) (se : SeqAt.shaped e = true) (q : Q (.bl (PyData.eqv d e)) H) : Op2 X (compareOp .Eq) v u H Q :=
  op2_of (op_eqD (by have := B.room.un; omega)) ⟨d, e, hv, hu, sd, se, q⟩
theorem o_neDp (B : Body X k E) (hv : Dp X.K H v d) (hu : Dp X.K H u e) (sd : SeqAt.shaped d = true) (se : SeqAt.shaped e = true) (q : Q (.bl (!PyData.eqv d e)) H) : Op2 X (compareOp .NotEq) v u H Q :=
  op2_of (op_neD (by have := B.room.un; omega)) ⟨d, e, hv, hu, sd, se, q⟩
end
/-! ### slices of lists, lists put together -/
section
variable {X : Cx} {σ : L2.St} {H : Hp} {Q : VK} {a b : Expr} {pos p2 : Pos}
theorem we_cutL (h : WE X a σ H fun v H1 => WE X b σ H1 fun w H2 => ∃ p xs i, v = .ref p ∧ w = .int i ∧ SqL X.K H2 p xs ∧ ∀ l, H2 l = none → Q (.ref l) (upd H2 l (.lst (cutV xs (some i) none)))) : WE X (.Subscript a (.Slice (some b) none none p2) pos) σ H Q :=
  weP (pe_slice sl_list peS (po_some peS) po_none) (we_mono h fun v H1 z => we_mono z fun w H2 z => by
    obtain ⟨p, xs, i, rfl, rfl, h1, z⟩ := z
    exact ⟨i, rfl, p, xs, rfl, h1, z⟩)
theorem we_cutA (h : WE X a σ H fun v H1 => ∃ p xs, v = .ref p ∧ SqL X.K H1 p xs ∧ ∀ l, H1 l = none → Q (.ref l) (upd H1 l (.lst (cutV xs none none)))) : WE X (.Subscript a (.Slice none none none p2) pos) σ H Q :=
  weP (pe_slice sl_list peS po_none po_none) (we_mono h fun v H1 z => by
    obtain ⟨p, xs, rfl, h1, z⟩ := z
    exact ⟨p, xs, rfl, h1, z⟩)
end
theorem cut_all (xs : List V) : cutV xs none none = xs := by
  unfold cutV HT.sIx
  simp
end Rs

namespace Rs
open PySem PySem.Spec PyProof.Rows L2 He
/-! ### a module's tuple of texts -/
def KTup (K : PySem.W.Frag) (a : Addr) (xs : List Str) : Prop :=
  ∃ (o : Obj) (its : Array Value) (n : Nat), K.lookup a = some o ∧ o.cls = .type "tuple" ∧ o.data = .seq its n ∧ its.size ≤ sizeLine ∧ Vals (xs.map V.str) its.toList
theorem KTup.sq {K : PySem.W.Frag} {a : Addr} {xs : List Str} (h : KTup K a xs) (H : Hp) : SqT K H a (xs.map V.str) := .inr h
theorem strsAre_ok : ∀ {xs : List Str} {vs : List Value}, strsAre xs vs = true → Vals (xs.map V.str) vs
  | [], [], _ => .nil
  | x :: xs, v :: vs, h => by
    obtain ⟨h1, h2⟩ := ba h
    obtain ⟨f, t, rfl, e⟩ := isStr_ok h1
    exact .cons ⟨t, by rw [eq_of_beq e]⟩ (strsAre_ok h2)
  | [], _ :: _, h => nomatch h
  | _ :: _, [], h => nomatch h
theorem kTup_ok {K : PySem.W.Frag} {a : Addr} {xs : List Str} (h : kTupB K a xs = true) : KTup K a xs := by
  unfold kTupB at h
  cases q : K.lookup a with
  | none => rw [q] at h; cases h
  | some o =>
    rw [q] at h
    obtain ⟨h1, h2⟩ := ba h
    cases q2 : seqOf o.data with
    | none => rw [q2] at h2; cases h2
    | some i =>
      rw [q2] at h2
      obtain ⟨h3, h4⟩ := ba h2
      cases q3 : o.data with
      | seq i' n =>
        rw [q3] at q2
        cases q2
        exact ⟨o, i, n, q, of_decide_eq_true h1, q3, Nat.le_trans (of_decide_eq_true h3) (by decide), strsAre_ok h4⟩
      | _ => rw [q3] at q2; cases q2
/-! ### dicts with texts as keys -/
theorem not_src_dk {kvs : List (Key × V)} : ¬ Src (.dK kvs) := by
  rintro ⟨l, i, b, r, e, _⟩
  cases e
section
variable {X : Cx} {k : Nat} {E : L2.St → XK} {σ : L2.St} {H : Hp} {D : Ends} {Q : VK} {o i e value : Expr} {pos pos' p : Pos} {j : Nat} {x : Str}
theorem we_dget (B : Body X k E) (h : WE X o σ H fun v H1 => WE X i σ H1 fun y H2 => ∃ a kvs x v', v = .ref a ∧ y = .str x ∧ H2 a = some (.dK kvs) ∧ valV kvs (.inr x) = some v' ∧ Q v' H2) (hs : NoSl i := by intro _ _; rfl) : WE X (.Subscript o i pos) σ H Q :=
  weP (pe_dget (by have := B.room.un; omega) peS peS hs) (we_mono h fun v H1 z => we_mono z fun y H2 z => by
    obtain ⟨a, kvs, x, v', rfl, rfl, h1, h2, q⟩ := z
    exact ⟨a, v', rfl, by rw [← h2]; exact DGet.k (k := .inr x) h1, q⟩)
/-- o["x"] -/
theorem we_dgetS (B : Body X k E) (h : WE X o σ H fun v H1 => ∃ a kvs v', v = .ref a ∧ H1 a = some (.dK kvs) ∧ valV kvs (.inr x) = some v' ∧ Q v' H1) (hs : NoSl (.Constant (.str x) j p) := by intro _ _; rfl) : WE X (.Subscript o (.Constant (.str x) j p) pos) σ H Q :=
  we_dget B (we_mono h fun v H1 z => we_str (by
    obtain ⟨a, kvs, v', rfl, h1, h2, q⟩ := z
    exact ⟨a, kvs, x, v', rfl, rfl, h1, h2, q⟩)) hs
theorem ws_dput (B : Body X k E) (h : WE X value σ H fun v H1 => WE X o σ H1 fun z H2 => WE X i σ H2 fun y H3 => ∃ a kvs x, z = .ref a ∧ y = .str x ∧ H3 a = some (.dK kvs) ∧ kvs.length < sizeLine ∧ D.nx σ (upd H3 a (.dK (putK kvs (.inr x) v))))
    (hs : swapsWith value (some (.Subscript o i pos')) pos.line X.env = pure false := by rfl) : WS X (.Assign [.Subscript o i pos'] value pos) D σ H :=
  wsP (ps_dput (by have := B.room.un; omega) peS peS peS hs) (we_mono h fun v H1 z => we_mono z fun y H2 z => we_mono z fun w H3 z => by
    obtain ⟨a, kvs, x, rfl, rfl, h1, h2, q⟩ := z
    exact ⟨a, _, rfl, DPut.k (k := .inr x) h1 h2, q⟩)
theorem call_dictC {X : Cx} : CallR X (.type "dict") fun xs H Q => ∃ a kvs, xs = [.ref a] ∧ H a = some (.dK kvs) ∧ ∀ p, H p = none → Q (.ref p) (upd H p (.dK kvs)) := by
  intro pins s σ H xs us Q I r q
  obtain ⟨a, kvs, rfl, ea, q⟩ := q
  obtain ⟨u, rfl, ru⟩ := vals1 r
  cases ru
  exact d_copyOf I (.inl ea) fun p s' hp I' => ⟨.ref p, _, I', rfl, q p hp⟩
theorem we_dictC (bn : Bn X "dict") (h : WE X e σ H fun v H1 => ∃ a kvs, v = .ref a ∧ H1 a = some (.dK kvs) ∧ ∀ p, H1 p = none → Q (.ref p) (upd H1 p (.dK kvs))) (hs : starEach [e] X.env = [(false, eval e X.env)] := by rfl) (hl : (backTo pos (starEach [] X.env)).any (·.1) = false := by rfl) :
    WE X (.Call (.Name "dict" p) [e] [] pos) σ H Q := we_callT call_dictC bn (by rfl) (wa_one (we_mono h fun v H1 q => by
    obtain ⟨a, kvs, rfl, q⟩ := q
    exact ⟨a, kvs, rfl, q⟩) hs) (by decide) (by decide) hs hl
/-- in, not in of flat items -/
theorem o_inT {v : V} {a : Addr} {xs : List V} (h : SqT X.K H a xs) (hv : flatV v = true) (hx : xs.all flatV = true) (q : Q (.bl (inV v xs)) H) : Op2 X (compareOp .In) v (.ref a) H Q := op2_of op_in_seq ⟨a, xs, rfl, .inr h, hv, hx, q⟩
end
theorem o_isB {X : Cx} {H : Hp} {Q : VK} {a b : Bool} (q : Q (.bl (decide (a = b))) H) : Op2 X (compareOp .Is) (.bl a) (.bl b) H Q := op2_of op_isBl ⟨a, b, rfl, rfl, q⟩
/-! ### dicts as rows of keys and rows of values -/
section
variable {ks : List Key} {vs : List V} {k : Key} {v : V} {i : Nat}
theorem valV_zip (nd : ks.Nodup) (hk : ks[i]? = some k) (hv : vs[i]? = some v) : valV (ks.zip vs) k = some v := by
  induction ks generalizing vs i with
  | nil => cases hk
  | cons k0 ks ih =>
    cases vs with
    | nil => cases hv
    | cons v0 vs =>
      cases i with
      | zero =>
        cases hk
        cases hv
        exact valV_pos rfl
      | succ i =>
        have n0 := List.nodup_cons.mp nd
        have m : k ∈ ks := List.mem_of_getElem? hk
        show valV ((k0, v0) :: ks.zip vs) k = some v
        rw [valV_neg (fun e : k0 = k => n0.1 (e ▸ m))]
        exact ih n0.2 hk hv
theorem zip_keys {x : Key × V} (h : x ∈ ks.zip vs) : x.1 ∈ ks := (List.of_mem_zip h).1
theorem map_zip (nk : k ∉ ks) : (ks.zip vs).map (fun kv => if kv.1 = k then (kv.1, v) else kv) = ks.zip vs := by
  have e : ∀ kv ∈ ks.zip vs, (if kv.1 = k then (kv.1, v) else kv) = kv := fun kv h => if_neg fun q : kv.1 = k => nk (q ▸ zip_keys h)
  rw [List.map_congr_left e, List.map_id']
theorem putK_zip (nd : ks.Nodup) (l : ks.length = vs.length) (hk : ks[i]? = some k) : putK (ks.zip vs) k v = ks.zip (vs.set i v) := by
  have hi := (List.getElem?_eq_some_iff.mp hk).1
  have hs : ((ks.zip vs).any fun kv => decide (kv.1 = k)) = true := by
    rw [valV_any, valV_zip nd hk (List.getElem?_eq_getElem (show i < vs.length by omega))]
    rfl
  unfold putK
  rw [if_pos hs]
  clear hs hi
  induction ks generalizing vs i with
  | nil => cases hk
  | cons k0 ks ih =>
    cases vs with
    | nil => cases l
    | cons v0 vs =>
      have n0 := List.nodup_cons.mp nd
      cases i with
      | zero =>
        cases hk
        show (if k = k then (k, v) else (k, v0)) :: (ks.zip vs).map _ = (k, v) :: ks.zip vs
        rw [if_pos rfl, map_zip n0.1]
      | succ i =>
        have m : k ∈ ks := List.mem_of_getElem? hk
        show (if k0 = k then (k0, v) else (k0, v0)) :: (ks.zip vs).map _ = (k0, v0) :: ks.zip (vs.set i v)
        rw [if_neg (fun e : k0 = k => n0.1 (e ▸ m)), ih n0.2 (Nat.succ.inj l) hk]
theorem any_none {acc : List (Key × V)} (h : ∀ x ∈ acc, x.1 ≠ k) : (acc.any fun kv => decide (kv.1 = k)) = false := by
  rw [List.any_eq_false]
  exact fun x hx q => h x hx (of_decide_eq_true q)
theorem mergeK_new : ∀ (more acc : List (Key × V)), (more.map (·.1)).Nodup → (∀ x ∈ acc, ∀ y ∈ more, x.1 ≠ y.1) → mergeK acc more = acc ++ more
  | [], acc, _, _ => (List.append_nil acc).symm
  | kv :: more, acc, nd, dj => by
    have n0 := List.nodup_cons.mp nd
    show mergeK (putK acc kv.1 kv.2) more = acc ++ kv :: more
    have e : putK acc kv.1 kv.2 = acc ++ [kv] := by
      unfold putK
      rw [any_none fun x hx => dj x hx kv List.mem_cons_self, if_neg (by decide)]
    rw [e, mergeK_new more _ n0.2 ?_, List.append_assoc]
    · rfl
    · intro x hx y hy
      rcases List.mem_append.mp hx with h | h
      · exact dj x h y (List.mem_cons_of_mem _ hy)
      · rw [List.mem_singleton.mp h]
        exact fun q => n0.1 (List.mem_map.mpr ⟨y, hy, q.symm⟩)
theorem mergeK_zip (nd : ks.Nodup) (l : ks.length = vs.length) : mergeK [] (ks.zip vs) = ks.zip vs := by
  refine mergeK_new _ [] ?_ (fun x h => by cases h)
  rw [List.map_fst_zip (by omega)]
  exact nd
end
/-! ### a dict written out -/
def WP (X : Cx) (keys : List (Option Expr)) (values : List Expr) (σ : L2.St) (H : Hp) (Q : List (V × V) → Hp → Prop) : Prop := match keys, values with
  | [], [] => Q [] H
  | some k :: ks, v :: vs => WE X k σ H fun a H1 => WE X v σ H1 fun b H2 => WP X ks vs σ H2 fun ps H3 => Q ((a, b) :: ps) H3
  | _, _ => False
section
variable {X : Cx} {σ : L2.St}
theorem pps_wp (pos : Pos) : ∀ (keys : List (Option Expr)) (values : List Expr), keys.all (·.isSome) = true → keys.length = values.length → ∃ trs, PPs X pos keys values trs ∧ ∀ H Q, WP X keys values σ H Q → tPairs trs σ H Q
  | [], [], _, _ => ⟨[], pps_nil, fun H Q h => h⟩
  | some k :: ks, v :: vs, h, l => by
    obtain ⟨trs, p, q⟩ := pps_wp pos ks vs h (Nat.succ.inj l)
    exact ⟨_, pps_cons peS peS p, fun H Q h => we_mono h fun a H1 z => we_mono z fun b H2 z => q _ _ z⟩
  | none :: ks, v :: vs, h, _ => by cases h
  | [], _ :: _, _, l => by cases l
  | _ :: _, [], _, l => by cases l
theorem wp_cons {k v : Expr} {ks : List (Option Expr)} {vs : List Expr} {H : Hp} {Q : List (V × V) → Hp → Prop} (h : WE X k σ H fun a H1 => WE X v σ H1 fun b H2 => WP X ks vs σ H2 fun ps H3 => Q ((a, b) :: ps) H3) : WP X (some k :: ks) (v :: vs) σ H Q := h
theorem wp_nil {H : Hp} {Q : List (V × V) → Hp → Prop} (h : Q [] H) : WP X [] [] σ H Q := h
theorem we_disp {H : Hp} {Q : VK} {keys : List (Option Expr)} {values : List Expr} {pos : Pos} (h0 : keys ≠ [])
    (h : ∀ p, H p = none → WP X keys values σ (upd H p (.dK [])) fun ps H2 => H2 p = some (.dK []) ∧ ∃ kvs : List (Key × V), ps = kvs.map (fun kv => (kV kv.1, kv.2)) ∧ kvs.length ≤ 15 ∧ Q (.ref p) (upd H2 p (.dK (mergeK [] kvs)))) (hk : keys.length ≤ 15 := by decide)
    (hall : keys.all (·.isSome) = true := by rfl) (hl : keys.length = values.length := by rfl) : WE X (.Dict keys values pos) σ H Q := by
  obtain ⟨trs, p, q⟩ := pps_wp (X := X) (σ := σ) pos keys values hall hl
  exact weP (pe_disp p hall hl h0 hk) fun a ha => q _ _ (h a ha)
end
/-! ### isinstance(e, (A, B)) in a suite -/
section
variable {X : Cx} {a D : Addr} {oe : Obj} {pn : List (Addr × Obj)} {σ : L2.St} {H : Hp} {Q : VK} {e b : Expr} {p pos : Pos}
theorem call_isE2 (C : ExcC X.K D) (hz : Zc (.ref D) none oe) (hf : ∃ vs, oe.data = .fields vs) : CallR (X.suite a ((a, oe) :: pn)) (.builtin "isinstance") fun xs H Q => ∃ (t C1 C2 : Addr) (r : Bool), xs = [.ref a, .ref t] ∧ H t = some (.tup [.ref C1, .ref C2]) ∧ PySem.W.kitAny X.K (.ref D) [.ref C1, .ref C2] = some r ∧ Q (.bl r) H := by
  intro pins s σ H xs us Q I r h
  obtain ⟨t, C1, C2, r', rfl, ht, e, q⟩ := h
  cases r with
  | cons rx rr =>
    cases rr with
    | cons rt rr =>
      cases rr
      cases rx
      cases rt
      obtain ⟨hget, _⟩ := I.pin (a, oe) (List.mem_append.mpr (.inl List.mem_cons_self))
      obtain ⟨vs, hv⟩ := hf
      have J : PySem.W.InstAt s.heap a oe D none := by
        obtain ⟨oc, od, oda, osl⟩ := oe
        obtain ⟨h1, h2⟩ := hz
        dsimp only at h1 h2 hv
        subst h1 h2 hv
        exact ⟨hget, rfl, rfl, trivial⟩
      obtain ⟨its, rv, ⟨o, ho, hc, n, hd⟩, _⟩ := I.tuple (.of ht : SqT X.K H t [.ref C1, .ref C2])
      have ev : its = [Value.ref C1, Value.ref C2] := by
        cases rv with
        | cons r1 rv =>
          cases rv with
          | cons r2 rv =>
            cases rv
            cases r1
            cases r2
            rfl
      obtain ⟨oc, od, oda, osl⟩ := o
      dsimp only at hc hd
      subst hc hd ev
      exact PySem.W.kia_tup (its := [.ref C1, .ref C2]) (PySem.W.handS_kitx_exc C.hg C.hk C.hs C.hd C.ha C.hn C.ht C.hm) I.kIn J ho e (fun z => nomatch z) fun tk => ⟨.bl r', H, I.kept (t' := tk) fun _ _ z => z, rfl, q⟩
theorem we_isE2 (C : ExcC X.K D) (hz : L2N.Zn (.ref D) none oe) (hf : ∃ vs, oe.data = .fields vs) (bn : Bn (X.suite a ((a, oe) :: pn)) "isinstance")
    (h : WE (X.suite a ((a, oe) :: pn)) e σ H fun v H1 => WE (X.suite a ((a, oe) :: pn)) b σ H1 fun w H2 => v = .ref a ∧ ∃ (t C1 C2 : Addr) (r : Bool), w = .ref t ∧ H2 t = some (.tup [.ref C1, .ref C2]) ∧ PySem.W.kitAny X.K (.ref D) [.ref C1, .ref C2] = some r ∧ Q (.bl r) H2)
    (hs : starEach [e, b] X.env = (false, eval e X.env) :: starEach [b] X.env := by rfl) (ht : starEach [b] X.env = [(false, eval b X.env)] := by rfl) (hl : (backTo pos (starEach [b] X.env)).any (·.1) = false := by rfl) :
    WE (X.suite a ((a, oe) :: pn)) (.Call (.Name "isinstance" p) [e, b] [] pos) σ H Q :=
  we_callB (call_isE2 (pn := pn) C hz.zc hf) bn boot_isinstance (wa_two (we_mono h fun v H1 q => we_mono q fun w H2 q => by
    obtain ⟨rfl, t, C1, C2, r, rfl, h1, h2, q⟩ := q
    exact ⟨t, C1, C2, r, rfl, h1, h2, q⟩) hs ht) (by decide) (by decide) hs hl
theorem kitAny2 {K : PySem.W.Frag} {C1 C2 : Value} (h1 : PySem.W.kitOne K (.ref D) C1 = some false) (h2 : PySem.W.kitOne K (.ref D) C2 = some false) : PySem.W.kitAny K (.ref D) [C1, C2] = some false := by
  unfold PySem.W.kitAny
  rw [h1]
  unfold PySem.W.kitAny
  rw [h2]
  rfl
end
end Rs

namespace Mt
/-- |q| -/
def rabs (q : Rat) : Rat := Rat.divInt (if q.num < 0 then -q.num else q.num) q.den
theorem cross {a b : Int} (hb : b ≠ 0) : (Rat.divInt a b).num * b = a * (Rat.divInt a b).den := by
  have h := Rat.num_divInt_den (Rat.divInt a b)
  exact (Rat.divInt_eq_divInt_iff (den_ne _) hb).mp h
theorem rabs_div {a b : Int} (hb : b ≠ 0) : rabs (Rat.divInt a b) = Rat.divInt (if (decide (a < 0) != decide (b < 0)) = true then -a else a) b := by
  have hq := Rat.num_divInt_den (Rat.divInt a b)
  have hc := cross (a := a) hb
  have hD := den_pos (Rat.divInt a b)
  generalize hn : (Rat.divInt a b).num = n at hc hq
  generalize hd : ((Rat.divInt a b).den : Int) = D at hc hq hD
  have nega : -Rat.divInt a b = Rat.divInt (-a) b := Rat.neg_divInt a b
  unfold rabs
  rw [hn, hd]
  by_cases h0 : n < 0
  · rw [if_pos h0, ← Rat.neg_divInt, hq, nega]
    rcases Int.lt_or_gt_of_ne hb with hb' | hb'
    · have h1 : 0 < n * b := Int.mul_pos_of_neg_of_neg h0 hb'
      rw [hc] at h1
      have ha : 0 < a := Int.pos_of_mul_pos_left h1 hD
      rw [decide_eq_false (by omega : ¬ a < 0), decide_eq_true hb']; rfl
    · have h1 : n * b < 0 := Int.mul_neg_of_neg_of_pos h0 hb'
      rw [hc] at h1
      have ha : a < 0 := Int.neg_of_mul_neg_left h1 hD
      rw [decide_eq_true ha, decide_eq_false (by omega : ¬ b < 0)]; rfl
  · rw [if_neg h0, hq]
    rcases Int.lt_or_gt_of_ne hb with hb' | hb'
    · have h1 : n * b ≤ 0 := Int.mul_nonpos_of_nonneg_of_nonpos (by omega) (by omega)
      rw [hc] at h1
      have ha : a ≤ 0 := by
        refine Int.not_lt.mp fun z => ?_
        have := Int.mul_pos z hD
        omega
      by_cases z : a < 0
      · rw [decide_eq_true z, decide_eq_true hb', if_neg (by decide)]
      · rw [show a = 0 by omega]
        split <;> rfl
    · have h1 : 0 ≤ n * b := Int.mul_nonneg (by omega) (by omega)
      rw [hc] at h1
      have ha : 0 ≤ a := by
        refine Int.not_lt.mp fun z => ?_
        have := Int.mul_neg_of_neg_of_pos z hD
        omega
      rw [decide_eq_false (by omega : ¬ a < 0), decide_eq_false (by omega : ¬ b < 0), if_neg (by decide)]
end Mt

namespace Mt
/-- -1, 0, 1 as q is below, at, above r -/
def sg (q r : Rat) : Int := if q = r then 0 else if q < r then -1 else 1
theorem sg_neg (q r : Rat) : -sg q r = sg r q := by
  unfold sg
  by_cases h : q = r
  · subst h
    rw [if_pos rfl]; rfl
  · have h' : ¬ r = q := fun e => h e.symm
    by_cases l : q < r
    · have l' : ¬ r < q := fun l2 => absurd (Rat.le_of_lt l2) (Rat.not_le.mpr l)
      simp only [h, h', l, l', if_true, if_false]; rfl
    · have l' : r < q := Rat.not_le.mp fun l2 => l (Rat.lt_of_le_of_ne l2 h)
      simp only [h, h', l, l', if_true, if_false]
theorem sg_lt (q r : Rat) : decide (q < r) = decide (sg q r < 0) := by
  unfold sg
  by_cases h : q = r
  · subst h
    rw [if_pos rfl, decide_eq_false Rat.lt_irrefl]; rfl
  · rw [if_neg h]
    by_cases l : q < r
    · rw [if_pos l, decide_eq_true l]; rfl
    · rw [if_neg l, decide_eq_false l]; rfl
theorem sg_eq (q r : Rat) : decide (q = r) = decide (sg q r = 0) := by
  unfold sg
  by_cases h : q = r
  · rw [if_pos h, decide_eq_true h]; rfl
  · rw [if_neg h, decide_eq_false h]
    by_cases l : q < r
    · rw [if_pos l]; rfl
    · rw [if_neg l]; rfl
theorem sg_eq2 (q r : Rat) : decide (r = q) = decide (sg q r = 0) := by
  rw [← sg_eq]
  congr 1
  exact propext eq_comm
theorem sg_le (q r : Rat) : decide (q ≤ r) = decide (sg q r ≤ 0) := by
  unfold sg
  by_cases h : q = r
  · subst h
    rw [if_pos rfl, decide_eq_true Rat.le_refl]; rfl
  · rw [if_neg h]
    by_cases l : q < r
    · rw [if_pos l, decide_eq_true (Rat.le_of_lt l)]; rfl
    · rw [if_neg l, decide_eq_false fun l2 => l (Rat.lt_of_le_of_ne l2 h)]; rfl
theorem sg_gt (q r : Rat) : decide (r < q) = decide (0 < sg q r) := by
  rw [sg_lt r q, ← sg_neg q r]
  congr 1
  exact propext ⟨fun h => by omega, fun h => by omega⟩
theorem sg_ge (q r : Rat) : decide (r ≤ q) = decide (0 ≤ sg q r) := by
  rw [sg_le r q, ← sg_neg q r]
  congr 1
  exact propext ⟨fun h => by omega, fun h => by omega⟩
theorem sq_pos {x : Int} (h : x ≠ 0) : 0 < x * x := by
  rcases Int.lt_or_gt_of_ne h with l | l
  · exact Int.mul_pos_of_neg_of_neg l l
  · exact Int.mul_pos l l
/-- the two sides of _law_sign, scaled -/
theorem side {a b d D G n : Int} (h : n * b = a * D) : a * b * d * d * (D * G) = n * G * (b * b * (d * d)) := by
  have : a * b * d * d * (D * G) = (a * D) * b * d * d * G := by grind
  rw [this, ← h]
  grind
theorem sgn_lt {a b c d : Int} (hb : b ≠ 0) (hd : d ≠ 0) : (a * b * d * d < c * d * b * b) ↔ Rat.divInt a b < Rat.divInt c d := by
  have h1 := side (d := d) (G := ((Rat.divInt c d).den : Int)) (cross (a := a) hb)
  have h2 := side (d := b) (G := ((Rat.divInt a b).den : Int)) (cross (a := c) hd)
  have hk : 0 < b * b * (d * d) := Int.mul_pos (sq_pos hb) (sq_pos hd)
  have hD := Int.mul_pos (den_pos (Rat.divInt a b)) (den_pos (Rat.divInt c d))
  rw [Rat.lt_iff]
  have e1 := Int.mul_lt_mul_right (b := (Rat.divInt a b).num * (Rat.divInt c d).den) (c := (Rat.divInt c d).num * (Rat.divInt a b).den) hk
  have e2 := Int.mul_lt_mul_right (b := a * b * d * d) (c := c * d * b * b) hD
  rw [← e1, ← e2, h1, Int.mul_comm ((Rat.divInt a b).den : Int), h2, Int.mul_comm (b * b) (d * d)]
theorem sgn_eq {a b c d : Int} (hb : b ≠ 0) (hd : d ≠ 0) : (a * b * d * d = c * d * b * b) ↔ Rat.divInt a b = Rat.divInt c d := by
  have l1 := sgn_lt (a := a) (c := c) hb hd
  have l2 := sgn_lt (a := c) (c := a) hd hb
  constructor
  · intro h
    have n1 := mt l1.mpr (by omega)
    have n2 := mt l2.mpr (by omega)
    exact Rat.le_antisymm (Rat.not_lt.mp n2) (Rat.not_lt.mp n1)
  · intro h
    have n1 := mt l1.mp (by rw [h]; exact Rat.lt_irrefl)
    have n2 := mt l2.mp (by rw [h]; exact Rat.lt_irrefl)
    omega
theorem fdiv_le {a b : Int} (hb : b ≠ 0) : (a.fdiv b).natAbs ≤ a.natAbs := by
  rcases Int.lt_or_gt_of_ne hb with l | l
  · rw [← Int.neg_fdiv_neg, Int.fdiv_eq_ediv_of_nonneg _ (by omega)]
    refine Nat.le_trans (Int.natAbs_ediv_le_natAbs _ _) ?_
    rw [Int.natAbs_neg]
    exact Nat.le_refl _
  · rw [Int.fdiv_eq_ediv_of_nonneg _ (by omega)]
    exact Int.natAbs_ediv_le_natAbs _ _
end Mt

namespace Mt
/-- at least 1 -/
def m1 (b : Int) : Nat := if b.natAbs = 0 then 1 else b.natAbs
theorem m1_pos (b : Int) : 1 ≤ m1 b := by unfold m1; split <;> omega
theorem m1_le (b : Int) : b.natAbs ≤ m1 b := by unfold m1; split <;> omega
theorem powB {b : Int} {r n M : Nat} (h : m1 b ^ n < 2 ^ M) (l : r ≤ n) : (b ^ r).natAbs < 2 ^ M := by
  rw [Int.natAbs_pow]
  exact Nat.lt_of_le_of_lt (Nat.le_trans (Nat.pow_le_pow_left (m1_le b) r) (Nat.pow_le_pow_right (m1_pos b) l)) h
theorem powm {m k n M : Nat} (h : m < 2 ^ k) (l : k * n ≤ M) (hn : 0 < n) : m ^ n < 2 ^ M := by
  refine Nat.lt_of_lt_of_le (Nat.pow_lt_pow_left h (by omega)) ?_
  rw [← Nat.pow_mul]
  exact Nat.pow_le_pow_right (by decide) l
/-- q to the n -/
def qpow (q : Rat) (n : Nat) : Rat := Rat.divInt (q.num ^ n) ((q.den : Int) ^ n)
theorem pow_ne {b : Int} (h : b ≠ 0) (n : Nat) : b ^ n ≠ 0 := Int.pow_ne_zero h
theorem qpow_div {a b : Int} (hb : b ≠ 0) (n : Nat) : qpow (Rat.divInt a b) n = Rat.divInt (a ^ n) (b ^ n) := by
  unfold qpow
  rw [Rat.divInt_eq_divInt_iff (pow_ne (den_ne _) n) (pow_ne hb n), ← Int.mul_pow, ← Int.mul_pow, cross hb]
theorem qpow_add (q : Rat) (m n : Nat) : qpow q (m + n) = qpow q m * qpow q n := by
  unfold qpow
  rw [Rat.divInt_mul_divInt, ← Int.pow_add, ← Int.pow_add]
theorem cop_pow (q : Rat) (n : Nat) : Int.gcd (q.num ^ n) ((q.den : Int) ^ n) = 1 := by
  show Nat.gcd (q.num ^ n).natAbs ((q.den : Int) ^ n).natAbs = 1
  rw [Int.natAbs_pow, Int.natAbs_pow, Int.natAbs_natCast]
  exact Nat.Coprime.pow n n q.reduced
theorem g1_pow (q : Rat) (n : Nat) : g1 (q.num ^ n) ((q.den : Int) ^ n) = 1 := by
  unfold g1
  rw [cop_pow]
  rfl
theorem qpow_num (q : Rat) (n : Nat) : (qpow q n).num = q.num ^ n := by
  have hd : (q.den : Int) ^ n > 0 := Int.pow_pos (den_pos q)
  unfold qpow
  rw [Rat.num_divInt, Int.gcd_comm, cop_pow, Int.sign_eq_one_of_pos hd, Int.one_mul]
  exact Int.ediv_one _
theorem qpow_den (q : Rat) (n : Nat) : ((qpow q n).den : Int) = (q.den : Int) ^ n := by
  have hd : (q.den : Int) ^ n > 0 := Int.pow_pos (den_pos q)
  unfold qpow
  rw [Rat.den_divInt, if_neg (by omega), Int.gcd_comm, cop_pow, Nat.div_one, Int.natAbs_of_nonneg (by omega)]
theorem step_odd {r e c n : Nat} (h : r + e * c = n) (o : c % 2 = 1) : (r + e) + (e + e) * (c / 2) = n := by
  have hc : c = 2 * (c / 2) + 1 := by omega
  generalize c / 2 = h2 at hc
  subst hc
  rw [← h, Nat.add_mul, Nat.mul_add, Nat.mul_one, Nat.two_mul, Nat.mul_add]
  omega
theorem step_even {r e c n : Nat} (h : r + e * c = n) (o : c % 2 = 0) : r + (e + e) * (c / 2) = n := by
  have hc : c = 2 * (c / 2) := by omega
  generalize c / 2 = h2 at hc
  subst hc
  rw [← h, Nat.add_mul, Nat.two_mul, Nat.mul_add]
theorem le_n {r e c n : Nat} (h : r + e * c = n) (hc : 0 < c) : e ≤ n ∧ r ≤ n ∧ r + e ≤ n := by
  have : e * 1 ≤ e * c := Nat.mul_le_mul_left e hc
  omega
end Mt

namespace Mt
def ov (q r : Rat) : Rat := Rat.divInt (q.num * r.den) (q.den * r.num)
def fl (q r : Rat) : Int := (q.num * r.den).fdiv (q.den * r.num)
theorem scale {a b : Int} (hb : b ≠ 0) : ∃ g : Int, g ≠ 0 ∧ a = (Rat.divInt a b).num * g ∧ b = (Rat.divInt a b).den * g := Rat.divInt_num_den (n' := (Rat.divInt a b).num) (d' := (Rat.divInt a b).den) (z' := (Rat.divInt a b).den_nz) (c := (Rat.divInt a b).reduced) hb rfl
theorem fdiv_scale {x y k : Int} (hk : k ≠ 0) : (x * k).fdiv (y * k) = x.fdiv y := by
  have pos : ∀ {x y k : Int}, 0 < k → (x * k).fdiv (y * k) = x.fdiv y := fun {x y k} h => by
    rw [Int.mul_comm x, Int.mul_comm y]
    exact Int.mul_fdiv_mul_of_pos x y h
  rcases Int.lt_or_gt_of_ne hk with l | l
  · rw [← Int.neg_fdiv_neg, Int.neg_mul_eq_mul_neg, Int.neg_mul_eq_mul_neg]
    exact pos (by omega)
  · exact pos l
theorem four (n g G h : Int) : n * g * (G * h) = n * G * (g * h) := by grind
theorem fl_div {a b c d : Int} (hb : b ≠ 0) (hd : d ≠ 0) : fl (Rat.divInt a b) (Rat.divInt c d) = (a * d).fdiv (b * c) := by
  obtain ⟨g, g0, e1, e2⟩ := scale (a := a) hb
  obtain ⟨h, h0, e3, e4⟩ := scale (a := c) hd
  generalize hq : Rat.divInt a b = q at *
  generalize hr : Rat.divInt c d = r at *
  unfold fl
  rw [e1, e2, e3, e4, four q.num g r.den h, four q.den g r.num h, fdiv_scale (Int.mul_ne_zero g0 h0)]
theorem ov_div {a b c d : Int} (hb : b ≠ 0) (hd : d ≠ 0) : ov (Rat.divInt a b) (Rat.divInt c d) = Rat.divInt (a * d) (b * c) := by
  obtain ⟨g, g0, e1, e2⟩ := scale (a := a) hb
  obtain ⟨h, h0, e3, e4⟩ := scale (a := c) hd
  generalize hq : Rat.divInt a b = q at *
  generalize hr : Rat.divInt c d = r at *
  unfold ov
  rw [e1, e2, e3, e4, four q.num g r.den h, four q.den g r.num h, Rat.divInt_mul_right (Int.mul_ne_zero g0 h0)]
theorem num_zero {c d : Int} (hd : d ≠ 0) : (Rat.divInt c d).num = 0 ↔ c = 0 := by
  obtain ⟨h, h0, e3, e4⟩ := scale (a := c) hd
  constructor
  · intro z
    rw [e3, z, Int.zero_mul]
  · intro z
    rw [z] at e3 ⊢
    rcases Int.mul_eq_zero.mp e3.symm with y | y
    · exact y
    · exact absurd y h0
theorem fl_le {q r : Rat} (h : r.num ≠ 0) : (fl q r).natAbs ≤ (q.num * r.den).natAbs := fdiv_le (Int.mul_ne_zero (den_ne q) h)
end Mt

namespace Mt
theorem Sz.mul {q r : Rat} {n m : Nat} (h : Sz q n) (h' : Sz r m) : Sz (q * r) (n + m) := by
  rw [← mul_eq]
  refine Sz.div (Int.mul_ne_zero (den_ne q) (den_ne r)) (mulB h.num h'.num) ?_
  rw [Int.natAbs_mul, Int.natAbs_natCast, Int.natAbs_natCast]
  exact pow_add' h.den h'.den
theorem Sz.sub {q r : Rat} {n m : Nat} (h : Sz q n) (h' : Sz r m) : Sz (q - r) (n + m + 1) := by
  rw [← sub_eq]
  refine Sz.div (Int.mul_ne_zero (den_ne q) (den_ne r)) (subB (mulB h.num (by rw [Int.natAbs_natCast]; exact h'.den)) ?_) ?_
  · rw [Nat.add_comm]
    exact mulB h'.num (by rw [Int.natAbs_natCast]; exact h.den)
  · rw [Int.natAbs_mul, Int.natAbs_natCast, Int.natAbs_natCast]
    exact Nat.lt_of_lt_of_le (pow_add' h.den h'.den) (Nat.pow_le_pow_right (by decide) (by omega))
theorem Sz.add {q r : Rat} {n m : Nat} (h : Sz q n) (h' : Sz r m) : Sz (q + r) (n + m + 1) := by
  rw [← add_eq]
  refine Sz.div (Int.mul_ne_zero (den_ne q) (den_ne r)) (addB (mulB h.num (by rw [Int.natAbs_natCast]; exact h'.den)) ?_) ?_
  · rw [Nat.add_comm]
    exact mulB h'.num (by rw [Int.natAbs_natCast]; exact h.den)
  · rw [Int.natAbs_mul, Int.natAbs_natCast, Int.natAbs_natCast]
    exact Nat.lt_of_lt_of_le (pow_add' h.den h'.den) (Nat.pow_le_pow_right (by decide) (by omega))
theorem back_again (q r : Rat) : q - r + r = q := Rat.sub_add_cancel
theorem part_times {a b c d : Int} (hb : b ≠ 0) (hc : c ≠ 0) (hd : d ≠ 0) : ov (Rat.divInt a b) (Rat.divInt c d) * Rat.divInt c d = Rat.divInt a b := by
  rw [ov_div hb hd, Rat.divInt_mul_divInt, Rat.divInt_eq_divInt_iff (Int.mul_ne_zero (Int.mul_ne_zero hb hc) hd) hb]
  grind
end Mt

namespace Mt
/-! a round, sending by sending, over any numbers -/
section
variable {α : Type} [Add α] [LT α] [DecidableRel (LT.lt (α := α))]
/-- the wait of sending k, its time -/
def wtk (w : α) (d : Bool) : Nat → α
  | 0 => w
  | k + 1 => if d = true then wtk w d k + wtk w d k else wtk w d k
def stk (z w : α) (d : Bool) : Nat → α
  | 0 => z
  | k + 1 => stk z w d k + wtk w d k
/-- the delay of sending k -/
def dlk (ds : List (Option α)) (k : Nat) : Option α := if k < ds.length then (ds[k]?).getD none else (ds[ds.length - 1]?).getD none
structure RS (α : Type) where
  nd : Nat
  an : Nat
  ans : Option α
  dly : Option α
def rstep (r : RS α) (k : Nat) (s : α) (o : Option α) : RS α :=
  let n := match r.ans with
    | none => r.nd
    | some _ => r.nd + 1
  match o with
  | none => ⟨n, r.an, r.ans, r.dly⟩
  | some x => match r.ans with
    | none => ⟨n, k, some (s + x), some x⟩
    | some a => if s + x < a then ⟨n, k, some (s + x), some x⟩ else ⟨n, r.an, r.ans, r.dly⟩
def rsk (z w : α) (d : Bool) (ds : List (Option α)) : Nat → RS α
  | 0 => ⟨0, 0, none, none⟩
  | k + 1 => rstep (rsk z w d ds k) k (stk z w d k) (dlk ds k)
/-- an answer is awaited at sending k -/
def Gng (z w : α) (d : Bool) (ds : List (Option α)) (k : Nat) : Prop := match (rsk z w d ds k).ans with
  | none => True
  | some a => stk z w d k < a
/-- the wait of the last one of k sendings -/
def lwk (w : α) (d : Bool) : Nat → α
  | 0 => w
  | k + 1 => wtk w d k
end
section
variable {α β : Type} [Add α] [LT α] [DecidableRel (LT.lt (α := α))] [Add β] [LT β] [DecidableRel (LT.lt (α := β))]
def RS.map (f : α → β) (r : RS α) : RS β := ⟨r.nd, r.an, r.ans.map f, r.dly.map f⟩
variable {f : α → β} (ha : ∀ a b, f (a + b) = f a + f b) (hl : ∀ a b, f a < f b ↔ a < b) {z w : α} {d : Bool} {ds : List (Option α)}
include ha in
theorem wtk_map (k : Nat) : wtk (f w) d k = f (wtk w d k) := by
  induction k with
  | zero => rfl
  | succ k ih =>
    unfold wtk
    rw [ih]
    split
    · rw [ha]
    · rfl
include ha in
theorem stk_map (k : Nat) : stk (f z) (f w) d k = f (stk z w d k) := by
  induction k with
  | zero => rfl
  | succ k ih =>
    unfold stk
    rw [ih, wtk_map ha, ha]
include ha in
theorem lwk_map (k : Nat) : lwk (f w) d k = f (lwk w d k) := by
  cases k with
  | zero => rfl
  | succ k => exact wtk_map ha k
theorem dlk_map (k : Nat) : dlk (ds.map (Option.map f)) k = (dlk ds k).map f := by
  unfold dlk
  rw [List.length_map, List.getElem?_map, List.getElem?_map]
  split
  · cases ds[k]? with
    | none => rfl
    | some o => rfl
  · cases ds[ds.length - 1]? with
    | none => rfl
    | some o => rfl
include ha hl in
theorem rstep_map (r : RS α) (k : Nat) (s : α) (o : Option α) : rstep (r.map f) k (f s) (o.map f) = (rstep r k s o).map f := by
  obtain ⟨nd, an, ans, dly⟩ := r
  cases o with
  | none => cases ans <;> rfl
  | some x =>
    cases ans with
    | none =>
      show (⟨nd, k, some (f s + f x), some (f x)⟩ : RS β) = ⟨nd, k, some (f (s + x)), some (f x)⟩
      rw [ha]
    | some a =>
      show (if f s + f x < f a then (⟨nd + 1, k, some (f s + f x), some (f x)⟩ : RS β) else ⟨nd + 1, an, some (f a), dly.map f⟩) = RS.map f (if s + x < a then ⟨nd + 1, k, some (s + x), some x⟩ else ⟨nd + 1, an, some a, dly⟩)
      rw [← ha]
      by_cases h : s + x < a
      · rw [if_pos h, if_pos ((hl _ _).mpr h)]
        rfl
      · rw [if_neg h, if_neg (fun q => h ((hl _ _).mp q))]
        rfl
include ha hl in
theorem rsk_map (k : Nat) : rsk (f z) (f w) d (ds.map (Option.map f)) k = (rsk z w d ds k).map f := by
  induction k with
  | zero => rfl
  | succ k ih =>
    unfold rsk
    rw [ih, stk_map ha, dlk_map, rstep_map ha hl]
include ha hl in
theorem gng_map (k : Nat) : Gng (f z) (f w) d (ds.map (Option.map f)) k ↔ Gng z w d ds k := by
  unfold Gng
  rw [rsk_map ha hl, stk_map ha]
  cases h : (rsk z w d ds k).ans with
  | none =>
    have : ((rsk z w d ds k).map f).ans = none := by unfold RS.map; rw [h]; rfl
    rw [this]
  | some a =>
    have : ((rsk z w d ds k).map f).ans = some (f a) := by unfold RS.map; rw [h]; rfl
    rw [this]
    exact hl _ _
end
/-! whole numbers over a bottom -/
def sc (L : Nat) (i : Int) : Rat := Rat.divInt i L
theorem sc_add {L : Nat} (h : L ≠ 0) (a b : Int) : sc L (a + b) = sc L a + sc L b := by
  unfold sc
  rw [Rat.divInt_add_divInt _ _ (by omega) (by omega), ← Int.add_mul, Rat.divInt_mul_right (by omega)]
theorem sc_lt {L : Nat} (h : L ≠ 0) (a b : Int) : sc L a < sc L b ↔ a < b := by
  unfold sc
  have hp : (0 : Int) < L := by omega
  rw [← sgn_lt (by omega) (by omega), Int.mul_lt_mul_right hp, Int.mul_lt_mul_right hp, Int.mul_lt_mul_right hp]
theorem sc_zero (L : Nat) : sc L 0 = 0 := by
  unfold sc
  exact Rat.zero_divInt _
theorem sc_pos {L : Nat} (h : L ≠ 0) {a : Int} : 0 < sc L a ↔ 0 < a := by rw [← sc_zero L, sc_lt h]
end Mt

namespace Mt
theorem least {P : Nat → Prop} : ∀ n, P n → ∃ N, N ≤ n ∧ P N ∧ ∀ j, j < N → ¬ P j := by
  intro n
  induction n using Nat.strongRecOn with
  | ind n ih =>
    intro h
    by_cases q : ∃ j, j < n ∧ P j
    · obtain ⟨j, hj, pj⟩ := q
      obtain ⟨N, h1, h2, h3⟩ := ih j hj pj
      exact ⟨N, by omega, h2, h3⟩
    · exact ⟨n, Nat.le_refl n, h, fun j hj pj => q ⟨j, hj, pj⟩⟩
section
variable {W : Int} {d : Bool} {ds : List (Option Int)}
theorem wtk_ge (h : 0 ≤ W) (k : Nat) : W ≤ wtk W d k := by
  induction k with
  | zero => exact Int.le_refl _
  | succ k ih =>
    unfold wtk
    split <;> omega
theorem wtk_le (h : 0 ≤ W) (k : Nat) : wtk W d k ≤ W * 2 ^ k := by
  induction k with
  | zero => show W ≤ W * 2 ^ 0; omega
  | succ k ih =>
    have e : W * 2 ^ (k + 1) = W * 2 ^ k + W * 2 ^ k := by rw [Int.pow_succ]; grind
    have g := wtk_ge (d := d) h k
    rw [e]
    unfold wtk
    split <;> omega
theorem stk_le (h : 0 ≤ W) (k : Nat) : stk 0 W d k ≤ W * 2 ^ k := by
  induction k with
  | zero => show 0 ≤ W * 2 ^ 0; omega
  | succ k ih =>
    have e : W * 2 ^ (k + 1) = W * 2 ^ k + W * 2 ^ k := by rw [Int.pow_succ]; grind
    have g := wtk_le (d := d) h k
    rw [e]
    unfold stk
    omega
theorem stk_nn (h : 0 ≤ W) (k : Nat) : 0 ≤ stk 0 W d k := by
  induction k with
  | zero => exact Int.le_refl _
  | succ k ih =>
    have g := wtk_ge (d := d) h k
    unfold stk
    omega
theorem stk_far (h : 0 ≤ W) (k j : Nat) : stk 0 W d k + j * W ≤ stk 0 W d (k + j) := by
  induction j with
  | zero => simp
  | succ j ih =>
    have g := wtk_ge (d := d) h (k + j)
    have e : ((j + 1 : Nat) : Int) * W = j * W + W := by
      rw [show ((j + 1 : Nat) : Int) = (j : Int) + 1 by omega, Int.add_mul, Int.one_mul]
    show _ ≤ stk 0 W d (k + j) + wtk W d (k + j)
    omega
/-- the answer that stands is at most B -/
def Below (r : RS Int) (B : Int) : Prop := ∃ a, r.ans = some a ∧ a ≤ B
theorem below_step {r : RS Int} {B s : Int} {k : Nat} {o : Option Int} (h : Below r B) : Below (rstep r k s o) B := by
  obtain ⟨nd, an, ans, dly⟩ := r
  obtain ⟨a, e, l⟩ := h
  cases e
  cases o with
  | none => exact ⟨a, rfl, l⟩
  | some x =>
    show Below (if s + x < a then (⟨nd + 1, k, some (s + x), some x⟩ : RS Int) else ⟨nd + 1, an, some a, dly⟩) B
    split
    · exact ⟨s + x, rfl, by omega⟩
    · exact ⟨a, rfl, l⟩
theorem below_new {r : RS Int} {s x : Int} {k : Nat} : Below (rstep r k s (some x)) (s + x) := by
  obtain ⟨nd, an, ans, dly⟩ := r
  cases ans with
  | none => exact ⟨s + x, rfl, Int.le_refl _⟩
  | some a =>
    show Below (if s + x < a then (⟨nd + 1, k, some (s + x), some x⟩ : RS Int) else ⟨nd + 1, an, some a, dly⟩) (s + x)
    split
    · exact ⟨s + x, rfl, Int.le_refl _⟩
    · exact ⟨a, rfl, by omega⟩
/-- the delays of a law's round -/
structure DOk (W : Int) (ds : List (Option Int)) : Prop where
  n0 : 0 < ds.length
  n6 : ds.length ≤ 6
  all : ∀ (j : Nat) (x : Int), (ds[j]?).getD none = some x → 1 ≤ x ∧ x ≤ 9 * W
  last : ∃ x, (ds[ds.length - 1]?).getD none = some x
theorem DOk.dl (h : DOk W ds) {k : Nat} {x : Int} (e : dlk ds k = some x) : 1 ≤ x ∧ x ≤ 9 * W := by
  unfold dlk at e
  split at e <;> exact h.all _ _ e
theorem stops (hW : 1 ≤ W) (h : DOk W ds) : ∃ N, 0 < N ∧ N ≤ 14 ∧ ¬ Gng 0 W d ds N ∧ ∀ j, j < N → Gng 0 W d ds j := by
  obtain ⟨x, ex⟩ := h.last
  obtain ⟨n, en⟩ : ∃ n, ds.length = n + 1 := ⟨ds.length - 1, by have := h.n0; omega⟩
  have n6 := h.n6
  have ed : dlk ds n = some x := by
    unfold dlk
    rw [if_pos (by omega)]
    rw [en] at ex
    exact ex
  have hx := h.dl ed
  have b0 : Below (rsk 0 W d ds (n + 1)) (stk 0 W d n + x) := by
    show Below (rstep _ n _ (dlk ds n)) _
    rw [ed]
    exact below_new
  have bk : ∀ j, Below (rsk 0 W d ds (n + 1 + j)) (stk 0 W d n + x) := fun j => by
    induction j with
    | zero => exact b0
    | succ j ih => exact below_step ih
  have far := stk_far (W := W) (d := d) (by omega) n 9
  have st : ¬ Gng 0 W d ds (n + 9) := by
    obtain ⟨a, ea, la⟩ := bk 8
    rw [show n + 1 + 8 = n + 9 by omega] at ea
    unfold Gng
    rw [ea]
    show ¬ stk 0 W d (n + 9) < a
    omega
  obtain ⟨N, h1, h2, h3⟩ := least (P := fun k => ¬ Gng 0 W d ds k) (n + 9) st
  refine ⟨N, ?_, by omega, h2, fun j hj => Classical.byContradiction (h3 j hj)⟩
  rcases Nat.eq_zero_or_pos N with e | e
  · subst e
    exact absurd trivial h2
  · exact e
end
theorem sc_sz {L : Nat} {i : Int} {m : Nat} (h : L ≠ 0) (hi : i.natAbs < 2 ^ m) (hL : L < 2 ^ m) : Sz (sc L i) m := Sz.div (by omega) hi (by omega)
end Mt

namespace Mt
section
variable {u : Rat} {d : Bool} {ds : List (Option Rat)}
/-- what stands behind k sendings -/
def Rin (u : Rat) (d : Bool) (ds : List (Option Rat)) (k : Nat) (r : RS Rat) : Prop := match r.ans with
  | none => (∀ j, j < k → dlk ds j = none) ∧ r.nd = 0
  | some a => r.an < k ∧ (∃ y, dlk ds r.an = some y ∧ r.dly = some y ∧ stk 0 u d r.an + y = a) ∧
    (∀ j, j < k → ∀ x, dlk ds j = some x → a ≤ stk 0 u d j + x ∧ (stk 0 u d j + x = a → r.an ≤ j)) ∧ ∃ h, h < k ∧ dlk ds h ≠ none ∧ (∀ j, j < h → dlk ds j = none) ∧ r.nd + h + 1 = k
theorem rin (k : Nat) : Rin u d ds k (rsk 0 u d ds k) := by
  induction k with
  | zero => exact ⟨fun j hj => absurd hj (Nat.not_lt_zero j), rfl⟩
  | succ k ih =>
    show Rin u d ds (k + 1) (rstep (rsk 0 u d ds k) k (stk 0 u d k) (dlk ds k))
    generalize rsk 0 u d ds k = r at ih
    obtain ⟨nd, an, ans, dly⟩ := r
    cases eo : dlk ds k with
    | none =>
      cases ans with
      | none =>
        obtain ⟨h1, h2⟩ := ih
        refine ⟨fun j hj => ?_, h2⟩
        rcases Nat.lt_or_eq_of_le (Nat.le_of_lt_succ hj) with l | l
        · exact h1 j l
        · rw [l]; exact eo
      | some a =>
        obtain ⟨h1, h2, h3, h, h4, h5, h6, h7⟩ := ih
        refine ⟨Nat.lt_succ_of_lt h1, h2, fun j hj x hx => ?_, h, Nat.lt_succ_of_lt h4, h5, h6, by show nd + 1 + h + 1 = k + 1; have h7 : nd + h + 1 = k := h7; omega⟩
        rcases Nat.lt_or_eq_of_le (Nat.le_of_lt_succ hj) with l | l
        · exact h3 j l x hx
        · rw [l, eo] at hx; cases hx
    | some x =>
      cases ans with
      | none =>
        obtain ⟨h1, h2⟩ := ih
        have h2 : nd = 0 := h2
        refine ⟨Nat.lt_succ_self k, ⟨x, eo, rfl, rfl⟩, fun j hj y hy => ?_, k, Nat.lt_succ_self k, (by rw [eo]; exact fun z => nomatch z), h1, by show nd + k + 1 = k + 1; omega⟩
        rcases Nat.lt_or_eq_of_le (Nat.le_of_lt_succ hj) with l | l
        · rw [h1 j l] at hy; cases hy
        · subst l
          rw [eo] at hy
          cases hy
          exact ⟨Rat.le_refl, fun _ => Nat.le_refl _⟩
      | some a =>
        obtain ⟨h1, h2, h3, h, h4, h5, h6, h7⟩ := ih
        have h7 : nd + h + 1 = k := h7
        show Rin u d ds (k + 1) (if stk 0 u d k + x < a then (⟨nd + 1, k, some (stk 0 u d k + x), some x⟩ : RS Rat) else ⟨nd + 1, an, some a, dly⟩)
        by_cases f : stk 0 u d k + x < a
        · rw [if_pos f]
          refine ⟨Nat.lt_succ_self k, ⟨x, eo, rfl, rfl⟩, fun j hj y hy => ?_, h, Nat.lt_succ_of_lt h4, h5, h6, by show nd + 1 + h + 1 = k + 1; omega⟩
          rcases Nat.lt_or_eq_of_le (Nat.le_of_lt_succ hj) with l | l
          · have q := (h3 j l y hy).1
            exact ⟨by grind, fun e => by grind⟩
          · subst l
            rw [eo] at hy
            cases hy
            exact ⟨Rat.le_refl, fun _ => Nat.le_refl _⟩
        · rw [if_neg f]
          refine ⟨Nat.lt_succ_of_lt h1, h2, fun j hj y hy => ?_, h, Nat.lt_succ_of_lt h4, h5, h6, by show nd + 1 + h + 1 = k + 1; omega⟩
          rcases Nat.lt_or_eq_of_le (Nat.le_of_lt_succ hj) with l | l
          · exact h3 j l y hy
          · subst l
            rw [eo] at hy
            cases hy
            exact ⟨Rat.not_lt.mp f, fun _ => Nat.le_of_lt h1⟩
theorem wtk_pos (h : 0 < u) (k : Nat) : 0 < wtk u d k := by
  induction k with
  | zero => exact h
  | succ k ih =>
    unfold wtk
    split
    · grind
    · exact ih
theorem stk_mono (h : 0 < u) {j k : Nat} (l : j ≤ k) : stk 0 u d j ≤ stk 0 u d k := by
  induction k with
  | zero => rw [Nat.le_zero.mp l]; exact Rat.le_refl
  | succ k ih =>
    rcases Nat.lt_or_eq_of_le l with q | q
    · have i := ih (Nat.le_of_lt_succ q)
      have p := wtk_pos (d := d) h k
      show _ ≤ stk 0 u d k + wtk u d k
      grind
    · rw [q]; exact Rat.le_refl
/-- a round that stops behind N sendings -/
theorem rstop {N : Nat} (h : 0 < u) (n0 : 0 < N) (go : ∀ k, k < N → Gng 0 u d ds k) (st : ¬ Gng 0 u d ds N) (dp : ∀ k x, dlk ds k = some x → 0 < x) :
    ∃ a, (rsk 0 u d ds N).ans = some a ∧ (∀ j, j < N → stk 0 u d j < a) ∧ a ≤ stk 0 u d N := by
  obtain ⟨n, rfl⟩ : ∃ n, N = n + 1 := ⟨N - 1, by omega⟩
  have gn := go n (Nat.lt_succ_self n)
  have key : ∀ a, (rsk 0 u d ds (n + 1)).ans = some a → stk 0 u d n < a := by
    intro a e
    have e : (rstep (rsk 0 u d ds n) n (stk 0 u d n) (dlk ds n)).ans = some a := e
    unfold Gng at gn
    generalize rsk 0 u d ds n = r at e gn
    obtain ⟨nd, an, ans, dly⟩ := r
    cases eo : dlk ds n with
    | none =>
      rw [eo] at e
      cases ans with
      | none => cases e
      | some b => cases e; exact gn
    | some x =>
      rw [eo] at e
      have px := dp n x eo
      cases ans with
      | none => cases e; grind
      | some b =>
        have e : (if stk 0 u d n + x < b then (⟨nd + 1, n, some (stk 0 u d n + x), some x⟩ : RS Rat) else ⟨nd + 1, an, some b, dly⟩).ans = some a := e
        have gn : stk 0 u d n < b := gn
        by_cases f : stk 0 u d n + x < b
        · rw [if_pos f] at e; cases e; grind
        · rw [if_neg f] at e; cases e; exact gn
  cases e : (rsk 0 u d ds (n + 1)).ans with
  | none => exact absurd (by unfold Gng; rw [e]; trivial) st
  | some a =>
    refine ⟨a, rfl, fun j hj => ?_, ?_⟩
    · have m := stk_mono (d := d) h (Nat.le_of_lt_succ hj)
      have k := key a e
      grind
    · unfold Gng at st
      rw [e] at st
      exact Rat.not_lt.mp st
end
end Mt

namespace Mt
/-! rounds of one delay, and of a lost first sending, over the whole numbers -/
section
variable {W Y : Int} {d : Bool}
theorem stk_plain (W : Int) (k : Nat) : stk 0 W false k = (k : Int) * W ∧ wtk W false k = W := by
  induction k with
  | zero => exact ⟨by show (0 : Int) = ((0 : Nat) : Int) * W; simp, rfl⟩
  | succ k ih =>
    have e : ((k + 1 : Nat) : Int) * W = (k : Int) * W + W := by
      rw [show ((k + 1 : Nat) : Int) = (k : Int) + 1 by omega, Int.add_mul, Int.one_mul]
    refine ⟨?_, ?_⟩
    · show stk 0 W false k + wtk W false k = _
      rw [ih.1, ih.2, e]
    · show (if false = true then _ else wtk W false k) = _
      rw [if_neg (by decide), ih.2]
theorem stk_twice (W : Int) (k : Nat) : stk 0 W true k = (2 ^ k - 1) * W ∧ wtk W true k = 2 ^ k * W := by
  induction k with
  | zero => exact ⟨by show (0 : Int) = (2 ^ 0 - 1) * W; simp, by show W = 2 ^ 0 * W; simp⟩
  | succ k ih =>
    refine ⟨?_, ?_⟩
    · show stk 0 W true k + wtk W true k = _
      rw [ih.1, ih.2, Int.pow_succ]
      grind
    · show (if true = true then wtk W true k + wtk W true k else _) = _
      rw [if_pos rfl, ih.2, Int.pow_succ]
      grind
theorem dlk_one (Y : Int) (k : Nat) : dlk [some Y] k = some Y := by
  unfold dlk
  split
  · rename_i h
    have : k = 0 := by have e : [some Y].length = 1 := rfl; omega
    subst this
    rfl
  · rfl
theorem dlk_lost (Y : Int) (k : Nat) : dlk [none, some Y] k = if k = 0 then none else some Y := by
  unfold dlk
  have e : [none, some Y].length = 2 := rfl
  split
  · rename_i h
    match k, h with
    | 0, _ => rfl
    | 1, _ => rfl
    | k + 2, h => omega
  · rename_i h
    rw [if_neg (by omega)]
    rfl
/-- one delay: the first sending is answered -/
theorem rsk_one (hW : 0 ≤ W) (k : Nat) : rsk 0 W d [some Y] (k + 1) = ⟨k, 0, some Y, some Y⟩ := by
  induction k with
  | zero =>
    show rstep ⟨0, 0, none, none⟩ 0 (0 : Int) (dlk [some Y] 0) = _
    rw [dlk_one]
    show (⟨0, 0, some (0 + Y), some Y⟩ : RS Int) = _
    rw [Int.zero_add]
  | succ k ih =>
    show rstep (rsk 0 W d [some Y] (k + 1)) (k + 1) (stk 0 W d (k + 1)) (dlk [some Y] (k + 1)) = _
    rw [ih, dlk_one]
    have g := stk_nn (d := d) hW (k + 1)
    show (if stk 0 W d (k + 1) + Y < Y then (⟨k + 1, k + 1, some (stk 0 W d (k + 1) + Y), some Y⟩ : RS Int) else ⟨k + 1, 0, some Y, some Y⟩) = _
    rw [if_neg (by omega)]
theorem gng_one (hW : 0 ≤ W) (k : Nat) : Gng 0 W d [some Y] (k + 1) ↔ stk 0 W d (k + 1) < Y := by
  unfold Gng
  rw [rsk_one hW]
theorem gng_0 {ds : List (Option Int)} : Gng 0 W d ds 0 := trivial
/-- the first sending lost -/
theorem rsk_lost (hW : 0 ≤ W) (k : Nat) : rsk 0 W d [none, some Y] (k + 2) = ⟨k, 1, some (W + Y), some Y⟩ := by
  induction k with
  | zero =>
    show rstep (rstep ⟨0, 0, none, none⟩ 0 (0 : Int) (dlk [none, some Y] 0)) 1 (0 + W) (dlk [none, some Y] 1) = _
    rw [dlk_lost, dlk_lost]
    show (⟨0, 1, some (0 + W + Y), some Y⟩ : RS Int) = _
    rw [Int.zero_add]
  | succ k ih =>
    show rstep (rsk 0 W d [none, some Y] (k + 2)) (k + 2) (stk 0 W d (k + 2)) (dlk [none, some Y] (k + 2)) = _
    rw [ih, dlk_lost, if_neg (by omega)]
    have g : W ≤ stk 0 W d (k + 2) := by
      have g0 := stk_nn (d := d) hW (k + 1)
      have g1 := wtk_ge (d := d) hW (k + 1)
      show W ≤ stk 0 W d (k + 1) + wtk W d (k + 1)
      omega
    show (if stk 0 W d (k + 2) + Y < W + Y then (⟨k + 1, k + 2, some (stk 0 W d (k + 2) + Y), some Y⟩ : RS Int) else ⟨k + 1, 1, some (W + Y), some Y⟩) = _
    rw [if_neg (by omega)]
theorem gng_lost (hW : 0 ≤ W) (k : Nat) : Gng 0 W d [none, some Y] (k + 2) ↔ stk 0 W d (k + 2) < W + Y := by
  unfold Gng
  rw [rsk_lost hW]
theorem gng_lost1 : Gng 0 W d [none, some Y] 1 := by
  have : (rsk 0 W d [none, some Y] 1).ans = none := by
    show (rstep ⟨0, 0, none, none⟩ 0 (0 : Int) (dlk [none, some Y] 0)).ans = _
    rw [dlk_lost]
    rfl
  unfold Gng
  rw [this]
  trivial
/-- the whole numbers of a round and of those that wait long -/
structure Big (W : Int) (d : Bool) (ds : List (Option Int)) (N : Nat) : Prop where
  w : ∀ k, k ≤ N → (wtk W d k).natAbs < 2 ^ 200
  s : ∀ k, k ≤ N → (stk 0 W d k).natAbs < 2 ^ 200
  y : ∀ k q, dlk ds k = some q → q.natAbs < 2 ^ 200
end
end Mt

namespace Rs
open PySem PySem.Spec PyProof.Rows L2 He
open TL (tl len_tl ext_tl tl_append)
/-! ### texts: loops, methods, slices -/
section
variable {X : Cx} {σ : L2.St} {H : Hp} {D : Ends} {Q Q' : VK} {k : Nat} {E : L2.St → XK} {x y z : Str} {p px pos pos' apos p2 : Pos} {a b c e o : Expr} {i : Nat} {body : List Stmt}
theorem for_str {g : TG} {tb : TS} (P : Nat → L2.St → Hp → Prop) (h0 : P 0 σ H) (hs : ∀ i c σ H, (tl z)[i]? = some c → P i σ H → g (.str ⟨#[c]⟩) σ H fun σ2 H2 => tb { D with nx := P (i + 1), ct := P (i + 1), bk := D.nx } σ2 H2) (hd : ∀ σ H, P (tl z).length σ H → D.nx σ H) :
    ∃ W : Nat → Nat → L2.St → Hp → Prop, (∃ m, W 0 m σ H) ∧ ∀ i m σ H, W i m σ H →
      ((Its z).stop i H ∧ D.nx σ H) ∨ ((Its z).go i H ∧ ∃ N : L2.St → Hp → Prop, (∀ σ' H', N σ' H' → ∃ m', m' < m ∧ W (i + 1) m' σ' H') ∧ ∀ x H', (Its z).yld i H x H' → g x σ H' fun σ2 H2 => tb { D with nx := N, ct := N, bk := D.nx } σ2 H2) := by
  have hz : (tl z).length = z.cps.size := by simp [tl]
  refine ⟨fun i m σ H => m = z.cps.size - i ∧ i ≤ z.cps.size ∧ P i σ H, ⟨z.cps.size, by simp, Nat.zero_le _, h0⟩, ?_⟩
  rintro i m σ H ⟨rfl, hi, q⟩
  by_cases hlt : i < z.cps.size
  · refine .inr ⟨hlt, P (i + 1), fun σ' H' p' => ⟨z.cps.size - (i + 1), by omega, rfl, hlt, p'⟩, fun x H' y => ?_⟩
    obtain ⟨rfl, c, hc, rfl⟩ := y
    exact hs i c σ _ (by rw [← hc]; simp [tl]) q
  · have e : i = z.cps.size := by omega
    subst e
    exact .inl ⟨Nat.le_refl _, hd σ H (by rw [hz]; exact q)⟩
/-- for x in a text: all is chosen once the text is there -/
def ForS (X : Cx) (z : Str) (i : Nat) (body : List Stmt) (D : Ends) (σ : L2.St) (H : Hp) : Prop :=
  ∃ P : Nat → L2.St → Hp → Prop, P 0 σ H ∧ (∀ j c σ H, (tl z)[j]? = some c → P j σ H → WB X body { D with nx := P (j + 1), ct := P (j + 1), bk := D.nx } (σ.set i (some (.str ⟨#[c]⟩))) H) ∧ ∀ σ H, P (tl z).length σ H → D.nx σ H
theorem ws_for_strE (B : Body X k E) (s : Sl X i x) (h : WE X a σ H fun v H1 => ∃ z, v = .str z ∧ ForS X z i body D σ H1) (hs : ∀ v, foldedSetIterable a X.env v = pure v := by intro _; rfl) : WS X (.For (.Name x px) a body [] pos) D σ H := by
  refine wsP (ps_for B.po B.calm (pi_str peS) (pg_name s.nd s.at_ s.loc s.fn) pbS hs) ?_
  refine we_mono h fun v H1 q => ?_
  obtain ⟨z, rfl, P, q0, ht, hd⟩ := q
  exact ⟨z, rfl, for_str P q0 ht hd⟩
theorem we_split (h : WE X o σ H fun v H1 => ∃ z, v = .str z ∧ WE X e σ H1 fun w H2 => ∃ y, w = .str y ∧ (y.length == 0) = false ∧ z.length + 2 ≤ sizeLine ∧ ∀ l H3, H2 l = none → Ex H2 H3 → H3 l = some (.lst ((Txt.split z y).map V.str)) → Q (.ref l) H3)
    (hs : starEach [e] X.env = [(false, eval e X.env)] := by rfl) (hbase : attributeBase o "split" X.env (eval o X.env) = eval o X.env := by rfl) (hline : (apos.endLine == pos.line) = true := by rfl) : WE X (.Call (.Attribute o "split" apos) [e] [] pos) σ H Q :=
  weP (pe_split peS peS hs hbase hline) (we_mono h fun v H1 q => by
    obtain ⟨z, rfl, q⟩ := q
    refine ⟨⟨z, rfl⟩, we_mono q fun w H2 q => ?_⟩
    obtain ⟨y, rfl, h1, h2, q⟩ := q
    exact ⟨z, y, rfl, rfl, h1, h2, fun p hp => q p _ hp (Ex.new hp) upd_same⟩)
theorem we_starts (h : WE X o σ H fun v H1 => ∃ z, v = .str z ∧ WE X e σ H1 fun w H2 => ∃ y, w = .str y ∧ Q (.bl (Txt.startswith z y)) H2)
    (hs : starEach [e] X.env = [(false, eval e X.env)] := by rfl) (hbase : attributeBase o "startswith" X.env (eval o X.env) = eval o X.env := by rfl) (hline : (apos.endLine == pos.line) = true := by rfl) : WE X (.Call (.Attribute o "startswith" apos) [e] [] pos) σ H Q :=
  weP (pe_m1 F.slot_str_startswith F.type_str_startswith mt_startswith peS peS hs hbase hline) (we_mono h fun v H1 q => by
    obtain ⟨z, rfl, q⟩ := q
    refine ⟨⟨z, rfl⟩, we_mono q fun w H2 q => ?_⟩
    obtain ⟨y, rfl, q⟩ := q
    exact ⟨z, y, rfl, rfl, q⟩)
theorem we_joinS (h : WE X o σ H fun v H1 => ∃ z, v = .str z ∧ WE X e σ H1 fun w H2 => ∃ l, ∃ ys : List Str, w = .ref l ∧ (SqL X.K H2 l (ys.map V.str) ∨ SqT X.K H2 l (ys.map V.str)) ∧ (ys.map (·.length)).sum + ys.length * z.length ≤ 16777216 ∧ Q (.str (Txt.join z ys)) H2)
    (hs : starEach [e] X.env = [(false, eval e X.env)] := by rfl) (hbase : attributeBase o "join" X.env (eval o X.env) = eval o X.env := by rfl) (hline : (apos.endLine == pos.line) = true := by rfl) : WE X (.Call (.Attribute o "join" apos) [e] [] pos) σ H Q :=
  weP (pe_join peS peS hs hbase hline) (we_mono h fun v H1 q => by
    obtain ⟨z, rfl, q⟩ := q
    refine ⟨⟨z, rfl⟩, we_mono q fun w H2 q => ?_⟩
    obtain ⟨l, ys, rfl, h1, h2, q⟩ := q
    exact ⟨z, l, ys, rfl, rfl, h1, h2, q⟩)
/-- a[b:] -/
theorem we_cutSA (h : WE X a σ H fun v H1 => WE X b σ H1 fun w H2 => ∃ z i, v = .str z ∧ w = .int i ∧ z.length ≤ sizeLine ∧ Q (.str (cutS z (some i) none)) H2) : WE X (.Subscript a (.Slice (some b) none none p2) pos) σ H Q :=
  weP (pe_slice sl_str peS (po_some peS) po_none) (we_mono h fun v H1 q => we_mono q fun w H2 q => by
    obtain ⟨z, i, rfl, rfl, h1, q⟩ := q
    exact ⟨i, rfl, z, rfl, h1, q⟩)
/-- a[:b] -/
theorem we_cutSL (h : WE X a σ H fun v H1 => WE X b σ H1 fun w H2 => ∃ z i, v = .str z ∧ w = .int i ∧ z.length ≤ sizeLine ∧ Q (.str (cutS z none (some i))) H2) : WE X (.Subscript a (.Slice none (some b) none p2) pos) σ H Q :=
  weP (pe_slice sl_str peS po_none (po_some peS)) (we_mono h fun v H1 q => we_mono q fun w H2 q => by
    obtain ⟨z, i, rfl, rfl, h1, q⟩ := q
    exact ⟨i, rfl, z, rfl, h1, q⟩)
theorem we_intS (bn : Bn X "int") (h : WE X a σ H fun v H1 => ∃ z n, v = .str z ∧ PySem.intText? z = some n ∧ z.length ≤ 640 ∧ Q (.int n) H1) (hs : starEach [a] X.env = [(false, eval a X.env)] := by rfl) (hl : (backTo pos (starEach [] X.env)).any (·.1) = false := by rfl) :
    WE X (.Call (.Name "int" p) [a] [] pos) σ H Q := we_callT call_int_str bn boot_int (wa_one (we_mono h fun v H1 q => by
    obtain ⟨z, n, rfl, h1, h2, q⟩ := q
    exact ⟨z, n, rfl, h1, h2, q⟩) hs) (by decide) (by decide) hs hl
theorem o_inC {c : Nat} (q : Q (.bl (decide (c ∈ tl z))) H) : Op2 X (compareOp .In) (.str ⟨#[c]⟩) (.str z) H Q := op2_of op_in_sign ⟨c, z, rfl, rfl, q⟩
theorem o_notInC {c : Nat} (q : Q (.bl (!decide (c ∈ tl z))) H) : Op2 X (compareOp .NotIn) (.str ⟨#[c]⟩) (.str z) H Q := op2_of op_notIn_sign ⟨c, z, rfl, rfl, q⟩
theorem at_s {K : PySem.W.Frag} {i : Int} {c : Nat} (hz : z.length ≤ sizeLine) (he : atI (tl z) i = some c) (q : Q (.str ⟨#[c]⟩) H) : rIx K (.str z) (.int i) H Q := .inr (.inr ⟨z, i, c, rfl, rfl, hz, he, q⟩)
theorem len_s {K : PySem.W.Frag} {P : Nat → Prop} (hz : z.length ≤ sizeLine) (q : P z.length) : ∃ n, LenV K (.str z) H n ∧ P n := ⟨_, ⟨hz, rfl⟩, q⟩
end
/-! ### slices as lists of signs -/
theorem tl_cut (z : Str) (lo hi : Option Int) : tl (cutS z lo hi) = ((tl z).drop (HT.sIx z.length 0 lo)).take (HT.sIx z.length z.length hi - HT.sIx z.length 0 lo) := rfl
theorem tl_cutA (z : Str) (i : Nat) : tl (cutS z (some (i : Int)) none) = (tl z).drop i := by
  rw [tl_cut, HT.sIx_nat, HT.sIx_none, len_tl]
  by_cases h : i ≤ (tl z).length
  · rw [Nat.min_eq_left h, List.take_of_length_le (by rw [List.length_drop]; omega)]
  · rw [Nat.min_eq_right (by omega), List.drop_eq_nil_of_le (Nat.le_refl _), List.drop_eq_nil_of_le (by omega)]
    exact List.take_nil
theorem tl_cutL (z : Str) (i : Nat) : tl (cutS z none (some (i : Int))) = (tl z).take i := by
  rw [tl_cut, HT.sIx_nat, HT.sIx_none, len_tl, List.drop_zero, Nat.sub_zero]
  by_cases h : i ≤ (tl z).length
  · rw [Nat.min_eq_left h]
  · rw [Nat.min_eq_right (by omega), List.take_of_length_le (Nat.le_refl _), List.take_of_length_le (by omega)]
theorem tl_pre1 {z : Str} {c : Nat} : Txt.startswith z ⟨#[c]⟩ = decide ((tl z).head? = some c) := by
  refine Bool.eq_iff_iff.mpr ?_
  rw [List.head?_eq_getElem?, decide_eq_true_iff]
  unfold Txt.startswith
  rw [Bool.and_eq_true, decide_eq_true_iff]
  exact PySem.StrLaws.subAt_one z c 0
end Rs

namespace Rs
open PySem PySem.Spec PyProof.Rows L2 He
open TL (tl len_tl ext_tl tl_append tl_num numL numL_lt numL_step numL_digits numL_ne numL_free numL_val numL_inj numL_len int_num joinL spl pre spl_hit spl_miss spl_nil split_spl)
/-! ### numbers as figures -/
def figs : List Nat := tl ("0123456789" : Str)
theorem figs_eq : figs = [48, 49, 50, 51, 52, 53, 54, 55, 56, 57] := by decide +kernel
theorem mem_figs {c : Nat} : c ∈ figs ↔ 48 ≤ c ∧ c ≤ 57 := by
  rw [figs_eq]
  simp only [List.mem_cons, List.not_mem_nil, or_false]
  omega
/-- what some figures write -/
def readC (l : List Nat) : Option Nat := if 1 ≤ l.length ∧ l.length ≤ 60 ∧ (∀ c ∈ l, c ∈ figs) ∧ ¬ (l.head? = some 48 ∧ 1 < l.length) then some (NumText.digitsVal l) else none
theorem val_snoc (l : List Nat) (c : Nat) : NumText.digitsVal (l ++ [c]) = NumText.digitsVal l * 10 + (c - 48) := by
  unfold NumText.digitsVal
  rw [List.foldl_append]
  rfl
theorem canon : ∀ (n : Nat) (l : List Nat), l.length = n → l ≠ [] → (∀ c ∈ l, c ∈ figs) → ¬ (l.head? = some 48 ∧ 1 < l.length) → numL (NumText.digitsVal l) = l := by
  intro n
  induction n with
  | zero => exact fun l h hn _ _ => absurd (List.length_eq_zero_iff.mp h) hn
  | succ n ih =>
    intro l hl hn hd hh
    obtain ⟨i, c, rfl⟩ : ∃ i c, l = i ++ [c] := ⟨l.dropLast, l.getLast hn, (List.dropLast_concat_getLast hn).symm⟩
    have hc := mem_figs.mp (hd c (by simp))
    rw [val_snoc]
    cases i with
    | nil =>
      rw [numL_lt (by show 0 * 10 + (c - 48) < 10; omega)]
      show [48 + (0 * 10 + (c - 48))] = [c]
      congr 1
      omega
    | cons a r =>
      have hi : (a :: r).length = n := by simpa using hl
      have h48 : ¬ (a = 48) := fun e => hh ⟨by rw [e]; rfl, by simp⟩
      have e := ih (a :: r) hi (List.cons_ne_nil _ _) (fun d h => hd d (List.mem_append_left _ h)) (fun h => h48 (Option.some.inj h.1))
      have v1 : 1 ≤ NumText.digitsVal (a :: r) := by
        refine Nat.pos_of_ne_zero fun z => ?_
        rw [z, numL_lt (by decide)] at e
        injection e with e1 _
        exact h48 e1.symm
      rw [numL_step (by omega), show (NumText.digitsVal (a :: r) * 10 + (c - 48)) / 10 = NumText.digitsVal (a :: r) from by omega, e,
        show 48 + (NumText.digitsVal (a :: r) * 10 + (c - 48)) % 10 = c from by omega]
theorem readC_num {l : List Nat} {u : Nat} (h : readC l = some u) : l = numL u := by
  unfold readC at h
  by_cases g : 1 ≤ l.length ∧ l.length ≤ 60 ∧ (∀ c ∈ l, c ∈ figs) ∧ ¬ (l.head? = some 48 ∧ 1 < l.length)
  · rw [if_pos g] at h
    cases h
    exact (canon _ l rfl (fun e => by rw [e] at g; exact absurd g.1 (by decide)) g.2.2.1 g.2.2.2).symm
  · rw [if_neg g] at h
    cases h
theorem readC_len {l : List Nat} {u : Nat} (h : readC l = some u) : l.length ≤ 60 := by
  unfold readC at h
  by_cases g : 1 ≤ l.length ∧ l.length ≤ 60 ∧ (∀ c ∈ l, c ∈ figs) ∧ ¬ (l.head? = some 48 ∧ 1 < l.length)
  · exact g.2.1
  · rw [if_neg g] at h
    cases h
theorem val_lt {l : List Nat} : ∀ (n : Nat) (l : List Nat), l.length = n → (∀ c ∈ l, c ∈ figs) → NumText.digitsVal l < 10 ^ n := by
  intro n
  induction n with
  | zero =>
    intro l h _
    rw [List.length_eq_zero_iff.mp h]
    decide
  | succ n ih =>
    intro l hl hd
    have hn : l ≠ [] := fun e => by rw [e] at hl; cases hl
    obtain ⟨i, c, rfl⟩ : ∃ i c, l = i ++ [c] := ⟨l.dropLast, l.getLast hn, (List.dropLast_concat_getLast hn).symm⟩
    have hc := mem_figs.mp (hd c (by simp))
    have e := ih i (by simpa using hl) (fun d h => hd d (List.mem_append_left _ h))
    rw [val_snoc, Nat.pow_succ]
    omega
theorem readC_lt {l : List Nat} {u : Nat} (h : readC l = some u) : u < 10 ^ 60 := by
  have hl := readC_len h
  have e := h
  unfold readC at e
  by_cases g : 1 ≤ l.length ∧ l.length ≤ 60 ∧ (∀ c ∈ l, c ∈ figs) ∧ ¬ (l.head? = some 48 ∧ 1 < l.length)
  · rw [if_pos g] at e
    cases e
    exact Nat.lt_of_lt_of_le (val_lt (l := l) _ l rfl g.2.2.1) (Nat.pow_le_pow_right (by decide) hl)
  · rw [if_neg g] at e
    cases e
theorem numL_zero_head {u : Nat} : ¬ ((numL u).head? = some 48 ∧ 1 < (numL u).length) := by
  induction u using Nat.strongRecOn with
  | ind u ih =>
    by_cases h : u < 10
    · rw [numL_lt h]
      exact fun g => absurd g.2 (by show ¬ 1 < 1; decide)
    · rw [numL_step (by omega)]
      rintro ⟨g, _⟩
      have hne := numL_ne (u / 10)
      have g : (numL (u / 10)).head? = some 48 := by
        cases e : numL (u / 10) with
        | nil => exact absurd e hne
        | cons a r =>
          rw [e] at g
          exact g
      by_cases hl : 1 < (numL (u / 10)).length
      · exact ih (u / 10) (by omega) ⟨g, hl⟩
      · by_cases h2 : u / 10 < 10
        · rw [numL_lt h2] at g
          have := Option.some.inj g
          omega
        · rw [numL_step (by omega), List.length_append] at hl
          have := List.length_pos_iff.mpr (numL_ne (u / 10 / 10))
          simp only [List.length_cons, List.length_nil] at hl
          omega
theorem readC_of {u : Nat} (h : u < 10 ^ 60) : readC (numL u) = some u := by
  unfold readC
  rw [if_pos ⟨List.length_pos_iff.mpr (numL_ne u), numL_len (by decide) h, fun c hc => mem_figs.mpr (numL_digits u c hc), numL_zero_head⟩, numL_val]
theorem int_of_readC {z : Str} {u : Nat} (h : readC (tl z) = some u) : PySem.intText? z = some (u : Int) := by
  have e : z = Str.ofString (toString ((u : Nat) : Int)) := ext_tl (by rw [tl_num]; exact readC_num h)
  have hl : (numL u).length ≤ 60 := by
    rw [← readC_num h]
    exact readC_len h
  rw [e]
  exact int_num (by omega)
/-! ### the text of an int -/
theorem tl_itx_nat (u : Nat) : tl (itx (u : Int)) = numL u := tl_num u
theorem tl_itx_neg {u : Nat} (h : u ≠ 0) : tl (itx (-(u : Int))) = 45 :: numL u := by
  cases u with
  | zero => exact absurd rfl h
  | succ n =>
    unfold itx
    rw [TL.tl_ofString]
    have e : toString (-(((n + 1 : Nat)) : Int)) = "-" ++ toString (n + 1) := rfl
    rw [e]
    have e2 : numL (n + 1) = (toString (n + 1)).toList.map Char.toNat := by
      rw [← tl_num, TL.tl_ofString]
      rfl
    rw [e2, String.toList_append, List.map_append]
    rfl
/-! ### cut at a sign -/
theorem pre1 {s c : Nat} {r : List Nat} : pre [s] (c :: r) = decide (c = s) := by
  unfold pre
  show ([c] == [s]) = _
  by_cases h : c = s
  · subst h
    simp
  · rw [decide_eq_false h]
    simp [h]
theorem spl1 (s : Nat) : ∀ l acc : List Nat, ∃ h t, spl [s] 0 [] l = h :: t ∧ spl [s] 0 acc l = (acc ++ h) :: t ∧ s ∉ h ∧ joinL [s] (h :: t) = l ∧ ∀ p ∈ t, s ∉ p
  | [], acc => ⟨[], [], by rw [spl_nil], by rw [spl_nil, List.append_nil], by simp, rfl, by simp⟩
  | c :: r, acc => by
    by_cases hc : c = s
    · subst hc
      obtain ⟨h, t, e1, _, hs, hj, hp⟩ := spl1 c r []
      refine ⟨[], h :: t, ?_, ?_, by simp, ?_, ?_⟩
      · rw [spl_hit (by rw [pre1, decide_eq_true rfl])]
        show [] :: spl [c] 0 [] r = _
        rw [e1]
      · rw [spl_hit (by rw [pre1, decide_eq_true rfl])]
        show acc :: spl [c] 0 [] r = _
        rw [e1, List.append_nil]
      · show [] ++ ([c] ++ joinL [c] (h :: t)) = _
        rw [hj]
        rfl
      · intro p hm
        rcases List.mem_cons.mp hm with rfl | hm
        · exact hs
        · exact hp p hm
    · obtain ⟨h, t, e1, e2, hs, hj, hp⟩ := spl1 s r (acc ++ [c])
      obtain ⟨h', t', e1', e2', _, _, _⟩ := spl1 s r [c]
      rw [e1] at e1'
      injection e1' with a1 a2
      subst a1
      subst a2
      refine ⟨c :: h, t, ?_, ?_, ?_, ?_, hp⟩
      · rw [spl_miss (by rw [pre1, decide_eq_false hc]), List.nil_append, e2']
        rfl
      · rw [spl_miss (by rw [pre1, decide_eq_false hc]), e2, List.append_assoc]
        rfl
      · exact fun hm => (List.mem_cons.mp hm).elim (fun e => hc e.symm) hs
      · cases t with
        | nil =>
          show c :: h = c :: r
          rw [show h = r from hj]
        | cons q t =>
          show c :: (h ++ ([s] ++ joinL [s] (q :: t))) = c :: r
          rw [show h ++ ([s] ++ joinL [s] (q :: t)) = r from hj]
end Rs

namespace Rs
open PySem PySem.Spec PyProof.Rows L2 He
open TL (tl len_tl ext_tl tl_append tl_num numL numL_lt numL_step numL_digits numL_ne numL_free numL_val numL_inj numL_len int_num joinL spl pre spl_hit spl_miss spl_nil split_spl)
/-! ### the text of a time, read -/
def sgT (l : List Nat) (u : Nat) : Int := if l.head? = some 45 then -(u : Int) else u
def bodyT (l : List Nat) : List Nat := if l.head? = some 45 then l.drop 1 else l
def rdP (l : List Nat) : List (List Nat) → Option (Int × Nat)
  | [a] => (readC a).bind fun u => if u = 0 ∧ l.head? = some 45 then none else some (sgT l u, 1)
  | [a, b] => (readC a).bind fun u => (readC b).bind fun v => if 2 ≤ v ∧ ¬ (u = 0 ∧ l.head? = some 45) ∧ Nat.gcd u v = 1 then some (sgT l u, v) else none
  | _ => none
def rd (l : List Nat) : Option (Int × Nat) := rdP l (spl [47] 0 [] (bodyT l))
theorem parts_of (l : List Nat) : ∃ h t, spl [47] 0 [] (bodyT l) = h :: t ∧ spl [47] 0 [] l = (if l.head? = some 45 then 45 :: h else h) :: t ∧ (l.head? ≠ some 45 → h.head? ≠ some 45) ∧
    l = (if l.head? = some 45 then [45] else []) ++ joinL [47] (h :: t) ∧ 47 ∉ h ∧ ∀ p ∈ t, 47 ∉ p := by
  by_cases hd : l.head? = some 45
  · obtain ⟨r, rfl⟩ : ∃ r, l = 45 :: r := by
      cases l with
      | nil => cases hd
      | cons a r => cases hd; exact ⟨r, rfl⟩
    obtain ⟨h, t, e1, e2, hs, hj, hp⟩ := spl1 47 r [45]
    refine ⟨h, t, ?_, ?_, fun n => absurd hd n, ?_, hs, hp⟩
    · unfold bodyT
      rw [if_pos hd]
      exact e1
    · rw [if_pos hd, spl_miss (by rw [pre1]; decide), List.nil_append, e2]
      rfl
    · rw [if_pos hd, hj]
      rfl
  · obtain ⟨h, t, e1, _, hs, hj, hp⟩ := spl1 47 l []
    refine ⟨h, t, ?_, ?_, fun _ => ?_, ?_, hs, hp⟩
    · unfold bodyT
      rw [if_neg hd]
      exact e1
    · rw [if_neg hd, e1]
    · intro z
      cases h with
      | nil => cases z
      | cons a r =>
        cases z
        refine hd ?_
        rw [← hj]
        cases t <;> rfl
    · rw [if_neg hd, hj]
      rfl
theorem coprime_div {n : Int} {v : Nat} (hv : v ≠ 0) : (Rat.divInt n v).den = v ↔ Nat.gcd n.natAbs v = 1 := by
  constructor
  · intro h
    have c := Mt.cross (a := n) (b := (v : Int)) (by omega)
    have r := (Rat.divInt n v).reduced
    rw [h] at c r
    have e : (Rat.divInt n v).num = n := Int.eq_of_mul_eq_mul_right (by omega) c
    rw [e] at r
    exact r
  · intro h
    have e := Rat.num_divInt_den (⟨n, v, hv, h⟩ : Rat)
    rw [show Rat.divInt n v = (⟨n, v, hv, h⟩ : Rat) from e]
theorem coprime_num {n : Int} {v : Nat} (hv : v ≠ 0) (h : Nat.gcd n.natAbs v = 1) : (Rat.divInt n v).num = n := by
  have e := Rat.num_divInt_den (⟨n, v, hv, h⟩ : Rat)
  rw [show Rat.divInt n v = (⟨n, v, hv, h⟩ : Rat) from e]
theorem sgT_abs (l : List Nat) (u : Nat) : (sgT l u).natAbs = u := by
  unfold sgT
  by_cases h : l.head? = some 45
  · rw [if_pos h]
    omega
  · rw [if_neg h]
    omega
theorem itx_free (i : Int) : 47 ∉ tl (itx i) := by
  rcases Int.eq_nat_or_neg i with ⟨n, rfl | rfl⟩
  · rw [tl_itx_nat]
    exact numL_free (by decide)
  · by_cases h : n = 0
    · subst h
      exact (tl_itx_nat 0 ▸ numL_free (by decide) : 47 ∉ tl (itx ((0 : Nat) : Int)))
    · rw [tl_itx_neg h]
      exact fun m => (List.mem_cons.mp m).elim (fun e => absurd e (by decide)) (numL_free (by decide))
theorem tl_sgT {l : List Nat} {u : Nat} (h : ¬ (u = 0 ∧ l.head? = some 45)) : tl (itx (sgT l u)) = (if l.head? = some 45 then [45] else []) ++ numL u := by
  unfold sgT
  by_cases hd : l.head? = some 45
  · rw [if_pos hd, if_pos hd, tl_itx_neg (fun e => h ⟨e, hd⟩)]
    rfl
  · rw [if_neg hd, if_neg hd, tl_itx_nat]
    rfl
theorem tl_slash : tl ("/" : Str) = [47] := by decide +kernel
/-- one part: the text is the word's -/
theorem read_one {l h : List Nat} {u : Nat} (hl : l = (if l.head? = some 45 then [45] else []) ++ h) (hu : readC h = some u) : tl (itx (sgT l u)) = l ↔ ¬ (u = 0 ∧ l.head? = some 45) := by
  constructor
  · rintro e ⟨rfl, hd⟩
    have : sgT l 0 = ((0 : Nat) : Int) := by
      unfold sgT
      rw [if_pos hd]
      rfl
    rw [this, tl_itx_nat, numL_lt (by decide)] at e
    rw [← e] at hd
    exact absurd hd (by decide)
  · intro g
    rw [tl_sgT g, ← readC_num hu]
    exact hl.symm
theorem app_cut {s : Nat} : ∀ {a b c d : List Nat}, s ∉ a → s ∉ c → a ++ s :: b = c ++ s :: d → a = c ∧ b = d
  | [], b, [], d, _, _, e => ⟨rfl, by injection e⟩
  | [], b, x :: c, d, _, hc, e => by
    injection e with e1 _
    exact absurd (e1 ▸ List.mem_cons_self) hc
  | x :: a, b, [], d, ha, _, e => by
    injection e with e1 _
    exact absurd (e1 ▸ List.mem_cons_self) ha
  | x :: a, b, y :: c, d, ha, hc, e => by
    injection e with e1 e2
    obtain ⟨g1, g2⟩ := app_cut (fun m => ha (List.mem_cons_of_mem _ m)) (fun m => hc (List.mem_cons_of_mem _ m)) e2
    exact ⟨by rw [e1, g1], g2⟩
/-- two parts -/
theorem read_two {l h b : List Nat} {u v : Nat} (hl : l = (if l.head? = some 45 then [45] else []) ++ (h ++ 47 :: b)) (hf : 47 ∉ h) (hu : readC h = some u) (hb : readC b = some v) (hv : v ≠ 0) :
    tl (ftx (Rat.divInt (sgT l u) v).num (Rat.divInt (sgT l u) v).den) = l ↔ (2 ≤ v ∧ ¬ (u = 0 ∧ l.head? = some 45) ∧ Nat.gcd u v = 1) := by
  have hb' := readC_num hb
  have hu' := readC_num hu
  constructor
  · intro e
    unfold ftx at e
    by_cases d1 : ((Rat.divInt (sgT l u) v).den : Int) = 1
    · rw [if_pos d1] at e
      have f := itx_free (Rat.divInt (sgT l u) v).num
      rw [e, hl] at f
      exact absurd (List.mem_append_right _ (List.mem_append_right _ List.mem_cons_self)) f
    · rw [if_neg d1, tl_append, tl_append, tl_slash, tl_itx_nat, List.append_assoc] at e
      have e2 : tl (itx (Rat.divInt (sgT l u) v).num) ++ 47 :: numL (Rat.divInt (sgT l u) v).den = ((if l.head? = some 45 then [45] else []) ++ h) ++ 47 :: b := by
        rw [List.append_assoc, ← hl]
        exact e
      have f2 : 47 ∉ (if l.head? = some 45 then [45] else []) ++ h := by
        intro m
        rcases List.mem_append.mp m with m | m
        · by_cases hd : l.head? = some 45
          · rw [if_pos hd] at m
            exact absurd (List.mem_singleton.mp m) (by decide)
          · rw [if_neg hd] at m
            cases m
        · exact hf m
      obtain ⟨g1, g2⟩ := app_cut (itx_free _) f2 e2
      rw [hb'] at g2
      have dv := numL_inj g2
      have cp := (coprime_div hv).mp dv
      rw [sgT_abs] at cp
      refine ⟨by rw [dv] at d1; omega, ?_, cp⟩
      rintro ⟨rfl, _⟩
      rw [Nat.gcd_zero_left] at cp
      rw [dv] at d1
      omega
  · rintro ⟨v2, g, cp⟩
    have cp' : Nat.gcd (sgT l u).natAbs v = 1 := by rw [sgT_abs]; exact cp
    rw [coprime_num hv cp', (coprime_div hv).mpr cp']
    unfold ftx
    rw [if_neg (by omega), tl_append, tl_append, tl_slash, tl_itx_nat, tl_sgT g, ← hb', ← hu', List.append_assoc, List.append_assoc]
    exact hl.symm
/-! ### a time's own text -/
theorem rd_own {q : Rat} (hn : q.num.natAbs < 10 ^ 60) (hd : q.den < 10 ^ 60) : rd (tl (ftx q.num q.den)) = some (q.num, q.den) := by
  have body : ∀ (r : List Nat), bodyT (45 :: r) = r := fun r => by unfold bodyT; exact if_pos rfl
  have bodn : ∀ (u : Nat) (r : List Nat), (numL u ++ r).head? ≠ some 45 := fun u r => by
    have := numL_digits u
    cases e : numL u with
    | nil => exact absurd e (numL_ne u)
    | cons a s =>
      rw [e] at this
      intro z
      have := (this a List.mem_cons_self).1
      have : a = 45 := Option.some.inj z
      omega
  have nh : ∀ u : Nat, 47 ∉ numL u := fun u => numL_free (by decide)
  have s1 : ∀ u : Nat, spl [47] 0 [] (numL u) = [numL u] := fun u => by
    rw [TL.spl_last1 (nh u)]
    rfl
  have s2 : ∀ u v : Nat, spl [47] 0 [] (numL u ++ 47 :: numL v) = [numL u, numL v] := fun u v => by
    rw [show numL u ++ 47 :: numL v = numL u ++ ([47] ++ numL v) from rfl, TL.spl_part1 (nh u), s1]
    rfl
  have red := q.reduced
  have dp := q.den_pos
  obtain ⟨u, hu⟩ : ∃ u : Nat, q.num.natAbs = u := ⟨_, rfl⟩
  unfold ftx
  by_cases d1 : (q.den : Int) = 1
  · have d1' : q.den = 1 := by omega
    rw [if_pos d1, d1']
    rcases Int.eq_nat_or_neg q.num with ⟨n, e | e⟩
    · rw [e, tl_itx_nat]
      unfold rd bodyT
      have hh : (numL n).head? ≠ some 45 := by have := bodn n []; rw [List.append_nil] at this; exact this
      rw [if_neg hh, s1]
      show (readC (numL n)).bind _ = _
      rw [readC_of (by omega)]
      show (if n = 0 ∧ (numL n).head? = some 45 then none else some (sgT (numL n) n, 1)) = _
      rw [if_neg (fun g => hh g.2)]
      unfold sgT
      rw [if_neg hh]
    · by_cases n0 : n = 0
      · subst n0
        rw [e]
        decide +kernel
      · rw [e, tl_itx_neg n0]
        unfold rd
        rw [body, s1]
        show (readC (numL n)).bind _ = _
        rw [readC_of (by omega)]
        show (if n = 0 ∧ (45 :: numL n).head? = some 45 then none else some (sgT (45 :: numL n) n, 1)) = _
        rw [if_neg (fun g => n0 g.1)]
        unfold sgT
        rw [if_pos (show (45 :: numL n).head? = some 45 from rfl)]
  · rw [if_neg d1, tl_append, tl_append, tl_slash, tl_itx_nat]
    have v2 : 2 ≤ q.den := by omega
    rcases Int.eq_nat_or_neg q.num with ⟨n, e | e⟩
    · rw [e, tl_itx_nat, List.append_assoc, show [47] ++ numL q.den = 47 :: numL q.den from rfl]
      unfold rd bodyT
      have hh := bodn n (47 :: numL q.den)
      rw [if_neg hh, s2]
      show (readC (numL n)).bind _ = _
      rw [readC_of (by omega)]
      show (readC (numL q.den)).bind _ = _
      rw [readC_of hd]
      show (if 2 ≤ q.den ∧ ¬ (n = 0 ∧ (numL n ++ 47 :: numL q.den).head? = some 45) ∧ Nat.gcd n q.den = 1 then some (sgT (numL n ++ 47 :: numL q.den) n, q.den) else none) = _
      rw [if_pos ⟨v2, fun g => hh g.2, by have := red; rw [e] at this; exact this⟩]
      unfold sgT
      rw [if_neg hh]
    · have n0 : n ≠ 0 := by
        rintro rfl
        rw [e] at red
        have : Nat.gcd 0 q.den = 1 := red
        rw [Nat.gcd_zero_left] at this
        omega
      rw [e, tl_itx_neg n0]
      unfold rd
      rw [show (45 :: numL n) ++ [47] ++ numL q.den = 45 :: (numL n ++ 47 :: numL q.den) from by simp, body, s2]
      show (readC (numL n)).bind _ = _
      rw [readC_of (by omega)]
      show (readC (numL q.den)).bind _ = _
      rw [readC_of hd]
      show (if 2 ≤ q.den ∧ ¬ (n = 0 ∧ (45 :: (numL n ++ 47 :: numL q.den)).head? = some 45) ∧ Nat.gcd n q.den = 1 then some (sgT (45 :: (numL n ++ 47 :: numL q.den)) n, q.den) else none) = _
      rw [if_pos ⟨v2, fun g => n0 g.1, by have := red; rw [e, Int.natAbs_neg] at this; exact this⟩]
      unfold sgT
      rw [if_pos (show (45 :: (numL n ++ 47 :: numL q.den)).head? = some 45 from rfl)]
/-! ### the reading, by its parts -/
def botU : List (List Nat) → Option Nat
  | [] => some 1
  | b :: _ => readC b
theorem rdP_none1 {l h : List Nat} {t : List (List Nat)} (e : readC h = none) : rdP l (h :: t) = none := by
  match t with
  | [] =>
    show (readC h).bind _ = none
    rw [e]
    rfl
  | [b] =>
    show (readC h).bind _ = none
    rw [e]
    rfl
  | b :: b2 :: r => rfl
theorem rdP_none2 {l h : List Nat} {t : List (List Nat)} (e : botU t = none) : rdP l (h :: t) = none := by
  match t, e with
  | [b], e =>
    have e : readC b = none := e
    show ((readC h).bind fun u => (readC b).bind _) = none
    rw [e]
    cases readC h <;> rfl
  | b :: b2 :: r, _ => rfl
theorem rdP_zero {l h : List Nat} {t : List (List Nat)} (e : botU t = some 0) : rdP l (h :: t) = none := by
  match t, e with
  | [b], e =>
    have e : readC b = some 0 := e
    show ((readC h).bind fun u => (readC b).bind _) = none
    rw [e]
    cases readC h with
    | none => rfl
    | some u =>
      show (if 2 ≤ 0 ∧ ¬ (u = 0 ∧ l.head? = some 45) ∧ Nat.gcd u 0 = 1 then some (sgT l u, 0) else none) = none
      rw [if_neg (fun g => absurd g.1 (by decide))]
  | b :: b2 :: r, _ => rfl
theorem rdP_long {l h : List Nat} {t : List (List Nat)} (e : 2 ≤ t.length) : rdP l (h :: t) = none := by
  match t, e with
  | b :: b2 :: r, _ => rfl
theorem botU_lt {t : List (List Nat)} {v : Nat} (e : botU t = some v) : v < 10 ^ 60 := by
  match t, e with
  | [], e => cases e; decide
  | b :: _, e => exact readC_lt e
theorem rdP_go {l h : List Nat} {t : List (List Nat)} {u v : Nat} (hl : l = (if l.head? = some 45 then [45] else []) ++ joinL [47] (h :: t)) (hf : 47 ∉ h) (eu : readC h = some u) (ev : botU t = some v) (l1 : t.length ≤ 1) (hv : v ≠ 0) :
    (tl (ftx (Rat.divInt (sgT l u) v).num (Rat.divInt (sgT l u) v).den) = l → rdP l (h :: t) = some (sgT l u, v)) ∧ (¬ tl (ftx (Rat.divInt (sgT l u) v).num (Rat.divInt (sgT l u) v).den) = l → rdP l (h :: t) = none) := by
  match t, l1, ev with
  | [], _, ev =>
    cases ev
    rw [coprime_num (v := 1) (by decide) (Nat.gcd_one_right _), (coprime_div (v := 1) (by decide)).mpr (Nat.gcd_one_right _)]
    have e1 := read_one (h := h) hl eu
    show (tl (ftx (sgT l u) 1) = l → (readC h).bind _ = _) ∧ (¬ tl (ftx (sgT l u) 1) = l → (readC h).bind _ = _)
    rw [eu]
    unfold ftx
    rw [if_pos rfl]
    refine ⟨fun e => ?_, fun e => ?_⟩
    · show (if u = 0 ∧ l.head? = some 45 then none else some (sgT l u, 1)) = _
      rw [if_neg (e1.mp e)]
    · show (if u = 0 ∧ l.head? = some 45 then none else some (sgT l u, 1)) = _
      rw [if_pos (Classical.byContradiction fun g => e (e1.mpr g))]
  | [b], _, ev =>
    have ev : readC b = some v := ev
    have e2 := read_two (h := h) (b := b) hl hf eu ev hv
    show (_ → ((readC h).bind fun u => (readC b).bind _) = _) ∧ (_ → ((readC h).bind fun u => (readC b).bind _) = _)
    rw [eu, ev]
    refine ⟨fun e => ?_, fun e => ?_⟩
    · show (if 2 ≤ v ∧ ¬ (u = 0 ∧ l.head? = some 45) ∧ Nat.gcd u v = 1 then some (sgT l u, v) else none) = _
      rw [if_pos (e2.mp e)]
    · show (if 2 ≤ v ∧ ¬ (u = 0 ∧ l.head? = some 45) ∧ Nat.gcd u v = 1 then some (sgT l u, v) else none) = _
      rw [if_neg (fun g => e (e2.mpr g))]
theorem rdP_val {l h : List Nat} {t : List (List Nat)} {u v : Nat} (eu : readC h = some u) (ev : botU t = some v) (l1 : t.length ≤ 1) (lo : t = [] ∨ 2 ≤ v) :
    rdP l (h :: t) = if ¬ (u = 0 ∧ l.head? = some 45) ∧ Nat.gcd u v = 1 then some (sgT l u, v) else none := by
  match t, l1, ev, lo with
  | [], _, ev, _ =>
    cases ev
    show (readC h).bind _ = _
    rw [eu]
    show (if u = 0 ∧ l.head? = some 45 then none else some (sgT l u, 1)) = _
    by_cases g : u = 0 ∧ l.head? = some 45
    · rw [if_pos g, if_neg (fun q => q.1 g)]
    · rw [if_neg g, if_pos ⟨g, Nat.gcd_one_right u⟩]
  | [b], _, ev, lo =>
    have ev : readC b = some v := ev
    have v2 : 2 ≤ v := lo.elim (fun e => nomatch e) id
    show ((readC h).bind fun u => (readC b).bind _) = _
    rw [eu, ev]
    show (if 2 ≤ v ∧ ¬ (u = 0 ∧ l.head? = some 45) ∧ Nat.gcd u v = 1 then some (sgT l u, v) else none) = _
    by_cases g : ¬ (u = 0 ∧ l.head? = some 45) ∧ Nat.gcd u v = 1
    · rw [if_pos g, if_pos ⟨v2, g⟩]
    · rw [if_neg g, if_neg (fun q => g q.2)]
theorem rdP_low {l h b : List Nat} {v : Nat} (ev : readC b = some v) (lo : v < 2) : rdP l [h, b] = none := by
  show ((readC h).bind fun u => (readC b).bind _) = _
  rw [ev]
  cases readC h with
  | none => rfl
  | some u =>
    show (if 2 ≤ v ∧ ¬ (u = 0 ∧ l.head? = some 45) ∧ Nat.gcd u v = 1 then some (sgT l u, v) else none) = _
    rw [if_neg (fun q => by have := q.1; omega)]
theorem rd_some {l : List Nat} {n : Int} {d : Nat} (e : rd l = some (n, d)) : (Rat.divInt n d).num = n ∧ (Rat.divInt n d).den = d ∧ tl (ftx n d) = l ∧ n.natAbs < 10 ^ 60 ∧ d < 10 ^ 60 ∧ d ≠ 0 := by
  obtain ⟨h, t, e1, _, _, hl, hf, _⟩ := parts_of l
  have er : rdP l (h :: t) = some (n, d) := by
    unfold rd at e
    rw [e1] at e
    exact e
  have no : ∀ {q : Prop}, rdP l (h :: t) = none → q := fun z => absurd (z.symm.trans er) (fun z => nomatch z)
  cases eu : readC h with
  | none => exact no (rdP_none1 eu)
  | some u =>
    cases ev : botU t with
    | none => exact no (rdP_none2 ev)
    | some v =>
      by_cases l2 : 2 ≤ t.length
      · exact no (rdP_long l2)
      · by_cases v0 : v = 0
        · subst v0
          exact no (rdP_zero ev)
        · have lo : t = [] ∨ 2 ≤ v := by
            have tc : t = [] ∨ ∃ b, t = [b] := by
              match t, l2 with
              | [], _ => exact .inl rfl
              | [b], _ => exact .inr ⟨b, rfl⟩
              | b :: c :: r, q => exact absurd (show 2 ≤ (b :: c :: r).length by simp only [List.length_cons]; omega) q
            rcases tc with rfl | ⟨b, rfl⟩
            · exact .inl rfl
            · refine .inr ?_
              by_cases v2 : 2 ≤ v
              · exact v2
              · exact no (rdP_low ev (by omega))
          have val := rdP_val (l := l) eu ev (by omega) lo
          have go := rdP_go hl hf eu ev (by omega) v0
          by_cases g : ¬ (u = 0 ∧ l.head? = some 45) ∧ Nat.gcd u v = 1
          · rw [if_pos g, er] at val
            injection val with val
            injection val with v1 v2
            subst v1
            subst v2
            have cp : Nat.gcd (sgT l u).natAbs d = 1 := by rw [sgT_abs]; exact g.2
            refine ⟨coprime_num v0 cp, (coprime_div v0).mpr cp, ?_, by rw [sgT_abs]; exact readC_lt eu, botU_lt ev, v0⟩
            by_cases tx : tl (ftx (Rat.divInt (sgT l u) d).num (Rat.divInt (sgT l u) d).den) = l
            · rw [coprime_num v0 cp, (coprime_div v0).mpr cp] at tx
              exact tx
            · exact no (go.2 tx)
          · rw [if_neg g] at val
            exact no val
end Rs

namespace Rs
open PySem PySem.Spec PyProof.Rows L2 He
/-! ### def f(a, .., *v): what is left over is a new tuple -/
section
variable {P : Program} {w : World} {K : PySem.W.Frag} {mg : Str → Option Value} {base : Heap} {N ps : List Str} {pv name qual : Str} {pa : Arguments} {body : List Stmt} {sc : Scope} {f : Addr} {fd : FuncData} {k : Nat} {sp : Sp}
theorem def_starP (F : FunD K name qual pa body sc [] [] f fd) (S : FnScope N (ps ++ [pv]) sc)
    (h : ∀ (kV doc pm : Value) (an : Option Addr) (cdv ct : Value) (us rest : List Value), us.length = ps.length →
      bindArgs (PySem.W.fnOf name qual pa body sc .none kV doc pm an cdv ct) ⟨us ++ rest, []⟩ = (newTuple rest >>= fun t => pure (ps.zip us ++ [(pv, t)])))
    (hb : ∀ (X : Cx), X.prog = P → X.w = w → X.K = K → X.mg = mg → X.base = base → X.N = N → X.env.scope = sc → (∀ x, X.fn x = true) → N.Nodup → ∀ (H : Hp) (vs : List V) (Q : VK) (E : XK), Body X k (fun _ => E) → sp vs H Q E → WB X body { nx := fun _ H' => Q .non H', rt := Q } (start N vs) H) :
    FnR P w K mg base (RX P w) (k + 1) f (fun vs H Q E => ∃ ws rest, vs = ws ++ rest ∧ ws.length = ps.length ∧ rest.length ≤ sizeLine ∧ ∀ p, H p = Option.none → sp (ws ++ [V.ref p]) (upd H p (.tup rest)) Q E) := by
  obtain ⟨oc, od, dV, kV, doc, pm, an, cdv, ct, osl, rfl, lk, hcd, hD, hK⟩ := F.ex
  rcases hD with ⟨_, rfl⟩ | ⟨e, _⟩
  case inr => exact absurd rfl e
  exact StX.fn_star lk hcd S cxUpN (fun us rest l => h kV doc pm an cdv ct us rest l) fun A outer s H vs Q E hr z =>
    ⟨_, pbS, hb (bx P w K mg base N qual sc f cdv A outer s H E) rfl rfl rfl rfl rfl rfl rfl (fun _ => rfl) S.nd _ _ Q E (body_of hr) z⟩
end
/-! ### bits -/
section
variable {X : Cx} {σ : L2.St} {H : Hp} {Q : VK} {o : Expr} {apos pos : Pos}
theorem we_bits (h : WE X o σ H fun v H1 => ∃ i, v = .int i ∧ Q (.int (Builtin.Int.intBits i : Nat)) H1) (hbase : attributeBase o "bit_length" X.env (eval o X.env) = eval o X.env := by rfl) (hline : (apos.endLine == pos.line) = true := by rfl) :
    WE X (.Call (.Attribute o "bit_length" apos) [] [] pos) σ H Q := weP (pe_bits peS hbase hline) h
theorem o_oneShl {k : Nat} (hk : k ≤ 134217727) (q : Q (.int (2 ^ k)) H) : Op2 X (binaryOp .LShift) (.int 1) (.int (k : Int)) H Q := op2_of op_oneShl ⟨k, rfl, rfl, hk, q⟩
end
end Rs
/-! ### != of lists whose items are equal by an own == -/
namespace Rs
open PySem PySem.SeqAt
open AutoSeq1 (wpAny_loadPart')
open MeetsSeq MeetsSeq2 MeetsSeq3 SeqRoads2
section
variable {prog : Program} {w : World} {A : Around} {R : Result → Shared → Prop}
theorem ne_loopG (l b : Addr) (N : Nat) (I : Nat → Shared → Prop) (hl : GQ.ListI prog w A (fun e s' => R (.error e) s') l b N I)
    (fin : ∀ s, I N s → R (.ok (.ret (.bool false))) s) (k : Nat) :
    ∀ i : Nat, N - i = k → i ≤ N → ∀ s, I i s →
      wpAny (model prog w) A.in1 (Builtin.«list.__eq__.loop» ⟨[.ref l, .ref b, rawInt i, rawInt 3], []⟩) (GQ.FinOf prog w A R) (fun e s' => R (.error e) s') s := by
  induction k with
  | zero =>
    intro i hk hi s h
    obtain ⟨items, items2, n, n2, hl1, hb1, hs1, hs2, _⟩ := hl _ _ h
    have hi' : i = N := by omega
    have hR : R (.ok (.ret (.bool false))) s := fin s (hi' ▸ h)
    obtain ⟨hp, g, d, tk, os⟩ := s
    wp_walk using wpAny_loadPart' hl1, wpAny_loadPart' hb1
    have hi1 : items[((i : Nat) : Int).toNat]? = none := by simp; omega
    have hi2 : items2[((i : Nat) : Int).toNat]? = none := by simp; omega
    rw [hi1, hi2]
    wp_walk using wpAny_loadPart' hl1, wpAny_loadPart' hb1
    show R (.ok (.ret (.bool (items.size != items2.size)))) _
    rw [hs1, hs2]
    simpa using hR
  | succ k ih =>
    intro i hk hi s h
    obtain ⟨items, items2, n, n2, hl1, hb1, hs1, hs2, turn⟩ := hl _ _ h
    have hlt : i < items.size := by omega
    have hlt2 : i < items2.size := by omega
    have ht := turn hlt hlt2
    obtain ⟨hp, g, d, tk, os⟩ := s
    wp_walk using wpAny_loadPart' hl1, wpAny_loadPart' hb1
    have hi1 : items[((i : Nat) : Int).toNat]? = some items[i] := by simp [hlt]
    have hi2 : items2[((i : Nat) : Int).toNat]? = some items2[i] := by simp [hlt2]
    have hc : ((i : Int) + 1) = ((i + 1 : Nat) : Int) := by omega
    rw [hi1, hi2]
    refine wpAny_bind (wpAny_mono ht (fun r s2 h2 => ?_) fun _ _ x => x)
    obtain ⟨hr, h2⟩ := h2
    subst hr
    have hrec := ih (i + 1) (by omega) (by omega) s2 h2
    obtain ⟨hp2, g2, d2, tk2, os2⟩ := s2
    wp_walk
    rw [hc]
    exact ⟨plainId_quiet plain_eq_loop _, codeAny_builtin entry_eq_loop (by
      rw [Around.under_plainId plain_eq_loop _]
      exact hrec)⟩
theorem list_neG (l b : Addr) (N : Nat) (I : Nat → Shared → Prop) (hl : GQ.ListI prog w A (fun e s' => R (.error e) s') l b N I)
    (fin : ∀ s, I N s → R (.ok (.ret (.bool false))) s) {s : Shared} (h : I 0 s) :
    wpAny (model prog w) A.in1 (Builtin.«list.__ne__» ⟨[.ref l, .ref b], []⟩) (GQ.FinOf prog w A R) (fun e s' => R (.error e) s') s := by
  obtain ⟨items, items2, n, n2, hl1, hb1, hs1, hs2, _⟩ := hl _ _ h
  have hrec := ne_loopG (A := A) (R := R) l b N I hl fin _ 0 rfl (Nat.zero_le _) s h
  obtain ⟨hp, g, d, tk, os⟩ := s
  have f3 := AutoSeq1.sub_list_list
  have hne : ¬ (items.size != items2.size) = true := by simp [hs1, hs2]
  wp_walk using wpAny_loadPart' hl1, wpAny_loadPart' hb1
  exact ⟨plainId_quiet plain_eq_loop _, codeAny_builtin entry_eq_loop (by
    rw [Around.under_plainId plain_eq_loop _]
    exact hrec)⟩
end
section
variable {prog : Program} {w : World} {A : Around} {E : Value → Shared → Prop} {s : Shared}
theorem rc_listNe {l b : Addr} {N : Nat} {Q : Value → Shared → Prop} (hu : A.units < cLine) (I : Nat → Shared → Prop) (hl : GQ.ListI prog w A E l b N I)
    (fin : ∀ s, I N s → Q (.bool false) s) (h : I 0 s) : wpAny (model prog w) A (richCompare .NotEq (.ref l) (.ref b)) Q E s := by
  obtain ⟨items, items2, n, n2, hl1, hb1, _, _, _⟩ := hl _ _ h
  refine wpAny_richCompare_same_room (op := .NotEq) ⟨_, hl1, rfl⟩ ⟨_, hb1, rfl⟩ F.slot_list_ne (GQ.call_here F.slot_list_ne ⟨_, hl1, rfl⟩ F.entry_list_ne (F.args_list_ne_2 _ _) ?_) hu
  exact list_neG (R := wants (fun v s' => v ≠ .notImplemented ∧ Q v s') E) l b N I hl (fun s' q => ⟨(fun x => nomatch x), fin s' q⟩) h
end
end Rs
namespace Rs
open PySem PySem.Spec PyProof.Rows L2 He
section
variable {X : Cx} {n k : Nat} {D : Eqv} {E : L2.St → XK} {H : Hp} {Q : VK}
theorem op_neList (hD : Mon D) (h : EqG X n D) (hr : Room (n + 1) X.A) : OpR X (compareOp .NotEq) (fun x y H Q => DList D x y H ∧ ∀ H', Ext H H' → Q (.bl false) H') := by
  intro pins s σ H x y v u Q I rx ry hq
  obtain ⟨⟨a, b, xs, ys, rfl, rfl, ha, hb, p⟩, q⟩ := hq
  cases rx
  cases ry
  show wpAny (model X.prog X.w) X.A (richCompare .NotEq (.ref a) (.ref b)) (EP X pins σ Q) X.xe s
  refine rc_listNe (N := xs.length) hr.units0 (fun _ s' => LoopI X pins σ H s') (fun i s' q => ?_) (fun s' z => ?_) ⟨H, I, Ext.rfl'⟩
  · obtain ⟨H1, I1, e1⟩ := id q
    obtain ⟨z, its, k, r, e⟩ := I1.hok a _ (e1 _ _ ha)
    obtain ⟨z2, its2, k2, r2, e2⟩ := I1.hok b _ (e1 _ _ hb)
    refine ⟨its.toArray, its2.toArray, k, k2, e, e2, by rw [List.size_toArray, ← r.length], by rw [List.size_toArray, ← r2.length, ← p.1], fun h1 h2 => ?_⟩
    exact turnG hD h ⟨hr, rfl⟩ p r r2 i h1 h2 s' q
  · obtain ⟨H1, I1, e1⟩ := z
    exact ⟨.bl false, H1, I1, rfl, q H1 e1⟩
theorem o_neList (B : Body X k E) (hD : Mon D) (h : EqG X n D) (hk : n + 1 ≤ k) {a b : Addr} {xs ys : List V} (ha : H a = some (.lst xs)) (hb : H b = some (.lst ys)) (p : L2.Prs D xs ys H) (q : ∀ H', Ext H H' → Q (.bl false) H') : Op2 X (compareOp .NotEq) (.ref a) (.ref b) H Q :=
  op2_of (op_neList hD h (B.room.mono hk)) ⟨⟨a, b, xs, ys, rfl, rfl, ha, hb, p⟩, q⟩
theorem Ext.toEx {H H' : Hp} (e : Ext H H') : Ex H H' := ⟨fun a o h _ => e a o h, fun a l o h s => ⟨o, e a o h, s⟩⟩
end
end Rs

namespace Rs
open PySem PySem.Spec PyProof.Rows L2 He
/-! ### [e for x in range(n)] -/
/-- what the items come to -/
def LcR (X : Cx) (scope : Scope) (elt : Expr) (i : Nat) (σ : L2.St) (n : Nat) (Q : VK) (H1 : Hp) : Prop :=
  ∀ D, H1 D = none → ∃ P : Nat → Hp → Prop, P 0 (upd H1 D (.lst [])) ∧
    (∀ j H, j < n → P j H → ∀ s H0 C cl fp, WE (Bk X s H0 scope C cl fp) elt (σ.set i (some (.int (j : Nat)))) H fun y H4 => ∃ acc, H4 D = some (.lst acc) ∧ acc.length < sizeLine ∧ P (j + 1) (upd H4 D (.lst (acc ++ [y])))) ∧ ∀ H, P n H → Q (.ref D) H
section
variable {X : Cx} {σ : L2.St} {H : Hp} {Q : VK} {D : Ends} {k i n : Nat} {E : L2.St → XK} {x y : Str} {scope : Scope} {elt a : Expr} {px py pos spos pr pc : Pos}
theorem lc_byR (h : WE X a σ H fun v H1 => ∃ n : Nat, v = .int n ∧ n ≤ 1000000000 ∧ LcR X scope elt i σ n Q H1) (hs : starEach [a] X.env = [(false, eval a X.env)] := by rfl) : tLc (iRng1 (WA X [a])) (gName i) tYes (teB X scope elt) [i] σ H Q := by
  refine wa_one (we_mono h fun v H1 q => ?_) hs
  obtain ⟨n, rfl, hn, q⟩ := q
  refine ⟨n, rfl, by omega, by omega, fun D hD => ?_⟩
  obtain ⟨P, h0, hs, hd⟩ := q D hD
  refine lc_range (lo := 0) P h0 (fun j H hj p => ?_) hd
  have hj : j < n := by rw [Int.toNat_natCast] at hj; exact hj
  rw [Int.zero_add]
  refine ⟨(show ((σ.set i none).set i (some (.int (j : Nat)))).set i none = σ.set i none by rw [set2, set2]), (iteT (B := P (j + 1) H) ?_ : if true = true then teB X scope elt ((σ.set i none).set i (some (.int (j : Nat)))) H fun y H4 => ∃ acc, H4 D = some (.lst acc) ∧ acc.length < sizeLine ∧ P (j + 1) (upd H4 D (.lst (acc ++ [y]))) else P (j + 1) H)⟩
  intro s H0 C cl fp
  have e : (σ.set i none).set i (some (.int (j : Nat))) = σ.set i (some (.int (j : Nat))) := set2
  have z := hs j H hj p s H0 C cl fp
  rw [← e] at z
  exact z
theorem ws_setLcR (B : Body X k E) (m : Sl X n y) (bn : Bn X "range") (hy : X.env.scope.names.lookup y = some .local) (hk : X.env.scope.kind = .function) (hi : X.N[i]? = some x) (hx : scope.names.lookup x = some .local) (ok : BlkOk X.N X.env.scope scope [(x, i)])
    (h : WE X a σ H fun v H1 => ∃ n' : Nat, v = .int n' ∧ n' ≤ 1000000000 ∧ LcR X scope elt i σ n' (fun v H' => D.nx (σ.set n (some v)) H') H1) (hl : (py.line == spos.line) = true := by rfl)
    (ha : (scope.names.any fun (n, k) => n == y && (k == .local || k == .cell)) = false := by decide +kernel) (he : pos.line = spos.line := by rfl) (hst : starEach [a] X.env = [(false, eval a X.env)] := by rfl) (hs : ∀ v, foldedSetIterable (.Call (.Name "range" pr) [a] [] pc) X.env v = pure v := by intro _; rfl) :
    WS X (.Assign [.Name y py] (.ListComp elt [⟨.Name x px, .Call (.Name "range" pr) [a] [] pc, [], 0⟩] scope pos) spos) D σ H :=
  wsP (ps_setLc (own := [(x, i)]) (g := gName i) (tt := tYes) B.calm m.nd m.at_ hy (sw_true hk hy (by rw [he]; exact hl) ha) (pi_range1 bn.gl bn.no paS hst) ok (fun _ _ _ _ _ => pg_name m.nd hi (.inl (lookup_relS_keep (by decide) hx)) (.inr (lookup_relS_keep (by decide) hx))) (fun _ _ _ _ _ => pts_nil) peB hs) (lc_byR h hst)
end
end Rs

namespace Mt
open PySem
/-! ### rounds of a steady world -/
/-- first waits ahead of sending k, and in the wait of sending k -/
def mk (b : Bool) (k : Nat) : Int := if b = true then 2 ^ k - 1 else k
def wk (b : Bool) (k : Nat) : Int := if b = true then 2 ^ k else 1
theorem wtk_one (b : Bool) (k : Nat) : wtk (1 : Int) b k = wk b k := by
  induction k with
  | zero => unfold wtk wk; cases b <;> rfl
  | succ k ih =>
    unfold wtk
    rw [ih]
    unfold wk
    cases b with
    | false => rfl
    | true =>
      show (2 : Int) ^ k + 2 ^ k = 2 ^ (k + 1)
      rw [Int.pow_succ]
      omega
theorem stk_one (b : Bool) (k : Nat) : stk (0 : Int) 1 b k = mk b k := by
  induction k with
  | zero => unfold stk mk; cases b <;> rfl
  | succ k ih =>
    unfold stk
    rw [ih, wtk_one]
    unfold mk wk
    cases b with
    | false => show (k : Int) + 1 = ((k + 1 : Nat) : Int); omega
    | true =>
      show (2 : Int) ^ k - 1 + 2 ^ k = 2 ^ (k + 1) - 1
      rw [Int.pow_succ]
      omega
theorem pow_pos2 (k : Nat) : (0 : Int) < 2 ^ k := Int.pow_pos (by decide)
theorem mk_nn (b : Bool) (k : Nat) : 0 ≤ mk b k := by
  unfold mk
  have := pow_pos2 k
  cases b with
  | false => show 0 ≤ (k : Int); omega
  | true => show 0 ≤ (2 : Int) ^ k - 1; omega
section
variable {u d : Rat} {b : Bool}
theorem stk_rat (u : Rat) (b : Bool) (k : Nat) : stk 0 u b k = (mk b k : Rat) * u := by
  have h := stk_map (f := fun i : Int => (i : Rat) * u) (z := 0) (w := 1) (d := b) (fun a c => by rw [Rat.intCast_add, Rat.add_mul]) k
  have e0 : ((0 : Int) : Rat) * u = 0 := by rw [Rat.intCast_zero, Rat.zero_mul]
  have e1 : ((1 : Int) : Rat) * u = u := by rw [Rat.intCast_one, Rat.one_mul]
  rw [← stk_one, ← h]
  show stk 0 u b k = stk (((0 : Int) : Rat) * u) (((1 : Int) : Rat) * u) b k
  rw [e0, e1]
theorem wtk_rat (u : Rat) (b : Bool) (k : Nat) : wtk u b k = (wk b k : Rat) * u := by
  have h := wtk_map (f := fun i : Int => (i : Rat) * u) (w := 1) (d := b) (fun a c => by rw [Rat.intCast_add, Rat.add_mul]) k
  have e1 : ((1 : Int) : Rat) * u = u := by rw [Rat.intCast_one, Rat.one_mul]
  rw [← wtk_one, ← h]
  show wtk u b k = wtk (((1 : Int) : Rat) * u) b k
  rw [e1]
/-- the least number of waits that reach a delay -/
def cei (d u : Rat) : Int := -(fl (0 - d) u)
theorem zero_sub_num (d : Rat) : (0 - d).num = -d.num ∧ (0 - d).den = d.den := by
  have e : 0 - d = -d := by grind
  rw [e]
  exact ⟨rfl, rfl⟩
/-- so many waits are below the delay -/
theorem times_lt {i : Int} : (i : Rat) * u < d ↔ i * (u.num * d.den) < d.num * u.den := by
  have hL : u.den * d.den ≠ 0 := Nat.mul_ne_zero u.den_nz d.den_nz
  have eu : u = sc (u.den * d.den) (u.num * d.den) := by
    unfold sc
    rw [Int.natCast_mul, Rat.divInt_mul_right (by have := d.den_nz; omega), Rat.num_divInt_den]
  have ed : d = sc (u.den * d.den) (d.num * u.den) := by
    unfold sc
    rw [Int.natCast_mul, Int.mul_comm (u.den : Int), Rat.divInt_mul_right (by have := u.den_nz; omega), Rat.num_divInt_den]
  have ei : (i : Rat) * u = sc (u.den * d.den) (i * (u.num * d.den)) := by
    conv => lhs; rw [eu]
    unfold sc
    rw [← int_eq, Rat.divInt_mul_divInt, Int.one_mul]
  have h := sc_lt hL (i * (u.num * d.den)) (d.num * u.den)
  rw [← ei, ← ed] at h
  exact h
theorem num_pos0 (u0 : 0 < u) : 0 < u.num := by
  have h := (Rat.lt_iff 0 u).mp u0
  rw [show (0 : Rat).num = 0 from rfl, show ((0 : Rat).den : Int) = 1 from rfl] at h
  omega
theorem cei_spec (u0 : 0 < u) : ∀ i : Int, (i : Rat) * u < d ↔ i < cei d u := by
  intro i
  rw [times_lt]
  have W0 : 0 < u.num * (d.den : Int) := Int.mul_pos (num_pos0 u0) (by have := d.den_pos; omega)
  have ef : fl (0 - d) u = (-(d.num * u.den)).fdiv (u.num * d.den) := by
    unfold fl
    rw [(zero_sub_num d).1, (zero_sub_num d).2, Int.neg_mul, Int.mul_comm (d.den : Int)]
  unfold cei
  rw [ef, Int.fdiv_eq_ediv_of_nonneg _ (Int.le_of_lt W0)]
  generalize u.num * (d.den : Int) = W at W0
  generalize d.num * (u.den : Int) = M
  have h1 := Int.ediv_mul_le (-M) (Int.ne_of_gt W0)
  have h2 := Int.lt_ediv_add_one_mul_self (-M) W0
  generalize -M / W = f at h1 h2
  have e : (f + 1) * W = f * W + W := by rw [Int.add_mul, Int.one_mul]
  constructor
  · intro h
    refine Int.lt_of_not_ge fun g => ?_
    have : -f * W ≤ i * W := Int.mul_le_mul_of_nonneg_right g (Int.le_of_lt W0)
    rw [Int.neg_mul] at this
    omega
  · intro h
    have : (i + 1) * W ≤ -f * W := Int.mul_le_mul_of_nonneg_right (by omega) (Int.le_of_lt W0)
    rw [Int.neg_mul, Int.add_mul, Int.one_mul] at this
    omega
theorem cei_pos (u0 : 0 < u) (d0 : 0 < d) : 1 ≤ cei d u := by
  have := (cei_spec (d := d) u0 0).mp (by rw [Rat.intCast_zero, Rat.zero_mul]; exact d0)
  omega
/-- how many sendings -/
def snd (b : Bool) (c : Int) : Nat := if b = true then Builtin.Int.intBits c else c.toNat
theorem bits_pos {c : Int} (h : 1 ≤ c) : Builtin.Int.intBits c = c.toNat.log2 + 1 := by
  unfold Builtin.Int.intBits
  have e : (c == 0) = false := by
    rw [beq_eq_false_iff_ne]
    omega
  rw [e]
  show c.natAbs.log2 + 1 = _
  congr 2
  omega
theorem snd_spec {c : Int} (h : 1 ≤ c) (b : Bool) : 1 ≤ snd b c ∧ ∀ k, mk b k < c ↔ k < snd b c := by
  unfold snd mk
  cases b with
  | false =>
    refine ⟨by show 1 ≤ c.toNat; omega, fun k => ?_⟩
    show (k : Int) < c ↔ k < c.toNat
    omega
  | true =>
    show 1 ≤ Builtin.Int.intBits c ∧ ∀ k, (2 : Int) ^ k - 1 < c ↔ k < Builtin.Int.intBits c
    rw [bits_pos h]
    refine ⟨by omega, fun k => ?_⟩
    obtain ⟨n, rfl⟩ := Int.eq_ofNat_of_zero_le (show 0 ≤ c by omega)
    rw [Int.toNat_natCast]
    have n0 : n ≠ 0 := by omega
    have e : (2 : Int) ^ k = ((2 ^ k : Nat) : Int) := by rw [Int.natCast_pow]; rfl
    rw [e]
    constructor
    · intro g
      have g : 2 ^ k ≤ n := by omega
      have := (Nat.le_log2 n0).mpr g
      omega
    · intro g
      have := (Nat.le_log2 n0).mp (show k ≤ n.log2 by omega)
      omega
theorem rsk_steady (u0 : 0 < u) (d0 : 0 < d) : ∀ k, rsk 0 u b [some d] (k + 1) = ⟨k, 0, some d, some d⟩ := by
  intro k
  have dl : ∀ k, dlk [some d] k = some d := fun k => by
    cases k with
    | zero => rfl
    | succ k =>
      unfold dlk
      rw [if_neg (by show ¬ k + 1 < 1; omega)]
      rfl
  induction k with
  | zero =>
    show rstep (rsk 0 u b [some d] 0) 0 (stk 0 u b 0) (dlk [some d] 0) = _
    rw [dl]
    show (⟨0, 0, some (0 + d), some d⟩ : RS Rat) = _
    rw [Rat.zero_add]
  | succ k ih =>
    show rstep (rsk 0 u b [some d] (k + 1)) (k + 1) (stk 0 u b (k + 1)) (dlk [some d] (k + 1)) = _
    rw [dl, ih]
    show (if stk 0 u b (k + 1) + d < d then (⟨k + 1, k + 1, some (stk 0 u b (k + 1) + d), some d⟩ : RS Rat) else ⟨k + 1, 0, some d, some d⟩) = _
    have h := stk_mono (d := b) u0 (Nat.zero_le (k + 1))
    have h : 0 ≤ stk 0 u b (k + 1) := h
    rw [if_neg (by grind)]
theorem gng_steady (u0 : 0 < u) (d0 : 0 < d) (k : Nat) : Gng 0 u b [some d] k ↔ k = 0 ∨ k < snd b (cei d u) := by
  cases k with
  | zero => exact ⟨fun _ => .inl rfl, fun _ => trivial⟩
  | succ k =>
    unfold Gng
    rw [rsk_steady u0 d0]
    show stk 0 u b (k + 1) < d ↔ _
    rw [stk_rat, cei_spec u0, (snd_spec (cei_pos u0 d0) b).2]
    exact ⟨.inr, fun h => h.resolve_left (by omega)⟩
theorem wk_le (b : Bool) (k : Nat) : (wk b k).natAbs ≤ 2 ^ k := by
  unfold wk
  cases b with
  | false => show 1 ≤ 2 ^ k; exact Nat.one_le_two_pow
  | true =>
    show ((2 : Int) ^ k).natAbs ≤ 2 ^ k
    rw [Int.natAbs_pow]
    exact Nat.le_refl _
theorem mk_le (b : Bool) (k : Nat) : (mk b k).natAbs ≤ 2 ^ k := by
  have p := pow_pos2 k
  have e : ((2 : Int) ^ k).natAbs = 2 ^ k := by rw [Int.natAbs_pow]; rfl
  unfold mk
  cases b with
  | false => show (k : Int).natAbs ≤ 2 ^ k; have := @Nat.lt_two_pow_self k; omega
  | true => show ((2 : Int) ^ k - 1).natAbs ≤ 2 ^ k; omega
theorem stk_sz {m k N : Nat} (hk : k ≤ N) (h : Sz u m) (b : Bool) : Sz (stk 0 u b k) (N + 1 + m) := by
  rw [stk_rat]
  refine Sz.mul (Sz.int ?_ (by omega)) h
  exact Nat.lt_of_le_of_lt (mk_le b k) (Nat.pow_lt_pow_right (by decide) (by omega))
theorem wtk_sz {m k N : Nat} (hk : k ≤ N) (h : Sz u m) (b : Bool) : Sz (wtk u b k) (N + 1 + m) := by
  rw [wtk_rat]
  refine Sz.mul (Sz.int ?_ (by omega)) h
  exact Nat.lt_of_le_of_lt (wk_le b k) (Nat.pow_lt_pow_right (by decide) (by omega))
theorem snd_le {c : Int} {n : Nat} (h : 1 ≤ c) (hc : c ≤ n) (b : Bool) : snd b c ≤ n := by
  have s := (snd_spec h b).2
  refine Nat.le_of_not_lt fun g => ?_
  have := (s n).mpr g
  have : (n : Int) ≤ mk b n := by
    unfold mk
    cases b with
    | false => exact Int.le_refl _
    | true =>
      show (n : Int) ≤ 2 ^ n - 1
      have e : (2 : Int) ^ n = ((2 ^ n : Nat) : Int) := by rw [Int.natCast_pow]; rfl
      have := @Nat.lt_two_pow_self n
      omega
  omega
theorem cei_le (u0 : 0 < u) {n : Nat} (h : d ≤ (n : Rat) * u) : cei d u ≤ n := by
  refine Int.le_of_not_gt fun g => ?_
  have := (cei_spec (d := d) u0 n).mpr g
  rw [Rat.intCast_natCast] at this
  exact absurd h (Rat.not_le.mpr this)
end
end Mt

namespace Rs
open PySem PySem.Spec
/-! ### a dict merged into another one: {**d, ..}, f(**d) -/
section
variable {prog : Program} {w : World} {K : Type} [DecidableEq K] {knd : KeyKind prog w K} {A : Around} {E : Value → Shared → Prop} {s : Shared}
theorem wpAny_dictPut_pairs {d : Addr} {kvs : List (K × Value)} {k : K} {key v : Value} {Q : Unit → Shared → Prop} (hkey : knd.is k key = true) (hm : s.heap.DictOf knd d kvs)
    (hQ : ∀ h', h'.DictOf knd d (stored kvs k v) → Heap.SameBut d s.heap h' → Q () { s with heap := h' })
    (hsz : kvs.length ≤ sizeLine := by size_fits) :
    wpAny (model prog w) A (dictPut d (knd.hash k) key v) Q E s := by
  obtain ⟨o, es, ep, ho, hc, hd, hk, hp, hn⟩ := hm
  have hes : es.size ≤ sizeLine := by have e1 := hp.length; have e2 : es.toList.length = es.size := by simp
                                      omega
  unfold dictPut
  refine wpAny_bind (wpAny_dictFind_of hkey ho hd hk ?_)
  have hidx : (es.findIdx? fun e => knd.is k e.key) = kvs.findIdx? fun kv => decide (kv.1 = k) := by
    rw [← hp.findIdx k]; obtain ⟨l⟩ := es; simp
  cases hi : es.findIdx? fun e => knd.is k e.key with
  | some i =>
    refine (wpAny_updateDict ho hd ((hQ _ ⟨_, _, ep, Heap.get?_update_self _ ho (Obj.isFreed_of_dict (Obj.data_mapDict hd _)),
      hc.mapDict _, Obj.data_mapDict hd _, hk.modify _ _, ?_, ?_⟩ (Heap.SameBut.update ..))))
    · rw [stored, if_pos (any_of_findIdx_some (hidx ▸ hi))]
      have hl : (es.toList.findIdx? fun e => knd.is k e.key) = some i := by rw [← hi]; obtain ⟨l⟩ := es; simp
      have := hp.modify hn hl v
      obtain ⟨l⟩ := es
      simpa using this
    · rw [stored, if_pos (any_of_findIdx_some (hidx ▸ hi)), keys_map_store]; exact hn
  | none =>
    have hnot : k ∉ kvs.map (·.1) := not_mem_of_findIdx_none (hidx ▸ hi)
    have hany : ¬ (kvs.any fun kv => decide (kv.1 = k)) = true := by
      rw [List.any_eq_true]; rintro ⟨kv, hkv, he⟩
      exact hnot (List.mem_map.mpr ⟨kv, hkv, of_decide_eq_true he⟩)
    refine (wpAny_updateDictKeys (hz := hes) ho hd (hQ _ ⟨_, _, ep + 1, Heap.get?_update_self _ ho (Obj.isFreed_of_dict (Obj.data_mapDictKeys hd _)),
      hc.mapDictKeys _, Obj.data_mapDictKeys hd _, hk.push hkey _, ?_, ?_⟩ (Heap.SameBut.update ..)))
    · rw [stored, if_neg hany]
      have := hp.append hkey (knd.hash k) v
      obtain ⟨l⟩ := es
      simpa using this
    · rw [stored, if_neg hany, List.map_append, List.nodup_append]
      refine ⟨hn, by simp, ?_⟩
      intro a ha b hb
      simp only [List.map_cons, List.map_nil, List.mem_singleton] at hb
      subst hb
      exact fun e => hnot (e ▸ ha)
theorem wpAny_mergeLoop {d o : Addr} {kvs more : List (K × Value)} {u : Bool} {Q : Unit → Shared → Prop} (hdo : d ≠ o)
    (hd : s.heap.DictOf knd d kvs) (ho : s.heap.DictOf knd o more) (hu : u = true → ((kvs ++ more).map (·.1)).Nodup)
    (hQ : ∀ h', h'.DictOf knd d (merged kvs more) → h'.DictOf knd o more → Heap.SameBut d s.heap h' → Q () { s with heap := h' })
    (hsz : kvs.length + more.length ≤ sizeLine) :
    wpAny (model prog w) A (do
      let __do_lift ← dictEntries o
      let epoch ← dictEpoch o
      forIn (List.range __do_lift.size) PUnit.unit fun i (_ : PUnit) => (do
          let __do_lift ← dictEntries o
          match __do_lift[i]? with
            | some e => do
              holding [e.key, e.val] (if u = true then do
                  let __do_lift ← dictFind d e.key e.hash
                  if __do_lift.isSome = true then do
                      rule "dict.merge.duplicate-key"
                      let __do_lift ← newExc (Value.type "KeyError") [e.key]
                      let _ ← (raiseNew __do_lift : Sem Unit)
                      dictPut d e.hash e.key e.val
                    else dictPut d e.hash e.key e.val
                else dictPut d e.hash e.key e.val)
              let __do_lift ← dictEpoch o
              if (__do_lift != epoch) = true then do
                  let _ ← (unsupported "dict.changed-during-merge" : Sem Unit)
                  pure (ForInStep.yield PUnit.unit)
                else pure (ForInStep.yield PUnit.unit)
            | _ => do
              let _ ← (unsupported "dict.changed-during-merge" : Sem Unit)
              pure (ForInStep.yield PUnit.unit) : Sem (ForInStep PUnit))
      pure ()) Q E s := by
  obtain ⟨od, esd, epd, hod, hcd, hdd, hkd, hpd, hnd⟩ := id hd
  obtain ⟨oo, eso, epo, hoo, hco, hdo', hko, hpo, hno⟩ := id ho
  have hlen : more.length = eso.size := by rw [← hpo.length]; simp
  refine wpAny_bind (wpAny_dictEntries hoo hdo' ?_)
  refine wpAny_bind (wpAny_dictEpoch hoo hdo' ?_)
  refine wpAny_bind ?_
  rw [List.range_eq_range']
  refine wpAny_forIn_list _
    (fun rest _ s' => ∃ h' i, s' = { s with heap := h' } ∧ rest = List.range' i (eso.size - i) ∧ i ≤ eso.size ∧ h'.DictOf knd d (merged kvs (more.take i)) ∧ h'.get? o = some oo ∧ Heap.SameBut d s.heap h')
    _ ?_ ?_ _ _ ⟨s.heap, 0, rfl, by simp, Nat.zero_le _, by simpa [merged] using hd, hoo, Heap.SameBut.refl _ _⟩
  · rintro x rest b s' ⟨h', i, rfl, hr, hi, hd', hoo', hs'⟩
    have hlt : i < eso.size := by
      rcases Nat.lt_or_ge i eso.size with h | h
      · exact h
      · rw [Nat.sub_eq_zero_of_le h] at hr; simp at hr
    obtain ⟨rfl, hrest⟩ : x = i ∧ rest = List.range' (i + 1) (eso.size - (i + 1)) := by
      have e : eso.size - i = (eso.size - (i + 1)) + 1 := by omega
      rw [e, List.range'_succ] at hr
      injection hr with h1 h2
      exact ⟨h1, h2⟩
    refine wpAny_bind (wpAny_dictEntries hoo' hdo' ?_)
    rw [Array.getElem?_eq_getElem hlt]
    obtain ⟨kv, hkv⟩ : ∃ kv, more[x]? = some kv := ⟨more[x]'(by rw [hlen]; exact hlt), List.getElem?_eq_getElem _⟩
    obtain ⟨k, v⟩ := kv
    obtain ⟨hkey, hval⟩ := hpo.get? (e := eso[x]) (by simp [hlt]) hkv
    obtain ⟨k', hkey', hhash⟩ := hko eso[x] (Array.getElem_mem hlt)
    obtain rfl : k' = k := knd.inj _ _ _ hkey' hkey
    have hmx : (merged kvs (more.take x)).length ≤ sizeLine := by
      have e1 := merged_length_le kvs (more.take x)
      have e2 : (more.take x).length ≤ more.length := by rw [List.length_take]; omega
      omega
    have fin : ∀ Q' : Unit → Shared → Prop, (∀ h'', h''.DictOf knd d (merged kvs (more.take (x + 1))) → h''.get? o = some oo → Heap.SameBut d s.heap h'' → Q' () { s with heap := h'' }) →
        wpAny (model prog w) A (dictPut d eso[x].hash eso[x].key eso[x].val) Q' E { s with heap := h' } := fun Q' hq => by
      rw [hhash, hval]
      refine wpAny_dictPut_pairs (hsz := hmx) hkey hd' fun h'' hd'' hs'' => ?_
      exact hq h'' (by rw [merged_take_succ kvs more x (k', v) hkv]; exact hd'') ((hs''.2 o (Ne.symm hdo)).trans hoo') (hs'.trans hs'')
    refine wpAny_bind (wpAny_holding ?_)
    cases u with
    | false =>
      rw [if_neg Bool.false_ne_true]
      refine fin _ fun h'' a b c => ?_
      refine wpAny_bind (wpAny_dictEpoch b hdo' ?_)
      rw [if_neg (by simp)]
      exact wpAny_pure ⟨h'', x + 1, rfl, hrest, hlt, a, b, c⟩
    | true =>
      rw [if_pos rfl]
      obtain ⟨o2, es2, ep2, ho2, hc2, hd2, hk2, hp2, hn2⟩ := id hd'
      rw [hhash]
      refine wpAny_bind (wpAny_dictFind_of hkey ho2 hd2 hk2 ?_)
      have nk : k' ∉ (merged kvs (more.take x)).map (·.1) := by
        have hn := hu rfl
        have e : merged kvs (more.take x) = kvs ++ more.take x := by
          refine merged_append_of_fresh _ _ ?_
          rw [List.map_append, List.nodup_append] at hn ⊢
          refine ⟨hn.1, ?_, fun a ha b hb => hn.2.2 a ha b ?_⟩
          · rw [List.map_take]
            exact hn.2.1.sublist (List.take_sublist _ _)
          · rw [List.map_take] at hb
            exact List.mem_of_mem_take hb
        rw [e]
        have hx : x < more.length := by omega
        have sp : more = more.take x ++ (k', v) :: more.drop (x + 1) := by
          have h1 : more.drop x = more[x] :: more.drop (x + 1) := List.drop_eq_getElem_cons hx
          have h2 : more[x] = (k', v) := by
            rw [List.getElem?_eq_getElem hx] at hkv
            exact Option.some.inj hkv
          rw [← h2, ← h1, List.take_append_drop]
        rw [sp, ← List.append_assoc, List.map_append, List.nodup_append] at hn
        exact fun hm => hn.2.2 k' hm k' (by simp) rfl
      have hnone : (es2.findIdx? fun e => knd.is k' e.key) = none := by
        have hidx : (es2.findIdx? fun e => knd.is k' e.key) = (merged kvs (more.take x)).findIdx? fun kv => decide (kv.1 = k') := by
          rw [← hp2.findIdx k']; obtain ⟨l⟩ := es2; simp
        rw [hidx, List.findIdx?_eq_none_iff]
        intro kv hkv'
        exact decide_eq_false fun e => nk (List.mem_map.mpr ⟨kv, hkv', e⟩)
      rw [hnone]
      rw [if_neg (by simp)]
      rw [← hhash]
      refine fin _ fun h'' a b c => ?_
      refine wpAny_bind (wpAny_dictEpoch b hdo' ?_)
      rw [if_neg (by simp)]
      exact wpAny_pure ⟨h'', x + 1, rfl, hrest, hlt, a, b, c⟩
  · rintro b s' ⟨h', i, rfl, hr, hi, hd', hoo', hs'⟩
    have hin : i = eso.size := by
      rcases Nat.lt_or_ge i eso.size with h | h
      · have e : eso.size - i = (eso.size - (i + 1)) + 1 := by omega
        rw [e, List.range'_succ] at hr; exact nomatch hr
      · exact Nat.le_antisymm hi h
    refine wpAny_pure (hQ h' ?_ ⟨oo, eso, epo, hoo', hco, hdo', hko, hpo, hno⟩ hs')
    rw [hin, ← hlen, List.take_length] at hd'; exact hd'
theorem wpAny_mergeMapping {d o : Addr} {kvs more : List (K × Value)} {u : Bool} {Q : Unit → Shared → Prop} (hdo : d ≠ o) (hoS : (o == sysModules) = false)
    (hkr : ∀ k a, knd.is k (.ref a) = false) (hd : s.heap.DictOf knd d kvs) (ho : s.heap.DictOf knd o more) (hu : u = true → ((kvs ++ more).map (·.1)).Nodup)
    (hQ : ∀ h', h'.DictOf knd d (merged kvs more) → h'.DictOf knd o more → Heap.SameBut d s.heap h' → Q () { s with heap := h' })
    (hsz : kvs.length + more.length ≤ sizeLine := by size_fits) :
    wpAny (model prog w) A (mergeMapping d (.ref o) u) Q E s := by
  obtain ⟨od, esd, epd, hod, hcd, hdd, hkd, hpd, hnd⟩ := id hd
  obtain ⟨oo, eso, epo, hoo, hco, hdo', hko, hpo, hno⟩ := id ho
  have hlen : more.length = eso.size := by rw [← hpo.length]; simp
  unfold mergeMapping
  refine wpAny_bind (wpAny_isInstance ho.typeIs isSubtype_dict_dict ?_)
  dsimp only
  rw [if_pos rfl]
  refine wpAny_bind (wpAny_specialOf ho.typeIs F.slot_dict_iter.lookup ?_)
  simp only [beq_self_eq_true]
  refine wpAny_bind (wpAny_pure ?_)
  dsimp only
  rw [if_neg (by rw [hoS]; exact Bool.false_ne_true)]
  refine wpAny_bind (wpAny_dictEntries hod hdd ?_)
  split
  case isTrue =>
    refine wpAny_bind (wpAny_dictEntries hoo hdo' ?_)
    refine wpAny_bind (wpAny_forIn_array' _ (fun rest _ s' => s' = s ∧ ∀ e ∈ rest, e ∈ eso) _ ?_ ?_ _ _ ⟨rfl, fun e he => by simpa using he⟩)
    · rintro e rest b s' ⟨rfl, hr⟩
      obtain ⟨k', hkey', _⟩ := hko e (hr e List.mem_cons_self)
      split
      · rename_i a' heq
        rw [heq, hkr] at hkey'
        cases hkey'
      · exact wpAny_pure ⟨rfl, fun x hx => hr x (List.mem_cons_of_mem _ hx)⟩
    · rintro b s' ⟨rfl, _⟩
      exact wpAny_mergeLoop hdo hd ho hu hQ hsz
  case isFalse =>
    exact wpAny_mergeLoop hdo hd ho hu hQ hsz
end
end Rs

namespace Rs
open PySem PySem.Spec PyProof.Rows L2 He
/-! ### dicts that are merged, in the heap of V -/
section
variable {X : Cx} {pins : List (Addr × Obj)} {σ : L2.St} {H : Hp} {s : Shared} {A : Around} {E : Value → Shared → Prop}
theorem mix_noref (P : Program) (w : World) (k : Key) (a : Addr) : (mixKind P w).is k (.ref a) = false := by
  cases k with
  | inl i => rfl
  | inr x => rfl
theorem kv_keys : ∀ {kvs : List (Key × V)} {vs : List (Key × Value)}, KV kvs vs → kvs.map (·.1) = vs.map (·.1)
  | [], _, r => by cases r; rfl
  | p :: kvs, _, r => by
    cases r with
    | @cons a b as bs h t =>
      rw [List.map_cons, List.map_cons, kv_keys t, h.1]
theorem d_merge {d o : Addr} {kvs more : List (Key × V)} {u : Bool} {Q : Unit → Shared → Prop} (I : Inv X pins σ H s) (ed : H d = some (.dK kvs)) (eo : H o = some (.dK more)) (ne : d ≠ o) (hu : u = true → ((kvs ++ more).map (·.1)).Nodup)
    (hz : kvs.length + more.length ≤ sizeLine) (h : ∀ s', Inv X pins σ (upd H d (.dK (mergeK kvs more))) s' → Q () s') : wpAny (model X.prog X.w) A (mergeMapping d (.ref o) u) Q E s := by
  obtain ⟨z1, hd1, vs1, r1, dd1⟩ := dk_of I.hok ed
  obtain ⟨z2, hd2, vs2, r2, dd2⟩ := dk_of I.hok eo
  refine wpAny_mergeMapping ne hd2 (mix_noref _ _) dd1 dd2 (fun e => ?_) (fun h' q1 q2 hs => h _ ?_) ?_
  · have := hu e
    rw [List.map_append, kv_keys r1, kv_keys r2, ← List.map_append] at this
    exact this
  · refine d_write (t' := s.toks) I (by rw [ed]; exact True.intro) hs (let ⟨q, _, _, hq, _⟩ := q1; ⟨q, hq⟩) (dk_new ?_ hd1 (r2.merge r1) q1)
    have := length_mergeK more kvs
    omega
  · rw [← r1.length, ← r2.length]; exact hz
end
/-! ### f(**d) -/
section
variable {prog : Program} {w : World} {A : Around} {s : Shared} {E : Value → Shared → Prop}
theorem wpAny_keywordsIn {f : Value} {d : Addr} {ps : List (Str × Value)} {Q : List (Str × Value) → Shared → Prop} (hd : s.heap.DictOf (mixKind prog w) d (ps.map fun p => (.inr p.1, p.2))) (h : Q ps s) : wpAny (model prog w) A (keywordsIn f d) Q E s := by
  obtain ⟨o, es, ep, ho, hc, hdd, hk, hp, hn⟩ := hd
  unfold keywordsIn
  refine wpAny_bind (wpAny_dictEntries ho hdd ?_)
  refine wpAny_bind (wpAny_forIn_array' _ (fun rest kw s' => s' = s ∧ ∃ pre post, ps = pre ++ post ∧ kw = pre ∧ Pairs (mixKind prog w) rest (post.map fun p => (.inr p.1, p.2))) _ ?_ ?_ _ _ ⟨rfl, [], ps, rfl, rfl, hp⟩)
  · rintro e rest kw s' ⟨rfl, pre, post, rfl, rfl, hp'⟩
    cases post with
    | nil => cases hp'
    | cons p post =>
      cases hp' with
      | cons h1 h2 h3 =>
        obtain ⟨t, ht⟩ : ∃ t, e.key = .str p.1 t := by
          rcases keyIs_shape (k := .inr p.1) (v := e.key) h1 with ⟨i, t, q, _⟩ | ⟨x, t, q, ht⟩
          · exact nomatch q
          · injection q with q
            exact ⟨t, by rw [q]; exact ht⟩
        rw [ht]
        refine wpAny_pure ⟨rfl, kw ++ [p], post, by simp, ?_, h3⟩
        rw [h2]
  · rintro kw s' ⟨rfl, pre, post, rfl, rfl, hp'⟩
    cases post with
    | nil => refine wpAny_pure (by rw [List.append_nil] at h; exact h)
    | cons p post => cases hp'
theorem wpAny_merged1 {f : Value} {t : Sem Value} {Q : Addr → Shared → Prop}
    (h : wpAny (model prog w) A t (fun v s1 => ∃ o, v = .ref o ∧ (∀ E' : Value → Shared → Prop, ∀ Q' : Unit → Shared → Prop, (∀ s2, Q s.heap.objs.size s2 → Q' () s2) → wpAny (model prog w) A (mergeMapping s.heap.objs.size (.ref o) true) Q' E' s1)) E { s with heap := s.heap.push { cls := .type "dict", data := .dict #[] } }) :
    wpAny (model prog w) A (mergedKeywords f [(none, t)]) Q E s := by
  unfold mergedKeywords
  refine wpAny_bind (wpAny_alloc ?_)
  refine wpAny_bind (wpAny_holding ?_)
  dsimp only
  rw [List.forIn_cons]
  refine wpAny_bind (wpAny_bind ?_)
  dsimp only
  rw [if_pos (show ([] : List (Str × Sem Value)).isEmpty = true from rfl)]
  refine wpAny_bind (wpAny_pure ?_)
  refine wpAny_bind (wpAny_mono h (fun v s1 z => ?_) fun _ _ e => e)
  obtain ⟨o, rfl, z⟩ := z
  refine wpAny_bind (wpAny_onRaise (wpAny_holding (wpAny_tryCatch (wpAny_onRaise (z _ _ fun s2 q => ?_)))))
  refine wpAny_pure ?_
  dsimp only
  rw [List.forIn_nil]
  refine wpAny_pure ?_
  rw [if_pos (show ([] : List (Str × Sem Value)).isEmpty = true from rfl)]
  exact wpAny_pure (wpAny_pure q)
theorem wpAny_evalArgsD {f : Value} {t : Sem Value} {Q : Args → Shared → Prop}
    (h : wpAny (model prog w) A t (fun v s1 => ∃ o, v = .ref o ∧ ∃ R : Shared → Prop, (∀ s2, R s2 → ∃ ps : List (Str × Value), s2.heap.DictOf (mixKind prog w) s.heap.objs.size (ps.map fun p => (.inr p.1, p.2)) ∧ Q ⟨[], ps⟩ s2) ∧
      (∀ E' : Value → Shared → Prop, ∀ Q' : Unit → Shared → Prop, (∀ s2, R s2 → Q' () s2) → wpAny (model prog w) A (mergeMapping s.heap.objs.size (.ref o) true) Q' E' s1)) E { s with heap := s.heap.push { cls := .type "dict", data := .dict #[] } }) :
    wpAny (model prog w) A (evalArgs f true [] [(none, t)]) Q E s := by
  unfold evalArgs
  refine wpAny_bind (wpAny_bind (wpAny_pure (wpAny_pure ?_)))
  dsimp only
  refine wpAny_bind (wpAny_pure ?_)
  refine wpAny_holding ?_
  rw [if_neg (by simp)]
  refine wpAny_bind (wpAny_merged1 (Q := fun a s2 => a = s.heap.objs.size ∧ ∃ ps : List (Str × Value), s2.heap.DictOf (mixKind prog w) s.heap.objs.size (ps.map fun p => (.inr p.1, p.2)) ∧ Q ⟨[], ps⟩ s2) (wpAny_mono h (fun v s1 z => ?_) fun _ _ e => e) |> fun q => wpAny_mono q (fun a s2 z => ?_) fun _ _ e => e)
  · obtain ⟨rfl, ps, hd, q⟩ := z
    refine wpAny_bind (wpAny_pure (wpAny_bind (wpAny_holding (wpAny_keywordsIn hd (wpAny_pure q)))))
  · obtain ⟨o, rfl, R, r1, r2⟩ := z
    exact ⟨o, rfl, fun E' Q' q => r2 E' Q' fun s2 r => q s2 ⟨rfl, r1 s2 r⟩⟩
end
section
variable {M : Model} {A : Around} {E : Value → Shared → Prop} {s : Shared} {f : Value} {first : List Value} {pos : Pos} {Q : Value → Shared → Prop} {P : Heap → Prop} {args : List (Bool × Sem Value)} {kws : List (Option Str × Sem Value)}
theorem callWith_starred (hst : (args.any (·.1) || kws.any (·.1.isNone)) = true)
    (hk : ∀ h, P h → ∃ k, (k = Keeper.frame ∨ k = Keeper.machine ∨ k = Keeper.boundFrame) ∧ PySem.W.Looks M h (keeperOf f) k)
    (h : wpAny M A (evalArgs f true args kws) (fun a s₁ => P s₁.heap ∧ wpAny M A (call f (first ++ a.pos) a.kw) Q E s₁) E s) : wpAny M A (callWith pos f first args kws) Q E s := by
  unfold callWith
  refine wpAny_bind (wpAny_holding (wpAny_mono h (fun a s₁ h₁ => wpAny_bind (wpAny_standAt ?_)) fun _ _ x => x))
  obtain ⟨k, hk', L⟩ := hk _ h₁.1
  simp only [hst]
  refine wpAny_bind (L.here ?_)
  have tail : ∀ {t : Sem Value}, wpAny M A t Q E s₁ → wpAny M A (t >>= fun r => holding [r] point >>= fun _ => pure r) Q E s₁ :=
    fun ht => wpAny_bind (wpAny_mono ht (fun r s₂ hr => wpAny_bind (wpAny_holding (wpAny_point (wpAny_pure hr)))) fun _ _ x => x)
  have marked (mk : Value) : wpAny M A (callMarked mk f (first ++ a.pos) a.kw) Q E s₁ := by unfold callMarked; exact Calls.wpAny_keep h₁.2
  rcases hk' with rfl | rfl | rfl <;> dsimp only <;> first | exact tail (marked _) | exact tail (wpAny_operating h₁.2)
end
theorem kv_strs : ∀ {ks : List Str} {vs : List V} {ws : List (Key × Value)}, vs.length = ks.length → KV ((ks.map (Sum.inr : Str → Key)).zip vs) ws → ∃ us, ws = (ks.zip us).map (fun p => ((Sum.inr p.1 : Key), p.2)) ∧ Vals vs us
  | [], [], _, _, r => by cases r; exact ⟨[], rfl, .nil⟩
  | [], _ :: _, _, l, _ => nomatch l
  | _ :: _, [], _, l, _ => nomatch l
  | k :: ks, v :: vs, _, l, r => by
    cases r with
    | @cons a b as bs h t =>
      obtain ⟨us, rfl, q⟩ := kv_strs (Nat.succ.inj l) t
      obtain ⟨b1, b2⟩ := b
      obtain ⟨h1, h2⟩ := h
      cases h1
      exact ⟨b2 :: us, rfl, .cons h2 q⟩
section
variable {X : Cx} {σ : L2.St} {H : Hp} {Q : VK} {k j : Nat} {E : L2.St → XK} {x : Str} {sp : Sp} {p pos kpos : Pos} {e : Expr} {C : Addr} {ks : List Str} {gV : List V → List V → List V}
/-- C(**d), d a dict with the keys ks -/
theorem we_makeD (B : Body X k E) (gn : Gn X x) (f : GKk X.prog X.w X.K X.mg X.base j x C sp 0 ks gV) (hj : j + 1 ≤ k) (nd : ks.Nodup)
    (h : ∀ q, H q = none → WE X e σ (upd H q (.dK [])) fun v H1 => ∃ o zs, v = .ref o ∧ H1 q = some (.dK []) ∧ H1 o = some (.dK ((ks.map (Sum.inr : Str → Key)).zip zs)) ∧ q ≠ o ∧ zs.length = ks.length ∧ ks.length ≤ 1000 ∧
      ∀ a dx, upd H1 q (.dK ((ks.map (Sum.inr : Str → Key)).zip zs)) a = none → upd H1 q (.dK ((ks.map (Sum.inr : Str → Key)).zip zs)) dx = none → dx ≠ a → sp (gV [.ref a] zs) (upd (upd (upd H1 q (.dK ((ks.map (Sum.inr : Str → Key)).zip zs))) dx (.own a)) a (.ins C dx [])) (fun v H3 => v = .non ∧ Q (.ref a) H3) (E σ)) :
    WE X (.Call (.Name x p) [] [⟨none, e, kpos⟩] pos) σ H Q := by
  obtain ⟨f, fd, ps, g, hm, M, F, hb⟩ := f
  intro pins s I
  refine wpAny_Call_Name_kw (ld_glob I gn.gl hm ?_ gn.d1)
  refine callWith_starred (P := fun h => X.K.In h) rfl (PySem.W.keeps_K M.kp) ?_
  have hn := I.hok.fresh (Nat.le_refl s.heap.objs.size)
  have I1 := I.laid (a := s.heap.objs.size) (o := .dK []) (h' := s.heap.push { cls := .type "dict", data := .dict #[] }) (t' := s.toks) (fun _ _ q => Heap.get?_push_of_some _ q) (Nat.le_refl _) (dk_empty s.heap I.big)
  refine wpAny_evalArgsD (wpAny_bind (wpAny_mono (h _ hn _ _ I1) (fun v s2 z => ?_) fun _ _ e => e))
  obtain ⟨v', H1, I2, rv, o, zs, rfl, hq, ho, ne, lz, l0, q⟩ := z
  cases rv
  refine wpAny_bind (wpAny_standAt ?_)
  refine wpAny_pure ?_
  refine Exists.intro o (And.intro rfl (Exists.intro (fun s3 => Inv X pins σ (upd H1 s.heap.objs.size (.dK ((ks.map (Sum.inr : Str → Key)).zip zs))) s3) (And.intro (fun s3 I3 => ?_) (fun E' Q' q' => ?_))))
  · obtain ⟨_, _, vs, r, dd⟩ := dk_of I3.hok upd_same
    obtain ⟨us, rfl, ru⟩ := kv_strs lz r
    refine ⟨_, dd, I3.kIn, ?_⟩
    exact kmake_at (us := []) (vs := []) M F (B.room.mono hj) hb (B.at σ) I3 .nil ru rfl lz q
  · have nk : ((ks.map (Sum.inr : Str → Key)).zip zs).map (·.1) = ks.map (Sum.inr : Str → Key) := List.map_fst_zip (by rw [List.length_map, lz]; exact Nat.le_refl _)
    have n1 : (ks.map (Sum.inr : Str → Key)).Nodup := List.Pairwise.map _ (fun a b h e => h (Sum.inr.inj e)) nd
    refine d_merge I2 hq ho ne (fun _ => ?_) ?_ fun s' I3 => q' s' ?_
    · rw [List.nil_append, nk]; exact n1
    · rw [List.length_zip, List.length_map, lz, sizeLine_eq, List.length_nil]; omega
    · rw [mergeK_zip n1 (by rw [List.length_map, lz])] at I3
      exact I3
end
end Rs

namespace Rs
open PySem PySem.Spec PyProof.Rows L2 He
/-! ### {**a, **b} and {**a, k: v} -/
section
variable {prog : Program} {w : World} {A : Around} {s : Shared} {E : Value → Shared → Prop}
/-- m is merged into d, whatever follows -/
def Merges (prog : Program) (w : World) (A : Around) (d : Addr) (v : Value) (R : Shared → Prop) (s : Shared) : Prop :=
  ∀ (E' : Value → Shared → Prop) (Q' : Unit → Shared → Prop), (∀ s2, R s2 → Q' () s2) → wpAny (model prog w) A (mergeMapping d v false) Q' E' s
theorem wpAny_dispMM {va vb : Sem Value} {Q : Value → Shared → Prop}
    (h : wpAny (model prog w) A va (fun v s1 => Merges prog w A s.heap.objs.size v (fun s2 => wpAny (model prog w) A vb (fun v2 s3 => Merges prog w A s.heap.objs.size v2 (fun s4 => Q (.ref s.heap.objs.size) s4) s3) E s2) s1) E { s with heap := s.heap.push { cls := .type "dict", data := .dict #[] } }) :
    wpAny (model prog w) A (dictDisplay [(none, va), (none, vb)]) Q E s := by
  unfold dictDisplay
  try dsimp only
  rw [List.forIn_cons]
  refine wpAny_bind (wpAny_bind ?_)
  try dsimp only
  rw [if_pos (show ([] : List (Sem Value × Sem Value)).isEmpty = true from rfl)]
  refine wpAny_bind (wpAny_pure ?_)
  try dsimp only
  refine wpAny_bind (wpAny_alloc ?_)
  refine wpAny_bind (wpAny_holding (wpAny_mono h (fun v s1 z => ?_) fun _ _ e => e))
  refine wpAny_bind (wpAny_onRaise (wpAny_tryCatch (wpAny_onRaise (wpAny_holding (z _ _ fun s2 z => ?_)))))
  refine wpAny_pure ?_
  try dsimp only
  rw [List.forIn_cons]
  refine wpAny_bind ?_
  try dsimp only
  rw [if_pos (show ([] : List (Sem Value × Sem Value)).isEmpty = true from rfl)]
  refine wpAny_bind (wpAny_pure ?_)
  try dsimp only
  refine wpAny_bind (wpAny_pure ?_)
  refine wpAny_bind (wpAny_holding (wpAny_mono z (fun v s3 z => ?_) fun _ _ e => e))
  refine wpAny_bind (wpAny_onRaise (wpAny_tryCatch (wpAny_onRaise (wpAny_holding (z _ _ fun s4 z => ?_)))))
  refine wpAny_pure ?_
  try dsimp only
  rw [List.forIn_nil]
  refine wpAny_pure ?_
  rw [if_pos (show ([] : List (Sem Value × Sem Value)).isEmpty = true from rfl)]
  exact wpAny_bind (wpAny_pure (wpAny_pure z))
theorem wpAny_dispMK {va k vb : Sem Value} {Q : Value → Shared → Prop}
    (h : wpAny (model prog w) A va (fun v s1 => Merges prog w A s.heap.objs.size v (fun s2 => wpAny (model prog w) A (subDict [(k, vb)]) (fun d2 s3 => Merges prog w A s.heap.objs.size (.ref d2) (fun s4 => Q (.ref s.heap.objs.size) s4) s3) E s2) s1) E { s with heap := s.heap.push { cls := .type "dict", data := .dict #[] } }) :
    wpAny (model prog w) A (dictDisplay [(none, va), (some k, vb)]) Q E s := by
  unfold dictDisplay
  try dsimp only
  rw [List.forIn_cons]
  refine wpAny_bind (wpAny_bind ?_)
  try dsimp only
  rw [if_pos (show ([] : List (Sem Value × Sem Value)).isEmpty = true from rfl)]
  refine wpAny_bind (wpAny_pure ?_)
  try dsimp only
  refine wpAny_bind (wpAny_alloc ?_)
  refine wpAny_bind (wpAny_holding (wpAny_mono h (fun v s1 z => ?_) fun _ _ e => e))
  refine wpAny_bind (wpAny_onRaise (wpAny_tryCatch (wpAny_onRaise (wpAny_holding (z _ _ fun s2 z => ?_)))))
  refine wpAny_pure ?_
  try dsimp only
  rw [List.forIn_cons]
  refine wpAny_bind ?_
  try dsimp only
  rw [if_neg (by simp)]
  refine wpAny_pure ?_
  try dsimp only
  rw [List.forIn_nil]
  refine wpAny_pure ?_
  rw [if_neg (by simp)]
  try dsimp only
  refine wpAny_bind (wpAny_bind (wpAny_holding (wpAny_mono z (fun d s3 z => ?_) fun _ _ e => e)))
  refine wpAny_bind (wpAny_onRaise (wpAny_holding (z _ _ fun s4 z => ?_)))
  exact wpAny_pure (wpAny_pure z)
end
section
variable {X : Cx} {σ : L2.St} {H : Hp} {Q : VK} {e1 e2 ek : Expr} {pos : Pos}
theorem merges_inv {pins : List (Addr × Obj)} {s : Shared} {d o : Addr} {kvs more : List (Key × V)} (I : Inv X pins σ H s) (ed : H d = some (.dK kvs)) (eo : H o = some (.dK more)) (ne : d ≠ o) (hz : kvs.length + more.length ≤ sizeLine) {R : Shared → Prop}
    (h : ∀ s2, Inv X pins σ (upd H d (.dK (mergeK kvs more))) s2 → R s2) : Merges X.prog X.w X.A d (.ref o) R s :=
  fun E' Q' q => d_merge I ed eo ne (fun e => nomatch e) hz fun s' I' => q s' (h s' I')
/-- {**e1, **e2} -/
theorem we_dictMM (h : ∀ q, H q = none → WE X e1 σ (upd H q (.dK [])) fun v H1 => ∃ o m1, v = .ref o ∧ H1 q = some (.dK []) ∧ H1 o = some (.dK m1) ∧ q ≠ o ∧ m1.length ≤ 1000 ∧
      WE X e2 σ (upd H1 q (.dK (mergeK [] m1))) fun v2 H2 => ∃ o2 m2, v2 = .ref o2 ∧ H2 q = some (.dK (mergeK [] m1)) ∧ H2 o2 = some (.dK m2) ∧ q ≠ o2 ∧ m2.length ≤ 1000 ∧ Q (.ref q) (upd H2 q (.dK (mergeK (mergeK [] m1) m2)))) :
    WE X (.Dict [none, none] [e1, e2] pos) σ H Q := by
  intro pins s I
  have hn := I.hok.fresh (Nat.le_refl s.heap.objs.size)
  have I1 := I.laid (a := s.heap.objs.size) (o := .dK []) (h' := s.heap.push { cls := .type "dict", data := .dict #[] }) (t' := s.toks) (fun _ _ q => Heap.get?_push_of_some _ q) (Nat.le_refl _) (dk_empty s.heap I.big)
  rw [arm_eval_Dict]
  refine wpAny_bind (wpAny_standAt ?_)
  refine wpAny_dispMM (wpAny_bind (wpAny_mono (h _ hn _ _ I1) (fun v s2 z => ?_) fun _ _ e => e))
  obtain ⟨v', H1, I2, rv, o, m1, rfl, hq, ho, ne, l1, q⟩ := z
  cases rv
  refine wpAny_bind (wpAny_standAt (wpAny_pure (merges_inv I2 hq ho ne (by rw [sizeLine_eq, List.length_nil]; omega) fun s3 I3 => ?_)))
  refine wpAny_bind (wpAny_mono (q _ _ I3) (fun v s2 z => ?_) fun _ _ e => e)
  obtain ⟨v', H2, I4, rv, o2, m2, rfl, hq2, ho2, ne2, l2, q⟩ := z
  cases rv
  have hm := length_mergeK m1 []
  rw [List.length_nil] at hm
  exact wpAny_bind (wpAny_standAt (wpAny_pure (merges_inv I4 hq2 ho2 ne2 (by rw [sizeLine_eq]; omega) fun s5 I5 => ⟨.ref _, _, I5, rfl, q⟩)))
/-- {**e1, ek: e2} -/
theorem we_dictMK (h : ∀ q, H q = none → WE X e1 σ (upd H q (.dK [])) fun v H1 => ∃ o m1, v = .ref o ∧ H1 q = some (.dK []) ∧ H1 o = some (.dK m1) ∧ q ≠ o ∧ m1.length ≤ 1000 ∧
      ∀ p, p ≠ q → upd H1 q (.dK (mergeK [] m1)) p = none → WE X ek σ (upd (upd H1 q (.dK (mergeK [] m1))) p (.dK [])) fun y H2 => WE X e2 σ H2 fun v H3 => ∃ x, y = .str x ∧ H3 p = some (.dK []) ∧ H3 q = some (.dK (mergeK [] m1)) ∧
        Q (.ref q) (upd (upd H3 p (.dK [(.inr x, v)])) q (.dK (putK (mergeK [] m1) (.inr x) v)))) :
    WE X (.Dict [none, some ek] [e1, e2] pos) σ H Q := by
  intro pins s I
  have hn := I.hok.fresh (Nat.le_refl s.heap.objs.size)
  have I1 := I.laid (a := s.heap.objs.size) (o := .dK []) (h' := s.heap.push { cls := .type "dict", data := .dict #[] }) (t' := s.toks) (fun _ _ q => Heap.get?_push_of_some _ q) (Nat.le_refl _) (dk_empty s.heap I.big)
  rw [arm_eval_Dict]
  refine wpAny_bind (wpAny_standAt ?_)
  refine wpAny_dispMK (wpAny_bind (wpAny_mono (h _ hn _ _ I1) (fun v s2 z => ?_) fun _ _ e => e))
  obtain ⟨v', H1, I2, rv, o, m1, rfl, hq, ho, ne, l1, q⟩ := z
  cases rv
  refine wpAny_bind (wpAny_standAt (wpAny_pure (merges_inv I2 hq ho ne (by rw [sizeLine_eq, List.length_nil]; omega) fun s3 I3 => ?_)))
  have hn3 := I3.hok.fresh (Nat.le_refl s3.heap.objs.size)
  have np : s3.heap.objs.size ≠ s.heap.objs.size := fun e => by rw [e, upd_same] at hn3; cases hn3
  have I4 := I3.laid (a := s3.heap.objs.size) (o := .dK []) (h' := s3.heap.push { cls := .type "dict", data := .dict #[] }) (t' := s3.toks) (fun _ _ q => Heap.get?_push_of_some _ q) (Nat.le_refl _) (dk_empty s3.heap I3.big)
  obtain ⟨trs, pp, pq⟩ := pps_wp (X := X) (σ := σ) pos [some ek] [e2] rfl rfl
  have hw : WP X [some ek] [e2] σ (upd (upd H1 s.heap.objs.size (.dK (mergeK [] m1))) s3.heap.objs.size (.dK [])) (fun ps H3 => ∃ x v, ps = [(V.str x, v)] ∧ H3 s3.heap.objs.size = some (.dK []) ∧ H3 s.heap.objs.size = some (.dK (mergeK [] m1)) ∧
        Q (.ref s.heap.objs.size) (upd (upd H3 s3.heap.objs.size (.dK [(.inr x, v)])) s.heap.objs.size (.dK (putK (mergeK [] m1) (.inr x) v)))) :=
    wp_cons (we_mono (q _ np hn3) fun y H2 z => we_mono z fun v H3 z2 => wp_nil (by
      obtain ⟨x, e, z3⟩ := z2
      exact ⟨x, v, by rw [e], z3⟩))
  refine wpAny_subDict (knd := mixKind X.prog X.w) (show 1 ≤ 15 by decide) (wpAny_mono (pp.run _ _ _ _ _ I4 (pq _ _ hw)) (fun vs s5 z => ?_) fun _ _ e => e)
  obtain ⟨ps, H3, I5, rel, x, v, rfl, hp, hq3, qq⟩ := z
  obtain ⟨rs, c, rk⟩ := carries_of (P := X.prog) (w := X.w) (kvs := [((.inr x : Key), v)]) rel
  obtain ⟨z, hd, vs0, r0, dd⟩ := dk_of I5.hok hp
  cases r0
  refine ⟨rs, c, dd, fun h' dd' hs => ?_⟩
  have he : ∃ q, h'.get? s3.heap.objs.size = some q := let ⟨q, _, _, hq, _⟩ := dd'; ⟨q, hq⟩
  have I6 := d_write (t' := s5.toks + vs.length) I5 (by rw [hp]; exact True.intro) hs he (dk_new (kvs := [((.inr x : Key), v)]) (by rw [sizeLine_eq]; show 1 ≤ _; omega) hd (rk.merge .nil) dd')
  have hm := length_mergeK m1 []
  rw [List.length_nil] at hm
  exact merges_inv I6 ((upd_ne np.symm).trans hq3) upd_same np.symm (by rw [sizeLine_eq, List.length_singleton]; omega) fun s7 I7 => ⟨.ref _, _, I7, rfl, qq⟩
end
end Rs

namespace Rs
open PySem PySem.Spec PyProof.Rows L2 He
/-! ### a def with **kw, called with keywords -/
theorem upd_two {H : Hp} {a : Addr} {o o' : HO} : upd (upd H a o) a o' = upd H a o' := by
  funext b
  by_cases e : b = a
  · subst e; rw [upd_same, upd_same]
  · rw [upd_ne e, upd_ne e, upd_ne e]

section
variable {prog : Program} {w : World} {A : Around} {s : Shared} {E : Value → Shared → Prop}
theorem wpAny_nsSet_pairs {d : Addr} {kvs : List (Key × Value)} {n : Str} {v : Value} {Q : Unit → Shared → Prop} (hm : s.heap.DictOf (mixKind prog w) d kvs)
    (h : ∀ h', h'.DictOf (mixKind prog w) d (stored kvs (.inr n) v) → Heap.SameBut d s.heap h' → Q () { s with heap := h', toks := s.toks + 1 }) :
    wpAny (model prog w) A (nsSet d n v) Q E s := by
  obtain ⟨o, es, ep, ho, hc, hd, hk, hp, hn⟩ := hm
  have hidx : (es.findIdx? (·.key.isStr n)) = kvs.findIdx? fun kv => decide (kv.1 = .inr n) := by
    rw [← hp.findIdx (.inr n)]
    obtain ⟨l⟩ := es
    simp only [List.findIdx?_toArray]
    congr 1
    funext e
    cases q : e.key <;> simp [Value.isStr, mixKind, keyIs, Value.isStrOf]
  have e2 : es.any (·.refKey) = false := by
    rw [Array.any_eq_false']
    intro e he
    obtain ⟨k, hkey, _⟩ := hk e he
    rcases keyIs_shape (k := k) (v := e.key) hkey with ⟨i, t, _, q⟩ | ⟨x, t, _, q⟩ <;> simp [DictEntry.refKey, q]
  have c : aRefKeyMayBeTheName n es = false := by
    rw [aRefKeyMayBeTheName_at, e2, Bool.and_false]
  unfold nsSet
  refine wpAny_bind (wpAny_bind (wpAny_askSetting (wpAny_pure (wpAny_bind (wpAny_mkText (wpAny_bind (wpAny_loadPart ho ?_)))))))
  rw [hd]
  dsimp only
  rw [c]
  refine wpAny_updatePart ho (h _ ?_ (Heap.SameBut.update ..))
  obtain ⟨oc, od, odt, osl⟩ := o
  subst hd
  have hkey : (mixKind prog w).is (.inr n) (.str n s.toks) = true := keyIs_str n s.toks
  cases hi : es.findIdx? (·.key.isStr n) with
  | some i =>
    have e : ∀ hh, Obj.putName n hh (.str n s.toks) v ⟨oc, od, .dict es ep, osl⟩ = (⟨oc, od, .dict es ep, osl⟩ : Obj).mapDict (·.modify i fun e => { e with val := v }) := by
      intro hh; simp only [Obj.putName_eq, Obj.putNameByArray, hi]; rfl
    refine ⟨_, _, ep, Heap.get?_update_self _ ho (by first | (rw [e]; exact Obj.isFreed_of_dict (Obj.data_mapDict rfl _))), ?_, ?_, hk.modify i v, ?_, ?_⟩
    · rw [e]; exact hc.mapDict _
    · rw [e]; exact Obj.data_mapDict rfl _
    · rw [stored, if_pos (any_of_findIdx_some (hidx ▸ hi))]
      have hl : (es.toList.findIdx? fun e => (mixKind prog w).is (.inr n) e.key) = some i := by
        rw [hp.findIdx (.inr n), ← hidx]; exact hi
      have := hp.modify hn hl v
      obtain ⟨l⟩ := es
      simpa using this
    · rw [stored, if_pos (any_of_findIdx_some (hidx ▸ hi)), keys_map_store]; exact hn
  | none =>
    have hnot : (Sum.inr n : Key) ∉ kvs.map (·.1) := not_mem_of_findIdx_none (hidx ▸ hi)
    have hany : ¬ (kvs.any fun kv => decide (kv.1 = .inr n)) = true := by
      rw [List.any_eq_true]; rintro ⟨kv, hkv, he⟩
      exact hnot (List.mem_map.mpr ⟨kv, hkv, of_decide_eq_true he⟩)
    have e : ∀ hh, Obj.putName n hh (.str n s.toks) v ⟨oc, od, .dict es ep, osl⟩ = (⟨oc, od, .dict es ep, osl⟩ : Obj).mapDictKeys (·.push ⟨hh, .str n s.toks, v⟩) := by
      intro hh; simp only [Obj.putName_eq, Obj.putNameByArray, hi]; rfl
    refine ⟨_, _, ep + 1, Heap.get?_update_self _ ho (by first | (rw [e]; exact Obj.isFreed_of_dict (Obj.data_mapDictKeys rfl _))), ?_, ?_, hk.push hkey v, ?_, ?_⟩
    · rw [e]; exact hc.mapDictKeys _
    · rw [e]; exact Obj.data_mapDictKeys rfl _
    · rw [stored, if_neg hany]
      have := hp.append hkey ((mixKind prog w).hash (.inr n)) v
      obtain ⟨l⟩ := es
      simpa using this
    · rw [stored, if_neg hany, List.map_append, List.nodup_append]
      refine ⟨hn, by simp, ?_⟩
      intro a ha b hb
      simp only [List.map_cons, List.map_nil, List.mem_singleton] at hb
      subst hb
      exact fun e => hnot (e ▸ ha)
end
section
variable {X : Cx} {σ : L2.St}
theorem ns_fill {pins : List (Addr × Obj)} {A' : Around} {Ex : Value → Shared → Prop} {Q : PUnit → Shared → Prop} {p : Addr} : ∀ (ks : List Str) (zs : List V) (ws : List Value) (kvs : List (Key × V)) (s : Shared) (H : Hp), Inv X pins σ H s → H p = some (.dK kvs) → Vals zs ws → zs.length = ks.length → kvs.length + ks.length ≤ 1000 →
    (∀ s', Inv X pins σ (upd H p (.dK (mergeK kvs ((ks.map (Sum.inr : Str → Key)).zip zs)))) s' → Heap.SameBut p s.heap s'.heap → s'.os = s.os → (∃ q, s'.heap.get? p = some q) → Q ⟨⟩ s') →
    wpAny (model X.prog X.w) A' (forIn (ks.zip ws) PUnit.unit fun x _ => (nsSet p x.1 x.2 >>= fun _ => pure (ForInStep.yield PUnit.unit))) Q Ex s
  | [], [], _, kvs, s, H, I, hp, r, _, _, h => by
    cases r
    show wpAny _ _ (forIn [] _ _) _ _ _
    rw [List.forIn_nil]
    obtain ⟨_, _, vs, _, dd⟩ := dk_of I.hok hp
    refine wpAny_pure (h s ?_ (Heap.SameBut.refl _ _) rfl (let ⟨o, _, _, q, _⟩ := dd; ⟨o, q⟩))
    show Inv X pins σ (upd H p (.dK kvs)) s
    rw [upd_self hp]
    exact I
  | [], _ :: _, _, _, _, _, _, _, _, l, _, _ => nomatch l
  | _ :: _, [], _, _, _, _, _, _, _, l, _, _ => nomatch l
  | k :: ks, z :: zs, _, kvs, s, H, I, hp, r, l, hz, h => by
    cases r with
    | @cons _ u _ us r0 r1 =>
      show wpAny _ _ (forIn ((k, u) :: ks.zip us) _ _) _ _ _
      rw [List.forIn_cons]
      obtain ⟨_, hd, vs, rv, dd⟩ := dk_of I.hok hp
      refine wpAny_bind (wpAny_bind (wpAny_nsSet_pairs dd fun h' dd' hs => wpAny_pure ?_))
      have hl : (putK kvs (.inr k) z).length ≤ kvs.length + 1 := length_putK kvs _ z
      have I2 : Inv X pins σ (upd H p (.dK (putK kvs (.inr k) z))) { s with heap := h', toks := s.toks + 1 } :=
        d_write I (by rw [hp]; exact True.intro) hs (let ⟨q, _, _, hq, _⟩ := dd'; ⟨q, hq⟩) (dk_new (by rw [sizeLine_eq]; rw [List.length_cons] at hz; omega) hd (rv.put (.inr k) r0) dd')
      refine ns_fill ks zs us _ _ _ I2 upd_same r1 (Nat.succ.inj l) (by rw [List.length_cons] at hz; omega) fun s' I3 hs3 ho hq => h s' ?_ (hs.trans hs3) ho hq
      rw [upd_two] at I3
      exact I3
end
/-- a def called with the keywords ks, which go into its last parameter -/
def FnW (P : Program) (w : World) (K : PySem.W.Frag) (mg : Str → Option Value) (base : Heap) (k n : Nat) (f : Addr) (ks : List Str) (sp : Sp) : Prop :=
  ∀ (X : Cx) (pins : List (Addr × Obj)) (σ : L2.St) (H : Hp) (s : Shared) (us : List Value) (vs : List V) (ws : List Value) (zs : List V) (Q : VK) (E : XK), X.prog = P → X.w = w → X.K = K → X.mg = mg → X.base = base → Room k X.A → PassesAt (RX X.prog X.w) X σ E →
    Inv X pins σ H s → Vals vs us → vs.length = n → Vals zs ws → zs.length = ks.length → (∀ p, H p = none → sp (vs ++ [.ref p]) (upd H p (.dK ((ks.map (Sum.inr : Str → Key)).zip zs))) Q E) →
    wpAny (model X.prog X.w) X.A (call (.ref f) us (ks.zip ws)) (EP X pins σ Q) X.xe s
section
variable {P : Program} {w : World} {K : PySem.W.Frag} {mg : Str → Option Value} {base : Heap} {N ps : List Str} {pd name qual : Str} {pa : Arguments} {body : List Stmt} {sc : Scope} {f : Addr} {fd : FuncData} {k : Nat} {sp : Sp} {ks : List Str}
theorem def_kwP (F : FunD K name qual pa body sc [] [] f fd) (S : FnScope N (ps ++ [pd]) sc) (nd : ks.Nodup) (hz : ks.length ≤ 1000)
    (h : ∀ (kV doc pm : Value) (an : Option Addr) (cdv ct : Value) (us ws : List Value), us.length = ps.length → ws.length = ks.length →
      bindArgs (PySem.W.fnOf name qual pa body sc .none kV doc pm an cdv ct) ⟨us, ks.zip ws⟩ = ((alloc ({ cls := .type "dict", data := .dict #[] } : Obj) : Sem Addr) >>= fun d =>
        forIn (ks.zip ws) PUnit.unit (fun x _ => (nsSet d x.1 x.2 >>= fun _ => pure (ForInStep.yield PUnit.unit))) >>= fun _ => pure (ps.zip us ++ [(pd, Value.ref d)])))
    (hb : ∀ (X : Cx), X.prog = P → X.w = w → X.K = K → X.mg = mg → X.base = base → X.N = N → X.env.scope = sc → (∀ x, X.fn x = true) → N.Nodup → ∀ (H : Hp) (vs : List V) (Q : VK) (E : XK), Body X k (fun _ => E) → sp vs H Q E → WB X body { nx := fun _ H' => Q .non H', rt := Q } (start N vs) H) :
    FnW P w K mg base (k + 1) ps.length f ks sp := by
  intro X pins σ H s us vs ws zs Q E eP ew eK em eb hr hx I r ln rz lz hq
  subst eP ew eK em eb
  obtain ⟨oc, od, dV, kV, doc, pm, an, cdv, ct, osl, rfl, lk, hcd, hD, hK⟩ := F.ex
  rcases hD with ⟨_, rfl⟩ | ⟨e, _⟩
  case inr => exact absurd rfl e
  have hn : H s.heap.objs.size = Option.none := I.hok.fresh (Nat.le_refl _)
  have n1 : (ks.map (Sum.inr : Str → Key)).Nodup := List.Pairwise.map _ (fun a b h e => h (Sum.inr.inj e)) nd
  refine wpAny_call (codeAny_mono (StX.run_bnd (N := N) (ps := ps ++ [pd]) (k := k) (CX := RX X.prog X.w) (args := ⟨us, ks.zip ws⟩) (Q := Q) (E := E) (G := fun xs H2 => ∃ p, H p = Option.none ∧ xs = vs ++ [V.ref p] ∧ H2 = upd H p (.dK ((ks.map (Sum.inr : Str → Key)).zip zs))) lk hcd S hr I.env0 (fun A' Ex Q' hk => ?_) fun s2 H2 xs g hr' => ?_) (out_at hx I))
  · rw [h _ _ _ _ _ _ us ws (r.length.symm.trans ln) (rz.length.symm.trans lz)]
    refine wpAny_bind (wpAny_alloc ?_)
    have I1 := I.laid (a := s.heap.objs.size) (o := .dK []) (h' := s.heap.push { cls := .type "dict", data := .dict #[] }) (t' := s.toks) (fun _ _ q => Heap.get?_push_of_some _ q) (Nat.le_refl _) (dk_empty s.heap I.big)
    refine wpAny_bind (ns_fill ks zs ws [] _ _ I1 upd_same rz lz (by rw [List.length_nil]; omega) fun s2 I2 hs ho he => wpAny_pure ?_)
    rw [upd_two, mergeK_zip n1 (by rw [List.length_map, lz])] at I2
    have kp : ∀ b o, s.heap.get? b = some o → s2.heap.get? b = some o := fun b o q => (hs.2 b (Nat.ne_of_lt (Heap.lt_size q))).trans (Heap.get?_push_of_some _ q)
    have un : Un (frs X.stack) [] H (upd H s.heap.objs.size (.dK ((ks.map (Sum.inr : Str → Key)).zip zs))) s.heap s2.heap := Un.laid kp (Nat.le_refl _) hn
    have z := hk s2 _ (vs ++ [V.ref s.heap.objs.size]) (us ++ [Value.ref s.heap.objs.size]) I2.env0 un ho (fun e s' => cxUpN X.stack s H s2 _ E e s' un kp ho) (r.append (.cons rfl .nil)) (by rw [List.length_append, List.length_append, ln]; rfl) ⟨_, hn, rfl, rfl⟩
    rw [List.zip_append (ln.symm.trans r.length)] at z
    exact z
  · obtain ⟨p, hp, rfl, rfl⟩ := g
    exact ⟨_, pbS, hb (bx X.prog X.w X.K X.mg X.base N qual sc f cdv X.A X.stack s2 _ E) rfl rfl rfl rfl rfl rfl rfl (fun _ => rfl) S.nd _ _ Q E (body_of hr') (hq p hp)⟩
end
/-- a method called with keywords alone -/
def GMw (P : Program) (w : World) (K : PySem.W.Frag) (mg : Str → Option Value) (base : Heap) (k : Nat) (C : Addr) (m : Str) (ks : List Str) (sp : Sp) : Prop :=
  ∃ f, Meth K C m f ∧ FnW P w K mg base k 1 f ks sp
section
variable {X : Cx} {σ : L2.St} {H : Hp} {Q : VK} {k j : Nat} {E : L2.St → XK} {m : Str} {sp : Sp} {pos apos : Pos} {o : Expr} {C : Addr} {ks : List Str} {kws : List Keyword}
theorem we_methKW {pl : Sem Bool} (B : Body X k E) (c : Cls X.K C) (f : GMw X.prog X.w X.K X.mg X.base j C m ks sp) (hj : j ≤ k)
    (h : WE X o σ H fun y H1 => ∃ a dx fs, y = .ref a ∧ H1 a = some (.ins C dx fs) ∧ fs.lookup m = none ∧ WK X kws σ H1 fun zs H2 => zs.length = ks.length ∧ ∀ p, H2 p = none → sp [.ref a, .ref p] (upd H2 p (.dK ((ks.map (Sum.inr : Str → Key)).zip zs))) Q (E σ))
    (hall : (backToKw pos (keywordEach kws X.env)).all (·.1.isSome) = true := by rfl) (hks : (backToKw pos (keywordEach kws X.env)).filterMap (·.1) = ks := by rfl)
    (hpl : ((backTo pos (starEach [] X.env)).any (·.1) || (backToKw pos (keywordEach kws X.env)).any (·.1.isNone)) = false := by rfl)
    (ht : eval (.Call (.Attribute o m apos) [] kws pos) X.env = (do
      let it ← eval o X.env
      standAt apos.atName
      let (g, first) ← holding [it] (getMethod it m pl)
      callWith pos g first (backTo pos (starEach [] X.env)) (backToKw pos (keywordEach kws X.env))) := by rfl) : WE X (.Call (.Attribute o m apos) [] kws pos) σ H Q := by
  obtain ⟨g, hm, F⟩ := f
  intro pins s I
  refine PySem.W.methodCall_KW (pl := pl) (thn (h pins s I) fun u s1 z => ?_) ht
  obtain ⟨y, H1, I1, ry, a, dx, fs, rfl, e1, l, q⟩ := z
  cases ry
  refine getmeth_ok I1 e1 c hm l ?_
  refine PySem.W.callWith_KW0 (first := [.ref a]) (h₀ := X.base) I1.ok.mod.kin hm.kp hall ?_ hpl
  refine thn (q pos pins s1 I1) fun ws s2 z => ?_
  obtain ⟨zs, H2, I2, rz, lz, q2⟩ := z
  refine ⟨I2.kIn, ?_⟩
  rw [hks]
  exact F X pins σ H2 s2 [.ref a] [.ref a] ws zs Q (E σ) rfl rfl rfl rfl rfl (B.room.mono hj) (B.at σ) I2 (.cons rfl .nil) rfl rz lz q2
end
end Rs

namespace Rs
open PySem PySem.Spec PyProof.Rows L2 He
/-! ### o.f = v by a property's setter -/
structure PropSet (K : PySem.W.Frag) (C : Addr) (f : Str) (p g : Addr) : Prop where
  tk : PySem.W.takerIn K C f = some (some (.ref p))
  ty : PySem.W.typeIn K (.ref p) = some (.type "property")
  rc : ∃ a rest, PySem.W.recIn K p "property" = some (a :: .ref g :: rest)
def psA (K : PySem.W.Frag) (C : Addr) (m : Str) : Addr := match PySem.W.recIn K (ma K C m) "property" with
  | some (_ :: .ref g :: _) => g
  | _ => 0
def propSetB (K : PySem.W.Frag) (C : Addr) (m : Str) : Bool := decide (PySem.W.takerIn K C m = some (some (.ref (ma K C m)))) && (decide (PySem.W.typeIn K (.ref (ma K C m)) = some (.type "property")) &&
  (match PySem.W.recIn K (ma K C m) "property" with
    | some (_ :: .ref g :: _) => decide (g = psA K C m)
    | _ => false))
theorem propSet_ok {K : PySem.W.Frag} {C : Addr} {m : Str} (h : propSetB K C m = true) : PropSet K C m (ma K C m) (psA K C m) := by
  obtain ⟨h1, h⟩ := ba h
  obtain ⟨h2, h⟩ := ba h
  refine ⟨of_decide_eq_true h1, of_decide_eq_true h2, ?_⟩
  split at h
  · rename_i a g r q
    rw [← of_decide_eq_true h]
    exact ⟨a, r, q⟩
  · cases h
section
variable {X : Cx} {σ : L2.St} {H : Hp} {D : Ends} {k j : Nat} {E : L2.St → XK} {f : Str} {C p g : Addr} {sp : Sp} {value o : Expr} {pos pos' : Pos}
theorem ws_setp (B : Body X k E) (c : Cls X.K C) (hp : PropSet X.K C f p g) (F : FnR X.prog X.w X.K X.mg X.base (RX X.prog X.w) j g sp) (hj : j + 2 ≤ k)
    (h : WE X value σ H fun y H1 => WE X o σ H1 fun z H2 => ∃ a dx fs, z = .ref a ∧ H2 a = some (.ins C dx fs) ∧ sp [.ref a, y] H2 (fun _ H3 => D.nx σ H3) (E σ))
    (hs : swapsWith value (some (.Attribute o f pos')) pos.line X.env = pure false := by rfl) : WS X (.Assign [.Attribute o f pos'] value pos) D σ H := by
  intro pins s I
  refine plainObj_wpAny_Assign_Attribute (thn (h pins s I) fun u s1 z => ?_) hs
  obtain ⟨y, H1, I1, ry, z⟩ := z
  refine thn (z pins s1 I1) fun ov s2 z => ?_
  obtain ⟨x, H2, I2, rx, a, dx, fs, rfl, ea, q⟩ := z
  cases rx
  obtain ⟨mA, O, _, _, _, _⟩ := ins_get I2.hok ea
  obtain ⟨od, J, _⟩ := O.look
  obtain ⟨a1, rest, hrec⟩ := hp.rc
  have I3 := I2.tok (s2.toks + 1)
  refine PySem.W.set_plain I2.kIn J c.sa (PySem.W.osa_descr (s := { s2 with toks := s2.toks + 1 }) PySem.W.KF.slot_pset I3.kIn J c.po hp.tk hp.ty (PySem.W.prop_set (s := { s2 with toks := s2.toks + 1 }) I3.kIn hrec ?_))
  have hr := B.room.mono hj
  refine codeAny_mono (F X.A.in1.in1 X.stack { s2 with toks := s2.toks + 1 } H2 [.ref a, u] [.ref a, y] (fun _ H3 => D.nx σ H3) (E σ) ?hr ?he (.cons rfl (.cons ry .nil)) q) fun r s' hq => ?_
  case hr => exact hr.in1.in1
  case he => exact I3.env0.in1.in1
  have z := out_at (B.at σ) I3 r s' hq
  cases r with
  | error e => exact z
  | ok fl =>
    cases fl with
    | ret v =>
      obtain ⟨v', H3, I4, rv, q3⟩ := z
      exact ⟨σ, H3, I4, q3⟩
    | next => exact z.elim
    | brk => exact z.elim
    | cont => exact z.elim
end
/-! ### for x in d, d a dict that is not touched; all([..]) -/
section
variable {X : Cx} {σ : L2.St} {H : Hp} {D : Ends} {k : Nat} {E : L2.St → XK} {x : Str} {px pos p : Pos} {a : Expr} {i : Nat} {body : List Stmt} {Q : VK}
theorem for_keys {d : Addr} {o : Obj} {kvs : List (Key × V)} {g : TG} {tb : TS} (Pv : Nat → L2.St → Hp → Prop) (h0 : Pv 0 σ H) (hl : ∀ i σ H, i ≤ kvs.length → Pv i σ H → H d = some (.frz o (.dK kvs)))
    (hs : ∀ i k v σ H, kvs[i]? = some (k, v) → Pv i σ H → g (kV k) σ H fun σ2 H2 => tb { D with nx := Pv (i + 1), ct := Pv (i + 1), bk := D.nx } σ2 H2) (hd : ∀ σ H, Pv kvs.length σ H → D.nx σ H) :
    ∃ W : Nat → Nat → L2.St → Hp → Prop, (∃ m, W 0 m σ H) ∧ ∀ i m σ H, W i m σ H →
      ((Itk d o kvs).stop i H ∧ D.nx σ H) ∨ ((Itk d o kvs).go i H ∧ ∃ N : L2.St → Hp → Prop, (∀ σ' H', N σ' H' → ∃ m', m' < m ∧ W (i + 1) m' σ' H') ∧ ∀ x H', (Itk d o kvs).yld i H x H' → g x σ H' fun σ2 H2 => tb { D with nx := N, ct := N, bk := D.nx } σ2 H2) := by
  refine ⟨fun i m σ H => m = kvs.length - i ∧ i ≤ kvs.length ∧ Pv i σ H, ⟨kvs.length, by simp, Nat.zero_le _, h0⟩, ?_⟩
  rintro i m σ H ⟨rfl, hi, q⟩
  have hd0 := hl i σ H hi q
  by_cases hlt : i < kvs.length
  · refine .inr ⟨⟨hd0, hlt⟩, Pv (i + 1), fun σ' H' p' => ⟨kvs.length - (i + 1), by omega, rfl, hlt, p'⟩, fun x H' y => ?_⟩
    obtain ⟨rfl, k, v, hk, rfl⟩ := y
    exact hs i k v σ _ hk q
  · have e : i = kvs.length := by omega
    subst e
    exact .inl ⟨⟨hd0, Nat.le_refl _⟩, hd σ H q⟩
theorem ws_for_dict (B : Body X k E) (s : Sl X i x) (h : ∃ d kvs, H d = some (.dK kvs) ∧ ∀ od, WE X a σ (upd H d (.frz od (.dK kvs))) fun v H1 => v = .ref d ∧ ∃ P : Nat → L2.St → Hp → Prop, P 0 σ H1 ∧ (∀ j σ H, j ≤ kvs.length → P j σ H → H d = some (.frz od (.dK kvs))) ∧
      (∀ j k v σ H, kvs[j]? = some (k, v) → P j σ H → WB X body { nx := P (j + 1), ct := P (j + 1), bk := fun σ' H' => H' d = some (.frz od (.dK kvs)) ∧ D.nx σ' (upd H' d (.dK kvs)), rt := fun v H' => H' d = some (.frz od (.dK kvs)) ∧ D.rt v (upd H' d (.dK kvs)) } (σ.set i (some (kV k))) H) ∧
      ∀ σ H, P kvs.length σ H → D.nx σ (upd H d (.dK kvs))) (hs : ∀ v, foldedSetIterable a X.env v = pure v := by intro _; rfl) : WS X (.For (.Name x px) a body [] pos) D σ H := by
  refine wsP (ps_lock (ps_for B.po B.calm (pi_keys peS) (pg_name s.nd s.at_ s.loc s.fn) pbS hs)) ?_
  obtain ⟨d, kvs, hd, h⟩ := h
  refine ⟨d, .dK kvs, hd, True.intro, fun od => we_mono (h od) fun v H1 q => ?_⟩
  obtain ⟨rfl, P, q0, hl, ht, hn⟩ := q
  exact ⟨d, od, rfl, .inl ⟨kvs, hl 0 σ H1 (Nat.zero_le _) q0, for_keys P q0 hl (fun j k v σ H hk q => ht j k v σ H hk q) fun σ H q => ⟨hl _ σ H (Nat.le_refl _) q, hn σ H q⟩⟩⟩
theorem we_all (B : Body X k E) (bn : Bn X "all") (h : WE X a σ H fun v H1 => ∃ l, ∃ bs : List Bool, v = .ref l ∧ SqL X.K H1 l (bs.map V.bl) ∧ Q (.bl (bs.all id)) H1) (hs : starEach [a] X.env = [(false, eval a X.env)] := by rfl) (hl : (backTo pos (starEach [] X.env)).any (·.1) = false := by rfl) :
    WE X (.Call (.Name "all" p) [a] [] pos) σ H Q := we_callB (cr_all B.calm) bn PyProof.Rows.boot_all (wa_one (we_mono h fun v H1 q => by
    obtain ⟨l, bs, rfl, h1, q⟩ := q
    exact ⟨l, bs, rfl, h1, q⟩) hs) (by decide) (by decide) hs hl
end
end Rs

namespace Rs
open PySem PySem.Spec PyProof.Rows L2 He
/-! ### None == x, x == v of another kind, x an instance with an own == -/
section
variable {X : Cx} {k j : Nat} {E : XK} {C f a dx : Addr} {fs : List (Str × V)} {H : Hp} {Q : VK} {v : V}
theorem no_sub {K : PySem.W.Frag} {C : Addr} {T : String} (h : ∃ cd, PySem.W.clsIn K C = some cd ∧ cd.mro = [.ref C, .type "object"]) (ht : (Value.type T == .type "object") = false) : PySem.W.subIn K (.ref C) (.type T) = some false := by
  obtain ⟨cd, h1, h2⟩ := h
  show (PySem.W.clsIn K C).bind (fun cd => if cd.mro.isEmpty then none else some (cd.mro.contains (.type T))) = some false
  rw [h1]
  show (if cd.mro.isEmpty then none else some (cd.mro.contains (.type T))) = some false
  rw [h2]
  show some (([.ref C, .type "object"] : List Value).contains (.type T)) = some false
  simp only [List.contains_cons, List.contains_nil, Bool.or_false]
  rw [ht]
  simp
theorem looks_of_ty {M : Model} {s : Shared} {u : Value} {T : String} (h : s.TypeIs u T) : PySem.W.Looks M s.heap (typeOf u) (.type T) := by
  intro A Q E s' kp q
  refine wpAny_typeOf (s := s') ?_ q
  cases u with
  | ref a =>
    obtain ⟨o, ho, hc⟩ := h
    exact ⟨o, kp _ _ ho, hc⟩
  | _ => exact h
/-- None == x, where x's own == declines -/
theorem eq_non {sp : SpN} (B : Body X k fun _ => E) (c : NeOwn X.K C f) (hs : PySem.W.subIn X.K (.ref C) (.type "NoneType") = some false) (F : FnN X.prog X.w X.K X.mg X.base (RX X.prog X.w) j f sp) (hj : j ≤ k) (ea : H a = some (.ins C dx fs)) (h : sp [.ref a, .non] H (fun H' => Q (.bl false) H') E) :
    Op2 X (compareOp .Eq) .non (.ref a) H Q := by
  intro pins s σ u u' I ru rv
  cases ru
  cases rv
  obtain ⟨od, J⟩ := inst_of I ea
  have G := Fgn.non.at (v := .non) I rfl ea c
  have r1 := run_ni (us := [.ref a, .none]) (vs := [.ref a, .non]) F (B.room.mono hj) I.env0 B.pass I (.cons rfl (.cons rfl .nil)) h
  show wpAny _ _ (richCompare .Eq .none (.ref a)) _ _ s
  simp only [richCompare, cmpInfo_Eq]
  refine wpAny_holding (wpAny_bind (wpAny_cRoomFor B.room.units0 ?_))
  have e1 : oneThing? .Eq .none (.ref a) = none := rfl
  rw [e1]
  refine wpAny_bind (looks_ty (show s.TypeIs .none "NoneType" from rfl) (wpAny_bind (J.type.here ?_)))
  have ne : (Value.type "NoneType" != Value.ref C) = true := by simp
  simp only [ne, if_true]
  refine wpAny_bind ((PySem.W.looks_subIn I.kIn hs).here ?_)
  simp only [Bool.false_eq_true, if_false, Bool.not_false, if_true]
  refine wpAny_bind (m := tryCompare .none _ (.ref a)) (wpAny_mono (G.eq _ _ _ _) (fun r s2 z => ?_) fun _ _ z => z)
  obtain ⟨rfl, rfl⟩ := z
  refine wpAny_bind (m := tryCompare (.ref a) _ .none) ?_
  unfold tryCompare
  refine wpAny_bind (PySem.W.ifBound_K I.kIn J c.eq c.fn (wpAny_mono r1 (fun v s1 z => ?_) fun _ _ z => z))
  obtain ⟨rfl, H1, I1, q⟩ := z
  refine wpAny_pure ?_
  refine wpAny_bind (wpAny_rule (wpAny_bind (wpAny_of_eq (rfl : isSame .none (.ref a) = pure false) (wpAny_pure ⟨.bl false, H1, I1, rfl, q⟩))))
/-- x == v, v of another kind, where x's own == answers -/
theorem cmp_tf {sp : Sp} (B : Body X k fun _ => E) (c : CmpOwn X.K C f .Eq) (cn : NeOwn X.K C f) (F : FnR X.prog X.w X.K X.mg X.base (RX X.prog X.w) j f sp) (hj : j ≤ k) (ea : H a = some (.ins C dx fs)) (g : Fgn H v) (h : sp [.ref a, v] H Q E) : Op2 X (compareOp .Eq) (.ref a) v H Q := by
  intro pins s σ u u' I ru rv
  cases ru
  obtain ⟨od, J⟩ := inst_of I ea
  obtain ⟨m, hF⟩ := I.fr
  obtain ⟨T, hT, hs⟩ := (g.at I rv ea cn).ty
  rw [rich_eq]
  exact PySem.W.cmp_K (op := .Eq) (tb := .type T) B.room.units0 hF I.ok.mod.kin J (looks_of_ty hT) (by unfold PySem.W.notFirst; rw [hs]; simp) c.at_ c.fn (back (run_own (us := [.ref a, u']) (vs := [.ref a, v]) B F hj I (.cons rfl (.cons rv .nil)) h))
end
end Rs

namespace Rs
open PySem PySem.Spec PyProof.Rows L2 He
/-! ### an instance called -/
structure CallC (K : PySem.W.Frag) (C g : Addr) : Prop where
  at_ : PySem.W.findIn K (.ref C) "__call__" = some (some (.ref g))
  fn : PySem.W.isFn K (.ref g) = true
  fi : PySem.W.fnIn K g = true
def callCB (K : PySem.W.Frag) (C g : Addr) : Bool := decide (PySem.W.findIn K (.ref C) "__call__" = some (some (.ref g))) && (PySem.W.isFn K (.ref g) && PySem.W.fnIn K g)
theorem callC_ok {K : PySem.W.Frag} {C g : Addr} (h : callCB K C g = true) : CallC K C g := by
  obtain ⟨h1, h⟩ := ba h
  obtain ⟨h2, h3⟩ := ba h
  exact ⟨of_decide_eq_true h1, h2, h3⟩
section
variable {X : Cx} {σ : L2.St} {H : Hp} {Q : VK} {QA : List V → Hp → Prop} {k j i : Nat} {E : L2.St → XK} {sp : Sp} {p pos px pr pc : Pos} {fe e : Expr} {es : List Expr} {C g : Addr} {x : Str} {scope : Scope} {elt a : Expr}
theorem we_callO (B : Body X k E) (c : CallC X.K C g) (F : FnR X.prog X.w X.K X.mg X.base (RX X.prog X.w) j g sp) (hj : j ≤ k)
    (h : WE X fe σ H fun y H1 => ∃ a, y = .ref a ∧ WA X (e :: es) σ H1 fun vs H2 => (∃ dx fs, H2 a = some (.ins C dx fs)) ∧ sp (.ref a :: vs) H2 Q (E σ))
    (ht : eval (.Call fe (e :: es) [] pos) X.env = (do callWith pos (← eval fe X.env) [] (backTo pos (starEach (e :: es) X.env)) (backToKw pos (keywordEach [] X.env))) := by rfl)
    (he : starEach (e :: es) X.env = (false, eval e X.env) :: starEach es X.env := by rfl) (hpl : (backTo pos (starEach es X.env)).any (·.1) = false := by rfl) : WE X (.Call fe (e :: es) [] pos) σ H Q := by
  intro pins s I
  refine Call_ (thn (h pins s I) fun u s1 z => ?_) ht
  obtain ⟨y, H1, I1, ry, a, rfl, q⟩ := z
  obtain rfl : u = Value.ref a := ry
  refine StX.callO_with (thn (q pos pins s1 I1) fun us s2 z => ?_) he hpl
  obtain ⟨vs, H2, I2, r, ⟨dx, fs, hi⟩, q2⟩ := z
  obtain ⟨od, J⟩ := inst_of I2 hi
  refine ⟨⟨C, _, _, J, rfl⟩, ?_⟩
  exact wpAny_call (PySem.W.kco_code I2.kIn J rfl c.at_ c.fn c.fi (codeAny_mono (F _ X.stack s2 H2 (.ref a :: us) (.ref a :: vs) Q (E σ) (B.room.mono hj) I2.env0 (.cons rfl r) q2) (out_at (B.at σ) I2)))
/-! ### *e in a display -/
theorem wa_star (h : WE X e σ H fun x H1 => ∃ p xs, x = .ref p ∧ (SqT X.K H1 p xs ∨ SqL X.K H1 p xs) ∧ WA X es σ H1 fun ys H2 => QA (xs ++ ys) H2)
    (hs : starEach (.Starred e p :: es) X.env = (true, eval e X.env) :: starEach es X.env := by rfl) : WA X (.Starred e p :: es) σ H QA := waP (StX.pa_star peS paS hs) h
/-! ### [e for x in range(n)] -/
theorem we_lcR (B : Body X k E) (nd : X.N.Nodup) (bn : Bn X "range") (hi : X.N[i]? = some x) (hx : scope.names.lookup x = some .local) (ok : BlkOk X.N X.env.scope scope [(x, i)])
    (h : WE X a σ H fun v H1 => ∃ n' : Nat, v = .int n' ∧ n' ≤ 1000000000 ∧ LcR X scope elt i σ n' Q H1) (hst : starEach [a] X.env = [(false, eval a X.env)] := by rfl)
    (hs : ∀ v, foldedSetIterable (.Call (.Name "range" pr) [a] [] pc) X.env v = pure v := by intro _; rfl) : WE X (.ListComp elt [⟨.Name x px, .Call (.Name "range" pr) [a] [] pc, [], 0⟩] scope pos) σ H Q :=
  weP (pe_lc (own := [(x, i)]) (g := gName i) (tt := tYes) B.calm nd (pi_range1 bn.gl bn.no paS hst) ok (fun _ _ _ _ _ => pg_name nd hi (.inl (lookup_relS_keep (by decide) hx)) (.inr (lookup_relS_keep (by decide) hx))) (fun _ _ _ _ _ => pts_nil) peB hs) (lc_byR h hst)
end
end Rs

namespace Rs
open PySem PySem.Spec PyProof.Rows L2 He
/-! ### C(e, *xs, k=v) -/
section
variable {X : Cx} {σ : L2.St} {H : Hp} {Q : VK} {k j : Nat} {E : L2.St → XK} {x : Str} {sp : List V → Sp} {p pos : Pos} {e : Expr} {es : List Expr} {C : Addr} {ks : List Str} {kws : List Keyword}
theorem we_makeST (B : Body X k E) (gn : Gn X x) (f : GSK X.prog X.w X.K X.mg X.base j x C ks sp) (hj : j + 1 ≤ k) (h : WA X (e :: es) σ H fun vs H1 => WK X kws σ H1 fun zs H2 => zs.length = ks.length ∧ ∀ a dx, H2 a = none → H2 dx = none → dx ≠ a → sp (.ref a :: vs) zs (upd (upd H2 dx (.own a)) a (.ins C dx [])) (fun v H3 => v = .non ∧ Q (.ref a) H3) (E σ))
    (hall : (backToKw pos (keywordEach kws X.env)).all (·.1.isSome) = true := by rfl) (hks : (backToKw pos (keywordEach kws X.env)).filterMap (·.1) = ks := by rfl)
    (he : starEach (e :: es) X.env = (false, eval e X.env) :: starEach es X.env := by rfl) (hst : ((backTo pos (starEach (e :: es) X.env)).any (·.1) || (backToKw pos (keywordEach kws X.env)).any (·.1.isNone)) = true := by rfl) :
    WE X (.Call (.Name x p) (e :: es) kws pos) σ H Q := by
  obtain ⟨f, hm, M, F⟩ := f
  intro pins s I
  refine wpAny_Call_Name_kw (ld_glob I gn.gl hm ?_ gn.d1)
  refine callWith_starred (P := fun h => X.K.In h) hst (PySem.W.keeps_K M.kp) (evalArgs_kw2 hall (thn (h pos pins s I) fun us s1 z => ?_) he)
  obtain ⟨vs, H1, I1, r, q⟩ := z
  refine thn (q pos pins s1 I1) fun ws s2 z => ?_
  obtain ⟨zs, H2, I2, rz, l2, q⟩ := z
  refine ⟨I2.kIn, ?_⟩
  rw [hks]
  exact smake_at M F (B.room.mono hj) (B.at σ) I2 r rz l2 q
end
end Rs

/-! fractions of drawn numbers -/
namespace Mt
theorem dv_le {a b c d : Int} (hb : 0 < b) (hd : 0 < d) : Rat.divInt a b ≤ Rat.divInt c d ↔ a * d ≤ c * b := by
  obtain ⟨m, rfl⟩ := Int.eq_ofNat_of_zero_le (Int.le_of_lt hb)
  obtain ⟨n, rfl⟩ := Int.eq_ofNat_of_zero_le (Int.le_of_lt hd)
  have e1 : Rat.divInt a m = sc (m * n) (a * n) := by
    unfold sc
    rw [Int.natCast_mul, Rat.divInt_mul_right (by omega)]
  have e2 : Rat.divInt c n = sc (m * n) (c * m) := by
    unfold sc
    rw [Int.natCast_mul, Int.mul_comm (m : Int) (n : Int), Rat.divInt_mul_right (by omega)]
  have hn : m * n ≠ 0 := by
    have h1 : 0 < m := by omega
    have h2 : 0 < n := by omega
    exact Nat.ne_of_gt (Nat.mul_pos h1 h2)
  rw [e1, e2, ← Rat.not_lt, sc_lt hn, Int.not_lt]
theorem dv_lt {a b c d : Int} (hb : 0 < b) (hd : 0 < d) : Rat.divInt a b < Rat.divInt c d ↔ a * d < c * b := by
  rw [← Rat.not_le, dv_le hd hb, Int.not_le]
theorem dv_one {d : Int} (h : d ≠ 0) : Rat.divInt d d = 1 := Rat.divInt_self' h
theorem dv_pos {a b : Int} (hb : 0 < b) : 0 < Rat.divInt a b ↔ 0 < a := by
  have h := dv_lt (a := 0) (b := 1) (c := a) (d := b) (by decide) hb
  rw [Rat.zero_divInt, Int.zero_mul, Int.mul_one] at h
  exact h
theorem dv_nn {a b : Int} (hb : 0 < b) : 0 ≤ Rat.divInt a b ↔ 0 ≤ a := by
  have h := dv_le (a := 0) (b := 1) (c := a) (d := b) (by decide) hb
  rw [Rat.zero_divInt, Int.zero_mul, Int.mul_one] at h
  exact h
theorem dv_le1 {a b : Int} (hb : 0 < b) : Rat.divInt a b ≤ 1 ↔ a ≤ b := by
  have h := dv_le (a := a) (b := b) (c := 1) (d := 1) hb (by decide)
  rw [dv_one (by decide), Int.mul_one, Int.one_mul] at h
  exact h
theorem dv_ge1 {a b : Int} (hb : 0 < b) : 1 ≤ Rat.divInt a b ↔ b ≤ a := by
  have h := dv_le (a := 1) (b := 1) (c := a) (d := b) (by decide) hb
  rw [dv_one (by decide), Int.mul_one, Int.one_mul] at h
  exact h
end Mt

/-! rounds of small delays: where they stop, what they tell; over a bottom -/
namespace Mt
section
variable {W U : Int} {d : Bool} {ds : List (Option Int)}
/-- at most four delays, none above 32 units, the last one not lost -/
structure DSm (U : Int) (ds : List (Option Int)) : Prop where
  n0 : 0 < ds.length
  n4 : ds.length ≤ 4
  all : ∀ (j : Nat) (x : Int), (ds[j]?).getD none = some x → 1 ≤ x ∧ x ≤ 32 * U
  last : ∃ x, (ds[ds.length - 1]?).getD none = some x
theorem DSm.dl (h : DSm U ds) {k : Nat} {x : Int} (e : dlk ds k = some x) : 1 ≤ x ∧ x ≤ 32 * U := by
  unfold dlk at e
  split at e <;> exact h.all _ _ e
/-- an answer is one of a sending -/
theorem ans_of : ∀ (k : Nat) (a : Int), (rsk 0 W d ds k).ans = some a → ∃ j y, j < k ∧ dlk ds j = some y ∧ a = stk 0 W d j + y ∧ (rsk 0 W d ds k).dly = some y
  | 0, a, h => nomatch h
  | k + 1, a, h => by
    have ih := ans_of k
    unfold rsk at h ⊢
    generalize rsk 0 W d ds k = r at h ih ⊢
    obtain ⟨nd, an, ans, dly⟩ := r
    cases eo : dlk ds k with
    | none =>
      rw [eo] at h
      obtain ⟨j, y, hj, h1, h2, h3⟩ := ih a h
      exact ⟨j, y, by omega, h1, h2, h3⟩
    | some x =>
      rw [eo] at h
      cases ans with
      | none =>
        cases h
        exact ⟨k, x, by omega, eo, rfl, rfl⟩
      | some b =>
        have h' : (if stk 0 W d k + x < b then (⟨nd + 1, k, some (stk 0 W d k + x), some x⟩ : RS Int) else ⟨nd + 1, an, some b, dly⟩).ans = some a := h
        show ∃ j y, j < k + 1 ∧ dlk ds j = some y ∧ a = stk 0 W d j + y ∧ (if stk 0 W d k + x < b then (⟨nd + 1, k, some (stk 0 W d k + x), some x⟩ : RS Int) else ⟨nd + 1, an, some b, dly⟩).dly = some y
        by_cases c : stk 0 W d k + x < b
        · rw [if_pos c] at h' ⊢
          cases h'
          exact ⟨k, x, by omega, eo, rfl, rfl⟩
        · rw [if_neg c] at h' ⊢
          obtain ⟨j, y, hj, h1, h2, h3⟩ := ih a h'
          exact ⟨j, y, by omega, h1, h2, h3⟩
/-- an answer is behind the last sending -/
theorem ans_gt (h : DSm U ds) {k : Nat} {a : Int} (g : Gng 0 W d ds k) (e : (rsk 0 W d ds (k + 1)).ans = some a) : stk 0 W d k < a := by
  unfold Gng at g
  unfold rsk at e
  generalize rsk 0 W d ds k = r at g e
  obtain ⟨nd, an, ans, dly⟩ := r
  cases eo : dlk ds k with
  | none =>
    rw [eo] at e
    cases ans with
    | none => cases e
    | some b => cases e; exact g
  | some x =>
    have hx := h.dl eo
    rw [eo] at e
    cases ans with
    | none => cases e; omega
    | some b =>
      have e' : (if stk 0 W d k + x < b then (⟨nd + 1, k, some (stk 0 W d k + x), some x⟩ : RS Int) else ⟨nd + 1, an, some b, dly⟩).ans = some a := e
      have g' : stk 0 W d k < b := g
      by_cases c : stk 0 W d k + x < b
      · rw [if_pos c] at e'
        cases e'
        omega
      · rw [if_neg c] at e'
        cases e'
        exact g'
/-- a round that is over -/
structure Over (W U : Int) (d : Bool) (ds : List (Option Int)) (N : Nat) (a y : Int) : Prop where
  n0 : 0 < N
  nm : N ≤ 36
  st : ¬ Gng 0 W d ds N
  go : ∀ j, j < N → Gng 0 W d ds j
  ans : (rsk 0 W d ds N).ans = some a
  dly : (rsk 0 W d ds N).dly = some y
  a0 : stk 0 W d (N - 1) < a
  a1 : a ≤ 8 * W + 32 * U
  y0 : 1 ≤ y
  y1 : y ≤ 32 * U
theorem over_of (d : Bool) (hU : 1 ≤ U) (hW : U ≤ W) (h : DSm U ds) : ∃ N a y, Over W U d ds N a y := by
  obtain ⟨x, ex⟩ := h.last
  obtain ⟨n, en⟩ : ∃ n, ds.length = n + 1 := ⟨ds.length - 1, by have := h.n0; omega⟩
  have n4 := h.n4
  have ed : dlk ds n = some x := by
    unfold dlk
    rw [if_pos (by omega)]
    rw [en] at ex
    exact ex
  have hx := h.dl ed
  have b0 : Below (rsk 0 W d ds (n + 1)) (stk 0 W d n + x) := by
    show Below (rstep _ n _ (dlk ds n)) _
    rw [ed]
    exact below_new
  have bk : ∀ j, Below (rsk 0 W d ds (n + 1 + j)) (stk 0 W d n + x) := fun j => by
    induction j with
    | zero => exact b0
    | succ j ih => exact below_step ih
  have far := stk_far (W := W) (d := d) (by omega) n 32
  have st : ¬ Gng 0 W d ds (n + 32) := by
    obtain ⟨a, ea, la⟩ := bk 31
    rw [show n + 1 + 31 = n + 32 by omega] at ea
    unfold Gng
    rw [ea]
    show ¬ stk 0 W d (n + 32) < a
    omega
  obtain ⟨N, h1, h2, h3⟩ := least (P := fun k => ¬ Gng 0 W d ds k) (n + 32) st
  have go : ∀ j, j < N → Gng 0 W d ds j := fun j hj => Classical.byContradiction (h3 j hj)
  have n0 : 0 < N := by
    rcases Nat.eq_zero_or_pos N with e | e
    · subst e
      exact absurd trivial h2
    · exact e
  obtain ⟨a, ea⟩ : ∃ a, (rsk 0 W d ds N).ans = some a := by
    unfold Gng at h2
    cases q : (rsk 0 W d ds N).ans with
    | none => rw [q] at h2; exact absurd trivial h2
    | some a => exact ⟨a, rfl⟩
  obtain ⟨j, y, hj, e1, e2, e3⟩ := ans_of N a ea
  have hy := h.dl e1
  have s3 : ∀ k, k ≤ 3 → stk 0 W d k ≤ 8 * W := fun k hk => by
    have g := stk_le (W := W) (d := d) (by omega) k
    have p : (2 : Int) ^ k ≤ 8 := by
      have h := Int.ofNat_le.mpr (Nat.pow_le_pow_right (n := 2) (by decide) hk)
      rw [Int.natCast_pow] at h
      exact h
    have := Int.mul_le_mul_of_nonneg_left p (show 0 ≤ W by omega)
    omega
  have a1 : a ≤ 8 * W + 32 * U := by
    by_cases c : N ≤ n + 1
    · have := s3 j (by omega)
      omega
    · obtain ⟨b, eb, lb⟩ := bk (N - (n + 1))
      rw [show n + 1 + (N - (n + 1)) = N by omega, ea] at eb
      cases eb
      have := s3 n (by omega)
      omega
  obtain ⟨m, rfl⟩ : ∃ m, N = m + 1 := ⟨N - 1, by omega⟩
  exact ⟨m + 1, a, y, n0, by omega, h2, go, ea, e3, ans_gt h (go m (by omega)) ea, a1, hy.1, hy.2⟩
end
theorem sc_sub {L : Nat} (h : L ≠ 0) (a b : Int) : sc L (a - b) = sc L a - sc L b := by
  have e := sc_add h (a - b) b
  rw [show a - b + b = a by omega] at e
  rw [e]
  grind
theorem sc_up {L k : Nat} (hk : k ≠ 0) (i : Int) : sc (L * k) (i * k) = sc L i := by
  unfold sc
  rw [Int.natCast_mul, Rat.divInt_mul_right (by omega)]
theorem sc_le {L : Nat} (h : L ≠ 0) (a b : Int) : sc L a ≤ sc L b ↔ a ≤ b := by
  rw [← Rat.not_lt, sc_lt h, Int.not_lt]
theorem sc_mul {L m : Nat} (i j : Int) : sc L i * sc m j = sc (L * m) (i * j) := by
  unfold sc
  rw [Rat.divInt_mul_divInt, Int.natCast_mul]
theorem sc_inj {L : Nat} (h : L ≠ 0) {a b : Int} (e : sc L a = sc L b) : a = b := by
  have h1 : ¬ a < b := fun q => by
    have := (sc_lt h a b).mpr q
    rw [e] at this
    exact Rat.lt_irrefl this
  have h2 : ¬ b < a := fun q => by
    have := (sc_lt h b a).mpr q
    rw [e] at this
    exact Rat.lt_irrefl this
  omega
end Mt

namespace Rs
open PySem PySem.Spec PyProof.Rows L2 He
/-! ### a, b, c, d = e; t[:n]; (.., *t, ..) -/
section
variable {X : Cx} {k : Nat} {E : L2.St → XK} {σ : L2.St} {H : Hp} {D : Ends} {Q : VK} {a b e : Expr} {es : List Expr} {pos p2 : Pos}
theorem ws_unp4 {i0 i1 i2 i3 : Nat} {x0 x1 x2 x3 : Str} {q0 q1 q2 q3 pt : Pos} {kt : Nat} (B : Body X k E) (n0 : Sl X i0 x0) (n1 : Sl X i1 x1) (n2 : Sl X i2 x2) (n3 : Sl X i3 x3)
    (h : WE X e σ H fun v H1 => ∃ p v0 v1 v2 v3, v = .ref p ∧ SqT X.K H1 p [v0, v1, v2, v3] ∧ D.nx ((((σ.set i0 (some v0)).set i1 (some v1)).set i2 (some v2)).set i3 (some v3)) H1)
    (hs : swapsWithSole [.Tuple [.Name x0 q0, .Name x1 q1, .Name x2 q2, .Name x3 q3] kt pt] e pos.line X.env = pure false := by rfl) (hw : swappedStores [.Tuple [.Name x0 q0, .Name x1 q1, .Name x2 q2, .Name x3 q3] kt pt] e X.env = pure none := by rfl)
    (hn : (assignEach [Expr.Name x0 q0, .Name x1 q1, .Name x2 q2, .Name x3 q3] X.env).length = 4 := by rfl) (hst : (assignEach [Expr.Name x0 q0, .Name x1 q1, .Name x2 q2, .Name x3 q3] X.env).findIdx? (·.1) = none := by rfl)
    (h3 : (assignEach [Expr.Tuple [.Name x0 q0, .Name x1 q1, .Name x2 q2, .Name x3 q3] kt pt] X.env).map (·.2) = [assign (.Tuple [.Name x0 q0, .Name x1 q1, .Name x2 q2, .Name x3 q3] kt pt) X.env] := by rfl) :
    WS X (.Assign [.Tuple [.Name x0 q0, .Name x1 q1, .Name x2 q2, .Name x3 q3] kt pt] e pos) D σ H := by
  refine wsP (ps_asg peS (pg_tup B.calm (pgs_cons (pg_name n0.nd n0.at_ n0.loc n0.fn) (pgs_cons (pg_name n1.nd n1.at_ n1.loc n1.fn) (pgs_cons (pg_name n2.nd n2.at_ n2.loc n2.fn) (pgs_cons (pg_name n3.nd n3.at_ n3.loc n3.fn) pgs_nil)))) hn hst) hs hw h3) ?_
  refine we_mono h fun v H1 q => ?_
  obtain ⟨p, v0, v1, v2, v3, rfl, hq, z⟩ := q
  exact ⟨p, _, rfl, hq, rfl, v0, _, rfl, v1, _, rfl, v2, _, rfl, v3, _, rfl, rfl, z⟩
/-- a[:b] of a tuple -/
theorem we_cutT (h : WE X a σ H fun v H1 => WE X b σ H1 fun w H2 => ∃ p xs i, v = .ref p ∧ w = .int i ∧ H2 p = some (.tup xs) ∧ ∀ l H3, Ex H2 H3 → H3 l = some (.tup (cutV xs none (some i))) → Q (.ref l) H3) : WE X (.Subscript a (.Slice none (some b) none p2) pos) σ H Q :=
  weP (pe_slice sl_tupA peS po_none (po_some peS)) (we_mono h fun v H1 z => we_mono z fun w H2 z => by
    obtain ⟨p, xs, i, rfl, rfl, h1, z⟩ := z
    refine ⟨i, rfl, p, xs, rfl, .of h1, fun hw => z p H2 (.refl _) ?_, fun _ l nl => z l _ (Ex.new nl) upd_same⟩
    have e : cutV xs none (some i) = xs := by
      unfold cutV
      rw [hw.1, hw.2, Nat.sub_zero, List.drop_zero, List.take_length]
    rw [e]
    exact h1)
theorem cut_m1 (xs : List V) : cutV xs none (some (-1)) = xs.take (xs.length - 1) := by
  unfold cutV
  rw [HT.sIx_none, Nat.sub_zero, List.drop_zero]
  congr 1
  show (if (-1 : Int) < 0 then ((-1 : Int) + (xs.length : Int)).toNat else min (-1 : Int).toNat xs.length) = _
  rw [if_pos (by decide)]
  omega
/-- {} -/
theorem we_dict0 (h : ∀ p, H p = none → Q (.ref p) (upd H p (.dK []))) : WE X (.Dict [] [] pos) σ H Q := weP pe_dnewK h
/-- y = [e for x in t], t a tuple -/
theorem ws_setLcT {i n : Nat} {x y : Str} {scope : Scope} {elt iter : Expr} {px py spos : Pos} (B : Body X k E) (m : Sl X n y) (hy : X.env.scope.names.lookup y = some .local) (hk : X.env.scope.kind = .function) (hi : X.N[i]? = some x) (hx : scope.names.lookup x = some .local) (ok : BlkOk X.N X.env.scope scope [(x, i)])
    (h : WE X iter σ H fun v H1 => ∃ a xs, v = .ref a ∧ SqT X.K H1 a xs ∧ LcG X scope elt i (SqT X.K) σ a xs (fun v H' => D.nx (σ.set n (some v)) H') H1) (hl : (py.line == spos.line) = true := by rfl)
    (ha : (scope.names.any fun (n, k) => n == y && (k == .local || k == .cell)) = false := by decide +kernel) (he : pos.line = spos.line := by rfl) (hs : ∀ v, foldedSetIterable iter X.env v = pure v := by intro _; rfl) :
    WS X (.Assign [.Name y py] (.ListComp elt [⟨.Name x px, iter, [], 0⟩] scope pos) spos) D σ H :=
  wsP (ps_setLc (own := [(x, i)]) (g := gName i) (tt := tYes) B.calm m.nd m.at_ hy (sw_true hk hy (by rw [he]; exact hl) ha) (pi_tup peS) ok (fun _ _ _ _ _ => pg_name m.nd hi (.inl (lookup_relS_keep (by decide) hx)) (.inr (lookup_relS_keep (by decide) hx))) (fun _ _ _ _ _ => pts_nil) peB hs) (lc_byT h)
end
/-! ### len(x) of an own class -/
structure LenOwn (K : PySem.W.Frag) (C f : Addr) : Prop where
  at_ : PySem.W.findIn K (.ref C) "__len__" = some (some (.ref f))
  fn : PySem.W.isFn K (.ref f) = true
def lenOwnB (K : PySem.W.Frag) (C f : Addr) : Bool := decide (PySem.W.findIn K (.ref C) "__len__" = some (some (.ref f))) && PySem.W.isFn K (.ref f)
theorem lenOwn_ok {K : PySem.W.Frag} {C f : Addr} (h : lenOwnB K C f = true) : LenOwn K C f := by
  obtain ⟨h1, h2⟩ := ba h
  exact ⟨of_decide_eq_true h1, h2⟩
theorem we_lenO {X : Cx} {σ : L2.St} {H : Hp} {Q : VK} {k j : Nat} {E : XK} {C f : Addr} {sp : Sp} {a : Expr} {p pos : Pos} (bn : Bn X "len") (B : Body X k fun _ => E) (c : LenOwn X.K C f) (F : FnR X.prog X.w X.K X.mg X.base (RX X.prog X.w) j f sp) (hj : j + 1 ≤ k)
    (h : WE X a σ H fun v H1 => ∃ x dx fs, v = .ref x ∧ H1 x = some (.ins C dx fs) ∧ sp [.ref x] H1 (fun v H' => ∃ n : Nat, v = .int n ∧ n < 2 ^ 62 ∧ Q (.int n) H') E) (hs : starEach [a] X.env = [(false, eval a X.env)] := by rfl) (hl : (backTo pos (starEach [] X.env)).any (·.1) = false := by rfl) :
    WE X (.Call (.Name "len" p) [a] [] pos) σ H Q := by
  have hc : CallR X (.builtin "len") fun xs H Q => ∃ x dx fs, xs = [.ref x] ∧ H x = some (.ins C dx fs) ∧ sp [.ref x] H (fun v H' => ∃ n : Nat, v = .int n ∧ n < 2 ^ 62 ∧ Q (.int n) H') E := by
    intro pins s σ H xs us Q I r q
    obtain ⟨x, dx, fs, rfl, ea, q⟩ := q
    obtain ⟨u, rfl, ru⟩ := vals1 r
    cases ru
    obtain ⟨od, J⟩ := inst_of I ea
    obtain ⟨m, hF⟩ := I.fr
    refine PySem.W.len_K hF I.ok.mod.kin J c.at_ c.fn (wpAny_mono (wpAny_call (SlX.run_at (us := [.ref x]) (ws := [.ref x]) F (B.room.mono hj).in1 I.env0.in1 B.pass I (.cons rfl .nil) q)) (fun u s' z => ?_) fun _ _ z => z)
    obtain ⟨v, H', I', r', n, rfl, hn, q'⟩ := z
    obtain ⟨t, rfl⟩ := r'
    refine ⟨⟨by omega, by omega⟩, ?_⟩
    exact ⟨.int n, H', I'.tok _, ⟨_, rfl⟩, q'⟩
  exact we_callB hc bn boot_len (wa_one (we_mono h fun v H1 q => by
    obtain ⟨x, dx, fs, rfl, q⟩ := q
    exact ⟨x, dx, fs, rfl, q⟩) hs) (by decide) (by decide) hs hl
end Rs

namespace Rs
open PySem PySem.Spec PyProof.Rows L2 He
/-! ### v in x, x of an own class -/
structure InOwn (K : PySem.W.Frag) (C f : Addr) : Prop where
  at_ : PySem.W.findIn K (.ref C) "__contains__" = some (some (.ref f))
  fn : PySem.W.isFn K (.ref f) = true
def inOwnB (K : PySem.W.Frag) (C f : Addr) : Bool := decide (PySem.W.findIn K (.ref C) "__contains__" = some (some (.ref f))) && PySem.W.isFn K (.ref f)
theorem inOwn_ok {K : PySem.W.Frag} {C f : Addr} (h : inOwnB K C f = true) : InOwn K C f := by
  obtain ⟨h1, h2⟩ := ba h
  exact ⟨of_decide_eq_true h1, h2⟩
section
variable {X : Cx} {H : Hp} {Q : VK} {k j : Nat} {E : XK} {C f a dx : Addr} {fs : List (Str × V)} {sp : Sp} {v : V}
theorem o_inOwn (B : Body X k fun _ => E) (c : InOwn X.K C f) (F : FnR X.prog X.w X.K X.mg X.base (RX X.prog X.w) j f sp) (hj : j ≤ k) (ea : H a = some (.ins C dx fs)) (h : sp [.ref a, v] H (fun y H' => ∃ b, y = .bl b ∧ Q (.bl b) H') E) : Op2 X (compareOp .In) v (.ref a) H Q := by
  intro pins s σ u w I ru rw_
  cases rw_
  obtain ⟨od, J⟩ := inst_of I ea
  obtain ⟨m, hF⟩ := I.fr
  refine PySem.W.in_K hF I.ok.mod.kin J c.at_ c.fn (wpAny_mono (run_own (vs := [.ref a, v]) B F hj I (.cons rfl (.cons ru .nil)) h) (fun u s' z => ?_) fun _ _ z => z)
  obtain ⟨y, H', I', r', b, rfl, q'⟩ := z
  cases r'
  exact wpAny_truthy_bool ⟨.bl b, H', I', rfl, q'⟩
theorem o_notInOwn (B : Body X k fun _ => E) (c : InOwn X.K C f) (F : FnR X.prog X.w X.K X.mg X.base (RX X.prog X.w) j f sp) (hj : j ≤ k) (ea : H a = some (.ins C dx fs)) (h : sp [.ref a, v] H (fun y H' => ∃ b, y = .bl b ∧ Q (.bl (!b)) H') E) : Op2 X (compareOp .NotIn) v (.ref a) H Q := by
  intro pins s σ u w I ru rw_
  cases rw_
  obtain ⟨od, J⟩ := inst_of I ea
  obtain ⟨m, hF⟩ := I.fr
  refine PySem.W.notIn_K hF I.ok.mod.kin J c.at_ c.fn (wpAny_mono (run_own (vs := [.ref a, v]) B F hj I (.cons rfl (.cons ru .nil)) h) (fun u s' z => ?_) fun _ _ z => z)
  obtain ⟨y, H', I', r', b, rfl, q'⟩ := z
  cases r'
  exact wpAny_truthy_bool ⟨.bl (!b), H', I', rfl, q'⟩
end
end Rs

namespace Rs
open PySem PySem.Spec PyProof.Rows L2 He
/-! ### == of bools, f-strings of five parts, != of two own kinds -/
theorem o_eqBl {X : Cx} {H : Hp} {Q : VK} {a b : Bool} (q : Q (.bl (decide (a = b))) H) : Op2 X (compareOp .Eq) (.bl a) (.bl b) H Q := op2_of op_eq ⟨rfl, by rw [show decide (V.bl a = V.bl b) = decide (a = b) from by simp]; exact q⟩
theorem we_js5 {X : Cx} {σ : L2.St} {H : Hp} {Q : VK} {a b c d e : Expr} {pos : Pos} (h : WE X a σ H fun v H1 => ∃ x : Str, v = .str x ∧ x.length ≤ sizeLine ∧ WE X b σ H1 fun w H2 => ∃ y : Str, w = .str y ∧ (x ++ y).length ≤ sizeLine ∧ WE X c σ H2 fun u H3 => ∃ z : Str, u = .str z ∧ (x ++ y ++ z).length ≤ sizeLine ∧
    WE X d σ H3 fun u H4 => ∃ t : Str, u = .str t ∧ (x ++ y ++ z ++ t).length ≤ sizeLine ∧ WE X e σ H4 fun u H5 => ∃ r : Str, u = .str r ∧ (x ++ y ++ z ++ t ++ r).length ≤ sizeLine ∧ Q (.str (x ++ y ++ z ++ t ++ r)) H5) : WE X (.JoinedStr [a, b, c, d, e] pos) σ H Q :=
  weP (pe_joined (.cons peS (.cons peS (.cons peS (.cons peS (.cons peS .nil)))))) (we_mono h fun v H1 z => by
    obtain ⟨x, rfl, h1, z⟩ := z
    refine ⟨x, rfl, by rw [str_e]; exact h1, we_mono z fun w H2 z => ?_⟩
    obtain ⟨y, rfl, h2, z⟩ := z
    refine ⟨y, rfl, by rw [str_e]; exact h2, we_mono z fun u H3 z => ?_⟩
    obtain ⟨t, rfl, h3, z⟩ := z
    refine ⟨t, rfl, by rw [str_e]; exact h3, we_mono z fun u H4 z => ?_⟩
    obtain ⟨r, rfl, h4, z⟩ := z
    refine ⟨r, rfl, by rw [str_e]; exact h4, we_mono z fun u H5 z => ?_⟩
    obtain ⟨m, rfl, h5, z⟩ := z
    exact ⟨m, rfl, by rw [str_e]; exact h5, by rw [str_e]; exact z⟩)
section
variable {X : Cx} {k j : Nat} {E : XK} {sp sp' : SpN} {C C' f f' a b dx dy : Addr} {fs gs : List (Str × V)} {H : Hp} {Q : VK}
/-- x != y, two own kinds that decline each other -/
theorem ne_two (B : Body X k fun _ => E) (c : NeOwn X.K C f) (c' : NeOwn X.K C' f') (F : FnN X.prog X.w X.K X.mg X.base (RX X.prog X.w) j f sp) (F' : FnN X.prog X.w X.K X.mg X.base (RX X.prog X.w) j f' sp') (hj : j + 1 ≤ k) (hs : PySem.W.subIn X.K (.ref C') (.ref C) = some false) (hC : C ≠ C')
    (ea : H a = some (.ins C dx fs)) (eb : H b = some (.ins C' dy gs)) (h : sp [.ref a, .ref b] H (fun H1 => H1 a = some (.ins C dx fs) ∧ H1 b = some (.ins C' dy gs) ∧ sp' [.ref b, .ref a] H1 (fun H2 => H2 a = some (.ins C dx fs) ∧ H2 b = some (.ins C' dy gs) ∧ Q (.bl true) H2) E) E) :
    Op2 X (compareOp .NotEq) (.ref a) (.ref b) H Q := by
  intro pins s σ u u' I ru rv
  cases ru
  cases rv
  obtain ⟨od, J⟩ := inst_of I ea
  obtain ⟨od', J'⟩ := inst_of I eb
  have r1 := run_ni (us := [.ref a, .ref b]) (vs := [.ref a, .ref b]) F (B.room.mono hj).in1 I.env0.in1 B.pass I (.cons rfl (.cons rfl .nil)) h
  show wpAny _ _ (richCompare .NotEq (.ref a) (.ref b)) _ _ s
  simp only [richCompare, cmpInfo_NotEq, oneThing_ref]
  refine wpAny_holding (wpAny_bind (wpAny_cRoomFor B.room.units0 ?_))
  refine wpAny_bind (J.type.here (wpAny_bind (J'.type.here ?_)))
  have ne : (Value.ref C != Value.ref C') = true := by simpa using hC
  simp only [ne, if_true]
  refine wpAny_bind ((PySem.W.looks_subIn I.kIn hs).here ?_)
  simp only [Bool.false_eq_true, if_false, Bool.not_false, if_true]
  refine wpAny_bind (m := tryCompare (.ref a) _ (.ref b)) (try_ne (by have := B.room.un; omega) I.kIn J c (wpAny_mono r1 (fun v s1 z => .inr ?_) fun _ _ z => z))
  obtain ⟨rfl, H1, I1, e1, e2, h2⟩ := z
  refine ⟨rfl, ?_⟩
  obtain ⟨od1, J1⟩ := inst_of I1 e2
  have r2 := run_ni (us := [.ref b, .ref a]) (vs := [.ref b, .ref a]) F' (B.room.mono hj).in1 I1.env0.in1 B.pass I1 (.cons rfl (.cons rfl .nil)) h2
  refine wpAny_bind (m := tryCompare (.ref b) _ (.ref a)) (try_ne (by have := B.room.un; omega) I1.kIn J1 c' (wpAny_mono r2 (fun v s2 z => .inr ?_) fun _ _ z => z))
  obtain ⟨rfl, H2, I2, e3, e4, q⟩ := z
  refine ⟨rfl, ?_⟩
  obtain ⟨od2, J2⟩ := inst_of I2 e3
  obtain ⟨od3, J3⟩ := inst_of I2 e4
  exact wpAny_bind (wpAny_rule (wpAny_bind (isSame_inst J2.at_ J3.at_ (fun e => hC (by injection e with e; exact e.symm)) (wpAny_pure ⟨.bl true, H2, I2, rfl, q⟩))))
end
end Rs

namespace Rs
open PySem PySem.Spec PyProof.Rows L2 He
theorem o_neBl {X : Cx} {H : Hp} {Q : VK} {a b : Bool} (q : Q (.bl (!decide (a = b))) H) : Op2 X (compareOp .NotEq) (.bl a) (.bl b) H Q := op2_of op_ne ⟨rfl, by rw [show decide (V.bl a = V.bl b) = decide (a = b) from by simp]; exact q⟩
/-! ### isinstance(x, (A, B)), any(xs) -/
section
variable {X : Cx} {σ : L2.St} {H : Hp} {Q : VK} {k j : Nat} {a b e : Expr} {p pos : Pos}
theorem we_isiT (bn : Bn X "isinstance") (h : WE X a σ H fun v H1 => WE X b σ H1 fun w H2 => ∃ tp C1 C2 t r, w = .ref tp ∧ H2 tp = some (.tup [.ref C1, .ref C2]) ∧ IsC X.K C1 ∧ IsC X.K C2 ∧ TyX X.K H2 v t ∧ PySem.W.kitAny X.K t [.ref C1, .ref C2] = some r ∧ Q (.bl r) H2)
    (hs : starEach [a, b] X.env = (false, eval a X.env) :: starEach [b] X.env := by rfl) (ht : starEach [b] X.env = [(false, eval b X.env)] := by rfl) (hl : (backTo pos (starEach [b] X.env)).any (·.1) = false := by rfl) :
    WE X (.Call (.Name "isinstance" p) [a, b] [] pos) σ H Q :=
  we_callB call_isiT bn boot_isinstance (wa_two (we_mono h fun v H1 q => we_mono q fun w H2 q => by
    obtain ⟨tp, C1, C2, t, r, rfl, h1, c1, c2, h2, h3, q⟩ := q
    exact ⟨v, tp, _, t, _, r, rfl, h1, .cons (.own C1) (.cons (.own C2) .nil), h2, h3, q⟩) hs ht) (by decide) (by decide) hs hl
theorem boot_any : bootBuiltins "any" = some (.builtin "any") := by decide +kernel
theorem we_any {E : L2.St → XK} (B : Body X k E) (bn : Bn X "any") (h : WE X a σ H fun v H1 => ∃ l bs, v = .ref l ∧ SqL X.K H1 l (List.map V.bl bs) ∧ Q (.bl (bs.any id)) H1) (hs : starEach [a] X.env = [(false, eval a X.env)] := by rfl) (hl : (backTo pos (starEach [] X.env)).any (·.1) = false := by rfl) :
    WE X (.Call (.Name "any" p) [a] [] pos) σ H Q := we_callB (cr_any B.calm) bn boot_any (wa_one (we_mono h fun v H1 q => by
    obtain ⟨l, bs, rfl, h1, q⟩ := q
    exact ⟨l, bs, rfl, h1, q⟩) hs) (by decide) (by decide) hs hl
end
/-! ### C(*xs), C() where C takes *xs -/
section
variable {X : Cx} {σ : L2.St} {H : Hp} {Q : VK} {k j : Nat} {E : L2.St → XK} {x : Str} {sp : List V → Sp} {p pos sp_ : Pos} {e : Expr} {C : Addr}
theorem we_makeS1 (B : Body X k E) (gn : Gn X x) (f : GSK X.prog X.w X.K X.mg X.base j x C [] sp) (hj : j + 1 ≤ k) (h : WE X e σ H fun y H2 => ∃ l xs, y = .ref l ∧ (SqT X.K H2 l xs ∨ SqL X.K H2 l xs) ∧ ∀ a dx, H2 a = none → H2 dx = none → dx ≠ a → sp (.ref a :: xs) [] (upd (upd H2 dx (.own a)) a (.ins C dx [])) (fun v H3 => v = .non ∧ Q (.ref a) H3) (E σ))
    (hst : starEach [.Starred e sp_] X.env = [(true, eval e X.env)] := by rfl) : WE X (.Call (.Name x p) [.Starred e sp_] [] pos) σ H Q := by
  obtain ⟨f, hm, M, F⟩ := f
  intro pins s I
  refine wpAny_Call_Name_kw (ld_glob I gn.gl hm ?_ gn.d1)
  refine PySem.W.callWith_S (h₀ := X.base) I.ok.mod.kin M.kp (thn (h pins s I) fun v s1 z => ?_) hst
  obtain ⟨y, H1, I1, ry, a, xs, rfl, hxs, q⟩ := z
  cases ry
  exact StX.star_any I1 hxs fun us s2 I2 rv => ⟨I2.kIn, smake_at (zs := []) (ws := []) M F (B.room.mono hj) (B.at σ) I2 rv .nil rfl q⟩
theorem we_makeS0 (B : Body X k E) (gn : Gn X x) (f : GSK X.prog X.w X.K X.mg X.base j x C [] sp) (hj : j + 1 ≤ k) (h : ∀ a dx, H a = none → H dx = none → dx ≠ a → sp [.ref a] [] (upd (upd H dx (.own a)) a (.ins C dx [])) (fun v H3 => v = .non ∧ Q (.ref a) H3) (E σ)) :
    WE X (.Call (.Name x p) [] [] pos) σ H Q := by
  obtain ⟨f, hm, M, F⟩ := f
  intro pins s I
  refine wpAny_Call_Name_kw (ld_glob I gn.gl hm ?_ gn.d1)
  exact PySem.W.callWith_K0 I.kIn M.kp (smake_at (zs := []) (ws := []) M F (B.room.mono hj) (B.at σ) I .nil .nil rfl h)
end
/-! ### the truth of an own class -/
theorem wt_own {X : Cx} {σ : L2.St} {H : Hp} {QT : Bool → Hp → Prop} {k j : Nat} {E : XK} {C f : Addr} {sp : Sp} {e : Expr} (B : Body X k fun _ => E) (c : BoolOwn X.K C f) (F : FnR X.prog X.w X.K X.mg X.base (RX X.prog X.w) j f sp) (hj : j ≤ k)
    (h : WE X e σ H fun v H1 => ∃ x dx fs, v = .ref x ∧ H1 x = some (.ins C dx fs) ∧ sp [.ref x] H1 (fun v H2 => ∃ b, v = .bl b ∧ QT b H2) E) (he : ∀ whole, isTrue e X.env whole = (do let v ← whole; standAt e.pos; holding [v] (truthy v)) := by intro _; rfl) : WT X e σ H QT := by
  intro pins s I
  refine isTrue_plain (thn (h pins s I) fun v s1 z => ?_) (he _)
  obtain ⟨y, H1, I1, ry, x, dx, fs, rfl, ea, q⟩ := z
  cases ry
  obtain ⟨od, J⟩ := inst_of I1 ea
  obtain ⟨m, hF⟩ := I1.fr
  refine PySem.W.truthy_K hF I.ok.mod.kin J c.at_ c.fn (wpAny_mono (run_own (vs := [.ref x]) B F hj I1 (.cons rfl .nil) q) (fun u s' z => ?_) fun _ _ z => z)
  obtain ⟨w', H', I', r', b, rfl, q'⟩ := z
  cases r'
  exact ⟨H', I', q'⟩
end Rs

namespace Rs
open PySem PySem.Spec PyProof.Rows L2 He
/-! ### a, b = e -/
section
variable {X : Cx} {k : Nat} {E : L2.St → XK} {σ : L2.St} {H : Hp} {D : Ends} {e : Expr} {pos : Pos}
theorem ws_unpT {i i' : Nat} {x y : Str} {px py pt : Pos} {kt : Nat} (B : Body X k E) (n : Sl X i x) (n' : Sl X i' y)
    (h : WE X e σ H fun v H1 => ∃ p v0 v1, v = .ref p ∧ SqT X.K H1 p [v0, v1] ∧ D.nx ((σ.set i (some v0)).set i' (some v1)) H1)
    (hs : swapsWithSole [.Tuple [.Name x px, .Name y py] kt pt] e pos.line X.env = pure false := by rfl) (hw : swappedStores [.Tuple [.Name x px, .Name y py] kt pt] e X.env = pure none := by rfl)
    (hn : (assignEach [Expr.Name x px, .Name y py] X.env).length = 2 := by rfl) (hst : (assignEach [Expr.Name x px, .Name y py] X.env).findIdx? (·.1) = none := by rfl)
    (h3 : (assignEach [Expr.Tuple [.Name x px, .Name y py] kt pt] X.env).map (·.2) = [assign (.Tuple [.Name x px, .Name y py] kt pt) X.env] := by rfl) :
    WS X (.Assign [.Tuple [.Name x px, .Name y py] kt pt] e pos) D σ H := by
  refine wsP (ps_asg peS (pg_tup B.calm (pgs_cons (pg_name n.nd n.at_ n.loc n.fn) (pgs_cons (pg_name n'.nd n'.at_ n'.loc n'.fn) pgs_nil)) hn hst) hs hw h3) ?_
  refine we_mono h fun v H1 q => ?_
  obtain ⟨p, v0, v1, rfl, hq, z⟩ := q
  exact ⟨p, _, rfl, hq, rfl, v0, _, rfl, v1, _, rfl, rfl, z⟩
end
theorem we_and4 {X : Cx} {σ : L2.St} {H : Hp} {Q : VK} {a b c d : Expr} {pos : Pos} (h : WE X a σ H fun x H1 => ∃ k, x = .bl k ∧ if k = true then WE X b σ H1 fun y H2 => ∃ k2, y = .bl k2 ∧ if k2 = true then WE X c σ H2 fun z H3 => ∃ k3, z = .bl k3 ∧ if k3 = true then WE X d σ H3 Q else Q (.bl false) H3 else Q (.bl false) H2 else Q (.bl false) H1) :
    WE X (.BoolOp .And [a, b, c, d] pos) σ H Q := weP (pe_and peS (pe_and peS (pe_and peS (pe_one peS)))) h
end Rs

namespace Rs
open PySem PySem.Spec PyProof.Rows L2 He
section
open PySem.W
theorem binop_CD {prog : Program} {w : World} {A : Around} {E : Value → Shared → Prop} {s : Shared} {K : PySem.W.Frag} {x C D f f' : Addr} {ox : Obj} {od : Option Obj} {op : Operator} {b : Value} {rc rd : Option Value} {Q : Value → Shared → Prop} (X : K.In s.heap) (I : InstAt s.heap x ox C od) (hb : Looks (model prog w) s.heap (typeOf b) (.ref D)) (hc : selfFirst K C = true) (hd : selfFirst K D = true) (hCD : C ≠ D)
    (hs : findIn K (.ref C) (PySem.dunder op.info.2) = some (some (.ref f))) (hf : isFn K (.ref f) = true) (hr : findIn K (.ref C) (dunderR op.info.2) = some rc) (hp : rc = none ∨ ∃ g : Addr, rc = some (.ref g))
    (hs' : findIn K (.ref D) (PySem.dunder op.info.2) = some (some (.ref f'))) (hr' : findIn K (.ref D) (dunderR op.info.2) = some rd) (hp' : rd = none ∨ ∃ g : Addr, rd = some (.ref g)) (hsub : subIn K (.ref D) (.ref C) = some false)
    (h : wpAny (model prog w) A (call (.ref f) [.ref x, b]) (W.CmpBack Q) E s) : wpAny (model prog w) A (binaryOp op (.ref x) b) Q E s := by
  obtain ⟨cd, rest, hcd, hm⟩ := ksp_first hc
  obtain ⟨cd', rest', hcd', hm'⟩ := ksp_first hd
  rcases hi : op.info with ⟨sym, nm'⟩
  rw [hi] at hs hr hs' hr'
  dsimp only at hs hr hs' hr'
  have one := ksp_try X I hs hf h
  obtain ⟨hh, g, d, tt, os⟩ := s
  have L1 : Looks (model prog w) hh (typeOf (.ref x)) (.ref C) := I.type
  have L2 : Looks (model prog w) hh (typeOf b) (.ref D) := hb
  have L3 : Looks (model prog w) hh (fillsNumberSlot (.ref C) nm') true := fills_K X hcd hm hs
  have L4 : Looks (model prog w) hh (fillsNumberSlot (.ref D) nm') true := fills_K X hcd' hm' hs'
  have L5 : Looks (model prog w) hh (isSubtype (.ref D) (.ref C)) false := looks_subIn X hsub
  have L6 : Looks (model prog w) hh (numberSlotInPython (.ref C) nm') true := ksp_inPy X hs hr hp
  have L7 : Looks (model prog w) hh (numberSlotInPython (.ref D) nm') true := ksp_inPy X hs' hr' hp'
  have hne : (Value.ref C == Value.ref D) = false := Bool.eq_false_iff.mpr fun q => hCD (by injection (beq_iff_eq.mp q))
  simp only [binaryOp, hi]
  refine wpAny_holding (wpAny_bind ?_)
  unfold binaryOp1
  refine wpAny_bind (L1.at (wpAny_bind (L2.at (wpAny_bind (L3.at ?_)))))
  simp only [hne, Bool.false_eq_true, if_false]
  ksp_lk
  refine wpAny_mono one (fun r s' hr' => ?_) fun _ _ e => e
  obtain ⟨v, rfl, hq⟩ := hr'
  ksp_lk
  exact hq
end
section
variable {X : Cx} {k j : Nat} {E : XK} {sp : Sp} {C D f f' a b dx dy : Addr} {fs gs : List (Str × V)} {H : Hp} {Q : VK} {op : Operator} {cop : CmpOp}
/-- o op o', two classes -/
theorem bin_td (B : Body X k fun _ => E) (c : BinOwn X.K C f op) (c' : BinOwn X.K D f' op) (hs : PySem.W.subIn X.K (.ref D) (.ref C) = some false) (hC : C ≠ D) (F : FnR X.prog X.w X.K X.mg X.base (RX X.prog X.w) j f sp) (hj : j ≤ k) (ea : H a = some (.ins C dx fs)) (eb : H b = some (.ins D dy gs)) (h : sp [.ref a, .ref b] H Q E) :
    Op2 X (binaryOp op) (.ref a) (.ref b) H Q := by
  intro pins s σ u v I ru rv
  cases ru
  cases rv
  obtain ⟨od, J⟩ := inst_of I ea
  obtain ⟨od', J'⟩ := inst_of I eb
  obtain ⟨rc, h1, h2⟩ := c.rc
  obtain ⟨rd, h3, h4⟩ := c'.rc
  exact binop_CD I.kIn J J'.type c.sf c'.sf hC c.at_ c.fn h1 h2 c'.at_ h3 h4 hs (back (run_own (vs := [.ref a, .ref b]) B F hj I (.cons rfl (.cons rfl .nil)) h))
/-- o < o', two classes -/
theorem cmp_td (B : Body X k fun _ => E) (r : Rich cop) (c : CmpOwn X.K C f cop) (hs : PySem.W.subIn X.K (.ref D) (.ref C) = some false) (F : FnR X.prog X.w X.K X.mg X.base (RX X.prog X.w) j f sp) (hj : j ≤ k) (ea : H a = some (.ins C dx fs)) (eb : H b = some (.ins D dy gs)) (h : sp [.ref a, .ref b] H Q E) :
    Op2 X (compareOp cop) (.ref a) (.ref b) H Q := by
  intro pins s σ u v I ru rv
  cases ru
  cases rv
  obtain ⟨od, J⟩ := inst_of I ea
  obtain ⟨od', J'⟩ := inst_of I eb
  obtain ⟨m, hF⟩ := I.fr
  rw [r]
  exact PySem.W.cmp_K (op := cop) (tb := .ref D) B.room.units0 hF I.ok.mod.kin J J'.type (by unfold PySem.W.notFirst; simp [hs]) c.at_ c.fn (back (run_own (vs := [.ref a, .ref b]) B F hj I (.cons rfl (.cons rfl .nil)) h))
end
/-! ### sorted(ints), xs.index(y), y in xs -/
section
variable {X : Cx} {σ : L2.St} {H : Hp} {Q : VK} {k : Nat} {a o e : Expr} {p pos apos cpos : Pos}
theorem we_intB (bn : Bn X "int") (h : WE X a σ H fun v H1 => ∃ i, v = .bl i ∧ Q (.int (if i then 1 else 0)) H1) (hs : starEach [a] X.env = [(false, eval a X.env)] := by rfl) (hl : (backTo pos (starEach [] X.env)).any (·.1) = false := by rfl) :
    WE X (.Call (.Name "int" p) [a] [] pos) σ H Q := we_callT call_int1 bn boot_int (wa_one (we_mono h fun v H1 q => by
    obtain ⟨i, rfl, q⟩ := q
    exact .inr ⟨i, rfl, q⟩) hs) (by decide) (by decide) hs hl
theorem boot_sorted : bootBuiltins "sorted" = some (.builtin "sorted") := by decide +kernel
theorem we_sortI (bn : Bn X "sorted") (h : WE X a σ H fun v H1 => ∃ l ns, v = .ref l ∧ SqL X.K H1 l (List.map V.int ns) ∧ ∀ (ns' : List Int) (p : Addr), ns'.Perm ns → ns'.Pairwise (· ≤ ·) → H1 p = none → Q (.ref p) (upd H1 p (.lst (ns'.map V.int)))) (hs : starEach [a] X.env = [(false, eval a X.env)] := by rfl) (hl : (backTo pos (starEach [] X.env)).any (·.1) = false := by rfl) :
    WE X (.Call (.Name "sorted" p) [a] [] pos) σ H Q := we_callB cr_sortedI bn boot_sorted (wa_one (we_mono h fun v H1 q => by
    obtain ⟨l, ns, rfl, h1, q⟩ := q
    exact ⟨l, ns, rfl, h1, q⟩) hs) (by decide) (by decide) hs hl
theorem we_index (h : WE X o σ H fun v H1 => ∃ l ys, v = .ref l ∧ SqL X.K H1 l ys ∧ WE X e σ H1 fun y H2 => ∃ (j : Nat) (z : V), SqL X.K H2 l ys ∧ flatV y = true ∧ ys.all flatV = true ∧ ys[j]? = some z ∧ eqV z y = true ∧ (∀ (m : Nat) (z' : V), m < j → ys[m]? = some z' → eqV z' y = false) ∧ Q (.int (j : Nat)) H2)
    (hbase : attributeBase o "index" X.env (eval o X.env) = eval o X.env := by rfl)
    (hfew : ((backTo cpos (starEach [e] X.env)).all (fun x => !x.1) && (backToKw cpos (keywordEach [] X.env)).all (fun x => x.1.isSome) && decide ([e].length + ([] : List Keyword).length + (if ([] : List Keyword).isEmpty then 0 else 1) < 30)) = true := by rfl)
    (hline : (apos.endLine == cpos.line) = true := by rfl) (hs : starEach [e] X.env = (false, eval e X.env) :: starEach [] X.env := by rfl) (hplain : (backTo cpos (starEach [] X.env)).any (·.1) = false := by rfl) :
    WE X (.Call (.Attribute o "index" apos) [e] [] cpos) σ H Q :=
  weP (pe_bm PySem.F.plainAttrs_list PySem.F.slot_list_index PySem.F.type_list_index mt_index peS paS hbase hfew hline hs hplain) (we_mono h fun v H1 z => by
    obtain ⟨l, ys, rfl, hl, z⟩ := z
    refine ⟨.inl ⟨rfl, ys, hl⟩, wa_one (we_mono z fun y H2 z => ?_) hs⟩
    obtain ⟨j, u, h2, h3, h4, h5, h6, h7, z⟩ := z
    exact ⟨l, ys, y, j, u, rfl, rfl, h2, h3, h4, h5, h6, h7, z⟩)
theorem o_inL {v : V} {a : Addr} {xs : List V} (h : SqL X.K H a xs) (hv : flatV v = true) (hx : xs.all flatV = true) (q : Q (.bl (inV v xs)) H) : Op2 X (compareOp .In) v (.ref a) H Q := op2_of op_in_seq ⟨a, xs, rfl, .inl h, hv, hx, q⟩
theorem o_notInL {v : V} {a : Addr} {xs : List V} (h : SqL X.K H a xs) (hv : flatV v = true) (hx : xs.all flatV = true) (q : Q (.bl (!inV v xs)) H) : Op2 X (compareOp .NotIn) v (.ref a) H Q := op2_of op_notIn_seq ⟨a, xs, rfl, .inl h, hv, hx, q⟩
end
end Rs

namespace Rs
open PySem PySem.Spec PyProof.Rows L2 He
theorem bMeth_ok {K : PySem.W.Frag} {C : Addr} {m : Str} {g : Addr} (h : bMethB K C m g = true) : BMeth K C m g := by
  obtain ⟨h1, h⟩ := ba h
  obtain ⟨h2, h⟩ := ba h
  obtain ⟨h3, h⟩ := ba h
  obtain ⟨h4, h⟩ := ba h
  obtain ⟨h5, h⟩ := ba h
  obtain ⟨h6, h7⟩ := ba h
  exact ⟨⟨of_decide_eq_true h1, h2, h3⟩, of_decide_eq_true h4, of_decide_eq_true h5, of_decide_eq_true h6, h7⟩
end Rs

namespace Rs
open PySem PySem.Spec PyProof.Rows L2 He
/-! ### raise X(..) from n, n the exception that is handled -/
/-- an exception with a cause given: slots 3 and 4 -/
def causeOf (c : Addr) (o : Obj) : Obj := (o.mapFields (·.setIfInBounds 3 (.ref c))).mapFields (·.setIfInBounds 4 (.bool true))
def causeFrom (h : Heap) (a c : Addr) : Heap := (h.update a (Obj.mapFields (·.setIfInBounds 3 (.ref c)))).update a (Obj.mapFields (·.setIfInBounds 4 (.bool true)))
theorem causeOf_data {o : Obj} {c : Addr} {vs : Array Value} (d : o.data = .fields vs) : (causeOf c o).data = .fields ((vs.setIfInBounds 3 (.ref c)).setIfInBounds 4 (.bool true)) := Obj.data_mapFields (Obj.data_mapFields d _) _
theorem cause3_at {h : Heap} {a c : Addr} {o : Obj} {vs : Array Value} (e : h.get? a = some o) (d : o.data = .fields vs) : (h.update a (Obj.mapFields (·.setIfInBounds 3 (.ref c)))).get? a = some (o.mapFields (·.setIfInBounds 3 (.ref c))) :=
  Heap.get?_update_self _ e (Obj.isFreed_of_fields (Obj.data_mapFields d _))
theorem causeFrom_at {h : Heap} {a c : Addr} {o : Obj} {vs : Array Value} (e : h.get? a = some o) (d : o.data = .fields vs) : (causeFrom h a c).get? a = some (causeOf c o) :=
  Heap.get?_update_self _ (cause3_at e d) (Obj.isFreed_of_fields (causeOf_data d))
theorem causeFrom_other {h : Heap} {a b c : Addr} (ne : a ≠ b) : (causeFrom h a c).get? b = h.get? b := (Heap.get?_update_other _ _ ne).trans (Heap.get?_update_other _ _ ne)
section
variable {M : Model} {A : Around} {E : Value → Shared → Prop} {t : Shared} {b : Addr} {o : Obj} {vb : Array Value}
theorem no_type {R : Bool → Shared → Prop} (e : t.heap.get? b = some o) (d : o.data = .fields vb) (q : R false t) : wpAny M A (isType (.ref b)) R E t := by
  unfold isType loadHead
  exact wpAny_bind (wpAny_loadPart e (by rw [d]; exact wpAny_pure q))
theorem no_class {R : Bool → Shared → Prop} (e : t.heap.get? b = some o) (d : o.data = .fields vb) (q : R false t) : wpAny M A (isExcClass (.ref b)) R E t := by
  unfold isExcClass
  exact wpAny_bind (no_type e d (by simp only [Bool.false_eq_true, if_false]; exact wpAny_pure q))
theorem looks_cls {h : Heap} {c : Value} (e : h.get? b = some o) (hc : o.cls = c) : PySem.W.Looks M h (typeOf (.ref b)) c := by
  subst hc
  exact fun _ _ _ _ k q => wpAny_typeOf_ref (k _ _ e) q
/-- an instance of an exception class is its own exception -/
theorem exc_itself {R : Value → Shared → Prop} {m : String} (e : t.heap.get? b = some o) (d : o.data = .fields vb) (l : PySem.W.Looks M t.heap (isSubtype o.cls (.type "BaseException")) true) (q : R (.ref b) t) : wpAny M A (excFromValue (.ref b) m) R E t := by
  unfold excFromValue
  refine wpAny_bind (no_class e d ?_)
  have li : PySem.W.Looks M t.heap (isInstance (.ref b) (.type "BaseException")) true := (looks_cls e rfl).andThen l
  simp only [Bool.false_eq_true, if_false]
  exact wpAny_bind (li.here (by simp only [if_true]; exact wpAny_pure q))
theorem raised_itself {R : Value → Shared → Prop} (e : t.heap.get? b = some o) (l : PySem.W.Looks M t.heap (typeOf o.cls) (.type "type")) (q : R (.ref b) t) : wpAny M A (raisedInstance (.ref b)) R E t := by
  unfold raisedInstance
  exact wpAny_bind ((looks_cls e rfl).here (wpAny_bind (l.here (by rw [if_pos (beq_self_eq_true (Value.type "type"))]; exact wpAny_pure q))))
theorem no_flight {R : Unit → Shared → Prop} {fr : Option Addr} (e : t.heap.get? b = some o) (d : o.data = .fields vb) (h1 : vb[1]? = some .none) (q : R () t) : wpAny M A (setFlight (.ref b) fr) R E t := by
  unfold setFlight
  exact wpAny_bind (wpAny_field e d h1 (by rw [if_neg (by decide)]; exact wpAny_pure q))
end
/-- what raise .. from .. asks of the exception made, of the one that is handled, and of the state behind -/
structure FromOk (prog : Program) (w : World) (A : Around) (E : Value → Shared → Prop) (x1 : Addr) (c : Sem Value) (a : Addr) (t : Shared) : Prop where
  made : ∃ o vs, t.heap.get? a = some o ∧ o.data = .fields vs ∧ vs[1]? = some .none ∧ 4 < vs.size ∧ PySem.W.Looks (model prog w) t.heap (isSubtype o.cls (.type "BaseException")) true ∧ PySem.W.Looks (model prog w) (causeFrom t.heap a x1) (typeOf o.cls) (.type "type")
  ne : x1 ≠ a
  hot : HotX.HotAt A x1 t.heap
  from_ : ∃ o vs, t.heap.get? x1 = some o ∧ o.data = .fields vs ∧ PySem.W.Looks (model prog w) t.heap (isSubtype o.cls (.type "BaseException")) true
  named : ∀ R : Value → Shared → Prop, R (.ref x1) t → wpAny (model prog w) A c R E t
  thrown : E (.ref a) { t with heap := (causeFrom t.heap a x1).update a (Obj.mapFields (·.setIfInBounds 2 (.ref x1))) }
theorem raise_fromW {prog : Program} {w : World} {A : Around} {E : Value → Shared → Prop} {env : Env} {s : Shared} {x c : Sem Value} {Q : Flow → Shared → Prop} {x1 : Addr}
    (h : wpAny (model prog w) A x (fun v t => ∃ a, v = .ref a ∧ FromOk prog w A E x1 c a t) E s) : wpAny (model prog w) A (raiseStmt env (some x) (some c)) Q E s := by
  unfold raiseStmt
  dsimp only
  refine wpAny_bind (wpAny_mono h (fun v t z => ?_) fun _ _ e => e)
  obtain ⟨a, rfl, ⟨o, vs, ea, da, v1, v4, la, lt⟩, ne, hot, ⟨ox, vx, ex, dx, lx⟩, nam, thr⟩ := z
  have d2 := causeOf_data (c := x1) da
  have e2 := causeFrom_at (c := x1) ea da
  have hot2 : HotX.HotAt A x1 (causeFrom t.heap a x1) := hot.imp id fun z => z.elim fun o z => z.elim fun vs z => ⟨o, vs, (causeFrom_other (Ne.symm ne)).trans z.1, z.2⟩
  have v1' : ((vs.setIfInBounds 3 (Value.ref x1)).setIfInBounds 4 (.bool true))[1]? = some Value.none := HotX.set_other (by decide) (HotX.set_other (by decide) v1)
  have sz : ((vs.setIfInBounds 3 (Value.ref x1)).setIfInBounds 4 (Value.bool true)).size = vs.size := by rw [HotX.set_size, HotX.set_size]
  refine wpAny_bind (wpAny_holding (nam _ (wpAny_bind (wpAny_pure (wpAny_bind (wpAny_holding (exc_itself ea da la ?_)))))))
  have nn : ¬ ((Value.ref x1 == Value.none) = true) := by simp
  simp only [nn, if_false]
  refine wpAny_bind (wpAny_holding (exc_itself ex dx lx ?_))
  refine wpAny_bind (wpAny_setField ea da (by omega) (wpAny_bind (wpAny_setField (cause3_at ea da) (Obj.data_mapFields da _) (by rw [HotX.set_size]; exact v4) ?_)))
  refine wpAny_bind (no_type (t := { t with heap := causeFrom t.heap a x1 }) e2 d2 ?_)
  simp only [Bool.false_eq_true, if_false]
  refine wpAny_bind (raised_itself (t := { t with heap := causeFrom t.heap a x1 }) e2 (by rw [show (causeOf x1 o).cls = o.cls from by unfold causeOf; rw [Obj.cls_mapFields, Obj.cls_mapFields]]; exact lt) ?_)
  exact wpAny_bind (no_flight (t := { t with heap := causeFrom t.heap a x1 }) e2 d2 v1' (HotX.raiseNew_hot hot2 ne e2 d2 (by rw [sz]; omega) thr))
/-! ### contexts that take exceptions with any context -/
theorem taN {X : Cx} {W : WX} (tk : L2.Takes X W) : L2N.Takes X W := fun u s' ⟨a, B, sI, pins, σ, H, cls, d, e, I, nb, up, sky, na, os, ag, w⟩ => by
  refine tk u s' ⟨a, B, sI, pins, σ, H, cls, d, e, I, nb, up, ?_, na, os, ag, w⟩
  rcases sky with ⟨h1, h2, h3, oe, vs, he, hz, r⟩ | fl | hd
  · exact .inl ⟨h1, h2, h3, oe, vs, he, hz.zc, r⟩
  · exact .inr (.inl (L2H.flyingZ_imp (fun o z => z.zc) fl))
  · exact .inr (.inr ⟨hd.1, hd.2.1, hd.2.2.1, L2H.tracedZ_imp (fun o z => z.zc) hd.2.2.2⟩)
structure BodyX (X : Cx) (k : Nat) (E : L2.St → XK) : Prop where
  b : Body X k E
  tk : L2.Takes X fun cls d σ H => E σ cls d H
  pa : ∀ hd : Option Value, PassesOwnAt (model X.prog X.w) (X.A.mark hd) X.A X.env X.xe
section
variable {P : Program} {w : World} {K : PySem.W.Frag} {mg : Str → Option Value} {base : Heap} {N ps : List Str} {name qual : Str} {pa : Arguments} {body : List Stmt} {sc : Scope} {dvs : List V} {kws : List (Str × V)} {f : Addr} {fd : FuncData} {k : Nat} {sp : Sp}
/-- a def that raises in an except suite -/
theorem def_okX (F : FunD K name qual pa body sc dvs kws f fd) (S : FnScope N ps sc) (len : ∀ vs H Q E, sp vs H Q E → vs.length = ps.length)
    (hb : ∀ (X : Cx), X.prog = P → X.w = w → X.K = K → X.mg = mg → X.base = base → X.N = N → X.env.scope = sc → (∀ x, X.fn x = true) → N.Nodup → ∀ (H : Hp) (vs : List V) (Q : VK) (E : XK), BodyX X k (fun _ => E) → sp vs H Q E → WB X body { nx := fun _ H' => Q .non H', rt := Q } (start N vs) H) :
    FnOk P w K mg base (L2.CX P w) (k + 1) f fd ps sp :=
  F.ok S len fun cdv A outer s H vs Q E hr h => by
    have tk : L2.Takes (cxOf (L2.CX P w) P w K mg base N qual sc f cdv A outer s H E) (fun cls d _ H' => E cls d H') := L2.takes_of rfl rfl rfl rfl
    exact ⟨_, pbS, hb (cxOf (L2.CX P w) P w K mg base N qual sc f cdv A outer s H E) rfl rfl rfl rfl rfl rfl rfl (fun _ => rfl) S.nd H vs Q E ⟨⟨rfl, hr, taN tk, passes_of rfl, fun _ => rfl, fun _ => rfl⟩, tk, L2H.passesAt_of (K := fun e s'' => L2.CX P w outer H s E e s'') (E₁ := fun e s'' => L2.CX P w outer H s E e s'') rfl⟩ h⟩
end
/-- a def whose exceptions may have any context -/
def GFnX (P : Program) (w : World) (K : PySem.W.Frag) (mg : Str → Option Value) (base : Heap) (k : Nat) (x : Str) (sp : Sp) : Prop :=
  ∃ f, mg x = some (.ref f) ∧ PySem.W.keepIn K (.ref f) = true ∧ FnR P w K mg base (L2.CX P w) k f sp
section
variable {X : Cx} {σ : L2.St} {H : Hp} {Q : VK} {D : Ends} {k j i : Nat} {E : L2.St → XK} {x n : Str} {sp : Sp} {p pos pos' np cpos : Pos} {e ea : Expr} {es : List Expr} {c : Value} {C : Addr} {fld : Str} {body suite : List Stmt} {b₀ : Stmt}
theorem we_callX (B : Body X k E) (tk : L2.Takes X fun cls d σ H => E σ cls d H) (g : Gn X x) (f : GFnX X.prog X.w X.K X.mg X.base j x sp) (hj : j ≤ k) (h : WA X (e :: es) σ H fun vs H1 => sp vs H1 Q (E σ))
    (hs : starEach (e :: es) X.env = (false, eval e X.env) :: starEach es X.env := by rfl) (hl : (backTo pos (starEach es X.env)).any (·.1) = false := by rfl) : WE X (.Call (.Name x p) (e :: es) [] pos) σ H Q := by
  obtain ⟨a, hm, hk, F⟩ := f
  intro pins s I
  refine wpAny_Call_Name_kw (ld_glob I g.gl hm ?_ g.d1)
  refine PySem.W.callWith_K (h₀ := X.base) I.ok.mod.kin hk (thn (h pos pins s I) fun us s1 z => ?_) hs hl
  obtain ⟨vs, H1, I1, r, q⟩ := z
  exact ⟨I1.kIn, go_at F (B.room.mono hj) (L2.passAt tk σ) I1 r q⟩
/-- an own exception made in an except suite -/
theorem pmk_ini5 (hr : L2H.RoomH 2 X.A) (c : IniC X.prog X.K X.mg C fld) (g : Gn X x) (hm : X.mg x = some (.ref C))
    (he : starEach [ea] X.env = (false, eval ea X.env) :: starEach [] X.env := by rfl) :
    L2H.PMk5 X (.Call (.Name x p) [ea] [] pos) (fun σ H Q => WE X ea σ H fun v H1 => ∀ d, H1 d = none → Q (.ref C) (some d) (upd H1 d (.xd [(fld, v)]))) := by
  intro pins s σ H Q I h
  obtain ⟨f, qual, par, m, pa, sc, ar, j, p0, p1, p2, p3, p4, p5, p6, p7, p8, p9, T, F, hlin, hp, har, hbind, hps, hks, hkc, hka, hkb, hcell, hco, hgen, hk, hdp⟩ := c.ex
  refine wpAny_Call_Name_kw (ld_glob I g.gl hm ?_ g.d1)
  refine PySem.W.callWith_K (h₀ := X.base) I.ok.mod.kin T.kp (thn ((wa_one (QA := fun vs H1 => ∃ v, vs = [v] ∧ ∀ d, H1 d = none → Q (.ref C) (some d) (upd H1 d (.xd [(fld, v)]))) (we_mono h fun v H1 q => ⟨v, rfl, q⟩) he) pos pins s I) fun us s1 z => ?_) he rfl
  obtain ⟨vs, H1, I1, r1, v, rfl, q1⟩ := z
  refine ⟨I1.kIn, ?_⟩
  cases r1 with
  | @cons _ u0 _ ur ru rn =>
  cases rn
  show wpAny _ _ (call (.ref C) [u0]) _ _ _
  obtain ⟨nm, N', qn, bs, bm, hdct, sn, sub, ab, col, dd, k0, k1, k2, k3, k5, hC, hT⟩ := PySem.W.excInit_of I1.kIn T.ex
  obtain ⟨hp', gn, dr, tk, os⟩ := s1
  have kk : ∀ b o, hp'.get? b = some o → ((hp'.push (PySem.W.kdv_tup [u0])).push (PySem.HandSPX.excO C hp'.objs.size)).get? b = some o := fun b o e => Heap.get?_push_of_some _ (Heap.get?_push_of_some _ e)
  have hget : ((hp'.push (PySem.W.kdv_tup [u0])).push (PySem.HandSPX.excO C hp'.objs.size)).get? (hp'.objs.size + 1) = some (PySem.HandSPX.excO C hp'.objs.size) := by heap_get
  have hnew : hp'.get? (hp'.objs.size + 1) = none := Heap.get?_none_of_le (Nat.le_succ _)
  obtain ⟨mb, hb1, hb2⟩ := I1.mod.blt
  have hdep : (X.A.under (.builtin "type.__call__" ⟨.ref C :: [u0], []⟩)).depth < recursionLimit := by
    have := hr.dp
    rw [make_depth]
    omega
  refine wpAny_call (PySem.HandSPX.call_own PySem.F.excBase_ValueError hT hC (PySem.W.looks_findIn I1.kIn T.ini) (fun self => PySem.W.bind_fn I1.kIn self T.tf) (by show 1 ≤ sizeLine; rw [sizeLine_eq]; omega)
    (ini_run (mg := X.mg) hdep (I1.kIn.keeps kk) ((I1.mod.glob.keeps I1.bk).keeps kk) ⟨mb, (hb1.keeps I1.bk).keeps kk, hb2⟩ (I1.nolimit.keeps kk) c.su T F hlin hp har hbind hps hks hkc hka hkb hcell hco hgen hk c.no hdp hget ?_ ?_))
  · cases z : X.K.lookup (hp'.objs.size + 1) with
    | none => rfl
    | some o =>
      have y := I1.kIn _ _ z
      rw [hnew] at y
      cases y
  · intro h' t' dx t1 k' dn dne hx hn
    have hsz : hp'.objs.size ≤ dx := Nat.le_trans (by rw [Heap.size_push, Heap.size_push]; omega) dn
    obtain ⟨G, g1, g2⟩ := restrict h' fun b => decide (b ≠ hp'.objs.size + 1)
    have gk : ∀ b, b ≠ hp'.objs.size + 1 → G.get? b = h'.get? b := fun b hb => g1 b (decide_eq_true hb)
    have ge : G.get? (hp'.objs.size + 1) = none := g2 _ (by simp)
    have kG : ∀ b o, hp'.get? b = some o → G.get? b = some o := fun b o e => by
      have hb : b ≠ hp'.objs.size + 1 := fun z => by
        rw [z, hnew] at e
        cases e
      rw [gk b hb]
      exact k' b o hb (kk b o e)
    have J : Inv X pins σ (upd H1 dx (.xd [(fld, v)])) ⟨G, gn, dr, t', os⟩ := I1.laid (t' := t') (a := dx) (o := .xd [(fld, v)]) (h' := G) kG hsz
      ⟨_, hn.at fun o y => (gk dx dne).trans y, relO_put (fs := []) ru fun g => True.intro⟩
    refine ⟨rfl, ⟨hp'.objs.size + 1, _, _, ⟨G, gn, dr, t', os⟩, _, .ref C, some dx, rfl, J, fun b o z => ?_, ge, hx, ⟨rfl, rfl, fun vs e => by cases e; rfl⟩, rfl, rfl, ?_, rfl, I1.bare, raises_own T.sb T.ty, q1 dx (I1.hok.fresh hsz)⟩, fun a oe vs ea hg hd => ?_⟩
    · by_cases hba : b = hp'.objs.size + 1
      · rw [hba, ge] at z
        cases z
      · exact (gk b hba).symm.trans z
    · rw [upd_ne (Ne.symm dne)]
      exact I1.hok.fresh (Nat.le_succ _)
    · cases ea
      have hg : h'.get? (hp'.objs.size + 1) = some oe := hg
      rw [hx] at hg
      cases hg
      cases hd
      show (4 : Nat) < 6
      decide
/-- raise X(..) from n -/
theorem ps_raiseW {W : WX} {t : L2.St → Hp → XK → Prop} {x1 : Addr} {oc : Obj} {vc : Array Value} (hh : X.A.handled = some (.ref x1)) (hp : (x1, oc) ∈ X.pn) (hdc : oc.data = .fields vc) (hc2 : vc[2]? = some .none)
    (hsb : PySem.W.subIn X.K oc.cls (.type "BaseException") = some true) (hN : X.N[i]? = some n) (hv : Vis X.env.scope n) (hdb : (n == ("__debug__" : Str)) = false) (hcd : (n == ("__classdict__" : Str)) = false)
    (tk : L2.Takes X W) (he : L2H.PMk5 X e t) : PS X (.Raise (some e) (some (.Name n np)) pos) (fun _ σ H => σ[i]? = some (some (.ref x1)) ∧ t σ H fun cls d H' => W cls d σ H') := by
  constructor
  rintro pins s σ H D I ⟨at1, h⟩
  show wpAny _ _ (do standAt pos; raiseStmt X.env (some (do let v ← eval e X.env; standAt pos; pure v)) (some (do let v ← eval (.Name n np) X.env; standAt pos; pure v))) _ _ _
  refine wpAny_bind (wpAny_standAt (raise_fromW (x1 := x1) (wpAny_bind (wpAny_mono (he pins s σ H _ I h) (fun u t z => wpAny_bind (wpAny_standAt (wpAny_pure ?_))) fun _ _ x => x))))
  obtain ⟨⟨a, oe, vs, t0, G, cls, d, rfl, J, k, fresh, ea, zn, da, v1, na, eo, ag, r, q⟩, room⟩ := z
  have was := (J.pin (x1, oc) (List.mem_append_left _ hp)).1
  have off : ∀ {b : Addr} {u : Obj}, t0.heap.get? b = some u → a ≠ b := fun e y => by
    subst y
    rw [fresh] at e
    cases e
  have grown : ∀ b u, t0.heap.get? b = some u → (causeFrom t.heap a x1).get? b = some u := fun b u e => (causeFrom_other (off e)).trans (k b u e)
  have is1 := k _ _ was
  have v12 : (((vs.setIfInBounds 3 (Value.ref x1)).setIfInBounds 4 (Value.bool true)).setIfInBounds 2 (Value.ref x1))[1]? = some Value.none := by
    repeat refine HotX.set_other (by decide) ?_
    exact v1
  have cls4 : (Obj.mapFields (·.setIfInBounds 2 (.ref x1)) (causeOf x1 oe)).cls = cls := by
    unfold causeOf
    rw [Obj.cls_mapFields, Obj.cls_mapFields, Obj.cls_mapFields]
    exact zn.1
  have dict4 : (Obj.mapFields (·.setIfInBounds 2 (.ref x1)) (causeOf x1 oe)).dict = oe.dict := by
    unfold causeOf
    rw [HandSPX.dict_mapFields, HandSPX.dict_mapFields, HandSPX.dict_mapFields]
  have d4 := Obj.data_mapFields (causeOf_data (c := x1) da) (·.setIfInBounds 2 (.ref x1))
  refine ⟨a, rfl, { made := ⟨oe, vs, ea, da, v1, room a oe vs rfl ea da, ?_, ?_⟩, ne := (off was).symm, hot := ⟨hh, oc, vc, is1, hdc, hc2⟩, from_ := ⟨oc, vc, is1, hdc, PySem.W.looks_subIn (J.kIn.keeps k) hsb⟩, named := fun R q' => ?_, thrown := tk _ _ (L2.XE.new J (fun b u e => (Heap.get?_update_other _ _ (off e)).trans (grown b u e)) fresh (Heap.get?_update_self _ (causeFrom_at ea da) (Obj.isFreed_of_fields d4)) ⟨cls4, dict4.trans zn.2.1⟩ d4 v12 na eo ag q) }⟩
  · rw [zn.1]
    exact (r _ _ (J.kIn.keeps k)).1
  · rw [zn.1]
    exact (r _ _ (J.kIn.keeps grown)).2
  · obtain ⟨m, hn, hl⟩ := J.loc
    obtain ⟨u, ru, l⟩ := hl i n (.ref x1) hN at1 hv
    cases ru
    have last : wpAny (model X.prog X.w) X.A (standAt pos >>= fun _ => (pure (Value.ref x1) : Sem Value)) R X.xe t := wpAny_bind (wpAny_standAt (wpAny_pure q'))
    match l with
    | .inl ⟨k1, k2⟩ => exact wpAny_bind (wpAny_Name (wpAny_loadName_local J.ok.kind k1 (hn.keeps k) k2 last) hdb)
    | .inr ⟨.inl k1, c, k2, o, k3, k4⟩ => exact wpAny_bind (wpAny_Name (wpAny_loadName_cell J.ok.kind k1 k2 ⟨o, k _ _ k3, k4⟩ last) hdb)
    | .inr ⟨.inr k1, c, k2, o, k3, k4⟩ => exact wpAny_bind (wpAny_Name (wpAny_loadName_free J.ok.kind k1 k2 ⟨o, k _ _ k3, k4⟩ last hcd) hdb)
theorem ws_raiseW {x1 : Addr} {oc : Obj} {vc : Array Value} {W : WX} (hh : X.A.handled = some (.ref x1)) (hp : (x1, oc) ∈ X.pn) (hdc : oc.data = .fields vc) (hc2 : vc[2]? = some .none)
    (hsb : PySem.W.subIn X.K oc.cls (.type "BaseException") = some true) (s : Sl X i n) (tk : L2.Takes X W) (hr : L2H.RoomH 2 X.A) (c : IniC X.prog X.K X.mg C fld) (g : Gn X x) (hm : X.mg x = some (.ref C))
    (h : σ[i]? = some (some (.ref x1)) ∧ WE X ea σ H fun v H1 => ∀ d, H1 d = none → W (.ref C) (some d) σ (upd H1 d (.xd [(fld, v)])))
    (he : starEach [ea] X.env = (false, eval ea X.env) :: starEach [] X.env := by rfl) : WS X (.Raise (some (.Call (.Name x p) [ea] [] pos)) (some (.Name n np)) pos') D σ H :=
  wsP (ps_raiseW (i := i) hh hp hdc hc2 hsb s.at_ (s.loc.elim .inl fun z => .inr (.inl z)) s.d1 s.d2 tk (pmk_ini5 hr c g hm he)) h
/-! an exception out of a suite that names it: the name goes first -/
theorem ff_but {h h' base : Heap} {L0 : Addr} {o' : Obj} (k : ∀ b, b ≠ L0 → h'.get? b = h.get? b) (h0 : h'.get? L0 = some o') (d0 : ∀ vs, o'.data ≠ .fields vs) : ∀ {l : List Env}, h.FunFrames base l → h'.FunFrames base l
  | [], _ => trivial
  | env :: rest, hl => by
    obtain ⟨hk, ⟨L, o, hf, hn, ho, hd⟩, hr⟩ := hl
    refine ⟨hk, ?_, ff_but k h0 d0 hr⟩
    by_cases c : L = L0
    · subst c
      exact ⟨L, o', hf, hn, h0, d0⟩
    · exact ⟨L, o, hf, hn, (k L c).trans ho, hd⟩
theorem inv_gone {pins : List (Addr × Obj)} {s : Shared} {G' : Heap} {m m' : Str → Option Value} {t : Nat} (I : Inv X pins σ H s) (hlk : ∀ (j : Nat) (y : Str) (v : V), X.N[j]? = some y → σ[j]? = some (some v) → Vis X.env.scope y → ∃ u, L2.RelV v u ∧ Look X.env s.heap m y u)
    (hN : X.N.Nodup) (hi : X.N[i]? = some n) (hn' : G'.Ns X.env.locals m') (hm : ∀ y, y ≠ n → m' y = m y) (hs : ∀ b, b ≠ X.env.locals → G'.get? b = s.heap.get? b) : Inv X pins (σ.set i none) H { s with heap := G', toks := t } := by
  have old : ∀ {b : Addr} {o : Obj}, X.s_0.heap.get? b = some o → G'.get? b = s.heap.get? b := fun e => hs _ (Nat.ne_of_lt (Nat.lt_of_lt_of_le (Heap.lt_size e) I.ok.above))
  refine { ok := I.ok, os := I.os, bare := I.bare, free := I.free, freeC := I.freeC, len := by rw [List.length_set]; exact I.len, base := { keep := fun b o e n c x => (old e).trans (I.base.keep b o e n c x), slot := fun b o e c x y => (I.base.slot b o e c x y).imp fun _ q => (old e).trans q, free := I.base.free, there := fun b o e x => (I.base.there b o e x).imp fun _ q => (old e).trans q, tups := I.base.tups, frzs := I.base.frzs, tbls := I.base.tbls }, loc := ⟨m', hn', fun j y v' e1 e2 e3 => ?_⟩, cell := fun y c e => (I.cell y c e).imp fun _ z => z.imp fun _ z => ⟨(hs c (I.cne y c e)).trans z.1, z.2⟩, pin := fun p hp => ⟨(hs p.1 (I.pin p hp).2.2.1).trans (I.pin p hp).1, (I.pin p hp).2⟩, hok := fun b ob e => (I.hok b ob e).stay (fun c w' hc q => (hs c fun z => ?_).trans q) (fun _ q => q) fun _ _ q => q }
  · have ji : j ≠ i := fun z => by
      rw [z, List.getElem?_set] at e2
      split at e2
      · split at e2 <;> cases e2
      · contradiction
    rw [List.getElem?_set_ne (Ne.symm ji)] at e2
    obtain ⟨u, r, q⟩ := hlk j y v' e1 e2 e3
    refine ⟨u, r, q.imp (fun z => ⟨z.1, (hm y fun e => ji (nodup_ix hN e1 (e ▸ hi))).trans z.2⟩) fun z => ⟨z.1, z.2.imp fun c z => ⟨z.1, z.2.imp fun o z2 => ⟨(hs c (I.cne y c z.1)).trans z2.1, z2.2⟩⟩⟩⟩
  · rw [z] at hc
    rcases hc with hc | hc
    · rw [← hc, I.free] at e
      cases e
    · rw [I.free] at hc
      cases hc
theorem Sky.note {M : Model} {A : Around} {E₁ : Value → Shared → Prop} {env : Env} {outer : List Env} {L a : Addr} {B : Heap} {Z : Obj → Prop} {s : Shared} {Q : Shared → Prop} (hZ : HandSPX.Steady Z) (hfr : A.frames = some (env :: outer)) (hf : env.frame = some L)
    (x : Sky B (env :: outer) a Z L s.heap) (hQ : ∀ h', HandSPX.HeldZ B (env :: outer) a Z L h' → s.heap.UpToSlots h' → Q { s with heap := h' }) :
    wpAny M A (noteFrame (.ref a) env) (fun _ s₂ => Q s₂) E₁ s := by
  rcases x with ⟨hB, hn, hl, oe, vs, he, hz, hd, h1⟩ | fl | hh
  · exact HandSPX.look_newZ hZ hfr hl hf he hB hn hd h1 hz hQ
  · exact HandSPX.looks_onZ hZ hfr hf fl hQ
  · exact HandSPX.againZ hf hh.2.2.2 (hQ s.heap hh (Heap.UpToSlots.refl _))
/-- where such a suite runs -/
abbrev suiteY (X : Cx) (a : Addr) (pn : List (Addr × Obj)) (W : WX) : Cx := { L2H.suiteX X a pn with xe := fun e s' => L2.XE (L2H.suiteX X a pn) W e s' }
/-- an except suite that may raise: where it runs -/
def SuiX (X : Cx) (W : WX) (st : List Stmt) (a : Addr) (cls : Value) (_ : Option Addr) : TS := fun D σ H => ∀ oe pn vs, oe.cls = cls → oe.data = .fields vs → vs[2]? = some .none → L2.Takes (suiteY X a ((a, oe) :: pn) W) W → WB (suiteY X a ((a, oe) :: pn) W) st D σ H
/-- behind a suite that may raise, where it did not -/
theorem suiteY_end {W : WX} {pins : List (Addr × Obj)} {a : Addr} {o : Obj} {f : Flow} {t : Shared} (ok : X.Ok) (h : SP (suiteY X a ((a, o) :: (X.pn ++ pins)) W) [] D f t) : SP X pins D f t := by
  have back : ∀ {τ : L2.St} {G : Hp}, Inv (suiteY X a ((a, o) :: (X.pn ++ pins)) W) [] τ G t → Inv X pins τ G t := fun J => L2H.unsuiteX (Inv.unwish (X := L2H.suiteX X a ((a, o) :: (X.pn ++ pins))) (E := _) J) ok
  cases f with
  | next => exact h.elim fun _ h => h.elim fun _ h => ⟨_, _, back h.1, h.2⟩
  | brk => exact h.elim fun _ h => h.elim fun _ h => ⟨_, _, back h.1, h.2⟩
  | cont => exact h.elim fun _ h => h.elim fun _ h => ⟨_, _, back h.1, h.2⟩
  | ret u => exact h.elim fun _ h => h.elim fun _ h => h.elim fun _ h => ⟨_, _, _, back h.1, h.2⟩
theorem ps_try_asX {W0 W1 : WX} {tb : WX → TS} {ts : Addr → Value → Option Addr → TS} (hs : X.stack = X.env :: X.outer) (hf : X.env.frame = some X.env.locals) (hN : X.N.Nodup) (hi : X.N[i]? = some n) (hln : X.env.kindOf n = some .local) (hc : Names X x c)
    (hpa : ∀ hd : Option Value, PassesOwnAt (model X.prog X.w) (X.A.mark hd) X.A X.env X.xe) (tk : L2.Takes X W0) (hw : ∀ cls d σ H, W1 cls d σ H → W0 cls d (σ.set i none) H)
    (hb : ∀ (W : WX) (pn : List (Addr × Obj)) (xe : Value → Shared → Prop), L2N.Takes (X.tr pn xe) W → PassesOwn (model X.prog X.w) X.A X.env xe → PSs (X.tr pn xe) body (tb W))
    (hsu : ∀ (a : Addr) (oe : Obj) (cls : Value) (d : Option Addr) (pn : List (Addr × Obj)) (vs : Array Value), oe.cls = cls → oe.data = .fields vs → vs[2]? = some .none → L2.Takes (suiteY X a ((a, oe) :: pn) W1) W1 → PSs (suiteY X a ((a, oe) :: pn) W1) (b₀ :: suite) (ts a cls d)) :
    PS X (.Try body [.ExceptHandler (some (.Name x np)) (some n) (b₀ :: suite) pos'] [] [] pos) (fun D σ H => tb (wAs X.K c i ts W0 D) D σ H) := by
  constructor
  refine fun pins s σ H D I h => wpAny_Try_except ?_
  have ok := I.ok
  have kf : X.A.frames = some (X.env :: X.outer) := hs ▸ ok.frames
  refine wpAny_mono ((hb _ (X.pn ++ pins) (fun e t1 => wpAny (model X.prog X.w) X.A (noteFrame e X.env) (fun _ t2 => wpAny (model X.prog X.w) X.A (setFlight e none)
    (fun _ t3 => wpAny (model X.prog X.w) X.A (handleBy e X.env [.ExceptHandler (some (.Name x np)) (some n) (b₀ :: suite) pos']) (SP X pins D) X.xe t3) X.xe t2) X.xe t1) (fun u t xx => ?_) PassesOwn.looking).run [] s σ H D (I.toTry _) h)
    (fun f t z => ?_) (fun _ _ z => z)
  case refine_2 =>
    have z' := tried_end (pins := pins) ok (fun J => J.ofTry ok) z
    cases f with
    | next => exact wpAny_execs_nil z'
    | brk => exact z'
    | cont => exact z'
    | ret _ => exact z'
  obtain ⟨a, B, t0, pins0, τ, G, cls, d, rfl, J0, nb, up, sky, ha0, eo, ag, b, eb, yes, no⟩ := xx
  have J := J0.ofTry (pins := pins) ok
  have sk : Sky B (X.env :: X.outer) a (L2N.Zn cls d) X.env.locals t.heap := hs ▸ sky
  show wpAny (model X.prog X.w) X.A (noteFrame (Value.ref a) X.env) _ _ t
  refine L2N.Sky.land L2N.Zn.steady kf hf sk fun g3 fl up3 => ?_
  have J3 : Inv X pins τ G { t with heap := g3 } := J.landed nb fl.1 (up.trans up3) eo ag
  obtain ⟨o3, vs3, e3, z3, dt3⟩ := fl.there
  have noFrame : a ∉ frs (X.env :: X.outer) := fun hm => by
    obtain ⟨_, o', e', hnf⟩ := fl.2.2.1.mem hm
    rw [e3] at e'
    cases e'
    exact hnf _ dt3
  have na : a ≠ X.env.locals := fun q => noFrame (List.mem_filterMap.mpr ⟨X.env, List.mem_cons_self, hf.trans (congrArg some q.symm)⟩)
  have nf : a ∉ X.fs := fun q => noFrame ((List.mem_filterMap.mp q).elim fun e h => List.mem_filterMap.mpr ⟨e, List.mem_cons_of_mem _ h.1, h.2⟩)
  have S3 := J3.suite e3 dt3 ha0 na nf
  have kind : PySem.W.Looks (model X.prog X.w) g3 (typeOf (Value.ref a)) cls := looks_cls e3 z3.1
  have named : ∀ {Q : Value → Shared → Prop} {E : Value → Shared → Prop}, Q c { t with heap := g3 } → wpAny (model X.prog X.w) (X.A.mark (some (.ref a))) (eval (.Name x np) X.env) Q E { t with heap := g3 } := fun q => by
    rcases hc with ⟨g1, g2, m | ⟨m1, m2, m3⟩⟩
    · exact ld_glob (X := X.suite a ((a, o3) :: (X.pn ++ pins))) S3 g1 m q g2
    · exact ld_blt (X := X.suite a ((a, o3) :: (X.pn ++ pins))) S3 g1 m1 m2 q m3 g2
  refine wpAny_handleBy_cons (codeAny_handlers_test (named ((PySem.W.exm_one (M := model X.prog X.w) J3.kIn kind eb).here ?_))) (by intro q; cases q)
  cases b with
  | false =>
    show wpAny _ X.A (handleBy (.ref a) X.env []) _ _ _
    refine wpAny_handleBy_nil ?_
    obtain ⟨_, _, _, o5, v5, C5, k5, t5, q1, q2, q3, q4, q5⟩ := id fl
    unfold PySem.passOn
    refine wpAny_bind (wpAny_field q1 q3 q4 ?_)
    rw [if_neg (show ¬ ((Value.ref C5 == Value.none) = true) by simp)]
    have last : wpAny (model X.prog X.w) X.A (setFlight (.ref a) X.env.frame) (fun _ t4 => wpAny (model X.prog X.w) X.A (throw (.ref a) : Sem Flow) (SP X pins D) X.xe t4) X.xe { t with heap := g3 } := by
      rw [hf]
      exact HandSPX.setFlight_upZ fl fun g4 fl4 up4 => wpAny_throw (taN tk _ _ ⟨a, B, t0, pins, τ, G, cls, d, rfl, J, nb, (up.trans up3).trans up4, .inr (.inr (by rw [hs]; exact fl4)), ha0, eo, ag, no rfl⟩)
    first
      | exact wpAny_bind (wpAny_pure (wpAny_bind last))
      | exact wpAny_bind last
  | true =>
    refine codeAny_handlers_suite_as (HandSPX.lands_againZ fl fun g4 fl4 up4 => ?_)
    obtain ⟨o4, v4, e4, z4, dt4⟩ := fl4.there
    have J4 : Inv X pins τ G { t with heap := g4 } := J.landed nb fl4.1 ((up.trans up3).trans up4) eo ag
    have S4 := J4.suite e4 dt4 ha0 na nf
    have tkS : L2.Takes (suiteY X a ((a, o4) :: (X.pn ++ pins)) W1) W1 := by
      rintro u2 s2 ⟨a2, B2, r2, pn2, τ2, H2, cls2, d2, q1, I2, q2⟩
      exact ⟨a2, B2, r2, pn2, τ2, H2, cls2, d2, q1, Inv.unwish (X := L2H.suiteX X a ((a, o4) :: (X.pn ++ pins))) (E := _) I2, q2⟩
    refine store_ok (X := X.suite a ((a, o4) :: (X.pn ++ pins))) (v := .ref a) S4 hN hi (.inl hln) rfl (fun t5 S5 => ?_) (.inr hln)
    refine wpAny_mono ((hsu a o4 cls d (X.pn ++ pins) v4 z4.1 dt4 (z4.2.2 v4 dt4) tkS).run [] t5 _ G _ ((L2H.suiteX_of S5).wish _) (yes rfl a ha0)) (fun f t6 z => ?_) (fun e6 s6 z => ?_)
    case refine_1 =>
      have z' := suiteY_end (pins := pins) ok z
      have gone : ∀ {τ6 : L2.St} {G6 : Hp} {R : Shared → Prop}, Inv X pins τ6 G6 t6 → (∀ t7, Inv X pins (τ6.set i none) G6 t7 → R t7) →
          wpAny (model X.prog X.w) X.A (do bindName X.env n .none; unbindBehindTheSuite X.env n pos') (fun _ t7 => R t7) X.xe t6 := fun S hq => gone_ok S hN hi hln hq
      cases f with
      | next => exact z'.elim fun _ h => h.elim fun _ h => gone h.1 fun t7 J7 => ⟨_, _, J7, h.2⟩
      | brk => exact z'.elim fun _ h => h.elim fun _ h => gone h.1 fun t7 J7 => ⟨_, _, J7, h.2⟩
      | cont => exact z'.elim fun _ h => h.elim fun _ h => gone h.1 fun t7 J7 => ⟨_, _, J7, h.2⟩
      | ret u => exact z'.elim fun _ h => h.elim fun _ h => h.elim fun _ h => gone h.1 fun t7 J7 => ⟨_, _, _, J7, h.2.1, h.2.2⟩
    have z : L2.XE (L2H.suiteX X a ((a, o4) :: (X.pn ++ pins))) W1 e6 s6 := z
    obtain ⟨a2, B2, sI2, pn2, σ2, H2, cls2, d2, rfl, I2, nb2, up2, sky2, na2, os2, ag2, w2⟩ := z
    have J2 : Inv X pins σ2 H2 sI2 := L2H.unsuiteX I2 ok
    have sky2 : Sky B2 (X.env :: X.outer) a2 (Zc cls2 d2) X.env.locals s6.heap := by rw [← hs]; exact sky2
    refine Sky.note (A := X.A.mark (some (.ref a))) Zc.steady kf hf sky2 fun h7 hd7 up7 => ?_
    obtain ⟨f1, f2, f3, f4⟩ := hd7
    obtain ⟨G0, g1, g2⟩ := restrict h7 fun b => (B2.get? b).isSome || decide (b ∈ frs X.stack)
    have gB : ∀ b, (B2.get? b).isSome = true → G0.get? b = h7.get? b := fun b hb => g1 b (by rw [hb]; rfl)
    have gF : ∀ b, b ∈ frs X.stack → G0.get? b = h7.get? b := fun b hb => g1 b (by simp [hb])
    have st0 : B2.StaysIn G0 := fun b o e => (gB b (by rw [e]; rfl)).trans (f1 b o e)
    have up0 : sI2.heap.UpToSlots G0 := fun b o e hnf => by
      by_cases hb : b ∈ frs X.stack
      · obtain ⟨sl, q⟩ := (up2.trans up7) b o e hnf
        exact ⟨sl, (gF b hb).trans q⟩
      · exact ⟨o.slots, st0 b o (nb2 b o e hb)⟩
    have J0 : Inv X pins σ2 H2 { s6 with heap := G0 } := J2.landed (s' := { s6 with heap := G0 }) nb2 st0 up0 os2 ag2
    obtain ⟨m, hn, hlk⟩ := id J0.loc
    have Lm : X.env.locals ∈ frs X.stack := by
      rw [hs]
      exact List.mem_filterMap.mpr ⟨X.env, List.mem_cons_self, hf⟩
    have hn7 : h7.Ns X.env.locals m := by
      obtain ⟨o, es, ep, ho, r⟩ := hn
      exact ⟨o, es, ep, (gF _ Lm).symm.trans ho, r⟩
    have hcls : (X.env.scope.kind == .class || (X.env.scope.kind == .module && X.env.locals != X.env.globals)) = false := by rw [ok.kind]; rfl
    refine wpAny_nameGoes_keeps (s := { s6 with heap := h7 }) hln hn7 hcls fun h8 v8 hn8 hs8 => ?_
    have nB : B2.get? X.env.locals = none := (f3.mem (by rw [← hs]; exact Lm)).1
    obtain ⟨o8, es8, ep8, ho8, hd8, hr8⟩ := id hn8
    have nf8 : ∀ vs, o8.data ≠ .fields vs := fun vs => by rw [hd8]; exact fun e => nomatch e
    have st8 : B2.StaysIn h8 := fun b o e => by
      have ne : b ≠ X.env.locals := fun q => by rw [q, nB] at e; cases e
      exact (hs8.2 b ne).trans (f1 b o e)
    have fr8 : h8.FunFrames B2 (X.env :: X.outer) := ff_but hs8.2 ho8 nf8 f3
    have neF : ∀ {b : Addr} {o : Obj} {vs : Array Value}, h7.get? b = some o → o.data = .fields vs → b ≠ X.env.locals := fun {b o vs} e dd q => by
      obtain ⟨_, o', e', hnf⟩ := f3.mem (show X.env.locals ∈ frs (X.env :: X.outer) from by rw [← hs]; exact Lm)
      rw [← q, e] at e'
      cases e'
      exact hnf _ dd
    obtain ⟨oe, vs, T, oT, ts', he, hz, hd, h1, hnT, hTe, hT, hdT, h3'⟩ := f4
    have tr8 : HandSPX.TracedZ h8 B2 a2 (Zc cls2 d2) (rawInt X.env.locals) := ⟨oe, vs, T, oT, ts', (hs8.2 _ (neF he hd)).trans he, hz, hd, h1, hnT, hTe, (hs8.2 _ (neF hT hdT)).trans hT, hdT, h3'⟩
    unfold PySem.passOn
    refine wpAny_bind (wpAny_field ((hs8.2 _ (neF he hd)).trans he) hd h1 ?_)
    rw [if_neg (by simp : ¬ ((Value.ref T == Value.none) = true))]
    obtain ⟨G8, k1, k2⟩ := restrict h8 fun b => (B2.get? b).isSome || decide (b ∈ frs X.stack)
    have G8n : G8.Ns X.env.locals (fun x => if x = n then v8 else m x) := by
      obtain ⟨o, es, ep, ho, r⟩ := hn8
      exact ⟨o, es, ep, (k1 _ (by simp [Lm])).trans ho, r⟩
    have s08 : ∀ b, b ≠ X.env.locals → G8.get? b = G0.get? b := fun b hb => by
      by_cases p : ((B2.get? b).isSome || decide (b ∈ frs X.stack)) = true
      · rw [k1 b p, g1 b p]
        exact hs8.2 b hb
      · rw [k2 b (by simpa using p), g2 b (by simpa using p)]
    have k8 : ∀ b o, G8.get? b = some o → h8.get? b = some o := fun b o e => by
      by_cases p : ((B2.get? b).isSome || decide (b ∈ frs X.stack)) = true
      · rw [k1 b p] at e
        exact e
      · rw [k2 b (by simpa using p)] at e
        cases e
    have J8 : Inv X pins (σ2.set i none) H2 { ({ s6 with heap := G0 } : Shared) with heap := G8, toks := s6.toks + 1 } := inv_gone J0 hlk hN hi G8n (fun y ny => if_neg ny) s08
    have nb8 : ∀ b o, G8.get? b = some o → b ∉ frs X.stack → B2.get? b = some o := fun b o e hb => by
      by_cases p : (B2.get? b).isSome = true
      · obtain ⟨o2, e2⟩ := Option.isSome_iff_exists.mp p
        have q := st8 b o2 e2
        rw [k8 b o e] at q
        cases q
        exact e2
      · rw [k2 b (by simp [hb]; simpa using p)] at e
        cases e
    have fin : wpAny (model X.prog X.w) (X.A.mark (some (.ref a))) (setFlight (.ref a2) X.env.frame) (fun _ s4 => wpAny (model X.prog X.w) (X.A.mark (some (.ref a))) (throw (.ref a2) : Sem Flow) (fun _ _ => False) (notedBy (model X.prog X.w) (X.A.mark (some (.ref a))) X.env (cameBackBy (model X.prog X.w) X.A X.env X.xe)) s4) (notedBy (model X.prog X.w) (X.A.mark (some (.ref a))) X.env (cameBackBy (model X.prog X.w) X.A X.env X.xe)) { s6 with heap := h8, toks := s6.toks + 1 } := by
      rw [hf]
      refine HandSPX.setFlight_anyZ (s := { s6 with heap := h8, toks := s6.toks + 1 }) st8 fr8 tr8 fun h9 q1 q2 q3 q4 => wpAny_throw (hpa (some (.ref a)) _ _ (tk _ _ ?_))
      exact ⟨a2, B2, _, pins, σ2.set i none, H2, cls2, d2, rfl, J8, nb8, (Heap.UpToSlots.of_keeps k8).trans q4, .inr (.inr (by rw [hs]; exact ⟨q1, f2, q2, q3⟩)), na2, rfl, ag2, hw _ _ _ _ w2⟩
    first
      | exact wpAny_bind (wpAny_pure (wpAny_bind (by exact fin)))
      | exact wpAny_bind fin
/-- try: .. except C as n: a suite that may raise -/
theorem ws_try_asX (B : BodyX X k E) (s : Sl X i n) (hln : X.env.kindOf n = some .local) (hc : Names X x c)
    (h : ∀ pn xe, Body (X.tr pn xe) k (fun σ cls d H => wAs X.K c i (SuiX X (fun cls d σ H => E (σ.set i none) cls d H) (b₀ :: suite)) (fun cls d σ H => E σ cls d H) D cls d σ H) → WB (X.tr pn xe) body D σ H) (hf : ∀ x, X.fn x = true := by assumption) :
    WS X (.Try body [.ExceptHandler (some (.Name x np)) (some n) (b₀ :: suite) pos'] [] [] pos) D σ H :=
  wsP (ps_try_asX (tb := fun W D σ H => ∀ pn xe, L2N.Takes (X.tr pn xe) W → PassesOwn (model X.prog X.w) X.A X.env xe → WB (X.tr pn xe) body D σ H) (ts := SuiX X (fun cls d σ H => E (σ.set i none) cls d H) (b₀ :: suite)) (B.b.stk hf) (B.b.fr hf) s.nd s.at_ hln hc B.pa B.tk (fun _ _ _ _ h => h)
    (fun W pn xe tk po => ⟨fun pins t σ H D I q => q pn xe tk po pins t I⟩) (fun a oe cls d pn vs h1 h2 h3 h4 => ⟨fun pins t σ H D I q => q oe pn vs h1 h2 h3 h4 pins t I⟩)) fun pn xe tk po => h pn xe (B.b.tr tk po)
/-- an except suite behind an exception with any context -/
def Sui2 (X : Cx) (st : List Stmt) (a : Addr) (cls : Value) (d : Option Addr) : TS := fun D σ H => ∀ oe pn, L2.Zc cls d oe → (∃ vs, oe.data = .fields vs) → WB (X.suite a ((a, oe) :: pn)) st D σ H
/-- try: .. except C as n: .., exceptions with any context -/
theorem ws_try_as2 (B : Body X k E) (s : Sl X i n) (hln : X.env.kindOf n = some .local) (hc : Names X x c) (tk : L2.Takes X fun cls d σ H => E σ cls d H)
    (h : ∀ pn xe, L2.Takes (X.tr pn xe) (L2.wAs X.K c i (Sui2 X (b₀ :: suite)) (fun cls d σ H => E σ cls d H) D) → Body (X.tr pn xe) k (fun σ cls d H => L2.wAs X.K c i (Sui2 X (b₀ :: suite)) (fun cls d σ H => E σ cls d H) D cls d σ H) → WB (X.tr pn xe) body D σ H) (hf : ∀ x, X.fn x = true := by assumption) :
    WS X (.Try body [.ExceptHandler (some (.Name x np)) (some n) (b₀ :: suite) pos'] [] [] pos) D σ H :=
  wsP (L2.ps_try_as (tb := fun W D σ H => ∀ pn xe, L2.Takes (X.tr pn xe) W → PassesOwn (model X.prog X.w) X.A X.env xe → WB (X.tr pn xe) body D σ H) (ts := Sui2 X (b₀ :: suite)) (B.stk hf) (B.fr hf) s.nd s.at_ hln hc tk
    (fun W pn xe tk po => ⟨fun pins t σ H D I q => q pn xe tk po pins t I⟩) (fun a oe cls d pn hz hf => ⟨fun pins t σ H D I q => q oe pn hz hf pins t I⟩)) fun pn xe tk po => h pn xe tk (B.tr (taN tk) po)
end
end Rs

namespace Rs
open PySem PySem.Spec PyProof.Rows L2 He
section
variable {X : Cx} {k i j l n m : Nat} {E : L2.St → XK} {x y z : Str} {D : Ends} {σ : L2.St} {H : Hp} {body : List Stmt} {e : Expr} {p pos pc px py pz tp tp2 : Pos} {kk kk2 : Nat}
/-- for x, (y, z) in enumerate(a list of pairs) -/
theorem ws_for_enumP (B : Body X k E) (s1 : Sl X i x) (s2 : Sl X j y) (s3 : Sl X l z) (bn : Bn X "enumerate")
    (h : WE X e σ H fun v H1 => ∃ a ys, v = .ref a ∧ SqL X.K H1 a ys ∧ ∃ P : Nat → L2.St → Hp → Prop, P 0 σ H1 ∧ (∀ n σ H, n ≤ ys.length → P n σ H → SqL X.K H a ys) ∧
      (∀ n v σ H H', ys[n]? = some v → P n σ H → Ex H H' → ∃ b c d, v = .ref b ∧ SqT X.K H' b [c, d] ∧ WB X body { D with nx := P (n + 1), ct := P (n + 1), bk := D.nx } (((σ.set i (some (.int n))).set j (some c)).set l (some d)) H') ∧ ∀ σ H, P ys.length σ H → D.nx σ H)
    (hs : starEach [e] X.env = [(false, eval e X.env)] := by rfl) (hf : ∀ v, foldedSetIterable (.Call (.Name "enumerate" p) [e] [] pc) X.env v = pure v := by intro _; rfl)
    (h1 : (assignEach [.Name x px, .Tuple [.Name y py, .Name z pz] kk2 tp2] X.env).map (·.2) = assign (.Name x px) X.env :: (assignEach [.Tuple [.Name y py, .Name z pz] kk2 tp2] X.env).map (·.2) := by rfl) (h2 : (assignEach [.Tuple [.Name y py, .Name z pz] kk2 tp2] X.env).map (·.2) = assign (.Tuple [.Name y py, .Name z pz] kk2 tp2) X.env :: (assignEach [] X.env).map (·.2) := by rfl)
    (h3 : (assignEach [.Name x px, .Tuple [.Name y py, .Name z pz] kk2 tp2] X.env).length = 2 := by rfl) (h4 : (assignEach [.Name x px, .Tuple [.Name y py, .Name z pz] kk2 tp2] X.env).findIdx? (·.1) = none := by rfl)
    (g1 : (assignEach [.Name y py, .Name z pz] X.env).map (·.2) = assign (.Name y py) X.env :: (assignEach [.Name z pz] X.env).map (·.2) := by rfl) (g2 : (assignEach [.Name z pz] X.env).map (·.2) = assign (.Name z pz) X.env :: (assignEach [] X.env).map (·.2) := by rfl)
    (g3 : (assignEach [.Name y py, .Name z pz] X.env).length = 2 := by rfl) (g4 : (assignEach [.Name y py, .Name z pz] X.env).findIdx? (·.1) = none := by rfl) :
    WS X (.For (.Tuple [.Name x px, .Tuple [.Name y py, .Name z pz] kk2 tp2] kk tp) (.Call (.Name "enumerate" p) [e] [] pc) body [] pos) D σ H := by
  refine wsP (ps_for B.po B.calm (pi_enum bn.gl bn.no paS hs) (pg_tup B.calm (pgs_cons (pg_name s1.nd s1.at_ s1.loc s1.fn) (pgs_cons (pg_tup B.calm (pgs_cons (pg_name s2.nd s2.at_ s2.loc s2.fn) (pgs_cons (pg_name s3.nd s3.at_ s3.loc s3.fn) pgs_nil g2) g1) g3 g4) pgs_nil h2) h1) h3 h4) pbS hf) ?_
  refine wa_one (we_mono h fun v H1 q => ?_) hs
  obtain ⟨a, ys, rfl, hq, P, p0, hl, hb, hd⟩ := q
  refine ⟨a, ys, rfl, hq, fun n m σ H => m = ys.length - n ∧ n ≤ ys.length ∧ P n σ H, ⟨ys.length, rfl, Nat.zero_le _, p0⟩, ?_⟩
  rintro n m σ H ⟨rfl, hn, pn⟩
  have hqn := hl n σ H hn pn
  by_cases lt : n < ys.length
  · refine .inr ⟨⟨ys, ys[n], hqn, List.getElem?_eq_getElem lt⟩, P (n + 1), fun σ' H' p' => ⟨ys.length - (n + 1), by omega, rfl, lt, p'⟩, ?_⟩
    rintro w H' ⟨T, y', rfl, hT, rfl, hy⟩
    have x0 := Ex.new (o := .tup [.int (n : Nat), y']) hT
    obtain ⟨b, c, d, rfl, hbt, hw⟩ := hb n y' σ H _ (hy ys hqn) pn x0
    exact ⟨T, _, rfl, .of upd_same, rfl, .int n, _, rfl, .ref b, _, rfl, b, [c, d], rfl, hbt, rfl, c, _, rfl, d, _, rfl, rfl, rfl, hw⟩
  · have en : ys.length = n := by omega
    subst en
    exact .inl ⟨⟨ys, hqn, Nat.le_refl _⟩, hd σ H pn⟩
end
/-! ### defs called with keywords alone, as codes -/
def FnWc (P : Program) (w : World) (K : PySem.W.Frag) (mg : Str → Option Value) (base : Heap) (k n : Nat) (f : Addr) (ks : List Str) (sp : Sp) : Prop :=
  ∀ (X : Cx) (pins : List (Addr × Obj)) (σ : L2.St) (H : Hp) (s : Shared) (us : List Value) (vs : List V) (ws : List Value) (zs : List V) (Q : VK) (E : XK), X.prog = P → X.w = w → X.K = K → X.mg = mg → X.base = base → Room k X.A → PassesAt (RX X.prog X.w) X σ E →
    Inv X pins σ H s → Vals vs us → vs.length = n → Vals zs ws → zs.length = ks.length → (∀ p, H p = none → sp (vs ++ [.ref p]) (upd H p (.dK ((ks.map (Sum.inr : Str → Key)).zip zs))) Q E) →
    codeAny (model X.prog X.w) X.A (.call (.ref f) ⟨us, ks.zip ws⟩) (fun r s' => match r with | .ok (.ret v) => EP X pins σ Q v s' | .ok _ => False | .error e => X.xe e s') s
section
variable {P : Program} {w : World} {K : PySem.W.Frag} {mg : Str → Option Value} {base : Heap} {N ps : List Str} {pd name qual : Str} {pa : Arguments} {body : List Stmt} {sc : Scope} {f : Addr} {fd : FuncData} {k : Nat} {sp : Sp} {ks : List Str}
theorem def_kwC (F : FunD K name qual pa body sc [] [] f fd) (S : FnScope N (ps ++ [pd]) sc) (nd : ks.Nodup) (hz : ks.length ≤ 1000)
    (h : ∀ (kV doc pm : Value) (an : Option Addr) (cdv ct : Value) (us ws : List Value), us.length = ps.length → ws.length = ks.length →
      bindArgs (PySem.W.fnOf name qual pa body sc .none kV doc pm an cdv ct) ⟨us, ks.zip ws⟩ = ((alloc ({ cls := .type "dict", data := .dict #[] } : Obj) : Sem Addr) >>= fun d =>
        forIn (ks.zip ws) PUnit.unit (fun x _ => (nsSet d x.1 x.2 >>= fun _ => pure (ForInStep.yield PUnit.unit))) >>= fun _ => pure (ps.zip us ++ [(pd, Value.ref d)])))
    (hb : ∀ (X : Cx), X.prog = P → X.w = w → X.K = K → X.mg = mg → X.base = base → X.N = N → X.env.scope = sc → (∀ x, X.fn x = true) → N.Nodup → ∀ (H : Hp) (vs : List V) (Q : VK) (E : XK), Body X k (fun _ => E) → sp vs H Q E → WB X body { nx := fun _ H' => Q .non H', rt := Q } (start N vs) H) :
    FnWc P w K mg base (k + 1) ps.length f ks sp := by
  intro X pins σ H s us vs ws zs Q E eP ew eK em eb hr hx I r ln rz lz hq
  subst eP ew eK em eb
  obtain ⟨oc, od, dV, kV, doc, pm, an, cdv, ct, osl, rfl, lk, hcd, hD, hK⟩ := F.ex
  rcases hD with ⟨_, rfl⟩ | ⟨e, _⟩
  case inr => exact absurd rfl e
  have hn : H s.heap.objs.size = Option.none := I.hok.fresh (Nat.le_refl _)
  have n1 : (ks.map (Sum.inr : Str → Key)).Nodup := List.Pairwise.map _ (fun a b h e => h (Sum.inr.inj e)) nd
  refine (codeAny_mono (StX.run_bnd (N := N) (ps := ps ++ [pd]) (k := k) (CX := RX X.prog X.w) (args := ⟨us, ks.zip ws⟩) (Q := Q) (E := E) (G := fun xs H2 => ∃ p, H p = Option.none ∧ xs = vs ++ [V.ref p] ∧ H2 = upd H p (.dK ((ks.map (Sum.inr : Str → Key)).zip zs))) lk hcd S hr I.env0 (fun A' Ex Q' hk => ?_) fun s2 H2 xs g hr' => ?_) (out_at hx I))
  · rw [h _ _ _ _ _ _ us ws (r.length.symm.trans ln) (rz.length.symm.trans lz)]
    refine wpAny_bind (wpAny_alloc ?_)
    have I1 := I.laid (a := s.heap.objs.size) (o := .dK []) (h' := s.heap.push { cls := .type "dict", data := .dict #[] }) (t' := s.toks) (fun _ _ q => Heap.get?_push_of_some _ q) (Nat.le_refl _) (dk_empty s.heap I.big)
    refine wpAny_bind (ns_fill ks zs ws [] _ _ I1 upd_same rz lz (by rw [List.length_nil]; omega) fun s2 I2 hs ho he => wpAny_pure ?_)
    rw [upd_two, mergeK_zip n1 (by rw [List.length_map, lz])] at I2
    have kp : ∀ b o, s.heap.get? b = some o → s2.heap.get? b = some o := fun b o q => (hs.2 b (Nat.ne_of_lt (Heap.lt_size q))).trans (Heap.get?_push_of_some _ q)
    have un : Un (frs X.stack) [] H (upd H s.heap.objs.size (.dK ((ks.map (Sum.inr : Str → Key)).zip zs))) s.heap s2.heap := Un.laid kp (Nat.le_refl _) hn
    have z := hk s2 _ (vs ++ [V.ref s.heap.objs.size]) (us ++ [Value.ref s.heap.objs.size]) I2.env0 un ho (fun e s' => cxUpN X.stack s H s2 _ E e s' un kp ho) (r.append (.cons rfl .nil)) (by rw [List.length_append, List.length_append, ln]; rfl) ⟨_, hn, rfl, rfl⟩
    rw [List.zip_append (ln.symm.trans r.length)] at z
    exact z
  · obtain ⟨p, hp, rfl, rfl⟩ := g
    exact ⟨_, pbS, hb (bx X.prog X.w X.K X.mg X.base N qual sc f cdv X.A X.stack s2 _ E) rfl rfl rfl rfl rfl rfl rfl (fun _ => rfl) S.nd _ _ Q E (body_of hr') (hq p hp)⟩
end
def GMwC (P : Program) (w : World) (K : PySem.W.Frag) (mg : Str → Option Value) (base : Heap) (k : Nat) (C : Addr) (m : Str) (ks : List Str) (sp : Sp) : Prop :=
  ∃ f, Meth K C m f ∧ FnWc P w K mg base k 1 f ks sp
/-! ### o.m(**d) -/
theorem dcall_of {M : Model} {A : Around} {E : Value → Shared → Prop} {s : Shared} {env : Env} {o e : Expr} {m : Str} {apos pos kpos : Pos} {Q : Value → Shared → Prop} (hb : attributeBase o m env (eval o env) = eval o env)
    (hk : keywordEach [⟨none, e, kpos⟩] env = [(none, eval e env)])
    (h : wpAny M A (eval o env) (fun v s1 => wpAny M A (getAttr v m true) (fun f s2 => wpAny M A (callWith pos f [] [] (backToKw pos [(none, eval e env)])) Q E s2) E s1) E s) :
    wpAny M A (eval (.Call (.Attribute o m apos) [] [⟨none, e, kpos⟩] pos) env) Q E s := by
  have ha : backTo pos (starEach [] env) = [] := rfl
  rw [arm_eval_Call, hb, hk, ha]
  refine wpAny_bind (wpAny_mono h (fun v s1 z => wpAny_bind (wpAny_standAt ?_)) fun _ _ x => x)
  unfold methodCall
  have hm : methodCallForm (([] : List Expr).length + [(⟨none, e, kpos⟩ : Keyword)].length) [] (backToKw pos [(none, eval e env)]) = false := rfl
  rw [hm, show calleeOf false o env v m = (getAttr v m true >>= fun u => pure (u, [])) from rfl, show methodCallPos false o env apos pos = pure pos from rfl]
  exact wpAny_bind (wpAny_holding (wpAny_bind (wpAny_mono z (fun f s2 y => wpAny_pure (wpAny_bind (wpAny_pure y))) fun _ _ x => x)))
section
variable {X : Cx} {σ : L2.St} {H : Hp} {Q : VK} {k j : Nat} {E : L2.St → XK} {m : Str} {sp : Sp} {pos apos kpos : Pos} {o e : Expr} {C g : Addr} {ks : List Str}
/-- o.m(**d), d a dict with the keys ks -/
theorem we_methD (B : Body X k E) (c : Cls X.K C) (b : BMeth X.K C m g) (hj : j ≤ k)
    (h : WE X o σ H fun y H0 => ∃ a dx fs, y = .ref a ∧ H0 a = some (.ins C dx fs) ∧ fs.lookup m = none ∧ ∀ t q, H0 t = none → upd H0 t (.met g a) q = none → WE X e σ (upd (upd H0 t (.met g a)) q (.dK [])) fun v H1 => ∃ ks sp u zs, GMwC X.prog X.w X.K X.mg X.base j C m ks sp ∧ ks.Nodup ∧ v = .ref u ∧ H1 q = some (.dK []) ∧ H1 t = some (.met g a) ∧ H1 u = some (.dK ((ks.map (Sum.inr : Str → Key)).zip zs)) ∧ q ≠ u ∧ zs.length = ks.length ∧ ks.length ≤ 1000 ∧
      ∀ p, upd H1 q (.dK ((ks.map (Sum.inr : Str → Key)).zip zs)) p = none → sp [.ref a, .ref p] (upd (upd H1 q (.dK ((ks.map (Sum.inr : Str → Key)).zip zs))) p (.dK ((ks.map (Sum.inr : Str → Key)).zip zs))) Q (E σ))
    (hb : attributeBase o m X.env (eval o X.env) = eval o X.env := by rfl) (hk : keywordEach [⟨none, e, kpos⟩] X.env = [(none, eval e X.env)] := by rfl) : WE X (.Call (.Attribute o m apos) [] [⟨none, e, kpos⟩] pos) σ H Q := by
  intro pins s I
  refine dcall_of hb hk (thn (h pins s I) fun u s1 z => ?_)
  obtain ⟨y, H0, I0, ry, a, dx, fs, rfl, e1, l, q0⟩ := z
  cases ry
  refine getbound_ok I0 e1 c b l fun t s2 ht I2 => ?_
  refine callWith_starred (P := PySem.W.MethP X.K t g (.ref a)) rfl (PySem.W.keeps_M b.fi) ?_
  have hn := I2.hok.fresh (Nat.le_refl s2.heap.objs.size)
  have I3 := I2.laid (a := s2.heap.objs.size) (o := .dK []) (h' := s2.heap.push { cls := .type "dict", data := .dict #[] }) (t' := s2.toks) (fun _ _ q => Heap.get?_push_of_some _ q) (Nat.le_refl _) (dk_empty s2.heap I2.big)
  refine wpAny_evalArgsD (wpAny_bind (wpAny_mono (q0 t _ ht hn _ _ I3) (fun v s3 z => ?_) fun _ _ e => e))
  obtain ⟨v', H1, I4, rv, ks, sp, u, zs, ⟨g', hm', F⟩, nd, rfl, hq, hmt, ho, ne, lz, l0, q⟩ := z
  cases rv
  refine wpAny_bind (wpAny_standAt ?_)
  refine wpAny_pure ?_
  have eg : g' = g := by
    have z := hm'.at_.symm.trans b.mt.at_
    injection z with z
    injection z with z
    injection z
  subst eg
  have tq : t ≠ s2.heap.objs.size := fun e => by
    rw [← e] at hn
    rw [upd_same] at hn
    cases hn
  refine Exists.intro u (And.intro rfl (Exists.intro (fun s5 => Inv X pins σ (upd H1 s2.heap.objs.size (.dK ((ks.map (Sum.inr : Str → Key)).zip zs))) s5) (And.intro (fun s5 I5 => ?_) (fun E' Q' q' => ?_))))
  · obtain ⟨_, _, vs, r, dd⟩ := dk_of I5.hok upd_same
    obtain ⟨us, rfl, ru⟩ := kv_strs lz r
    have hm5 := met_P I5 ((upd_ne tq).trans hmt)
    refine ⟨_, dd, hm5, ?_⟩
    refine wpAny_call (PySem.W.method_call hm5.1 ?_)
    exact F X pins σ _ s5 [.ref a] [.ref a] us zs Q (E σ) rfl rfl rfl rfl rfl (B.room.mono hj) (B.at σ) I5 (.cons rfl .nil) rfl ru lz q
  · have nk : ((ks.map (Sum.inr : Str → Key)).zip zs).map (·.1) = ks.map (Sum.inr : Str → Key) := List.map_fst_zip (by rw [List.length_map, lz]; exact Nat.le_refl _)
    have n1 : (ks.map (Sum.inr : Str → Key)).Nodup := List.Pairwise.map _ (fun a b h e => h (Sum.inr.inj e)) nd
    refine d_merge I4 hq ho ne (fun _ => ?_) ?_ fun s' I5 => q' s' ?_
    · rw [List.nil_append, nk]; exact n1
    · rw [List.length_zip, List.length_map, lz, sizeLine_eq, List.length_nil]; omega
    · rw [mergeK_zip n1 (by rw [List.length_map, lz])] at I5
      exact I5
end
end Rs

namespace Rs
open PySem PySem.Spec PyProof.Rows L2 He
/-! ### an exception with any context: isinstance, its field -/
section
variable {X : Cx} {σ : L2.St} {H : Hp} {Q : VK} {e b : Expr} {p pos : Pos} {a D dd : Addr} {oe : Obj} {pn : List (Addr × Obj)} {n : Str}
theorem we_isEDc (C : ExcC X.K D) (hz : Zc (.ref D) (some dd) oe) (hf : ∃ vs, oe.data = .fields vs) (bn : Bn (X.suite a ((a, oe) :: pn)) "isinstance")
    (h : WE (X.suite a ((a, oe) :: pn)) e σ H fun v H1 => WE (X.suite a ((a, oe) :: pn)) b σ H1 fun w H2 => v = .ref a ∧ (∃ fs, H2 dd = some (.xd fs)) ∧ ∃ cv r, (∀ u, RelV w u → u = cv) ∧ PySem.W.kitOne X.K (.ref D) cv = some r ∧ Q (.bl r) H2)
    (hs : starEach [e, b] X.env = (false, eval e X.env) :: starEach [b] X.env := by rfl) (ht : starEach [b] X.env = [(false, eval b X.env)] := by rfl) (hl : (backTo pos (starEach [b] X.env)).any (·.1) = false := by rfl) :
    WE (X.suite a ((a, oe) :: pn)) (.Call (.Name "isinstance" p) [e, b] [] pos) σ H Q :=
  we_callB (call_isED (pn := pn) C hz hf) bn boot_isinstance (wa_two (we_mono h fun v H1 q => we_mono q fun w H2 q =>
    q.2.1.elim fun fs hd => q.2.2.elim fun cv q' => q'.elim fun r z => ⟨w, cv, r, fs, by rw [q.1], hd, z.1, z.2.1, z.2.2⟩) hs ht) (by decide) (by decide) hs hl
theorem we_xfc (C : ExcC X.K D) (hno : PySem.W.findIn X.K (.ref D) n = some none) (hz : Zc (.ref D) (some dd) oe) (hf : ∃ vs, oe.data = .fields vs)
    (h : WE (X.suite a ((a, oe) :: pn)) e σ H fun v H1 => v = .ref a ∧ ∃ fs y, H1 dd = some (.xd fs) ∧ fs.lookup n = some y ∧ Q y H1) (hb : attributeBase e n X.env (eval e X.env) = eval e X.env := by rfl) :
    WE (X.suite a ((a, oe) :: pn)) (.Attribute e n pos) σ H Q :=
  weP (pe_xf ⟨C.hg, C.hk, C.hs, C.hd⟩ hno hz hf peS hb) (we_mono h fun v H1 z => z.2.elim fun fs q => q.elim fun y q => ⟨z.1, rfl, dd, fs, y, rfl, q.1, q.2.1, q.2.2⟩)
theorem as_yes2 {K : PySem.W.Frag} {c : Value} {i : Nat} {Dn : Ends} {ts : Addr → Value → Option Addr → TS} {Wout : WX} {cls : Value} {d : Option Addr} (e : PySem.W.exmOne K cls c = some true)
    (h : ∀ a, H a = none → ts a cls d { nx := fun σ' H' => Dn.nx (σ'.set i none) H', rt := Dn.rt, bk := fun σ' H' => Dn.bk (σ'.set i none) H', ct := fun σ' H' => Dn.ct (σ'.set i none) H' } (σ.set i (some (.ref a))) H) : L2.wAs K c i ts Wout Dn cls d σ H :=
  ⟨true, e, fun _ => h, fun q => nomatch q⟩
end
/-! ### repr of data, where no list is under repr -/
section
variable {X : Cx} {σ : L2.St} {H : Hp} {Q : VK} {a : Expr} {p pos : Pos}
theorem call_reprD (hg : X.A.guards = some []) : CallR X (.builtin "repr") (fun xs H Q => ∃ b d, xs = [.ref b] ∧ Dp X.K H (.ref b) d ∧ d.showable = true ∧ d.hasDict = false ∧ d.shown.length ≤ sizeLine ∧ X.A.units + (d.depth + 1) < cLine ∧ Q (.str d.shown) H) := by
  intro pins s σ H xs us Q I r h
  obtain ⟨b, d, rfl, hd, sh, nd, sz, un, q⟩ := h
  cases r with
  | cons r rr =>
    cases rr
    obtain ⟨as, rd⟩ := Dp.reads I d _ _ hd r
    cases r
    exact repr_of_reads' rd sh (fun e => by rw [nd] at e; cases e) hg un (fun _ _ e => e) (fun h' u tk k => ⟨.str d.shown, H, I.kept k, ⟨u, rfl⟩, q⟩) sz
theorem boot_repr53 : bootBuiltins "repr" = some (.builtin "repr") := by decide +kernel
theorem we_reprD (hg : X.A.guards = some []) (bn : Bn X "repr") (h : WE X a σ H fun v H1 => ∃ b d, v = .ref b ∧ Dp X.K H1 (.ref b) d ∧ d.showable = true ∧ d.hasDict = false ∧ d.shown.length ≤ sizeLine ∧ X.A.units + (d.depth + 1) < cLine ∧ Q (.str d.shown) H1)
    (hs : starEach [a] X.env = [(false, eval a X.env)] := by rfl) (hl : (backTo pos (starEach [] X.env)).any (·.1) = false := by rfl) : WE X (.Call (.Name "repr" p) [a] [] pos) σ H Q :=
  we_callB (call_reprD hg) bn boot_repr53 (wa_one (we_mono h fun v H1 q => by
    obtain ⟨b, d, rfl, q⟩ := q
    exact ⟨b, d, rfl, q⟩) hs) (by decide) (by decide) hs hl
end
/-! ### a def called from the top, where no list is under repr -/
def FnG (P : Program) (w : World) (K : PySem.W.Frag) (mg : Str → Option Value) (base : Heap) (k : Nat) (f : Addr) (sp : Sp) : Prop :=
  ∀ (A : Around) (outer : List Env) (s : Shared) (H : Hp) (us : List Value) (vs : List V) (Q : VK) (E : XK), A.guards = some [] → Room k A → Env0 P w K mg base A outer s H → Vals vs us → sp vs H Q E →
    codeAny (model P w) A (.call (.ref f) ⟨us, []⟩) (CR CX0 outer P w H s Q E) s
section
variable {P : Program} {w : World} {K : PySem.W.Frag} {mg : Str → Option Value} {base : Heap} {N ps : List Str} {name qual : Str} {pa : Arguments} {body : List Stmt} {sc : Scope} {f : Addr} {fd : FuncData} {k : Nat} {sp : Sp}
theorem def_okG (F : FunD K name qual pa body sc [] [] f fd) (S : FnScope N ps sc) (len : ∀ vs H Q E, sp vs H Q E → vs.length = ps.length) (hbd : ∀ (s : Shared) (us : List Value), us.length = ps.length → BindsTo s fd ⟨us, []⟩ (ps.zip us))
    (hb : ∀ (X : Cx), X.A.guards = some [] → X.prog = P → X.w = w → X.K = K → X.mg = mg → X.base = base → X.N = N → X.env.scope = sc → (∀ x, X.fn x = true) → N.Nodup → ∀ (H : Hp) (vs : List V) (Q : VK) (E : XK), Body X k (fun _ => E0) → L2.Takes X (fun cls d _ H' => E0 cls d H') → sp vs H Q E → WB X body { nx := fun _ H' => Q .non H', rt := Q } (start N vs) H) :
    FnG P w K mg base (k + 1) f sp := by
  intro A outer s H us vs Q E hg hr e0 r h
  obtain ⟨oc, od, dV, kV, doc, pm, an, cdv, ct, osl, rfl, lk, hcd, hD, hK⟩ := F.ex
  have l := len _ _ _ _ h
  refine codeAny_mono (StX.run_bnd (N := N) (CX := CX0) (k := k) (E := E) (Q := Q) (G := fun xs G => xs = vs ∧ G = H) lk hcd S hr e0 (fun A' Ex Q' z => hbd s us (r.length.symm.trans l) _ _ _ _ (z s H vs us e0 Un.refl rfl (fun _ _ x => x) r l ⟨rfl, rfl⟩)) fun s2 H2 xs g hr' => ?_) fun _ _ z => z
  obtain ⟨rfl, rfl⟩ := g
  exact ⟨_, pbS, hb (cxOf CX0 P w K mg base N qual sc f cdv A outer s2 _ E) hg rfl rfl rfl rfl rfl rfl rfl (fun _ => rfl) S.nd _ _ Q E ⟨rfl, hr', (fun _ _ x => by obtain ⟨_, _, _, _, _, _, _, _, _, _, _, _, _, _, _, _, z⟩ := x; exact z.elim), passes_of rfl, fun _ => rfl, fun _ => rfl⟩ (fun _ _ x => by obtain ⟨_, _, _, _, _, _, _, _, _, _, _, _, _, _, _, _, z⟩ := x; exact z.elim) h⟩
end
/-! ### the law, called from the top -/
section
variable {P : Program} {w : World} {K : PySem.W.Frag} {mg mb : Str → Option Value} {k : Nat} {fa a : Addr} {sp : Sp} {s : Shared} {H : Hp} {us : List Value} {ns : List Int}
abbrev scriptO (us : List Value) : Obj := { cls := .type "list", data := .seq us.toArray }
/-- the surroundings of the law: nothing is tracked but the script -/
theorem env_top (KX : K.In s.heap) (g : s.heap.Ns mainGlobals mg) (bl : s.heap.Ns builtinsNs mb) (bb : ∀ x : Str, x ≠ "__name__" → mb x = bootBuiltins x) (lim : s.heap.NoLimit) (gens : s.gens = #[]) (ha : s.heap.get? a = some (scriptO us))
    (ok : HOk P w H s.heap) (tr : ∀ b, H b ≠ none → b = a ∧ K.lookup a = none) : K.In (hidT s.heap H) ∧ (hidT s.heap H).Ns mainGlobals mg ∧ Env0 P w K mg (hidT s.heap H) callerA [] s H := by
  have at_ : ∀ {b : Addr} {o : Obj}, s.heap.get? b = some o → (b = a → K.lookup a = none → False) → (hidT s.heap H).get? b = some o := fun e n => hidT_get e (Classical.byContradiction fun z => n (tr _ z).1 (tr _ z).2)
  have table : ∀ {b : Addr} {m : Str → Option Value}, s.heap.Ns b m → (hidT s.heap H).Ns b m := by
    rintro b m ⟨o, es, ep, e, d, r⟩
    refine ⟨o, es, ep, at_ e fun q _ => ?_, d, r⟩
    rw [q, ha] at e
    cases e
    exact nomatch (show Data.seq us.toArray _ = Data.dict es ep from d)
  have kin : K.In (hidT s.heap H) := fun b o e => at_ (KX b o e) fun q n => by
    rw [q, n] at e
    cases e
  refine ⟨kin, table g, { frames := rfl, mod := ⟨kin, table g, ⟨mb, table bl, bb⟩, ?_⟩, bs := fun b o e => of_hidT e, bsz := Nat.le_of_eq (hidT_size _ _), funs := trivial, frf := (fun b m => nomatch m), hok := ok, bare := .of_eq gens }⟩
  obtain ⟨mc, l1, l2⟩ := lim
  exact ⟨mc, table l1, l2⟩
theorem top_call (KX : K.In s.heap) (g : s.heap.Ns mainGlobals mg) (bl : s.heap.Ns builtinsNs mb) (bb : ∀ x : Str, x ≠ "__name__" → mb x = bootBuiltins x) (lim : s.heap.NoLimit) (gens : s.gens = #[]) (ha : s.heap.get? a = some (scriptO us)) (hi : IntsAre us ns)
    (hl : ns.length ≤ sizeLine) (hr : Room k callerA) (F : ∀ base : Heap, K.In base → base.Ns mainGlobals mg → FnG P w K mg base k fa sp) (hsp : ∀ H : Hp, Only H → SqL K H a (ns.map V.int) → sp [.ref a] H (fun v _ => v = .bl true) fun _ _ _ => False) :
    codeAny (model P w) callerA (.call (.ref fa) ⟨[.ref a], []⟩) (fun r s' => r = .ok (.ret (.bool true)) ∧ OldK s.heap s'.heap ∧ s'.os = s.os ∧ AllBare s'.gens) s := by
  have go : ∀ H : Hp, Only H → SqL K H a (ns.map V.int) → HOk P w H s.heap → (∀ b, H b ≠ none → b = a ∧ K.lookup a = none) →
      codeAny (model P w) callerA (.call (.ref fa) ⟨[.ref a], []⟩) (fun r s' => r = .ok (.ret (.bool true)) ∧ OldK s.heap s'.heap ∧ s'.os = s.os ∧ AllBare s'.gens) s := by
    intro H on sq ok tr
    obtain ⟨k1, k2, e0⟩ := env_top KX g bl bb lim gens ha ok tr
    refine codeAny_mono (F _ k1 k2 callerA [] s H [.ref a] [.ref a] _ _ rfl hr e0 (.cons rfl .nil) (hsp H on sq)) fun r s' z => ?_
    match r, z with
    | .ok (.ret u), ⟨v, H', os, bare, un, ok', rv, q⟩ =>
      cases (show v = .bl true from q)
      cases (show u = Value.bool true from rv)
      refine ⟨rfl, OldK.of_keep fun b o e => ?_, os, bare⟩
      rcases on b with n | ⟨ob, xs, y⟩
      · exact un.keep b o e n (fun m => nomatch m) fun m => nomatch m
      · have o1 := (ok b _ y).1
        have o2 := (ok' b _ (un.frzs b ob _ y)).1
        rw [e] at o1
        cases o1
        exact o2
    | .ok .next, z => exact False.elim z
    | .ok .brk, z => exact False.elim z
    | .ok .cont, z => exact False.elim z
    | .error _, z => exact False.elim z
  have lz : (ns.map V.int).length ≤ sizeLine := by rw [List.length_map]; exact hl
  have vs := vals_ints hi
  cases kn : K.lookup a with
  | none =>
    have one : ∀ {b : Addr} {u : HO}, upd (fun _ => none) a (.frz (scriptO us) (.lst (ns.map V.int))) b = some u → b = a ∧ u = .frz (scriptO us) (.lst (ns.map V.int)) := fun {b u} e => by
      by_cases q : b = a
      · rw [q, upd_same] at e
        cases e
        exact ⟨q, rfl⟩
      · rw [upd_ne q] at e
        cases e
    refine go (upd (fun _ => none) a (.frz (scriptO us) (.lst (ns.map V.int)))) (fun b => ?_) (.inl (.inr ⟨scriptO us, upd_same⟩)) (fun b u e => ?_) fun b n => ?_
    · cases e : upd (fun _ => none) a (.frz (scriptO us) (.lst (ns.map V.int))) b with
      | none => exact .inl rfl
      | some u => exact .inr ⟨_, _, congrArg some (one e).2⟩
    · obtain ⟨rfl, rfl⟩ := one e
      exact ⟨ha, lz, us, _, vs, ha⟩
    · cases e : upd (fun _ => none) a (.frz (scriptO us) (.lst (ns.map V.int))) b with
      | none => exact absurd e n
      | some u => exact ⟨(one e).1, kn⟩
  | some o =>
    have e := (KX a o kn).symm.trans ha
    cases e
    exact go (fun _ => none) (fun _ => .inl rfl) (.inr ⟨_, us.toArray, _, kn, rfl, rfl, rfl, by rw [List.size_toArray, hi.length]; exact hl, by simpa using vs⟩) (fun _ _ e => nomatch e) fun _ n => absurd rfl n
end
theorem walk_ofG {l : PySem.W.OpenLaw} {n k : Nat} {q : Program} {loose : List Str} {XP : (Str → Option Value) → Heap → Prop} {YP : World → Heap → Prop} {d : DefRec} (hn : l.most = some n) (hz : n ≤ sizeLine) (hdf : d.params.defaults = []) (hr : Room k callerA)
    (F : ∀ (w : World) (mg : Str → Option Value) (fa : Addr) (h : Heap), YP w h → h.Ns mainGlobals mg → mg d.name = some (.ref fa) →
      ∃ (K : PySem.W.Frag) (sp : Sp), K.In h ∧ (∀ (H : Hp) (a : Addr) (ns : List Int), ns.length ≤ n → Only H → SqL K H a (ns.map V.int) → sp [.ref a] H (fun v _ => v = .bl true) fun _ _ _ => False) ∧ ∀ base : Heap, K.In base → base.Ns mainGlobals mg → FnG l.prog w K mg base k fa sp) :
    PySem.W.WalkO q loose XP YP l.row.toRowW d [] (fun f vs => PySem.call f vs) :=
  Att.attach_call hn hdf fun w _ _ _ _ _ _ _ _ _ _ _ ns G Y _ _ _ hm ha hi hlen gens => (F w _ _ _ Y G.T.g hm).elim fun K z => z.elim fun sp z =>
    top_call z.1 G.T.g G.T.b G.T.builtins G.T.nolimit gens ha hi (Nat.le_trans hlen hz) hr z.2.2 fun H on sq => z.2.1 H _ ns hlen on sq
end Rs


namespace Rt
open PySem PySem.Spec PyProof.Rows L2 He Rs Mt
/-- what the top has written -/
structure Tm (K : PySem.W.Frag) (mg : Str → Option Value) : Prop where
  xc_ResendError : ExcC K (ga K "ResendError")
  xc_NoTime : ExcC K (ga K "NoTime")
  x_NoTime : ExcPlain K (ga K "NoTime")
  xc_NoText : ExcC K (ga K "NoText")
  xc_BadBook : ExcC K (ga K "BadBook")
  xm_BadBook_BadBook : PySem.W.exmOne K (.ref (ga K "BadBook")) (.ref (ga K "BadBook")) = some true
  yi_BadBook : ExcI PySem.Challenge.pw_resendtimers_k63_changes_made K (ga K "BadBook") (ma K (ga K "BadBook") "__init__")
  yc_BadBook : funCB PySem.Challenge.pw_resendtimers_k63_changes_made K (ga K "BadBook") (ma K (ga K "BadBook") "__init__") = true
  yn_BadBook : PySem.W.findIn K (.ref (ga K "BadBook")) "part" = some none
  xc_NoChange : ExcC K (ga K "NoChange")
  xm_NoChange_NoChange : PySem.W.exmOne K (.ref (ga K "NoChange")) (.ref (ga K "NoChange")) = some true
  ki_NoChange_BadBook : PySem.W.kitOne K (.ref (ga K "NoChange")) (.ref (ga K "BadBook")) = some false
  ki_NoChange_ResendError : PySem.W.kitOne K (.ref (ga K "NoChange")) (.ref (ga K "ResendError")) = some true
  yi_NoChange : ExcI PySem.Challenge.pw_resendtimers_k63_changes_made K (ga K "NoChange") (ma K (ga K "NoChange") "__init__")
  yc_NoChange : funCB PySem.Challenge.pw_resendtimers_k63_changes_made K (ga K "NoChange") (ma K (ga K "NoChange") "__init__") = true
  yn_NoChange : PySem.W.findIn K (.ref (ga K "NoChange")) "at" = some none
  c_Time : IsC K (ga K "Time")
  k_Time : KitC K (ga K "Time")
  m_Time : Mk K (ga K "Time") (ma K (ga K "Time") "__init__")
  n_Time_over_line : NoAttr K (ga K "Time") "over_line"
  n_Time_under_line : NoAttr K (ga K "Time") "under_line"
  sn_Time : PySem.W.subIn K (.ref (ga K "Time")) (.type "NoneType") = some false
  w_Time : NeOwn K (ga K "Time") (ma K (ga K "Time") "__eq__")
  u_Time_abs : AbsOwn K (ga K "Time") (ma K (ga K "Time") "__abs__")
  b_Time___add__ : BinOwn K (ga K "Time") (ma K (ga K "Time") "__add__") .Add
  ni_Time___add__ : NoInpl K (ga K "Time") .Add
  o_Time___eq__ : CmpOwn K (ga K "Time") (ma K (ga K "Time") "__eq__") .Eq
  q_Time___eq__ : CmpRef K (ga K "Time") (ma K (ga K "Time") "__eq__") .Eq
  b_Time___floordiv__ : BinOwn K (ga K "Time") (ma K (ga K "Time") "__floordiv__") .FloorDiv
  o_Time___ge__ : CmpOwn K (ga K "Time") (ma K (ga K "Time") "__ge__") .GtE
  q_Time___ge__ : CmpRef K (ga K "Time") (ma K (ga K "Time") "__ge__") .LtE
  o_Time___gt__ : CmpOwn K (ga K "Time") (ma K (ga K "Time") "__gt__") .Gt
  q_Time___gt__ : CmpRef K (ga K "Time") (ma K (ga K "Time") "__gt__") .Lt
  o_Time___le__ : CmpOwn K (ga K "Time") (ma K (ga K "Time") "__le__") .LtE
  q_Time___le__ : CmpRef K (ga K "Time") (ma K (ga K "Time") "__le__") .GtE
  o_Time___lt__ : CmpOwn K (ga K "Time") (ma K (ga K "Time") "__lt__") .Lt
  q_Time___lt__ : CmpRef K (ga K "Time") (ma K (ga K "Time") "__lt__") .Gt
  b_Time___mul__ : BinOwn K (ga K "Time") (ma K (ga K "Time") "__mul__") .Mult
  ni_Time___mul__ : NoInpl K (ga K "Time") .Mult
  u_Time_neg : NegOwn K (ga K "Time") (ma K (ga K "Time") "__neg__")
  b_Time___pow__ : BinOwn K (ga K "Time") (ma K (ga K "Time") "__pow__") .Pow
  r_Time___radd__ : BinRef K (ga K "Time") (ma K (ga K "Time") "__radd__") .Add
  r_Time___rfloordiv__ : BinRef K (ga K "Time") (ma K (ga K "Time") "__rfloordiv__") .FloorDiv
  r_Time___rmul__ : BinRef K (ga K "Time") (ma K (ga K "Time") "__rmul__") .Mult
  r_Time___rsub__ : BinRef K (ga K "Time") (ma K (ga K "Time") "__rsub__") .Sub
  b_Time___sub__ : BinOwn K (ga K "Time") (ma K (ga K "Time") "__sub__") .Sub
  ni_Time___sub__ : NoInpl K (ga K "Time") .Sub
  p_Time_bottom : PropOf K (ga K "Time") "bottom" (ma K (ga K "Time") "bottom") (pgA K (ga K "Time") "bottom")
  e_Time_over : Meth K (ga K "Time") "over" (ma K (ga K "Time") "over")
  e_Time_power : Meth K (ga K "Time") "power" (ma K (ga K "Time") "power")
  p_Time_top : PropOf K (ga K "Time") "top" (ma K (ga K "Time") "top") (pgA K (ga K "Time") "top")
  c_Book : IsC K (ga K "Book")
  k_Book : KitC K (ga K "Book")
  m_Book : Mk K (ga K "Book") (ma K (ga K "Book") "__init__")
  n_Book_rules : NoAttr K (ga K "Book") "rules"
  sn_Book : PySem.W.subIn K (.ref (ga K "Book")) (.type "NoneType") = some false
  bm_Book_change : BMeth K (ga K "Book") "change" (ma K (ga K "Book") "change")
  e_Book_change : Meth K (ga K "Book") "change" (ma K (ga K "Book") "change")
  p_Book_doubled : PropOf K (ga K "Book") "doubled" (ma K (ga K "Book") "doubled") (pgA K (ga K "Book") "doubled")
  p_Book_factor : PropOf K (ga K "Book") "factor" (ma K (ga K "Book") "factor") (pgA K (ga K "Book") "factor")
  p_Book_floor : PropOf K (ga K "Book") "floor" (ma K (ga K "Book") "floor") (pgA K (ga K "Book") "floor")
  p_Book_kept : PropOf K (ga K "Book") "kept" (ma K (ga K "Book") "kept") (pgA K (ga K "Book") "kept")
  p_Book_latest : PropOf K (ga K "Book") "latest" (ma K (ga K "Book") "latest") (pgA K (ga K "Book") "latest")
  p_Book_margin : PropOf K (ga K "Book") "margin" (ma K (ga K "Book") "margin") (pgA K (ga K "Book") "margin")
  e_Book_put_part : Meth K (ga K "Book") "put_part" (ma K (ga K "Book") "put_part")
  p_Book_roof : PropOf K (ga K "Book") "roof" (ma K (ga K "Book") "roof") (pgA K (ga K "Book") "roof")
  p_Book_sample : PropOf K (ga K "Book") "sample" (ma K (ga K "Book") "sample") (pgA K (ga K "Book") "sample")
  p_Book_share : PropOf K (ga K "Book") "share" (ma K (ga K "Book") "share") (pgA K (ga K "Book") "share")
  e_Book_twin : Meth K (ga K "Book") "twin" (ma K (ga K "Book") "twin")
  i_MOST_FIGURES : ∃ t, mg "MOST_FIGURES" = some (.int 60 t)
  i_FIGURES : ∃ t, mg "FIGURES" = some (.str "0123456789" t)
  g_is_integer : mg "is_integer" = some (.ref (ga K "is_integer"))
  g_NoTime : mg "NoTime" = some (.ref (ga K "NoTime"))
  g_common : mg "common" = some (.ref (ga K "common"))
  g_is_time : mg "is_time" = some (.ref (ga K "is_time"))
  g_time_of : mg "time_of" = some (.ref (ga K "time_of"))
  g_Time : mg "Time" = some (.ref (ga K "Time"))
  i_MOST_POWER : ∃ t, mg "MOST_POWER" = some (.int 10000 t)
  g_raised : mg "raised" = some (.ref (ga K "raised"))
  g_NoText : mg "NoText" = some (.ref (ga K "NoText"))
  g_read_count : mg "read_count" = some (.ref (ga K "read_count"))
  i_MOST_LATEST : ∃ t, mg "MOST_LATEST" = some (.int 20 t)
  g_is_positive : mg "is_positive" = some (.ref (ga K "is_positive"))
  g_SAMPLES : mg "SAMPLES" = some (.ref (ga K "SAMPLES"))
  kt_SAMPLES : KTup K (ga K "SAMPLES") ["first", "last", "marked", "clean"]
  g_is_latest : mg "is_latest" = some (.ref (ga K "is_latest"))
  g_is_roof : mg "is_roof" = some (.ref (ga K "is_roof"))
  g_PARTS : mg "PARTS" = some (.ref (ga K "PARTS"))
  kt_PARTS : KTup K (ga K "PARTS") ["sample", "share", "latest", "factor", "margin", "floor", "roof", "doubled", "kept"]
  g_is_allowed : mg "is_allowed" = some (.ref (ga K "is_allowed"))
  g_BadBook : mg "BadBook" = some (.ref (ga K "BadBook"))
  g_greater : mg "greater" = some (.ref (ga K "greater"))
  g_lesser : mg "lesser" = some (.ref (ga K "lesser"))
  g_checked : mg "checked" = some (.ref (ga K "checked"))
  g_word_of : mg "word_of" = some (.ref (ga K "word_of"))
  g_Book : mg "Book" = some (.ref (ga K "Book"))
  g_bends : mg "bends" = some (.ref (ga K "bends"))
  g_made_of : mg "made_of" = some (.ref (ga K "made_of"))
  g_last_rise : mg "last_rise" = some (.ref (ga K "last_rise"))
  g_part_of : mg "part_of" = some (.ref (ga K "part_of"))
  g_NoChange : mg "NoChange" = some (.ref (ga K "NoChange"))
  g__law_divisor : mg "_law_divisor" = some (.ref (ga K "_law_divisor"))
  g__law_cut : mg "_law_cut" = some (.ref (ga K "_law_cut"))
  g__law_draw : mg "_law_draw" = some (.ref (ga K "_law_draw"))
  g__law_share : mg "_law_share" = some (.ref (ga K "_law_share"))
  g__law_moment : mg "_law_moment" = some (.ref (ga K "_law_moment"))
  g__law_sum : mg "_law_sum" = some (.ref (ga K "_law_sum"))
  g__law_time : mg "_law_time" = some (.ref (ga K "_law_time"))
  g__law_is : mg "_law_is" = some (.ref (ga K "_law_is"))
  g__law_number : mg "_law_number" = some (.ref (ga K "_law_number"))
  g__law_less : mg "_law_less" = some (.ref (ga K "_law_less"))
  g__law_odd : mg "_law_odd" = some (.ref (ga K "_law_odd"))
  g_changed : mg "changed" = some (.ref (ga K "changed"))
  g_ResendError : mg "ResendError" = some (.ref (ga K "ResendError"))
  g__law_first_bad : mg "_law_first_bad" = some (.ref (ga K "_law_first_bad"))
  g__law_words : mg "_law_words" = some (.ref (ga K "_law_words"))
  g__law_thing : mg "_law_thing" = some (.ref (ga K "_law_thing"))
  g__law_begin : mg "_law_begin" = some (.ref (ga K "_law_begin"))
  g__law_rules : mg "_law_rules" = some (.ref (ga K "_law_rules"))
  g__law_book : mg "_law_book" = some (.ref (ga K "_law_book"))
  g__law_bent : mg "_law_bent" = some (.ref (ga K "_law_bent"))
  g__law_row : mg "_law_row" = some (.ref (ga K "_law_row"))
  g__law_due : mg "_law_due" = some (.ref (ga K "_law_due"))
  g__law_made : mg "_law_made" = some (.ref (ga K "_law_made"))
  g__law_reads : mg "_law_reads" = some (.ref (ga K "_law_reads"))
  g_law : mg "law" = some (.ref (ga K "law"))
  z_isinstance : mg "isinstance" = none
  z_int : mg "int" = none
  z_bool : mg "bool" = none
  z_abs : mg "abs" = none
  z_len : mg "len" = none
  z_str : mg "str" = none
  z_NotImplemented : mg "NotImplemented" = none
  z_dict : mg "dict" = none
  z_range : mg "range" = none
  z_all : mg "all" = none
  z_zip : mg "zip" = none
  z_enumerate : mg "enumerate" = none
  z_list : mg "list" = none
  z_repr : mg "repr" = none
  z_super : mg "super" = none
  d_BadBook___init__ : ∃ (oc : Value) (od : Option Addr) (cl : List (Str × Addr)) (dV kV doc pm : Value) (an : Option Addr) (cdv ct : Value) (osl : Array (Option Value)), K.lookup (ma K (ga K "BadBook") "__init__") = some ⟨oc, od, .func (PySem.W.fnX "__init__" "BadBook.__init__" (defArgs s_BadBook___init__) (defBody s_BadBook___init__) (defScope s_BadBook___init__) cl dV kV doc pm an cdv ct), osl⟩ ∧ PySem.W.codeIn K cdv "BadBook.__init__" = true
  d_NoChange___init__ : ∃ (oc : Value) (od : Option Addr) (cl : List (Str × Addr)) (dV kV doc pm : Value) (an : Option Addr) (cdv ct : Value) (osl : Array (Option Value)), K.lookup (ma K (ga K "NoChange") "__init__") = some ⟨oc, od, .func (PySem.W.fnX "__init__" "NoChange.__init__" (defArgs s_NoChange___init__) (defBody s_NoChange___init__) (defScope s_NoChange___init__) cl dV kV doc pm an cdv ct), osl⟩ ∧ PySem.W.codeIn K cdv "NoChange.__init__" = true
  d_is_integer : ∃ fd, FunD K "is_integer" "is_integer" (defArgs s_is_integer) (defBody s_is_integer) (defScope s_is_integer) [] [] (ga K "is_integer") fd
  d_common : ∃ fd, FunD K "common" "common" (defArgs s_common) (defBody s_common) (defScope s_common) [] [] (ga K "common") fd
  d_Time___init__ : ∃ fd, FunD K "__init__" "Time.__init__" (defArgs s_Time___init__) (defBody s_Time___init__) (defScope s_Time___init__) [.int 1] [] (ma K (ga K "Time") "__init__") fd
  d_Time_top : ∃ fd, FunD K "top" "Time.top" (defArgs s_Time_top) (defBody s_Time_top) (defScope s_Time_top) [] [] (pgA K (ga K "Time") "top") fd
  d_Time_bottom : ∃ fd, FunD K "bottom" "Time.bottom" (defArgs s_Time_bottom) (defBody s_Time_bottom) (defScope s_Time_bottom) [] [] (pgA K (ga K "Time") "bottom") fd
  d_Time___add__ : ∃ fd, FunD K "__add__" "Time.__add__" (defArgs s_Time___add__) (defBody s_Time___add__) (defScope s_Time___add__) [] [] (ma K (ga K "Time") "__add__") fd
  d_Time___radd__ : ∃ fd, FunD K "__radd__" "Time.__radd__" (defArgs s_Time___radd__) (defBody s_Time___radd__) (defScope s_Time___radd__) [] [] (ma K (ga K "Time") "__radd__") fd
  d_Time___sub__ : ∃ fd, FunD K "__sub__" "Time.__sub__" (defArgs s_Time___sub__) (defBody s_Time___sub__) (defScope s_Time___sub__) [] [] (ma K (ga K "Time") "__sub__") fd
  d_Time___rsub__ : ∃ fd, FunD K "__rsub__" "Time.__rsub__" (defArgs s_Time___rsub__) (defBody s_Time___rsub__) (defScope s_Time___rsub__) [] [] (ma K (ga K "Time") "__rsub__") fd
  d_Time___mul__ : ∃ fd, FunD K "__mul__" "Time.__mul__" (defArgs s_Time___mul__) (defBody s_Time___mul__) (defScope s_Time___mul__) [] [] (ma K (ga K "Time") "__mul__") fd
  d_Time___rmul__ : ∃ fd, FunD K "__rmul__" "Time.__rmul__" (defArgs s_Time___rmul__) (defBody s_Time___rmul__) (defScope s_Time___rmul__) [] [] (ma K (ga K "Time") "__rmul__") fd
  d_Time___neg__ : ∃ fd, FunD K "__neg__" "Time.__neg__" (defArgs s_Time___neg__) (defBody s_Time___neg__) (defScope s_Time___neg__) [] [] (ma K (ga K "Time") "__neg__") fd
  d_Time___abs__ : ∃ fd, FunD K "__abs__" "Time.__abs__" (defArgs s_Time___abs__) (defBody s_Time___abs__) (defScope s_Time___abs__) [] [] (ma K (ga K "Time") "__abs__") fd
  d_Time___eq__ : ∃ fd, FunD K "__eq__" "Time.__eq__" (defArgs s_Time___eq__) (defBody s_Time___eq__) (defScope s_Time___eq__) [] [] (ma K (ga K "Time") "__eq__") fd
  d_Time___lt__ : ∃ fd, FunD K "__lt__" "Time.__lt__" (defArgs s_Time___lt__) (defBody s_Time___lt__) (defScope s_Time___lt__) [] [] (ma K (ga K "Time") "__lt__") fd
  d_Time___le__ : ∃ fd, FunD K "__le__" "Time.__le__" (defArgs s_Time___le__) (defBody s_Time___le__) (defScope s_Time___le__) [] [] (ma K (ga K "Time") "__le__") fd
  d_Time___gt__ : ∃ fd, FunD K "__gt__" "Time.__gt__" (defArgs s_Time___gt__) (defBody s_Time___gt__) (defScope s_Time___gt__) [] [] (ma K (ga K "Time") "__gt__") fd
  d_Time___ge__ : ∃ fd, FunD K "__ge__" "Time.__ge__" (defArgs s_Time___ge__) (defBody s_Time___ge__) (defScope s_Time___ge__) [] [] (ma K (ga K "Time") "__ge__") fd
  d_is_time : ∃ fd, FunD K "is_time" "is_time" (defArgs s_is_time) (defBody s_is_time) (defScope s_is_time) [] [] (ga K "is_time") fd
  d_time_of : ∃ fd, FunD K "time_of" "time_of" (defArgs s_time_of) (defBody s_time_of) (defScope s_time_of) [] [] (ga K "time_of") fd
  d_is_positive : ∃ fd, FunD K "is_positive" "is_positive" (defArgs s_is_positive) (defBody s_is_positive) (defScope s_is_positive) [] [] (ga K "is_positive") fd
  d_is_latest : ∃ fd, FunD K "is_latest" "is_latest" (defArgs s_is_latest) (defBody s_is_latest) (defScope s_is_latest) [] [] (ga K "is_latest") fd
  d_is_roof : ∃ fd, FunD K "is_roof" "is_roof" (defArgs s_is_roof) (defBody s_is_roof) (defScope s_is_roof) [] [] (ga K "is_roof") fd
  d_is_allowed : ∃ fd, FunD K "is_allowed" "is_allowed" (defArgs s_is_allowed) (defBody s_is_allowed) (defScope s_is_allowed) [] [] (ga K "is_allowed") fd
  d_checked : ∃ fd, FunD K "checked" "checked" (defArgs s_checked) (defBody s_checked) (defScope s_checked) [] [] (ga K "checked") fd
  d_Book___init__ : ∃ fd, FunD K "__init__" "Book.__init__" (defArgs s_Book___init__) (defBody s_Book___init__) (defScope s_Book___init__) [] [("sample", .str "first"), ("share", .int 1), ("latest", .non), ("factor", .int 1), ("margin", .int 0), ("floor", .non), ("roof", .non), ("doubled", .bl false), ("kept", .bl false)] (ma K (ga K "Book") "__init__") fd
  d_Book_change : ∃ fd, FunD K "change" "Book.change" (defArgs s_Book_change) (defBody s_Book_change) (defScope s_Book_change) [] [] (ma K (ga K "Book") "change") fd
  d_Book_put_part : ∃ fd, FunD K "put_part" "Book.put_part" (defArgs s_Book_put_part) (defBody s_Book_put_part) (defScope s_Book_put_part) [] [] (ma K (ga K "Book") "put_part") fd
  d_Book_sample : ∃ fd, FunD K "sample" "Book.sample" (defArgs s_Book_sample) (defBody s_Book_sample) (defScope s_Book_sample) [] [] (pgA K (ga K "Book") "sample") fd
  d_Book_share : ∃ fd, FunD K "share" "Book.share" (defArgs s_Book_share) (defBody s_Book_share) (defScope s_Book_share) [] [] (pgA K (ga K "Book") "share") fd
  d_Book_latest : ∃ fd, FunD K "latest" "Book.latest" (defArgs s_Book_latest) (defBody s_Book_latest) (defScope s_Book_latest) [] [] (pgA K (ga K "Book") "latest") fd
  d_Book_factor : ∃ fd, FunD K "factor" "Book.factor" (defArgs s_Book_factor) (defBody s_Book_factor) (defScope s_Book_factor) [] [] (pgA K (ga K "Book") "factor") fd
  d_Book_margin : ∃ fd, FunD K "margin" "Book.margin" (defArgs s_Book_margin) (defBody s_Book_margin) (defScope s_Book_margin) [] [] (pgA K (ga K "Book") "margin") fd
  d_Book_floor : ∃ fd, FunD K "floor" "Book.floor" (defArgs s_Book_floor) (defBody s_Book_floor) (defScope s_Book_floor) [] [] (pgA K (ga K "Book") "floor") fd
  d_Book_roof : ∃ fd, FunD K "roof" "Book.roof" (defArgs s_Book_roof) (defBody s_Book_roof) (defScope s_Book_roof) [] [] (pgA K (ga K "Book") "roof") fd
  d_Book_doubled : ∃ fd, FunD K "doubled" "Book.doubled" (defArgs s_Book_doubled) (defBody s_Book_doubled) (defScope s_Book_doubled) [] [] (pgA K (ga K "Book") "doubled") fd
  d_Book_kept : ∃ fd, FunD K "kept" "Book.kept" (defArgs s_Book_kept) (defBody s_Book_kept) (defScope s_Book_kept) [] [] (pgA K (ga K "Book") "kept") fd
  d_Book_twin : ∃ fd, FunD K "twin" "Book.twin" (defArgs s_Book_twin) (defBody s_Book_twin) (defScope s_Book_twin) [] [] (ma K (ga K "Book") "twin") fd
  d_changed : ∃ fd, FunD K "changed" "changed" (defArgs s_changed) (defBody s_changed) (defScope s_changed) [] [] (ga K "changed") fd
  d__law_begin : ∃ fd, FunD K "_law_begin" "_law_begin" (defArgs s__law_begin) (defBody s__law_begin) (defScope s__law_begin) [] [] (ga K "_law_begin") fd
  d__law_draw : ∃ fd, FunD K "_law_draw" "_law_draw" (defArgs s__law_draw) (defBody s__law_draw) (defScope s__law_draw) [] [] (ga K "_law_draw") fd
  d__law_divisor : ∃ fd, FunD K "_law_divisor" "_law_divisor" (defArgs s__law_divisor) (defBody s__law_divisor) (defScope s__law_divisor) [] [] (ga K "_law_divisor") fd
  d__law_cut : ∃ fd, FunD K "_law_cut" "_law_cut" (defArgs s__law_cut) (defBody s__law_cut) (defScope s__law_cut) [] [] (ga K "_law_cut") fd
  d__law_sum : ∃ fd, FunD K "_law_sum" "_law_sum" (defArgs s__law_sum) (defBody s__law_sum) (defScope s__law_sum) [] [] (ga K "_law_sum") fd
  d__law_less : ∃ fd, FunD K "_law_less" "_law_less" (defArgs s__law_less) (defBody s__law_less) (defScope s__law_less) [] [] (ga K "_law_less") fd
  d__law_time : ∃ fd, FunD K "_law_time" "_law_time" (defArgs s__law_time) (defBody s__law_time) (defScope s__law_time) [] [] (ga K "_law_time") fd
  d__law_is : ∃ fd, FunD K "_law_is" "_law_is" (defArgs s__law_is) (defBody s__law_is) (defScope s__law_is) [] [] (ga K "_law_is") fd
  d__law_number : ∃ fd, FunD K "_law_number" "_law_number" (defArgs s__law_number) (defBody s__law_number) (defScope s__law_number) [] [] (ga K "_law_number") fd
  d__law_moment : ∃ fd, FunD K "_law_moment" "_law_moment" (defArgs s__law_moment) (defBody s__law_moment) (defScope s__law_moment) [] [] (ga K "_law_moment") fd
  d__law_share : ∃ fd, FunD K "_law_share" "_law_share" (defArgs s__law_share) (defBody s__law_share) (defScope s__law_share) [] [] (ga K "_law_share") fd
  d__law_rules : ∃ fd, FunD K "_law_rules" "_law_rules" (defArgs s__law_rules) (defBody s__law_rules) (defScope s__law_rules) [] [] (ga K "_law_rules") fd
  d__law_book : ∃ fd, FunD K "_law_book" "_law_book" (defArgs s__law_book) (defBody s__law_book) (defScope s__law_book) [] [] (ga K "_law_book") fd
  d__law_reads : ∃ fd, FunD K "_law_reads" "_law_reads" (defArgs s__law_reads) (defBody s__law_reads) (defScope s__law_reads) [] [] (ga K "_law_reads") fd
  d__law_first_bad : ∃ fd, FunD K "_law_first_bad" "_law_first_bad" (defArgs s__law_first_bad) (defBody s__law_first_bad) (defScope s__law_first_bad) [] [] (ga K "_law_first_bad") fd
  d__law_odd : ∃ fd, FunD K "_law_odd" "_law_odd" (defArgs s__law_odd) (defBody s__law_odd) (defScope s__law_odd) [] [] (ga K "_law_odd") fd
  d__law_bent : ∃ fd, FunD K "_law_bent" "_law_bent" (defArgs s__law_bent) (defBody s__law_bent) (defScope s__law_bent) [] [] (ga K "_law_bent") fd
  d__law_thing : ∃ fd, FunD K "_law_thing" "_law_thing" (defArgs s__law_thing) (defBody s__law_thing) (defScope s__law_thing) [] [] (ga K "_law_thing") fd
  d__law_words : ∃ fd, FunD K "_law_words" "_law_words" (defArgs s__law_words) (defBody s__law_words) (defScope s__law_words) [] [] (ga K "_law_words") fd
  d__law_made : ∃ fd, FunD K "_law_made" "_law_made" (defArgs s__law_made) (defBody s__law_made) (defScope s__law_made) [] [] (ga K "_law_made") fd
  d__law_due : ∃ fd, FunD K "_law_due" "_law_due" (defArgs s__law_due) (defBody s__law_due) (defScope s__law_due) [] [] (ga K "_law_due") fd
  d__law_row : ∃ fd, FunD K "_law_row" "_law_row" (defArgs s__law_row) (defBody s__law_row) (defScope s__law_row) [] [] (ga K "_law_row") fd
  d_law : ∃ fd, FunD K "law" "law" (defArgs s_law) (defBody s_law) (defScope s_law) [] [] (ga K "law") fd
theorem sc_is_integer : FnScope ["thing"] ["thing"] (defScope s_is_integer) := ⟨rfl, rfl, rfl, by decide +kernel, rfl, by decide +kernel, by decide +kernel⟩
theorem sc_common : FnScope ["one", "other"] ["one", "other"] (defScope s_common) := ⟨rfl, rfl, rfl, by decide +kernel, rfl, by decide +kernel, by decide +kernel⟩
theorem sc_Time___init__ : FnScope ["self", "top", "bottom", "part"] ["self", "top", "bottom"] (defScope s_Time___init__) := ⟨rfl, rfl, rfl, by decide +kernel, rfl, by decide +kernel, by decide +kernel⟩
theorem sc_Time_top : FnScope ["self"] ["self"] (defScope s_Time_top) := ⟨rfl, rfl, rfl, by decide +kernel, rfl, by decide +kernel, by decide +kernel⟩
theorem sc_Time_bottom : FnScope ["self"] ["self"] (defScope s_Time_bottom) := ⟨rfl, rfl, rfl, by decide +kernel, rfl, by decide +kernel, by decide +kernel⟩
theorem sc_Time___add__ : FnScope ["self", "other", "more", "top"] ["self", "other"] (defScope s_Time___add__) := ⟨rfl, rfl, rfl, by decide +kernel, rfl, by decide +kernel, by decide +kernel⟩
theorem sc_Time___radd__ : FnScope ["self", "other"] ["self", "other"] (defScope s_Time___radd__) := ⟨rfl, rfl, rfl, by decide +kernel, rfl, by decide +kernel, by decide +kernel⟩
theorem sc_Time___sub__ : FnScope ["self", "other", "less", "top"] ["self", "other"] (defScope s_Time___sub__) := ⟨rfl, rfl, rfl, by decide +kernel, rfl, by decide +kernel, by decide +kernel⟩
theorem sc_Time___rsub__ : FnScope ["self", "other"] ["self", "other"] (defScope s_Time___rsub__) := ⟨rfl, rfl, rfl, by decide +kernel, rfl, by decide +kernel, by decide +kernel⟩
theorem sc_Time___mul__ : FnScope ["self", "other", "by"] ["self", "other"] (defScope s_Time___mul__) := ⟨rfl, rfl, rfl, by decide +kernel, rfl, by decide +kernel, by decide +kernel⟩
theorem sc_Time___rmul__ : FnScope ["self", "other"] ["self", "other"] (defScope s_Time___rmul__) := ⟨rfl, rfl, rfl, by decide +kernel, rfl, by decide +kernel, by decide +kernel⟩
theorem sc_Time___neg__ : FnScope ["self"] ["self"] (defScope s_Time___neg__) := ⟨rfl, rfl, rfl, by decide +kernel, rfl, by decide +kernel, by decide +kernel⟩
theorem sc_Time___abs__ : FnScope ["self"] ["self"] (defScope s_Time___abs__) := ⟨rfl, rfl, rfl, by decide +kernel, rfl, by decide +kernel, by decide +kernel⟩
theorem sc_Time___eq__ : FnScope ["self", "other", "same"] ["self", "other"] (defScope s_Time___eq__) := ⟨rfl, rfl, rfl, by decide +kernel, rfl, by decide +kernel, by decide +kernel⟩
theorem sc_Time___lt__ : FnScope ["self", "other", "later"] ["self", "other"] (defScope s_Time___lt__) := ⟨rfl, rfl, rfl, by decide +kernel, rfl, by decide +kernel, by decide +kernel⟩
theorem sc_Time___le__ : FnScope ["self", "other", "later"] ["self", "other"] (defScope s_Time___le__) := ⟨rfl, rfl, rfl, by decide +kernel, rfl, by decide +kernel, by decide +kernel⟩
theorem sc_Time___gt__ : FnScope ["self", "other", "sooner"] ["self", "other"] (defScope s_Time___gt__) := ⟨rfl, rfl, rfl, by decide +kernel, rfl, by decide +kernel, by decide +kernel⟩
theorem sc_Time___ge__ : FnScope ["self", "other", "sooner"] ["self", "other"] (defScope s_Time___ge__) := ⟨rfl, rfl, rfl, by decide +kernel, rfl, by decide +kernel, by decide +kernel⟩
theorem sc_is_time : FnScope ["thing"] ["thing"] (defScope s_is_time) := ⟨rfl, rfl, rfl, by decide +kernel, rfl, by decide +kernel, by decide +kernel⟩
theorem sc_time_of : FnScope ["thing"] ["thing"] (defScope s_time_of) := ⟨rfl, rfl, rfl, by decide +kernel, rfl, by decide +kernel, by decide +kernel⟩
theorem sc_is_positive : FnScope ["thing"] ["thing"] (defScope s_is_positive) := ⟨rfl, rfl, rfl, by decide +kernel, rfl, by decide +kernel, by decide +kernel⟩
theorem sc_is_latest : FnScope ["thing", "share"] ["thing", "share"] (defScope s_is_latest) := ⟨rfl, rfl, rfl, by decide +kernel, rfl, by decide +kernel, by decide +kernel⟩
theorem sc_is_roof : FnScope ["thing", "floor"] ["thing", "floor"] (defScope s_is_roof) := ⟨rfl, rfl, rfl, by decide +kernel, rfl, by decide +kernel, by decide +kernel⟩
theorem sc_is_allowed : FnScope ["part", "rules", "thing"] ["part", "rules"] (defScope s_is_allowed) := ⟨rfl, rfl, rfl, by decide +kernel, rfl, by decide +kernel, by decide +kernel⟩
theorem sc_checked : FnScope ["rules", "part", "found"] ["rules"] (defScope s_checked) := ⟨rfl, rfl, rfl, by decide +kernel, rfl, by decide +kernel, by decide +kernel⟩
theorem sc_Book___init__ : FnScope ["self", "sample", "share", "latest", "factor", "margin", "floor", "roof", "doubled", "kept"] ["self", "sample", "share", "latest", "factor", "margin", "floor", "roof", "doubled", "kept"] (defScope s_Book___init__) := ⟨rfl, rfl, rfl, by decide +kernel, rfl, by decide +kernel, by decide +kernel⟩
theorem sc_Book_change : FnScope ["self", "parts", "part"] ["self", "parts"] (defScope s_Book_change) := ⟨rfl, rfl, rfl, by decide +kernel, rfl, by decide +kernel, by decide +kernel⟩
theorem sc_Book_put_part : FnScope ["self", "part", "thing"] ["self", "part", "thing"] (defScope s_Book_put_part) := ⟨rfl, rfl, rfl, by decide +kernel, rfl, by decide +kernel, by decide +kernel⟩
theorem sc_Book_sample : FnScope ["self"] ["self"] (defScope s_Book_sample) := ⟨rfl, rfl, rfl, by decide +kernel, rfl, by decide +kernel, by decide +kernel⟩
theorem sc_Book_share : FnScope ["self"] ["self"] (defScope s_Book_share) := ⟨rfl, rfl, rfl, by decide +kernel, rfl, by decide +kernel, by decide +kernel⟩
theorem sc_Book_latest : FnScope ["self"] ["self"] (defScope s_Book_latest) := ⟨rfl, rfl, rfl, by decide +kernel, rfl, by decide +kernel, by decide +kernel⟩
theorem sc_Book_factor : FnScope ["self"] ["self"] (defScope s_Book_factor) := ⟨rfl, rfl, rfl, by decide +kernel, rfl, by decide +kernel, by decide +kernel⟩
theorem sc_Book_margin : FnScope ["self"] ["self"] (defScope s_Book_margin) := ⟨rfl, rfl, rfl, by decide +kernel, rfl, by decide +kernel, by decide +kernel⟩
theorem sc_Book_floor : FnScope ["self"] ["self"] (defScope s_Book_floor) := ⟨rfl, rfl, rfl, by decide +kernel, rfl, by decide +kernel, by decide +kernel⟩
theorem sc_Book_roof : FnScope ["self"] ["self"] (defScope s_Book_roof) := ⟨rfl, rfl, rfl, by decide +kernel, rfl, by decide +kernel, by decide +kernel⟩
theorem sc_Book_doubled : FnScope ["self"] ["self"] (defScope s_Book_doubled) := ⟨rfl, rfl, rfl, by decide +kernel, rfl, by decide +kernel, by decide +kernel⟩
theorem sc_Book_kept : FnScope ["self"] ["self"] (defScope s_Book_kept) := ⟨rfl, rfl, rfl, by decide +kernel, rfl, by decide +kernel, by decide +kernel⟩
theorem sc_Book_twin : FnScope ["self", "rules"] ["self"] (defScope s_Book_twin) := ⟨rfl, rfl, rfl, by decide +kernel, rfl, by decide +kernel, by decide +kernel⟩
theorem sc_changed : FnScope ["book", "changes", "other", "at", "part", "thing", "parts", "why"] ["book", "changes"] (defScope s_changed) := ⟨rfl, rfl, rfl, by decide +kernel, rfl, by decide +kernel, by decide +kernel⟩
theorem sc__law_begin : FnScope ["_law_script"] ["_law_script"] (defScope s__law_begin) := ⟨rfl, rfl, rfl, by decide +kernel, rfl, by decide +kernel, by decide +kernel⟩
theorem sc__law_draw : FnScope ["_law_source", "_law_limit", "_law_cell", "_law_digit"] ["_law_source", "_law_limit"] (defScope s__law_draw) := ⟨rfl, rfl, rfl, by decide +kernel, rfl, by decide +kernel, by decide +kernel⟩
theorem sc__law_divisor : FnScope ["_law_one", "_law_other"] ["_law_one", "_law_other"] (defScope s__law_divisor) := ⟨rfl, rfl, rfl, by decide +kernel, rfl, by decide +kernel, by decide +kernel⟩
theorem sc__law_cut : FnScope ["_law_upper", "_law_lower", "_law_part"] ["_law_upper", "_law_lower"] (defScope s__law_cut) := ⟨rfl, rfl, rfl, by decide +kernel, rfl, by decide +kernel, by decide +kernel⟩
theorem sc__law_sum : FnScope ["_law_one", "_law_other"] ["_law_one", "_law_other"] (defScope s__law_sum) := ⟨rfl, rfl, rfl, by decide +kernel, rfl, by decide +kernel, by decide +kernel⟩
theorem sc__law_less : FnScope ["_law_one", "_law_other"] ["_law_one", "_law_other"] (defScope s__law_less) := ⟨rfl, rfl, rfl, by decide +kernel, rfl, by decide +kernel, by decide +kernel⟩
theorem sc__law_time : FnScope ["_law_pair"] ["_law_pair"] (defScope s__law_time) := ⟨rfl, rfl, rfl, by decide +kernel, rfl, by decide +kernel, by decide +kernel⟩
theorem sc__law_is : FnScope ["_law_thing_here", "_law_pair"] ["_law_thing_here", "_law_pair"] (defScope s__law_is) := ⟨rfl, rfl, rfl, by decide +kernel, rfl, by decide +kernel, by decide +kernel⟩
theorem sc__law_number : FnScope ["_law_thing_here", "_law_due_here"] ["_law_thing_here", "_law_due_here"] (defScope s__law_number) := ⟨rfl, rfl, rfl, by decide +kernel, rfl, by decide +kernel, by decide +kernel⟩
theorem sc__law_moment : FnScope ["_law_source", "_law_top"] ["_law_source"] (defScope s__law_moment) := ⟨rfl, rfl, rfl, by decide +kernel, rfl, by decide +kernel, by decide +kernel⟩
theorem sc__law_share : FnScope ["_law_source", "_law_some"] ["_law_source"] (defScope s__law_share) := ⟨rfl, rfl, rfl, by decide +kernel, rfl, by decide +kernel, by decide +kernel⟩
theorem sc__law_rules : FnScope ["_law_source", "_law_words_here", "_law_lesson", "_law_portion", "_law_newest", "_law_multiple", "_law_extra", "_law_ground", "_law_above", "_law_cover", "_law_twofold", "_law_stored", "_law_found"] ["_law_source", "_law_words_here"] (defScope s__law_rules) := ⟨rfl, rfl, rfl, by decide +kernel, rfl, by decide +kernel, by decide +kernel⟩
theorem sc__law_book : FnScope ["_law_rules_here", "_law_one", "_law_two", "_law_three", "_law_low", "_law_high"] ["_law_rules_here"] (defScope s__law_book) := ⟨rfl, rfl, rfl, by decide +kernel, rfl, by decide +kernel, by decide +kernel⟩
theorem sc__law_reads : FnScope ["_law_book_here", "_law_rules_here"] ["_law_book_here", "_law_rules_here"] (defScope s__law_reads) := ⟨rfl, rfl, rfl, by decide +kernel, rfl, by decide +kernel, by decide +kernel⟩
theorem sc__law_first_bad : FnScope ["_law_rules_here", "_law_words_here", "_law_at"] ["_law_rules_here"] (defScope s__law_first_bad) := ⟨rfl, rfl, rfl, by decide +kernel, rfl, by decide +kernel, by decide +kernel⟩
theorem sc__law_odd : FnScope ["_law_source", "_law_at", "_law_menu"] ["_law_source", "_law_at"] (defScope s__law_odd) := ⟨rfl, rfl, rfl, by decide +kernel, rfl, by decide +kernel, by decide +kernel⟩
theorem sc__law_bent : FnScope ["_law_source", "_law_rules_here", "_law_found", "_law_turn", "_law_at", "_law_kind"] ["_law_source", "_law_rules_here"] (defScope s__law_bent) := ⟨rfl, rfl, rfl, by decide +kernel, rfl, by decide +kernel, by decide +kernel⟩
theorem sc__law_thing : FnScope ["_law_rules_here", "_law_at"] ["_law_rules_here", "_law_at"] (defScope s__law_thing) := ⟨rfl, rfl, rfl, by decide +kernel, rfl, by decide +kernel, by decide +kernel⟩
theorem sc__law_words : FnScope [] [] (defScope s__law_words) := ⟨rfl, rfl, rfl, by decide +kernel, rfl, by decide +kernel, by decide +kernel⟩
theorem sc__law_made : FnScope ["_law_book_here", "_law_rows", "e"] ["_law_book_here", "_law_rows"] (defScope s__law_made) := ⟨rfl, rfl, rfl, by decide +kernel, rfl, by decide +kernel, by decide +kernel⟩
theorem sc__law_due : FnScope ["_law_rules_here", "_law_steps", "_law_here", "_law_at", "_law_place", "_law_thing_here", "_law_after"] ["_law_rules_here", "_law_steps"] (defScope s__law_due) := ⟨rfl, rfl, rfl, by decide +kernel, rfl, by decide +kernel, by decide +kernel⟩
theorem sc__law_row : FnScope ["_law_rules_here", "_law_step"] ["_law_rules_here", "_law_step"] (defScope s__law_row) := ⟨rfl, rfl, rfl, by decide +kernel, rfl, by decide +kernel, by decide +kernel⟩
theorem sc_law : FnScope ["_law_script", "_law_source", "_law_turn", "_law_rules_here", "_law_book_here", "_law_steps", "_law_rows", "_law_k", "_law_other", "_law_place", "_law_stored", "_law_due_here", "_law_found", "_law_row_here"] ["_law_script"] (defScope s_law) := ⟨rfl, rfl, rfl, by decide +kernel, rfl, by decide +kernel, by decide +kernel⟩
theorem tm_of {K : PySem.W.Frag} {mg : Str → Option Value} {h : Heap} (X : K.In h) (G : h.Ns mainGlobals mg) (c : SaysX ψ fn K) : Tm K mg :=
  ⟨excC_ok (c.fact 0),
   excC_ok (c.fact 1),
   excPlain_ok (c.fact 2),
   excC_ok (c.fact 3),
   excC_ok (c.fact 4),
   of_decide_eq_true (c.fact 5),
   excI_ok (c.fact 6),
   id (c.fact 7),
   of_decide_eq_true (c.fact 8),
   excC_ok (c.fact 9),
   of_decide_eq_true (c.fact 10),
   of_decide_eq_true (c.fact 11),
   of_decide_eq_true (c.fact 12),
   excI_ok (c.fact 13),
   id (c.fact 14),
   of_decide_eq_true (c.fact 15),
   isC_ok (c.fact 16),
   kitC_ok (c.fact 17),
   mkr_ok (c.fact 18),
   noat_ok (c.fact 19),
   noat_ok (c.fact 20),
   of_decide_eq_true (c.fact 21),
   neOwn_ok (c.fact 22),
   absOwn_ok (c.fact 23),
   binOwn_ok (c.fact 24),
   noInpl_ok (c.fact 25),
   cmpOwn_ok (c.fact 26),
   cmpRef_ok (c.fact 27),
   binOwn_ok (c.fact 28),
   cmpOwn_ok (c.fact 29),
   cmpRef_ok (c.fact 30),
   cmpOwn_ok (c.fact 31),
   cmpRef_ok (c.fact 32),
   cmpOwn_ok (c.fact 33),
   cmpRef_ok (c.fact 34),
   cmpOwn_ok (c.fact 35),
   cmpRef_ok (c.fact 36),
   binOwn_ok (c.fact 37),
   noInpl_ok (c.fact 38),
   negOwn_ok (c.fact 39),
   binOwn_ok (c.fact 40),
   binRef_ok (c.fact 41),
   binRef_ok (c.fact 42),
   binRef_ok (c.fact 43),
   binRef_ok (c.fact 44),
   binOwn_ok (c.fact 45),
   noInpl_ok (c.fact 46),
   prop_ok (c.fact 47),
   meth_ok (c.fact 48),
   meth_ok (c.fact 49),
   prop_ok (c.fact 50),
   isC_ok (c.fact 51),
   kitC_ok (c.fact 52),
   mkr_ok (c.fact 53),
   noat_ok (c.fact 54),
   of_decide_eq_true (c.fact 55),
   bMeth_ok (c.fact 56),
   meth_ok (c.fact 57),
   prop_ok (c.fact 58),
   prop_ok (c.fact 59),
   prop_ok (c.fact 60),
   prop_ok (c.fact 61),
   prop_ok (c.fact 62),
   prop_ok (c.fact 63),
   meth_ok (c.fact 64),
   prop_ok (c.fact 65),
   prop_ok (c.fact 66),
   prop_ok (c.fact 67),
   meth_ok (c.fact 68),
   int_ok X G (c.fact 69),
   str_ok X G (c.fact 70),
   glo_ok X G (c.fact 71),
   glo_ok X G (c.fact 72),
   glo_ok X G (c.fact 73),
   glo_ok X G (c.fact 74),
   glo_ok X G (c.fact 75),
   glo_ok X G (c.fact 76),
   int_ok X G (c.fact 77),
   glo_ok X G (c.fact 78),
   glo_ok X G (c.fact 79),
   glo_ok X G (c.fact 80),
   int_ok X G (c.fact 81),
   glo_ok X G (c.fact 82),
   glo_ok X G (c.fact 83),
   kTup_ok (c.fact 84),
   glo_ok X G (c.fact 85),
   glo_ok X G (c.fact 86),
   glo_ok X G (c.fact 87),
   kTup_ok (c.fact 88),
   glo_ok X G (c.fact 89),
   glo_ok X G (c.fact 90),
   glo_ok X G (c.fact 91),
   glo_ok X G (c.fact 92),
   glo_ok X G (c.fact 93),
   glo_ok X G (c.fact 94),
   glo_ok X G (c.fact 95),
   glo_ok X G (c.fact 96),
   glo_ok X G (c.fact 97),
   glo_ok X G (c.fact 98),
   glo_ok X G (c.fact 99),
   glo_ok X G (c.fact 100),
   glo_ok X G (c.fact 101),
   glo_ok X G (c.fact 102),
   glo_ok X G (c.fact 103),
   glo_ok X G (c.fact 104),
   glo_ok X G (c.fact 105),
   glo_ok X G (c.fact 106),
   glo_ok X G (c.fact 107),
   glo_ok X G (c.fact 108),
   glo_ok X G (c.fact 109),
   glo_ok X G (c.fact 110),
   glo_ok X G (c.fact 111),
   glo_ok X G (c.fact 112),
   glo_ok X G (c.fact 113),
   glo_ok X G (c.fact 114),
   glo_ok X G (c.fact 115),
   glo_ok X G (c.fact 116),
   glo_ok X G (c.fact 117),
   glo_ok X G (c.fact 118),
   glo_ok X G (c.fact 119),
   glo_ok X G (c.fact 120),
   glo_ok X G (c.fact 121),
   glo_ok X G (c.fact 122),
   glo_ok X G (c.fact 123),
   glo_ok X G (c.fact 124),
   glo_ok X G (c.fact 125),
   free_ok X G (c.fact 126),
   free_ok X G (c.fact 127),
   free_ok X G (c.fact 128),
   free_ok X G (c.fact 129),
   free_ok X G (c.fact 130),
   free_ok X G (c.fact 131),
   free_ok X G (c.fact 132),
   free_ok X G (c.fact 133),
   free_ok X G (c.fact 134),
   free_ok X G (c.fact 135),
   free_ok X G (c.fact 136),
   free_ok X G (c.fact 137),
   free_ok X G (c.fact 138),
   free_ok X G (c.fact 139),
   free_ok X G (c.fact 140),
   c.dfc 0,
   c.dfc 1,
   c.dfn 2,
   c.dfn 3,
   c.dfn 4,
   c.dfn 5,
   c.dfn 6,
   c.dfn 7,
   c.dfn 8,
   c.dfn 9,
   c.dfn 10,
   c.dfn 11,
   c.dfn 12,
   c.dfn 13,
   c.dfn 14,
   c.dfn 15,
   c.dfn 16,
   c.dfn 17,
   c.dfn 18,
   c.dfn 19,
   c.dfn 20,
   c.dfn 21,
   c.dfn 22,
   c.dfn 23,
   c.dfn 24,
   c.dfn 25,
   c.dfn 26,
   c.dfn 27,
   c.dfn 28,
   c.dfn 29,
   c.dfn 30,
   c.dfn 31,
   c.dfn 32,
   c.dfn 33,
   c.dfn 34,
   c.dfn 35,
   c.dfn 36,
   c.dfn 37,
   c.dfn 38,
   c.dfn 39,
   c.dfn 40,
   c.dfn 41,
   c.dfn 42,
   c.dfn 43,
   c.dfn 44,
   c.dfn 45,
   c.dfn 46,
   c.dfn 47,
   c.dfn 48,
   c.dfn 49,
   c.dfn 50,
   c.dfn 51,
   c.dfn 52,
   c.dfn 53,
   c.dfn 54,
   c.dfn 55,
   c.dfn 56,
   c.dfn 57,
   c.dfn 58,
   c.dfn 59,
   c.dfn 60,
   c.dfn 61,
   c.dfn 62,
   c.dfn 63⟩
local macro_rules | `(tactic| walk_at "w") => `(tactic| first | ((with_reducible show Rs.WE _ _ _ _ _); walk_at "wE") | ((with_reducible show Rs.Op2 _ _ _ _ _ _); walk_at "wO") | ((with_reducible show Rs.WB _ _ _ _ _); walk_at "wB") | ((with_reducible show Rs.WS _ _ _ _ _); walk_at "wS") | ((with_reducible show Rs.WA _ _ _ _ _); walk_at "wA") | ((with_reducible show Rs.WT _ _ _ _ _); walk_at "wT") | ((with_reducible show L2.rIx _ _ _ _ _); walk_at "wR") | ((with_reducible show ite _ _ _); walk_at "wI") | walk_at "wX" | fail)
/-! steps over the text -/
local macro_rules | `(tactic| walk_at "wE") => `(tactic| first | ((with_reducible refine' we_name ?n ?h ?_); (case n => with_reducible assumption); (case h => exact rfl)) | with_reducible refine' we_int ?_ | with_reducible refine' we_str ?_ | with_reducible refine' we_bool ?_ | with_reducible refine' we_none ?_ | ((with_reducible refine' we_ref ?g ?m ?_); (case g => with_reducible assumption); (case m => with_reducible assumption)) | ((with_reducible refine' we_cint ?g ?m ?_); (case g => with_reducible assumption); (case m => with_reducible assumption)) | ((with_reducible refine' we_cstr ?g ?m ?_); (case g => with_reducible assumption); (case m => with_reducible assumption)) | with_reducible refine' we_bin ?_ | (with_reducible refine' we_cmp ?_ ?hm; (case hm => first | exact nomark _ | rfl)) | ((with_reducible refine' we_chain ?_ ?h1); (case h1 => rfl)) | with_reducible refine' we_and2 ?_ | with_reducible refine' we_and3 ?_ | with_reducible refine' we_or2 ?_ | with_reducible refine' we_not ?_ | with_reducible refine' we_un ?_ | with_reducible refine' we_if ?_ | ((with_reducible refine' we_isi ?b ?_ ?h1 ?h2 ?h3); (case b => with_reducible assumption); (case h1 => rfl); (case h2 => rfl); (case h3 => rfl)) | ((with_reducible refine' we_ty ?b ?hv ?_ ?hn ?hd); (case b => with_reducible assumption); (case hv => first | exact PyProof.Rows.boot_int | exact PyProof.Rows.boot_bool | exact PyProof.Rows.boot_str); (case hn => decide); (case hd => decide)) | ((with_reducible refine' we_call ?B ?g ?f ?hj ?_ ?hs ?hl); (case B => assumption); (case g => with_reducible assumption); (case f => with_reducible assumption); (case hj => decide); (case hs => rfl); (case hl => rfl)) | with_reducible refine' we_tup ?_ | with_reducible refine' we_lst ?_ | fail)
local macro_rules | `(tactic| walk_at "wO") => `(tactic| first | with_reducible refine' o_add ?_ | with_reducible refine' o_sub ?_ | with_reducible refine' o_lt ?_ | with_reducible refine' o_le ?_ | with_reducible refine' o_gt ?_ | with_reducible refine' o_ge ?_ | with_reducible refine' o_eq ?_ | with_reducible refine' o_ne ?_ | with_reducible refine' o_isN ?_ | with_reducible refine' o_notN ?_ | fail)
local macro_rules | `(tactic| walk_at "wB") => `(tactic| first | with_reducible refine' wb_one ?_ | with_reducible refine' wb_cons ?_ | with_reducible refine' wb_nil ?_ | fail)
local macro_rules | `(tactic| walk_at "wS") => `(tactic| first | ((with_reducible refine' ws_set ?n ?_ ?hs); (case n => with_reducible assumption); (case hs => rfl)) | with_reducible refine' ws_ret ?_ | with_reducible refine' ws_if ?_ | ((with_reducible refine' ws_par ?B ?n1 ?n2 ?hk ?hx ?hy ?_ ?h1 ?h2 ?h3 ?h4 ?h5 ?h6 ?h7 ?h8); (case B => assumption); (case n1 => with_reducible assumption); (case n2 => with_reducible assumption); (case hk => assumption); (case hx => assumption); (case hy => assumption); (case h1 => decide); (case h2 => decide); (case h3 => rfl); (case h4 => rfl); (case h5 => rfl); (case h6 => rfl); (case h7 => rfl); (case h8 => rfl)) | fail)
local macro_rules | `(tactic| walk_at "wA") => `(tactic| first | ((with_reducible refine' wa_two ?_ ?h1 ?h2); (case h1 => rfl); (case h2 => rfl)) | ((with_reducible refine' wa_one ?_ ?h1); (case h1 => rfl)) | ((with_reducible refine' wa_three ?_ ?h1 ?h2 ?h3); (case h1 => rfl); (case h2 => rfl); (case h3 => rfl)) | ((with_reducible refine' wa_cons ?_ ?h1); (case h1 => rfl)) | with_reducible refine' wa_nil ?_ | fail)
local macro_rules | `(tactic| walk_at "wT") => `(tactic| first | (with_reducible refine' wt_cmp ?_ ?hm; (case hm => first | exact nomark _ | rfl)) | ((with_reducible refine' wt_chain ?_ ?h1); (case h1 => rfl)) | with_reducible refine' wt_and2 ?_ | with_reducible refine' wt_and3 ?_ | with_reducible refine' wt_or2 ?_ | with_reducible refine' wt_or3 ?_ | with_reducible refine' wt_or4 ?_ | with_reducible refine' wt_not ?_ | ((with_reducible refine' wt_val ?_ ?he); (case he => intro _; rfl)) | fail)
local macro_rules | `(tactic| walk_at "wI") => `(tactic| first | with_reducible refine' iteT ?_ | with_reducible refine' iteNT ?_ | with_reducible refine' iteNF ?_ | with_reducible refine' iteF ?_ | fail)
local macro_rules | `(tactic| walk_at "wX") => `(tactic| first | with_reducible refine' o_neg ?_ | with_reducible refine' bl_ok ?_ | with_reducible refine' int_ok ?_ | fail)

/-! ### is_integer, common, is_time, time_of, Time(..) -/
section
variable {P : Program} {w : World} {K : PySem.W.Frag} {mg : Str → Option Value} {base : Heap}
def spIsInteger (K : PySem.W.Frag) : Sp := fun vs H Q _ => ∃ v t r1 r2, vs = [v] ∧ TyX K H v t ∧ PySem.W.kitOne K t (.type "int") = some r1 ∧ PySem.W.kitOne K t (.type "bool") = some r2 ∧ Q (.bl (r1 && !r2)) H
theorem f_is_integer (T : Tm K mg) : GFn P w K mg base 1 "is_integer" (spIsInteger K) := by
  obtain ⟨fd, F⟩ := T.d_is_integer
  refine GFn.mk F T.g_is_integer (def_ok F sc_is_integer (fun vs H Q E h => by obtain ⟨v, t, r1, r2, rfl, _⟩ := h; rfl) ?_) (F.bindsN fun _ _ _ _ _ _ us hl => match us, hl with | [_], _ => rfl)
  intro X eP ew eK em eb eN es hf nd H vs Q E B h
  subst eP ew eK em eb
  have n0 : Sl X 0 "thing" := slot_of eN es hf nd rfl (by first | exact Or.inl rfl | exact Or.inr rfl) (by decide) (by decide)
  have z_isinstance : Bn X "isinstance" := bn_of es rfl T.z_isinstance
  have z_int : Bn X "int" := bn_of es rfl T.z_int
  have z_bool : Bn X "bool" := bn_of es rfl T.z_bool
  obtain ⟨v, t, r1, r2, rfl, ht, h1, h2, q⟩ := h
  show WB X [_] _ [some v] H
  repeat walk_at "w"
  refine ⟨r1, ⟨t, _, .ty _, ht, h1⟩, ?_⟩
  repeat walk_at "w"
  refine ite_b (fun e => ?_) (fun e => ?_)
  · subst e
    repeat walk_at "w"
    refine ⟨r2, ⟨t, _, .ty _, ht, h2⟩, ?_⟩
    repeat walk_at "w"
    exact q
  · subst e
    exact q
def spCommon : Sp := fun vs H Q _ => ∃ a b, vs = [.int a, .int b] ∧ Q (.int (g1 a b)) H
theorem f_common (T : Tm K mg) : GFn P w K mg base 1 "common" spCommon := by
  obtain ⟨fd, F⟩ := T.d_common
  refine GFn.mk F T.g_common (def_ok F sc_common (fun vs H Q E h => by obtain ⟨a, b, rfl, _⟩ := h; rfl) ?_) (F.bindsN fun _ _ _ _ _ _ us hl => match us, hl with | [_, _], _ => rfl)
  intro X eP ew eK em eb eN es hf nd H vs Q E B h
  subst eP ew eK em eb
  have n0 : Sl X 0 "one" := slot_of eN es hf nd rfl (by first | exact Or.inl rfl | exact Or.inr rfl) (by decide) (by decide)
  have n1 : Sl X 1 "other" := slot_of eN es hf nd rfl (by first | exact Or.inl rfl | exact Or.inr rfl) (by decide) (by decide)
  have z_abs : Bn X "abs" := bn_of es rfl T.z_abs
  have kb : X.env.blockKind = .function := blk_of es rfl
  have k_one : X.env.kindOf "one" = some .local := kd_of es rfl
  have k_other : X.env.kindOf "other" = some .local := kd_of es rfl
  obtain ⟨a, b, rfl, q⟩ := h
  show WB X [_, _, _, _] _ [some (.int a), some (.int b)] H
  repeat walk_at "w"
  refine we_abs z_abs ?_
  repeat walk_at "w"
  refine we_abs z_abs ?_
  repeat walk_at "w"
  refine ws_while_by (fun σ H' => ∃ x y : Int, σ = [some (.int x), some (.int y)] ∧ 0 ≤ x ∧ 0 ≤ y ∧ Int.gcd x y = Int.gcd a b ∧ H' = H) (fun σ _ => match σ with | [_, some (.int y)] => y.toNat | _ => 0) B
    ⟨_, _, rfl, abs_nn a, abs_nn b, gcd_abs a b, rfl⟩ ?_
  rintro σ H' ⟨x, y, rfl, hx, hy, hg, rfl⟩
  repeat walk_at "w"
  refine ite_ndec (fun hc => ?_) (fun hc => ?_)
  · repeat walk_at "w"
    refine o_mod (by omega) ?_
    exact ⟨⟨y, x % y, rfl, hy, Int.emod_nonneg _ hc, by rw [gcd_turn, hg], rfl⟩, by have := Int.emod_lt_of_pos x (show 0 < y by omega); have := Int.emod_nonneg x hc; show (x % y).toNat < y.toNat; omega⟩
  · repeat walk_at "w"
    have e : g1 a b = if x > 0 then x else 1 := by
      unfold g1
      rw [← hg, hc, Int.gcd_zero_right, Int.natAbs_of_nonneg hx]
    refine ite_dec (fun hp => ?_) (fun hp => ?_)
    · repeat walk_at "w"
      rw [e, if_pos hp] at q
      exact q
    · repeat walk_at "w"
      rw [e, if_neg hp] at q
      exact q
def spIsTime (K : PySem.W.Frag) : Sp := fun vs H Q _ => ∃ v t r0 r1 r2, vs = [v] ∧ TyX K H v t ∧ PySem.W.kitOne K t (.ref (ga K "Time")) = some r0 ∧ PySem.W.kitOne K t (.type "int") = some r1 ∧ PySem.W.kitOne K t (.type "bool") = some r2 ∧ Q (.bl (r0 || (r1 && !r2))) H
theorem f_is_time (T : Tm K mg) : GFn P w K mg base 2 "is_time" (spIsTime K) := by
  obtain ⟨fd, F⟩ := T.d_is_time
  refine GFn.mk F T.g_is_time (def_ok F sc_is_time (fun vs H Q E h => by obtain ⟨v, t, r0, r1, r2, rfl, _⟩ := h; rfl) ?_) (F.bindsN fun _ _ _ _ _ _ us hl => match us, hl with | [_], _ => rfl)
  intro X eP ew eK em eb eN es hf nd H vs Q E B h
  subst eP ew eK em eb
  have n0 : Sl X 0 "thing" := slot_of eN es hf nd rfl (by first | exact Or.inl rfl | exact Or.inr rfl) (by decide) (by decide)
  have z_isinstance : Bn X "isinstance" := bn_of es rfl T.z_isinstance
  have g_Time : Gn X "Time" := gn_of es rfl (by decide)
  have m_Time := T.g_Time
  have g_is_integer : Gn X "is_integer" := gn_of es rfl (by decide)
  have F_is_integer := f_is_integer (P := X.prog) (w := X.w) (base := X.base) T
  obtain ⟨v, t, r0, r1, r2, rfl, ht, h0, h1, h2, q⟩ := h
  show WB X [_] _ [some v] H
  repeat walk_at "w"
  refine ⟨r0, ⟨t, _, .own _, ht, h0⟩, ?_⟩
  repeat walk_at "w"
  refine ite_b (fun e => ?_) (fun e => ?_)
  · subst e
    exact q
  · subst e
    repeat walk_at "w"
    exact ⟨v, t, r1, r2, rfl, ht, h1, h2, q⟩
end

/-! ### kinds of values -/
theorem g1_sz {t d : Int} (h : d ≠ 0) (hz : d.natAbs < 2 ^ 9000) : (g1 t d).natAbs < 2 ^ 9000 := Nat.lt_of_le_of_lt (g1_le h) hz
section
variable {K : PySem.W.Frag} {mg : Str → Option Value} {H : Hp} {Q : VK} {E : XK} {v : V} {q : Rat} {i : Int}
abbrev CT (K : PySem.W.Frag) : Addr := ga K "Time"
theorem k_ii : PySem.W.kitOne K (.type "int") (.type "int") = some true := kit_ty (by decide +kernel)
theorem k_ib : PySem.W.kitOne K (.type "int") (.type "bool") = some false := kit_ty (by decide +kernel)
theorem k_is_ : PySem.W.kitOne K (.type "int") (.type "str") = some false := kit_ty (by decide +kernel)
theorem k_bi : PySem.W.kitOne K (.type "bool") (.type "int") = some true := kit_ty (by decide +kernel)
theorem k_bb : PySem.W.kitOne K (.type "bool") (.type "bool") = some true := kit_ty (by decide +kernel)
theorem k_si : PySem.W.kitOne K (.type "str") (.type "int") = some false := kit_ty (by decide +kernel)
theorem k_sb : PySem.W.kitOne K (.type "str") (.type "bool") = some false := kit_ty (by decide +kernel)
theorem k_ss : PySem.W.kitOne K (.type "str") (.type "str") = some true := kit_ty (by decide +kernel)
theorem k_ni : PySem.W.kitOne K (.type "NoneType") (.type "int") = some false := kit_ty (by decide +kernel)
theorem k_nb : PySem.W.kitOne K (.type "NoneType") (.type "bool") = some false := kit_ty (by decide +kernel)
theorem k_ti : PySem.W.kitOne K (.type "tuple") (.type "int") = some false := kit_ty (by decide +kernel)
theorem k_tb : PySem.W.kitOne K (.type "tuple") (.type "bool") = some false := kit_ty (by decide +kernel)
theorem k_li : PySem.W.kitOne K (.type "list") (.type "int") = some false := kit_ty (by decide +kernel)
theorem k_lb : PySem.W.kitOne K (.type "list") (.type "bool") = some false := kit_ty (by decide +kernel)
theorem tyT (T : Tm K mg) (h : TimeV (CT K) q v H) : TyX K H v (.ref (CT K)) := by
  obtain ⟨p, dx, rfl, h⟩ := h
  exact T.c_Time.ty h
/-- is_integer's, is_time's answers -/
theorem ii_int (z : Q (.bl true) H) : spIsInteger K [.int i] H Q E := ⟨_, _, true, false, rfl, .base (.int i), k_ii, k_ib, z⟩
theorem it_int (T : Tm K mg) (z : Q (.bl true) H) : spIsTime K [.int i] H Q E := ⟨_, _, false, true, false, rfl, .base (.int i), T.k_Time.ofInt, k_ii, k_ib, z⟩
theorem it_T (T : Tm K mg) (h : TimeV (CT K) q v H) (z : Q (.bl true) H) : spIsTime K [v] H Q E := ⟨_, _, true, false, false, rfl, tyT T h, T.k_Time.self, T.k_Time.int, T.k_Time.bool, z⟩
/-- a time or an int: what time_of and the operators take -/
def Tim (K : PySem.W.Frag) (q : Rat) (v : V) (H : Hp) : Prop := TimeV (CT K) q v H ∨ ∃ i : Int, v = .int i ∧ q = (i : Rat)
theorem Tim.mono {H' : Hp} (x : Ex H H') (h : Tim K q v H) : Tim K q v H' := h.elim (fun h => .inl (h.mono x)) .inr
theorem it_tim (T : Tm K mg) (h : Tim K q v H) (z : Q (.bl true) H) : spIsTime K [v] H Q E := by
  rcases h with h | ⟨i, rfl, _⟩
  · exact it_T T h z
  · exact it_int T z
end
local macro_rules | `(tactic| walk_at "wX") => `(tactic| first | with_reducible refine' ii_int ?_ | (with_reducible refine' it_int ?T ?_; (case T => assumption)) | fail)
section
variable {P : Program} {w : World} {K : PySem.W.Frag} {mg : Str → Option Value} {base : Heap}
/-! ### fields -/
section
variable {X : Cx} {σ : L2.St} {H : Hp} {Q : VK} {e : Expr} {pos : Pos}
theorem we_over (T : Tm X.K X.mg) (h : WE X e σ H fun y H1 => ∃ q, TimeV (CT X.K) q y H1 ∧ Q (.int q.num) H1) (hb : attributeBase e "over_line" X.env (eval e X.env) = eval e X.env := by rfl) : WE X (.Attribute e "over_line" pos) σ H Q :=
  we_fld T.c_Time.cl T.n_Time_over_line (we_mono h fun y H1 z => by
    obtain ⟨q, ⟨p, dx, rfl, ht⟩, z⟩ := z
    exact ⟨p, dx, _, _, rfl, ht, tfs_over q, z⟩) hb
theorem we_under (T : Tm X.K X.mg) (h : WE X e σ H fun y H1 => ∃ q, TimeV (CT X.K) q y H1 ∧ Q (.int q.den) H1) (hb : attributeBase e "under_line" X.env (eval e X.env) = eval e X.env := by rfl) : WE X (.Attribute e "under_line" pos) σ H Q :=
  we_fld T.c_Time.cl T.n_Time_under_line (we_mono h fun y H1 z => by
    obtain ⟨q, ⟨p, dx, rfl, ht⟩, z⟩ := z
    exact ⟨p, dx, _, _, rfl, ht, tfs_under q, z⟩) hb
end
/-! ### Time.__init__ -/
def spInit (K : PySem.W.Frag) : Sp := fun vs H Q _ => ∃ p dx t d, vs = [.ref p, .int t, .int d] ∧ H p = some (.ins (CT K) dx []) ∧ d ≠ 0 ∧ (g1 t d).natAbs < 2 ^ 9000 ∧ Q .non (upd H p (.ins (CT K) dx (tfs (Rat.divInt t d))))
theorem ok_init {fd : FuncData} (T : Tm K mg) (F : FunD K "__init__" "Time.__init__" (defArgs s_Time___init__) (defBody s_Time___init__) (defScope s_Time___init__) [.int 1] [] (ma K (CT K) "__init__") fd) :
    FnOk P w K mg base (RX P w) 2 (ma K (CT K) "__init__") fd ["self", "top", "bottom"] (spInit K) := by
  refine def_ok F sc_Time___init__ (fun vs H Q E h => by obtain ⟨p, dx, t, d, rfl, _⟩ := h; rfl) ?_
  intro X eP ew eK em eb eN es hf nd H vs Q E B h
  subst eP ew eK em eb
  have n0 : Sl X 0 "self" := slot_of eN es hf nd rfl (by first | exact Or.inl rfl | exact Or.inr rfl) (by decide) (by decide)
  have n1 : Sl X 1 "top" := slot_of eN es hf nd rfl (by first | exact Or.inl rfl | exact Or.inr rfl) (by decide) (by decide)
  have n2 : Sl X 2 "bottom" := slot_of eN es hf nd rfl (by first | exact Or.inl rfl | exact Or.inr rfl) (by decide) (by decide)
  have n3 : Sl X 3 "part" := slot_of eN es hf nd rfl (by first | exact Or.inl rfl | exact Or.inr rfl) (by decide) (by decide)
  have g_is_integer : Gn X "is_integer" := gn_of es rfl (by decide)
  have F_is_integer := f_is_integer (P := X.prog) (w := X.w) (base := X.base) T
  have g_NoTime : Gn X "NoTime" := gn_of es rfl (by decide)
  have m_NoTime := T.g_NoTime
  have g_common : Gn X "common" := gn_of es rfl (by decide)
  have F_common := f_common (P := X.prog) (w := X.w) (base := X.base) T
  obtain ⟨p, dx, t, d, rfl, hp, d0, dz, q⟩ := h
  show WB X [_, _, _, _, _, _] _ [some (.ref p), some (.int t), some (.int d), none] H
  repeat walk_at "w"
  refine ite_dec (fun h => absurd h d0) fun _ => ?_
  repeat walk_at "w"
  refine ⟨t, d, rfl, ?_⟩
  repeat walk_at "w"
  have g0 := g1_pos t d
  have gz := dz
  have hn := made_num (t := t) d0
  have hd := made_den (t := t) d0
  have fin : ∀ {D : Ends} {σ : L2.St} {g : Int}, D.nx σ (upd H p (.ins (CT X.K) dx (tfs (Rat.divInt t d)))) → g = (if d < 0 then 0 - g1 t d else g1 t d) →
      D.nx σ (upd (upd H p (.ins (CT X.K) dx (putF "over_line" (.int (t.fdiv g)) []))) p (.ins (CT X.K) dx (putF "under_line" (.int (d.fdiv g)) (putF "over_line" (.int (t.fdiv g)) [])))) := by
    intro D σ g z e
    subst e
    rw [hn, hd, tfs_put, upd_upd]
    exact z
  refine ite_dec (fun hneg => ?_) fun hneg => ?_
  · repeat walk_at "w"
    refine ws_fld T.c_Time.cl T.n_Time_over_line ?_
    repeat walk_at "w"
    refine o_fdiv (by omega) (log2_small (m := 9000) (by rw [Int.zero_sub, Int.natAbs_neg]; exact gz) (by decide) (by decide)) ?_
    repeat walk_at "w"
    refine ⟨p, dx, _, rfl, hp, by decide, ?_⟩
    repeat walk_at "w"
    refine ws_fld T.c_Time.cl T.n_Time_under_line ?_
    repeat walk_at "w"
    refine o_fdiv (by omega) (log2_small (m := 9000) (by rw [Int.zero_sub, Int.natAbs_neg]; exact gz) (by decide) (by decide)) ?_
    repeat walk_at "w"
    refine ⟨p, dx, _, rfl, upd_same, (by show 1 < 1000; decide), ?_⟩
    exact fin (D := { nx := fun _ H' => Q .non H', rt := Q }) (σ := []) q (by rw [if_pos hneg])
  · repeat walk_at "w"
    refine ws_fld T.c_Time.cl T.n_Time_over_line ?_
    repeat walk_at "w"
    refine o_fdiv (by omega) (log2_small (m := 9000) gz (by decide) (by decide)) ?_
    repeat walk_at "w"
    refine ⟨p, dx, _, rfl, hp, by decide, ?_⟩
    repeat walk_at "w"
    refine ws_fld T.c_Time.cl T.n_Time_under_line ?_
    repeat walk_at "w"
    refine o_fdiv (by omega) (log2_small (m := 9000) gz (by decide) (by decide)) ?_
    repeat walk_at "w"
    refine ⟨p, dx, _, rfl, upd_same, (by show 1 < 1000; decide), ?_⟩
    exact fin (D := { nx := fun _ H' => Q .non H', rt := Q }) (σ := []) q (by rw [if_neg hneg])
end

/-! ### Time(..) made; time_of -/
section
variable {P : Program} {w : World} {K : PySem.W.Frag} {mg : Str → Option Value} {base : Heap}
theorem k_Time2 (T : Tm K mg) : GMk P w K mg base 2 "Time" (CT K) (spInit K) [] := by
  obtain ⟨fd, F⟩ := T.d_Time___init__
  obtain ⟨ds, hd, hb⟩ := F.binds1 (ps := ["self", "top", "bottom"]) 3 1 (List.cons_ne_nil _ _) rfl (fun _ _ _ _ _ _ _ us its h1 h2 => match us, its, h1, h2 with
    | [_, _, _], [_], _, _ => ⟨_, rfl, rfl⟩)
  exact ⟨_, fd, _, ds, T.g_Time, T.m_Time, ok_init T F, hb, hd⟩
theorem k_Time1 (T : Tm K mg) : GMk P w K mg base 2 "Time" (CT K) (spInit K) [.int 1] := by
  obtain ⟨fd, F⟩ := T.d_Time___init__
  obtain ⟨ds, hd, hb⟩ := F.binds1 (ps := ["self", "top", "bottom"]) 2 0 (List.cons_ne_nil _ _) rfl (fun _ _ _ _ _ _ _ us its h1 h2 => match us, its, h1, h2 with
    | [_, _], [_], _, _ => ⟨_, rfl, rfl⟩)
  exact ⟨_, fd, _, ds, T.g_Time, T.m_Time, ok_init T F, hb, hd⟩
section
variable {X : Cx} {σ : L2.St} {H : Hp} {Q : VK} {a b : Expr} {p pos : Pos} {k : Nat} {E : L2.St → XK}
/-- what a new time wants -/
def NewT (K : PySem.W.Frag) (t d : Int) (H : Hp) (Q : VK) : Prop := d ≠ 0 ∧ (g1 t d).natAbs < 2 ^ 9000 ∧ Ret H (TimeV (CT K) (Rat.divInt t d)) Q
theorem made_t {E : XK} {x dx : Addr} {t d : Int} {H : Hp} {Q : VK} (nx : H x = none) (nd : H dx = none) (ne : dx ≠ x) (h : NewT K t d H Q) : spInit K [.ref x, .int t, .int d] (upd (upd H dx (.own x)) x (.ins (CT K) dx [])) (fun v H2 => v = .non ∧ Q (.ref x) H2) E :=
  ⟨x, dx, t, d, rfl, upd_same, h.1, h.2.1, rfl, h.2.2 _ _ (Ex.made nx nd) ⟨x, dx, rfl, upd_same⟩⟩
theorem we_Time2 (B : Body X k E) (g : Gn X "Time") (T : Tm X.K X.mg) (hk : 3 ≤ k) (h : WE X a σ H fun x H1 => WE X b σ H1 fun y H2 => ∃ t d, x = .int t ∧ y = .int d ∧ NewT X.K t d H2 Q)
    (hs : starEach [a, b] X.env = (false, eval a X.env) :: starEach [b] X.env := by rfl) (ht : starEach [b] X.env = [(false, eval b X.env)] := by rfl) (hl : (backTo pos (starEach [b] X.env)).any (·.1) = false := by rfl) : WE X (.Call (.Name "Time" p) [a, b] [] pos) σ H Q :=
  we_make B g (k_Time2 (P := X.prog) (w := X.w) (base := X.base) T) hk (wa_two (we_mono h fun x H1 z => we_mono z fun y H2 z => by
    obtain ⟨t, d, rfl, rfl, z⟩ := z
    exact fun x dx nx nd ne => made_t nx nd ne z) hs ht) hs hl
theorem one_lt : (1 : Int).natAbs < 2 ^ 9000 := Nat.lt_of_lt_of_le (show 1 < 2 ^ 1 by decide) (Nat.pow_le_pow_right (by decide) (show 1 ≤ 9000 by decide))
theorem we_Time1 (B : Body X k E) (g : Gn X "Time") (T : Tm X.K X.mg) (hk : 3 ≤ k) (h : WE X a σ H fun x H1 => ∃ t, x = .int t ∧ Ret H1 (TimeV (CT X.K) (t : Rat)) Q)
    (hs : starEach [a] X.env = [(false, eval a X.env)] := by rfl) (hl : (backTo pos (starEach [] X.env)).any (·.1) = false := by rfl) : WE X (.Call (.Name "Time" p) [a] [] pos) σ H Q :=
  we_make B g (k_Time1 (P := X.prog) (w := X.w) (base := X.base) T) hk (wa_one (we_mono h fun x H1 z => by
    obtain ⟨t, rfl, z⟩ := z
    refine fun x dx nx nd ne => made_t nx nd ne ⟨by decide, ?_, by rw [int_eq]; exact z⟩
    exact g1_sz (by decide) one_lt) hs) hs hl
end
end
local macro_rules | `(tactic| walk_at "wE") => `(tactic| first | ((with_reducible refine' we_Time2 ?B ?g ?T ?hk ?_ ?h1 ?h2 ?h3); (case B => assumption); (case g => assumption); (case T => assumption); (case hk => decide); (case h1 => rfl); (case h2 => rfl); (case h3 => rfl)) | ((with_reducible refine' we_Time1 ?B ?g ?T ?hk ?_ ?h1 ?h2); (case B => assumption); (case g => assumption); (case T => assumption); (case hk => decide); (case h1 => rfl); (case h2 => rfl)) | fail)
section
variable {P : Program} {w : World} {K : PySem.W.Frag} {mg : Str → Option Value} {base : Heap}
def spTimeOf (K : PySem.W.Frag) : Sp := fun vs H Q E => ∃ v, vs = [v] ∧ ((∃ q, TimeV (CT K) q v H ∧ Q v H) ∨ (∃ i : Int, v = .int i ∧ Ret H (TimeV (CT K) (i : Rat)) Q) ∨
  ∃ t r1 r2, TyX K H v t ∧ PySem.W.kitOne K t (.ref (CT K)) = some false ∧ PySem.W.kitOne K t (.type "int") = some r1 ∧ PySem.W.kitOne K t (.type "bool") = some r2 ∧ (r1 && !r2) = false ∧ E (.ref (ga K "NoTime")) none H)
theorem f_time_of (T : Tm K mg) : GFn P w K mg base 4 "time_of" (spTimeOf K) := by
  obtain ⟨fd, F⟩ := T.d_time_of
  refine GFn.mk F T.g_time_of (def_ok F sc_time_of (fun vs H Q E h => by obtain ⟨v, rfl, _⟩ := h; rfl) ?_) (F.bindsN fun _ _ _ _ _ _ us hl => match us, hl with | [_], _ => rfl)
  intro X eP ew eK em eb eN es hf nd H vs Q E B h
  subst eP ew eK em eb
  have n0 : Sl X 0 "thing" := slot_of eN es hf nd rfl (by first | exact Or.inl rfl | exact Or.inr rfl) (by decide) (by decide)
  have z_isinstance : Bn X "isinstance" := bn_of es rfl T.z_isinstance
  have g_Time : Gn X "Time" := gn_of es rfl (by decide)
  have m_Time := T.g_Time
  have g_is_integer : Gn X "is_integer" := gn_of es rfl (by decide)
  have F_is_integer := f_is_integer (P := X.prog) (w := X.w) (base := X.base) T
  have g_NoTime : Gn X "NoTime" := gn_of es rfl (by decide)
  have m_NoTime := T.g_NoTime
  obtain ⟨v, rfl, h⟩ := h
  show WB X [_, _, _] _ [some v] H
  rcases h with ⟨q, hv, z⟩ | ⟨i, rfl, z⟩ | ⟨t, r1, r2, ht, h0, h1, h2, e, z⟩
  · repeat walk_at "w"
    refine ⟨true, ⟨_, _, .own _, tyT T hv, T.k_Time.self⟩, ?_⟩
    repeat walk_at "w"
    exact z
  · repeat walk_at "w"
    refine ⟨false, ⟨_, _, .own _, .base (.int i), T.k_Time.ofInt⟩, ?_⟩
    repeat walk_at "w"
    exact z
  · repeat walk_at "w"
    refine ⟨false, ⟨_, _, .own _, ht, h0⟩, ?_⟩
    repeat walk_at "w"
    refine ⟨v, t, r1, r2, rfl, ht, h1, h2, ?_⟩
    rw [e]
    repeat walk_at "w"
    exact ws_raise B g_NoTime m_NoTime T.x_NoTime z
theorem to_T {H : Hp} {Q : VK} {E : XK} {v : V} {q : Rat} (h : TimeV (CT K) q v H) (z : Q v H) : spTimeOf K [v] H Q E := ⟨v, rfl, .inl ⟨q, h, z⟩⟩
theorem to_int {H : Hp} {Q : VK} {E : XK} {i : Int} (z : Ret H (TimeV (CT K) (i : Rat)) Q) : spTimeOf K [.int i] H Q E := ⟨_, rfl, .inr (.inl ⟨i, rfl, z⟩)⟩
theorem to_tim {H : Hp} {Q : VK} {E : XK} {v : V} {q : Rat} (h : Tim K q v H) (z : Ret H (TimeV (CT K) q) Q) : spTimeOf K [v] H Q E := by
  rcases h with h | ⟨i, rfl, rfl⟩
  · exact to_T h (z.now h)
  · exact to_int z
end

/-! ### + - * of times -/
theorem tv_ok {C : Addr} {v : V} {H : Hp} {q : Rat} {R : Rat → Prop} (h : TimeV C q v H) (z : R q) : ∃ q, TimeV C q v H ∧ R q := ⟨q, h, z⟩
theorem cm_nn {q r : Rat} (h : Sz q 4000) (h' : Sz r 4000) : CMulW q.num r.num := wide_mul h.num h'.num (by decide) (by decide) (by decide)
theorem cm_nd {q r : Rat} (h : Sz q 4000) (h' : Sz r 4000) : CMulW q.num r.den := wide_mul h.num (by rw [Int.natAbs_natCast]; exact h'.den) (by decide) (by decide) (by decide)
theorem cm_dn {q r : Rat} (h : Sz q 4000) (h' : Sz r 4000) : CMulW q.den r.num := wide_mul (by rw [Int.natAbs_natCast]; exact h.den) h'.num (by decide) (by decide) (by decide)
theorem cm_dd {q r : Rat} (h : Sz q 4000) (h' : Sz r 4000) : CMulW q.den r.den := wide_mul (by rw [Int.natAbs_natCast]; exact h.den) (by rw [Int.natAbs_natCast]; exact h'.den) (by decide) (by decide) (by decide)
local macro_rules | `(tactic| walk_at "x") => `(tactic| first | assumption | exact Ex.refl _ | (refine Ex.trans ?_ (by assumption); walk_at "x"))
local macro_rules | `(tactic| walk_at "tv") => `(tactic| first | assumption | ((with_reducible refine' TimeV.mono ?x ?h); (case h => assumption); (case x => walk_at "x")))
local macro_rules | `(tactic| walk_at "sz") => `(tactic| first | exact cm_nd (by assumption) (by assumption) | exact cm_nn (by assumption) (by assumption) | exact cm_dd (by assumption) (by assumption) | exact cm_dn (by assumption) (by assumption))
local macro_rules | `(tactic| walk_at "wE") => `(tactic| first | ((with_reducible refine' we_over ?T ?_ ?hb); (case T => assumption); (case hb => rfl)) | ((with_reducible refine' we_under ?T ?_ ?hb); (case T => assumption); (case hb => rfl)) | fail)
local macro_rules | `(tactic| walk_at "wO") => `(tactic| first | ((with_reducible refine' o_mul ?hc ?_); (case hc => walk_at "sz")) | fail)
local macro_rules | `(tactic| walk_at "wX") => `(tactic| first | ((with_reducible refine' tv_ok ?h ?_); (case h => walk_at "tv")) | fail)
theorem dd_ne (q r : Rat) : (q.den : Int) * (r.den : Int) ≠ 0 := Int.mul_ne_zero (den_ne q) (den_ne r)
theorem dd_sz {q r : Rat} (h : Sz q 4000) (h' : Sz r 4000) : ((q.den : Int) * (r.den : Int)).natAbs < 2 ^ 9000 := by
  rw [Int.natAbs_mul, Int.natAbs_natCast, Int.natAbs_natCast]
  exact Nat.lt_of_lt_of_le (pow_add' h.den h'.den) (Nat.pow_le_pow_right (by decide) (by decide))
abbrev MT (K : PySem.W.Frag) (m : Str) : Addr := ma K (CT K) m

/-! ### + - * -/
section
variable {P : Program} {w : World} {K : PySem.W.Frag} {mg : Str → Option Value} {base : Heap}
/-- an operator of two times, or of a time and an int -/
def spOp (K : PySem.W.Frag) (f : Rat → Rat → Rat) : Sp := fun vs H Q _ => ∃ q r v u, vs = [v, u] ∧ TimeV (CT K) q v H ∧ Tim K r u H ∧ Sz q 4000 ∧ Sz r 4000 ∧ Ret H (TimeV (CT K) (f q r)) Q
theorem f_add (T : Tm K mg) : FnR P w K mg base (RX P w) 5 (MT K "__add__") (spOp K (· + ·)) := by
  obtain ⟨fd, F⟩ := T.d_Time___add__
  refine raw_of F (def_ok F sc_Time___add__ (fun vs H Q E h => by obtain ⟨q, r, v, u, rfl, _⟩ := h; rfl) ?_) (F.bindsN fun _ _ _ _ _ _ us hl => match us, hl with | [_, _], _ => rfl)
  intro X eP ew eK em eb eN es hf nd H vs Q E B h
  subst eP ew eK em eb
  have n0 : Sl X 0 "self" := slot_of eN es hf nd rfl (by first | exact Or.inl rfl | exact Or.inr rfl) (by decide) (by decide)
  have n1 : Sl X 1 "other" := slot_of eN es hf nd rfl (by first | exact Or.inl rfl | exact Or.inr rfl) (by decide) (by decide)
  have n2 : Sl X 2 "more" := slot_of eN es hf nd rfl (by first | exact Or.inl rfl | exact Or.inr rfl) (by decide) (by decide)
  have n3 : Sl X 3 "top" := slot_of eN es hf nd rfl (by first | exact Or.inl rfl | exact Or.inr rfl) (by decide) (by decide)
  have g_is_time : Gn X "is_time" := gn_of es rfl (by decide)
  have F_is_time := f_is_time (P := X.prog) (w := X.w) (base := X.base) T
  have g_time_of : Gn X "time_of" := gn_of es rfl (by decide)
  have F_time_of := f_time_of (P := X.prog) (w := X.w) (base := X.base) T
  have g_Time : Gn X "Time" := gn_of es rfl (by decide)
  have m_Time := T.g_Time
  obtain ⟨q, r, v, u, rfl, hv, hu, hq, hr, z⟩ := h
  show WB X [_, _, _, _] _ [some v, some u, none, none] H
  repeat walk_at "w"
  refine it_tim T hu ?_
  repeat walk_at "w"
  refine to_tim hu fun y H1 x1 hy => ?_
  repeat walk_at "w"
  exact ⟨_, _, rfl, rfl, dd_ne q r, g1_sz (dd_ne q r) (dd_sz hq hr), by rw [add_eq]; exact z.mono x1⟩
theorem f_sub (T : Tm K mg) : FnR P w K mg base (RX P w) 5 (MT K "__sub__") (spOp K (· - ·)) := by
  obtain ⟨fd, F⟩ := T.d_Time___sub__
  refine raw_of F (def_ok F sc_Time___sub__ (fun vs H Q E h => by obtain ⟨q, r, v, u, rfl, _⟩ := h; rfl) ?_) (F.bindsN fun _ _ _ _ _ _ us hl => match us, hl with | [_, _], _ => rfl)
  intro X eP ew eK em eb eN es hf nd H vs Q E B h
  subst eP ew eK em eb
  have n0 : Sl X 0 "self" := slot_of eN es hf nd rfl (by first | exact Or.inl rfl | exact Or.inr rfl) (by decide) (by decide)
  have n1 : Sl X 1 "other" := slot_of eN es hf nd rfl (by first | exact Or.inl rfl | exact Or.inr rfl) (by decide) (by decide)
  have n2 : Sl X 2 "less" := slot_of eN es hf nd rfl (by first | exact Or.inl rfl | exact Or.inr rfl) (by decide) (by decide)
  have n3 : Sl X 3 "top" := slot_of eN es hf nd rfl (by first | exact Or.inl rfl | exact Or.inr rfl) (by decide) (by decide)
  have g_is_time : Gn X "is_time" := gn_of es rfl (by decide)
  have F_is_time := f_is_time (P := X.prog) (w := X.w) (base := X.base) T
  have g_time_of : Gn X "time_of" := gn_of es rfl (by decide)
  have F_time_of := f_time_of (P := X.prog) (w := X.w) (base := X.base) T
  have g_Time : Gn X "Time" := gn_of es rfl (by decide)
  have m_Time := T.g_Time
  obtain ⟨q, r, v, u, rfl, hv, hu, hq, hr, z⟩ := h
  show WB X [_, _, _, _] _ [some v, some u, none, none] H
  repeat walk_at "w"
  refine it_tim T hu ?_
  repeat walk_at "w"
  refine to_tim hu fun y H1 x1 hy => ?_
  repeat walk_at "w"
  exact ⟨_, _, rfl, rfl, dd_ne q r, g1_sz (dd_ne q r) (dd_sz hq hr), by rw [sub_eq]; exact z.mono x1⟩
theorem f_mul (T : Tm K mg) : FnR P w K mg base (RX P w) 5 (MT K "__mul__") (spOp K (· * ·)) := by
  obtain ⟨fd, F⟩ := T.d_Time___mul__
  refine raw_of F (def_ok F sc_Time___mul__ (fun vs H Q E h => by obtain ⟨q, r, v, u, rfl, _⟩ := h; rfl) ?_) (F.bindsN fun _ _ _ _ _ _ us hl => match us, hl with | [_, _], _ => rfl)
  intro X eP ew eK em eb eN es hf nd H vs Q E B h
  subst eP ew eK em eb
  have n0 : Sl X 0 "self" := slot_of eN es hf nd rfl (by first | exact Or.inl rfl | exact Or.inr rfl) (by decide) (by decide)
  have n1 : Sl X 1 "other" := slot_of eN es hf nd rfl (by first | exact Or.inl rfl | exact Or.inr rfl) (by decide) (by decide)
  have n2 : Sl X 2 "by" := slot_of eN es hf nd rfl (by first | exact Or.inl rfl | exact Or.inr rfl) (by decide) (by decide)
  have g_is_time : Gn X "is_time" := gn_of es rfl (by decide)
  have F_is_time := f_is_time (P := X.prog) (w := X.w) (base := X.base) T
  have g_time_of : Gn X "time_of" := gn_of es rfl (by decide)
  have F_time_of := f_time_of (P := X.prog) (w := X.w) (base := X.base) T
  have g_Time : Gn X "Time" := gn_of es rfl (by decide)
  have m_Time := T.g_Time
  obtain ⟨q, r, v, u, rfl, hv, hu, hq, hr, z⟩ := h
  show WB X [_, _, _] _ [some v, some u, none] H
  repeat walk_at "w"
  refine it_tim T hu ?_
  repeat walk_at "w"
  refine to_tim hu fun y H1 x1 hy => ?_
  repeat walk_at "w"
  exact ⟨_, _, rfl, rfl, dd_ne q r, g1_sz (dd_ne q r) (dd_sz hq hr), by rw [mul_eq]; exact z.mono x1⟩
/-! the operators, by the kinds of their sides -/
section
variable {X : Cx} {k : Nat} {E : XK} {H : Hp} {Q : VK} {v u : V} {q r : Rat}
theorem o_addT (B : Body X k fun _ => E) (T : Tm X.K X.mg) (hk : 5 ≤ k) (hv : TimeV (CT X.K) q v H) (hu : Tim X.K r u H) (hq : Sz q 4000) (hr : Sz r 4000) (z : Ret H (TimeV (CT X.K) (q + r)) Q) : Op2 X (binaryOp .Add) v u H Q := by
  have s : spOp X.K (· + ·) [v, u] H Q E := ⟨q, r, v, u, rfl, hv, hu, hq, hr, z⟩
  obtain ⟨p, dx, rfl, hp⟩ := hv
  rcases hu with ⟨p', dx', rfl, hp'⟩ | ⟨i, rfl, _⟩
  · exact bin_tt B T.b_Time___add__ (f_add T) hk hp hp' s
  · exact bin_ti B T.b_Time___add__ (f_add T) hk hp s
theorem o_subT (B : Body X k fun _ => E) (T : Tm X.K X.mg) (hk : 5 ≤ k) (hv : TimeV (CT X.K) q v H) (hu : Tim X.K r u H) (hq : Sz q 4000) (hr : Sz r 4000) (z : Ret H (TimeV (CT X.K) (q - r)) Q) : Op2 X (binaryOp .Sub) v u H Q := by
  have s : spOp X.K (· - ·) [v, u] H Q E := ⟨q, r, v, u, rfl, hv, hu, hq, hr, z⟩
  obtain ⟨p, dx, rfl, hp⟩ := hv
  rcases hu with ⟨p', dx', rfl, hp'⟩ | ⟨i, rfl, _⟩
  · exact bin_tt B T.b_Time___sub__ (f_sub T) hk hp hp' s
  · exact bin_ti B T.b_Time___sub__ (f_sub T) hk hp s
theorem o_mulT (B : Body X k fun _ => E) (T : Tm X.K X.mg) (hk : 5 ≤ k) (hv : TimeV (CT X.K) q v H) (hu : Tim X.K r u H) (hq : Sz q 4000) (hr : Sz r 4000) (z : Ret H (TimeV (CT X.K) (q * r)) Q) : Op2 X (binaryOp .Mult) v u H Q := by
  have s : spOp X.K (· * ·) [v, u] H Q E := ⟨q, r, v, u, rfl, hv, hu, hq, hr, z⟩
  obtain ⟨p, dx, rfl, hp⟩ := hv
  rcases hu with ⟨p', dx', rfl, hp'⟩ | ⟨i, rfl, _⟩
  · exact bin_tt B T.b_Time___mul__ (f_mul T) hk hp hp' s
  · exact bin_ti B T.b_Time___mul__ (f_mul T) hk hp s
end
/-! ### int + time .. -/
def spROp (K : PySem.W.Frag) (f : Rat → Rat → Rat) : Sp := fun vs H Q _ => ∃ (q : Rat) (i : Int) (v : V), vs = [v, .int i] ∧ TimeV (CT K) q v H ∧ Sz q 4000 ∧ Sz (i : Rat) 4000 ∧ Ret H (TimeV (CT K) (f i q)) Q
theorem f_radd (T : Tm K mg) : FnR P w K mg base (RX P w) 6 (MT K "__radd__") (spROp K (· + ·)) := by
  obtain ⟨fd, F⟩ := T.d_Time___radd__
  refine raw_of F (def_ok F sc_Time___radd__ (fun vs H Q E h => by obtain ⟨q, i, v, rfl, _⟩ := h; rfl) ?_) (F.bindsN fun _ _ _ _ _ _ us hl => match us, hl with | [_, _], _ => rfl)
  intro X eP ew eK em eb eN es hf nd H vs Q E B h
  subst eP ew eK em eb
  have n0 : Sl X 0 "self" := slot_of eN es hf nd rfl (by first | exact Or.inl rfl | exact Or.inr rfl) (by decide) (by decide)
  have n1 : Sl X 1 "other" := slot_of eN es hf nd rfl (by first | exact Or.inl rfl | exact Or.inr rfl) (by decide) (by decide)
  have g_is_time : Gn X "is_time" := gn_of es rfl (by decide)
  have F_is_time := f_is_time (P := X.prog) (w := X.w) (base := X.base) T
  obtain ⟨q, i, v, rfl, hv, hq, hr, z⟩ := h
  show WB X [_, _] _ [some v, some (.int i)] H
  repeat walk_at "w"
  refine o_addT B T (by decide) hv (.inr ⟨i, rfl, rfl⟩) hq hr ?_
  rw [Rat.add_comm]
  exact z
theorem f_rmul (T : Tm K mg) : FnR P w K mg base (RX P w) 6 (MT K "__rmul__") (spROp K (· * ·)) := by
  obtain ⟨fd, F⟩ := T.d_Time___rmul__
  refine raw_of F (def_ok F sc_Time___rmul__ (fun vs H Q E h => by obtain ⟨q, i, v, rfl, _⟩ := h; rfl) ?_) (F.bindsN fun _ _ _ _ _ _ us hl => match us, hl with | [_, _], _ => rfl)
  intro X eP ew eK em eb eN es hf nd H vs Q E B h
  subst eP ew eK em eb
  have n0 : Sl X 0 "self" := slot_of eN es hf nd rfl (by first | exact Or.inl rfl | exact Or.inr rfl) (by decide) (by decide)
  have n1 : Sl X 1 "other" := slot_of eN es hf nd rfl (by first | exact Or.inl rfl | exact Or.inr rfl) (by decide) (by decide)
  have g_is_time : Gn X "is_time" := gn_of es rfl (by decide)
  have F_is_time := f_is_time (P := X.prog) (w := X.w) (base := X.base) T
  obtain ⟨q, i, v, rfl, hv, hq, hr, z⟩ := h
  show WB X [_, _] _ [some v, some (.int i)] H
  repeat walk_at "w"
  refine o_mulT B T (by decide) hv (.inr ⟨i, rfl, rfl⟩) hq hr ?_
  rw [Rat.mul_comm]
  exact z
theorem f_rsub (T : Tm K mg) : FnR P w K mg base (RX P w) 6 (MT K "__rsub__") (spROp K (· - ·)) := by
  obtain ⟨fd, F⟩ := T.d_Time___rsub__
  refine raw_of F (def_ok F sc_Time___rsub__ (fun vs H Q E h => by obtain ⟨q, i, v, rfl, _⟩ := h; rfl) ?_) (F.bindsN fun _ _ _ _ _ _ us hl => match us, hl with | [_, _], _ => rfl)
  intro X eP ew eK em eb eN es hf nd H vs Q E B h
  subst eP ew eK em eb
  have n0 : Sl X 0 "self" := slot_of eN es hf nd rfl (by first | exact Or.inl rfl | exact Or.inr rfl) (by decide) (by decide)
  have n1 : Sl X 1 "other" := slot_of eN es hf nd rfl (by first | exact Or.inl rfl | exact Or.inr rfl) (by decide) (by decide)
  have g_is_time : Gn X "is_time" := gn_of es rfl (by decide)
  have F_is_time := f_is_time (P := X.prog) (w := X.w) (base := X.base) T
  have g_time_of : Gn X "time_of" := gn_of es rfl (by decide)
  have F_time_of := f_time_of (P := X.prog) (w := X.w) (base := X.base) T
  obtain ⟨q, i, v, rfl, hv, hq, hr, z⟩ := h
  show WB X [_, _] _ [some v, some (.int i)] H
  repeat walk_at "w"
  refine to_int fun y H1 x1 hy => ?_
  repeat walk_at "w"
  exact o_subT B T (by decide) hy (.inl (hv.mono x1)) hr hq (z.mono x1)
section
variable {X : Cx} {k : Nat} {E : XK} {H : Hp} {Q : VK} {v : V} {q : Rat} {i : Int}
theorem o_addI (B : Body X k fun _ => E) (T : Tm X.K X.mg) (hk : 6 ≤ k) (hv : TimeV (CT X.K) q v H) (hq : Sz q 4000) (hr : Sz (i : Rat) 4000) (z : Ret H (TimeV (CT X.K) (i + q)) Q) : Op2 X (binaryOp .Add) (.int i) v H Q := by
  have s : spROp X.K (· + ·) [v, .int i] H Q E := ⟨q, i, v, rfl, hv, hq, hr, z⟩
  obtain ⟨p, dx, rfl, hp⟩ := hv
  exact bin_it B T.r_Time___radd__ PySem.F.fills_int_add idecl_add (f_radd T) hk hp s
theorem o_subI (B : Body X k fun _ => E) (T : Tm X.K X.mg) (hk : 6 ≤ k) (hv : TimeV (CT X.K) q v H) (hq : Sz q 4000) (hr : Sz (i : Rat) 4000) (z : Ret H (TimeV (CT X.K) (i - q)) Q) : Op2 X (binaryOp .Sub) (.int i) v H Q := by
  have s : spROp X.K (· - ·) [v, .int i] H Q E := ⟨q, i, v, rfl, hv, hq, hr, z⟩
  obtain ⟨p, dx, rfl, hp⟩ := hv
  exact bin_it B T.r_Time___rsub__ PySem.F.fills_int_sub idecl_sub (f_rsub T) hk hp s
theorem o_mulI (B : Body X k fun _ => E) (T : Tm X.K X.mg) (hk : 6 ≤ k) (hv : TimeV (CT X.K) q v H) (hq : Sz q 4000) (hr : Sz (i : Rat) 4000) (z : Ret H (TimeV (CT X.K) (i * q)) Q) : Op2 X (binaryOp .Mult) (.int i) v H Q := by
  have s : spROp X.K (· * ·) [v, .int i] H Q E := ⟨q, i, v, rfl, hv, hq, hr, z⟩
  obtain ⟨p, dx, rfl, hp⟩ := hv
  exact bin_it B T.r_Time___rmul__ PySem.F.fills_int_mul idecl_mul (f_rmul T) hk hp s
end
end

/-! ### -time, abs(time), top, bottom, += -= *= -/
section
variable {P : Program} {w : World} {K : PySem.W.Frag} {mg : Str → Option Value} {base : Heap}
abbrev rabs := Mt.rabs
def spUn (K : PySem.W.Frag) (f : Rat → Rat) : Sp := fun vs H Q _ => ∃ q v, vs = [v] ∧ TimeV (CT K) q v H ∧ Sz q 8000 ∧ Ret H (TimeV (CT K) (f q)) Q
theorem den_sz {q : Rat} (h : Sz q 8000) : (q.den : Int).natAbs < 2 ^ 9000 := by
  rw [Int.natAbs_natCast]
  exact (h.mono (show 8000 ≤ 9000 by decide)).den
theorem f_neg (T : Tm K mg) : FnR P w K mg base (RX P w) 4 (MT K "__neg__") (spUn K (- ·)) := by
  obtain ⟨fd, F⟩ := T.d_Time___neg__
  refine raw_of F (def_ok F sc_Time___neg__ (fun vs H Q E h => by obtain ⟨q, v, rfl, _⟩ := h; rfl) ?_) (F.bindsN fun _ _ _ _ _ _ us hl => match us, hl with | [_], _ => rfl)
  intro X eP ew eK em eb eN es hf nd H vs Q E B h
  subst eP ew eK em eb
  have n0 : Sl X 0 "self" := slot_of eN es hf nd rfl (by first | exact Or.inl rfl | exact Or.inr rfl) (by decide) (by decide)
  have g_Time : Gn X "Time" := gn_of es rfl (by decide)
  have m_Time := T.g_Time
  obtain ⟨q, v, rfl, hv, hq, z⟩ := h
  show WB X [_] _ [some v] H
  repeat walk_at "w"
  exact ⟨_, _, rfl, rfl, den_ne q, g1_sz (den_ne q) (den_sz hq), by rw [neg_eq]; exact z⟩
theorem f_abs (T : Tm K mg) : FnR P w K mg base (RX P w) 4 (MT K "__abs__") (spUn K rabs) := by
  obtain ⟨fd, F⟩ := T.d_Time___abs__
  refine raw_of F (def_ok F sc_Time___abs__ (fun vs H Q E h => by obtain ⟨q, v, rfl, _⟩ := h; rfl) ?_) (F.bindsN fun _ _ _ _ _ _ us hl => match us, hl with | [_], _ => rfl)
  intro X eP ew eK em eb eN es hf nd H vs Q E B h
  subst eP ew eK em eb
  have n0 : Sl X 0 "self" := slot_of eN es hf nd rfl (by first | exact Or.inl rfl | exact Or.inr rfl) (by decide) (by decide)
  have g_Time : Gn X "Time" := gn_of es rfl (by decide)
  have m_Time := T.g_Time
  have z_abs : Bn X "abs" := bn_of es rfl T.z_abs
  obtain ⟨q, v, rfl, hv, hq, z⟩ := h
  show WB X [_] _ [some v] H
  repeat walk_at "w"
  refine we_abs z_abs ?_
  repeat walk_at "w"
  exact ⟨_, _, rfl, rfl, den_ne q, g1_sz (den_ne q) (den_sz hq), z⟩
section
variable {X : Cx} {k : Nat} {E : XK} {σ : L2.St} {H : Hp} {Q : VK} {v u : V} {q r : Rat} {a e : Expr} {p pos : Pos}
theorem o_negT (B : Body X k fun _ => E) (T : Tm X.K X.mg) (hk : 4 ≤ k) (hv : TimeV (CT X.K) q v H) (hq : Sz q 8000) (z : Ret H (TimeV (CT X.K) (-q)) Q) : Op1 X (unaryOp .USub) v H Q := by
  have s : spUn X.K (- ·) [v] H Q E := ⟨q, v, rfl, hv, hq, z⟩
  obtain ⟨p, dx, rfl, hp⟩ := hv
  exact neg_t B T.u_Time_neg (f_neg T) hk hp s
theorem we_absTim (bn : Bn X "abs") (B : Body X k fun _ => E) (T : Tm X.K X.mg) (hk : 5 ≤ k) (h : WE X a σ H fun v H1 => ∃ q, TimeV (CT X.K) q v H1 ∧ Sz q 8000 ∧ Ret H1 (TimeV (CT X.K) (rabs q)) Q) (hs : starEach [a] X.env = [(false, eval a X.env)] := by rfl) (hl : (backTo pos (starEach [] X.env)).any (·.1) = false := by rfl) :
    WE X (.Call (.Name "abs" p) [a] [] pos) σ H Q := we_absT bn B T.u_Time_abs (f_abs T) hk (we_mono h fun v H1 z => by
  obtain ⟨q, ⟨x, dx, rfl, hp⟩, hq, z⟩ := z
  exact ⟨x, dx, _, rfl, hp, q, _, rfl, ⟨x, dx, rfl, hp⟩, hq, z⟩) hs hl
theorem i_addT (B : Body X k fun _ => E) (T : Tm X.K X.mg) (hk : 5 ≤ k) (hv : TimeV (CT X.K) q v H) (hu : TimeV (CT X.K) r u H) (hq : Sz q 4000) (hr : Sz r 4000) (z : Ret H (TimeV (CT X.K) (q + r)) Q) : Op2 X (inplaceOp .Add) v u H Q := by
  have s : spOp X.K (· + ·) [v, u] H Q E := ⟨q, r, v, u, rfl, hv, .inl hu, hq, hr, z⟩
  obtain ⟨p, dx, rfl, hp⟩ := hv
  obtain ⟨p', dx', rfl, hp'⟩ := hu
  exact inp_tt B T.ni_Time___add__ T.b_Time___add__ (f_add T) hk hp hp' s
theorem i_subT (B : Body X k fun _ => E) (T : Tm X.K X.mg) (hk : 5 ≤ k) (hv : TimeV (CT X.K) q v H) (hu : TimeV (CT X.K) r u H) (hq : Sz q 4000) (hr : Sz r 4000) (z : Ret H (TimeV (CT X.K) (q - r)) Q) : Op2 X (inplaceOp .Sub) v u H Q := by
  have s : spOp X.K (· - ·) [v, u] H Q E := ⟨q, r, v, u, rfl, hv, .inl hu, hq, hr, z⟩
  obtain ⟨p, dx, rfl, hp⟩ := hv
  obtain ⟨p', dx', rfl, hp'⟩ := hu
  exact inp_tt B T.ni_Time___sub__ T.b_Time___sub__ (f_sub T) hk hp hp' s
theorem i_mulT (B : Body X k fun _ => E) (T : Tm X.K X.mg) (hk : 5 ≤ k) (hv : TimeV (CT X.K) q v H) (hu : TimeV (CT X.K) r u H) (hq : Sz q 4000) (hr : Sz r 4000) (z : Ret H (TimeV (CT X.K) (q * r)) Q) : Op2 X (inplaceOp .Mult) v u H Q := by
  have s : spOp X.K (· * ·) [v, u] H Q E := ⟨q, r, v, u, rfl, hv, .inl hu, hq, hr, z⟩
  obtain ⟨p, dx, rfl, hp⟩ := hv
  obtain ⟨p', dx', rfl, hp'⟩ := hu
  exact inp_tt B T.ni_Time___mul__ T.b_Time___mul__ (f_mul T) hk hp hp' s
end
def spPart (K : PySem.W.Frag) (f : Rat → Int) : Sp := fun vs H Q _ => ∃ q v, vs = [v] ∧ TimeV (CT K) q v H ∧ Q (.int (f q)) H
theorem ok_top (T : Tm K mg) : ∃ fd, FnOk P w K mg base (RX P w) 1 (pgA K (CT K) "top") fd ["self"] (spPart K (·.num)) ∧ Binds K fd ["self"] [] := by
  obtain ⟨fd, F⟩ := T.d_Time_top
  refine ⟨fd, def_ok F sc_Time_top (fun vs H Q E h => by obtain ⟨q, v, rfl, _⟩ := h; rfl) ?_, (F.bindsN fun _ _ _ _ _ _ us hl => match us, hl with | [_], _ => rfl)⟩
  intro X eP ew eK em eb eN es hf nd H vs Q E B h
  subst eP ew eK em eb
  have n0 : Sl X 0 "self" := slot_of eN es hf nd rfl (by first | exact Or.inl rfl | exact Or.inr rfl) (by decide) (by decide)
  obtain ⟨q, v, rfl, hv, z⟩ := h
  show WB X [_] _ [some v] H
  repeat walk_at "w"
  exact z
theorem ok_bottom (T : Tm K mg) : ∃ fd, FnOk P w K mg base (RX P w) 1 (pgA K (CT K) "bottom") fd ["self"] (spPart K (·.den)) ∧ Binds K fd ["self"] [] := by
  obtain ⟨fd, F⟩ := T.d_Time_bottom
  refine ⟨fd, def_ok F sc_Time_bottom (fun vs H Q E h => by obtain ⟨q, v, rfl, _⟩ := h; rfl) ?_, (F.bindsN fun _ _ _ _ _ _ us hl => match us, hl with | [_], _ => rfl)⟩
  intro X eP ew eK em eb eN es hf nd H vs Q E B h
  subst eP ew eK em eb
  have n0 : Sl X 0 "self" := slot_of eN es hf nd rfl (by first | exact Or.inl rfl | exact Or.inr rfl) (by decide) (by decide)
  obtain ⟨q, v, rfl, hv, z⟩ := h
  show WB X [_] _ [some v] H
  repeat walk_at "w"
  exact z
end
section
variable {X : Cx} {k : Nat} {E : L2.St → XK} {σ : L2.St} {H : Hp} {Q : VK} {e : Expr} {pos : Pos}
theorem we_top (B : Body X k E) (T : Tm X.K X.mg) (hk : 2 ≤ k) (h : WE X e σ H fun y H1 => ∃ q, TimeV (CT X.K) q y H1 ∧ Q (.int q.num) H1) (he : attributeBase e "top" X.env (eval e X.env) = eval e X.env := by rfl) : WE X (.Attribute e "top" pos) σ H Q := by
  obtain ⟨fd, F, hb⟩ := ok_top (P := X.prog) (w := X.w) (base := X.base) T
  refine we_prop B T.c_Time.cl T.p_Time_top F hk hb .nil (we_mono h fun y H1 z => ?_) he
  obtain ⟨q, ⟨x, dx, rfl, hp⟩, z⟩ := z
  exact ⟨x, dx, _, rfl, hp, q, _, rfl, ⟨x, dx, rfl, hp⟩, z⟩
theorem we_bottom (B : Body X k E) (T : Tm X.K X.mg) (hk : 2 ≤ k) (h : WE X e σ H fun y H1 => ∃ q, TimeV (CT X.K) q y H1 ∧ Q (.int q.den) H1) (he : attributeBase e "bottom" X.env (eval e X.env) = eval e X.env := by rfl) : WE X (.Attribute e "bottom" pos) σ H Q := by
  obtain ⟨fd, F, hb⟩ := ok_bottom (P := X.prog) (w := X.w) (base := X.base) T
  refine we_prop B T.c_Time.cl T.p_Time_bottom F hk hb .nil (we_mono h fun y H1 z => ?_) he
  obtain ⟨q, ⟨x, dx, rfl, hp⟩, z⟩ := z
  exact ⟨x, dx, _, rfl, hp, q, _, rfl, ⟨x, dx, rfl, hp⟩, z⟩
end
local macro_rules | `(tactic| walk_at "wE") => `(tactic| first | ((with_reducible refine' we_top ?B ?T ?hk ?_ ?hb); (case B => assumption); (case T => assumption); (case hk => decide); (case hb => rfl)) | ((with_reducible refine' we_bottom ?B ?T ?hk ?_ ?hb); (case B => assumption); (case T => assumption); (case hk => decide); (case hb => rfl)) | fail)

/-! ### comparisons of times -/
def Bl (H : Hp) (r : Bool) (Q : VK) : Prop := ∀ H', Ex H H' → Q (.bl r) H'
theorem bl_i {H : Hp} {r : Bool} {Q : VK} (h : ∀ H', Ex H H' → Q (.bl r) H') : Bl H r Q := h
theorem Bl.mono {H H' : Hp} {r : Bool} {Q : VK} (k : Bl H r Q) (x : Ex H H') : Bl H' r Q := fun H2 y => k H2 (x.trans y)
theorem rat_ext {q r : Rat} : (q.num = r.num ∧ (q.den : Int) = r.den) ↔ q = r := by
  constructor
  · rintro ⟨h1, h2⟩
    exact Rat.ext h1 (by omega)
  · rintro rfl
    exact ⟨rfl, rfl⟩
local macro_rules | `(tactic| walk_at "wX") => `(tactic| first | with_reducible refine' bl_i fun _ _ => ?_ | with_reducible refine' ret_i fun _ _ _ _ => ?_ | fail)
section
variable {P : Program} {w : World} {K : PySem.W.Frag} {mg : Str → Option Value} {base : Heap}
def spCmp (K : PySem.W.Frag) (f : Rat → Rat → Bool) : Sp := fun vs H Q _ => ∃ q r v u, vs = [v, u] ∧ TimeV (CT K) q v H ∧ Tim K r u H ∧ Sz q 4000 ∧ Sz r 4000 ∧ Bl H (f q r) Q
theorem f_eq (T : Tm K mg) : FnR P w K mg base (RX P w) 5 (MT K "__eq__") (spCmp K fun q r => decide (q = r)) := by
  obtain ⟨fd, F⟩ := T.d_Time___eq__
  refine raw_of F (def_ok F sc_Time___eq__ (fun vs H Q E h => by obtain ⟨q, r, v, u, rfl, _⟩ := h; rfl) ?_) (F.bindsN fun _ _ _ _ _ _ us hl => match us, hl with | [_, _], _ => rfl)
  intro X eP ew eK em eb eN es hf nd H vs Q E B h
  subst eP ew eK em eb
  have n0 : Sl X 0 "self" := slot_of eN es hf nd rfl (by first | exact Or.inl rfl | exact Or.inr rfl) (by decide) (by decide)
  have n1 : Sl X 1 "other" := slot_of eN es hf nd rfl (by first | exact Or.inl rfl | exact Or.inr rfl) (by decide) (by decide)
  have n2 : Sl X 2 "same" := slot_of eN es hf nd rfl (by first | exact Or.inl rfl | exact Or.inr rfl) (by decide) (by decide)
  have g_is_time : Gn X "is_time" := gn_of es rfl (by decide)
  have F_is_time := f_is_time (P := X.prog) (w := X.w) (base := X.base) T
  have g_time_of : Gn X "time_of" := gn_of es rfl (by decide)
  have F_time_of := f_time_of (P := X.prog) (w := X.w) (base := X.base) T
  obtain ⟨q, r, v, u, rfl, hv, hu, hq, hr, z⟩ := h
  show WB X [_, _, _] _ [some (v), some (u), none] H
  repeat walk_at "w"
  refine it_tim T hu ?_
  repeat walk_at "w"
  refine to_tim hu fun y H1 x1 hy => ?_
  repeat walk_at "w"
  have e := rat_ext (q := q) (r := r)
  refine ite_dec (fun h1 => ?_) (fun h1 => ?_)
  · repeat walk_at "w"
    have e2 : decide ((q.den : Int) = r.den) = decide (q = r) := by
      congr 1
      exact propext ⟨fun h => e.mp ⟨h1, h⟩, fun h => (e.mpr h).2⟩
    rw [e2]
    exact z _ x1
  · have e2 : decide (q = r) = false := decide_eq_false fun h => h1 (e.mpr h).1
    have z : Bl H (decide (q = r)) Q := z
    rw [e2] at z
    exact z _ x1
theorem f_lt (T : Tm K mg) : FnR P w K mg base (RX P w) 5 (MT K "__lt__") (spCmp K fun q r => decide (q < r)) := by
  obtain ⟨fd, F⟩ := T.d_Time___lt__
  refine raw_of F (def_ok F sc_Time___lt__ (fun vs H Q E h => by obtain ⟨q, r, v, u, rfl, _⟩ := h; rfl) ?_) (F.bindsN fun _ _ _ _ _ _ us hl => match us, hl with | [_, _], _ => rfl)
  intro X eP ew eK em eb eN es hf nd H vs Q E B h
  subst eP ew eK em eb
  have n0 : Sl X 0 "self" := slot_of eN es hf nd rfl (by first | exact Or.inl rfl | exact Or.inr rfl) (by decide) (by decide)
  have n1 : Sl X 1 "other" := slot_of eN es hf nd rfl (by first | exact Or.inl rfl | exact Or.inr rfl) (by decide) (by decide)
  have n2 : Sl X 2 "later" := slot_of eN es hf nd rfl (by first | exact Or.inl rfl | exact Or.inr rfl) (by decide) (by decide)
  have g_is_time : Gn X "is_time" := gn_of es rfl (by decide)
  have F_is_time := f_is_time (P := X.prog) (w := X.w) (base := X.base) T
  have g_time_of : Gn X "time_of" := gn_of es rfl (by decide)
  have F_time_of := f_time_of (P := X.prog) (w := X.w) (base := X.base) T
  obtain ⟨q, r, v, u, rfl, hv, hu, hq, hr, z⟩ := h
  show WB X [_, _, _] _ [some (v), some (u), none] H
  repeat walk_at "w"
  refine it_tim T hu ?_
  repeat walk_at "w"
  refine to_tim hu fun y H1 x1 hy => ?_
  repeat walk_at "w"
  rw [show decide (q.num * (r.den : Int) < r.num * (q.den : Int)) = decide (q < r) from by congr 1; exact propext (Rat.lt_iff q r).symm]
  exact z _ x1
theorem f_le (T : Tm K mg) : FnR P w K mg base (RX P w) 5 (MT K "__le__") (spCmp K fun q r => decide (q ≤ r)) := by
  obtain ⟨fd, F⟩ := T.d_Time___le__
  refine raw_of F (def_ok F sc_Time___le__ (fun vs H Q E h => by obtain ⟨q, r, v, u, rfl, _⟩ := h; rfl) ?_) (F.bindsN fun _ _ _ _ _ _ us hl => match us, hl with | [_, _], _ => rfl)
  intro X eP ew eK em eb eN es hf nd H vs Q E B h
  subst eP ew eK em eb
  have n0 : Sl X 0 "self" := slot_of eN es hf nd rfl (by first | exact Or.inl rfl | exact Or.inr rfl) (by decide) (by decide)
  have n1 : Sl X 1 "other" := slot_of eN es hf nd rfl (by first | exact Or.inl rfl | exact Or.inr rfl) (by decide) (by decide)
  have n2 : Sl X 2 "later" := slot_of eN es hf nd rfl (by first | exact Or.inl rfl | exact Or.inr rfl) (by decide) (by decide)
  have g_is_time : Gn X "is_time" := gn_of es rfl (by decide)
  have F_is_time := f_is_time (P := X.prog) (w := X.w) (base := X.base) T
  have g_time_of : Gn X "time_of" := gn_of es rfl (by decide)
  have F_time_of := f_time_of (P := X.prog) (w := X.w) (base := X.base) T
  obtain ⟨q, r, v, u, rfl, hv, hu, hq, hr, z⟩ := h
  show WB X [_, _, _] _ [some (v), some (u), none] H
  repeat walk_at "w"
  refine it_tim T hu ?_
  repeat walk_at "w"
  refine to_tim hu fun y H1 x1 hy => ?_
  repeat walk_at "w"
  rw [show decide (q.num * (r.den : Int) ≤ r.num * (q.den : Int)) = decide (q ≤ r) from by congr 1; exact propext (Rat.le_iff q r).symm]
  exact z _ x1
theorem f_gt (T : Tm K mg) : FnR P w K mg base (RX P w) 5 (MT K "__gt__") (spCmp K fun q r => decide (r < q)) := by
  obtain ⟨fd, F⟩ := T.d_Time___gt__
  refine raw_of F (def_ok F sc_Time___gt__ (fun vs H Q E h => by obtain ⟨q, r, v, u, rfl, _⟩ := h; rfl) ?_) (F.bindsN fun _ _ _ _ _ _ us hl => match us, hl with | [_, _], _ => rfl)
  intro X eP ew eK em eb eN es hf nd H vs Q E B h
  subst eP ew eK em eb
  have n0 : Sl X 0 "self" := slot_of eN es hf nd rfl (by first | exact Or.inl rfl | exact Or.inr rfl) (by decide) (by decide)
  have n1 : Sl X 1 "other" := slot_of eN es hf nd rfl (by first | exact Or.inl rfl | exact Or.inr rfl) (by decide) (by decide)
  have n2 : Sl X 2 "sooner" := slot_of eN es hf nd rfl (by first | exact Or.inl rfl | exact Or.inr rfl) (by decide) (by decide)
  have g_is_time : Gn X "is_time" := gn_of es rfl (by decide)
  have F_is_time := f_is_time (P := X.prog) (w := X.w) (base := X.base) T
  have g_time_of : Gn X "time_of" := gn_of es rfl (by decide)
  have F_time_of := f_time_of (P := X.prog) (w := X.w) (base := X.base) T
  obtain ⟨q, r, v, u, rfl, hv, hu, hq, hr, z⟩ := h
  show WB X [_, _, _] _ [some (v), some (u), none] H
  repeat walk_at "w"
  refine it_tim T hu ?_
  repeat walk_at "w"
  refine to_tim hu fun y H1 x1 hy => ?_
  repeat walk_at "w"
  rw [show decide (r.num * (q.den : Int) < q.num * (r.den : Int)) = decide (r < q) from by congr 1; exact propext (Rat.lt_iff r q).symm]
  exact z _ x1
theorem f_ge (T : Tm K mg) : FnR P w K mg base (RX P w) 5 (MT K "__ge__") (spCmp K fun q r => decide (r ≤ q)) := by
  obtain ⟨fd, F⟩ := T.d_Time___ge__
  refine raw_of F (def_ok F sc_Time___ge__ (fun vs H Q E h => by obtain ⟨q, r, v, u, rfl, _⟩ := h; rfl) ?_) (F.bindsN fun _ _ _ _ _ _ us hl => match us, hl with | [_, _], _ => rfl)
  intro X eP ew eK em eb eN es hf nd H vs Q E B h
  subst eP ew eK em eb
  have n0 : Sl X 0 "self" := slot_of eN es hf nd rfl (by first | exact Or.inl rfl | exact Or.inr rfl) (by decide) (by decide)
  have n1 : Sl X 1 "other" := slot_of eN es hf nd rfl (by first | exact Or.inl rfl | exact Or.inr rfl) (by decide) (by decide)
  have n2 : Sl X 2 "sooner" := slot_of eN es hf nd rfl (by first | exact Or.inl rfl | exact Or.inr rfl) (by decide) (by decide)
  have g_is_time : Gn X "is_time" := gn_of es rfl (by decide)
  have F_is_time := f_is_time (P := X.prog) (w := X.w) (base := X.base) T
  have g_time_of : Gn X "time_of" := gn_of es rfl (by decide)
  have F_time_of := f_time_of (P := X.prog) (w := X.w) (base := X.base) T
  obtain ⟨q, r, v, u, rfl, hv, hu, hq, hr, z⟩ := h
  show WB X [_, _, _] _ [some (v), some (u), none] H
  repeat walk_at "w"
  refine it_tim T hu ?_
  repeat walk_at "w"
  refine to_tim hu fun y H1 x1 hy => ?_
  repeat walk_at "w"
  rw [show decide (r.num * (q.den : Int) ≤ q.num * (r.den : Int)) = decide (r ≤ q) from by congr 1; exact propext (Rat.le_iff r q).symm]
  exact z _ x1
/-- == of a value of another kind -/
def spEqN (K : PySem.W.Frag) : SpN := fun vs H D _ => ∃ v u t r1 r2, vs = [v, u] ∧ TyX K H u t ∧ PySem.W.kitOne K t (.ref (CT K)) = some false ∧ PySem.W.kitOne K t (.type "int") = some r1 ∧ PySem.W.kitOne K t (.type "bool") = some r2 ∧ (r1 && !r2) = false ∧ D H
theorem f_eqN (T : Tm K mg) : FnN P w K mg base (RX P w) 4 (MT K "__eq__") (spEqN K) := by
  obtain ⟨fd, F⟩ := T.d_Time___eq__
  refine def_ni F (F.bindsN fun _ _ _ _ _ _ us hl => match us, hl with | [_, _], _ => rfl) sc_Time___eq__ (fun vs H Q E h => by obtain ⟨v, u, t, r1, r2, rfl, _⟩ := h; rfl) ?_
  intro X eP ew eK em eb eN es hf nd H vs D E B h
  subst eP ew eK em eb
  have n0 : Sl X 0 "self" := slot_of eN es hf nd rfl (by first | exact Or.inl rfl | exact Or.inr rfl) (by decide) (by decide)
  have n1 : Sl X 1 "other" := slot_of eN es hf nd rfl (by first | exact Or.inl rfl | exact Or.inr rfl) (by decide) (by decide)
  have n2 : Sl X 2 "same" := slot_of eN es hf nd rfl (by first | exact Or.inl rfl | exact Or.inr rfl) (by decide) (by decide)
  have g_is_time : Gn X "is_time" := gn_of es rfl (by decide)
  have F_is_time := f_is_time (P := X.prog) (w := X.w) (base := X.base) T
  have g_time_of : Gn X "time_of" := gn_of es rfl (by decide)
  have F_time_of := f_time_of (P := X.prog) (w := X.w) (base := X.base) T
  have z_NI : Bn X "NotImplemented" := bn_of es rfl T.z_NotImplemented
  obtain ⟨v, u, t, r1, r2, rfl, ht, h0, h1, h2, e, z⟩ := h
  show WBN X (_ :: [_, _]) _ [some v, some u, none] H
  refine wbn_if z_NI ?_
  repeat walk_at "w"
  refine ⟨u, t, false, r1, r2, rfl, ht, h0, h1, h2, ?_⟩
  rw [e]
  repeat walk_at "w"
  exact ⟨rfl, z⟩
end
section
variable {X : Cx} {k : Nat} {E : XK} {H : Hp} {Q : VK} {v u : V} {q r : Rat} {i : Int}
theorem o_eqT (B : Body X k fun _ => E) (T : Tm X.K X.mg) (hk : 5 ≤ k) (hv : TimeV (CT X.K) q v H) (hu : Tim X.K r u H) (hq : Sz q 4000) (hr : Sz r 4000) (z : Bl H (decide (q = r)) Q) : Op2 X (compareOp .Eq) v u H Q := by
  have s : spCmp X.K (fun q r => decide (q = r)) [v, u] H Q E := ⟨q, r, v, u, rfl, hv, hu, hq, hr, z⟩
  obtain ⟨p, dx, rfl, hp⟩ := hv
  rcases hu with ⟨p', dx', rfl, hp'⟩ | ⟨i, rfl, _⟩
  · exact cmp_tt B rich_eq T.o_Time___eq__ (f_eq T) hk hp hp' s
  · exact cmp_ti B rich_eq T.o_Time___eq__ (f_eq T) hk hp s
theorem o_ltT (B : Body X k fun _ => E) (T : Tm X.K X.mg) (hk : 5 ≤ k) (hv : TimeV (CT X.K) q v H) (hu : Tim X.K r u H) (hq : Sz q 4000) (hr : Sz r 4000) (z : Bl H (decide (q < r)) Q) : Op2 X (compareOp .Lt) v u H Q := by
  have s : spCmp X.K (fun q r => decide (q < r)) [v, u] H Q E := ⟨q, r, v, u, rfl, hv, hu, hq, hr, z⟩
  obtain ⟨p, dx, rfl, hp⟩ := hv
  rcases hu with ⟨p', dx', rfl, hp'⟩ | ⟨i, rfl, _⟩
  · exact cmp_tt B rich_lt T.o_Time___lt__ (f_lt T) hk hp hp' s
  · exact cmp_ti B rich_lt T.o_Time___lt__ (f_lt T) hk hp s
theorem o_leT (B : Body X k fun _ => E) (T : Tm X.K X.mg) (hk : 5 ≤ k) (hv : TimeV (CT X.K) q v H) (hu : Tim X.K r u H) (hq : Sz q 4000) (hr : Sz r 4000) (z : Bl H (decide (q ≤ r)) Q) : Op2 X (compareOp .LtE) v u H Q := by
  have s : spCmp X.K (fun q r => decide (q ≤ r)) [v, u] H Q E := ⟨q, r, v, u, rfl, hv, hu, hq, hr, z⟩
  obtain ⟨p, dx, rfl, hp⟩ := hv
  rcases hu with ⟨p', dx', rfl, hp'⟩ | ⟨i, rfl, _⟩
  · exact cmp_tt B rich_le T.o_Time___le__ (f_le T) hk hp hp' s
  · exact cmp_ti B rich_le T.o_Time___le__ (f_le T) hk hp s
theorem o_gtT (B : Body X k fun _ => E) (T : Tm X.K X.mg) (hk : 5 ≤ k) (hv : TimeV (CT X.K) q v H) (hu : Tim X.K r u H) (hq : Sz q 4000) (hr : Sz r 4000) (z : Bl H (decide (r < q)) Q) : Op2 X (compareOp .Gt) v u H Q := by
  have s : spCmp X.K (fun q r => decide (r < q)) [v, u] H Q E := ⟨q, r, v, u, rfl, hv, hu, hq, hr, z⟩
  obtain ⟨p, dx, rfl, hp⟩ := hv
  rcases hu with ⟨p', dx', rfl, hp'⟩ | ⟨i, rfl, _⟩
  · exact cmp_tt B rich_gt T.o_Time___gt__ (f_gt T) hk hp hp' s
  · exact cmp_ti B rich_gt T.o_Time___gt__ (f_gt T) hk hp s
theorem o_geT (B : Body X k fun _ => E) (T : Tm X.K X.mg) (hk : 5 ≤ k) (hv : TimeV (CT X.K) q v H) (hu : Tim X.K r u H) (hq : Sz q 4000) (hr : Sz r 4000) (z : Bl H (decide (r ≤ q)) Q) : Op2 X (compareOp .GtE) v u H Q := by
  have s : spCmp X.K (fun q r => decide (r ≤ q)) [v, u] H Q E := ⟨q, r, v, u, rfl, hv, hu, hq, hr, z⟩
  obtain ⟨p, dx, rfl, hp⟩ := hv
  rcases hu with ⟨p', dx', rfl, hp'⟩ | ⟨i, rfl, _⟩
  · exact cmp_tt B rich_ge T.o_Time___ge__ (f_ge T) hk hp hp' s
  · exact cmp_ti B rich_ge T.o_Time___ge__ (f_ge T) hk hp s
theorem o_eqI (B : Body X k fun _ => E) (T : Tm X.K X.mg) (hk : 5 ≤ k) (hv : TimeV (CT X.K) q v H) (hq : Sz q 4000) (hr : Sz (i : Rat) 4000) (z : Bl H (decide (q = i)) Q) : Op2 X (compareOp .Eq) (.int i) v H Q := by
  have s : spCmp X.K (fun q r => decide (q = r)) [v, .int i] H Q E := ⟨q, _, v, _, rfl, hv, .inr ⟨i, rfl, rfl⟩, hq, hr, z⟩
  obtain ⟨p, dx, rfl, hp⟩ := hv
  exact cmp_it B rich_eq T.q_Time___eq__ idecl_eq (f_eq T) hk hp s
theorem o_ltI (B : Body X k fun _ => E) (T : Tm X.K X.mg) (hk : 5 ≤ k) (hv : TimeV (CT X.K) q v H) (hq : Sz q 4000) (hr : Sz (i : Rat) 4000) (z : Bl H (decide ((i : Rat) < q)) Q) : Op2 X (compareOp .Lt) (.int i) v H Q := by
  have s : spCmp X.K (fun q r => decide (r < q)) [v, .int i] H Q E := ⟨q, _, v, _, rfl, hv, .inr ⟨i, rfl, rfl⟩, hq, hr, z⟩
  obtain ⟨p, dx, rfl, hp⟩ := hv
  exact cmp_it B rich_lt T.q_Time___gt__ idecl_lt (f_gt T) hk hp s
theorem o_leI (B : Body X k fun _ => E) (T : Tm X.K X.mg) (hk : 5 ≤ k) (hv : TimeV (CT X.K) q v H) (hq : Sz q 4000) (hr : Sz (i : Rat) 4000) (z : Bl H (decide ((i : Rat) ≤ q)) Q) : Op2 X (compareOp .LtE) (.int i) v H Q := by
  have s : spCmp X.K (fun q r => decide (r ≤ q)) [v, .int i] H Q E := ⟨q, _, v, _, rfl, hv, .inr ⟨i, rfl, rfl⟩, hq, hr, z⟩
  obtain ⟨p, dx, rfl, hp⟩ := hv
  exact cmp_it B rich_le T.q_Time___ge__ idecl_le (f_ge T) hk hp s
theorem o_gtI (B : Body X k fun _ => E) (T : Tm X.K X.mg) (hk : 5 ≤ k) (hv : TimeV (CT X.K) q v H) (hq : Sz q 4000) (hr : Sz (i : Rat) 4000) (z : Bl H (decide (q < (i : Rat))) Q) : Op2 X (compareOp .Gt) (.int i) v H Q := by
  have s : spCmp X.K (fun q r => decide (q < r)) [v, .int i] H Q E := ⟨q, _, v, _, rfl, hv, .inr ⟨i, rfl, rfl⟩, hq, hr, z⟩
  obtain ⟨p, dx, rfl, hp⟩ := hv
  exact cmp_it B rich_gt T.q_Time___lt__ idecl_gt (f_lt T) hk hp s
theorem o_geI (B : Body X k fun _ => E) (T : Tm X.K X.mg) (hk : 5 ≤ k) (hv : TimeV (CT X.K) q v H) (hq : Sz q 4000) (hr : Sz (i : Rat) 4000) (z : Bl H (decide (q ≤ (i : Rat))) Q) : Op2 X (compareOp .GtE) (.int i) v H Q := by
  have s : spCmp X.K (fun q r => decide (q ≤ r)) [v, .int i] H Q E := ⟨q, _, v, _, rfl, hv, .inr ⟨i, rfl, rfl⟩, hq, hr, z⟩
  obtain ⟨p, dx, rfl, hp⟩ := hv
  exact cmp_it B rich_ge T.q_Time___le__ idecl_ge (f_le T) hk hp s
theorem o_neT (B : Body X k fun _ => E) (T : Tm X.K X.mg) (hk : 6 ≤ k) (hv : TimeV (CT X.K) q v H) (hu : Tim X.K r u H) (hq : Sz q 4000) (hr : Sz r 4000) (z : Bl H (!decide (q = r)) Q) : Op2 X (compareOp .NotEq) v u H Q := by
  have s : spCmp X.K (fun q r => decide (q = r)) [v, u] H (NotQ Q) E := ⟨q, r, v, u, rfl, hv, hu, hq, hr, fun H' x => ⟨_, rfl, z H' x⟩⟩
  obtain ⟨p, dx, rfl, hp⟩ := hv
  rcases hu with ⟨p', dx', rfl, hp'⟩ | ⟨i, rfl, _⟩
  · exact ne_tt B T.w_Time (f_eq T) hk hp hp' s
  · exact ne_ti B T.w_Time (f_eq T) hk hp s
theorem o_neI (B : Body X k fun _ => E) (T : Tm X.K X.mg) (hk : 6 ≤ k) (hv : TimeV (CT X.K) q v H) (hq : Sz q 4000) (hr : Sz (i : Rat) 4000) (z : Bl H (!decide (q = i)) Q) : Op2 X (compareOp .NotEq) (.int i) v H Q := by
  have s : spCmp X.K (fun q r => decide (q = r)) [v, .int i] H (NotQ Q) E := ⟨q, _, v, _, rfl, hv, .inr ⟨i, rfl, rfl⟩, hq, hr, fun H' x => ⟨_, rfl, z H' x⟩⟩
  obtain ⟨p, dx, rfl, hp⟩ := hv
  exact ne_it B T.w_Time (f_eq T) hk hp s
/-- the kinds that are no times -/
theorem fgn_ty {K : PySem.W.Frag} (T : Tm K X.mg) (g : Fgn H u) : ∃ t r1 r2, TyX K H u t ∧ PySem.W.kitOne K t (.ref (CT K)) = some false ∧ PySem.W.kitOne K t (.type "int") = some r1 ∧ PySem.W.kitOne K t (.type "bool") = some r2 ∧ (r1 && !r2) = false := by
  cases g with
  | non => exact ⟨_, _, _, .base .non, T.k_Time.ofNone, k_ni, k_nb, rfl⟩
  | bl b => exact ⟨_, _, _, .base (.bl b), T.k_Time.ofBool, k_bi, k_bb, rfl⟩
  | str z => exact ⟨_, _, _, .base (.str z), T.k_Time.ofStr, k_si, k_sb, rfl⟩
  | tup h => exact ⟨_, _, _, .base (.tup h), T.k_Time.ofTup, k_ti, k_tb, rfl⟩
  | lst h => exact ⟨_, _, _, .base (.lst h), T.k_Time.ofLst, k_li, k_lb, rfl⟩
theorem o_eqF (B : Body X k fun _ => E) (T : Tm X.K X.mg) (hk : 4 ≤ k) (hv : TimeV (CT X.K) q v H) (g : Fgn H u) (z : Q (.bl false) H) : Op2 X (compareOp .Eq) v u H Q := by
  obtain ⟨p, dx, rfl, hp⟩ := hv
  obtain ⟨t, r1, r2, h1, h2, h3, h4, h5⟩ := fgn_ty T g
  exact eq_fgn B T.w_Time (f_eqN T) hk hp g ⟨_, u, t, r1, r2, rfl, h1, h2, h3, h4, h5, hp, g, z⟩
theorem o_neF (B : Body X k fun _ => E) (T : Tm X.K X.mg) (hk : 5 ≤ k) (hv : TimeV (CT X.K) q v H) (g : Fgn H u) (z : Q (.bl true) H) : Op2 X (compareOp .NotEq) v u H Q := by
  obtain ⟨p, dx, rfl, hp⟩ := hv
  obtain ⟨t, r1, r2, h1, h2, h3, h4, h5⟩ := fgn_ty T g
  exact ne_fgn B T.w_Time (f_eqN T) hk hp g ⟨_, u, t, r1, r2, rfl, h1, h2, h3, h4, h5, hp, g, z⟩
end

/-! ### steps for the operators of times (sizes: facts at hand) -/
theorem Sz.big {q : Rat} (h : Sz q 4000) : Sz q 8000 := h.mono (by decide)
local macro_rules | `(tactic| walk_at "sq") => `(tactic| assumption)
local macro_rules | `(tactic| walk_at "tim") => `(tactic| first | (refine Or.inl ?_; walk_at "tv") | exact Or.inr ⟨_, rfl, rfl⟩ | ((with_reducible refine' Tim.mono ?x ?h); (case h => assumption); (case x => walk_at "x")))
local macro_rules | `(tactic| walk_at "wO") => `(tactic| first | ((with_reducible refine' o_addT ?B ?T ?hk ?hv ?hu ?hq ?hr ?_); (case B => assumption); (case T => assumption); (case hk => decide); (case hv => walk_at "tv"); (case hu => walk_at "tim"); (case hq => walk_at "sq"); (case hr => walk_at "sq")) | ((with_reducible refine' o_subT ?B ?T ?hk ?hv ?hu ?hq ?hr ?_); (case B => assumption); (case T => assumption); (case hk => decide); (case hv => walk_at "tv"); (case hu => walk_at "tim"); (case hq => walk_at "sq"); (case hr => walk_at "sq")) | ((with_reducible refine' o_mulT ?B ?T ?hk ?hv ?hu ?hq ?hr ?_); (case B => assumption); (case T => assumption); (case hk => decide); (case hv => walk_at "tv"); (case hu => walk_at "tim"); (case hq => walk_at "sq"); (case hr => walk_at "sq")) | ((with_reducible refine' i_addT ?B ?T ?hk ?hv ?hu ?hq ?hr ?_); (case B => assumption); (case T => assumption); (case hk => decide); (case hv => walk_at "tv"); (case hu => walk_at "tv"); (case hq => walk_at "sq"); (case hr => walk_at "sq")) | ((with_reducible refine' i_subT ?B ?T ?hk ?hv ?hu ?hq ?hr ?_); (case B => assumption); (case T => assumption); (case hk => decide); (case hv => walk_at "tv"); (case hu => walk_at "tv"); (case hq => walk_at "sq"); (case hr => walk_at "sq")) | ((with_reducible refine' i_mulT ?B ?T ?hk ?hv ?hu ?hq ?hr ?_); (case B => assumption); (case T => assumption); (case hk => decide); (case hv => walk_at "tv"); (case hu => walk_at "tv"); (case hq => walk_at "sq"); (case hr => walk_at "sq")) | ((with_reducible refine' o_addI ?B ?T ?hk ?hv ?hq ?hr ?_); (case B => assumption); (case T => assumption); (case hk => decide); (case hv => walk_at "tv"); (case hq => walk_at "sq"); (case hr => walk_at "sq")) | ((with_reducible refine' o_subI ?B ?T ?hk ?hv ?hq ?hr ?_); (case B => assumption); (case T => assumption); (case hk => decide); (case hv => walk_at "tv"); (case hq => walk_at "sq"); (case hr => walk_at "sq")) | ((with_reducible refine' o_mulI ?B ?T ?hk ?hv ?hq ?hr ?_); (case B => assumption); (case T => assumption); (case hk => decide); (case hv => walk_at "tv"); (case hq => walk_at "sq"); (case hr => walk_at "sq")) | ((with_reducible refine' o_ltT ?B ?T ?hk ?hv ?hu ?hq ?hr ?_); (case B => assumption); (case T => assumption); (case hk => decide); (case hv => walk_at "tv"); (case hu => walk_at "tim"); (case hq => walk_at "sq"); (case hr => walk_at "sq")) | ((with_reducible refine' o_leT ?B ?T ?hk ?hv ?hu ?hq ?hr ?_); (case B => assumption); (case T => assumption); (case hk => decide); (case hv => walk_at "tv"); (case hu => walk_at "tim"); (case hq => walk_at "sq"); (case hr => walk_at "sq")) | ((with_reducible refine' o_gtT ?B ?T ?hk ?hv ?hu ?hq ?hr ?_); (case B => assumption); (case T => assumption); (case hk => decide); (case hv => walk_at "tv"); (case hu => walk_at "tim"); (case hq => walk_at "sq"); (case hr => walk_at "sq")) | ((with_reducible refine' o_geT ?B ?T ?hk ?hv ?hu ?hq ?hr ?_); (case B => assumption); (case T => assumption); (case hk => decide); (case hv => walk_at "tv"); (case hu => walk_at "tim"); (case hq => walk_at "sq"); (case hr => walk_at "sq")) | ((with_reducible refine' o_eqT ?B ?T ?hk ?hv ?hu ?hq ?hr ?_); (case B => assumption); (case T => assumption); (case hk => decide); (case hv => walk_at "tv"); (case hu => walk_at "tim"); (case hq => walk_at "sq"); (case hr => walk_at "sq")) | ((with_reducible refine' o_neT ?B ?T ?hk ?hv ?hu ?hq ?hr ?_); (case B => assumption); (case T => assumption); (case hk => decide); (case hv => walk_at "tv"); (case hu => walk_at "tim"); (case hq => walk_at "sq"); (case hr => walk_at "sq")) | ((with_reducible refine' o_ltI ?B ?T ?hk ?hv ?hq ?hr ?_); (case B => assumption); (case T => assumption); (case hk => decide); (case hv => walk_at "tv"); (case hq => walk_at "sq"); (case hr => walk_at "sq")) | ((with_reducible refine' o_leI ?B ?T ?hk ?hv ?hq ?hr ?_); (case B => assumption); (case T => assumption); (case hk => decide); (case hv => walk_at "tv"); (case hq => walk_at "sq"); (case hr => walk_at "sq")) | ((with_reducible refine' o_gtI ?B ?T ?hk ?hv ?hq ?hr ?_); (case B => assumption); (case T => assumption); (case hk => decide); (case hv => walk_at "tv"); (case hq => walk_at "sq"); (case hr => walk_at "sq")) | ((with_reducible refine' o_geI ?B ?T ?hk ?hv ?hq ?hr ?_); (case B => assumption); (case T => assumption); (case hk => decide); (case hv => walk_at "tv"); (case hq => walk_at "sq"); (case hr => walk_at "sq")) | ((with_reducible refine' o_eqI ?B ?T ?hk ?hv ?hq ?hr ?_); (case B => assumption); (case T => assumption); (case hk => decide); (case hv => walk_at "tv"); (case hq => walk_at "sq"); (case hr => walk_at "sq")) | ((with_reducible refine' o_neI ?B ?T ?hk ?hv ?hq ?hr ?_); (case B => assumption); (case T => assumption); (case hk => decide); (case hv => walk_at "tv"); (case hq => walk_at "sq"); (case hr => walk_at "sq")) | fail)
local macro_rules | `(tactic| walk_at "wX") => `(tactic| first | ((with_reducible refine' o_negT ?B ?T ?hk ?hv ?hq ?_); (case B => assumption); (case T => assumption); (case hk => decide); (case hv => walk_at "tv"); (case hq => refine Sz.big ?_; walk_at "sq")) | fail)

/-! ### times that may be missing -/
def OptT (K : PySem.W.Frag) (o : Option Rat) (v : V) (H : Hp) : Prop := match o with
  | none => v = .non
  | some q => TimeV (CT K) q v H
theorem OptT.mono {K : PySem.W.Frag} {o : Option Rat} {v : V} {H H' : Hp} (x : Ex H H') (h : OptT K o v H) : OptT K o v H' := by
  cases o with
  | none => exact h
  | some q => exact TimeV.mono x h
theorem upd2 {H : Hp} {p : Addr} {o u : HO} : upd (upd H p o) p u = upd H p u := upd_upd
theorem TimeV.up {C p : Addr} {q : Rat} {v : V} {H : Hp} {o u : HO} (hp : H p = some o) (ho : ∀ dx, o ≠ .ins C dx (tfs q)) (h : TimeV C q v H) : TimeV C q v (upd H p u) := by
  obtain ⟨t, dx, rfl, ht⟩ := h
  refine ⟨t, dx, rfl, (upd_ne fun e => ?_).trans ht⟩
  subst e
  rw [hp] at ht
  cases ht
  exact ho dx rfl

/-! ### values that are no times above 0 -/
/-- a value that is no time above 0, and not None -/
def BadV (K : PySem.W.Frag) (v : V) (H : Hp) : Prop := (∃ b, v = .bl b) ∨ (∃ z, v = .str z) ∨ (∃ p i, v = .ref p ∧ H p = some (.lst [.int i])) ∨ ∃ q, Tim K q v H ∧ q ≤ 0 ∧ Sz q 4000
theorem one_ns' {i : Int} : ¬ Src (.lst [.int i]) := not_src_ints (ns := [i])
section
variable {K : PySem.W.Frag} {v : V} {H H' : Hp} {p C dx : Addr}
theorem BadV.mono (x : Ex H H') (h : BadV K v H) : BadV K v H' := by
  rcases h with h | h | ⟨p, i, e, h⟩ | ⟨q, h, r⟩
  · exact .inl h
  · exact .inr (.inl h)
  · exact .inr (.inr (.inl ⟨p, i, e, x.keep _ _ h one_ns'⟩))
  · exact .inr (.inr (.inr ⟨q, h.mono x, r⟩))
theorem BadV.nn (h : BadV K v H) : v ≠ .non := by
  rintro rfl
  rcases h with ⟨b, e⟩ | ⟨z, e⟩ | ⟨p, i, e, h⟩ | ⟨q, h | ⟨i, e, _⟩, r⟩
  · cases e
  · cases e
  · cases e
  · obtain ⟨t, dx, e, _⟩ := h
    cases e
  · cases e
theorem BadV.kind (h : BadV K v H) : Fgn H v ∨ ∃ q, Tim K q v H ∧ q ≤ 0 ∧ Sz q 4000 := by
  rcases h with ⟨b, rfl⟩ | ⟨z, rfl⟩ | ⟨p, i, rfl, h⟩ | h
  · exact .inl (.bl b)
  · exact .inl (.str z)
  · exact .inl (.lst h)
  · exact .inr h
/-- .. or None -/
def WBad (K : PySem.W.Frag) (v : V) (H : Hp) : Prop := v = .non ∨ BadV K v H
theorem WBad.mono (x : Ex H H') (h : WBad K v H) : WBad K v H' := h.elim .inl fun h => .inr (h.mono x)
theorem WBad.kind (h : WBad K v H) : Fgn H v ∨ ∃ q, Tim K q v H ∧ q ≤ 0 ∧ Sz q 4000 := by
  rcases h with rfl | h
  · exact .inl .non
  · exact h.kind
end
section
variable {K : PySem.W.Frag} {mg : Str → Option Value} {H : Hp} {Q : VK} {E : XK} {v : V}
theorem fgn_tyK (T : Tm K mg) (g : Fgn H v) : ∃ t r1 r2, TyX K H v t ∧ PySem.W.kitOne K t (.ref (CT K)) = some false ∧ PySem.W.kitOne K t (.type "int") = some r1 ∧ PySem.W.kitOne K t (.type "bool") = some r2 ∧ (r1 && !r2) = false := by
  cases g with
  | non => exact ⟨_, _, _, .base .non, T.k_Time.ofNone, k_ni, k_nb, rfl⟩
  | bl b => exact ⟨_, _, _, .base (.bl b), T.k_Time.ofBool, k_bi, k_bb, rfl⟩
  | str z => exact ⟨_, _, _, .base (.str z), T.k_Time.ofStr, k_si, k_sb, rfl⟩
  | tup h => exact ⟨_, _, _, .base (.tup h), T.k_Time.ofTup, k_ti, k_tb, rfl⟩
  | lst h => exact ⟨_, _, _, .base (.lst h), T.k_Time.ofLst, k_li, k_lb, rfl⟩
theorem it_no (T : Tm K mg) (h : Fgn H v) (z : Q (.bl false) H) : spIsTime K [v] H Q E := by
  obtain ⟨t, r1, r2, h1, h2, h3, h4, h5⟩ := fgn_tyK T h
  exact ⟨v, t, false, r1, r2, rfl, h1, h2, h3, h4, by rw [h5]; exact z⟩
end

/-! ### into a comprehension's block -/
section
variable {X : Cx} {s : Shared} {H0 : Hp} {scope : Scope} {C : Addr} {cl : List (Str × Addr)} {fp : List Addr} {elt : Expr} {σ : L2.St} {H : Hp} {Q : VK} {k i : Nat} {E : L2.St → XK} {x : Str} {N : List Str} {sco : Scope}
theorem in_blk (B : Body X k E) (h0 : scope.names.lookup ("0" : Str) = none) (h : Body (Bk X s H0 scope C cl fp) k (fun _ => E0) → WE (Bk X s H0 scope C cl fp) elt σ H Q) : WE (Bk X s H0 scope C cl fp) elt σ H Q := h (B.blk h0)
theorem in_own (eN : X.N = N) (nd : N.Nodup) (hi : N[i]? = some x) (hx : scope.names.lookup x = some .local) (d1 : (x == ("__debug__" : Str)) = false) (d2 : (x == ("__classdict__" : Str)) = false) (h : Sl (Bk X s H0 scope C cl fp) i x → WE (Bk X s H0 scope C cl fp) elt σ H Q) : WE (Bk X s H0 scope C cl fp) elt σ H Q := h (own_of eN nd hi hx d1 d2)
theorem in_gn (x : Str) (hx : scope.names.lookup x = some .globalImplicit) (d1 : (x == ("__debug__" : Str)) = false) (h : Gn (Bk X s H0 scope C cl fp) x → WE (Bk X s H0 scope C cl fp) elt σ H Q) : WE (Bk X s H0 scope C cl fp) elt σ H Q := h (gn_blk hx d1)
theorem in_bn (x : Str) (hx : scope.names.lookup x = some .globalImplicit) (no : X.mg x = none) (h : Bn (Bk X s H0 scope C cl fp) x → WE (Bk X s H0 scope C cl fp) elt σ H Q) : WE (Bk X s H0 scope C cl fp) elt σ H Q := h (bn_blk hx no)
theorem in_free (eN : X.N = N) (es : X.env.scope = sco) (hi : N[i]? = some x) (hx : (relS scope sco).names.lookup x = some .cell) (d1 : (x == ("__debug__" : Str)) = false) (d2 : (x == ("__classdict__" : Str)) = false) (h : SlF (Bk X s H0 scope C cl fp) i x → WE (Bk X s H0 scope C cl fp) elt σ H Q) : WE (Bk X s H0 scope C cl fp) elt σ H Q := h (free_of eN es hi hx d1 d2)
end
local macro_rules | `(tactic| walk_at "wE") => `(tactic| first | ((with_reducible refine' we_nameF ?n ?h ?_); (case n => with_reducible assumption); (case h => exact rfl)) | fail)

/-! ### books of rules: what a book holds -/
/-- a book's nine parts -/
structure Bk where
  word : Str
  share : Rat
  latest : Option Nat
  factor : Rat
  margin : Rat
  floor : Option Rat
  roof : Option Rat
  doubled : Bool
  kept : Bool
structure BkOk (z : Bk) : Prop where
  word : z.word ∈ (["first", "last", "marked", "clean"] : List Str)
  sh0 : 0 < z.share
  sh1 : z.share ≤ 1
  lat : ∀ n, z.latest = some n → 1 ≤ n ∧ n ≤ 20 ∧ z.share = 1
  fa : 1 ≤ z.factor
  ma : 0 ≤ z.margin
  fl : ∀ f, z.floor = some f → 0 < f
  ro : ∀ r, z.roof = some r → 0 < r ∧ ∀ f, z.floor = some f → f ≤ r
  ke : z.kept = true → z.doubled = true
  z1 : Sz z.share 1000
  z2 : Sz z.factor 1000
  z3 : Sz z.margin 1000
  z4 : ∀ f, z.floor = some f → Sz f 1000
  z5 : ∀ f, z.roof = some f → Sz f 1000
def latV : Option Nat → V
  | none => .non
  | some n => .int n
def pn : List Str := ["sample", "share", "latest", "factor", "margin", "floor", "roof", "doubled", "kept"]
def pk : List Key := pn.map Sum.inr
theorem pk_nd : pk.Nodup := by decide +kernel
theorem pk_at {i : Nat} {x : Str} (h : pn[i]? = some x) : pk[i]? = some (.inr x) := by
  unfold pk
  rw [List.getElem?_map, h]
  rfl
/-- a time, an int or None -/
def OTim (K : PySem.W.Frag) (o : Option Rat) (v : V) (H : Hp) : Prop := match o with
  | none => v = .non
  | some q => Tim K q v H
theorem OTim.mono {K : PySem.W.Frag} {o : Option Rat} {v : V} {H H' : Hp} (x : Ex H H') (h : OTim K o v H) : OTim K o v H' := by
  cases o with
  | none => exact h
  | some q => exact Tim.mono x h
theorem Tim.nn {K : PySem.W.Frag} {q : Rat} {v : V} {H : Hp} (h : Tim K q v H) : v ≠ .non := by
  rintro rfl
  rcases h with ⟨t, dx, e, _⟩ | ⟨i, e, _⟩ <;> cases e
theorem OptT.oTim {K : PySem.W.Frag} {o : Option Rat} {v : V} {H : Hp} (h : OptT K o v H) : OTim K o v H := by
  cases o with
  | none => exact h
  | some q => exact .inl h
/-- the nine values: times or ints -/
structure Raw (K : PySem.W.Frag) (z : Bk) (sh fa ma fl ro : V) (H : Hp) : Prop where
  sh : Tim K z.share sh H
  fa : Tim K z.factor fa H
  ma : Tim K z.margin ma H
  fl : OTim K z.floor fl H
  ro : OTim K z.roof ro H
theorem Raw.mono {K : PySem.W.Frag} {z : Bk} {sh fa ma fl ro : V} {H H' : Hp} (x : Ex H H') (h : Raw K z sh fa ma fl ro H) : Raw K z sh fa ma fl ro H' := ⟨h.sh.mono x, h.fa.mono x, h.ma.mono x, h.fl.mono x, h.ro.mono x⟩
abbrev row9 (z : Bk) (sh fa ma fl ro : V) : List V := [.str z.word, sh, latV z.latest, fa, ma, fl, ro, .bl z.doubled, .bl z.kept]
abbrev dk9 (z : Bk) (sh fa ma fl ro : V) : HO := .dK (pk.zip (row9 z sh fa ma fl ro))
theorem val9 {z : Bk} {sh fa ma fl ro v : V} {x : Str} (i : Nat) (hx : pn[i]? = some x) (hv : (row9 z sh fa ma fl ro)[i]? = some v) : valV (pk.zip (row9 z sh fa ma fl ro)) (.inr x) = some v := valV_zip pk_nd (pk_at hx) hv
theorem o_eqSt {X : Cx} {H : Hp} {Q : VK} {x y : Str} (h : decide (x = y) = true) (q : Q (.bl true) H) : Op2 X (compareOp .Eq) (.str x) (.str y) H Q := o_eqS (by rw [h]; exact q)
theorem o_eqSf {X : Cx} {H : Hp} {Q : VK} {x y : Str} (h : decide (x = y) = false) (q : Q (.bl false) H) : Op2 X (compareOp .Eq) (.str x) (.str y) H Q := o_eqS (by rw [h]; exact q)
theorem gr_ok {H : Hp} {Q : V → Prop} {z : Bk} {d : Addr} {sh fa ma fl ro v : V} {x : Str} (hd : H d = some (dk9 z sh fa ma fl ro)) (i : Nat) (hx : pn[i]? = some x) (hv : (row9 z sh fa ma fl ro)[i]? = some v) (q : Q v) :
    ∃ a kvs x' v', V.ref d = .ref a ∧ V.str x = .str x' ∧ H a = some (.dK kvs) ∧ valV kvs (.inr x') = some v' ∧ Q v' := ⟨d, _, x, v, rfl, rfl, hd, val9 i hx hv, q⟩
theorem gs_ok {H : Hp} {Q : V → Prop} {z : Bk} {d : Addr} {sh fa ma fl ro v : V} {x : Str} (hd : H d = some (dk9 z sh fa ma fl ro)) (i : Nat) (hx : pn[i]? = some x) (hv : (row9 z sh fa ma fl ro)[i]? = some v) (q : Q v) :
    ∃ a kvs v', V.ref d = .ref a ∧ H a = some (.dK kvs) ∧ valV kvs (.inr x) = some v' ∧ Q v' := ⟨d, _, v, rfl, hd, val9 i hx hv, q⟩
local macro_rules | `(tactic| walk_at "wE") => `(tactic| first | ((with_reducible refine' we_dgetS ?B ?_ ?hs); (case B => assumption); (case hs => intro _ _; rfl)) | ((with_reducible refine' we_cmp ?_ ?hm); (case hm => rfl)) | fail)
local macro_rules | `(tactic| walk_at "wO") => `(tactic| first | ((with_reducible refine' o_eqSt ?h ?_); (case h => decide +kernel)) | ((with_reducible refine' o_eqSf ?h ?_); (case h => decide +kernel)) | with_reducible refine' o_isB ?_ | fail)
section
variable {P : Program} {w : World} {K : PySem.W.Frag} {mg : Str → Option Value} {base : Heap}
theorem z0s : Sz ((0 : Int) : Rat) 4000 := (Sz.int (n := 2) (by decide) (by decide)).mono (by decide)
theorem z1s : Sz ((1 : Int) : Rat) 4000 := (Sz.int (n := 2) (by decide) (by decide)).mono (by decide)
def spIsPos (K : PySem.W.Frag) : Sp := fun vs H Q _ => ∃ q v, vs = [v] ∧ Tim K q v H ∧ Sz q 4000 ∧ Bl H (decide (0 < q)) Q
theorem f_is_positive (T : Tm K mg) : GFn P w K mg base 6 "is_positive" (spIsPos K) := by
  obtain ⟨fd, F⟩ := T.d_is_positive
  refine GFn.mk F T.g_is_positive (def_ok F sc_is_positive (fun vs H Q E h => by obtain ⟨q, v, rfl, _⟩ := h; rfl) ?_) (F.bindsN fun _ _ _ _ _ _ us hl => match us, hl with | [_], _ => rfl)
  intro X eP ew eK em eb eN es hf nd H vs Q E B h
  subst eP ew eK em eb
  have n0 : Sl X 0 "thing" := slot_of eN es hf nd rfl (by first | exact Or.inl rfl | exact Or.inr rfl) (by decide) (by decide)
  have g_is_time : Gn X "is_time" := gn_of es rfl (by decide)
  have F_is_time := f_is_time (P := X.prog) (w := X.w) (base := X.base) T
  have g_time_of : Gn X "time_of" := gn_of es rfl (by decide)
  have F_time_of := f_time_of (P := X.prog) (w := X.w) (base := X.base) T
  obtain ⟨q, v, rfl, hv, hq, z⟩ := h
  show WB X [_] _ [some (v)] H
  have z0 := z0s
  repeat walk_at "w"
  refine it_tim T hv ?_
  repeat walk_at "w"
  refine to_tim hv fun y H1 x1 hy => ?_
  repeat walk_at "w"
  exact z _ (by walk_at "x")
def spIsLatest (K : PySem.W.Frag) : Sp := fun vs H Q _ => ∃ o q v, vs = [latV o, v] ∧ Tim K q v H ∧ Sz q 4000 ∧ (∀ n, o = some n → 1 ≤ n ∧ n ≤ 20 ∧ q = 1) ∧ Yes H Q
theorem f_is_latest (T : Tm K mg) : GFn P w K mg base 6 "is_latest" (spIsLatest K) := by
  obtain ⟨fd, F⟩ := T.d_is_latest
  refine GFn.mk F T.g_is_latest (def_ok F sc_is_latest (fun vs H Q E h => by obtain ⟨o, q, v, rfl, _⟩ := h; rfl) ?_) (F.bindsN fun _ _ _ _ _ _ us hl => match us, hl with | [_, _], _ => rfl)
  intro X eP ew eK em eb eN es hf nd H vs Q E B h
  subst eP ew eK em eb
  have n0 : Sl X 0 "thing" := slot_of eN es hf nd rfl (by first | exact Or.inl rfl | exact Or.inr rfl) (by decide) (by decide)
  have n1 : Sl X 1 "share" := slot_of eN es hf nd rfl (by first | exact Or.inl rfl | exact Or.inr rfl) (by decide) (by decide)
  have z_isinstance : Bn X "isinstance" := bn_of es rfl T.z_isinstance
  have z_int : Bn X "int" := bn_of es rfl T.z_int
  have z_bool : Bn X "bool" := bn_of es rfl T.z_bool
  have g_MOST_LATEST : Gn X "MOST_LATEST" := gn_of es rfl (by decide)
  obtain ⟨t_MOST_LATEST, m_MOST_LATEST⟩ := T.i_MOST_LATEST
  have g_time_of : Gn X "time_of" := gn_of es rfl (by decide)
  have F_time_of := f_time_of (P := X.prog) (w := X.w) (base := X.base) T
  obtain ⟨o, q, v, rfl, hv, hq, hn, z⟩ := h
  show WB X [_, _, _] _ [some (latV o), some (v)] H
  have z1 := z1s
  cases o with
  | none =>
    repeat walk_at "w"
    rw [decide_eq_true (show latV none = V.non from rfl)]
    repeat walk_at "w"
    exact z _ (.refl _)
  | some n =>
    obtain ⟨n1, n2, rfl⟩ := hn n rfl
    repeat walk_at "w"
    rw [decide_eq_false (show ¬ latV (some n) = V.non from fun e => nomatch e)]
    repeat walk_at "w"
    refine ⟨true, ⟨_, _, .ty _, .base (.int n), k_ii⟩, ?_⟩
    repeat walk_at "w"
    refine ⟨false, ⟨_, _, .ty _, .base (.int n), k_ib⟩, ?_⟩
    repeat walk_at "w"
    refine o_le (l := (n : Int)) ?_
    repeat walk_at "w"
    rw [decide_eq_true (show (1 : Int) ≤ (n : Int) by omega)]
    repeat walk_at "w"
    refine o_le (i := (n : Int)) ?_
    repeat walk_at "w"
    rw [decide_eq_true (show (n : Int) ≤ 20 by omega)]
    repeat walk_at "w"
    refine to_tim hv fun y H1 x1 hy => ?_
    repeat walk_at "w"
    rw [decide_eq_true (show (1 : Rat) = ((1 : Int) : Rat) from rfl)]
    exact z _ (by walk_at "x")
def spIsRoof (K : PySem.W.Frag) : Sp := fun vs H Q _ => ∃ r f v u, vs = [v, u] ∧ OTim K r v H ∧ OTim K f u H ∧ (∀ q, r = some q → Sz q 4000 ∧ 0 < q ∧ ∀ g, f = some g → Sz g 4000 ∧ g ≤ q) ∧ Yes H Q
theorem f_is_roof (T : Tm K mg) : GFn P w K mg base 7 "is_roof" (spIsRoof K) := by
  obtain ⟨fd, F⟩ := T.d_is_roof
  refine GFn.mk F T.g_is_roof (def_ok F sc_is_roof (fun vs H Q E h => by obtain ⟨r, f, v, u, rfl, _⟩ := h; rfl) ?_) (F.bindsN fun _ _ _ _ _ _ us hl => match us, hl with | [_, _], _ => rfl)
  intro X eP ew eK em eb eN es hf nd H vs Q E B h
  subst eP ew eK em eb
  have n0 : Sl X 0 "thing" := slot_of eN es hf nd rfl (by first | exact Or.inl rfl | exact Or.inr rfl) (by decide) (by decide)
  have n1 : Sl X 1 "floor" := slot_of eN es hf nd rfl (by first | exact Or.inl rfl | exact Or.inr rfl) (by decide) (by decide)
  have g_is_positive : Gn X "is_positive" := gn_of es rfl (by decide)
  have F_is_positive := f_is_positive (P := X.prog) (w := X.w) (base := X.base) T
  have g_time_of : Gn X "time_of" := gn_of es rfl (by decide)
  have F_time_of := f_time_of (P := X.prog) (w := X.w) (base := X.base) T
  obtain ⟨r, f, v, u, rfl, hv, hu, hr, z⟩ := h
  show WB X [_, _] _ [some (v), some (u)] H
  cases r with
  | none =>
    cases hv
    repeat walk_at "w"
    rw [decide_eq_true (rfl : V.non = V.non)]
    repeat walk_at "w"
    exact z _ (.refl _)
  | some q =>
    obtain ⟨zq, q0, hg⟩ := hr q rfl
    have hv : Tim X.K q v H := hv
    repeat walk_at "w"
    rw [decide_eq_false hv.nn]
    repeat walk_at "w"
    refine ⟨q, v, rfl, hv, zq, ?_⟩
    rw [decide_eq_true q0]
    repeat walk_at "w"
    rename_i H1 x1
    cases f with
    | none =>
      cases hu
      rw [decide_eq_true (rfl : V.non = V.non)]
      repeat walk_at "w"
      exact z _ x1
    | some g =>
      obtain ⟨zg, gq⟩ := hg g rfl
      have hu : Tim X.K g u H := hu
      rw [decide_eq_false hu.nn]
      repeat walk_at "w"
      refine to_tim (hv.mono x1) fun y H2 x2 hy => ?_
      repeat walk_at "w"
      have hu2 : Tim X.K g u H2 := hu.mono (x1.trans x2)
      rw [decide_eq_true gq]
      exact z _ (by walk_at "x")
end
section
variable {P : Program} {w : World} {K : PySem.W.Frag} {mg : Str → Option Value} {base : Heap}
def spAllowed (K : PySem.W.Frag) : Sp := fun vs H Q _ => ∃ z d sh fa ma fl ro x, ∃ i : Nat, vs = [.str x, .ref d] ∧ H d = some (dk9 z sh fa ma fl ro) ∧ Raw K z sh fa ma fl ro H ∧ BkOk z ∧ pn[i]? = some x ∧ Yes H Q
theorem f_is_allowed (T : Tm K mg) : GFn P w K mg base 8 "is_allowed" (spAllowed K) := by
  obtain ⟨fd, F⟩ := T.d_is_allowed
  refine GFn.mk F T.g_is_allowed (def_ok F sc_is_allowed (fun vs H Q E h => by obtain ⟨z, d, sh, fa, ma, fl, ro, x, i, rfl, _⟩ := h; rfl) ?_) (F.bindsN fun _ _ _ _ _ _ us hl => match us, hl with | [_, _], _ => rfl)
  intro X eP ew eK em eb eN es hf nd H vs Q E B h
  subst eP ew eK em eb
  have n0 : Sl X 0 "part" := slot_of eN es hf nd rfl (by first | exact Or.inl rfl | exact Or.inr rfl) (by decide) (by decide)
  have n1 : Sl X 1 "rules" := slot_of eN es hf nd rfl (by first | exact Or.inl rfl | exact Or.inr rfl) (by decide) (by decide)
  have n2 : Sl X 2 "thing" := slot_of eN es hf nd rfl (by first | exact Or.inl rfl | exact Or.inr rfl) (by decide) (by decide)
  have z_isinstance : Bn X "isinstance" := bn_of es rfl T.z_isinstance
  have z_str : Bn X "str" := bn_of es rfl T.z_str
  have g_SAMPLES : Gn X "SAMPLES" := gn_of es rfl (by decide)
  have m_SAMPLES := T.g_SAMPLES
  have g_is_positive : Gn X "is_positive" := gn_of es rfl (by decide)
  have F_is_positive := f_is_positive (P := X.prog) (w := X.w) (base := X.base) T
  have g_time_of : Gn X "time_of" := gn_of es rfl (by decide)
  have F_time_of := f_time_of (P := X.prog) (w := X.w) (base := X.base) T
  have g_is_latest : Gn X "is_latest" := gn_of es rfl (by decide)
  have F_is_latest := f_is_latest (P := X.prog) (w := X.w) (base := X.base) T
  have g_is_time : Gn X "is_time" := gn_of es rfl (by decide)
  have F_is_time := f_is_time (P := X.prog) (w := X.w) (base := X.base) T
  have g_is_roof : Gn X "is_roof" := gn_of es rfl (by decide)
  have F_is_roof := f_is_roof (P := X.prog) (w := X.w) (base := X.base) T
  obtain ⟨z, d, sh, fa, ma, fl, ro, x, i, rfl, hd, hr, ok, hx, k⟩ := h
  show WB X [_, _, _, _, _, _, _, _, _, _] _ [some (.str x), some (.ref d), none] H
  have z0 := z0s
  have z1 := z1s
  have up : ∀ {q : Rat}, Sz q 1000 → Sz q 4000 := fun h => h.mono (by decide)
  have zsh := up ok.z1
  have zfa := up ok.z2
  have zma := up ok.z3
  match i, hx with
  | 0, hx =>
    cases hx
    refine wb_cons (ws_set n2 (we_dget B ?_))
    repeat walk_at "w"
    refine gr_ok hd 0 rfl rfl ?_
    repeat walk_at "w"
    refine ⟨true, ⟨_, _, .ty _, .base (.str _), k_ss⟩, ?_⟩
    repeat walk_at "w"
    refine o_inT (v := .str z.word) (T.kt_SAMPLES.sq _) rfl (by decide +kernel) ?_
    rw [show inV (.str z.word) _ = true from ?h]
    exact k _ (.refl _)
    have := ok.word
    simp only [List.mem_cons, List.not_mem_nil, or_false] at this
    rcases this with e | e | e | e <;> rw [e] <;> decide +kernel
  | 1, hx =>
    cases hx
    refine wb_cons (ws_set n2 (we_dget B ?_))
    repeat walk_at "w"
    refine gr_ok hd 1 rfl rfl ?_
    repeat walk_at "w"
    refine ⟨_, _, rfl, hr.sh, zsh, ?_⟩
    rw [decide_eq_true ok.sh0]
    repeat walk_at "w"
    rename_i H1 x1
    refine to_tim (hr.sh.mono x1) fun y H2 x2 hy => ?_
    repeat walk_at "w"
    rw [decide_eq_true (show z.share ≤ ((1 : Int) : Rat) from ok.sh1)]
    exact k _ (by walk_at "x")
  | 2, hx =>
    cases hx
    refine wb_cons (ws_set n2 (we_dget B ?_))
    repeat walk_at "w"
    refine gr_ok hd 2 rfl rfl ?_
    repeat walk_at "w"
    refine gs_ok hd 1 rfl rfl ?_
    repeat walk_at "w"
    refine ⟨z.latest, z.share, sh, rfl, hr.sh, zsh, ok.lat, ?_⟩
    exact k
  | 3, hx =>
    cases hx
    refine wb_cons (ws_set n2 (we_dget B ?_))
    repeat walk_at "w"
    refine gr_ok hd 3 rfl rfl ?_
    repeat walk_at "w"
    refine it_tim T hr.fa ?_
    repeat walk_at "w"
    refine to_tim hr.fa fun y H2 x2 hy => ?_
    repeat walk_at "w"
    rw [decide_eq_true (show ((1 : Int) : Rat) ≤ z.factor from ok.fa)]
    exact k _ (by walk_at "x")
  | 4, hx =>
    cases hx
    refine wb_cons (ws_set n2 (we_dget B ?_))
    repeat walk_at "w"
    refine gr_ok hd 4 rfl rfl ?_
    repeat walk_at "w"
    refine it_tim T hr.ma ?_
    repeat walk_at "w"
    refine to_tim hr.ma fun y H2 x2 hy => ?_
    repeat walk_at "w"
    rw [decide_eq_true (show ((0 : Int) : Rat) ≤ z.margin from ok.ma)]
    exact k _ (by walk_at "x")
  | 5, hx =>
    cases hx
    refine wb_cons (ws_set n2 (we_dget B ?_))
    repeat walk_at "w"
    refine gr_ok hd 5 rfl rfl ?_
    repeat walk_at "w"
    have hfl := hr.fl
    have h0 := ok.fl
    have hz := ok.z4
    generalize z.floor = o at hfl h0 hz
    cases o with
    | none =>
      cases hfl
      rw [decide_eq_true (rfl : V.non = V.non)]
      repeat walk_at "w"
      exact k _ (.refl _)
    | some q =>
      have hfl : Tim X.K q fl H := hfl
      rw [decide_eq_false hfl.nn]
      repeat walk_at "w"
      refine ⟨q, fl, rfl, hfl, up (hz q rfl), ?_⟩
      rw [decide_eq_true (h0 q rfl)]
      exact k
  | 6, hx =>
    cases hx
    refine wb_cons (ws_set n2 (we_dget B ?_))
    repeat walk_at "w"
    refine gr_ok hd 6 rfl rfl ?_
    repeat walk_at "w"
    refine gs_ok hd 5 rfl rfl ?_
    repeat walk_at "w"
    exact ⟨z.roof, z.floor, ro, fl, rfl, hr.ro, hr.fl, fun q e => ⟨up (ok.z5 q e), (ok.ro q e).1, fun g eg => ⟨up (ok.z4 g eg), (ok.ro q e).2 g eg⟩⟩, k⟩
  | 7, hx =>
    cases hx
    refine wb_cons (ws_set n2 (we_dget B ?_))
    repeat walk_at "w"
    refine gr_ok hd 7 rfl rfl ?_
    repeat walk_at "w"
    cases z.doubled with
    | true => exact k _ (.refl _)
    | false =>
      rw [decide_eq_false (show ¬ false = true by decide)]
      repeat walk_at "w"
      exact k _ (.refl _)
  | 8, hx =>
    cases hx
    refine wb_cons (ws_set n2 (we_dget B ?_))
    repeat walk_at "w"
    refine gr_ok hd 8 rfl rfl ?_
    repeat walk_at "w"
    have hk := ok.ke
    cases q : z.kept with
    | false => exact k _ (.refl _)
    | true =>
      rw [decide_eq_false (show ¬ true = false by decide)]
      repeat walk_at "w"
      rw [decide_eq_true (rfl : true = true)]
      repeat walk_at "w"
      refine gs_ok hd 7 rfl rfl ?_
      rw [hk q]
      exact k _ (.refl _)
  | i + 9, hx => cases hx
end
/-! ### checked, Book(..) -/
section
variable {K : PySem.W.Frag} {C p : Addr} {q : Rat} {v : V} {H : Hp} {kvs : List (Key × V)} {u : HO}
theorem TimeV.upD (hp : H p = some (.dK kvs)) (h : TimeV C q v H) : TimeV C q v (upd H p u) := TimeV.up hp (fun _ e => nomatch e) h
theorem Tim.upD (hp : H p = some (.dK kvs)) (h : Tim K q v H) : Tim K q v (upd H p u) := h.elim (fun h => .inl (TimeV.upD hp h)) .inr
theorem OTim.upD {o : Option Rat} (hp : H p = some (.dK kvs)) (h : OTim K o v H) : OTim K o v (upd H p u) := by
  cases o with
  | none => exact h
  | some q => exact Tim.upD hp h
theorem OptT.upD {o : Option Rat} (hp : H p = some (.dK kvs)) (h : OptT K o v H) : OptT K o v (upd H p u) := by
  cases o with
  | none => exact h
  | some q => exact TimeV.upD hp h
theorem Raw.upD {z : Bk} {sh fa ma fl ro : V} (hp : H p = some (.dK kvs)) (h : Raw K z sh fa ma fl ro H) : Raw K z sh fa ma fl ro (upd H p u) := ⟨h.sh.upD hp, h.fa.upD hp, h.ma.upD hp, h.fl.upD hp, h.ro.upD hp⟩
end
/-- the nine values as a book keeps them -/
structure Kept (K : PySem.W.Frag) (z : Bk) (sh fa ma fl ro : V) (H : Hp) : Prop where
  sh : TimeV (CT K) z.share sh H
  fa : TimeV (CT K) z.factor fa H
  ma : TimeV (CT K) z.margin ma H
  fl : OptT K z.floor fl H
  ro : OptT K z.roof ro H
theorem Kept.mono {K : PySem.W.Frag} {z : Bk} {sh fa ma fl ro : V} {H H' : Hp} (x : Ex H H') (h : Kept K z sh fa ma fl ro H) : Kept K z sh fa ma fl ro H' := ⟨TimeV.mono x h.sh, TimeV.mono x h.fa, TimeV.mono x h.ma, h.fl.mono x, h.ro.mono x⟩
theorem Kept.raw {K : PySem.W.Frag} {z : Bk} {sh fa ma fl ro : V} {H : Hp} (h : Kept K z sh fa ma fl ro H) : Raw K z sh fa ma fl ro H := ⟨.inl h.sh, .inl h.fa, .inl h.ma, h.fl.oTim, h.ro.oTim⟩
/-- found[name i] = v -/
theorem put9 {z : Bk} {sh fa ma fl ro v : V} {x : Str} (i : Nat) (hx : pn[i]? = some x) : putK (pk.zip (row9 z sh fa ma fl ro)) (.inr x) v = pk.zip ((row9 z sh fa ma fl ro).set i v) := putK_zip pk_nd rfl (pk_at hx)
section
variable {P : Program} {w : World} {K : PySem.W.Frag} {mg : Str → Option Value} {base : Heap}
def spCheckedB (K : PySem.W.Frag) : Sp := fun vs H Q _ => ∃ z d sh fa ma fl ro, vs = [.ref d] ∧ H d = some (dk9 z sh fa ma fl ro) ∧ Raw K z sh fa ma fl ro H ∧ BkOk z ∧
  ∀ d' H' sh fa ma fl ro, Ex H H' → H d' = none → H' d' = some (dk9 z sh fa ma fl ro) → Kept K z sh fa ma fl ro H' → Q (.ref d') H'
theorem f_checked (T : Tm K mg) : GFn P w K mg base 9 "checked" (spCheckedB K) := by
  obtain ⟨fd, F⟩ := T.d_checked
  refine GFn.mk F T.g_checked (def_ok F sc_checked (fun vs H Q E h => by obtain ⟨z, d, sh, fa, ma, fl, ro, rfl, _⟩ := h; rfl) ?_) (F.bindsN fun _ _ _ _ _ _ us hl => match us, hl with | [_], _ => rfl)
  intro X eP ew eK em eb eN es hf nd H vs Q E B h
  subst eP ew eK em eb
  have n0 : Sl X 0 "rules" := slot_of eN es hf nd rfl (by first | exact Or.inl rfl | exact Or.inr rfl) (by decide) (by decide)
  have n1 : Sl X 1 "part" := slot_of eN es hf nd rfl (by first | exact Or.inl rfl | exact Or.inr rfl) (by decide) (by decide)
  have n2 : Sl X 2 "found" := slot_of eN es hf nd rfl (by first | exact Or.inl rfl | exact Or.inr rfl) (by decide) (by decide)
  have g_PARTS : Gn X "PARTS" := gn_of es rfl (by decide)
  have m_PARTS := T.g_PARTS
  have g_is_allowed : Gn X "is_allowed" := gn_of es rfl (by decide)
  have F_is_allowed := f_is_allowed (P := X.prog) (w := X.w) (base := X.base) T
  have g_BadBook : Gn X "BadBook" := gn_of es rfl (by decide)
  have m_BadBook := T.g_BadBook
  have z_dict : Bn X "dict" := bn_of es rfl T.z_dict
  have g_time_of : Gn X "time_of" := gn_of es rfl (by decide)
  have F_time_of := f_time_of (P := X.prog) (w := X.w) (base := X.base) T
  obtain ⟨z, d, sh, fa, ma, fl, ro, rfl, hd, hr, ok, k⟩ := h
  show WB X [_, _, _, _, _] _ [some (.ref d), none, none] H
  refine wb_cons (ws_to (fun σ' H' => (∃ a, σ' = [some (.ref d), a, none]) ∧ Ex H H') ?_ ?_)
  · refine ws_for_tupE B n1 ?_
    repeat walk_at "w"
    refine ⟨_, _, rfl, fun _ σ' H' => (∃ a, σ' = [some (.ref d), a, none]) ∧ Ex H H', ⟨⟨_, rfl⟩, .refl _⟩, fun j σ' H' _ _ => T.kt_PARTS.sq H', ?_, fun _ _ h => h⟩
    rintro j y σ' H' hy ⟨⟨a, rfl⟩, x1⟩
    obtain ⟨x, hx, rfl⟩ : ∃ x, pn[j]? = some x ∧ y = .str x := by
      have e : (pn.map V.str)[j]? = some y := hy
      rw [List.getElem?_map] at e
      cases q : pn[j]? with
      | none => rw [q] at e; cases e
      | some x => rw [q] at e; cases e; exact ⟨x, rfl, rfl⟩
    repeat walk_at "w"
    refine ⟨z, d, sh, fa, ma, fl, ro, x, j, rfl, x1.keep _ _ hd not_src_dk, hr.mono x1, ok, hx, fun H2 x2 => ?_⟩
    repeat walk_at "w"
    exact ⟨⟨_, rfl⟩, x1.trans x2⟩
  rintro σ' H1 ⟨⟨a, rfl⟩, x1⟩
  refine wb_cons (ws_set n2 (we_dictC z_dict ?_))
  repeat walk_at "w"
  refine ⟨d, _, rfl, x1.keep _ _ hd not_src_dk, fun d' nd' => ?_⟩
  have hd1 := x1.keep _ _ hd not_src_dk
  have hr1 := hr.mono x1
  have x2 : Ex H (upd H1 d' (dk9 z sh fa ma fl ro)) := x1.trans (Ex.new nd')
  have nd0 := x1.back nd'
  have ne : d ≠ d' := fun e => by subst e; rw [nd'] at hd1; cases hd1
  have p2 : upd H1 d' (dk9 z sh fa ma fl ro) d' = some (dk9 z sh fa ma fl ro) := upd_same
  have hr2 : Raw X.K z sh fa ma fl ro (upd H1 d' (dk9 z sh fa ma fl ro)) := hr1.mono (Ex.new nd')
  show WB X _ _ [some (.ref d), a, some (.ref d')] (upd H1 d' (dk9 z sh fa ma fl ro))
  generalize upd H1 d' (dk9 z sh fa ma fl ro) = H2 at x2 p2 hr2 ⊢
  clear hd1 hr1 nd' x1
  have hd0 : ∀ {G : Hp}, Ex H G → G d = some (dk9 z sh fa ma fl ro) := fun x => x.keep _ _ hd not_src_dk
  -- share, factor, margin
  refine wb_cons (ws_to (fun σ' H' => ∃ b sh2 fa2 ma2, σ' = [some (.ref d), b, some (.ref d')] ∧ Ex H H' ∧ H' d' = some (dk9 z sh2 fa2 ma2 fl ro) ∧ TimeV (CT X.K) z.share sh2 H' ∧ TimeV (CT X.K) z.factor fa2 H' ∧ TimeV (CT X.K) z.margin ma2 H') ?_ ?_)
  · refine ws_for_tupE B n1 ?_
    refine we_tup ?_
    repeat walk_at "w"
    refine tup_i len3 fun t H3 x3 ht => ?_
    have p3 := x3.keep _ _ p2 not_src_dk
    refine ⟨t, [.str "share", .str "factor", .str "margin"], rfl, fun j σ' H' => ∃ b sh2 fa2 ma2, σ' = [some (.ref d), b, some (.ref d')] ∧ Ex H H' ∧ H' t = some (.tup [.str "share", .str "factor", .str "margin"]) ∧ H' d' = some (dk9 z sh2 fa2 ma2 fl ro) ∧ (1 ≤ j → TimeV (CT X.K) z.share sh2 H') ∧ (2 ≤ j → TimeV (CT X.K) z.factor fa2 H') ∧ (3 ≤ j → TimeV (CT X.K) z.margin ma2 H'),
      ⟨_, _, _, _, rfl, x2.trans x3, ht, p3, fun h => absurd h (by decide), fun h => absurd h (by decide), fun h => absurd h (by decide)⟩, fun j σ' H' _ h => ?_, ?_, ?_⟩
    · obtain ⟨b, sh2, fa2, ma2, _, _, ht, _⟩ := h
      exact .of ht
    · rintro j y σ' H4 hy ⟨b, sh2, fa2, ma2, rfl, x4, ht4, p4, c1, c2, c3⟩
      have hr4 := hr.mono x4
      have nt : ∀ {u : HO} {H5 : Hp}, Ex H4 H5 → upd H5 d' u t = some (.tup [.str "share", .str "factor", .str "margin"]) := fun {u H5} x => (upd_ne (fun e => by subst e; rw [ht4] at p4; cases p4)).trans (x.tup ht4)
      match j, hy with
      | 0, hy =>
        cases hy
        refine wb_one (ws_dput B ?_)
        repeat walk_at "w"
        refine we_dget B ?_
        repeat walk_at "w"
        refine gr_ok (hd0 x4) 1 rfl rfl ?_
        refine to_tim hr4.sh fun v H5 x5 hv => ?_
        repeat walk_at "w"
        have p5 := x5.keep _ _ p4 not_src_dk
        refine ⟨d', _, "share", rfl, rfl, p5, (show 9 < sizeLine by decide), ?_⟩
        rw [put9 1 rfl]
        exact ⟨_, v, fa2, ma2, rfl, (x4.trans x5).put nd0, nt x5, upd_same, fun _ => TimeV.upD p5 hv, fun h => absurd h (by decide), fun h => absurd h (by decide)⟩
      | 1, hy =>
        cases hy
        refine wb_one (ws_dput B ?_)
        repeat walk_at "w"
        refine we_dget B ?_
        repeat walk_at "w"
        refine gr_ok (hd0 x4) 3 rfl rfl ?_
        refine to_tim hr4.fa fun v H5 x5 hv => ?_
        repeat walk_at "w"
        have p5 := x5.keep _ _ p4 not_src_dk
        refine ⟨d', _, "factor", rfl, rfl, p5, (show 9 < sizeLine by decide), ?_⟩
        rw [put9 3 rfl]
        exact ⟨_, sh2, v, ma2, rfl, (x4.trans x5).put nd0, nt x5, upd_same, fun _ => TimeV.upD p5 (TimeV.mono x5 (c1 (by decide))), fun _ => TimeV.upD p5 hv, fun h => absurd h (by decide)⟩
      | 2, hy =>
        cases hy
        refine wb_one (ws_dput B ?_)
        repeat walk_at "w"
        refine we_dget B ?_
        repeat walk_at "w"
        refine gr_ok (hd0 x4) 4 rfl rfl ?_
        refine to_tim hr4.ma fun v H5 x5 hv => ?_
        repeat walk_at "w"
        have p5 := x5.keep _ _ p4 not_src_dk
        refine ⟨d', _, "margin", rfl, rfl, p5, (show 9 < sizeLine by decide), ?_⟩
        rw [put9 4 rfl]
        exact ⟨_, sh2, fa2, v, rfl, (x4.trans x5).put nd0, nt x5, upd_same, fun _ => TimeV.upD p5 (TimeV.mono x5 (c1 (by decide))), fun _ => TimeV.upD p5 (TimeV.mono x5 (c2 (by decide))), fun _ => TimeV.upD p5 hv⟩
      | j + 3, hy => cases hy
    · rintro σ' H4 ⟨b, sh2, fa2, ma2, rfl, x4, _, p4, c1, c2, c3⟩
      exact ⟨b, sh2, fa2, ma2, rfl, x4, p4, c1 (by decide), c2 (by decide), c3 (by decide)⟩
  rintro σ' H3 ⟨b, sh2, fa2, ma2, rfl, x3, p3, h1, h2, h3⟩
  clear p2 hr2 x2
  -- floor, roof
  refine wb_cons (ws_to (fun σ' H' => ∃ b fl2 ro2, σ' = [some (.ref d), b, some (.ref d')] ∧ Ex H H' ∧ H' d' = some (dk9 z sh2 fa2 ma2 fl2 ro2) ∧ Kept X.K z sh2 fa2 ma2 fl2 ro2 H') ?_ ?_)
  · refine ws_for_tupE B n1 ?_
    refine we_tup ?_
    repeat walk_at "w"
    refine tup_i len2 fun t H4 x4 ht => ?_
    have p4 := x4.keep _ _ p3 not_src_dk
    have hr4 := hr.mono (x3.trans x4)
    refine ⟨t, [.str "floor", .str "roof"], rfl, fun j σ' H' => ∃ b fl2 ro2, σ' = [some (.ref d), b, some (.ref d')] ∧ Ex H H' ∧ H' t = some (.tup [.str "floor", .str "roof"]) ∧ H' d' = some (dk9 z sh2 fa2 ma2 fl2 ro2) ∧ TimeV (CT X.K) z.share sh2 H' ∧ TimeV (CT X.K) z.factor fa2 H' ∧ TimeV (CT X.K) z.margin ma2 H' ∧ (if 1 ≤ j then OptT X.K z.floor fl2 H' else fl2 = fl) ∧ (if 2 ≤ j then OptT X.K z.roof ro2 H' else ro2 = ro),
      ⟨_, fl, ro, rfl, x3.trans x4, ht, p4, TimeV.mono x4 h1, TimeV.mono x4 h2, TimeV.mono x4 h3, rfl, rfl⟩, fun j σ' H' _ h => ?_, ?_, ?_⟩
    · obtain ⟨b, fl2, ro2, _, _, ht, _⟩ := h
      exact .of ht
    · rintro j y σ' H5 hy ⟨b, fl2, ro2, rfl, x5, ht5, p5, g1, g2, g3, c1, c2⟩
      have hr5 := hr.mono x5
      have nt : ∀ {u : HO} {H6 : Hp}, Ex H5 H6 → upd H6 d' u t = some (.tup [.str "floor", .str "roof"]) := fun {u H6} x => (upd_ne (fun e => by subst e; rw [ht5] at p5; cases p5)).trans (x.tup ht5)
      match j, hy with
      | 0, hy =>
        cases hy
        have c1 : fl2 = fl := c1
        subst c1
        have hf := hr5.fl
        repeat walk_at "w"
        refine we_dget B ?_
        repeat walk_at "w"
        refine gr_ok (hd0 x5) 5 rfl rfl ?_
        repeat walk_at "w"
        cases eo : z.floor with
        | none =>
          rw [eo] at hf
          cases hf
          rw [decide_eq_true (rfl : V.non = V.non)]
          repeat walk_at "w"
          exact ⟨_, _, _, rfl, x5, ht5, p5, g1, g2, g3, rfl, c2⟩
        | some q =>
          rw [eo] at hf
          have hf : Tim X.K q fl2 H5 := hf
          rw [decide_eq_false hf.nn]
          repeat walk_at "w"
          refine ws_dput B ?_
          repeat walk_at "w"
          refine we_dget B ?_
          repeat walk_at "w"
          refine gr_ok (hd0 x5) 5 rfl rfl ?_
          refine to_tim hf fun v H6 x6 hv => ?_
          repeat walk_at "w"
          have p6 := x6.keep _ _ p5 not_src_dk
          refine ⟨d', _, "floor", rfl, rfl, p6, (show 9 < sizeLine by decide), ?_⟩
          rw [put9 5 rfl]
          exact ⟨_, v, _, rfl, (x5.trans x6).put nd0, nt x6, upd_same, TimeV.upD p6 (TimeV.mono x6 g1), TimeV.upD p6 (TimeV.mono x6 g2), TimeV.upD p6 (TimeV.mono x6 g3), TimeV.upD p6 hv, c2⟩
      | 1, hy =>
        cases hy
        have c2 : ro2 = ro := c2
        subst c2
        have c1 : OptT X.K z.floor fl2 H5 := c1
        have hf := hr5.ro
        repeat walk_at "w"
        refine we_dget B ?_
        repeat walk_at "w"
        refine gr_ok (hd0 x5) 6 rfl rfl ?_
        repeat walk_at "w"
        cases eo : z.roof with
        | none =>
          rw [eo] at hf
          cases hf
          rw [decide_eq_true (rfl : V.non = V.non)]
          repeat walk_at "w"
          exact ⟨_, _, _, rfl, x5, ht5, p5, g1, g2, g3, c1, rfl⟩
        | some q =>
          rw [eo] at hf
          have hf : Tim X.K q ro2 H5 := hf
          rw [decide_eq_false hf.nn]
          repeat walk_at "w"
          refine ws_dput B ?_
          repeat walk_at "w"
          refine we_dget B ?_
          repeat walk_at "w"
          refine gr_ok (hd0 x5) 6 rfl rfl ?_
          refine to_tim hf fun v H6 x6 hv => ?_
          repeat walk_at "w"
          have p6 := x6.keep _ _ p5 not_src_dk
          refine ⟨d', _, "roof", rfl, rfl, p6, (show 9 < sizeLine by decide), ?_⟩
          rw [put9 6 rfl]
          exact ⟨_, _, v, rfl, (x5.trans x6).put nd0, nt x6, upd_same, TimeV.upD p6 (TimeV.mono x6 g1), TimeV.upD p6 (TimeV.mono x6 g2), TimeV.upD p6 (TimeV.mono x6 g3), OptT.upD p6 (c1.mono x6), TimeV.upD p6 hv⟩
      | j + 2, hy => cases hy
    · rintro σ' H5 ⟨b, fl2, ro2, rfl, x5, _, p5, g1, g2, g3, c1, c2⟩
      exact ⟨b, fl2, ro2, rfl, x5, p5, g1, g2, g3, c1, c2⟩
  rintro σ' H4 ⟨b, fl2, ro2, rfl, x4, p4, hk⟩
  repeat walk_at "w"
  exact k _ _ _ _ _ _ _ x4 nd0 p4 hk
end

/-! ### parts of books of any kind: allowed or not -/
/-- a value that is no time and no int -/
def FgS (v : V) (H : Hp) : Prop := v = .non ∨ (∃ b, v = .bl b) ∨ (∃ x, v = .str x) ∨ ∃ p, v = .ref p ∧ H p = some (.tup [])
theorem FgS.fgn {v : V} {H : Hp} (h : FgS v H) : Fgn H v := by
  rcases h with rfl | ⟨b, rfl⟩ | ⟨x, rfl⟩ | ⟨p, rfl, h⟩
  · exact .non
  · exact .bl b
  · exact .str x
  · exact .tup h
theorem FgS.mono {v : V} {H H' : Hp} (x : Ex H H') (h : FgS v H) : FgS v H' := by
  rcases h with h | h | h | ⟨p, e, h⟩
  · exact .inl h
  · exact .inr (.inl h)
  · exact .inr (.inr (.inl h))
  · exact .inr (.inr (.inr ⟨p, e, x.tup h⟩))
/-- no text -/
def NoS (v : V) (H : Hp) : Prop := v = .non ∨ (∃ i, v = .int i) ∨ ∃ p x, v = .ref p ∧ H p = some (.lst [.str x])
theorem one_strs {x : Str} : ¬ Src (.lst [.str x]) := fun ⟨_, _, _, _, e, _⟩ => by
  injection e with e
  injection e with e _
  cases e
theorem NoS.mono {v : V} {H H' : Hp} (x : Ex H H') (h : NoS v H) : NoS v H' := by
  rcases h with h | h | ⟨p, y, e, h⟩
  · exact .inl h
  · exact .inr (.inl h)
  · exact .inr (.inr ⟨p, y, e, x.keep _ _ h one_strs⟩)
theorem NoS.kind {K : PySem.W.Frag} {v : V} {H : Hp} (h : NoS v H) : ∃ t, TyX K H v t ∧ PySem.W.kitOne K t (.type "str") = some false := by
  rcases h with rfl | ⟨i, rfl⟩ | ⟨p, x, rfl, h⟩
  · exact ⟨_, .base .non, kit_ty (by decide +kernel)⟩
  · exact ⟨_, .base (.int i), k_is_⟩
  · exact ⟨_, .base (.lst h), kit_ty (by decide +kernel)⟩
/-- no bool -/
def NoB (v : V) : Prop := v = .non ∨ (∃ i, v = .int i) ∨ (∃ x, v = .str x) ∨ ∃ p, v = .ref p
theorem o_isX {X : Cx} {H : Hp} {Q : VK} {v : V} {b : Bool} (h : NoB v) (q : Q (.bl false) H) : Op2 X (compareOp .Is) v (.bl b) H Q := by
  intro pins s σ u w I ru rw
  cases (show w = Value.bool b from rw)
  rcases h with rfl | ⟨i, rfl⟩ | ⟨x, rfl⟩ | ⟨p, rfl⟩
  · cases ru
    exact wpAny_is_other rfl (fun z => nomatch z) ⟨.bl false, H, I, rfl, q⟩
  · obtain ⟨t, rfl⟩ := ru
    exact wpAny_is_other rfl (fun z => nomatch z) ⟨.bl false, H, I, rfl, q⟩
  · obtain ⟨t, rfl⟩ := ru
    exact wpAny_is_other rfl (fun z => nomatch z) ⟨.bl false, H, I, rfl, q⟩
  · cases ru
    exact wpAny_is_other rfl (fun z => nomatch z) ⟨.bl false, H, I, rfl, q⟩
def W4' : List Str := ["first", "last", "marked", "clean"]
def leO (o : Option Rat) (q : Rat) : Bool := match o with
  | none => true
  | some f => decide (f ≤ q)
/-- what is_allowed says of part i -/
def Al (K : PySem.W.Frag) (vs : List V) (H : Hp) : Nat → Bool → Prop
  | 0, r => (∃ x, vs.getD 0 .non = .str x ∧ r = inV (.str x) (W4'.map V.str)) ∨ (r = false ∧ NoS (vs.getD 0 .non) H)
  | 1, r => (∃ q, Tim K q (vs.getD 1 .non) H ∧ Sz q 4000 ∧ r = (decide (0 < q) && decide (q ≤ 1))) ∨ (r = false ∧ FgS (vs.getD 1 .non) H)
  | 2, r => (vs.getD 2 .non = .non ∧ r = true) ∨ (∃ (i : Int) (q : Rat), vs.getD 2 .non = .int i ∧ Tim K q (vs.getD 1 .non) H ∧ Sz q 4000 ∧ r = (decide (1 ≤ i) && decide (i ≤ 20) && decide (q = 1))) ∨ (r = false ∧ ((∃ b, vs.getD 2 .non = .bl b) ∨ ∃ x, vs.getD 2 .non = .str x))
  | 3, r => (∃ q, Tim K q (vs.getD 3 .non) H ∧ Sz q 4000 ∧ r = decide (1 ≤ q)) ∨ (r = false ∧ FgS (vs.getD 3 .non) H)
  | 4, r => (∃ q, Tim K q (vs.getD 4 .non) H ∧ Sz q 4000 ∧ r = decide (0 ≤ q)) ∨ (r = false ∧ FgS (vs.getD 4 .non) H)
  | 5, r => (vs.getD 5 .non = .non ∧ r = true) ∨ (∃ q, Tim K q (vs.getD 5 .non) H ∧ Sz q 4000 ∧ r = decide (0 < q)) ∨ (r = false ∧ FgS (vs.getD 5 .non) H ∧ vs.getD 5 .non ≠ .non)
  | 6, r => (vs.getD 6 .non = .non ∧ r = true) ∨ (∃ q o, Tim K q (vs.getD 6 .non) H ∧ Sz q 4000 ∧ OTim K o (vs.getD 5 .non) H ∧ (∀ f, o = some f → Sz f 4000) ∧ r = (decide (0 < q) && leO o q)) ∨ (r = false ∧ FgS (vs.getD 6 .non) H ∧ vs.getD 6 .non ≠ .non)
  | 7, r => (∃ b, vs.getD 7 .non = .bl b ∧ r = true) ∨ (r = false ∧ NoB (vs.getD 7 .non))
  | 8, r => (∃ b c, vs.getD 8 .non = .bl b ∧ vs.getD 7 .non = .bl c ∧ r = (!b || c)) ∨ (r = false ∧ NoB (vs.getD 8 .non))
  | _, _ => False
theorem Al.mono {K : PySem.W.Frag} {vs : List V} {H H' : Hp} (x : Ex H H') : ∀ {i : Nat} {r : Bool}, Al K vs H i r → Al K vs H' i r
  | 0, _, h => h.imp id fun h => ⟨h.1, h.2.mono x⟩
  | 1, _, h => h.imp (fun ⟨q, a, b⟩ => ⟨q, a.mono x, b⟩) fun h => ⟨h.1, h.2.mono x⟩
  | 2, _, h => h.imp id fun h => h.imp (fun ⟨i, q, a, b, c⟩ => ⟨i, q, a, b.mono x, c⟩) id
  | 3, _, h => h.imp (fun ⟨q, a, b⟩ => ⟨q, a.mono x, b⟩) fun h => ⟨h.1, h.2.mono x⟩
  | 4, _, h => h.imp (fun ⟨q, a, b⟩ => ⟨q, a.mono x, b⟩) fun h => ⟨h.1, h.2.mono x⟩
  | 5, _, h => h.imp id fun h => h.imp (fun ⟨q, a, b⟩ => ⟨q, a.mono x, b⟩) fun h => ⟨h.1, h.2.1.mono x, h.2.2⟩
  | 6, _, h => h.imp id fun h => h.imp (fun ⟨q, o, a, b, c, d⟩ => ⟨q, o, a.mono x, b, c.mono x, d⟩) fun h => ⟨h.1, h.2.1.mono x, h.2.2⟩
  | 7, _, h => h
  | 8, _, h => h
  | _ + 9, _, h => h
theorem valR {vs : List V} {x : Str} {i : Nat} (l : vs.length = 9) (hx : pn[i]? = some x) : valV (pk.zip vs) (.inr x) = some (vs.getD i .non) := by
  have hi : i < 9 := (List.getElem?_eq_some_iff.mp hx).1
  refine valV_zip pk_nd (pk_at hx) ?_
  rw [List.getD_eq_getElem?_getD, List.getElem?_eq_getElem (by omega)]
  rfl
theorem gR_ok {H : Hp} {Q : V → Prop} {d : Addr} {vs : List V} {x : Str} (l : vs.length = 9) (hd : H d = some (.dK (pk.zip vs))) (i : Nat) (hx : pn[i]? = some x) (q : Q (vs.getD i .non)) :
    ∃ a kvs x' v', V.ref d = .ref a ∧ V.str x = .str x' ∧ H a = some (.dK kvs) ∧ valV kvs (.inr x') = some v' ∧ Q v' := ⟨d, _, x, _, rfl, rfl, hd, valR l hx, q⟩
theorem gRs_ok {H : Hp} {Q : V → Prop} {d : Addr} {vs : List V} {x : Str} (l : vs.length = 9) (hd : H d = some (.dK (pk.zip vs))) (i : Nat) (hx : pn[i]? = some x) (q : Q (vs.getD i .non)) :
    ∃ a kvs v', V.ref d = .ref a ∧ H a = some (.dK kvs) ∧ valV kvs (.inr x) = some v' ∧ Q v' := ⟨d, _, _, rfl, hd, valR l hx, q⟩
section
variable {P : Program} {w : World} {K : PySem.W.Frag} {mg : Str → Option Value} {base : Heap}
def spIsPosF (K : PySem.W.Frag) : Sp := fun vs H Q _ => ∃ v, vs = [v] ∧ ((∃ q, Tim K q v H ∧ Sz q 4000 ∧ Bl H (decide (0 < q)) Q) ∨ (FgS v H ∧ Bl H false Q))
theorem f_is_positiveF (T : Tm K mg) : GFn P w K mg base 6 "is_positive" (spIsPosF K) := by
  obtain ⟨fd, F⟩ := T.d_is_positive
  refine GFn.mk F T.g_is_positive (def_ok F sc_is_positive (fun vs H Q E h => by obtain ⟨v, rfl, _⟩ := h; rfl) ?_) (F.bindsN fun _ _ _ _ _ _ us hl => match us, hl with | [_], _ => rfl)
  intro X eP ew eK em eb eN es hf nd H vs Q E B h
  subst eP ew eK em eb
  have n0 : Sl X 0 "thing" := slot_of eN es hf nd rfl (by first | exact Or.inl rfl | exact Or.inr rfl) (by decide) (by decide)
  have g_is_time : Gn X "is_time" := gn_of es rfl (by decide)
  have F_is_time := f_is_time (P := X.prog) (w := X.w) (base := X.base) T
  have g_time_of : Gn X "time_of" := gn_of es rfl (by decide)
  have F_time_of := f_time_of (P := X.prog) (w := X.w) (base := X.base) T
  obtain ⟨v, rfl, h⟩ := h
  show WB X [_] _ [some (v)] H
  have z0 := z0s
  rcases h with ⟨q, hv, hq, z⟩ | ⟨hg, z⟩
  · repeat walk_at "w"
    refine it_tim T hv ?_
    repeat walk_at "w"
    refine to_tim hv fun y H1 x1 hy => ?_
    repeat walk_at "w"
    exact z _ (by walk_at "x")
  · repeat walk_at "w"
    refine it_no T hg.fgn ?_
    repeat walk_at "w"
    exact z _ (.refl _)
def spLatestF (K : PySem.W.Frag) : Sp := fun vs H Q _ => ∃ v u, vs = [v, u] ∧ ((v = .non ∧ Bl H true Q) ∨ (∃ (i : Int) (q : Rat), v = .int i ∧ Tim K q u H ∧ Sz q 4000 ∧ Bl H (decide (1 ≤ i) && decide (i ≤ 20) && decide (q = 1)) Q) ∨ (((∃ b, v = .bl b) ∨ ∃ x, v = .str x) ∧ Bl H false Q))
theorem f_is_latestF (T : Tm K mg) : GFn P w K mg base 6 "is_latest" (spLatestF K) := by
  obtain ⟨fd, F⟩ := T.d_is_latest
  refine GFn.mk F T.g_is_latest (def_ok F sc_is_latest (fun vs H Q E h => by obtain ⟨v, u, rfl, _⟩ := h; rfl) ?_) (F.bindsN fun _ _ _ _ _ _ us hl => match us, hl with | [_, _], _ => rfl)
  intro X eP ew eK em eb eN es hf nd H vs Q E B h
  subst eP ew eK em eb
  have n0 : Sl X 0 "thing" := slot_of eN es hf nd rfl (by first | exact Or.inl rfl | exact Or.inr rfl) (by decide) (by decide)
  have n1 : Sl X 1 "share" := slot_of eN es hf nd rfl (by first | exact Or.inl rfl | exact Or.inr rfl) (by decide) (by decide)
  have z_isinstance : Bn X "isinstance" := bn_of es rfl T.z_isinstance
  have z_int : Bn X "int" := bn_of es rfl T.z_int
  have z_bool : Bn X "bool" := bn_of es rfl T.z_bool
  have g_MOST_LATEST : Gn X "MOST_LATEST" := gn_of es rfl (by decide)
  obtain ⟨t_MOST_LATEST, m_MOST_LATEST⟩ := T.i_MOST_LATEST
  have g_time_of : Gn X "time_of" := gn_of es rfl (by decide)
  have F_time_of := f_time_of (P := X.prog) (w := X.w) (base := X.base) T
  obtain ⟨v, u, rfl, h⟩ := h
  show WB X [_, _, _] _ [some (v), some (u)] H
  have z1 := z1s
  rcases h with ⟨rfl, z⟩ | ⟨i, q, rfl, hv, hq, z⟩ | ⟨⟨b, rfl⟩ | ⟨x, rfl⟩, z⟩
  · repeat walk_at "w"
    rw [decide_eq_true (rfl : V.non = V.non)]
    repeat walk_at "w"
    exact z _ (.refl _)
  · repeat walk_at "w"
    rw [decide_eq_false (show ¬ V.int i = V.non from fun e => nomatch e)]
    repeat walk_at "w"
    refine ⟨true, ⟨_, _, .ty _, .base (.int i), k_ii⟩, ?_⟩
    repeat walk_at "w"
    refine ⟨false, ⟨_, _, .ty _, .base (.int i), k_ib⟩, ?_⟩
    repeat walk_at "w"
    by_cases h1 : (1 : Int) ≤ i
    · rw [decide_eq_true h1] at z ⊢
      repeat walk_at "w"
      by_cases h2 : i ≤ 20
      · rw [decide_eq_true h2] at z ⊢
        repeat walk_at "w"
        refine to_tim hv fun y H1 x1 hy => ?_
        repeat walk_at "w"
        exact z _ (by walk_at "x")
      · rw [decide_eq_false h2] at z ⊢
        repeat walk_at "w"
        exact z _ (.refl _)
    · rw [decide_eq_false h1] at z ⊢
      repeat walk_at "w"
      exact z _ (.refl _)
  · repeat walk_at "w"
    rw [decide_eq_false (show ¬ V.bl b = V.non from fun e => nomatch e)]
    repeat walk_at "w"
    refine ⟨true, ⟨_, _, .ty _, .base (.bl b), k_bi⟩, ?_⟩
    repeat walk_at "w"
    refine ⟨true, ⟨_, _, .ty _, .base (.bl b), k_bb⟩, ?_⟩
    repeat walk_at "w"
    exact z _ (.refl _)
  · repeat walk_at "w"
    rw [decide_eq_false (show ¬ V.str x = V.non from fun e => nomatch e)]
    repeat walk_at "w"
    refine ⟨false, ⟨_, _, .ty _, .base (.str x), k_si⟩, ?_⟩
    repeat walk_at "w"
    exact z _ (.refl _)
def spRoofF (K : PySem.W.Frag) : Sp := fun vs H Q _ => ∃ v u, vs = [v, u] ∧ ((v = .non ∧ Bl H true Q) ∨ (∃ q o, Tim K q v H ∧ Sz q 4000 ∧ OTim K o u H ∧ (∀ f, o = some f → Sz f 4000) ∧ Bl H (decide (0 < q) && leO o q) Q) ∨ (FgS v H ∧ v ≠ .non ∧ Bl H false Q))
theorem f_is_roofF (T : Tm K mg) : GFn P w K mg base 7 "is_roof" (spRoofF K) := by
  obtain ⟨fd, F⟩ := T.d_is_roof
  refine GFn.mk F T.g_is_roof (def_ok F sc_is_roof (fun vs H Q E h => by obtain ⟨v, u, rfl, _⟩ := h; rfl) ?_) (F.bindsN fun _ _ _ _ _ _ us hl => match us, hl with | [_, _], _ => rfl)
  intro X eP ew eK em eb eN es hf nd H vs Q E B h
  subst eP ew eK em eb
  have n0 : Sl X 0 "thing" := slot_of eN es hf nd rfl (by first | exact Or.inl rfl | exact Or.inr rfl) (by decide) (by decide)
  have n1 : Sl X 1 "floor" := slot_of eN es hf nd rfl (by first | exact Or.inl rfl | exact Or.inr rfl) (by decide) (by decide)
  have g_is_positive : Gn X "is_positive" := gn_of es rfl (by decide)
  have F_is_positive := f_is_positive (P := X.prog) (w := X.w) (base := X.base) T
  have g_time_of : Gn X "time_of" := gn_of es rfl (by decide)
  have F_time_of := f_time_of (P := X.prog) (w := X.w) (base := X.base) T
  clear F_is_positive
  have FP := f_is_positiveF (P := X.prog) (w := X.w) (base := X.base) T
  obtain ⟨v, u, rfl, h⟩ := h
  show WB X [_, _] _ [some (v), some (u)] H
  rcases h with ⟨rfl, z⟩ | ⟨q, o, hv, hq, hu, ho, z⟩ | ⟨hg, nn, z⟩
  · repeat walk_at "w"
    rw [decide_eq_true (rfl : V.non = V.non)]
    repeat walk_at "w"
    exact z _ (.refl _)
  · repeat walk_at "w"
    rw [decide_eq_false hv.nn]
    repeat walk_at "w"
    refine ⟨v, rfl, .inl ⟨q, hv, hq, fun H1 x1 => ?_⟩⟩
    by_cases h0 : 0 < q
    · rw [decide_eq_true h0] at z ⊢
      repeat walk_at "w"
      cases o with
      | none =>
        cases hu
        rw [decide_eq_true (rfl : V.non = V.non)]
        repeat walk_at "w"
        exact z _ x1
      | some f =>
        have hu : Tim X.K f u H := hu
        have zf := ho f rfl
        have hu1 := hu.mono x1
        rw [decide_eq_false hu.nn]
        repeat walk_at "w"
        refine to_tim (hv.mono x1) fun y H2 x2 hy => ?_
        repeat walk_at "w"
        exact z _ (by walk_at "x")
    · rw [decide_eq_false h0] at z ⊢
      repeat walk_at "w"
      exact z _ x1
  · repeat walk_at "w"
    rw [decide_eq_false nn]
    repeat walk_at "w"
    refine ⟨v, rfl, .inr ⟨hg, fun H1 x1 => ?_⟩⟩
    repeat walk_at "w"
    exact z _ x1
end

/-! ### is_allowed, checked, Book(..): parts of any kind -/
section
variable {P : Program} {w : World} {K : PySem.W.Frag} {mg : Str → Option Value} {base : Heap}
def spAllowedF (K : PySem.W.Frag) : Sp := fun vs H Q _ => ∃ d us x r, ∃ i : Nat, vs = [.str x, .ref d] ∧ us.length = 9 ∧ H d = some (.dK (pk.zip us)) ∧ Al K us H i r ∧ pn[i]? = some x ∧ Bl H r Q
theorem f_is_allowedF (T : Tm K mg) : GFn P w K mg base 8 "is_allowed" (spAllowedF K) := by
  obtain ⟨fd, F⟩ := T.d_is_allowed
  refine GFn.mk F T.g_is_allowed (def_ok F sc_is_allowed (fun vs H Q E h => by obtain ⟨d, us, x, r, i, rfl, _⟩ := h; rfl) ?_) (F.bindsN fun _ _ _ _ _ _ us hl => match us, hl with | [_, _], _ => rfl)
  intro X eP ew eK em eb eN es hf nd H vs Q E B h
  subst eP ew eK em eb
  have n0 : Sl X 0 "part" := slot_of eN es hf nd rfl (by first | exact Or.inl rfl | exact Or.inr rfl) (by decide) (by decide)
  have n1 : Sl X 1 "rules" := slot_of eN es hf nd rfl (by first | exact Or.inl rfl | exact Or.inr rfl) (by decide) (by decide)
  have n2 : Sl X 2 "thing" := slot_of eN es hf nd rfl (by first | exact Or.inl rfl | exact Or.inr rfl) (by decide) (by decide)
  have z_isinstance : Bn X "isinstance" := bn_of es rfl T.z_isinstance
  have z_str : Bn X "str" := bn_of es rfl T.z_str
  have g_SAMPLES : Gn X "SAMPLES" := gn_of es rfl (by decide)
  have m_SAMPLES := T.g_SAMPLES
  have g_is_positive : Gn X "is_positive" := gn_of es rfl (by decide)
  have F_is_positive := f_is_positive (P := X.prog) (w := X.w) (base := X.base) T
  have g_time_of : Gn X "time_of" := gn_of es rfl (by decide)
  have F_time_of := f_time_of (P := X.prog) (w := X.w) (base := X.base) T
  have g_is_latest : Gn X "is_latest" := gn_of es rfl (by decide)
  have F_is_latest := f_is_latest (P := X.prog) (w := X.w) (base := X.base) T
  have g_is_time : Gn X "is_time" := gn_of es rfl (by decide)
  have F_is_time := f_is_time (P := X.prog) (w := X.w) (base := X.base) T
  have g_is_roof : Gn X "is_roof" := gn_of es rfl (by decide)
  have F_is_roof := f_is_roof (P := X.prog) (w := X.w) (base := X.base) T
  clear F_is_positive F_is_latest F_is_roof
  have FP := f_is_positiveF (P := X.prog) (w := X.w) (base := X.base) T
  have FL := f_is_latestF (P := X.prog) (w := X.w) (base := X.base) T
  have FR := f_is_roofF (P := X.prog) (w := X.w) (base := X.base) T
  obtain ⟨d, us, x, r, i, rfl, l9, hd, ha, hx, k⟩ := h
  show WB X [_, _, _, _, _, _, _, _, _, _] _ [some (.str x), some (.ref d), none] H
  have z0 := z0s
  have z1 := z1s
  match i, hx with
  | 0, hx =>
    cases hx
    refine wb_cons (ws_set n2 (we_dget B ?_))
    repeat walk_at "w"
    refine gR_ok l9 hd 0 rfl ?_
    repeat walk_at "w"
    rcases ha with ⟨x, e, rfl⟩ | ⟨rfl, hn⟩
    · rw [e]
      refine ⟨true, ⟨_, _, .ty _, .base (.str _), k_ss⟩, ?_⟩
      repeat walk_at "w"
      exact o_inT (v := .str x) (T.kt_SAMPLES.sq _) rfl (by decide +kernel) (k _ (.refl _))
    · obtain ⟨t, ht, kk⟩ := hn.kind
      refine ⟨false, ⟨_, _, .ty _, ht, kk⟩, ?_⟩
      repeat walk_at "w"
      exact k _ (.refl _)
  | 1, hx =>
    cases hx
    refine wb_cons (ws_set n2 (we_dget B ?_))
    repeat walk_at "w"
    refine gR_ok l9 hd 1 rfl ?_
    repeat walk_at "w"
    rcases ha with ⟨q, hv, hq, rfl⟩ | ⟨rfl, hg⟩
    · refine ⟨_, rfl, .inl ⟨q, hv, hq, fun H1 x1 => ?_⟩⟩
      by_cases h0 : 0 < q
      · rw [decide_eq_true h0] at k ⊢
        repeat walk_at "w"
        refine to_tim (hv.mono x1) fun y H2 x2 hy => ?_
        repeat walk_at "w"
        exact k _ (by walk_at "x")
      · rw [decide_eq_false h0] at k ⊢
        repeat walk_at "w"
        exact k _ x1
    · refine ⟨_, rfl, .inr ⟨hg, fun H1 x1 => ?_⟩⟩
      repeat walk_at "w"
      exact k _ x1
  | 2, hx =>
    cases hx
    refine wb_cons (ws_set n2 (we_dget B ?_))
    repeat walk_at "w"
    refine gR_ok l9 hd 2 rfl ?_
    repeat walk_at "w"
    refine gRs_ok l9 hd 1 rfl ?_
    repeat walk_at "w"
    rcases ha with ⟨e, rfl⟩ | ⟨i, q, e, hv, hq, rfl⟩ | ⟨rfl, h⟩
    · exact ⟨_, _, rfl, .inl ⟨e, k⟩⟩
    · exact ⟨_, _, rfl, .inr (.inl ⟨i, q, e, hv, hq, k⟩)⟩
    · exact ⟨_, _, rfl, .inr (.inr ⟨h, k⟩)⟩
  | 3, hx =>
    cases hx
    refine wb_cons (ws_set n2 (we_dget B ?_))
    repeat walk_at "w"
    refine gR_ok l9 hd 3 rfl ?_
    repeat walk_at "w"
    rcases ha with ⟨q, hv, hq, rfl⟩ | ⟨rfl, hg⟩
    · refine it_tim T hv ?_
      repeat walk_at "w"
      refine to_tim hv fun y H2 x2 hy => ?_
      repeat walk_at "w"
      exact k _ (by walk_at "x")
    · refine it_no T hg.fgn ?_
      repeat walk_at "w"
      exact k _ (.refl _)
  | 4, hx =>
    cases hx
    refine wb_cons (ws_set n2 (we_dget B ?_))
    repeat walk_at "w"
    refine gR_ok l9 hd 4 rfl ?_
    repeat walk_at "w"
    rcases ha with ⟨q, hv, hq, rfl⟩ | ⟨rfl, hg⟩
    · refine it_tim T hv ?_
      repeat walk_at "w"
      refine to_tim hv fun y H2 x2 hy => ?_
      repeat walk_at "w"
      exact k _ (by walk_at "x")
    · refine it_no T hg.fgn ?_
      repeat walk_at "w"
      exact k _ (.refl _)
  | 5, hx =>
    cases hx
    refine wb_cons (ws_set n2 (we_dget B ?_))
    repeat walk_at "w"
    refine gR_ok l9 hd 5 rfl ?_
    repeat walk_at "w"
    rcases ha with ⟨e, rfl⟩ | ⟨q, hv, hq, rfl⟩ | ⟨rfl, hg, nn⟩
    · rw [decide_eq_true e]
      repeat walk_at "w"
      exact k _ (.refl _)
    · rw [decide_eq_false hv.nn]
      repeat walk_at "w"
      exact ⟨_, rfl, .inl ⟨q, hv, hq, k⟩⟩
    · rw [decide_eq_false nn]
      repeat walk_at "w"
      exact ⟨_, rfl, .inr ⟨hg, k⟩⟩
  | 6, hx =>
    cases hx
    refine wb_cons (ws_set n2 (we_dget B ?_))
    repeat walk_at "w"
    refine gR_ok l9 hd 6 rfl ?_
    repeat walk_at "w"
    refine gRs_ok l9 hd 5 rfl ?_
    repeat walk_at "w"
    rcases ha with ⟨e, rfl⟩ | ⟨q, o, hv, hq, hu, ho, rfl⟩ | ⟨rfl, hg, nn⟩
    · exact ⟨_, _, rfl, .inl ⟨e, k⟩⟩
    · exact ⟨_, _, rfl, .inr (.inl ⟨q, o, hv, hq, hu, ho, k⟩)⟩
    · exact ⟨_, _, rfl, .inr (.inr ⟨hg, nn, k⟩)⟩
  | 7, hx =>
    cases hx
    refine wb_cons (ws_set n2 (we_dget B ?_))
    repeat walk_at "w"
    refine gR_ok l9 hd 7 rfl ?_
    repeat walk_at "w"
    rcases ha with ⟨b, e, rfl⟩ | ⟨rfl, hn⟩
    · rw [e]
      repeat walk_at "w"
      cases b with
      | true => exact k _ (.refl _)
      | false =>
        rw [decide_eq_false (show ¬ false = true by decide)]
        repeat walk_at "w"
        exact k _ (.refl _)
    · refine o_isX hn ?_
      repeat walk_at "w"
      refine o_isX hn ?_
      repeat walk_at "w"
      exact k _ (.refl _)
  | 8, hx =>
    cases hx
    refine wb_cons (ws_set n2 (we_dget B ?_))
    repeat walk_at "w"
    refine gR_ok l9 hd 8 rfl ?_
    repeat walk_at "w"
    rcases ha with ⟨b, c, e, e7, rfl⟩ | ⟨rfl, hn⟩
    · rw [e]
      repeat walk_at "w"
      cases b with
      | false => exact k _ (.refl _)
      | true =>
        rw [decide_eq_false (show ¬ true = false by decide)]
        repeat walk_at "w"
        rw [decide_eq_true (rfl : true = true)]
        repeat walk_at "w"
        refine gRs_ok l9 hd 7 rfl ?_
        rw [e7]
        exact k _ (.refl _)
    · refine o_isX hn ?_
      repeat walk_at "w"
      refine o_isX hn ?_
      repeat walk_at "w"
      exact k _ (.refl _)
  | i + 9, hx => cases hx
end
theorem y_BadBook {K : PySem.W.Frag} {mg : Str → Option Value} (T : Tm K mg) : IniC PySem.Challenge.pw_resendtimers_k63_changes_made K mg (ga K "BadBook") "part" :=
  ⟨⟨_, _, "part", _, _, _, _, _, _, _, _, _, _, _, _, _, _, _, T.yi_BadBook, funC_ok T.yc_BadBook T.d_BadBook___init__, rfl, rfl, rfl, (by intros; rfl), by decide, rfl, rfl, rfl, rfl, by decide +kernel, rfl, rfl, rfl, by decide⟩, T.yn_BadBook, T.z_super⟩
section
variable {P : Program} {w : World} {K : PySem.W.Frag} {mg : Str → Option Value} {base : Heap}
/-- an exception with a field, in a heap that has grown -/
def ThrG (G : Hp → Prop) (E : XK) (C : Addr) (f : Str) (v : V) : Prop := ∀ H' d, G H' → H' d = none → E (.ref C) (some d) (upd H' d (.xd [(f, v)]))
/-- the first part that is not allowed is at n -/
def BadAt (K : PySem.W.Frag) (us : List V) (n : Nat) (H : Hp) : Prop := us.length = 9 ∧ n < 9 ∧ Al K us H n false ∧ ∀ i, i < n → Al K us H i true
theorem BadAt.mono {us : List V} {n : Nat} {H H' : Hp} (x : Ex H H') (h : BadAt K us n H) : BadAt K us n H' := ⟨h.1, h.2.1, h.2.2.1.mono x, fun i l => (h.2.2.2 i l).mono x⟩
def pnx (n : Nat) : Str := (pn[n]?).getD ""
theorem pnx_at {n : Nat} (h : n < 9) : pn[n]? = some (pnx n) := by
  have : n < pn.length := h
  rw [pnx, List.getElem?_eq_getElem this]
  rfl
def spCheckedB9 (K : PySem.W.Frag) : Sp := fun vs H _ E => ∃ d us n, vs = [.ref d] ∧ H d = some (.dK (pk.zip us)) ∧ BadAt K us n H ∧ ThrG (Ex H) E (ga K "BadBook") "part" (.str (pnx n))
theorem f_checkedF (hP : P = PySem.Challenge.pw_resendtimers_k63_changes_made) (T : Tm K mg) : GFn P w K mg base 9 "checked" (spCheckedB9 K) := by
  obtain ⟨fd, F⟩ := T.d_checked
  refine GFn.mk F T.g_checked (def_ok F sc_checked (fun vs H Q E h => by obtain ⟨d, us, n, rfl, _⟩ := h; rfl) ?_) (F.bindsN fun _ _ _ _ _ _ us hl => match us, hl with | [_], _ => rfl)
  intro X eP ew eK em eb eN es hf nd H vs Q E B h
  subst eP ew eK em eb
  have n0 : Sl X 0 "rules" := slot_of eN es hf nd rfl (by first | exact Or.inl rfl | exact Or.inr rfl) (by decide) (by decide)
  have n1 : Sl X 1 "part" := slot_of eN es hf nd rfl (by first | exact Or.inl rfl | exact Or.inr rfl) (by decide) (by decide)
  have n2 : Sl X 2 "found" := slot_of eN es hf nd rfl (by first | exact Or.inl rfl | exact Or.inr rfl) (by decide) (by decide)
  have g_PARTS : Gn X "PARTS" := gn_of es rfl (by decide)
  have m_PARTS := T.g_PARTS
  have g_is_allowed : Gn X "is_allowed" := gn_of es rfl (by decide)
  have F_is_allowed := f_is_allowed (P := X.prog) (w := X.w) (base := X.base) T
  have g_BadBook : Gn X "BadBook" := gn_of es rfl (by decide)
  have m_BadBook := T.g_BadBook
  have z_dict : Bn X "dict" := bn_of es rfl T.z_dict
  have g_time_of : Gn X "time_of" := gn_of es rfl (by decide)
  have F_time_of := f_time_of (P := X.prog) (w := X.w) (base := X.base) T
  clear F_is_allowed
  have FA := f_is_allowedF (P := X.prog) (w := X.w) (base := X.base) T
  obtain ⟨d, us, n, rfl, hd, hb, z⟩ := h
  show WB X [_, _, _, _, _] _ [some (.ref d), none, none] H
  have c : IniC X.prog X.K X.mg (ga X.K "BadBook") "part" := by rw [hP]; exact y_BadBook T
  refine wb_cons ?_
  refine ws_for_tupE B n1 ?_
  repeat walk_at "w"
  refine ⟨_, _, rfl, fun j σ' H' => (∃ a, σ' = [some (.ref d), a, none]) ∧ Ex H H' ∧ j ≤ n, ⟨⟨_, rfl⟩, .refl _, Nat.zero_le _⟩, fun j σ' H' _ _ => T.kt_PARTS.sq H', ?_, fun σ' H' q => absurd q.2.2 (by have := hb.2.1; have e : (List.map V.str pn).length = 9 := rfl; show ¬ (List.map V.str pn).length ≤ n; omega)⟩
  rintro j y σ' H' hy ⟨⟨a, rfl⟩, x1, lj⟩
  have hj : j < 9 := by have := hb.2.1; omega
  obtain rfl : y = .str (pnx j) := by
    have e : (pn.map V.str)[j]? = some y := hy
    rw [List.getElem?_map, pnx_at hj] at e
    cases e
    rfl
  have hd1 := x1.keep _ _ hd not_src_dk
  have hb1 := hb.mono x1
  rcases Nat.lt_or_ge j n with lt | ge
  · repeat walk_at "w"
    refine ⟨d, us, _, true, j, rfl, hb.1, hd1, hb1.2.2.2 j lt, pnx_at hj, fun H2 x2 => ?_⟩
    repeat walk_at "w"
    exact ⟨⟨_, rfl⟩, x1.trans x2, lt⟩
  · obtain rfl : j = n := by omega
    repeat walk_at "w"
    refine ⟨d, us, _, false, j, rfl, hb.1, hd1, hb1.2.2.1, pnx_at hj, fun H2 x2 => ?_⟩
    repeat walk_at "w"
    refine ws_raiseI B (by decide) c g_BadBook m_BadBook ?_ rfl
    repeat walk_at "w"
    exact fun dd nd' => z _ dd (x1.trans x2) nd'
end

/-! ### Book(..) made -/
abbrev CB (K : PySem.W.Frag) : Addr := ga K "Book"
def BookV (K : PySem.W.Frag) (z : Bk) (v : V) (H : Hp) : Prop := ∃ p dx d sh fa ma fl ro, v = .ref p ∧ H p = some (.ins (CB K) dx [("rules", .ref d)]) ∧ H d = some (dk9 z sh fa ma fl ro) ∧ Kept K z sh fa ma fl ro H
theorem BookV.mono {K : PySem.W.Frag} {z : Bk} {v : V} {H H' : Hp} (x : Ex H H') (h : BookV K z v H) : BookV K z v H' := by
  obtain ⟨p, dx, d, sh, fa, ma, fl, ro, rfl, hp, hd, hk⟩ := h
  exact ⟨p, dx, d, sh, fa, ma, fl, ro, rfl, x.ins hp, x.keep _ _ hd not_src_dk, hk.mono x⟩
theorem bk_fld {H : Hp} {p C dx d : Addr} {P : V → Prop} (hp : H p = some (.ins C dx [("rules", .ref d)])) (q : P (.ref d)) : ∃ a dx fs v, V.ref p = .ref a ∧ H a = some (.ins C dx fs) ∧ fs.lookup ("rules" : Str) = some v ∧ P v := ⟨p, dx, _, _, rfl, hp, rfl, q⟩
section
variable {X : Cx} {σ : L2.St} {H : Hp} {D : Ends} {Q : VK} {e o value : Expr} {pos pos' : Pos}
theorem we_rules (T : Tm X.K X.mg) (h : WE X e σ H fun y H1 => ∃ a dx fs v, y = .ref a ∧ H1 a = some (.ins (CB X.K) dx fs) ∧ fs.lookup ("rules" : Str) = some v ∧ Q v H1) (hb : attributeBase e "rules" X.env (eval e X.env) = eval e X.env := by rfl) : WE X (.Attribute e "rules" pos) σ H Q := we_fld T.c_Book.cl T.n_Book_rules h hb
theorem ws_rules (T : Tm X.K X.mg) (h : WE X value σ H fun y H1 => WE X o σ H1 fun z H2 => ∃ a dx fs, z = .ref a ∧ H2 a = some (.ins (CB X.K) dx fs) ∧ fs.length < 1000 ∧ D.nx σ (upd H2 a (.ins (CB X.K) dx (putF ("rules" : Str) y fs)))) (hs : swapsWith value (some (.Attribute o "rules" pos')) pos.line X.env = pure false := by rfl) : WS X (.Assign [.Attribute o "rules" pos'] value pos) D σ H := ws_fld T.c_Book.cl T.n_Book_rules h hs
end
local macro_rules | `(tactic| walk_at "wE") => `(tactic| first | ((with_reducible refine' we_rules ?T ?_ ?hb); (case T => assumption); (case hb => rfl)) | fail)
local macro_rules | `(tactic| walk_at "wS") => `(tactic| first | ((with_reducible refine' ws_rules ?T ?_ ?hs); (case T => assumption); (case hs => rfl)) | fail)
section
variable {P : Program} {w : World} {K : PySem.W.Frag} {mg : Str → Option Value} {base : Heap}
def spBInit (K : PySem.W.Frag) : Sp := fun vs H Q _ => ∃ z p dx sh fa ma fl ro, vs = .ref p :: row9 z sh fa ma fl ro ∧ H p = some (.ins (CB K) dx []) ∧ Raw K z sh fa ma fl ro H ∧ BkOk z ∧
  ∀ H', ExX (fun a => a = p) H H' → BookV K z (.ref p) H' → Q .non H'
theorem ok_binit (T : Tm K mg) {fd : FuncData} {kws : List (Str × V)} (F : FunD K "__init__" "Book.__init__" (defArgs s_Book___init__) (defBody s_Book___init__) (defScope s_Book___init__) [] kws (ma K (CB K) "__init__") fd) :
    FnOk P w K mg base (RX P w) 10 (ma K (CB K) "__init__") fd ["self", "sample", "share", "latest", "factor", "margin", "floor", "roof", "doubled", "kept"] (spBInit K) := by
  refine def_ok F sc_Book___init__ (fun vs H Q E h => by obtain ⟨z, p, dx, sh, fa, ma, fl, ro, rfl, _⟩ := h; rfl) ?_
  intro X eP ew eK em eb eN es hf nd H vs Q E B h
  subst eP ew eK em eb
  have n0 : Sl X 0 "self" := slot_of eN es hf nd rfl (by first | exact Or.inl rfl | exact Or.inr rfl) (by decide) (by decide)
  have n1 : Sl X 1 "sample" := slot_of eN es hf nd rfl (by first | exact Or.inl rfl | exact Or.inr rfl) (by decide) (by decide)
  have n2 : Sl X 2 "share" := slot_of eN es hf nd rfl (by first | exact Or.inl rfl | exact Or.inr rfl) (by decide) (by decide)
  have n3 : Sl X 3 "latest" := slot_of eN es hf nd rfl (by first | exact Or.inl rfl | exact Or.inr rfl) (by decide) (by decide)
  have n4 : Sl X 4 "factor" := slot_of eN es hf nd rfl (by first | exact Or.inl rfl | exact Or.inr rfl) (by decide) (by decide)
  have n5 : Sl X 5 "margin" := slot_of eN es hf nd rfl (by first | exact Or.inl rfl | exact Or.inr rfl) (by decide) (by decide)
  have n6 : Sl X 6 "floor" := slot_of eN es hf nd rfl (by first | exact Or.inl rfl | exact Or.inr rfl) (by decide) (by decide)
  have n7 : Sl X 7 "roof" := slot_of eN es hf nd rfl (by first | exact Or.inl rfl | exact Or.inr rfl) (by decide) (by decide)
  have n8 : Sl X 8 "doubled" := slot_of eN es hf nd rfl (by first | exact Or.inl rfl | exact Or.inr rfl) (by decide) (by decide)
  have n9 : Sl X 9 "kept" := slot_of eN es hf nd rfl (by first | exact Or.inl rfl | exact Or.inr rfl) (by decide) (by decide)
  have g_checked : Gn X "checked" := gn_of es rfl (by decide)
  have F_checked := f_checked (P := X.prog) (w := X.w) (base := X.base) T
  obtain ⟨z, p, dx, sh, fa, ma, fl, ro, rfl, hp, hr, ok, k⟩ := h
  show WB X [_] _ [some (.ref p), some (.str z.word), some (sh), some (latV z.latest), some (fa), some (ma), some (fl), some (ro), some (.bl z.doubled), some (.bl z.kept)] H
  repeat walk_at "w"
  refine we_disp (fun e => nomatch e) fun d nd' => ?_
  iterate 9
    refine wp_cons ?_
    repeat walk_at "w"
  refine wp_nil ⟨upd_same, pk.zip (row9 z sh fa ma fl ro), rfl, (show 9 ≤ 15 by decide), ?_⟩
  rw [mergeK_zip pk_nd rfl, upd2]
  have x1 : Ex H (upd H d (dk9 z sh fa ma fl ro)) := Ex.new nd'
  have hd1 : upd H d (dk9 z sh fa ma fl ro) d = some (dk9 z sh fa ma fl ro) := upd_same
  show spCheckedB _ _ (upd H d (dk9 z sh fa ma fl ro)) _ _
  generalize upd H d (dk9 z sh fa ma fl ro) = H1 at x1 hd1 ⊢
  refine ⟨z, d, sh, fa, ma, fl, ro, rfl, hd1, hr.mono x1, ok, fun d' H2 sh' fa' ma' fl' ro' x2 nd2 hd2 hk => ?_⟩
  repeat walk_at "w"
  have hp2 := (x1.trans x2).ins hp
  refine ⟨p, dx, [], rfl, hp2, (show 0 < 1000 by decide), ?_⟩
  have ne : d' ≠ p := fun e => by subst e; rw [hp2] at hd2; cases hd2
  have tp : ∀ {q : Rat} {v : V}, TimeV (CT X.K) q v H2 → TimeV (CT X.K) q v (upd H2 p (.ins (CB X.K) dx [("rules", .ref d')])) := fun h => TimeV.up hp2 (fun dx e => by injection e with _ _ e; cases e) h
  have op : ∀ {o : Option Rat} {v : V}, OptT X.K o v H2 → OptT X.K o v (upd H2 p (.ins (CB X.K) dx [("rules", .ref d')])) := fun {o v} h => by
    cases o with
    | none => exact h
    | some q => exact tp h
  exact k _ ((x1.trans x2).x.put rfl) ⟨p, dx, d', sh', fa', ma', fl', ro', rfl, upd_same, (upd_ne ne).trans hd2, tp hk.sh, tp hk.fa, tp hk.ma, op hk.fl, op hk.ro⟩
/-- Book with all nine words, in order -/
theorem k_Book9 (T : Tm K mg) : GKk P w K mg base 10 "Book" (CB K) (spBInit K) 0 ["sample", "share", "latest", "factor", "margin", "floor", "roof", "doubled", "kept"] (fun vs zs => vs ++ zs) := by
  obtain ⟨fd, F⟩ := T.d_Book___init__
  obtain ⟨mv, hb⟩ := F.kbinds0 (ps := ["self", "sample", "share", "latest", "factor", "margin", "floor", "roof", "doubled", "kept"]) 1 ["sample", "share", "latest", "factor", "margin", "floor", "roof", "doubled", "kept"] [] (fun us _ ws => us ++ ws) (List.cons_ne_nil _ _) (fun q h => nomatch h) (fun r1 _ r3 => r1.append r3) (by
    intro D doc pm an cdv ct us mv ws l1 l2 l3
    match us, ws, l1, l3 with
    | [a], [b1, b2, b3, b4, b5, b6, b7, b8, b9], _, _ => rfl)
  exact ⟨_, fd, _, _, T.g_Book, T.m_Book, ok_binit T F, hb⟩
def ord4 {α : Type} (us mv ws : List α) : List α := match us, mv, ws with
  | [s], [a, b, c, d, e], [w0, w1, w2, w3] => [s, w1, w0, a, w3, w2, b, c, d, e]
  | _, _, _ => []
/-- Book(share=, sample=, margin=, factor=) -/
theorem k_Book4 (T : Tm K mg) : GKk P w K mg base 10 "Book" (CB K) (spBInit K) 0 ["share", "sample", "margin", "factor"] (fun vs zs => ord4 vs [.non, .non, .non, .bl false, .bl false] zs) := by
  obtain ⟨fd, F⟩ := T.d_Book___init__
  obtain ⟨mv, hb⟩ := F.kbinds0 (ps := ["self", "sample", "share", "latest", "factor", "margin", "floor", "roof", "doubled", "kept"]) 1 ["share", "sample", "margin", "factor"] [("latest", .non), ("floor", .non), ("roof", .non), ("doubled", .bl false), ("kept", .bl false)] ord4 (List.cons_ne_nil _ _) (fun q h => by
    simp only [List.mem_cons, List.not_mem_nil, or_false] at h
    rcases h with rfl | rfl | rfl | rfl | rfl <;> simp [Dv.v]) (by
    intro vs mz zs us mv ws r1 r2 r3
    cases r1 with
    | nil => exact .nil
    | cons h0 t0 =>
      cases t0 with
      | cons _ _ => exact .nil
      | nil =>
        cases r2 with
        | nil => exact .nil
        | cons h1 r2 =>
          cases r2 with
          | nil => exact .nil
          | cons h2 r2 =>
            cases r2 with
            | nil => exact .nil
            | cons h3 r2 =>
              cases r2 with
              | nil => exact .nil
              | cons h4 r2 =>
                cases r2 with
                | nil => exact .nil
                | cons h5 r2 =>
                  cases r2 with
                  | cons _ _ => exact .nil
                  | nil =>
                    cases r3 with
                    | nil => exact .nil
                    | cons g0 r3 =>
                      cases r3 with
                      | nil => exact .nil
                      | cons g1 r3 =>
                        cases r3 with
                        | nil => exact .nil
                        | cons g2 r3 =>
                          cases r3 with
                          | nil => exact .nil
                          | cons g3 r3 =>
                            cases r3 with
                            | cons _ _ => exact .nil
                            | nil => exact .cons h0 (.cons g1 (.cons g0 (.cons h1 (.cons g3 (.cons g2 (.cons h2 (.cons h3 (.cons h4 (.cons h5 .nil)))))))))) (by
    intro D doc pm an cdv ct us mv ws l1 l2 l3
    match us, mv, ws, l1, l2, l3 with
    | [a], [m1, m2, m3, m4, m5], [b1, b2, b3, b4], _, _, _ => exact ⟨_, _, _, _, _, _, rfl, rfl, _, _, _, _, _, _, rfl, rfl, _, _, _, _, _, _, rfl, rfl, _, _, _, _, _, _, rfl, rfl, _, _, _, _, _, _, rfl, rfl, rfl⟩)
  exact ⟨_, fd, _, _, T.g_Book, T.m_Book, ok_binit T F, hb⟩
theorem made_b {H : Hp} {E : XK} {Q : Addr → Hp → Prop} {z : Bk} {sh fa ma fl ro : V} (hr : Raw K z sh fa ma fl ro H) (ok : BkOk z) (k : ∀ a H', Ex H H' → BookV K z (.ref a) H' → Q a H') :
    ∀ a dx, H a = none → H dx = none → dx ≠ a → spBInit K (.ref a :: row9 z sh fa ma fl ro) (upd (upd H dx (.own a)) a (.ins (CB K) dx [])) (fun v H2 => v = .non ∧ Q a H2) E := by
  intro a dx na nd ne
  have x1 : Ex H (upd (upd H dx (.own a)) a (.ins (CB K) dx [])) := Ex.new2 na nd
  exact ⟨z, a, dx, sh, fa, ma, fl, ro, rfl, upd_same, hr.mono x1, ok, fun H' x3 hb => ⟨rfl, k _ _ (ExX.fresh x1 x3 fun c e => by subst e; exact na) hb⟩⟩
end
/-! ### its properties -/
section
variable {P : Program} {w : World} {K : PySem.W.Frag} {mg : Str → Option Value} {base : Heap}
def spBk (K : PySem.W.Frag) (i : Nat) : Sp := fun vs H Q _ => ∃ z p dx d sh fa ma fl ro v', vs = [.ref p] ∧ H p = some (.ins (CB K) dx [("rules", .ref d)]) ∧ H d = some (dk9 z sh fa ma fl ro) ∧ (row9 z sh fa ma fl ro)[i]? = some v' ∧ Q v' H
theorem ok_B_sample (T : Tm K mg) : ∃ fd, FnOk P w K mg base (RX P w) 1 (pgA K (CB K) "sample") fd ["self"] (spBk K 0) ∧ Binds K fd ["self"] [] := by
  obtain ⟨fd, F⟩ := T.d_Book_sample
  refine ⟨fd, def_ok F sc_Book_sample (fun vs H Q E h => by obtain ⟨z, p, dx, d, sh, fa, ma, fl, ro, v', rfl, _⟩ := h; rfl) ?_, (F.bindsN fun _ _ _ _ _ _ us hl => match us, hl with | [_], _ => rfl)⟩
  intro X eP ew eK em eb eN es hf nd H vs Q E B h
  subst eP ew eK em eb
  have n0 : Sl X 0 "self" := slot_of eN es hf nd rfl (by first | exact Or.inl rfl | exact Or.inr rfl) (by decide) (by decide)
  obtain ⟨z, p, dx, d, sh, fa, ma, fl, ro, v', rfl, hp, hd, hv, k⟩ := h
  show WB X [_] _ [some (.ref p)] H
  repeat walk_at "w"
  refine bk_fld hp ?_
  exact gs_ok hd 0 rfl hv k
theorem ok_B_share (T : Tm K mg) : ∃ fd, FnOk P w K mg base (RX P w) 1 (pgA K (CB K) "share") fd ["self"] (spBk K 1) ∧ Binds K fd ["self"] [] := by
  obtain ⟨fd, F⟩ := T.d_Book_share
  refine ⟨fd, def_ok F sc_Book_share (fun vs H Q E h => by obtain ⟨z, p, dx, d, sh, fa, ma, fl, ro, v', rfl, _⟩ := h; rfl) ?_, (F.bindsN fun _ _ _ _ _ _ us hl => match us, hl with | [_], _ => rfl)⟩
  intro X eP ew eK em eb eN es hf nd H vs Q E B h
  subst eP ew eK em eb
  have n0 : Sl X 0 "self" := slot_of eN es hf nd rfl (by first | exact Or.inl rfl | exact Or.inr rfl) (by decide) (by decide)
  obtain ⟨z, p, dx, d, sh, fa, ma, fl, ro, v', rfl, hp, hd, hv, k⟩ := h
  show WB X [_] _ [some (.ref p)] H
  repeat walk_at "w"
  refine bk_fld hp ?_
  exact gs_ok hd 1 rfl hv k
theorem ok_B_latest (T : Tm K mg) : ∃ fd, FnOk P w K mg base (RX P w) 1 (pgA K (CB K) "latest") fd ["self"] (spBk K 2) ∧ Binds K fd ["self"] [] := by
  obtain ⟨fd, F⟩ := T.d_Book_latest
  refine ⟨fd, def_ok F sc_Book_latest (fun vs H Q E h => by obtain ⟨z, p, dx, d, sh, fa, ma, fl, ro, v', rfl, _⟩ := h; rfl) ?_, (F.bindsN fun _ _ _ _ _ _ us hl => match us, hl with | [_], _ => rfl)⟩
  intro X eP ew eK em eb eN es hf nd H vs Q E B h
  subst eP ew eK em eb
  have n0 : Sl X 0 "self" := slot_of eN es hf nd rfl (by first | exact Or.inl rfl | exact Or.inr rfl) (by decide) (by decide)
  obtain ⟨z, p, dx, d, sh, fa, ma, fl, ro, v', rfl, hp, hd, hv, k⟩ := h
  show WB X [_] _ [some (.ref p)] H
  repeat walk_at "w"
  refine bk_fld hp ?_
  exact gs_ok hd 2 rfl hv k
theorem ok_B_factor (T : Tm K mg) : ∃ fd, FnOk P w K mg base (RX P w) 1 (pgA K (CB K) "factor") fd ["self"] (spBk K 3) ∧ Binds K fd ["self"] [] := by
  obtain ⟨fd, F⟩ := T.d_Book_factor
  refine ⟨fd, def_ok F sc_Book_factor (fun vs H Q E h => by obtain ⟨z, p, dx, d, sh, fa, ma, fl, ro, v', rfl, _⟩ := h; rfl) ?_, (F.bindsN fun _ _ _ _ _ _ us hl => match us, hl with | [_], _ => rfl)⟩
  intro X eP ew eK em eb eN es hf nd H vs Q E B h
  subst eP ew eK em eb
  have n0 : Sl X 0 "self" := slot_of eN es hf nd rfl (by first | exact Or.inl rfl | exact Or.inr rfl) (by decide) (by decide)
  obtain ⟨z, p, dx, d, sh, fa, ma, fl, ro, v', rfl, hp, hd, hv, k⟩ := h
  show WB X [_] _ [some (.ref p)] H
  repeat walk_at "w"
  refine bk_fld hp ?_
  exact gs_ok hd 3 rfl hv k
theorem ok_B_margin (T : Tm K mg) : ∃ fd, FnOk P w K mg base (RX P w) 1 (pgA K (CB K) "margin") fd ["self"] (spBk K 4) ∧ Binds K fd ["self"] [] := by
  obtain ⟨fd, F⟩ := T.d_Book_margin
  refine ⟨fd, def_ok F sc_Book_margin (fun vs H Q E h => by obtain ⟨z, p, dx, d, sh, fa, ma, fl, ro, v', rfl, _⟩ := h; rfl) ?_, (F.bindsN fun _ _ _ _ _ _ us hl => match us, hl with | [_], _ => rfl)⟩
  intro X eP ew eK em eb eN es hf nd H vs Q E B h
  subst eP ew eK em eb
  have n0 : Sl X 0 "self" := slot_of eN es hf nd rfl (by first | exact Or.inl rfl | exact Or.inr rfl) (by decide) (by decide)
  obtain ⟨z, p, dx, d, sh, fa, ma, fl, ro, v', rfl, hp, hd, hv, k⟩ := h
  show WB X [_] _ [some (.ref p)] H
  repeat walk_at "w"
  refine bk_fld hp ?_
  exact gs_ok hd 4 rfl hv k
theorem ok_B_floor (T : Tm K mg) : ∃ fd, FnOk P w K mg base (RX P w) 1 (pgA K (CB K) "floor") fd ["self"] (spBk K 5) ∧ Binds K fd ["self"] [] := by
  obtain ⟨fd, F⟩ := T.d_Book_floor
  refine ⟨fd, def_ok F sc_Book_floor (fun vs H Q E h => by obtain ⟨z, p, dx, d, sh, fa, ma, fl, ro, v', rfl, _⟩ := h; rfl) ?_, (F.bindsN fun _ _ _ _ _ _ us hl => match us, hl with | [_], _ => rfl)⟩
  intro X eP ew eK em eb eN es hf nd H vs Q E B h
  subst eP ew eK em eb
  have n0 : Sl X 0 "self" := slot_of eN es hf nd rfl (by first | exact Or.inl rfl | exact Or.inr rfl) (by decide) (by decide)
  obtain ⟨z, p, dx, d, sh, fa, ma, fl, ro, v', rfl, hp, hd, hv, k⟩ := h
  show WB X [_] _ [some (.ref p)] H
  repeat walk_at "w"
  refine bk_fld hp ?_
  exact gs_ok hd 5 rfl hv k
theorem ok_B_roof (T : Tm K mg) : ∃ fd, FnOk P w K mg base (RX P w) 1 (pgA K (CB K) "roof") fd ["self"] (spBk K 6) ∧ Binds K fd ["self"] [] := by
  obtain ⟨fd, F⟩ := T.d_Book_roof
  refine ⟨fd, def_ok F sc_Book_roof (fun vs H Q E h => by obtain ⟨z, p, dx, d, sh, fa, ma, fl, ro, v', rfl, _⟩ := h; rfl) ?_, (F.bindsN fun _ _ _ _ _ _ us hl => match us, hl with | [_], _ => rfl)⟩
  intro X eP ew eK em eb eN es hf nd H vs Q E B h
  subst eP ew eK em eb
  have n0 : Sl X 0 "self" := slot_of eN es hf nd rfl (by first | exact Or.inl rfl | exact Or.inr rfl) (by decide) (by decide)
  obtain ⟨z, p, dx, d, sh, fa, ma, fl, ro, v', rfl, hp, hd, hv, k⟩ := h
  show WB X [_] _ [some (.ref p)] H
  repeat walk_at "w"
  refine bk_fld hp ?_
  exact gs_ok hd 6 rfl hv k
theorem ok_B_doubled (T : Tm K mg) : ∃ fd, FnOk P w K mg base (RX P w) 1 (pgA K (CB K) "doubled") fd ["self"] (spBk K 7) ∧ Binds K fd ["self"] [] := by
  obtain ⟨fd, F⟩ := T.d_Book_doubled
  refine ⟨fd, def_ok F sc_Book_doubled (fun vs H Q E h => by obtain ⟨z, p, dx, d, sh, fa, ma, fl, ro, v', rfl, _⟩ := h; rfl) ?_, (F.bindsN fun _ _ _ _ _ _ us hl => match us, hl with | [_], _ => rfl)⟩
  intro X eP ew eK em eb eN es hf nd H vs Q E B h
  subst eP ew eK em eb
  have n0 : Sl X 0 "self" := slot_of eN es hf nd rfl (by first | exact Or.inl rfl | exact Or.inr rfl) (by decide) (by decide)
  obtain ⟨z, p, dx, d, sh, fa, ma, fl, ro, v', rfl, hp, hd, hv, k⟩ := h
  show WB X [_] _ [some (.ref p)] H
  repeat walk_at "w"
  refine bk_fld hp ?_
  exact gs_ok hd 7 rfl hv k
theorem ok_B_kept (T : Tm K mg) : ∃ fd, FnOk P w K mg base (RX P w) 1 (pgA K (CB K) "kept") fd ["self"] (spBk K 8) ∧ Binds K fd ["self"] [] := by
  obtain ⟨fd, F⟩ := T.d_Book_kept
  refine ⟨fd, def_ok F sc_Book_kept (fun vs H Q E h => by obtain ⟨z, p, dx, d, sh, fa, ma, fl, ro, v', rfl, _⟩ := h; rfl) ?_, (F.bindsN fun _ _ _ _ _ _ us hl => match us, hl with | [_], _ => rfl)⟩
  intro X eP ew eK em eb eN es hf nd H vs Q E B h
  subst eP ew eK em eb
  have n0 : Sl X 0 "self" := slot_of eN es hf nd rfl (by first | exact Or.inl rfl | exact Or.inr rfl) (by decide) (by decide)
  obtain ⟨z, p, dx, d, sh, fa, ma, fl, ro, v', rfl, hp, hd, hv, k⟩ := h
  show WB X [_] _ [some (.ref p)] H
  repeat walk_at "w"
  refine bk_fld hp ?_
  exact gs_ok hd 8 rfl hv k
end
section
variable {X : Cx} {k : Nat} {E : L2.St → XK} {σ : L2.St} {H : Hp} {Q : VK} {e : Expr} {pos apos : Pos}
theorem bv_ok {K : PySem.W.Frag} {z : Bk} {v : V} {H : Hp} {R : Bk → Prop} (h : BookV K z v H) (r : R z) : ∃ z, BookV K z v H ∧ R z := ⟨z, h, r⟩
theorem tq_i {C : Addr} {q : Rat} {H : Hp} {Q : VK} (h : ∀ v, TimeV C q v H → Q v H) : ∀ v, TimeV C q v H → Q v H := h
theorem oq_i {K : PySem.W.Frag} {q : Option Rat} {H : Hp} {Q : VK} (h : ∀ v, OptT K q v H → Q v H) : ∀ v, OptT K q v H → Q v H := h
theorem we_B_sample (B : Body X k E) (T : Tm X.K X.mg) (hk : 2 ≤ k) (h : WE X e σ H fun y H1 => ∃ z, BookV X.K z y H1 ∧ Q (.str z.word) H1) (he : attributeBase e "sample" X.env (eval e X.env) = eval e X.env := by rfl) : WE X (.Attribute e "sample" pos) σ H Q := by
  obtain ⟨fd, F, hb⟩ := ok_B_sample (P := X.prog) (w := X.w) (base := X.base) T
  refine we_prop B T.c_Book.cl T.p_Book_sample F hk hb .nil (we_mono h fun y H1 r => ?_) he
  obtain ⟨z, ⟨p, dx, d, sh, fa, ma, fl, ro, rfl, hp, hd, hk⟩, q⟩ := r
  exact ⟨p, dx, _, rfl, hp, z, p, dx, d, sh, fa, ma, fl, ro, _, rfl, hp, hd, rfl, q⟩
theorem we_B_share (B : Body X k E) (T : Tm X.K X.mg) (hk : 2 ≤ k) (h : WE X e σ H fun y H1 => ∃ z, BookV X.K z y H1 ∧ ∀ v', TimeV (CT X.K) z.share v' H1 → Q v' H1) (he : attributeBase e "share" X.env (eval e X.env) = eval e X.env := by rfl) : WE X (.Attribute e "share" pos) σ H Q := by
  obtain ⟨fd, F, hb⟩ := ok_B_share (P := X.prog) (w := X.w) (base := X.base) T
  refine we_prop B T.c_Book.cl T.p_Book_share F hk hb .nil (we_mono h fun y H1 r => ?_) he
  obtain ⟨z, ⟨p, dx, d, sh, fa, ma, fl, ro, rfl, hp, hd, hk⟩, q⟩ := r
  exact ⟨p, dx, _, rfl, hp, z, p, dx, d, sh, fa, ma, fl, ro, _, rfl, hp, hd, rfl, q _ hk.sh⟩
theorem we_B_latest (B : Body X k E) (T : Tm X.K X.mg) (hk : 2 ≤ k) (h : WE X e σ H fun y H1 => ∃ z, BookV X.K z y H1 ∧ Q (latV z.latest) H1) (he : attributeBase e "latest" X.env (eval e X.env) = eval e X.env := by rfl) : WE X (.Attribute e "latest" pos) σ H Q := by
  obtain ⟨fd, F, hb⟩ := ok_B_latest (P := X.prog) (w := X.w) (base := X.base) T
  refine we_prop B T.c_Book.cl T.p_Book_latest F hk hb .nil (we_mono h fun y H1 r => ?_) he
  obtain ⟨z, ⟨p, dx, d, sh, fa, ma, fl, ro, rfl, hp, hd, hk⟩, q⟩ := r
  exact ⟨p, dx, _, rfl, hp, z, p, dx, d, sh, fa, ma, fl, ro, _, rfl, hp, hd, rfl, q⟩
theorem we_B_factor (B : Body X k E) (T : Tm X.K X.mg) (hk : 2 ≤ k) (h : WE X e σ H fun y H1 => ∃ z, BookV X.K z y H1 ∧ ∀ v', TimeV (CT X.K) z.factor v' H1 → Q v' H1) (he : attributeBase e "factor" X.env (eval e X.env) = eval e X.env := by rfl) : WE X (.Attribute e "factor" pos) σ H Q := by
  obtain ⟨fd, F, hb⟩ := ok_B_factor (P := X.prog) (w := X.w) (base := X.base) T
  refine we_prop B T.c_Book.cl T.p_Book_factor F hk hb .nil (we_mono h fun y H1 r => ?_) he
  obtain ⟨z, ⟨p, dx, d, sh, fa, ma, fl, ro, rfl, hp, hd, hk⟩, q⟩ := r
  exact ⟨p, dx, _, rfl, hp, z, p, dx, d, sh, fa, ma, fl, ro, _, rfl, hp, hd, rfl, q _ hk.fa⟩
theorem we_B_margin (B : Body X k E) (T : Tm X.K X.mg) (hk : 2 ≤ k) (h : WE X e σ H fun y H1 => ∃ z, BookV X.K z y H1 ∧ ∀ v', TimeV (CT X.K) z.margin v' H1 → Q v' H1) (he : attributeBase e "margin" X.env (eval e X.env) = eval e X.env := by rfl) : WE X (.Attribute e "margin" pos) σ H Q := by
  obtain ⟨fd, F, hb⟩ := ok_B_margin (P := X.prog) (w := X.w) (base := X.base) T
  refine we_prop B T.c_Book.cl T.p_Book_margin F hk hb .nil (we_mono h fun y H1 r => ?_) he
  obtain ⟨z, ⟨p, dx, d, sh, fa, ma, fl, ro, rfl, hp, hd, hk⟩, q⟩ := r
  exact ⟨p, dx, _, rfl, hp, z, p, dx, d, sh, fa, ma, fl, ro, _, rfl, hp, hd, rfl, q _ hk.ma⟩
theorem we_B_floor (B : Body X k E) (T : Tm X.K X.mg) (hk : 2 ≤ k) (h : WE X e σ H fun y H1 => ∃ z, BookV X.K z y H1 ∧ ∀ v', OptT X.K z.floor v' H1 → Q v' H1) (he : attributeBase e "floor" X.env (eval e X.env) = eval e X.env := by rfl) : WE X (.Attribute e "floor" pos) σ H Q := by
  obtain ⟨fd, F, hb⟩ := ok_B_floor (P := X.prog) (w := X.w) (base := X.base) T
  refine we_prop B T.c_Book.cl T.p_Book_floor F hk hb .nil (we_mono h fun y H1 r => ?_) he
  obtain ⟨z, ⟨p, dx, d, sh, fa, ma, fl, ro, rfl, hp, hd, hk⟩, q⟩ := r
  exact ⟨p, dx, _, rfl, hp, z, p, dx, d, sh, fa, ma, fl, ro, _, rfl, hp, hd, rfl, q _ hk.fl⟩
theorem we_B_roof (B : Body X k E) (T : Tm X.K X.mg) (hk : 2 ≤ k) (h : WE X e σ H fun y H1 => ∃ z, BookV X.K z y H1 ∧ ∀ v', OptT X.K z.roof v' H1 → Q v' H1) (he : attributeBase e "roof" X.env (eval e X.env) = eval e X.env := by rfl) : WE X (.Attribute e "roof" pos) σ H Q := by
  obtain ⟨fd, F, hb⟩ := ok_B_roof (P := X.prog) (w := X.w) (base := X.base) T
  refine we_prop B T.c_Book.cl T.p_Book_roof F hk hb .nil (we_mono h fun y H1 r => ?_) he
  obtain ⟨z, ⟨p, dx, d, sh, fa, ma, fl, ro, rfl, hp, hd, hk⟩, q⟩ := r
  exact ⟨p, dx, _, rfl, hp, z, p, dx, d, sh, fa, ma, fl, ro, _, rfl, hp, hd, rfl, q _ hk.ro⟩
theorem we_B_doubled (B : Body X k E) (T : Tm X.K X.mg) (hk : 2 ≤ k) (h : WE X e σ H fun y H1 => ∃ z, BookV X.K z y H1 ∧ Q (.bl z.doubled) H1) (he : attributeBase e "doubled" X.env (eval e X.env) = eval e X.env := by rfl) : WE X (.Attribute e "doubled" pos) σ H Q := by
  obtain ⟨fd, F, hb⟩ := ok_B_doubled (P := X.prog) (w := X.w) (base := X.base) T
  refine we_prop B T.c_Book.cl T.p_Book_doubled F hk hb .nil (we_mono h fun y H1 r => ?_) he
  obtain ⟨z, ⟨p, dx, d, sh, fa, ma, fl, ro, rfl, hp, hd, hk⟩, q⟩ := r
  exact ⟨p, dx, _, rfl, hp, z, p, dx, d, sh, fa, ma, fl, ro, _, rfl, hp, hd, rfl, q⟩
theorem we_B_kept (B : Body X k E) (T : Tm X.K X.mg) (hk : 2 ≤ k) (h : WE X e σ H fun y H1 => ∃ z, BookV X.K z y H1 ∧ Q (.bl z.kept) H1) (he : attributeBase e "kept" X.env (eval e X.env) = eval e X.env := by rfl) : WE X (.Attribute e "kept" pos) σ H Q := by
  obtain ⟨fd, F, hb⟩ := ok_B_kept (P := X.prog) (w := X.w) (base := X.base) T
  refine we_prop B T.c_Book.cl T.p_Book_kept F hk hb .nil (we_mono h fun y H1 r => ?_) he
  obtain ⟨z, ⟨p, dx, d, sh, fa, ma, fl, ro, rfl, hp, hd, hk⟩, q⟩ := r
  exact ⟨p, dx, _, rfl, hp, z, p, dx, d, sh, fa, ma, fl, ro, _, rfl, hp, hd, rfl, q⟩
end
local macro_rules | `(tactic| walk_at "bv") => `(tactic| first | assumption | ((with_reducible refine' BookV.mono ?x ?h); (case h => assumption); (case x => walk_at "x")) | fail)
local macro_rules | `(tactic| walk_at "wE") => `(tactic| first | ((with_reducible refine' we_B_sample ?B ?T ?hk ?_ ?he); (case B => assumption); (case T => assumption); (case hk => decide); (case he => rfl)) | ((with_reducible refine' we_B_share ?B ?T ?hk ?_ ?he); (case B => assumption); (case T => assumption); (case hk => decide); (case he => rfl)) | ((with_reducible refine' we_B_latest ?B ?T ?hk ?_ ?he); (case B => assumption); (case T => assumption); (case hk => decide); (case he => rfl)) | ((with_reducible refine' we_B_factor ?B ?T ?hk ?_ ?he); (case B => assumption); (case T => assumption); (case hk => decide); (case he => rfl)) | ((with_reducible refine' we_B_margin ?B ?T ?hk ?_ ?he); (case B => assumption); (case T => assumption); (case hk => decide); (case he => rfl)) | ((with_reducible refine' we_B_floor ?B ?T ?hk ?_ ?he); (case B => assumption); (case T => assumption); (case hk => decide); (case he => rfl)) | ((with_reducible refine' we_B_roof ?B ?T ?hk ?_ ?he); (case B => assumption); (case T => assumption); (case hk => decide); (case he => rfl)) | ((with_reducible refine' we_B_doubled ?B ?T ?hk ?_ ?he); (case B => assumption); (case T => assumption); (case hk => decide); (case he => rfl)) | ((with_reducible refine' we_B_kept ?B ?T ?hk ?_ ?he); (case B => assumption); (case T => assumption); (case hk => decide); (case he => rfl)) | fail)
local macro_rules | `(tactic| walk_at "wX") => `(tactic| first | ((with_reducible refine' bv_ok ?h ?_); (case h => walk_at "bv")) | fail)
/-! ### lesser, greater, made_of, wait_for -/
def rmin (q r : Rat) : Rat := if r < q then r else q
def rmax (q r : Rat) : Rat := if q < r then r else q
def lowW (f : Option Rat) (u : Rat) : Rat := match f with
  | none => u
  | some f => rmax u f
def highW (f : Option Rat) (u : Rat) : Rat := match f with
  | none => u
  | some f => rmin u f
/-- the wait that a book makes of an estimate -/
def madeW (z : Bk) (q : Rat) : Rat := highW z.roof (lowW z.floor (z.factor * q + z.margin))
theorem sz_rmin {q r : Rat} {n : Nat} (h : Sz q n) (h' : Sz r n) : Sz (rmin q r) n := by
  unfold rmin
  split
  · exact h'
  · exact h
theorem sz_rmax {q r : Rat} {n : Nat} (h : Sz q n) (h' : Sz r n) : Sz (rmax q r) n := by
  unfold rmax
  split
  · exact h'
  · exact h
section
variable {P : Program} {w : World} {K : PySem.W.Frag} {mg : Str → Option Value} {base : Heap}
def spTwo (K : PySem.W.Frag) (f : Rat → Rat → Rat) : Sp := fun vs H Q _ => ∃ q r v u, vs = [v, u] ∧ Tim K q v H ∧ Tim K r u H ∧ Sz q 4000 ∧ Sz r 4000 ∧ Ret H (TimeV (CT K) (f q r)) Q
end

/-! ### Book(..) that is refused, Book(..) in the other order, Book() -/
section
variable {P : Program} {w : World} {K : PySem.W.Frag} {mg : Str → Option Value} {base : Heap}
theorem nine {us : List V} (h : us.length = 9) : ∃ a b c d e f g h i, us = [a, b, c, d, e, f, g, h, i] := by
  match us, h with
  | [a, b, c, d, e, f, g, h, i], _ => exact ⟨_, _, _, _, _, _, _, _, _, rfl⟩
def spBInitX (K : PySem.W.Frag) : Sp := fun vs H _ E => ∃ p dx us n, vs = .ref p :: us ∧ H p = some (.ins (CB K) dx []) ∧ BadAt K us n H ∧ ThrG (Ex H) E (ga K "BadBook") "part" (.str (pnx n))
theorem ok_binitX (hP : P = PySem.Challenge.pw_resendtimers_k63_changes_made) (T : Tm K mg) {fd : FuncData} {kws : List (Str × V)} (F : FunD K "__init__" "Book.__init__" (defArgs s_Book___init__) (defBody s_Book___init__) (defScope s_Book___init__) [] kws (ma K (CB K) "__init__") fd) :
    FnOk P w K mg base (RX P w) 10 (ma K (CB K) "__init__") fd ["self", "sample", "share", "latest", "factor", "margin", "floor", "roof", "doubled", "kept"] (spBInitX K) := by
  refine def_ok F sc_Book___init__ (fun vs H Q E h => by
    obtain ⟨p, dx, us, n, rfl, _, hb, _⟩ := h
    obtain ⟨a, b, c, d, e, f, g, h, i, rfl⟩ := nine hb.1
    rfl) ?_
  intro X eP ew eK em eb eN es hf nd H vs Q E B h
  subst eP ew eK em eb
  have n0 : Sl X 0 "self" := slot_of eN es hf nd rfl (by first | exact Or.inl rfl | exact Or.inr rfl) (by decide) (by decide)
  have n1 : Sl X 1 "sample" := slot_of eN es hf nd rfl (by first | exact Or.inl rfl | exact Or.inr rfl) (by decide) (by decide)
  have n2 : Sl X 2 "share" := slot_of eN es hf nd rfl (by first | exact Or.inl rfl | exact Or.inr rfl) (by decide) (by decide)
  have n3 : Sl X 3 "latest" := slot_of eN es hf nd rfl (by first | exact Or.inl rfl | exact Or.inr rfl) (by decide) (by decide)
  have n4 : Sl X 4 "factor" := slot_of eN es hf nd rfl (by first | exact Or.inl rfl | exact Or.inr rfl) (by decide) (by decide)
  have n5 : Sl X 5 "margin" := slot_of eN es hf nd rfl (by first | exact Or.inl rfl | exact Or.inr rfl) (by decide) (by decide)
  have n6 : Sl X 6 "floor" := slot_of eN es hf nd rfl (by first | exact Or.inl rfl | exact Or.inr rfl) (by decide) (by decide)
  have n7 : Sl X 7 "roof" := slot_of eN es hf nd rfl (by first | exact Or.inl rfl | exact Or.inr rfl) (by decide) (by decide)
  have n8 : Sl X 8 "doubled" := slot_of eN es hf nd rfl (by first | exact Or.inl rfl | exact Or.inr rfl) (by decide) (by decide)
  have n9 : Sl X 9 "kept" := slot_of eN es hf nd rfl (by first | exact Or.inl rfl | exact Or.inr rfl) (by decide) (by decide)
  have g_checked : Gn X "checked" := gn_of es rfl (by decide)
  have F_checked := f_checked (P := X.prog) (w := X.w) (base := X.base) T
  clear F_checked
  have FC := f_checkedF (w := X.w) (base := X.base) hP T
  obtain ⟨p, dx, us, n, rfl, hp, hb, k⟩ := h
  obtain ⟨u0, u1, u2, u3, u4, u5, u6, u7, u8, rfl⟩ := nine hb.1
  show WB X [_] _ [some (.ref p), some (u0), some (u1), some (u2), some (u3), some (u4), some (u5), some (u6), some (u7), some (u8)] H
  repeat walk_at "w"
  refine we_disp (fun e => nomatch e) fun d nd' => ?_
  iterate 9
    refine wp_cons ?_
    repeat walk_at "w"
  refine wp_nil ⟨upd_same, pk.zip [u0, u1, u2, u3, u4, u5, u6, u7, u8], rfl, (show 9 ≤ 15 by decide), ?_⟩
  rw [mergeK_zip pk_nd rfl, upd2]
  have x1 : Ex H (upd H d (.dK (pk.zip [u0, u1, u2, u3, u4, u5, u6, u7, u8]))) := Ex.new nd'
  have hd1 : upd H d (.dK (pk.zip [u0, u1, u2, u3, u4, u5, u6, u7, u8])) d = some (.dK (pk.zip [u0, u1, u2, u3, u4, u5, u6, u7, u8])) := upd_same
  show spCheckedB9 _ _ (upd H d (.dK (pk.zip [u0, u1, u2, u3, u4, u5, u6, u7, u8]))) _ _
  exact ⟨d, _, n, rfl, hd1, hb.mono x1, fun H' dd x2 nd2 => k H' dd (x1.trans x2) nd2⟩
def rev9 {α : Type} (us ws : List α) : List α := match us, ws with
  | [s], [k, d, ro, fl, ma, fa, la, sh, sa] => [s, sa, sh, la, fa, ma, fl, ro, d, k]
  | _, _ => []
theorem kb_Book9r {fd : FuncData} {kws : List (Str × V)} (hk : kws ≠ []) (F : FunD K "__init__" "Book.__init__" (defArgs s_Book___init__) (defBody s_Book___init__) (defScope s_Book___init__) [] kws (ma K (CB K) "__init__") fd) :
    ∃ g, KBn K fd ["self", "sample", "share", "latest", "factor", "margin", "floor", "roof", "doubled", "kept"] 1 ["kept", "doubled", "roof", "floor", "margin", "factor", "latest", "share", "sample"] g (fun vs zs => rev9 vs zs) := by
  obtain ⟨mv, hb⟩ := F.kbinds0 (ps := ["self", "sample", "share", "latest", "factor", "margin", "floor", "roof", "doubled", "kept"]) 1 ["kept", "doubled", "roof", "floor", "margin", "factor", "latest", "share", "sample"] [] (fun us _ ws => rev9 us ws) hk (fun q h => nomatch h) (by
    intro vs mz zs us mv ws r1 r2 r3
    cases r1 with
    | nil => exact .nil
    | cons h0 t0 =>
      cases t0 with
      | cons _ _ => exact .nil
      | nil =>
        cases r3 with
        | nil => exact .nil
        | cons g1 r3 => cases r3 with
        | nil => exact .nil
        | cons g2 r3 => cases r3 with
        | nil => exact .nil
        | cons g3 r3 => cases r3 with
        | nil => exact .nil
        | cons g4 r3 => cases r3 with
        | nil => exact .nil
        | cons g5 r3 => cases r3 with
        | nil => exact .nil
        | cons g6 r3 => cases r3 with
        | nil => exact .nil
        | cons g7 r3 => cases r3 with
        | nil => exact .nil
        | cons g8 r3 => cases r3 with
        | nil => exact .nil
        | cons g9 r3 => cases r3 with
        | cons _ _ => exact .nil
        | nil => exact .cons h0 (.cons g9 (.cons g8 (.cons g7 (.cons g6 (.cons g5 (.cons g4 (.cons g3 (.cons g2 (.cons g1 .nil)))))))))) (by
    intro D doc pm an cdv ct us mv ws l1 l2 l3
    match us, ws, l1, l3 with
    | [a], [b1, b2, b3, b4, b5, b6, b7, b8, b9], _, _ => rfl)
  exact ⟨_, hb⟩
theorem k_Book9r (T : Tm K mg) : GKk P w K mg base 10 "Book" (CB K) (spBInit K) 0 ["kept", "doubled", "roof", "floor", "margin", "factor", "latest", "share", "sample"] (fun vs zs => rev9 vs zs) := by
  obtain ⟨fd, F⟩ := T.d_Book___init__
  obtain ⟨g, hb⟩ := kb_Book9r (List.cons_ne_nil _ _) F
  exact ⟨_, fd, _, _, T.g_Book, T.m_Book, ok_binit T F, hb⟩
theorem k_Book9x (hP : P = PySem.Challenge.pw_resendtimers_k63_changes_made) (T : Tm K mg) : GKk P w K mg base 10 "Book" (CB K) (spBInitX K) 0 ["kept", "doubled", "roof", "floor", "margin", "factor", "latest", "share", "sample"] (fun vs zs => rev9 vs zs) := by
  obtain ⟨fd, F⟩ := T.d_Book___init__
  obtain ⟨g, hb⟩ := kb_Book9r (List.cons_ne_nil _ _) F
  exact ⟨_, fd, _, _, T.g_Book, T.m_Book, ok_binitX hP T F, hb⟩
def ord0 {α : Type} (us mv ws : List α) : List α := match us, mv, ws with
  | [s], [a, b, c, d, e, f, g, h, i], [] => [s, a, b, c, d, e, f, g, h, i]
  | _, _, _ => []
theorem k_Book0 (T : Tm K mg) : GKk P w K mg base 10 "Book" (CB K) (spBInit K) 0 [] (fun vs zs => ord0 vs [.str "first", .int 1, .non, .int 1, .int 0, .non, .non, .bl false, .bl false] zs) := by
  obtain ⟨fd, F⟩ := T.d_Book___init__
  obtain ⟨mv, hb⟩ := F.kbinds0 (ps := ["self", "sample", "share", "latest", "factor", "margin", "floor", "roof", "doubled", "kept"]) 1 [] [("sample", .str "first"), ("share", .int 1), ("latest", .non), ("factor", .int 1), ("margin", .int 0), ("floor", .non), ("roof", .non), ("doubled", .bl false), ("kept", .bl false)] ord0 (List.cons_ne_nil _ _) (fun q h => by
    simp only [List.mem_cons, List.not_mem_nil, or_false] at h
    rcases h with rfl | rfl | rfl | rfl | rfl | rfl | rfl | rfl | rfl <;> simp [Dv.v]) (by
    intro vs mz zs us mv ws r1 r2 r3
    cases r1 with
    | nil => exact .nil
    | cons h0 t0 =>
      cases t0 with
      | cons _ _ => exact .nil
      | nil =>
        cases r2 with
        | nil => exact .nil
        | cons g1 r3' => cases r3' with
        | nil => exact .nil
        | cons g2 r3' => cases r3' with
        | nil => exact .nil
        | cons g3 r3' => cases r3' with
        | nil => exact .nil
        | cons g4 r3' => cases r3' with
        | nil => exact .nil
        | cons g5 r3' => cases r3' with
        | nil => exact .nil
        | cons g6 r3' => cases r3' with
        | nil => exact .nil
        | cons g7 r3' => cases r3' with
        | nil => exact .nil
        | cons g8 r3' => cases r3' with
        | nil => exact .nil
        | cons g9 r3' => cases r3' with
        | cons _ _ => exact .nil
        | nil => cases r3 with
        | cons _ _ => exact .nil
        | nil => exact .cons h0 (.cons g1 (.cons g2 (.cons g3 (.cons g4 (.cons g5 (.cons g6 (.cons g7 (.cons g8 (.cons g9 .nil)))))))))) (by
    intro D doc pm an cdv ct us mv ws l1 l2 l3
    match us, mv, ws, l1, l2, l3 with
    | [a], [m1, m2, m3, m4, m5, m6, m7, m8, m9], [], _, _, _ => exact ⟨_, _, _, _, _, _, rfl, rfl, _, _, _, _, _, _, rfl, rfl, _, _, _, _, _, _, rfl, rfl, _, _, _, _, _, _, rfl, rfl, _, _, _, _, _, _, rfl, rfl, _, _, _, _, _, _, rfl, rfl, _, _, _, _, _, _, rfl, rfl, _, _, _, _, _, _, rfl, rfl, _, _, _, _, _, _, rfl, rfl, rfl⟩)
  exact ⟨_, fd, _, _, T.g_Book, T.m_Book, ok_binit T F, hb⟩
theorem made_x {H : Hp} {E : XK} {Q : VK} {us : List V} {n : Nat} (hb : BadAt K us n H) (k : ThrG (Ex H) E (ga K "BadBook") "part" (.str (pnx n))) :
    ∀ a dx, H a = none → H dx = none → dx ≠ a → spBInitX K (.ref a :: us) (upd (upd H dx (.own a)) a (.ins (CB K) dx [])) Q E := by
  intro a dx na nd ne
  have x1 : Ex H (upd (upd H dx (.own a)) a (.ins (CB K) dx [])) := Ex.new2 na nd
  exact ⟨a, dx, us, n, rfl, upd_same, hb.mono x1, fun H' dd x2 nd2 => k H' dd (x1.trans x2) nd2⟩
end

/-! ### the source of draws -/
local macro_rules | `(tactic| walk_at "hp") => `(tactic| first | assumption | exact upd_same)
local macro_rules | `(tactic| walk_at "wE") => `(tactic| first | ((with_reducible refine' we_at ?_ ?hb); (case hb => intro _ _; rfl)) | ((with_reducible refine' we_len ?b ?_ ?h1 ?h2); (case b => with_reducible assumption); (case h1 => rfl); (case h2 => rfl)) | ((with_reducible refine' we_int1 ?b ?_ ?h1 ?h2); (case b => with_reducible assumption); (case h1 => rfl); (case h2 => rfl)) | fail)
local macro_rules | `(tactic| walk_at "wO") => `(tactic| first | ((with_reducible refine' o_pow ?hc ?_); (case hc => exact cpow_of (by decide))) | fail)
local macro_rules | `(tactic| walk_at "wS") => `(tactic| first | ((with_reducible refine' ws_put ?_ ?hs ?hw ?ha); (case hs => rfl); (case hw => rfl); (case ha => intro _; rfl)) | fail)
local macro_rules | `(tactic| walk_at "wR") => `(tactic| first | ((with_reducible refine' at_l ?hp ?he ?_); (case hp => walk_at "hp"); (case he => rfl)) | ((with_reducible refine' at_t ?hp ?he ?_); (case hp => walk_at "hp"); (case he => rfl)) | fail)
local macro_rules | `(tactic| walk_at "wX") => `(tactic| first | ((with_reducible refine' len_l ?hp ?_); (case hp => walk_at "hp")) | ((with_reducible refine' len_t ?hp ?_); (case hp => walk_at "hp")) | fail)
section
variable {P : Program} {w : World} {K : PySem.W.Frag} {mg : Str → Option Value} {base : Heap}
theorem f__law_draw (T : Tm K mg) : GFn P w K mg base 1 "_law_draw" spDraw := by
  obtain ⟨fd, F⟩ := T.d__law_draw
  refine GFn.mk F T.g__law_draw (def_ok F sc__law_draw (fun vs H Q E h => by obtain ⟨p, n, rfl, _⟩ := h; rfl) ?_) (F.bindsN fun _ _ _ _ _ _ us hl => match us, hl with | [_, _], _ => rfl)
  intro X eP ew eK em eb eN es hf nd H vs Q E B h
  subst eP ew eK em eb
  have n0 : Sl X 0 "_law_source" := slot_of eN es hf nd rfl (by first | exact Or.inl rfl | exact Or.inr rfl) (by decide) (by decide)
  have n1 : Sl X 1 "_law_limit" := slot_of eN es hf nd rfl (by first | exact Or.inl rfl | exact Or.inr rfl) (by decide) (by decide)
  have n2 : Sl X 2 "_law_cell" := slot_of eN es hf nd rfl (by first | exact Or.inl rfl | exact Or.inr rfl) (by decide) (by decide)
  have n3 : Sl X 3 "_law_digit" := slot_of eN es hf nd rfl (by first | exact Or.inl rfl | exact Or.inr rfl) (by decide) (by decide)
  have z_len : Bn X "len" := bn_of es rfl T.z_len
  have z_int : Bn X "int" := bn_of es rfl T.z_int
  obtain ⟨p, n, rfl, so, h0, hn, k⟩ := h
  obtain ⟨l, o, ns, hp, s, hl⟩ := so.ex
  obtain ⟨i, b, r, rfl, hi, hr, hr2⟩ := s
  have s : SrcL l (.lst [.ref l, .int i, .int b, .int r]) := ⟨i, b, r, rfl, hi, hr, hr2⟩
  show WB X [_, _, _, _] _ [some (.ref p), some (.int n), none, none] H
  have fin : ∀ {b r : Int} {i : Int} {H1 : Hp} {D : Ends} {c d : Option V}, D.rt = Q → Ex H H1 → H1 l = some (.lst (List.map V.int ns)) → H1 p = some (.lst [.ref l, .int i, .int b, .int r]) → SrcL l (.lst [.ref l, .int i, .int b, .int r]) → WB X (List.drop 1 (defBody s__law_draw)) D [some (.ref p), some (.int n), c, d] H1 := by
    intro b r i H1 D c d eD x1 hl hp s
    have hr : 0 ≤ r ∧ r < 2147483647 := by
      obtain ⟨i2, b2, r2, e, h1, h2, h3⟩ := s
      injection e with e; injection e with _ e; injection e with e1 e; injection e with e2 e; injection e with e3 e
      cases e3
      exact ⟨h2, h3⟩
    show WB X [_, _, _] _ _ _
    repeat walk_at "w"
    refine ite_dec (fun hb => ?_) (fun hb => ?_)
    · repeat walk_at "w"
      refine o_mod h0 ?_
      repeat walk_at "w"
      refine o_fdiv (by omega) (log2_small hn (by decide) (by decide)) ?_
      repeat walk_at "w"
      refine putS2 hl hp s fun H2 x2 hl hp s => ?_
      repeat walk_at "w"
      rw [eD]
      exact k _ _ (x1.trans x2) (Int.emod_nonneg _ (by omega)) (Int.emod_lt_of_pos _ h0)
    · repeat walk_at "w"
      refine o_mul (cmul31 hr.1 hr.2 (by decide)) ?_
      repeat walk_at "w"
      refine o_mod (by decide) ?_
      repeat walk_at "w"
      refine putS3 hl hp s (Int.emod_nonneg _ (by decide)) (Int.emod_lt_of_pos _ (by decide)) fun H2 x2 hl hp s => ?_
      repeat walk_at "w"
      refine o_fdiv (by decide) (by decide) ?_
      repeat walk_at "w"
      refine o_mod h0 ?_
      repeat walk_at "w"
      rw [eD]
      exact k _ _ (x1.trans x2) (Int.emod_nonneg _ (by omega)) (Int.emod_lt_of_pos _ h0)
  refine wb_cons (ws_if (wt_and2 ?_))
  repeat walk_at "w"
  refine ite_dec (fun hb => ?_) (fun hb => by refine iteF (wb_nil ?_); exact fin rfl (.refl H) hl hp s)
  repeat walk_at "w"
  refine ite_dec (fun hi2 => ?_) (fun hb => by refine wb_nil ?_; exact fin rfl (.refl H) hl hp s)
  repeat walk_at "w"
  have hlt : i.toNat < ns.length := by rw [List.length_map] at hi2; omega
  have hat : atI (ns.map V.int) i = some (.int ns[i.toNat]) := by
    unfold atI ixN
    rw [if_pos hi, if_pos (by rw [List.length_map]; omega)]
    show (ns.map V.int)[i.toNat]? = _
    rw [List.getElem?_map, List.getElem?_eq_getElem hlt]
    rfl
  refine at_l hl hat ?_
  repeat walk_at "w"
  refine putS1 hl hp s (by omega) fun H1 x1 hl hp s => ?_
  repeat walk_at "w"
  refine putS2 hl hp s fun H2 x2 hl hp s => ?_
  repeat walk_at "w"
  refine ite_dec (fun hb => ?_) (fun hb => ?_)
  · repeat walk_at "w"
    refine putS2 hl hp s fun H3 x3 hl hp s => ?_
    repeat walk_at "w"
    refine o_mul (cmul31 hr hr2 (by decide)) ?_
    repeat walk_at "w"
    refine o_mod (by decide) ?_
    repeat walk_at "w"
    refine o_mod (by decide) ?_
    repeat walk_at "w"
    refine putS3 hl hp s (Int.emod_nonneg _ (by decide)) (Int.emod_lt_of_pos _ (by decide)) fun H4 x4 hl hp s => ?_
    exact fin rfl (((x1.trans x2).trans x3).trans x4) hl hp s
  · repeat walk_at "w"
    refine o_mul (cmul31 hr hr2 (by decide)) ?_
    repeat walk_at "w"
    refine o_mod (by decide) ?_
    repeat walk_at "w"
    refine o_mod (by decide) ?_
    repeat walk_at "w"
    refine putS3 hl hp s (Int.emod_nonneg _ (by decide)) (Int.emod_lt_of_pos _ (by decide)) fun H4 x4 hl hp s => ?_
    exact fin rfl ((x1.trans x2).trans x4) hl hp s
end

/-! ### _law_divisor, _law_lowest, _law_integer -/
local macro_rules | `(tactic| walk_at "sou") => `(tactic| first | assumption | ((with_reducible refine' Sou.mono ?s ?x); (case s => assumption); (case x => walk_at "x")))
local macro_rules | `(tactic| walk_at "wO") => `(tactic| first | ((with_reducible refine' o_fdiv ?h0 ?h1 ?_); (case h0 => decide); (case h1 => decide)) | ((with_reducible refine' o_mod ?h0 ?_); (case h0 => decide)) | fail)
local macro_rules | `(tactic| walk_at "wX") => `(tactic| first | ((with_reducible refine' dr_ok ?s ?h0 ?h1 ?_); (case s => walk_at "sou"); (case h0 => decide); (case h1 => exact small_n (by decide))) | fail)

/-! ### _law_number, _law_under -/
local macro_rules | `(tactic| walk_at "hp") => `(tactic| ((with_reducible refine' Ex.tup ?x ?h); (case h => assumption); (case x => walk_at "x")))
local macro_rules | `(tactic| walk_at "wS") => `(tactic| first | ((with_reducible refine' ws_aug ?n ?h0 ?_); (case n => with_reducible assumption); (case h0 => rfl)) | fail)
local macro_rules | `(tactic| walk_at "wX") => `(tactic| first | with_reducible refine' ret_i fun _ _ _ _ => ?_ | with_reducible refine' draw_i fun _ _ _ _ _ => ?_ | with_reducible refine' num_i fun _ _ _ _ => ?_ | with_reducible refine' und_i fun _ _ _ _ _ => ?_ | with_reducible refine' prs_i fun _ _ _ _ => ?_ | with_reducible refine' yes_i fun _ _ => ?_ | fail)

/-! ### _law_begin -/
local macro_rules | `(tactic| walk_at "wX") => `(tactic| first | ((with_reducible refine' tup_i ?hl fun _ _ _ _ => ?_); (case hl => first | exact len2 | exact len3 | exact len4 | exact len1 | exact len5)) | ((with_reducible refine' lst_i ?hl fun _ _ _ _ _ => ?_); (case hl => first | exact len2 | exact len3 | exact len4 | exact len1 | exact len5)) | fail)
section
variable {P : Program} {w : World} {K : PySem.W.Frag} {mg : Str → Option Value} {base : Heap}
theorem f__law_begin (T : Tm K mg) : GFn P w K mg base 1 "_law_begin" (spBegin K) := by
  obtain ⟨fd, F⟩ := T.d__law_begin
  refine GFn.mk F T.g__law_begin (def_ok F sc__law_begin (fun vs H Q E h => by obtain ⟨a, ns, rfl, _⟩ := h; rfl) ?_) (F.bindsN fun _ _ _ _ _ _ us hl => match us, hl with | [_], _ => rfl)
  intro X eP ew eK em eb eN es hf nd H vs Q E B h
  subst eP ew eK em eb
  have n0 : Sl X 0 "_law_script" := slot_of eN es hf nd rfl (by first | exact Or.inl rfl | exact Or.inr rfl) (by decide) (by decide)
  have z_list : Bn X "list" := bn_of es rfl T.z_list
  obtain ⟨a, ns, rfl, hs, k⟩ := h
  show WB X [_] _ [some (.ref a)] H
  refine wb_one (ws_ret (we_lst (wa_cons (we_listof z_list (we_cutU ?_)) ?_)))
  case refine_2 => rfl
  repeat walk_at "w"
  obtain ⟨ms, em⟩ := cut_ints ns 63
  refine ⟨a, _, 63, rfl, rfl, hs, ?_⟩
  rw [em]
  intro l0 h0
  refine ⟨l0, _, rfl, .inl (.of upd_same), fun l h1 => ?_⟩
  refine wa_three ?_
  repeat walk_at "w"
  rename_i p H2 hp x e
  refine k p H2 (((Ex.new h0).trans (Ex.new h1)).trans x) ⟨l, _, ms, e, src0 (by decide) (by decide) (by decide), ?_⟩
  exact x.keep _ _ upd_same not_src_ints
end

/-! ### for x in range(n), the end not known before -/
section
variable {X : Cx} {k : Nat} {E : L2.St → XK} {x : Str} {D : Ends} {σ : L2.St} {H : Hp} {a : Expr} {i : Nat} {body : List Stmt} {px pr pc pos : Pos}
/-- for x in range(a), the end not known before -/
theorem ws_for_rangeE (B : Body X k E) (s : Sl X i x) (bn : Bn X "range")
    (h : WE X a σ H fun v H1 => ∃ n : Nat, v = .int n ∧ n ≤ 1000000000 ∧ ∃ P : Nat → L2.St → Hp → Prop, P 0 σ H1 ∧ (∀ j σ H, j < n → P j σ H → WB X body { D with nx := P (j + 1), ct := P (j + 1), bk := D.nx } (σ.set i (some (.int j))) H) ∧ ∀ σ H, P n σ H → D.nx σ H)
    (hs : starEach [a] X.env = [(false, eval a X.env)] := by rfl) : WS X (.For (.Name x px) (.Call (.Name "range" pr) [a] [] pc) body [] pos) D σ H := by
  refine wsP (ps_for B.po B.calm (pi_range1 bn.gl bn.no paS hs) (pg_name s.nd s.at_ s.loc s.fn) pbS) ?_
  refine wa_one (we_mono h fun v H1 q => ?_) hs
  obtain ⟨n, rfl, hn, P, p0, ht, hd⟩ := q
  refine ⟨n, rfl, by omega, by omega, for_range (lo := 0) P p0 (fun j σ H hj p => ?_) hd⟩
  have z := ht j σ H (by rw [Int.toNat_natCast] at hj; exact hj) p
  show WB X body _ (σ.set i (some (.int (0 + (j : Int))))) H
  rw [Int.zero_add]
  exact z
end

/-! ### items of drawn lists -/
theorem at_all {K : PySem.W.Frag} {H : Hp} {p : Addr} {xs : List V} {d : Int} {Q : VK} (hp : H p = some (.lst xs)) (d0 : 0 ≤ d) (d1 : d < xs.length) (q : ∀ x ∈ xs, Q x H) : rIx K (.ref p) (.int d) H Q := by
  obtain ⟨n, rfl⟩ := Int.eq_ofNat_of_zero_le d0
  have hn : n < xs.length := by omega
  exact at_l hp (atI_nat (List.getElem?_eq_getElem hn)) (q _ (List.getElem_mem hn))
theorem ns_len {vs : List V} (h : vs.length ≠ 4) : ¬ Src (.lst vs) := fun ⟨_, _, _, _, e, _⟩ => by
  injection e with e
  subst e
  exact h rfl
theorem ns_snd {a : V} {b : Addr} {r : List V} : ¬ Src (.lst (a :: .ref b :: r)) := fun ⟨_, _, _, _, e, _⟩ => by
  injection e with e
  injection e with _ e
  injection e with e _
  cases e
theorem ns_non {r : List V} : ¬ Src (.lst (.non :: r)) := fun ⟨_, _, _, _, e, _⟩ => by
  injection e with e
  injection e with e _
  cases e
theorem ns_str {x : Str} {r : List V} : ¬ Src (.lst (.str x :: r)) := fun ⟨_, _, _, _, e, _⟩ => by
  injection e with e
  injection e with e _
  cases e
theorem lenk {vs : List V} (n : Nat) (h : vs.length = n) (l : n ≤ 1000 := by decide) : vs.length ≤ sizeLine := by
  rw [h]
  exact Nat.le_trans l (by decide)
/-! ### pairs -/
def PrQ (q : Rat) (v : V) (H : Hp) : Prop := ∃ p, v = .ref p ∧ H p = some (.tup [.int q.num, .int q.den])
theorem PrQ.mono {q : Rat} {v : V} {H H' : Hp} (x : Ex H H') (h : PrQ q v H) : PrQ q v H' := by
  obtain ⟨p, e, h⟩ := h
  exact ⟨p, e, x.tup h⟩
def OPr (o : Option Rat) (v : V) (H : Hp) : Prop := match o with
  | none => v = .non
  | some q => PrQ q v H
theorem OPr.mono {o : Option Rat} {v : V} {H H' : Hp} (x : Ex H H') (h : OPr o v H) : OPr o v H' := by
  cases o with
  | none => exact h
  | some q => exact PrQ.mono x h
/-- a pair that comes back -/
def RetP (H : Hp) (q : Rat) (Q : VK) : Prop := ∀ v H', Ex H H' → PrQ q v H' → Q v H'
theorem retp_i {H : Hp} {q : Rat} {Q : VK} (h : ∀ v H', Ex H H' → PrQ q v H' → Q v H') : RetP H q Q := h
theorem RetP.mono {H H' : Hp} {q : Rat} {Q : VK} (k : RetP H q Q) (x : Ex H H') : RetP H' q Q := fun v H2 y h => k v H2 (x.trans y) h
theorem pq_at0 {K : PySem.W.Frag} {q : Rat} {v : V} {H : Hp} {Q : VK} (h : PrQ q v H) (k : Q (.int q.num) H) : rIx K v (.int 0) H Q := by
  obtain ⟨p, rfl, h⟩ := h
  exact at_t h rfl k
theorem pq_at1 {K : PySem.W.Frag} {q : Rat} {v : V} {H : Hp} {Q : VK} (h : PrQ q v H) (k : Q (.int q.den) H) : rIx K v (.int 1) H Q := by
  obtain ⟨p, rfl, h⟩ := h
  exact at_t h rfl k
local macro_rules | `(tactic| walk_at "pq") => `(tactic| first | assumption | ((with_reducible refine' PrQ.mono ?x ?h); (case h => assumption); (case x => walk_at "x")) | fail)
local macro_rules | `(tactic| walk_at "wE") => `(tactic| first | ((with_reducible refine' we_abs ?b ?_ ?h1 ?h2); (case b => with_reducible assumption); (case h1 => rfl); (case h2 => rfl)) | fail)
local macro_rules | `(tactic| walk_at "wR") => `(tactic| first | ((with_reducible refine' pq_at0 ?h ?_); (case h => walk_at "pq")) | ((with_reducible refine' pq_at1 ?h ?_); (case h => walk_at "pq")) | fail)
section
variable {P : Program} {w : World} {K : PySem.W.Frag} {mg : Str → Option Value} {base : Heap}
def spDiv2 : Sp := fun vs H Q _ => ∃ a b, vs = [.int a, .int b] ∧ Q (.int (Int.gcd a b)) H
theorem f__law_divisor (T : Tm K mg) : GFn P w K mg base 1 "_law_divisor" spDiv2 := by
  obtain ⟨fd, F⟩ := T.d__law_divisor
  refine GFn.mk F T.g__law_divisor (def_ok F sc__law_divisor (fun vs H Q E h => by obtain ⟨a, b, rfl, _⟩ := h; rfl) ?_) (F.bindsN fun _ _ _ _ _ _ us hl => match us, hl with | [_, _], _ => rfl)
  intro X eP ew eK em eb eN es hf nd H vs Q E B h
  subst eP ew eK em eb
  have n0 : Sl X 0 "_law_one" := slot_of eN es hf nd rfl (by first | exact Or.inl rfl | exact Or.inr rfl) (by decide) (by decide)
  have n1 : Sl X 1 "_law_other" := slot_of eN es hf nd rfl (by first | exact Or.inl rfl | exact Or.inr rfl) (by decide) (by decide)
  have z_abs : Bn X "abs" := bn_of es rfl T.z_abs
  have z_int : Bn X "int" := bn_of es rfl T.z_int
  have kb : X.env.blockKind = .function := blk_of es rfl
  have k__law_one : X.env.kindOf "_law_one" = some .local := kd_of es rfl
  have k__law_other : X.env.kindOf "_law_other" = some .local := kd_of es rfl
  obtain ⟨a, b, rfl, q⟩ := h
  show WB X [_, _, _] _ [some (.int a), some (.int b)] H
  repeat walk_at "w"
  refine ws_while_by (fun σ H' => ∃ (x y : Int), σ = [some (.int x), some (.int y)] ∧ 0 ≤ x ∧ 0 ≤ y ∧ Int.gcd x y = Int.gcd a b ∧ H' = H) (fun σ _ => match σ with | [_, some (.int y)] => y.toNat | _ => 0) B
    ⟨_, _, rfl, abs_nn a, abs_nn b, gcd_abs a b, rfl⟩ ?_
  rintro σ H' ⟨x, y, rfl, hx, hy, hg, rfl⟩
  repeat walk_at "w"
  refine ite_dec (fun hc => ?_) (fun hc => ?_)
  · repeat walk_at "w"
    refine o_mod hc ?_
    repeat walk_at "w"
    exact ⟨⟨y, x % y, rfl, hy, Int.emod_nonneg _ (by omega), by rw [gcd_turn, hg], rfl⟩, by have := Int.emod_lt_of_pos x hc; have := Int.emod_nonneg x (show y ≠ 0 by omega); show (x % y).toNat < y.toNat; omega⟩
  · repeat walk_at "w"
    have e : (Int.gcd a b : Int) = x := by
      rw [← hg, show y = 0 by omega, Int.gcd_zero_right, Int.natAbs_of_nonneg hx]
    rw [e] at q
    exact q
def spCut : Sp := fun vs H Q _ => ∃ a b, vs = [.int a, .int b] ∧ b ≠ 0 ∧ b.natAbs < 2 ^ 9000 ∧ RetP H (Rat.divInt a b) Q
theorem f__law_cut (T : Tm K mg) : GFn P w K mg base 2 "_law_cut" spCut := by
  obtain ⟨fd, F⟩ := T.d__law_cut
  refine GFn.mk F T.g__law_cut (def_ok F sc__law_cut (fun vs H Q E h => by obtain ⟨a, b, rfl, _⟩ := h; rfl) ?_) (F.bindsN fun _ _ _ _ _ _ us hl => match us, hl with | [_, _], _ => rfl)
  intro X eP ew eK em eb eN es hf nd H vs Q E B h
  subst eP ew eK em eb
  have n0 : Sl X 0 "_law_upper" := slot_of eN es hf nd rfl (by first | exact Or.inl rfl | exact Or.inr rfl) (by decide) (by decide)
  have n1 : Sl X 1 "_law_lower" := slot_of eN es hf nd rfl (by first | exact Or.inl rfl | exact Or.inr rfl) (by decide) (by decide)
  have n2 : Sl X 2 "_law_part" := slot_of eN es hf nd rfl (by first | exact Or.inl rfl | exact Or.inr rfl) (by decide) (by decide)
  have g__law_divisor : Gn X "_law_divisor" := gn_of es rfl (by decide)
  have F__law_divisor := f__law_divisor (P := X.prog) (w := X.w) (base := X.base) T
  obtain ⟨a, b, rfl, b0, bz, q⟩ := h
  show WB X [_, _, _] _ [some (.int a), some (.int b), none] H
  repeat walk_at "w"
  refine ⟨a, b, rfl, ?_⟩
  repeat walk_at "w"
  have g0 := g1_pos a b
  have eg : (Int.gcd a b : Int) = g1 a b := (g1_of b0).symm
  have gz : (g1 a b).natAbs < 2 ^ 9000 := Nat.lt_of_le_of_lt (g1_le b0) bz
  have hn := made_num (t := a) b0
  have hd := made_den (t := a) b0
  rw [eg]
  refine ite_dec (fun hneg => ?_) fun hneg => ?_
  · rw [if_pos hneg, Int.zero_sub] at hn hd
    repeat walk_at "w"
    refine o_fdiv (by omega) (log2_small (m := 9000) (by rw [Int.natAbs_neg]; exact gz) (by decide) (by decide)) ?_
    repeat walk_at "w"
    refine o_fdiv (by omega) (log2_small (m := 9000) (by rw [Int.natAbs_neg]; exact gz) (by decide) (by decide)) ?_
    rw [hn, hd]
    exact ⟨(show 2 ≤ sizeLine by decide), fun p H2 h0 x e => q (.ref p) H2 x ⟨p, rfl, by subst e; exact upd_same⟩⟩
  · rw [if_neg hneg] at hn hd
    repeat walk_at "w"
    refine o_fdiv (by omega) (log2_small (m := 9000) gz (by decide) (by decide)) ?_
    repeat walk_at "w"
    refine o_fdiv (by omega) (log2_small (m := 9000) gz (by decide) (by decide)) ?_
    rw [hn, hd]
    exact ⟨(show 2 ≤ sizeLine by decide), fun p H2 h0 x e => q (.ref p) H2 x ⟨p, rfl, by subst e; exact upd_same⟩⟩
def spPair2 (f : Rat → Rat → Rat) : Sp := fun vs H Q _ => ∃ q r v u, vs = [v, u] ∧ PrQ q v H ∧ PrQ r u H ∧ Sz q 4000 ∧ Sz r 4000 ∧ RetP H (f q r) Q
theorem Sz.nn {q : Rat} {n : Nat} (h : Sz q n) : q.num.natAbs < 2 ^ n := h.num
theorem f__law_sum (T : Tm K mg) : GFn P w K mg base 3 "_law_sum" (spPair2 ((· + ·))) := by
  obtain ⟨fd, F⟩ := T.d__law_sum
  refine GFn.mk F T.g__law_sum (def_ok F sc__law_sum (fun vs H Q E h => by obtain ⟨q, r, v, u, rfl, _⟩ := h; rfl) ?_) (F.bindsN fun _ _ _ _ _ _ us hl => match us, hl with | [_, _], _ => rfl)
  intro X eP ew eK em eb eN es hf nd H vs Q E B h
  subst eP ew eK em eb
  have n0 : Sl X 0 "_law_one" := slot_of eN es hf nd rfl (by first | exact Or.inl rfl | exact Or.inr rfl) (by decide) (by decide)
  have n1 : Sl X 1 "_law_other" := slot_of eN es hf nd rfl (by first | exact Or.inl rfl | exact Or.inr rfl) (by decide) (by decide)
  have g__law_cut : Gn X "_law_cut" := gn_of es rfl (by decide)
  have F__law_cut := f__law_cut (P := X.prog) (w := X.w) (base := X.base) T
  obtain ⟨q, r, v, u, rfl, hv, hu, hq, hr, k⟩ := h
  show WB X [_] _ [some (v), some (u)] H
  repeat walk_at "w"
  exact ⟨_, _, rfl, dd_ne q r, dd_sz hq hr, by rw [add_eq]; exact k⟩
def spLess : Sp := fun vs H Q _ => ∃ q r v u, vs = [v, u] ∧ PrQ q v H ∧ PrQ r u H ∧ Sz q 4000 ∧ Sz r 4000 ∧ Q (.bl (decide (q < r))) H
theorem f__law_less (T : Tm K mg) : GFn P w K mg base 1 "_law_less" spLess := by
  obtain ⟨fd, F⟩ := T.d__law_less
  refine GFn.mk F T.g__law_less (def_ok F sc__law_less (fun vs H Q E h => by obtain ⟨q, r, v, u, rfl, _⟩ := h; rfl) ?_) (F.bindsN fun _ _ _ _ _ _ us hl => match us, hl with | [_, _], _ => rfl)
  intro X eP ew eK em eb eN es hf nd H vs Q E B h
  subst eP ew eK em eb
  have n0 : Sl X 0 "_law_one" := slot_of eN es hf nd rfl (by first | exact Or.inl rfl | exact Or.inr rfl) (by decide) (by decide)
  have n1 : Sl X 1 "_law_other" := slot_of eN es hf nd rfl (by first | exact Or.inl rfl | exact Or.inr rfl) (by decide) (by decide)
  obtain ⟨q, r, v, u, rfl, hv, hu, hq, hr, z⟩ := h
  show WB X [_] _ [some (v), some (u)] H
  repeat walk_at "w"
  rw [show decide (q.num * (r.den : Int) < r.num * (q.den : Int)) = decide (q < r) from by congr 1; exact propext (Rat.lt_iff q r).symm]
  exact z
/-- one of two pairs, the value itself -/
def spPick (f : Rat → Rat → Rat) : Sp := fun vs H Q _ => ∃ q r v u, vs = [v, u] ∧ PrQ q v H ∧ PrQ r u H ∧ Sz q 4000 ∧ Sz r 4000 ∧ ∀ y, PrQ (f q r) y H → Q y H
def spPTime (K : PySem.W.Frag) : Sp := fun vs H Q _ => ∃ o v, vs = [v] ∧ OPr o v H ∧ (∀ q, o = some q → Sz q 8000) ∧ ∀ v' H', Ex H H' → OptT K o v' H' → Q v' H'
theorem f__law_time (T : Tm K mg) : GFn P w K mg base 4 "_law_time" (spPTime K) := by
  obtain ⟨fd, F⟩ := T.d__law_time
  refine GFn.mk F T.g__law_time (def_ok F sc__law_time (fun vs H Q E h => by obtain ⟨o, v, rfl, _⟩ := h; rfl) ?_) (F.bindsN fun _ _ _ _ _ _ us hl => match us, hl with | [_], _ => rfl)
  intro X eP ew eK em eb eN es hf nd H vs Q E B h
  subst eP ew eK em eb
  have n0 : Sl X 0 "_law_pair" := slot_of eN es hf nd rfl (by first | exact Or.inl rfl | exact Or.inr rfl) (by decide) (by decide)
  have g_Time : Gn X "Time" := gn_of es rfl (by decide)
  have m_Time := T.g_Time
  obtain ⟨o, v, rfl, hv, hz, k⟩ := h
  show WB X [_] _ [some (v)] H
  cases o with
  | none =>
    cases hv
    repeat walk_at "w"
    rw [decide_eq_true (rfl : V.non = V.non)]
    repeat walk_at "w"
    exact k _ _ (.refl _) rfl
  | some q =>
    have hv : PrQ q v H := hv
    have nn : v ≠ .non := by
      obtain ⟨p, rfl, _⟩ := hv
      exact fun e => nomatch e
    repeat walk_at "w"
    rw [decide_eq_false nn]
    repeat walk_at "w"
    refine ⟨_, _, rfl, rfl, den_ne q, g1_sz (den_ne q) (den_sz (hz q rfl)), fun v' H' x h => k _ _ x ?_⟩
    rw [Rat.num_divInt_den] at h
    exact h
def spPIs (K : PySem.W.Frag) : Sp := fun vs H Q _ => ∃ o v u, vs = [v, u] ∧ OptT K o v H ∧ OPr o u H ∧ Yes H Q
theorem f__law_is (T : Tm K mg) : GFn P w K mg base 3 "_law_is" (spPIs K) := by
  obtain ⟨fd, F⟩ := T.d__law_is
  refine GFn.mk F T.g__law_is (def_ok F sc__law_is (fun vs H Q E h => by obtain ⟨o, v, u, rfl, _⟩ := h; rfl) ?_) (F.bindsN fun _ _ _ _ _ _ us hl => match us, hl with | [_, _], _ => rfl)
  intro X eP ew eK em eb eN es hf nd H vs Q E B h
  subst eP ew eK em eb
  have n0 : Sl X 0 "_law_thing_here" := slot_of eN es hf nd rfl (by first | exact Or.inl rfl | exact Or.inr rfl) (by decide) (by decide)
  have n1 : Sl X 1 "_law_pair" := slot_of eN es hf nd rfl (by first | exact Or.inl rfl | exact Or.inr rfl) (by decide) (by decide)
  have z_isinstance : Bn X "isinstance" := bn_of es rfl T.z_isinstance
  have g_Time : Gn X "Time" := gn_of es rfl (by decide)
  have m_Time := T.g_Time
  obtain ⟨o, v, u, rfl, hv, hu, k⟩ := h
  show WB X [_, _] _ [some (v), some (u)] H
  cases o with
  | none =>
    cases hv
    cases hu
    repeat walk_at "w"
    rw [decide_eq_true (rfl : V.non = V.non)]
    repeat walk_at "w"
    rw [decide_eq_true (rfl : V.non = V.non)]
    exact k _ (.refl _)
  | some q =>
    have hv : TimeV (CT X.K) q v H := hv
    obtain ⟨p, rfl, hp⟩ : PrQ q u H := hu
    repeat walk_at "w"
    rw [decide_eq_false (show ¬ V.ref p = V.non from fun e => nomatch e)]
    repeat walk_at "w"
    refine ⟨true, ⟨_, _, .own _, tyT T hv, T.k_Time.self⟩, ?_⟩
    repeat walk_at "w"
    rename_i t H1 x1 ht
    refine o_eqT2 B ht (x1.tup hp) ?_
    rw [decide_eq_true rfl, decide_eq_true rfl]
    exact k _ x1
/-- a drawn time -/
def MomP (q : Rat) : Prop := 0 < q ∧ Sz q 8
theorem mom_of {a b : Int} (a0 : 1 ≤ a) (a1 : a ≤ 60) (b0 : 1 ≤ b) (b1 : b ≤ 60) : MomP (Rat.divInt a b) := by
  refine ⟨?_, Sz.div (by omega) (by omega) (by omega)⟩
  obtain ⟨n, rfl⟩ := Int.eq_ofNat_of_zero_le (show 0 ≤ b by omega)
  exact (sc_pos (show n ≠ 0 by omega)).mpr (by omega)
def spMoment : Sp := fun vs H Q _ => ∃ p, vs = [.ref p] ∧ Sou H p ∧ ∀ q v H', Ex H H' → PrQ q v H' → MomP q → Q v H'
theorem f__law_moment (T : Tm K mg) : GFn P w K mg base 3 "_law_moment" spMoment := by
  obtain ⟨fd, F⟩ := T.d__law_moment
  refine GFn.mk F T.g__law_moment (def_ok F sc__law_moment (fun vs H Q E h => by obtain ⟨p, rfl, _⟩ := h; rfl) ?_) (F.bindsN fun _ _ _ _ _ _ us hl => match us, hl with | [_], _ => rfl)
  intro X eP ew eK em eb eN es hf nd H vs Q E B h
  subst eP ew eK em eb
  have n0 : Sl X 0 "_law_source" := slot_of eN es hf nd rfl (by first | exact Or.inl rfl | exact Or.inr rfl) (by decide) (by decide)
  have n1 : Sl X 1 "_law_top" := slot_of eN es hf nd rfl (by first | exact Or.inl rfl | exact Or.inr rfl) (by decide) (by decide)
  have g__law_draw : Gn X "_law_draw" := gn_of es rfl (by decide)
  have F__law_draw := f__law_draw (P := X.prog) (w := X.w) (base := X.base) T
  have g__law_cut : Gn X "_law_cut" := gn_of es rfl (by decide)
  have F__law_cut := f__law_cut (P := X.prog) (w := X.w) (base := X.base) T
  obtain ⟨p, rfl, so, k⟩ := h
  show WB X [_, _] _ [some (.ref p), none] H
  repeat walk_at "w"
  rename_i l H1 nl x1 hl d H2 x2 d0 d1
  refine at_all (x2.keep _ _ hl (ns_len (show 3 ≠ 4 by decide))) d0 d1 ?_
  intro y hy
  obtain ⟨m, rfl, m0, m1⟩ : ∃ m : Int, y = .int m ∧ 1 ≤ m ∧ m ≤ 60 := by
    simp only [List.mem_cons, List.not_mem_nil, or_false] at hy
    rcases hy with rfl | rfl | rfl
    · exact ⟨_, rfl, by decide, by decide⟩
    · exact ⟨_, rfl, by decide, by decide⟩
    · exact ⟨_, rfl, by decide, by decide⟩
  refine dr_ok (so.mono (x1.trans x2)) (by omega) (small_n (le_pow (n := 20) (by omega) (by decide))) ?_
  repeat walk_at "w"
  rename_i e H3 x3 e0 e1 l2 H4 nl2 x4 hl2 d2 H5 x5 d20 d21
  refine at_all (x5.keep _ _ hl2 (ns_len (show 3 ≠ 4 by decide))) d20 d21 ?_
  intro y hy
  obtain ⟨m', rfl, m0', m1'⟩ : ∃ m : Int, y = .int m ∧ 1 ≤ m ∧ m ≤ 60 := by
    simp only [List.mem_cons, List.not_mem_nil, or_false] at hy
    rcases hy with rfl | rfl | rfl
    · exact ⟨_, rfl, by decide, by decide⟩
    · exact ⟨_, rfl, by decide, by decide⟩
    · exact ⟨_, rfl, by decide, by decide⟩
  refine dr_ok (so.mono ((((x1.trans x2).trans x3).trans x4).trans x5)) (by omega) (small_n (le_pow (n := 20) (by omega) (by decide))) ?_
  repeat walk_at "w"
  rename_i f H6 x6 f0 f1
  refine ⟨_, _, rfl, by omega, le_pow (n := 20) (by omega) (by decide), fun v H7 x7 hv => ?_⟩
  exact k _ v H7 ((((((x1.trans x2).trans x3).trans x4).trans x5).trans x6).trans x7) hv (mom_of (by omega) (by omega) (by omega) (by omega))
end

/-! ### drawn rules of a book -/
theorem prq_lit {p : Addr} {a b : Int} {H : Hp} (hn : (Rat.divInt a b).num = a) (hd : ((Rat.divInt a b).den : Int) = b) (h : H p = some (.tup [.int a, .int b])) : PrQ (Rat.divInt a b) (.ref p) H := ⟨p, rfl, by rw [hn, hd]; exact h⟩
def SharP (q : Rat) : Prop := 0 < q ∧ q ≤ 1 ∧ Sz q 8
theorem sc_self {L : Nat} (h : L ≠ 0) : sc L L = 1 := by
  unfold sc
  rw [Rat.divInt_self' (by omega)]
theorem shar_of {a b : Int} (a0 : 1 ≤ a) (a1 : a ≤ b) (b1 : b ≤ 60) : SharP (Rat.divInt a b) := by
  obtain ⟨n, rfl⟩ := Int.eq_ofNat_of_zero_le (show 0 ≤ b by omega)
  have hn : n ≠ 0 := by omega
  refine ⟨(sc_pos hn).mpr (by omega), Rat.not_lt.mp fun h => ?_, Sz.div (by omega) (by omega) (by omega)⟩
  rw [← sc_self hn] at h
  have := (sc_lt hn _ _).mp h
  omega
theorem ge1_of {a b : Int} (b0 : 1 ≤ b) (h : b ≤ a) : 1 ≤ Rat.divInt a b := by
  obtain ⟨n, rfl⟩ := Int.eq_ofNat_of_zero_le (show 0 ≤ b by omega)
  have hn : n ≠ 0 := by omega
  refine Rat.not_lt.mp fun q => ?_
  rw [← sc_self hn] at q
  have := (sc_lt hn _ _).mp q
  omega
theorem ge0_of {a b : Int} (b0 : 1 ≤ b) (h : 0 ≤ a) : 0 ≤ Rat.divInt a b := by
  obtain ⟨n, rfl⟩ := Int.eq_ofNat_of_zero_le (show 0 ≤ b by omega)
  have hn : n ≠ 0 := by omega
  refine Rat.not_lt.mp fun q => ?_
  rw [← sc_zero n] at q
  have := (sc_lt hn _ _).mp q
  omega
/-- the nine rules as the law keeps them -/
structure RuP (z : Bk) (v1 v3 v4 v5 v6 : V) (H : Hp) : Prop where
  sh : PrQ z.share v1 H
  fa : PrQ z.factor v3 H
  ma : PrQ z.margin v4 H
  fl : OPr z.floor v5 H
  ro : OPr z.roof v6 H
theorem RuP.mono {z : Bk} {v1 v3 v4 v5 v6 : V} {H H' : Hp} (x : Ex H H') (h : RuP z v1 v3 v4 v5 v6 H) : RuP z v1 v3 v4 v5 v6 H' := ⟨h.sh.mono x, h.fa.mono x, h.ma.mono x, h.fl.mono x, h.ro.mono x⟩
/-- small parts -/
structure BkSm (z : Bk) : Prop where
  ok : BkOk z
  s1 : Sz z.share 8
  s2 : Sz z.factor 40
  s3 : Sz z.margin 40
  s4 : ∀ f, z.floor = some f → Sz f 40
  s5 : ∀ f, z.roof = some f → Sz f 40
theorem ns9 {z : Bk} {v1 v3 v4 v5 v6 : V} : ¬ Src (.lst (row9 z v1 v3 v4 v5 v6)) := ns_len (show 9 ≠ 4 by decide)
theorem ne1_iff {q : Rat} : (q.num = 1 ∧ (q.den : Int) = 1) ↔ q = 1 := by
  have := rat_ext (q := q) (r := 1)
  exact this
section
variable {X : Cx} {k : Nat} {E : L2.St → XK} {H : Hp} {Q : VK} {p p' : Addr} {a b c d : Int}
theorem o_neT2 (B : Body X k E) (h : H p = some (.tup [.int a, .int b])) (h' : H p' = some (.tup [.int c, .int d])) (q : Q (.bl (!(decide (a = c) && decide (b = d)))) H) : Op2 X (compareOp .NotEq) (.ref p) (.ref p') H Q :=
  op2_of (op_neD (by have := B.room.un; omega)) ⟨.tuple [.int a, .int b], .tuple [.int c, .int d], .tup (.of h) (dp_ints [a, b]), .tup (.of h') (dp_ints [c, d]), shaped2 a b, shaped2 c d, by rw [eqv2]; exact q⟩
theorem o_catL {l b : Addr} {xs zs : List V} (h1 : H l = some (.lst xs)) (h2 : H b = some (.lst zs)) (h3 : xs.length + zs.length ≤ sizeLine) (q : ∀ p, H p = none → Q (.ref p) (upd H p (.lst (xs ++ zs)))) : Op2 X (binaryOp .Add) (.ref l) (.ref b) H Q :=
  op2_of op_cat ⟨l, b, xs, zs, rfl, rfl, h1, h2, h3, q⟩
end
section
variable {P : Program} {w : World} {K : PySem.W.Frag} {mg : Str → Option Value} {base : Heap}
def spShare : Sp := fun vs H Q _ => ∃ p, vs = [.ref p] ∧ Sou H p ∧ ∀ q v H', Ex H H' → PrQ q v H' → SharP q → Q v H'
theorem f__law_share (T : Tm K mg) : GFn P w K mg base 3 "_law_share" spShare := by
  obtain ⟨fd, F⟩ := T.d__law_share
  refine GFn.mk F T.g__law_share (def_ok F sc__law_share (fun vs H Q E h => by obtain ⟨p, rfl, _⟩ := h; rfl) ?_) (F.bindsN fun _ _ _ _ _ _ us hl => match us, hl with | [_], _ => rfl)
  intro X eP ew eK em eb eN es hf nd H vs Q E B h
  subst eP ew eK em eb
  have n0 : Sl X 0 "_law_source" := slot_of eN es hf nd rfl (by first | exact Or.inl rfl | exact Or.inr rfl) (by decide) (by decide)
  have n1 : Sl X 1 "_law_some" := slot_of eN es hf nd rfl (by first | exact Or.inl rfl | exact Or.inr rfl) (by decide) (by decide)
  have g__law_cut : Gn X "_law_cut" := gn_of es rfl (by decide)
  have F__law_cut := f__law_cut (P := X.prog) (w := X.w) (base := X.base) T
  have g__law_draw : Gn X "_law_draw" := gn_of es rfl (by decide)
  have F__law_draw := f__law_draw (P := X.prog) (w := X.w) (base := X.base) T
  obtain ⟨p, rfl, so, k⟩ := h
  show WB X [_, _] _ [some (.ref p), none] H
  repeat walk_at "w"
  rename_i t1 H1 x1 e1 t2 H2 x2 e2 t3 H3 x3 e3 t4 H4 x4 e4 t5 H5 x5 e5 d H6 x6 d0 d1
  refine ⟨_, _, rfl, by decide, le_pow (n := 20) (by decide) (by decide), fun v H7 x7 hv => ?_⟩
  refine lst_i (lenk 6 rfl) fun l H8 nl x8 hl => ?_
  repeat walk_at "w"
  rename_i g H9 x9 g0 g1
  refine at_all (x9.keep _ _ hl (ns_len (show 6 ≠ 4 by decide))) g0 g1 ?_
  have b5 := (((x6.trans x7).trans x8).trans x9)
  have b4 := x5.trans b5
  have b3 := x4.trans b4
  have b2 := x3.trans b3
  have b1 := x2.trans b2
  have b0 := x1.trans b1
  intro y hy
  simp only [List.mem_cons, List.not_mem_nil, or_false] at hy
  rcases hy with rfl | rfl | rfl | rfl | rfl | rfl
  · exact k _ _ _ b0 (prq_lit (by decide +kernel) (by decide +kernel) (b1.tup e1)) (shar_of (by decide) (by decide) (by decide))
  · exact k _ _ _ b0 (prq_lit (by decide +kernel) (by decide +kernel) (b2.tup e2)) (shar_of (by decide) (by decide) (by decide))
  · exact k _ _ _ b0 (prq_lit (by decide +kernel) (by decide +kernel) (b3.tup e3)) (shar_of (by decide) (by decide) (by decide))
  · exact k _ _ _ b0 (prq_lit (by decide +kernel) (by decide +kernel) (b4.tup e4)) (shar_of (by decide) (by decide) (by decide))
  · exact k _ _ _ b0 (prq_lit (by decide +kernel) (by decide +kernel) (b5.tup e5)) (shar_of (by decide) (by decide) (by decide))
  · exact k _ _ _ b0 (hv.mono (x8.trans x9)) (shar_of (by omega) (by omega) (by decide))
def W4 : List Str := ["first", "last", "marked", "clean"]
def spRules : Sp := fun vs H Q _ => ∃ p wl ws, vs = [.ref p, .ref wl] ∧ Sou H p ∧ H wl = some (.lst (List.map V.str ws)) ∧ 0 < ws.length ∧ ws.length ≤ 5 ∧ (∀ x ∈ ws, x ∈ W4) ∧
  ∀ z l v1 v3 v4 v5 v6 H', Ex H H' → H l = none → H' l = some (.lst (row9 z v1 v3 v4 v5 v6)) → RuP z v1 v3 v4 v5 v6 H' → BkSm z → z.word ∈ ws → Q (.ref l) H'
theorem strs_ns {ws : List Str} : ¬ Src (.lst (ws.map V.str)) := by
  cases ws with
  | nil => exact ns_len (show 0 ≠ 4 by decide)
  | cons x ws => exact ns_str
theorem f__law_rules (T : Tm K mg) : GFn P w K mg base 4 "_law_rules" spRules := by
  obtain ⟨fd, F⟩ := T.d__law_rules
  refine GFn.mk F T.g__law_rules (def_ok F sc__law_rules (fun vs H Q E h => by obtain ⟨p, wl, ws, rfl, _⟩ := h; rfl) ?_) (F.bindsN fun _ _ _ _ _ _ us hl => match us, hl with | [_, _], _ => rfl)
  intro X eP ew eK em eb eN es hf nd H vs Q E B h
  subst eP ew eK em eb
  have n0 : Sl X 0 "_law_source" := slot_of eN es hf nd rfl (by first | exact Or.inl rfl | exact Or.inr rfl) (by decide) (by decide)
  have n1 : Sl X 1 "_law_words_here" := slot_of eN es hf nd rfl (by first | exact Or.inl rfl | exact Or.inr rfl) (by decide) (by decide)
  have n2 : Sl X 2 "_law_lesson" := slot_of eN es hf nd rfl (by first | exact Or.inl rfl | exact Or.inr rfl) (by decide) (by decide)
  have n3 : Sl X 3 "_law_portion" := slot_of eN es hf nd rfl (by first | exact Or.inl rfl | exact Or.inr rfl) (by decide) (by decide)
  have n4 : Sl X 4 "_law_newest" := slot_of eN es hf nd rfl (by first | exact Or.inl rfl | exact Or.inr rfl) (by decide) (by decide)
  have n5 : Sl X 5 "_law_multiple" := slot_of eN es hf nd rfl (by first | exact Or.inl rfl | exact Or.inr rfl) (by decide) (by decide)
  have n6 : Sl X 6 "_law_extra" := slot_of eN es hf nd rfl (by first | exact Or.inl rfl | exact Or.inr rfl) (by decide) (by decide)
  have n7 : Sl X 7 "_law_ground" := slot_of eN es hf nd rfl (by first | exact Or.inl rfl | exact Or.inr rfl) (by decide) (by decide)
  have n8 : Sl X 8 "_law_above" := slot_of eN es hf nd rfl (by first | exact Or.inl rfl | exact Or.inr rfl) (by decide) (by decide)
  have n9 : Sl X 9 "_law_cover" := slot_of eN es hf nd rfl (by first | exact Or.inl rfl | exact Or.inr rfl) (by decide) (by decide)
  have n10 : Sl X 10 "_law_twofold" := slot_of eN es hf nd rfl (by first | exact Or.inl rfl | exact Or.inr rfl) (by decide) (by decide)
  have n11 : Sl X 11 "_law_stored" := slot_of eN es hf nd rfl (by first | exact Or.inl rfl | exact Or.inr rfl) (by decide) (by decide)
  have n12 : Sl X 12 "_law_found" := slot_of eN es hf nd rfl (by first | exact Or.inl rfl | exact Or.inr rfl) (by decide) (by decide)
  have g__law_draw : Gn X "_law_draw" := gn_of es rfl (by decide)
  have F__law_draw := f__law_draw (P := X.prog) (w := X.w) (base := X.base) T
  have z_len : Bn X "len" := bn_of es rfl T.z_len
  have g__law_share : Gn X "_law_share" := gn_of es rfl (by decide)
  have F__law_share := f__law_share (P := X.prog) (w := X.w) (base := X.base) T
  have g__law_cut : Gn X "_law_cut" := gn_of es rfl (by decide)
  have F__law_cut := f__law_cut (P := X.prog) (w := X.w) (base := X.base) T
  have g__law_moment : Gn X "_law_moment" := gn_of es rfl (by decide)
  have F__law_moment := f__law_moment (P := X.prog) (w := X.w) (base := X.base) T
  have g__law_sum : Gn X "_law_sum" := gn_of es rfl (by decide)
  have F__law_sum := f__law_sum (P := X.prog) (w := X.w) (base := X.base) T
  have kb : X.env.blockKind = .function := blk_of es rfl
  have k__law_lesson : X.env.kindOf "_law_lesson" = some .local := kd_of es rfl
  have k__law_portion : X.env.kindOf "_law_portion" = some .local := kd_of es rfl
  obtain ⟨p, wl, ws, rfl, so, hw, w0, w4, hW, k⟩ := h
  show WB X [_, _, _, _, _, _, _, _, _, _, _, _] _ [some (.ref p), some (.ref wl), none, none, none, none, none, none, none, none, none, none, none] H
  -- the word, the share
  with_reducible refine' wb_cons ?_
  with_reducible refine' ws_to (fun σ' H' => ∃ x v1 q1, σ' = [some (.ref p), some (.ref wl), some (.str x), some v1, none, none, none, none, none, none, none, none, none] ∧ Ex H H' ∧ x ∈ ws ∧ PrQ q1 v1 H' ∧ SharP q1) ?_ ?_
  · repeat walk_at "w"
    have wl0 : (List.map V.str ws).length = ws.length := List.length_map ..
    refine dr_ok so (by omega) (small_n (le_pow (n := 20) (by omega) (by decide))) ?_
    repeat walk_at "w"
    rename_i d H1 x1 d0 d1
    refine at_all (x1.keep _ _ hw strs_ns) d0 d1 ?_
    intro y hy
    obtain ⟨x, hx, rfl⟩ := List.mem_map.mp hy
    repeat walk_at "w"
    refine ⟨p, rfl, so.mono x1, fun q v H2 x2 hv hq => ?_⟩
    exact ⟨x, v, q, rfl, x1.trans x2, hx, hv, hq⟩
  rintro σ' H1 ⟨x, v1, q1, rfl, y1, hx, hv1, hq1⟩
  have so1 := so.mono y1
  -- the latest
  with_reducible refine' wb_cons ?_
  with_reducible refine' ws_to (fun σ' H' => ∃ o, σ' = [some (.ref p), some (.ref wl), some (.str x), some v1, some (latV o), none, none, none, none, none, none, none, none] ∧ Ex H1 H' ∧ ∀ n, o = some n → 1 ≤ n ∧ n ≤ 20) ?_ ?_
  · repeat walk_at "w"
    rename_i d1 Ha xa d10 d11 d2 Hb xb d20 d21 l Hc nl xc hl d3 Hd xd d30 d31
    refine at_all (xd.keep _ _ hl ns_non) d30 d31 ?_
    have xx := ((xa.trans xb).trans xc).trans xd
    intro y hy
    simp only [List.mem_cons, List.not_mem_nil, or_false] at hy
    rcases hy with rfl | rfl | rfl
    · exact ⟨none, rfl, xx, fun n e => nomatch e⟩
    · exact ⟨some (1 + d1).toNat, by show _ = [_, _, _, _, some (V.int ((1 + d1).toNat : Nat)), _, _, _, _, _, _, _, _]; rw [Int.toNat_of_nonneg (by omega)]; rfl, xx, fun n e => by cases e; omega⟩
    · exact ⟨some (1 + d2).toNat, by show _ = [_, _, _, _, some (V.int ((1 + d2).toNat : Nat)), _, _, _, _, _, _, _, _]; rw [Int.toNat_of_nonneg (by omega)]; rfl, xx, fun n e => by cases e; omega⟩
  rintro σ' H2 ⟨o2, rfl, y2, ho2⟩
  have so2 := so1.mono y2
  -- the factor
  with_reducible refine' wb_cons ?_
  with_reducible refine' ws_to (fun σ' H' => ∃ v3 q3, σ' = [some (.ref p), some (.ref wl), some (.str x), some v1, some (latV o2), some v3, none, none, none, none, none, none, none] ∧ Ex H2 H' ∧ PrQ q3 v3 H' ∧ 1 ≤ q3 ∧ Sz q3 8) ?_ ?_
  · repeat walk_at "w"
    rename_i t1 Ha xa e1 t2 Hb xb e2 t3 Hc xc e3 t4 Hd xd e4 d He xe d0 d1
    refine ⟨_, _, rfl, by decide, le_pow (n := 20) (by decide) (by decide), fun v Hf xf hv => ?_⟩
    refine lst_i (lenk 5 rfl) fun l Hg nl xg hl => ?_
    repeat walk_at "w"
    rename_i g Hh xh g0 g1
    refine at_all (xh.keep _ _ hl (ns_len (show 5 ≠ 4 by decide))) g0 g1 ?_
    have b4 := (((xe.trans xf).trans xg).trans xh)
    have b3 := xd.trans b4
    have b2 := xc.trans b3
    have b1 := xb.trans b2
    have b0 := xa.trans b1
    intro y hy
    simp only [List.mem_cons, List.not_mem_nil, or_false] at hy
    rcases hy with rfl | rfl | rfl | rfl | rfl
    · exact ⟨_, _, rfl, b0, prq_lit (by decide +kernel) (by decide +kernel) (b1.tup e1), ge1_of (by decide) (by decide), Sz.div (by decide) (by decide) (by decide)⟩
    · exact ⟨_, _, rfl, b0, prq_lit (by decide +kernel) (by decide +kernel) (b2.tup e2), ge1_of (by decide) (by decide), Sz.div (by decide) (by decide) (by decide)⟩
    · exact ⟨_, _, rfl, b0, prq_lit (by decide +kernel) (by decide +kernel) (b3.tup e3), ge1_of (by decide) (by decide), Sz.div (by decide) (by decide) (by decide)⟩
    · exact ⟨_, _, rfl, b0, prq_lit (by decide +kernel) (by decide +kernel) (b4.tup e4), ge1_of (by decide) (by decide), Sz.div (by decide) (by decide) (by decide)⟩
    · exact ⟨_, _, rfl, b0, hv.mono (xg.trans xh), ge1_of (by decide) (by omega), Sz.div (by decide) (by omega) (by decide)⟩
  rintro σ' H3 ⟨v3, q3, rfl, y3, hv3, hq3, zq3⟩
  have so3 := so2.mono y3
  -- the margin
  with_reducible refine' wb_cons ?_
  with_reducible refine' ws_to (fun σ' H' => ∃ v4 q4, σ' = [some (.ref p), some (.ref wl), some (.str x), some v1, some (latV o2), some v3, some v4, none, none, none, none, none, none] ∧ Ex H3 H' ∧ PrQ q4 v4 H' ∧ 0 ≤ q4 ∧ Sz q4 8) ?_ ?_
  · repeat walk_at "w"
    rename_i t1 Ha xa e1 t2 Hb xb e2 t3 Hc xc e3 d He xe d0 d1 d' Hd xd d0' d1'
    refine ⟨_, _, rfl, by omega, le_pow (n := 20) (by omega) (by decide), fun v Hf xf hv => ?_⟩
    refine lst_i (lenk 4 rfl) fun l Hg nl xg hl => ?_
    repeat walk_at "w"
    rename_i g Hh xh g0 g1
    refine at_all (xh.keep _ _ hl ns_snd) g0 g1 ?_
    have b3 := ((((xe.trans xd).trans xf).trans xg).trans xh)
    have b2 := xc.trans b3
    have b1 := xb.trans b2
    have b0 := xa.trans b1
    intro y hy
    simp only [List.mem_cons, List.not_mem_nil, or_false] at hy
    rcases hy with rfl | rfl | rfl | rfl
    · exact ⟨_, _, rfl, b0, prq_lit (by decide +kernel) (by decide +kernel) (b1.tup e1), ge0_of (by decide) (by decide), Sz.div (by decide) (by decide) (by decide)⟩
    · exact ⟨_, _, rfl, b0, prq_lit (by decide +kernel) (by decide +kernel) (b2.tup e2), ge0_of (by decide) (by decide), Sz.div (by decide) (by decide) (by decide)⟩
    · exact ⟨_, _, rfl, b0, prq_lit (by decide +kernel) (by decide +kernel) (b3.tup e3), ge0_of (by decide) (by decide), Sz.div (by decide) (by decide) (by decide)⟩
    · exact ⟨_, _, rfl, b0, hv.mono (xg.trans xh), ge0_of (by omega) (by omega), Sz.div (by omega) (by omega) (by omega)⟩
  rintro σ' H4 ⟨v4, q4, rfl, y4, hv4, hq4, zq4⟩
  have so4 := so3.mono y4
  -- the floor
  with_reducible refine' wb_cons ?_
  with_reducible refine' ws_to (fun σ' H' => ∃ v5 o5, σ' = [some (.ref p), some (.ref wl), some (.str x), some v1, some (latV o2), some v3, some v4, some v5, none, none, none, none, none] ∧ Ex H4 H' ∧ OPr o5 v5 H' ∧ ∀ f, o5 = some f → MomP f) ?_ ?_
  · repeat walk_at "w"
    refine ⟨p, rfl, so4, fun q v Ha xa hv hq => ?_⟩
    refine lst_i (lenk 4 rfl) fun l Hb nl xb hl => ?_
    repeat walk_at "w"
    rename_i g Hc xc g0 g1
    refine at_all (xc.keep _ _ hl ns_non) g0 g1 ?_
    have b0 := (xa.trans xb).trans xc
    intro y hy
    simp only [List.mem_cons, List.not_mem_nil, or_false] at hy
    rcases hy with rfl | rfl | rfl | rfl
    · exact ⟨_, none, rfl, b0, rfl, fun f e => nomatch e⟩
    · exact ⟨_, none, rfl, b0, rfl, fun f e => nomatch e⟩
    · exact ⟨_, none, rfl, b0, rfl, fun f e => nomatch e⟩
    · exact ⟨_, some q, rfl, b0, hv.mono (xb.trans xc), fun f e => by cases e; exact hq⟩
  rintro σ' H5 ⟨v5, o5, rfl, y5, hv5, ho5⟩
  have so5 := so4.mono y5
  -- what the roof is
  with_reducible refine' wb_cons ?_
  with_reducible refine' ws_to (fun σ' H' => ∃ v6 q6, σ' = [some (.ref p), some (.ref wl), some (.str x), some v1, some (latV o2), some v3, some v4, some v5, some v6, none, none, none, none] ∧ Ex H5 H' ∧ PrQ q6 v6 H' ∧ 0 < q6 ∧ (∀ f, o5 = some f → f ≤ q6) ∧ Sz q6 20) ?_ ?_
  · have m19 := mom_of (a := 1) (b := 9) (by decide) (by decide) (by decide) (by decide)
    cases o5 with
    | none =>
      cases hv5
      repeat walk_at "w"
      rw [decide_eq_true (rfl : V.non = V.non)]
      repeat walk_at "w"
      rename_i t Ha xa ht
      have hv := prq_lit (a := 1) (b := 9) (by decide +kernel) (by decide +kernel) ht
      refine ⟨p, rfl, so5.mono xa, fun q' v' Hb xb hv' hq' => ?_⟩
      refine ⟨_, q', _, v', rfl, hv.mono xb, hv', m19.2.mono (by decide), hq'.2.mono (by decide), fun v2 Hc xc hv2 => ?_⟩
      repeat walk_at "w"
      have p1 := hq'.1
      have p2 := m19.1
      exact ⟨v2, _, rfl, (xa.trans xb).trans xc, hv2, by grind, (fun f e => nomatch e), (m19.2.add hq'.2).mono (by decide)⟩
    | some f =>
      have hv5 : PrQ f v5 H5 := hv5
      have nn : v5 ≠ .non := by
        obtain ⟨t, rfl, _⟩ := hv5
        exact fun e => nomatch e
      have hf := ho5 f rfl
      repeat walk_at "w"
      rw [decide_eq_false nn]
      repeat walk_at "w"
      refine ⟨p, rfl, so5, fun q' v' Hb xb hv' hq' => ?_⟩
      refine ⟨f, q', v5, v', rfl, hv5.mono xb, hv', hf.2.mono (by decide), hq'.2.mono (by decide), fun v2 Hc xc hv2 => ?_⟩
      repeat walk_at "w"
      have p1 := hq'.1
      have p2 := hf.1
      exact ⟨v2, _, rfl, xb.trans xc, hv2, by grind, (fun g e => by cases e; grind), (hf.2.add hq'.2).mono (by decide)⟩
  rintro σ' H6 ⟨v6, q6, rfl, y6, hv6, q60, hf6, zq6⟩
  -- the roof
  with_reducible refine' wb_cons ?_
  with_reducible refine' ws_to (fun σ' H' => ∃ v7 o7, σ' = [some (.ref p), some (.ref wl), some (.str x), some v1, some (latV o2), some v3, some v4, some v5, some v6, some v7, none, none, none] ∧ Ex H6 H' ∧ OPr o7 v7 H' ∧ ∀ r, o7 = some r → r = q6) ?_ ?_
  · repeat walk_at "w"
    rename_i l Ha nl xa hl d Hb xb d0 d1
    refine at_all (xb.keep _ _ hl ns_non) d0 d1 ?_
    intro y hy
    simp only [List.mem_cons, List.not_mem_nil, or_false] at hy
    rcases hy with rfl | rfl | rfl | rfl
    · exact ⟨_, none, rfl, xa.trans xb, rfl, fun f e => nomatch e⟩
    · exact ⟨_, none, rfl, xa.trans xb, rfl, fun f e => nomatch e⟩
    · exact ⟨_, none, rfl, xa.trans xb, rfl, fun f e => nomatch e⟩
    · exact ⟨_, some q6, rfl, xa.trans xb, hv6.mono (xa.trans xb), fun f e => by cases e; rfl⟩
  rintro σ' H7 ⟨v7, o7, rfl, y7, hv7, ho7⟩
  -- doubled, kept
  with_reducible refine' wb_cons ?_
  with_reducible refine' ws_to (fun σ' H' => ∃ b, σ' = [some (.ref p), some (.ref wl), some (.str x), some v1, some (latV o2), some v3, some v4, some v5, some v6, some v7, some (.bl b), none, none] ∧ Ex H7 H') ?_ ?_
  · repeat walk_at "w"
    rename_i d Ha xa d0 d1
    exact ⟨_, rfl, xa⟩
  rintro σ' H8 ⟨b, rfl, y8⟩
  with_reducible refine' wb_cons ?_
  with_reducible refine' ws_to (fun σ' H' => ∃ c, σ' = [some (.ref p), some (.ref wl), some (.str x), some v1, some (latV o2), some v3, some v4, some v5, some v6, some v7, some (.bl b), some (.bl c), none] ∧ Ex H8 H' ∧ (c = true → b = true)) ?_ ?_
  · cases b with
    | false =>
      repeat walk_at "w"
      exact ⟨_, rfl, .refl _, fun e => nomatch e⟩
    | true =>
      repeat walk_at "w"
      rename_i d Ha xa d0 d1
      exact ⟨_, rfl, xa, fun _ => rfl⟩
  rintro σ' H9 ⟨c, rfl, y9, hbc⟩
  have y69 := (y7.trans y8).trans y9
  have y59 := y6.trans y69
  have y49 := y5.trans y59
  have y39 := y4.trans y49
  have y29 := y3.trans y39
  have y19 := y2.trans y29
  -- no latest beside a share
  with_reducible refine' wb_cons ?_
  with_reducible refine' ws_to (fun σ' H' => ∃ o, σ' = [some (.ref p), some (.ref wl), some (.str x), some v1, some (latV o), some v3, some v4, some v5, some v6, some v7, some (.bl b), some (.bl c), none] ∧ Ex H9 H' ∧ ∀ n, o = some n → 1 ≤ n ∧ n ≤ 20 ∧ q1 = 1) ?_ ?_
  · repeat walk_at "w"
    rename_i t Ha xa ht
    obtain ⟨t1, rfl, ht1⟩ := hv1.mono (y19.trans xa)
    refine o_neT2 B ht1 ht ?_
    by_cases e : q1 = 1
    · have e2 := ne1_iff.mpr e
      rw [decide_eq_true e2.1, decide_eq_true e2.2]
      refine ⟨false, rfl, iteF (wb_nil ?_)⟩
      exact ⟨o2, rfl, xa, fun n h => ⟨(ho2 n h).1, (ho2 n h).2, e⟩⟩
    · have e2 : (decide (q1.num = 1) && decide ((q1.den : Int) = 1)) = false := by
        rw [Bool.and_eq_false_iff, decide_eq_false_iff_not, decide_eq_false_iff_not]
        exact Classical.not_and_iff_not_or_not.mp fun h => e (ne1_iff.mp h)
      rw [e2]
      repeat walk_at "w"
      exact ⟨none, rfl, xa, fun n h => nomatch h⟩
  rintro σ' Ha ⟨o, rfl, ya, ho⟩
  -- the nine together
  repeat walk_at "w"
  rename_i l1 Hb nl1 xb hl1 l2 Hc nl2 xc hl2
  have ns4 : ¬ Src (.lst [.str x, v1, latV o, v3]) := ns_str
  refine o_catL (xc.keep _ _ hl1 ns4) hl2 (Nat.le_trans (show 4 + 5 ≤ 1000 by decide) (by decide)) fun l3 hl3 => ?_
  have yc := (ya.trans xb).trans xc
  have yd := yc.trans (Ex.new (o := .lst ([.str x, v1, latV o, v3] ++ [v4, v5, v7, .bl b, .bl c])) hl3)
  have y0c := ((y1.trans y19).trans yc)
  refine k ⟨x, q1, o, q3, q4, o5, o7, b, c⟩ l3 v1 v3 v4 v5 v7 _ (y0c.trans (Ex.new hl3)) (y0c.back hl3) upd_same ⟨hv1.mono (y19.trans yd), hv3.mono (y39.trans yd), hv4.mono (y49.trans yd), hv5.mono (y59.trans yd), hv7.mono ((y8.trans y9).trans yd)⟩ ⟨⟨hW x hx, hq1.1, hq1.2.1, ho, hq3, hq4, fun f e => (ho5 f e).1, fun r e => ?_, hbc, hq1.2.2.mono (by decide), zq3.mono (by decide), zq4.mono (by decide), fun f e => (ho5 f e).2.mono (by decide), fun r e => ?_⟩, hq1.2.2.mono (by decide), zq3.mono (by decide), zq4.mono (by decide), fun f e => (ho5 f e).2.mono (by decide), fun r e => ?_⟩ hx
  · rw [ho7 r e]
    exact ⟨q60, hf6⟩
  · rw [ho7 r e]
    exact zq6.mono (by decide)
  · rw [ho7 r e]
    exact zq6.mono (by decide)
end

/-! ### _law_book -/
section
variable {X : Cx} {σ : L2.St} {H : Hp} {QT : Bool → Hp → Prop} {a b c d : Expr} {pos : Pos}
theorem wt_and4 (h : WT X a σ H fun k H1 => if k = true then WT X b σ H1 fun k2 H2 => if k2 = true then WT X c σ H2 fun k3 H3 => if k3 = true then WT X d σ H3 QT else QT false H3 else QT false H2 else QT false H1) : WT X (.BoolOp .And [a, b, c, d] pos) σ H QT :=
  wtP (PW.pt (pw_and ptS (pw_and ptS (pw_and ptS (pw_and1 ptS))))) h
end
theorem OptT.nn {K : PySem.W.Frag} {o : Option Rat} {v : V} {H : Hp} (h : OptT K o v H) : decide (v = .non) = o.isNone := by
  cases o with
  | none => cases h; rfl
  | some q =>
    obtain ⟨t, dx, rfl, _⟩ := (h : TimeV _ _ _ _)
    rfl
theorem latV_nn (o : Option Nat) : decide (latV o = .non) = o.isNone := by
  cases o <;> rfl
section
variable {P : Program} {w : World} {K : PySem.W.Frag} {mg : Str → Option Value} {base : Heap}
def spLBook (K : PySem.W.Frag) : Sp := fun vs H Q _ => ∃ z l v1 v3 v4 v5 v6, vs = [.ref l] ∧ H l = some (.lst (row9 z v1 v3 v4 v5 v6)) ∧ RuP z v1 v3 v4 v5 v6 H ∧ BkOk z ∧ ∀ a H', Ex H H' → BookV K z (.ref a) H' → Q (.ref a) H'
theorem f__law_book (T : Tm K mg) : GFn P w K mg base 12 "_law_book" (spLBook K) := by
  obtain ⟨fd, F⟩ := T.d__law_book
  refine GFn.mk F T.g__law_book (def_ok F sc__law_book (fun vs H Q E h => by obtain ⟨z, l, v1, v3, v4, v5, v6, rfl, _⟩ := h; rfl) ?_) (F.bindsN fun _ _ _ _ _ _ us hl => match us, hl with | [_], _ => rfl)
  intro X eP ew eK em eb eN es hf nd H vs Q E B h
  subst eP ew eK em eb
  have n0 : Sl X 0 "_law_rules_here" := slot_of eN es hf nd rfl (by first | exact Or.inl rfl | exact Or.inr rfl) (by decide) (by decide)
  have n1 : Sl X 1 "_law_one" := slot_of eN es hf nd rfl (by first | exact Or.inl rfl | exact Or.inr rfl) (by decide) (by decide)
  have n2 : Sl X 2 "_law_two" := slot_of eN es hf nd rfl (by first | exact Or.inl rfl | exact Or.inr rfl) (by decide) (by decide)
  have n3 : Sl X 3 "_law_three" := slot_of eN es hf nd rfl (by first | exact Or.inl rfl | exact Or.inr rfl) (by decide) (by decide)
  have n4 : Sl X 4 "_law_low" := slot_of eN es hf nd rfl (by first | exact Or.inl rfl | exact Or.inr rfl) (by decide) (by decide)
  have n5 : Sl X 5 "_law_high" := slot_of eN es hf nd rfl (by first | exact Or.inl rfl | exact Or.inr rfl) (by decide) (by decide)
  have g__law_time : Gn X "_law_time" := gn_of es rfl (by decide)
  have F__law_time := f__law_time (P := X.prog) (w := X.w) (base := X.base) T
  have g_Book : Gn X "Book" := gn_of es rfl (by decide)
  have m_Book := T.g_Book
  have kb : X.env.blockKind = .function := blk_of es rfl
  have k__law_low : X.env.kindOf "_law_low" = some .local := kd_of es rfl
  have k__law_high : X.env.kindOf "_law_high" = some .local := kd_of es rfl
  obtain ⟨z, l, v1, v3, v4, v5, v6, rfl, hl, hr, ok, k⟩ := h
  show WB X [_, _, _, _, _, _] _ [some (.ref l), none, none, none, none, none] H
  have kl : ∀ {G : Hp}, Ex H G → G l = some (.lst (row9 z v1 v3 v4 v5 v6)) := fun x => x.keep _ _ hl ns9
  have up : ∀ {q : Rat}, Sz q 1000 → Sz q 8000 := fun h => h.mono (by decide)
  repeat walk_at "w"
  refine ⟨some z.share, v1, rfl, hr.sh, fun q e => by cases e; exact up ok.z1, fun y1 H1 x1 h1 => ?_⟩
  repeat walk_at "w"
  refine at_l (kl x1) rfl ?_
  refine ⟨some z.factor, v3, rfl, hr.fa.mono x1, fun q e => by cases e; exact up ok.z2, fun y2 H2 x2 h2 => ?_⟩
  repeat walk_at "w"
  have x12 := x1.trans x2
  refine at_l (kl x12) rfl ?_
  refine ⟨some z.margin, v4, rfl, hr.ma.mono x12, fun q e => by cases e; exact up ok.z3, fun y3 H3 x3 h3 => ?_⟩
  repeat walk_at "w"
  have x13 := x12.trans x3
  refine at_l (kl x13) rfl ?_
  refine ⟨z.floor, v5, rfl, hr.fl.mono x13, fun q e => up (ok.z4 q e), fun y4 H4 x4 h4 => ?_⟩
  repeat walk_at "w"
  have x14 := x13.trans x4
  refine at_l (kl x14) rfl ?_
  refine ⟨z.roof, v6, rfl, hr.ro.mono x14, fun q e => up (ok.z5 q e), fun y5 H5 x5 h5 => ?_⟩
  have x15 := x14.trans x5
  have kp : Kept X.K z y1 y2 y3 y4 y5 H5 := ⟨TimeV.mono (((x2.trans x3).trans x4).trans x5) h1, TimeV.mono ((x3.trans x4).trans x5) h2, TimeV.mono (x4.trans x5) h3, h4.mono x5, h5⟩
  clear h1 h2 h3 h4 h5
  with_reducible refine' wb_cons ?_
  with_reducible refine' ws_if ?_
  with_reducible refine' wt_to (fun r H' => H' = H5 ∧ (r = true → z.latest = none ∧ z.floor = none ∧ z.roof = none ∧ z.doubled = false)) ?_ ?_
  · have hf := kp.fl.nn
    have hr2 := kp.ro.nn
    have hlt := latV_nn z.latest
    refine wt_and4 ?_
    repeat walk_at "w"
    refine at_l (kl x15) rfl ?_
    repeat walk_at "w"
    rw [hlt]
    cases e1 : z.latest with
    | some n =>
      rw [show (some n).isNone = false from rfl]
      repeat walk_at "w"
      exact ⟨rfl, fun q => nomatch q⟩
    | none =>
      rw [show (none : Option Nat).isNone = true from rfl]
      repeat walk_at "w"
      rw [hf]
      cases e2 : z.floor with
      | some n =>
        rw [show (some n).isNone = false from rfl]
        repeat walk_at "w"
        exact ⟨rfl, fun q => nomatch q⟩
      | none =>
        rw [show (none : Option Rat).isNone = true from rfl]
        repeat walk_at "w"
        rw [hr2]
        cases e3 : z.roof with
        | some n =>
          rw [show (some n).isNone = false from rfl]
          repeat walk_at "w"
          exact ⟨rfl, fun q => nomatch q⟩
        | none =>
          rw [show (none : Option Rat).isNone = true from rfl]
          repeat walk_at "w"
          refine at_l (kl x15) rfl ?_
          repeat walk_at "w"
          have nb : ∀ b : Bool, (!b) = true → b = false := by decide
          exact ⟨rfl, fun q => ⟨rfl, rfl, rfl, nb _ q⟩⟩
  rintro r H' ⟨rfl, hc⟩
  cases r with
  | true =>
    obtain ⟨e1, e2, e3, e4⟩ := hc rfl
    have e5 : z.kept = false := by
      cases q : z.kept with
      | false => rfl
      | true =>
        have := ok.ke q
        rw [e4] at this
        cases this
    refine iteT ?_
    with_reducible refine' wb_one ?_
    with_reducible refine' ws_ret ?_
    refine we_makeK0 B g_Book (k_Book4 T) (by decide) ?_
    refine wk_cons ?_
    repeat walk_at "w"
    refine wk_cons ?_
    repeat walk_at "w"
    refine at_l (kl x15) rfl ?_
    refine wk_cons ?_
    repeat walk_at "w"
    refine wk_cons ?_
    repeat walk_at "w"
    refine wk_nil ⟨rfl, ?_⟩
    have hfl := kp.fl
    have hro := kp.ro
    rw [e2] at hfl
    rw [e3] at hro
    cases hfl
    cases hro
    have er : ∀ a : Addr, ord4 [V.ref a] [.non, .non, .non, .bl false, .bl false] [y1, .str z.word, y3, y2] = .ref a :: row9 z y1 y2 y3 .non .non := fun a => by
      show [V.ref a, .str z.word, y1, .non, y2, y3, .non, .non, .bl false, .bl false] = _
      rw [show row9 z y1 y2 y3 .non .non = [.str z.word, y1, latV z.latest, y2, y3, .non, .non, .bl z.doubled, .bl z.kept] from rfl, e1, e4, e5]
      rfl
    intro a dx na nd ne
    show spBInit _ (ord4 [V.ref a] [.non, .non, .non, .bl false, .bl false] [y1, .str z.word, y3, y2]) _ _ _
    rw [er]
    exact made_b kp.raw ok (fun a H' x hb => k a H' (x15.trans x) hb) a dx na nd ne
  | false =>
    refine iteF ?_
    with_reducible refine' wb_nil ?_
    with_reducible refine' wb_one ?_
    with_reducible refine' ws_ret ?_
    refine we_makeK0 B g_Book (k_Book9 T) (by decide) ?_
    refine wk_cons ?_
    repeat walk_at "w"
    refine at_l (kl x15) rfl ?_
    refine wk_cons ?_
    repeat walk_at "w"
    refine wk_cons ?_
    repeat walk_at "w"
    refine at_l (kl x15) rfl ?_
    refine wk_cons ?_
    repeat walk_at "w"
    refine wk_cons ?_
    repeat walk_at "w"
    refine wk_cons ?_
    repeat walk_at "w"
    refine wk_cons ?_
    repeat walk_at "w"
    refine wk_cons ?_
    repeat walk_at "w"
    refine at_l (kl x15) rfl ?_
    refine wk_cons ?_
    repeat walk_at "w"
    refine at_l (kl x15) rfl ?_
    refine wk_nil ⟨rfl, ?_⟩
    exact made_b kp.raw ok (fun a H' x hb => k a H' (x15.trans x) hb)
end

/-! ### what a book tells -/
theorem shapedB (a b : Bool) : SeqAt.shaped (.tuple [.bool a, .bool b]) = true := by cases a <;> cases b <;> decide +kernel
theorem eqvB (a b : Bool) : PyData.eqv (.tuple [.bool a, .bool b]) (.tuple [.bool a, .bool b]) = true := by cases a <;> cases b <;> decide +kernel
theorem o_eqTB {X : Cx} {k : Nat} {E : L2.St → XK} {H : Hp} {Q : VK} {p p' : Addr} {a b : Bool} (B : Body X k E) (h : H p = some (.tup [.bl a, .bl b])) (h' : H p' = some (.tup [.bl a, .bl b])) (q : Q (.bl true) H) : Op2 X (compareOp .Eq) (.ref p) (.ref p') H Q :=
  op2_of (op_eqD (by have := B.room.un; omega)) ⟨.tuple [.bool a, .bool b], .tuple [.bool a, .bool b], .tup (.of h) (.cons (.bl a) (.cons (.bl b) .nil)), .tup (.of h') (.cons (.bl a) (.cons (.bl b) .nil)), shapedB a b, shapedB a b, by rw [eqvB]; exact q⟩
section
variable {P : Program} {w : World} {K : PySem.W.Frag} {mg : Str → Option Value} {base : Heap}
def spLNum : Sp := fun vs H Q _ => ∃ o, vs = [latV o, latV o] ∧ Q (.bl true) H
theorem f__law_number (T : Tm K mg) : GFn P w K mg base 1 "_law_number" spLNum := by
  obtain ⟨fd, F⟩ := T.d__law_number
  refine GFn.mk F T.g__law_number (def_ok F sc__law_number (fun vs H Q E h => by obtain ⟨o, rfl, _⟩ := h; rfl) ?_) (F.bindsN fun _ _ _ _ _ _ us hl => match us, hl with | [_, _], _ => rfl)
  intro X eP ew eK em eb eN es hf nd H vs Q E B h
  subst eP ew eK em eb
  have n0 : Sl X 0 "_law_thing_here" := slot_of eN es hf nd rfl (by first | exact Or.inl rfl | exact Or.inr rfl) (by decide) (by decide)
  have n1 : Sl X 1 "_law_due_here" := slot_of eN es hf nd rfl (by first | exact Or.inl rfl | exact Or.inr rfl) (by decide) (by decide)
  have z_isinstance : Bn X "isinstance" := bn_of es rfl T.z_isinstance
  have z_int : Bn X "int" := bn_of es rfl T.z_int
  have z_bool : Bn X "bool" := bn_of es rfl T.z_bool
  obtain ⟨o, rfl, k⟩ := h
  show WB X [_, _] _ [some (latV o), some (latV o)] H
  cases o with
  | none =>
    repeat walk_at "w"
    rw [decide_eq_true (show latV none = V.non from rfl)]
    repeat walk_at "w"
    rw [decide_eq_true (show latV none = V.non from rfl)]
    exact k
  | some n =>
    repeat walk_at "w"
    rw [decide_eq_false (show ¬ latV (some n) = V.non from fun e => nomatch e)]
    repeat walk_at "w"
    refine ⟨true, ⟨_, _, .ty _, .base (.int n), k_ii⟩, ?_⟩
    repeat walk_at "w"
    refine ⟨false, ⟨_, _, .ty _, .base (.int n), k_ib⟩, ?_⟩
    repeat walk_at "w"
    refine o_eq (i := (n : Int)) (l := (n : Int)) ?_
    rw [decide_eq_true rfl]
    exact k
def spLReads (K : PySem.W.Frag) : Sp := fun vs H Q _ => ∃ z l v1 v3 v4 v5 v6 v, vs = [v, .ref l] ∧ BookV K z v H ∧ H l = some (.lst (row9 z v1 v3 v4 v5 v6)) ∧ RuP z v1 v3 v4 v5 v6 H ∧ Yes H Q
theorem f__law_reads (T : Tm K mg) : GFn P w K mg base 5 "_law_reads" (spLReads K) := by
  obtain ⟨fd, F⟩ := T.d__law_reads
  refine GFn.mk F T.g__law_reads (def_ok F sc__law_reads (fun vs H Q E h => by obtain ⟨z, l, v1, v3, v4, v5, v6, v, rfl, _⟩ := h; rfl) ?_) (F.bindsN fun _ _ _ _ _ _ us hl => match us, hl with | [_, _], _ => rfl)
  intro X eP ew eK em eb eN es hf nd H vs Q E B h
  subst eP ew eK em eb
  have n0 : Sl X 0 "_law_book_here" := slot_of eN es hf nd rfl (by first | exact Or.inl rfl | exact Or.inr rfl) (by decide) (by decide)
  have n1 : Sl X 1 "_law_rules_here" := slot_of eN es hf nd rfl (by first | exact Or.inl rfl | exact Or.inr rfl) (by decide) (by decide)
  have g__law_is : Gn X "_law_is" := gn_of es rfl (by decide)
  have F__law_is := f__law_is (P := X.prog) (w := X.w) (base := X.base) T
  have g__law_number : Gn X "_law_number" := gn_of es rfl (by decide)
  have F__law_number := f__law_number (P := X.prog) (w := X.w) (base := X.base) T
  have z_isinstance : Bn X "isinstance" := bn_of es rfl T.z_isinstance
  have z_bool : Bn X "bool" := bn_of es rfl T.z_bool
  obtain ⟨z, l, v1, v3, v4, v5, v6, v, rfl, hv, hl, hr, k⟩ := h
  show WB X [_, _, _, _, _] _ [some (v), some (.ref l)] H
  have kl : ∀ {G : Hp}, Ex H G → G l = some (.lst (row9 z v1 v3 v4 v5 v6)) := fun x => x.keep _ _ hl ns9
  with_reducible refine' wb_cons ?_
  with_reducible refine' ws_to (fun σ' H' => σ' = [some v, some (.ref l)] ∧ Ex H H') ?_ ?_
  · repeat walk_at "w"
    refine o_neS ?_
    rw [decide_eq_true (rfl : z.word = z.word)]
    repeat walk_at "w"
    intro y1 h1
    repeat walk_at "w"
    refine ⟨some z.share, y1, v1, rfl, h1, hr.sh, fun H1 x1 => ?_⟩
    repeat walk_at "w"
    refine at_l (kl x1) rfl ?_
    refine ⟨z.latest, rfl, ?_⟩
    repeat walk_at "w"
    exact ⟨rfl, x1⟩
  rintro σ' H1 ⟨rfl, x1⟩
  with_reducible refine' wb_cons ?_
  with_reducible refine' ws_to (fun σ' H' => σ' = [some v, some (.ref l)] ∧ Ex H H') ?_ ?_
  · repeat walk_at "w"
    intro y1 h1
    repeat walk_at "w"
    refine at_l (kl x1) rfl ?_
    refine ⟨some z.factor, y1, v3, rfl, h1, hr.fa.mono x1, fun H2 x2 => ?_⟩
    repeat walk_at "w"
    intro y2 h2
    repeat walk_at "w"
    refine at_l (kl (x1.trans x2)) rfl ?_
    refine ⟨some z.margin, y2, v4, rfl, h2, hr.ma.mono (x1.trans x2), fun H3 x3 => ?_⟩
    repeat walk_at "w"
    exact ⟨rfl, (x1.trans x2).trans x3⟩
  rintro σ' H2 ⟨rfl, x2⟩
  with_reducible refine' wb_cons ?_
  with_reducible refine' ws_to (fun σ' H' => σ' = [some v, some (.ref l)] ∧ Ex H H') ?_ ?_
  · repeat walk_at "w"
    intro y1 h1
    repeat walk_at "w"
    refine at_l (kl x2) rfl ?_
    refine ⟨z.floor, y1, v5, rfl, h1, hr.fl.mono x2, fun H3 x3 => ?_⟩
    repeat walk_at "w"
    intro y2 h2
    repeat walk_at "w"
    refine at_l (kl (x2.trans x3)) rfl ?_
    refine ⟨z.roof, y2, v6, rfl, h2, hr.ro.mono (x2.trans x3), fun H4 x4 => ?_⟩
    repeat walk_at "w"
    exact ⟨rfl, (x2.trans x3).trans x4⟩
  rintro σ' H3 ⟨rfl, x3⟩
  with_reducible refine' wb_cons ?_
  with_reducible refine' ws_to (fun σ' H' => σ' = [some v, some (.ref l)] ∧ Ex H H') ?_ ?_
  · repeat walk_at "w"
    refine ⟨true, ⟨_, _, .ty _, .base (.bl z.doubled), k_bb⟩, ?_⟩
    repeat walk_at "w"
    refine ⟨true, ⟨_, _, .ty _, .base (.bl z.kept), k_bb⟩, ?_⟩
    repeat walk_at "w"
    exact ⟨rfl, x3⟩
  rintro σ' H4 ⟨rfl, x4⟩
  repeat walk_at "w"
  rename_i t Ha xa ht
  refine at_l (kl (x4.trans xa)) rfl ?_
  repeat walk_at "w"
  refine at_l (kl (x4.trans xa)) rfl ?_
  refine ⟨show 2 ≤ sizeLine by decide, fun p2 Hb np xb eb => ?_⟩
  exact o_eqTB B (xb.tup ht) (by rw [eb]; exact upd_same) (k _ ((x4.trans xa).trans xb))
end

/-! ### bent parts: the first that is not so -/
theorem mod_two {p : Prop} : p ∨ ¬ p := Classical.em p
def NoF (v : V) (H : Hp) : Prop := v = .non ∨ (∃ i, v = .int i) ∨ (∃ x, v = .str x) ∨ ∃ p, v = .ref p ∧ H p = some (.tup [])
theorem NoF.nob {v : V} {H : Hp} (h : NoF v H) : NoB v := h.imp id (.imp id (.imp id fun ⟨p, e, _⟩ => ⟨p, e⟩))
theorem NoF.mono {v : V} {H H' : Hp} (x : Ex H H') (h : NoF v H) : NoF v H' := h.imp id (.imp id (.imp id fun ⟨p, e, h⟩ => ⟨p, e, x.tup h⟩))
/-- what the law puts in the place of part i -/
def OddV (K : PySem.W.Frag) (i : Nat) (v : V) (H : Hp) : Prop := match i with
  | 0 => NoS v H ∨ ∃ x, v = .str x ∧ inV (.str x) (W4'.map V.str) = false
  | 1 => FgS v H ∨ ∃ q, Tim K q v H ∧ Sz q 8 ∧ (decide (0 < q) && decide (q ≤ 1)) = false
  | 2 => (∃ i, v = .int i ∧ (decide (1 ≤ i) && decide (i ≤ 20)) = false) ∨ (∃ b, v = .bl b) ∨ ∃ x, v = .str x
  | 3 => FgS v H ∨ ∃ q, Tim K q v H ∧ Sz q 8 ∧ decide (1 ≤ q) = false
  | 4 => FgS v H ∨ ∃ q, Tim K q v H ∧ Sz q 8 ∧ decide (0 ≤ q) = false
  | 5 => (FgS v H ∧ v ≠ .non) ∨ ∃ q, Tim K q v H ∧ Sz q 8 ∧ decide (0 < q) = false
  | 6 => (FgS v H ∧ v ≠ .non) ∨ ∃ q, Tim K q v H ∧ Sz q 8 ∧ decide (0 < q) = false
  | _ => NoF v H
theorem OddV.mono {K : PySem.W.Frag} {v : V} {H H' : Hp} (x : Ex H H') : ∀ {i : Nat}, OddV K i v H → OddV K i v H'
  | 0, h => h.imp (fun h => h.mono x) id
  | 1, h => h.imp (fun h => h.mono x) fun ⟨q, a, b⟩ => ⟨q, a.mono x, b⟩
  | 2, h => h
  | 3, h => h.imp (fun h => h.mono x) fun ⟨q, a, b⟩ => ⟨q, a.mono x, b⟩
  | 4, h => h.imp (fun h => h.mono x) fun ⟨q, a, b⟩ => ⟨q, a.mono x, b⟩
  | 5, h => h.imp (fun h => ⟨h.1.mono x, h.2⟩) fun ⟨q, a, b⟩ => ⟨q, a.mono x, b⟩
  | 6, h => h.imp (fun h => ⟨h.1.mono x, h.2⟩) fun ⟨q, a, b⟩ => ⟨q, a.mono x, b⟩
  | _ + 7, h => NoF.mono x h
/-- parts that agree with themselves, not with each other -/
structure WkOk (z : Bk) : Prop where
  word : z.word ∈ W4
  sh : 0 < z.share ∧ z.share ≤ 1 ∧ Sz z.share 40
  lat : ∀ n, z.latest = some n → 1 ≤ n ∧ n ≤ 20
  fa : 1 ≤ z.factor
  ma : 0 ≤ z.margin
  fl : ∀ f, z.floor = some f → 0 < f
  ro : ∀ r, z.roof = some r → 0 < r
  s2 : Sz z.factor 40
  s3 : Sz z.margin 40
  s4 : ∀ f, z.floor = some f → Sz f 40
  s5 : ∀ f, z.roof = some f → Sz f 40
/-- a row of parts, those in c bent -/
structure Bent (K : PySem.W.Frag) (z : Bk) (c : Nat → Bool) (us : List V) (v1 v3 v4 v5 v6 : V) (H : Hp) : Prop where
  len : us.length = 9
  ru : RuP z v1 v3 v4 v5 v6 H
  bad : ∀ i, i < 9 → c i = true → ∃ p x, us[i]? = some (.ref p) ∧ H p = some (.lst [x]) ∧ OddV K i x H
  fine : ∀ i, i < 9 → c i = false → us[i]? = (row9 z v1 v3 v4 v5 v6)[i]?
theorem PrQ.nn {q : Rat} {v : V} {H : Hp} (h : PrQ q v H) : v ≠ .non := by
  obtain ⟨p, rfl, _⟩ := h
  exact fun e => nomatch e
theorem one_ns9 {x : V} : ¬ Src (.lst [x]) := ns_len (show 1 ≠ 4 by decide)
theorem Bent.mono {K : PySem.W.Frag} {z : Bk} {c : Nat → Bool} {us : List V} {v1 v3 v4 v5 v6 : V} {H H' : Hp} (x : Ex H H') (h : Bent K z c us v1 v3 v4 v5 v6 H) : Bent K z c us v1 v3 v4 v5 v6 H' :=
  ⟨h.len, h.ru.mono x, fun i l e => (h.bad i l e).elim fun p q => q.elim fun y q => ⟨p, y, q.1, x.keep _ _ q.2.1 one_ns9, q.2.2.mono x⟩, h.fine⟩
def lessO (r f : Option Rat) : Bool := match r, f with
  | some r, some f => decide (r < f)
  | _, _ => false
def bd (z : Bk) (c : Nat → Bool) (i : Nat) : Bool := c i || (match i with
  | 2 => z.latest.isSome && !decide (z.share = 1)
  | 6 => lessO z.roof z.floor
  | 8 => z.kept && !z.doubled
  | _ => false)
theorem bd_c {z : Bk} {c : Nat → Bool} {i : Nat} (h : bd z c i = false) : c i = false := by
  unfold bd at h
  exact (Bool.or_eq_false_iff.mp h).1
theorem bd_of {z : Bk} {c : Nat → Bool} {i : Nat} (h : c i = true) : bd z c i = true := by
  unfold bd
  rw [h]
  rfl
def FB (z : Bk) (c : Nat → Bool) (o : Option Nat) : Prop := match o with
  | none => ∀ i, i < 9 → bd z c i = false
  | some n => n < 9 ∧ bd z c n = true ∧ ∀ i, i < n → bd z c i = false
def optN : Option Nat → V
  | none => .non
  | some n => .str (pnx n)
section
variable {P : Program} {w : World} {K : PySem.W.Frag} {mg : Str → Option Value} {base : Heap}
theorem PrQ.notlst {X : Cx} {q : Rat} {v : V} {H : Hp} (h : PrQ q v H) : ∃ t, TyX X.K H v t ∧ PySem.W.kitOne X.K t (.type "list") = some false := by
  obtain ⟨p, rfl, h⟩ := h
  exact ⟨_, .base (.tup h), kit_ty (by decide +kernel)⟩
theorem OPr.notlst {X : Cx} {o : Option Rat} {v : V} {H : Hp} (h : OPr o v H) : ∃ t, TyX X.K H v t ∧ PySem.W.kitOne X.K t (.type "list") = some false := by
  cases o with
  | none => cases h; exact ⟨_, .base .non, kit_ty (by decide +kernel)⟩
  | some q => exact PrQ.notlst h
theorem Bent.kind {X : Cx} {z : Bk} {c : Nat → Bool} {us : List V} {v1 v3 v4 v5 v6 : V} {H : Hp} (h : Bent X.K z c us v1 v3 v4 v5 v6 H) {i : Nat} (l : i < 9) : ∃ v, us[i]? = some v ∧ ∃ t, TyX X.K H v t ∧ PySem.W.kitOne X.K t (.type "list") = some (c i) := by
  cases e : c i with
  | true =>
    obtain ⟨p, x, hu, hp, _⟩ := h.bad i l e
    exact ⟨_, hu, _, .base (.lst hp), kit_ty (by decide +kernel)⟩
  | false =>
    have hu := h.fine i l e
    match i, l with
    | 0, _ => exact ⟨_, hu, _, .base (.str _), kit_ty (by decide +kernel)⟩
    | 1, _ => exact ⟨_, hu, h.ru.sh.notlst⟩
    | 2, _ =>
      refine ⟨_, hu, ?_⟩
      cases z.latest with
      | none => exact ⟨_, .base .non, kit_ty (by decide +kernel)⟩
      | some n => exact ⟨_, .base (.int n), kit_ty (by decide +kernel)⟩
    | 3, _ => exact ⟨_, hu, h.ru.fa.notlst⟩
    | 4, _ => exact ⟨_, hu, h.ru.ma.notlst⟩
    | 5, _ => exact ⟨_, hu, h.ru.fl.notlst⟩
    | 6, _ => exact ⟨_, hu, h.ru.ro.notlst⟩
    | 7, _ => exact ⟨_, hu, _, .base (.bl _), kit_ty (by decide +kernel)⟩
    | 8, _ => exact ⟨_, hu, _, .base (.bl _), kit_ty (by decide +kernel)⟩
end
section
variable {P : Program} {w : World} {K : PySem.W.Frag} {mg : Str → Option Value} {base : Heap}
def spLFB (K : PySem.W.Frag) : Sp := fun vs H Q _ => ∃ z c us v1 v3 v4 v5 v6 l, vs = [.ref l] ∧ H l = some (.lst us) ∧ Bent K z c us v1 v3 v4 v5 v6 H ∧ WkOk z ∧ ∀ o H', Ex H H' → FB z c o → Q (optN o) H'
theorem f__law_first_bad (T : Tm K mg) : GFn P w K mg base 3 "_law_first_bad" (spLFB K) := by
  obtain ⟨fd, F⟩ := T.d__law_first_bad
  refine GFn.mk F T.g__law_first_bad (def_ok F sc__law_first_bad (fun vs H Q E h => by obtain ⟨z, c, us, v1, v3, v4, v5, v6, l, rfl, _⟩ := h; rfl) ?_) (F.bindsN fun _ _ _ _ _ _ us hl => match us, hl with | [_], _ => rfl)
  intro X eP ew eK em eb eN es hf nd H vs Q E B h
  subst eP ew eK em eb
  have n0 : Sl X 0 "_law_rules_here" := slot_of eN es hf nd rfl (by first | exact Or.inl rfl | exact Or.inr rfl) (by decide) (by decide)
  have n1 : Sl X 1 "_law_words_here" := slot_of eN es hf nd rfl (by first | exact Or.inl rfl | exact Or.inr rfl) (by decide) (by decide)
  have n2 : Sl X 2 "_law_at" := slot_of eN es hf nd rfl (by first | exact Or.inl rfl | exact Or.inr rfl) (by decide) (by decide)
  have z_range : Bn X "range" := bn_of es rfl T.z_range
  have z_isinstance : Bn X "isinstance" := bn_of es rfl T.z_isinstance
  have z_list : Bn X "list" := bn_of es rfl T.z_list
  have g__law_less : Gn X "_law_less" := gn_of es rfl (by decide)
  have F__law_less := f__law_less (P := X.prog) (w := X.w) (base := X.base) T
  obtain ⟨z, c, us, v1, v3, v4, v5, v6, l, rfl, hl, hb, ok, k⟩ := h
  show WB X [_, _, _] _ [some (.ref l), none, none] H
  have ns : ¬ Src (.lst us) := ns_len (by rw [hb.len]; decide)
  have kl : ∀ {G : Hp}, Ex H G → G l = some (.lst us) := fun x => x.keep _ _ hl ns
  with_reducible refine' wb_cons ?_
  with_reducible refine' ws_to (fun σ' H' => ∃ wl, σ' = [some (.ref l), some (.ref wl), none] ∧ Ex H H' ∧ H' wl = some (.lst (pn.map V.str))) ?_ ?_
  · repeat walk_at "w"
    refine lst_i (lenk 9 rfl) fun wl Ha na xa ha => ?_
    exact ⟨wl, rfl, xa, ha⟩
  rintro σ' H1 ⟨wl, rfl, x1, hw⟩
  have nw : ¬ Src (.lst (pn.map V.str)) := ns_len (show 9 ≠ 4 by decide)
  with_reducible refine' wb_cons ?_
  with_reducible refine' ws_to (fun σ' H' => Ex H H' ∧ ∀ i, i < 9 → bd z c i = false) ?_ ?_
  · refine ws_for_range (n := 9) B n2 z_range (fun j σ H' => (∃ a, σ = [some (.ref l), some (.ref wl), a]) ∧ Ex H1 H' ∧ ∀ i, i < j → bd z c i = false) ?_ ?_ ?_
    · exact we_int ⟨rfl, ⟨_, rfl⟩, .refl _, fun i h => absurd h (Nat.not_lt_zero _)⟩
    · rintro j σ' H2 hj ⟨⟨a, rfl⟩, x2, hg⟩
      have x12 := x1.trans x2
      have hb2 := hb.mono x12
      have hw2 := x2.keep _ _ hw nw
      obtain ⟨v, hv, ty⟩ := hb2.kind (X := X) hj
      have hwj : (pn.map V.str)[j]? = some (.str (pnx j)) := by rw [List.getElem?_map, pnx_at hj]; rfl
      have gc : ∀ i, i < j → c i = false := fun i li => bd_c (hg i li)
      repeat walk_at "w"
      refine at_l (kl x12) (atI_nat hv) ?_
      repeat walk_at "w"
      refine we_ty z_list PyProof.Rows.boot_list ?_ (by decide) (by decide)
      repeat walk_at "w"
      obtain ⟨t, ht, kk⟩ := ty
      refine ⟨c j, ⟨_, _, .ty _, ht, kk⟩, ?_⟩
      cases e : c j with
      | true =>
        repeat walk_at "w"
        refine at_l hw2 (atI_nat hwj) ?_
        exact k (some j) _ x12 ⟨hj, bd_of e, hg⟩
      | false =>
        have hf9 := hb.fine
        refine ⟨false, rfl, iteF (wb_nil ?_)⟩
        with_reducible refine' wb_cons ?_
        with_reducible refine' ws_to (fun σ' H' => σ' = [some (.ref l), some (.ref wl), some (.int j)] ∧ Ex H2 H' ∧ (j = 2 → bd z c 2 = false)) ?_ ?_
        · refine ws_if (wt_and3 ?_)
          repeat walk_at "w"
          by_cases j2 : j = 2
          · subst j2
            rw [decide_eq_true (show ((2 : Nat) : Int) = 2 from rfl)]
            have u2 := hf9 2 (by decide) e
            have u1 := hf9 1 (by decide) (gc 1 (by decide))
            repeat walk_at "w"
            refine at_l (kl x12) (atI_nat (j := 2) u2) ?_
            repeat walk_at "w"
            rw [latV_nn z.latest]
            cases eo : z.latest with
            | none =>
              rw [show (none : Option Nat).isNone = true from rfl]
              repeat walk_at "w"
              refine ⟨rfl, .refl _, fun _ => ?_⟩
              unfold bd
              rw [e, eo]
              rfl
            | some n =>
              rw [show (some n).isNone = false from rfl]
              repeat walk_at "w"
              refine at_l (kl x12) (atI_nat (j := 1) u1) ?_
              repeat walk_at "w"
              rename_i t Ha xa ht
              obtain ⟨t1, rfl, ht1⟩ := hb2.ru.sh.mono xa
              refine o_neT2 B ht1 ht ?_
              have eb : bd z c 2 = !decide (z.share = 1) := by
                unfold bd
                rw [e, eo]
                rfl
              by_cases e1 : z.share = 1
              · have e2 := ne1_iff.mpr e1
                rw [decide_eq_true e2.1, decide_eq_true e2.2]
                refine ⟨false, rfl, iteF (wb_nil ?_)⟩
                exact ⟨rfl, xa, fun _ => by rw [eb, decide_eq_true e1]; rfl⟩
              · have e2 : (decide (z.share.num = 1) && decide ((z.share.den : Int) = 1)) = false := by
                  rw [Bool.and_eq_false_iff, decide_eq_false_iff_not, decide_eq_false_iff_not]
                  exact Classical.not_and_iff_not_or_not.mp fun h => e1 (ne1_iff.mp h)
                rw [e2]
                repeat walk_at "w"
                exact k (some 2) _ (x12.trans xa) ⟨by decide, by rw [eb, decide_eq_false e1]; rfl, hg⟩
          · rw [decide_eq_false (show ¬ ((j : Nat) : Int) = 2 by omega)]
            repeat walk_at "w"
            exact ⟨rfl, .refl _, fun h => absurd h j2⟩
        rintro σ' H3 ⟨rfl, x3, g2⟩
        show WB X _ _ _ _
        with_reducible refine' wb_cons ?_
        with_reducible refine' ws_to (fun σ' H' => σ' = [some (.ref l), some (.ref wl), some (.int j)] ∧ Ex H2 H' ∧ (j = 6 → bd z c 6 = false)) ?_ ?_
        · refine ws_if (wt_and4 ?_)
          repeat walk_at "w"
          by_cases j6 : j = 6
          · subst j6
            rw [decide_eq_true (show ((6 : Nat) : Int) = 6 from rfl)]
            have u6 := hf9 6 (by decide) e
            have u5 := hf9 5 (by decide) (gc 5 (by decide))
            have y3 := x12.trans x3
            have hr := hb.ru.ro.mono y3
            have hf := hb.ru.fl.mono y3
            repeat walk_at "w"
            refine at_l (kl y3) (atI_nat (j := 6) u6) ?_
            cases eo : z.roof with
            | none =>
              rw [eo] at hr
              cases hr
              repeat walk_at "w"
              rw [decide_eq_true (rfl : V.non = V.non)]
              repeat walk_at "w"
              refine ⟨rfl, x3, fun _ => ?_⟩
              unfold bd
              rw [e, eo]
              rfl
            | some r =>
              rw [eo] at hr
              have hr : PrQ r v6 H3 := hr
              repeat walk_at "w"
              rw [decide_eq_false hr.nn]
              repeat walk_at "w"
              refine at_l (kl y3) (atI_nat (j := 5) u5) ?_
              cases ef : z.floor with
              | none =>
                rw [ef] at hf
                cases hf
                repeat walk_at "w"
                rw [decide_eq_true (rfl : V.non = V.non)]
                repeat walk_at "w"
                refine ⟨rfl, x3, fun _ => ?_⟩
                unfold bd
                rw [e, eo, ef]
                rfl
              | some f =>
                rw [ef] at hf
                have hf : PrQ f v5 H3 := hf
                repeat walk_at "w"
                rw [decide_eq_false hf.nn]
                repeat walk_at "w"
                refine at_l (kl y3) (atI_nat (j := 6) u6) ?_
                repeat walk_at "w"
                refine at_l (kl y3) (atI_nat (j := 5) u5) ?_
                refine ⟨r, f, _, _, rfl, hr, hf, (ok.s5 r eo).mono (by decide), (ok.s4 f ef).mono (by decide), ?_⟩
                have eb : bd z c 6 = decide (r < f) := by
                  unfold bd
                  rw [e, eo, ef]
                  rfl
                cases ed : decide (r < f) with
                | true =>
                  repeat walk_at "w"
                  exact k (some 6) _ y3 ⟨by decide, eb.trans ed, hg⟩
                | false =>
                  repeat walk_at "w"
                  exact ⟨rfl, x3, fun _ => eb.trans ed⟩
          · rw [decide_eq_false (show ¬ ((j : Nat) : Int) = 6 by omega)]
            repeat walk_at "w"
            exact ⟨rfl, x3, fun h => absurd h j6⟩
        rintro σ' H4 ⟨rfl, x4, g6⟩
        have y4 := x12.trans x4
        have fin : ∀ {H5 : Hp}, Ex H4 H5 → (j = 8 → bd z c 8 = false) → (∃ a, [some (.ref l), some (.ref wl), some (.int (j : Int))] = [some (V.ref l), some (.ref wl), a]) ∧ Ex H1 H5 ∧ ∀ i, i < j + 1 → bd z c i = false := fun x5 g8 => by
          refine ⟨⟨_, rfl⟩, (x2.trans x4).trans x5, fun i li => ?_⟩
          by_cases ij : i < j
          · exact hg i ij
          · obtain rfl : i = j := by omega
            by_cases i2 : i = 2
            · subst i2
              exact g2 rfl
            · by_cases i6 : i = 6
              · subst i6
                exact g6 rfl
              · by_cases i8 : i = 8
                · subst i8
                  exact g8 rfl
                · unfold bd
                  rw [e]
                  match i, i2, i6, i8 with
                  | 0, _, _, _ => rfl
                  | 1, _, _, _ => rfl
                  | 2, h, _, _ => exact absurd rfl h
                  | 3, _, _, _ => rfl
                  | 4, _, _, _ => rfl
                  | 5, _, _, _ => rfl
                  | 6, _, h, _ => exact absurd rfl h
                  | 7, _, _, _ => rfl
                  | 8, _, _, h => exact absurd rfl h
                  | _ + 9, _, _, _ => rfl
        show WB X _ _ _ _
        refine wb_one (ws_if (wt_and3 ?_))
        repeat walk_at "w"
        by_cases j8 : j = 8
        · subst j8
          rw [decide_eq_true (show ((8 : Nat) : Int) = 8 from rfl)]
          have u8 := hf9 8 (by decide) e
          have u7 := hf9 7 (by decide) (gc 7 (by decide))
          repeat walk_at "w"
          refine at_l (kl y4) (atI_nat (j := 8) u8) ?_
          repeat walk_at "w"
          have eb : bd z c 8 = (z.kept && !z.doubled) := by
            unfold bd
            rw [e]
            rfl
          cases ek : z.kept with
          | false =>
            repeat walk_at "w"
            exact fin (.refl _) fun _ => by rw [eb, ek]; rfl
          | true =>
            repeat walk_at "w"
            refine at_l (kl y4) (atI_nat (j := 7) u7) ?_
            repeat walk_at "w"
            cases ed : z.doubled with
            | true =>
              repeat walk_at "w"
              exact fin (.refl _) fun _ => by rw [eb, ek, ed]; rfl
            | false =>
              repeat walk_at "w"
              exact k (some 8) _ y4 ⟨by decide, by rw [eb, ek, ed]; rfl, hg⟩
        · rw [decide_eq_false (show ¬ ((j : Nat) : Int) = 8 by omega)]
          repeat walk_at "w"
          exact fin (.refl _) fun h => absurd h j8
    · rintro σ' H2 ⟨_, x2, hg⟩
      exact ⟨x1.trans x2, hg⟩
  rintro σ' H2 ⟨x2, hg⟩
  repeat walk_at "w"
  exact k none _ x2 hg
end

/-! ### the value of a part, bent or not -/
def ThG (K : PySem.W.Frag) (z : Bk) (v : V) (H : Hp) : Nat → Prop
  | 0 => v = .str z.word
  | 1 => Tim K z.share v H
  | 2 => v = latV z.latest
  | 3 => Tim K z.factor v H
  | 4 => Tim K z.margin v H
  | 5 => OTim K z.floor v H
  | 6 => OTim K z.roof v H
  | 7 => v = .bl z.doubled
  | 8 => v = .bl z.kept
  | _ + 9 => False
theorem ThG.mono {K : PySem.W.Frag} {z : Bk} {v : V} {H H' : Hp} (x : Ex H H') : ∀ {i : Nat}, ThG K z v H i → ThG K z v H' i
  | 0, h => h
  | 1, h => Tim.mono x h
  | 2, h => h
  | 3, h => Tim.mono x h
  | 4, h => Tim.mono x h
  | 5, h => OTim.mono x h
  | 6, h => OTim.mono x h
  | 7, h => h
  | 8, h => h
  | _ + 9, h => h
def Th (K : PySem.W.Frag) (z : Bk) (c : Nat → Bool) (i : Nat) (v : V) (H : Hp) : Prop := (c i = true ∧ OddV K i v H) ∨ (c i = false ∧ ThG K z v H i)
theorem Th.mono {K : PySem.W.Frag} {z : Bk} {c : Nat → Bool} {i : Nat} {v : V} {H H' : Hp} (x : Ex H H') (h : Th K z c i v H) : Th K z c i v H' := h.imp (fun h => ⟨h.1, h.2.mono x⟩) fun h => ⟨h.1, h.2.mono x⟩
def plainI : List V := [.int 0, .int 2, .int 7, .int 8]
theorem Bent.good {K : PySem.W.Frag} {z : Bk} {c : Nat → Bool} {us : List V} {v1 v3 v4 v5 v6 : V} {H : Hp} (h : Bent K z c us v1 v3 v4 v5 v6 H) (ok : WkOk z) {i : Nat} (l : i < 9) (e : c i = false) :
    ∃ v, us[i]? = some v ∧ ((inV (.int i) plainI = true ∧ ∀ G, Th K z c i v G) ∨ (inV (.int i) plainI = false ∧ ∃ o, OPr o v H ∧ (∀ q, o = some q → Sz q 40) ∧ ∀ v' G, OTim K o v' G → Th K z c i v' G)) := by
  have hu := h.fine i l e
  match i, l with
  | 0, _ => exact ⟨_, hu, .inl ⟨by decide +kernel, fun G => .inr ⟨e, rfl⟩⟩⟩
  | 1, _ => exact ⟨_, hu, .inr ⟨by decide +kernel, some z.share, h.ru.sh, fun q e => by cases e; exact ok.sh.2.2.mono (by decide), fun v' G t => .inr ⟨e, t⟩⟩⟩
  | 2, _ => exact ⟨_, hu, .inl ⟨by decide +kernel, fun G => .inr ⟨e, rfl⟩⟩⟩
  | 3, _ => exact ⟨_, hu, .inr ⟨by decide +kernel, some z.factor, h.ru.fa, fun q e => by cases e; exact ok.s2, fun v' G t => .inr ⟨e, t⟩⟩⟩
  | 4, _ => exact ⟨_, hu, .inr ⟨by decide +kernel, some z.margin, h.ru.ma, fun q e => by cases e; exact ok.s3, fun v' G t => .inr ⟨e, t⟩⟩⟩
  | 5, _ => exact ⟨_, hu, .inr ⟨by decide +kernel, z.floor, h.ru.fl, ok.s4, fun v' G t => .inr ⟨e, t⟩⟩⟩
  | 6, _ => exact ⟨_, hu, .inr ⟨by decide +kernel, z.roof, h.ru.ro, ok.s5, fun v' G t => .inr ⟨e, t⟩⟩⟩
  | 7, _ => exact ⟨_, hu, .inl ⟨by decide +kernel, fun G => .inr ⟨e, rfl⟩⟩⟩
  | 8, _ => exact ⟨_, hu, .inl ⟨by decide +kernel, fun G => .inr ⟨e, rfl⟩⟩⟩
section
variable {P : Program} {w : World} {K : PySem.W.Frag} {mg : Str → Option Value} {base : Heap}
def spLThing (K : PySem.W.Frag) : Sp := fun vs H Q _ => ∃ z c us v1 v3 v4 v5 v6 l, ∃ i : Nat, vs = [.ref l, .int i] ∧ i < 9 ∧ H l = some (.lst us) ∧ Bent K z c us v1 v3 v4 v5 v6 H ∧ WkOk z ∧ ∀ v H', Ex H H' → Th K z c i v H' → Q v H'
theorem f__law_thing (T : Tm K mg) : GFn P w K mg base 4 "_law_thing" (spLThing K) := by
  obtain ⟨fd, F⟩ := T.d__law_thing
  refine GFn.mk F T.g__law_thing (def_ok F sc__law_thing (fun vs H Q E h => by obtain ⟨z, c, us, v1, v3, v4, v5, v6, l, i, rfl, _⟩ := h; rfl) ?_) (F.bindsN fun _ _ _ _ _ _ us hl => match us, hl with | [_, _], _ => rfl)
  intro X eP ew eK em eb eN es hf nd H vs Q E B h
  subst eP ew eK em eb
  have n0 : Sl X 0 "_law_rules_here" := slot_of eN es hf nd rfl (by first | exact Or.inl rfl | exact Or.inr rfl) (by decide) (by decide)
  have n1 : Sl X 1 "_law_at" := slot_of eN es hf nd rfl (by first | exact Or.inl rfl | exact Or.inr rfl) (by decide) (by decide)
  have z_isinstance : Bn X "isinstance" := bn_of es rfl T.z_isinstance
  have z_list : Bn X "list" := bn_of es rfl T.z_list
  have g_Time : Gn X "Time" := gn_of es rfl (by decide)
  have m_Time := T.g_Time
  obtain ⟨z, c, us, v1, v3, v4, v5, v6, l, i, rfl, hi, hl, hb, ok, k⟩ := h
  show WB X [_, _, _] _ [some (.ref l), some (.int i)] H
  have ns : ¬ Src (.lst us) := ns_len (by rw [hb.len]; decide)
  have kl : ∀ {G : Hp}, Ex H G → G l = some (.lst us) := fun x => x.keep _ _ hl ns
  cases e : c i with
  | true =>
    obtain ⟨p, x, hu, hp, hx⟩ := hb.bad i hi e
    repeat walk_at "w"
    refine at_l (kl (.refl _)) (atI_nat hu) ?_
    repeat walk_at "w"
    refine we_ty z_list PyProof.Rows.boot_list ?_ (by decide) (by decide)
    repeat walk_at "w"
    refine ⟨true, ⟨_, _, .ty _, .base (.lst hp), kit_ty (by decide +kernel)⟩, ?_⟩
    repeat walk_at "w"
    refine at_l (kl (.refl _)) (atI_nat hu) ?_
    repeat walk_at "w"
    exact k _ _ (.refl _) (.inl ⟨e, hx⟩)
  | false =>
    obtain ⟨v, hu, hg⟩ := hb.good ok hi e
    obtain ⟨v', hu', t, ht, kk⟩ := hb.kind (X := X) hi
    rw [hu] at hu'
    cases hu'
    rw [e] at kk
    repeat walk_at "w"
    refine at_l (kl (.refl _)) (atI_nat hu) ?_
    repeat walk_at "w"
    refine we_ty z_list PyProof.Rows.boot_list ?_ (by decide) (by decide)
    repeat walk_at "w"
    refine ⟨false, ⟨_, _, .ty _, ht, kk⟩, ?_⟩
    repeat walk_at "w"
    refine wt_cmp ?_ ?hm
    case hm => rfl
    repeat walk_at "w"
    rename_i t4 Ha xa ha
    refine o_inT (.of ha) rfl (by decide +kernel) ?_
    rcases hg with ⟨h1, h2⟩ | ⟨h1, o, ho, hz, h2⟩
    · rw [show inV (V.int (i : Int)) [V.int 0, V.int 2, V.int 7, V.int 8] = true from h1]
      repeat walk_at "w"
      refine at_l (kl xa) (atI_nat hu) ?_
      exact k _ _ xa (h2 _)
    · rw [show inV (V.int (i : Int)) [V.int 0, V.int 2, V.int 7, V.int 8] = false from h1]
      repeat walk_at "w"
      refine at_l (kl xa) (atI_nat hu) ?_
      have ho1 := ho.mono xa
      cases o with
      | none =>
        cases ho
        repeat walk_at "w"
        rw [decide_eq_true (rfl : V.non = V.non)]
        repeat walk_at "w"
        refine at_l (kl xa) (atI_nat hu) ?_
        exact k _ _ xa (h2 _ _ rfl)
      | some q =>
        have ho1 : PrQ q v Ha := ho1
        repeat walk_at "w"
        rw [decide_eq_false ho1.nn]
        repeat walk_at "w"
        refine at_l (kl xa) (atI_nat hu) ?_
        repeat walk_at "w"
        by_cases d1 : (q.den : Int) = 1
        · rw [decide_eq_true d1]
          repeat walk_at "w"
          refine at_l (kl xa) (atI_nat hu) ?_
          repeat walk_at "w"
          refine k _ _ xa (h2 _ _ (.inr ⟨q.num, rfl, ?_⟩))
          exact Rat.ext rfl (by have e1 : q.den = 1 := by omega
                                exact e1)
        · rw [decide_eq_false d1]
          repeat walk_at "w"
          refine at_l (kl xa) (atI_nat hu) ?_
          repeat walk_at "w"
          refine at_l (kl xa) (atI_nat hu) ?_
          repeat walk_at "w"
          refine ⟨_, _, rfl, rfl, den_ne q, g1_sz (den_ne q) (den_sz ((hz q rfl).mono (by decide))), fun v' H' x hv' => k _ _ (xa.trans x) (h2 _ _ (.inl ?_))⟩
          rw [Rat.num_divInt_den] at hv'
          exact hv'
end

/-! ### what a book says to bent parts -/
theorem Th.bad {K : PySem.W.Frag} {z : Bk} {c : Nat → Bool} {i : Nat} {v : V} {H : Hp} (h : Th K z c i v H) (e : c i = true) : OddV K i v H := by
  rcases h with h | h
  · exact h.2
  · rw [e] at h
    cases h.1
theorem Th.good {K : PySem.W.Frag} {z : Bk} {c : Nat → Bool} {i : Nat} {v : V} {H : Hp} (h : Th K z c i v H) (e : c i = false) : ThG K z v H i := by
  rcases h with h | h
  · rw [e] at h
    cases h.1
  · exact h.2
theorem bd_good {z : Bk} {c : Nat → Bool} {i : Nat} (e : c i = false) (b : Bool) (h : (match (generalizing := false) i with
  | 2 => z.latest.isSome && !decide (z.share = 1)
  | 6 => lessO z.roof z.floor
  | 8 => z.kept && !z.doubled
  | _ => false) = b) : bd z c i = b := by
  unfold bd
  rw [e, Bool.false_or]
  exact h
theorem al_of {K : PySem.W.Frag} {z : Bk} {c : Nat → Bool} {ws : List V} {H : Hp} (ok : WkOk z) (h : ∀ i, i < 9 → Th K z c i (ws.getD i .non) H) : ∀ n, n < 9 → (∀ i, i < n → bd z c i = false) → Al K ws H n (!bd z c n) := by
  intro n hn hg
  have up : ∀ {q : Rat}, Sz q 8 → Sz q 4000 := fun h => h.mono (by decide)
  have up4 : ∀ {q : Rat}, Sz q 40 → Sz q 4000 := fun h => h.mono (by decide)
  have th := h n hn
  cases e : c n with
  | true =>
    have o := th.bad e
    rw [bd_of e]
    match n, hn with
    | 0, _ =>
      rcases o with o | ⟨x, ex, o⟩
      · exact .inr ⟨rfl, o⟩
      · exact .inl ⟨x, ex, o.symm⟩
    | 1, _ =>
      rcases o with o | ⟨q, hv, zq, o⟩
      · exact .inr ⟨rfl, o⟩
      · exact .inl ⟨q, hv, up zq, o.symm⟩
    | 2, _ =>
      rcases o with ⟨i, ei, o⟩ | o
      · refine .inr (.inl ⟨i, z.share, ei, (h 1 (by decide)).good (bd_c (hg 1 (by decide))), up4 ok.sh.2.2, ?_⟩)
        rw [o]
        rfl
      · exact .inr (.inr ⟨rfl, o⟩)
    | 3, _ =>
      rcases o with o | ⟨q, hv, zq, o⟩
      · exact .inr ⟨rfl, o⟩
      · exact .inl ⟨q, hv, up zq, o.symm⟩
    | 4, _ =>
      rcases o with o | ⟨q, hv, zq, o⟩
      · exact .inr ⟨rfl, o⟩
      · exact .inl ⟨q, hv, up zq, o.symm⟩
    | 5, _ =>
      rcases o with ⟨o, nn⟩ | ⟨q, hv, zq, o⟩
      · exact .inr (.inr ⟨rfl, o, nn⟩)
      · exact .inr (.inl ⟨q, hv, up zq, o.symm⟩)
    | 6, _ =>
      rcases o with ⟨o, nn⟩ | ⟨q, hv, zq, o⟩
      · exact .inr (.inr ⟨rfl, o, nn⟩)
      · refine .inr (.inl ⟨q, z.floor, hv, up zq, (h 5 (by decide)).good (bd_c (hg 5 (by decide))), fun f ef => up4 (ok.s4 f ef), ?_⟩)
        rw [o]
        rfl
    | 7, _ => exact .inr ⟨rfl, NoF.nob o⟩
    | 8, _ => exact .inr ⟨rfl, NoF.nob o⟩
  | false =>
    have o := th.good e
    match n, hn with
    | 0, _ =>
      rw [bd_good e false rfl]
      refine .inl ⟨z.word, o, ?_⟩
      have := ok.word
      simp only [W4, List.mem_cons, List.not_mem_nil, or_false] at this
      rcases this with q | q | q | q <;> rw [q] <;> decide +kernel
    | 1, _ =>
      rw [bd_good e false rfl]
      refine .inl ⟨z.share, o, up4 ok.sh.2.2, ?_⟩
      rw [decide_eq_true ok.sh.1, decide_eq_true ok.sh.2.1]
      rfl
    | 2, _ =>
      rw [bd_good e _ rfl]
      have o : ws.getD 2 .non = latV z.latest := o
      cases el : z.latest with
      | none =>
        rw [el] at o
        exact .inl ⟨o, rfl⟩
      | some m =>
        rw [el] at o
        have hm := ok.lat m el
        refine .inr (.inl ⟨m, z.share, o, (h 1 (by decide)).good (bd_c (hg 1 (by decide))), up4 ok.sh.2.2, ?_⟩)
        rw [decide_eq_true (show (1 : Int) ≤ (m : Int) by omega), decide_eq_true (show (m : Int) ≤ 20 by omega)]
        cases decide (z.share = 1) <;> rfl
    | 3, _ =>
      rw [bd_good e false rfl]
      exact .inl ⟨z.factor, o, up4 ok.s2, (decide_eq_true ok.fa).symm⟩
    | 4, _ =>
      rw [bd_good e false rfl]
      exact .inl ⟨z.margin, o, up4 ok.s3, (decide_eq_true ok.ma).symm⟩
    | 5, _ =>
      rw [bd_good e false rfl]
      have o : OTim K z.floor (ws.getD 5 .non) H := o
      cases ef : z.floor with
      | none =>
        rw [ef] at o
        exact .inl ⟨o, rfl⟩
      | some f =>
        rw [ef] at o
        exact .inr (.inl ⟨f, o, up4 (ok.s4 f ef), (decide_eq_true (ok.fl f ef)).symm⟩)
    | 6, _ =>
      rw [bd_good e _ rfl]
      have o : OTim K z.roof (ws.getD 6 .non) H := o
      cases er : z.roof with
      | none =>
        rw [er] at o
        exact .inl ⟨o, rfl⟩
      | some r =>
        rw [er] at o
        refine .inr (.inl ⟨r, z.floor, o, up4 (ok.s5 r er), (h 5 (by decide)).good (bd_c (hg 5 (by decide))), fun f ef => up4 (ok.s4 f ef), ?_⟩)
        rw [decide_eq_true (ok.ro r er)]
        cases z.floor with
        | none => rfl
        | some f =>
          show (!decide (r < f)) = (true && decide (f ≤ r))
          rw [Bool.true_and]
          by_cases hf : r < f
          · rw [decide_eq_true hf, decide_eq_false (Rat.not_le.mpr hf)]
            rfl
          · rw [decide_eq_false hf, decide_eq_true (Rat.not_lt.mp hf)]
            rfl
    | 7, _ =>
      rw [bd_good e false rfl]
      exact .inl ⟨z.doubled, o, rfl⟩
    | 8, _ =>
      rw [bd_good e _ rfl]
      refine .inl ⟨z.kept, z.doubled, o, (h 7 (by decide)).good (bd_c (hg 7 (by decide))), ?_⟩
      cases z.kept <;> cases z.doubled <;> rfl
/-- no part bad: a book -/
theorem fb_ok {z : Bk} {c : Nat → Bool} (ok : WkOk z) (h : ∀ i, i < 9 → bd z c i = false) : BkOk z ∧ ∀ i, i < 9 → c i = false := by
  have hc : ∀ i, i < 9 → c i = false := fun i l => bd_c (h i l)
  have b2 := h 2 (by decide)
  have b6 := h 6 (by decide)
  have b8 := h 8 (by decide)
  rw [bd_good (hc 2 (by decide)) _ rfl] at b2
  rw [bd_good (hc 6 (by decide)) _ rfl] at b6
  rw [bd_good (hc 8 (by decide)) _ rfl] at b8
  have up : ∀ {q : Rat}, Sz q 40 → Sz q 1000 := fun h => h.mono (by decide)
  refine ⟨⟨ok.word, ok.sh.1, ok.sh.2.1, fun n e => ⟨(ok.lat n e).1, (ok.lat n e).2, ?_⟩, ok.fa, ok.ma, ok.fl, fun r e => ⟨ok.ro r e, fun f ef => ?_⟩, fun e => ?_, ok.sh.2.2.mono (by decide), up ok.s2, up ok.s3, fun f e => up (ok.s4 f e), fun r e => up (ok.s5 r e)⟩, hc⟩
  · rw [e] at b2
    by_cases q : z.share = 1
    · exact q
    · rw [decide_eq_false q] at b2
      cases b2
  · rw [e, ef] at b6
    exact Rat.not_lt.mp (of_decide_eq_false b6)
  · rw [e] at b8
    cases q : z.doubled with
    | true => rfl
    | false =>
      rw [q] at b8
      cases b8

--IMPORT HandS.Style
/-! ### _law_refused -/
section
variable {X : Cx} {k : Nat} {E : L2.St → XK} {σ : L2.St} {H : Hp} {D : Ends} {a b c : Expr} {pos : Pos}
/-- a, b, c = x, y, z -/
theorem ws_par3 {i i' i2 : Nat} {x y z : Str} {px py pz pt : Pos} {kt k2 : Nat} {pt2 : Pos} (B : Body X k E) (n : Sl X i x) (n' : Sl X i' y) (n2 : Sl X i2 z) (hk : X.env.blockKind = .function) (hx : X.env.kindOf x = some .local) (hy : X.env.kindOf y = some .local) (hz : X.env.kindOf z = some .local)
    (h : WE X a σ H fun v H1 => WE X b σ H1 fun w H2 => WE X c σ H2 fun u H3 => D.nx (((σ.set i (some v)).set i' (some w)).set i2 (some u)) H3) (hii : i ≠ i' := by decide) (hi2 : i ≠ i2 := by decide) (hj2 : i' ≠ i2 := by decide) (hne : ([x, y, z] : List Str).eraseDups.length = 3 := by decide) (hl : (py.line == px.line) = true := by rfl) (hl2 : (pz.line == px.line) = true := by rfl)
    (h1 : ([a, b, c].any fun | .Starred .. => true | _ => false) = false := by rfl) (h2 : [a, b, c].all (foldedForSure 8) = false := by rfl) (h3 : [a, b, c].all (constantsAlone 8) = false := by rfl)
    (hs : starEach [a, b, c] X.env = (false, eval a X.env) :: starEach [b, c] X.env := by rfl) (hs2 : starEach [b, c] X.env = (false, eval b X.env) :: starEach [c] X.env := by rfl) (ht : starEach [c] X.env = [(false, eval c X.env)] := by rfl) : WS X (.Assign [.Tuple [.Name x px, .Name y py, .Name z pz] kt pt] (.Tuple [a, b, c] k2 pt2) pos) D σ H := by
  have hw : swappedStores [.Tuple [.Name x px, .Name y py, .Name z pz] kt pt] (.Tuple [a, b, c] k2 pt2) X.env = pure (some [x, y, z]) := by
    unfold swappedStores
    simp only [hk, hx, hy, hz, hl, hl2, h2, h3, List.length_cons, List.length_nil, List.head?_cons, Option.map_some, Option.getD_some, List.filterMap_cons, List.filterMap_nil, Expr.pos, beq_self_eq_true, Bool.and_self, Bool.and_true, if_true, hne]
    rw [if_neg (by decide)]
    refine (if_neg (fun q => Bool.false_ne_true (h1.symm.trans q))).trans ?_
    rw [if_neg (by decide), if_neg Bool.false_ne_true, if_neg Bool.false_ne_true]
  exact wsP (ps_par3 B.calm n.nd n.at_ n'.at_ n2.at_ hii hi2 hj2 hx hy hz paS hw) (wa_three (we_mono h fun v H1 q => we_mono q fun w H2 q => we_mono q fun u H3 q => ⟨v, w, u, rfl, q⟩) hs hs2 ht)
end
section
variable {P : Program} {w : World} {K : PySem.W.Frag} {mg : Str → Option Value} {base : Heap}
theorem boot_VE : bootBuiltins "ValueError" = some (.type "ValueError") := by decide +kernel
theorem call_isED2 {X : Cx} {a D dd : Addr} {oe : Obj} {pn : List (Addr × Obj)} (C : ExcC X.K D) (hz : Zc (.ref D) (some dd) oe) (hf : ∃ vs, oe.data = .fields vs) : CallR (X.suite a ((a, oe) :: pn)) (.builtin "isinstance") fun xs H Q => ∃ (t C1 C2 : Addr) (r : Bool) (fs : List (Str × V)), xs = [.ref a, .ref t] ∧ H dd = some (.xd fs) ∧ H t = some (.tup [.ref C1, .ref C2]) ∧ PySem.W.kitAny X.K (.ref D) [.ref C1, .ref C2] = some r ∧ Q (.bl r) H := by
  intro pins s σ H xs us Q I r h
  obtain ⟨t, C1, C2, r', fs, rfl, hdd, ht, e, q⟩ := h
  cases r with
  | cons rx rr =>
    cases rr with
    | cons rt rr =>
      cases rr
      cases rx
      cases rt
      obtain ⟨hget, _⟩ := I.pin (a, oe) (List.mem_append.mpr (.inl List.mem_cons_self))
      have hx : ObjOk X.prog X.w H s.heap dd (.xd fs) := I.hok dd _ hdd
      obtain ⟨mA, hns, hr⟩ := hx
      obtain ⟨od, ho, hl⟩ := lookIn_ns hns
      obtain ⟨vs, hv⟩ := hf
      have J : PySem.W.InstAt s.heap a oe D (some od) := ⟨hget, hz.1, by unfold PySem.W.notCls; rw [hv] <;> rfl, by rw [hz.2]; exact ho⟩
      have hcl : (PySem.W.clsIn X.K D).isSome = true := by
        cases z : PySem.W.clsIn X.K D with
        | none =>
          have y := C.hd
          unfold PySem.W.hasDictIn at y
          rw [z] at y
          cases y
        | some cd => rfl
      obtain ⟨its, rv, ⟨o, ho, hc, n, hd⟩, _⟩ := I.tuple (.of ht : SqT X.K H t [.ref C1, .ref C2])
      have ev : its = [Value.ref C1, Value.ref C2] := by
        cases rv with
        | cons r1 rv =>
          cases rv with
          | cons r2 rv =>
            cases rv
            cases r1
            cases r2
            rfl
      obtain ⟨oc, od', oda, osl⟩ := o
      dsimp only at hc hd
      subst hc hd ev
      exact PySem.W.kia_tup (its := [.ref C1, .ref C2]) (PySem.W.kitx_exc (od := some od) hcl C.hg C.hk C.hs C.ha C.hn C.ht C.hm) I.kIn J ho e (fun z => nomatch z) fun tk => ⟨.bl r', H, I.kept (t' := tk) fun _ _ z => z, rfl, q⟩
section
variable {X : Cx} {a D dd : Addr} {oe : Obj} {pn : List (Addr × Obj)} {σ : L2.St} {H : Hp} {Q : VK} {e b : Expr} {p pos : Pos} {n : Str}
theorem we_isED2 (C : ExcC X.K D) (hz : L2N.Zn (.ref D) (some dd) oe) (hf : ∃ vs, oe.data = .fields vs) (bn : Bn (X.suite a ((a, oe) :: pn)) "isinstance")
    (h : WE (X.suite a ((a, oe) :: pn)) e σ H fun v H1 => WE (X.suite a ((a, oe) :: pn)) b σ H1 fun w H2 => v = .ref a ∧ ∃ (t C1 C2 : Addr) (r : Bool) (fs : List (Str × V)), w = .ref t ∧ H2 dd = some (.xd fs) ∧ H2 t = some (.tup [.ref C1, .ref C2]) ∧ PySem.W.kitAny X.K (.ref D) [.ref C1, .ref C2] = some r ∧ Q (.bl r) H2)
    (hs : starEach [e, b] X.env = (false, eval e X.env) :: starEach [b] X.env := by rfl) (ht : starEach [b] X.env = [(false, eval b X.env)] := by rfl) (hl : (backTo pos (starEach [b] X.env)).any (·.1) = false := by rfl) :
    WE (X.suite a ((a, oe) :: pn)) (.Call (.Name "isinstance" p) [e, b] [] pos) σ H Q :=
  we_callB (call_isED2 (pn := pn) C hz.zc hf) bn boot_isinstance (wa_two (we_mono h fun v H1 q => we_mono q fun w H2 q => by
    obtain ⟨rfl, t, C1, C2, r, fs, rfl, hd, h1, h2, q⟩ := q
    exact ⟨t, C1, C2, r, fs, rfl, hd, h1, h2, q⟩) hs ht) (by decide) (by decide) hs hl
end
theorem Ex.xd {H H' : Hp} {d : Addr} {o : HO} (x : Ex H H') (h : H' d = none) : Ex H (upd H' d o) := x.trans (Ex.new h)
theorem cvd_ref {C D a d : Addr} {H : Hp} {fs : List (Str × V)} {r : Bool} {P : Bool → Prop} (hd : H d = some (.xd fs)) (h : PySem.W.kitOne K (.ref D) (.ref C) = some r) (q : P r) :
    V.ref a = .ref a ∧ (∃ fs, H d = some (.xd fs)) ∧ ∃ cv r, (∀ u, RelV (.ref C) u → u = cv) ∧ PySem.W.kitOne K (.ref D) cv = some r ∧ P r := ⟨rfl, ⟨_, hd⟩, _, _, fun _ z => z, h, q⟩
theorem cvd_ty {t : String} {D a d : Addr} {H : Hp} {fs : List (Str × V)} {r : Bool} {P : Bool → Prop} (hd : H d = some (.xd fs)) (h : PySem.W.kitOne K (.ref D) (.type t) = some r) (q : P r) :
    V.ref a = .ref a ∧ (∃ fs, H d = some (.xd fs)) ∧ ∃ cv r, (∀ u, RelV (.ty t) u → u = cv) ∧ PySem.W.kitOne K (.ref D) cv = some r ∧ P r := ⟨rfl, ⟨_, hd⟩, _, _, fun _ z => z, h, q⟩
end

/-! ### _law_odd -/
section
variable {P : Program} {w : World} {K : PySem.W.Frag} {mg : Str → Option Value} {base : Heap}
/-- a row of odd values for part i -/
def OddR (K : PySem.W.Frag) (i : Nat) (a : Addr) (H : Hp) : Prop := ∃ xs, H a = some (.lst xs) ∧ xs.length = 5 ∧ ¬ Src (.lst xs) ∧ ∀ x ∈ xs, OddV K i x H
theorem OddR.mono {i : Nat} {a : Addr} {H H' : Hp} (x : Ex H H') (h : OddR K i a H) : OddR K i a H' := by
  obtain ⟨xs, h1, h2, h3, h4⟩ := h
  exact ⟨xs, x.keep _ _ h1 h3, h2, h3, fun y hy => (h4 y hy).mono x⟩
theorem tim_int {H : Hp} (i : Int) : Tim K (i : Rat) (.int i) H := .inr ⟨i, rfl, rfl⟩
def spOdd (K : PySem.W.Frag) : Sp := fun vs H Q _ => ∃ p, ∃ i : Nat, vs = [.ref p, .int i] ∧ i < 9 ∧ Sou H p ∧ ∀ v H', Ex H H' → OddV K i v H' → Q v H'
theorem f__law_odd (T : Tm K mg) : GFn P w K mg base 4 "_law_odd" (spOdd K) := by
  obtain ⟨fd, F⟩ := T.d__law_odd
  refine GFn.mk F T.g__law_odd (def_ok F sc__law_odd (fun vs H Q E h => by obtain ⟨p, i, rfl, _⟩ := h; rfl) ?_) (F.bindsN fun _ _ _ _ _ _ us hl => match us, hl with | [_, _], _ => rfl)
  intro X eP ew eK em eb eN es hf nd H vs Q E B h
  subst eP ew eK em eb
  have n0 : Sl X 0 "_law_source" := slot_of eN es hf nd rfl (by first | exact Or.inl rfl | exact Or.inr rfl) (by decide) (by decide)
  have n1 : Sl X 1 "_law_at" := slot_of eN es hf nd rfl (by first | exact Or.inl rfl | exact Or.inr rfl) (by decide) (by decide)
  have n2 : Sl X 2 "_law_menu" := slot_of eN es hf nd rfl (by first | exact Or.inl rfl | exact Or.inr rfl) (by decide) (by decide)
  have g_Time : Gn X "Time" := gn_of es rfl (by decide)
  have m_Time := T.g_Time
  have g__law_draw : Gn X "_law_draw" := gn_of es rfl (by decide)
  have F__law_draw := f__law_draw (P := X.prog) (w := X.w) (base := X.base) T
  obtain ⟨p, i, rfl, hi, so, k⟩ := h
  show WB X [_, _, _, _, _] _ [some (.ref p), some (.int i), none] H
  with_reducible refine' wb_cons ?_
  with_reducible refine' ws_to (fun σ' H' => ∃ m a0 a1 a2, σ' = [some (.ref p), some (.int i), some (.ref m)] ∧ Ex H H' ∧ H' m = some (.lst [.ref a0, .ref a1, .ref a2]) ∧ OddR X.K 0 a0 H' ∧ OddR X.K 1 a1 H' ∧ OddR X.K 2 a2 H') ?_ ?_
  · repeat walk_at "w"
    rename_i c Ha nc xa hc a0 Hb na0 xb h0 a1 Hc na1 xc h1 a2 Hd na2 xd h2 m He nm xe h3
    have s5 : ∀ {a b c d e : V}, ¬ Src (.lst [a, b, c, d, e]) := ns_len (show 5 ≠ 4 by decide)
    have r0 : OddR X.K 0 a0 Hb := ⟨_, h0, rfl, s5, fun x hx => by
      simp only [List.mem_cons, List.not_mem_nil, or_false] at hx
      rcases hx with rfl | rfl | rfl | rfl | rfl
      · exact .inr ⟨_, rfl, by decide +kernel⟩
      · exact .inr ⟨_, rfl, by decide +kernel⟩
      · exact .inl (.inl rfl)
      · exact .inl (.inr (.inl ⟨_, rfl⟩))
      · exact .inl (.inr (.inr ⟨c, _, rfl, xb.keep _ _ hc one_ns9⟩))⟩
    have r1 : OddR X.K 1 a1 Hc := ⟨_, h1, rfl, s5, fun x hx => by
      simp only [List.mem_cons, List.not_mem_nil, or_false] at hx
      rcases hx with rfl | rfl | rfl | rfl | rfl
      · exact .inr ⟨_, tim_int 0, (Sz.int (n := 2) (by decide) (by decide)).mono (by decide), by decide +kernel⟩
      · exact .inr ⟨_, tim_int (-1), (Sz.int (n := 2) (by decide) (by decide)).mono (by decide), by decide +kernel⟩
      · exact .inl (.inl rfl)
      · exact .inl (.inr (.inr (.inl ⟨_, rfl⟩)))
      · exact .inl (.inr (.inl ⟨_, rfl⟩))⟩
    have r2 : OddR X.K 2 a2 Hd := ⟨_, h2, rfl, s5, fun x hx => by
      simp only [List.mem_cons, List.not_mem_nil, or_false] at hx
      rcases hx with rfl | rfl | rfl | rfl | rfl
      · exact .inl ⟨_, rfl, by decide +kernel⟩
      · exact .inl ⟨_, rfl, by decide +kernel⟩
      · exact .inr (.inl ⟨_, rfl⟩)
      · exact .inr (.inr ⟨_, rfl⟩)
      · exact .inl ⟨_, rfl, by decide +kernel⟩⟩
    exact ⟨m, a0, a1, a2, rfl, (((xa.trans xb).trans xc).trans xd).trans xe, h3, r0.mono ((xc.trans xd).trans xe), r1.mono (xd.trans xe), r2.mono xe⟩
  rintro σ' H1 ⟨m, a0, a1, a2, rfl, x1, hm, r0, r1, r2⟩
  have s5 : ∀ {a b c d e : V}, ¬ Src (.lst [a, b, c, d, e]) := ns_len (show 5 ≠ 4 by decide)
  have s3 : ∀ {a b c : V}, ¬ Src (.lst [a, b, c]) := ns_len (show 3 ≠ 4 by decide)
  have gz : ∀ {t b : Int}, b ≠ 0 → b.natAbs < 2 ^ 41 → (g1 t b).natAbs < 2 ^ 9000 := fun {t b} h0 hb => g1_sz h0 (Nat.lt_of_lt_of_le hb (Nat.pow_le_pow_right (by decide) (by decide)))
  show WB X _ _ _ _
  with_reducible refine' wb_cons ?_
  with_reducible refine' ws_to (fun σ' H' => ∃ m a3 a4 a5, σ' = [some (.ref p), some (.int i), some (.ref m)] ∧ Ex H1 H' ∧ H' m = some (.lst [.ref a0, .ref a1, .ref a2, .ref a3, .ref a4, .ref a5]) ∧ OddR X.K 3 a3 H' ∧ OddR X.K 4 a4 H' ∧ OddR X.K 5 a5 H') ?_ ?_
  · repeat walk_at "w"
    refine ⟨1, 2, rfl, rfl, by decide, gz (by decide) (by decide), fun t1 H2 x2 ht1 => ?_⟩
    repeat walk_at "w"
    refine ⟨-1, 9, rfl, rfl, by decide, gz (by decide) (by decide), fun t2 H3 x3 ht2 => ?_⟩
    repeat walk_at "w"
    rename_i a3 Ha na3 xa h3 a4 Hb na4 xb h4 a5 Hc na5 xc h5 m2 Hd nm2 xd h6
    have zt : ∀ {a b : Int}, b ≠ 0 → a.natAbs < 2 ^ 8 → b.natAbs < 2 ^ 8 → Sz (Rat.divInt a b) 8 := fun h0 h1 h2 => Sz.div h0 h1 h2
    have q3 : OddR X.K 3 a3 Ha := ⟨_, h3, rfl, s5, fun x hx => by
      simp only [List.mem_cons, List.not_mem_nil, or_false] at hx
      rcases hx with rfl | rfl | rfl | rfl | rfl
      · exact .inr ⟨_, tim_int 0, (Sz.int (n := 2) (by decide) (by decide)).mono (by decide), by decide +kernel⟩
      · exact .inr ⟨_, .inl (ht1.mono xa), zt (by decide) (by decide) (by decide), by decide +kernel⟩
      · exact .inl (.inl rfl)
      · exact .inl (.inr (.inl ⟨_, rfl⟩))
      · exact .inl (.inr (.inr (.inl ⟨_, rfl⟩)))⟩
    have q4 : OddR X.K 4 a4 Hb := ⟨_, h4, rfl, s5, fun x hx => by
      simp only [List.mem_cons, List.not_mem_nil, or_false] at hx
      rcases hx with rfl | rfl | rfl | rfl | rfl
      · exact .inr ⟨_, tim_int (-1), (Sz.int (n := 2) (by decide) (by decide)).mono (by decide), by decide +kernel⟩
      · exact .inl (.inl rfl)
      · exact .inl (.inr (.inr (.inl ⟨_, rfl⟩)))
      · exact .inl (.inr (.inl ⟨_, rfl⟩))
      · exact .inr ⟨_, .inl (ht2.mono xb), zt (by decide) (by decide) (by decide), by decide +kernel⟩⟩
    have q5 : OddR X.K 5 a5 Hc := ⟨_, h5, rfl, s5, fun x hx => by
      simp only [List.mem_cons, List.not_mem_nil, or_false] at hx
      rcases hx with rfl | rfl | rfl | rfl | rfl
      · exact .inr ⟨_, tim_int 0, (Sz.int (n := 2) (by decide) (by decide)).mono (by decide), by decide +kernel⟩
      · exact .inr ⟨_, tim_int (-1), (Sz.int (n := 2) (by decide) (by decide)).mono (by decide), by decide +kernel⟩
      · exact .inl ⟨.inr (.inl ⟨_, rfl⟩), fun e => nomatch e⟩
      · exact .inl ⟨.inr (.inr (.inl ⟨_, rfl⟩)), fun e => nomatch e⟩
      · exact .inl ⟨.inr (.inl ⟨_, rfl⟩), fun e => nomatch e⟩⟩
    have xm := ((((x2.trans xa).trans x3).trans xb).trans xc).trans xd
    refine o_catL (xm.keep _ _ hm s3) h6 (Nat.le_trans (show 3 + 3 ≤ 1000 by decide) (by decide)) fun m3 n3 => ?_
    have xe := Ex.new (o := .lst ([V.ref a0, .ref a1, .ref a2] ++ [.ref a3, .ref a4, .ref a5])) n3
    exact ⟨m3, a3, a4, a5, rfl, xm.trans xe, upd_same, q3.mono ((((x3.trans xb).trans xc).trans xd).trans xe), q4.mono ((xc.trans xd).trans xe), q5.mono (xd.trans xe)⟩
  rintro σ' H2 ⟨m, a3, a4, a5, rfl, x2, hm, r3, r4, r5⟩
  show WB X _ _ _ _
  with_reducible refine' wb_cons ?_
  with_reducible refine' ws_to (fun σ' H' => ∃ m a6 a7 a8, σ' = [some (.ref p), some (.int i), some (.ref m)] ∧ Ex H2 H' ∧ H' m = some (.lst [.ref a0, .ref a1, .ref a2, .ref a3, .ref a4, .ref a5, .ref a6, .ref a7, .ref a8]) ∧ OddR X.K 6 a6 H' ∧ OddR X.K 7 a7 H' ∧ OddR X.K 8 a8 H') ?_ ?_
  · repeat walk_at "w"
    refine ⟨-1, 2, rfl, rfl, by decide, gz (by decide) (by decide), fun t1 G2 y2 ht1 => ?_⟩
    repeat walk_at "w"
    refine tup_i (show 0 ≤ sizeLine by decide) fun e0 Ga ya he => ?_
    repeat walk_at "w"
    rename_i a6 Gb n6 yb h6 a7 Gc n7 yc h7
    refine tup_i (show 0 ≤ sizeLine by decide) fun e1 Gd yd he1 => ?_
    repeat walk_at "w"
    rename_i a8 Ge n8 ye h8 m2 Gf nm2 yf h9
    have q6 : OddR X.K 6 a6 Gb := ⟨_, h6, rfl, s5, fun x hx => by
      simp only [List.mem_cons, List.not_mem_nil, or_false] at hx
      rcases hx with rfl | rfl | rfl | rfl | rfl
      · exact .inr ⟨_, tim_int 0, (Sz.int (n := 2) (by decide) (by decide)).mono (by decide), by decide +kernel⟩
      · exact .inr ⟨_, .inl (ht1.mono (ya.trans yb)), Sz.div (by decide) (by decide) (by decide), by decide +kernel⟩
      · exact .inl ⟨.inr (.inl ⟨_, rfl⟩), fun e => nomatch e⟩
      · exact .inl ⟨.inr (.inr (.inl ⟨_, rfl⟩)), fun e => nomatch e⟩
      · exact .inl ⟨.inr (.inr (.inr ⟨e0, rfl, yb.tup he⟩)), fun e => nomatch e⟩⟩
    have q7 : OddR X.K 7 a7 Gc := ⟨_, h7, rfl, s5, fun x hx => by
      simp only [List.mem_cons, List.not_mem_nil, or_false] at hx
      rcases hx with rfl | rfl | rfl | rfl | rfl
      · exact .inl rfl
      · exact .inr (.inl ⟨_, rfl⟩)
      · exact .inr (.inl ⟨_, rfl⟩)
      · exact .inr (.inr (.inl ⟨_, rfl⟩))
      · exact .inr (.inr (.inl ⟨_, rfl⟩))⟩
    have q8 : OddR X.K 8 a8 Ge := ⟨_, h8, rfl, s5, fun x hx => by
      simp only [List.mem_cons, List.not_mem_nil, or_false] at hx
      rcases hx with rfl | rfl | rfl | rfl | rfl
      · exact .inl rfl
      · exact .inr (.inl ⟨_, rfl⟩)
      · exact .inr (.inl ⟨_, rfl⟩)
      · exact .inr (.inr (.inl ⟨_, rfl⟩))
      · exact .inr (.inr (.inr ⟨e1, rfl, ye.tup he1⟩))⟩
    have ym := (((((y2.trans ya).trans yb).trans yc).trans yd).trans ye).trans yf
    refine o_catL (ym.keep _ _ hm (ns_len (show 6 ≠ 4 by decide))) h9 (Nat.le_trans (show 6 + 3 ≤ 1000 by decide) (by decide)) fun m3 n3 => ?_
    have xe := Ex.new (o := .lst ([V.ref a0, .ref a1, .ref a2, .ref a3, .ref a4, .ref a5] ++ [.ref a6, .ref a7, .ref a8])) n3
    exact ⟨m3, a6, a7, a8, rfl, ym.trans xe, upd_same, q6.mono ((((yc.trans yd).trans ye).trans yf).trans xe), q7.mono (((yd.trans ye).trans yf).trans xe), q8.mono (yf.trans xe)⟩
  rintro σ' H3 ⟨m, a6, a7, a8, rfl, x3, hm, r6, r7, r8⟩
  show WB X _ _ _ _
  have x123 := (x1.trans x2).trans x3
  have rows : ∀ j, j < 9 → ∃ a, [V.ref a0, .ref a1, .ref a2, .ref a3, .ref a4, .ref a5, .ref a6, .ref a7, .ref a8][j]? = some (.ref a) ∧ OddR X.K j a H3 := fun j hj => by
    match j, hj with
    | 0, _ => exact ⟨_, rfl, r0.mono (x2.trans x3)⟩
    | 1, _ => exact ⟨_, rfl, r1.mono (x2.trans x3)⟩
    | 2, _ => exact ⟨_, rfl, r2.mono (x2.trans x3)⟩
    | 3, _ => exact ⟨_, rfl, r3.mono x3⟩
    | 4, _ => exact ⟨_, rfl, r4.mono x3⟩
    | 5, _ => exact ⟨_, rfl, r5.mono x3⟩
    | 6, _ => exact ⟨_, rfl, r6⟩
    | 7, _ => exact ⟨_, rfl, r7⟩
    | 8, _ => exact ⟨_, rfl, r8⟩
  have s9 : ¬ Src (.lst [V.ref a0, .ref a1, .ref a2, .ref a3, .ref a4, .ref a5, .ref a6, .ref a7, .ref a8]) := ns_len (show 9 ≠ 4 by decide)
  obtain ⟨a, ha, xs, hxs, hx5, nx, hodd⟩ := rows i hi
  have so3 := so.mono x123
  with_reducible refine' wb_cons ?_
  with_reducible refine' ws_to (fun σ' H' => σ' = [some (.ref p), some (.int i), some (.ref m)] ∧ Ex H3 H') ?_ ?_
  · refine ws_if (wt_and2 ?_)
    repeat walk_at "w"
    by_cases i1 : i = 1
    · subst i1
      rw [decide_eq_true (show ((1 : Nat) : Int) = 1 from rfl)]
      repeat walk_at "w"
      rename_i d G xg d0 d1
      refine ite_dec (fun hc => ?_) (fun hc => ?_)
      · repeat walk_at "w"
        refine ⟨9, 8, rfl, rfl, by decide, gz (by decide) (by decide), fun t G2 y ht => ?_⟩
        repeat walk_at "w"
        exact k t _ (x123.trans (xg.trans y)) (.inr ⟨_, .inl ht, Sz.div (by decide) (by decide) (by decide), by decide +kernel⟩)
      · repeat walk_at "w"
        exact ⟨rfl, xg⟩
    · rw [decide_eq_false (show ¬ ((i : Nat) : Int) = 1 by omega)]
      repeat walk_at "w"
      exact ⟨rfl, .refl _⟩
  rintro σ' H4 ⟨rfl, x4⟩
  show WB X _ _ _ _
  have so4 := so3.mono x4
  repeat walk_at "w"
  refine at_l (x4.keep _ _ hm s9) (atI_nat ha) ?_
  repeat walk_at "w"
  rename_i d H5 x5 d0 d1
  refine at_all ((x4.trans x5).keep _ _ hxs nx) d0 (by rw [hx5]; exact d1) fun y hy => ?_
  exact k y _ (x123.trans (x4.trans x5)) ((hodd y hy).mono (x4.trans x5))
end

/-! ### found[a], found[b] = x, y -/
theorem sw_sub2 {a b c d e1 e2 : Expr} {p1 p2 pt pt2 : Pos} {kt k2 : Nat} {env : Env} : swappedStores [.Tuple [.Subscript a b p1, .Subscript c d p2] kt pt] (.Tuple [e1, e2] k2 pt2) env = pure none := by
  unfold swappedStores
  cases h1 : (env.blockKind != .function) <;> cases h2 : ([e1, e2].any fun | .Starred .. => true | _ => false) <;> simp [h1, h2]
section
variable {X : Cx} {k : Nat} {E : L2.St → XK} {σ : L2.St} {H : Hp} {D : Ends} {a b c d e1 e2 : Expr} {pos p1 p2 pt pt2 : Pos} {kt k2 : Nat}
def PutAt (H : Hp) (x y v : V) (P : Hp → Prop) : Prop := ∃ p xs i j, x = .ref p ∧ y = .int i ∧ H p = some (.lst xs) ∧ ixN xs.length i = some j ∧ P (upd H p (.lst (xs.set j v)))
theorem PutAt.mk {p : Addr} {xs : List V} {i : Int} {j : Nat} {v : V} {P : Hp → Prop} (hp : H p = some (.lst xs)) (hj : ixN xs.length i = some j) (q : P (upd H p (.lst (xs.set j v)))) : PutAt H (.ref p) (.int i) v P := ⟨p, xs, i, j, rfl, rfl, hp, hj, q⟩
theorem ws_put2 (B : Body X k E)
    (h : WE X e1 σ H fun v H1 => WE X e2 σ H1 fun w H2 => ∀ H3, Ex H2 H3 → WE X a σ H3 fun x H4 => WE X b σ H4 fun y H5 => PutAt H5 x y v fun H6 => WE X c σ H6 fun x' H7 => WE X d σ H7 fun y' H8 => PutAt H8 x' y' w fun H9 => D.nx σ H9)
    (hs : starEach [e1, e2] X.env = (false, eval e1 X.env) :: starEach [e2] X.env := by rfl) (ht : starEach [e2] X.env = [(false, eval e2 X.env)] := by rfl)
    (hn : (assignEach [Expr.Subscript a b p1, .Subscript c d p2] X.env).length = 2 := by rfl) (hst : (assignEach [Expr.Subscript a b p1, .Subscript c d p2] X.env).findIdx? (·.1) = none := by rfl)
    (ha : ∀ v, assign (.Subscript a b p1) X.env v = (do
      let ov ← holding [v] (eval a X.env)
      let iv ← holding [v, ov] (eval b X.env)
      standAt p1
      holding [v, ov, iv] (setItem ov iv v)
      release [v, ov, iv] []) := by intro _; rfl)
    (hb : ∀ v, assign (.Subscript c d p2) X.env v = (do
      let ov ← holding [v] (eval c X.env)
      let iv ← holding [v, ov] (eval d X.env)
      standAt p2
      holding [v, ov, iv] (setItem ov iv v)
      release [v, ov, iv] []) := by intro _; rfl)
    (h1 : (assignEach [Expr.Subscript a b p1, .Subscript c d p2] X.env).map (·.2) = assign (.Subscript a b p1) X.env :: (assignEach [Expr.Subscript c d p2] X.env).map (·.2) := by rfl)
    (h2 : (assignEach [Expr.Subscript c d p2] X.env).map (·.2) = assign (.Subscript c d p2) X.env :: (assignEach [] X.env).map (·.2) := by rfl)
    (h3 : (assignEach [Expr.Tuple [.Subscript a b p1, .Subscript c d p2] kt pt] X.env).map (·.2) = [assign (.Tuple [.Subscript a b p1, .Subscript c d p2] kt pt) X.env] := by rfl) :
    WS X (.Assign [.Tuple [.Subscript a b p1, .Subscript c d p2] kt pt] (.Tuple [e1, e2] k2 pt2) pos) D σ H := by
  refine wsP (ps_asg (peS (e := .Tuple [e1, e2] k2 pt2)) (pg_tup B.calm (pgs_cons (pg_sub peS peS set_list ha) (pgs_cons (pg_sub peS peS set_list hb) pgs_nil h2) h1) hn hst) rfl sw_sub2 h3) ?_
  refine we_tup (wa_two (we_mono h fun v H1 q => we_mono q fun w H2 q => ?_) hs ht)
  refine ⟨Nat.le_trans (show 2 ≤ 1000 by decide) (by decide), fun p H3 hp x e => ?_⟩
  refine ⟨p, _, rfl, .of (by rw [e]; exact upd_same), rfl, v, [w], rfl, we_mono (q H3 x) fun x' H4 q => we_mono q fun y' H5 q => ?_⟩
  obtain ⟨p', xs, i, j, e1, e2, hx, hj, q⟩ := q
  refine ⟨p', xs, i, j, e1, e2, hx, hj, w, [], rfl, we_mono q fun x' H6 q => we_mono q fun y' H7 q => ?_⟩
  obtain ⟨p', xs, i, j, e1, e2, hx, hj, q⟩ := q
  exact ⟨p', xs, i, j, e1, e2, hx, hj, rfl, q⟩
end
/-! ### a row of nine, stored to -/
/-- all but the row at l stands -/
structure Pt (l : Addr) (H H' : Hp) : Prop where
  row : ∃ ys, H l = some (.lst ys) ∧ ys.length = 9
  rest : ∀ a, a ≠ l → H' a = H a
theorem Pt.keep {l a : Addr} {H H' : Hp} {o : HO} (p : Pt l H H') (h : H a = some o) (n : ∀ ys, o = .lst ys → ys.length ≠ 9) : H' a = some o := by
  obtain ⟨ys, hy, h9⟩ := p.row
  refine (p.rest a fun e => ?_).trans h
  subst e
  rw [hy] at h
  cases h
  exact n ys rfl h9
theorem Pt.put {l : Addr} {H : Hp} {us : List V} {o : HO} (h : H l = some (.lst us)) (h9 : us.length = 9) : Pt l H (upd H l o) := ⟨⟨us, h, h9⟩, fun _ n => upd_ne n⟩
theorem PrQ.pt {l : Addr} {q : Rat} {v : V} {H H' : Hp} (x : Pt l H H') (h : PrQ q v H) : PrQ q v H' := by
  obtain ⟨p, e, h⟩ := h
  exact ⟨p, e, x.keep h fun _ e => nomatch e⟩
theorem OPr.pt {l : Addr} {o : Option Rat} {v : V} {H H' : Hp} (x : Pt l H H') (h : OPr o v H) : OPr o v H' := by
  cases o with
  | none => exact h
  | some q => exact PrQ.pt x h
theorem RuP.pt {l : Addr} {z : Bk} {v1 v3 v4 v5 v6 : V} {H H' : Hp} (x : Pt l H H') (h : RuP z v1 v3 v4 v5 v6 H) : RuP z v1 v3 v4 v5 v6 H' := ⟨h.sh.pt x, h.fa.pt x, h.ma.pt x, h.fl.pt x, h.ro.pt x⟩
theorem Tim.pt {K : PySem.W.Frag} {l : Addr} {q : Rat} {v : V} {H H' : Hp} (x : Pt l H H') (h : Tim K q v H) : Tim K q v H' := h.imp (fun ⟨p, dx, e, h⟩ => ⟨p, dx, e, x.keep h fun _ e => nomatch e⟩) id
theorem FgS.pt {l : Addr} {v : V} {H H' : Hp} (x : Pt l H H') (h : FgS v H) : FgS v H' := h.imp id (.imp id (.imp id fun ⟨p, e, h⟩ => ⟨p, e, x.keep h fun _ e => nomatch e⟩))
theorem NoS.pt {l : Addr} {v : V} {H H' : Hp} (x : Pt l H H') (h : NoS v H) : NoS v H' := h.imp id (.imp id fun ⟨p, y, e, h⟩ => ⟨p, y, e, x.keep h fun ys e => by cases e; exact (show (1 : Nat) ≠ 9 by decide)⟩)
theorem OddV.pt {K : PySem.W.Frag} {l : Addr} {v : V} {H H' : Hp} (x : Pt l H H') : ∀ {i : Nat}, OddV K i v H → OddV K i v H'
  | 0, h => h.imp (fun h => h.pt x) id
  | 1, h => h.imp (fun h => h.pt x) fun ⟨q, a, b⟩ => ⟨q, a.pt x, b⟩
  | 2, h => h
  | 3, h => h.imp (fun h => h.pt x) fun ⟨q, a, b⟩ => ⟨q, a.pt x, b⟩
  | 4, h => h.imp (fun h => h.pt x) fun ⟨q, a, b⟩ => ⟨q, a.pt x, b⟩
  | 5, h => h.imp (fun h => ⟨h.1.pt x, h.2⟩) fun ⟨q, a, b⟩ => ⟨q, a.pt x, b⟩
  | 6, h => h.imp (fun h => ⟨h.1.pt x, h.2⟩) fun ⟨q, a, b⟩ => ⟨q, a.pt x, b⟩
  | _ + 7, h => h.imp id (.imp id (.imp id fun ⟨p, e, h⟩ => ⟨p, e, x.keep h fun _ e => nomatch e⟩))
theorem Bent.pt {K : PySem.W.Frag} {l : Addr} {z : Bk} {c : Nat → Bool} {us : List V} {v1 v3 v4 v5 v6 : V} {H H' : Hp} (x : Pt l H H') (h : Bent K z c us v1 v3 v4 v5 v6 H) : Bent K z c us v1 v3 v4 v5 v6 H' :=
  ⟨h.len, h.ru.pt x, fun i l e => (h.bad i l e).elim fun p q => q.elim fun y q => ⟨p, y, q.1, x.keep q.2.1 (fun ys e => by cases e; exact (show (1 : Nat) ≠ 9 by decide)), q.2.2.pt x⟩, h.fine⟩
theorem Bent.bend {K : PySem.W.Frag} {z : Bk} {c : Nat → Bool} {us : List V} {v1 v3 v4 v5 v6 x : V} {H : Hp} {p : Addr} {i : Nat} (h : Bent K z c us v1 v3 v4 v5 v6 H) (hi : i < 9) (hp : H p = some (.lst [x])) (ho : OddV K i x H) :
    Bent K z (fun j => decide (j = i) || c j) (us.set i (.ref p)) v1 v3 v4 v5 v6 H := by
  refine ⟨by rw [List.length_set]; exact h.len, h.ru, fun j l e => ?_, fun j l e => ?_⟩
  · by_cases ji : j = i
    · subst ji
      exact ⟨p, x, List.getElem?_set_self (by rw [h.len]; exact hi), hp, ho⟩
    · rw [decide_eq_false ji, Bool.false_or] at e
      rw [List.getElem?_set_ne (fun e => ji e.symm)]
      exact h.bad j l e
  · have e := Bool.or_eq_false_iff.mp e
    rw [List.getElem?_set_ne (fun q => (of_decide_eq_false e.1) q.symm)]
    exact h.fine j l e.2
theorem Bent.fill {K : PySem.W.Frag} {z z' : Bk} {c : Nat → Bool} {us : List V} {v1 v3 v4 v5 v6 v5' v6' u : V} {H : Hp} {i : Nat} (h : Bent K z c us v1 v3 v4 v5 v6 H) (hi : i < 9) (ru : RuP z' v1 v3 v4 v5' v6' H) (hr : row9 z' v1 v3 v4 v5' v6' = (row9 z v1 v3 v4 v5 v6).set i u) :
    Bent K z' (fun j => !decide (j = i) && c j) (us.set i u) v1 v3 v4 v5' v6' H := by
  refine ⟨by rw [List.length_set]; exact h.len, ru, fun j l e => ?_, fun j l e => ?_⟩
  · have e := Bool.and_eq_true_iff.mp e
    have ji : j ≠ i := fun q => by
      have := e.1
      rw [decide_eq_true q] at this
      cases this
    rw [List.getElem?_set_ne (fun e => ji e.symm)]
    exact h.bad j l e.2
  · rw [hr]
    by_cases ji : j = i
    · subst ji
      rw [List.getElem?_set_self (by rw [h.len]; exact hi), List.getElem?_set_self hi]
    · rw [decide_eq_false ji, Bool.not_false, Bool.true_and] at e
      rw [List.getElem?_set_ne (fun e => ji e.symm), List.getElem?_set_ne (fun e => ji e.symm)]
      exact h.fine j l e
theorem Bent.row {K : PySem.W.Frag} {z : Bk} {v1 v3 v4 v5 v6 : V} {H : Hp} (ru : RuP z v1 v3 v4 v5 v6 H) : Bent K z (fun _ => false) (row9 z v1 v3 v4 v5 v6) v1 v3 v4 v5 v6 H := ⟨rfl, ru, (fun _ _ e => nomatch e), fun _ _ _ => rfl⟩
theorem BkSm.wk {z : Bk} (h : BkSm z) : WkOk z := ⟨h.ok.word, ⟨h.ok.sh0, h.ok.sh1, h.s1.mono (by decide)⟩, fun n e => ⟨(h.ok.lat n e).1, (h.ok.lat n e).2.1⟩, h.ok.fa, h.ok.ma, h.ok.fl, fun r e => (h.ok.ro r e).1, h.s2, h.s3, h.s4, h.s5⟩
/-! ### _law_bent -/
section
variable {P : Program} {w : World} {K : PySem.W.Frag} {mg : Str → Option Value} {base : Heap}
theorem ix_nat {n j : Nat} (h : j < n) : ixN n (j : Int) = some j := by
  unfold ixN
  rw [if_pos (by omega), if_pos (by omega)]
  rfl
/-- a bent row in a grown heap -/
structure BentAt (K : PySem.W.Frag) (H : Hp) (l : Addr) (v1 v3 v4 : V) (H' : Hp) : Prop where
  nw : H l = none
  ex : Ex H H'
  bt : ∃ z c us v5 v6, H' l = some (.lst us) ∧ Bent K z c us v1 v3 v4 v5 v6 H' ∧ WkOk z
theorem BentAt.mono {H H1 H' : Hp} {l : Addr} {v1 v3 v4 : V} (h : BentAt K H l v1 v3 v4 H1) (x : Ex H1 H') : BentAt K H l v1 v3 v4 H' := by
  obtain ⟨nw, ex, z, c, us, v5, v6, hl, hb, ok⟩ := h
  exact ⟨nw, ex.trans x, z, c, us, v5, v6, x.keep _ _ hl (ns_len (by rw [hb.len]; decide)), hb.mono x, ok⟩
def spBent (K : PySem.W.Frag) : Sp := fun vs H Q _ => ∃ z p l v1 v3 v4 v5 v6, vs = [.ref p, .ref l] ∧ Sou H p ∧ H l = some (.lst (row9 z v1 v3 v4 v5 v6)) ∧ RuP z v1 v3 v4 v5 v6 H ∧ BkSm z ∧
  ∀ l' H', BentAt K H l' v1 v3 v4 H' → Q (.ref l') H'
theorem f__law_bent (T : Tm K mg) : GFn P w K mg base 6 "_law_bent" (spBent K) := by
  obtain ⟨fd, F⟩ := T.d__law_bent
  refine GFn.mk F T.g__law_bent (def_ok F sc__law_bent (fun vs H Q E h => by obtain ⟨z, p, l, v1, v3, v4, v5, v6, rfl, _⟩ := h; rfl) ?_) (F.bindsN fun _ _ _ _ _ _ us hl => match us, hl with | [_, _], _ => rfl)
  intro X eP ew eK em eb eN es hf nd H vs Q E B h
  subst eP ew eK em eb
  have n0 : Sl X 0 "_law_source" := slot_of eN es hf nd rfl (by first | exact Or.inl rfl | exact Or.inr rfl) (by decide) (by decide)
  have n1 : Sl X 1 "_law_rules_here" := slot_of eN es hf nd rfl (by first | exact Or.inl rfl | exact Or.inr rfl) (by decide) (by decide)
  have n2 : Sl X 2 "_law_found" := slot_of eN es hf nd rfl (by first | exact Or.inl rfl | exact Or.inr rfl) (by decide) (by decide)
  have n3 : Sl X 3 "_law_turn" := slot_of eN es hf nd rfl (by first | exact Or.inl rfl | exact Or.inr rfl) (by decide) (by decide)
  have n4 : Sl X 4 "_law_at" := slot_of eN es hf nd rfl (by first | exact Or.inl rfl | exact Or.inr rfl) (by decide) (by decide)
  have n5 : Sl X 5 "_law_kind" := slot_of eN es hf nd rfl (by first | exact Or.inl rfl | exact Or.inr rfl) (by decide) (by decide)
  have z_list : Bn X "list" := bn_of es rfl T.z_list
  have z_range : Bn X "range" := bn_of es rfl T.z_range
  have g__law_draw : Gn X "_law_draw" := gn_of es rfl (by decide)
  have F__law_draw := f__law_draw (P := X.prog) (w := X.w) (base := X.base) T
  have g__law_odd : Gn X "_law_odd" := gn_of es rfl (by decide)
  have F__law_odd := f__law_odd (P := X.prog) (w := X.w) (base := X.base) T
  have g__law_moment : Gn X "_law_moment" := gn_of es rfl (by decide)
  have F__law_moment := f__law_moment (P := X.prog) (w := X.w) (base := X.base) T
  obtain ⟨z, p, l, v1, v3, v4, v5, v6, rfl, so, hl, hr, sm, k⟩ := h
  show WB X [_, _, _, _, _, _, _] _ [some (.ref p), some (.ref l), none, none, none, none] H
  have FO := f__law_odd (P := X.prog) (w := X.w) (base := X.base) T
  with_reducible refine' wb_cons ?_
  with_reducible refine' ws_to (fun σ' H' => ∃ m, σ' = [some (.ref p), some (.ref l), some (.ref m), none, none, none] ∧ BentAt X.K H m v1 v3 v4 H') ?_ ?_
  · repeat walk_at "w"
    refine we_listof z_list ?_
    repeat walk_at "w"
    refine ⟨l, _, rfl, .inl (.of hl), fun m nm => ?_⟩
    have xm := Ex.new (o := .lst (row9 z v1 v3 v4 v5 v6)) nm
    exact ⟨m, rfl, nm, xm, z, _, _, v5, v6, upd_same, .row (hr.mono xm), sm.wk⟩
  rintro σ' H1 ⟨m, rfl, h1⟩
  show WB X _ _ _ _
  with_reducible refine' wb_cons ?_
  with_reducible refine' ws_to (fun σ' H' => (∃ c3 c4, σ' = [some (.ref p), some (.ref l), some (.ref m), c3, c4, none]) ∧ BentAt X.K H m v1 v3 v4 H') ?_ ?_
  · refine ws_for_rangeE B n3 z_range ?_
    have so1 := so.mono h1.ex
    repeat walk_at "w"
    rename_i d H2 x2 d0 d1
    obtain ⟨n, rfl⟩ := Int.eq_ofNat_of_zero_le d0
    refine ⟨n, rfl, by omega, fun _ σ H' => (∃ c3 c4, σ = [some (.ref p), some (.ref l), some (.ref m), c3, c4, none]) ∧ BentAt X.K H m v1 v3 v4 H', ⟨⟨_, _, rfl⟩, h1.mono x2⟩, ?_, fun σ H' h => h⟩
    rintro j σ' H3 hj ⟨⟨c3, c4, rfl⟩, h3⟩
    have so3 := so.mono h3.ex
    repeat walk_at "w"
    rename_i e H4 x4 e0 e1
    obtain ⟨i, rfl⟩ := Int.eq_ofNat_of_zero_le e0
    have hi : i < 9 := by omega
    have h4 := h3.mono x4
    refine ⟨p, i, rfl, hi, so3.mono x4, fun v H5 x5 ho => ?_⟩
    repeat walk_at "w"
    rename_i q H6 nq x6 hq
    obtain ⟨nw, ex, z', c, us, v5', v6', hl6, hb, ok⟩ := h4.mono (x5.trans x6)
    refine put_l hl6 (ix_nat (by rw [hb.len]; exact hi)) ?_
    exact ⟨⟨_, _, rfl⟩, nw, ex.put nw, z', _, _, v5', v6', upd_same, (hb.bend hi hq (ho.mono x6)).pt (.put hl6 hb.len), ok⟩
  rintro σ' H2 ⟨⟨c3, c4, rfl⟩, h2⟩
  show WB X _ _ _ _
  with_reducible refine' wb_cons ?_
  with_reducible refine' ws_to (fun σ' H' => (∃ d, σ' = [some (.ref p), some (.ref l), some (.ref m), c3, c4, some (.int d)]) ∧ BentAt X.K H m v1 v3 v4 H') ?_ ?_
  · have so2 := so.mono h2.ex
    repeat walk_at "w"
    rename_i d Ha xa d0 d1
    exact ⟨⟨_, rfl⟩, h2.mono xa⟩
  rintro σ' H3 ⟨⟨d, rfl⟩, h3⟩
  show WB X _ _ _ _
  with_reducible refine' wb_cons ?_
  with_reducible refine' ws_to (fun σ' H' => σ' = [some (.ref p), some (.ref l), some (.ref m), c3, c4, some (.int d)] ∧ BentAt X.K H m v1 v3 v4 H') ?_ ?_
  · have so3 := so.mono h3.ex
    repeat walk_at "w"
    refine ite_dec (fun hd => ?_) (fun hd => ?_)
    · repeat walk_at "w"
      rename_i e Ha xa e0 e1
      obtain ⟨n, rfl⟩ := Int.eq_ofNat_of_zero_le e0
      obtain ⟨nw, ex, z', c, us, v5', v6', hl6, hb, ok⟩ := h3.mono xa
      refine put_l hl6 (ix_nat (j := 2) (by rw [hb.len]; decide)) ?_
      refine ⟨rfl, nw, ex.put nw, { z' with latest := some (1 + n) }, fun j => !decide (j = 2) && c j, _, v5', v6', upd_same, ?_, ⟨ok.word, ok.sh, fun n' e => ?_, ok.fa, ok.ma, ok.fl, ok.ro, ok.s2, ok.s3, ok.s4, ok.s5⟩⟩
      · have hc : (1 + (n : Int)) = ((1 + n : Nat) : Int) := by omega
        rw [hc]
        exact (hb.fill (z' := { z' with latest := some (1 + n) }) (v5' := v5') (v6' := v6') (u := .int ((1 + n : Nat) : Int)) (i := 2) (by decide) ⟨hb.ru.sh, hb.ru.fa, hb.ru.ma, hb.ru.fl, hb.ru.ro⟩ rfl).pt (.put hl6 hb.len)
      · cases e
        omega
    · repeat walk_at "w"
      exact ⟨rfl, h3⟩
  rintro σ' H4 ⟨rfl, h4⟩
  show WB X _ _ _ _
  with_reducible refine' wb_cons ?_
  with_reducible refine' ws_to (fun σ' H' => σ' = [some (.ref p), some (.ref l), some (.ref m), c3, c4, some (.int d)] ∧ BentAt X.K H m v1 v3 v4 H') ?_ ?_
  · have so4 := so.mono h4.ex
    repeat walk_at "w"
    refine ite_dec (fun hd => ?_) (fun hd => ?_)
    · refine wb_one (ws_put2 B ?_)
      repeat walk_at "w"
      refine ⟨p, rfl, so4, fun q va Ha xa hva hqa => ?_⟩
      repeat walk_at "w"
      refine ⟨p, rfl, so4.mono xa, fun r vb Hb xb hvb hqb => fun Hc xc => ?_⟩
      obtain ⟨nw, ex, z', c, us, v5', v6', hl6, hb, ok⟩ := h4.mono ((xa.trans xb).trans xc)
      have hva := hva.mono (xb.trans xc)
      have hvb := hvb.mono xc
      repeat walk_at "w"
      have p1 : Pt m Hc (upd Hc m (.lst (us.set 5 va))) := .put hl6 hb.len
      have hb1 := (hb.fill (z' := { z' with floor := some q }) (v5' := va) (v6' := v6') (u := va) (i := 5) (by decide) ⟨hb.ru.sh, hb.ru.fa, hb.ru.ma, hva, hb.ru.ro⟩ rfl).pt p1
      have hvb1 := hvb.pt p1
      refine .mk hl6 (ix_nat (j := 5) (by rw [hb.len]; decide)) ?_
      have ex1 := ex.put (o := .lst (us.set 5 va)) nw
      have hl7 : upd Hc m (.lst (us.set 5 va)) m = some (.lst (us.set 5 va)) := upd_same
      generalize upd Hc m (.lst (us.set 5 va)) = Hd at p1 hb1 hvb1 ex1 hl7 ⊢
      repeat walk_at "w"
      have p2 : Pt m Hd (upd Hd m (.lst ((us.set 5 va).set 6 vb))) := .put hl7 hb1.len
      refine .mk hl7 (ix_nat (j := 6) (by rw [hb1.len]; decide)) ?_
      have hb2 := (hb1.fill (z' := { z' with floor := some q, roof := some r }) (v5' := va) (v6' := vb) (u := vb) (i := 6) (by decide) ⟨hb1.ru.sh, hb1.ru.fa, hb1.ru.ma, hb1.ru.fl, hvb1⟩ rfl).pt p2
      exact ⟨rfl, nw, ex1.put nw, _, _, _, va, vb, upd_same, hb2, ⟨ok.word, ok.sh, ok.lat, ok.fa, ok.ma, (fun f e => by cases e; exact hqa.1), (fun f e => by cases e; exact hqb.1), ok.s2, ok.s3, (fun f e => by cases e; exact hqa.2.mono (by decide)), (fun f e => by cases e; exact hqb.2.mono (by decide))⟩⟩
    · repeat walk_at "w"
      exact ⟨rfl, h4⟩
  rintro σ' H5 ⟨rfl, h5⟩
  show WB X _ _ _ _
  with_reducible refine' wb_cons ?_
  with_reducible refine' ws_to (fun σ' H' => σ' = [some (.ref p), some (.ref l), some (.ref m), c3, c4, some (.int d)] ∧ BentAt X.K H m v1 v3 v4 H') ?_ ?_
  · have so5 := so.mono h5.ex
    repeat walk_at "w"
    refine ite_dec (fun hd => ?_) (fun hd => ?_)
    · refine wb_one (ws_put2 B ?_)
      repeat walk_at "w"
      rename_i e Ha xa e0 e1
      intro Hc xc
      obtain ⟨nw, ex, z', c, us, v5', v6', hl6, hb, ok⟩ := h5.mono (xa.trans xc)
      repeat walk_at "w"
      have p1 : Pt m Hc (upd Hc m (.lst (us.set 7 (.bl (decide (e = 0)))))) := .put hl6 hb.len
      have hb1 := (hb.fill (z' := { z' with doubled := decide (e = 0) }) (v5' := v5') (v6' := v6') (u := .bl (decide (e = 0))) (i := 7) (by decide) ⟨hb.ru.sh, hb.ru.fa, hb.ru.ma, hb.ru.fl, hb.ru.ro⟩ rfl).pt p1
      refine .mk hl6 (ix_nat (j := 7) (by rw [hb.len]; decide)) ?_
      have ex1 := ex.put (o := .lst (us.set 7 (.bl (decide (e = 0))))) nw
      have hl7 : upd Hc m (.lst (us.set 7 (.bl (decide (e = 0))))) m = some (.lst (us.set 7 (.bl (decide (e = 0))))) := upd_same
      generalize upd Hc m (.lst (us.set 7 (.bl (decide (e = 0))))) = Hd at p1 hb1 ex1 hl7 ⊢
      repeat walk_at "w"
      have p2 : Pt m Hd (upd Hd m (.lst ((us.set 7 (.bl (decide (e = 0)))).set 8 (.bl true)))) := .put hl7 hb1.len
      refine .mk hl7 (ix_nat (j := 8) (by rw [hb1.len]; decide)) ?_
      have hb2 := (hb1.fill (z' := { z' with doubled := decide (e = 0), kept := true }) (v5' := v5') (v6' := v6') (u := .bl true) (i := 8) (by decide) ⟨hb1.ru.sh, hb1.ru.fa, hb1.ru.ma, hb1.ru.fl, hb1.ru.ro⟩ rfl).pt p2
      exact ⟨rfl, nw, ex1.put nw, _, _, _, _, _, upd_same, hb2, ⟨ok.word, ok.sh, ok.lat, ok.fa, ok.ma, ok.fl, ok.ro, ok.s2, ok.s3, ok.s4, ok.s5⟩⟩
    · repeat walk_at "w"
      exact ⟨rfl, h5⟩
  rintro σ' H6 ⟨rfl, h6⟩
  show WB X _ _ _ _
  repeat walk_at "w"
  exact k m _ h6
end

/-! ### parts changed: put_part, change -/
theorem ex_xx {S : Addr → Prop} {H H1 H2 : Hp} (x : Ex H H1) (y : ExX S H1 H2) : ExX S H H2 := ⟨fun a o n h g => y.kp a o n (x.kp a o h g) (g.mono x), fun a l o n h s => by
  obtain ⟨o1, h1, s1⟩ := x.src a l o h s
  exact y.src a l o1 n h1 s1, fun a h => y.th a (x.there a h)⟩
/-- a book with the nine values us -/
structure IsBk (K : PySem.W.Frag) (p dx d : Addr) (us : List V) (H : Hp) : Prop where
  hp : H p = some (.ins (CB K) dx [("rules", .ref d)])
  hd : H d = some (.dK (pk.zip us))
  l9 : us.length = 9
theorem IsBk.mono {K : PySem.W.Frag} {p dx d : Addr} {us : List V} {H H' : Hp} (x : Ex H H') (h : IsBk K p dx d us H) : IsBk K p dx d us H' := ⟨x.ins h.hp, x.keep _ _ h.hd not_src_dk, h.l9⟩
theorem BookV.is {K : PySem.W.Frag} {z : Bk} {p : Addr} {H : Hp} (h : BookV K z (.ref p) H) : ∃ dx d sh fa ma fl ro, IsBk K p dx d (row9 z sh fa ma fl ro) H ∧ Kept K z sh fa ma fl ro H := by
  obtain ⟨p', dx, d, sh, fa, ma, fl, ro, e, hp, hd, hk⟩ := h
  cases e
  exact ⟨dx, d, sh, fa, ma, fl, ro, ⟨hp, hd, rfl⟩, hk⟩
/-- what comes of the nine values us in the place of a book's -/
def Chg (K : PySem.W.Frag) (p : Addr) (us : List V) (H : Hp) (Q : VK) (E : XK) : Prop :=
  (∃ z sh fa ma fl ro, us = row9 z sh fa ma fl ro ∧ Raw K z sh fa ma fl ro H ∧ BkOk z ∧ ∀ H', ExX (fun a => a = p) H H' → BookV K z (.ref p) H' → Q .non H') ∨ ∃ n, BadAt K us n H ∧ ThrG (Ex H) E (ga K "BadBook") "part" (.str (pnx n))
theorem Chg.mono {K : PySem.W.Frag} {p : Addr} {us : List V} {H H1 : Hp} {Q : VK} {E : XK} (x : Ex H H1) (h : Chg K p us H Q E) : Chg K p us H1 Q E := by
  rcases h with ⟨z, sh, fa, ma, fl, ro, e, hr, ok, k⟩ | ⟨n, hb, k⟩
  · exact .inl ⟨z, sh, fa, ma, fl, ro, e, hr.mono x, ok, fun H' y hb => k H' (ex_xx x y) hb⟩
  · exact .inr ⟨n, hb.mono x, fun H' d y nd => k H' d (x.trans y) nd⟩
/-- a book's values with one put in -/
theorem put_at {us : List V} {v : V} {i : Nat} (l : us.length = 9) (hi : i < 9) : putK (pk.zip us) (.inr (pnx i)) v = pk.zip (us.set i v) := putK_zip pk_nd (by rw [l]; rfl) (pk_at (pnx_at hi))
theorem merge_nine {us : List V} (l : us.length = 9) : mergeK [] (pk.zip us) = pk.zip us := mergeK_zip pk_nd (by rw [l]; rfl)
theorem nine_len {us : List V} (l : us.length = 9) : (pk.zip us).length = 9 := by rw [List.length_zip, l]; rfl
section
variable {X : Cx} {k : Nat} {E0' : XK} {σ : L2.St} {H : Hp} {D : Ends} {o value e : Expr} {pos pos' p2 : Pos}
/-- self.rules = checked(..), the dict made -/
theorem ws_rulesC (hP : X.prog = PySem.Challenge.pw_resendtimers_k63_changes_made) (B : Body X k (fun _ => E0')) (T : Tm X.K X.mg) (hk : 9 ≤ k) (gn : Gn X "checked") {p dx d : Addr} {us : List V} (hb : IsBk X.K p dx d us H)
    (h : WE X e σ H fun v H1 => ∃ q us', v = .ref q ∧ Ex H H1 ∧ H1 q = some (.dK (pk.zip us')) ∧ Chg X.K p us' H1 (fun _ H' => D.nx σ H') E0')
    (ho : ∀ H' Q, Q (.ref p) H' → WE X o σ H' Q) (hs : swapsWith (.Call (.Name "checked" p2) [e] [] pos) (some (.Attribute o "rules" pos')) pos.line X.env = pure false := by rfl)
    (hs1 : starEach [e] X.env = (false, eval e X.env) :: starEach [] X.env := by rfl) (hs2 : starEach [e] X.env = [(false, eval e X.env)] := by rfl) : WS X (.Assign [.Attribute o "rules" pos'] (.Call (.Name "checked" p2) [e] [] pos) pos) D σ H := by
  refine ws_rules T ?_ hs
  refine we_call (sp := fun vs H1 Q E => ∃ q us', vs = [.ref q] ∧ H1 q = some (.dK (pk.zip us')) ∧ ((∃ z sh fa ma fl ro, us' = row9 z sh fa ma fl ro ∧ Raw X.K z sh fa ma fl ro H1 ∧ BkOk z ∧ ∀ d' H' sh fa ma fl ro, Ex H1 H' → H1 d' = none → H' d' = some (dk9 z sh fa ma fl ro) → Kept X.K z sh fa ma fl ro H' → Q (.ref d') H') ∨ ∃ n, BadAt X.K us' n H1 ∧ ThrG (Ex H1) E (ga X.K "BadBook") "part" (.str (pnx n)))) (j := 9) B gn ?_ hk ?_ hs1 (by rfl)
  · obtain ⟨f1, a1, b1, c1⟩ := f_checked (P := X.prog) (w := X.w) (base := X.base) T
    obtain ⟨f2, a2, b2, c2⟩ := f_checkedF (P := X.prog) (w := X.w) (base := X.base) hP T
    rw [a1] at a2
    cases a2
    refine ⟨f1, a1, b1, fun A outer s H us vs Q E hr e0 r h => ?_⟩
    obtain ⟨q, us', rfl, hq, h⟩ := h
    rcases h with ⟨z, sh, fa, ma, fl, ro, rfl, hr', ok, kk⟩ | ⟨n, hb, kk⟩
    · exact c1 A outer s H us _ Q E hr e0 r ⟨z, q, sh, fa, ma, fl, ro, rfl, hq, hr', ok, kk⟩
    · exact c2 A outer s H us _ Q E hr e0 r ⟨q, us', n, rfl, hq, hb, kk⟩
  refine wa_one (we_mono h fun v H1 z => ?_) hs2
  obtain ⟨q, us', rfl, x1, hq, hc⟩ := z
  refine ⟨q, us', rfl, hq, ?_⟩
  rcases hc with ⟨z, sh, fa, ma, fl, ro, e, hr, ok, kk⟩ | ⟨n, hb', kk⟩
  · refine .inl ⟨z, sh, fa, ma, fl, ro, e, hr, ok, fun d' H' sh' fa' ma' fl' ro' x2 nd' hd' hk' => ho _ _ ?_⟩
    have hp2 := (x1.trans x2).ins hb.hp
    refine ⟨p, dx, _, rfl, hp2, (show 1 < 1000 by decide), ?_⟩
    have ne : d' ≠ p := fun e => by subst e; rw [hp2] at hd'; cases hd'
    have tp : ∀ {q : Rat} {v : V}, TimeV (CT X.K) q v H' → TimeV (CT X.K) q v (upd H' p (.ins (CB X.K) dx [("rules", .ref d')])) := fun h => TimeV.up hp2 (fun dx e => by injection e with _ _ e; cases e) h
    have op : ∀ {o : Option Rat} {v : V}, OptT X.K o v H' → OptT X.K o v (upd H' p (.ins (CB X.K) dx [("rules", .ref d')])) := fun {o v} h => by
      cases o with
      | none => exact h
      | some q => exact tp h
    exact kk _ (x2.x.put rfl) ⟨p, dx, d', sh', fa', ma', fl', ro', rfl, upd_same, (upd_ne ne).trans hd', tp hk'.sh, tp hk'.fa, tp hk'.ma, op hk'.fl, op hk'.ro⟩
  · exact .inr ⟨n, hb', kk⟩
end
section
variable {P : Program} {w : World} {K : PySem.W.Frag} {mg : Str → Option Value} {base : Heap}
def spPut (K : PySem.W.Frag) : Sp := fun vs H Q E => ∃ p dx d us v, ∃ i : Nat, vs = [.ref p, .str (pnx i), v] ∧ i < 9 ∧ IsBk K p dx d us H ∧ Chg K p (us.set i v) H Q E
theorem f_put (hP : P = PySem.Challenge.pw_resendtimers_k63_changes_made) (T : Tm K mg) : FnR P w K mg base (RX P w) 10 (ma K (CB K) "put_part") (spPut K) := by
  obtain ⟨fd, F⟩ := T.d_Book_put_part
  refine raw_of F (def_ok F sc_Book_put_part (fun vs H Q E h => by obtain ⟨p, dx, d, us, v, i, rfl, _⟩ := h; rfl) ?_) (F.bindsN fun _ _ _ _ _ _ us hl => match us, hl with | [_, _, _], _ => rfl)
  intro X eP ew eK em eb eN es hf nd H vs Q E B h
  subst eP ew eK em eb
  have n0 : Sl X 0 "self" := slot_of eN es hf nd rfl (by first | exact Or.inl rfl | exact Or.inr rfl) (by decide) (by decide)
  have n1 : Sl X 1 "part" := slot_of eN es hf nd rfl (by first | exact Or.inl rfl | exact Or.inr rfl) (by decide) (by decide)
  have n2 : Sl X 2 "thing" := slot_of eN es hf nd rfl (by first | exact Or.inl rfl | exact Or.inr rfl) (by decide) (by decide)
  have g_checked : Gn X "checked" := gn_of es rfl (by decide)
  have F_checked := f_checked (P := X.prog) (w := X.w) (base := X.base) T
  obtain ⟨p, dx, d, us, v, i, rfl, hi, hb, hc⟩ := h
  show WB X [_] _ [some (.ref p), some (.str (pnx i)), some (v)] H
  refine wb_one ?_
  refine ws_rulesC hP B T (by decide) g_checked hb ?_ (by intro H' Q' q; (repeat walk_at "w"); exact q)
  refine we_dictMK fun q nq => ?_
  have xq : Ex H (upd H q (.dK [])) := Ex.new nq
  have hb1 := hb.mono xq
  repeat walk_at "w"
  refine bk_fld hb1.hp ?_
  have neq : q ≠ d := fun e => by subst e; rw [hb.hd] at nq; cases nq
  refine ⟨d, pk.zip us, rfl, upd_same, hb1.hd, neq, by rw [nine_len hb.l9]; decide, fun p' np' n' => ?_⟩
  rw [merge_nine hb.l9] at n' ⊢
  repeat walk_at "w"
  refine ⟨pnx i, rfl, upd_same, (upd_ne np'.symm).trans upd_same, ?_⟩
  rw [put_at hb.l9 hi]
  have n0 : H p' = none := by
    rw [upd_ne np', upd_ne np'] at n'
    exact n'
  have xf : Ex H (upd (upd (upd (upd (upd H q (.dK [])) q (.dK (pk.zip us))) p' (.dK [])) p' (.dK [(.inr (pnx i), v)])) q (.dK (pk.zip (us.set i v)))) := ((((xq.put nq).put n0).put n0).put nq)
  exact ⟨q, us.set i v, rfl, xf, upd_same, hc.mono xf⟩
end

/-! ### the setters, change, assign -/
section
variable {P : Program} {w : World} {K : PySem.W.Frag} {mg : Str → Option Value} {base : Heap}
def spSetP (K : PySem.W.Frag) (i : Nat) : Sp := fun vs H Q E => ∃ p dx d us v, vs = [.ref p, v] ∧ IsBk K p dx d us H ∧ Chg K p (us.set i v) H Q E
end
theorem o_notInT {X : Cx} {H : Hp} {Q : VK} {v : V} {a : Addr} {xs : List V} (h : SqT X.K H a xs) (hv : flatV v = true) (hx : xs.all flatV = true) (q : Q (.bl (!inV v xs)) H) : Op2 X (compareOp .NotIn) v (.ref a) H Q := op2_of op_notIn_seq ⟨a, xs, rfl, .inr h, hv, hx, q⟩
section
variable {P : Program} {w : World} {K : PySem.W.Frag} {mg : Str → Option Value} {base : Heap}
def spChange (K : PySem.W.Frag) (ks : List Str) : Sp := fun vs H Q E => ∃ p dx d us q zs, vs = [.ref p, .ref q] ∧ IsBk K p dx d us H ∧ H q = some (.dK ((ks.map (Sum.inr : Str → Key)).zip zs)) ∧ zs.length = ks.length ∧ ks.length ≤ 9 ∧ q ≠ d ∧
  (((∀ x ∈ ks, x ∈ pn) ∧ ∃ us', mergeK (pk.zip us) ((ks.map (Sum.inr : Str → Key)).zip zs) = pk.zip us' ∧ Chg K p us' H Q E) ∨
   ((∃ x ∈ ks, x ∉ pn) ∧ ThrG (fun G => ∃ od, G = upd H q (.frz od (.dK ((ks.map (Sum.inr : Str → Key)).zip zs)))) E (ga K "BadBook") "part" (.str "name")))
theorem inV_pn (x : Str) : inV (.str x) (pn.map V.str) = decide (x ∈ pn) := by
  have e : ∀ ys : List Str, (ys.map V.str).any (fun y => eqV y (.str x)) = decide (x ∈ ys) := fun ys => by
    induction ys with
    | nil => rfl
    | cons y ys ih =>
      rw [List.map_cons, List.any_cons, ih]
      have h1 : eqV (.str y) (.str x) = decide (x = y) := by
        show (y == x) = decide (x = y)
        by_cases h : x = y
        · subst h; simp
        · rw [decide_eq_false h]
          exact beq_eq_false_iff_ne.mpr (Ne.symm h)
      rw [h1, ← Bool.decide_or]
      congr 1
      rw [List.mem_cons]
  exact e pn
theorem m_change (hP : P = PySem.Challenge.pw_resendtimers_k63_changes_made) (T : Tm K mg) {ks : List Str} (nd0 : ks.Nodup) (hz : ks.length ≤ 1000) (hbind : ∀ (kV doc pm : Value) (an : Option Addr) (cdv ct : Value) (us ws : List Value), us.length = ["self"].length → ws.length = ks.length →
      bindArgs (PySem.W.fnOf "change" "Book.change" (defArgs s_Book_change) (defBody s_Book_change) (defScope s_Book_change) .none kV doc pm an cdv ct) ⟨us, ks.zip ws⟩ = ((alloc ({ cls := .type "dict", data := .dict #[] } : Obj) : Sem Addr) >>= fun d =>
        forIn (ks.zip ws) PUnit.unit (fun x _ => (nsSet d x.1 x.2 >>= fun _ => pure (ForInStep.yield PUnit.unit))) >>= fun _ => pure ((["self"] : List Str).zip us ++ [(("parts" : Str), Value.ref d)]))) : GMwC P w K mg base 10 (CB K) "change" ks (spChange K ks) := by
  obtain ⟨fd, F⟩ := T.d_Book_change
  refine ⟨_, T.e_Book_change, def_kwC (ps := ["self"]) (pd := "parts") F sc_Book_change nd0 hz hbind ?_⟩
  intro X eP ew eK em eb eN es hf nd H vs Q E B h
  subst eP ew eK em eb
  have n0 : Sl X 0 "self" := slot_of eN es hf nd rfl (by first | exact Or.inl rfl | exact Or.inr rfl) (by decide) (by decide)
  have n1 : Sl X 1 "parts" := slot_of eN es hf nd rfl (by first | exact Or.inl rfl | exact Or.inr rfl) (by decide) (by decide)
  have n2 : Sl X 2 "part" := slot_of eN es hf nd rfl (by first | exact Or.inl rfl | exact Or.inr rfl) (by decide) (by decide)
  have g_PARTS : Gn X "PARTS" := gn_of es rfl (by decide)
  have m_PARTS := T.g_PARTS
  have g_BadBook : Gn X "BadBook" := gn_of es rfl (by decide)
  have m_BadBook := T.g_BadBook
  have g_checked : Gn X "checked" := gn_of es rfl (by decide)
  have F_checked := f_checked (P := X.prog) (w := X.w) (base := X.base) T
  obtain ⟨p, dx, d, us, q, zs, rfl, hb, hq, lz, l9, nqd, hc⟩ := h
  show WB X [_, _] _ [some (.ref p), some (.ref q), none] H
  have c : IniC X.prog X.K X.mg (ga X.K "BadBook") "part" := by rw [hP]; exact y_BadBook T
  with_reducible refine' wb_cons ?_
  with_reducible refine' ws_to (fun σ' H' => (∃ a, σ' = [some (.ref p), some (.ref q), a]) ∧ H' = H ∧ ∀ x ∈ ks, x ∈ pn) ?_ ?_
  · refine ws_for_dict B n2 ?_
    refine ⟨q, _, hq, fun od => ?_⟩
    repeat walk_at "w"
    have ll : ((ks.map (Sum.inr : Str → Key)).zip zs).length = ks.length := by rw [List.length_zip, List.length_map, lz, Nat.min_self]
    refine ⟨rfl, fun j σ' H' => (∃ a, σ' = [some (.ref p), some (.ref q), a]) ∧ H' = upd H q (.frz od (.dK ((ks.map (Sum.inr : Str → Key)).zip zs))) ∧ ∀ i x, i < j → ks[i]? = some x → x ∈ pn, ⟨⟨_, rfl⟩, rfl, fun i x h => absurd h (Nat.not_lt_zero _)⟩, fun j σ' H' _ h => by rw [h.2.1]; exact upd_same, ?_, ?_⟩
    · rintro j k v σ' H' hk ⟨⟨a, rfl⟩, rfl, hp⟩
      obtain ⟨x, hx, rfl⟩ : ∃ x, ks[j]? = some x ∧ k = Sum.inr x := by
        have e : (ks.map (Sum.inr : Str → Key))[j]? = some k := by
          rw [List.getElem?_zip_eq_some] at hk
          exact hk.1
        rw [List.getElem?_map] at e
        cases q2 : ks[j]? with
        | none => rw [q2] at e; cases e
        | some x => rw [q2] at e; cases e; exact ⟨x, rfl, rfl⟩
      refine wb_one (ws_if ?_)
      refine wt_cmp ?_ ?hm
      case hm => rfl
      repeat walk_at "w"
      refine o_notInT (v := .str x) (T.kt_PARTS.sq _) rfl (by decide +kernel) ?_
      rw [show inV (V.str x) (List.map V.str (["sample", "share", "latest", "factor", "margin", "floor", "roof", "doubled", "kept"] : List Str)) = decide (x ∈ pn) from inV_pn x]
      by_cases hx' : x ∈ pn
      · rw [decide_eq_true hx']
        repeat walk_at "w"
        refine ⟨⟨_, rfl⟩, rfl, fun i y hi hy => ?_⟩
        by_cases e : i = j
        · subst e
          rw [hx] at hy
          cases hy
          exact hx'
        · exact hp i y (by omega) hy
      · rw [decide_eq_false hx']
        repeat walk_at "w"
        rcases hc with ⟨h1, _⟩ | ⟨_, z⟩
        · exact absurd (h1 x (List.mem_of_getElem? hx)) hx'
        refine ws_raiseI B (by decide) c g_BadBook m_BadBook ?_ rfl
        repeat walk_at "w"
        exact fun dd nd' => z _ dd ⟨od, rfl⟩ nd'
    · rintro σ' H' ⟨ha, rfl, hp⟩
      refine ⟨ha, ?_, fun x hx => ?_⟩
      · rw [upd_two, upd_self hq]
      · obtain ⟨i, hi⟩ := List.mem_iff_getElem?.mp hx
        exact hp i x (by rw [ll]; exact (List.getElem?_eq_some_iff.mp hi).1) hi
  rintro σ' H1 ⟨⟨a, rfl⟩, rfl, hall⟩
  rcases hc with ⟨_, us', hm, hc⟩ | ⟨⟨x, hx, hn⟩, _⟩
  case inr => exact absurd (hall x hx) hn
  refine wb_one ?_
  refine ws_rulesC hP B T (by decide) g_checked hb ?_ (by intro H' Q' q; (repeat walk_at "w"); exact q)
  refine we_dictMM fun r nr => ?_
  have xr : Ex H1 (upd H1 r (.dK [])) := Ex.new nr
  have hb1 := hb.mono xr
  repeat walk_at "w"
  refine bk_fld hb1.hp ?_
  have ned : r ≠ d := fun e => by subst e; rw [hb.hd] at nr; cases nr
  have neq : r ≠ q := fun e => by subst e; rw [hq] at nr; cases nr
  refine ⟨d, pk.zip us, rfl, upd_same, hb1.hd, ned, by rw [nine_len hb.l9]; decide, ?_⟩
  rw [merge_nine hb.l9]
  repeat walk_at "w"
  refine ⟨q, (ks.map (Sum.inr : Str → Key)).zip zs, rfl, upd_same, ?_, neq, ?_, ?_⟩
  · rw [upd_ne (Ne.symm neq), upd_ne (Ne.symm neq)]
    exact hq
  · rw [List.length_zip, List.length_map, lz, Nat.min_self]
    omega
  · rw [hm]
    have xf : Ex H1 (upd (upd (upd H1 r (.dK [])) r (.dK (pk.zip us))) r (.dK (pk.zip us'))) := (xr.put nr).put nr
    exact ⟨r, us', rfl, xf, upd_same, hc.mono xf⟩
end

/-! ### == of books -/
theorem rowAt {z : Bk} {sh fa ma fl ro : V} {i : Nat} (hi : i < 9) : (row9 z sh fa ma fl ro)[i]? = some ((row9 z sh fa ma fl ro).getD i .non) := by
  rw [List.getD_eq_getElem?_getD, List.getElem?_eq_getElem (show i < (row9 z sh fa ma fl ro).length from hi)]
  rfl
theorem bls_ns {bs : List Bool} : ¬ Src (.lst (bs.map V.bl)) := by
  rintro ⟨l, i, b, r, e, _⟩
  cases bs with
  | nil => cases e
  | cons c cs =>
    injection e with e
    injection e with e1 _
    cases e1
def pEq (z z' : Bk) : List Bool := [decide (z.word = z'.word), decide (z.share = z'.share), decide (z.latest = z'.latest), decide (z.factor = z'.factor), decide (z.margin = z'.margin), decide (z.floor = z'.floor), decide (z.roof = z'.roof), z.doubled == z'.doubled, z.kept == z'.kept]
section
variable {P : Program} {w : World} {K : PySem.W.Frag} {mg : Str → Option Value} {base : Heap}
theorem made_bn {H : Hp} {E : XK} {Q : Addr → Hp → Prop} {z : Bk} {sh fa ma fl ro : V} (hr : Raw K z sh fa ma fl ro H) (ok : BkOk z) (k : ∀ a H', H a = none → Ex H H' → BookV K z (.ref a) H' → Q a H') :
    ∀ a dx, H a = none → H dx = none → dx ≠ a → spBInit K (.ref a :: row9 z sh fa ma fl ro) (upd (upd H dx (.own a)) a (.ins (CB K) dx [])) (fun v H2 => v = .non ∧ Q a H2) E := by
  intro a dx na nd ne
  have x1 : Ex H (upd (upd H dx (.own a)) a (.ins (CB K) dx [])) := Ex.new2 na nd
  exact ⟨z, a, dx, sh, fa, ma, fl, ro, rfl, upd_same, hr.mono x1, ok, fun H' x3 hb => ⟨rfl, k _ _ na (ExX.fresh x1 x3 fun c e => by subst e; exact na) hb⟩⟩
end
section
variable {X : Cx} {k : Nat} {E : XK} {H : Hp} {Q : VK} {v u : V}
theorem o_nonT (B : Body X k fun _ => E) (T : Tm X.K X.mg) (hk : 4 ≤ k) {q : Rat} (hv : TimeV (CT X.K) q v H) (z : Q (.bl false) H) : Op2 X (compareOp .Eq) .non v H Q := by
  obtain ⟨p, dx, rfl, hp⟩ := hv
  obtain ⟨t, r1, r2, h1, h2, h3, h4, h5⟩ := fgn_ty (X := X) (H := H) (u := .non) T .non
  exact eq_non B T.w_Time T.sn_Time (f_eqN T) hk hp ⟨_, .non, t, r1, r2, rfl, h1, h2, h3, h4, h5, z⟩
theorem o_eqOpt (B : Body X k fun _ => E) (T : Tm X.K X.mg) (hk : 5 ≤ k) {o o' : Option Rat} (h : OptT X.K o v H) (h' : OptT X.K o' u H) (s : ∀ q, o = some q → Sz q 4000) (s' : ∀ q, o' = some q → Sz q 4000) (z : Bl H (decide (o = o')) Q) : Op2 X (compareOp .Eq) v u H Q := by
  cases o with
  | none =>
    cases h
    cases o' with
    | none =>
      cases h'
      refine o_eqDp B .non .non rfl rfl ?_
      exact z _ (.refl _)
    | some q =>
      refine o_nonT B T (by omega) h' ?_
      exact z _ (.refl _)
  | some q =>
    cases o' with
    | none =>
      cases h'
      refine o_eqF B T (by omega) h .non ?_
      exact z _ (.refl _)
    | some r =>
      refine o_eqT B T hk h (.inl h') (s q rfl) (s' r rfl) ?_
      rw [show decide (some q = some r) = decide (q = r) from by congr 1; exact propext ⟨fun e => Option.some.inj e, fun e => by rw [e]⟩] at z
      exact z
theorem o_eqPart (B : Body X k fun _ => E) (T : Tm X.K X.mg) (hk : 5 ≤ k) {z z' : Bk} {sh fa ma fl ro sh' fa' ma' fl' ro' : V} (kz : Kept X.K z sh fa ma fl ro H) (kz' : Kept X.K z' sh' fa' ma' fl' ro' H) (ok : BkOk z) (ok' : BkOk z') :
    ∀ i, i < 9 → Bl H ((pEq z z').getD i false) Q → Op2 X (compareOp .Eq) ((row9 z sh fa ma fl ro).getD i .non) ((row9 z' sh' fa' ma' fl' ro').getD i .non) H Q := by
  have up : ∀ {q : Rat}, Sz q 1000 → Sz q 4000 := fun h => h.mono (by decide)
  intro i hi q
  match i, hi with
  | 0, _ => exact o_eqS (q _ (.refl _))
  | 1, _ => exact o_eqT B T hk kz.sh (.inl kz'.sh) (up ok.z1) (up ok'.z1) q
  | 2, _ =>
    have q : Q (.bl (decide (z.latest = z'.latest))) H := q _ (.refl _)
    show Op2 X _ (latV z.latest) (latV z'.latest) H Q
    cases e : z.latest with
    | none =>
      rw [e] at q
      cases e' : z'.latest with
      | none => rw [e'] at q; exact o_eqDp B .non .non rfl rfl q
      | some n => rw [e'] at q; exact o_eqDp B .non (.int n) rfl rfl q
    | some m =>
      rw [e] at q
      cases e' : z'.latest with
      | none => rw [e'] at q; exact o_eqDp B (.int m) .non rfl rfl q
      | some n =>
        rw [e'] at q
        refine o_eq ?_
        rw [show decide (some m = some n) = decide ((m : Int) = (n : Int)) from by congr 1; exact propext ⟨fun e => by cases e; rfl, fun e => by congr 1; omega⟩] at q
        exact q
  | 3, _ => exact o_eqT B T hk kz.fa (.inl kz'.fa) (up ok.z2) (up ok'.z2) q
  | 4, _ => exact o_eqT B T hk kz.ma (.inl kz'.ma) (up ok.z3) (up ok'.z3) q
  | 5, _ => exact o_eqOpt B T hk kz.fl kz'.fl (fun f e => up (ok.z4 f e)) (fun f e => up (ok'.z4 f e)) q
  | 6, _ => exact o_eqOpt B T hk kz.ro kz'.ro (fun f e => up (ok.z5 f e)) (fun f e => up (ok'.z5 f e)) q
  | 7, _ => exact o_eqB (q _ (.refl _))
  | 8, _ => exact o_eqB (q _ (.refl _))
end
theorem pEq_self (z : Bk) : (pEq z z).all id = true := by
  unfold pEq
  simp

/-! ### twin -/
section
variable {P : Program} {w : World} {K : PySem.W.Frag} {mg : Str → Option Value} {base : Heap}
def spTwin (K : PySem.W.Frag) : Sp := fun vs H Q _ => ∃ z p, vs = [.ref p] ∧ BookV K z (.ref p) H ∧ BkOk z ∧ ∀ a H', H a = none → Ex H H' → BookV K z (.ref a) H' → Q (.ref a) H'
theorem f_twin (T : Tm K mg) : FnR P w K mg base (RX P w) 12 (ma K (CB K) "twin") (spTwin K) := by
  obtain ⟨fd, F⟩ := T.d_Book_twin
  refine raw_of F (def_ok F sc_Book_twin (fun vs H Q E h => by obtain ⟨z, p, rfl, _⟩ := h; rfl) ?_) (F.bindsN fun _ _ _ _ _ _ us hl => match us, hl with | [_], _ => rfl)
  intro X eP ew eK em eb eN es hf nd H vs Q E B h
  subst eP ew eK em eb
  have n0 : Sl X 0 "self" := slot_of eN es hf nd rfl (by first | exact Or.inl rfl | exact Or.inr rfl) (by decide) (by decide)
  have n1 : Sl X 1 "rules" := slot_of eN es hf nd rfl (by first | exact Or.inl rfl | exact Or.inr rfl) (by decide) (by decide)
  have g_Book : Gn X "Book" := gn_of es rfl (by decide)
  have m_Book := T.g_Book
  obtain ⟨z, p, rfl, hb, ok, k⟩ := h
  show WB X [_, _] _ [some (.ref p), none] H
  obtain ⟨dx, d, sh, fa, ma, fl, ro, ib, kp⟩ := hb.is
  repeat walk_at "w"
  refine bk_fld ib.hp ?_
  repeat walk_at "w"
  refine we_makeD B g_Book (k_Book9 T) (by decide) (by decide +kernel) fun q nq => ?_
  have xq : Ex H (upd H q (.dK [])) := Ex.new nq
  repeat walk_at "w"
  have nqd : q ≠ d := fun e => by subst e; rw [ib.hd] at nq; cases nq
  refine ⟨d, row9 z sh fa ma fl ro, rfl, upd_same, (upd_ne (Ne.symm nqd)).trans ib.hd, nqd, rfl, (show 9 ≤ 1000 by decide), ?_⟩
  have x2 : Ex H (upd (upd H q (.dK [])) q (dk9 z sh fa ma fl ro)) := xq.put nq
  refine made_bn (K := X.K) (kp.mono x2).raw ok fun a H' na x3 hb' => k a H' ?_ (x2.trans x3) hb'
  exact x2.back na
end

/-! ### parts of one book put into another -/
def mixB (S : Nat → Bool) (z z' : Bk) : Bk := ⟨if S 0 = true then z'.word else z.word, if S 1 = true then z'.share else z.share, if S 2 = true then z'.latest else z.latest, if S 3 = true then z'.factor else z.factor, if S 4 = true then z'.margin else z.margin, if S 5 = true then z'.floor else z.floor, if S 6 = true then z'.roof else z.roof, if S 7 = true then z'.doubled else z.doubled, if S 8 = true then z'.kept else z.kept⟩
theorem mix_if {α : Type} {P : α → Prop} {b : Bool} {x y : α} (h : P x) (h' : P y) : P (if b = true then x else y) := by
  cases b
  · exact h'
  · exact h
theorem mix_wk {S : Nat → Bool} {z z' : Bk} (h : WkOk z) (h' : WkOk z') : WkOk (mixB S z z') :=
  ⟨mix_if (P := fun x => x ∈ W4) h'.word h.word, mix_if (P := fun x => 0 < x ∧ x ≤ 1 ∧ Sz x 40) h'.sh h.sh, mix_if (P := fun x : Option Nat => ∀ n, x = some n → 1 ≤ n ∧ n ≤ 20) h'.lat h.lat, mix_if (P := fun x : Rat => 1 ≤ x) h'.fa h.fa, mix_if (P := fun x : Rat => 0 ≤ x) h'.ma h.ma,
   mix_if (P := fun x : Option Rat => ∀ f, x = some f → 0 < f) h'.fl h.fl, mix_if (P := fun x : Option Rat => ∀ f, x = some f → 0 < f) h'.ro h.ro, mix_if (P := fun x : Rat => Sz x 40) h'.s2 h.s2, mix_if (P := fun x : Rat => Sz x 40) h'.s3 h.s3, mix_if (P := fun x : Option Rat => ∀ f, x = some f → Sz f 40) h'.s4 h.s4, mix_if (P := fun x : Option Rat => ∀ f, x = some f → Sz f 40) h'.s5 h.s5⟩
theorem mix_nil {S : Nat → Bool} {z z' : Bk} (h : ∀ i, i < 9 → S i = false) : mixB S z z' = z := by
  unfold mixB
  rw [h 0 (by decide), h 1 (by decide), h 2 (by decide), h 3 (by decide), h 4 (by decide), h 5 (by decide), h 6 (by decide), h 7 (by decide), h 8 (by decide)]
  rfl
def mv (b : Bool) (x y : V) : V := if b = true then x else y
/-- the row of nine with those of us in S -/
def rowM (S : Nat → Bool) (xs us : List V) : List V := (List.range 9).map fun i => if S i = true then us.getD i .non else xs.getD i .non
theorem rowM_at {S : Nat → Bool} {xs us : List V} {i : Nat} (hi : i < 9) : (rowM S xs us)[i]? = some (if S i = true then us.getD i .non else xs.getD i .non) := by
  unfold rowM
  rw [List.getElem?_map, List.getElem?_range hi]
  rfl
theorem rowM_len {S : Nat → Bool} {xs us : List V} : (rowM S xs us).length = 9 := by
  unfold rowM
  rw [List.length_map, List.length_range]
theorem getD_at {xs : List V} {i : Nat} (l : xs.length = 9) (hi : i < 9) : xs[i]? = some (xs.getD i .non) := by
  rw [List.getD_eq_getElem?_getD, List.getElem?_eq_getElem (by omega)]
  rfl
theorem rowM_nil {S : Nat → Bool} {xs us : List V} (l : xs.length = 9) (h : ∀ i, i < 9 → S i = false) : rowM S xs us = xs := by
  refine List.ext_getElem? fun i => ?_
  by_cases hi : i < 9
  · rw [rowM_at hi, h i hi, getD_at l hi]
    rfl
  · rw [List.getElem?_eq_none (by rw [rowM_len]; omega), List.getElem?_eq_none (by omega)]
theorem rowM_put {S : Nat → Bool} {xs us : List V} {k : Nat} (hk : k < 9) : (rowM S xs us).set k (us.getD k .non) = rowM (fun i => decide (i = k) || S i) xs us := by
  refine List.ext_getElem? fun i => ?_
  by_cases hi : i < 9
  · rw [rowM_at hi]
    by_cases e : i = k
    · subst e
      rw [List.getElem?_set_self (by rw [rowM_len]; exact hi), decide_eq_true rfl]
      rfl
    · rw [List.getElem?_set_ne (fun q => e q.symm), rowM_at hi, decide_eq_false e]
      rfl
  · rw [List.getElem?_eq_none (by rw [List.length_set, rowM_len]; omega), List.getElem?_eq_none (by rw [rowM_len]; omega)]
theorem Bent.mix {K : PySem.W.Frag} {S : Nat → Bool} {z z' : Bk} {c : Nat → Bool} {us : List V} {v1 v3 v4 v5 v6 u1 u3 u4 u5 u6 : V} {H : Hp} (ru : RuP z v1 v3 v4 v5 v6 H) (h : Bent K z' c us u1 u3 u4 u5 u6 H) :
    Bent K (mixB S z z') (fun i => S i && c i) (rowM S (row9 z v1 v3 v4 v5 v6) us) (mv (S 1) u1 v1) (mv (S 3) u3 v3) (mv (S 4) u4 v4) (mv (S 5) u5 v5) (mv (S 6) u6 v6) H := by
  have pr : ∀ {b : Bool} {q q' : Rat} {u v : V}, PrQ q' u H → PrQ q v H → PrQ (if b = true then q' else q) (mv b u v) H := fun {b _ _ _ _} h' h => by
    cases b
    · exact h
    · exact h'
  have op : ∀ {b : Bool} {q q' : Option Rat} {u v : V}, OPr q' u H → OPr q v H → OPr (if b = true then q' else q) (mv b u v) H := fun {b _ _ _ _} h' h => by
    cases b
    · exact h
    · exact h'
  refine ⟨rowM_len, ⟨pr h.ru.sh ru.sh, pr h.ru.fa ru.fa, pr h.ru.ma ru.ma, op h.ru.fl ru.fl, op h.ru.ro ru.ro⟩, fun i hi e => ?_, fun i hi e => ?_⟩
  · have e := Bool.and_eq_true_iff.mp e
    obtain ⟨p, x, hu, hp, ho⟩ := h.bad i hi e.2
    refine ⟨p, x, ?_, hp, ho⟩
    rw [rowM_at hi, e.1, if_pos rfl, ← getD_at h.len hi]
    exact hu
  · rw [rowM_at hi]
    cases s : S i with
    | true =>
      rw [s, Bool.true_and] at e
      rw [if_pos rfl, ← getD_at h.len hi, h.fine i hi e]
      match i, hi with
      | 0, _ => show some _ = some (V.str (if S 0 = true then _ else _)); rw [s]; rfl
      | 1, _ => show some _ = some (mv (S 1) _ _); rw [s]; rfl
      | 2, _ => show some _ = some (latV (if S 2 = true then _ else _)); rw [s]; rfl
      | 3, _ => show some _ = some (mv (S 3) _ _); rw [s]; rfl
      | 4, _ => show some _ = some (mv (S 4) _ _); rw [s]; rfl
      | 5, _ => show some _ = some (mv (S 5) _ _); rw [s]; rfl
      | 6, _ => show some _ = some (mv (S 6) _ _); rw [s]; rfl
      | 7, _ => show some _ = some (V.bl (if S 7 = true then _ else _)); rw [s]; rfl
      | 8, _ => show some _ = some (V.bl (if S 8 = true then _ else _)); rw [s]; rfl
    | false =>
      rw [if_neg (fun e => Bool.noConfusion e)]
      match i, hi with
      | 0, _ => show some _ = some (V.str (if S 0 = true then _ else _)); rw [s]; rfl
      | 1, _ => show some _ = some (mv (S 1) _ _); rw [s]; rfl
      | 2, _ => show some _ = some (latV (if S 2 = true then _ else _)); rw [s]; rfl
      | 3, _ => show some _ = some (mv (S 3) _ _); rw [s]; rfl
      | 4, _ => show some _ = some (mv (S 4) _ _); rw [s]; rfl
      | 5, _ => show some _ = some (mv (S 5) _ _); rw [s]; rfl
      | 6, _ => show some _ = some (mv (S 6) _ _); rw [s]; rfl
      | 7, _ => show some _ = some (V.bl (if S 7 = true then _ else _)); rw [s]; rfl
      | 8, _ => show some _ = some (V.bl (if S 8 = true then _ else _)); rw [s]; rfl
theorem Th.mix1 {K : PySem.W.Frag} {S : Nat → Bool} {z z' : Bk} {c : Nat → Bool} {v : V} {H : Hp} : ∀ {i : Nat}, S i = true → Th K z' c i v H → Th K (mixB S z z') (fun i => S i && c i) i v H := by
  intro i s h
  have g : ThG K z' v H i → ThG K (mixB S z z') v H i := fun g => by
    match i, s, g with
    | 0, s, g => show v = .str (if S 0 = true then _ else _); rw [s]; exact g
    | 1, s, g => show Tim K (if S 1 = true then _ else _) v H; rw [s]; exact g
    | 2, s, g => show v = latV (if S 2 = true then _ else _); rw [s]; exact g
    | 3, s, g => show Tim K (if S 3 = true then _ else _) v H; rw [s]; exact g
    | 4, s, g => show Tim K (if S 4 = true then _ else _) v H; rw [s]; exact g
    | 5, s, g => show OTim K (if S 5 = true then _ else _) v H; rw [s]; exact g
    | 6, s, g => show OTim K (if S 6 = true then _ else _) v H; rw [s]; exact g
    | 7, s, g => show v = .bl (if S 7 = true then _ else _); rw [s]; exact g
    | 8, s, g => show v = .bl (if S 8 = true then _ else _); rw [s]; exact g
    | _ + 9, _, g => exact g
  unfold Th
  show ((S i && c i) = true ∧ _) ∨ ((S i && c i) = false ∧ _)
  rw [s, Bool.true_and]
  exact h.imp id fun h => ⟨h.1, g h.2⟩
theorem Th.mix0 {K : PySem.W.Frag} {S : Nat → Bool} {z z' : Bk} {c : Nat → Bool} {v : V} {H : Hp} : ∀ {i : Nat}, S i = false → ThG K z v H i → Th K (mixB S z z') (fun i => S i && c i) i v H := by
  intro i s g
  refine .inr ⟨by show (S i && c i) = false; rw [s]; rfl, ?_⟩
  match i, s, g with
  | 0, s, g => show v = .str (if S 0 = true then _ else _); rw [s]; exact g
  | 1, s, g => show Tim K (if S 1 = true then _ else _) v H; rw [s]; exact g
  | 2, s, g => show v = latV (if S 2 = true then _ else _); rw [s]; exact g
  | 3, s, g => show Tim K (if S 3 = true then _ else _) v H; rw [s]; exact g
  | 4, s, g => show Tim K (if S 4 = true then _ else _) v H; rw [s]; exact g
  | 5, s, g => show OTim K (if S 5 = true then _ else _) v H; rw [s]; exact g
  | 6, s, g => show OTim K (if S 6 = true then _ else _) v H; rw [s]; exact g
  | 7, s, g => show v = .bl (if S 7 = true then _ else _); rw [s]; exact g
  | 8, s, g => show v = .bl (if S 8 = true then _ else _); rw [s]; exact g
  | _ + 9, _, g => exact g
/-- the nine values of a book are good ones -/
theorem Kept.thG {K : PySem.W.Frag} {z : Bk} {sh fa ma fl ro : V} {H : Hp} (h : Kept K z sh fa ma fl ro H) : ∀ i, i < 9 → ThG K z ((row9 z sh fa ma fl ro).getD i .non) H i
  | 0, _ => rfl
  | 1, _ => h.raw.sh
  | 2, _ => rfl
  | 3, _ => h.raw.fa
  | 4, _ => h.raw.ma
  | 5, _ => h.raw.fl
  | 6, _ => h.raw.ro
  | 7, _ => rfl
  | 8, _ => rfl
  | _ + 9, h => absurd h (by omega)
theorem least_bad {z : Bk} {c : Nat → Bool} (h : ¬ ∀ i, i < 9 → bd z c i = false) : ∃ n, n < 9 ∧ bd z c n = true ∧ ∀ i, i < n → bd z c i = false := by
  have q : ∀ m, (∀ i, i < m → bd z c i = false) ∨ ∃ n, n < m ∧ bd z c n = true ∧ ∀ i, i < n → bd z c i = false := fun m => by
    induction m with
    | zero => exact .inl fun i hi => absurd hi (Nat.not_lt_zero _)
    | succ m ih =>
      rcases ih with ih | ⟨n, hn, r⟩
      · cases e : bd z c m with
        | true => exact .inr ⟨m, Nat.lt_succ_self _, e, ih⟩
        | false =>
          refine .inl fun i hi => ?_
          by_cases im : i = m
          · rw [im]
            exact e
          · exact ih i (by omega)
      · exact .inr ⟨n, by omega, r⟩
  rcases q 9 with q | q
  · exact absurd q h
  · exact q
/-- what comes of nine values, told by their parts -/
theorem chg_mk {K : PySem.W.Frag} {z : Bk} {c : Nat → Bool} {ws : List V} {p : Addr} {H : Hp} {Q : VK} {E : XK} (ok : WkOk z) (l : ws.length = 9) (th : ∀ i, i < 9 → Th K z c i (ws.getD i .non) H)
    (hg : FB z c none → BkOk z → ∀ H', ExX (fun a => a = p) H H' → BookV K z (.ref p) H' → Q .non H') (hb : ∀ m, FB z c (some m) → ThrG (Ex H) E (ga K "BadBook") "part" (.str (pnx m))) : Chg K p ws H Q E := by
  have al := al_of ok th
  by_cases hall : ∀ i, i < 9 → bd z c i = false
  · obtain ⟨bok, hc⟩ := fb_ok ok hall
    have g : ∀ i, i < 9 → ThG K z (ws.getD i .non) H i := fun i hi => (th i hi).good (hc i hi)
    obtain ⟨w0, w1, w2, w3, w4, w5, w6, w7, w8, rfl⟩ := nine l
    have e0 : w0 = .str z.word := g 0 (by decide)
    have e2 : w2 = latV z.latest := g 2 (by decide)
    have e7 : w7 = .bl z.doubled := g 7 (by decide)
    have e8 : w8 = .bl z.kept := g 8 (by decide)
    subst e0 e2 e7 e8
    exact .inl ⟨z, w1, w3, w4, w5, w6, rfl, ⟨g 1 (by decide), g 3 (by decide), g 4 (by decide), g 5 (by decide), g 6 (by decide)⟩, bok, hg hall bok⟩
  · obtain ⟨n, hn, hbn, hlt⟩ := least_bad hall
    refine .inr ⟨n, ⟨l, hn, by have := al n hn hlt; rw [hbn] at this; exact this, fun i hi => ?_⟩, hb n ⟨hn, hbn, hlt⟩⟩
    have := al i (by omega) fun j hj => hlt j (by omega)
    rw [hlt i hi] at this
    exact this

/-! ### assign -/
section
variable {P : Program} {w : World} {K : PySem.W.Frag} {mg : Str → Option Value} {base : Heap}
def spLWords : Sp := fun vs H Q _ => vs = [] ∧ ∀ l H', Ex H H' → H' l = some (.lst (pn.map V.str)) → Q (.ref l) H'
theorem f__law_words (T : Tm K mg) : GFn P w K mg base 1 "_law_words" spLWords := by
  obtain ⟨fd, F⟩ := T.d__law_words
  refine GFn.mk F T.g__law_words (def_ok F sc__law_words (fun vs H Q E h => by obtain ⟨rfl, _⟩ := h; rfl) ?_) (F.bindsN fun _ _ _ _ _ _ us hl => match us, hl with | [], _ => rfl)
  intro X eP ew eK em eb eN es hf nd H vs Q E B h
  subst eP ew eK em eb

  obtain ⟨rfl, k⟩ := h
  show WB X [_] _ [] H
  repeat walk_at "w"
  refine lst_i (lenk 9 rfl) fun wl Ha na xa ha => ?_
  exact k wl _ xa ha
end
/-! ### _law_changed -/
section
variable {X : Cx} {σ : L2.St} {H : Hp} {Q : VK} {a : Expr} {p pos : Pos}
theorem we_intB (bn : Bn X "int") (h : WE X a σ H fun v H1 => ∃ b, v = .bl b ∧ Q (.int (if b = true then 1 else 0)) H1) (hs : starEach [a] X.env = [(false, eval a X.env)] := by rfl) (hl : (backTo pos (starEach [] X.env)).any (·.1) = false := by rfl) :
    WE X (.Call (.Name "int" p) [a] [] pos) σ H Q := we_callT call_int1 bn boot_int (wa_one (we_mono h fun v H1 q => by
    obtain ⟨b, rfl, q⟩ := q
    exact .inr ⟨b, rfl, q⟩) hs) (by decide) (by decide) hs hl
end


/-! ### changes, one by one -/
-- facts: T.xm_NoChange_NoChange T.ki_NoChange_ResendError T.ki_NoChange_BadBook T.xm_BadBook_BadBook
theorem y_NoChange {K : PySem.W.Frag} {mg : Str → Option Value} (T : Tm K mg) : IniC PySem.Challenge.pw_resendtimers_k63_changes_made K mg (ga K "NoChange") "at" :=
  ⟨⟨_, _, "at", _, _, _, _, _, _, _, _, _, _, _, _, _, _, _, T.yi_NoChange, funC_ok T.yc_NoChange T.d_NoChange___init__, rfl, rfl, rfl, (by intros; rfl), by decide, rfl, rfl, rfl, rfl, by decide +kernel, rfl, rfl, rfl, by decide⟩, T.yn_NoChange, T.z_super⟩
theorem iteT63 {c : Prop} [Decidable c] {a b : Prop} (h : c) (x : a) : if c then a else b := by rw [if_pos h]; exact x
def sS (n i : Nat) : Bool := decide (i = n)
/-- a change: the part's place, the book that it was taken from, the places bent there -/
structure Stp where
  n : Nat
  z : Bk
  c : Nat → Bool
def nxtZ (z : Bk) (s : Stp) : Bk := mixB (sS s.n) z s.z
def nxtC (s : Stp) (i : Nat) : Bool := sS s.n i && s.c i
def StpG (z : Bk) (s : Stp) : Prop := s.n < 9 ∧ FB (nxtZ z s) (nxtC s) none
def StpF (z : Bk) (s : Stp) : Prop := 9 ≤ s.n ∨ (s.n < 9 ∧ ∃ m, FB (nxtZ z s) (nxtC s) (some m))
def runZ (z : Bk) (ss : List Stp) : Bk := ss.foldl nxtZ z
theorem runZ_snoc (z : Bk) (ss : List Stp) (s : Stp) : runZ z (ss ++ [s]) = nxtZ (runZ z ss) s := by
  unfold runZ
  rw [List.foldl_append]
  rfl
theorem runZ_wk : ∀ {ss : List Stp} {z : Bk}, WkOk z → (∀ s ∈ ss, WkOk s.z) → WkOk (runZ z ss)
  | [], _, h, _ => h
  | s :: ss, _, h, k => runZ_wk (ss := ss) (mix_wk h (k s List.mem_cons_self)) fun t m => k t (List.mem_cons_of_mem _ m)
/-- m changes can be made, the next one not, or there is none -/
structure PathZ (z : Bk) (ss : List Stp) (m : Nat) : Prop where
  le : m ≤ ss.length
  ok : ∀ (j : Nat) (s : Stp), j < m → ss[j]? = some s → StpG (runZ z (ss.take j)) s
  en : m = ss.length ∨ ∃ s, ss[m]? = some s ∧ StpF (runZ z (ss.take m)) s
def dOf : V → PyData
  | .str x => .str x
  | .int i => .int i
  | _ => .none
def smD (d : PyData) : Bool := d.showable && !d.hasDict && d.leavesShort 13 && decide (d.weight ≤ 20) && decide (d.depth = 0)
def NoPn (v : V) : Prop := ((∃ x, v = .str x ∧ x ∉ pn) ∨ v = .non ∨ ∃ i, v = .int i) ∧ smD (dOf v) = true
def RowC (K : PySem.W.Frag) (s : Stp) (v : V) (H : Hp) : Prop := ∃ t a b, v = .ref t ∧ H t = some (.tup [a, b]) ∧ ((s.n < 9 ∧ a = .str (pnx s.n) ∧ Th K s.z s.c s.n b H) ∨ (9 ≤ s.n ∧ NoPn a))
def RowsC (K : PySem.W.Frag) (ss : List Stp) (vs : List V) (H : Hp) : Prop := vs.length = ss.length ∧ ∀ (j : Nat) (v : V) (s : Stp), vs[j]? = some v → ss[j]? = some s → RowC K s v H
theorem RowC.mono {K : PySem.W.Frag} {s : Stp} {v : V} {H H' : Hp} (x : Ex H H') (h : RowC K s v H) : RowC K s v H' := by
  obtain ⟨t, a, b, e, ht, h⟩ := h
  exact ⟨t, a, b, e, x.tup ht, h.imp (fun h => ⟨h.1, h.2.1, h.2.2.mono x⟩) id⟩
theorem RowsC.mono {K : PySem.W.Frag} {ss : List Stp} {vs : List V} {H H' : Hp} (x : Ex H H') (h : RowsC K ss vs H) : RowsC K ss vs H' := ⟨h.1, fun j v s e e2 => (h.2 j v s e e2).mono x⟩
theorem RowsC.ns {K : PySem.W.Frag} {ss : List Stp} {vs : List V} {H : Hp} (h : RowsC K ss vs H) : ¬ Src (.lst vs) := fun ⟨l, i, b, r, e, _⟩ => by
  injection e with e
  have l4 : ss.length = 4 := by rw [← h.1, e]; rfl
  obtain ⟨t, a, b, q, _⟩ := h.2 1 (.int i) _ (by rw [e]; rfl) (List.getElem?_eq_getElem (show 1 < ss.length by omega))
  cases q
theorem thS {K : PySem.W.Frag} {z : Bk} {s : Stp} {sh fa ma fl ro v : V} {H : Hp} (kp : Kept K z sh fa ma fl ro H) (hn : s.n < 9) (h : Th K s.z s.c s.n v H) :
    ∀ i, i < 9 → Th K (nxtZ z s) (nxtC s) i (((row9 z sh fa ma fl ro).set s.n v).getD i .non) H := by
  intro i hi
  by_cases e : i = s.n
  · subst e
    rw [List.getD_eq_getElem?_getD, List.getElem?_set_self (by exact hi)]
    exact h.mix1 (S := sS s.n) (by unfold sS; exact decide_eq_true rfl)
  · refine Th.mix0 (S := sS s.n) (by unfold sS; exact decide_eq_false e) ?_
    rw [List.getD_eq_getElem?_getD, List.getElem?_set_ne (fun q => e q.symm), ← List.getD_eq_getElem?_getD]
    exact kp.thG i hi
section
variable {P : Program} {w : World} {K : PySem.W.Frag} {mg : Str → Option Value} {base : Heap}
theorem m_chg1 (hP : P = PySem.Challenge.pw_resendtimers_k63_changes_made) (T : Tm K mg) : ∀ n, n < 9 → GMwC P w K mg base 10 (CB K) "change" [pnx n] (spChange K [pnx n])
  | 0, _ => m_change hP T (by decide) (by decide) (fun kV doc pm an cdv ct us ws l1 l2 => by
    match us, ws, l1, l2 with
    | [a], [b0], _, _ => rfl)
  | 1, _ => m_change hP T (by decide) (by decide) (fun kV doc pm an cdv ct us ws l1 l2 => by
    match us, ws, l1, l2 with
    | [a], [b0], _, _ => rfl)
  | 2, _ => m_change hP T (by decide) (by decide) (fun kV doc pm an cdv ct us ws l1 l2 => by
    match us, ws, l1, l2 with
    | [a], [b0], _, _ => rfl)
  | 3, _ => m_change hP T (by decide) (by decide) (fun kV doc pm an cdv ct us ws l1 l2 => by
    match us, ws, l1, l2 with
    | [a], [b0], _, _ => rfl)
  | 4, _ => m_change hP T (by decide) (by decide) (fun kV doc pm an cdv ct us ws l1 l2 => by
    match us, ws, l1, l2 with
    | [a], [b0], _, _ => rfl)
  | 5, _ => m_change hP T (by decide) (by decide) (fun kV doc pm an cdv ct us ws l1 l2 => by
    match us, ws, l1, l2 with
    | [a], [b0], _, _ => rfl)
  | 6, _ => m_change hP T (by decide) (by decide) (fun kV doc pm an cdv ct us ws l1 l2 => by
    match us, ws, l1, l2 with
    | [a], [b0], _, _ => rfl)
  | 7, _ => m_change hP T (by decide) (by decide) (fun kV doc pm an cdv ct us ws l1 l2 => by
    match us, ws, l1, l2 with
    | [a], [b0], _, _ => rfl)
  | 8, _ => m_change hP T (by decide) (by decide) (fun kV doc pm an cdv ct us ws l1 l2 => by
    match us, ws, l1, l2 with
    | [a], [b0], _, _ => rfl)
  | _ + 9, h => absurd h (by omega)
def spChanged (K : PySem.W.Frag) : Sp := fun vs H Q E => ∃ p cl z ss m rvs, vs = [.ref p, .ref cl] ∧ BookV K z (.ref p) H ∧ BkOk z ∧ WkOk z ∧ H cl = some (.lst rvs) ∧ RowsC K ss rvs H ∧ (∀ s ∈ ss, WkOk s.z) ∧ PathZ z ss m ∧ ss.length ≤ 900 ∧
  (m = ss.length → ∀ a H', Ex H H' → BookV K (runZ z ss) (.ref a) H' → Q (.ref a) H') ∧ (m < ss.length → ThrG (Ex H) E (ga K "NoChange") "at" (.int m))
theorem f_changed (hP : P = PySem.Challenge.pw_resendtimers_k63_changes_made) (T : Tm K mg) : GFnX P w K mg base 14 "changed" (spChanged K) := by
  obtain ⟨fd, F⟩ := T.d_changed
  suffices ok : FnOk P w K mg base (L2.CX P w) 14 (ga K "changed") fd ["book", "changes"] (spChanged K) from ⟨_, T.g_changed, F.kp, (FnOk.raw ok (F.bindsN fun _ _ _ _ _ _ us hl => match us, hl with | [_, _], _ => rfl) .nil).imp fun vs H Q E h => by rw [List.append_nil]; exact h⟩
  refine def_okX F sc_changed (fun vs H Q E h => by obtain ⟨p, cl, z, ss, m, rvs, rfl, _⟩ := h; rfl) ?_
  intro X eP ew eK em eb eN es hf nd H vs Q E BX h
  have B := BX.b
  have hP' : X.prog = PySem.Challenge.pw_resendtimers_k63_changes_made := eP.trans hP
  subst eP ew eK em eb
  have n0 : Sl X 0 "book" := slot_of eN es hf nd rfl (by first | exact Or.inl rfl | exact Or.inr rfl) (by decide) (by decide)
  have n1 : Sl X 1 "changes" := slot_of eN es hf nd rfl (by first | exact Or.inl rfl | exact Or.inr rfl) (by decide) (by decide)
  have n2 : Sl X 2 "other" := slot_of eN es hf nd rfl (by first | exact Or.inl rfl | exact Or.inr rfl) (by decide) (by decide)
  have n3 : Sl X 3 "at" := slot_of eN es hf nd rfl (by first | exact Or.inl rfl | exact Or.inr rfl) (by decide) (by decide)
  have n4 : Sl X 4 "part" := slot_of eN es hf nd rfl (by first | exact Or.inl rfl | exact Or.inr rfl) (by decide) (by decide)
  have n5 : Sl X 5 "thing" := slot_of eN es hf nd rfl (by first | exact Or.inl rfl | exact Or.inr rfl) (by decide) (by decide)
  have n6 : Sl X 6 "parts" := slot_of eN es hf nd rfl (by first | exact Or.inl rfl | exact Or.inr rfl) (by decide) (by decide)
  have n7 : Sl X 7 "why" := slot_of eN es hf nd rfl (by first | exact Or.inl rfl | exact Or.inr rfl) (by decide) (by decide)
  have z_enumerate : Bn X "enumerate" := bn_of es rfl T.z_enumerate
  have z_isinstance : Bn X "isinstance" := bn_of es rfl T.z_isinstance
  have z_str : Bn X "str" := bn_of es rfl T.z_str
  have g_PARTS : Gn X "PARTS" := gn_of es rfl (by decide)
  have m_PARTS := T.g_PARTS
  have g_NoChange : Gn X "NoChange" := gn_of es rfl (by decide)
  have m_NoChange := T.g_NoChange
  have g_BadBook : Gn X "BadBook" := gn_of es rfl (by decide)
  have m_BadBook := T.g_BadBook
  obtain ⟨p, cl, z, ss, m, rvs, rfl, hb, bok, wk, hcl, hrv, hwk, path, l9, kQ, kE⟩ := h
  show WB X [_, _, _] _ [some (.ref p), some (.ref cl), none, none, none, none, none, none] H
  with_reducible refine' wb_cons ?_
  with_reducible refine' ws_to (fun σ' H' => ∃ ot, σ' = [some (.ref p), some (.ref cl), some (.ref ot), none, none, none, none, none] ∧ H ot = none ∧ Ex H H' ∧ BookV X.K z (.ref ot) H') ?_ ?_
  · refine ws_set n2 (we_meth0 (pl := _) B T.c_Book.cl ⟨_, T.e_Book_twin, f_twin T⟩ (by decide) ?_) (by rfl)
    repeat walk_at "w"
    obtain ⟨dx, d, sh, fa, ma, fl, ro, ib, _⟩ := hb.is
    exact ⟨p, dx, _, rfl, ib.hp, rfl, z, p, rfl, hb, bok, fun a H' na y h => ⟨a, rfl, na, y, h⟩⟩
  rintro σ' H1 ⟨ot, rfl, not0, x1, hot⟩
  show WB X _ _ _ _
  have cn : IniC X.prog X.K X.mg (ga X.K "NoChange") "at" := by rw [hP']; exact y_NoChange T
  have cb : IniC X.prog X.K X.mg (ga X.K "BadBook") "part" := by rw [hP']; exact y_BadBook T
  refine wb_cons (ws_for_enumP B n3 n4 n5 z_enumerate (we_name n1 rfl ⟨cl, rvs, rfl, .of (x1.keep _ _ hcl hrv.ns), fun j σ' G => ∃ c3 c4 c5 c6, σ' = [some (.ref p), some (.ref cl), some (.ref ot), c3, c4, c5, c6, none] ∧ j ≤ m ∧ Ex H G ∧ BookV X.K (runZ z (ss.take j)) (.ref ot) G,
    ⟨none, none, none, none, rfl, Nat.zero_le _, x1, hot⟩, fun j σ' G _ ⟨_, _, _, _, _, _, xg, _⟩ => .of (xg.keep _ _ hcl hrv.ns), ?_, ?_⟩))
  · rintro j v σ' G G1 hv ⟨c3, c4, c5, c6, rfl, jm, xg, hbg⟩ xe
    have jl := (List.getElem?_eq_some_iff.mp hv).1
    obtain ⟨s, hs⟩ : ∃ s, ss[j]? = some s := ⟨_, List.getElem?_eq_getElem (show j < ss.length by rw [← hrv.1]; exact jl)⟩
    have sw := hwk s (List.mem_of_getElem? hs)
    have x0 := xg.trans xe
    obtain ⟨t, a, b, rfl, ht, hr⟩ := (hrv.2 j v s hv hs).mono x0
    refine ⟨t, a, b, rfl, .of ht, ?_⟩
    show WB X _ _ [some (.ref p), some (.ref cl), some (.ref ot), some (.int (j : Nat)), some a, some b, c6, none] G1
    have hb1 := hbg.mono xe
    have ml : m ≤ ss.length := path.le
    have fails : j = m → ThrG (Ex H) E (ga X.K "NoChange") "at" (.int (j : Nat)) := fun e => by
      subst e
      exact kE (by rw [← hrv.1]; exact jl)
    have rw9 : WkOk (runZ z (ss.take j)) := runZ_wk wk fun q mq => hwk q (List.mem_of_mem_take mq)
    rcases hr with ⟨n9, rfl, hth⟩ | ⟨n9, hno⟩
    · -- one of the nine
      refine wb_cons ?_
      refine ws_if (wt_or2 (wt_not ?_))
      repeat walk_at "w"
      refine ⟨true, ⟨_, _, .ty _, .base (.str _), kit_ty (by decide +kernel)⟩, ?_⟩
      repeat walk_at "w"
      refine wt_cmp ?_ ?hm
      case hm => rfl
      repeat walk_at "w"
      refine o_notInT (v := .str (pnx s.n)) (T.kt_PARTS.sq _) rfl (by decide +kernel) ?_
      rw [show inV (V.str (pnx s.n)) (List.map V.str (["sample", "share", "latest", "factor", "margin", "floor", "roof", "doubled", "kept"] : List Str)) = decide (pnx s.n ∈ pn) from inV_pn (pnx s.n)]
      rw [decide_eq_true (show pnx s.n ∈ pn from List.mem_of_getElem? (pnx_at n9))]
      refine ⟨false, rfl, iteF (wb_nil ?_)⟩
      show WB X _ _ _ _
      with_reducible refine' wb_cons ?_
      with_reducible refine' ws_to (fun σ' G2 => ∃ d, σ' = [some (.ref p), some (.ref cl), some (.ref ot), some (.int (j : Nat)), some (.str (pnx s.n)), some b, some (.ref d), none] ∧ Ex G1 G2 ∧ G1 d = none ∧ G2 d = some (.dK ((([pnx s.n] : List Str).map (Sum.inr : Str → Key)).zip [b]))) ?_ ?_
      · refine ws_set n6 (we_disp (fun e => nomatch e) fun d nd' => wp_cons (we_name n4 rfl (we_name n5 rfl (wp_nil ⟨upd_same, [(.inr (pnx s.n), b)], rfl, (show 1 ≤ 15 by decide), ?_⟩)))) (by rfl)
        exact ⟨d, rfl, (Ex.new nd').put nd', nd', upd_same⟩
      rintro σ' G2 ⟨d, rfl, x2, nd2, hd2⟩
      have hb2 := hb1.mono x2
      have x02 := x0.trans x2
      have hth2 := hth.mono x2
      obtain ⟨dx, dd, sh, fa, ma, fl, ro, ib, kp⟩ := id hb2.is
      have ndd : d ≠ dd := fun e => by
        obtain ⟨_, dd1, _, _, _, _, _, ib1, _⟩ := id hb1.is
        obtain ⟨p', dx', d', sh', fa', ma', fl', ro', e', hp', hd', _⟩ := id hb1
        cases e'
        have z1 := x2.ins hp'
        rw [ib.hp] at z1
        injection z1 with z1
        injection z1 with _ _ z1
        injection z1 with z1 _
        injection z1 with _ z1
        injection z1 with z1
        rw [e, z1, hd'] at nd2
        cases nd2
      show WB X _ _ _ _
      refine wb_one ?_
      refine ws_try_asX BX n7 (kd_of es rfl) (nm_own g_BadBook m_BadBook) fun pn xe Bt => ?_
      have N3 := n3
      have N7 := n7
      have G' := g_NoChange
      clear B
      have n0 := n0.tr (pn := pn) (xe := xe)
      have n1 := n1.tr (pn := pn) (xe := xe)
      have n2 := n2.tr (pn := pn) (xe := xe)
      have n3 := n3.tr (pn := pn) (xe := xe)
      have n4 := n4.tr (pn := pn) (xe := xe)
      have n5 := n5.tr (pn := pn) (xe := xe)
      have n6 := n6.tr (pn := pn) (xe := xe)
      have n7 := n7.tr (pn := pn) (xe := xe)
      have z_enumerate := z_enumerate.tr (pn := pn) (xe := xe)
      have z_isinstance := z_isinstance.tr (pn := pn) (xe := xe)
      have z_str := z_str.tr (pn := pn) (xe := xe)
      have g_PARTS := g_PARTS.tr (pn := pn) (xe := xe)
      have g_NoChange := g_NoChange.tr (pn := pn) (xe := xe)
      have g_BadBook := g_BadBook.tr (pn := pn) (xe := xe)
      refine wb_one (ws_expr (we_methD Bt T.c_Book.cl T.bm_Book_change (show 10 ≤ 13 by decide) (we_name n2 rfl ⟨ot, dx, _, rfl, ib.hp, rfl, fun tm q ntm nq => ?_⟩)) (by rfl))
      have xt : Ex G2 (upd G2 tm (.met (He.ma X.K (CB X.K) "change") ot)) := Ex.new ntm
      have dt : d ≠ tm := fun e => by subst e; rw [hd2] at ntm; cases ntm
      have hdt := (upd_ne (o := .met (He.ma X.K (CB X.K) "change") ot) dt).trans hd2
      have tmq : tm ≠ q := fun e => by subst e; rw [upd_same] at nq; cases nq
      have htm := (upd_ne (H := upd G2 tm (.met (He.ma X.K (CB X.K) "change") ot)) (o := .dK []) tmq).trans upd_same
      generalize upd G2 tm (.met (He.ma X.K (CB X.K) "change") ot) = Gt at xt hdt nq htm ⊢
      have xq : Ex Gt (upd Gt q (.dK [])) := Ex.new nq
      have nqd : q ≠ d := fun e => by subst e; rw [hdt] at nq; cases nq
      refine we_name n6 rfl ⟨[pnx s.n], spChange X.K [pnx s.n], d, [b], m_chg1 hP' T s.n n9, List.nodup_cons.mpr ⟨List.not_mem_nil, List.nodup_nil⟩, rfl, upd_same, htm, (upd_ne (Ne.symm nqd)).trans hdt, nqd, rfl, (show 1 ≤ 1000 by decide), fun r nr => ?_⟩
      have x3 : Ex G2 (upd (upd Gt q (.dK [])) q (.dK ((([pnx s.n] : List Str).map (Sum.inr : Str → Key)).zip [b]))) := xt.trans (xq.put nq)
      generalize upd (upd Gt q (.dK [])) q (.dK ((([pnx s.n] : List Str).map (Sum.inr : Str → Key)).zip [b])) = G3 at x3 nr ⊢
      have x4 := Ex.new (o := .dK ((([pnx s.n] : List Str).map (Sum.inr : Str → Key)).zip [b])) nr
      have hr4 : upd G3 r (.dK ((([pnx s.n] : List Str).map (Sum.inr : Str → Key)).zip [b])) r = some (.dK ((([pnx s.n] : List Str).map (Sum.inr : Str → Key)).zip [b])) := upd_same
      have x34 := x3.trans x4
      generalize upd G3 r (.dK ((([pnx s.n] : List Str).map (Sum.inr : Str → Key)).zip [b])) = G4 at x4 hr4 x34 ⊢
      have nrd : r ≠ dd := fun e => by
        subst e
        rw [x3.keep _ _ ib.hd not_src_dk] at nr
        cases nr
      have kp4 := kp.mono x34
      refine ⟨ot, dx, dd, _, r, [b], rfl, ib.mono x34, hr4, rfl, (show 1 ≤ 9 by decide), nrd, .inl ⟨fun x mx => by rw [List.mem_singleton.mp mx]; exact List.mem_of_getElem? (pnx_at n9), (row9 (runZ z (ss.take j)) sh fa ma fl ro).set s.n b, put_at (us := row9 (runZ z (ss.take j)) sh fa ma fl ro) (v := b) rfl n9, ?_⟩⟩
      refine chg_mk (z := nxtZ (runZ z (ss.take j)) s) (c := nxtC s) (mix_wk rw9 sw) (by rw [List.length_set]; rfl) (thS kp4 n9 (hth2.mono x34)) (fun hfb bok' G5 x5 hb5 => ?_) (fun i hfb G5 de x5 nde => ?_)
      · -- made
        have lt : j < m := by
          rcases Nat.lt_or_ge j m with lt | ge
          · exact lt
          · have e : j = m := by omega
            rcases path.en with e2 | ⟨s', hs', hF⟩
            · have := hrv.1
              omega
            · rw [← e] at hs' hF
              rw [hs] at hs'
              cases hs'
              rcases hF with hF | ⟨_, i, hF⟩
              · omega
              · exact absurd (hfb i hF.1) (by rw [hF.2.1]; exact fun e => nomatch e)
        refine ⟨_, _, _, _, rfl, lt, ?_, ?_⟩
        · exact ExX.fresh (x02.trans x34) x5 fun c e => by subst e; exact not0
        · rw [List.take_add_one, hs, Option.toList_some, runZ_snoc]
          exact hb5
      · -- refused
        have e : j = m := by
          rcases Nat.lt_or_ge j m with lt | ge
          · obtain ⟨_, hG⟩ := path.ok j s lt hs
            exact absurd (hG i hfb.1) (by rw [hfb.2.1]; exact fun e => nomatch e)
          · omega
        refine as_yes T.xm_BadBook_BadBook fun ea ha oe pn2 vs2 hcls hdat hctx tkS => ?_
        have x6 := Ex.xd (o := .xd [("part", .str (pnx i))]) ((x02.trans x34).trans x5) nde
        generalize upd G5 de (.xd [("part", .str (pnx i))]) = G6 at x6 ⊢
        obtain ⟨_, _, _, _, _, _, _, _, _, _, _, _, _, _, _, _, _, _, TI, _⟩ := cb.ex
        have m3 : Sl (suiteY X ea ((ea, oe) :: pn2) (fun cls d σ H => E cls d H)) 3 "at" := ⟨N3.at_, N3.nd, N3.loc, N3.fn, N3.d1, N3.d2⟩
        have m7 : Sl (suiteY X ea ((ea, oe) :: pn2) (fun cls d σ H => E cls d H)) 7 "why" := ⟨N7.at_, N7.nd, N7.loc, N7.fn, N7.d1, N7.d2⟩
        have gN : Gn (suiteY X ea ((ea, oe) :: pn2) (fun cls d σ H => E cls d H)) "NoChange" := ⟨G'.gl, G'.d1⟩
        have rm : L2H.RoomH 2 (suiteY X ea ((ea, oe) :: pn2) (fun cls d σ H => E cls d H)).A := ⟨(BX.b.room.mono (show 2 ≤ 13 by decide)).dp, (BX.b.room.mono (show 2 ≤ 13 by decide)).un⟩
        refine wb_one (ws_raiseW (x1 := ea) (oc := oe) (vc := vs2) rfl List.mem_cons_self hdat hctx (by rw [hcls]; exact TI.sb) m7 tkS rm cn gN T.g_NoChange ⟨rfl, we_name m3 rfl fun d' nd' => ?_⟩)
        exact fails e _ d' x6 nd'
    · -- none of the nine
      have e : j = m := by
        rcases Nat.lt_or_ge j m with lt | ge
        · obtain ⟨h9, _⟩ := path.ok j s lt hs
          omega
        · omega
      refine wb_cons ?_
      refine ws_if (wt_or2 (wt_not ?_))
      have rais : ∀ {D : Ends}, WB X [.Raise (some (.Call (.Name "NoChange" default) [.Name "at" default] [] default)) none default] D [some (.ref p), some (.ref cl), some (.ref ot), some (.int (j : Nat)), some a, some b, c6, none] G1 → True := fun _ => trivial
      clear rais
      rcases hno.1 with ⟨x, rfl, hx⟩ | rfl | ⟨i, rfl⟩
      · repeat walk_at "w"
        refine ⟨true, ⟨_, _, .ty _, .base (.str _), kit_ty (by decide +kernel)⟩, ?_⟩
        repeat walk_at "w"
        refine wt_cmp ?_ ?hm
        case hm => rfl
        repeat walk_at "w"
        refine o_notInT (v := .str x) (T.kt_PARTS.sq _) rfl (by decide +kernel) ?_
        rw [show inV (V.str x) (List.map V.str (["sample", "share", "latest", "factor", "margin", "floor", "roof", "doubled", "kept"] : List Str)) = decide (x ∈ pn) from inV_pn x]
        rw [decide_eq_false hx]
        refine ⟨true, rfl, iteT (wb_one ?_)⟩
        refine ws_raiseI B (by decide) cn g_NoChange m_NoChange (we_name n3 rfl fun d' nd' => ?_) rfl
        exact fails e _ d' x0 nd'
      · repeat walk_at "w"
        refine ⟨false, ⟨_, _, .ty _, .base .non, kit_ty (by decide +kernel)⟩, ?_⟩
        refine ⟨false, rfl, iteT63 rfl (iteT (wb_one ?_))⟩
        refine ws_raiseI B (by decide) cn g_NoChange m_NoChange (we_name n3 rfl fun d' nd' => ?_) rfl
        exact fails e _ d' x0 nd'
      · repeat walk_at "w"
        refine ⟨false, ⟨_, _, .ty _, .base (.int _), kit_ty (by decide +kernel)⟩, ?_⟩
        refine ⟨false, rfl, iteT63 rfl (iteT (wb_one ?_))⟩
        refine ws_raiseI B (by decide) cn g_NoChange m_NoChange (we_name n3 rfl fun d' nd' => ?_) rfl
        exact fails e _ d' x0 nd'
  · rintro σ' G ⟨c3, c4, c5, c6, rfl, jm, xg, hbg⟩
    have e : m = ss.length := by
      have := path.le
      have := hrv.1
      omega
    rw [hrv.1, List.take_length] at hbg
    show WB X _ _ _ _
    repeat walk_at "w"
    exact kQ e ot G xg hbg
end

/-! ### a, b = a list; a call of a def that a name holds -/
section
variable {X : Cx} {k j : Nat} {E : L2.St → XK} {σ : L2.St} {H : Hp} {D : Ends} {e : Expr} {pos : Pos} {Q : VK}
theorem ws_unl2 {i i' : Nat} {x y : Str} {px py pt : Pos} {kt : Nat} (B : Body X k E) (n : Sl X i x) (n' : Sl X i' y)
    (h : WE X e σ H fun v H1 => ∃ p v0 v1, v = .ref p ∧ SqL X.K H1 p [v0, v1] ∧ D.nx ((σ.set i (some v0)).set i' (some v1)) H1)
    (hs : swapsWithSole [.Tuple [.Name x px, .Name y py] kt pt] e pos.line X.env = pure false := by rfl) (hw : swappedStores [.Tuple [.Name x px, .Name y py] kt pt] e X.env = pure none := by rfl)
    (hn : (assignEach [Expr.Name x px, .Name y py] X.env).length = 2 := by rfl) (hst : (assignEach [Expr.Name x px, .Name y py] X.env).findIdx? (·.1) = none := by rfl)
    (h3 : (assignEach [Expr.Tuple [.Name x px, .Name y py] kt pt] X.env).map (·.2) = [assign (.Tuple [.Name x px, .Name y py] kt pt) X.env] := by rfl) :
    WS X (.Assign [.Tuple [.Name x px, .Name y py] kt pt] e pos) D σ H := by
  refine wsP (ps_asg peS (pg_lst B.calm (pgs_cons (pg_name n.nd n.at_ n.loc n.fn) (pgs_cons (pg_name n'.nd n'.at_ n'.loc n'.fn) pgs_nil)) hn hst) hs hw h3) ?_
  refine we_mono h fun v H1 q => ?_
  obtain ⟨p, v0, v1, rfl, hq, z⟩ := q
  exact ⟨p, _, rfl, hq, rfl, v0, _, rfl, v1, _, rfl, rfl, z⟩
theorem ws_unl3 {i i' i2 : Nat} {x y z : Str} {px py pz pt : Pos} {kt : Nat} (B : Body X k E) (n : Sl X i x) (n' : Sl X i' y) (n2 : Sl X i2 z)
    (h : WE X e σ H fun v H1 => ∃ p v0 v1 v2, v = .ref p ∧ SqL X.K H1 p [v0, v1, v2] ∧ D.nx (((σ.set i (some v0)).set i' (some v1)).set i2 (some v2)) H1)
    (hs : swapsWithSole [.Tuple [.Name x px, .Name y py, .Name z pz] kt pt] e pos.line X.env = pure false := by rfl) (hw : swappedStores [.Tuple [.Name x px, .Name y py, .Name z pz] kt pt] e X.env = pure none := by rfl)
    (hn : (assignEach [Expr.Name x px, .Name y py, .Name z pz] X.env).length = 3 := by rfl) (hst : (assignEach [Expr.Name x px, .Name y py, .Name z pz] X.env).findIdx? (·.1) = none := by rfl)
    (h3 : (assignEach [Expr.Tuple [.Name x px, .Name y py, .Name z pz] kt pt] X.env).map (·.2) = [assign (.Tuple [.Name x px, .Name y py, .Name z pz] kt pt) X.env] := by rfl) :
    WS X (.Assign [.Tuple [.Name x px, .Name y py, .Name z pz] kt pt] e pos) D σ H := by
  refine wsP (ps_asg peS (pg_lst B.calm (pgs_cons (pg_name n.nd n.at_ n.loc n.fn) (pgs_cons (pg_name n'.nd n'.at_ n'.loc n'.fn) (pgs_cons (pg_name n2.nd n2.at_ n2.loc n2.fn) pgs_nil))) hn hst) hs hw h3) ?_
  refine we_mono h fun v H1 q => ?_
  obtain ⟨p, v0, v1, v2, rfl, hq, z⟩ := q
  exact ⟨p, _, rfl, hq, rfl, v0, _, rfl, v1, _, rfl, v2, _, rfl, rfl, z⟩
/-- x(e, ..), x holds the def of the name y -/
theorem we_callV {i : Nat} {x y : Str} {sp : Sp} {g : Addr} {p : Pos} {es : List Expr} (B : Body X k E) (n : SlF X i x) (hv : σ[i]? = some (some (.ref g))) (hg : X.mg y = some (.ref g)) (f : Fn X j y sp) (hj : j ≤ k)
    (h : WA X (e :: es) σ H fun vs H1 => sp vs H1 Q (E σ))
    (hs : starEach (e :: es) X.env = (false, eval e X.env) :: starEach es X.env := by rfl) (hl : (backTo pos (starEach es X.env)).any (·.1) = false := by rfl) : WE X (.Call (.Name x p) (e :: es) [] pos) σ H Q := by
  obtain ⟨a, hm, hk, F⟩ := f
  rw [hg] at hm
  cases hm
  intro pins s I
  refine wpAny_Call_Name_kw (thn ((pe_var (pos := p) (i := i) n.at_ n.vis n.d1 n.d2).run pins s σ H (fun v G => v = .ref g ∧ G = H) I ⟨.ref g, hv, rfl, rfl⟩) fun u t z => ?_)
  obtain ⟨v, G, J, rv, rfl, rfl⟩ := z
  cases rv
  refine PySem.W.callWith_K (h₀ := X.base) J.ok.mod.kin hk (thn (h pos pins t J) fun us s1 z => ?_) hs hl
  obtain ⟨vs, H1, I1, r, q⟩ := z
  exact ⟨I1.kIn, go_at F (B.room.mono hj) (B.at σ) I1 r q⟩
end
/-- a, b = x, y with constants -/
theorem sw_const {env : Env} {x y : Str} {px py pt pt2 : Pos} {e1 e2 : Expr} {kt k2 : Nat} (h : [e1, e2].all (foldedForSure 8) = true) : swappedStores [.Tuple [.Name x px, .Name y py] kt pt] (.Tuple [e1, e2] k2 pt2) env = pure none := by
  unfold swappedStores
  simp only [h, if_true]
  repeat (first | rfl | split)
section
variable {X : Cx} {k : Nat} {E : L2.St → XK} {σ : L2.St} {H : Hp} {D : Ends} {a b : Expr} {pos : Pos}
theorem ws_unpC {i i' : Nat} {x y : Str} {px py pt pt2 : Pos} {kt k2 : Nat} (B : Body X k E) (n : Sl X i x) (n' : Sl X i' y) 
    (h : WE X a σ H fun v H1 => WE X b σ H1 fun w H2 => ∀ H3, Ex H2 H3 → D.nx ((σ.set i (some v)).set i' (some w)) H3)
    (hc : [a, b].all (foldedForSure 8) = true := by rfl) (hs : starEach [a, b] X.env = (false, eval a X.env) :: starEach [b] X.env := by rfl) (ht : starEach [b] X.env = [(false, eval b X.env)] := by rfl)
    (hn : (assignEach [Expr.Name x px, .Name y py] X.env).length = 2 := by rfl) (hst : (assignEach [Expr.Name x px, .Name y py] X.env).findIdx? (·.1) = none := by rfl)
    (h1 : (assignEach [Expr.Name x px, .Name y py] X.env).map (·.2) = assign (.Name x px) X.env :: (assignEach [Expr.Name y py] X.env).map (·.2) := by rfl)
    (h2 : (assignEach [Expr.Name y py] X.env).map (·.2) = assign (.Name y py) X.env :: (assignEach [] X.env).map (·.2) := by rfl)
    (h3 : (assignEach [Expr.Tuple [.Name x px, .Name y py] kt pt] X.env).map (·.2) = [assign (.Tuple [.Name x px, .Name y py] kt pt) X.env] := by rfl) :
    WS X (.Assign [.Tuple [.Name x px, .Name y py] kt pt] (.Tuple [a, b] k2 pt2) pos) D σ H := by
  refine wsP (ps_asg (peS (e := .Tuple [a, b] k2 pt2)) (pg_tup B.calm (pgs_cons (pg_name n.nd n.at_ n.loc n.fn) (pgs_cons (pg_name n'.nd n'.at_ n'.loc n'.fn) pgs_nil h2) h1) hn hst) rfl (sw_const hc) h3) ?_
  refine we_tup (wa_two (we_mono h fun v H1 q => we_mono q fun w H2 q => ?_) hs ht)
  refine ⟨Nat.le_trans (show 2 ≤ 1000 by decide) (by decide), fun p H3 hp x e => ?_⟩
  exact ⟨p, _, rfl, .of (by rw [e]; exact upd_same), rfl, v, [w], rfl, w, [], rfl, rfl, q H3 x⟩
end

--IMPORT Fw53
/-! ### rows and steps -/
def StepC (K : PySem.W.Frag) (s : Stp) (v : V) (H : Hp) : Prop := ∃ t w, v = .ref t ∧ H t = some (.lst [.int (s.n : Nat), w]) ∧ (s.n < 9 → ∃ us u1 u3 u4 u5 u6, Bent K s.z s.c us u1 u3 u4 u5 u6 H ∧ us[s.n]? = some w)
def StepsC (K : PySem.W.Frag) (ss : List Stp) (vs : List V) (H : Hp) : Prop := vs.length = ss.length ∧ ∀ (j : Nat) (v : V) (s : Stp), vs[j]? = some v → ss[j]? = some s → StepC K s v H
theorem ns2 {a b : V} : ¬ Src (.lst [a, b]) := ns_len (show 2 ≠ 4 by decide)
theorem StepC.mono {K : PySem.W.Frag} {s : Stp} {v : V} {H H' : Hp} (x : Ex H H') (h : StepC K s v H) : StepC K s v H' := by
  obtain ⟨t, w, e, ht, h⟩ := h
  refine ⟨t, w, e, x.keep _ _ ht ns2, fun l => ?_⟩
  obtain ⟨us, u1, u3, u4, u5, u6, hb, hu⟩ := h l
  exact ⟨us, u1, u3, u4, u5, u6, hb.mono x, hu⟩
theorem StepsC.mono {K : PySem.W.Frag} {ss : List Stp} {vs : List V} {H H' : Hp} (x : Ex H H') (h : StepsC K ss vs H) : StepsC K ss vs H' := ⟨h.1, fun j v s e e2 => (h.2 j v s e e2).mono x⟩
theorem StepsC.ns {K : PySem.W.Frag} {ss : List Stp} {vs : List V} {H : Hp} (h : StepsC K ss vs H) : ¬ Src (.lst vs) := fun ⟨l, i, b, r, e, _⟩ => by
  injection e with e
  have l4 : ss.length = 4 := by rw [← h.1, e]; rfl
  obtain ⟨t, w, q, _⟩ := h.2 1 (.int i) _ (by rw [e]; rfl) (List.getElem?_eq_getElem (show 1 < ss.length by omega))
  cases q
theorem getD_of {us : List V} {i : Nat} {w : V} (h : us[i]? = some w) : us.getD i .non = w := by
  rw [List.getD_eq_getElem?_getD, h]
  rfl
theorem rowS {xs us : List V} {n : Nat} {w : V} (l : xs.length = 9) (hn : n < 9) (h : us[n]? = some w) : xs.set n w = rowM (sS n) xs us := by
  refine List.ext_getElem? fun i => ?_
  by_cases hi : i < 9
  · rw [rowM_at hi]
    unfold sS
    by_cases e : i = n
    · subst e
      rw [List.getElem?_set_self (by rw [l]; exact hi), decide_eq_true rfl, if_pos rfl, getD_of h]
    · rw [List.getElem?_set_ne (fun q => e q.symm), decide_eq_false e, if_neg (fun e => Bool.noConfusion e), ← getD_at l hi]
  · rw [List.getElem?_eq_none (by rw [List.length_set]; omega), List.getElem?_eq_none (by rw [rowM_len]; omega)]
theorem Bent.all {K : PySem.W.Frag} {z : Bk} {c : Nat → Bool} {us : List V} {v1 v3 v4 v5 v6 : V} {H : Hp} (h : Bent K z c us v1 v3 v4 v5 v6 H) (g : ∀ i, i < 9 → c i = false) : us = row9 z v1 v3 v4 v5 v6 := by
  refine List.ext_getElem? fun i => ?_
  by_cases l : i < 9
  · exact h.fine i l (g i l)
  · rw [List.getElem?_eq_none (by rw [h.len]; omega), List.getElem?_eq_none (Nat.le_of_not_lt l)]
def stV : Option Nat → V
  | none => .non
  | some n => .int n
section
variable {P : Program} {w : World} {K : PySem.W.Frag} {mg : Str → Option Value} {base : Heap}
def spLRow (K : PySem.W.Frag) : Sp := fun vs H Q _ => ∃ s us v1 v3 v4 v5 v6 l t w, vs = [.ref l, .ref t] ∧ s.n < 15 ∧ H l = some (.lst us) ∧ Bent K s.z s.c us v1 v3 v4 v5 v6 H ∧ WkOk s.z ∧ H t = some (.lst [.int (s.n : Nat), w]) ∧ ∀ v H', Ex H H' → RowC K s v H' → Q v H'
theorem f__law_row (T : Tm K mg) : GFn P w K mg base 6 "_law_row" (spLRow K) := by
  obtain ⟨fd, F⟩ := T.d__law_row
  refine GFn.mk F T.g__law_row (def_ok F sc__law_row (fun vs H Q E h => by obtain ⟨s, us, v1, v3, v4, v5, v6, l, t, w, rfl, _⟩ := h; rfl) ?_) (F.bindsN fun _ _ _ _ _ _ us hl => match us, hl with | [_, _], _ => rfl)
  intro X eP ew eK em eb eN es hf nd H vs Q E B h
  subst eP ew eK em eb
  have n0 : Sl X 0 "_law_rules_here" := slot_of eN es hf nd rfl (by first | exact Or.inl rfl | exact Or.inr rfl) (by decide) (by decide)
  have n1 : Sl X 1 "_law_step" := slot_of eN es hf nd rfl (by first | exact Or.inl rfl | exact Or.inr rfl) (by decide) (by decide)
  have g__law_words : Gn X "_law_words" := gn_of es rfl (by decide)
  have F__law_words := f__law_words (P := X.prog) (w := X.w) (base := X.base) T
  have g__law_thing : Gn X "_law_thing" := gn_of es rfl (by decide)
  have F__law_thing := f__law_thing (P := X.prog) (w := X.w) (base := X.base) T
  obtain ⟨s, us, v1, v3, v4, v5, v6, l, t, w, rfl, hn, hl, hb, ok, ht, k⟩ := h
  show WB X [_, _] _ [some (.ref l), some (.ref t)] H
  have kt : ∀ {G : Hp}, Ex H G → G t = some (.lst [.int (s.n : Nat), w]) := fun x => x.keep _ _ ht ns2
  repeat walk_at "w"
  by_cases h9 : s.n < 9
  · refine ite_dec (fun hc => absurd hc (by omega)) (fun _ => ?_)
    repeat walk_at "w"
    refine we_call0 B g__law_words (f__law_words T) (by decide) ⟨rfl, fun wl Ha xa ha => ?_⟩
    repeat walk_at "w"
    refine at_l (kt xa) (atI_nat (j := 0) rfl) ?_
    refine at_l ha (atI_nat (j := s.n) (v := .str (pnx s.n)) (by rw [List.getElem?_map, pnx_at h9]; rfl)) ?_
    repeat walk_at "w"
    refine at_l (kt xa) (atI_nat (j := 0) rfl) ?_
    refine ⟨s.z, s.c, us, v1, v3, v4, v5, v6, l, s.n, rfl, h9, xa.keep _ _ hl (ns_len (by rw [hb.len]; decide)), hb.mono xa, ok, fun v Hb xb hv => ?_⟩
    repeat walk_at "w"
    rename_i tu Hc xc hc
    exact k _ _ ((xa.trans xb).trans xc) ⟨tu, _, v, rfl, hc, .inl ⟨h9, rfl, hv.mono xc⟩⟩
  · refine ite_dec (fun _ => ?_) (fun hc => absurd (by omega) hc)
    repeat walk_at "w"
    refine lst_i (lenk 6 rfl) fun u Ha nu xa hu => ?_
    repeat walk_at "w"
    refine at_l (kt xa) (atI_nat (j := 0) rfl) ?_
    repeat walk_at "w"
    have ix : ∃ a, atI [V.str "", .str "Share", .str "name", .non, .int 3, .str "rules"] ((s.n : Int) - 9) = some a ∧ NoPn a := by
      rcases (show s.n = 9 ∨ s.n = 10 ∨ s.n = 11 ∨ s.n = 12 ∨ s.n = 13 ∨ s.n = 14 by omega) with e | e | e | e | e | e <;> rw [e]
      · exact ⟨_, rfl, .inl ⟨_, rfl, by decide +kernel⟩, by decide +kernel⟩
      · exact ⟨_, rfl, .inl ⟨_, rfl, by decide +kernel⟩, by decide +kernel⟩
      · exact ⟨_, rfl, .inl ⟨_, rfl, by decide +kernel⟩, by decide +kernel⟩
      · exact ⟨_, rfl, .inr (.inl rfl), by decide +kernel⟩
      · exact ⟨_, rfl, .inr (.inr ⟨_, rfl⟩), by decide +kernel⟩
      · exact ⟨_, rfl, .inl ⟨_, rfl, by decide +kernel⟩, by decide +kernel⟩
    obtain ⟨a, ea, na⟩ := ix
    refine at_l hu ea ?_
    repeat walk_at "w"
    rename_i tu Hc xc hc
    exact k _ _ (xa.trans xc) ⟨tu, a, _, rfl, hc, .inr ⟨by omega, na⟩⟩
def spDue (K : PySem.W.Frag) : Sp := fun vs H Q _ => ∃ z l v1 v3 v4 v5 v6 m svs ss, vs = [.ref l, .ref m] ∧ H l = some (.lst (row9 z v1 v3 v4 v5 v6)) ∧ RuP z v1 v3 v4 v5 v6 H ∧ WkOk z ∧ H m = some (.lst svs) ∧ StepsC K ss svs H ∧ (∀ s ∈ ss, WkOk s.z) ∧ ss.length ≤ 900 ∧
  ∀ p h mm o H', Ex H H' → H' p = some (.lst [.ref h, stV o]) → PathZ z ss mm → o = (if mm = ss.length then none else some mm) → (∃ u1 u3 u4 u5 u6, H' h = some (.lst (row9 (runZ z (ss.take mm)) u1 u3 u4 u5 u6)) ∧ RuP (runZ z (ss.take mm)) u1 u3 u4 u5 u6 H') → Q (.ref p) H'
theorem f__law_due (T : Tm K mg) : GFn P w K mg base 6 "_law_due" (spDue K) := by
  obtain ⟨fd, F⟩ := T.d__law_due
  refine GFn.mk F T.g__law_due (def_ok F sc__law_due (fun vs H Q E h => by obtain ⟨z, l, v1, v3, v4, v5, v6, m, svs, ss, rfl, _⟩ := h; rfl) ?_) (F.bindsN fun _ _ _ _ _ _ us hl => match us, hl with | [_, _], _ => rfl)
  intro X eP ew eK em eb eN es hf nd H vs Q E B h
  subst eP ew eK em eb
  have n0 : Sl X 0 "_law_rules_here" := slot_of eN es hf nd rfl (by first | exact Or.inl rfl | exact Or.inr rfl) (by decide) (by decide)
  have n1 : Sl X 1 "_law_steps" := slot_of eN es hf nd rfl (by first | exact Or.inl rfl | exact Or.inr rfl) (by decide) (by decide)
  have n2 : Sl X 2 "_law_here" := slot_of eN es hf nd rfl (by first | exact Or.inl rfl | exact Or.inr rfl) (by decide) (by decide)
  have n3 : Sl X 3 "_law_at" := slot_of eN es hf nd rfl (by first | exact Or.inl rfl | exact Or.inr rfl) (by decide) (by decide)
  have n4 : Sl X 4 "_law_place" := slot_of eN es hf nd rfl (by first | exact Or.inl rfl | exact Or.inr rfl) (by decide) (by decide)
  have n5 : Sl X 5 "_law_thing_here" := slot_of eN es hf nd rfl (by first | exact Or.inl rfl | exact Or.inr rfl) (by decide) (by decide)
  have n6 : Sl X 6 "_law_after" := slot_of eN es hf nd rfl (by first | exact Or.inl rfl | exact Or.inr rfl) (by decide) (by decide)
  have z_list : Bn X "list" := bn_of es rfl T.z_list
  have z_range : Bn X "range" := bn_of es rfl T.z_range
  have z_len : Bn X "len" := bn_of es rfl T.z_len
  have g__law_first_bad : Gn X "_law_first_bad" := gn_of es rfl (by decide)
  have F__law_first_bad := f__law_first_bad (P := X.prog) (w := X.w) (base := X.base) T
  obtain ⟨z, l, v1, v3, v4, v5, v6, m, svs, ss, rfl, hl, hr, wk, hm, hst, hwk, l9, k⟩ := h
  show WB X [_, _, _] _ [some (.ref l), some (.ref m), none, none, none, none, none] H
  have km : ∀ {G : Hp}, Ex H G → G m = some (.lst svs) := fun x => x.keep _ _ hm hst.ns
  with_reducible refine' wb_cons ?_
  with_reducible refine' ws_to (fun σ' H' => ∃ a, σ' = [some (.ref l), some (.ref m), some (.ref a), none, none, none, none] ∧ Ex H H' ∧ H' a = some (.lst (row9 z v1 v3 v4 v5 v6))) ?_ ?_
  · repeat walk_at "w"
    refine we_listof z_list ?_
    repeat walk_at "w"
    refine ⟨l, _, rfl, .inl (.of hl), fun a na => ?_⟩
    exact ⟨a, rfl, Ex.new na, upd_same⟩
  rintro σ' H1 ⟨a, rfl, x1, ha⟩
  show WB X _ _ _ _
  refine wb_cons (ws_for_rangeE B n3 z_range ?_)
  repeat walk_at "w"
  refine len_l (km x1) ?_
  refine ⟨svs.length, rfl, by have := hst.1; omega, fun j σ' G => ∃ h c3 c4 c5 c6 u1 u3 u4 u5 u6, σ' = [some (.ref l), some (.ref m), some (.ref h), c3, c4, c5, c6] ∧ Ex H G ∧ G h = some (.lst (row9 (runZ z (ss.take j)) u1 u3 u4 u5 u6)) ∧ RuP (runZ z (ss.take j)) u1 u3 u4 u5 u6 G ∧ ∀ (i : Nat) (s : Stp), i < j → ss[i]? = some s → StpG (runZ z (ss.take i)) s,
    ⟨a, none, none, none, none, v1, v3, v4, v5, v6, rfl, x1, ha, hr.mono x1, fun i s l => absurd l (Nat.not_lt_zero _)⟩, ?_, ?_⟩
  · rintro j σ' G jl ⟨h, c3, c4, c5, c6, u1, u3, u4, u5, u6, rfl, xg, hh, hru, hok⟩
    obtain ⟨s, hs⟩ : ∃ s, ss[j]? = some s := ⟨_, List.getElem?_eq_getElem (show j < ss.length by rw [← hst.1]; exact jl)⟩
    have sw := hwk s (List.mem_of_getElem? hs)
    have rw9 : WkOk (runZ z (ss.take j)) := runZ_wk wk fun q mq => hwk q (List.mem_of_mem_take mq)
    obtain ⟨v, hv⟩ : ∃ v, svs[j]? = some v := ⟨_, List.getElem?_eq_getElem jl⟩
    obtain ⟨t, w, rfl, ht, hw⟩ := (hst.2 j v s hv hs).mono xg
    have jss : j < ss.length := by rw [← hst.1]; exact jl
    have stop : StpF (runZ z (ss.take j)) s → PathZ z ss j := fun f => ⟨by omega, fun i s' il e => hok i s' il e, .inr ⟨s, hs, f⟩⟩
    have nj : (if j = ss.length then none else some j) = some j := if_neg (by omega)
    show WB X _ _ _ _
    with_reducible refine' wb_cons ?_
    with_reducible refine' ws_to (fun σ' G' => σ' = [some (.ref l), some (.ref m), some (.ref h), some (.int (j : Nat)), some (.int (s.n : Nat)), some w, c6] ∧ G' = G) ?_ ?_
    · refine ws_unl2 B n4 n5 ?_
      repeat walk_at "w"
      refine at_l (km xg) (atI_nat hv) ?_
      exact ⟨t, _, _, rfl, .of ht, rfl, rfl⟩
    rintro σ' G' ⟨rfl, rfl⟩
    show WB X _ _ _ _
    by_cases h9 : s.n < 9
    · obtain ⟨us, y1, y3, y4, y5, y6, hb, hu⟩ := hw h9
      with_reducible refine' wb_cons ?_
      with_reducible refine' ws_to (fun σ' G2 => σ' = [some (.ref l), some (.ref m), some (.ref h), some (.int (j : Nat)), some (.int (s.n : Nat)), some w, c6] ∧ G2 = G') ?_ ?_
      · repeat walk_at "w"
        refine ite_dec (fun hc => absurd hc (by omega)) (fun _ => ?_)
        repeat walk_at "w"
        exact ⟨rfl, rfl⟩
      rintro σ' G2 ⟨rfl, rfl⟩
      show WB X _ _ _ _
      with_reducible refine' wb_cons ?_
      with_reducible refine' ws_to (fun σ' G3 => ∃ q, σ' = [some (.ref l), some (.ref m), some (.ref h), some (.int (j : Nat)), some (.int (s.n : Nat)), some w, some (.ref q)] ∧ G2 q = none ∧ Ex G2 G3 ∧ G3 q = some (.lst (row9 (runZ z (ss.take j)) u1 u3 u4 u5 u6))) ?_ ?_
      · repeat walk_at "w"
        refine we_listof z_list ?_
        repeat walk_at "w"
        refine ⟨h, _, rfl, .inl (.of hh), fun q nq => ?_⟩
        exact ⟨q, rfl, nq, Ex.new nq, upd_same⟩
      rintro σ' G3 ⟨q, rfl, nq, x3, hq⟩
      show WB X _ _ _ _
      with_reducible refine' wb_cons ?_
      with_reducible refine' ws_to (fun σ' G4 => σ' = [some (.ref l), some (.ref m), some (.ref h), some (.int (j : Nat)), some (.int (s.n : Nat)), some w, some (.ref q)] ∧ Ex G2 G4 ∧ G4 q = some (.lst (rowM (sS s.n) (row9 (runZ z (ss.take j)) u1 u3 u4 u5 u6) us))) ?_ ?_
      · repeat walk_at "w"
        refine put_l hq (ix_nat (by exact h9)) ?_
        exact ⟨rfl, x3.put nq, by rw [rowS rfl h9 hu]; exact upd_same⟩
      rintro σ' G4 ⟨rfl, x4, hq4⟩
      have bm := Bent.mix (S := sS s.n) (hru.mono x4) (hb.mono x4)
      have okm : WkOk (nxtZ (runZ z (ss.take j)) s) := mix_wk rw9 sw
      have nsq : ¬ Src (.lst (rowM (sS s.n) (row9 (runZ z (ss.take j)) u1 u3 u4 u5 u6) us)) := ns_len (by rw [rowM_len]; decide)
      show WB X _ _ _ _
      with_reducible refine' wb_cons ?_
      with_reducible refine' ws_to (fun σ' G5 => σ' = [some (.ref l), some (.ref m), some (.ref h), some (.int (j : Nat)), some (.int (s.n : Nat)), some w, some (.ref q)] ∧ Ex G4 G5 ∧ FB (nxtZ (runZ z (ss.take j)) s) (nxtC s) none) ?_ ?_
      · refine ws_if (wt_cmp ?_ ?hm)
        case hm => rfl
        repeat walk_at "w"
        refine ⟨_, _, _, _, _, _, _, _, q, rfl, hq4, bm, okm, fun o G5 x5 hfb => ?_⟩
        repeat walk_at "w"
        cases o with
        | none =>
          rw [decide_eq_true (show optN none = V.non from rfl)]
          repeat walk_at "w"
          exact ⟨rfl, x5, hfb⟩
        | some i =>
          rw [decide_eq_false (show ¬ optN (some i) = V.non from fun e => nomatch e)]
          repeat walk_at "w"
          rename_i u Ha nu xa hu'
          have x05 := x4.trans (x5.trans xa)
          refine k u h j (some j) _ (xg.trans x05) hu' (stop (.inr ⟨h9, i, hfb⟩)) nj.symm ⟨_, _, _, _, _, x05.keep _ _ hh ns9, hru.mono x05⟩
      rintro σ' G5 ⟨rfl, x5, hfb⟩
      show WB X _ _ _ _
      repeat walk_at "w"
      have hq5 := x5.keep _ _ hq4 nsq
      have tk1 : runZ z (ss.take (j + 1)) = nxtZ (runZ z (ss.take j)) s := by rw [List.take_add_one, hs, Option.toList_some, runZ_snoc]
      refine ⟨q, _, _, _, _, mv (sS s.n 1) y1 u1, mv (sS s.n 3) y3 u3, mv (sS s.n 4) y4 u4, mv (sS s.n 5) y5 u5, mv (sS s.n 6) y6 u6, rfl, xg.trans (x4.trans x5), ?_, ?_, fun i s' il e => ?_⟩
      rotate_left 2
      · rcases Nat.lt_or_ge i j with lt | ge
        · exact hok i s' lt e
        · have : i = j := by omega
          subst this
          rw [hs] at e
          cases e
          exact ⟨h9, hfb⟩
      · rw [tk1, hq5, bm.all (fb_ok okm hfb).2]
        rfl
      · rw [tk1]
        exact bm.ru.mono x5
    · repeat walk_at "w"
      refine ite_dec (fun _ => ?_) (fun hc => absurd (by omega) hc)
      repeat walk_at "w"
      rename_i u Ha nu xa hu'
      exact k u h j (some j) _ (xg.trans xa) hu' (stop (.inl (by omega))) nj.symm ⟨_, _, _, _, _, xa.keep _ _ hh ns9, hru.mono xa⟩
  · rintro σ' G ⟨h, c3, c4, c5, c6, u1, u3, u4, u5, u6, rfl, xg, hh, hru, hok⟩
    rw [hst.1] at hok hh hru
    repeat walk_at "w"
    rename_i u Ha nu xa hu
    exact k u h ss.length none _ (xg.trans xa) hu ⟨Nat.le_refl _, fun i s' il e => hok i s' il e, .inl rfl⟩ (if_pos rfl).symm ⟨_, _, _, _, _, xa.keep _ _ hh ns9, hru.mono xa⟩
theorem Ex.xd63 {H H' : Hp} {d : Addr} {o : HO} (x : Ex H H') (h : H' d = none) : Ex H (upd H' d o) := x.trans (Ex.new h)
theorem cvd63 {C D a d : Addr} {H : Hp} {fs : List (Str × V)} {r : Bool} {P : Bool → Prop} (hd : H d = some (.xd fs)) (h : PySem.W.kitOne K (.ref D) (.ref C) = some r) (q : P r) :
    V.ref a = .ref a ∧ (∃ fs, H d = some (.xd fs)) ∧ ∃ cv r, (∀ u, RelV (.ref C) u → u = cv) ∧ PySem.W.kitOne K (.ref D) cv = some r ∧ P r := ⟨rfl, ⟨_, hd⟩, _, _, fun _ z => z, h, q⟩
def spMade (K : PySem.W.Frag) : Sp := fun vs H Q _ => ∃ p cl z ss m rvs, vs = [.ref p, .ref cl] ∧ BookV K z (.ref p) H ∧ BkOk z ∧ WkOk z ∧ H cl = some (.lst rvs) ∧ RowsC K ss rvs H ∧ (∀ s ∈ ss, WkOk s.z) ∧ PathZ z ss m ∧ ss.length ≤ 900 ∧
  (m = ss.length → ∀ t a H', Ex H H' → H' t = some (.lst [.str "made", .ref a]) → BookV K (runZ z ss) (.ref a) H' → Q (.ref t) H') ∧ (m < ss.length → ∀ t H', Ex H H' → H' t = some (.lst [.str "refused", .int m, .bl true]) → Q (.ref t) H')
theorem f__law_made (hP : P = PySem.Challenge.pw_resendtimers_k63_changes_made) (T : Tm K mg) : GFnX P w K mg base 15 "_law_made" (spMade K) := by
  obtain ⟨fd, F⟩ := T.d__law_made
  suffices ok : FnOk P w K mg base (L2.CX P w) 15 (ga K "_law_made") fd ["_law_book_here", "_law_rows"] (spMade K) from ⟨_, T.g__law_made, F.kp, (FnOk.raw ok (F.bindsN fun _ _ _ _ _ _ us hl => match us, hl with | [_, _], _ => rfl) .nil).imp fun vs H Q E h => by rw [List.append_nil]; exact h⟩
  refine def_okX F sc__law_made (fun vs H Q E h => by obtain ⟨p, cl, z, ss, m, rvs, rfl, _⟩ := h; rfl) ?_
  intro X eP ew eK em eb eN es hf nd H vs Q E BX h
  have B := BX.b
  have hP' : X.prog = PySem.Challenge.pw_resendtimers_k63_changes_made := eP.trans hP
  subst eP ew eK em eb
  have n0 : Sl X 0 "_law_book_here" := slot_of eN es hf nd rfl (by first | exact Or.inl rfl | exact Or.inr rfl) (by decide) (by decide)
  have n1 : Sl X 1 "_law_rows" := slot_of eN es hf nd rfl (by first | exact Or.inl rfl | exact Or.inr rfl) (by decide) (by decide)
  have n2 : Sl X 2 "e" := slot_of eN es hf nd rfl (by first | exact Or.inl rfl | exact Or.inr rfl) (by decide) (by decide)
  have g_changed : Gn X "changed" := gn_of es rfl (by decide)
  have F_changed := f_changed (P := X.prog) (w := X.w) (base := X.base) hP T
  have g_NoChange : Gn X "NoChange" := gn_of es rfl (by decide)
  have m_NoChange := T.g_NoChange
  have z_isinstance : Bn X "isinstance" := bn_of es rfl T.z_isinstance
  have g_ResendError : Gn X "ResendError" := gn_of es rfl (by decide)
  have m_ResendError := T.g_ResendError
  have g_BadBook : Gn X "BadBook" := gn_of es rfl (by decide)
  have m_BadBook := T.g_BadBook
  obtain ⟨p, cl, z, ss, m, rvs, rfl, hb, bok, wk, hcl, hrv, hwk, path, l9, kM, kR⟩ := h
  show WB X [_] _ [some (.ref p), some (.ref cl), none] H
  have zi : Bn X "isinstance" := z_isinstance
  have gB : Gn X "BadBook" := g_BadBook
  have gR : Gn X "ResendError" := g_ResendError
  have n2' := n2
  refine wb_one (ws_try_as2 B n2 (kd_of es rfl) (nm_own g_NoChange m_NoChange) BX.tk fun pn xe tk2 Bt => ?_)
  have B0 := B
  clear B
  have n0 := n0.tr (pn := pn) (xe := xe)
  have n1 := n1.tr (pn := pn) (xe := xe)
  have n2 := n2.tr (pn := pn) (xe := xe)
  have g_changed := g_changed.tr (pn := pn) (xe := xe)
  have g_NoChange := g_NoChange.tr (pn := pn) (xe := xe)
  have z_isinstance := z_isinstance.tr (pn := pn) (xe := xe)
  have g_ResendError := g_ResendError.tr (pn := pn) (xe := xe)
  have g_BadBook := g_BadBook.tr (pn := pn) (xe := xe)
  repeat walk_at "w"
  refine we_callX Bt tk2 g_changed (f_changed (P := X.prog) (w := X.w) (base := X.base) hP' T) (by decide) ?_
  repeat walk_at "w"
  refine ⟨p, cl, z, ss, m, rvs, rfl, hb, bok, wk, hcl, hrv, hwk, path, l9, fun e a H1 x1 ha => ?_, fun l H1 d x1 nd1 => as_yes2 T.xm_NoChange_NoChange fun ea ha oe pn hz hf' => ?_⟩
  · repeat walk_at "w"
    rename_i tt Ha nt xt ht
    exact kM e tt a _ (x1.trans xt) ht (ha.mono xt)
  · have x2 := Ex.xd63 (o := .xd [("at", .int m)]) x1 nd1
    have hdd : upd H1 d (.xd [("at", .int m)]) d = some (.xd [("at", .int m)]) := upd_same
    generalize upd H1 d (.xd [("at", .int m)]) = H2 at x2 hdd ⊢
    have n2 : Sl (X.suite ea ((ea, oe) :: pn)) 2 "e" := n2'.su
    have gB := gB.su (a := ea) (pn := (ea, oe) :: pn)
    have gR := gR.su (a := ea) (pn := (ea, oe) :: pn)
    refine wb_one (ws_ret (we_lst ?_))
    repeat walk_at "w"
    refine we_xfc T.xc_NoChange T.yn_NoChange hz hf' ?_
    repeat walk_at "w"
    refine ⟨rfl, _, _, hdd, rfl, ?_⟩
    repeat walk_at "w"
    refine we_isEDc T.xc_NoChange hz hf' zi.su ?_
    repeat walk_at "w"
    refine cvd63 hdd T.ki_NoChange_ResendError ?_
    repeat walk_at "w"
    refine we_isEDc T.xc_NoChange hz hf' zi.su ?_
    repeat walk_at "w"
    refine cvd63 hdd T.ki_NoChange_BadBook ?_
    repeat walk_at "w"
    rename_i tt Ha nt xt ht
    exact kR l tt _ (x2.trans xt) ht
end

--IMPORT Fw53
/-! ### lists of rows that grow -/
def CnK (xs : List V) (H : Hp) : Prop := ∀ v ∈ xs, ∃ t, v = .ref t ∧ ((∃ i w, H t = some (.lst [.int i, w])) ∨ ∃ a b, H t = some (.tup [a, b]))
theorem StepsC.cn {K : PySem.W.Frag} {ss : List Stp} {vs : List V} {H : Hp} (h : StepsC K ss vs H) : CnK vs H := fun v m => by
  obtain ⟨j, l, rfl⟩ := List.getElem_of_mem m
  obtain ⟨t, w, e, ht, _⟩ := h.2 j _ _ (List.getElem?_eq_getElem l) (List.getElem?_eq_getElem (show j < ss.length by rw [← h.1]; exact l))
  exact ⟨t, e, .inl ⟨_, w, ht⟩⟩
theorem RowsC.cn {K : PySem.W.Frag} {ss : List Stp} {vs : List V} {H : Hp} (h : RowsC K ss vs H) : CnK vs H := fun v m => by
  obtain ⟨j, l, rfl⟩ := List.getElem_of_mem m
  obtain ⟨t, a, b, e, ht, _⟩ := h.2 j _ _ (List.getElem?_eq_getElem l) (List.getElem?_eq_getElem (show j < ss.length by rw [← h.1]; exact l))
  exact ⟨t, e, .inr ⟨a, b, ht⟩⟩
theorem OddV.ref {K : PySem.W.Frag} {t : Addr} {H : Hp} : ∀ {i : Nat}, OddV K i (.ref t) H → (∃ s, H t = some (.lst [.str s])) ∨ H t = some (.tup []) ∨ ∃ C dx fs, H t = some (.ins C dx fs) := by
  have fg : FgS (.ref t) H → (∃ s, H t = some (.lst [.str s])) ∨ H t = some (.tup []) ∨ ∃ C dx fs, H t = some (.ins C dx fs) := by
    rintro (h | ⟨_, h⟩ | ⟨_, h⟩ | ⟨p, e, h⟩)
    · cases h
    · cases h
    · cases h
    · cases e; exact .inr (.inl h)
  have tm : ∀ {q : Rat}, Tim K q (.ref t) H → (∃ s, H t = some (.lst [.str s])) ∨ H t = some (.tup []) ∨ ∃ C dx fs, H t = some (.ins C dx fs) := by
    rintro q (⟨p, dx, e, h⟩ | ⟨_, e, _⟩)
    · cases e; exact .inr (.inr ⟨_, _, _, h⟩)
    · cases e
  intro i h
  match i, h with
  | 0, h =>
    rcases h with (h | ⟨_, h⟩ | ⟨p, x, e, h⟩) | ⟨_, h, _⟩
    · cases h
    · cases h
    · cases e; exact .inl ⟨x, h⟩
    · cases h
  | 1, h => exact h.elim fg fun ⟨q, a, _⟩ => tm a
  | 2, h =>
    rcases h with ⟨_, h, _⟩ | ⟨_, h⟩ | ⟨_, h⟩ <;> cases h
  | 3, h => exact h.elim fg fun ⟨q, a, _⟩ => tm a
  | 4, h => exact h.elim fg fun ⟨q, a, _⟩ => tm a
  | 5, h => exact h.elim (fun h => fg h.1) fun ⟨q, a, _⟩ => tm a
  | 6, h => exact h.elim (fun h => fg h.1) fun ⟨q, a, _⟩ => tm a
  | _ + 7, h =>
    rcases h with h | ⟨_, h⟩ | ⟨_, h⟩ | ⟨p, e, h⟩
    · cases h
    · cases h
    · cases h
    · cases e; exact .inr (.inl h)
section
variable {K : PySem.W.Frag} {L : Addr} {xs : List V} {u : HO} {H : Hp}
theorem g_i {a C dx : Addr} {fs : List (Str × V)} (hL : H L = some (.lst xs)) (e : H a = some (.ins C dx fs)) : upd H L u a = some (.ins C dx fs) := (upd_ne (fun q => by subst q; rw [hL] at e; cases e)).trans e
theorem g_t {a : Addr} {ys : List V} (hL : H L = some (.lst xs)) (e : H a = some (.tup ys)) : upd H L u a = some (.tup ys) := (upd_ne (fun q => by subst q; rw [hL] at e; cases e)).trans e
theorem g_l {a : Addr} {y : V} {ys : List V} (hL : H L = some (.lst xs)) (hx : CnK xs H) (n : ∀ t, y ≠ .ref t) (e : H a = some (.lst (y :: ys))) : upd H L u a = some (.lst (y :: ys)) := (upd_ne (fun q => by
  subst q
  rw [hL] at e
  cases e
  obtain ⟨t, e, _⟩ := hx y List.mem_cons_self
  exact n t e)).trans e
theorem Tim.gr {q : Rat} {v : V} (hL : H L = some (.lst xs)) (h : Tim K q v H) : Tim K q v (upd H L u) := h.imp (fun ⟨p, dx, e, h⟩ => ⟨p, dx, e, g_i hL h⟩) id
theorem OTim.gr {o : Option Rat} {v : V} (hL : H L = some (.lst xs)) (h : OTim K o v H) : OTim K o v (upd H L u) := by
  cases o with
  | none => exact h
  | some q => exact Tim.gr hL h
theorem FgS.gr {v : V} (hL : H L = some (.lst xs)) (h : FgS v H) : FgS v (upd H L u) := h.imp id (.imp id (.imp id fun ⟨p, e, h⟩ => ⟨p, e, g_t hL h⟩))
theorem OddV.gr {v : V} (hL : H L = some (.lst xs)) (hx : CnK xs H) : ∀ {i : Nat}, OddV K i v H → OddV K i v (upd H L u)
  | 0, h => h.imp (.imp id (.imp id fun ⟨p, y, e, h⟩ => ⟨p, y, e, g_l hL hx (fun _ e => nomatch e) h⟩)) id
  | 1, h => h.imp (FgS.gr hL) fun ⟨q, a, b⟩ => ⟨q, Tim.gr hL a, b⟩
  | 2, h => h
  | 3, h => h.imp (FgS.gr hL) fun ⟨q, a, b⟩ => ⟨q, Tim.gr hL a, b⟩
  | 4, h => h.imp (FgS.gr hL) fun ⟨q, a, b⟩ => ⟨q, Tim.gr hL a, b⟩
  | 5, h => h.imp (fun h => ⟨FgS.gr hL h.1, h.2⟩) fun ⟨q, a, b⟩ => ⟨q, Tim.gr hL a, b⟩
  | 6, h => h.imp (fun h => ⟨FgS.gr hL h.1, h.2⟩) fun ⟨q, a, b⟩ => ⟨q, Tim.gr hL a, b⟩
  | _ + 7, h => h.imp id (.imp id (.imp id fun ⟨p, e, h⟩ => ⟨p, e, g_t hL h⟩))
theorem ThG.gr {z : Bk} {v : V} (hL : H L = some (.lst xs)) : ∀ {i : Nat}, ThG K z v H i → ThG K z v (upd H L u) i
  | 0, h => h
  | 1, h => Tim.gr hL h
  | 2, h => h
  | 3, h => Tim.gr hL h
  | 4, h => Tim.gr hL h
  | 5, h => OTim.gr hL h
  | 6, h => OTim.gr hL h
  | 7, h => h
  | 8, h => h
  | _ + 9, h => h
theorem PrQ.gr {q : Rat} {v : V} (hL : H L = some (.lst xs)) (h : PrQ q v H) : PrQ q v (upd H L u) := by
  obtain ⟨p, e, h⟩ := h
  exact ⟨p, e, g_t hL h⟩
theorem OPr.gr {o : Option Rat} {v : V} (hL : H L = some (.lst xs)) (h : OPr o v H) : OPr o v (upd H L u) := by
  cases o with
  | none => exact h
  | some q => exact PrQ.gr hL h
theorem Bent.gr {z : Bk} {c : Nat → Bool} {us : List V} {v1 v3 v4 v5 v6 : V} (hL : H L = some (.lst xs)) (hx : CnK xs H) (h : Bent K z c us v1 v3 v4 v5 v6 H) : Bent K z c us v1 v3 v4 v5 v6 (upd H L u) := by
  refine ⟨h.len, ⟨PrQ.gr hL h.ru.sh, PrQ.gr hL h.ru.fa, PrQ.gr hL h.ru.ma, OPr.gr hL h.ru.fl, OPr.gr hL h.ru.ro⟩, fun i l e => ?_, h.fine⟩
  obtain ⟨p, x, hu, hp, ho⟩ := h.bad i l e
  refine ⟨p, x, hu, (upd_ne fun q => ?_).trans hp, ho.gr hL hx⟩
  subst q
  rw [hL] at hp
  cases hp
  obtain ⟨t, rfl, k⟩ := hx x List.mem_cons_self
  rcases ho.ref with ⟨s, r⟩ | r | ⟨_, _, _, r⟩ <;> rcases k with ⟨_, _, k⟩ | ⟨_, _, k⟩ <;> rw [r] at k <;> cases k
theorem StepC.gr {s : Stp} {v : V} (hL : H L = some (.lst xs)) (hx : CnK xs H) (h : StepC K s v H) : StepC K s v (upd H L u) := by
  obtain ⟨t, w, e, ht, h⟩ := h
  refine ⟨t, w, e, g_l hL hx (fun _ e => nomatch e) ht, fun l => ?_⟩
  obtain ⟨us, u1, u3, u4, u5, u6, hb, hu⟩ := h l
  exact ⟨us, u1, u3, u4, u5, u6, hb.gr hL hx, hu⟩
theorem StepsC.gr {ss : List Stp} {vs : List V} (hL : H L = some (.lst xs)) (hx : CnK xs H) (h : StepsC K ss vs H) : StepsC K ss vs (upd H L u) := ⟨h.1, fun j v s e e2 => (h.2 j v s e e2).gr hL hx⟩
theorem RowC.gr {s : Stp} {v : V} (hL : H L = some (.lst xs)) (hx : CnK xs H) (h : RowC K s v H) : RowC K s v (upd H L u) := by
  obtain ⟨t, a, b, e, ht, h⟩ := h
  exact ⟨t, a, b, e, g_t hL ht, h.imp (fun h => ⟨h.1, h.2.1, h.2.2.imp (fun h => ⟨h.1, OddV.gr hL hx h.2⟩) fun h => ⟨h.1, ThG.gr hL h.2⟩⟩) id⟩
theorem RowsC.gr {ss : List Stp} {vs : List V} (hL : H L = some (.lst xs)) (hx : CnK xs H) (h : RowsC K ss vs H) : RowsC K ss vs (upd H L u) := ⟨h.1, fun j v s e e2 => (h.2 j v s e e2).gr hL hx⟩
theorem app_at {α : Type} {xs : List α} {a b : α} {j : Nat} (e : (xs ++ [a])[j]? = some b) : (j < xs.length ∧ xs[j]? = some b) ∨ (j = xs.length ∧ a = b) := by
  rcases Nat.lt_trichotomy j xs.length with l | l | l
  · exact .inl ⟨l, by rw [List.getElem?_append_left l] at e; exact e⟩
  · subst l
    rw [List.getElem?_append_right (Nat.le_refl _), Nat.sub_self] at e
    exact .inr ⟨rfl, Option.some.inj e⟩
  · rw [List.getElem?_eq_none (by rw [List.length_append, List.length_singleton]; omega)] at e
    cases e
theorem two_app {α β : Type} {R : α → β → Prop} {xs : List α} {ys : List β} {x : α} {y : β} (h : ys.length = xs.length ∧ ∀ (j : Nat) (v : β) (s : α), ys[j]? = some v → xs[j]? = some s → R s v) (k : R x y) :
    (ys ++ [y]).length = (xs ++ [x]).length ∧ ∀ (j : Nat) (v : β) (s : α), (ys ++ [y])[j]? = some v → (xs ++ [x])[j]? = some s → R s v := by
  refine ⟨by rw [List.length_append, List.length_append, h.1]; rfl, fun j v s e e2 => ?_⟩
  rcases app_at e with ⟨l, e⟩ | ⟨l, rfl⟩ <;> rcases app_at e2 with ⟨l2, e2⟩ | ⟨l2, rfl⟩
  · exact h.2 j v s e e2
  · have := h.1; omega
  · have := h.1; omega
  · exact k
theorem StepsC.app {ss : List Stp} {vs : List V} {s : Stp} {v : V} (h : StepsC K ss vs H) (k : StepC K s v H) : StepsC K (ss ++ [s]) (vs ++ [v]) H := two_app (R := fun s v => StepC K s v H) h k
theorem RowsC.app {ss : List Stp} {vs : List V} {s : Stp} {v : V} (h : RowsC K ss vs H) (k : RowC K s v H) : RowsC K (ss ++ [s]) (vs ++ [v]) H := two_app (R := fun s v => RowC K s v H) h k
end
/-! ### the rows' names -/
def fstO : Option HO → V
  | some (.tup (a :: _)) => a
  | _ => .non
def fstV (H : Hp) : V → V
  | .ref t => fstO (H t)
  | _ => .non
def flA (a : V) : Prop := (∃ x, a = .str x) ∨ a = .non ∨ ∃ i, a = .int i
theorem pnx_sm : ∀ n, n < 9 → smD (.str (pnx n)) = true := by decide +kernel
theorem RowC.fst {K : PySem.W.Frag} {s : Stp} {v : V} {H : Hp} (h : RowC K s v H) : ∃ t b, v = .ref t ∧ H t = some (.tup [fstV H v, b]) ∧ flA (fstV H v) ∧ smD (dOf (fstV H v)) = true := by
  obtain ⟨t, a, b, rfl, ht, h⟩ := h
  have e : fstV H (.ref t) = a := by
    show fstO (H t) = a
    rw [ht]
    rfl
  rw [e]
  refine ⟨t, b, rfl, ht, ?_⟩
  rcases h with ⟨l, rfl, _⟩ | ⟨_, h, sm⟩
  · exact ⟨.inl ⟨_, rfl⟩, pnx_sm _ l⟩
  · exact ⟨h.imp (fun ⟨x, e, _⟩ => ⟨x, e⟩) id, sm⟩
theorem sm_all : ∀ {ds : List PyData}, (∀ d ∈ ds, smD d = true) → PyData.showableAll ds = true ∧ PyData.hasDictAll ds = false ∧ PyData.leavesShortAll 13 ds = true ∧ PyData.weightAll ds ≤ 21 * ds.length ∧ PyData.depthAll ds = 0
  | [], _ => ⟨rfl, rfl, rfl, Nat.zero_le _, rfl⟩
  | d :: ds, h => by
    obtain ⟨r1, r2, r3, r4, r5⟩ := sm_all (ds := ds) fun e m => h e (List.mem_cons_of_mem _ m)
    have q := h d List.mem_cons_self
    unfold smD at q
    simp only [Bool.and_eq_true, Bool.not_eq_true', decide_eq_true_eq] at q
    obtain ⟨⟨⟨⟨q1, q2⟩, q3⟩, q4⟩, q5⟩ := q
    refine ⟨?_, ?_, ?_, ?_, ?_⟩
    · unfold PyData.showableAll
      rw [q1, r1]
      rfl
    · unfold PyData.hasDictAll
      rw [q2, r2]
      rfl
    · unfold PyData.leavesShortAll
      rw [q3, r3]
      rfl
    · unfold PyData.weightAll
      rw [List.length_cons]
      omega
    · unfold PyData.depthAll
      rw [q5, r5]
      rfl
theorem dp_all {K : PySem.W.Frag} {H : Hp} : ∀ {as : List V}, (∀ a ∈ as, flA a) → DpAll K H as (as.map dOf)
  | [], _ => .nil
  | a :: as, h => by
    refine .cons ?_ (dp_all fun e m => h e (List.mem_cons_of_mem _ m))
    rcases h a List.mem_cons_self with ⟨x, rfl⟩ | rfl | ⟨i, rfl⟩
    · exact .str x
    · exact .non
    · exact .int i
/-- the text of the names -/
def nmT (as : List V) : Str := (PyData.list (as.map dOf)).shown
theorem fl_ns {as : List V} (h : ∀ a ∈ as, flA a) : ¬ Src (.lst as) := fun ⟨l, i, b, r, e, _⟩ => by
  injection e with e
  rcases h (.ref l) (by rw [e]; exact List.mem_cons_self) with ⟨_, e⟩ | e | ⟨_, e⟩ <;> cases e
section
variable {X : Cx} {k : Nat} {E : L2.St → XK} {H : Hp} {Q : VK}
theorem o_neR (B : Body X k E) {p p' : Addr} {m : Nat} (hm : m < 5) (h : H p = some (.lst [.str "refused", .int m, .bl true])) (h' : H p' = some (.lst [.str "refused", .int m, .bl true])) (q : Q (.bl false) H) : Op2 X (compareOp .NotEq) (.ref p) (.ref p') H Q := by
  have s : ∀ m, m < 5 → SeqAt.shaped (.list [.str "refused", .int (m : Nat), .bool true]) = true := by decide +kernel
  have v : ∀ m, m < 5 → PyData.eqv (.list [.str "refused", .int (m : Nat), .bool true]) (.list [.str "refused", .int (m : Nat), .bool true]) = true := by decide +kernel
  have d : ∀ {p : Addr}, H p = some (.lst [.str "refused", .int m, .bl true]) → Dp X.K H (.ref p) (.list [.str "refused", .int m, .bool true]) := fun h => .lst (.of h) (.cons (.str _) (.cons (.int _) (.cons (.bl _) .nil)))
  refine o_neDp B (d h) (d h') (s m hm) (s m hm) ?_
  rw [v m hm]
  exact q
end

--IMPORT Fw53
--IMPORT Fw54
/-! ### the law -/
section
variable {P : Program} {w : World} {K : PySem.W.Frag} {mg : Str → Option Value} {base : Heap}
def spLaw (K : PySem.W.Frag) : Sp := fun vs H Q _ => ∃ a ns, vs = [.ref a] ∧ SqL K H a (List.map V.int ns) ∧ ∀ H', Q (.bl true) H'
theorem ok_law (hP : P = PySem.Challenge.pw_resendtimers_k63_changes_made) (T : Tm K mg) {fd : FuncData} (F : FunD K "law" "law" (defArgs s_law) (defBody s_law) (defScope s_law) [] [] (ga K "law") fd) (hbd : ∀ (s : Shared) (us : List Value), us.length = 1 → BindsTo s fd ⟨us, []⟩ ((["_law_script"] : List Str).zip us)) : FnG P w K mg base 17 (ga K "law") (spLaw K) := by
  refine def_okG F sc_law (fun vs H Q E h => by obtain ⟨a, ns, rfl, _⟩ := h; rfl) hbd ?_
  intro X hg eP ew eK em eb eN es hf nd H vs Q E B tk0 h
  have hP' : X.prog = PySem.Challenge.pw_resendtimers_k63_changes_made := eP.trans hP
  subst eP ew eK em eb
  have n0 : Sl X 0 "_law_script" := slot_of eN es hf nd rfl (by first | exact Or.inl rfl | exact Or.inr rfl) (by decide) (by decide)
  have n1 : Sl X 1 "_law_source" := slot_of eN es hf nd rfl (by first | exact Or.inl rfl | exact Or.inr rfl) (by decide) (by decide)
  have n2 : Sl X 2 "_law_turn" := slot_of eN es hf nd rfl (by first | exact Or.inl rfl | exact Or.inr rfl) (by decide) (by decide)
  have n3 : Sl X 3 "_law_rules_here" := slot_of eN es hf nd rfl (by first | exact Or.inl rfl | exact Or.inr rfl) (by decide) (by decide)
  have n4 : Sl X 4 "_law_book_here" := slot_of eN es hf nd rfl (by first | exact Or.inl rfl | exact Or.inr rfl) (by decide) (by decide)
  have n5 : Sl X 5 "_law_steps" := slot_of eN es hf nd rfl (by first | exact Or.inl rfl | exact Or.inr rfl) (by decide) (by decide)
  have n6 : Sl X 6 "_law_rows" := slot_of eN es hf nd rfl (by first | exact Or.inl rfl | exact Or.inr rfl) (by decide) (by decide)
  have n7 : Sl X 7 "_law_k" := slot_of eN es hf nd rfl (by first | exact Or.inl rfl | exact Or.inr rfl) (by decide) (by decide)
  have n8 : Sl X 8 "_law_other" := slot_of eN es hf nd rfl (by first | exact Or.inl rfl | exact Or.inr rfl) (by decide) (by decide)
  have n9 : Sl X 9 "_law_place" := slot_of eN es hf nd rfl (by first | exact Or.inl rfl | exact Or.inr rfl) (by decide) (by decide)
  have n10 : Sl X 10 "_law_stored" := slot_of eN es hf nd rfl (by first | exact Or.inl rfl | exact Or.inr rfl) (by decide) (by decide)
  have n11 : Sl X 11 "_law_due_here" := slot_of eN es hf nd rfl (by first | exact Or.inl rfl | exact Or.inr rfl) (by decide) (by decide)
  have n12 : Sl X 12 "_law_found" := slot_of eN es hf nd rfl (by first | exact Or.inl rfl | exact Or.inr rfl) (by decide) (by decide)
  have g__law_begin : Gn X "_law_begin" := gn_of es rfl (by decide)
  have F__law_begin := f__law_begin (P := X.prog) (w := X.w) (base := X.base) T
  have z_range : Bn X "range" := bn_of es rfl T.z_range
  have g__law_rules : Gn X "_law_rules" := gn_of es rfl (by decide)
  have F__law_rules := f__law_rules (P := X.prog) (w := X.w) (base := X.base) T
  have g__law_book : Gn X "_law_book" := gn_of es rfl (by decide)
  have F__law_book := f__law_book (P := X.prog) (w := X.w) (base := X.base) T
  have g__law_draw : Gn X "_law_draw" := gn_of es rfl (by decide)
  have F__law_draw := f__law_draw (P := X.prog) (w := X.w) (base := X.base) T
  have g__law_bent : Gn X "_law_bent" := gn_of es rfl (by decide)
  have F__law_bent := f__law_bent (P := X.prog) (w := X.w) (base := X.base) T
  have g__law_row : Gn X "_law_row" := gn_of es rfl (by decide)
  have F__law_row := f__law_row (P := X.prog) (w := X.w) (base := X.base) T
  have z_repr : Bn X "repr" := bn_of es rfl T.z_repr
  have g__law_due : Gn X "_law_due" := gn_of es rfl (by decide)
  have F__law_due := f__law_due (P := X.prog) (w := X.w) (base := X.base) T
  have g__law_made : Gn X "_law_made" := gn_of es rfl (by decide)
  have F__law_made := f__law_made (P := X.prog) (w := X.w) (base := X.base) hP T
  have g__law_reads : Gn X "_law_reads" := gn_of es rfl (by decide)
  have F__law_reads := f__law_reads (P := X.prog) (w := X.w) (base := X.base) T
  have z_isinstance : Bn X "isinstance" := bn_of es rfl T.z_isinstance
  have g_Book : Gn X "Book" := gn_of es rfl (by decide)
  have m_Book := T.g_Book
  have kb : X.env.blockKind = .function := blk_of es rfl
  have k__law_book_here : X.env.kindOf "_law_book_here" = some .local := kd_of es rfl
  have k__law_steps : X.env.kindOf "_law_steps" = some .local := kd_of es rfl
  have k__law_rows : X.env.kindOf "_law_rows" = some .local := kd_of es rfl
  have k__law_stored : X.env.kindOf "_law_stored" = some .local := kd_of es rfl
  have k__law_due_here : X.env.kindOf "_law_due_here" = some .local := kd_of es rfl
  obtain ⟨a, ns, rfl, hs, k⟩ := h
  show WB X [_, _, _] _ [some (.ref a), none, none, none, none, none, none, none, none, none, none, none, none, none] H
  repeat walk_at "w"
  refine ⟨a, ns, rfl, hs, fun p H1 x1 so => ?_⟩
  show WB X _ _ _ _
  with_reducible refine' wb_cons ?_
  with_reducible refine' ws_to (fun _ _ => True) ?_ ?_
  · refine ws_for_range (n := 6) B n2 z_range (fun _ σ H' => (∃ c2 c3 c4 c5 c6 c7 c8 c9 c10 c11 c12 c13, σ = [some (.ref a), some (.ref p), c2, c3, c4, c5, c6, c7, c8, c9, c10, c11, c12, c13]) ∧ Sou H' p) ?_ ?_ ?_
    · exact we_int ⟨rfl, ⟨_, _, _, _, _, _, _, _, _, _, _, _, rfl⟩, so⟩
    · clear so x1
      rintro j σ' H2 _ ⟨⟨c2, c3, c4, c5, c6, c7, c8, c9, c10, c11, c12, c13, rfl⟩, so⟩
      show WB X _ _ _ _
      with_reducible refine' wb_cons ?_
      with_reducible refine' ws_to (fun σ' H' => ∃ z l v1 v3 v4 v5 v6, σ' = [some (.ref a), some (.ref p), some (.int j), some (.ref l), c4, c5, c6, c7, c8, c9, c10, c11, c12, c13] ∧ Ex H2 H' ∧ H' l = some (.lst (row9 z v1 v3 v4 v5 v6)) ∧ RuP z v1 v3 v4 v5 v6 H' ∧ BkSm z) ?_ ?_
      · repeat walk_at "w"
        rename_i wl Ha nwl xa hwl
        refine ⟨p, wl, ["first", "last", "marked", "clean"], rfl, so.mono xa, hwl, by decide, by decide, (fun x h => h), fun z l v1 v3 v4 v5 v6 Hb xb nl hl hr sm _ => ?_⟩
        repeat walk_at "w"
        exact ⟨z, l, v1, v3, v4, v5, v6, rfl, xa.trans xb, hl, hr, sm⟩
      rintro σ' H3 ⟨z, l, v1, v3, v4, v5, v6, rfl, x3, hl, hr, sm⟩
      have so3 := so.mono x3
      show WB X _ _ _ _
      with_reducible refine' wb_cons ?_
      with_reducible refine' ws_to (fun σ' H' => ∃ bk sa ra Hx, σ' = [some (.ref a), some (.ref p), some (.int j), some (.ref l), some (.ref bk), some (.ref sa), some (.ref ra), c7, c8, c9, c10, c11, c12, c13] ∧ Ex H3 Hx ∧ BookV X.K z (.ref bk) Hx ∧ Hx sa = none ∧ Hx ra = none ∧ Ex Hx H' ∧ H' sa = some (.lst []) ∧ H' ra = some (.lst []) ∧ sa ≠ ra) ?_ ?_
      · refine ws_par3 B n4 n5 n6 (by rw [Env.blockKind, es]; rfl) (kd_of es rfl) (kd_of es rfl) (kd_of es rfl) ?_
        repeat walk_at "w"
        refine ⟨z, l, v1, v3, v4, v5, v6, rfl, hl, hr, sm.ok, fun bk Ha xa hb => ?_⟩
        repeat walk_at "w"
        refine lst_i (Nat.zero_le _) fun sa Hb nb xb hb' => ?_
        repeat walk_at "w"
        refine lst_i (Nat.zero_le _) fun ra Hc nc xc hc => ?_
        refine ⟨bk, sa, ra, Ha, rfl, xa, hb, nb, xb.back nc, xb.trans xc, xc.keep _ _ hb' (ns_len (show 0 ≠ 4 by decide)), hc, fun e => ?_⟩
        subst e
        rw [hb'] at nc
        cases nc
      rintro σ' H4 ⟨bk, sa, ra, Hx, rfl, x3x, hb, nsa, nra, xx4, hsa, hra, sne⟩
      have sox := so3.mono x3x
      have hlx := x3x.keep _ _ hl ns9
      have hrx := hr.mono x3x
      show WB X _ _ _ _
      with_reducible refine' wb_cons ?_
      with_reducible refine' ws_to (fun σ' G => ∃ ss svs rvs c7 c8 c9, σ' = [some (.ref a), some (.ref p), some (.int j), some (.ref l), some (.ref bk), some (.ref sa), some (.ref ra), c7, c8, c9, c10, c11, c12, c13] ∧ Ex Hx G ∧ G sa = some (.lst svs) ∧ StepsC X.K ss svs G ∧ G ra = some (.lst rvs) ∧ RowsC X.K ss rvs G ∧ (∀ s ∈ ss, WkOk s.z) ∧ ss.length ≤ 4) ?_ ?_
      · refine ws_for_rangeE B n7 z_range ?_
        repeat walk_at "w"
        rename_i d Ha xa d0 d1
        obtain ⟨n, rfl⟩ := Int.eq_ofNat_of_zero_le d0
        refine ⟨n, rfl, by omega, fun i σ' G => ∃ ss svs rvs c7 c8 c9, σ' = [some (.ref a), some (.ref p), some (.int j), some (.ref l), some (.ref bk), some (.ref sa), some (.ref ra), c7, c8, c9, c10, c11, c12, c13] ∧ Ex Hx G ∧ G sa = some (.lst svs) ∧ StepsC X.K ss svs G ∧ G ra = some (.lst rvs) ∧ RowsC X.K ss rvs G ∧ (∀ s ∈ ss, WkOk s.z) ∧ ss.length = i, ?_, ?_, ?_⟩
        · exact ⟨[], [], [], _, _, _, rfl, xx4.trans xa, xa.keep _ _ hsa (ns_len (show 0 ≠ 4 by decide)), ⟨rfl, fun _ _ _ e => nomatch e⟩, xa.keep _ _ hra (ns_len (show 0 ≠ 4 by decide)), ⟨rfl, fun _ _ _ e => nomatch e⟩, (fun _ m => nomatch m), rfl⟩
        · rintro i σ' G il ⟨ss, svs, rvs, c7, c8, c9, rfl, xg, hsv, hst, hrv, hrw, hwk, hln⟩
          have sog := sox.mono xg
          show WB X _ _ _ _
          with_reducible refine' wb_cons ?_
          with_reducible refine' ws_to (fun σ' G' => ∃ m z' c us u1 u3 u4 u5 u6, σ' = [some (.ref a), some (.ref p), some (.int j), some (.ref l), some (.ref bk), some (.ref sa), some (.ref ra), some (.int i), some (.ref m), c9, c10, c11, c12, c13] ∧ Ex G G' ∧ G' m = some (.lst us) ∧ Bent X.K z' c us u1 u3 u4 u5 u6 G' ∧ WkOk z') ?_ ?_
          · repeat walk_at "w"
            rename_i wl Gb nwl xb hwl
            refine ⟨p, wl, ["first", "last", "marked", "clean"], rfl, sog.mono xb, hwl, by decide, by decide, (fun x h => h), fun z' l' u1 u3 u4 u5 u6 Gc xc nl hl' hr' sm' _ => ?_⟩
            repeat walk_at "w"
            refine ⟨z', p, l', u1, u3, u4, u5, u6, rfl, sog.mono (xb.trans xc), hl', hr', sm', fun m Gd hd => ?_⟩
            repeat walk_at "w"
            obtain ⟨_, xd, z', c, us, u5, u6, hm, hbt, ok'⟩ := hd
            exact ⟨m, z', c, us, u1, u3, u4, u5, u6, rfl, (xb.trans xc).trans xd, hm, hbt, ok'⟩
          rintro σ' G1 ⟨m, z', c, us, u1, u3, u4, u5, u6, rfl, x1, hm, hbt, ok'⟩
          have sog1 := sog.mono x1
          show WB X _ _ _ _
          with_reducible refine' wb_cons ?_
          with_reducible refine' ws_to (fun σ' G' => ∃ q : Nat, σ' = [some (.ref a), some (.ref p), some (.int j), some (.ref l), some (.ref bk), some (.ref sa), some (.ref ra), some (.int i), some (.ref m), some (.int q), c10, c11, c12, c13] ∧ Ex G1 G' ∧ q < 15) ?_ ?_
          · repeat walk_at "w"
            rename_i q1 Ga xa q10 q11 q2 Gb xb q20 q21 q3 Gc xc q30 q31 t Gt nt xt ht e1 Ge xe e10 e11
            have x0e := (((xa.trans xb).trans xc).trans xt).trans xe
            have hte := xe.keep _ _ ht (ns_len (show 3 ≠ 4 by decide))
            obtain ⟨q1, rfl⟩ := Int.eq_ofNat_of_zero_le q10
            obtain ⟨q2, rfl⟩ := Int.eq_ofNat_of_zero_le q20
            obtain ⟨q3, rfl⟩ := Int.eq_ofNat_of_zero_le q30
            rcases (show e1 = 0 ∨ e1 = 1 ∨ e1 = 2 by omega) with rfl | rfl | rfl
            · exact at_l hte rfl ⟨q1, rfl, x0e, by omega⟩
            · exact at_l hte rfl ⟨q2, rfl, x0e, by omega⟩
            · exact at_l hte rfl ⟨q3, rfl, x0e, by omega⟩
          rintro σ' G2 ⟨q, rfl, x2, q15⟩
          have x12 := x1.trans x2
          have xg2 := xg.trans x12
          have hsv2 := x12.keep _ _ hsv hst.ns
          have hrv2 := x12.keep _ _ hrv hrw.ns
          have hst2 := hst.mono x12
          have hrw2 := hrw.mono x12
          have nsu : ¬ Src (.lst us) := ns_len (by rw [hbt.len]; decide)
          have hm2 := x2.keep _ _ hm nsu
          have hbt2 := hbt.mono x2
          show WB X _ _ _ _
          with_reducible refine' wb_cons ?_
          with_reducible refine' ws_to (fun σ' G' => ∃ t w Gy, σ' = [some (.ref a), some (.ref p), some (.int j), some (.ref l), some (.ref bk), some (.ref sa), some (.ref ra), some (.int i), some (.ref m), some (.int q), c10, c11, c12, c13] ∧ Ex G2 Gy ∧ Gy t = some (.lst [.int (q : Nat), w]) ∧ (q < 9 → us[q]? = some w) ∧ G' = upd Gy sa (.lst (svs ++ [.ref t]))) ?_ ?_
          · refine ws_expr (we_append (we_name n5 rfl ⟨sa, svs, rfl, hsv2, ?_⟩)) (by rfl)
            repeat walk_at "w"
            by_cases h9 : q < 9
            · refine ite_dec (fun _ => ?_) (fun hc => absurd (by omega) hc)
              repeat walk_at "w"
              refine at_l hm2 (atI_nat (getD_at hbt.len h9)) ?_
              repeat walk_at "w"
              rename_i t Gy nt xt ht
              exact ⟨svs, xt.keep _ _ hsv2 hst2.ns, Nat.lt_of_lt_of_le (show svs.length < 16 by have := hst.1; omega) (by decide), t, _, Gy, rfl, xt, ht, fun _ => getD_at hbt.len h9, rfl⟩
            · refine ite_dec (fun hc => absurd hc (by omega)) (fun _ => ?_)
              repeat walk_at "w"
              rename_i t Gy nt xt ht
              exact ⟨svs, xt.keep _ _ hsv2 hst2.ns, Nat.lt_of_lt_of_le (show svs.length < 16 by have := hst.1; omega) (by decide), t, _, Gy, rfl, xt, ht, fun z => absurd z h9, rfl⟩
          rintro σ' G3 ⟨t, w, Gy, rfl, xy, hty, hw, rfl⟩
          have hsvy := xy.keep _ _ hsv2 hst2.ns
          have hrvy := xy.keep _ _ hrv2 hrw2.ns
          have hsty := hst2.mono xy
          have hrwy := hrw2.mono xy
          have hmy := xy.keep _ _ hm2 nsu
          have hbty := hbt2.mono xy
          have cny := hsty.cn
          have msa : m ≠ sa := fun e => by
            subst e
            rw [hsvy] at hmy
            cases hmy
            have := hbt.len
            have := hst.1
            omega
          have sty : StepC X.K ⟨q, z', c⟩ (.ref t) Gy := ⟨t, w, rfl, hty, fun l => ⟨us, u1, u3, u4, u5, u6, hbty, hw l⟩⟩
          have ht3 := g_l (y := .int (q : Nat)) (ys := [w]) (u := .lst (svs ++ [.ref t])) hsvy cny (fun _ e => nomatch e) hty
          have hm3 : upd Gy sa (.lst (svs ++ [.ref t])) m = some (.lst us) := (upd_ne msa).trans hmy
          have hbt3 := hbty.gr (u := .lst (svs ++ [.ref t])) hsvy cny
          have hst3 := (hsty.app sty).gr (u := .lst (svs ++ [.ref t])) hsvy cny
          have hrw3 := hrwy.gr (u := .lst (svs ++ [.ref t])) hsvy cny
          have hsv3 : upd Gy sa (.lst (svs ++ [.ref t])) sa = some (.lst (svs ++ [.ref t])) := upd_same
          have hrv3 : upd Gy sa (.lst (svs ++ [.ref t])) ra = some (.lst rvs) := (upd_ne (Ne.symm sne)).trans hrvy
          have xg3 := (xg2.trans xy).put (o := .lst (svs ++ [.ref t])) nsa
          generalize upd Gy sa (.lst (svs ++ [.ref t])) = G3 at ht3 hm3 hbt3 hst3 hrw3 hsv3 hrv3 xg3 ⊢
          show WB X _ _ _ _
          refine wb_one (ws_expr (we_append (we_name n6 rfl ⟨ra, rvs, rfl, hrv3, ?_⟩)) (by rfl))
          repeat walk_at "w"
          refine at_l hsv3 (atI_last _ _) ?_
          refine ⟨⟨q, z', c⟩, us, u1, u3, u4, u5, u6, m, t, w, rfl, q15, hm3, hbt3, ok', ht3, fun v Gz xz hv => ?_⟩
          have hrvz := xz.keep _ _ hrv3 hrw3.ns
          have hrwz := hrw3.mono xz
          have cnz := hrwz.cn
          refine ⟨rvs, hrvz, Nat.lt_of_lt_of_le (show rvs.length < 16 by have := hrw.1; omega) (by decide), ?_⟩
          refine ⟨ss ++ [⟨q, z', c⟩], svs ++ [.ref t], rvs ++ [v], _, _, _, rfl, (xg3.trans xz).put nra, (upd_ne sne).trans (xz.keep _ _ hsv3 hst3.ns), (hst3.mono xz).gr hrvz cnz, upd_same, (hrwz.app hv).gr hrvz cnz, fun s ms => ?_, by rw [List.length_append, hln]; rfl⟩
          rcases List.mem_append.mp ms with ms | ms
          · exact hwk s ms
          · rw [List.mem_singleton.mp ms]
            exact ok'
        · rintro σ' G ⟨ss, svs, rvs, c7, c8, c9, rfl, xg, hsv, hst, hrv, hrw, hwk, hln⟩
          exact ⟨ss, svs, rvs, _, _, _, rfl, xg, hsv, hst, hrv, hrw, hwk, by omega⟩
      rintro σ' H5 ⟨ss, svs, rvs, c7, c8, c9, rfl, x5, hsv, hst, hrv, hrw, hwk, hln⟩
      have hb5 := hb.mono x5
      have hl5 := x5.keep _ _ hlx ns9
      have hr5 := hrx.mono x5
      have so5 := sox.mono x5
      have rl : rvs.length = ss.length := hrw.1
      have fsts : ∀ (i : Nat) (v : V), rvs[i]? = some v → ∃ t b, v = .ref t ∧ H5 t = some (.tup [fstV H5 v, b]) ∧ flA (fstV H5 v) ∧ smD (dOf (fstV H5 v)) = true := fun i v e =>
        (hrw.2 i v _ e (List.getElem?_eq_getElem (show i < ss.length by rw [← rl]; exact (List.getElem?_eq_some_iff.mp e).1))).fst
      have fl : ∀ y ∈ rvs.map (fstV H5), flA y := fun y my => by
        obtain ⟨v, mv, rfl⟩ := List.mem_map.mp my
        obtain ⟨i, hi⟩ := List.mem_iff_getElem?.mp mv
        obtain ⟨_, _, _, _, f, _⟩ := fsts i v hi
        exact f
      have smd : ∀ d ∈ (rvs.map (fstV H5)).map dOf, smD d = true := fun d md => by
        obtain ⟨y, my, rfl⟩ := List.mem_map.mp md
        obtain ⟨v, mv, rfl⟩ := List.mem_map.mp my
        obtain ⟨i, hi⟩ := List.mem_iff_getElem?.mp mv
        obtain ⟨_, _, _, _, _, f⟩ := fsts i v hi
        exact f
      obtain ⟨d1, d2, d3, d4, d5⟩ := sm_all smd
      have d4' : (PyData.list ((rvs.map (fstV H5)).map dOf)).weight ≤ 2 ^ 20 := by
        refine Nat.le_trans (show PyData.weightAll _ ≤ 84 from ?_) (by decide)
        rw [List.length_map, List.length_map] at d4
        omega
      have tx : ∀ {G : Hp} {D : Addr}, G D = some (.lst (rvs.map (fstV H5))) → ∃ b d, V.ref D = .ref b ∧ Dp X.K G (.ref b) d ∧ d.showable = true ∧ d.hasDict = false ∧ d.shown.length ≤ sizeLine ∧ X.A.units + (d.depth + 1) < cLine ∧ d.shown = nmT (rvs.map (fstV H5)) := fun {G D} h => by
        refine ⟨D, _, rfl, .lst (.of h) (dp_all fl), d1, d2, PyData.shown_fits (B := 13) (by decide) (by decide) (show PyData.leavesShortAll 13 _ = true from d3) d4', ?_, rfl⟩
        have e : (PyData.list ((rvs.map (fstV H5)).map dOf)).depth = 1 := by
          show PyData.depthAll _ + 1 = 1
          rw [d5]
        rw [e]
        have := B.room.un
        omega
      show WB X _ _ _ _
      with_reducible refine' wb_cons ?_
      with_reducible refine' ws_to (fun σ' H' => ∃ pd h mm u1 u3 u4 u5 u6, σ' = [some (.ref a), some (.ref p), some (.int j), some (.ref l), some (.ref bk), some (.ref sa), some (.ref ra), c7, c8, c9, some (.str (nmT (rvs.map (fstV H5)))), some (.ref pd), c12, c13] ∧ Ex H5 H' ∧ H' pd = some (.lst [.ref h, stV (if mm = ss.length then none else some mm)]) ∧ PathZ z ss mm ∧ H' h = some (.lst (row9 (runZ z (ss.take mm)) u1 u3 u4 u5 u6)) ∧ RuP (runZ z (ss.take mm)) u1 u3 u4 u5 u6 H') ?_ ?_
      · repeat walk_at "w"
        refine we_reprD hg z_repr ?_
        refine we_lc (x := "_law_row_here") (i := 13) B (by rw [eN]; exact nd) (by rw [eN]; rfl) rfl (by rw [eN, es]; exact blkOk_by (by decide +kernel)) ?_
        repeat walk_at "w"
        refine ⟨ra, rvs, rfl, .of hrv, fun D hD => ⟨fun i G => Ex H5 G ∧ G D = some (.lst ((rvs.take i).map (fstV H5))), ⟨Ex.new hD, by rw [List.take_zero]; exact upd_same⟩, fun i G hi q => .of (q.1.keep _ _ hrv hrw.ns), ?_, ?_⟩⟩
        · rintro i v G hv ⟨xg, hgD⟩ s0 H0 C cl fp
          obtain ⟨t, b, rfl, ht, _⟩ := fsts i v hv
          refine in_blk B rfl fun B => ?_
          refine in_own (i := 13) (x := "_law_row_here") eN nd rfl rfl (by decide) (by decide) fun n13 => ?_
          repeat walk_at "w"
          refine ⟨_, hgD, ?_, xg.put hD, ?_⟩
          · rw [List.length_map, List.length_take]
            exact Nat.lt_of_le_of_lt (show _ ≤ 16 by omega) (by decide)
          · rw [upd_same, List.take_add_one, hv, Option.toList_some, List.map_append]
            rfl
        · rintro G ⟨xg, hgD⟩
          rw [List.take_length] at hgD
          obtain ⟨b, d, e1, e2, e3, e4, e5, e6, e7⟩ := tx hgD
          refine ⟨b, d, e1, e2, e3, e4, e5, e6, ?_⟩
          rw [e7]
          repeat walk_at "w"
          refine ⟨z, l, v1, v3, v4, v5, v6, sa, svs, ss, rfl, xg.keep _ _ hl5 ns9, hr5.mono xg, sm.wk, xg.keep _ _ hsv hst.ns, hst.mono xg, hwk, by omega, fun pd h mm o G' x' hpd path eo hh => ?_⟩
          obtain ⟨u1, u3, u4, u5, u6, hh, hru⟩ := hh
          subst eo
          exact ⟨pd, h, mm, u1, u3, u4, u5, u6, rfl, xg.trans x', hpd, path, hh, hru⟩
      rintro σ' H6 ⟨pd, h, mm, u1, u3, u4, u5, u6, rfl, x6, hpd, path, hh, hru⟩
      have hb6 := hb5.mono x6
      have hrv6 := x6.keep _ _ hrv hrw.ns
      have hrw6 := hrw.mono x6
      show WB X _ _ _ _
      with_reducible refine' wb_cons ?_
      with_reducible refine' ws_to (fun σ' H' => ∃ f, σ' = [some (.ref a), some (.ref p), some (.int j), some (.ref l), some (.ref bk), some (.ref sa), some (.ref ra), c7, c8, c9, some (.str (nmT (rvs.map (fstV H5)))), some (.ref pd), some (.ref f), c13] ∧ Ex H6 H' ∧ ((mm = ss.length ∧ ∃ bb, H' f = some (.lst [.str "made", .ref bb]) ∧ BookV X.K (runZ z ss) (.ref bb) H') ∨ (mm < ss.length ∧ H' f = some (.lst [.str "refused", .int mm, .bl true])))) ?_ ?_
      · refine ws_set n12 (we_callX B tk0 g__law_made (f__law_made (P := X.prog) (w := X.w) (base := X.base) hP' T) (by decide) ?_) (by rfl)
        repeat walk_at "w"
        exact ⟨bk, ra, z, ss, mm, rvs, rfl, hb6, sm.ok, sm.wk, hrv6, hrw6, hwk, path, by omega, fun e f bb G x hf hbb => ⟨f, rfl, x, .inl ⟨e, bb, hf, hbb⟩⟩, fun l f G x hf => ⟨f, rfl, x, .inr ⟨l, hf⟩⟩⟩
      rintro σ' H7 ⟨f, rfl, x7, hf⟩
      have x57 := x6.trans x7
      have hl7 := x57.keep _ _ hl5 ns9
      have hr7 := hr5.mono x57
      have hb7 := hb5.mono x57
      have hrv7 := x57.keep _ _ hrv hrw.ns
      have hpd7 := x7.keep _ _ hpd ns2
      have hh7 := x7.keep _ _ hh ns9
      have hru7 := hru.mono x7
      show WB X _ _ _ _
      with_reducible refine' wb_cons ?_
      with_reducible refine' ws_to (fun σ' H' => σ' = [some (.ref a), some (.ref p), some (.int j), some (.ref l), some (.ref bk), some (.ref sa), some (.ref ra), c7, c8, c9, some (.str (nmT (rvs.map (fstV H5)))), some (.ref pd), some (.ref f), c13] ∧ Ex H7 H') ?_ ?_
      · refine ws_if (wt_or2 (wt_not (wt_val ?_)))
        repeat walk_at "w"
        refine ⟨z, l, v1, v3, v4, v5, v6, .ref bk, rfl, hb7, hl7, hr7, fun Ha xa => ?_⟩
        repeat walk_at "w"
        refine we_reprD hg z_repr ?_
        refine we_lc (x := "_law_row_here") (i := 13) B (by rw [eN]; exact nd) (by rw [eN]; rfl) rfl (by rw [eN, es]; exact blkOk_by (by decide +kernel)) ?_
        repeat walk_at "w"
        have hrva := xa.keep _ _ hrv7 hrw.ns
        refine ⟨ra, rvs, rfl, .of hrva, fun D hD => ⟨fun i G => Ex Ha G ∧ G D = some (.lst ((rvs.take i).map (fstV H5))), ⟨Ex.new hD, by rw [List.take_zero]; exact upd_same⟩, fun i G hi q => .of (q.1.keep _ _ hrva hrw.ns), ?_, ?_⟩⟩
        · rintro i v G hv ⟨xg, hgD⟩ s0 H0 C cl fp
          obtain ⟨t, b, rfl, ht, _⟩ := fsts i v hv
          refine in_blk B rfl fun B => ?_
          refine in_own (i := 13) (x := "_law_row_here") eN nd rfl rfl (by decide) (by decide) fun n13 => ?_
          repeat walk_at "w"
          refine ⟨_, hgD, ?_, xg.put hD, ?_⟩
          · rw [List.length_map, List.length_take]
            exact Nat.lt_of_le_of_lt (show _ ≤ 16 by omega) (by decide)
          · rw [upd_same, List.take_add_one, hv, Option.toList_some, List.map_append]
            rfl
        · rintro G ⟨xg, hgD⟩
          rw [List.take_length] at hgD
          obtain ⟨b, d, e1, e2, e3, e4, e5, e6, e7⟩ := tx hgD
          refine ⟨b, d, e1, e2, e3, e4, e5, e6, ?_⟩
          rw [e7]
          repeat walk_at "w"
          refine o_neS ?_
          rw [decide_eq_true (rfl : nmT (rvs.map (fstV H5)) = nmT (rvs.map (fstV H5)))]
          repeat walk_at "w"
          exact ⟨rfl, xa.trans xg⟩
      rintro σ' H8 ⟨rfl, x8⟩
      have x78 := x8
      have hl8 := x8.keep _ _ hl7 ns9
      have hpd8 := x8.keep _ _ hpd7 ns2
      have hh8 := x8.keep _ _ hh7 ns9
      have hru8 := hru7.mono x8
      rcases hf with ⟨e, bb, hfv, hbb⟩ | ⟨lt, hfv⟩
      · have hf8 := x8.keep _ _ hfv ns2
        have hbb8 := hbb.mono x8
        rw [if_pos e] at hpd8
        rw [e, List.take_length] at hh8 hru8
        have hpd8 : H8 pd = some (.lst [.ref h, .non]) := hpd8
        show WB X _ _ _ _
        repeat walk_at "w"
        rw [decide_eq_true (rfl : V.non = V.non)]
        repeat walk_at "w"
        rw [decide_eq_true (rfl : V.non = V.non)]
        repeat walk_at "w"
        refine o_neS ?_
        rw [decide_eq_true (rfl : ("made" : Str) = "made")]
        repeat walk_at "w"
        obtain ⟨dxb, db, shb, fab, mab, flb, rob, ibb, _⟩ := id hbb8.is
        refine ⟨true, ⟨_, _, .own _, T.c_Book.ty ibb.hp, T.k_Book.self⟩, ?_⟩
        repeat walk_at "w"
        rw [decide_eq_true (rfl : V.non = V.non)]
        repeat walk_at "w"
        refine ⟨runZ z ss, h, u1, u3, u4, u5, u6, .ref bb, rfl, hbb8, hh8, hru8, fun Ha xa => ?_⟩
        repeat walk_at "w"
        exact ⟨⟨_, _, _, _, _, _, _, _, _, _, _, _, rfl⟩, so5.mono ((x57.trans x8).trans xa)⟩
      · have hf8 := x8.keep _ _ hfv (ns_len (show 3 ≠ 4 by decide))
        rw [if_neg (by omega)] at hpd8
        have hpd8 : H8 pd = some (.lst [.ref h, .int mm]) := hpd8
        show WB X _ _ _ _
        repeat walk_at "w"
        rw [decide_eq_false (show ¬ V.int mm = V.non from fun e => nomatch e)]
        repeat walk_at "w"
        rename_i y Ha ny xa hy
        have xs := xa
        refine o_neR B (by omega) (xa.keep _ _ hf8 (ns_len (show 3 ≠ 4 by decide))) hy ?_
        repeat walk_at "w"
        have hpda := xa.keep _ _ hpd8 ns2
        refine at_l (i := 1) hpda rfl ?_
        repeat walk_at "w"
        rw [decide_eq_false (show ¬ V.int mm = V.non from fun e => nomatch e)]
        repeat walk_at "w"
        rw [decide_eq_false (show ¬ V.int mm = V.non from fun e => nomatch e)]
        repeat walk_at "w"
        exact ⟨⟨_, _, _, _, _, _, _, _, _, _, _, _, rfl⟩, so5.mono ((x57.trans x8).trans xa)⟩
    · intro σ' H' _
      trivial
  intro _ H' _
  show WB X _ _ _ _
  repeat walk_at "w"
  exact k H'
end

end Rt
open PySem PySem.W PySem.Calls PyProof.Rows
theorem PySem.Challenge.cw_resendtimers_k63_changes_made_holds : PySem.Challenge.rw_resendtimers_k63_changes_made.Holds := by
  w_on; o_law
  refine HandSHeadRun.head_any (r := OpenLaw.row PySem.Challenge.rw_resendtimers_k63_changes_made) (q := view (OpenLaw.row PySem.Challenge.rw_resendtimers_k63_changes_made).prog [60]) (H := Rs.hookX 6 Rt.ψ Rt.fn) (ob := Rs.obX 6 Rt.ψ Rt.fn) (M := 8000) (loose := Rt.loose)
    (d := HandSHeadRun.topDef (OpenLaw.row PySem.Challenge.rw_resendtimers_k63_changes_made).prog 60) (kwd := []) (Rs.obX_eq 6 Rt.ψ Rt.fn)
    (by kernel_rfl) (fun s => by kernel_rfl) Rt.run (by kernel_rfl) (by kernel_rfl) (by kernel_rfl) (by rfl) (by first | assumption | decide +kernel) (by decide +kernel) ⟨rfl, rfl, rfl, rfl, rfl, by decide +kernel⟩ ?hw ?hc
  case hw => w_witness2
  case hc =>
    refine Rs.walk_ofG (l := PySem.Challenge.rw_resendtimers_k63_changes_made) (n := 63) (k := 17) rfl (by decide) (by kernel_rfl) ⟨rfl, by decide, by decide⟩ ?F
    intro w mg fa h Y G hmg0
    obtain ⟨K, KX, c⟩ := Y
    have hmg : mg ("law" : PySem.Str) = some (.ref fa) := by
      have e : (HandSHeadRun.topDef (OpenLaw.row PySem.Challenge.rw_resendtimers_k63_changes_made).prog 60).name = ("law" : PySem.Str) := by kernel_rfl
      rw [← e]
      exact hmg0
    have T := Rt.tm_of KX G c
    obtain ⟨fd, F⟩ := T.d_law
    have e := hmg.symm.trans T.g_law
    cases e
    have b := L2.FunD.bindsA (ps := ["_law_script"]) F fun _ _ _ _ _ _ us hl => match us, hl with | [_], _ => rfl
    exact ⟨K, Rt.spLaw K, KX, fun H a ns hl _ hS => ⟨a, ns, rfl, hS, fun _ => rfl⟩, fun base _ _ => Rt.ok_law rfl T F b⟩
