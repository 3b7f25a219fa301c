import PyProof.Rows.All
import Wide.All
import OpenK.AllK
import Wide.FinOn
import HandS.ForExc
import HandS.More
import HandS.Defaults
import HandS.MakeKw
import HandS.MakeKwOnly
import HandS.Property
import HandS.ClsMeth
import HandS.Codes
import HandS.IsInst
import HandS.ExcIs
import HandS.ExcSuper
import HandS.ExcCtx
import HandS.Wide
import HandS.WideBits
import HandS.CallSlots
import HandS.Iter
import HandS.Comp
import HandS.FStr
import HandS.SlotsOwn
import KE.KOpsOwn
import KE.KStateDown
import HandS.Head0
import HandS.Head1
import HandS.Head2
import HandS.HeadEnd
import HandS.HeadHook1
import HandS.HeadHook2
import HandS.ExcField
import HandS.TryOnly
import HandS.TryMany
import HandS.HotCalls
import HandS.ExcInitHot
import HandS.Star
import KE.GoesEnum
import KE.KExcSuper
import KE.KSuper
import KE.KExcIs
import HandS.Dict
import KE.KIsAll
import HandS.Style
import HandS.OwnEq
import PyProof.DictUpdate
import HandS.ReSub
import HandS.TupAny
import HandS.GenList
import PySem.Challenge.RW_resendtimers_k24_whole_greater_estimates
set_option Elab.async false
set_option linter.all false
set_option maxRecDepth 100000
set_option maxHeartbeats 4000000
namespace Rs
open PySem PySem.Spec PyProof.Rows L2

section
variable {X : Cx}
variable {σ : L2.St} {H : Hp} {D : Ends} {Q : VK} {QT : Bool → Hp → Prop} {QA : List V → Hp → Prop}
/-- what a call that raises leaves -/
abbrev RX (P : Program) (w : World) : CXT := L2N.CX P w
structure Body (X : Cx) (k : Nat) (E : L2.St → XK) : Prop where
  calm : X.calm = true
  room : Room k X.A
  tk : L2N.Takes X fun cls d σ H => E σ cls d H
  po : PassesOwn (model X.prog X.w) X.A X.env X.xe
  stk : (∀ x, X.fn x = true) → X.stack = X.env :: X.outer
  fr : (∀ x, X.fn x = true) → X.env.frame = some X.env.locals
theorem Body.at {k : Nat} {E : L2.St → XK} (B : Body X k E) (σ : L2.St) : PassesAt (RX X.prog X.w) X σ (E σ) := L2N.passAt B.tk σ
section
variable {k j : Nat} {E : L2.St → XK} {x m : Str} {sp : Sp} {p pos apos : Pos} {e o : Expr} {es : List Expr} {C : Addr}
end
end
end Rs

namespace Rs
open PySem PySem.Spec PyProof.Rows L2

/-- a source of draws: its numbers' list, the place, the rest of a great number, the seed -/
def SrcL (l : Addr) : HO → Prop := fun o => ∃ i b r : Int, o = .lst [.ref l, .int i, .int b, .int r] ∧ 0 ≤ i ∧ 0 ≤ r ∧ r < 2147483647
def Src (o : HO) : Prop := ∃ l, SrcL l o
theorem not_src_ins {C dx : Addr} {fs : List (Str × V)} : ¬ Src (.ins C dx fs) := by
  rintro ⟨l, i, b, r, e, _⟩
  cases e
/-- what stays as it is: no source, or a row that begins with an instance -/
def Good (H : Hp) (o : HO) : Prop := ¬ Src o ∨ ∃ l C dx fs rest, o = .lst (.ref l :: rest) ∧ H l = some (.ins C dx fs)
structure Ex (H H' : Hp) : Prop where
  kp : ∀ a o, H a = some o → Good H o → H' a = some o
  src : ∀ a l o, H a = some o → SrcL l o → ∃ o', H' a = some o' ∧ SrcL l o'
theorem Ex.keep {H H' : Hp} (x : Ex H H') (a : Addr) (o : HO) (h : H a = some o) (n : ¬ Src o) : H' a = some o := x.kp a o h (.inl n)
theorem Ex.back {H H' : Hp} {p : Addr} (x : Ex H H') (h : H' p = none) : H p = none := by
  cases q : H p with
  | none => rfl
  | some o =>
    by_cases s : Src o
    · obtain ⟨l, s⟩ := s
      obtain ⟨o', e, _⟩ := x.src p l o q s
      rw [h] at e
      cases e
    · have e := x.keep p o q s
      rw [h] at e
      cases e
theorem not_src_tup {xs : List V} : ¬ Src (.tup xs) := by
  rintro ⟨l, i, b, r, e, _⟩
  cases e
theorem Ex.ins {H H' : Hp} {a C dx : Addr} {fs : List (Str × V)} (x : Ex H H') (h : H a = some (.ins C dx fs)) : H' a = some (.ins C dx fs) := x.keep _ _ h not_src_ins
theorem Ex.tup {H H' : Hp} {a : Addr} {xs : List V} (x : Ex H H') (h : H a = some (.tup xs)) : H' a = some (.tup xs) := x.keep _ _ h not_src_tup

/-- any value v with R, in any heap that has grown from H -/
def Ret (H : Hp) (R : V → Hp → Prop) (Q : VK) : Prop := ∀ v H', Ex H H' → R v H' → Q v H'
theorem Ret.at {H H' : Hp} {R : V → Hp → Prop} {Q : VK} {v : V} (k : Ret H R Q) (x : Ex H H') (r : R v H') : Q v H' := k v H' x r
end Rs

namespace Rs
open PySem PySem.Spec PyProof.Rows L2
open AutoSeq1 (wpAny_loadPart')

section
variable (i : Int) (t : Tok) (x : Addr) (ox : Obj)
abbrev DeclS (x : Addr) (ox : Obj) : PySem.Spec := fun _ R s => s.heap.get? x = some ox ∧ ox.data = .plain ∧ R (.ok (.ret .notImplemented)) s
end
section
variable {X : Cx} {k j : Nat} {E : XK} {sp : Sp} {C f g a b dx dy : Addr} {fs gs : List (Str × V)} {H : Hp} {Q : VK} {op : Operator} {i : Int}
theorem back {pins : List (Addr × Obj)} {σ : L2.St} {A : Around} {t : Sem Value} {R : Value → Shared → Prop} {s : Shared} (h : wpAny (model X.prog X.w) A t (EP X pins σ Q) R s) :
    wpAny (model X.prog X.w) A t (PySem.W.CmpBack (EP X pins σ Q)) R s := wpAny_mono h (fun u s' z => by
  obtain ⟨v, H', I, r, q⟩ := z
  exact SlX.cmpback r ⟨v, H', I, r, q⟩) fun _ _ z => z
theorem inst_of {pins : List (Addr × Obj)} {σ : L2.St} {s : Shared} (I : Inv X pins σ H s) (e : H a = some (.ins C dx fs)) : ∃ od, PySem.W.InstAt s.heap a (PySem.W.instObj C dx) C (some od) := by
  obtain ⟨mA, O, _⟩ := ins_get I.hok e
  obtain ⟨od, J, _⟩ := O.look
  exact ⟨od, J⟩
end
end Rs

namespace Rs
open PySem PySem.Spec PyProof.Rows L2

section
variable {X : Cx} {k j : Nat} {E : XK} {sp : Sp} {C f g a b dx dy : Addr} {fs gs : List (Str × V)} {H : Hp} {Q : VK} {op : Operator} {cop : CmpOp} {i : Int}

end
end Rs

namespace Rs
open PySem PySem.Spec PyProof.Rows L2

section
variable {X : Cx} {σ : L2.St} {H : Hp} {D : Ends} {Q Q' : VK} {QT : Bool → Hp → Prop} {QA QA' : List V → Hp → Prop} {k j : Nat} {E : L2.St → XK} {x m : Str} {sp : Sp} {p pos apos : Pos} {e o a b c : Expr} {es : List Expr} {C : Addr}

end
end Rs

namespace Rs
open PySem PySem.Spec PyProof.Rows L2

section
variable {X : Cx} {σ : L2.St} {H : Hp} {D : Ends} {Q Q' : VK} {QT QT' : Bool → Hp → Prop} {QA QA' : List V → Hp → Prop} {k j : Nat} {E : L2.St → XK} {x m : Str} {sp : Sp} {p pos apos : Pos} {e o a b c : Expr} {es : List Expr} {C : Addr}

variable {i l : Int}
end
end Rs

namespace Rs
open PySem PySem.Spec PyProof.Rows L2
section
variable {P : Program} {w : World} {K : PySem.W.Frag} {mg : Str → Option Value} {base : Heap} {N : List Str} {qual : Str} {sc : Scope} {f : Addr} {cdv : Value} {A : Around} {outer : List Env} {s : Shared} {H : Hp} {E : XK} {k : Nat}
end
end Rs

namespace Rs
open PySem PySem.Spec PyProof.Rows L2 He

section
variable {P : Program} {w : World} {K : PySem.W.Frag} {mg : Str → Option Value} {base : Heap} {N ps : List Str} {name qual : Str} {pa : Arguments} {body : List Stmt} {sc : Scope} {dvs : List V} {kws : List (Str × V)} {f : Addr} {fd : FuncData} {k : Nat} {sp : Sp}
end
section
variable {X : Cx} {N : List Str} {sc : Scope} {i : Nat} {x : Str}
end

structure DefA where
  ad : PySem.W.Frag → Addr
  name : Str
  qual : Str
  params : Arguments
  body : List Stmt
  scope : Scope
  dfl : List Dv := []
  kwd : List (Str × Dv) := []
  clo : Bool := false
def DefA.seen (d : DefA) (K : PySem.W.Frag) : FnW := match K.lookup (d.ad K) with
  | some ⟨_, _, .func z, _⟩ => some (z.name, z.qualname, z.params, z.body, z.scope, z.globals, (bif d.clo then [] else z.closure), z.builtins)
  | _ => none
def DefA.told (d : DefA) : FnW := some (d.name, d.qual, d.params, .stmts d.body, d.scope, mainGlobals, [], builtinsNs)
def DefA.dvs (d : DefA) (K : PySem.W.Frag) : List V := d.dfl.map (Dv.v K)
def DefA.kws (d : DefA) (K : PySem.W.Frag) : List (Str × V) := d.kwd.map fun z => (z.1, z.2.v K)
def DefA.good (d : DefA) (K : PySem.W.Frag) : Bool := PySem.W.keepIn K (.ref (d.ad K)) && (match K.lookup (d.ad K) with
  | some ⟨_, _, .func z, _⟩ => PySem.W.codeIn K z.code d.qual && (d.clo || (dflB K z.defaults (d.dvs K) && kwdB K z.kwdefaults (d.kws K)))
  | _ => false)
def pgA (K : PySem.W.Frag) (C : Addr) (m : Str) : Addr := match PySem.W.recIn K (ma K C m) "property" with
  | some (.ref g :: _) => g
  | _ => 0
abbrev AlA : Type := Bool × List FnW
def obsX (ψ : List (PySem.W.Frag → Bool)) (fn : List DefA) (K : PySem.W.Frag) : AlA := ((ψ.all fun b => b K) && fn.all fun d => d.good K, fn.map fun d => d.seen K)
def valX (fn : List DefA) : AlA := (true, fn.map DefA.told)
def SaysX (ψ : List (PySem.W.Frag → Bool)) (fn : List DefA) (K : PySem.W.Frag) : Prop := obsX ψ fn K = valX fn
def visitY (m : Nat) (acc : List Addr) : List Addr → Nat × List Addr
  | [] => (m, acc)
  | r :: rs => match Nat.beq (Nat.land (Nat.shiftRight m r) 1) 1 with
    | true => visitY m acc rs
    | false => visitY (Nat.lor m (Nat.shiftLeft 1 r)) (r :: acc) rs
def namesY (g : Addr → Option Obj) (a : Addr) : List Addr := match g a with
  | some o => refsD o
  | none => []
def layerY (g : Addr → Option Obj) (m : Nat) (acc : List Addr) : List Addr → Nat × List Addr
  | [] => (m, acc)
  | a :: as => match visitY m acc (namesY g a) with
    | (m', acc') => layerY g m' acc' as
def goY (g : Addr → Option Obj) : Nat → Nat → List Addr → List Addr → List Addr
  | 0, _, _, all => all
  | n + 1, m, fr, all => match layerY g m [] fr with
    | (m', fr') => goY g n m' fr' (fr' ++ all)
def asY (g : Addr → Option Obj) (n : Nat) : List Addr := goY g n (Nat.shiftLeft 1 mainGlobals) [mainGlobals] [mainGlobals]
def hookX (n : Nat) (ψ : List (PySem.W.Frag → Bool)) (fn : List DefA) : PySem.W.Hook where
  α := AlA
  obs := fun s => obsX ψ fn (frG s.heap.get? ((asY s.heap.get? n).reverse ++ [cStatics]))
  val := fun _ => valX fn
  says := fun _ h => ∃ K : PySem.W.Frag, K.In h ∧ SaysX ψ fn K
  of := fun _ _ e => ⟨_, frG_in, e⟩
  keeps := fun _ _ _ z k => by
    obtain ⟨K, hK, c⟩ := z
    exact ⟨K, PySem.W.Frag.In.keeps hK k, c⟩
def obX (n : Nat) (ψ : List (PySem.W.Frag → Bool)) (fn : List DefA) (s : PySem.W.SharedT) : AlA := obsX ψ fn (frG (HandSHeadRun.getT s) ((asY (HandSHeadRun.getT s) n).reverse ++ [cStatics]))
section
variable {ψ : List (PySem.W.Frag → Bool)} {fn : List DefA} {K : PySem.W.Frag}
theorem SaysX.all (c : SaysX ψ fn K) : (∀ b ∈ ψ, b K = true) ∧ (∀ d ∈ fn, d.good K = true) ∧ ∀ d ∈ fn, d.seen K = d.told := by
  have c1 : ((ψ.all fun b => b K) && fn.all fun d => d.good K) = true := congrArg (fun z : AlA => z.1) c
  have c2 : fn.map (fun d => d.seen K) = fn.map DefA.told := congrArg (fun z : AlA => z.2) c
  rw [Bool.and_eq_true] at c1
  refine ⟨List.all_eq_true.mp c1.1, List.all_eq_true.mp c1.2, fun d hd => ?_⟩
  obtain ⟨i, hi, e⟩ := List.mem_iff_getElem.mp hd
  have e1 : (fn.map fun d => d.seen K)[i]? = (fn.map DefA.told)[i]? := by rw [c2]
  rw [List.getElem?_map, List.getElem?_map, List.getElem?_eq_getElem hi, e] at e1
  exact Option.some.inj e1
end

def isRefO : Option Value → Bool
  | none => true
  | some (.ref _) => true
  | _ => false
def binOwnB (K : PySem.W.Frag) (C f : Addr) (op : Operator) : Bool :=
  PySem.W.selfFirst K C && (decide (PySem.W.findIn K (.ref C) (PySem.dunder op.info.2) = some (some (.ref f))) && (PySem.W.isFn K (.ref f) && ((match PySem.W.findIn K (.ref C) (dunderR op.info.2) with
    | some rc => isRefO rc
    | none => false) && ((PySem.W.findIn K (.type "int") (PySem.dunder op.info.2)).isSome && ((PySem.W.findIn K (.type "int") (dunderR op.info.2)).isSome && decide (PySem.W.subIn K (.type "int") (.ref C) = some false))))))
def binRefB (K : PySem.W.Frag) (C f g : Addr) (op : Operator) : Bool :=
  PySem.W.selfFirst K C && (decide (PySem.W.findIn K (.ref C) (PySem.dunder op.info.2) = some (some (.ref f))) && (decide (PySem.W.findIn K (.ref C) (dunderR op.info.2) = some (some (.ref g))) && (PySem.W.isFn K (.ref g) && decide (PySem.W.subIn K (.ref C) (.type "int") = some false))))
def cmpOwnB (K : PySem.W.Frag) (C f : Addr) (op : CmpOp) : Bool := decide (PySem.W.findIn K (.ref C) (cmpInfo op).2.1 = some (some (.ref f))) && (PySem.W.isFn K (.ref f) && PySem.W.notFirst K C (.type "int"))
def cmpRefB (K : PySem.W.Frag) (C g : Addr) (op : CmpOp) : Bool := decide (PySem.W.findIn K (.ref C) (cmpInfo op).2.2 = some (some (.ref g))) && (PySem.W.isFn K (.ref g) && decide (PySem.W.subIn K (.ref C) (.type "int") = some false))
def negOwnB (K : PySem.W.Frag) (C f : Addr) : Bool := decide (PySem.W.findIn K (.ref C) "__neg__" = some (some (.ref f))) && PySem.W.isFn K (.ref f)
def noInplB (K : PySem.W.Frag) (C : Addr) (op : Operator) : Bool := (match PySem.W.clsIn K C with
  | some cd => decide (cd.mro = [.ref C, .type "object"])
  | none => false) && (decide (PySem.W.findIn K (.ref C) (dunderI op.info.2) = some none) && decide (PySem.W.findIn K (.type "object") (dunderI op.info.2) = some none))
def propB (K : PySem.W.Frag) (C : Addr) (m : Str) : Bool := decide (PySem.W.findIn K (.ref C) m = some (some (.ref (ma K C m)))) && (decide (PySem.W.specialIn K (.ref (ma K C m)) "__get__" = some (some (.builtin "property.__get__"))) && (decide (PySem.W.takesIn K (.ref (ma K C m)) = some true) &&
  (match PySem.W.recIn K (ma K C m) "property" with
    | some (.ref g :: _) => decide (g = pgA K C m)
    | _ => false)))
/-- what isinstance asks of the class at C -/
structure IsC (K : PySem.W.Frag) (C : Addr) : Prop where
  cl : Cls K C
  ca : PySem.W.findIn K (.ref C) "__class__" = some (some (.builtin "object.__class__"))
  cn : PySem.W.specialIn K (.builtin "object.__class__") "__get__" = some (some (.builtin "getset_descriptor.__get__"))
  ct : PySem.W.takesIn K (.builtin "object.__class__") = some true
  cm : PySem.W.mroIn K C (.type "object") = some true
def isCB (K : PySem.W.Frag) (x : Str) : Bool := (Fa.cls x).ok K && (decide (PySem.W.findIn K (.ref (ga K x)) "__class__" = some (some (.builtin "object.__class__"))) && (decide (PySem.W.specialIn K (.builtin "object.__class__") "__get__" = some (some (.builtin "getset_descriptor.__get__"))) &&
  (decide (PySem.W.takesIn K (.builtin "object.__class__") = some true) && decide (PySem.W.mroIn K (ga K x) (.type "object") = some true))))
theorem IsC.ty {K : PySem.W.Frag} {C a dx : Addr} {fs : List (Str × V)} {H : Hp} (c : IsC K C) (h : H a = some (.ins C dx fs)) : TyX K H (.ref a) (.ref C) := .base (.ins h c.cl c.ca c.cn c.ct c.cm)
def kitCB (K : PySem.W.Frag) (C : Addr) : Bool := decide (PySem.W.kitOne K (.ref C) (.ref C) = some true) && (decide (PySem.W.kitOne K (.ref C) (.type "int") = some false) && (decide (PySem.W.kitOne K (.ref C) (.type "bool") = some false) && (decide (PySem.W.kitOne K (.ref C) (.type "str") = some false) &&
  ((["int", "bool", "str", "NoneType", "tuple", "list"] : List String).all fun n => decide (PySem.W.kitOne K (.type n) (.ref C) = some false)))))
end Rs

namespace Rs
open PySem PySem.Spec PyProof.Rows L2 He PySem.Calls
section
variable {P : Program} {w : World} {K : PySem.W.Frag} {mg : Str → Option Value} {base : Heap} {N ps : List Str} {name qual : Str} {pa : Arguments} {body : List Stmt} {sc : Scope} {dvs : List V} {kws : List (Str × V)} {f : Addr} {fd : FuncData} {k : Nat} {sp : Sp}
end
def absOwnB (K : PySem.W.Frag) (C f : Addr) : Bool := decide (PySem.W.findIn K (.ref C) "__abs__" = some (some (.ref f))) && PySem.W.isFn K (.ref f)
end Rs

namespace Rs
open PySem PySem.Spec PyProof.Rows L2 He
def excPlainB (K : PySem.W.Frag) (C : Addr) : Bool := PySem.W.excIn K C veBase "ValueError.__new__" && (PySem.W.keepIn K (.ref C) && (decide (PySem.W.subIn K (.ref C) (.type "BaseException") = some true) && decide (PySem.W.typeIn K (.ref C) = some (.type "type"))))
section
variable {X : Cx} {σ : L2.St} {H : Hp} {Q : VK} {x : Str} {pos : Pos}
end
end Rs

namespace Rs
open PySem PySem.Spec PyProof.Rows L2 He
section
variable {X : Cx} {σ : L2.St} {H : Hp} {D : Ends} {Q Q' : VK} {k j : Nat} {E : XK} {x : Str} {p pos pos' : Pos} {a b c e o : Expr}
end
section
variable {H : Hp} {p l : Addr} {i b r : Int} {P : Hp → Prop}
end
end Rs

namespace Mt
structure Sz (q : Rat) (n : Nat) : Prop where
  num : q.num.natAbs < 2 ^ n
  den : q.den < 2 ^ n
theorem num_le (t b : Int) : (Rat.divInt t b).num.natAbs ≤ t.natAbs := by
  rw [Rat.num_divInt, Int.natAbs_ediv_of_dvd, Int.natAbs_mul]
  · refine Nat.le_trans (Nat.div_le_self _ _) ?_
    have : b.sign.natAbs ≤ 1 := by
      rcases Int.lt_trichotomy b 0 with h | h | h
      · rw [Int.sign_eq_neg_one_of_neg h]; decide
      · subst h; decide
      · rw [Int.sign_eq_one_of_pos h]; decide
    calc b.sign.natAbs * t.natAbs ≤ 1 * t.natAbs := Nat.mul_le_mul_right _ this
      _ = t.natAbs := Nat.one_mul _
  · exact Int.dvd_mul_of_dvd_right (Int.gcd_dvd_right ..)
theorem den_le {t b : Int} (hb : b ≠ 0) : (Rat.divInt t b).den ≤ b.natAbs := by
  rw [Rat.den_divInt, if_neg hb]
  exact Nat.div_le_self _ _
theorem Sz.div {t b : Int} {n : Nat} (hb : b ≠ 0) (h1 : t.natAbs < 2 ^ n) (h2 : b.natAbs < 2 ^ n) : Sz (Rat.divInt t b) n := ⟨Nat.lt_of_le_of_lt (num_le t b) h1, Nat.lt_of_le_of_lt (den_le hb) h2⟩
theorem int_eq (i : Int) : Rat.divInt i 1 = (i : Rat) := by
  have h := Rat.num_divInt_den (i : Rat)
  rw [Rat.num_intCast] at h
  exact h
end Mt

namespace Rs
open PySem PySem.Spec PyProof.Rows L2 He Mt
section
variable {X : Cx} {k : Nat} {E : L2.St → XK} {H : Hp} {Q : VK} {p p' : Addr} {a b c d : Int}
end
end Rs
namespace Rs
open PySem PySem.Spec PyProof.Rows L2 He Mt
end Rs

namespace Rs
open PySem PySem.Spec PyProof.Rows L2 He
open AutoSeq1 (wpAny_loadPart')
section
variable {X : Cx} {σ : L2.St} {H : Hp}
end
section
variable {P : Program} {w : World} {K : PySem.W.Frag} {mg : Str → Option Value} {base : Heap} {N ps : List Str} {name qual : Str} {pa : Arguments} {body : List Stmt} {sc : Scope} {dvs : List V} {kws : List (Str × V)} {f : Addr} {fd : FuncData} {k : Nat} {sp : SpN}
end
section
variable {X : Cx} {σ : L2.St} {H : Hp} {pins : List (Addr × Obj)} {s : Shared}
end

structure NeOwn (K : PySem.W.Frag) (C f : Addr) : Prop where
  eq : PySem.W.findIn K (.ref C) "__eq__" = some (some (.ref f))
  fn : PySem.W.isFn K (.ref f) = true
  ne : PySem.W.findIn K (.ref C) "__ne__" = some (some (.builtin "object.__ne__"))
  ob : PySem.W.mroIn K C (.type "object") = some true
  tu : PySem.W.mroIn K C (.type "tuple") = some false
  li : PySem.W.mroIn K C (.type "list") = some false
  st : PySem.W.mroIn K C (.type "str") = some false
  sub : PySem.W.subIn K (.ref C) (.type "int") = some false
def neOwnB (K : PySem.W.Frag) (C f : Addr) : Bool := decide (PySem.W.findIn K (.ref C) "__eq__" = some (some (.ref f))) && (PySem.W.isFn K (.ref f) && (decide (PySem.W.findIn K (.ref C) "__ne__" = some (some (.builtin "object.__ne__"))) &&
  (decide (PySem.W.mroIn K C (.type "object") = some true) && (decide (PySem.W.mroIn K C (.type "tuple") = some false) && (decide (PySem.W.mroIn K C (.type "list") = some false) && (decide (PySem.W.mroIn K C (.type "str") = some false) && decide (PySem.W.subIn K (.ref C) (.type "int") = some false)))))))
section
variable {M : Model} {prog : Program} {w : World} {A : Around} {E : Value → Shared → Prop} {s : Shared} {K : PySem.W.Frag} {x C f : Addr} {ox : Obj} {od : Option Obj} {b : Value}
end

section
variable (x : Addr) (ox : Obj)
theorem decl_eqB (i : Bool) : Meets (Builtin.«int.__eq__» ⟨[.bool i, .ref x], []⟩) (DeclS x ox) := .of_wp fun prog w A R s q => by
  obtain ⟨hp, g, d, tk, os⟩ := s
  obtain ⟨e1, e2, z⟩ := q
  wp_walk using wpAny_loadPart' e1, wpAny_load e1
  rw [e2]
  wp_walk
  exact ⟨_, rfl, z⟩
theorem decl_neB (i : Bool) : Meets (Builtin.«int.__ne__» ⟨[.bool i, .ref x], []⟩) (DeclS x ox) := .of_wp fun prog w A R s q => by
  obtain ⟨hp, g, d, tk, os⟩ := s
  obtain ⟨e1, e2, z⟩ := q
  wp_walk using wpAny_loadPart' e1, wpAny_load e1
  rw [e2]
  wp_walk
  exact ⟨_, rfl, z⟩
theorem decl_eqS (z : Str) (t : Tok) : Meets (Builtin.«str.__eq__» ⟨[.str z t, .ref x], []⟩) (DeclS x ox) := .of_wp fun prog w A R s q => by
  obtain ⟨hp, g, d, tk, os⟩ := s
  obtain ⟨e1, e2, z⟩ := q
  wp_walk using wpAny_loadPart' e1, wpAny_load e1
  rw [e2]
  wp_walk
  exact ⟨_, rfl, z⟩
theorem decl_neS (z : Str) (t : Tok) : Meets (Builtin.«str.__ne__» ⟨[.str z t, .ref x], []⟩) (DeclS x ox) := .of_wp fun prog w A R s q => by
  obtain ⟨hp, g, d, tk, os⟩ := s
  obtain ⟨e1, e2, z⟩ := q
  wp_walk using wpAny_loadPart' e1, wpAny_load e1
  rw [e2]
  wp_walk
  exact ⟨_, rfl, z⟩
theorem decl_eqN : Meets (Builtin.«NoneType.__eq__» ⟨[.none, .ref x], []⟩) (DeclS x ox) := .of_wp fun prog w A R s q => by
  obtain ⟨hp, g, d, tk, os⟩ := s
  obtain ⟨e1, e2, z⟩ := q
  wp_walk
  exact ⟨_, rfl, z⟩
theorem decl_neN : Meets (Builtin.«NoneType.__ne__» ⟨[.none, .ref x], []⟩) (DeclS x ox) := .of_wp fun prog w A R s q => by
  obtain ⟨hp, g, d, tk, os⟩ := s
  obtain ⟨e1, e2, z⟩ := q
  wp_walk
  exact ⟨_, rfl, z⟩
end
section
variable {M : Model} {A : Around} {E : Value → Shared → Prop} {s : Shared} {K : PySem.W.Frag} {x C f p : Addr} {ox : Obj} {od : Option Obj} {Q : Fin → Shared → Prop}
theorem isI_no {T : String} (X : K.In s.heap) (I : PySem.W.InstAt s.heap x ox C od) (h : PySem.W.mroIn K C (.type T) = some false) : PySem.W.Looks M s.heap (isInstance (.ref x) (.type T)) false := I.type.andThen (PySem.W.looks_mroIn X h)
theorem shape_eqT : ∃ r : Bool → Sem Fin, Builtin.«tuple.__eq__» ⟨[.ref p, .ref x], []⟩ = (isInstance (.ref x) (.type "tuple") >>= r) ∧ r false = (ret .notImplemented >>= fun y => pure y) := ⟨_, rfl, rfl⟩
theorem shape_neT : ∃ r : Bool → Sem Fin, Builtin.«tuple.__ne__» ⟨[.ref p, .ref x], []⟩ = (isInstance (.ref x) (.type "tuple") >>= r) ∧ r false = (ret .notImplemented >>= fun y => pure y) := ⟨_, rfl, rfl⟩
theorem shape_eqL : ∃ r : Bool → Sem Fin, Builtin.«list.__eq__» ⟨[.ref p, .ref x], []⟩ = (isInstance (.ref x) (.type "list") >>= r) ∧ r false = (ret .notImplemented >>= fun y => pure y) := ⟨_, rfl, rfl⟩
theorem shape_neL : ∃ r : Bool → Sem Fin, Builtin.«list.__ne__» ⟨[.ref p, .ref x], []⟩ = (isInstance (.ref x) (.type "list") >>= r) ∧ r false = (ret .notImplemented >>= fun y => pure y) := ⟨_, rfl, rfl⟩
theorem shape_go {t : Sem Fin} {T : String} (h : ∃ r : Bool → Sem Fin, t = (isInstance (.ref x) (.type T) >>= r) ∧ r false = (ret .notImplemented >>= fun y => pure y)) (X : K.In s.heap) (I : PySem.W.InstAt s.heap x ox C od) (hm : PySem.W.mroIn K C (.type T) = some false) (q : Q (.done (.ret .notImplemented)) s) :
    wpAny M A t Q E s := by
  obtain ⟨r, rfl, h⟩ := h
  refine wpAny_bind ((isI_no X I hm).here ?_)
  rw [h]
  exact wpAny_bind (wpAny_pure (wpAny_pure q))
end

/-- v is no int, no bool and no instance -/
inductive Fgn (H : Hp) : V → Prop
  | non : Fgn H .non
  | bl (b : Bool) : Fgn H (.bl b)
  | str (z : Str) : Fgn H (.str z)
  | tup {p : Addr} {xs : List V} : H p = some (.tup xs) → Fgn H (.ref p)
  | lst {p : Addr} {xs : List V} : H p = some (.lst xs) → Fgn H (.ref p)
/-- what its value does beside the instance at x -/
structure FgnAt (K : PySem.W.Frag) (s : Shared) (x C : Addr) (u : Value) : Prop where
  ty : ∃ T, s.TypeIs u T ∧ PySem.W.subIn K (.type T) (.ref C) = some false
  eq : ∀ prog w A E, wpAny (model prog w) A (tryCompare u "__eq__" (.ref x)) (fun r s' => r = none ∧ s' = s) E s
  ne : ∀ prog w A E, wpAny (model prog w) A (tryCompare u "__ne__" (.ref x)) (fun r s' => r = none ∧ s' = s) E s
  same : ∀ (M : Model) A E (Q : Bool → Shared → Prop), Q false s → wpAny M A (isSame (.ref x) u) Q E s
  one : ∀ op, oneThing? op (.ref x) u = none
theorem sub_tc {K : PySem.W.Frag} {T : String} {C : Addr} {l : List Value} (h : fastBuiltinMro T = some l) (hl : ∀ v ∈ l, ∃ n, v = Value.type n) : PySem.W.subIn K (.type T) (.ref C) = some false := by
  show (fastBuiltinMro T).map (·.contains (.ref C)) = some false
  rw [h]
  refine congrArg some (Bool.eq_false_iff.mpr fun q => ?_)
  obtain ⟨n, e⟩ := hl _ (List.contains_iff_mem.mp q)
  cases e
theorem tys {l : List String} {v : Value} (h : v ∈ l.map Value.type) : ∃ n, v = Value.type n := by
  obtain ⟨n, _, rfl⟩ := List.mem_map.mp h
  exact ⟨n, rfl⟩
theorem isSame_inst {M : Model} {A : Around} {E : Value → Shared → Prop} {s : Shared} {x p C dx : Addr} {o : Obj} {Q : Bool → Shared → Prop} (h1 : s.heap.get? x = some (PySem.W.instObj C dx)) (h2 : s.heap.get? p = some o) (hc : o.cls ≠ .ref C) (q : Q false s) :
    wpAny M A (isSame (.ref x) (.ref p)) Q E s := by
  have ne : (x == p) = false := Bool.eq_false_iff.mpr fun e => by
    cases eq_of_beq e
    rw [h1] at h2
    cases h2
    exact hc rfl
  unfold isSame
  simp only [ne, Bool.false_eq_true, if_false]
  refine wpAny_bind (wpAny_load h1 (wpAny_bind (wpAny_load h2 ?_)))
  exact wpAny_pure q
theorem Fgn.at {X : Cx} {pins : List (Addr × Obj)} {σ : L2.St} {H : Hp} {s : Shared} {a C dx f : Addr} {fs : List (Str × V)} {v : V} {u : Value} (g : Fgn H v) (I : Inv X pins σ H s) (r : RelV v u) (ea : H a = some (.ins C dx fs)) (c : NeOwn X.K C f) : FgnAt X.K s a C u := by
  obtain ⟨od, J⟩ := inst_of I ea
  have KX := I.kIn
  have pl : (PySem.W.instObj C dx).data = .plain := rfl
  cases g with
  | non =>
    cases r
    exact ⟨⟨"NoneType", rfl, sub_tc (l := ["NoneType", "object"].map Value.type) (by decide +kernel) fun v h => tys h⟩,
      fun prog w A E => wpAny_tryCompare_declines (show s.TypeIs .none "NoneType" from rfl) F.slot_NoneType_eq_refl (call_meets F.slot_NoneType_eq_refl rfl F.entry_NoneType_eq (F.args_NoneType_eq_2 _ _) (decl_eqN a _) ⟨J.at_, pl, rfl, rfl, rfl⟩),
      fun prog w A E => wpAny_tryCompare_declines (show s.TypeIs .none "NoneType" from rfl) F.slot_NoneType_ne_refl (call_meets F.slot_NoneType_ne_refl rfl F.entry_NoneType_ne (F.args_NoneType_ne_2 _ _) (decl_neN a _) ⟨J.at_, pl, rfl, rfl, rfl⟩),
      fun M A E Q q => wpAny_of_eq (rfl : isSame (.ref a) .none = pure false) q, fun op => rfl⟩
  | bl b =>
    cases r
    exact ⟨⟨"bool", rfl, sub_tc (l := ["bool", "int", "object"].map Value.type) (by decide +kernel) fun v h => tys h⟩,
      fun prog w A E => wpAny_tryCompare_declines (show s.TypeIs (.bool b) "bool" from rfl) F.slot_bool_eq_refl (call_meets F.slot_bool_eq_refl rfl F.entry_int_eq (F.args_int_eq_2 _ _) (decl_eqB a _ b) ⟨J.at_, pl, rfl, rfl, rfl⟩),
      fun prog w A E => wpAny_tryCompare_declines (show s.TypeIs (.bool b) "bool" from rfl) F.slot_bool_ne_refl (call_meets F.slot_bool_ne_refl rfl F.entry_int_ne (F.args_int_ne_2 _ _) (decl_neB a _ b) ⟨J.at_, pl, rfl, rfl, rfl⟩),
      fun M A E Q q => wpAny_of_eq (rfl : isSame (.ref a) (.bool b) = pure false) q, fun op => rfl⟩
  | str z =>
    obtain ⟨t, rfl⟩ := r
    exact ⟨⟨"str", typeIs_str _ _ _, sub_tc (l := ["str", "object"].map Value.type) (by decide +kernel) fun v h => tys h⟩,
      fun prog w A E => wpAny_tryCompare_declines (typeIs_str s z t) F.slot_str_eq_refl (call_meets F.slot_str_eq_refl (typeIs_str s z t) F.entry_str_eq (F.args_str_eq_2 _ _) (decl_eqS a _ z t) ⟨J.at_, pl, rfl, rfl, rfl⟩),
      fun prog w A E => wpAny_tryCompare_declines (typeIs_str s z t) F.slot_str_ne_refl (call_meets F.slot_str_ne_refl (typeIs_str s z t) F.entry_str_ne (F.args_str_ne_2 _ _) (decl_neS a _ z t) ⟨J.at_, pl, rfl, rfl, rfl⟩),
      fun M A E Q q => wpAny_of_eq (rfl : isSame (.ref a) (.str z t) = pure false) q, fun op => rfl⟩
  | tup hp =>
    cases r
    rename_i p xs
    obtain ⟨its, rv, ⟨o, ho, hc, _⟩, _⟩ := I.tuple (.of hp)
    have hT : s.TypeIs (.ref p) "tuple" := ⟨o, ho, hc⟩
    exact ⟨⟨"tuple", hT, sub_tc (l := ["tuple", "object"].map Value.type) (by decide +kernel) fun v h => tys h⟩,
      fun prog w A E => wpAny_tryCompare_declines hT F.slot_tuple_eq_refl (wpAny_call (codeAny_call_builtin F.slot_tuple_eq_refl.plain F.entry_tuple_eq (F.slot_tuple_eq_refl.check _ _ _ _ _ _ _ _ hT (F.args_tuple_eq_2 _ _) (shape_go shape_eqT KX J c.tu ⟨rfl, rfl, rfl⟩)))),
      fun prog w A E => wpAny_tryCompare_declines hT F.slot_tuple_ne_refl (wpAny_call (codeAny_call_builtin F.slot_tuple_ne_refl.plain F.entry_tuple_ne (F.slot_tuple_ne_refl.check _ _ _ _ _ _ _ _ hT (F.args_tuple_ne_2 _ _) (shape_go shape_neT KX J c.tu ⟨rfl, rfl, rfl⟩)))),
      fun M A E Q q => isSame_inst J.at_ ho (by rw [hc]; exact fun z => nomatch z) q, fun op => rfl⟩
  | lst hp =>
    cases r
    rename_i p xs
    obtain ⟨its, n, rv, ho, _⟩ := I.lst hp
    have hT : s.TypeIs (.ref p) "list" := ⟨_, ho, rfl⟩
    exact ⟨⟨"list", hT, sub_tc (l := ["list", "object"].map Value.type) (by decide +kernel) fun v h => tys h⟩,
      fun prog w A E => wpAny_tryCompare_declines hT F.slot_list_eq_refl (wpAny_call (codeAny_call_builtin F.slot_list_eq_refl.plain F.entry_list_eq (F.slot_list_eq_refl.check _ _ _ _ _ _ _ _ hT (F.args_list_eq_2 _ _) (shape_go shape_eqL KX J c.li ⟨rfl, rfl, rfl⟩)))),
      fun prog w A E => wpAny_tryCompare_declines hT F.slot_list_ne_refl (wpAny_call (codeAny_call_builtin F.slot_list_ne_refl.plain F.entry_list_ne (F.slot_list_ne_refl.check _ _ _ _ _ _ _ _ hT (F.args_list_ne_2 _ _) (shape_go shape_neL KX J c.li ⟨rfl, rfl, rfl⟩)))),
      fun M A E Q q => isSame_inst J.at_ ho (fun z => nomatch z) q, fun op => rfl⟩

section
variable {X : Cx} {k j : Nat} {E : XK} {sp : SpN} {C f a dx : Addr} {fs : List (Str × V)} {H : Hp} {Q : VK} {v : V}
end
section
variable {X : Cx} {k j : Nat} {E : XK} {sp : Sp} {C f a b dx dy : Addr} {fs gs : List (Str × V)} {H : Hp} {Q : VK} {v : V} {i : Int}
end
end Rs

namespace Rs
open PySem PySem.Spec PyProof.Rows L2 He
section
variable {X : Cx} {σ : L2.St} {H : Hp} {D : Ends} {Q : VK} {x y : Str} {i : Int} {a b c e : Expr} {p pos : Pos}
end
section
variable {X : Cx} {σ : L2.St} {H : Hp} {D : Ends} {k : Nat} {E : L2.St → XK} {x : Str} {px pos : Pos} {a : Expr} {i : Nat} {body : List Stmt}
end
end Rs

namespace Rs
open PySem PySem.Spec PyProof.Rows L2 He
section
variable {X : Cx} {i : Nat} {x : Str} {pn : List (Addr × Obj)} {xe : Value → Shared → Prop} {a : Addr}
end
section
variable {X : Cx} {x n : Str} {c : Value} {i k : Nat} {E : L2.St → XK} {D : Ends} {σ : L2.St} {H : Hp} {body suite : List Stmt} {b₀ : Stmt} {np pos pos' : Pos}
end
section
variable {X : Cx} {a D : Addr} {oe : Obj} {pn : List (Addr × Obj)} {σ : L2.St} {H : Hp} {Q : VK} {e b : Expr} {p pos : Pos}
end
def excCB (K : PySem.W.Frag) (D : Addr) : Bool := decide (PySem.W.findIn K (.ref D) "__getattribute__" = some (some (.builtin "BaseException.__getattribute__"))) && (decide (PySem.W.findIn K (.ref D) "__getattr__" = some none) && (decide (PySem.W.subIn K (.ref D) (.type "BaseException") = some true) && (PySem.W.hasDictIn K D &&
  (decide (PySem.W.findIn K (.ref D) "__class__" = some (some (.builtin "object.__class__"))) && (decide (PySem.W.specialIn K (.builtin "object.__class__") "__get__" = some (some (.builtin "getset_descriptor.__get__"))) && (decide (PySem.W.takesIn K (.builtin "object.__class__") = some true) && decide (PySem.W.mroIn K D (.type "object") = some true)))))))
end Rs

namespace Rs
open PySem PySem.Spec PyProof.Rows L2 He PySem.Calls ClX
section
variable {X : Cx} {σ : L2.St} {H : Hp} {Q : VK} {QA : List V → Hp → Prop} {k j n : Nat} {E : L2.St → XK} {x : Str} {sp : Sp} {p pos kpos : Pos} {e : Expr} {es : List Expr} {kws : List Keyword} {C f : Addr} {fd : FuncData} {ps ks : List Str} {nm : Option Str} {g : List Value → List Value → List Value} {gV : List V → List V → List V}
end
section
variable {X : Cx} {σ : L2.St} {H : Hp} {Q : VK} {k j : Nat} {E : L2.St → XK} {m : Str} {sp : Sp} {pos apos : Pos} {o e : Expr} {es : List Expr} {C p g : Addr}
end
end Rs

namespace Rs
open PySem PySem.Spec PyProof.Rows L2 He
section
variable {P : Program} {w : World} {K : PySem.W.Frag} {mg : Str → Option Value} {base : Heap} {N ps : List Str} {name qual : Str} {pa : Arguments} {body : List Stmt} {sc : Scope} {dvs : List V} {kws : List (Str × V)} {f : Addr} {fd : FuncData} {k : Nat} {sp : Sp}
end
section
variable {X : Cx} {σ : L2.St} {H : Hp} {Q : VK} {k j : Nat} {x : Str} {sp : Sp} {p pos : Pos} {e : Expr} {es : List Expr}
end
end Rs

namespace Rs
open PySem PySem.Spec PyProof.Rows L2 He
section
variable {X : Cx} {σ : L2.St} {k j : Nat} {E : L2.St → XK} {sp : Sp} {C f g a b dx dy : Addr} {fs gs : List (Str × V)} {H : Hp} {Q : VK} {op : Operator} {i : Int} {e1 e2 : Expr} {pos : Pos}
end
end Rs

namespace Rs
open PySem PySem.Spec PyProof.Rows L2 He
section
variable {X : Cx} {s : Shared} {H : Hp} {scope : Scope} {C : Addr} {cl : List (Str × Addr)} {fp : List Addr} {k i : Nat} {E : L2.St → XK} {x : Str}
end
section
variable {X : Cx} {σ : L2.St} {H : Hp} {Q : VK} {D : Ends} {k i n : Nat} {E : L2.St → XK} {x y : Str} {scope : Scope} {elt iter : Expr} {px py pos spos : Pos}
end
end Rs

namespace Rs
open PySem PySem.Spec PyProof.Rows L2 He PySem.Calls
section
variable {prog : Program} {w : World} {A : Around} {E : Value → Shared → Prop} {s : Shared}
end
section
variable {X : Cx} {k i j n m : Nat} {E : L2.St → XK} {x y : Str} {D : Ends} {σ : L2.St} {H : Hp} {body : List Stmt} {e : Expr} {p pos pc px py tp : Pos} {kk : Nat}
end
end Rs

namespace Rs
open PySem PySem.Spec PyProof.Rows L2 He PySem.Calls
/-- t looks names up in the dict at D, then goes on as r -/
def KwTo {α : Type} (D : Addr) : List (Str × Value) → Sem α → Sem α → Prop
  | [], t, r => t = r
  | q :: l, t, r => ∃ (β γ : Type) (k1 : Option Value → Sem β) (k2 : β → Sem γ) (k3 : γ → Sem α) (a : β), (t = ((nsGet D q.1 >>= k1) >>= k2) >>= k3) ∧ k1 (some q.2) = pure a ∧ KwTo D l (k2 a >>= k3) r
theorem KwTo.run {α : Type} {K : PySem.W.Frag} {M : Model} {A : Around} {s : Shared} {D : Addr} {Q : α → Shared → Prop} {E : Value → Shared → Prop} (X : K.In s.heap) :
    ∀ {l : List (Str × Value)} {t r : Sem α}, (∀ q ∈ l, PySem.W.nsIn K D q.1 = some (some q.2)) → KwTo D l t r → wpAny M A r Q E s → wpAny M A t Q E s
  | [], t, r, _, e, h => by
    cases e
    exact h
  | q :: l, t, r, hl, e, h => by
    obtain ⟨β, γ, k1, k2, k3, a, e1, e2, e3⟩ := e
    have l1 : PySem.W.Looks M s.heap (nsGet D q.1 >>= k1) a := (PySem.W.looks_nsIn X (hl q List.mem_cons_self)).andThen (PySem.W.Looks.of_pure e2)
    rw [e1, bind_assoc]
    exact wpAny_bind (l1.here (KwTo.run X (fun p hp => hl p (List.mem_cons_of_mem _ hp)) e3 h))
section
variable {P : Program} {w : World} {K : PySem.W.Frag} {mg : Str → Option Value} {base : Heap} {N ps : List Str} {pv name qual : Str} {pa : Arguments} {body : List Stmt} {sc : Scope} {kws : List (Str × V)} {f : Addr} {fd : FuncData} {k : Nat} {sp : Sp}
end
section
variable {X : Cx} {σ : L2.St} {H : Hp} {Q : VK} {k j : Nat} {E : L2.St → XK} {x : Str} {sp : List V → List V → Hp → VK → XK → Prop} {p pos : Pos} {e : Expr} {es : List Expr} {kws : List Keyword} {C f : Addr} {ks : List Str}
end
structure ExX (S : Addr → Prop) (H H' : Hp) : Prop where
  kp : ∀ a o, ¬ S a → H a = some o → Good H o → H' a = some o
  src : ∀ a l o, ¬ S a → H a = some o → SrcL l o → ∃ o', H' a = some o' ∧ SrcL l o'
  th : ∀ a, H a ≠ none → H' a ≠ none
section
variable {S : Addr → Prop} {H H1 H2 : Hp}
theorem Ex.there (x : Ex H H1) (a : Addr) (h : H a ≠ none) : H1 a ≠ none := fun z => h (x.back z)
theorem Ex.x (x : Ex H H1) : ExX S H H1 := ⟨fun a o _ h g => x.kp a o h g, fun a l o _ h s => x.src a l o h s, x.there⟩
end
end Rs

namespace Rs
open PySem PySem.Spec PyProof.Rows L2 He
section
variable {X : Cx} {σ : L2.St} {H : Hp} {D D' : Ends} {Q : VK} {k j : Nat} {E : L2.St → XK} {m : Str} {sp : Sp} {C : Addr} {c o e : Expr} {a b st : List Stmt} {s1 : Stmt} {pos apos cpos : Pos}
end
end Rs

namespace Rs
open PySem PySem.Spec PyProof.Rows L2 He
end Rs
namespace Rs
open PySem PySem.Spec PyProof.Rows L2 He
section
variable {X : Cx} {x par m qual fld : Str} {p pos pos2 : Pos} {C f : Addr} {j k : Nat} {pa : Arguments} {sc : Scope} {ar : Arg} {p0 p1 p2 p3 p4 p5 p6 p7 p8 p9 : Pos} {E : L2.St → XK} {D : Ends} {σ : L2.St} {H : Hp} {ea : Expr}
end
end Rs
namespace Rs
open PySem PySem.Spec PyProof.Rows L2 He
section
variable {X : Cx} {a D dd : Addr} {oe : Obj} {pn : List (Addr × Obj)} {σ : L2.St} {H : Hp} {Q : VK} {e b : Expr} {p pos : Pos} {n : Str}
end
def isStrAs (z : Str) (v : Value) : Bool := match v with
  | .str file _ => z == file
  | _ => false
end Rs

namespace Rs
open PySem PySem.Spec PyProof.Rows L2 He
section
variable {X : Cx} {pins : List (Addr × Obj)} {D : Ends}
end
section
variable {X : Cx} {body : List Stmt} {h0 : ExceptHandler} {hds : List ExceptHandler} {l : List Clause} {pos : Pos} {tb : WX → TS} {out : WX}
end
section
variable {X : Cx} {k : Nat} {E : L2.St → XK} {D : Ends} {σ : L2.St} {H : Hp} {body : List Stmt} {h0 : ExceptHandler} {hds : List ExceptHandler} {l : List Clause} {pos : Pos}
end
section
variable {X : Cx} {k : Nat} {E : L2.St → XK} {H : Hp} {Q : VK} {v u : V} {d e : PyData}
end
section
variable {X : Cx} {σ : L2.St} {H : Hp} {Q : VK} {a b : Expr} {pos p2 : Pos}
end
end Rs

namespace Rs
open PySem PySem.Spec PyProof.Rows L2 He
def strsAre : List Str → List Value → Bool
  | [], [] => true
  | x :: xs, v :: vs => isStrAs x v && strsAre xs vs
  | _, _ => false
def seqOf (d : Data) : Option (Array Value) := match d with
  | .seq i _ => some i
  | _ => none
def kTupB (K : PySem.W.Frag) (a : Addr) (xs : List Str) : Bool := match K.lookup a with
  | some o => decide (o.cls = .type "tuple") && ((match seqOf o.data with
    | some i => decide (i.size ≤ 100) && strsAre xs i.toList
    | none => false))
  | none => false
section
variable {X : Cx} {k : Nat} {E : L2.St → XK} {σ : L2.St} {H : Hp} {D : Ends} {Q : VK} {o i e value : Expr} {pos pos' p : Pos} {j : Nat} {x : Str}
end
section
variable {ks : List Key} {vs : List V} {k : Key} {v : V} {i : Nat}
end
section
variable {X : Cx} {σ : L2.St}
end
section
variable {X : Cx} {a D : Addr} {oe : Obj} {pn : List (Addr × Obj)} {σ : L2.St} {H : Hp} {Q : VK} {e b : Expr} {p pos : Pos}
end
end Rs

namespace Mt
end Mt

namespace Mt
end Mt

namespace Mt
end Mt

namespace Mt
end Mt

namespace Mt
theorem Sz.int {i : Int} {n : Nat} (h : i.natAbs < 2 ^ n) (h0 : 0 < n) : Sz (i : Rat) n := by
  rw [← int_eq]
  exact Sz.div (by decide) h (Nat.one_lt_two_pow (by omega))
end Mt

namespace Mt
section
variable {α : Type} [Add α] [LT α] [DecidableRel (LT.lt (α := α))]
end
section
variable {α β : Type} [Add α] [LT α] [DecidableRel (LT.lt (α := α))] [Add β] [LT β] [DecidableRel (LT.lt (α := β))]
variable {f : α → β} (ha : ∀ a b, f (a + b) = f a + f b) (hl : ∀ a b, f a < f b ↔ a < b) {z w : α} {d : Bool} {ds : List (Option α)}
end
end Mt

namespace Mt
section
variable {W : Int} {d : Bool} {ds : List (Option Int)}
end
end Mt

namespace Mt
section
variable {u : Rat} {d : Bool} {ds : List (Option Rat)}
end
end Mt

namespace Mt
section
variable {W Y : Int} {d : Bool}
end
end Mt

namespace Rs
open PySem PySem.Spec PyProof.Rows L2 He
open TL (tl len_tl ext_tl tl_append)
section
variable {X : Cx} {σ : L2.St} {H : Hp} {D : Ends} {Q Q' : VK} {k : Nat} {E : L2.St → XK} {x y z : Str} {p px pos pos' apos p2 : Pos} {a b c e o : Expr} {i : Nat} {body : List Stmt}
end
end Rs

namespace Rs
open PySem PySem.Spec PyProof.Rows L2 He
open TL (tl len_tl ext_tl tl_append tl_num numL numL_lt numL_step numL_digits numL_ne numL_free numL_val numL_inj numL_len int_num joinL spl pre spl_hit spl_miss spl_nil split_spl)
end Rs

namespace Rs
open PySem PySem.Spec PyProof.Rows L2 He
open TL (tl len_tl ext_tl tl_append tl_num numL numL_lt numL_step numL_digits numL_ne numL_free numL_val numL_inj numL_len int_num joinL spl pre spl_hit spl_miss spl_nil split_spl)
end Rs

namespace Rs
open PySem PySem.Spec PyProof.Rows L2 He
section
variable {P : Program} {w : World} {K : PySem.W.Frag} {mg : Str → Option Value} {base : Heap} {N ps : List Str} {pv name qual : Str} {pa : Arguments} {body : List Stmt} {sc : Scope} {f : Addr} {fd : FuncData} {k : Nat} {sp : Sp}
end
section
variable {X : Cx} {σ : L2.St} {H : Hp} {Q : VK} {o : Expr} {apos pos : Pos}
end
end Rs
namespace Rs
open PySem PySem.SeqAt
open AutoSeq1 (wpAny_loadPart')
open MeetsSeq MeetsSeq2 MeetsSeq3 SeqRoads2
section
variable {prog : Program} {w : World} {A : Around} {R : Result → Shared → Prop}
end
section
variable {prog : Program} {w : World} {A : Around} {E : Value → Shared → Prop} {s : Shared}
end
end Rs
namespace Rs
open PySem PySem.Spec PyProof.Rows L2 He
section
variable {X : Cx} {n k : Nat} {D : Eqv} {E : L2.St → XK} {H : Hp} {Q : VK}
end
end Rs

namespace Rs
open PySem PySem.Spec PyProof.Rows L2 He
section
variable {X : Cx} {σ : L2.St} {H : Hp} {Q : VK} {D : Ends} {k i n : Nat} {E : L2.St → XK} {x y : Str} {scope : Scope} {elt a : Expr} {px py pos spos pr pc : Pos}
end
end Rs

namespace Mt
open PySem
section
variable {u d : Rat} {b : Bool}
end
end Mt

namespace Rs
open PySem PySem.Spec
section
variable {prog : Program} {w : World} {K : Type} [DecidableEq K] {knd : KeyKind prog w K} {A : Around} {E : Value → Shared → Prop} {s : Shared}
end
end Rs

namespace Rs
open PySem PySem.Spec PyProof.Rows L2 He
section
variable {X : Cx} {pins : List (Addr × Obj)} {σ : L2.St} {H : Hp} {s : Shared} {A : Around} {E : Value → Shared → Prop}
end
section
variable {prog : Program} {w : World} {A : Around} {s : Shared} {E : Value → Shared → Prop}
end
section
variable {M : Model} {A : Around} {E : Value → Shared → Prop} {s : Shared} {f : Value} {first : List Value} {pos : Pos} {Q : Value → Shared → Prop} {P : Heap → Prop} {args : List (Bool × Sem Value)} {kws : List (Option Str × Sem Value)}
end
section
variable {X : Cx} {σ : L2.St} {H : Hp} {Q : VK} {k j : Nat} {E : L2.St → XK} {x : Str} {sp : Sp} {p pos kpos : Pos} {e : Expr} {C : Addr} {ks : List Str} {gV : List V → List V → List V}
end
end Rs

namespace Rs
open PySem PySem.Spec PyProof.Rows L2 He
section
variable {prog : Program} {w : World} {A : Around} {s : Shared} {E : Value → Shared → Prop}
end
section
variable {X : Cx} {σ : L2.St} {H : Hp} {Q : VK} {e1 e2 ek : Expr} {pos : Pos}
end
end Rs

namespace Rs
open PySem PySem.Spec PyProof.Rows L2 He
section
variable {prog : Program} {w : World} {A : Around} {s : Shared} {E : Value → Shared → Prop}
end
section
variable {X : Cx} {σ : L2.St}
end
section
variable {P : Program} {w : World} {K : PySem.W.Frag} {mg : Str → Option Value} {base : Heap} {N ps : List Str} {pd name qual : Str} {pa : Arguments} {body : List Stmt} {sc : Scope} {f : Addr} {fd : FuncData} {k : Nat} {sp : Sp} {ks : List Str}
end
section
variable {X : Cx} {σ : L2.St} {H : Hp} {Q : VK} {k j : Nat} {E : L2.St → XK} {m : Str} {sp : Sp} {pos apos : Pos} {o : Expr} {C : Addr} {ks : List Str} {kws : List Keyword}
end
end Rs

namespace Rs
open PySem PySem.Spec PyProof.Rows L2 He
section
variable {X : Cx} {σ : L2.St} {H : Hp} {D : Ends} {k j : Nat} {E : L2.St → XK} {f : Str} {C p g : Addr} {sp : Sp} {value o : Expr} {pos pos' : Pos}
end
section
variable {X : Cx} {σ : L2.St} {H : Hp} {D : Ends} {k : Nat} {E : L2.St → XK} {x : Str} {px pos p : Pos} {a : Expr} {i : Nat} {body : List Stmt} {Q : VK}
end
end Rs

namespace Rs
open PySem PySem.Spec PyProof.Rows L2 He
section
variable {X : Cx} {k j : Nat} {E : XK} {C f a dx : Addr} {fs : List (Str × V)} {H : Hp} {Q : VK} {v : V}
end
end Rs

namespace Rs
open PySem PySem.Spec PyProof.Rows L2 He
def callCB (K : PySem.W.Frag) (C g : Addr) : Bool := decide (PySem.W.findIn K (.ref C) "__call__" = some (some (.ref g))) && (PySem.W.isFn K (.ref g) && PySem.W.fnIn K g)
section
variable {X : Cx} {σ : L2.St} {H : Hp} {Q : VK} {QA : List V → Hp → Prop} {k j i : Nat} {E : L2.St → XK} {sp : Sp} {p pos px pr pc : Pos} {fe e : Expr} {es : List Expr} {C g : Addr} {x : Str} {scope : Scope} {elt a : Expr}
end
end Rs

namespace Rs
open PySem PySem.Spec PyProof.Rows L2 He
section
variable {X : Cx} {σ : L2.St} {H : Hp} {Q : VK} {k j : Nat} {E : L2.St → XK} {x : Str} {sp : List V → Sp} {p pos : Pos} {e : Expr} {es : List Expr} {C : Addr} {ks : List Str} {kws : List Keyword}
end
end Rs

namespace Mt
end Mt

namespace Mt
section
variable {W U : Int} {d : Bool} {ds : List (Option Int)}
end
end Mt

namespace Rs
open PySem PySem.Spec PyProof.Rows L2 He
section
variable {X : Cx} {k : Nat} {E : L2.St → XK} {σ : L2.St} {H : Hp} {D : Ends} {Q : VK} {a b e : Expr} {es : List Expr} {pos p2 : Pos}
end
end Rs

namespace Gq
open PySem PySem.Spec PyProof.Rows L2 GenW
section
variable {prog : Program} {w : World} {A : Around} {R : GenEnd} {Y : Protocol} {n : Nat} {s₀ : Shared} {c : Code} {fs : List Frame} {s : Shared} {env : Env}
  {K : Flow → Sem PySem.Fin} {H : Value → Sem PySem.Fin} {gd : Bool → Bool} {lv : List Value → List Value}
end
section
variable {X : Cx} {tg iter : Expr} {body : List Stmt} {wi : TI} {g : TG} {tb : TGn} {pos : Pos}
end
end Gq

namespace Rs
open PySem PySem.Spec PyProof.Rows L2 He
section
variable {X : Cx}
variable {σ : L2.St} {H : Hp} {D : GEnds} {ys : List V} {k j : Nat} {E : L2.St → XK} {x : Str} {p pos yp : Pos} {e a : Expr} {st : Stmt} {rest body : List Stmt} {i : Nat}
end
section
variable {P : Program} {w : World} {K : PySem.W.Frag} {mg : Str → Option Value} {base : Heap} {N ps : List Str} {name qual : Str} {pa : Arguments} {body : List Stmt} {sc : Scope} {dvs : List V} {kws : List (Str × V)} {f : Addr} {fd : FuncData} {k : Nat} {sp : SpG}
end
section
variable {X : Cx} {σ : L2.St} {H : Hp} {Q : VK} {k j : Nat} {E : L2.St → XK} {x : Str} {sp : SpG} {p pos p' pos' : Pos} {e : Expr} {es : List Expr}
end
end Rs


namespace Rt
open PySem PySem.Spec PyProof.Rows L2 He Rs Mt
def top (i : Nat) : Stmt := PySem.Challenge.pw_resendtimers_k24_whole_greater_estimates.main.body.getD i (.Pass ⟨0, 0, 0, 0⟩)
abbrev s_is_integer : Stmt := top 13
abbrev s_common : Stmt := top 14
abbrev s_Time___init__ : Stmt := inClass (top 17) 0
abbrev s_Time_top : Stmt := inClass (top 17) 1
abbrev s_Time_bottom : Stmt := inClass (top 17) 2
abbrev s_Time___add__ : Stmt := inClass (top 17) 4
abbrev s_Time___radd__ : Stmt := inClass (top 17) 5
abbrev s_Time___sub__ : Stmt := inClass (top 17) 6
abbrev s_Time___rsub__ : Stmt := inClass (top 17) 7
abbrev s_Time___mul__ : Stmt := inClass (top 17) 8
abbrev s_Time___rmul__ : Stmt := inClass (top 17) 9
abbrev s_Time___neg__ : Stmt := inClass (top 17) 13
abbrev s_Time___abs__ : Stmt := inClass (top 17) 14
abbrev s_Time___eq__ : Stmt := inClass (top 17) 16
abbrev s_Time___lt__ : Stmt := inClass (top 17) 17
abbrev s_Time___le__ : Stmt := inClass (top 17) 18
abbrev s_Time___gt__ : Stmt := inClass (top 17) 19
abbrev s_Time___ge__ : Stmt := inClass (top 17) 20
abbrev s_is_time : Stmt := top 18
abbrev s_time_of : Stmt := top 19
abbrev s_lesser : Stmt := top 20
abbrev s_greater : Stmt := top 21
abbrev s_is_positive : Stmt := top 26
abbrev s_is_latest : Stmt := top 27
abbrev s_is_roof : Stmt := top 28
abbrev s_is_allowed : Stmt := top 29
abbrev s_checked : Stmt := top 30
abbrev s_made_of : Stmt := top 33
abbrev s_Book___init__ : Stmt := inClass (top 36) 0
abbrev s_Book_sample : Stmt := inClass (top 36) 3
abbrev s_Book_share : Stmt := inClass (top 36) 5
abbrev s_Book_latest : Stmt := inClass (top 36) 7
abbrev s_Book_factor : Stmt := inClass (top 36) 9
abbrev s_Book_margin : Stmt := inClass (top 36) 11
abbrev s_Book_floor : Stmt := inClass (top 36) 13
abbrev s_Book_roof : Stmt := inClass (top 36) 15
abbrev s_Book_doubled : Stmt := inClass (top 36) 17
abbrev s_Book_kept : Stmt := inClass (top 36) 19
abbrev s_Book_wait_for : Stmt := inClass (top 36) 22
abbrev s_is_delay : Stmt := top 39
abbrev s_checked_delays : Stmt := top 40
abbrev s_Round___init__ : Stmt := inClass (top 41) 0
abbrev s_Round_play : Stmt := inClass (top 41) 1
abbrev s_Round_await_answer : Stmt := inClass (top 41) 2
abbrev s_Round_sendings : Stmt := inClass (top 41) 3
abbrev s_Round_answer : Stmt := inClass (top 41) 5
abbrev s_Round_needless : Stmt := inClass (top 41) 6
abbrev s_Round_last_wait : Stmt := inClass (top 41) 7
abbrev s_Round_times : Stmt := inClass (top 41) 8
abbrev s_Round_learned : Stmt := inClass (top 41) 9
abbrev s_copied : Stmt := top 44
abbrev s_Sender___init__ : Stmt := inClass (top 45) 0
abbrev s_Sender___call__ : Stmt := inClass (top 45) 1
abbrev s_Sender_learn : Stmt := inClass (top 45) 2
abbrev s_Sender_estimate : Stmt := inClass (top 45) 4
abbrev s_Sender_wait : Stmt := inClass (top 45) 5
abbrev s_Sender_twin : Stmt := inClass (top 45) 9
abbrev s_stepped : Stmt := top 46
abbrev s_in_steady : Stmt := top 47
abbrev s__law_begin : Stmt := top 49
abbrev s__law_draw : Stmt := top 50
abbrev s__law_share : Stmt := top 51
abbrev s__law_factor : Stmt := top 52
abbrev s__law_roof : Stmt := top 53
abbrev s__law_rules : Stmt := top 54
abbrev s__law_pair : Stmt := top 55
abbrev s__law_book : Stmt := top 56
abbrev s__law_towards : Stmt := top 57
abbrev s__law_one : Stmt := top 58
abbrev s_law : Stmt := top 59

section
set_option maxHeartbeats 0
def w_is_integer : DefA := ⟨fun K => ga K "is_integer", "is_integer", "is_integer", defArgs s_is_integer, defBody s_is_integer, defScope s_is_integer, [], [], false⟩
def w_common : DefA := ⟨fun K => ga K "common", "common", "common", defArgs s_common, defBody s_common, defScope s_common, [], [], false⟩
def w_Time___init__ : DefA := ⟨fun K => ma K (ga K "Time") "__init__", "__init__", "Time.__init__", defArgs s_Time___init__, defBody s_Time___init__, defScope s_Time___init__, [.int 1], [], false⟩
def w_Time_top : DefA := ⟨fun K => pgA K (ga K "Time") "top", "top", "Time.top", defArgs s_Time_top, defBody s_Time_top, defScope s_Time_top, [], [], false⟩
def w_Time_bottom : DefA := ⟨fun K => pgA K (ga K "Time") "bottom", "bottom", "Time.bottom", defArgs s_Time_bottom, defBody s_Time_bottom, defScope s_Time_bottom, [], [], false⟩
def w_Time___add__ : DefA := ⟨fun K => ma K (ga K "Time") "__add__", "__add__", "Time.__add__", defArgs s_Time___add__, defBody s_Time___add__, defScope s_Time___add__, [], [], false⟩
def w_Time___radd__ : DefA := ⟨fun K => ma K (ga K "Time") "__radd__", "__radd__", "Time.__radd__", defArgs s_Time___radd__, defBody s_Time___radd__, defScope s_Time___radd__, [], [], false⟩
def w_Time___sub__ : DefA := ⟨fun K => ma K (ga K "Time") "__sub__", "__sub__", "Time.__sub__", defArgs s_Time___sub__, defBody s_Time___sub__, defScope s_Time___sub__, [], [], false⟩
def w_Time___rsub__ : DefA := ⟨fun K => ma K (ga K "Time") "__rsub__", "__rsub__", "Time.__rsub__", defArgs s_Time___rsub__, defBody s_Time___rsub__, defScope s_Time___rsub__, [], [], false⟩
def w_Time___mul__ : DefA := ⟨fun K => ma K (ga K "Time") "__mul__", "__mul__", "Time.__mul__", defArgs s_Time___mul__, defBody s_Time___mul__, defScope s_Time___mul__, [], [], false⟩
def w_Time___rmul__ : DefA := ⟨fun K => ma K (ga K "Time") "__rmul__", "__rmul__", "Time.__rmul__", defArgs s_Time___rmul__, defBody s_Time___rmul__, defScope s_Time___rmul__, [], [], false⟩
def w_Time___neg__ : DefA := ⟨fun K => ma K (ga K "Time") "__neg__", "__neg__", "Time.__neg__", defArgs s_Time___neg__, defBody s_Time___neg__, defScope s_Time___neg__, [], [], false⟩
def w_Time___abs__ : DefA := ⟨fun K => ma K (ga K "Time") "__abs__", "__abs__", "Time.__abs__", defArgs s_Time___abs__, defBody s_Time___abs__, defScope s_Time___abs__, [], [], false⟩
def w_Time___eq__ : DefA := ⟨fun K => ma K (ga K "Time") "__eq__", "__eq__", "Time.__eq__", defArgs s_Time___eq__, defBody s_Time___eq__, defScope s_Time___eq__, [], [], false⟩
def w_Time___lt__ : DefA := ⟨fun K => ma K (ga K "Time") "__lt__", "__lt__", "Time.__lt__", defArgs s_Time___lt__, defBody s_Time___lt__, defScope s_Time___lt__, [], [], false⟩
def w_Time___le__ : DefA := ⟨fun K => ma K (ga K "Time") "__le__", "__le__", "Time.__le__", defArgs s_Time___le__, defBody s_Time___le__, defScope s_Time___le__, [], [], false⟩
def w_Time___gt__ : DefA := ⟨fun K => ma K (ga K "Time") "__gt__", "__gt__", "Time.__gt__", defArgs s_Time___gt__, defBody s_Time___gt__, defScope s_Time___gt__, [], [], false⟩
def w_Time___ge__ : DefA := ⟨fun K => ma K (ga K "Time") "__ge__", "__ge__", "Time.__ge__", defArgs s_Time___ge__, defBody s_Time___ge__, defScope s_Time___ge__, [], [], false⟩
def w_is_time : DefA := ⟨fun K => ga K "is_time", "is_time", "is_time", defArgs s_is_time, defBody s_is_time, defScope s_is_time, [], [], false⟩
def w_time_of : DefA := ⟨fun K => ga K "time_of", "time_of", "time_of", defArgs s_time_of, defBody s_time_of, defScope s_time_of, [], [], false⟩
def w_lesser : DefA := ⟨fun K => ga K "lesser", "lesser", "lesser", defArgs s_lesser, defBody s_lesser, defScope s_lesser, [], [], false⟩
def w_greater : DefA := ⟨fun K => ga K "greater", "greater", "greater", defArgs s_greater, defBody s_greater, defScope s_greater, [], [], false⟩
def w_is_positive : DefA := ⟨fun K => ga K "is_positive", "is_positive", "is_positive", defArgs s_is_positive, defBody s_is_positive, defScope s_is_positive, [], [], false⟩
def w_is_latest : DefA := ⟨fun K => ga K "is_latest", "is_latest", "is_latest", defArgs s_is_latest, defBody s_is_latest, defScope s_is_latest, [], [], false⟩
def w_is_roof : DefA := ⟨fun K => ga K "is_roof", "is_roof", "is_roof", defArgs s_is_roof, defBody s_is_roof, defScope s_is_roof, [], [], false⟩
def w_is_allowed : DefA := ⟨fun K => ga K "is_allowed", "is_allowed", "is_allowed", defArgs s_is_allowed, defBody s_is_allowed, defScope s_is_allowed, [], [], false⟩
def w_checked : DefA := ⟨fun K => ga K "checked", "checked", "checked", defArgs s_checked, defBody s_checked, defScope s_checked, [], [], false⟩
def w_made_of : DefA := ⟨fun K => ga K "made_of", "made_of", "made_of", defArgs s_made_of, defBody s_made_of, defScope s_made_of, [], [], false⟩
def w_Book___init__ : DefA := ⟨fun K => ma K (ga K "Book") "__init__", "__init__", "Book.__init__", defArgs s_Book___init__, defBody s_Book___init__, defScope s_Book___init__, [], [("sample", .str "first"), ("share", .int 1), ("latest", .non), ("factor", .int 1), ("margin", .int 0), ("floor", .non), ("roof", .non), ("doubled", .bl false), ("kept", .bl false)], false⟩
def w_Book_sample : DefA := ⟨fun K => pgA K (ga K "Book") "sample", "sample", "Book.sample", defArgs s_Book_sample, defBody s_Book_sample, defScope s_Book_sample, [], [], false⟩
def w_Book_share : DefA := ⟨fun K => pgA K (ga K "Book") "share", "share", "Book.share", defArgs s_Book_share, defBody s_Book_share, defScope s_Book_share, [], [], false⟩
def w_Book_latest : DefA := ⟨fun K => pgA K (ga K "Book") "latest", "latest", "Book.latest", defArgs s_Book_latest, defBody s_Book_latest, defScope s_Book_latest, [], [], false⟩
def w_Book_factor : DefA := ⟨fun K => pgA K (ga K "Book") "factor", "factor", "Book.factor", defArgs s_Book_factor, defBody s_Book_factor, defScope s_Book_factor, [], [], false⟩
def w_Book_margin : DefA := ⟨fun K => pgA K (ga K "Book") "margin", "margin", "Book.margin", defArgs s_Book_margin, defBody s_Book_margin, defScope s_Book_margin, [], [], false⟩
def w_Book_floor : DefA := ⟨fun K => pgA K (ga K "Book") "floor", "floor", "Book.floor", defArgs s_Book_floor, defBody s_Book_floor, defScope s_Book_floor, [], [], false⟩
def w_Book_roof : DefA := ⟨fun K => pgA K (ga K "Book") "roof", "roof", "Book.roof", defArgs s_Book_roof, defBody s_Book_roof, defScope s_Book_roof, [], [], false⟩
def w_Book_doubled : DefA := ⟨fun K => pgA K (ga K "Book") "doubled", "doubled", "Book.doubled", defArgs s_Book_doubled, defBody s_Book_doubled, defScope s_Book_doubled, [], [], false⟩
def w_Book_kept : DefA := ⟨fun K => pgA K (ga K "Book") "kept", "kept", "Book.kept", defArgs s_Book_kept, defBody s_Book_kept, defScope s_Book_kept, [], [], false⟩
def w_Book_wait_for : DefA := ⟨fun K => ma K (ga K "Book") "wait_for", "wait_for", "Book.wait_for", defArgs s_Book_wait_for, defBody s_Book_wait_for, defScope s_Book_wait_for, [], [], false⟩
def w_is_delay : DefA := ⟨fun K => ga K "is_delay", "is_delay", "is_delay", defArgs s_is_delay, defBody s_is_delay, defScope s_is_delay, [], [], false⟩
def w_checked_delays : DefA := ⟨fun K => ga K "checked_delays", "checked_delays", "checked_delays", defArgs s_checked_delays, defBody s_checked_delays, defScope s_checked_delays, [], [], false⟩
def w_Round___init__ : DefA := ⟨fun K => ma K (ga K "Round") "__init__", "__init__", "Round.__init__", defArgs s_Round___init__, defBody s_Round___init__, defScope s_Round___init__, [], [("doubled", .bl false)], false⟩
def w_Round_play : DefA := ⟨fun K => ma K (ga K "Round") "play", "play", "Round.play", defArgs s_Round_play, defBody s_Round_play, defScope s_Round_play, [], [], false⟩
def w_Round_await_answer : DefA := ⟨fun K => ma K (ga K "Round") "await_answer", "await_answer", "Round.await_answer", defArgs s_Round_await_answer, defBody s_Round_await_answer, defScope s_Round_await_answer, [], [], false⟩
def w_Round_sendings : DefA := ⟨fun K => pgA K (ga K "Round") "sendings", "sendings", "Round.sendings", defArgs s_Round_sendings, defBody s_Round_sendings, defScope s_Round_sendings, [], [], false⟩
def w_Round_answer : DefA := ⟨fun K => pgA K (ga K "Round") "answer", "answer", "Round.answer", defArgs s_Round_answer, defBody s_Round_answer, defScope s_Round_answer, [], [], false⟩
def w_Round_needless : DefA := ⟨fun K => pgA K (ga K "Round") "needless", "needless", "Round.needless", defArgs s_Round_needless, defBody s_Round_needless, defScope s_Round_needless, [], [], false⟩
def w_Round_last_wait : DefA := ⟨fun K => pgA K (ga K "Round") "last_wait", "last_wait", "Round.last_wait", defArgs s_Round_last_wait, defBody s_Round_last_wait, defScope s_Round_last_wait, [], [], false⟩
def w_Round_times : DefA := ⟨fun K => ma K (ga K "Round") "times", "times", "Round.times", defArgs s_Round_times, defBody s_Round_times, defScope s_Round_times, [], [], false⟩
def w_Round_learned : DefA := ⟨fun K => ma K (ga K "Round") "learned", "learned", "Round.learned", defArgs s_Round_learned, defBody s_Round_learned, defScope s_Round_learned, [], [], false⟩
def w_copied : DefA := ⟨fun K => ga K "copied", "copied", "copied", defArgs s_copied, defBody s_copied, defScope s_copied, [], [], false⟩
def w_Sender___init__ : DefA := ⟨fun K => ma K (ga K "Sender") "__init__", "__init__", "Sender.__init__", defArgs s_Sender___init__, defBody s_Sender___init__, defScope s_Sender___init__, [], [], false⟩
def w_Sender___call__ : DefA := ⟨fun K => ma K (ga K "Sender") "__call__", "__call__", "Sender.__call__", defArgs s_Sender___call__, defBody s_Sender___call__, defScope s_Sender___call__, [], [], false⟩
def w_Sender_learn : DefA := ⟨fun K => ma K (ga K "Sender") "learn", "learn", "Sender.learn", defArgs s_Sender_learn, defBody s_Sender_learn, defScope s_Sender_learn, [], [], false⟩
def w_Sender_estimate : DefA := ⟨fun K => pgA K (ga K "Sender") "estimate", "estimate", "Sender.estimate", defArgs s_Sender_estimate, defBody s_Sender_estimate, defScope s_Sender_estimate, [], [], false⟩
def w_Sender_wait : DefA := ⟨fun K => pgA K (ga K "Sender") "wait", "wait", "Sender.wait", defArgs s_Sender_wait, defBody s_Sender_wait, defScope s_Sender_wait, [], [], false⟩
def w_Sender_twin : DefA := ⟨fun K => ma K (ga K "Sender") "twin", "twin", "Sender.twin", defArgs s_Sender_twin, defBody s_Sender_twin, defScope s_Sender_twin, [], [], false⟩
def w_stepped : DefA := ⟨fun K => ga K "stepped", "stepped", "stepped", defArgs s_stepped, defBody s_stepped, defScope s_stepped, [], [], false⟩
def w_in_steady : DefA := ⟨fun K => ga K "in_steady", "in_steady", "in_steady", defArgs s_in_steady, defBody s_in_steady, defScope s_in_steady, [], [], false⟩
def w__law_begin : DefA := ⟨fun K => ga K "_law_begin", "_law_begin", "_law_begin", defArgs s__law_begin, defBody s__law_begin, defScope s__law_begin, [], [], false⟩
def w__law_draw : DefA := ⟨fun K => ga K "_law_draw", "_law_draw", "_law_draw", defArgs s__law_draw, defBody s__law_draw, defScope s__law_draw, [], [], false⟩
def w__law_share : DefA := ⟨fun K => ga K "_law_share", "_law_share", "_law_share", defArgs s__law_share, defBody s__law_share, defScope s__law_share, [], [], false⟩
def w__law_factor : DefA := ⟨fun K => ga K "_law_factor", "_law_factor", "_law_factor", defArgs s__law_factor, defBody s__law_factor, defScope s__law_factor, [], [], false⟩
def w__law_roof : DefA := ⟨fun K => ga K "_law_roof", "_law_roof", "_law_roof", defArgs s__law_roof, defBody s__law_roof, defScope s__law_roof, [], [], false⟩
def w__law_rules : DefA := ⟨fun K => ga K "_law_rules", "_law_rules", "_law_rules", defArgs s__law_rules, defBody s__law_rules, defScope s__law_rules, [], [], false⟩
def w__law_pair : DefA := ⟨fun K => ga K "_law_pair", "_law_pair", "_law_pair", defArgs s__law_pair, defBody s__law_pair, defScope s__law_pair, [], [], false⟩
def w__law_book : DefA := ⟨fun K => ga K "_law_book", "_law_book", "_law_book", defArgs s__law_book, defBody s__law_book, defScope s__law_book, [], [], false⟩
def w__law_towards : DefA := ⟨fun K => ga K "_law_towards", "_law_towards", "_law_towards", defArgs s__law_towards, defBody s__law_towards, defScope s__law_towards, [], [], false⟩
def w__law_one : DefA := ⟨fun K => ga K "_law_one", "_law_one", "_law_one", defArgs s__law_one, defBody s__law_one, defScope s__law_one, [], [], false⟩
def w_law : DefA := ⟨fun K => ga K "law", "law", "law", defArgs s_law, defBody s_law, defScope s_law, [], [], false⟩
def fn1 : List DefA := [w_is_integer, w_common, w_Time___init__, w_Time_top, w_Time_bottom, w_Time___add__, w_Time___radd__, w_Time___sub__, w_Time___rsub__, w_Time___mul__, w_Time___rmul__, w_Time___neg__, w_Time___abs__, w_Time___eq__, w_Time___lt__, w_Time___le__, w_Time___gt__, w_Time___ge__, w_is_time, w_time_of, w_lesser, w_greater, w_is_positive, w_is_latest, w_is_roof, w_is_allowed, w_checked, w_made_of, w_Book___init__, w_Book_sample, w_Book_share, w_Book_latest, w_Book_factor, w_Book_margin, w_Book_floor, w_Book_roof, w_Book_doubled, w_Book_kept, w_Book_wait_for, w_is_delay, w_checked_delays, w_Round___init__, w_Round_play, w_Round_await_answer, w_Round_sendings, w_Round_answer, w_Round_needless, w_Round_last_wait, w_Round_times, w_Round_learned, w_copied, w_Sender___init__, w_Sender___call__, w_Sender_learn, w_Sender_estimate, w_Sender_wait, w_Sender_twin, w_stepped, w_in_steady, w__law_begin, w__law_draw, w__law_share, w__law_factor, w__law_roof, w__law_rules, w__law_pair, w__law_book, w__law_towards, w__law_one, w_law]
def ψ1 : List (PySem.W.Frag → Bool) := [
  fun K => excCB K (ga K "ResendError"),
  fun K => excCB K (ga K "NoTime"),
  fun K => excPlainB K (ga K "NoTime"),
  fun K => excCB K (ga K "NoText"),
  fun K => excCB K (ga K "BadBook"),
  fun K => excCB K (ga K "NoDelay"),
  fun K => excCB K (ga K "NoCount"),
  fun K => excPlainB K (ga K "NoCount"),
  fun K => excCB K (ga K "TooMany"),
  fun K => isCB K "Time",
  fun K => kitCB K (ga K "Time"),
  fun K => (Fa.mkr "Time").ok K,
  fun K => (Fa.noat "Time" "over_line").ok K,
  fun K => (Fa.noat "Time" "under_line").ok K,
  fun K => decide (PySem.W.subIn K (.ref (ga K "Time")) (.type "NoneType") = some false),
  fun K => neOwnB K (ga K "Time") (ma K (ga K "Time") "__eq__"),
  fun K => absOwnB K (ga K "Time") (ma K (ga K "Time") "__abs__"),
  fun K => binOwnB K (ga K "Time") (ma K (ga K "Time") "__add__") .Add,
  fun K => noInplB K (ga K "Time") .Add,
  fun K => cmpOwnB K (ga K "Time") (ma K (ga K "Time") "__eq__") .Eq,
  fun K => cmpRefB K (ga K "Time") (ma K (ga K "Time") "__eq__") .Eq,
  fun K => binOwnB K (ga K "Time") (ma K (ga K "Time") "__floordiv__") .FloorDiv,
  fun K => cmpOwnB K (ga K "Time") (ma K (ga K "Time") "__ge__") .GtE,
  fun K => cmpRefB K (ga K "Time") (ma K (ga K "Time") "__ge__") .LtE,
  fun K => cmpOwnB K (ga K "Time") (ma K (ga K "Time") "__gt__") .Gt,
  fun K => cmpRefB K (ga K "Time") (ma K (ga K "Time") "__gt__") .Lt,
  fun K => cmpOwnB K (ga K "Time") (ma K (ga K "Time") "__le__") .LtE,
  fun K => cmpRefB K (ga K "Time") (ma K (ga K "Time") "__le__") .GtE,
  fun K => cmpOwnB K (ga K "Time") (ma K (ga K "Time") "__lt__") .Lt,
  fun K => cmpRefB K (ga K "Time") (ma K (ga K "Time") "__lt__") .Gt,
  fun K => binOwnB K (ga K "Time") (ma K (ga K "Time") "__mul__") .Mult,
  fun K => noInplB K (ga K "Time") .Mult,
  fun K => negOwnB K (ga K "Time") (ma K (ga K "Time") "__neg__"),
  fun K => binOwnB K (ga K "Time") (ma K (ga K "Time") "__pow__") .Pow,
  fun K => binRefB K (ga K "Time") (ma K (ga K "Time") "__add__") (ma K (ga K "Time") "__radd__") .Add,
  fun K => binRefB K (ga K "Time") (ma K (ga K "Time") "__floordiv__") (ma K (ga K "Time") "__rfloordiv__") .FloorDiv,
  fun K => binRefB K (ga K "Time") (ma K (ga K "Time") "__mul__") (ma K (ga K "Time") "__rmul__") .Mult,
  fun K => binRefB K (ga K "Time") (ma K (ga K "Time") "__sub__") (ma K (ga K "Time") "__rsub__") .Sub,
  fun K => binOwnB K (ga K "Time") (ma K (ga K "Time") "__sub__") .Sub,
  fun K => noInplB K (ga K "Time") .Sub,
  fun K => propB K (ga K "Time") "bottom",
  fun K => (Fa.meth "Time" "over").ok K,
  fun K => (Fa.meth "Time" "power").ok K,
  fun K => propB K (ga K "Time") "top",
  fun K => isCB K "Book",
  fun K => kitCB K (ga K "Book"),
  fun K => (Fa.mkr "Book").ok K,
  fun K => (Fa.noat "Book" "rules").ok K,
  fun K => decide (PySem.W.subIn K (.ref (ga K "Book")) (.type "NoneType") = some false),
  fun K => neOwnB K (ga K "Book") (ma K (ga K "Book") "__eq__"),
  fun K => propB K (ga K "Book") "doubled",
  fun K => propB K (ga K "Book") "factor",
  fun K => propB K (ga K "Book") "floor",
  fun K => propB K (ga K "Book") "kept",
  fun K => propB K (ga K "Book") "latest",
  fun K => propB K (ga K "Book") "margin",
  fun K => (Fa.meth "Book" "put_part").ok K,
  fun K => propB K (ga K "Book") "roof",
  fun K => propB K (ga K "Book") "sample",
  fun K => propB K (ga K "Book") "share",
  fun K => (Fa.meth "Book" "wait_for").ok K,
  fun K => isCB K "Round",
  fun K => kitCB K (ga K "Round"),
  fun K => (Fa.mkr "Round").ok K,
  fun K => (Fa.noat "Round" "kept_starts").ok K,
  fun K => (Fa.noat "Round" "kept_needless").ok K,
  fun K => (Fa.noat "Round" "kept_answered").ok K,
  fun K => (Fa.noat "Round" "kept_answer").ok K,
  fun K => (Fa.noat "Round" "kept_delay").ok K,
  fun K => (Fa.noat "Round" "kept_last").ok K,
  fun K => propB K (ga K "Round") "answer",
  fun K => (Fa.meth "Round" "await_answer").ok K,
  fun K => propB K (ga K "Round") "last_wait",
  fun K => (Fa.meth "Round" "learned").ok K,
  fun K => propB K (ga K "Round") "needless",
  fun K => (Fa.meth "Round" "play").ok K,
  fun K => propB K (ga K "Round") "sendings",
  fun K => (Fa.meth "Round" "times").ok K,
  fun K => isCB K "Sender",
  fun K => kitCB K (ga K "Sender"),
  fun K => (Fa.mkr "Sender").ok K,
  fun K => (Fa.noat "Sender" "held_wait").ok K,
  fun K => (Fa.noat "Sender" "held_book").ok K,
  fun K => (Fa.noat "Sender" "held_estimate").ok K,
  fun K => (Fa.noat "Sender" "held_samples").ok K,
  fun K => (Fa.noat "Sender" "held_rounds").ok K,
  fun K => (Fa.noat "Sender" "held_needless").ok K,
  fun K => callCB K (ga K "Sender") (ma K (ga K "Sender") "__call__"),
  fun K => propB K (ga K "Sender") "estimate",
  fun K => (Fa.meth "Sender" "learn").ok K,
  fun K => propB K (ga K "Sender") "needless",
  fun K => propB K (ga K "Sender") "rounds",
  fun K => (Fa.meth "Sender" "samples").ok K,
  fun K => (Fa.meth "Sender" "twin").ok K,
  fun K => propB K (ga K "Sender") "wait",
  fun K => (Fa.int "MOST_FIGURES" 60).ok K,
  fun K => (Fa.str "FIGURES" "0123456789").ok K,
  fun K => (Fa.glo "is_integer").ok K,
  fun K => (Fa.glo "NoTime").ok K,
  fun K => (Fa.glo "common").ok K,
  fun K => (Fa.glo "is_time").ok K,
  fun K => (Fa.glo "time_of").ok K,
  fun K => (Fa.glo "Time").ok K,
  fun K => (Fa.int "MOST_POWER" 10000).ok K,
  fun K => (Fa.glo "raised").ok K,
  fun K => (Fa.glo "NoText").ok K,
  fun K => (Fa.glo "read_count").ok K,
  fun K => (Fa.int "MOST_LATEST" 20).ok K,
  fun K => (Fa.glo "is_positive").ok K,
  fun K => (Fa.glo "SAMPLES").ok K,
  fun K => kTupB K (ga K "SAMPLES") ["first", "last", "marked", "clean"],
  fun K => (Fa.glo "is_latest").ok K,
  fun K => (Fa.glo "is_roof").ok K,
  fun K => (Fa.glo "PARTS").ok K,
  fun K => kTupB K (ga K "PARTS") ["sample", "share", "latest", "factor", "margin", "floor", "roof", "doubled", "kept"],
  fun K => (Fa.glo "is_allowed").ok K,
  fun K => (Fa.glo "BadBook").ok K,
  fun K => (Fa.glo "greater").ok K,
  fun K => (Fa.glo "lesser").ok K,
  fun K => (Fa.glo "checked").ok K,
  fun K => (Fa.glo "word_of").ok K,
  fun K => (Fa.glo "made_of").ok K,
  fun K => (Fa.glo "Book").ok K,
  fun K => (Fa.glo "bends").ok K,
  fun K => (Fa.glo "last_rise").ok K,
  fun K => (Fa.glo "part_of").ok K,
  fun K => (Fa.glo "NoDelay").ok K,
  fun K => (Fa.glo "is_delay").ok K,
  fun K => (Fa.glo "checked_delays").ok K,
  fun K => (Fa.int "MOST_SENDINGS" 1000).ok K,
  fun K => (Fa.glo "TooMany").ok K,
  fun K => (Fa.glo "copied").ok K,
  fun K => (Fa.glo "Round").ok K,
  fun K => (Fa.glo "Sender").ok K,
  fun K => (Fa.int "MOST_ROUNDS" 2000).ok K,
  fun K => (Fa.glo "NoCount").ok K,
  fun K => (Fa.glo "stepped").ok K,
  fun K => (Fa.glo "_law_draw").ok K,
  fun K => (Fa.glo "_law_share").ok K,
  fun K => (Fa.glo "_law_factor").ok K,
  fun K => (Fa.glo "_law_roof").ok K,
  fun K => (Fa.glo "_law_pair").ok K,
  fun K => (Fa.glo "_law_towards").ok K,
  fun K => (Fa.glo "_law_begin").ok K,
  fun K => (Fa.glo "_law_rules").ok K,
  fun K => (Fa.glo "_law_book").ok K,
  fun K => (Fa.glo "in_steady").ok K,
  fun K => (Fa.glo "_law_one").ok K,
  fun K => (Fa.glo "law").ok K,
  fun K => (Fa.free "isinstance").ok K,
  fun K => (Fa.free "int").ok K,
  fun K => (Fa.free "bool").ok K,
  fun K => (Fa.free "abs").ok K,
  fun K => (Fa.free "len").ok K,
  fun K => (Fa.free "str").ok K,
  fun K => (Fa.free "NotImplemented").ok K,
  fun K => (Fa.free "dict").ok K,
  fun K => (Fa.free "range").ok K,
  fun K => (Fa.free "all").ok K,
  fun K => (Fa.free "zip").ok K,
  fun K => (Fa.free "enumerate").ok K,
  fun K => (Fa.free "list").ok K]
def fn : List DefA := fn1
def ψ : List (PySem.W.Frag → Bool) := ψ1
abbrev R : PySem.W.OpenRow := PySem.W.OpenLaw.row PySem.Challenge.rw_resendtimers_k24_whole_greater_estimates
def loose : List Str := [("_wall" : Str), ("__name__" : Str), ("ResendError" : Str), ("NoTime" : Str), ("NoText" : Str), ("BadBook" : Str), ("NoDelay" : Str), ("NoCount" : Str), ("TooMany" : Str), ("MOST_FIGURES" : Str), ("MOST_POWER" : Str), ("FIGURES" : Str), ("is_integer" : Str), ("common" : Str), ("raised" : Str), ("read_count" : Str), ("Time" : Str), ("is_time" : Str), ("time_of" : Str), ("lesser" : Str), ("greater" : Str), ("PARTS" : Str), ("SAMPLES" : Str), ("MOST_LATEST" : Str), ("is_positive" : Str), ("is_latest" : Str), ("is_roof" : Str), ("is_allowed" : Str), ("checked" : Str), ("word_of" : Str), ("part_of" : Str), ("made_of" : Str), ("bends" : Str), ("last_rise" : Str), ("Book" : Str), ("MOST_SENDINGS" : Str), ("is_delay" : Str), ("checked_delays" : Str), ("Round" : Str), ("MOST_ROUNDS" : Str), ("copied" : Str), ("Sender" : Str), ("stepped" : Str), ("in_steady" : Str), ("_law_begin" : Str), ("_law_draw" : Str), ("_law_share" : Str), ("_law_factor" : Str), ("_law_roof" : Str), ("_law_rules" : Str), ("_law_pair" : Str), ("_law_book" : Str), ("_law_towards" : Str), ("_law_one" : Str)]
theorem run1 (w : World) : HandSHeadRun.RunEq R (PySem.W.view R.prog [59]) (hookX 6 ψ1 fn1) (obX 6 ψ1 fn1) 20000 loose w := by
  intro os
  kernel_rfl
theorem run (w : World) : HandSHeadRun.RunEq R (PySem.W.view R.prog [59]) (hookX 6 ψ fn) (obX 6 ψ fn) 20000 loose w := run1 w

end
end Rt
/-! A walk straight over the text: each construct by its rule, the values typed by facts about them. -/
namespace Rs
open PySem PySem.Spec PyProof.Rows L2

/-! ### the text itself as its own reading -/
section
variable {X : Cx}
def WE (X : Cx) (e : Expr) : TE := fun σ H Q => ∀ pins s, Inv X pins σ H s → wpAny (model X.prog X.w) X.A (eval e X.env) (EP X pins σ Q) X.xe s
def WT (X : Cx) (e : Expr) : TT := fun σ H Q => ∀ pins s, Inv X pins σ H s → wpAny (model X.prog X.w) X.A (isTrue e X.env (eval e X.env)) (TP X pins σ Q) X.xe s
def WW (X : Cx) (e : Expr) : TT := fun σ H Q => ∀ whole pins s, Inv X pins σ H s → wpAny (model X.prog X.w) X.A (isTrue e X.env whole) (TP X pins σ Q) X.xe s
def WA (X : Cx) (es : List Expr) : TA := fun σ H Q => ∀ pos pins s, Inv X pins σ H s → wpAny (model X.prog X.w) X.A (spliced (backTo pos (starEach es X.env))) (AP X pins σ Q) X.xe s
def WS (X : Cx) (st : Stmt) : TS := fun D σ H => ∀ pins s, Inv X pins σ H s → wpAny (model X.prog X.w) X.A (exec st X.env) (SP X pins D) X.xe s
def WB (X : Cx) (st : List Stmt) : TS := fun D σ H => ∀ pins s, Inv X pins σ H s → wpAny (model X.prog X.w) X.A (execs st X.env) (SP X pins D) X.xe s
theorem peS {e : Expr} : PE X e (WE X e) := ⟨fun pins s _ _ _ I h => h pins s I⟩
theorem ptS {e : Expr} : PT X e (WT X e) := ⟨fun pins s _ _ _ I h => h pins s I⟩
theorem pwS {e : Expr} : PW X e (WW X e) := ⟨fun whole pins s _ _ _ I h => h whole pins s I⟩
theorem paS {es : List Expr} : PA X es (WA X es) := ⟨fun pos pins s _ _ _ I h => h pos pins s I⟩
theorem psS {st : Stmt} : PS X st (WS X st) := ⟨fun pins s _ _ _ I h => h pins s I⟩
theorem pbS {st : List Stmt} : PSs X st (WB X st) := ⟨fun pins s _ _ _ I h => h pins s I⟩
variable {σ : L2.St} {H : Hp} {D : Ends} {Q : VK} {QT : Bool → Hp → Prop} {QA : List V → Hp → Prop}
theorem weP {e : Expr} {t : TE} (p : PE X e t) (h : t σ H Q) : WE X e σ H Q := fun pins s I => p.run pins s σ H Q I h
theorem wtP {e : Expr} {t : TT} (p : PT X e t) (h : t σ H QT) : WT X e σ H QT := fun pins s I => p.run pins s σ H QT I h
theorem wwP {e : Expr} {t : TT} (p : PW X e t) (h : t σ H QT) : WW X e σ H QT := fun whole pins s I => p.run whole pins s σ H QT I h
theorem waP {es : List Expr} {t : TA} (p : PA X es t) (h : t σ H QA) : WA X es σ H QA := fun pos pins s I => p.run pos pins s σ H QA I h
theorem wsP {st : Stmt} {t : TS} (p : PS X st t) (h : t D σ H) : WS X st D σ H := fun pins s I => p.run pins s σ H D I h
theorem wbP {st : List Stmt} {t : TS} (p : PSs X st t) (h : t D σ H) : WB X st D σ H := fun pins s I => p.run pins s σ H D I h

/-! ### names -/
/-- slot i of the running body is the name x, its own -/
structure Sl (X : Cx) (i : Nat) (x : Str) : Prop where
  at_ : X.N[i]? = some x
  nd : X.N.Nodup
  loc : Loc X.env.scope x
  fn : X.fn x = true ∨ X.env.scope.names.lookup x = some .local
  d1 : (x == ("__debug__" : Str)) = false
  d2 : (x == ("__classdict__" : Str)) = false
/-- x is a name of the module or a built-in one here -/
structure Gn (X : Cx) (x : Str) : Prop where
  gl : Gl X x
  d1 : (x == ("__debug__" : Str)) = false
/-- .. and a built-in one -/
structure Bn (X : Cx) (x : Str) : Prop where
  gl : Gl X x
  no : X.mg x = none
theorem we_name {i : Nat} {x : Str} {v : V} {pos : Pos} (n : Sl X i x) (h : σ[i]? = some (some v)) (q : Q v H) : WE X (.Name x pos) σ H Q :=
  weP (pe_var n.at_ (n.loc.elim .inl fun z => .inr (.inl z)) n.d1 n.d2) ⟨v, h, q⟩
theorem we_int {i : Int} {j : Nat} {pos : Pos} (q : Q (.int i) H) : WE X (.Constant (.int i) j pos) σ H Q := weP pe_int q
theorem we_str {x : Str} {j : Nat} {pos : Pos} (q : Q (.str x) H) : WE X (.Constant (.str x) j pos) σ H Q := weP pe_str q
theorem we_bool {b : Bool} {j : Nat} {pos : Pos} (q : Q (.bl b) H) : WE X (.Constant (.bool b) j pos) σ H Q := weP pe_bl q
theorem we_none {j : Nat} {pos : Pos} (q : Q .non H) : WE X (.Constant .none j pos) σ H Q := weP pe_non q
/-- a module's constant -/
theorem we_glob {x : Str} {v : V} {u : Value} {pos : Pos} (g : Gn X x) (hm : X.mg x = some u) (r : RelV v u) (q : Q v H) : WE X (.Name x pos) σ H Q := weP (pe_glob g.gl hm r g.d1) q

/-! ### operators: what the value of one is, by the values of its sides -/
def Op2 (X : Cx) (f : Value → Value → Sem Value) (x y : V) (H : Hp) (Q : VK) : Prop := ∀ pins s σ u v, Inv X pins σ H s → RelV x u → RelV y v → wpAny (model X.prog X.w) X.A (f u v) (EP X pins σ Q) X.xe s
def Op1 (X : Cx) (f : Value → Sem Value) (x : V) (H : Hp) (Q : VK) : Prop := ∀ pins s σ u, Inv X pins σ H s → RelV x u → wpAny (model X.prog X.w) X.A (f u) (EP X pins σ Q) X.xe s
def CallV (X : Cx) (f : Value) (xs : List V) (H : Hp) (Q : VK) : Prop := ∀ pins s σ us, Inv X pins σ H s → Vals xs us → wpAny (model X.prog X.w) X.A (call f us) (EP X pins σ Q) X.xe s
theorem op2R {f : Value → Value → Sem Value} : OpR X f (Op2 X f) := fun pins s σ _ _ _ u v _ I rx ry h => h pins s σ u v I rx ry
theorem op2_of {f : Value → Value → Sem Value} {r : R2} {x y : V} (o : OpR X f r) (h : r x y H Q) : Op2 X f x y H Q := fun pins s σ u v I rx ry => o pins s σ H x y u v Q I rx ry h
theorem op1R {f : Value → Sem Value} : UnR X f (Op1 X f) := fun pins s σ _ _ u _ I rx h => h pins s σ u I rx
theorem op1_of {f : Value → Sem Value} {r : V → Hp → VK → Prop} {x : V} (o : UnR X f r) (h : r x H Q) : Op1 X f x H Q := fun pins s σ u I rx => o pins s σ H x u Q I rx h
theorem we_bin {op : Operator} {a b : Expr} {pos : Pos} (h : WE X a σ H fun x H1 => WE X b σ H1 fun y H2 => Op2 X (binaryOp op) x y H2 Q) : WE X (.BinOp a op b pos) σ H Q := weP (pe_op op2R peS peS) h
theorem we_un {op : UnaryOp} {a : Expr} {pos : Pos} (h : WE X a σ H fun x H1 => Op1 X (unaryOp op) x H1 Q) : WE X (.UnaryOp op a pos) σ H Q := weP (pe_un op1R peS) h
theorem we_cmp {op : CmpOp} {a b : Expr} {pos : Pos} (h : WE X a σ H fun x H1 => WE X b σ H1 fun y H2 => Op2 X (compareOp op) x y H2 Q) (hm : behindInMarks op b = false := by first | exact nomark _ | rfl) : WE X (.Compare a [op] [b] pos) σ H Q :=
  weP (pe_cmpR op2R peS peS hm) h
theorem wt_cmp {op : CmpOp} {a b : Expr} {pos : Pos} (h : WE X a σ H fun x H1 => WE X b σ H1 fun y H2 => Op2 X (compareOp op) x y H2 fun z H3 => ∃ k, z = .bl k ∧ QT k H3) (hm : behindInMarks op b = false := by first | exact nomark _ | rfl) :
    WT X (.Compare a [op] [b] pos) σ H QT := wtP (pt_cmpR op2R peS peS hm) h
theorem we_chain {op op' : CmpOp} {a b c : Expr} {pos : Pos} (h : WE X a σ H fun x H1 => WE X b σ H1 fun y H2 => Op2 X (compareOp op) x y H2 fun z H3 => ∃ k, z = .bl k ∧ if k = true then WE X c σ H3 fun w H4 => Op2 X (compareOp op') y w H4 Q else Q (.bl false) H3)
    (h1 : lastMarks [op, op'] [b, c] = false := by rfl) : WE X (.Compare a [op, op'] [b, c] pos) σ H Q := weP (pe_chain op2R op2R peS peS peS h1) h
theorem wt_chain {op op' : CmpOp} {a b c : Expr} {pos : Pos} (h : WE X a σ H fun x H1 => WE X b σ H1 fun y H2 => Op2 X (compareOp op) x y H2 fun z H3 => ∃ k, z = .bl k ∧ if k = true then WE X c σ H3 fun w H4 => Op2 X (compareOp op') y w H4 fun z2 H5 => ∃ k, z2 = .bl k ∧ QT k H5 else ∃ k2, V.bl false = .bl k2 ∧ QT k2 H3)
    (h1 : lastMarks [op, op'] [b, c] = false := by rfl) : WT X (.Compare a [op, op'] [b, c] pos) σ H QT := wtP (pt_chain op2R op2R peS peS peS h1) h

/-! ### tests -/
theorem wt_and2 {a b : Expr} {pos : Pos} (h : WT X a σ H fun k H1 => if k = true then WT X b σ H1 QT else QT false H1) : WT X (.BoolOp .And [a, b] pos) σ H QT := wtP (PW.pt (pw_and ptS (pw_and1 ptS))) h
theorem wt_and3 {a b c : Expr} {pos : Pos} (h : WT X a σ H fun k H1 => if k = true then WT X b σ H1 fun k2 H2 => if k2 = true then WT X c σ H2 QT else QT false H2 else QT false H1) : WT X (.BoolOp .And [a, b, c] pos) σ H QT :=
  wtP (PW.pt (pw_and ptS (pw_and ptS (pw_and1 ptS)))) h
theorem wt_or2 {a b : Expr} {pos : Pos} (h : WT X a σ H fun k H1 => if k = true then QT true H1 else WT X b σ H1 QT) : WT X (.BoolOp .Or [a, b] pos) σ H QT := wtP (PW.pt (pw_or ptS (pw_or1 ptS))) h
theorem wt_or3 {a b c : Expr} {pos : Pos} (h : WT X a σ H fun k H1 => if k = true then QT true H1 else WT X b σ H1 fun k2 H2 => if k2 = true then QT true H2 else WT X c σ H2 QT) : WT X (.BoolOp .Or [a, b, c] pos) σ H QT :=
  wtP (PW.pt (pw_or ptS (pw_or ptS (pw_or1 ptS)))) h
theorem wt_or4 {a b c d : Expr} {pos : Pos} (h : WT X a σ H fun k H1 => if k = true then QT true H1 else WT X b σ H1 fun k2 H2 => if k2 = true then QT true H2 else WT X c σ H2 fun k3 H3 => if k3 = true then QT true H3 else WT X d σ H3 QT) :
    WT X (.BoolOp .Or [a, b, c, d] pos) σ H QT := wtP (PW.pt (pw_or ptS (pw_or ptS (pw_or ptS (pw_or1 ptS))))) h
theorem wt_not {a : Expr} {pos : Pos} (h : WT X a σ H fun k H1 => QT (!k) H1) : WT X (.UnaryOp .Not a pos) σ H QT := wtP (pt_not ptS) h
/-- a test that is a value's truth, the value True or False -/
theorem wt_val {e : Expr} (h : WE X e σ H fun v H1 => ∃ k, v = .bl k ∧ QT k H1) (he : ∀ whole, isTrue e X.env whole = (do let v ← whole; standAt e.pos; holding [v] (truthy v)) := by intro _; rfl) : WT X e σ H QT := wtP (pt_val peS he) h
/-- .. any value -/
theorem wt_truth {e : Expr} (h : WE X e σ H fun v H1 => ∃ k, TruV X.K v H1 k ∧ QT k H1) (he : ∀ whole, isTrue e X.env whole = (do let v ← whole; standAt e.pos; holding [v] (truthy v)) := by intro _; rfl) : WT X e σ H QT := wtP (pt_truth peS he) h
theorem we_and2 {a b : Expr} {pos : Pos} (h : WE X a σ H fun x H1 => ∃ c, x = .bl c ∧ if c = true then WE X b σ H1 Q else Q (.bl false) H1) : WE X (.BoolOp .And [a, b] pos) σ H Q := weP (pe_and peS (pe_one peS)) h
theorem we_and3 {a b c : Expr} {pos : Pos} (h : WE X a σ H fun x H1 => ∃ k, x = .bl k ∧ if k = true then WE X b σ H1 fun y H2 => ∃ k2, y = .bl k2 ∧ if k2 = true then WE X c σ H2 Q else Q (.bl false) H2 else Q (.bl false) H1) :
    WE X (.BoolOp .And [a, b, c] pos) σ H Q := weP (pe_and peS (pe_and peS (pe_one peS))) h
theorem we_or2 {a b : Expr} {pos : Pos} (h : WE X a σ H fun x H1 => ∃ c, x = .bl c ∧ if c = true then Q (.bl true) H1 else WE X b σ H1 Q) : WE X (.BoolOp .Or [a, b] pos) σ H Q := weP (pe_or peS (pe_one peS)) h
theorem we_not {a : Expr} {pos : Pos} (h : WE X a σ H fun x H1 => ∃ c, x = .bl c ∧ Q (.bl (!c)) H1) : WE X (.UnaryOp .Not a pos) σ H Q := weP (pe_not peS) h
theorem we_if {c a b : Expr} {pos : Pos} (h : WT X c σ H fun k H1 => if k = true then WE X a σ H1 Q else WE X b σ H1 Q) : WE X (.IfExp c a b pos) σ H Q := weP (pe_ifExp ptS peS peS) h

/-! ### arguments, tuples, lists -/
theorem wa_nil (q : QA [] H) : WA X [] σ H QA := waP pa_nil q
theorem wa_cons {e : Expr} {es : List Expr} (h : WE X e σ H fun x H1 => WA X es σ H1 fun xs H2 => QA (x :: xs) H2) (hs : starEach (e :: es) X.env = (false, eval e X.env) :: starEach es X.env := by rfl) : WA X (e :: es) σ H QA := waP (pa_cons peS paS hs) h

/-! ### statements -/
theorem wb_nil (h : D.nx σ H) : WB X [] D σ H := wbP pss_nil h
theorem wb_cons {st : Stmt} {rest : List Stmt} (h : WS X st { D with nx := fun σ' H' => WB X rest D σ' H' } σ H) : WB X (st :: rest) D σ H := wbP (pss_cons psS pbS) h
theorem wb_one {st : Stmt} (h : WS X st D σ H) : WB X [st] D σ H := wbP (pss_one psS) h
theorem ws_pass {pos : Pos} (h : D.nx σ H) : WS X (.Pass pos) D σ H := wsP ps_pass h
theorem ws_break {pos : Pos} (h : D.bk σ H) : WS X (.Break pos) D σ H := wsP ps_break h
theorem ws_continue {pos : Pos} (h : D.ct σ H) : WS X (.Continue pos) D σ H := wsP ps_continue h
theorem ws_set {i : Nat} {x : Str} {e : Expr} {pos pos' : Pos} (n : Sl X i x) (h : WE X e σ H fun v H1 => D.nx (σ.set i (some v)) H1) (hs : swapsWith e (some (.Name x pos')) pos.line X.env = pure false := by rfl) : WS X (.Assign [.Name x pos'] e pos) D σ H :=
  wsP (ps_set n.nd n.at_ n.loc peS hs n.fn) h
theorem ws_ret {e : Expr} {pos : Pos} (h : WE X e σ H D.rt) : WS X (.Return (some e) pos) D σ H := wsP (ps_ret peS) h
theorem ws_retN {pos : Pos} (h : D.rt .non H) : WS X (.Return none pos) D σ H := wsP ps_retN h
theorem ws_if {c : Expr} {a b : List Stmt} {pos : Pos} (h : WT X c σ H fun k H1 => if k = true then WB X a D σ H1 else WB X b D σ H1) : WS X (.If c a b pos) D σ H := wsP (ps_if ptS pbS pbS) h
theorem ws_expr {e : Expr} {pos : Pos} (h : WE X e σ H fun _ H1 => D.nx σ H1) (hs : swapsWith e none pos.line X.env = pure false := by rfl) : WS X (.Expr e pos) D σ H := wsP (ps_expr peS hs) h
theorem ws_while {c : Expr} {body : List Stmt} {pos : Pos} (hp : PassesOwn (model X.prog X.w) X.A X.env X.xe) (h : tWhile (WT X c) (WB X body) D σ H) : WS X (.While c body [] pos) D σ H := wsP (ps_while hp ptS pbS) h
theorem ws_never {st : Stmt} (h : False) : WS X st D σ H := h.elim

/-! ### what runs around a body -/
theorem Body.pass {k : Nat} {E : XK} (B : Body X k fun _ => E) : Passes (RX X.prog X.w) X E := L2N.passes_call B.tk fun _ _ _ _ h => h
/-- what may leave a call whose exceptions are taken at these slots -/
theorem out_at {CX : CXT} {E : XK} {pins : List (Addr × Obj)} {s : Shared} (hx : PassesAt CX X σ E) (I : Inv X pins σ H s) : ∀ (o : Result) (t : Shared), CR CX X.stack X.prog X.w H s Q E o t → (match o with | .ok (.ret v) => EP X pins σ Q v t | .ok _ => False | .error e => X.xe e t)
  | .ok (.ret _), _, q => I.after q
  | .ok .next, _, q => q
  | .ok .brk, _, q => q
  | .ok .cont, _, q => q
  | .error _, _, q => hx _ _ _ _ _ I q
theorem go_at {CX : CXT} {k : Nat} {f : Addr} {sp : Sp} {E : XK} {pins : List (Addr × Obj)} {s : Shared} {us : List Value} {vs : List V} (F : FnR X.prog X.w X.K X.mg X.base CX k f sp) (hr : Room k X.A) (hx : PassesAt CX X σ E) (I : Inv X pins σ H s) (r : Vals vs us) (h : sp vs H Q E) :
    wpAny (model X.prog X.w) X.A (call (.ref f) us) (EP X pins σ Q) X.xe s := wpAny_call (codeAny_mono (F _ _ s H us vs Q E hr I.env0 r h) (out_at hx I))
theorem make_at {CX : CXT} {k : Nat} {C f : Addr} {fd : FuncData} {ps : List Str} {ds : List Value} {dvs : List V} {sp : Sp} {E : XK} {pins : List (Addr × Obj)} {s : Shared} {us : List Value} {vs : List V} (M : Mk X.K C f) (F : FnOk X.prog X.w X.K X.mg X.base CX k f fd ps sp) (hr : Room (k + 1) X.A) (hb : Binds X.K fd ps ds) (hd : Vals dvs ds)
    (hx : PassesAt CX X σ E) (I : Inv X pins σ H s) (r : Vals vs us) (h : ∀ a dx, H a = none → H dx = none → dx ≠ a → sp (.ref a :: (vs ++ dvs)) (upd (upd H dx (.own a)) a (.ins C dx [])) (fun v H2 => v = .non ∧ Q (.ref a) H2) E) :
    wpAny (model X.prog X.w) X.A (call (.ref C) us) (EP X pins σ Q) X.xe s := by
  have J := Inv.made (C := C) I
  have hq := h (s.heap.objs.size + 1) s.heap.objs.size (I.hok.fresh (Nat.le_succ _)) (I.hok.fresh (Nat.le_refl _)) (Nat.ne_of_lt (Nat.lt_succ_self _))
  have rr : Vals (V.ref (s.heap.objs.size + 1) :: (vs ++ dvs)) (Value.ref (s.heap.objs.size + 1) :: (us ++ ds)) := .cons rfl (r.append hd)
  have bd := hb _ (Value.ref (s.heap.objs.size + 1) :: us) J.kIn ((F.len _ _ _ _ hq).symm.trans rr.length).symm
  have run := F.run _ X.stack _ _ ⟨Value.ref (s.heap.objs.size + 1) :: us, []⟩ _ _ _ E (hr.make C us []) (J.env0.make C us []) bd rr hq
  refine wpAny_call (make_map (f := f) I.kIn M.makes M.init (beq_iff_eq.mp M.fn) (codeAny_mono run fun o t q => ?_))
  have z := out_at hx J o t q
  cases o with
  | error e => exact z
  | ok fl =>
    cases fl with
    | ret u =>
      obtain ⟨v, H', I3, rv, rfl, q3⟩ := z
      exact ⟨rv, ⟨V.ref (s.heap.objs.size + 1), H', I3, rfl, q3⟩⟩
    | next => exact z.elim
    | brk => exact z.elim
    | cont => exact z.elim
/-- a def of the module -/
def GFn (P : Program) (w : World) (K : PySem.W.Frag) (mg : Str → Option Value) (base : Heap) (k : Nat) (x : Str) (sp : Sp) : Prop :=
  ∃ f, mg x = some (.ref f) ∧ PySem.W.keepIn K (.ref f) = true ∧ FnR P w K mg base (RX P w) k f sp
abbrev Fn (X : Cx) : Nat → Str → Sp → Prop := GFn X.prog X.w X.K X.mg X.base
/-- a class of the module, made by its __init__; dvs: the defaults that fill up -/
def GMk (P : Program) (w : World) (K : PySem.W.Frag) (mg : Str → Option Value) (base : Heap) (k : Nat) (x : Str) (C : Addr) (sp : Sp) (dvs : List V) : Prop :=
  ∃ f fd ps ds, mg x = some (.ref C) ∧ Mk K C f ∧ FnOk P w K mg base (RX P w) k f fd ps sp ∧ Binds K fd ps ds ∧ Vals dvs ds
abbrev Kl (X : Cx) : Nat → Str → Addr → Sp → List V → Prop := GMk X.prog X.w X.K X.mg X.base
/-- a method -/
def GMe (P : Program) (w : World) (K : PySem.W.Frag) (mg : Str → Option Value) (base : Heap) (k : Nat) (C : Addr) (m : Str) (sp : Sp) : Prop :=
  ∃ f, Meth K C m f ∧ FnR P w K mg base (RX P w) k f sp
abbrev Me (X : Cx) : Nat → Addr → Str → Sp → Prop := GMe X.prog X.w X.K X.mg X.base
section
variable {k j : Nat} {E : L2.St → XK} {x m : Str} {sp : Sp} {p pos apos : Pos} {e o : Expr} {es : List Expr} {C : Addr}
theorem we_call (B : Body X k E) (g : Gn X x) (f : Fn X j x sp) (hj : j ≤ k) (h : WA X (e :: es) σ H fun vs H1 => sp vs H1 Q (E σ))
    (hs : starEach (e :: es) X.env = (false, eval e X.env) :: starEach es X.env := by rfl) (hl : (backTo pos (starEach es X.env)).any (·.1) = false := by rfl) : WE X (.Call (.Name x p) (e :: es) [] pos) σ H Q := by
  obtain ⟨a, hm, hk, F⟩ := f
  intro pins s I
  refine wpAny_Call_Name_kw (ld_glob I g.gl hm ?_ g.d1)
  refine PySem.W.callWith_K (h₀ := X.base) I.ok.mod.kin hk (thn (h pos pins s I) fun us s1 z => ?_) hs hl
  obtain ⟨vs, H1, I1, r, q⟩ := z
  exact ⟨I1.kIn, go_at F (B.room.mono hj) (B.at σ) I1 r q⟩
theorem we_call0 (B : Body X k E) (g : Gn X x) (f : Fn X j x sp) (hj : j ≤ k) (h : sp [] H Q (E σ)) : WE X (.Call (.Name x p) [] [] pos) σ H Q := by
  obtain ⟨a, hm, hk, F⟩ := f
  intro pins s I
  refine wpAny_Call_Name_kw (ld_glob I g.gl hm ?_ g.d1)
  exact PySem.W.callWith_K0 I.kIn hk (go_at (us := []) F (B.room.mono hj) (B.at σ) I .nil h)
/-- what runs when an own def is called by a built-in way (an operator, a property) -/
theorem run_own {E : XK} {f : Addr} {pins : List (Addr × Obj)} {s : Shared} {vs : List V} {us : List Value} (B : Body X k fun _ => E) (F : FnR X.prog X.w X.K X.mg X.base (RX X.prog X.w) j f sp) (hj : j ≤ k) (I : Inv X pins σ H s) (r : Vals vs us) (h : sp vs H Q E) :
    wpAny (model X.prog X.w) X.A (call (.ref f) us) (EP X pins σ Q) X.xe s := wpAny_call (run_fnR F (B.room.mono hj) B.pass I r h)
theorem we_make {dvs : List V} (B : Body X k E) (g : Gn X x) (f : Kl X j x C sp dvs) (hj : j + 1 ≤ k) (h : WA X (e :: es) σ H fun vs H1 => ∀ a dx, H1 a = none → H1 dx = none → dx ≠ a →
      sp (.ref a :: (vs ++ dvs)) (upd (upd H1 dx (.own a)) a (.ins C dx [])) (fun v H2 => v = .non ∧ Q (.ref a) H2) (E σ))
    (hs : starEach (e :: es) X.env = (false, eval e X.env) :: starEach es X.env := by rfl) (hl : (backTo pos (starEach es X.env)).any (·.1) = false := by rfl) : WE X (.Call (.Name x p) (e :: es) [] pos) σ H Q := by
  obtain ⟨fi, fd, ps, ds, hm, M, F, hb, hd⟩ := f
  intro pins s I
  refine wpAny_Call_Name_kw (ld_glob I g.gl hm ?_ g.d1)
  refine PySem.W.callWith_K (h₀ := X.base) I.ok.mod.kin M.kp (thn (h pos pins s I) fun us s1 z => ?_) hs hl
  obtain ⟨vs, H1, I1, r, q⟩ := z
  exact ⟨I1.kIn, make_at M F (B.room.mono hj) hb hd (B.at σ) I1 r q⟩
theorem we_meth {pl : Sem Bool} (B : Body X k E) (c : Cls X.K C) (f : Me X j C m sp) (hj : j ≤ k)
    (h : WE X o σ H fun y H1 => ∃ a dx fs, y = .ref a ∧ H1 a = some (.ins C dx fs) ∧ fs.lookup m = none ∧ WA X (e :: es) σ H1 fun vs H2 => sp (.ref a :: vs) H2 Q (E σ))
    (hs : starEach (e :: es) X.env = (false, eval e X.env) :: starEach es X.env := by rfl) (hl : (backTo pos (starEach es X.env)).any (·.1) = false := by rfl)
    (ht : eval (.Call (.Attribute o m apos) (e :: es) [] pos) X.env = (do
      let it ← eval o X.env
      standAt apos.atName
      let (g, first) ← holding [it] (getMethod it m pl)
      callWith pos g first (backTo pos (starEach (e :: es) X.env)) (backToKw pos (keywordEach [] X.env))) := by rfl) : WE X (.Call (.Attribute o m apos) (e :: es) [] pos) σ H Q := by
  obtain ⟨g, hm, F⟩ := f
  intro pins s I
  refine PySem.W.methodCall_KW (pl := pl) (thn (h pins s I) fun u s1 z => ?_) ht
  obtain ⟨y, H1, I1, ry, a, dx, fs, rfl, e1, l, q⟩ := z
  cases ry
  refine getmeth_ok I1 e1 c hm l ?_
  refine PySem.W.callWith_K (first := [.ref a]) (h₀ := X.base) I.ok.mod.kin hm.kp (thn (q pos pins s1 I1) fun us s2 z => ?_) hs hl
  obtain ⟨vs, H2, I2, r, q2⟩ := z
  exact ⟨I2.kIn, go_at (us := .ref a :: us) (vs := .ref a :: vs) F (B.room.mono hj) (B.at σ) I2 (.cons rfl r) q2⟩
end
end
end Rs

namespace Rs
open PySem PySem.Spec PyProof.Rows L2

/-! ### what stays: all objects but the law's source of draws, which stays a source -/
theorem Good.mono {H H' : Hp} {o : HO} (x : Ex H H') (g : Good H o) : Good H' o := by
  rcases g with g | ⟨l, C, dx, fs, rest, e, h⟩
  · exact .inl g
  · exact .inr ⟨l, C, dx, fs, rest, e, x.keep _ _ h not_src_ins⟩
theorem Ex.refl (H : Hp) : Ex H H := ⟨fun _ _ h _ => h, fun _ _ o h s => ⟨o, h, s⟩⟩
theorem Ex.trans {H H1 H2 : Hp} (x : Ex H H1) (y : Ex H1 H2) : Ex H H2 := ⟨fun a o h g => y.kp a o (x.kp a o h g) (g.mono x), fun a l o h s => by
  obtain ⟨o1, h1, s1⟩ := x.src a l o h s
  exact y.src a l o1 h1 s1⟩
theorem Ex.new {H : Hp} {p : Addr} {o : HO} (hp : H p = none) : Ex H (upd H p o) :=
  ⟨fun a u h _ => (upd_ne (ne_of_none h hp)).trans h, fun a l u h s => ⟨u, (upd_ne (ne_of_none h hp)).trans h, s⟩⟩
/-- an object that H does not know is stored to -/
theorem Ex.put {H H' : Hp} {p : Addr} {o : HO} (x : Ex H H') (hp : H p = none) : Ex H (upd H' p o) :=
  ⟨fun a u h g => (upd_ne (ne_of_none h hp)).trans (x.kp a u h g), fun a l u h s => by
    obtain ⟨o1, h1, s1⟩ := x.src a l u h s
    exact ⟨o1, (upd_ne (ne_of_none h hp)).trans h1, s1⟩⟩
theorem Ex.new2 {H : Hp} {p dx : Addr} {o u : HO} (hp : H p = none) (hd : H dx = none) : Ex H (upd (upd H dx u) p o) := (Ex.new hd).put hp
theorem Ex.made {H : Hp} {p dx : Addr} {o u z : HO} (hp : H p = none) (hd : H dx = none) : Ex H (upd (upd (upd H dx u) p o) p z) := (Ex.new2 hp hd).put hp
theorem Ex.src' {H : Hp} {a l : Addr} {o o' : HO} (hl : ∀ C dx fs, H l ≠ some (.ins C dx fs)) (h : H a = some o) (s : SrcL l o) (s' : SrcL l o') : Ex H (upd H a o') := by
  refine ⟨fun b u hb n => ?_, fun b m u hb t => ?_⟩
  · by_cases e : b = a
    · subst e
      rw [h] at hb
      cases hb
      rcases n with n | ⟨l2, C, dx, fs, rest, e2, h2⟩
      · exact absurd ⟨l, s⟩ n
      · obtain ⟨i, c, r, e1, _⟩ := s
        have e3 := e1.symm.trans e2
        injection e3 with e4
        injection e4 with e5
        injection e5 with e6
        subst e6
        exact absurd h2 (hl _ _ _)
    · exact (upd_ne e).trans hb
  · by_cases e : b = a
    · subst e
      rw [h] at hb
      cases hb
      refine ⟨o', upd_same, ?_⟩
      obtain ⟨i, c, r, e1, _⟩ := s
      obtain ⟨i2, c2, r2, e2, _⟩ := t
      have e3 := e1.symm.trans e2
      injection e3 with e4
      injection e4 with e5
      injection e5 with e6
      subst e6
      exact s'
    · exact ⟨u, (upd_ne e).trans hb, t⟩
theorem not_src_own {a : Addr} : ¬ Src (.own a) := by
  rintro ⟨l, i, b, r, e, _⟩
  cases e
theorem not_src_ints {ns : List Int} : ¬ Src (.lst (ns.map V.int)) := by
  rintro ⟨l, i, b, r, e, _⟩
  cases ns with
  | nil => cases e
  | cons n ns =>
    injection e with e
    injection e with e1 _
    cases e1
theorem Ret.now {H : Hp} {R : V → Hp → Prop} {Q : VK} {v : V} (k : Ret H R Q) (r : R v H) : Q v H := k v H (Ex.refl H) r
theorem Ret.mono {H H' : Hp} {R : V → Hp → Prop} {Q : VK} (k : Ret H R Q) (x : Ex H H') : Ret H' R Q := fun v H2 y r => k v H2 (x.trans y) r

/-! ### times -/
/-- the fields of the time q -/
def tfs (q : Rat) : List (Str × V) := [(("over_line" : Str), .int q.num), (("under_line" : Str), .int q.den)]
/-- v is an instance of the class at C that is the time q -/
def TimeV (C : Addr) (q : Rat) (v : V) (H : Hp) : Prop := ∃ p dx, v = .ref p ∧ H p = some (.ins C dx (tfs q))
theorem TimeV.mono {C : Addr} {q : Rat} {v : V} {H H' : Hp} (x : Ex H H') (h : TimeV C q v H) : TimeV C q v H' := by
  obtain ⟨p, dx, e, h⟩ := h
  exact ⟨p, dx, e, x.ins h⟩
end Rs

namespace Rs
open PySem PySem.Spec PyProof.Rows L2
open AutoSeq1 (wpAny_loadPart')

/-! ### an int beside an object of an own class: the int's own slots decline -/
section
variable (i : Int) (t : Tok) (x : Addr) (ox : Obj)
theorem decl_add : Meets (Builtin.«int.__add__» ⟨[.int i t, .ref x], []⟩) (DeclS x ox) := .of_wp fun prog w A R s q => by
  obtain ⟨hp, g, d, tk, os⟩ := s
  obtain ⟨e1, e2, z⟩ := q
  wp_walk using wpAny_loadPart' e1, wpAny_load e1
  rw [e2]
  wp_walk
  exact ⟨_, rfl, z⟩
theorem decl_sub : Meets (Builtin.«int.__sub__» ⟨[.int i t, .ref x], []⟩) (DeclS x ox) := .of_wp fun prog w A R s q => by
  obtain ⟨hp, g, d, tk, os⟩ := s
  obtain ⟨e1, e2, z⟩ := q
  wp_walk using wpAny_loadPart' e1, wpAny_load e1
  rw [e2]
  wp_walk
  exact ⟨_, rfl, z⟩
theorem decl_mul : Meets (Builtin.«int.__mul__» ⟨[.int i t, .ref x], []⟩) (DeclS x ox) := .of_wp fun prog w A R s q => by
  obtain ⟨hp, g, d, tk, os⟩ := s
  obtain ⟨e1, e2, z⟩ := q
  wp_walk using wpAny_loadPart' e1, wpAny_load e1
  rw [e2]
  wp_walk
  exact ⟨_, rfl, z⟩
theorem decl_eq : Meets (Builtin.«int.__eq__» ⟨[.int i t, .ref x], []⟩) (DeclS x ox) := .of_wp fun prog w A R s q => by
  obtain ⟨hp, g, d, tk, os⟩ := s
  obtain ⟨e1, e2, z⟩ := q
  wp_walk using wpAny_loadPart' e1, wpAny_load e1
  rw [e2]
  wp_walk
  exact ⟨_, rfl, z⟩
theorem decl_lt : Meets (Builtin.«int.__lt__» ⟨[.int i t, .ref x], []⟩) (DeclS x ox) := .of_wp fun prog w A R s q => by
  obtain ⟨hp, g, d, tk, os⟩ := s
  obtain ⟨e1, e2, z⟩ := q
  wp_walk using wpAny_loadPart' e1, wpAny_load e1
  rw [e2]
  wp_walk
  exact ⟨_, rfl, z⟩
theorem decl_le : Meets (Builtin.«int.__le__» ⟨[.int i t, .ref x], []⟩) (DeclS x ox) := .of_wp fun prog w A R s q => by
  obtain ⟨hp, g, d, tk, os⟩ := s
  obtain ⟨e1, e2, z⟩ := q
  wp_walk using wpAny_loadPart' e1, wpAny_load e1
  rw [e2]
  wp_walk
  exact ⟨_, rfl, z⟩
theorem decl_gt : Meets (Builtin.«int.__gt__» ⟨[.int i t, .ref x], []⟩) (DeclS x ox) := .of_wp fun prog w A R s q => by
  obtain ⟨hp, g, d, tk, os⟩ := s
  obtain ⟨e1, e2, z⟩ := q
  wp_walk using wpAny_loadPart' e1, wpAny_load e1
  rw [e2]
  wp_walk
  exact ⟨_, rfl, z⟩
theorem decl_ge : Meets (Builtin.«int.__ge__» ⟨[.int i t, .ref x], []⟩) (DeclS x ox) := .of_wp fun prog w A R s q => by
  obtain ⟨hp, g, d, tk, os⟩ := s
  obtain ⟨e1, e2, z⟩ := q
  wp_walk using wpAny_loadPart' e1, wpAny_load e1
  rw [e2]
  wp_walk
  exact ⟨_, rfl, z⟩
end
/-- the int's own def for op declines -/
structure IntDecl (nm : Str) : Prop where
  ex : ∃ id B, Slot "int" nm id ∧ entryFor table id = some B ∧ (∀ a b, argsOk id ⟨[a, b], []⟩) ∧ ∀ i t x ox, Meets (B ⟨[.int i t, .ref x], []⟩) (DeclS x ox)
theorem idecl_add : IntDecl (dunder "add") := ⟨_, _, PySem.F.slot_int_add, PySem.F.entry_int_add, PySem.F.args_int_add_2, decl_add⟩
theorem idecl_sub : IntDecl (dunder "sub") := ⟨_, _, PySem.F.slot_int_sub, PySem.F.entry_int_sub, PySem.F.args_int_sub_2, decl_sub⟩
theorem idecl_mul : IntDecl (dunder "mul") := ⟨_, _, PySem.F.slot_int_mul, PySem.F.entry_int_mul, PySem.F.args_int_mul_2, decl_mul⟩
theorem idecl_eq : IntDecl (cmpInfo .Eq).2.1 := ⟨_, _, PySem.F.slot_int_eq, PySem.F.entry_int_eq, PySem.F.args_int_eq_2, decl_eq⟩
theorem idecl_lt : IntDecl (cmpInfo .Lt).2.1 := ⟨_, _, PySem.F.slot_int_lt, PySem.F.entry_int_lt, PySem.F.args_int_lt_2, decl_lt⟩
theorem idecl_le : IntDecl (cmpInfo .LtE).2.1 := ⟨_, _, PySem.F.slot_int_le, PySem.F.entry_int_le, PySem.F.args_int_le_2, decl_le⟩
theorem idecl_gt : IntDecl (cmpInfo .Gt).2.1 := ⟨_, _, PySem.F.slot_int_gt, PySem.F.entry_int_gt, PySem.F.args_int_gt_2, decl_gt⟩
theorem idecl_ge : IntDecl (cmpInfo .GtE).2.1 := ⟨_, _, PySem.F.slot_int_ge, PySem.F.entry_int_ge, PySem.F.args_int_ge_2, decl_ge⟩

/-! ### operators of an own class -/
/-- the class at C has op at f (its reflected form, if any, is a def too); no int is one of its instances -/
structure BinOwn (K : PySem.W.Frag) (C f : Addr) (op : Operator) : Prop where
  sf : PySem.W.selfFirst K C = true
  at_ : PySem.W.findIn K (.ref C) (PySem.dunder op.info.2) = some (some (.ref f))
  fn : PySem.W.isFn K (.ref f) = true
  rc : ∃ rc, PySem.W.findIn K (.ref C) (dunderR op.info.2) = some rc ∧ (rc = none ∨ ∃ g : Addr, rc = some (.ref g))
  it : ∃ fo ro, PySem.W.findIn K (.type "int") (PySem.dunder op.info.2) = some fo ∧ PySem.W.findIn K (.type "int") (dunderR op.info.2) = some ro
  sub : PySem.W.subIn K (.type "int") (.ref C) = some false
/-- .. the reflected form at g -/
structure BinRef (K : PySem.W.Frag) (C g : Addr) (op : Operator) : Prop where
  sf : PySem.W.selfFirst K C = true
  fl : ∃ f : Addr, PySem.W.findIn K (.ref C) (PySem.dunder op.info.2) = some (some (.ref f))
  at_ : PySem.W.findIn K (.ref C) (dunderR op.info.2) = some (some (.ref g))
  fn : PySem.W.isFn K (.ref g) = true
  sub : PySem.W.subIn K (.ref C) (.type "int") = some false
structure CmpOwn (K : PySem.W.Frag) (C f : Addr) (op : CmpOp) : Prop where
  at_ : PySem.W.findIn K (.ref C) (cmpInfo op).2.1 = some (some (.ref f))
  fn : PySem.W.isFn K (.ref f) = true
  nfi : PySem.W.notFirst K C (.type "int") = true
structure CmpRef (K : PySem.W.Frag) (C g : Addr) (op : CmpOp) : Prop where
  at_ : PySem.W.findIn K (.ref C) (cmpInfo op).2.2 = some (some (.ref g))
  fn : PySem.W.isFn K (.ref g) = true
  sub : PySem.W.subIn K (.ref C) (.type "int") = some false
section
variable {X : Cx} {k j : Nat} {E : XK} {sp : Sp} {C f g a b dx dy : Addr} {fs gs : List (Str × V)} {H : Hp} {Q : VK} {op : Operator} {i : Int}
/-- o op o', one class -/
theorem bin_tt (B : Body X k fun _ => E) (c : BinOwn X.K C f op) (F : FnR X.prog X.w X.K X.mg X.base (RX X.prog X.w) j f sp) (hj : j ≤ k) (ea : H a = some (.ins C dx fs)) (eb : H b = some (.ins C dy gs)) (h : sp [.ref a, .ref b] H Q E) :
    Op2 X (binaryOp op) (.ref a) (.ref b) H Q := by
  intro pins s σ u v I ru rv
  cases ru
  cases rv
  obtain ⟨od, J⟩ := inst_of I ea
  obtain ⟨od', J'⟩ := inst_of I eb
  obtain ⟨m, hF⟩ := I.fr
  exact PySem.W.binop_K hF I.ok.mod.kin J J'.type c.sf c.at_ c.fn (back (run_own (vs := [.ref a, .ref b]) B F hj I (.cons rfl (.cons rfl .nil)) h))
/-- o op int -/
theorem bin_ti (B : Body X k fun _ => E) (c : BinOwn X.K C f op) (F : FnR X.prog X.w X.K X.mg X.base (RX X.prog X.w) j f sp) (hj : j ≤ k) (ea : H a = some (.ins C dx fs)) (h : sp [.ref a, .int i] H Q E) : Op2 X (binaryOp op) (.ref a) (.int i) H Q := by
  intro pins s σ u v I ru rv
  cases ru
  obtain ⟨t, rfl⟩ := rv
  obtain ⟨od, J⟩ := inst_of I ea
  obtain ⟨m, hF⟩ := I.fr
  obtain ⟨rc, h1, h2⟩ := c.rc
  obtain ⟨fo, ro, h3, h4⟩ := c.it
  exact PySem.W.ksp_binT (T := "int") hF I.ok.mod.kin J rfl c.sf c.at_ c.fn h1 h2 h3 h4 c.sub (back (run_own (vs := [.ref a, .int i]) B F hj I (.cons rfl (.cons ⟨t, rfl⟩ .nil)) h))
/-- what int op o comes to, by what o's reflected def does -/
theorem int_left {prog : Program} {w : World} {A : Around} {R : Value → Shared → Prop} {P : Value → Shared → Prop} {s : Shared} {K : PySem.W.Frag} {x : Addr} {ox : Obj} {od : Option Obj} {t : Tok} (KX : K.In s.heap) (J : PySem.W.InstAt s.heap x ox C od) (hd : ox.data = .plain)
    (c : BinRef K C g op) (hf : fillsNumberSlot (.type "int") op.info.2 = pure true) (d : IntDecl (dunder op.info.2)) (h : wpAny (model prog w) A (call (.ref g) [.ref x, .int i t]) (PySem.W.CmpBack P) R s) : wpAny (model prog w) A (binaryOp op (.int i t) (.ref x)) P R s := by
  obtain ⟨cd, rest, hcd, hm⟩ := PySem.W.ksp_first c.sf
  obtain ⟨fl, hfl⟩ := c.fl
  obtain ⟨id, Bi, sl, en, ar, dc⟩ := d.ex
  have cat := c.at_
  rcases hi : op.info with ⟨sym, nm⟩
  rw [hi] at hf sl hfl cat
  dsimp only at hf sl hfl cat
  have l1 : s.TypeIs (.int i t) "int" := typeIs_int _ _ _
  have l2 : PySem.W.Looks (model prog w) s.heap (typeOf (.ref x)) (.ref C) := J.type
  have l3 : PySem.W.Looks (model prog w) s.heap (fillsNumberSlot (.ref C) nm) true := PySem.W.fills_K KX hcd hm hfl
  have l4 : PySem.W.Looks (model prog w) s.heap (isSubtype (.ref C) (.type "int")) false := PySem.W.looks_subIn KX c.sub
  have ne : (Value.type "int" == Value.ref C) = false := Bool.eq_false_iff.mpr fun q => by cases beq_iff_eq.mp q
  have dcl : wpAny (model prog w) A (call (.builtin id) [.int i t, .ref x]) (fun v s' => v = .notImplemented ∧ s' = s) R s := call_meets sl l1 en (ar _ _) (dc i t x ox) ⟨J.at_, hd, rfl, rfl⟩
  have oth : wpAny (model prog w) A (tryMethod (.ref x) (dunderR nm) (.int i t)) (fun r s' => ∃ v, r = some v ∧ P v s') R s := PySem.W.ksp_try KX J cat c.fn h
  have py : numberSlotInPython (.type "int") nm = pure false := rfl
  simp only [binaryOp, hi]
  refine wpAny_holding (wpAny_bind ?_)
  unfold binaryOp1
  refine wpAny_bind (wpAny_typeOf l1 (wpAny_bind (l2.here (wpAny_bind (wpAny_of_eq hf ?_)))))
  simp only [ne, Bool.false_eq_true, if_false]
  refine wpAny_bind (l3.here ?_)
  simp only [Bool.and_self, if_true]
  refine wpAny_bind (l4.here ?_)
  simp only [Bool.false_eq_true, if_false, pure_bind, Bool.not_false, Bool.and_self, if_true, py]
  refine wpAny_bind (m := tryMethod (.int i t) _ (.ref x)) (wpAny_tryMethod_declines l1 sl (wpAny_mono dcl (fun v s1 z => ⟨z.1, ?_⟩) fun _ _ z => z))
  obtain ⟨_, rfl⟩ := z
  refine wpAny_bind (wpAny_mono oth (fun r s2 z => ?_) fun _ _ z => z)
  obtain ⟨v, rfl, q⟩ := z
  exact wpAny_bind (wpAny_rule (wpAny_pure (wpAny_pure q)))
theorem bin_it (B : Body X k fun _ => E) (c : BinRef X.K C g op) (hf : fillsNumberSlot (.type "int") op.info.2 = pure true) (d : IntDecl (dunder op.info.2)) (F : FnR X.prog X.w X.K X.mg X.base (RX X.prog X.w) j g sp) (hj : j ≤ k) (ea : H a = some (.ins C dx fs))
    (h : sp [.ref a, .int i] H Q E) : Op2 X (binaryOp op) (.int i) (.ref a) H Q := by
  intro pins s σ u v I ru rv
  cases rv
  obtain ⟨t, rfl⟩ := ru
  obtain ⟨od, J⟩ := inst_of I ea
  exact int_left I.kIn J rfl c hf d (back (run_own (vs := [.ref a, .int i]) B F hj I (.cons rfl (.cons ⟨t, rfl⟩ .nil)) h))
end
end Rs

namespace Rs
open PySem PySem.Spec PyProof.Rows L2

section
variable {X : Cx} {k j : Nat} {E : XK} {sp : Sp} {C f g a b dx dy : Addr} {fs gs : List (Str × V)} {H : Hp} {Q : VK} {op : Operator} {cop : CmpOp} {i : Int}

/-! ### comparisons of an own class -/
def Rich (op : CmpOp) : Prop := ∀ a b, compareOp op a b = richCompare op a b
theorem rich_eq : Rich .Eq := fun _ _ => rfl
theorem rich_ne : Rich .NotEq := fun _ _ => rfl
theorem rich_lt : Rich .Lt := fun _ _ => rfl
theorem rich_le : Rich .LtE := fun _ _ => rfl
theorem rich_gt : Rich .Gt := fun _ _ => rfl
theorem rich_ge : Rich .GtE := fun _ _ => rfl
theorem cmp_tt (B : Body X k fun _ => E) (r : Rich cop) (c : CmpOwn X.K C f cop) (F : FnR X.prog X.w X.K X.mg X.base (RX X.prog X.w) j f sp) (hj : j ≤ k) (ea : H a = some (.ins C dx fs)) (eb : H b = some (.ins C dy gs)) (h : sp [.ref a, .ref b] H Q E) :
    Op2 X (compareOp cop) (.ref a) (.ref b) H Q := by
  intro pins s σ u v I ru rv
  cases ru
  cases rv
  obtain ⟨od, J⟩ := inst_of I ea
  obtain ⟨od', J'⟩ := inst_of I eb
  obtain ⟨m, hF⟩ := I.fr
  rw [r]
  exact PySem.W.cmp_K (op := cop) (tb := .ref C) B.room.units0 hF I.ok.mod.kin J J'.type (by unfold PySem.W.notFirst; simp) c.at_ c.fn (back (run_own (vs := [.ref a, .ref b]) B F hj I (.cons rfl (.cons rfl .nil)) h))
theorem cmp_ti (B : Body X k fun _ => E) (r : Rich cop) (c : CmpOwn X.K C f cop) (F : FnR X.prog X.w X.K X.mg X.base (RX X.prog X.w) j f sp) (hj : j ≤ k) (ea : H a = some (.ins C dx fs)) (h : sp [.ref a, .int i] H Q E) : Op2 X (compareOp cop) (.ref a) (.int i) H Q := by
  intro pins s σ u v I ru rv
  cases ru
  obtain ⟨t, rfl⟩ := rv
  obtain ⟨od, J⟩ := inst_of I ea
  obtain ⟨m, hF⟩ := I.fr
  rw [r]
  exact PySem.W.cmp_K (op := cop) (tb := .type "int") B.room.units0 hF I.ok.mod.kin J (PySem.W.Looks.of_pure rfl) c.nfi c.at_ c.fn (back (run_own (vs := [.ref a, .int i]) B F hj I (.cons rfl (.cons ⟨t, rfl⟩ .nil)) h))
theorem int_cmp {prog : Program} {w : World} {A : Around} {R : Value → Shared → Prop} {P : Value → Shared → Prop} {s : Shared} {K : PySem.W.Frag} {x : Addr} {ox : Obj} {od : Option Obj} {t : Tok} (hu : A.units < cLine) (KX : K.In s.heap) (J : PySem.W.InstAt s.heap x ox C od)
    (hd : ox.data = .plain) (c : CmpRef K C g cop) (d : IntDecl (cmpInfo cop).2.1) (h : wpAny (model prog w) A (call (.ref g) [.ref x, .int i t]) (PySem.W.CmpBack P) R s) : wpAny (model prog w) A (richCompare cop (.int i t) (.ref x)) P R s := by
  obtain ⟨id, Bi, sl, en, ar, dc⟩ := d.ex
  have cat := c.at_
  rcases hi : cmpInfo cop with ⟨sym, n1, n2⟩
  rw [hi] at sl cat
  dsimp only at sl cat
  have l1 : s.TypeIs (.int i t) "int" := typeIs_int _ _ _
  have l2 : PySem.W.Looks (model prog w) s.heap (typeOf (.ref x)) (.ref C) := J.type
  have l4 : PySem.W.Looks (model prog w) s.heap (isSubtype (.ref C) (.type "int")) false := PySem.W.looks_subIn KX c.sub
  have ne : (Value.type "int" != Value.ref C) = true := by simp
  have dcl : wpAny (model prog w) A (call (.builtin id) [.int i t, .ref x]) (fun v s' => v = .notImplemented ∧ s' = s) R s := call_meets sl l1 en (ar _ _) (dc i t x ox) ⟨J.at_, hd, rfl, rfl⟩
  have oth : wpAny (model prog w) A (tryCompare (.ref x) n2 (.int i t)) (fun r s' => ∃ v, r = some v ∧ P v s') R s := by
    unfold tryCompare
    refine wpAny_bind (PySem.W.ifBound_K KX J cat c.fn (wpAny_mono h (fun v s' hv => ?_) fun _ _ z => z))
    cases v <;> first | exact hv.elim | exact wpAny_pure ⟨_, rfl, hv⟩
  simp only [richCompare, hi, l1.oneThing_none]
  refine wpAny_holding (wpAny_bind (wpAny_cRoomFor hu ?_))
  refine wpAny_bind (wpAny_typeOf l1 (wpAny_bind (l2.here ?_)))
  simp only [ne, if_true]
  refine wpAny_bind (l4.here ?_)
  simp only [Bool.false_eq_true, if_false, Bool.not_false, if_true]
  refine wpAny_bind (m := tryCompare (.int i t) _ (.ref x)) (wpAny_tryCompare_declines l1 sl (wpAny_mono dcl (fun v s1 z => ⟨z.1, ?_⟩) fun _ _ z => z))
  obtain ⟨_, rfl⟩ := z
  refine wpAny_bind (m := tryCompare (.ref x) _ (.int i t)) (wpAny_mono oth (fun r s2 z => ?_) fun _ _ z => z)
  obtain ⟨v, rfl, q⟩ := z
  exact wpAny_pure q
theorem cmp_it (B : Body X k fun _ => E) (r : Rich cop) (c : CmpRef X.K C g cop) (d : IntDecl (cmpInfo cop).2.1) (F : FnR X.prog X.w X.K X.mg X.base (RX X.prog X.w) j g sp) (hj : j ≤ k) (ea : H a = some (.ins C dx fs))
    (h : sp [.ref a, .int i] H Q E) : Op2 X (compareOp cop) (.int i) (.ref a) H Q := by
  intro pins s σ u v I ru rv
  cases rv
  obtain ⟨t, rfl⟩ := ru
  obtain ⟨od, J⟩ := inst_of I ea
  rw [r]
  exact int_cmp B.room.units0 I.kIn J rfl c d (back (run_own (vs := [.ref a, .int i]) B F hj I (.cons rfl (.cons ⟨t, rfl⟩ .nil)) h))

/-! ### op= of an own class without an in-place form -/
structure NoInpl (K : PySem.W.Frag) (C : Addr) (op : Operator) : Prop where
  mro : ∃ cd, PySem.W.clsIn K C = some cd ∧ cd.mro = [.ref C, .type "object"]
  h1 : PySem.W.findIn K (.ref C) (dunderI op.info.2) = some none
  h2 : PySem.W.findIn K (.type "object") (dunderI op.info.2) = some none
theorem noFill {M : Model} {h : Heap} {K : PySem.W.Frag} (KX : K.In h) (n : NoInpl K C op) (add : Bool) : PySem.W.Looks M h (fillsInplaceSlot (.ref C) op.info.2 add) false := by
  obtain ⟨cd, hcd, hm⟩ := n.mro
  intro A Q E s kp q
  have l1 := PySem.W.looks_findIn (M := M) KX n.h1
  have l2 := PySem.W.looks_findIn (M := M) KX n.h2
  have lm : PySem.W.Looks M h (mroOf (.ref C)) cd.mro := (PySem.W.looks_clsIn KX hcd).andThen (f := fun cd => pure cd.mro) .now
  unfold fillsInplaceSlot
  refine wpAny_bind (lm A _ E s kp ?_)
  rw [hm, List.anyM_cons]
  refine wpAny_bind (wpAny_bind (l1 A _ E s kp (wpAny_pure ?_)))
  rw [if_neg Bool.false_ne_true, List.anyM_cons]
  refine wpAny_bind (wpAny_bind (l2 A _ E s kp (wpAny_pure ?_)))
  rw [if_neg Bool.false_ne_true, List.anyM_nil]
  exact wpAny_pure q
theorem one_tt {prog : Program} {w : World} {A : Around} {R : Value → Shared → Prop} {P : Value → Shared → Prop} {s : Shared} {K : PySem.W.Frag} {x : Addr} {y : Value} {ox : Obj} {od : Option Obj} (KX : K.In s.heap) (J : PySem.W.InstAt s.heap x ox C od)
    (hy : PySem.W.Looks (model prog w) s.heap (typeOf y) (.ref C)) (c : BinOwn K C f op) (h : wpAny (model prog w) A (call (.ref f) [.ref x, y]) (PySem.W.CmpBack P) R s) :
    wpAny (model prog w) A (binaryOp1 op.info.2 (.ref x) y) (fun r s' => ∃ v, r = some v ∧ P v s') R s := by
  obtain ⟨cd, rest, hcd, hm⟩ := PySem.W.ksp_first c.sf
  have l3 : PySem.W.Looks (model prog w) s.heap (fillsNumberSlot (.ref C) op.info.2) true := PySem.W.fills_K KX hcd hm c.at_
  unfold binaryOp1
  refine wpAny_bind (J.type.here (wpAny_bind (hy.here (wpAny_bind (l3.here ?_)))))
  simp only [beq_self_eq_true, if_true]
  refine wpAny_bind (wpAny_pure ?_)
  simp only [Bool.and_false, Bool.false_eq_true, if_false, Bool.false_and]
  refine wpAny_bind (wpAny_pure ?_)
  simp only [Bool.false_eq_true, if_false]
  refine wpAny_bind (m := tryMethod (.ref x) _ y) (wpAny_mono (PySem.W.ksp_try KX J c.at_ c.fn h) (fun r s' z => ?_) fun _ _ z => z)
  obtain ⟨v, rfl, q⟩ := z
  exact wpAny_pure ⟨v, rfl, q⟩
theorem inp_tt (B : Body X k fun _ => E) (n : NoInpl X.K C op) (c : BinOwn X.K C f op) (F : FnR X.prog X.w X.K X.mg X.base (RX X.prog X.w) j f sp) (hj : j ≤ k) (ea : H a = some (.ins C dx fs)) (eb : H b = some (.ins C dy gs)) (h : sp [.ref a, .ref b] H Q E) :
    Op2 X (inplaceOp op) (.ref a) (.ref b) H Q := by
  intro pins s σ u v I ru rv
  cases ru
  cases rv
  obtain ⟨od, J⟩ := inst_of I ea
  obtain ⟨od', J'⟩ := inst_of I eb
  have one := one_tt I.kIn J J'.type c (back (run_own (vs := [.ref a, .ref b]) B F hj I (.cons rfl (.cons rfl .nil)) h))
  unfold inplaceOp
  refine wpAny_holding (wpAny_bind (J.type.here (wpAny_bind ((noFill I.kIn n _).here ?_))))
  simp only [Bool.false_eq_true, if_false]
  refine wpAny_bind (wpAny_mono one (fun r s' z => ?_) fun _ _ z => z)
  obtain ⟨w', rfl, q⟩ := z
  exact wpAny_pure q
theorem inp_int {f : Value → Value → Sem Value} {y z : Int} (o : OpR X (inplaceOp op) (rI0 fun i j => .int z)) (q : Q (.int z) H) : Op2 X (inplaceOp op) (.int i) (.int y) H Q := op2_of o ⟨i, y, rfl, rfl, q⟩
theorem ws_aug {D : Ends} {σ : L2.St} {i : Nat} {x : Str} {e : Expr} {pos pos' : Pos} {v : V} (n : Sl X i x) (h0 : σ[i]? = some (some v)) (h : WE X e σ H fun y H1 => Op2 X (inplaceOp op) v y H1 fun z H2 => D.nx (σ.set i (some z)) H2) :
    WS X (.AugAssign (.Name x pos') op e pos) D σ H :=
  wsP (ps_aug (ti := fun x y H Q => Op2 X (inplaceOp op) x y H Q) n.nd n.at_ n.loc peS (fun pins s σ H x y v u Q I rx ry q => q pins s σ v u I rx ry) n.fn) ⟨v, h0, h⟩

/-! ### -x of an own class -/
structure NegOwn (K : PySem.W.Frag) (C f : Addr) : Prop where
  at_ : PySem.W.findIn K (.ref C) "__neg__" = some (some (.ref f))
  fn : PySem.W.isFn K (.ref f) = true
theorem neg_t (B : Body X k fun _ => E) (c : NegOwn X.K C f) (F : FnR X.prog X.w X.K X.mg X.base (RX X.prog X.w) j f sp) (hj : j ≤ k) (ea : H a = some (.ins C dx fs)) (h : sp [.ref a] H Q E) : Op1 X (unaryOp .USub) (.ref a) H Q := by
  intro pins s σ u I ru
  cases ru
  obtain ⟨od, J⟩ := inst_of I ea
  obtain ⟨m, hF⟩ := I.fr
  exact PySem.W.ksp_neg hF I.ok.mod.kin J c.at_ c.fn (run_own (vs := [.ref a]) B F hj I (.cons rfl .nil) h)
end
end Rs

namespace Rs
open PySem PySem.Spec PyProof.Rows L2

section
variable {X : Cx} {σ : L2.St} {H : Hp} {D : Ends} {Q Q' : VK} {QT : Bool → Hp → Prop} {QA QA' : List V → Hp → Prop} {k j : Nat} {E : L2.St → XK} {x m : Str} {sp : Sp} {p pos apos : Pos} {e o a b c : Expr} {es : List Expr} {C : Addr}

theorem we_mono (h : WE X e σ H Q) (z : ∀ v H', Q v H' → Q' v H') : WE X e σ H Q' := fun pins s I => thn (h pins s I) fun u s' y => by
  obtain ⟨v, H', I', r, q⟩ := y
  exact ⟨v, H', I', r, z v H' q⟩
theorem wa_mono (h : WA X es σ H QA) (z : ∀ v H', QA v H' → QA' v H') : WA X es σ H QA' := fun pos pins s I => thn (h pos pins s I) fun u s' y => by
  obtain ⟨v, H', I', r, q⟩ := y
  exact ⟨v, H', I', r, z v H' q⟩

/-! ### built-ins by their names -/
theorem we_callB {id : String} {r : List V → Hp → VK → Prop} (hc : CallR X (.builtin id) r) (bn : Bn X x) (hv : bootBuiltins x = some (.builtin id)) (h : WA X (e :: es) σ H fun xs H1 => r xs H1 Q)
    (hn : x ≠ "__name__" := by decide) (hd : (x == ("__debug__" : Str)) = false := by decide) (he : starEach (e :: es) X.env = (false, eval e X.env) :: starEach es X.env := by rfl) (hl : (backTo pos (starEach es X.env)).any (·.1) = false := by rfl) :
    WE X (.Call (.Name x p) (e :: es) [] pos) σ H Q := weP (pe_callB hc bn.gl bn.no hv paS hn hd he hl) h
theorem we_callT {T : String} {r : List V → Hp → VK → Prop} (hc : CallR X (.type T) r) (bn : Bn X x) (hv : bootBuiltins x = some (.type T)) (h : WA X (e :: es) σ H fun xs H1 => r xs H1 Q)
    (hn : x ≠ "__name__" := by decide) (hd : (x == ("__debug__" : Str)) = false := by decide) (he : starEach (e :: es) X.env = (false, eval e X.env) :: starEach es X.env := by rfl) (hl : (backTo pos (starEach es X.env)).any (·.1) = false := by rfl) :
    WE X (.Call (.Name x p) (e :: es) [] pos) σ H Q := weP (pe_callTy hc bn.gl bn.no hv paS hn hd he hl) h
theorem we_ty {T : String} (bn : Bn X x) (hv : bootBuiltins x = some (.type T)) (q : Q (.ty T) H) (hn : x ≠ "__name__" := by decide) (hd : (x == ("__debug__" : Str)) = false := by decide) : WE X (.Name x pos) σ H Q := weP (pe_bltn (v := .ty T) bn.gl bn.no hv rfl hn hd) q
theorem wa_one (h : WE X e σ H fun v H1 => QA [v] H1) (hs : starEach [e] X.env = [(false, eval e X.env)] := by rfl) : WA X [e] σ H QA := wa_cons (we_mono h fun v H1 q => wa_nil q) hs
theorem wa_two (h : WE X a σ H fun v H1 => WE X b σ H1 fun w H2 => QA [v, w] H2) (hs : starEach [a, b] X.env = (false, eval a X.env) :: starEach [b] X.env := by rfl) (ht : starEach [b] X.env = [(false, eval b X.env)] := by rfl) : WA X [a, b] σ H QA :=
  wa_cons (we_mono h fun _ _ q => wa_one q ht) hs
theorem wa_three (h : WE X a σ H fun v H1 => WE X b σ H1 fun w H2 => WE X c σ H2 fun u H3 => QA [v, w, u] H3) (hs : starEach [a, b, c] X.env = (false, eval a X.env) :: starEach [b, c] X.env := by rfl) (ht : starEach [b, c] X.env = (false, eval b X.env) :: starEach [c] X.env := by rfl)
    (hu : starEach [c] X.env = [(false, eval c X.env)] := by rfl) : WA X [a, b, c] σ H QA := wa_cons (we_mono h fun _ _ q => wa_two q ht hu) hs
/-- what isinstance answers -/
def Isi (K : PySem.W.Frag) (x y : V) (H : Hp) (r : Bool) : Prop := ∃ t u, ClsV y u ∧ TyX K H x t ∧ PySem.W.kitOne K t u = some r
theorem we_isi (bn : Bn X "isinstance") (h : WE X a σ H fun v H1 => WE X b σ H1 fun w H2 => ∃ r, Isi X.K v w H2 r ∧ Q (.bl r) H2)
    (hs : starEach [a, b] X.env = (false, eval a X.env) :: starEach [b] X.env := by rfl) (ht : starEach [b] X.env = [(false, eval b X.env)] := by rfl) (hl : (backTo pos (starEach [b] X.env)).any (·.1) = false := by rfl) :
    WE X (.Call (.Name "isinstance" p) [a, b] [] pos) σ H Q :=
  we_callB call_isi bn boot_isinstance (wa_two (we_mono h fun v H1 q => we_mono q fun w H2 q => by
    obtain ⟨r, ⟨t, u, h1, h2, h3⟩, q⟩ := q
    exact ⟨v, w, t, u, r, rfl, h1, h2, h3, q⟩) hs ht) (by decide) (by decide) hs hl
theorem we_abs (bn : Bn X "abs") (h : WE X a σ H fun v H1 => ∃ i, v = .int i ∧ Q (.int (if i < 0 then -i else i)) H1) (hs : starEach [a] X.env = [(false, eval a X.env)] := by rfl) (hl : (backTo pos (starEach [] X.env)).any (·.1) = false := by rfl) :
    WE X (.Call (.Name "abs" p) [a] [] pos) σ H Q := we_callB call_abs bn boot_abs (wa_one (we_mono h fun v H1 q => by
    obtain ⟨i, rfl, q⟩ := q
    exact ⟨i, rfl, q⟩) hs) (by decide) (by decide) hs hl

/-! ### tuples and lists -/
theorem we_tup {k : Nat} (h : WA X es σ H fun vs H1 => vs.length ≤ sizeLine ∧ ∀ p H2, H1 p = none → Ex H1 H2 → H2 = upd H1 p (.tup vs) → Q (.ref p) H2) : WE X (.Tuple es k pos) σ H Q := weP (pe_tup paS) (wa_mono h fun vs H1 q => ⟨q.1, fun p hp => q.2 p _ hp (Ex.new hp) rfl⟩)
theorem we_lst (h : WA X es σ H fun vs H1 => vs.length ≤ sizeLine ∧ ∀ p H2, H1 p = none → Ex H1 H2 → H2 = upd H1 p (.lst vs) → Q (.ref p) H2) : WE X (.List es pos) σ H Q := weP (pe_lst paS) (wa_mono h fun vs H1 q => ⟨q.1, fun p hp => q.2 p _ hp (Ex.new hp) rfl⟩)
/-! ### fields, items -/
theorem we_fld {f : Str} {C : Addr} (c : Cls X.K C) (n : NoAttr X.K C f) (h : WE X e σ H fun y H1 => ∃ a dx fs v, y = .ref a ∧ H1 a = some (.ins C dx fs) ∧ fs.lookup f = some v ∧ Q v H1) (hb : attributeBase e f X.env (eval e X.env) = eval e X.env := by rfl) :
    WE X (.Attribute e f pos) σ H Q := weP (pe_fld peS hb) (we_mono h fun y H1 q => by
  obtain ⟨a, dx, fs, v, rfl, h1, h2, q⟩ := q
  exact ⟨a, C, dx, fs, v, rfl, h1, c, n, h2, q⟩)
theorem ws_fld {f : Str} {C : Addr} {value : Expr} {pos' : Pos} (c : Cls X.K C) (n : NoAttr X.K C f) (h : WE X value σ H fun y H1 => WE X o σ H1 fun z H2 => ∃ a dx fs, z = .ref a ∧ H2 a = some (.ins C dx fs) ∧ fs.length < 1000 ∧ D.nx σ (upd H2 a (.ins C dx (putF f y fs))))
    (hs : swapsWith value (some (.Attribute o f pos')) pos.line X.env = pure false := by rfl) : WS X (.Assign [.Attribute o f pos'] value pos) D σ H := wsP (ps_fld peS peS hs) (we_mono h fun y H1 q => we_mono q fun z H2 q => by
  obtain ⟨a, dx, fs, rfl, h1, h2, q⟩ := q
  exact ⟨a, C, dx, fs, rfl, h1, c, n, h2, q⟩)
theorem we_ix {r : R2} (hr : IxR X r) (h : WE X a σ H fun v H1 => WE X b σ H1 fun w H2 => r v w H2 Q) (hb : PlainIx b := by intro _ _; rfl) : WE X (.Subscript a b pos) σ H Q := weP (pe_ix hr peS peS hb) h
theorem pass0N {X : Cx} : Passes (RX X.prog X.w) X.nox E0 := fun _ _ _ _ _ _ _ c => by
  obtain ⟨_, _, _, _, _, _, _, _, _, _, _, _, z⟩ := c
  exact z.elim
/-- o.f, a property whose getter raises nothing -/
theorem we_prop {f : Str} {C pp g : Addr} {fd : FuncData} {ps : List Str} {ds : List Value} {dvs : List V} (B : Body X k E) (c : Cls X.K C) (hp : PropOf X.K C f pp g) (F : FnOk X.prog X.w X.K X.mg X.base (RX X.prog X.w) j g fd ps sp) (hj : j + 1 ≤ k)
    (hb : Binds X.K fd ps ds) (hd : Vals dvs ds) (h : WE X e σ H fun y H1 => ∃ a dx fs, y = .ref a ∧ H1 a = some (.ins C dx fs) ∧ sp (.ref a :: dvs) H1 Q E0) (he : attributeBase e f X.env (eval e X.env) = eval e X.env := by rfl) : WE X (.Attribute e f pos) σ H Q :=
  weP (pe_prop peS c hp F (B.room.mono hj) hb hd pass0N he) h
/-- a, b = x, y -/
theorem ws_par {i i' : Nat} {x y : Str} {px py pt : Pos} {kt k2 : Nat} {pt2 : Pos} (B : Body X k E) (n : Sl X i x) (n' : Sl X i' y) (hk : X.env.blockKind = .function) (hx : X.env.kindOf x = some .local) (hy : X.env.kindOf y = some .local)
    (h : WE X a σ H fun v H1 => WE X b σ H1 fun w H2 => D.nx ((σ.set i (some v)).set i' (some w)) H2) (hii : i ≠ i' := by decide) (hne : (y == x) = false := by decide) (hl : (py.line == px.line) = true := by rfl)
    (h1 : ([a, b].any fun | .Starred .. => true | _ => false) = false := by rfl) (h2 : [a, b].all (foldedForSure 8) = false := by rfl) (h3 : [a, b].all (constantsAlone 8) = false := by rfl)
    (hs : starEach [a, b] X.env = (false, eval a X.env) :: starEach [b] X.env := by rfl) (ht : starEach [b] X.env = [(false, eval b X.env)] := by rfl) : WS X (.Assign [.Tuple [.Name x px, .Name y py] kt pt] (.Tuple [a, b] k2 pt2) pos) D σ H := by
  have hw : swappedStores [.Tuple [.Name x px, .Name y py] kt pt] (.Tuple [a, b] k2 pt2) X.env = pure (some [x, y]) := by
    have e1 : ([x, y] : List Str).eraseDups.length = 2 := by
      have : ¬ (y == x) = true := by rw [hne]; exact Bool.false_ne_true
      simp [List.eraseDups_cons, hne]
    unfold swappedStores
    simp only [hk, hx, hy, hl, h2, h3, List.length_cons, List.length_nil, List.head?_cons, Option.map_some, Option.getD_some, List.filterMap_cons, List.filterMap_nil, Expr.pos, beq_self_eq_true, Bool.and_self, Bool.and_true, if_true, e1]
    rw [if_neg (by decide)]
    refine (if_neg (fun q => Bool.false_ne_true (h1.symm.trans q))).trans ?_
    rw [if_neg (by decide), if_neg Bool.false_ne_true, if_neg Bool.false_ne_true]
  exact wsP (ps_par B.calm n.nd n.at_ n'.at_ hii hx hy paS hw) (wa_two (we_mono h fun v H1 q => we_mono q fun w H2 q => ⟨v, w, rfl, q⟩) hs ht)
end
end Rs

namespace Rs
open PySem PySem.Spec PyProof.Rows L2

section
variable {X : Cx} {σ : L2.St} {H : Hp} {D : Ends} {Q Q' : VK} {QT QT' : Bool → Hp → Prop} {QA QA' : List V → Hp → Prop} {k j : Nat} {E : L2.St → XK} {x m : Str} {sp : Sp} {p pos apos : Pos} {e o a b c : Expr} {es : List Expr} {C : Addr}

theorem wt_mono (h : WT X e σ H QT) (z : ∀ v H', QT v H' → QT' v H') : WT X e σ H QT' := fun pins s I => thn (h pins s I) fun u s' y => by
  obtain ⟨H', I', q⟩ := y
  exact ⟨H', I', z u H' q⟩
theorem op2_mono {f : Value → Value → Sem Value} {v w : V} (h : Op2 X f v w H Q) (z : ∀ v H', Q v H' → Q' v H') : Op2 X f v w H Q' := fun pins s σ u v I r1 r2 => thn (h pins s σ u v I r1 r2) fun u s' y => by
  obtain ⟨v, H', I', r, q⟩ := y
  exact ⟨v, H', I', r, z v H' q⟩
/-! ### whiles and fors -/
theorem ws_while_by {body : List Stmt} (P : L2.St → Hp → Prop) (μ : L2.St → Hp → Nat) (B : Body X k E) (h0 : P σ H)
    (hs : ∀ σ H, P σ H → WT X c σ H fun r H1 => if r = true then WB X body { D with nx := fun σ' H' => P σ' H' ∧ μ σ' H' < μ σ H, ct := fun σ' H' => P σ' H' ∧ μ σ' H' < μ σ H, bk := D.nx } σ H1 else D.nx σ H1) : WS X (.While c body [] pos) D σ H :=
  ws_while B.po (while_by P μ h0 hs fun _ _ _ _ z h => wt_mono h z)
theorem ws_for_range {i : Nat} {x : Str} {body : List Stmt} {pr pc px : Pos} {n : Int} (B : Body X k E) (s : Sl X i x) (bn : Bn X "range") (P : Nat → L2.St → Hp → Prop)
    (h : WE X a σ H fun v H1 => v = .int n ∧ P 0 σ H1)
    (ht : ∀ j σ H, j < n.toNat → P j σ H → WB X body { D with nx := P (j + 1), ct := P (j + 1), bk := D.nx } (σ.set i (some (.int j))) H) (hd : ∀ σ H, P n.toNat σ H → D.nx σ H) (lo : -1000000000 ≤ n := by decide) (hi : n ≤ 1000000000 := by decide)
    (hs : starEach [a] X.env = [(false, eval a X.env)] := by rfl) : WS X (.For (.Name x px) (.Call (.Name "range" pr) [a] [] pc) body [] pos) D σ H := by
  refine wsP (ps_for B.po B.calm (pi_range1 bn.gl bn.no paS hs) (pg_name s.nd s.at_ s.loc s.fn) pbS) ?_
  refine wa_one (we_mono h fun v H1 q => ?_) hs
  obtain ⟨rfl, q⟩ := q
  refine ⟨n, rfl, by omega, by omega, for_range (lo := 0) P q (fun j σ H hj p => ?_) hd⟩
  have z := ht j σ H hj p
  show WB X body _ (σ.set i (some (.int (0 + (j : Int))))) H
  rw [Int.zero_add]
  exact z
/-- for x in a list that stands still -/
theorem ws_for_list {i : Nat} {x : Str} {body : List Stmt} {px : Pos} {xs : List V} (B : Body X k E) (s : Sl X i x) (P : Nat → L2.St → Hp → Prop)
    (h : WE X a σ H fun v H1 => ∃ l, v = .ref l ∧ P 0 σ H1 ∧ (∀ j σ H, j ≤ xs.length → P j σ H → SqL X.K H l xs))
    (ht : ∀ j v σ H, xs[j]? = some v → P j σ H → WB X body { D with nx := P (j + 1), ct := P (j + 1), bk := D.nx } (σ.set i (some v)) H) (hd : ∀ σ H, P xs.length σ H → D.nx σ H) (hs : ∀ v, foldedSetIterable a X.env v = pure v := by intro _; rfl) : WS X (.For (.Name x px) a body [] pos) D σ H := by
  refine wsP (ps_for B.po B.calm (pi_list peS) (pg_name s.nd s.at_ s.loc s.fn) pbS hs) ?_
  refine we_mono h fun v H1 q => ?_
  obtain ⟨l, rfl, q0, hl⟩ := q
  exact ⟨l, rfl, ⟨xs, hl 0 σ H1 (Nat.zero_le _) q0⟩, for_list P q0 hl ht hd⟩
theorem ws_for_tup {i : Nat} {x : Str} {body : List Stmt} {px : Pos} {xs : List V} (B : Body X k E) (s : Sl X i x) (P : Nat → L2.St → Hp → Prop)
    (h : WE X a σ H fun v H1 => ∃ l, v = .ref l ∧ P 0 σ H1 ∧ (∀ j σ H, j ≤ xs.length → P j σ H → SqT X.K H l xs))
    (ht : ∀ j v σ H, xs[j]? = some v → P j σ H → WB X body { D with nx := P (j + 1), ct := P (j + 1), bk := D.nx } (σ.set i (some v)) H) (hd : ∀ σ H, P xs.length σ H → D.nx σ H) (hs : ∀ v, foldedSetIterable a X.env v = pure v := by intro _; rfl) : WS X (.For (.Name x px) a body [] pos) D σ H := by
  refine wsP (ps_for B.po B.calm (pi_tup peS) (pg_name s.nd s.at_ s.loc s.fn) pbS hs) ?_
  refine we_mono h fun v H1 q => ?_
  obtain ⟨l, rfl, q0, hl⟩ := q
  exact ⟨l, rfl, ⟨xs, hl 0 σ H1 (Nat.zero_le _) q0⟩, for_tup P q0 hl ht hd⟩

/-! ### ints -/
variable {i l : Int}
theorem o_add (q : Q (.int (i + l)) H) : Op2 X (binaryOp .Add) (.int i) (.int l) H Q := op2_of op_add ⟨i, l, rfl, rfl, q⟩
theorem o_sub (q : Q (.int (i - l)) H) : Op2 X (binaryOp .Sub) (.int i) (.int l) H Q := op2_of op_sub ⟨i, l, rfl, rfl, q⟩
theorem o_mul (hc : CMulW i l) (q : Q (.int (i * l)) H) : Op2 X (binaryOp .Mult) (.int i) (.int l) H Q := op2_of op_mulW ⟨i, l, rfl, rfl, hc, q⟩
theorem o_mod (hc : 0 < l) (q : Q (.int (i % l)) H) : Op2 X (binaryOp .Mod) (.int i) (.int l) H Q := op2_of op_mod ⟨i, l, rfl, rfl, hc, q⟩
/-- // by any divisor of less than 9000 bits -/
theorem o_fdiv (hc : l ≠ 0) (hz : l.natAbs.log2 < 9000) (q : Q (.int (i.fdiv l)) H) : Op2 X (binaryOp .FloorDiv) (.int i) (.int l) H Q := by
  intro pins s σ u v I ru rv
  obtain ⟨t, rfl⟩ := ru
  obtain ⟨t', rfl⟩ := rv
  exact floordiv_int hc ⟨.int (i.fdiv l), H, I.tok _, ⟨_, rfl⟩, q⟩ (.inl (PyProof.noPylong_of_log2 hz))
theorem log2_small {n m : Nat} (h : n < 2 ^ m) (hm : 0 < m) (h9 : m ≤ 9000) : n.log2 < 9000 := Nat.lt_of_lt_of_le (PySem.Flt.log2_lt_of hm h) h9
theorem o_pow (hc : CPow i l) (q : Q (.int (i ^ l.toNat)) H) : Op2 X (binaryOp .Pow) (.int i) (.int l) H Q := op2_of op_pow ⟨i, l, rfl, rfl, hc, q⟩
theorem o_lt (q : Q (.bl (decide (i < l))) H) : Op2 X (compareOp .Lt) (.int i) (.int l) H Q := op2_of op_lt ⟨i, l, rfl, rfl, q⟩
theorem o_le (q : Q (.bl (decide (i ≤ l))) H) : Op2 X (compareOp .LtE) (.int i) (.int l) H Q := op2_of op_le ⟨i, l, rfl, rfl, q⟩
theorem o_gt (q : Q (.bl (decide (l < i))) H) : Op2 X (compareOp .Gt) (.int i) (.int l) H Q := op2_of op_gt ⟨i, l, rfl, rfl, q⟩
theorem o_ge (q : Q (.bl (decide (l ≤ i))) H) : Op2 X (compareOp .GtE) (.int i) (.int l) H Q := op2_of op_ge ⟨i, l, rfl, rfl, q⟩
theorem o_eq (q : Q (.bl (decide (i = l))) H) : Op2 X (compareOp .Eq) (.int i) (.int l) H Q := op2_of op_eq ⟨rfl, by rw [show decide (V.int i = V.int l) = decide (i = l) from by simp]; exact q⟩
theorem o_ne (q : Q (.bl (!decide (i = l))) H) : Op2 X (compareOp .NotEq) (.int i) (.int l) H Q := op2_of op_ne ⟨rfl, by rw [show decide (V.int i = V.int l) = decide (i = l) from by simp]; exact q⟩
theorem o_eqB {r t : Bool} (q : Q (.bl (r == t)) H) : Op2 X (compareOp .Eq) (.bl r) (.bl t) H Q := op2_of op_eq ⟨rfl, by rw [show decide (V.bl r = V.bl t) = (r == t) from by cases r <;> cases t <;> rfl]; exact q⟩
theorem o_neB {r t : Bool} (q : Q (.bl (r != t)) H) : Op2 X (compareOp .NotEq) (.bl r) (.bl t) H Q := op2_of op_ne ⟨rfl, by rw [show (!decide (V.bl r = V.bl t)) = (r != t) from by cases r <;> cases t <;> rfl]; exact q⟩
theorem o_eqS {r t : Str} (q : Q (.bl (decide (r = t))) H) : Op2 X (compareOp .Eq) (.str r) (.str t) H Q := op2_of op_eq ⟨rfl, by rw [show decide (V.str r = V.str t) = decide (r = t) from by simp]; exact q⟩
theorem o_neS {r t : Str} (q : Q (.bl (!decide (r = t))) H) : Op2 X (compareOp .NotEq) (.str r) (.str t) H Q := op2_of op_ne ⟨rfl, by rw [show decide (V.str r = V.str t) = decide (r = t) from by simp]; exact q⟩
theorem o_isN {v : V} (q : Q (.bl (decide (v = .non))) H) : Op2 X (compareOp .Is) v .non H Q := op2_of op_isN ⟨rfl, q⟩
theorem o_notN {v : V} (q : Q (.bl (!decide (v = .non))) H) : Op2 X (compareOp .IsNot) v .non H Q := op2_of op_notN ⟨rfl, q⟩
theorem o_neg (q : Q (.int (-i)) H) : Op1 X (unaryOp .USub) (.int i) H Q := op1_of un_neg ⟨i, rfl, q⟩
/-! ### small ends -/
theorem bl_ok {r : Bool} {P : Bool → Prop} (h : P r) : ∃ c, V.bl r = V.bl c ∧ P c := ⟨r, rfl, h⟩
theorem int_ok {P : Int → Prop} (h : P i) : ∃ c, V.int i = V.int c ∧ P c := ⟨i, rfl, h⟩
theorem ite_dec {c A B : Prop} [Decidable c] (h1 : c → A) (h2 : ¬ c → B) : if decide c = true then A else B := by
  by_cases h : c
  · rw [decide_eq_true h]; exact iteT (h1 h)
  · rw [decide_eq_false h]; exact iteF (h2 h)
theorem ite_ndec {c A B : Prop} [Decidable c] (h1 : ¬ c → A) (h2 : c → B) : if (!decide c) = true then A else B := by
  by_cases h : c
  · rw [decide_eq_true h]; exact iteF (h2 h)
  · rw [decide_eq_false h]; exact iteT (h1 h)
theorem ite_b {r : Bool} {A B : Prop} (h1 : r = true → A) (h2 : r = false → B) : if r = true then A else B := by
  cases r with
  | true => exact iteT (h1 rfl)
  | false => exact iteF (h2 rfl)
end
end Rs

namespace Rs
open PySem PySem.Spec PyProof.Rows L2
section
variable {P : Program} {w : World} {K : PySem.W.Frag} {mg : Str → Option Value} {base : Heap} {N : List Str} {qual : Str} {sc : Scope} {f : Addr} {cdv : Value} {A : Around} {outer : List Env} {s : Shared} {H : Hp} {E : XK} {k : Nat}
abbrev bx (P : Program) (w : World) (K : PySem.W.Frag) (mg : Str → Option Value) (base : Heap) (N : List Str) (qual : Str) (sc : Scope) (f : Addr) (cdv : Value) (A : Around) (outer : List Env) (s : Shared) (H : Hp) (E : XK) : Cx := cxOf (RX P w) P w K mg base N qual sc f cdv A outer s H E
theorem body_of (hr : Room k (A.deeper (envOfC qual sc s.heap.objs.size f cdv))) : Body (bx P w K mg base N qual sc f cdv A outer s H E) k fun _ => E := ⟨rfl, hr, L2N.takes_of rfl rfl rfl rfl, passes_of rfl, fun _ => rfl, fun _ => rfl⟩
end
end Rs

namespace Rs
open PySem PySem.Spec PyProof.Rows L2 He

/-! ### a def by its body, over any context that runs it -/
section
variable {P : Program} {w : World} {K : PySem.W.Frag} {mg : Str → Option Value} {base : Heap} {N ps : List Str} {name qual : Str} {pa : Arguments} {body : List Stmt} {sc : Scope} {dvs : List V} {kws : List (Str × V)} {f : Addr} {fd : FuncData} {k : Nat} {sp : Sp}
theorem def_ok (F : FunD K name qual pa body sc dvs kws f fd) (S : FnScope N ps sc) (len : ∀ vs H Q E, sp vs H Q E → vs.length = ps.length)
    (hb : ∀ (X : Cx), X.prog = P → X.w = w → X.K = K → X.mg = mg → X.base = base → X.N = N → X.env.scope = sc → (∀ x, X.fn x = true) → N.Nodup → ∀ (H : Hp) (vs : List V) (Q : VK) (E : XK), Body X k (fun _ => E) → sp vs H Q E → WB X body { nx := fun _ H' => Q .non H', rt := Q } (start N vs) H) :
    FnOk P w K mg base (RX P w) (k + 1) f fd ps sp :=
  F.ok S len fun cdv A outer s H vs Q E hr h => ⟨_, pbS, hb (bx P w K mg base N qual sc f cdv A outer s H E) rfl rfl rfl rfl rfl rfl rfl (fun _ => rfl) S.nd H vs Q E (body_of hr) h⟩
end
section
variable {X : Cx} {N : List Str} {sc : Scope} {i : Nat} {x : Str}
theorem slot_of (eN : X.N = N) (es : X.env.scope = sc) (hf : ∀ x, X.fn x = true) (nd : N.Nodup) (hi : N[i]? = some x) (hl : Loc sc x) (d1 : (x == ("__debug__" : Str)) = false) (d2 : (x == ("__classdict__" : Str)) = false) : Sl X i x :=
  ⟨by rw [eN]; exact hi, by rw [eN]; exact nd, by rw [es]; exact hl, .inl (hf x), d1, d2⟩
theorem gn_of (es : X.env.scope = sc) (h : sc.names.lookup x = some .globalImplicit) (d1 : (x == ("__debug__" : Str)) = false) : Gn X x := ⟨by unfold Gl Env.kindOf; rw [es]; exact h, d1⟩
theorem bn_of (es : X.env.scope = sc) (h : sc.names.lookup x = some .globalImplicit) (no : X.mg x = none) : Bn X x := ⟨by unfold Gl Env.kindOf; rw [es]; exact h, no⟩
theorem kd_of {r : NameKind} (es : X.env.scope = sc) (h : sc.names.lookup x = some r) : X.env.kindOf x = some r := by unfold Env.kindOf; rw [es]; exact h
theorem blk_of (es : X.env.scope = sc) (h : sc.kind = .function) : X.env.blockKind = .function := by
  unfold Env.blockKind
  rw [es, h]
  rfl
end

/-! ### what the head tells: any facts of the written part, and each def by its place -/
theorem DefA.fun_ {d : DefA} {K : PySem.W.Frag} (hc : d.clo = false) (e : d.seen K = d.told) (c : d.good K = true) : ∃ fd, FunD K d.name d.qual d.params d.body d.scope (d.dvs K) (d.kws K) (d.ad K) fd := by
  obtain ⟨kp, c⟩ := ba c
  unfold DefA.seen at e
  rw [hc] at e c
  generalize hl : K.lookup (d.ad K) = lk at e c
  match lk, e, c with
  | some ⟨oc, od, .func ⟨m1, m2, m3, m4, m5, m6, m7, m8, m9, m10, m11, m12, m13, m14, m15⟩, osl⟩, e, c =>
    have e' : (some (m1, m2, m3, m4, m5, m6, m7, m15) : FnW) = d.told := e
    unfold DefA.told at e'
    injection e' with e'
    injection e' with h1 e'
    injection e' with h2 e'
    injection e' with h3 e'
    injection e' with h4 e'
    injection e' with h5 e'
    injection e' with h6 e'
    injection e' with h7 h8
    subst h1 h2 h3 h4 h5 h6 h7 h8
    obtain ⟨k1, c⟩ := ba (show (PySem.W.codeIn K m13 d.qual && (dflB K m8 (d.dvs K) && kwdB K m9 (d.kws K))) = true from c)
    obtain ⟨k2, k3⟩ := ba c
    exact ⟨_, ⟨oc, od, m8, m9, m10, m11, m12, m13, m14, osl, rfl, hl, k1, dflB_ok k2, kwdB_ok k3⟩, kp⟩
/-- a def that closes over its class's cell: all but the closure -/
theorem DefA.funC {d : DefA} {K : PySem.W.Frag} (hc : d.clo = true) (e : d.seen K = d.told) (c : d.good K = true) : ∃ (oc : Value) (od : Option Addr) (cl : List (Str × Addr)) (dV kV doc pm : Value) (an : Option Addr) (cdv ct : Value) (osl : Array (Option Value)),
    K.lookup (d.ad K) = some ⟨oc, od, .func (PySem.W.fnX d.name d.qual d.params d.body d.scope cl dV kV doc pm an cdv ct), osl⟩ ∧ PySem.W.codeIn K cdv d.qual = true := by
  obtain ⟨kp, c⟩ := ba c
  unfold DefA.seen at e
  rw [hc] at e c
  generalize hl : K.lookup (d.ad K) = lk at e c
  match lk, e, c with
  | some ⟨oc, od, .func ⟨m1, m2, m3, m4, m5, m6, m7, m8, m9, m10, m11, m12, m13, m14, m15⟩, osl⟩, e, c =>
    have e' : (some (m1, m2, m3, m4, m5, m6, [], m15) : FnW) = d.told := e
    unfold DefA.told at e'
    injection e' with e'
    injection e' with h1 e'
    injection e' with h2 e'
    injection e' with h3 e'
    injection e' with h4 e'
    injection e' with h5 e'
    injection e' with h6 e'
    injection e' with h7 h8
    subst h1 h2 h3 h4 h5 h6 h8
    obtain ⟨k1, c⟩ := ba (show (PySem.W.codeIn K m13 d.qual && _) = true from c)
    exact ⟨oc, od, m7, m8, m9, m10, m11, m12, m13, m14, osl, rfl, k1⟩
/-- a module's def; a class's method; a property's getter, setter -/
def aG (x : Str) : PySem.W.Frag → Addr := fun K => ga K x
def aM (C m : Str) : PySem.W.Frag → Addr := fun K => ma K (ga K C) m
def aP (C m : Str) : PySem.W.Frag → Addr := fun K => pgA K (ga K C) m
/-! ### the objects that the top leaves, layer by layer; those seen are kept as the bits of a number -/
theorem obX_eq (n : Nat) (ψ : List (PySem.W.Frag → Bool)) (fn : List DefA) (s : PySem.W.SharedT) : obX n ψ fn s = (hookX n ψ fn).obs s.abs := by
  have e : HandSHeadRun.getT s = s.abs.heap.get? := funext (HandSHeadRun.getT_eq s)
  show obsX ψ fn (frG (HandSHeadRun.getT s) ((asY (HandSHeadRun.getT s) n).reverse ++ [cStatics])) = obsX ψ fn (frG s.abs.heap.get? ((asY s.abs.heap.get? n).reverse ++ [cStatics]))
  rw [e]
section
variable {ψ : List (PySem.W.Frag → Bool)} {fn : List DefA} {K : PySem.W.Frag}
theorem SaysX.fact (c : SaysX ψ fn K) (i : Nat) {b : PySem.W.Frag → Bool} (h : ψ[i]? = some b := by rfl) : b K = true := c.all.1 b (List.mem_of_getElem? h)
theorem SaysX.dfn (c : SaysX ψ fn K) (i : Nat) {d : DefA} (h : fn[i]? = some d := by rfl) (hc : d.clo = false := by rfl) : ∃ fd, FunD K d.name d.qual d.params d.body d.scope (d.dvs K) (d.kws K) (d.ad K) fd :=
  DefA.fun_ hc (c.all.2.2 d (List.mem_of_getElem? h)) (c.all.2.1 d (List.mem_of_getElem? h))
theorem SaysX.dfc (c : SaysX ψ fn K) (i : Nat) {d : DefA} (h : fn[i]? = some d := by rfl) (hc : d.clo = true := by rfl) : ∃ (oc : Value) (od : Option Addr) (cl : List (Str × Addr)) (dV kV doc pm : Value) (an : Option Addr) (cdv ct : Value) (osl : Array (Option Value)),
    K.lookup (d.ad K) = some ⟨oc, od, .func (PySem.W.fnX d.name d.qual d.params d.body d.scope cl dV kV doc pm an cdv ct), osl⟩ ∧ PySem.W.codeIn K cdv d.qual = true :=
  DefA.funC hc (c.all.2.2 d (List.mem_of_getElem? h)) (c.all.2.1 d (List.mem_of_getElem? h))
end

/-! ### looks at a class -/
theorem binOwn_ok {K : PySem.W.Frag} {C f : Addr} {op : Operator} (h : binOwnB K C f op = true) : BinOwn K C f op := by
  obtain ⟨h1, h⟩ := ba h
  obtain ⟨h2, h⟩ := ba h
  obtain ⟨h3, h⟩ := ba h
  obtain ⟨h4, h⟩ := ba h
  obtain ⟨h5, h⟩ := ba h
  obtain ⟨h6, h7⟩ := ba h
  obtain ⟨fo, h5⟩ := Option.isSome_iff_exists.mp h5
  obtain ⟨ro, h6⟩ := Option.isSome_iff_exists.mp h6
  refine ⟨h1, of_decide_eq_true h2, h3, ?_, ⟨fo, ro, h5, h6⟩, of_decide_eq_true h7⟩
  cases q : PySem.W.findIn K (.ref C) (dunderR op.info.2) with
  | none => rw [q] at h4; cases h4
  | some rc =>
    rw [q] at h4
    refine ⟨rc, rfl, ?_⟩
    match rc, h4 with
    | none, _ => exact .inl rfl
    | some (.ref g), _ => exact .inr ⟨g, rfl⟩
theorem binRef_ok {K : PySem.W.Frag} {C f g : Addr} {op : Operator} (h : binRefB K C f g op = true) : BinRef K C g op := by
  obtain ⟨h1, h⟩ := ba h
  obtain ⟨h2, h⟩ := ba h
  obtain ⟨h3, h⟩ := ba h
  obtain ⟨h4, h5⟩ := ba h
  exact ⟨h1, ⟨f, of_decide_eq_true h2⟩, of_decide_eq_true h3, h4, of_decide_eq_true h5⟩
theorem cmpOwn_ok {K : PySem.W.Frag} {C f : Addr} {op : CmpOp} (h : cmpOwnB K C f op = true) : CmpOwn K C f op := by
  obtain ⟨h1, h⟩ := ba h
  obtain ⟨h2, h3⟩ := ba h
  exact ⟨of_decide_eq_true h1, h2, h3⟩
theorem cmpRef_ok {K : PySem.W.Frag} {C g : Addr} {op : CmpOp} (h : cmpRefB K C g op = true) : CmpRef K C g op := by
  obtain ⟨h1, h⟩ := ba h
  obtain ⟨h2, h3⟩ := ba h
  exact ⟨of_decide_eq_true h1, h2, of_decide_eq_true h3⟩
theorem negOwn_ok {K : PySem.W.Frag} {C f : Addr} (h : negOwnB K C f = true) : NegOwn K C f := by
  obtain ⟨h1, h2⟩ := ba h
  exact ⟨of_decide_eq_true h1, h2⟩
theorem noInpl_ok {K : PySem.W.Frag} {C : Addr} {op : Operator} (h : noInplB K C op = true) : NoInpl K C op := by
  obtain ⟨h1, h⟩ := ba h
  obtain ⟨h2, h3⟩ := ba h
  refine ⟨?_, of_decide_eq_true h2, of_decide_eq_true h3⟩
  cases q : PySem.W.clsIn K C with
  | none => rw [q] at h1; cases h1
  | some cd => rw [q] at h1; exact ⟨cd, rfl, of_decide_eq_true h1⟩
theorem prop_ok {K : PySem.W.Frag} {C : Addr} {m : Str} (h : propB K C m = true) : PropOf K C m (ma K C m) (pgA K C m) := by
  obtain ⟨h1, h⟩ := ba h
  obtain ⟨h2, h⟩ := ba h
  obtain ⟨h3, h4⟩ := ba h
  refine ⟨of_decide_eq_true h1, of_decide_eq_true h2, of_decide_eq_true h3, ?_⟩
  generalize hr : PySem.W.recIn K (ma K C m) "property" = r at h4
  match r, h4 with
  | some (.ref g :: rest), h4 => exact ⟨rest, by rw [of_decide_eq_true h4]⟩
theorem isC_ok {K : PySem.W.Frag} {x : Str} (h : isCB K x = true) : IsC K (ga K x) := by
  obtain ⟨h1, h⟩ := ba h
  obtain ⟨h2, h⟩ := ba h
  obtain ⟨h3, h⟩ := ba h
  obtain ⟨h4, h5⟩ := ba h
  exact ⟨cls_ok h1, of_decide_eq_true h2, of_decide_eq_true h3, of_decide_eq_true h4, of_decide_eq_true h5⟩
/-- isinstance's answers for the class of the name x, by the kinds of values -/
structure KitC (K : PySem.W.Frag) (C : Addr) : Prop where
  self : PySem.W.kitOne K (.ref C) (.ref C) = some true
  int : PySem.W.kitOne K (.ref C) (.type "int") = some false
  bool : PySem.W.kitOne K (.ref C) (.type "bool") = some false
  str : PySem.W.kitOne K (.ref C) (.type "str") = some false
  ofInt : PySem.W.kitOne K (.type "int") (.ref C) = some false
  ofBool : PySem.W.kitOne K (.type "bool") (.ref C) = some false
  ofStr : PySem.W.kitOne K (.type "str") (.ref C) = some false
  ofNone : PySem.W.kitOne K (.type "NoneType") (.ref C) = some false
  ofTup : PySem.W.kitOne K (.type "tuple") (.ref C) = some false
  ofLst : PySem.W.kitOne K (.type "list") (.ref C) = some false
theorem kitC_ok {K : PySem.W.Frag} {C : Addr} (h : kitCB K C = true) : KitC K C := by
  obtain ⟨h1, h⟩ := ba h
  obtain ⟨h2, h⟩ := ba h
  obtain ⟨h3, h⟩ := ba h
  obtain ⟨h4, h5⟩ := ba h
  have z := fun n hn => of_decide_eq_true (List.all_eq_true.mp h5 n hn)
  exact ⟨of_decide_eq_true h1, of_decide_eq_true h2, of_decide_eq_true h3, of_decide_eq_true h4, z _ (by simp), z _ (by simp), z _ (by simp), z _ (by simp), z _ (by simp), z _ (by simp)⟩
end Rs

namespace Rs
open PySem PySem.Spec PyProof.Rows L2 He PySem.Calls
/-! ### a body whose exceptions nobody waits for (the law itself) -/
section
variable {P : Program} {w : World} {K : PySem.W.Frag} {mg : Str → Option Value} {base : Heap} {N ps : List Str} {name qual : Str} {pa : Arguments} {body : List Stmt} {sc : Scope} {dvs : List V} {kws : List (Str × V)} {f : Addr} {fd : FuncData} {k : Nat} {sp : Sp}
theorem def_okN (F : FunD K name qual pa body sc dvs kws f fd) (S : FnScope N ps sc) (len : ∀ vs H Q E, sp vs H Q E → vs.length = ps.length)
    (hb : ∀ (X : Cx), X.prog = P → X.w = w → X.K = K → X.mg = mg → X.base = base → X.N = N → X.env.scope = sc → (∀ x, X.fn x = true) → N.Nodup → ∀ (H : Hp) (vs : List V) (Q : VK) (E : XK), Body X k (fun _ => E0) → sp vs H Q E → WB X body { nx := fun _ H' => Q .non H', rt := Q } (start N vs) H) :
    FnOk P w K mg base CX0 (k + 1) f fd ps sp :=
  F.ok S len fun cdv A outer s H vs Q E hr h => ⟨_, pbS, hb (cxOf CX0 P w K mg base N qual sc f cdv A outer s H E) rfl rfl rfl rfl rfl rfl rfl (fun _ => rfl) S.nd H vs Q E ⟨rfl, hr, (fun _ _ x => by obtain ⟨_, _, _, _, _, _, _, _, _, _, _, _, _, _, _, _, z⟩ := x; exact z.elim), passes_of rfl, fun _ => rfl, fun _ => rfl⟩ h⟩
theorem GFn.mk {x : Str} (F : FunD K name qual pa body sc [] kws f fd) (hm : mg x = some (.ref f)) (ok : FnOk P w K mg base (RX P w) k f fd ps sp) (hb : Binds K fd ps []) : GFn P w K mg base k x sp :=
  ⟨f, hm, F.kp, (FnOk.raw ok hb .nil).imp fun vs H Q E h => by rw [List.append_nil]; exact h⟩
end
theorem raw_of {P : Program} {w : World} {K : PySem.W.Frag} {mg : Str → Option Value} {base : Heap} {ps : List Str} {name qual : Str} {pa : Arguments} {body : List Stmt} {sc : Scope} {kws : List (Str × V)} {f : Addr} {fd : FuncData} {k : Nat} {sp : Sp} (F : FunD K name qual pa body sc [] kws f fd)
    (ok : FnOk P w K mg base (RX P w) k f fd ps sp) (hb : Binds K fd ps []) : FnR P w K mg base (RX P w) k f sp := (FnOk.raw ok hb .nil).imp fun vs H Q E h => by rw [List.append_nil]; exact h
/-! ### abs(x) of an own class -/
structure AbsOwn (K : PySem.W.Frag) (C f : Addr) : Prop where
  at_ : PySem.W.findIn K (.ref C) "__abs__" = some (some (.ref f))
  fn : PySem.W.isFn K (.ref f) = true
theorem absOwn_ok {K : PySem.W.Frag} {C f : Addr} (h : absOwnB K C f = true) : AbsOwn K C f := by
  obtain ⟨h1, h2⟩ := ba h
  exact ⟨of_decide_eq_true h1, h2⟩
theorem abs_own {prog : Program} {w : World} {A : Around} {R : Value → Shared → Prop} {P : Value → Shared → Prop} {s : Shared} {K : PySem.W.Frag} {x C f : Addr} {ox : Obj} {od : Option Obj} (KX : K.In s.heap) (J : PySem.W.InstAt s.heap x ox C od)
    (c : AbsOwn K C f) (h : wpAny (model prog w) A.in1 (call (.ref f) [.ref x]) P R s) : wpAny (model prog w) A (call (.builtin "abs") [.ref x]) P R s := by
  refine call_function_entry kind_abs plain_abs entry_abs (args_abs _) ?_
  unfold Builtin.«abs»
  refine wpAny_bind (wpAny_of_eq (a := Value.ref x) rfl ?_)
  refine wpAny_bind (PySem.W.special_fn KX J c.at_ (beq_iff_eq.mp c.fn) (wpAny_mono h (fun v s' q => ?_) fun _ _ z => z))
  exact wpAny_pure ⟨_, rfl, q⟩
theorem we_absT {X : Cx} {σ : L2.St} {H : Hp} {Q : VK} {k j : Nat} {E : XK} {C f : Addr} {sp : Sp} {a : Expr} {p pos : Pos} (bn : Bn X "abs") (B : Body X k fun _ => E) (c : AbsOwn X.K C f) (F : FnR X.prog X.w X.K X.mg X.base (RX X.prog X.w) j f sp) (hj : j + 1 ≤ k)
    (h : WE X a σ H fun v H1 => ∃ x dx fs, v = .ref x ∧ H1 x = some (.ins C dx fs) ∧ sp [.ref x] H1 Q E) (hs : starEach [a] X.env = [(false, eval a X.env)] := by rfl) (hl : (backTo pos (starEach [] X.env)).any (·.1) = false := by rfl) :
    WE X (.Call (.Name "abs" p) [a] [] pos) σ H Q := by
  have hc : CallR X (.builtin "abs") fun xs H Q => ∃ x dx fs, xs = [.ref x] ∧ H x = some (.ins C dx fs) ∧ sp [.ref x] H Q E := by
    intro pins s σ H xs us Q I r q
    obtain ⟨x, dx, fs, rfl, ea, q⟩ := q
    obtain ⟨u, rfl, ru⟩ := vals1 r
    cases ru
    obtain ⟨od, J⟩ := inst_of I ea
    exact abs_own I.kIn J c (wpAny_call (SlX.run_at (us := [.ref x]) (ws := [.ref x]) F (B.room.mono hj).in1 I.env0.in1 B.pass I (.cons rfl .nil) q))
  exact we_callB hc bn boot_abs (wa_one (we_mono h fun v H1 q => by
    obtain ⟨x, dx, fs, rfl, q⟩ := q
    exact ⟨x, dx, fs, rfl, q⟩) hs) (by decide) (by decide) hs hl
end Rs

namespace Rs
open PySem PySem.Spec PyProof.Rows L2 He
/-! ### raise of an own class of errors without an __init__ of its own -/
structure ExcPlain (K : PySem.W.Frag) (C : Addr) : Prop where
  ex : PySem.W.excIn K C veBase "ValueError.__new__" = true
  kp : PySem.W.keepIn K (.ref C) = true
  sb : PySem.W.subIn K (.ref C) (.type "BaseException") = some true
  ty : PySem.W.typeIn K (.ref C) = some (.type "type")
theorem excPlain_ok {K : PySem.W.Frag} {C : Addr} (h : excPlainB K C = true) : ExcPlain K C := by
  obtain ⟨h1, h⟩ := ba h
  obtain ⟨h2, h⟩ := ba h
  obtain ⟨h3, h4⟩ := ba h
  exact ⟨h1, h2, of_decide_eq_true h3, of_decide_eq_true h4⟩
theorem ws_raise {X : Cx} {k : Nat} {E : L2.St → XK} {D : Ends} {σ : L2.St} {H : Hp} {x m : Str} {j : Nat} {p p2 pos pos2 : Pos} {C : Addr} (B : Body X k E) (g : Gn X x) (hm : X.mg x = some (.ref C)) (c : ExcPlain X.K C) (h : E σ (.ref C) none H) :
    WS X (.Raise (some (.Call (.Name x p) [.Constant (.str m) j p2] [] pos)) none pos2) D σ H :=
  wsP (L2N.ps_raise B.calm B.tk (L2N.pmk_own PySem.F.excBase_ValueError c.ex hm c.kp (raises_own c.sb c.ty) g.gl g.d1)) h
section
variable {X : Cx} {σ : L2.St} {H : Hp} {Q : VK} {x : Str} {pos : Pos}
theorem we_ref {C : Addr} (g : Gn X x) (hm : X.mg x = some (.ref C)) (q : Q (.ref C) H) : WE X (.Name x pos) σ H Q := we_glob (v := .ref C) g hm rfl q
theorem we_cint {i : Int} {t : Tok} (g : Gn X x) (hm : X.mg x = some (.int i t)) (q : Q (.int i) H) : WE X (.Name x pos) σ H Q := we_glob (v := .int i) g hm ⟨t, rfl⟩ q
theorem we_cstr {z : Str} {t : Tok} (g : Gn X x) (hm : X.mg x = some (.str z t)) (q : Q (.str z) H) : WE X (.Name x pos) σ H Q := we_glob (v := .str z) g hm ⟨t, rfl⟩ q
end
theorem iteNT {A B : Prop} (h : B) : if (!true) = true then A else B := iteF h
theorem iteNF {A B : Prop} (h : A) : if (!false) = true then A else B := iteT h
theorem ite_nb {r : Bool} {A B : Prop} (h1 : r = false → A) (h2 : r = true → B) : if (!r) = true then A else B := by
  cases r with
  | false => exact iteT (h1 rfl)
  | true => exact iteF (h2 rfl)
/-! ### a time's fields -/
theorem ou_ : ¬ (("under_line" : Str) = "over_line") := by decide +kernel
theorem uo_ : ¬ (("over_line" : Str) = "under_line") := by decide +kernel
theorem tfs_put (q : Rat) : putF "under_line" (.int q.den) (putF "over_line" (.int q.num) []) = tfs q := by
  show (if ("over_line" : Str) = "under_line" then [(("over_line" : Str), V.int q.den)] else (("over_line" : Str), V.int q.num) :: putF "under_line" (V.int q.den) []) = _
  rw [if_neg uo_]
  rfl
theorem tfs_over (q : Rat) : (tfs q).lookup ("over_line" : Str) = some (.int q.num) := by
  unfold tfs
  rw [List.lookup_cons_self]
theorem tfs_under (q : Rat) : (tfs q).lookup ("under_line" : Str) = some (.int q.den) := by
  unfold tfs
  rw [List.lookup_cons]
  have e : (("under_line" : Str) == "over_line") = false := by simpa using ou_
  rw [e, List.lookup_cons_self]
end Rs

namespace Rs
open PySem PySem.Spec PyProof.Rows L2 He
section
variable {X : Cx} {σ : L2.St} {H : Hp} {D : Ends} {Q Q' : VK} {k j : Nat} {E : XK} {x : Str} {p pos pos' : Pos} {a b c e o : Expr}
/-! ### items -/
theorem we_at (h : WE X a σ H fun v H1 => WE X b σ H1 fun w H2 => rIx X.K v w H2 Q) (hb : PlainIx b := by intro _ _; rfl) : WE X (.Subscript a b pos) σ H Q := we_ix ix_seq h hb
theorem at_l {K : PySem.W.Frag} {p : Addr} {xs : List V} {i : Int} {v : V} (hp : H p = some (.lst xs)) (he : atI xs i = some v) (q : Q v H) : rIx K (.ref p) (.int i) H Q := .inl ⟨p, xs, i, v, rfl, rfl, .of hp, he, q⟩
theorem at_t {K : PySem.W.Frag} {p : Addr} {xs : List V} {i : Int} {v : V} (hp : H p = some (.tup xs)) (he : atI xs i = some v) (q : Q v H) : rIx K (.ref p) (.int i) H Q := .inr (.inl ⟨p, xs, i, v, rfl, rfl, .of hp, he, q⟩)
theorem ws_put (h : WE X e σ H fun v H1 => WE X a σ H1 fun x H2 => WE X b σ H2 fun y H3 => ∃ p xs i j, x = .ref p ∧ y = .int i ∧ H3 p = some (.lst xs) ∧ ixN xs.length i = some j ∧ D.nx σ (upd H3 p (.lst (xs.set j v))))
    (hs : swapsWithSole [.Subscript a b pos'] e pos.line X.env = pure false := by rfl) (hw : swappedStores [.Subscript a b pos'] e X.env = pure none := by rfl)
    (ha : ∀ v, assign (.Subscript a b pos') X.env v = (do
      let ov ← holding [v] (eval a X.env)
      let iv ← holding [v, ov] (eval b X.env)
      standAt pos'
      holding [v, ov, iv] (setItem ov iv v)
      release [v, ov, iv] []) := by intro _; rfl) : WS X (.Assign [.Subscript a b pos'] e pos) D σ H :=
  wsP (ps_asg peS (pg_sub peS peS set_list ha) hs hw) (we_mono h fun v H1 z => we_mono z fun x H2 z => we_mono z fun y H3 z => by
    obtain ⟨p, xs, i, j, rfl, rfl, h1, h2, z⟩ := z
    exact ⟨p, xs, i, j, rfl, rfl, h1, h2, z⟩)
theorem put_l {p : Addr} {xs : List V} {i : Int} {j : Nat} {v : V} {P : Hp → Prop} (hp : H p = some (.lst xs)) (hj : ixN xs.length i = some j) (q : P (upd H p (.lst (xs.set j v)))) :
    ∃ p' xs i' j, V.ref p = .ref p' ∧ V.int i = .int i' ∧ H p' = some (.lst xs) ∧ ixN xs.length i' = some j ∧ P (upd H p' (.lst (xs.set j v))) := ⟨p, xs, i, j, rfl, rfl, hp, hj, q⟩
/-! ### len, int, list(..[:n]) -/
theorem we_len (bn : Bn X "len") (h : WE X a σ H fun v H1 => ∃ n, LenV X.K v H1 n ∧ Q (.int n) H1) (hs : starEach [a] X.env = [(false, eval a X.env)] := by rfl) (hl : (backTo pos (starEach [] X.env)).any (·.1) = false := by rfl) :
    WE X (.Call (.Name "len" p) [a] [] pos) σ H Q := we_callB call_len bn boot_len (wa_one (we_mono h fun v H1 q => by
    obtain ⟨n, h1, q⟩ := q
    exact ⟨v, n, rfl, h1, q⟩) hs) (by decide) (by decide) hs hl
theorem len_l {K : PySem.W.Frag} {p : Addr} {xs : List V} {P : Nat → Prop} (hp : H p = some (.lst xs)) (q : P xs.length) : ∃ n, LenV K (.ref p) H n ∧ P n := ⟨xs.length, .inl ⟨xs, .of hp, rfl⟩, q⟩
theorem len_t {K : PySem.W.Frag} {p : Addr} {xs : List V} {P : Nat → Prop} (hp : H p = some (.tup xs)) (q : P xs.length) : ∃ n, LenV K (.ref p) H n ∧ P n := ⟨xs.length, .inr ⟨xs, .of hp, rfl⟩, q⟩
theorem we_int1 (bn : Bn X "int") (h : WE X a σ H fun v H1 => ∃ i, v = .int i ∧ Q (.int i) H1) (hs : starEach [a] X.env = [(false, eval a X.env)] := by rfl) (hl : (backTo pos (starEach [] X.env)).any (·.1) = false := by rfl) :
    WE X (.Call (.Name "int" p) [a] [] pos) σ H Q := we_callT call_int1 bn boot_int (wa_one (we_mono h fun v H1 q => by
    obtain ⟨i, rfl, q⟩ := q
    exact .inl ⟨i, rfl, q⟩) hs) (by decide) (by decide) hs hl
theorem we_listof (bn : Bn X "list") (h : WE X a σ H fun v H1 => ∃ p ys, v = .ref p ∧ (SqL X.K H1 p ys ∨ SqT X.K H1 p ys) ∧ ∀ l, H1 l = none → Q (.ref l) (upd H1 l (.lst ys))) (hs : starEach [a] X.env = [(false, eval a X.env)] := by rfl) (hl : (backTo pos (starEach [] X.env)).any (·.1) = false := by rfl) :
    WE X (.Call (.Name "list" p) [a] [] pos) σ H Q := we_callT call_list_of bn boot_list (wa_one (we_mono h fun v H1 q => by
    obtain ⟨p, ys, rfl, h1, q⟩ := q
    exact ⟨p, ys, rfl, h1, q⟩) hs) (by decide) (by decide) hs hl
/-- a[:hi] of a list -/
theorem we_cutU {p2 : Pos} (h : WE X a σ H fun v H1 => WE X b σ H1 fun w H2 => ∃ p xs i, v = .ref p ∧ w = .int i ∧ SqL X.K H2 p xs ∧ ∀ l, H2 l = none → Q (.ref l) (upd H2 l (.lst (cutV xs none (some i))))) : WE X (.Subscript a (.Slice none (some b) none p2) pos) σ H Q :=
  weP (pe_slice sl_list peS po_none (po_some peS)) (we_mono h fun v H1 z => we_mono z fun w H2 z => by
    obtain ⟨p, xs, i, rfl, rfl, h1, z⟩ := z
    exact ⟨i, rfl, p, xs, rfl, h1, z⟩)
/-! ### the source of draws -/
structure Sou (H : Hp) (p : Addr) : Prop where
  ex : ∃ l o ns, H p = some o ∧ SrcL l o ∧ H l = some (.lst (List.map V.int ns))
theorem Sou.mono {H H' : Hp} {p : Addr} (s : Sou H p) (x : Ex H H') : Sou H' p := by
  obtain ⟨l, o, ns, h1, h2, h3⟩ := s.ex
  obtain ⟨o', h4, h5⟩ := x.src p l o h1 h2
  exact ⟨l, o', ns, h4, h5, x.keep l _ h3 not_src_ints⟩
/-- any number below n -/
def Draw (H : Hp) (n : Int) (Q : VK) : Prop := ∀ d H', Ex H H' → 0 ≤ d → d < n → Q (.int d) H'
theorem Draw.mono {H H' : Hp} {n : Int} {Q : VK} (k : Draw H n Q) (x : Ex H H') : Draw H' n Q := fun d H2 y h1 h2 => k d H2 (x.trans y) h1 h2
def spDraw : Sp := fun vs H Q _ => ∃ p n, vs = [.ref p, .int n] ∧ Sou H p ∧ 0 < n ∧ n.natAbs < 2 ^ 8000 ∧ Draw H n Q
theorem dr_ok {p : Addr} {n : Int} {H : Hp} {Q : VK} {E : XK} (s : Sou H p) (h0 : 0 < n) (h1 : n.natAbs < 2 ^ 8000) (k : Draw H n Q) : spDraw [.ref p, .int n] H Q E := ⟨p, n, rfl, s, h0, h1, k⟩
theorem small_n {n : Int} (h : n.natAbs < 2 ^ 200) : n.natAbs < 2 ^ 8000 := Nat.lt_of_lt_of_le h (Nat.pow_le_pow_right (by decide) (by decide))
end
theorem cpow_of {i j : Int} (h : (decide (0 ≤ j) && decide (j ≤ 1000000) && decide (i.natAbs < 2 ^ 64)) = true) : CPow i j := by
  obtain ⟨h1, h2⟩ := ba h
  obtain ⟨h0, h1⟩ := ba h1
  exact ⟨of_decide_eq_true h0, of_decide_eq_true h1, of_decide_eq_true h2⟩
theorem cmul31 {i j : Int} (h1 : 0 ≤ i) (h2 : i < 2147483647) (h3 : j.natAbs < 2 ^ 31) : CMulW i j := wide_mul (a := 31) (b := 31) (by omega) h3 (by decide) (by decide) (by decide)
section
variable {H : Hp} {p l : Addr} {i b r : Int} {P : Hp → Prop}
theorem src_of (h1 : 0 ≤ i) (h2 : 0 ≤ r) (h3 : r < 2147483647) : SrcL l (.lst [.ref l, .int i, .int b, .int r]) := ⟨i, b, r, rfl, h1, h2, h3⟩
theorem putS1 {ns : List Int} {n : Int} (hl : H l = some (.lst (List.map V.int ns))) (hp : H p = some (.lst [.ref l, .int i, .int b, .int r])) (s : SrcL l (.lst [.ref l, .int i, .int b, .int r])) (s' : 0 ≤ n) (q : ∀ H', Ex H H' → H' l = some (.lst (List.map V.int ns)) → H' p = some (.lst [.ref l, .int n, .int b, .int r]) → SrcL l (.lst [.ref l, .int n, .int b, .int r]) → P H') :
    ∃ p' xs i' j, V.ref p = .ref p' ∧ V.int 1 = .int i' ∧ H p' = some (.lst xs) ∧ ixN xs.length i' = some j ∧ P (upd H p' (.lst (xs.set j (.int n)))) := by
  have s2 : SrcL l (.lst [.ref l, .int n, .int b, .int r]) := by
    obtain ⟨i2, b2, r2, e, h1, h2, h3⟩ := s
    injection e with e; injection e with _ e; injection e with e1 e; injection e with e2 e; injection e with e3 e
    cases e1; cases e2; cases e3
    exact ⟨_, _, _, rfl, s', h2, h3⟩
  have xx := Ex.src' (fun C dx fs z => by rw [hl] at z; cases z) hp s s2
  exact ⟨p, _, 1, 1, rfl, rfl, hp, rfl, q _ xx (xx.keep l _ hl not_src_ints) upd_same s2⟩
theorem putS2 {ns : List Int} {n : Int} (hl : H l = some (.lst (List.map V.int ns))) (hp : H p = some (.lst [.ref l, .int i, .int b, .int r])) (s : SrcL l (.lst [.ref l, .int i, .int b, .int r])) (q : ∀ H', Ex H H' → H' l = some (.lst (List.map V.int ns)) → H' p = some (.lst [.ref l, .int i, .int n, .int r]) → SrcL l (.lst [.ref l, .int i, .int n, .int r]) → P H') :
    ∃ p' xs i' j, V.ref p = .ref p' ∧ V.int 2 = .int i' ∧ H p' = some (.lst xs) ∧ ixN xs.length i' = some j ∧ P (upd H p' (.lst (xs.set j (.int n)))) := by
  have s2 : SrcL l (.lst [.ref l, .int i, .int n, .int r]) := by
    obtain ⟨i2, b2, r2, e, h1, h2, h3⟩ := s
    injection e with e; injection e with _ e; injection e with e1 e; injection e with e2 e; injection e with e3 e
    cases e1; cases e2; cases e3
    exact ⟨_, _, _, rfl, h1, h2, h3⟩
  have xx := Ex.src' (fun C dx fs z => by rw [hl] at z; cases z) hp s s2
  exact ⟨p, _, 2, 2, rfl, rfl, hp, rfl, q _ xx (xx.keep l _ hl not_src_ints) upd_same s2⟩
theorem putS3 {ns : List Int} {n : Int} (hl : H l = some (.lst (List.map V.int ns))) (hp : H p = some (.lst [.ref l, .int i, .int b, .int r])) (s : SrcL l (.lst [.ref l, .int i, .int b, .int r])) (h0 : 0 ≤ n) (h9 : n < 2147483647) (q : ∀ H', Ex H H' → H' l = some (.lst (List.map V.int ns)) → H' p = some (.lst [.ref l, .int i, .int b, .int n]) → SrcL l (.lst [.ref l, .int i, .int b, .int n]) → P H') :
    ∃ p' xs i' j, V.ref p = .ref p' ∧ V.int 3 = .int i' ∧ H p' = some (.lst xs) ∧ ixN xs.length i' = some j ∧ P (upd H p' (.lst (xs.set j (.int n)))) := by
  have s2 : SrcL l (.lst [.ref l, .int i, .int b, .int n]) := by
    obtain ⟨i2, b2, r2, e, h1, h2, h3⟩ := s
    injection e with e; injection e with _ e; injection e with e1 e; injection e with e2 e; injection e with e3 e
    cases e1; cases e2; cases e3
    exact ⟨_, _, _, rfl, h1, h0, h9⟩
  have xx := Ex.src' (fun C dx fs z => by rw [hl] at z; cases z) hp s s2
  exact ⟨p, _, 3, 3, rfl, rfl, hp, rfl, q _ xx (xx.keep l _ hl not_src_ints) upd_same s2⟩
end
end Rs

namespace Mt
/-- the greatest common divisor, at least 1 -/
def g1 (a b : Int) : Int := if (Int.gcd a b : Int) > 0 then (Int.gcd a b : Int) else 1
theorem g1_pos (a b : Int) : 0 < g1 a b := by unfold g1; split <;> omega
theorem g1_of {a b : Int} (hb : b ≠ 0) : g1 a b = (Int.gcd a b : Int) := by
  unfold g1
  have : 0 < Int.gcd a b := Int.gcd_pos_of_ne_zero_right a hb
  rw [if_pos (by omega)]
/-- one turn of Euclid's algorithm -/
theorem gcd_turn (a b : Int) : Int.gcd b (a % b) = Int.gcd a b := by
  have e := Int.emod_def a b
  rw [e, Int.gcd_comm a b, Int.sub_eq_add_neg, Int.neg_mul_eq_mul_neg, Int.gcd_add_mul_left_right]
theorem gcd_abs (a b : Int) : Int.gcd (if a < 0 then -a else a) (if b < 0 then -b else b) = Int.gcd a b := by
  split <;> split <;> simp
theorem abs_nn (a : Int) : 0 ≤ if a < 0 then -a else a := by split <;> omega
theorem fdiv_dvd_neg {a g : Int} (hg : 0 < g) (h : g ∣ a) : a.fdiv (0 - g) = -(a / g) := by
  obtain ⟨c, rfl⟩ := h
  have h1 : (0 - g) ∣ g * c := ⟨-c, by rw [Int.zero_sub]; rw [Int.neg_mul_neg]⟩
  rw [Int.fdiv_eq_ediv_of_dvd h1, Int.zero_sub, Int.ediv_neg]
theorem fdiv_dvd {a g : Int} (hg : 0 < g) (h : g ∣ a) : a.fdiv g = a / g := Int.fdiv_eq_ediv_of_nonneg a (by omega)
theorem gcd_dvd (t b : Int) : (Int.gcd t b : Int) ∣ t ∧ (Int.gcd t b : Int) ∣ b := ⟨Int.gcd_dvd_left .., Int.gcd_dvd_right ..⟩
/-- what Time.__init__ stores -/
theorem made_num {t b : Int} (hb : b ≠ 0) : t.fdiv (if b < 0 then 0 - g1 t b else g1 t b) = (Rat.divInt t b).num := by
  have hg := g1_pos t b
  have e := g1_of (a := t) hb
  have hd : g1 t b ∣ t := by rw [e]; exact (gcd_dvd t b).1
  rw [Rat.num_divInt, Int.gcd_comm b t, ← e]
  split
  · rename_i hn
    rw [fdiv_dvd_neg hg hd, Int.sign_eq_neg_one_of_neg hn, Int.neg_one_mul, Int.neg_ediv_of_dvd hd]
  · rename_i hn
    rw [fdiv_dvd hg hd, Int.sign_eq_one_of_pos (by omega), Int.one_mul]
theorem made_den {t b : Int} (hb : b ≠ 0) : b.fdiv (if b < 0 then 0 - g1 t b else g1 t b) = ((Rat.divInt t b).den : Int) := by
  have hg := g1_pos t b
  have e := g1_of (a := t) hb
  have hd : g1 t b ∣ b := by rw [e]; exact (gcd_dvd t b).2
  rw [Rat.den_divInt, if_neg hb, Int.gcd_comm b t, Int.natCast_ediv, ← e]
  split
  · rename_i hn
    rw [fdiv_dvd_neg hg hd, ← Int.neg_ediv_of_dvd hd]
    congr 1
    omega
  · rename_i hn
    rw [fdiv_dvd hg hd]
    congr 1
    omega
theorem g1_le {t b : Int} (hb : b ≠ 0) : (g1 t b).natAbs ≤ b.natAbs := by
  rw [g1_of hb, Int.natAbs_natCast]
  exact Nat.le_of_dvd (by omega) (Int.gcd_dvd_natAbs_right t b)

/-! ### sizes -/
theorem Sz.mono {q : Rat} {n m : Nat} (h : Sz q n) (l : n ≤ m) : Sz q m := ⟨Nat.lt_of_lt_of_le h.num (Nat.pow_le_pow_right (by decide) l), Nat.lt_of_lt_of_le h.den (Nat.pow_le_pow_right (by decide) l)⟩
theorem pow_add' {a b x y : Nat} (h1 : x < 2 ^ a) (h2 : y < 2 ^ b) : x * y < 2 ^ (a + b) := by
  rw [Nat.pow_add]
  exact Nat.mul_lt_mul'' h1 h2
theorem add_lt {a x y : Nat} (h1 : x < 2 ^ a) (h2 : y < 2 ^ a) : x + y < 2 ^ (a + 1) := by
  rw [Nat.pow_succ]
  omega
theorem mulB {a b : Nat} {x y : Int} (h1 : x.natAbs < 2 ^ a) (h2 : y.natAbs < 2 ^ b) : (x * y).natAbs < 2 ^ (a + b) := by
  rw [Int.natAbs_mul]
  exact pow_add' h1 h2
theorem addB {a : Nat} {x y : Int} (h1 : x.natAbs < 2 ^ a) (h2 : y.natAbs < 2 ^ a) : (x + y).natAbs < 2 ^ (a + 1) := Nat.lt_of_le_of_lt (Int.natAbs_add_le x y) (add_lt h1 h2)
theorem subB {a : Nat} {x y : Int} (h1 : x.natAbs < 2 ^ a) (h2 : y.natAbs < 2 ^ a) : (x - y).natAbs < 2 ^ (a + 1) := Nat.lt_of_le_of_lt (Int.natAbs_sub_le x y) (add_lt h1 h2)
/-! ### the operators -/
theorem mk_div (n : Int) (d : Nat) : mkRat n d = Rat.divInt n d := rfl
theorem add_eq (q r : Rat) : Rat.divInt (q.num * r.den + r.num * q.den) (q.den * r.den) = q + r := by
  rw [Rat.add_def', mk_div, Int.natCast_mul]
theorem sub_eq (q r : Rat) : Rat.divInt (q.num * r.den - r.num * q.den) (q.den * r.den) = q - r := by
  rw [Rat.sub_def', mk_div, Int.natCast_mul]
theorem mul_eq (q r : Rat) : Rat.divInt (q.num * r.num) (q.den * r.den) = q * r := by
  rw [Rat.mul_def', mk_div, Int.natCast_mul]
theorem neg_eq (q : Rat) : Rat.divInt (0 - q.num) q.den = -q := by
  rw [Int.zero_sub, ← Rat.neg_divInt, Rat.num_divInt_den]
theorem den_pos (q : Rat) : (0 : Int) < q.den := by have := q.den_nz; omega
theorem den_ne (q : Rat) : (q.den : Int) ≠ 0 := by have := q.den_nz; omega
end Mt

namespace Rs
open PySem PySem.Spec PyProof.Rows L2 He Mt
theorem dp_ints {K : PySem.W.Frag} {H : Hp} : ∀ ns : List Int, DpAll K H (ns.map V.int) (ns.map PyData.int)
  | [] => .nil
  | n :: ns => .cons (.int n) (dp_ints ns)
theorem shaped2 (a b : Int) : SeqAt.shaped (.tuple [.int a, .int b]) = true := rfl
theorem eqv2 (a b c d : Int) : PyData.eqv (.tuple [.int a, .int b]) (.tuple [.int c, .int d]) = (decide (a = c) && decide (b = d)) := by
  simp only [PyData.eqv, PyData.eqvAll, Bool.and_true]
  rfl
section
variable {X : Cx} {k : Nat} {E : L2.St → XK} {H : Hp} {Q : VK} {p p' : Addr} {a b c d : Int}
theorem o_eqT2 (B : Body X k E) (h : H p = some (.tup [.int a, .int b])) (h' : H p' = some (.tup [.int c, .int d])) (q : Q (.bl (decide (a = c) && decide (b = d))) H) : Op2 X (compareOp .Eq) (.ref p) (.ref p') H Q :=
  op2_of (op_eqD (by have := B.room.un; omega)) ⟨.tuple [.int a, .int b], .tuple [.int c, .int d], .tup (.of h) (dp_ints [a, b]), .tup (.of h') (dp_ints [c, d]), shaped2 a b, shaped2 c d, by rw [eqv2]; exact q⟩
end
/-! ### what comes back, in any heap that has grown -/
def Num (H : Hp) (n : Nat) (Q : VK) : Prop := ∀ d H', Ex H H' → d.natAbs < 2 ^ n → Q (.int d) H'
def Und (H : Hp) (n : Nat) (Q : VK) : Prop := ∀ d H', Ex H H' → d ≠ 0 → d.natAbs < 2 ^ n → Q (.int d) H'
def Prs (H : Hp) (a b : Int) (Q : VK) : Prop := ∀ p H', Ex H H' → H' p = some (.tup [.int a, .int b]) → Q (.ref p) H'
def Yes (H : Hp) (Q : VK) : Prop := ∀ H', Ex H H' → Q (.bl true) H'
theorem Yes.mono {H H' : Hp} {Q : VK} (k : Yes H Q) (x : Ex H H') : Yes H' Q := fun H2 y => k H2 (x.trans y)
theorem ret_i {H : Hp} {R : V → Hp → Prop} {Q : VK} (h : ∀ v H', Ex H H' → R v H' → Q v H') : Ret H R Q := h
theorem draw_i {H : Hp} {n : Int} {Q : VK} (h : ∀ d H', Ex H H' → 0 ≤ d → d < n → Q (.int d) H') : Draw H n Q := h
theorem num_i {H : Hp} {n : Nat} {Q : VK} (h : ∀ d H', Ex H H' → d.natAbs < 2 ^ n → Q (.int d) H') : Num H n Q := h
theorem und_i {H : Hp} {n : Nat} {Q : VK} (h : ∀ d H', Ex H H' → d ≠ 0 → d.natAbs < 2 ^ n → Q (.int d) H') : Und H n Q := h
theorem prs_i {H : Hp} {a b : Int} {Q : VK} (h : ∀ p H', Ex H H' → H' p = some (.tup [.int a, .int b]) → Q (.ref p) H') : Prs H a b Q := h
theorem yes_i {H : Hp} {Q : VK} (h : ∀ H', Ex H H' → Q (.bl true) H') : Yes H Q := h
theorem Num.mono {H H' : Hp} {n : Nat} {Q : VK} (k : Num H n Q) (x : Ex H H') : Num H' n Q := fun d H2 y h => k d H2 (x.trans y) h
theorem Und.mono {H H' : Hp} {n : Nat} {Q : VK} (k : Und H n Q) (x : Ex H H') : Und H' n Q := fun d H2 y h h2 => k d H2 (x.trans y) h h2
theorem Prs.mono {H H' : Hp} {a b : Int} {Q : VK} (k : Prs H a b Q) (x : Ex H H') : Prs H' a b Q := fun p H2 y h => k p H2 (x.trans y) h
theorem cm_sm {i j : Int} (h1 : i.natAbs < 2 ^ 2000) (h2 : j.natAbs < 2 ^ 2000) : CMulW i j := wide_mul h1 h2 (by decide) (by decide) (by decide)
theorem le_pow {i : Int} {n m : Nat} (h : i.natAbs < 2 ^ n) (l : n ≤ m) : i.natAbs < 2 ^ m := Nat.lt_of_lt_of_le h (Nat.pow_le_pow_right (by decide) l)
end Rs
namespace Rs
open PySem PySem.Spec PyProof.Rows L2 He Mt
theorem tup_i {H : Hp} {vs : List V} {P : Addr → Hp → Prop} (hl : vs.length ≤ sizeLine) (h : ∀ p H', Ex H H' → H' p = some (.tup vs) → P p H') : vs.length ≤ sizeLine ∧ ∀ p H2, H p = none → Ex H H2 → H2 = upd H p (.tup vs) → P p H2 :=
  ⟨hl, fun p H2 h0 x e => h p H2 x (by rw [e]; exact upd_same)⟩
theorem lst_i {H : Hp} {vs : List V} {P : Addr → Hp → Prop} (hl : vs.length ≤ sizeLine) (h : ∀ p H', H p = none → Ex H H' → H' p = some (.lst vs) → P p H') : vs.length ≤ sizeLine ∧ ∀ p H2, H p = none → Ex H H2 → H2 = upd H p (.lst vs) → P p H2 :=
  ⟨hl, fun p H2 h0 x e => h p H2 h0 x (by rw [e]; exact upd_same)⟩
theorem len1 {a : V} : [a].length ≤ sizeLine := (show 1 ≤ sizeLine by decide)
theorem len5 {a b c d e : V} : [a, b, c, d, e].length ≤ sizeLine := (show 5 ≤ sizeLine by decide)
theorem len2 {a b : V} : [a, b].length ≤ sizeLine := (show 2 ≤ sizeLine by decide)
theorem len3 {a b c : V} : [a, b, c].length ≤ sizeLine := (show 3 ≤ sizeLine by decide)
theorem len4 {a b c d : V} : [a, b, c, d].length ≤ sizeLine := (show 4 ≤ sizeLine by decide)
def spBegin (K : PySem.W.Frag) : Sp := fun vs H Q _ => ∃ a ns, vs = [.ref a] ∧ SqL K H a (List.map V.int ns) ∧ ∀ p H', Ex H H' → Sou H' p → Q (.ref p) H'
theorem cut_ints (ns : List Int) (i : Int) : ∃ ms : List Int, cutV (ns.map V.int) none (some i) = ms.map V.int := by
  refine ⟨(ns.drop (HT.sIx (ns.map V.int).length 0 none)).take (HT.sIx (ns.map V.int).length (ns.map V.int).length (some i) - HT.sIx (ns.map V.int).length 0 none), ?_⟩
  unfold cutV
  rw [List.map_take, List.map_drop]
theorem src0 {l : Addr} {i b r : Int} (h1 : 0 ≤ i) (h2 : 0 ≤ r) (h3 : r < 2147483647) : SrcL l (.lst [.ref l, .int i, .int b, .int r]) := ⟨i, b, r, rfl, h1, h2, h3⟩
end Rs

namespace Rs
open PySem PySem.Spec PyProof.Rows L2 He
open AutoSeq1 (wpAny_loadPart')
/-! ### a def that returns NotImplemented -/
section
variable {X : Cx} {σ : L2.St} {H : Hp}
def SPN (X : Cx) (pins : List (Addr × Obj)) (D : Hp → Prop) (f : Flow) (s' : Shared) : Prop := f = .ret .notImplemented ∧ ∃ σ' H', Inv X pins σ' H' s' ∧ D H'
def WBN (X : Cx) (st : List Stmt) (D : Hp → Prop) (σ : L2.St) (H : Hp) : Prop := ∀ pins s, Inv X pins σ H s → wpAny (model X.prog X.w) X.A (execs st X.env) (SPN X pins D) X.xe s
theorem wbn_if {c : Expr} {p pos pos2 : Pos} {rest : List Stmt} {D : Hp → Prop} (bn : Bn X "NotImplemented") (h : WT X c σ H fun k H1 => k = true ∧ D H1) : WBN X (.If c [.Return (some (.Name "NotImplemented" p)) pos] [] pos2 :: rest) D σ H := by
  intro pins s I
  refine wpAny_execs_cons (wpAny_If (thn (h pins s I) fun d s1 z => ?_))
  obtain ⟨H1, I1, rfl, q⟩ := z
  refine wpAny_execs_cons (wpAny_Return_some (ld_blt I1 bn.gl bn.no PyProof.Rows.Boot.NotImplemented ?_))
  exact ⟨rfl, σ, H1, I1, q⟩
end
/-- a def, by position, that returns NotImplemented -/
abbrev SpN := List V → Hp → (Hp → Prop) → XK → Prop
def CRN (CX : CXT) (outer : List Env) (P : Program) (w : World) (H : Hp) (s : Shared) (D : Hp → Prop) (E : XK) (r : Result) (s' : Shared) : Prop :=
  match r with
  | .ok (.ret u) => u = .notImplemented ∧ ∃ H', s'.os = s.os ∧ AllBare s'.gens ∧ Un (frs outer) [] H H' s.heap s'.heap ∧ HOk P w H' s'.heap ∧ D H'
  | .ok _ => False
  | .error e => CX outer H s E e s'
def FnN (P : Program) (w : World) (K : PySem.W.Frag) (mg : Str → Option Value) (base : Heap) (CX : CXT) (k : Nat) (f : Addr) (sp : SpN) : Prop :=
  ∀ (A : Around) (outer : List Env) (s : Shared) (H : Hp) (us : List Value) (vs : List V) (D : Hp → Prop) (E : XK), Room k A → Env0 P w K mg base A outer s H → Vals vs us → sp vs H D E →
    codeAny (model P w) A (.call (.ref f) ⟨us, []⟩) (CRN CX outer P w H s D E) s
section
variable {P : Program} {w : World} {K : PySem.W.Frag} {mg : Str → Option Value} {base : Heap} {N ps : List Str} {name qual : Str} {pa : Arguments} {body : List Stmt} {sc : Scope} {dvs : List V} {kws : List (Str × V)} {f : Addr} {fd : FuncData} {k : Nat} {sp : SpN}
theorem def_ni (F : FunD K name qual pa body sc dvs kws f fd) (hb : Binds K fd ps []) (S : FnScope N ps sc) (len : ∀ vs H D E, sp vs H D E → vs.length = ps.length)
    (hbody : ∀ (X : Cx), X.prog = P → X.w = w → X.K = K → X.mg = mg → X.base = base → X.N = N → X.env.scope = sc → (∀ x, X.fn x = true) → N.Nodup → ∀ (H : Hp) (vs : List V) (D : Hp → Prop) (E : XK), Body X k (fun _ => E) → sp vs H D E → WBN X body D (start N vs) H) :
    FnN P w K mg base (RX P w) (k + 1) f sp := by
  obtain ⟨oc, od, dV, kV, doc, pm, an, cdv, ct, osl, rfl, lk, hcd, _, _⟩ := F.ex
  intro A outer s H us vs D E hr e0 r hsp
  have hl := len _ _ _ _ hsp
  have KX : K.In s.heap := e0.mod.kin.keeps fun b o e => (e0.bs b o e).1
  have lim : s.heap.NoLimit := e0.mod.nolimit.keeps fun b o e => (e0.bs b o e).1
  have hkind : ∀ y ∈ ps.zip us, sc.names.lookup y.1 = some .local ∨ (sc.names.lookup y.1 = some .cell ∧ ((cellsFrom (s.heap.objs.size + 1) sc.names []).lookup y.1).isSome = true) := fun ⟨n, v⟩ hy => by
    rcases S.par n (List.of_mem_zip hy).1 with q | q
    · exact .inl q
    · exact .inr ⟨q, PySem.W.cellsFrom_some _ _ _ (.inl q)⟩
  have hul : (us ++ []).length = ps.length := by rw [List.append_nil, ← r.length, hl]
  have hbd := hb s us KX hul
  rw [List.append_nil] at hbd
  refine codeAny_call_function hr.depth (KX _ _ lk) rfl S.co S.gen rfl (PySem.W.codeRec_of KX hcd) (hbd _ _ _ _ ?_)
  refine wpAny_newFunctionEnv_cells S.kind hkind fun env he s1 x => ?_
  subst he
  refine ⟨lim.keeps x.toInCall.keep, codeAny_func ?_⟩
  have I : Inv (bx P w K mg base N qual sc f cdv A outer s H E) [] (start N vs) H s1 := inv_start S hr.hd e0 hl r x
  have hq := hbody (bx P w K mg base N qual sc f cdv A outer s H E) rfl rfl rfl rfl rfl rfl rfl (fun _ => rfl) S.nd H vs D E (body_of (hr.deeper _)) hsp
  refine wpAny_mono (hq [] s1 I) (fun fl s' hs => ?_) fun e s' hs => hs
  obtain ⟨rfl, σ', H', J, q⟩ := hs
  exact ⟨rfl, H', J.os, J.bare, J.base, J.hok, q⟩
end
section
variable {X : Cx} {σ : L2.St} {H : Hp} {pins : List (Addr × Obj)} {s : Shared}
def EPN (X : Cx) (pins : List (Addr × Obj)) (σ : L2.St) (D : Hp → Prop) (u : Value) (s' : Shared) : Prop := u = .notImplemented ∧ ∃ H', Inv X pins σ H' s' ∧ D H'
theorem run_ni {A : Around} {j : Nat} {f : Addr} {sp : SpN} {E : XK} {D : Hp → Prop} {us : List Value} {vs : List V} (F : FnN X.prog X.w X.K X.mg X.base (RX X.prog X.w) j f sp) (hr : Room j A) (e0 : Env0 X.prog X.w X.K X.mg X.base A X.stack s H) (hx : Passes (RX X.prog X.w) X E) (I : Inv X pins σ H s) (r : Vals vs us) (h : sp vs H D E) :
    wpAny (model X.prog X.w) A (call (.ref f) us) (EPN X pins σ D) X.xe s := by
  refine wpAny_call (codeAny_mono (F A X.stack s H us vs D E hr e0 r h) fun r s' hq => ?_)
  cases r with
  | error e => exact hx pins σ H s e s' I hq
  | ok fl =>
    cases fl with
    | ret u =>
      obtain ⟨rfl, H', h1, h2, h3, h4, q⟩ := hq
      obtain ⟨v, H2, I2, _, q2⟩ := I.after (show CE X.stack X.prog X.w H s (fun _ H' => D H') Value.none s' from ⟨V.non, H', h1, h2, h3, h4, rfl, q⟩)
      exact ⟨rfl, H2, I2, q2⟩
    | next => exact False.elim hq
    | brk => exact False.elim hq
    | cont => exact False.elim hq
end

/-! ### object.__ne__ of an own class with an __eq__ of its own -/
theorem neOwn_ok {K : PySem.W.Frag} {C f : Addr} (h : neOwnB K C f = true) : NeOwn K C f := by
  obtain ⟨h1, h⟩ := ba h
  obtain ⟨h2, h⟩ := ba h
  obtain ⟨h3, h⟩ := ba h
  obtain ⟨h4, h⟩ := ba h
  obtain ⟨h5, h⟩ := ba h
  obtain ⟨h6, h⟩ := ba h
  obtain ⟨h7, h8⟩ := ba h
  exact ⟨of_decide_eq_true h1, h2, of_decide_eq_true h3, of_decide_eq_true h4, of_decide_eq_true h5, of_decide_eq_true h6, of_decide_eq_true h7, of_decide_eq_true h8⟩
section
variable {M : Model} {prog : Program} {w : World} {A : Around} {E : Value → Shared → Prop} {s : Shared} {K : PySem.W.Frag} {x C f : Addr} {ox : Obj} {od : Option Obj} {b : Value}
theorem ifBound_objNe {args : List Value} {Q : Option Value → Shared → Prop} (X : K.In s.heap) (I : PySem.W.InstAt s.heap x ox C od) (hs : PySem.W.findIn K (.ref C) "__ne__" = some (some (.builtin "object.__ne__")))
    (h : wpAny M A (call (.builtin "object.__ne__") (.ref x :: args)) (fun v => Q (some v)) E s) : wpAny M A (callSpecialIfBound? (.ref x) "__ne__" args) Q E s := by
  simp only [callSpecialIfBound?, bindSpecialIfBound?]
  refine wpAny_holding (wpAny_bind (wpAny_bind (wpAny_bind (I.type.here ((PySem.W.looks_findIn X hs).here ?_)))))
  refine wpAny_bind (wpAny_askSetting (wpAny_ite ?_))
  have fin : wpAny M A (call (.builtin "object.__ne__") ([.ref x] ++ args) >>= fun v => pure (some v)) Q E s := wpAny_bind (wpAny_mono h (fun v s' h' => wpAny_pure h') fun _ _ h' => h')
  split
  · exact wpAny_bind (wpAny_of_eq (F.cmp_object.ne.bind _) (wpAny_pure (by exact fin)))
  · exact wpAny_tryCatch (wpAny_bind (wpAny_of_eq (F.cmp_object.ne.bind _) (wpAny_pure (by exact fin))))
/-- x.__ne__(b) where x.__eq__(b) is a bool or NotImplemented -/
theorem try_ne {Q : Option Value → Shared → Prop} (hu : A.units + 1 < cLine) (X : K.In s.heap) (I : PySem.W.InstAt s.heap x ox C od) (c : NeOwn K C f)
    (h : wpAny (model prog w) A.in1 (call (.ref f) [.ref x, b]) (fun v s' => (∃ r, v = .bool r ∧ Q (some (.bool (!r))) s') ∨ (v = .notImplemented ∧ Q none s')) E s) :
    wpAny (model prog w) A (tryCompare (.ref x) "__ne__" b) Q E s := by
  unfold tryCompare
  refine wpAny_bind (ifBound_objNe X I c.ne (wpAny_call (codeAny_call_builtin F.cmp_object.ne.plain F.cmpEntry_ne (PySem.W.check_slot F.cmpKind_ne F.cmpSplit_ne (I.type.andThen (PySem.W.looks_mroIn X c.ob)) (F.cmpArgs_ne _ _) ?_))))
  unfold Builtin.«object.__ne__»
  have hu' : A.in1.units < cLine := hu
  repeat (first
    | with_reducible refine wpAny_cRoomFor hu' ?_
    | (refine wpAny_bind (m := callSpecialIfBound? (.ref x) (Str.ofString "__eq__") [b])
        (PySem.W.ifBound_K X I c.eq c.fn (wpAny_mono h (fun v s' z => ?_) fun _ _ e => e)))
    | wp_step)
  rcases z with ⟨r, rfl, q⟩ | ⟨rfl, q⟩
  · repeat (first | exact ⟨_, rfl, wpAny_pure q⟩ | exact wpAny_truthy_bool q | (refine wpAny_bind (m := truthy (.bool _)) (wpAny_truthy_bool ?_)) | wp_step)
    exact q
  · repeat (first | exact ⟨_, rfl, wpAny_pure q⟩ | wp_step)
    exact q
end

/-! ### a value of another kind beside an instance: its own == and != decline -/
section
variable (x : Addr) (ox : Obj)
theorem decl_ne (i : Int) (t : Tok) : Meets (Builtin.«int.__ne__» ⟨[.int i t, .ref x], []⟩) (DeclS x ox) := .of_wp fun prog w A R s q => by
  obtain ⟨hp, g, d, tk, os⟩ := s
  obtain ⟨e1, e2, z⟩ := q
  wp_walk using wpAny_loadPart' e1, wpAny_load e1
  rw [e2]
  wp_walk
  exact ⟨_, rfl, z⟩
end
section
variable {M : Model} {A : Around} {E : Value → Shared → Prop} {s : Shared} {K : PySem.W.Frag} {x C f p : Addr} {ox : Obj} {od : Option Obj} {Q : Fin → Shared → Prop}
end

section
variable {X : Cx} {k j : Nat} {E : XK} {sp : SpN} {C f a dx : Addr} {fs : List (Str × V)} {H : Hp} {Q : VK} {v : V}
theorem looks_ty {M : Model} {s : Shared} {u : Value} {T : String} (h : s.TypeIs u T) {A : Around} {E : Value → Shared → Prop} {Q : Value → Shared → Prop} (q : Q (.type T) s) : wpAny M A (typeOf u) Q E s := wpAny_typeOf h q
/-- x == v, v of another kind -/
theorem eq_fgn (B : Body X k fun _ => E) (c : NeOwn X.K C f) (F : FnN X.prog X.w X.K X.mg X.base (RX X.prog X.w) j f sp) (hj : j ≤ k) (ea : H a = some (.ins C dx fs)) (g : Fgn H v) (h : sp [.ref a, v] H (fun H' => H' a = some (.ins C dx fs) ∧ Fgn H' v ∧ Q (.bl false) H') E) :
    Op2 X (compareOp .Eq) (.ref a) v H Q := by
  intro pins s σ u u' I ru rv
  cases ru
  obtain ⟨od, J⟩ := inst_of I ea
  have G := g.at I rv ea c
  obtain ⟨T, hT, hs⟩ := G.ty
  have r1 := run_ni (us := [.ref a, u']) (vs := [.ref a, v]) F (B.room.mono hj) I.env0 B.pass I (.cons rfl (.cons rv .nil)) h
  show wpAny _ _ (richCompare .Eq (.ref a) u') _ _ s
  simp only [richCompare, cmpInfo_Eq, oneThing_ref]
  refine wpAny_holding (wpAny_bind (wpAny_cRoomFor B.room.units0 ?_))
  refine wpAny_bind (J.type.here (wpAny_bind (looks_ty hT ?_)))
  have ne : (Value.ref C != Value.type T) = true := by simp
  simp only [ne, if_true]
  refine wpAny_bind ((PySem.W.looks_subIn I.kIn hs).here ?_)
  simp only [Bool.false_eq_true, if_false, Bool.not_false, if_true]
  refine wpAny_bind (m := tryCompare (.ref a) _ u') ?_
  unfold tryCompare
  refine wpAny_bind (PySem.W.ifBound_K I.kIn J c.eq c.fn (wpAny_mono r1 (fun v s1 z => ?_) fun _ _ z => z))
  obtain ⟨rfl, H1, I1, e1, g1, q⟩ := z
  refine wpAny_pure ?_
  have G1 := g1.at I1 rv e1 c
  refine wpAny_bind (m := tryCompare u' _ (.ref a)) (wpAny_mono (G1.eq _ _ _ _) (fun r s2 z => ?_) fun _ _ z => z)
  obtain ⟨rfl, rfl⟩ := z
  exact wpAny_bind (wpAny_rule (wpAny_bind (G1.same _ _ _ _ (wpAny_pure ⟨.bl false, H1, I1, rfl, q⟩))))
/-- x != v, v of another kind -/
theorem ne_fgn (B : Body X k fun _ => E) (c : NeOwn X.K C f) (F : FnN X.prog X.w X.K X.mg X.base (RX X.prog X.w) j f sp) (hj : j + 1 ≤ k) (ea : H a = some (.ins C dx fs)) (g : Fgn H v) (h : sp [.ref a, v] H (fun H' => H' a = some (.ins C dx fs) ∧ Fgn H' v ∧ Q (.bl true) H') E) :
    Op2 X (compareOp .NotEq) (.ref a) v H Q := by
  intro pins s σ u u' I ru rv
  cases ru
  obtain ⟨od, J⟩ := inst_of I ea
  have G := g.at I rv ea c
  obtain ⟨T, hT, hs⟩ := G.ty
  have r1 := run_ni (us := [.ref a, u']) (vs := [.ref a, v]) F (B.room.mono hj).in1 I.env0.in1 B.pass I (.cons rfl (.cons rv .nil)) h
  show wpAny _ _ (richCompare .NotEq (.ref a) u') _ _ s
  simp only [richCompare, cmpInfo_NotEq, oneThing_ref]
  refine wpAny_holding (wpAny_bind (wpAny_cRoomFor B.room.units0 ?_))
  refine wpAny_bind (J.type.here (wpAny_bind (looks_ty hT ?_)))
  have ne : (Value.ref C != Value.type T) = true := by simp
  simp only [ne, if_true]
  refine wpAny_bind ((PySem.W.looks_subIn I.kIn hs).here ?_)
  simp only [Bool.false_eq_true, if_false, Bool.not_false, if_true]
  refine wpAny_bind (m := tryCompare (.ref a) _ u') (try_ne (by have := B.room.un; omega) I.kIn J c (wpAny_mono r1 (fun v s1 z => .inr ?_) fun _ _ z => z))
  obtain ⟨rfl, H1, I1, e1, g1, q⟩ := z
  refine ⟨rfl, ?_⟩
  have G1 := g1.at I1 rv e1 c
  refine wpAny_bind (m := tryCompare u' _ (.ref a)) (wpAny_mono (G1.ne _ _ _ _) (fun r s2 z => ?_) fun _ _ z => z)
  obtain ⟨rfl, rfl⟩ := z
  exact wpAny_bind (wpAny_rule (wpAny_bind (G1.same _ _ _ _ (wpAny_pure ⟨.bl true, H1, I1, rfl, q⟩))))
end
section
variable {X : Cx} {k j : Nat} {E : XK} {sp : Sp} {C f a b dx dy : Addr} {fs gs : List (Str × V)} {H : Hp} {Q : VK} {v : V} {i : Int}
/-- the answer of __eq__, turned round -/
def NotQ (Q : VK) : VK := fun z H' => ∃ r, z = .bl r ∧ Q (.bl (!r)) H'
theorem ne_back {pins : List (Addr × Obj)} {σ : L2.St} {A : Around} {t : Sem Value} {R : Value → Shared → Prop} {s : Shared} (h : wpAny (model X.prog X.w) A t (EP X pins σ (NotQ Q)) R s) :
    wpAny (model X.prog X.w) A t (fun v s' => (∃ r, v = .bool r ∧ EP X pins σ Q (.bool (!r)) s') ∨ (v = .notImplemented ∧ False)) R s := wpAny_mono h (fun u s' z => by
  obtain ⟨v, H', I, r, c, rfl, q⟩ := z
  cases r
  exact .inl ⟨c, rfl, .bl (!c), H', I, rfl, q⟩) fun _ _ z => z
theorem ne_own (B : Body X k fun _ => E) (c : NeOwn X.K C f) (F : FnR X.prog X.w X.K X.mg X.base (RX X.prog X.w) j f sp) (hj : j + 1 ≤ k) {pins : List (Addr × Obj)} {s : Shared} {σ : L2.St} {u' : Value} (I : Inv X pins σ H s) (rv : RelV v u') (ea : H a = some (.ins C dx fs)) (h : sp [.ref a, v] H (NotQ Q) E) :
    wpAny (model X.prog X.w) X.A (tryCompare (.ref a) "__ne__" u') (fun r s' => ∃ v, r = some v ∧ EP X pins σ Q v s') X.xe s := by
  obtain ⟨od, J⟩ := inst_of I ea
  have r1 := ne_back (wpAny_call (SlX.run_at (us := [.ref a, u']) (ws := [.ref a, v]) F (B.room.mono hj).in1 I.env0.in1 B.pass I (.cons rfl (.cons rv .nil)) h))
  refine try_ne (by have := B.room.un; omega) I.kIn J c (wpAny_mono r1 (fun v s1 z => ?_) fun _ _ z => z)
  rcases z with ⟨r, rfl, q⟩ | ⟨_, q⟩
  · exact .inl ⟨r, rfl, _, rfl, q⟩
  · exact q.elim
theorem ne_tt (B : Body X k fun _ => E) (c : NeOwn X.K C f) (F : FnR X.prog X.w X.K X.mg X.base (RX X.prog X.w) j f sp) (hj : j + 1 ≤ k) (ea : H a = some (.ins C dx fs)) (eb : H b = some (.ins C dy gs)) (h : sp [.ref a, .ref b] H (NotQ Q) E) :
    Op2 X (compareOp .NotEq) (.ref a) (.ref b) H Q := by
  intro pins s σ u v I ru rv
  cases ru
  cases rv
  obtain ⟨od, J⟩ := inst_of I ea
  obtain ⟨od', J'⟩ := inst_of I eb
  have r1 := ne_own B c F hj I (v := .ref b) (u' := .ref b) rfl ea h
  show wpAny _ _ (richCompare .NotEq (.ref a) (.ref b)) _ _ s
  simp only [richCompare, cmpInfo_NotEq, oneThing_ref]
  refine wpAny_holding (wpAny_bind (wpAny_cRoomFor B.room.units0 ?_))
  refine wpAny_bind (J.type.here (wpAny_bind (J'.type.here ?_)))
  have ne : (Value.ref C != Value.ref C) = false := by simp
  simp only [ne, Bool.false_eq_true, if_false]
  refine wpAny_bind (wpAny_pure ?_)
  simp only [Bool.false_eq_true, if_false]
  refine wpAny_bind (m := tryCompare (.ref a) _ (.ref b)) (wpAny_mono r1 (fun r s1 z => ?_) fun _ _ z => z)
  obtain ⟨w', rfl, q⟩ := z
  exact wpAny_pure q
theorem ne_ti (B : Body X k fun _ => E) (c : NeOwn X.K C f) (F : FnR X.prog X.w X.K X.mg X.base (RX X.prog X.w) j f sp) (hj : j + 1 ≤ k) (ea : H a = some (.ins C dx fs)) (h : sp [.ref a, .int i] H (NotQ Q) E) : Op2 X (compareOp .NotEq) (.ref a) (.int i) H Q := by
  intro pins s σ u v I ru rv
  cases ru
  obtain ⟨t, rfl⟩ := rv
  obtain ⟨od, J⟩ := inst_of I ea
  have r1 := ne_own B c F hj I (v := .int i) (u' := .int i t) ⟨t, rfl⟩ ea h
  show wpAny _ _ (richCompare .NotEq (.ref a) (.int i t)) _ _ s
  simp only [richCompare, cmpInfo_NotEq, oneThing_ref]
  refine wpAny_holding (wpAny_bind (wpAny_cRoomFor B.room.units0 ?_))
  refine wpAny_bind (J.type.here (wpAny_bind (looks_ty (typeIs_int _ _ _) ?_)))
  have ne : (Value.ref C != Value.type "int") = true := by simp
  simp only [ne, if_true]
  refine wpAny_bind ((PySem.W.looks_subIn I.kIn (sub_tc (l := ["int", "object"].map Value.type) (by decide +kernel) fun v h => tys h)).here ?_)
  simp only [Bool.false_eq_true, if_false, Bool.not_false, if_true]
  refine wpAny_bind (m := tryCompare (.ref a) _ (.int i t)) (wpAny_mono r1 (fun r s1 z => ?_) fun _ _ z => z)
  obtain ⟨w', rfl, q⟩ := z
  exact wpAny_pure q
theorem ne_it (B : Body X k fun _ => E) (c : NeOwn X.K C f) (F : FnR X.prog X.w X.K X.mg X.base (RX X.prog X.w) j f sp) (hj : j + 1 ≤ k) (ea : H a = some (.ins C dx fs)) (h : sp [.ref a, .int i] H (NotQ Q) E) : Op2 X (compareOp .NotEq) (.int i) (.ref a) H Q := by
  intro pins s σ u v I ru rv
  cases rv
  obtain ⟨t, rfl⟩ := ru
  obtain ⟨od, J⟩ := inst_of I ea
  have r1 := ne_own B c F hj I (v := .int i) (u' := .int i t) ⟨t, rfl⟩ ea h
  have l1 : s.TypeIs (.int i t) "int" := typeIs_int _ _ _
  have dcl : wpAny (model X.prog X.w) X.A (tryCompare (.int i t) "__ne__" (.ref a)) (fun r s' => r = none ∧ s' = s) X.xe s :=
    wpAny_tryCompare_declines l1 PySem.F.slot_int_ne (call_meets PySem.F.slot_int_ne l1 PySem.F.entry_int_ne (PySem.F.args_int_ne_2 _ _) (decl_ne a _ i t) ⟨J.at_, rfl, rfl, rfl, rfl⟩)
  show wpAny _ _ (richCompare .NotEq (.int i t) (.ref a)) _ _ s
  simp only [richCompare, cmpInfo_NotEq, l1.oneThing_none]
  refine wpAny_holding (wpAny_bind (wpAny_cRoomFor B.room.units0 ?_))
  refine wpAny_bind (looks_ty l1 (wpAny_bind (J.type.here ?_)))
  have ne : (Value.type "int" != Value.ref C) = true := by simp
  simp only [ne, if_true]
  refine wpAny_bind ((PySem.W.looks_subIn I.kIn c.sub).here ?_)
  simp only [Bool.false_eq_true, if_false, Bool.not_false, if_true]
  refine wpAny_bind (m := tryCompare (.int i t) _ (.ref a)) (wpAny_mono dcl (fun r s1 z => ?_) fun _ _ z => z)
  obtain ⟨rfl, rfl⟩ := z
  refine wpAny_bind (m := tryCompare (.ref a) _ (.int i t)) (wpAny_mono r1 (fun r s2 z => ?_) fun _ _ z => z)
  obtain ⟨w', rfl, q⟩ := z
  exact wpAny_pure q
end
end Rs

namespace Rs
open PySem PySem.Spec PyProof.Rows L2 He
/-! ### texts -/
/-- an int's text -/
def itx (i : Int) : Str := Str.ofString (toString i)
theorem itx_len {i : Int} (h : i.natAbs.log2 < 1920) : (itx i).length ≤ 1921 := int_text_len_1921 h
section
variable {X : Cx} {σ : L2.St} {H : Hp} {D : Ends} {Q : VK} {x y : Str} {i : Int} {a b c e : Expr} {p pos : Pos}
theorem we_strI (bn : Bn X "str") (h : WE X a σ H fun v H1 => ∃ i, v = .int i ∧ i.natAbs.log2 < 1920 ∧ Q (.str (itx i)) H1) (hs : starEach [a] X.env = [(false, eval a X.env)] := by rfl) (hl : (backTo pos (starEach [] X.env)).any (·.1) = false := by rfl) :
    WE X (.Call (.Name "str" p) [a] [] pos) σ H Q := we_callT call_str_int bn boot_str (wa_one (we_mono h fun v H1 q => by
    obtain ⟨i, rfl, h1, q⟩ := q
    exact ⟨i, rfl, h1, q⟩) hs) (by decide) (by decide) hs hl
theorem o_catS (hz : x.length + y.length ≤ sizeLine) (q : Q (.str (x ++ y)) H) : Op2 X (binaryOp .Add) (.str x) (.str y) H Q := op2_of op_add_str ⟨x, y, rfl, rfl, hz, q⟩
theorem we_fmt (h : WE X e σ H fun v H1 => (∃ y : Str, v = .str y ∧ y.length ≤ sizeLine ∧ Q (.str y) H1) ∨ ∃ i : Int, v = .int i ∧ i.natAbs.log2 < 1920 ∧ Q (.str (itx i)) H1) : WE X (.FormattedValue e (-1) none pos) σ H Q := weP (pe_fmt peS) h
theorem str_e (x : Str) : Str.empty ++ x = x := by
  cases x
  show Str.append _ _ = _
  simp [Str.append, Str.empty]
theorem str_assoc (x y z : Str) : x ++ y ++ z = x ++ (y ++ z) := by
  show Str.append (Str.append _ _) _ = Str.append _ (Str.append _ _)
  simp [Str.append, Array.append_assoc]
theorem str_len (x y : Str) : (x ++ y).length = x.length + y.length := by
  show (Str.append x y).length = _
  simp [Str.append, Str.length]
theorem we_js3 (h : WE X a σ H fun v H1 => ∃ x : Str, v = .str x ∧ x.length ≤ sizeLine ∧ WE X b σ H1 fun w H2 => ∃ y : Str, w = .str y ∧ (x ++ y).length ≤ sizeLine ∧ WE X c σ H2 fun u H3 => ∃ z : Str, u = .str z ∧ (x ++ y ++ z).length ≤ sizeLine ∧ Q (.str (x ++ y ++ z)) H3) : WE X (.JoinedStr [a, b, c] pos) σ H Q :=
  weP (pe_joined (.cons peS (.cons peS (.cons peS .nil)))) (we_mono h fun v H1 z => by
    obtain ⟨x, rfl, h1, z⟩ := z
    refine ⟨x, rfl, by rw [str_e]; exact h1, we_mono z fun w H2 z => ?_⟩
    obtain ⟨y, rfl, h2, z⟩ := z
    refine ⟨y, rfl, by rw [str_e]; exact h2, we_mono z fun u H3 z => ?_⟩
    obtain ⟨t, rfl, h3, z⟩ := z
    exact ⟨t, rfl, by rw [str_e]; exact h3, by rw [str_e]; exact z⟩)
end
/-- the text of a fraction in lowest terms -/
def ftx (n d : Int) : Str := if d = 1 then itx n else itx n ++ "/" ++ itx d

section
variable {X : Cx} {σ : L2.St} {H : Hp} {D : Ends} {k : Nat} {E : L2.St → XK} {x : Str} {px pos : Pos} {a : Expr} {i : Nat} {body : List Stmt}
/-- for x in a list: all is chosen once the list is there -/
def ForL (X : Cx) (xs : List V) (l : Addr) (i : Nat) (body : List Stmt) (D : Ends) (σ : L2.St) (H : Hp) : Prop :=
  ∃ P : Nat → L2.St → Hp → Prop, P 0 σ H ∧ (∀ j σ H, j ≤ xs.length → P j σ H → SqL X.K H l xs) ∧ (∀ j v σ H, xs[j]? = some v → P j σ H → WB X body { D with nx := P (j + 1), ct := P (j + 1), bk := D.nx } (σ.set i (some v)) H) ∧ ∀ σ H, P xs.length σ H → D.nx σ H
theorem ws_for_listE (B : Body X k E) (s : Sl X i x) (h : WE X a σ H fun v H1 => ∃ l xs, v = .ref l ∧ ForL X xs l i body D σ H1) (hs : ∀ v, foldedSetIterable a X.env v = pure v := by intro _; rfl) : WS X (.For (.Name x px) a body [] pos) D σ H := by
  refine wsP (ps_for B.po B.calm (pi_list peS) (pg_name s.nd s.at_ s.loc s.fn) pbS hs) ?_
  refine we_mono h fun v H1 q => ?_
  obtain ⟨l, xs, rfl, P, q0, hl, ht, hd⟩ := q
  exact ⟨l, rfl, ⟨xs, hl 0 σ H1 (Nat.zero_le _) q0⟩, for_list P q0 hl ht hd⟩
def ForT (X : Cx) (xs : List V) (l : Addr) (i : Nat) (body : List Stmt) (D : Ends) (σ : L2.St) (H : Hp) : Prop :=
  ∃ P : Nat → L2.St → Hp → Prop, P 0 σ H ∧ (∀ j σ H, j ≤ xs.length → P j σ H → SqT X.K H l xs) ∧ (∀ j v σ H, xs[j]? = some v → P j σ H → WB X body { D with nx := P (j + 1), ct := P (j + 1), bk := D.nx } (σ.set i (some v)) H) ∧ ∀ σ H, P xs.length σ H → D.nx σ H
theorem ws_for_tupE (B : Body X k E) (s : Sl X i x) (h : WE X a σ H fun v H1 => ∃ l xs, v = .ref l ∧ ForT X xs l i body D σ H1) (hs : ∀ v, foldedSetIterable a X.env v = pure v := by intro _; rfl) : WS X (.For (.Name x px) a body [] pos) D σ H := by
  refine wsP (ps_for B.po B.calm (pi_tup peS) (pg_name s.nd s.at_ s.loc s.fn) pbS hs) ?_
  refine we_mono h fun v H1 q => ?_
  obtain ⟨l, xs, rfl, P, q0, hl, ht, hd⟩ := q
  exact ⟨l, rfl, ⟨xs, hl 0 σ H1 (Nat.zero_le _) q0⟩, for_tup P q0 hl ht hd⟩
end
end Rs

namespace Rs
open PySem PySem.Spec PyProof.Rows L2 He
/-! ### try .. except -/
section
variable {X : Cx} {i : Nat} {x : Str} {pn : List (Addr × Obj)} {xe : Value → Shared → Prop} {a : Addr}
theorem Sl.tr (s : Sl X i x) : Sl (X.tr pn xe) i x := ⟨s.at_, s.nd, s.loc, s.fn, s.d1, s.d2⟩
theorem Gn.tr (s : Gn X x) : Gn (X.tr pn xe) x := ⟨s.gl, s.d1⟩
theorem Bn.tr (s : Bn X x) : Bn (X.tr pn xe) x := ⟨s.gl, s.no⟩
theorem Sl.su (s : Sl X i x) : Sl (X.suite a pn) i x := ⟨s.at_, s.nd, s.loc, s.fn, s.d1, s.d2⟩
theorem Gn.su (s : Gn X x) : Gn (X.suite a pn) x := ⟨s.gl, s.d1⟩
theorem Bn.su (s : Bn X x) : Bn (X.suite a pn) x := ⟨s.gl, s.no⟩
theorem Body.tr {k : Nat} {E E' : L2.St → XK} (B : Body X k E) (tk : L2N.Takes (X.tr pn xe) fun cls d σ H => E' σ cls d H) (po : PassesOwn (model X.prog X.w) X.A X.env xe) : Body (X.tr pn xe) k E' := ⟨B.calm, B.room, tk, po, B.stk, B.fr⟩
end
section
variable {X : Cx} {x n : Str} {c : Value} {i k : Nat} {E : L2.St → XK} {D : Ends} {σ : L2.St} {H : Hp} {body suite : List Stmt} {b₀ : Stmt} {np pos pos' : Pos}
/-- an except suite: where it runs, a the exception -/
def Sui (X : Cx) (st : List Stmt) (a : Addr) (cls : Value) (d : Option Addr) : TS := fun D σ H => ∀ oe pn, L2N.Zn cls d oe → (∃ vs, oe.data = .fields vs) → WB (X.suite a ((a, oe) :: pn)) st D σ H
theorem ws_try_as (B : Body X k E) (s : Sl X i n) (hln : X.env.kindOf n = some .local) (hc : Names X x c)
    (h : ∀ pn xe, Body (X.tr pn xe) k (fun σ cls d H => wAs X.K c i (Sui X (b₀ :: suite)) (fun cls d σ H => E σ cls d H) D cls d σ H) → WB (X.tr pn xe) body D σ H) (hf : ∀ x, X.fn x = true := by assumption) :
    WS X (.Try body [.ExceptHandler (some (.Name x np)) (some n) (b₀ :: suite) pos'] [] [] pos) D σ H :=
  wsP (L2N.ps_try_as (tb := fun W D σ H => ∀ pn xe, L2N.Takes (X.tr pn xe) W → PassesOwn (model X.prog X.w) X.A X.env xe → WB (X.tr pn xe) body D σ H) (ts := Sui X (b₀ :: suite)) (B.stk hf) (B.fr hf) s.nd s.at_ hln hc B.tk
    (fun W pn xe tk po => ⟨fun pins t σ H D I q => q pn xe tk po pins t I⟩) (fun a oe cls d pn hz hf => ⟨fun pins t σ H D I q => q oe pn hz hf pins t I⟩)) fun pn xe tk po => h pn xe (B.tr tk po)
theorem ws_try_only (B : Body X k E) (hc : Names X x c)
    (h : ∀ pn xe, Body (X.tr pn xe) k (fun σ cls d H => wMany X.K (fun cls d σ H => E σ cls d H) D [(c, Sui X (b₀ :: suite))] cls d σ H) → WB (X.tr pn xe) body D σ H) (hf : ∀ x, X.fn x = true := by assumption) :
    WS X (.Try body [.ExceptHandler (some (.Name x np)) none (b₀ :: suite) pos'] [] [] pos) D σ H :=
  wsP (L2N.ps_try_many (tb := fun W D σ H => ∀ pn xe, L2N.Takes (X.tr pn xe) W → PassesOwn (model X.prog X.w) X.A X.env xe → WB (X.tr pn xe) body D σ H) (l := [(c, Sui X (b₀ :: suite))]) (B.stk hf) (B.fr hf) B.tk
    (fun W pn xe tk po => ⟨fun pins t σ H D I q => q pn xe tk po pins t I⟩) (.cons hc (fun a oe cls d pn hz hf => ⟨fun pins t σ H D I q => q oe pn hz hf pins t I⟩) .nil)) fun pn xe tk po => h pn xe (B.tr tk po)
theorem nm_own {C : Addr} (g : Gn X x) (hm : X.mg x = some (.ref C)) : Names X x (.ref C) := ⟨g.gl, g.d1, .inl hm⟩
/-- the clause takes the exception -/
theorem as_yes {K : PySem.W.Frag} {ts : Addr → Value → Option Addr → TS} {Wout : WX} {cls : Value} {d : Option Addr} (e : PySem.W.exmOne K cls c = some true)
    (h : ∀ a, H a = none → ts a cls d { nx := fun σ' H' => D.nx (σ'.set i none) H', rt := D.rt, bk := fun σ' H' => D.bk (σ'.set i none) H', ct := fun σ' H' => D.ct (σ'.set i none) H' } (σ.set i (some (.ref a))) H) : wAs K c i ts Wout D cls d σ H :=
  ⟨true, e, fun _ => h, fun q => nomatch q⟩
theorem as_no {K : PySem.W.Frag} {ts : Addr → Value → Option Addr → TS} {Wout : WX} {cls : Value} {d : Option Addr} (e : PySem.W.exmOne K cls c = some false) (h : Wout cls d σ H) : wAs K c i ts Wout D cls d σ H := ⟨false, e, (fun q => nomatch q), fun _ => h⟩
theorem only_yes {K : PySem.W.Frag} {ts : Addr → Value → Option Addr → TS} {Wout : WX} {cls : Value} {d : Option Addr} (e : PySem.W.exmOne K cls c = some true) (h : ∀ a, H a = none → ts a cls d D σ H) : wMany K Wout D [(c, ts)] cls d σ H := ⟨true, e, fun _ => h, fun q => nomatch q⟩
theorem only_no {K : PySem.W.Frag} {ts : Addr → Value → Option Addr → TS} {Wout : WX} {cls : Value} {d : Option Addr} (e : PySem.W.exmOne K cls c = some false) (h : Wout cls d σ H) : wMany K Wout D [(c, ts)] cls d σ H := ⟨false, e, (fun q => nomatch q), fun _ => h⟩
end
/-! ### isinstance(e, C) in a suite -/
section
variable {X : Cx} {a D : Addr} {oe : Obj} {pn : List (Addr × Obj)} {σ : L2.St} {H : Hp} {Q : VK} {e b : Expr} {p pos : Pos}
theorem we_isE (C : ExcC X.K D) (hz : L2N.Zn (.ref D) none oe) (hf : ∃ vs, oe.data = .fields vs) (bn : Bn (X.suite a ((a, oe) :: pn)) "isinstance")
    (h : WE (X.suite a ((a, oe) :: pn)) e σ H fun v H1 => WE (X.suite a ((a, oe) :: pn)) b σ H1 fun w H2 => v = .ref a ∧ ∃ cv r, (∀ u, RelV w u → u = cv) ∧ PySem.W.kitOne X.K (.ref D) cv = some r ∧ Q (.bl r) H2)
    (hs : starEach [e, b] X.env = (false, eval e X.env) :: starEach [b] X.env := by rfl) (ht : starEach [b] X.env = [(false, eval b X.env)] := by rfl) (hl : (backTo pos (starEach [b] X.env)).any (·.1) = false := by rfl) :
    WE (X.suite a ((a, oe) :: pn)) (.Call (.Name "isinstance" p) [e, b] [] pos) σ H Q :=
  we_callB (call_isE (pn := pn) C hz.zc hf) bn boot_isinstance (wa_two (we_mono h fun v H1 q => we_mono q fun w H2 q => by
    obtain ⟨rfl, cv, r, h1, h2, q⟩ := q
    exact ⟨w, cv, r, rfl, h1, h2, q⟩) hs ht) (by decide) (by decide) hs hl
theorem cv_ref {K : PySem.W.Frag} {C : Addr} {r : Bool} {P : Bool → Prop} (h : PySem.W.kitOne K (.ref D) (.ref C) = some r) (q : P r) : V.ref a = .ref a ∧ ∃ cv r, (∀ u, RelV (.ref C) u → u = cv) ∧ PySem.W.kitOne K (.ref D) cv = some r ∧ P r := ⟨rfl, _, _, fun _ z => z, h, q⟩
theorem cv_ty {K : PySem.W.Frag} {T : String} {r : Bool} {P : Bool → Prop} (h : PySem.W.kitOne K (.ref D) (.type T) = some r) (q : P r) : V.ref a = .ref a ∧ ∃ cv r, (∀ u, RelV (.ty T) u → u = cv) ∧ PySem.W.kitOne K (.ref D) cv = some r ∧ P r := ⟨rfl, _, _, fun _ z => z, h, q⟩
end
theorem excC_ok {K : PySem.W.Frag} {D : Addr} (h : excCB K D = true) : ExcC K D := by
  obtain ⟨h1, h⟩ := ba h
  obtain ⟨h2, h⟩ := ba h
  obtain ⟨h3, h⟩ := ba h
  obtain ⟨h4, h⟩ := ba h
  obtain ⟨h5, h⟩ := ba h
  obtain ⟨h6, h⟩ := ba h
  obtain ⟨h7, h8⟩ := ba h
  exact ⟨of_decide_eq_true h1, of_decide_eq_true h2, of_decide_eq_true h3, h4, of_decide_eq_true h5, of_decide_eq_true h6, of_decide_eq_true h7, of_decide_eq_true h8⟩
end Rs

namespace Rs
open PySem PySem.Spec PyProof.Rows L2 He PySem.Calls ClX
/-! ### keywords -/
def WK (X : Cx) (kws : List Keyword) : TA := fun σ H Q => ∀ pos pins s, Inv X pins σ H s → wpAny (model X.prog X.w) X.A (evalAll ((backToKw pos (keywordEach kws X.env)).map (·.2))) (AP X pins σ Q) X.xe s
theorem pkS {X : Cx} {kws : List Keyword} : PK X kws (WK X kws) := ⟨fun pos pins s _ _ _ I h => h pos pins s I⟩
section
variable {X : Cx} {σ : L2.St} {H : Hp} {Q : VK} {QA : List V → Hp → Prop} {k j n : Nat} {E : L2.St → XK} {x : Str} {sp : Sp} {p pos kpos : Pos} {e : Expr} {es : List Expr} {kws : List Keyword} {C f : Addr} {fd : FuncData} {ps ks : List Str} {nm : Option Str} {g : List Value → List Value → List Value} {gV : List V → List V → List V}
theorem wk_nil (q : QA [] H) : WK X [] σ H QA := fun pos pins s I => pk_nil.run pos pins s σ H QA I q
theorem wk_cons (h : WE X e σ H fun v H1 => WK X kws σ H1 fun vs H2 => QA (v :: vs) H2) : WK X (⟨nm, e, kpos⟩ :: kws) σ H QA := fun pos pins s I => (pk_cons peS pkS).run pos pins s σ H QA I h
/-- a def called with keywords -/
def GKn (P : Program) (w : World) (K : PySem.W.Frag) (mg : Str → Option Value) (base : Heap) (k : Nat) (x : Str) (sp : Sp) (n : Nat) (ks : List Str) (gV : List V → List V → List V) : Prop :=
  ∃ f fd ps g, mg x = some (.ref f) ∧ PySem.W.keepIn K (.ref f) = true ∧ FnOk P w K mg base (RX P w) k f fd ps sp ∧ KBn K fd ps n ks g gV
theorem kw_at {CX : CXT} {E : XK} {pins : List (Addr × Obj)} {s : Shared} {us ws : List Value} {vs zs : List V} (F : FnOk X.prog X.w X.K X.mg X.base CX k f fd ps sp) (hr : Room k X.A) (hb : KBn X.K fd ps n ks g gV) (hx : PassesAt CX X σ E)
    (I : Inv X pins σ H s) (r : Vals vs us) (rz : Vals zs ws) (l1 : vs.length = n) (l2 : zs.length = ks.length) (h : sp (gV vs zs) H Q E) : wpAny (model X.prog X.w) X.A (call (.ref f) us (ks.zip ws)) (EP X pins σ Q) X.xe s :=
  wpAny_call (codeAny_mono (F.run _ _ s H _ _ _ Q E hr I.env0 (hb.to s us ws I.kIn (r.length.symm.trans l1) (rz.length.symm.trans l2)) (hb.rel r rz) h) (out_at hx I))
theorem we_callK (B : Body X k E) (gn : Gn X x) (f : GKn X.prog X.w X.K X.mg X.base j x sp n ks gV) (hj : j ≤ k) (h : WA X (e :: es) σ H fun vs H1 => WK X kws σ H1 fun zs H2 => vs.length = n ∧ zs.length = ks.length ∧ sp (gV vs zs) H2 Q (E σ))
    (hall : (backToKw pos (keywordEach kws X.env)).all (·.1.isSome) = true := by rfl) (hks : (backToKw pos (keywordEach kws X.env)).filterMap (·.1) = ks := by rfl)
    (he : starEach (e :: es) X.env = (false, eval e X.env) :: starEach es X.env := by rfl) (hpl : ((backTo pos (starEach (e :: es) X.env)).any (·.1) || (backToKw pos (keywordEach kws X.env)).any (·.1.isNone)) = false := by rfl) :
    WE X (.Call (.Name x p) (e :: es) kws pos) σ H Q := by
  obtain ⟨f, fd, ps, g, hm, hk, F, hb⟩ := f
  intro pins s I
  refine wpAny_Call_Name_kw (ld_glob I gn.gl hm ?_ gn.d1)
  refine PySem.W.callWith_KW (h₀ := X.base) I.ok.mod.kin hk hall (thn (h pos pins s I) fun us s1 z => ?_) hpl he
  obtain ⟨vs, H1, I1, r, q⟩ := z
  refine thn (q pos pins s1 I1) fun ws s2 z => ?_
  obtain ⟨zs, H2, I2, rz, l1, l2, q⟩ := z
  refine ⟨I2.kIn, ?_⟩
  rw [hks]
  exact kw_at F (B.room.mono hj) hb (B.at σ) I2 r rz l1 l2 q
/-- a class made with keywords -/
def GKk (P : Program) (w : World) (K : PySem.W.Frag) (mg : Str → Option Value) (base : Heap) (k : Nat) (x : Str) (C : Addr) (sp : Sp) (n : Nat) (ks : List Str) (gV : List V → List V → List V) : Prop :=
  ∃ f fd ps g, mg x = some (.ref C) ∧ Mk K C f ∧ FnOk P w K mg base (RX P w) k f fd ps sp ∧ KBn K fd ps (n + 1) ks g gV
theorem kmake_at {CX : CXT} {E : XK} {pins : List (Addr × Obj)} {s : Shared} {us ws : List Value} {vs zs : List V} (M : Mk X.K C f) (F : FnOk X.prog X.w X.K X.mg X.base CX k f fd ps sp) (hr : Room (k + 1) X.A) (hb : KBn X.K fd ps (n + 1) ks g gV)
    (hx : PassesAt CX X σ E) (I : Inv X pins σ H s) (r : Vals vs us) (rz : Vals zs ws) (l1 : vs.length = n) (l2 : zs.length = ks.length) (h : ∀ a dx, H a = none → H dx = none → dx ≠ a → sp (gV (.ref a :: vs) zs) (upd (upd H dx (.own a)) a (.ins C dx [])) (fun v H2 => v = .non ∧ Q (.ref a) H2) E) :
    wpAny (model X.prog X.w) X.A (call (.ref C) us (ks.zip ws)) (EP X pins σ Q) X.xe s := by
  have J := Inv.made (C := C) I
  have hq := h (s.heap.objs.size + 1) s.heap.objs.size (I.hok.fresh (Nat.le_succ _)) (I.hok.fresh (Nat.le_refl _)) (Nat.ne_of_lt (Nat.lt_succ_self _))
  have ru : Vals (V.ref (s.heap.objs.size + 1) :: vs) (Value.ref (s.heap.objs.size + 1) :: us) := .cons rfl r
  have bd := hb.to _ (Value.ref (s.heap.objs.size + 1) :: us) ws J.kIn (ru.length.symm.trans (congrArg Nat.succ l1)) (rz.length.symm.trans l2)
  have run := F.run _ X.stack _ _ ⟨Value.ref (s.heap.objs.size + 1) :: us, ks.zip ws⟩ _ _ _ E (hr.make C us (ks.zip ws)) (J.env0.make C us (ks.zip ws)) bd (hb.rel ru rz) hq
  refine wpAny_call (make_map (f := f) I.kIn M.makes M.init (beq_iff_eq.mp M.fn) (codeAny_mono run fun o t q => ?_))
  have z := out_at hx J o t q
  cases o with
  | error e => exact z
  | ok fl =>
    cases fl with
    | ret u =>
      obtain ⟨v, H', I3, rv, rfl, q3⟩ := z
      exact ⟨rv, ⟨V.ref (s.heap.objs.size + 1), H', I3, rfl, q3⟩⟩
    | next => exact z.elim
    | brk => exact z.elim
    | cont => exact z.elim
theorem we_makeK (B : Body X k E) (gn : Gn X x) (f : GKk X.prog X.w X.K X.mg X.base j x C sp n ks gV) (hj : j + 1 ≤ k) (h : WA X (e :: es) σ H fun vs H1 => WK X kws σ H1 fun zs H2 => vs.length = n ∧ zs.length = ks.length ∧ ∀ a dx, H2 a = none → H2 dx = none → dx ≠ a → sp (gV (.ref a :: vs) zs) (upd (upd H2 dx (.own a)) a (.ins C dx [])) (fun v H3 => v = .non ∧ Q (.ref a) H3) (E σ))
    (hall : (backToKw pos (keywordEach kws X.env)).all (·.1.isSome) = true := by rfl) (hks : (backToKw pos (keywordEach kws X.env)).filterMap (·.1) = ks := by rfl)
    (he : starEach (e :: es) X.env = (false, eval e X.env) :: starEach es X.env := by rfl) (hpl : ((backTo pos (starEach (e :: es) X.env)).any (·.1) || (backToKw pos (keywordEach kws X.env)).any (·.1.isNone)) = false := by rfl) :
    WE X (.Call (.Name x p) (e :: es) kws pos) σ H Q := by
  obtain ⟨f, fd, ps, g, hm, M, F, hb⟩ := f
  intro pins s I
  refine wpAny_Call_Name_kw (ld_glob I gn.gl hm ?_ gn.d1)
  refine PySem.W.callWith_KW (h₀ := X.base) I.ok.mod.kin M.kp hall (thn (h pos pins s I) fun us s1 z => ?_) hpl he
  obtain ⟨vs, H1, I1, r, q⟩ := z
  refine thn (q pos pins s1 I1) fun ws s2 z => ?_
  obtain ⟨zs, H2, I2, rz, l1, l2, q⟩ := z
  refine ⟨I2.kIn, ?_⟩
  rw [hks]
  exact kmake_at M F (B.room.mono hj) hb (B.at σ) I2 r rz l1 l2 q
theorem we_makeK0 (B : Body X k E) (gn : Gn X x) (f : GKk X.prog X.w X.K X.mg X.base j x C sp 0 ks gV) (hj : j + 1 ≤ k) (h : WK X kws σ H fun zs H2 => zs.length = ks.length ∧ ∀ a dx, H2 a = none → H2 dx = none → dx ≠ a → sp (gV [.ref a] zs) (upd (upd H2 dx (.own a)) a (.ins C dx [])) (fun v H3 => v = .non ∧ Q (.ref a) H3) (E σ))
    (hall : (backToKw pos (keywordEach kws X.env)).all (·.1.isSome) = true := by rfl) (hks : (backToKw pos (keywordEach kws X.env)).filterMap (·.1) = ks := by rfl)
    (hpl : ((backTo pos (starEach [] X.env)).any (·.1) || (backToKw pos (keywordEach kws X.env)).any (·.1.isNone)) = false := by rfl) :
    WE X (.Call (.Name x p) [] kws pos) σ H Q := by
  obtain ⟨f, fd, ps, g, hm, M, F, hb⟩ := f
  intro pins s I
  refine wpAny_Call_Name_kw (ld_glob I gn.gl hm ?_ gn.d1)
  refine PySem.W.callWith_KW0 (h₀ := X.base) I.ok.mod.kin M.kp hall ?_ hpl
  refine thn (h pos pins s I) fun ws s2 z => ?_
  obtain ⟨zs, H2, I2, rz, l2, q⟩ := z
  refine ⟨I2.kIn, ?_⟩
  rw [hks]
  exact kmake_at (us := []) (vs := []) M F (B.room.mono hj) hb (B.at σ) I2 .nil rz rfl l2 q
end
/-! ### C.m(..), m a static method -/
structure StatOf (K : PySem.W.Frag) (C : Addr) (m : Str) (p g : Addr) : Prop where
  rd : CRead K C (.type "type")
  ty : PySem.W.typeIn K (.ref C) = some (.type "type")
  at_ : PySem.W.findCls K (.ref C) (.type "type") m = some (.get (.builtin "staticmethod.__get__") (.ref p) .none (.ref C))
  rc : ∃ rest, PySem.W.recIn K p "staticmethod" = some (.ref g :: rest)
  kp : PySem.W.keepIn K (.ref g) = true
def sgA (K : PySem.W.Frag) (C : Addr) (m : Str) : Addr := match PySem.W.recIn K (ma K C m) "staticmethod" with
  | some (.ref g :: _) => g
  | _ => 0
def statB (K : PySem.W.Frag) (C : Addr) (m : Str) : Bool := PySem.W.readsIn K C (.type "type") && (decide (PySem.W.specialIn K (.ref C) "__getattribute__" = some (some (.builtin "type.__getattribute__"))) && (decide (PySem.W.typeIn K (.ref C) = some (.type "type")) &&
  ((match PySem.W.findCls K (.ref C) (.type "type") m with
    | some (.get i p o D) => decide (i = .builtin "staticmethod.__get__") && (decide (p = .ref (ma K C m)) && (decide (o = .none) && decide (D = .ref C)))
    | _ => false) && (PySem.W.keepIn K (.ref (sgA K C m)) &&
  (match PySem.W.recIn K (ma K C m) "staticmethod" with
    | some (.ref g :: _) => decide (g = sgA K C m)
    | _ => false)))))
theorem stat_ok {K : PySem.W.Frag} {C : Addr} {m : Str} (h : statB K C m = true) : StatOf K C m (ma K C m) (sgA K C m) := by
  obtain ⟨h1, h⟩ := ba h
  obtain ⟨h2, h⟩ := ba h
  obtain ⟨h3, h⟩ := ba h
  obtain ⟨h4, h⟩ := ba h
  obtain ⟨h5, h6⟩ := ba h
  refine ⟨⟨h1, of_decide_eq_true h2⟩, of_decide_eq_true h3, ?_, ?_, h5⟩
  · generalize hr : PySem.W.findCls K (.ref C) (.type "type") m = r at h4
    match r, h4 with
    | some (.get i p o D), h4 =>
      obtain ⟨q1, q⟩ := ba h4
      obtain ⟨q2, q⟩ := ba q
      obtain ⟨q3, q4⟩ := ba q
      rw [of_decide_eq_true q1, of_decide_eq_true q2, of_decide_eq_true q3, of_decide_eq_true q4]
  · generalize hr : PySem.W.recIn K (ma K C m) "staticmethod" = r at h6
    match r, h6 with
    | some (.ref g :: rest), h6 => exact ⟨rest, by rw [of_decide_eq_true h6]⟩
section
variable {X : Cx} {σ : L2.St} {H : Hp} {Q : VK} {k j : Nat} {E : L2.St → XK} {m : Str} {sp : Sp} {pos apos : Pos} {o e : Expr} {es : List Expr} {C p g : Addr}
theorem we_stat {pl : Sem Bool} (B : Body X k E) (t : StatOf X.K C m p g) (F : FnR X.prog X.w X.K X.mg X.base (RX X.prog X.w) j g sp) (hj : j ≤ k) (h : WE X o σ H fun y H1 => y = .ref C ∧ WA X (e :: es) σ H1 fun vs H2 => sp vs H2 Q (E σ))
    (hs : starEach (e :: es) X.env = (false, eval e X.env) :: starEach es X.env := by rfl) (hl : (backTo pos (starEach es X.env)).any (·.1) = false := by rfl)
    (ht : eval (.Call (.Attribute o m apos) (e :: es) [] pos) X.env = (do
      let it ← eval o X.env
      standAt apos.atName
      let (g, first) ← holding [it] (getMethod it m pl)
      callWith pos g first (backTo pos (starEach (e :: es) X.env)) (backToKw pos (keywordEach [] X.env))) := by rfl) : WE X (.Call (.Attribute o m apos) (e :: es) [] pos) σ H Q := by
  intro pins s I
  refine PySem.W.methodCall_KW (pl := pl) (thn (h pins s I) fun u s1 z => ?_) ht
  obtain ⟨y, H1, I1, ry, rfl, q⟩ := z
  cases ry
  obtain ⟨rest, hp⟩ := t.rc
  refine PySem.W.method_cls I1.kIn t.rd.ga (PySem.W.cls_bind I1.kIn t.rd.rd t.at_ (wpAny_call (PySem.W.sm_get (s := { s1 with toks := s1.toks + 1 }) I1.kIn hp (PySem.W.handed_on rfl ?_))))
  have I2 := I1.tok (s1.toks + 1)
  refine PySem.W.callWith_K (first := []) (h₀ := X.base) I.ok.mod.kin t.kp (thn (q pos pins _ I2) fun us s2 z => ?_) hs hl
  obtain ⟨vs, H2, I3, r, q2⟩ := z
  exact ⟨I3.kIn, go_at F (B.room.mono hj) (B.at σ) I3 r q2⟩
end
/-! ### an own __bool__ -/
structure BoolOwn (K : PySem.W.Frag) (C f : Addr) : Prop where
  at_ : PySem.W.findIn K (.ref C) "__bool__" = some (some (.ref f))
  fn : PySem.W.isFn K (.ref f) = true
def boolOwnB (K : PySem.W.Frag) (C f : Addr) : Bool := decide (PySem.W.findIn K (.ref C) "__bool__" = some (some (.ref f))) && PySem.W.isFn K (.ref f)
theorem boolOwn_ok {K : PySem.W.Frag} {C f : Addr} (h : boolOwnB K C f = true) : BoolOwn K C f := by
  obtain ⟨h1, h2⟩ := ba h
  exact ⟨of_decide_eq_true h1, h2⟩
theorem bool_own {prog : Program} {w : World} {A : Around} {R : Value → Shared → Prop} {P : Value → Shared → Prop} {s : Shared} {K : PySem.W.Frag} {x C f : Addr} {ox : Obj} {od : Option Obj} (KX : K.In s.heap) (J : PySem.W.InstAt s.heap x ox C od) (c : BoolOwn K C f)
    (h : wpAny (model prog w) A.in1.in1 (call (.ref f) [.ref x]) (fun v t => ∃ b, v = .bool b ∧ P (.bool b) t) R s) : wpAny (model prog w) A (call (.type "bool") [.ref x]) P R s := by
  refine callType_codes (T := "bool") (Bi := Builtin.«object.__init__») (Q₁ := fun r t => ∃ b, r = .bool b ∧ P r t) PySem.F.called_bool (PySem.F.typeCall_bool_1 _) PySem.F.entry_object_init ?_ ?_
  · refine codeAny_of_tree ?_
    show wpAny _ A.in1.in1 (do checkBuiltinCall "bool.__new__" ⟨[.type "bool", .ref x], []⟩; again (.builtin "bool.__new__" ⟨[.type "bool", .ref x], []⟩)) _ _ s
    refine wpAny_bind (wpAny_of_eq (PySem.F.newCall_bool_1 _) (wpAny_pure ⟨plainId_quiet (by decide +kernel) _, codeAny_builtin PySem.F.entry_bool_new ?_⟩))
    rw [Around.under_plainId (by decide +kernel) _]
    unfold Builtin.«bool.__new__»
    have f1 := PySem.F.conv_sub_bool
    repeat (first
      | (refine wpAny_bind (m := callSpecial? (.ref x) (Str.ofString "__bool__")) (PySem.W.special_fn KX J c.at_ (beq_iff_eq.mp c.fn) (wpAny_mono h (fun v t z => ?_) fun _ _ z => z)))
      | (unfold truthy; refine wpAny_bind (wpAny_bind (m := callSpecial? (.ref x) (Str.ofString "__bool__")) (PySem.W.special_fn KX J c.at_ (beq_iff_eq.mp c.fn) (wpAny_mono h (fun v t z => ?_) fun _ _ z => z))))
      | assumption
      | wp_step)
    obtain ⟨b, rfl, q⟩ := z
    repeat (first | exact ⟨b, rfl, q⟩ | exact wpAny_pure ⟨b, rfl, q⟩ | wp_step)
  · rintro obj t ⟨b, rfl, q⟩
    exact ⟨rfl, PySem.F.args_object_init_2 _ _, object_init_meets PySem.F.called_bool.init.lookup PySem.F.called_bool.made (by decide) prog w A.in1 _ t ⟨rfl, rfl, q⟩⟩
end Rs

namespace Rs
open PySem PySem.Spec PyProof.Rows L2 He
/-! ### calls within an except suite (of defs that raise nothing there) -/
section
variable {P : Program} {w : World} {K : PySem.W.Frag} {mg : Str → Option Value} {base : Heap} {N ps : List Str} {name qual : Str} {pa : Arguments} {body : List Stmt} {sc : Scope} {dvs : List V} {kws : List (Str × V)} {f : Addr} {fd : FuncData} {k : Nat} {sp : Sp}
theorem def_okH (F : FunD K name qual pa body sc dvs kws f fd) (S : FnScope N ps sc) (len : ∀ vs H Q E, sp vs H Q E → vs.length = ps.length)
    (hb : ∀ (X : Cx), X.prog = P → X.w = w → X.K = K → X.mg = mg → X.base = base → X.N = N → X.env.scope = sc → (∀ x, X.fn x = true) → N.Nodup → ∀ (H : Hp) (vs : List V) (Q : VK) (E : XK), L2H.HotC X → L2H.RoomH k X.A → sp vs H Q E → WB X body { nx := fun _ H' => Q .non H', rt := Q } (start N vs) H) :
    L2H.FnH P w K mg base CX0 (k + 1) f fd ps sp := by
  obtain ⟨oc, od, dV, kV, doc, pm, an, cdv, ct, osl, rfl, lk, hcd, _, _⟩ := F.ex
  exact L2H.fn_ofH lk hcd S len fun A outer s H vs Q E p hot hr h => ⟨_, pbS, hb (L2H.cxH CX0 P w K mg base N qual sc f cdv A outer s H E p) rfl rfl rfl rfl rfl rfl rfl (fun _ => rfl) S.nd H vs Q E ⟨p, hot, List.mem_cons_self⟩ hr h⟩
def GFnH (P : Program) (w : World) (K : PySem.W.Frag) (mg : Str → Option Value) (base : Heap) (k : Nat) (x : Str) (sp : Sp) : Prop :=
  ∃ f fd ps, mg x = some (.ref f) ∧ PySem.W.keepIn K (.ref f) = true ∧ L2H.FnH P w K mg base CX0 k f fd ps sp ∧ Binds K fd ps []
end
section
variable {X : Cx} {σ : L2.St} {H : Hp} {Q : VK} {k j : Nat} {x : Str} {sp : Sp} {p pos : Pos} {e : Expr} {es : List Expr}
theorem we_callH (hc : L2H.HotC X) (hr : L2H.RoomH k X.A) (g : Gn X x) (f : GFnH X.prog X.w X.K X.mg X.base j x sp) (hj : j ≤ k) (h : WA X (e :: es) σ H fun vs H1 => sp vs H1 Q E0)
    (hs : starEach (e :: es) X.env = (false, eval e X.env) :: starEach es X.env := by rfl) (hl : (backTo pos (starEach es X.env)).any (·.1) = false := by rfl) : WE X (.Call (.Name x p) (e :: es) [] pos) σ H Q := by
  obtain ⟨a, fd, ps, hm, hk, F, hb⟩ := f
  exact weP (L2H.pe_callH (E := fun _ => E0) F (hr.mono hj) hc g.gl hm hk hb (fun σ _ _ _ _ _ _ c => c.elim) paS g.d1 hs hl) h
theorem hot_suite {a : Addr} {oe : Obj} {cls : Value} {d : Option Addr} {pn : List (Addr × Obj)} (hz : L2N.Zn cls d oe) (hf : ∃ vs, oe.data = .fields vs) : L2H.HotC (X.suite a ((a, oe) :: pn)) := by
  obtain ⟨vs, hv⟩ := hf
  exact ⟨(a, oe), ⟨rfl, vs, hv, hz.2.2 vs hv⟩, List.mem_cons_self⟩
theorem room_suite {a : Addr} {pn : List (Addr × Obj)} {E : L2.St → XK} (B : Body X k E) : L2H.RoomH k (X.suite a pn).A := ⟨B.room.dp, B.room.un⟩
end
end Rs

namespace Rs
open PySem PySem.Spec PyProof.Rows L2 He
/-! ### operators that may raise, at these slots -/
def OpA (X : Cx) (f : Value → Value → Sem Value) (σ : L2.St) (x y : V) (H : Hp) (Q : VK) : Prop := ∀ pins s u v, Inv X pins σ H s → RelV x u → RelV y v → wpAny (model X.prog X.w) X.A (f u v) (EP X pins σ Q) X.xe s
section
variable {X : Cx} {σ : L2.St} {k j : Nat} {E : L2.St → XK} {sp : Sp} {C f g a b dx dy : Addr} {fs gs : List (Str × V)} {H : Hp} {Q : VK} {op : Operator} {i : Int} {e1 e2 : Expr} {pos : Pos}
theorem we_binA (h : WE X e1 σ H fun x H1 => WE X e2 σ H1 fun y H2 => OpA X (binaryOp op) σ x y H2 Q) : WE X (.BinOp e1 op e2 pos) σ H Q := fun pins s I =>
  wpAny_BinOp (binT peS peS (R := fun x y H2 => OpA X (binaryOp op) σ x y H2 Q) I h fun v u s2 x y H2 I2 rx ry q => q pins s2 v u I2 rx ry)
theorem binA_tt (B : Body X k E) (c : BinOwn X.K C f op) (F : FnR X.prog X.w X.K X.mg X.base (RX X.prog X.w) j f sp) (hj : j ≤ k) (ea : H a = some (.ins C dx fs)) (eb : H b = some (.ins C dy gs)) (h : sp [.ref a, .ref b] H Q (E σ)) :
    OpA X (binaryOp op) σ (.ref a) (.ref b) H Q := by
  intro pins s u v I ru rv
  cases ru
  cases rv
  obtain ⟨od, J⟩ := inst_of I ea
  obtain ⟨od', J'⟩ := inst_of I eb
  obtain ⟨m, hF⟩ := I.fr
  exact PySem.W.binop_K hF I.ok.mod.kin J J'.type c.sf c.at_ c.fn (back (go_at (vs := [.ref a, .ref b]) F (B.room.mono hj) (B.at σ) I (.cons rfl (.cons rfl .nil)) h))
theorem binA_ti (B : Body X k E) (c : BinOwn X.K C f op) (F : FnR X.prog X.w X.K X.mg X.base (RX X.prog X.w) j f sp) (hj : j ≤ k) (ea : H a = some (.ins C dx fs)) (h : sp [.ref a, .int i] H Q (E σ)) : OpA X (binaryOp op) σ (.ref a) (.int i) H Q := by
  intro pins s u v I ru rv
  cases ru
  obtain ⟨t, rfl⟩ := rv
  obtain ⟨od, J⟩ := inst_of I ea
  obtain ⟨m, hF⟩ := I.fr
  obtain ⟨rc, h1, h2⟩ := c.rc
  obtain ⟨fo, ro, h3, h4⟩ := c.it
  exact PySem.W.ksp_binT (T := "int") hF I.ok.mod.kin J rfl c.sf c.at_ c.fn h1 h2 h3 h4 c.sub (back (go_at (vs := [.ref a, .int i]) F (B.room.mono hj) (B.at σ) I (.cons rfl (.cons ⟨t, rfl⟩ .nil)) h))
theorem binA_it (B : Body X k E) (c : BinRef X.K C g op) (hf : fillsNumberSlot (.type "int") op.info.2 = pure true) (d : IntDecl (dunder op.info.2)) (F : FnR X.prog X.w X.K X.mg X.base (RX X.prog X.w) j g sp) (hj : j ≤ k) (ea : H a = some (.ins C dx fs))
    (h : sp [.ref a, .int i] H Q (E σ)) : OpA X (binaryOp op) σ (.int i) (.ref a) H Q := by
  intro pins s u v I ru rv
  cases rv
  obtain ⟨t, rfl⟩ := ru
  obtain ⟨od, J⟩ := inst_of I ea
  exact int_left I.kIn J rfl c hf d (back (go_at (vs := [.ref a, .int i]) F (B.room.mono hj) (B.at σ) I (.cons rfl (.cons ⟨t, rfl⟩ .nil)) h))
theorem op2A {f : Value → Value → Sem Value} {x y : V} (h : Op2 X f x y H Q) : OpA X f σ x y H Q := fun pins s u v I => h pins s σ u v I
end
theorem decl_fdiv (i : Int) (t : Tok) (x : Addr) (ox : Obj) : Meets (Builtin.«int.__floordiv__» ⟨[.int i t, .ref x], []⟩) (DeclS x ox) := .of_wp fun prog w A R s q => by
  obtain ⟨hp, g, d, tk, os⟩ := s
  obtain ⟨e1, e2, z⟩ := q
  wp_walk using AutoSeq1.wpAny_loadPart' e1, wpAny_load e1
  simp only [e2]
  wp_walk using AutoSeq1.wpAny_loadPart' e1, wpAny_load e1
  simp only [e2]
  wp_walk using AutoSeq1.wpAny_loadPart' e1, wpAny_load e1
  exact ⟨_, rfl, z⟩
theorem idecl_fdiv : IntDecl (dunder "floordiv") := ⟨_, _, PySem.F.slot_int_floordiv, PySem.F.entry_int_floordiv, PySem.F.args_int_floordiv_2, decl_fdiv⟩
end Rs

namespace Rs
open PySem PySem.Spec PyProof.Rows L2 He
/-! ### within a comprehension's block -/
abbrev Bk (X : Cx) (s : Shared) (H : Hp) (scope : Scope) (C : Addr) (cl : List (Str × Addr)) (fp : List Addr) : Cx := X.blk s H scope (compEnvC scope cl C X.env) fp
section
variable {X : Cx} {s : Shared} {H : Hp} {scope : Scope} {C : Addr} {cl : List (Str × Addr)} {fp : List Addr} {k i : Nat} {E : L2.St → XK} {x : Str}
theorem Body.blk (B : Body X k E) (h0 : scope.names.lookup ("0" : Str) = none) : Body (Bk X s H scope C cl fp) k fun _ => E0 :=
  ⟨B.calm, B.room, (fun _ _ y => by obtain ⟨_, _, _, _, _, _, _, _, _, _, _, _, _, _, _, _, z⟩ := y; exact z.elim), PassesOwn.never,
    (fun hf => absurd (hf "0") (by show ¬ ((scope.names.lookup ("0" : Str) == some NameKind.cell) = true); rw [h0]; decide)), (fun hf => absurd (hf "0") (by show ¬ ((scope.names.lookup ("0" : Str) == some NameKind.cell) = true); rw [h0]; decide))⟩
/-- a name that is read -/
structure SlF (X : Cx) (i : Nat) (x : Str) : Prop where
  at_ : X.N[i]? = some x
  vis : Vis X.env.scope x
  d1 : (x == ("__debug__" : Str)) = false
  d2 : (x == ("__classdict__" : Str)) = false
theorem we_nameF {σ : L2.St} {H : Hp} {Q : VK} {v : V} {pos : Pos} (n : SlF X i x) (h : σ[i]? = some (some v)) (q : Q v H) : WE X (.Name x pos) σ H Q := weP (pe_var n.at_ n.vis n.d1 n.d2) ⟨v, h, q⟩
theorem Sl.own (n : Sl X i x) (h : scope.names.lookup x = some .local) : Sl (Bk X s H scope C cl fp) i x :=
  ⟨n.at_, n.nd, .inl (lookup_relS_keep (by decide) h), .inr (lookup_relS_keep (by decide) h), n.d1, n.d2⟩
/-- the block's own name -/
theorem own_of {N : List Str} (eN : X.N = N) (nd : N.Nodup) (hi : N[i]? = some x) (h : scope.names.lookup x = some .local) (d1 : (x == ("__debug__" : Str)) = false) (d2 : (x == ("__classdict__" : Str)) = false) : Sl (Bk X s H scope C cl fp) i x :=
  ⟨by show X.N[i]? = _; rw [eN]; exact hi, by show X.N.Nodup; rw [eN]; exact nd, .inl (lookup_relS_keep (by decide) h), .inr (lookup_relS_keep (by decide) h), d1, d2⟩
theorem gn_blk (h : scope.names.lookup x = some .globalImplicit) (d1 : (x == ("__debug__" : Str)) = false) : Gn (Bk X s H scope C cl fp) x := ⟨lookup_relS_keep (by decide) h, d1⟩
theorem bn_blk (h : scope.names.lookup x = some .globalImplicit) (no : X.mg x = none) : Bn (Bk X s H scope C cl fp) x := ⟨lookup_relS_keep (by decide) h, no⟩
/-- a name captured from the def -/
theorem free_of {N : List Str} {sc : Scope} (eN : X.N = N) (es : X.env.scope = sc) (hi : N[i]? = some x) (h : (relS scope sc).names.lookup x = some .cell) (d1 : (x == ("__debug__" : Str)) = false) (d2 : (x == ("__classdict__" : Str)) = false) : SlF (Bk X s H scope C cl fp) i x :=
  ⟨by show X.N[i]? = _; rw [eN]; exact hi, .inr (.inl (by show (relS scope X.env.scope).names.lookup x = _; rw [es]; exact h)), d1, d2⟩
end
/-! ### [e for x in xs] -/
/-- what the items come to -/
def LcG (X : Cx) (scope : Scope) (elt : Expr) (i : Nat) (sq : Hp → Addr → List V → Prop) (σ : L2.St) (a : Addr) (xs : List V) (Q : VK) (H1 : Hp) : Prop :=
  ∀ D, H1 D = none → ∃ P : Nat → Hp → Prop, P 0 (upd H1 D (.lst [])) ∧ (∀ j H, j ≤ xs.length → P j H → sq H a xs) ∧
    (∀ j v H, xs[j]? = some v → P j H → ∀ s H0 C cl fp, WE (Bk X s H0 scope C cl fp) elt (σ.set i (some v)) H fun y H4 => ∃ acc, H4 D = some (.lst acc) ∧ acc.length < sizeLine ∧ P (j + 1) (upd H4 D (.lst (acc ++ [y])))) ∧ ∀ H, P xs.length H → Q (.ref D) H
section
variable {X : Cx} {σ : L2.St} {H : Hp} {Q : VK} {D : Ends} {k i n : Nat} {E : L2.St → XK} {x y : Str} {scope : Scope} {elt iter : Expr} {px py pos spos : Pos}
theorem set2 {σ : L2.St} {i : Nat} {a b : Option V} : (σ.set i a).set i b = σ.set i b := List.set_set ..
def teB (X : Cx) (scope : Scope) (elt : Expr) : TE := fun σ H Q => ∀ s H0 C cl fp, WE (Bk X s H0 scope C cl fp) elt σ H Q
theorem lc_by (h : WE X iter σ H fun v H1 => ∃ a xs, v = .ref a ∧ SqL X.K H1 a xs ∧ LcG X scope elt i (SqL X.K) σ a xs Q H1) : tLc (iList X.K (WE X iter)) (gName i) tYes (teB X scope elt) [i] σ H Q := by
  refine we_mono h fun v H1 q => ?_
  obtain ⟨a, xs, rfl, hq, q⟩ := q
  refine ⟨a, rfl, ⟨xs, hq⟩, fun D hD => ?_⟩
  obtain ⟨P, h0, hl, hs, hd⟩ := q D hD
  refine lc_list P h0 hl (fun j v H hv p => ?_) hd
  refine ⟨(show ((σ.set i none).set i (some v)).set i none = σ.set i none by rw [set2, set2]), (iteT (B := P (j + 1) H) ?_ : if true = true then teB X scope elt ((σ.set i none).set i (some v)) H fun y H4 => ∃ acc, H4 D = some (.lst acc) ∧ acc.length < sizeLine ∧ P (j + 1) (upd H4 D (.lst (acc ++ [y]))) else P (j + 1) H)⟩
  intro s H0 C cl fp
  have e : (σ.set i none).set i (some v) = σ.set i (some v) := set2
  have z := hs j v H hv p s H0 C cl fp
  rw [← e] at z
  exact z
theorem lc_byT (h : WE X iter σ H fun v H1 => ∃ a xs, v = .ref a ∧ SqT X.K H1 a xs ∧ LcG X scope elt i (SqT X.K) σ a xs Q H1) : tLc (iTup X.K (WE X iter)) (gName i) tYes (teB X scope elt) [i] σ H Q := by
  refine we_mono h fun v H1 q => ?_
  obtain ⟨a, xs, rfl, hq, q⟩ := q
  refine ⟨a, rfl, ⟨xs, hq⟩, fun D hD => ?_⟩
  obtain ⟨P, h0, hl, hs, hd⟩ := q D hD
  refine lc_tup P h0 hl (fun j v H hv p => ?_) hd
  refine ⟨(show ((σ.set i none).set i (some v)).set i none = σ.set i none by rw [set2, set2]), (iteT (B := P (j + 1) H) ?_ : if true = true then teB X scope elt ((σ.set i none).set i (some v)) H fun y H4 => ∃ acc, H4 D = some (.lst acc) ∧ acc.length < sizeLine ∧ P (j + 1) (upd H4 D (.lst (acc ++ [y]))) else P (j + 1) H)⟩
  intro s H0 C cl fp
  have e : (σ.set i none).set i (some v) = σ.set i (some v) := set2
  have z := hs j v H hv p s H0 C cl fp
  rw [← e] at z
  exact z
theorem peB : ∀ (s : Shared) (H : Hp) (C : Addr) (cl : List (Str × Addr)) (fp : List Addr), PE (X.blk s H scope (compEnvC scope cl C X.env) fp) elt (teB X scope elt) := fun s H C cl fp => ⟨fun pins t σ H' Q I h => h s H C cl fp pins t I⟩
theorem we_lc (B : Body X k E) (nd : X.N.Nodup) (hi : X.N[i]? = some x) (hx : scope.names.lookup x = some .local) (ok : BlkOk X.N X.env.scope scope [(x, i)])
    (h : WE X iter σ H fun v H1 => ∃ a xs, v = .ref a ∧ SqL X.K H1 a xs ∧ LcG X scope elt i (SqL X.K) σ a xs Q H1) (hs : ∀ v, foldedSetIterable iter X.env v = pure v := by intro _; rfl) : WE X (.ListComp elt [⟨.Name x px, iter, [], 0⟩] scope pos) σ H Q :=
  weP (pe_lc (own := [(x, i)]) (g := gName i) (tt := tYes) B.calm nd (pi_list peS) ok (fun _ _ _ _ _ => pg_name nd hi (.inl (lookup_relS_keep (by decide) hx)) (.inr (lookup_relS_keep (by decide) hx))) (fun _ _ _ _ _ => pts_nil) peB hs) (lc_by h)
theorem we_lcT (B : Body X k E) (nd : X.N.Nodup) (hi : X.N[i]? = some x) (hx : scope.names.lookup x = some .local) (ok : BlkOk X.N X.env.scope scope [(x, i)])
    (h : WE X iter σ H fun v H1 => ∃ a xs, v = .ref a ∧ SqT X.K H1 a xs ∧ LcG X scope elt i (SqT X.K) σ a xs Q H1) (hs : ∀ v, foldedSetIterable iter X.env v = pure v := by intro _; rfl) : WE X (.ListComp elt [⟨.Name x px, iter, [], 0⟩] scope pos) σ H Q :=
  weP (pe_lc (own := [(x, i)]) (g := gName i) (tt := tYes) B.calm nd (pi_tup peS) ok (fun _ _ _ _ _ => pg_name nd hi (.inl (lookup_relS_keep (by decide) hx)) (.inr (lookup_relS_keep (by decide) hx))) (fun _ _ _ _ _ => pts_nil) peB hs) (lc_byT h)
theorem ws_setLc (B : Body X k E) (m : Sl X n y) (hy : X.env.scope.names.lookup y = some .local) (hk : X.env.scope.kind = .function) (hi : X.N[i]? = some x) (hx : scope.names.lookup x = some .local) (ok : BlkOk X.N X.env.scope scope [(x, i)])
    (h : WE X iter σ H fun v H1 => ∃ a xs, v = .ref a ∧ SqL X.K H1 a xs ∧ LcG X scope elt i (SqL X.K) σ a xs (fun v H' => D.nx (σ.set n (some v)) H') H1) (hl : (py.line == spos.line) = true := by rfl)
    (ha : (scope.names.any fun (n, k) => n == y && (k == .local || k == .cell)) = false := by decide +kernel) (he : pos.line = spos.line := by rfl) (hs : ∀ v, foldedSetIterable iter X.env v = pure v := by intro _; rfl) :
    WS X (.Assign [.Name y py] (.ListComp elt [⟨.Name x px, iter, [], 0⟩] scope pos) spos) D σ H :=
  wsP (ps_setLc (own := [(x, i)]) (g := gName i) (tt := tYes) B.calm m.nd m.at_ hy (sw_true hk hy (by rw [he]; exact hl) ha) (pi_list peS) ok (fun _ _ _ _ _ => pg_name m.nd hi (.inl (lookup_relS_keep (by decide) hx)) (.inr (lookup_relS_keep (by decide) hx))) (fun _ _ _ _ _ => pts_nil) peB hs) (lc_by h)
end
end Rs

namespace Rs
open PySem PySem.Spec PyProof.Rows L2 He PySem.Calls
/-! ### for i, x in enumerate(a tuple) -/
theorem new_enum (a : Addr) (its : Array Value) :
    Meets (Builtin.«enumerate.__new__» ⟨[.type "enumerate", .ref a], []⟩) (fun _ R t => Heap.IsTuple t.heap a its ∧
      R (.ok (.ret (.ref (t.heap.push { cls := .type "tuple_iterator", data := .fields #[.ref a, .int 0 0] }).objs.size)))
        { t with heap := (t.heap.push { cls := .type "tuple_iterator", data := .fields #[.ref a, .int 0 0] }).push { cls := .type "enumerate", data := .fields #[.none, .bool false, .ref t.heap.objs.size, rawInt 0, .none, .none] } }) :=
  .of_wp fun pg wd A R t z => by
    obtain ⟨hh, gg, dd, kk, oo⟩ := t
    obtain ⟨y, z⟩ := z
    have su := PySem.sub_enumerate
    have st : ∀ {A' : Around} {E : Value → Shared → Prop} {Q : Value → Shared → Prop}, Q (.ref hh.objs.size) ⟨hh.push { cls := .type "tuple_iterator", data := .fields #[.ref a, .int 0 0] }, gg, dd, kk, oo⟩ → wpAny (model pg wd) A' (pyIter (.ref a)) Q E ⟨hh, gg, dd, kk, oo⟩ :=
      fun q => wpAny_pyIter_tuple (s := ⟨hh, gg, dd, kk, oo⟩) y q
    wp_walk using st
    refine wpAny_stack_any fun fr => wpAny_pure ?_
    split
    · rename_i cc _ _ _ _ _
      cases (cc == Value.type "enumerate")
      all_goals (wp_walk using st; exact ⟨_, rfl, z⟩)
    · wp_walk using st
      exact ⟨_, rfl, z⟩
section
variable {prog : Program} {w : World} {A : Around} {E : Value → Shared → Prop} {s : Shared}
theorem call_enumT {a : Addr} {its : Array Value} {Q : Value → Shared → Prop} (y : Heap.IsTuple s.heap a its)
    (h : ∀ h', IsEnum h' (s.heap.objs.size + 1) s.heap.objs.size 0 .none → h'.IsTupleIter s.heap.objs.size a 0 → (∀ b o, s.heap.get? b = some o → h'.get? b = some o) → Q (.ref (s.heap.objs.size + 1)) { s with heap := h' }) :
    wpAny (model prog w) A (call (.type "enumerate") [.ref a]) Q E s := by
  refine callType_new F.called_enumerate (by decide) (F.typeCall_enumerate_1 _) (F.newCall_enumerate_1 _) (fun ob => F.args_object_init_2 ob _) F.entry_enumerate_new (new_enum a its) ⟨y, ?_⟩
  generalize hg : s.heap.push { cls := .type "tuple_iterator", data := .fields #[.ref a, .int 0 0] } = g
  have sz : g.objs.size = s.heap.objs.size + 1 := by rw [← hg]; exact Heap.size_push ..
  have i0 : g.get? s.heap.objs.size = some { cls := .type "tuple_iterator", data := .fields #[.ref a, .int 0 0] } := by rw [← hg]; exact Heap.get?_push_size _ rfl
  have kp : ∀ b o, s.heap.get? b = some o → g.get? b = some o := fun b o z => by rw [← hg]; exact Heap.get?_push_of_some _ z
  have e0 : IsEnum (g.push { cls := .type "enumerate", data := .fields #[.none, .bool false, .ref s.heap.objs.size, rawInt 0, .none, .none] }) (s.heap.objs.size + 1) s.heap.objs.size 0 .none := by
    rw [← sz]
    exact Heap.get?_push_size _ rfl
  show _ ∧ _
  rw [sz]
  exact ⟨⟨_, e0, rfl⟩, h _ e0 ⟨_, Heap.get?_push_of_some _ i0, rfl, rfl⟩ fun b o z => Heap.get?_push_of_some _ (kp b o z)⟩
end
/-- the pairs, each a new tuple -/
def Iet (K : PySem.W.Frag) (a : Addr) : It :=
  ⟨fun j H => ∃ (ys : List V) (y : V), SqT K H a ys ∧ ys[j]? = some y, fun j H v H' => ∃ T y, v = .ref T ∧ H T = none ∧ H' = upd H T (.tup [.int (j : Nat), y]) ∧ ∀ ys, SqT K H a ys → ys[j]? = some y, fun j H => ∃ ys : List V, SqT K H a ys ∧ ys.length = j⟩
theorem turn_enumT {P : Program} {w : World} {K : PySem.W.Frag} {es : List Expr} {kk : Nat} {tp : Pos} (a e it : Addr) :
    Turn P w K (.Tuple es kk tp) (Iet K a) [e, it] e (fun j h => (∃ old, IsEnum h e it ((j : Nat) : Int) old) ∧ h.IsTupleIter it a j ∧ e ≠ it) where
  mem := List.mem_cons_self
  obj := fun j h q b hb => by
    obtain ⟨⟨old, he⟩, ⟨o, ho, hc, hd⟩, _⟩ := q
    rcases List.mem_cons.mp hb with z | z
    · rw [z]
      exact ⟨_, he, fun v q => nomatch q⟩
    · rw [List.mem_singleton.mp z]
      exact ⟨o, ho, fun v q => by rw [hd] at q; cases q⟩
  keep := fun j h h' q kp => ⟨q.1.imp fun old z => kp e List.mem_cons_self _ z, q.2.1.at fun o z => kp it (List.mem_cons_of_mem _ List.mem_cons_self) o z, q.2.2⟩
  item := by
    rintro X rfl rfl rfl hc j pins s σ H E I hf ⟨⟨old, he⟩, hit, hne⟩ ⟨ys, y, hq, hy⟩
    obtain ⟨its, rv, tp, hz⟩ := I.tuple hq
    obtain ⟨u, hu, ru⟩ := rv.get hy
    have sz1 : e < s.heap.objs.size := Heap.lt_size he
    have sz2 : it < s.heap.objs.size := by obtain ⟨_, q, _⟩ := hit; exact Heap.lt_size q
    have szf : ∀ b ∈ [e, it], b < s.heap.objs.size := fun b hb => by
      rcases List.mem_cons.mp hb with z | z
      · rw [z]; exact sz1
      · rw [List.mem_singleton.mp z]; exact sz2
    have jl : j < its.toArray.size := by
      rw [List.size_toArray]
      exact (List.getElem?_eq_some_iff.mp hu).1
    have na : ∀ b ∈ [e, it], a ≠ b := fun b hb z => by
      obtain ⟨o, ho, hcl, _⟩ := tp
      rcases List.mem_cons.mp hb with q | q
      · rw [z, q] at ho
        rw [show s.heap.get? e = _ from he] at ho
        cases ho
        exact absurd hcl (by simp)
      · rw [z, List.mem_singleton.mp q] at ho
        obtain ⟨o', ho', hc', _⟩ := hit
        rw [ho'] at ho
        cases ho
        rw [hc'] at hcl
        exact absurd hcl (by simp)
    refine wpAny_pyNext_enum_itemD (Draws.tuple (A := X.A.in1) (I.ok.hd hc) it a (na it (List.mem_cons_of_mem _ List.mem_cons_self)) its.toArray) he ⟨hit, tp⟩ jl hne (fun z => ?_) fun x h' tk hx ho hit' hT hsz hk => ?_
    · rcases List.mem_cons.mp z with z | z
      · exact hne z
      · exact na e List.mem_cons_self (List.mem_singleton.mp z).symm
    have ex : x = u := by
      have z : its.toArray[j]? = some u := by simpa using hu
      exact Option.some.inj ((show its.toArray[j]? = some x from hx).symm.trans z)
    subst ex
    refine ⟨_, rfl, wpAny_letOwnedTupleGo_enum (s := { s with heap := h', toks := tk + 1 }) ho fun g he' sb => ?_⟩
    have hT2 : g.get? s.heap.objs.size = some { cls := .type "tuple", data := .seq #[.int j tk, x] } := (sb.2 _ (Nat.ne_of_gt sz1)).trans hT
    have new : ObjOk X.prog X.w (upd H s.heap.objs.size (.tup [.int (j : Nat), y])) g s.heap.objs.size (.tup [.int (j : Nat), y]) :=
      ⟨(show 2 ≤ sizeLine by decide), [.int j tk, x], .cons ⟨_, rfl⟩ (.cons ru .nil), ⟨_, hT2, rfl, _, rfl⟩⟩
    have I1 : Inv X pins σ (upd H s.heap.objs.size (.tup [.int (j : Nat), y])) { s with heap := g, toks := tk + 1 } :=
      I.turnedNew (ch := [e, it]) (fun b ob hb q => (sb.2 b (fun z => hb (by simp [z]))).trans (hk b ob (fun z => hb (by simp [z])) (fun z => hb (by simp [z])) q)) hf (Nat.le_refl _) new
    refine ⟨.ref s.heap.objs.size, _, I1, rfl, ⟨_, y, rfl, I.hok.fresh (Nat.le_refl _), rfl, fun zs hz => by rw [I.tuple_inj hz hq]; exact hy⟩, ⟨⟨x, ?_⟩, hit'.1.at fun o q => (sb.2 it (Ne.symm hne)).trans q, hne⟩, fun b hb => ?_⟩
    · rw [show ((j + 1 : Nat) : Int) = (j : Int) + 1 by omega]
      exact he'
    · rw [upd_ne (Nat.ne_of_lt (szf b hb))]
      exact (hf b hb).1
  done := by
    rintro X rfl rfl rfl hc j pins s σ H E I hf ⟨⟨old, he⟩, hit, hne⟩ ⟨ys, hq, hl⟩
    obtain ⟨its, rv, tp, hz⟩ := I.tuple hq
    obtain ⟨f0, f1, f2, f3, f4, f5⟩ := hf it (List.mem_cons_of_mem _ List.mem_cons_self)
    have na : a ≠ it := fun z => by
      obtain ⟨o, ho, hcl, _⟩ := tp
      obtain ⟨o', ho', hc', _⟩ := hit
      rw [z, ho'] at ho
      cases ho
      rw [hc'] at hcl
      exact absurd hcl (by simp)
    have ej : its.toArray.size = j := by rw [List.size_toArray, ← rv.length, hl]
    subst ej
    exact wpAny_pyNext_enum_endD (Draws.tuple (A := X.A.in1) (I.ok.hd hc) it a na its.toArray) he ⟨hit, tp⟩ fun h' eb => ⟨rfl, I.turned (t' := s.toks) (fun b o hb q => eb b o hb q) f0 f1 f3 f4 f5⟩
  self := fun A j s Q E q z => by
    obtain ⟨⟨old, he⟩, _⟩ := q
    exact wpAny_pyIter_enum he z
def iEnumT (K : PySem.W.Frag) (t : TA) : TI := fun σ H R => t σ H fun vs H1 => ∃ a ys, vs = [.ref a] ∧ SqT K H1 a ys ∧ R (Iet K a) H1
theorem pi_enumT {X : Cx} {e : Expr} {t : TA} {p pos tp : Pos} {es : List Expr} {kk : Nat} (bn : Bn X "enumerate") (ha : PA X [e] t) (hs : starEach [e] X.env = [(false, eval e X.env)] := by rfl) :
    PI X (.Tuple es kk tp) (.Call (.Name "enumerate" p) [e] [] pos) (iEnumT X.K t) := by
  refine ⟨fun pins s σ H R I h => ?_⟩
  refine Call_ (ld_blt I bn.gl bn.no boot_enumerate (PyProof.Rows.callWith_type1 (thn (ha.run pos pins s σ H _ I h) fun us s1 z => ?_) hs rfl))
  obtain ⟨vs, H1, I1, r, a, ys, e1, hq, q⟩ := z
  subst e1
  obtain ⟨u, rfl, ru⟩ := vals1 r
  cases ru
  obtain ⟨its, rv, tp, hz⟩ := I1.tuple hq
  refine call_enumT tp fun h' e0 i0 kp => wpAny_pyIter_enum e0 ?_
  refine ⟨s1.heap.objs.size + 1, [s1.heap.objs.size + 1, s1.heap.objs.size], _, _, H1, rfl, I1.kept (t' := s1.toks) kp, turn_enumT a _ _, ⟨⟨.none, e0⟩, i0, Nat.succ_ne_self _⟩, fun b hb => ?_, q⟩
  have hle : s1.heap.objs.size ≤ b := by
    rcases List.mem_cons.mp hb with z | z
    · rw [z]; exact Nat.le_succ _
    · rw [List.mem_singleton.mp z]; exact Nat.le_refl _
  exact I1.fpOk hle (I1.hok.fresh hle)
section
variable {X : Cx} {k i j n m : Nat} {E : L2.St → XK} {x y : Str} {D : Ends} {σ : L2.St} {H : Hp} {body : List Stmt} {e : Expr} {p pos pc px py tp : Pos} {kk : Nat}
/-- for x, y in enumerate(a tuple) -/
theorem ws_for_enumT (B : Body X k E) (s1 : Sl X i x) (s2 : Sl X j y) (bn : Bn X "enumerate")
    (h : WE X e σ H fun v H1 => ∃ a ys, v = .ref a ∧ SqT X.K H1 a ys ∧ ∃ P : Nat → L2.St → Hp → Prop, P 0 σ H1 ∧ (∀ n σ H, n ≤ ys.length → P n σ H → SqT X.K H a ys) ∧
      (∀ n v σ H H', ys[n]? = some v → P n σ H → Ex H H' → WB X body { D with nx := P (n + 1), ct := P (n + 1), bk := D.nx } ((σ.set i (some (.int n))).set j (some v)) H') ∧ ∀ σ H, P ys.length σ H → D.nx σ H)
    (hs : starEach [e] X.env = [(false, eval e X.env)] := by rfl) (hf : ∀ v, foldedSetIterable (.Call (.Name "enumerate" p) [e] [] pc) X.env v = pure v := by intro _; rfl)
    (h1 : (assignEach [.Name x px, .Name y py] X.env).map (·.2) = assign (.Name x px) X.env :: (assignEach [.Name y py] X.env).map (·.2) := by rfl) (h2 : (assignEach [.Name y py] X.env).map (·.2) = assign (.Name y py) X.env :: (assignEach [] X.env).map (·.2) := by rfl)
    (h3 : (assignEach [.Name x px, .Name y py] X.env).length = 2 := by rfl) (h4 : (assignEach [.Name x px, .Name y py] X.env).findIdx? (·.1) = none := by rfl) :
    WS X (.For (.Tuple [.Name x px, .Name y py] kk tp) (.Call (.Name "enumerate" p) [e] [] pc) body [] pos) D σ H := by
  refine wsP (ps_for B.po B.calm (pi_enumT bn paS hs) (pg_tup B.calm (pgs_cons (pg_name s1.nd s1.at_ s1.loc s1.fn) (pgs_cons (pg_name s2.nd s2.at_ s2.loc s2.fn) pgs_nil h2) h1) h3 h4) pbS hf) ?_
  refine wa_one (we_mono h fun v H1 q => ?_) hs
  obtain ⟨a, ys, rfl, hq, P, p0, hl, hb, hd⟩ := q
  refine ⟨a, ys, rfl, hq, fun n m σ H => m = ys.length - n ∧ n ≤ ys.length ∧ P n σ H, ⟨ys.length, rfl, Nat.zero_le _, p0⟩, ?_⟩
  rintro n m σ H ⟨rfl, hn, pn⟩
  have hqn := hl n σ H hn pn
  by_cases lt : n < ys.length
  · refine .inr ⟨⟨ys, ys[n], hqn, List.getElem?_eq_getElem lt⟩, P (n + 1), fun σ' H' p' => ⟨ys.length - (n + 1), by omega, rfl, lt, p'⟩, ?_⟩
    rintro w H' ⟨T, y', rfl, hT, rfl, hy⟩
    have x0 := Ex.new (o := .tup [.int (n : Nat), y']) hT
    exact ⟨T, _, rfl, .of upd_same, rfl, .int n, _, rfl, y', _, rfl, rfl, hb n y' σ H _ (hy ys hqn) pn x0⟩
  · have en : ys.length = n := by omega
    subst en
    exact .inl ⟨⟨ys, hqn, rfl⟩, hd σ H pn⟩
end
end Rs

namespace Rs
open PySem PySem.Spec PyProof.Rows L2 He PySem.Calls
/-! ### defs with *args and keywords -/
theorem cxUpN {P : Program} {w : World} : StX.CXUp (RX P w) := by
  intro outer s H s2 H2 E e s' un kp ho z
  obtain ⟨a, B, H', cls, d, ea, fl, hok, ub, na, os, ag, he⟩ := z
  refine ⟨a, B, H', cls, d, ea, fl, hok, ⟨?_, ?_, ?_, ?_, ?_, ?_, ?_⟩, na, os.trans ho, ag, he⟩
  · exact fun b o q n hb => ub.keep b o (kp b o q) (un.free b o q n (by simp)) hb
  · exact fun b o q hb => ub.slot b o (kp b o q) hb
  · exact fun b o q n => ub.free b o (kp b o q) (un.free b o q n (by simp))
  · exact fun b o q hb => ub.there b o (kp b o q) hb
  · exact fun b xs q => ub.tups b xs (un.tups b xs q)
  · exact fun b o xs q => ub.frzs b o xs (un.frzs b o xs q)
  · intro b ps q
    obtain ⟨u1, e1⟩ := un.tbls b ps q
    obtain ⟨u2, e2⟩ := ub.tbls b _ e1
    exact ⟨u1 ++ u2, by rw [e2, Array.append_assoc]⟩
def FnSK (P : Program) (w : World) (K : PySem.W.Frag) (mg : Str → Option Value) (base : Heap) (CX : CXT) (k : Nat) (f : Addr) (ks : List Str) (sp : List V → List V → Hp → VK → XK → Prop) : Prop :=
  ∀ (A : Around) (outer : List Env) (s : Shared) (H : Hp) (us ws : List Value) (vs zs : List V) (Q : VK) (E : XK), Room k A → Env0 P w K mg base A outer s H → Vals vs us → Vals zs ws → zs.length = ks.length → sp vs zs H Q E →
    codeAny (model P w) A (.call (.ref f) ⟨us, ks.zip ws⟩) (CR CX outer P w H s Q E) s
/-- the promise with the rest as a new tuple -/
def spStar (n : Nat) (g : List V → List V → List V) (sp : Sp) : List V → List V → Hp → VK → XK → Prop := fun vs zs H Q E => ∃ ws rest, vs = ws ++ rest ∧ ws.length = n ∧ rest.length ≤ sizeLine ∧ ∀ p, H p = none → sp (g ws zs ++ [.ref p]) (upd H p (.tup rest)) Q E
section
variable {P : Program} {w : World} {K : PySem.W.Frag} {mg : Str → Option Value} {base : Heap} {N ps : List Str} {pv name qual : Str} {pa : Arguments} {body : List Stmt} {sc : Scope} {kws : List (Str × V)} {f : Addr} {fd : FuncData} {k : Nat} {sp : Sp}
theorem def_star (F : FunD K name qual pa body sc [] kws f fd) (S : FnScope N (ps ++ [pv]) sc) (n : Nat) (ks : List Str) (ms : List (Str × V)) (g : {α : Type} → List α → List α → List α → List α) (hk : kws ≠ []) (hms : ∀ q ∈ ms, q ∈ kws)
    (hrel : ∀ {vs mz zs : List V} {us mv ws : List Value}, Vals vs us → Vals mz mv → Vals zs ws → Vals (g vs mz zs) (g us mv ws))
    (hlen : ∀ {us mv ws : List V}, us.length = n → mv.length = ms.length → ws.length = ks.length → (g us mv ws).length = ps.length)
    (h : ∀ (D : Addr) (doc pm : Value) (an : Option Addr) (cdv ct : Value) (us rest mv ws : List Value), us.length = n → mv.length = ms.length → ws.length = ks.length →
      KwTo D ((ms.map (·.1)).zip mv) (bindArgs (PySem.W.fnOf name qual pa body sc .none (.ref D) doc pm an cdv ct) ⟨us ++ rest, ks.zip ws⟩) (newTuple rest >>= fun t => pure (ps.zip (g us mv ws) ++ [(pv, t)])))
    (hb : ∀ (X : Cx), X.prog = P → X.w = w → X.K = K → X.mg = mg → X.base = base → X.N = N → X.env.scope = sc → (∀ x, X.fn x = true) → N.Nodup → ∀ (H : Hp) (vs : List V) (Q : VK) (E : XK), Body X k (fun _ => E) → sp vs H Q E → WB X body { nx := fun _ H' => Q .non H', rt := Q } (start N vs) H) :
    FnSK P w K mg base (RX P w) (k + 1) f ks (spStar n (fun vs zs => g vs (ms.map (·.2)) zs) sp) := by
  obtain ⟨oc, od, dV, kV, doc, pm, an, cdv, ct, osl, rfl, lk, hcd, hD, hK⟩ := F.ex
  rcases hD with ⟨_, rfl⟩ | ⟨e, _⟩
  case inr => exact absurd rfl e
  rcases hK with e | ⟨D, rfl, hq⟩
  · exact absurd e hk
  obtain ⟨mv, hl, rk, hks⟩ := kwd_vals (ms := ms) fun q hm => hq q (hms q hm)
  intro A outer s H us ws vs zs Q E hr e0 r rz lz z
  obtain ⟨v1, rest, rfl, l1, sz, z⟩ := z
  obtain ⟨u1, u2, rfl, r1, r2⟩ := StX.vals_split r
  have nw : H s.heap.objs.size = none := e0.hok.fresh (Nat.le_refl _)
  have lu : u1.length = n := r1.length.symm.trans l1
  have lw : ws.length = ks.length := rz.length.symm.trans lz
  have rg := hrel r1 rk rz
  have lg := hlen l1 (by rw [List.length_map]) lz (mv := ms.map (·.2))
  have KX : K.In s.heap := e0.mod.kin.keeps fun b o e => (e0.bs b o e).1
  refine StX.run_bnd lk hcd S hr e0 (G := fun xs H2 => ∃ p, H p = none ∧ xs = g v1 (ms.map (·.2)) zs ++ [V.ref p] ∧ H2 = upd H p (.tup rest)) (fun A' Ex Q' hh => ?_) fun s2 H2 xs q hr' => ?_
  · refine KwTo.run KX hks (h D doc pm an cdv ct u1 u2 mv ws lu hl lw) (wpAny_bind (wpAny_newTuple (wpAny_pure ?_) (by rw [← r2.length]; exact sz)))
    have new : ObjOk P w (upd H s.heap.objs.size (.tup rest)) (s.heap.push ({ cls := .type "tuple", data := .seq u2.toArray } : Obj)) s.heap.objs.size (.tup rest) := ⟨sz, u2, r2, ⟨_, Heap.get?_push_size _ rfl, rfl, _, rfl⟩⟩
    have un := StX.un_laid (fs := frs outer) (s := s) (o := ({ cls := .type "tuple", data := .seq u2.toArray } : Obj)) (u := .tup rest) nw
    have fin := hh _ _ (g v1 (ms.map (·.2)) zs ++ [V.ref s.heap.objs.size]) (g u1 mv ws ++ [Value.ref s.heap.objs.size]) (StX.env0_laid e0 new) un rfl
      (fun e s' => cxUpN outer s H _ _ E e s' un (fun b o q => Heap.get?_push_of_some _ q) rfl) (rg.append (.cons rfl .nil)) (by rw [List.length_append, List.length_append, lg]; rfl) ⟨_, nw, rfl, rfl⟩
    rw [List.zip_append (by rw [← lg, rg.length])] at fin
    exact fin
  · obtain ⟨p, hp, rfl, rfl⟩ := q
    exact ⟨_, pbS, hb (bx P w K mg base N qual sc f cdv A outer s2 (upd H p (.tup rest)) E) rfl rfl rfl rfl rfl rfl rfl (fun _ => rfl) S.nd _ _ Q E (body_of hr') (z p hp)⟩
/-- a class made so -/
def GSK (P : Program) (w : World) (K : PySem.W.Frag) (mg : Str → Option Value) (base : Heap) (k : Nat) (x : Str) (C : Addr) (ks : List Str) (sp : List V → List V → Hp → VK → XK → Prop) : Prop :=
  ∃ f, mg x = some (.ref C) ∧ Mk K C f ∧ FnSK P w K mg base (RX P w) k f ks sp
end
section
variable {X : Cx} {σ : L2.St} {H : Hp} {Q : VK} {k j : Nat} {E : L2.St → XK} {x : Str} {sp : List V → List V → Hp → VK → XK → Prop} {p pos : Pos} {e : Expr} {es : List Expr} {kws : List Keyword} {C f : Addr} {ks : List Str}
theorem smake_at {pins : List (Addr × Obj)} {s : Shared} {us ws : List Value} {vs zs : List V} {E : XK} (M : Mk X.K C f) (F : FnSK X.prog X.w X.K X.mg X.base (RX X.prog X.w) k f ks sp) (hr : Room (k + 1) X.A)
    (hx : PassesAt (RX X.prog X.w) X σ E) (I : Inv X pins σ H s) (r : Vals vs us) (rz : Vals zs ws) (l2 : zs.length = ks.length) (h : ∀ a dx, H a = none → H dx = none → dx ≠ a → sp (.ref a :: vs) zs (upd (upd H dx (.own a)) a (.ins C dx [])) (fun v H2 => v = .non ∧ Q (.ref a) H2) E) :
    wpAny (model X.prog X.w) X.A (call (.ref C) us (ks.zip ws)) (EP X pins σ Q) X.xe s := by
  have J := Inv.made (C := C) I
  have hq := h (s.heap.objs.size + 1) s.heap.objs.size (I.hok.fresh (Nat.le_succ _)) (I.hok.fresh (Nat.le_refl _)) (Nat.ne_of_lt (Nat.lt_succ_self _))
  have rs : Vals (V.ref (s.heap.objs.size + 1) :: vs) (Value.ref (s.heap.objs.size + 1) :: us) := .cons rfl r
  have run := F _ X.stack _ _ (Value.ref (s.heap.objs.size + 1) :: us) ws _ _ _ E (hr.make C us (ks.zip ws)) (J.env0.make C us (ks.zip ws)) rs rz l2 hq
  refine wpAny_call (make_map (f := f) I.kIn M.makes M.init (beq_iff_eq.mp M.fn) (codeAny_mono run fun o t q => ?_))
  have z := out_at hx J o t q
  cases o with
  | error e => exact z
  | ok fl =>
    cases fl with
    | ret u =>
      obtain ⟨v, H', I3, rv, rfl, q3⟩ := z
      exact ⟨rv, ⟨V.ref (s.heap.objs.size + 1), H', I3, rfl, q3⟩⟩
    | next => exact z.elim
    | brk => exact z.elim
    | cont => exact z.elim
theorem we_makeSK (B : Body X k E) (gn : Gn X x) (f : GSK X.prog X.w X.K X.mg X.base j x C ks sp) (hj : j + 1 ≤ k) (h : WA X (e :: es) σ H fun vs H1 => WK X kws σ H1 fun zs H2 => zs.length = ks.length ∧ ∀ a dx, H2 a = none → H2 dx = none → dx ≠ a → sp (.ref a :: vs) zs (upd (upd H2 dx (.own a)) a (.ins C dx [])) (fun v H3 => v = .non ∧ Q (.ref a) H3) (E σ))
    (hall : (backToKw pos (keywordEach kws X.env)).all (·.1.isSome) = true := by rfl) (hks : (backToKw pos (keywordEach kws X.env)).filterMap (·.1) = ks := by rfl)
    (he : starEach (e :: es) X.env = (false, eval e X.env) :: starEach es X.env := by rfl) (hpl : ((backTo pos (starEach (e :: es) X.env)).any (·.1) || (backToKw pos (keywordEach kws X.env)).any (·.1.isNone)) = false := by rfl) :
    WE X (.Call (.Name x p) (e :: es) kws pos) σ H Q := by
  obtain ⟨f, hm, M, F⟩ := f
  intro pins s I
  refine wpAny_Call_Name_kw (ld_glob I gn.gl hm ?_ gn.d1)
  refine PySem.W.callWith_KW (h₀ := X.base) I.ok.mod.kin M.kp hall (thn (h pos pins s I) fun us s1 z => ?_) hpl he
  obtain ⟨vs, H1, I1, r, q⟩ := z
  refine thn (q pos pins s1 I1) fun ws s2 z => ?_
  obtain ⟨zs, H2, I2, rz, l2, q⟩ := z
  refine ⟨I2.kIn, ?_⟩
  rw [hks]
  exact smake_at M F (B.room.mono hj) (B.at σ) I2 r rz l2 q
theorem we_makeS (B : Body X k E) (gn : Gn X x) (f : GSK X.prog X.w X.K X.mg X.base j x C [] sp) (hj : j + 1 ≤ k) (h : WA X (e :: es) σ H fun vs H2 => ∀ a dx, H2 a = none → H2 dx = none → dx ≠ a → sp (.ref a :: vs) [] (upd (upd H2 dx (.own a)) a (.ins C dx [])) (fun v H3 => v = .non ∧ Q (.ref a) H3) (E σ))
    (hs : starEach (e :: es) X.env = (false, eval e X.env) :: starEach es X.env := by rfl) (hl : (backTo pos (starEach es X.env)).any (·.1) = false := by rfl) : WE X (.Call (.Name x p) (e :: es) [] pos) σ H Q := by
  obtain ⟨f, hm, M, F⟩ := f
  intro pins s I
  refine wpAny_Call_Name_kw (ld_glob I gn.gl hm ?_ gn.d1)
  refine PySem.W.callWith_K (h₀ := X.base) I.ok.mod.kin M.kp (thn (h pos pins s I) fun us s1 z => ?_) hs hl
  obtain ⟨vs, H1, I1, r, q⟩ := z
  exact ⟨I1.kIn, smake_at (zs := []) (ws := []) M F (B.room.mono hj) (B.at σ) I1 r .nil rfl q⟩
end
/-! ### what stays but for the objects at S -/
section
variable {S : Addr → Prop} {H H1 H2 : Hp}
theorem ExX.refl (H : Hp) : ExX S H H := ⟨fun _ _ _ h _ => h, fun _ _ o _ h s => ⟨o, h, s⟩, fun _ h => h⟩
/-- instances that stand: S has none of those that rows begin with -/
theorem ExX.put {a : Addr} {o : HO} (x : ExX S H H1) (h : S a) : ExX S H (upd H1 a o) :=
  ⟨fun b u n hb g => (upd_ne (show b ≠ a from fun e => n (by rw [e]; exact h))).trans (x.kp b u n hb g), fun b l u n hb s => by
    obtain ⟨o1, h1, s1⟩ := x.src b l u n hb s
    exact ⟨o1, (upd_ne (show b ≠ a from fun e => n (by rw [e]; exact h))).trans h1, s1⟩, fun b hb => by
    by_cases e : b = a
    · subst e
      rw [upd_same]
      exact fun z => nomatch z
    · rw [upd_ne e]
      exact x.th b hb⟩
theorem ExX.ex (x : ExX S H H1) (y : Ex H1 H2) (hS : ∀ a o, S a → H1 a = some o → ∃ C dx fs, o = .ins C dx fs ∨ ∃ xs, o = .lst xs) (hG : ∀ l C dx fs, S l → H l = some (.ins C dx fs) → ∃ C dx fs, H1 l = some (.ins C dx fs)) : ExX S H H2 :=
  ⟨fun a o n h g => y.kp a o (x.kp a o n h g) (by
    rcases g with g | ⟨l, C, dx, fs, rest, e, h2⟩
    · exact .inl g
    · by_cases sl : S l
      · obtain ⟨C', dx', fs', h3⟩ := hG l C dx fs sl h2
        exact .inr ⟨l, C', dx', fs', rest, e, h3⟩
      · exact .inr ⟨l, C, dx, fs, rest, e, x.kp _ _ sl h2 (.inl not_src_ins)⟩), fun a l o n h s => by
    obtain ⟨o1, h1, s1⟩ := x.src a l o n h s
    exact y.src a l o1 h1 s1, fun a h => y.there a (x.th a h)⟩
/-- S is new to H0 -/
theorem ExX.fresh (x0 : Ex H H1) (x : ExX S H1 H2) (hS : ∀ a, S a → H a = none) : Ex H H2 :=
  ⟨fun a o h g => x.kp a o (fun s => by rw [hS a s] at h; cases h) (x0.kp a o h g) (g.mono x0), fun a l o h s => by
    obtain ⟨o1, h1, s1⟩ := x0.src a l o h s
    exact x.src a l o1 (fun s => by rw [hS a s] at h; cases h) h1 s1⟩
theorem ExX.ins {a C dx : Addr} {fs : List (Str × V)} (x : ExX S H H1) (n : ¬ S a) (h : H a = some (.ins C dx fs)) : H1 a = some (.ins C dx fs) := x.kp _ _ n h (.inl not_src_ins)
theorem ExX.tup {a : Addr} {xs : List V} (x : ExX S H H1) (n : ¬ S a) (h : H a = some (.tup xs)) : H1 a = some (.tup xs) := x.kp _ _ n h (.inl not_src_tup)
end
end Rs

namespace Rs
open PySem PySem.Spec PyProof.Rows L2 He
section
variable {X : Cx} {σ : L2.St} {H : Hp} {D D' : Ends} {Q : VK} {k j : Nat} {E : L2.St → XK} {m : Str} {sp : Sp} {C : Addr} {c o e : Expr} {a b st : List Stmt} {s1 : Stmt} {pos apos cpos : Pos}
/-! ### what follows may be wanted less -/
theorem wb_mono (h : WB X st D σ H) (n : ∀ σ H, D.nx σ H → D'.nx σ H) (r : ∀ v H, D.rt v H → D'.rt v H) (bk : ∀ σ H, D.bk σ H → D'.bk σ H) (ct : ∀ σ H, D.ct σ H → D'.ct σ H) : WB X st D' σ H := fun pins s I => thn (h pins s I) fun fl s' z => by
  cases fl with
  | next => obtain ⟨σ', H', J, q⟩ := z; exact ⟨σ', H', J, n _ _ q⟩
  | brk => obtain ⟨σ', H', J, q⟩ := z; exact ⟨σ', H', J, bk _ _ q⟩
  | cont => obtain ⟨σ', H', J, q⟩ := z; exact ⟨σ', H', J, ct _ _ q⟩
  | ret u => obtain ⟨v, σ', H', J, rv, q⟩ := z; exact ⟨v, σ', H', J, rv, r _ _ q⟩
theorem ws_mono (h : WS X s1 D σ H) (n : ∀ σ H, D.nx σ H → D'.nx σ H) (r : ∀ v H, D.rt v H → D'.rt v H) (bk : ∀ σ H, D.bk σ H → D'.bk σ H) (ct : ∀ σ H, D.ct σ H → D'.ct σ H) : WS X s1 D' σ H := fun pins s I => thn (h pins s I) fun fl s' z => by
  cases fl with
  | next => obtain ⟨σ', H', J, q⟩ := z; exact ⟨σ', H', J, n _ _ q⟩
  | brk => obtain ⟨σ', H', J, q⟩ := z; exact ⟨σ', H', J, bk _ _ q⟩
  | cont => obtain ⟨σ', H', J, q⟩ := z; exact ⟨σ', H', J, ct _ _ q⟩
  | ret u => obtain ⟨v, σ', H', J, rv, q⟩ := z; exact ⟨v, σ', H', J, rv, r _ _ q⟩
/-- a statement's end, told by R -/
theorem ws_to (R : L2.St → Hp → Prop) (h : WS X s1 { D with nx := R } σ H) (n : ∀ σ H, R σ H → D.nx σ H) : WS X s1 D σ H := ws_mono h n (fun _ _ z => z) (fun _ _ z => z) (fun _ _ z => z)
theorem wt_to {QT : Bool → Hp → Prop} (R : Bool → Hp → Prop) (h : WT X c σ H R) (n : ∀ r H, R r H → QT r H) : WT X c σ H QT := wt_mono h n
theorem we_to (R : V → Hp → Prop) (h : WE X e σ H R) (n : ∀ r H, R r H → Q r H) : WE X e σ H Q := we_mono h n
/-! ### o.m() of an own class; xs.append(e) -/
theorem we_meth0 {pl : Sem Bool} (B : Body X k E) (c : Cls X.K C) (f : Me X j C m sp) (hj : j ≤ k)
    (h : WE X o σ H fun y H1 => ∃ a dx fs, y = .ref a ∧ H1 a = some (.ins C dx fs) ∧ fs.lookup m = none ∧ sp [.ref a] H1 Q (E σ))
    (ht : eval (.Call (.Attribute o m apos) [] [] pos) X.env = (do
      let it ← eval o X.env
      standAt apos.atName
      let (g, first) ← holding [it] (getMethod it m pl)
      callWith pos g first (backTo pos (starEach [] X.env)) (backToKw pos (keywordEach [] X.env))) := by rfl) : WE X (.Call (.Attribute o m apos) [] [] pos) σ H Q := by
  obtain ⟨g, hm, F⟩ := f
  intro pins s I
  refine PySem.W.methodCall_KW (pl := pl) (thn (h pins s I) fun u s1 z => ?_) ht
  obtain ⟨y, H1, I1, ry, a, dx, fs, rfl, e1, l, q⟩ := z
  cases ry
  refine getmeth_ok I1 e1 c hm l ?_
  exact PySem.W.callWith_K0 (first := [.ref a]) I1.kIn hm.kp (go_at (us := [.ref a]) (vs := [.ref a]) F (B.room.mono hj) (B.at σ) I1 (.cons rfl .nil) q)
theorem we_append (h : WE X o σ H fun v H1 => ∃ l vs, v = .ref l ∧ H1 l = some (.lst vs) ∧ WE X e σ H1 fun y H2 => ∃ vs, H2 l = some (.lst vs) ∧ vs.length < sizeLine ∧ Q .non (upd H2 l (.lst (vs ++ [y]))))
    (hbase : attributeBase o "append" X.env (eval o X.env) = eval o X.env := by rfl)
    (hfew : ((backTo cpos (starEach [e] X.env)).all (fun x => !x.1) && (backToKw cpos (keywordEach [] X.env)).all (fun x => x.1.isSome) && decide ([e].length + ([] : List Keyword).length + (if ([] : List Keyword).isEmpty then 0 else 1) < 30)) = true := by rfl)
    (hline : (apos.endLine == cpos.line) = true := by rfl) (hs : starEach [e] X.env = (false, eval e X.env) :: starEach [] X.env := by rfl) (hplain : (backTo cpos (starEach [] X.env)).any (·.1) = false := by rfl) :
    WE X (.Call (.Attribute o "append" apos) [e] [] cpos) σ H Q :=
  weP (pe_bm PySem.F.plainAttrs_list PySem.F.slot_list_append PySem.F.type_list_append mt_append peS paS hbase hfew hline hs hplain) (we_mono h fun v H1 z => by
    obtain ⟨l, vs, rfl, hl, z⟩ := z
    refine ⟨.inl ⟨rfl, vs, .of hl⟩, wa_one (we_mono z fun y H2 z => ?_) hs⟩
    obtain ⟨vs2, h2, hz, z⟩ := z
    exact ⟨l, vs2, y, rfl, rfl, h2, hz, z⟩)
end
end Rs

namespace Rs
open PySem PySem.Spec PyProof.Rows L2 He
/-! ### own exceptions whose __init__(self, x) says super().__init__("..") and self.f = x -/
/-- the def at f, with the cell of its class -/
structure FunC (P : Program) (K : PySem.W.Frag) (C : Addr) (qual : Str) (pa : Arguments) (body : List Stmt) (sc : Scope) (f : Addr) : Prop where
  ex : ∃ (oc : Value) (od : Option Addr) (name : Str) (kV doc pm : Value) (an : Option Addr) (cda cc : Addr) (ct : Value) (osl : Array (Option Value)),
    K.lookup f = some ⟨oc, od, .func (PySem.W.ksFn name qual pa body sc .none kV doc pm an (.ref cda) ct cc), osl⟩ ∧ PySem.W.codeIn K (.ref cda) qual = true ∧
    (∃ cl cld csl, K.lookup cc = some ⟨cl, cld, .cell (some (.ref C)), csl⟩) ∧
    ∃ ccl cdd ccs vs file tf, K.lookup cda = some ⟨ccl, cdd, .fields vs, ccs⟩ ∧ vs[2]? = some (.str file tf) ∧ ((P.main.file : Str) == file) = true
/-- the class -/
structure ExcI (P : Program) (K : PySem.W.Frag) (C f : Addr) : Prop where
  ex : PySem.W.excInitIn K C PySem.HandSPX.veTail "ValueError.__new__" = true
  cl : ∃ cd, PySem.W.clsIn K C = some cd ∧ PySem.HandSPX.refsVE cd.mro = true ∧ cd.hasDict = true
  kp : PySem.W.keepIn K (.ref C) = true
  sb : PySem.W.subIn K (.ref C) (.type "BaseException") = some true
  ve : PySem.W.subIn K (.ref C) (.type "ValueError") = some true
  ty : PySem.W.typeIn K (.ref C) = some (.type "type")
  sa : PySem.W.findIn K (.ref C) "__setattr__" = some (some (.builtin "object.__setattr__"))
  ini : PySem.W.findIn K (.ref C) "__init__" = some (some (.ref f))
  tf : PySem.W.typeIn K (.ref f) = some (.type "function")
  su : PySem.W.ks_superIn K C C "__init__" = some (some (.builtin "ValueError.__init__"))
  mr : PySem.W.mroIn K C (.ref C) = some true
  op : PySem.W.nsIn K cStatics "thirdparty.any" = some none
  top : (P.main.scope.names.lookup ("super" : Str)).isSome = false
open PySem.W in
theorem ini_run {P : Program} {w : World} {K : PySem.W.Frag} {mg : Str → Option Value} {A : Around} {R : Result → Shared → Prop} {h : Heap} {g : Array GenState} {dr : Drawn} {t : Nat} {os : OsState}
    {C f e t0 : Addr} {qual fld par m : Str} {pa : Arguments} {sc : Scope} {ar : Arg} {v : Value} {j : Nat} {p0 p1 p2 p3 p4 p5 p6 p7 p8 p9 : Pos}
    (hroom : A.depth < recursionLimit) (X : K.In h) (hglob : h.Ns mainGlobals mg) (hblt : ∃ mb, h.Ns builtinsNs mb ∧ ∀ x : Str, x ≠ "__name__" → mb x = bootBuiltins x) (hlim : h.NoLimit) (hsu : mg "super" = none)
    (I : ExcI P K C f) (F : FunC P K C qual pa [.Expr (.Call (.Attribute (.Call (.Name "super" p0) [] [] p1) "__init__" p2) [.Constant (.str m) j p3] [] p4) p5, .Assign [.Attribute (.Name "self" p6) fld p7] (.Name par p8) p9] sc f)
    (hlin : (p2.endLine == p4.line) = true) (hp : (pa.posonlyargs ++ pa.args).head? = some ar) (har : ar.arg = "self")
    (hbind : ∀ (name : Str) (kV doc pm cdv ct : Value) (an : Option Addr) (cc : Addr) (body : List Stmt) (a b : Value), bindArgs (ksFn name qual pa body sc .none kV doc pm an cdv ct cc) ⟨[a, b], []⟩ = pure ([("self", a), (par, b)] : List (Str × Value)))
    (hps : par ≠ "self") (hks : sc.names.lookup ("super" : Str) = some .globalImplicit) (hkc : sc.names.lookup ("__class__" : Str) = some .free) (hka : sc.names.lookup ("self" : Str) = some .local) (hkb : sc.names.lookup par = some .local)
    (hcell : ∀ x ∈ sc.names, x.2 ≠ .cell) (hco : sc.isCoroutine = false) (hgen : sc.isGenerator = false) (hk : sc.kind = .function) (hno : PySem.W.findIn K (.ref C) fld = some none) (hdp : (par == ("__debug__" : Str)) = false)
    (he : h.get? e = some (PySem.HandSPX.excO C t0)) (hKe : K.lookup e = none)
    (hq : ∀ h' t' dx t1, (∀ b o, b ≠ e → h.get? b = some o → h'.get? b = some o) → h.objs.size ≤ dx → dx ≠ e → h'.get? e = some ({ cls := .ref C, dict := some dx, data := .fields #[.ref t1, .none, .none, .none, .bool false, .none] } : Obj) →
      h'.Ns1 dx (fun y => if y = fld then some v else none) → R (.ok (.ret .none)) ⟨h', g, dr, t', os⟩) :
    codeAny (model P w) A (.call (.ref f) ⟨[.ref e, v], []⟩) R ⟨h, g, dr, t, os⟩ := by
  obtain ⟨oc, od, name, kV, doc, pm, an, cda, cc, ct, osl, lk, hcd, ⟨cl, cld, csl, hcellK⟩, ccl, cdd, ccs, vs, file, tf, hcode, hvs, hfile⟩ := F.ex
  obtain ⟨cd, hcl, hmro, hdict⟩ := I.cl
  obtain ⟨mb, hb1, hb2⟩ := hblt
  refine ks_codeAny_call_defAt (binds := ([("self", .ref e), (par, v)] : List (Str × Value))) hroom (X _ _ lk) rfl hlim (codeRec_of X hcd) rfl (.of_eq (hbind _ _ _ _ _ _ _ _ _ _ _)) hcell (fun y hy => ?_) (fun h₁ hns hk₁ => ?_) hco hgen hk
  · rcases List.mem_cons.mp hy with rfl | hy
    · exact hka
    · rcases List.mem_cons.mp hy with rfl | hy
      · exact hkb
      · cases hy
  show _root_.PySem.wpAt _ (A.deeper (ksEnv qual sc h.objs.size f (.ref cda) cc)) (.func _ (ksEnv qual sc h.objs.size f (.ref cda) cc)) (execs _ (ksEnv qual sc h.objs.size f (.ref cda) cc)) _ _ _
  have X1 : K.In h₁ := X.keeps hk₁
  have he1 := hk₁ _ _ he
  have hv0 : (fun x => ([("self", Value.ref e), (par, v)] : List (Str × Value)).reverse.lookup x) ("self" : Str) = some (.ref e) := by
    show ([(par, v), ("self", Value.ref e)] : List (Str × Value)).lookup ("self" : Str) = _
    rw [List.lookup_cons, show (("self" : Str) == par) = false from by simpa using fun z => hps z.symm, List.lookup_cons_self]
  have hv1 : (fun x => ([("self", Value.ref e), (par, v)] : List (Str × Value)).reverse.lookup x) par = some v := by
    show ([(par, v), ("self", Value.ref e)] : List (Str × Value)).lookup par = _
    rw [List.lookup_cons_self]
  obtain ⟨oD, hD1, hD2⟩ : ∃ oD, h₁.get? C = some oD ∧ oD.data = .cls cd := by
    have hD := hcl
    unfold clsIn at hD
    split at hD
    · rename_i c d cd' sl ho
      cases hD
      exact ⟨_, X1 _ _ ho, rfl⟩
    · cases hD
  have hint : interactive (ksEnv qual sc h.objs.size f (.ref cda) cc) = false := by
    unfold interactive
    show (sc.kind == ScopeKind.module && _) = false
    rw [hk]
    rfl
  refine ks_wpAt_execs_cons ?_
  refine ks_wpAt_Expr_any ?_ hint
  refine ks_wpAt_MethodCall (pl := (do return (← importBound (.Call (.Name "super" p0) [] [] p1) (ksEnv qual sc h.objs.size f (.ref cda) cc)).getD true)) ?_ (by
    show (do
      let ov ← attributeBase (.Call (.Name "super" p0) [] [] p1) "__init__" (ksEnv qual sc h.objs.size f (.ref cda) cc) (eval (.Call (.Name "super" p0) [] [] p1) (ksEnv qual sc h.objs.size f (.ref cda) cc))
      standAt p2.atName
      methodCall (.Call (.Name "super" p0) [] [] p1) "__init__" p2 p4 (ksEnv qual sc h.objs.size f (.ref cda) cc) ov 1 (backTo p4 (starEach [.Constant (.str m) j p3] (ksEnv qual sc h.objs.size f (.ref cda) cc))) []) = _
    unfold methodCall methodCallPos
    rw [hlin]
    rfl)
  refine ks_wpAt_super_base (env := ksEnv qual sc h.objs.size f (.ref cda) cc) hks hkc (by decide) rfl (X1 _ _ lk) rfl hp rfl (X1 _ _ hcode) rfl hvs hfile I.top ?_
  refine ks_loadName_global hk hks (PySem.Calls.loadGlobal_builtin (env := ksEnv qual sc h.objs.size f (.ref cda) cc) (hglob.keeps hk₁) hsu (hb1.keeps hk₁) ((hb2 _ (by decide)).trans (show bootBuiltins "super" = some (.type "super") by kernel_rfl)) ⟨rfl, ?_⟩)
  refine wpAny_loadName_free hk hkc rfl ⟨_, X1 _ _ hcellK, rfl⟩ ?_
  refine wpAny_loadName_local hk (by rw [har]; exact hka) hns (by rw [har]; exact hv0) ?_
  refine ks_wpAny_isType_cls hD1 hD2 ⟨rfl, ?_⟩
  refine ks_wpAny_call_super hD1 hD2 he1 rfl (fun c z => by cases z) (looks_mroIn X1 I.mr) (fun h2 e2 k2 => ?_)
  have X2 : K.In h2 := X1.keeps k2
  have he2 := k2 _ _ he1
  have I2 : InstAt h2 e (PySem.HandSPX.excO C t0) C none := ⟨he2, rfl, rfl, trivial⟩
  have hsup : alongIn K "__init__" ((cd.mro.dropWhile (· != .ref C)).drop 1) = some (some (.builtin "ValueError.__init__")) := by
    have z := I.su
    unfold ks_superIn at z
    rw [hcl] at z
    exact z
  refine kxs_getMethod kxs_ValueError e2 (looks_opaque X2 I.op) (l₀ := cd.mro) (fun A Q E s k q => wpAny_bind ((looks_clsIn X2 hcl) A _ E s k (wpAny_pure q))) rfl X2 hsup (I2.type.andThen (looks_subIn X2 I.ve)) (ks_ne X2 I2 hcl) (by decide) ?_
  have k3 : ∀ b o, h2.get? b = some o → (h2.push (kxs_mw "ValueError.__init__" e)).get? b = some o := fun b o z => Heap.get?_push_of_some _ z
  have hu : (h2.push (kxs_mw "ValueError.__init__" e)).get? h2.objs.size = some (kxs_mw "ValueError.__init__" e) := Heap.get?_push_at rfl rfl
  generalize h2.push (kxs_mw "ValueError.__init__" e) = h3 at k3 hu ⊢
  have X3 : K.In h3 := X2.keeps k3
  have he3 := k3 _ _ he2
  refine kxs_callWith (i := "ValueError.__init__") (x := e) rfl ?_
  show wpAny _ _ (evalArgs (.ref h2.objs.size) true [(false, eval (.Constant (.str m) j p3) (ksEnv qual sc h.objs.size f (.ref cda) cc))] []) _ _ _
  refine PySem.Calls.evalArgs_plain (Calls.spliced_cons (Calls.Constant_str (Calls.spliced_nil ?_)))
  refine ⟨hu, ?_⟩
  show wpAny _ _ (call (.ref h2.objs.size) [.str m _]) _ _ _
  obtain ⟨nm, N', qn, bs, bm, hdct, sn, sub, ab, col, dd, k0, k1, k2', k3', k5, hC, hT⟩ := excInit_of X3 I.ex
  refine wpAny_call (codeAny_of_tree ?_)
  show wpAny _ (A.deeper _).in1 (callAny (.ref h2.objs.size) ⟨[.str m _], []⟩) _ _ _
  simp only [callAny]
  refine wpAny_bind (wpAny_load hu ?_)
  simp only [kxs_mw, show (Value.type "method-wrapper" == Value.type "method" || Value.type "method-wrapper" == Value.type "builtin_function_or_method" || Value.type "method-wrapper" == Value.type "method-wrapper") = true by decide, if_true]
  refine KFB.if_so (by decide) ?_
  refine wpAny_bind (check_bound_init PySem.F.excBase_ValueError.toExcCallFacts hC he3 rfl ?_)
  refine wpAny_bind (wpAny_pure (wpAny_pure ?_))
  refine ⟨plainId_quiet PySem.F.excBase_ValueError.init.plain _, codeAny_builtin PySem.F.excBase_ValueError.initEntry ?_⟩
  refine exc_init_tree (cls := .ref C) (t0 := t0) (dv := none) (c2 := .none) (c3 := .none) (b4 := .bool false) he3 (by show 1 ≤ sizeLine; rw [sizeLine_eq]; omega) fun h5 k5' e5 t5 => ?_
  have kk5 : ∀ b o, b ≠ e → h.get? b = some o → h5.get? b = some o := fun b o hb ho => k5' b o hb (k3 _ _ (k2 _ _ (hk₁ _ _ ho)))
  have Le : h.objs.size ≠ e := fun z => by
    have y := Heap.lt_size he
    rw [z] at y
    exact absurd y (Nat.lt_irrefl _)
  have hns5 : h5.Ns h.objs.size (fun x => ([("self", Value.ref e), (par, v)] : List (Str × Value)).reverse.lookup x) := by
    obtain ⟨oL, es, ep, hL, r⟩ := hns
    exact ⟨oL, es, ep, k5' _ _ Le (k3 _ _ (k2 _ _ hL)), r⟩
  have X5 : K.In h5 := fun b o hb => by
    by_cases hbe : b = e
    · rw [hbe, hKe] at hb
      cases hb
    · exact kk5 b o hbe (X _ _ hb)
  refine ks_wpAt_execs_cons (ks_wpAt_Assign_Attr ?_)
  refine _root_.PySem.wpAt_of_wpAny (wpAny_Name (wpAny_loadName_local hk hkb hns5 hv1 ?_) hdp)
  refine wpAny_Name (wpAny_loadName_local hk hka hns5 hv0 ?_) (by decide)
  refine set_plain X5 (ox := PySem.HandSPX.excO C h3.objs.size) (od := none) ⟨e5, rfl, rfl, trivial⟩ I.sa ?_
  refine PySem.HandSPX.exc_osa X5 e5 hcl hmro hdict hno (fun h6 tk6 dx k6 dn dne hx hn => ?_)
  refine _root_.PySem.wpAt_of_wpAny (wpAny_pure ?_)
  have s5 : h.objs.size ≤ h5.objs.size := by
    obtain ⟨oL, es, ep, hL, r⟩ := hns5
    exact Nat.le_of_lt (Heap.lt_size hL)
  exact hq h6 tk6 dx h3.objs.size (fun b o hb ho => k6 b o hb (kk5 b o hb ho)) (Nat.le_trans s5 dn) dne hx hn
end Rs
namespace Rs
open PySem PySem.Spec PyProof.Rows L2 He
section
variable {X : Cx} {x par m qual fld : Str} {p pos pos2 : Pos} {C f : Addr} {j k : Nat} {pa : Arguments} {sc : Scope} {ar : Arg} {p0 p1 p2 p3 p4 p5 p6 p7 p8 p9 : Pos} {E : L2.St → XK} {D : Ends} {σ : L2.St} {H : Hp} {ea : Expr}
/-- all that the head and the text tell of such a class -/
structure IniC (P : Program) (K : PySem.W.Frag) (mg : Str → Option Value) (C : Addr) (fld : Str) : Prop where
  ex : ∃ (f : Addr) (qual par m : Str) (pa : Arguments) (sc : Scope) (ar : Arg) (j : Nat) (p0 p1 p2 p3 p4 p5 p6 p7 p8 p9 : Pos), ExcI P K C f ∧
    FunC P K C qual pa [.Expr (.Call (.Attribute (.Call (.Name "super" p0) [] [] p1) "__init__" p2) [.Constant (.str m) j p3] [] p4) p5, .Assign [.Attribute (.Name "self" p6) fld p7] (.Name par p8) p9] sc f ∧
    (p2.endLine == p4.line) = true ∧ (pa.posonlyargs ++ pa.args).head? = some ar ∧ ar.arg = "self" ∧
    (∀ (name : Str) (kV doc pm cdv ct : Value) (an : Option Addr) (cc : Addr) (body : List Stmt) (a b : Value), bindArgs (PySem.W.ksFn name qual pa body sc .none kV doc pm an cdv ct cc) ⟨[a, b], []⟩ = pure ([("self", a), (par, b)] : List (Str × Value))) ∧
    par ≠ "self" ∧ sc.names.lookup ("super" : Str) = some .globalImplicit ∧ sc.names.lookup ("__class__" : Str) = some .free ∧ sc.names.lookup ("self" : Str) = some .local ∧ sc.names.lookup par = some .local ∧
    (∀ x ∈ sc.names, x.2 ≠ .cell) ∧ sc.isCoroutine = false ∧ sc.isGenerator = false ∧ sc.kind = .function ∧ (par == ("__debug__" : Str)) = false
  no : PySem.W.findIn K (.ref C) fld = some none
  su : mg "super" = none
theorem pmk_ini (hr : Room 2 X.A) (c : IniC X.prog X.K X.mg C fld) (g : Gn X x) (hm : X.mg x = some (.ref C))
    (he : starEach [ea] X.env = (false, eval ea X.env) :: starEach [] X.env := by rfl) :
    L2N.PMk X (.Call (.Name x p) [ea] [] pos) (fun σ H Q => WE X ea σ H fun v H1 => ∀ d, H1 d = none → Q (.ref C) (some d) (upd H1 d (.xd [(fld, v)]))) := by
  intro pins s σ H Q I h
  obtain ⟨f, qual, par, m, pa, sc, ar, j, p0, p1, p2, p3, p4, p5, p6, p7, p8, p9, T, F, hlin, hp, har, hbind, hps, hks, hkc, hka, hkb, hcell, hco, hgen, hk, hdp⟩ := c.ex
  refine wpAny_Call_Name_kw (ld_glob I g.gl hm ?_ g.d1)
  refine PySem.W.callWith_K (h₀ := X.base) I.ok.mod.kin T.kp (thn ((wa_one (QA := fun vs H1 => ∃ v, vs = [v] ∧ ∀ d, H1 d = none → Q (.ref C) (some d) (upd H1 d (.xd [(fld, v)]))) (we_mono h fun v H1 q => ⟨v, rfl, q⟩) he) pos pins s I) fun us s1 z => ?_) he rfl
  obtain ⟨vs, H1, I1, r1, v, rfl, q1⟩ := z
  refine ⟨I1.kIn, ?_⟩
  cases r1 with
  | @cons _ u0 _ ur ru rn =>
  cases rn
  show wpAny _ _ (call (.ref C) [u0]) _ _ _
  obtain ⟨nm, N', qn, bs, bm, hdct, sn, sub, ab, col, dd, k0, k1, k2, k3, k5, hC, hT⟩ := PySem.W.excInit_of I1.kIn T.ex
  obtain ⟨hp', gn, dr, tk, os⟩ := s1
  have kk : ∀ b o, hp'.get? b = some o → ((hp'.push (PySem.W.kdv_tup [u0])).push (PySem.HandSPX.excO C hp'.objs.size)).get? b = some o := fun b o e => Heap.get?_push_of_some _ (Heap.get?_push_of_some _ e)
  have hget : ((hp'.push (PySem.W.kdv_tup [u0])).push (PySem.HandSPX.excO C hp'.objs.size)).get? (hp'.objs.size + 1) = some (PySem.HandSPX.excO C hp'.objs.size) := by heap_get
  have hnew : hp'.get? (hp'.objs.size + 1) = none := Heap.get?_none_of_le (Nat.le_succ _)
  obtain ⟨mb, hb1, hb2⟩ := I1.mod.blt
  refine wpAny_call (PySem.HandSPX.call_own PySem.F.excBase_ValueError hT hC (PySem.W.looks_findIn I1.kIn T.ini) (fun self => PySem.W.bind_fn I1.kIn self T.tf) (by show 1 ≤ sizeLine; rw [sizeLine_eq]; omega)
    (ini_run (mg := X.mg) (hr.make C [u0] []).depth (I1.kIn.keeps kk) ((I1.mod.glob.keeps I1.bk).keeps kk) ⟨mb, (hb1.keeps I1.bk).keeps kk, hb2⟩ (I1.nolimit.keeps kk) c.su T F hlin hp har hbind hps hks hkc hka hkb hcell hco hgen hk c.no hdp hget ?_ ?_))
  · cases z : X.K.lookup (hp'.objs.size + 1) with
    | none => rfl
    | some o =>
      have y := I1.kIn _ _ z
      rw [hnew] at y
      cases y
  · intro h' t' dx t1 k' dn dne hx hn
    have hsz : hp'.objs.size ≤ dx := Nat.le_trans (by rw [Heap.size_push, Heap.size_push]; omega) dn
    obtain ⟨G, g1, g2⟩ := restrict h' fun b => decide (b ≠ hp'.objs.size + 1)
    have gk : ∀ b, b ≠ hp'.objs.size + 1 → G.get? b = h'.get? b := fun b hb => g1 b (decide_eq_true hb)
    have ge : G.get? (hp'.objs.size + 1) = none := g2 _ (by simp)
    have kG : ∀ b o, hp'.get? b = some o → G.get? b = some o := fun b o e => by
      have hb : b ≠ hp'.objs.size + 1 := fun z => by
        rw [z, hnew] at e
        cases e
      rw [gk b hb]
      exact k' b o hb (kk b o e)
    have J : Inv X pins σ (upd H1 dx (.xd [(fld, v)])) ⟨G, gn, dr, t', os⟩ := I1.laid (t' := t') (a := dx) (o := .xd [(fld, v)]) (h' := G) kG hsz
      ⟨_, hn.at fun o y => (gk dx dne).trans y, relO_put (fs := []) ru fun g => True.intro⟩
    refine ⟨rfl, hp'.objs.size + 1, _, _, ⟨G, gn, dr, t', os⟩, _, .ref C, some dx, rfl, J, fun b o z => ?_, ge, hx, ⟨rfl, rfl, fun vs e => by cases e; rfl⟩, rfl, rfl, ?_, rfl, I1.bare, raises_own T.sb T.ty, q1 dx (I1.hok.fresh hsz)⟩
    · by_cases hba : b = hp'.objs.size + 1
      · rw [hba, ge] at z
        cases z
      · exact (gk b hba).symm.trans z
    · rw [upd_ne (Ne.symm dne)]
      exact I1.hok.fresh (Nat.le_succ _)
theorem ws_raiseI (B : Body X k E) (hk : 2 ≤ k) (c : IniC X.prog X.K X.mg C fld) (g : Gn X x) (hm : X.mg x = some (.ref C))
    (h : WE X ea σ H fun v H1 => ∀ d, H1 d = none → E σ (.ref C) (some d) (upd H1 d (.xd [(fld, v)])))
    (he : starEach [ea] X.env = (false, eval ea X.env) :: starEach [] X.env := by rfl) : WS X (.Raise (some (.Call (.Name x p) [ea] [] pos)) none pos2) D σ H :=
  wsP (L2N.ps_raise B.calm B.tk (pmk_ini (B.room.mono hk) c g hm he)) h
end
end Rs
namespace Rs
open PySem PySem.Spec PyProof.Rows L2 He
/-! ### such an exception in a suite -/
def rIsED (K : PySem.W.Frag) (D a dd : Addr) : List V → Hp → VK → Prop := fun xs H Q => ∃ (c : V) (cv : Value) (b : Bool) (fs : List (Str × V)), xs = [.ref a, c] ∧ H dd = some (.xd fs) ∧ (∀ u, RelV c u → u = cv) ∧ PySem.W.kitOne K (.ref D) cv = some b ∧ Q (.bl b) H
theorem call_isED {X : Cx} {a D dd : Addr} {oe : Obj} {pn : List (Addr × Obj)} (C : ExcC X.K D) (hz : Zc (.ref D) (some dd) oe) (hf : ∃ vs, oe.data = .fields vs) : CallR (X.suite a ((a, oe) :: pn)) (.builtin "isinstance") (rIsED X.K D a dd) := by
  intro pins s σ H xs us Q I r h
  obtain ⟨c, cv, b, fs, rfl, hdd, hcv, e, q⟩ := h
  cases r with
  | cons rx rr =>
    cases rr with
    | cons rt rr =>
      cases rr
      cases rx
      have ec := hcv _ rt
      subst ec
      obtain ⟨hget, _⟩ := I.pin (a, oe) (List.mem_append.mpr (.inl List.mem_cons_self))
      have hx : ObjOk X.prog X.w H s.heap dd (.xd fs) := I.hok dd _ hdd
      obtain ⟨mA, hns, hr⟩ := hx
      obtain ⟨od, ho, hl⟩ := lookIn_ns hns
      obtain ⟨vs, hv⟩ := hf
      have J : PySem.W.InstAt s.heap a oe D (some od) := ⟨hget, hz.1, by unfold PySem.W.notCls; rw [hv] <;> rfl, by rw [hz.2]; exact ho⟩
      have hcl : (PySem.W.clsIn X.K D).isSome = true := by
        cases z : PySem.W.clsIn X.K D with
        | none =>
          have y := C.hd
          unfold PySem.W.hasDictIn at y
          rw [z] at y
          cases y
        | some cd => rfl
      exact PySem.W.kia_one (PySem.W.kitx_exc (od := some od) hcl C.hg C.hk C.hs C.ha C.hn C.ht C.hm) I.kIn J e (fun z => nomatch z) fun tk => ⟨.bl b, H, I.kept (t' := tk) fun _ _ z => z, rfl, q⟩
section
variable {X : Cx} {a D dd : Addr} {oe : Obj} {pn : List (Addr × Obj)} {σ : L2.St} {H : Hp} {Q : VK} {e b : Expr} {p pos : Pos} {n : Str}
theorem we_isED (C : ExcC X.K D) (hz : L2N.Zn (.ref D) (some dd) oe) (hf : ∃ vs, oe.data = .fields vs) (bn : Bn (X.suite a ((a, oe) :: pn)) "isinstance")
    (h : WE (X.suite a ((a, oe) :: pn)) e σ H fun v H1 => WE (X.suite a ((a, oe) :: pn)) b σ H1 fun w H2 => v = .ref a ∧ (∃ fs, H2 dd = some (.xd fs)) ∧ ∃ cv r, (∀ u, RelV w u → u = cv) ∧ PySem.W.kitOne X.K (.ref D) cv = some r ∧ Q (.bl r) H2)
    (hs : starEach [e, b] X.env = (false, eval e X.env) :: starEach [b] X.env := by rfl) (ht : starEach [b] X.env = [(false, eval b X.env)] := by rfl) (hl : (backTo pos (starEach [b] X.env)).any (·.1) = false := by rfl) :
    WE (X.suite a ((a, oe) :: pn)) (.Call (.Name "isinstance" p) [e, b] [] pos) σ H Q :=
  we_callB (call_isED (pn := pn) C hz.zc hf) bn boot_isinstance (wa_two (we_mono h fun v H1 q => we_mono q fun w H2 q => by
    obtain ⟨rfl, ⟨fs, hd⟩, cv, r, h1, h2, q⟩ := q
    exact ⟨w, cv, r, fs, rfl, hd, h1, h2, q⟩) hs ht) (by decide) (by decide) hs hl
/-- e.f -/
theorem we_xf (C : ExcC X.K D) (hno : PySem.W.findIn X.K (.ref D) n = some none) (hz : L2N.Zn (.ref D) (some dd) oe) (hf : ∃ vs, oe.data = .fields vs)
    (h : WE (X.suite a ((a, oe) :: pn)) e σ H fun v H1 => v = .ref a ∧ ∃ fs y, H1 dd = some (.xd fs) ∧ fs.lookup n = some y ∧ Q y H1) (hb : attributeBase e n X.env (eval e X.env) = eval e X.env := by rfl) :
    WE (X.suite a ((a, oe) :: pn)) (.Attribute e n pos) σ H Q :=
  weP (pe_xf ⟨C.hg, C.hk, C.hs, C.hd⟩ hno hz.zc hf peS hb) (we_mono h fun v H1 z => by
    obtain ⟨rfl, fs, y, h1, h2, q⟩ := z
    exact ⟨rfl, rfl, dd, fs, y, rfl, h1, h2, q⟩)
end
/-! ### looks -/
def excIB (P : Program) (K : PySem.W.Frag) (C f : Addr) : Bool := PySem.W.excInitIn K C PySem.HandSPX.veTail "ValueError.__new__" && ((match PySem.W.clsIn K C with
    | some cd => PySem.HandSPX.refsVE cd.mro && cd.hasDict
    | none => false) && (PySem.W.keepIn K (.ref C) && (decide (PySem.W.subIn K (.ref C) (.type "BaseException") = some true) && (decide (PySem.W.subIn K (.ref C) (.type "ValueError") = some true) && (decide (PySem.W.typeIn K (.ref C) = some (.type "type")) &&
  (decide (PySem.W.findIn K (.ref C) "__setattr__" = some (some (.builtin "object.__setattr__"))) && (decide (PySem.W.findIn K (.ref C) "__init__" = some (some (.ref f))) && (decide (PySem.W.typeIn K (.ref f) = some (.type "function")) &&
  (decide (PySem.W.ks_superIn K C C "__init__" = some (some (.builtin "ValueError.__init__"))) && (decide (PySem.W.mroIn K C (.ref C) = some true) && (decide (PySem.W.nsIn K cStatics "thirdparty.any" = some none) && !(P.main.scope.names.lookup ("super" : Str)).isSome)))))))))))
theorem excI_ok {P : Program} {K : PySem.W.Frag} {C f : Addr} (h : excIB P K C f = true) : ExcI P K C f := by
  obtain ⟨h1, h⟩ := ba h
  obtain ⟨h2, h⟩ := ba h
  obtain ⟨h3, h⟩ := ba h
  obtain ⟨h4, h⟩ := ba h
  obtain ⟨h5, h⟩ := ba h
  obtain ⟨h6, h⟩ := ba h
  obtain ⟨h7, h⟩ := ba h
  obtain ⟨h8, h⟩ := ba h
  obtain ⟨h9, h⟩ := ba h
  obtain ⟨h10, h⟩ := ba h
  obtain ⟨h11, h⟩ := ba h
  obtain ⟨h12, h13⟩ := ba h
  refine ⟨h1, ?_, h3, of_decide_eq_true h4, of_decide_eq_true h5, of_decide_eq_true h6, of_decide_eq_true h7, of_decide_eq_true h8, of_decide_eq_true h9, of_decide_eq_true h10, of_decide_eq_true h11, of_decide_eq_true h12, by simpa using h13⟩
  cases z : PySem.W.clsIn K C with
  | none => rw [z] at h2; cases h2
  | some cd =>
    rw [z] at h2
    obtain ⟨a, b⟩ := ba (show (PySem.HandSPX.refsVE cd.mro && cd.hasDict) = true from h2)
    exact ⟨cd, rfl, a, b⟩
def isCellOf (C : Addr) (o : Option Obj) : Bool := match o with
  | some ob => (match ob.data with
    | .cell v => decide (v = some (.ref C))
    | _ => false)
  | none => false
def isCodeOf (z : Str) (o : Option Obj) : Bool := match o with
  | some ob => (match ob.data with
    | .fields vs => (match vs[2]? with
      | some v => isStrAs z v
      | none => false)
    | _ => false)
  | none => false
def isCodeAt (z : Str) (K : PySem.W.Frag) (v : Value) : Bool := match v with
  | .ref cda => isCodeOf z (K.lookup cda)
  | _ => false
def isCloOf (K : PySem.W.Frag) (C : Addr) (cl : List (Str × Addr)) : Bool := match cl with
  | [q] => decide (q.1 = "__class__") && isCellOf C (K.lookup q.2)
  | _ => false
theorem isCell_ok {C : Addr} {o : Option Obj} (h : isCellOf C o = true) : ∃ cl cld csl, o = some ⟨cl, cld, .cell (some (.ref C)), csl⟩ := by
  cases o with
  | none => cases h
  | some ob =>
    obtain ⟨a1, a2, dt, a3⟩ := ob
    cases dt with
    | cell v => exact ⟨_, _, _, by rw [of_decide_eq_true (show decide (v = some (.ref C)) = true from h)]⟩
    | _ => cases h
theorem isStr_ok {z : Str} {v : Value} (h : isStrAs z v = true) : ∃ file tk, v = .str file tk ∧ (z == file) = true := by
  cases v with
  | str file tk => exact ⟨_, _, rfl, h⟩
  | _ => cases h
theorem isCode_ok {z : Str} {o : Option Obj} (h : isCodeOf z o = true) : ∃ ccl cdd ccs vs file tf, o = some ⟨ccl, cdd, .fields vs, ccs⟩ ∧ vs[2]? = some (.str file tf) ∧ (z == file) = true := by
  cases o with
  | none => cases h
  | some ob =>
    obtain ⟨a1, a2, dt, a3⟩ := ob
    cases dt with
    | fields vs =>
      have h : (match vs[2]? with
        | some v => isStrAs z v
        | none => false) = true := h
      cases e : vs[2]? with
      | none => rw [e] at h; cases h
      | some v =>
        rw [e] at h
        obtain ⟨file, tk, rfl, h2⟩ := isStr_ok h
        exact ⟨_, _, _, vs, file, tk, rfl, e, h2⟩
    | _ => cases h
theorem isCodeAt_ok {z : Str} {K : PySem.W.Frag} {v : Value} (h : isCodeAt z K v = true) : ∃ cda, v = .ref cda ∧ isCodeOf z (K.lookup cda) = true := by
  cases v with
  | ref cda => exact ⟨_, rfl, h⟩
  | _ => cases h
theorem isClo_ok {K : PySem.W.Frag} {C : Addr} {cl : List (Str × Addr)} (h : isCloOf K C cl = true) : ∃ cc, cl = ([("__class__", cc)] : List (Str × Addr)) ∧ isCellOf C (K.lookup cc) = true := by
  cases cl with
  | nil => cases h
  | cons q r =>
    cases r with
    | nil =>
      obtain ⟨n, cc⟩ := q
      obtain ⟨h1, h2⟩ := ba (show (decide (n = "__class__") && isCellOf C (K.lookup cc)) = true from h)
      exact ⟨cc, by rw [of_decide_eq_true h1], h2⟩
    | cons _ _ => cases h
def funOf (o : Option Obj) : Option FuncData := match o with
  | some ob => (match ob.data with
    | .func z => some z
    | _ => none)
  | none => none
def funCB (P : Program) (K : PySem.W.Frag) (C f : Addr) : Bool := match funOf (K.lookup f) with
  | some z => isCloOf K C z.closure && (isCodeAt P.main.file K z.code && decide (z.defaults = .none))
  | none => false
theorem funC_ok {P : Program} {K : PySem.W.Frag} {C f : Addr} {name qual : Str} {pa : Arguments} {body : List Stmt} {sc : Scope} (h : funCB P K C f = true)
    (F : ∃ (oc : Value) (od : Option Addr) (cl : List (Str × Addr)) (dV kV doc pm : Value) (an : Option Addr) (cdv ct : Value) (osl : Array (Option Value)),
      K.lookup f = some ⟨oc, od, .func (PySem.W.fnX name qual pa body sc cl dV kV doc pm an cdv ct), osl⟩ ∧ PySem.W.codeIn K cdv qual = true) : FunC P K C qual pa body sc f := by
  obtain ⟨oc, od, cl, dV, kV, doc, pm, an, cdv, ct, osl, lk, hcd⟩ := F
  unfold funCB at h
  rw [lk] at h
  obtain ⟨h1, h2⟩ := ba (show (isCloOf K C cl && (isCodeAt P.main.file K cdv && decide (dV = .none))) = true from h)
  obtain ⟨h6, h5⟩ := ba h2
  have e5 : dV = .none := of_decide_eq_true h5
  subst e5
  obtain ⟨cc, rfl, h3⟩ := isClo_ok h1
  obtain ⟨cda, rfl, h4⟩ := isCodeAt_ok h6
  exact ⟨oc, od, name, kV, doc, pm, an, cda, cc, ct, osl, lk, hcd, isCell_ok h3, isCode_ok h4⟩
end Rs

namespace Rs
open PySem PySem.Spec PyProof.Rows L2 He
/-! ### several except clauses, each with a name or without one -/
/-- a clause: its class, the slot of its name, its suite -/
abbrev Clause : Type := Value × Option Nat × (Addr → Value → Option Addr → TS)
def offSlot (o : Option Nat) (D : Ends) : Ends := match o with
  | none => D
  | some i => { nx := fun t G => D.nx (t.set i none) G, rt := D.rt, bk := fun t G => D.bk (t.set i none) G, ct := fun t G => D.ct (t.set i none) G }
def onSlot (o : Option Nat) (a : Addr) (t : L2.St) : L2.St := match o with
  | none => t
  | some i => t.set i (some (.ref a))
def wRow (K : PySem.W.Frag) (out : WX) (D : Ends) : List Clause → WX
  | [] => out
  | z :: r => fun cls d t G => ∃ b, PySem.W.exmOne K cls z.1 = some b ∧ (b = true → ∀ a, G a = none → z.2.2 a cls d (offSlot z.2.1 D) (onSlot z.2.1 a t) G) ∧ (b = false → wRow K out D r cls d t G)
/-- a suite reads as ts -/
def SuOk (X : Cx) (st : List Stmt) (ts : Addr → Value → Option Addr → TS) : Prop :=
  ∀ (a : Addr) (o : Obj) (cls : Value) (d : Option Addr) (pn : List (Addr × Obj)), L2N.Zn cls d o → (∃ vs, o.data = .fields vs) → PSs (X.suite a ((a, o) :: pn)) st (ts a cls d)
inductive RowOk (X : Cx) : List ExceptHandler → List Clause → Prop
  | nil : RowOk X [] []
  | bare {x : Str} {c : Value} {ts : Addr → Value → Option Addr → TS} {b0 : Stmt} {su : List Stmt} {p1 p2 : Pos} {hs : List ExceptHandler} {l : List Clause} (hc : Names X x c) (ok : SuOk X (b0 :: su) ts) (r : RowOk X hs l) :
      RowOk X (.ExceptHandler (some (.Name x p1)) none (b0 :: su) p2 :: hs) ((c, none, ts) :: l)
  | named {x n : Str} {i : Nat} {c : Value} {ts : Addr → Value → Option Addr → TS} {b0 : Stmt} {su : List Stmt} {p1 p2 : Pos} {hs : List ExceptHandler} {l : List Clause} (hi : X.N[i]? = some n) (hk : X.env.kindOf n = some .local) (hc : Names X x c)
      (ok : SuOk X (b0 :: su) ts) (r : RowOk X hs l) : RowOk X (.ExceptHandler (some (.Name x p1)) (some n) (b0 :: su) p2 :: hs) ((c, some i, ts) :: l)
section
variable {X : Cx} {pins : List (Addr × Obj)} {D : Ends}
/-- behind a suite without a name -/
theorem suite_end {a : Addr} {o : Obj} {f : Flow} {t : Shared} (ok : X.Ok) (h : SP (X.suite a ((a, o) :: (X.pn ++ pins))) [] D f t) : SP X pins D f t := by
  cases f with
  | next => exact h.elim fun _ h => h.elim fun _ h => ⟨_, _, h.1.unsuite ok, h.2⟩
  | brk => exact h.elim fun _ h => h.elim fun _ h => ⟨_, _, h.1.unsuite ok, h.2⟩
  | cont => exact h.elim fun _ h => h.elim fun _ h => ⟨_, _, h.1.unsuite ok, h.2⟩
  | ret u => exact h.elim fun _ h => h.elim fun _ h => h.elim fun _ h => ⟨_, _, _, h.1.unsuite ok, h.2⟩
/-- behind a body under try -/
theorem tried_end {pn : List (Addr × Obj)} {xe : Value → Shared → Prop} {f : Flow} {t : Shared} (ok : X.Ok) (back : ∀ {σ : L2.St} {G : Hp}, Inv (X.tr pn xe) [] σ G t → Inv X pins σ G t) (h : SP (X.tr pn xe) [] D f t) : SP X pins D f t := by
  cases f with
  | next => exact h.elim fun _ h => h.elim fun _ h => ⟨_, _, back h.1, h.2⟩
  | brk => exact h.elim fun _ h => h.elim fun _ h => ⟨_, _, back h.1, h.2⟩
  | cont => exact h.elim fun _ h => h.elim fun _ h => ⟨_, _, back h.1, h.2⟩
  | ret u => exact h.elim fun _ h => h.elim fun _ h => h.elim fun _ h => ⟨_, _, _, back h.1, h.2⟩
end
section
variable {X : Cx} {body : List Stmt} {h0 : ExceptHandler} {hds : List ExceptHandler} {l : List Clause} {pos : Pos} {tb : WX → TS} {out : WX}
theorem ps_try_row (stk : X.stack = X.env :: X.outer) (fra : X.env.frame = some X.env.locals) (nod : X.N.Nodup) (tk : L2N.Takes X out)
    (hb : ∀ (W : WX) (pn : List (Addr × Obj)) (xe : Value → Shared → Prop), L2N.Takes (X.tr pn xe) W → PassesOwn (model X.prog X.w) X.A X.env xe → PSs (X.tr pn xe) body (tb W))
    (rows : RowOk X (h0 :: hds) l) : PS X (.Try body (h0 :: hds) [] [] pos) (fun D σ H => tb (wRow X.K out D l) D σ H) := by
  refine ⟨fun pins s σ H D I h => wpAny_Try_except ?_⟩
  have ok := I.ok
  have kf : X.A.frames = some (X.env :: X.outer) := stk ▸ ok.frames
  refine wpAny_mono ((hb _ (X.pn ++ pins) (fun e t1 => wpAny (model X.prog X.w) X.A (noteFrame e X.env) (fun _ t2 => wpAny (model X.prog X.w) X.A (setFlight e none)
    (fun _ t3 => wpAny (model X.prog X.w) X.A (handleBy e X.env (h0 :: hds)) (SP X pins D) X.xe t3) X.xe t2) X.xe t1) (fun u t xx => ?_) PassesOwn.looking).run [] s σ H D (I.toTry _) h)
    (fun f t z => ?_) (fun _ _ z => z)
  case refine_2 =>
    have z' := tried_end (pins := pins) ok (fun J => J.ofTry ok) z
    cases f with
    | next => exact wpAny_execs_nil z'
    | brk => exact z'
    | cont => exact z'
    | ret _ => exact z'
  obtain ⟨a, B, t0, pins0, τ, G, cls, d, rfl, J0, nb, up, sky, ha0, eo, ag, wish⟩ := xx
  have J := J0.ofTry (pins := pins) ok
  have sk : Sky B (X.env :: X.outer) a (L2N.Zn cls d) X.env.locals t.heap := stk ▸ sky
  show wpAny (model X.prog X.w) X.A (noteFrame (Value.ref a) X.env) _ _ t
  refine L2N.Sky.land L2N.Zn.steady kf fra sk fun g3 fl up3 => ?_
  have J3 : Inv X pins τ G { t with heap := g3 } := J.landed nb fl.1 (up.trans up3) eo ag
  obtain ⟨o3, vs3, e3, z3, dt3⟩ := fl.there
  have noFrame : a ∉ frs (X.env :: X.outer) := fun hm => by
    obtain ⟨_, o', e', hnf⟩ := fl.2.2.1.mem hm
    rw [e3] at e'
    cases e'
    exact hnf _ dt3
  have na : a ≠ X.env.locals := fun q => noFrame (List.mem_filterMap.mpr ⟨X.env, List.mem_cons_self, fra.trans (congrArg some q.symm)⟩)
  have nf : a ∉ X.fs := fun q => noFrame ((List.mem_filterMap.mp q).elim fun e h => List.mem_filterMap.mpr ⟨e, List.mem_cons_of_mem _ h.1, h.2⟩)
  have S3 := J3.suite e3 dt3 ha0 na nf
  have kind : PySem.W.Looks (model X.prog X.w) g3 (typeOf (Value.ref a)) cls := fun _ _ _ _ k q => wpAny_typeOf_ref (k _ _ e3) (z3.1 ▸ q)
  have named : ∀ {x : Str} {c : Value} {np : Pos} {Q : Value → Shared → Prop} {E : Value → Shared → Prop}, Names X x c → Q c { t with heap := g3 } →
      wpAny (model X.prog X.w) (X.A.mark (some (.ref a))) (eval (.Name x np) X.env) Q E { t with heap := g3 } := fun hc q => by
    rcases hc with ⟨g1, g2, m | ⟨m1, m2, m3⟩⟩
    · exact ld_glob (X := X.suite a ((a, o3) :: (X.pn ++ pins))) S3 g1 m q g2
    · exact ld_blt (X := X.suite a ((a, o3) :: (X.pn ++ pins))) S3 g1 m1 m2 q m3 g2
  have all : ∀ {rs : List ExceptHandler} {ls : List Clause}, RowOk X rs ls → wRow X.K out D ls cls d τ G → wpAny (model X.prog X.w) X.A (handleBy (.ref a) X.env rs) (SP X pins D) X.xe { t with heap := g3 } := by
    intro rs ls ro
    induction ro with
    | nil =>
      intro w
      refine wpAny_handleBy_nil ?_
      obtain ⟨_, _, _, o5, v5, C5, k5, t5, q1, q2, q3, q4, q5⟩ := id fl
      unfold PySem.passOn
      refine wpAny_bind (wpAny_field q1 q3 q4 ?_)
      rw [if_neg (show ¬ ((Value.ref C5 == Value.none) = true) by simp)]
      have last : wpAny (model X.prog X.w) X.A (setFlight (.ref a) X.env.frame) (fun _ t4 => wpAny (model X.prog X.w) X.A (throw (.ref a) : Sem Flow) (SP X pins D) X.xe t4) X.xe { t with heap := g3 } := by
        rw [fra]
        exact HandSPX.setFlight_upZ fl fun g4 fl4 up4 => wpAny_throw (tk _ _ ⟨a, B, t0, pins, τ, G, cls, d, rfl, J, nb, (up.trans up3).trans up4, .inr (.inr (by rw [stk]; exact fl4)), ha0, eo, ag, w⟩)
      first
        | exact wpAny_bind (wpAny_pure (wpAny_bind last))
        | exact wpAny_bind last
    | @bare x c ts b0 su p1 p2 hs l hc so r ih =>
      rintro ⟨b, eb, yes, no⟩
      refine wpAny_handleBy_cons (codeAny_handlers_test (named hc ((PySem.W.exm_one (M := model X.prog X.w) J3.kIn kind eb).here ?_))) (by intro q; cases q)
      cases b with
      | false => exact ih (no rfl)
      | true =>
        refine codeAny_handlers_suite (HandSPX.lands_againZ fl fun g4 fl4 up4 => ?_)
        obtain ⟨o4, v4, e4, z4, dt4⟩ := fl4.there
        have J4 : Inv X pins τ G { t with heap := g4 } := J.landed nb fl4.1 ((up.trans up3).trans up4) eo ag
        have S4 := J4.suite e4 dt4 ha0 na nf
        exact wpAny_mono ((so a o4 cls d (X.pn ++ pins) z4 ⟨_, dt4⟩).run [] _ _ G _ S4 (yes rfl a ha0)) (fun _ _ z => suite_end ok z) (fun _ _ z => False.elim z)
    | @named x n i c ts b0 su p1 p2 hs l hi hk hc so r ih =>
      rintro ⟨b, eb, yes, no⟩
      refine wpAny_handleBy_cons (codeAny_handlers_test (named hc ((PySem.W.exm_one (M := model X.prog X.w) J3.kIn kind eb).here ?_))) (by intro q; cases q)
      cases b with
      | false => exact ih (no rfl)
      | true =>
        refine codeAny_handlers_suite_as (HandSPX.lands_againZ fl fun g4 fl4 up4 => ?_)
        obtain ⟨o4, v4, e4, z4, dt4⟩ := fl4.there
        have J4 : Inv X pins τ G { t with heap := g4 } := J.landed nb fl4.1 ((up.trans up3).trans up4) eo ag
        have S4 := J4.suite e4 dt4 ha0 na nf
        refine store_ok (X := X.suite a ((a, o4) :: (X.pn ++ pins))) (v := .ref a) S4 nod hi (.inl hk) rfl (fun t5 S5 => ?_) (.inr hk)
        refine wpAny_mono ((so a o4 cls d (X.pn ++ pins) z4 ⟨_, dt4⟩).run [] t5 _ G _ S5 (yes rfl a ha0)) (fun f t6 z => ?_) (fun _ _ z => False.elim z)
        have gone : ∀ {τ6 : L2.St} {G6 : Hp} {R : Shared → Prop}, Inv X pins τ6 G6 t6 → (∀ t7, Inv X pins (τ6.set i none) G6 t7 → R t7) →
            wpAny (model X.prog X.w) X.A (do bindName X.env n .none; unbindBehindTheSuite X.env n p2) (fun _ t7 => R t7) X.xe t6 := fun S hq => gone_ok S nod hi hk hq
        have z' := suite_end (pins := pins) ok z
        cases f with
        | next => exact z'.elim fun _ h => h.elim fun _ h => gone h.1 fun t7 J7 => ⟨_, _, J7, h.2⟩
        | brk => exact z'.elim fun _ h => h.elim fun _ h => gone h.1 fun t7 J7 => ⟨_, _, J7, h.2⟩
        | cont => exact z'.elim fun _ h => h.elim fun _ h => gone h.1 fun t7 J7 => ⟨_, _, J7, h.2⟩
        | ret u => exact z'.elim fun _ h => h.elim fun _ h => h.elim fun _ h => gone h.1 fun t7 J7 => ⟨_, _, _, J7, h.2.1, h.2.2⟩
  exact all rows wish
end
section
variable {X : Cx} {k : Nat} {E : L2.St → XK} {D : Ends} {σ : L2.St} {H : Hp} {body : List Stmt} {h0 : ExceptHandler} {hds : List ExceptHandler} {l : List Clause} {pos : Pos}
theorem su_ok {st : List Stmt} : SuOk X st (Sui X st) := fun a oe cls d pn hz hf => ⟨fun pins t σ H D I q => q oe pn hz hf pins t I⟩
theorem ws_try_row (B : Body X k E) (nod : X.N.Nodup) (rows : RowOk X (h0 :: hds) l)
    (h : ∀ pn xe, Body (X.tr pn xe) k (fun σ cls d H => wRow X.K (fun cls d σ H => E σ cls d H) D l cls d σ H) → WB (X.tr pn xe) body D σ H) (hf : ∀ x, X.fn x = true := by assumption) :
    WS X (.Try body (h0 :: hds) [] [] pos) D σ H :=
  wsP (ps_try_row (tb := fun W D σ H => ∀ pn xe, L2N.Takes (X.tr pn xe) W → PassesOwn (model X.prog X.w) X.A X.env xe → WB (X.tr pn xe) body D σ H) (B.stk hf) (B.fr hf) nod B.tk
    (fun W pn xe tk po => ⟨fun pins t σ H D I q => q pn xe tk po pins t I⟩) rows) fun pn xe tk po => h pn xe (B.tr tk po)
theorem row_yes {K : PySem.W.Frag} {out : WX} {z : Clause} {r : List Clause} {cls : Value} {d : Option Addr} (e : PySem.W.exmOne K cls z.1 = some true) (h : ∀ a, H a = none → z.2.2 a cls d (offSlot z.2.1 D) (onSlot z.2.1 a σ) H) : wRow K out D (z :: r) cls d σ H := ⟨true, e, fun _ => h, fun q => nomatch q⟩
theorem row_no {K : PySem.W.Frag} {out : WX} {z : Clause} {r : List Clause} {cls : Value} {d : Option Addr} (e : PySem.W.exmOne K cls z.1 = some false) (h : wRow K out D r cls d σ H) : wRow K out D (z :: r) cls d σ H := ⟨false, e, (fun q => nomatch q), fun _ => h⟩
end
/-! ### data beside data -/
section
variable {X : Cx} {k : Nat} {E : L2.St → XK} {H : Hp} {Q : VK} {v u : V} {d e : PyData}
theorem o_eqDp (B : Body X k E) (hv : Dp X.K H v d) (hu : Dp X.K H u e) (sd : SeqAt.shaped d = true) (se : SeqAt.shaped e = true) (q : Q (.bl (PyData.eqv d e)) H) : Op2 X (compareOp .Eq) v u H Q :=
  op2_of (op_eqD (by have := B.room.un; omega)) ⟨d, e, hv, hu, sd, se, q⟩
theorem o_neDp (B : Body X k E) (hv : Dp X.K H v d) (hu : Dp X.K H u e) (sd : SeqAt.shaped d = true) (se : SeqAt.shaped e = true) (q : Q (.bl (!PyData.eqv d e)) H) : Op2 X (compareOp .NotEq) v u H Q :=
  op2_of (op_neD (by have := B.room.un; omega)) ⟨d, e, hv, hu, sd, se, q⟩
end
/-! ### slices of lists, lists put together -/
section
variable {X : Cx} {σ : L2.St} {H : Hp} {Q : VK} {a b : Expr} {pos p2 : Pos}
theorem we_cutL (h : WE X a σ H fun v H1 => WE X b σ H1 fun w H2 => ∃ p xs i, v = .ref p ∧ w = .int i ∧ SqL X.K H2 p xs ∧ ∀ l, H2 l = none → Q (.ref l) (upd H2 l (.lst (cutV xs (some i) none)))) : WE X (.Subscript a (.Slice (some b) none none p2) pos) σ H Q :=
  weP (pe_slice sl_list peS (po_some peS) po_none) (we_mono h fun v H1 z => we_mono z fun w H2 z => by
    obtain ⟨p, xs, i, rfl, rfl, h1, z⟩ := z
    exact ⟨i, rfl, p, xs, rfl, h1, z⟩)
theorem we_cutA (h : WE X a σ H fun v H1 => ∃ p xs, v = .ref p ∧ SqL X.K H1 p xs ∧ ∀ l, H1 l = none → Q (.ref l) (upd H1 l (.lst (cutV xs none none)))) : WE X (.Subscript a (.Slice none none none p2) pos) σ H Q :=
  weP (pe_slice sl_list peS po_none po_none) (we_mono h fun v H1 z => by
    obtain ⟨p, xs, rfl, h1, z⟩ := z
    exact ⟨p, xs, rfl, h1, z⟩)
end
theorem cut_all (xs : List V) : cutV xs none none = xs := by
  unfold cutV HT.sIx
  simp
end Rs

namespace Rs
open PySem PySem.Spec PyProof.Rows L2 He
/-! ### a module's tuple of texts -/
def KTup (K : PySem.W.Frag) (a : Addr) (xs : List Str) : Prop :=
  ∃ (o : Obj) (its : Array Value) (n : Nat), K.lookup a = some o ∧ o.cls = .type "tuple" ∧ o.data = .seq its n ∧ its.size ≤ sizeLine ∧ Vals (xs.map V.str) its.toList
theorem KTup.sq {K : PySem.W.Frag} {a : Addr} {xs : List Str} (h : KTup K a xs) (H : Hp) : SqT K H a (xs.map V.str) := .inr h
theorem strsAre_ok : ∀ {xs : List Str} {vs : List Value}, strsAre xs vs = true → Vals (xs.map V.str) vs
  | [], [], _ => .nil
  | x :: xs, v :: vs, h => by
    obtain ⟨h1, h2⟩ := ba h
    obtain ⟨f, t, rfl, e⟩ := isStr_ok h1
    exact .cons ⟨t, by rw [eq_of_beq e]⟩ (strsAre_ok h2)
  | [], _ :: _, h => nomatch h
  | _ :: _, [], h => nomatch h
theorem kTup_ok {K : PySem.W.Frag} {a : Addr} {xs : List Str} (h : kTupB K a xs = true) : KTup K a xs := by
  unfold kTupB at h
  cases q : K.lookup a with
  | none => rw [q] at h; cases h
  | some o =>
    rw [q] at h
    obtain ⟨h1, h2⟩ := ba h
    cases q2 : seqOf o.data with
    | none => rw [q2] at h2; cases h2
    | some i =>
      rw [q2] at h2
      obtain ⟨h3, h4⟩ := ba h2
      cases q3 : o.data with
      | seq i' n =>
        rw [q3] at q2
        cases q2
        exact ⟨o, i, n, q, of_decide_eq_true h1, q3, Nat.le_trans (of_decide_eq_true h3) (by decide), strsAre_ok h4⟩
      | _ => rw [q3] at q2; cases q2
/-! ### dicts with texts as keys -/
theorem not_src_dk {kvs : List (Key × V)} : ¬ Src (.dK kvs) := by
  rintro ⟨l, i, b, r, e, _⟩
  cases e
section
variable {X : Cx} {k : Nat} {E : L2.St → XK} {σ : L2.St} {H : Hp} {D : Ends} {Q : VK} {o i e value : Expr} {pos pos' p : Pos} {j : Nat} {x : Str}
theorem we_dget (B : Body X k E) (h : WE X o σ H fun v H1 => WE X i σ H1 fun y H2 => ∃ a kvs x v', v = .ref a ∧ y = .str x ∧ H2 a = some (.dK kvs) ∧ valV kvs (.inr x) = some v' ∧ Q v' H2) (hs : NoSl i := by intro _ _; rfl) : WE X (.Subscript o i pos) σ H Q :=
  weP (pe_dget (by have := B.room.un; omega) peS peS hs) (we_mono h fun v H1 z => we_mono z fun y H2 z => by
    obtain ⟨a, kvs, x, v', rfl, rfl, h1, h2, q⟩ := z
    exact ⟨a, v', rfl, by rw [← h2]; exact DGet.k (k := .inr x) h1, q⟩)
/-- o["x"] -/
theorem we_dgetS (B : Body X k E) (h : WE X o σ H fun v H1 => ∃ a kvs v', v = .ref a ∧ H1 a = some (.dK kvs) ∧ valV kvs (.inr x) = some v' ∧ Q v' H1) (hs : NoSl (.Constant (.str x) j p) := by intro _ _; rfl) : WE X (.Subscript o (.Constant (.str x) j p) pos) σ H Q :=
  we_dget B (we_mono h fun v H1 z => we_str (by
    obtain ⟨a, kvs, v', rfl, h1, h2, q⟩ := z
    exact ⟨a, kvs, x, v', rfl, rfl, h1, h2, q⟩)) hs
theorem ws_dput (B : Body X k E) (h : WE X value σ H fun v H1 => WE X o σ H1 fun z H2 => WE X i σ H2 fun y H3 => ∃ a kvs x, z = .ref a ∧ y = .str x ∧ H3 a = some (.dK kvs) ∧ kvs.length < sizeLine ∧ D.nx σ (upd H3 a (.dK (putK kvs (.inr x) v))))
    (hs : swapsWith value (some (.Subscript o i pos')) pos.line X.env = pure false := by rfl) : WS X (.Assign [.Subscript o i pos'] value pos) D σ H :=
  wsP (ps_dput (by have := B.room.un; omega) peS peS peS hs) (we_mono h fun v H1 z => we_mono z fun y H2 z => we_mono z fun w H3 z => by
    obtain ⟨a, kvs, x, rfl, rfl, h1, h2, q⟩ := z
    exact ⟨a, _, rfl, DPut.k (k := .inr x) h1 h2, q⟩)
theorem call_dictC {X : Cx} : CallR X (.type "dict") fun xs H Q => ∃ a kvs, xs = [.ref a] ∧ H a = some (.dK kvs) ∧ ∀ p, H p = none → Q (.ref p) (upd H p (.dK kvs)) := by
  intro pins s σ H xs us Q I r q
  obtain ⟨a, kvs, rfl, ea, q⟩ := q
  obtain ⟨u, rfl, ru⟩ := vals1 r
  cases ru
  exact d_copyOf I (.inl ea) fun p s' hp I' => ⟨.ref p, _, I', rfl, q p hp⟩
theorem we_dictC (bn : Bn X "dict") (h : WE X e σ H fun v H1 => ∃ a kvs, v = .ref a ∧ H1 a = some (.dK kvs) ∧ ∀ p, H1 p = none → Q (.ref p) (upd H1 p (.dK kvs))) (hs : starEach [e] X.env = [(false, eval e X.env)] := by rfl) (hl : (backTo pos (starEach [] X.env)).any (·.1) = false := by rfl) :
    WE X (.Call (.Name "dict" p) [e] [] pos) σ H Q := we_callT call_dictC bn (by rfl) (wa_one (we_mono h fun v H1 q => by
    obtain ⟨a, kvs, rfl, q⟩ := q
    exact ⟨a, kvs, rfl, q⟩) hs) (by decide) (by decide) hs hl
/-- in, not in of flat items -/
theorem o_inT {v : V} {a : Addr} {xs : List V} (h : SqT X.K H a xs) (hv : flatV v = true) (hx : xs.all flatV = true) (q : Q (.bl (inV v xs)) H) : Op2 X (compareOp .In) v (.ref a) H Q := op2_of op_in_seq ⟨a, xs, rfl, .inr h, hv, hx, q⟩
end
theorem o_isB {X : Cx} {H : Hp} {Q : VK} {a b : Bool} (q : Q (.bl (decide (a = b))) H) : Op2 X (compareOp .Is) (.bl a) (.bl b) H Q := op2_of op_isBl ⟨a, b, rfl, rfl, q⟩
/-! ### dicts as rows of keys and rows of values -/
section
variable {ks : List Key} {vs : List V} {k : Key} {v : V} {i : Nat}
theorem valV_zip (nd : ks.Nodup) (hk : ks[i]? = some k) (hv : vs[i]? = some v) : valV (ks.zip vs) k = some v := by
  induction ks generalizing vs i with
  | nil => cases hk
  | cons k0 ks ih =>
    cases vs with
    | nil => cases hv
    | cons v0 vs =>
      cases i with
      | zero =>
        cases hk
        cases hv
        exact valV_pos rfl
      | succ i =>
        have n0 := List.nodup_cons.mp nd
        have m : k ∈ ks := List.mem_of_getElem? hk
        show valV ((k0, v0) :: ks.zip vs) k = some v
        rw [valV_neg (fun e : k0 = k => n0.1 (e ▸ m))]
        exact ih n0.2 hk hv
theorem zip_keys {x : Key × V} (h : x ∈ ks.zip vs) : x.1 ∈ ks := (List.of_mem_zip h).1
theorem map_zip (nk : k ∉ ks) : (ks.zip vs).map (fun kv => if kv.1 = k then (kv.1, v) else kv) = ks.zip vs := by
  have e : ∀ kv ∈ ks.zip vs, (if kv.1 = k then (kv.1, v) else kv) = kv := fun kv h => if_neg fun q : kv.1 = k => nk (q ▸ zip_keys h)
  rw [List.map_congr_left e, List.map_id']
theorem putK_zip (nd : ks.Nodup) (l : ks.length = vs.length) (hk : ks[i]? = some k) : putK (ks.zip vs) k v = ks.zip (vs.set i v) := by
  have hi := (List.getElem?_eq_some_iff.mp hk).1
  have hs : ((ks.zip vs).any fun kv => decide (kv.1 = k)) = true := by
    rw [valV_any, valV_zip nd hk (List.getElem?_eq_getElem (show i < vs.length by omega))]
    rfl
  unfold putK
  rw [if_pos hs]
  clear hs hi
  induction ks generalizing vs i with
  | nil => cases hk
  | cons k0 ks ih =>
    cases vs with
    | nil => cases l
    | cons v0 vs =>
      have n0 := List.nodup_cons.mp nd
      cases i with
      | zero =>
        cases hk
        show (if k = k then (k, v) else (k, v0)) :: (ks.zip vs).map _ = (k, v) :: ks.zip vs
        rw [if_pos rfl, map_zip n0.1]
      | succ i =>
        have m : k ∈ ks := List.mem_of_getElem? hk
        show (if k0 = k then (k0, v) else (k0, v0)) :: (ks.zip vs).map _ = (k0, v0) :: ks.zip (vs.set i v)
        rw [if_neg (fun e : k0 = k => n0.1 (e ▸ m)), ih n0.2 (Nat.succ.inj l) hk]
theorem any_none {acc : List (Key × V)} (h : ∀ x ∈ acc, x.1 ≠ k) : (acc.any fun kv => decide (kv.1 = k)) = false := by
  rw [List.any_eq_false]
  exact fun x hx q => h x hx (of_decide_eq_true q)
theorem mergeK_new : ∀ (more acc : List (Key × V)), (more.map (·.1)).Nodup → (∀ x ∈ acc, ∀ y ∈ more, x.1 ≠ y.1) → mergeK acc more = acc ++ more
  | [], acc, _, _ => (List.append_nil acc).symm
  | kv :: more, acc, nd, dj => by
    have n0 := List.nodup_cons.mp nd
    show mergeK (putK acc kv.1 kv.2) more = acc ++ kv :: more
    have e : putK acc kv.1 kv.2 = acc ++ [kv] := by
      unfold putK
      rw [any_none fun x hx => dj x hx kv List.mem_cons_self, if_neg (by decide)]
    rw [e, mergeK_new more _ n0.2 ?_, List.append_assoc]
    · rfl
    · intro x hx y hy
      rcases List.mem_append.mp hx with h | h
      · exact dj x h y (List.mem_cons_of_mem _ hy)
      · rw [List.mem_singleton.mp h]
        exact fun q => n0.1 (List.mem_map.mpr ⟨y, hy, q.symm⟩)
theorem mergeK_zip (nd : ks.Nodup) (l : ks.length = vs.length) : mergeK [] (ks.zip vs) = ks.zip vs := by
  refine mergeK_new _ [] ?_ (fun x h => by cases h)
  rw [List.map_fst_zip (by omega)]
  exact nd
end
/-! ### a dict written out -/
def WP (X : Cx) (keys : List (Option Expr)) (values : List Expr) (σ : L2.St) (H : Hp) (Q : List (V × V) → Hp → Prop) : Prop := match keys, values with
  | [], [] => Q [] H
  | some k :: ks, v :: vs => WE X k σ H fun a H1 => WE X v σ H1 fun b H2 => WP X ks vs σ H2 fun ps H3 => Q ((a, b) :: ps) H3
  | _, _ => False
section
variable {X : Cx} {σ : L2.St}
theorem pps_wp (pos : Pos) : ∀ (keys : List (Option Expr)) (values : List Expr), keys.all (·.isSome) = true → keys.length = values.length → ∃ trs, PPs X pos keys values trs ∧ ∀ H Q, WP X keys values σ H Q → tPairs trs σ H Q
  | [], [], _, _ => ⟨[], pps_nil, fun H Q h => h⟩
  | some k :: ks, v :: vs, h, l => by
    obtain ⟨trs, p, q⟩ := pps_wp pos ks vs h (Nat.succ.inj l)
    exact ⟨_, pps_cons peS peS p, fun H Q h => we_mono h fun a H1 z => we_mono z fun b H2 z => q _ _ z⟩
  | none :: ks, v :: vs, h, _ => by cases h
  | [], _ :: _, _, l => by cases l
  | _ :: _, [], _, l => by cases l
theorem wp_cons {k v : Expr} {ks : List (Option Expr)} {vs : List Expr} {H : Hp} {Q : List (V × V) → Hp → Prop} (h : WE X k σ H fun a H1 => WE X v σ H1 fun b H2 => WP X ks vs σ H2 fun ps H3 => Q ((a, b) :: ps) H3) : WP X (some k :: ks) (v :: vs) σ H Q := h
theorem wp_nil {H : Hp} {Q : List (V × V) → Hp → Prop} (h : Q [] H) : WP X [] [] σ H Q := h
theorem we_disp {H : Hp} {Q : VK} {keys : List (Option Expr)} {values : List Expr} {pos : Pos} (h0 : keys ≠ [])
    (h : ∀ p, H p = none → WP X keys values σ (upd H p (.dK [])) fun ps H2 => H2 p = some (.dK []) ∧ ∃ kvs : List (Key × V), ps = kvs.map (fun kv => (kV kv.1, kv.2)) ∧ kvs.length ≤ 15 ∧ Q (.ref p) (upd H2 p (.dK (mergeK [] kvs)))) (hk : keys.length ≤ 15 := by decide)
    (hall : keys.all (·.isSome) = true := by rfl) (hl : keys.length = values.length := by rfl) : WE X (.Dict keys values pos) σ H Q := by
  obtain ⟨trs, p, q⟩ := pps_wp (X := X) (σ := σ) pos keys values hall hl
  exact weP (pe_disp p hall hl h0 hk) fun a ha => q _ _ (h a ha)
end
/-! ### isinstance(e, (A, B)) in a suite -/
section
variable {X : Cx} {a D : Addr} {oe : Obj} {pn : List (Addr × Obj)} {σ : L2.St} {H : Hp} {Q : VK} {e b : Expr} {p pos : Pos}
theorem call_isE2 (C : ExcC X.K D) (hz : Zc (.ref D) none oe) (hf : ∃ vs, oe.data = .fields vs) : CallR (X.suite a ((a, oe) :: pn)) (.builtin "isinstance") fun xs H Q => ∃ (t C1 C2 : Addr) (r : Bool), xs = [.ref a, .ref t] ∧ H t = some (.tup [.ref C1, .ref C2]) ∧ PySem.W.kitAny X.K (.ref D) [.ref C1, .ref C2] = some r ∧ Q (.bl r) H := by
  intro pins s σ H xs us Q I r h
  obtain ⟨t, C1, C2, r', rfl, ht, e, q⟩ := h
  cases r with
  | cons rx rr =>
    cases rr with
    | cons rt rr =>
      cases rr
      cases rx
      cases rt
      obtain ⟨hget, _⟩ := I.pin (a, oe) (List.mem_append.mpr (.inl List.mem_cons_self))
      obtain ⟨vs, hv⟩ := hf
      have J : PySem.W.InstAt s.heap a oe D none := by
        obtain ⟨oc, od, oda, osl⟩ := oe
        obtain ⟨h1, h2⟩ := hz
        dsimp only at h1 h2 hv
        subst h1 h2 hv
        exact ⟨hget, rfl, rfl, trivial⟩
      obtain ⟨its, rv, ⟨o, ho, hc, n, hd⟩, _⟩ := I.tuple (.of ht : SqT X.K H t [.ref C1, .ref C2])
      have ev : its = [Value.ref C1, Value.ref C2] := by
        cases rv with
        | cons r1 rv =>
          cases rv with
          | cons r2 rv =>
            cases rv
            cases r1
            cases r2
            rfl
      obtain ⟨oc, od, oda, osl⟩ := o
      dsimp only at hc hd
      subst hc hd ev
      exact PySem.W.kia_tup (its := [.ref C1, .ref C2]) (PySem.W.handS_kitx_exc C.hg C.hk C.hs C.hd C.ha C.hn C.ht C.hm) I.kIn J ho e (fun z => nomatch z) fun tk => ⟨.bl r', H, I.kept (t' := tk) fun _ _ z => z, rfl, q⟩
theorem we_isE2 (C : ExcC X.K D) (hz : L2N.Zn (.ref D) none oe) (hf : ∃ vs, oe.data = .fields vs) (bn : Bn (X.suite a ((a, oe) :: pn)) "isinstance")
    (h : WE (X.suite a ((a, oe) :: pn)) e σ H fun v H1 => WE (X.suite a ((a, oe) :: pn)) b σ H1 fun w H2 => v = .ref a ∧ ∃ (t C1 C2 : Addr) (r : Bool), w = .ref t ∧ H2 t = some (.tup [.ref C1, .ref C2]) ∧ PySem.W.kitAny X.K (.ref D) [.ref C1, .ref C2] = some r ∧ Q (.bl r) H2)
    (hs : starEach [e, b] X.env = (false, eval e X.env) :: starEach [b] X.env := by rfl) (ht : starEach [b] X.env = [(false, eval b X.env)] := by rfl) (hl : (backTo pos (starEach [b] X.env)).any (·.1) = false := by rfl) :
    WE (X.suite a ((a, oe) :: pn)) (.Call (.Name "isinstance" p) [e, b] [] pos) σ H Q :=
  we_callB (call_isE2 (pn := pn) C hz.zc hf) bn boot_isinstance (wa_two (we_mono h fun v H1 q => we_mono q fun w H2 q => by
    obtain ⟨rfl, t, C1, C2, r, rfl, h1, h2, q⟩ := q
    exact ⟨t, C1, C2, r, rfl, h1, h2, q⟩) hs ht) (by decide) (by decide) hs hl
theorem kitAny2 {K : PySem.W.Frag} {C1 C2 : Value} (h1 : PySem.W.kitOne K (.ref D) C1 = some false) (h2 : PySem.W.kitOne K (.ref D) C2 = some false) : PySem.W.kitAny K (.ref D) [C1, C2] = some false := by
  unfold PySem.W.kitAny
  rw [h1]
  unfold PySem.W.kitAny
  rw [h2]
  rfl
end
end Rs

namespace Mt
/-- |q| -/
def rabs (q : Rat) : Rat := Rat.divInt (if q.num < 0 then -q.num else q.num) q.den
theorem cross {a b : Int} (hb : b ≠ 0) : (Rat.divInt a b).num * b = a * (Rat.divInt a b).den := by
  have h := Rat.num_divInt_den (Rat.divInt a b)
  exact (Rat.divInt_eq_divInt_iff (den_ne _) hb).mp h
theorem rabs_div {a b : Int} (hb : b ≠ 0) : rabs (Rat.divInt a b) = Rat.divInt (if (decide (a < 0) != decide (b < 0)) = true then -a else a) b := by
  have hq := Rat.num_divInt_den (Rat.divInt a b)
  have hc := cross (a := a) hb
  have hD := den_pos (Rat.divInt a b)
  generalize hn : (Rat.divInt a b).num = n at hc hq
  generalize hd : ((Rat.divInt a b).den : Int) = D at hc hq hD
  have nega : -Rat.divInt a b = Rat.divInt (-a) b := Rat.neg_divInt a b
  unfold rabs
  rw [hn, hd]
  by_cases h0 : n < 0
  · rw [if_pos h0, ← Rat.neg_divInt, hq, nega]
    rcases Int.lt_or_gt_of_ne hb with hb' | hb'
    · have h1 : 0 < n * b := Int.mul_pos_of_neg_of_neg h0 hb'
      rw [hc] at h1
      have ha : 0 < a := Int.pos_of_mul_pos_left h1 hD
      rw [decide_eq_false (by omega : ¬ a < 0), decide_eq_true hb']; rfl
    · have h1 : n * b < 0 := Int.mul_neg_of_neg_of_pos h0 hb'
      rw [hc] at h1
      have ha : a < 0 := Int.neg_of_mul_neg_left h1 hD
      rw [decide_eq_true ha, decide_eq_false (by omega : ¬ b < 0)]; rfl
  · rw [if_neg h0, hq]
    rcases Int.lt_or_gt_of_ne hb with hb' | hb'
    · have h1 : n * b ≤ 0 := Int.mul_nonpos_of_nonneg_of_nonpos (by omega) (by omega)
      rw [hc] at h1
      have ha : a ≤ 0 := by
        refine Int.not_lt.mp fun z => ?_
        have := Int.mul_pos z hD
        omega
      by_cases z : a < 0
      · rw [decide_eq_true z, decide_eq_true hb', if_neg (by decide)]
      · rw [show a = 0 by omega]
        split <;> rfl
    · have h1 : 0 ≤ n * b := Int.mul_nonneg (by omega) (by omega)
      rw [hc] at h1
      have ha : 0 ≤ a := by
        refine Int.not_lt.mp fun z => ?_
        have := Int.mul_neg_of_neg_of_pos z hD
        omega
      rw [decide_eq_false (by omega : ¬ a < 0), decide_eq_false (by omega : ¬ b < 0), if_neg (by decide)]
end Mt

namespace Mt
/-- -1, 0, 1 as q is below, at, above r -/
def sg (q r : Rat) : Int := if q = r then 0 else if q < r then -1 else 1
theorem sg_neg (q r : Rat) : -sg q r = sg r q := by
  unfold sg
  by_cases h : q = r
  · subst h
    rw [if_pos rfl]; rfl
  · have h' : ¬ r = q := fun e => h e.symm
    by_cases l : q < r
    · have l' : ¬ r < q := fun l2 => absurd (Rat.le_of_lt l2) (Rat.not_le.mpr l)
      simp only [h, h', l, l', if_true, if_false]; rfl
    · have l' : r < q := Rat.not_le.mp fun l2 => l (Rat.lt_of_le_of_ne l2 h)
      simp only [h, h', l, l', if_true, if_false]
theorem sg_lt (q r : Rat) : decide (q < r) = decide (sg q r < 0) := by
  unfold sg
  by_cases h : q = r
  · subst h
    rw [if_pos rfl, decide_eq_false Rat.lt_irrefl]; rfl
  · rw [if_neg h]
    by_cases l : q < r
    · rw [if_pos l, decide_eq_true l]; rfl
    · rw [if_neg l, decide_eq_false l]; rfl
theorem sg_eq (q r : Rat) : decide (q = r) = decide (sg q r = 0) := by
  unfold sg
  by_cases h : q = r
  · rw [if_pos h, decide_eq_true h]; rfl
  · rw [if_neg h, decide_eq_false h]
    by_cases l : q < r
    · rw [if_pos l]; rfl
    · rw [if_neg l]; rfl
theorem sg_eq2 (q r : Rat) : decide (r = q) = decide (sg q r = 0) := by
  rw [← sg_eq]
  congr 1
  exact propext eq_comm
theorem sg_le (q r : Rat) : decide (q ≤ r) = decide (sg q r ≤ 0) := by
  unfold sg
  by_cases h : q = r
  · subst h
    rw [if_pos rfl, decide_eq_true Rat.le_refl]; rfl
  · rw [if_neg h]
    by_cases l : q < r
    · rw [if_pos l, decide_eq_true (Rat.le_of_lt l)]; rfl
    · rw [if_neg l, decide_eq_false fun l2 => l (Rat.lt_of_le_of_ne l2 h)]; rfl
theorem sg_gt (q r : Rat) : decide (r < q) = decide (0 < sg q r) := by
  rw [sg_lt r q, ← sg_neg q r]
  congr 1
  exact propext ⟨fun h => by omega, fun h => by omega⟩
theorem sg_ge (q r : Rat) : decide (r ≤ q) = decide (0 ≤ sg q r) := by
  rw [sg_le r q, ← sg_neg q r]
  congr 1
  exact propext ⟨fun h => by omega, fun h => by omega⟩
theorem sq_pos {x : Int} (h : x ≠ 0) : 0 < x * x := by
  rcases Int.lt_or_gt_of_ne h with l | l
  · exact Int.mul_pos_of_neg_of_neg l l
  · exact Int.mul_pos l l
/-- the two sides of _law_sign, scaled -/
theorem side {a b d D G n : Int} (h : n * b = a * D) : a * b * d * d * (D * G) = n * G * (b * b * (d * d)) := by
  have : a * b * d * d * (D * G) = (a * D) * b * d * d * G := by grind
  rw [this, ← h]
  grind
theorem sgn_lt {a b c d : Int} (hb : b ≠ 0) (hd : d ≠ 0) : (a * b * d * d < c * d * b * b) ↔ Rat.divInt a b < Rat.divInt c d := by
  have h1 := side (d := d) (G := ((Rat.divInt c d).den : Int)) (cross (a := a) hb)
  have h2 := side (d := b) (G := ((Rat.divInt a b).den : Int)) (cross (a := c) hd)
  have hk : 0 < b * b * (d * d) := Int.mul_pos (sq_pos hb) (sq_pos hd)
  have hD := Int.mul_pos (den_pos (Rat.divInt a b)) (den_pos (Rat.divInt c d))
  rw [Rat.lt_iff]
  have e1 := Int.mul_lt_mul_right (b := (Rat.divInt a b).num * (Rat.divInt c d).den) (c := (Rat.divInt c d).num * (Rat.divInt a b).den) hk
  have e2 := Int.mul_lt_mul_right (b := a * b * d * d) (c := c * d * b * b) hD
  rw [← e1, ← e2, h1, Int.mul_comm ((Rat.divInt a b).den : Int), h2, Int.mul_comm (b * b) (d * d)]
theorem sgn_eq {a b c d : Int} (hb : b ≠ 0) (hd : d ≠ 0) : (a * b * d * d = c * d * b * b) ↔ Rat.divInt a b = Rat.divInt c d := by
  have l1 := sgn_lt (a := a) (c := c) hb hd
  have l2 := sgn_lt (a := c) (c := a) hd hb
  constructor
  · intro h
    have n1 := mt l1.mpr (by omega)
    have n2 := mt l2.mpr (by omega)
    exact Rat.le_antisymm (Rat.not_lt.mp n2) (Rat.not_lt.mp n1)
  · intro h
    have n1 := mt l1.mp (by rw [h]; exact Rat.lt_irrefl)
    have n2 := mt l2.mp (by rw [h]; exact Rat.lt_irrefl)
    omega
theorem fdiv_le {a b : Int} (hb : b ≠ 0) : (a.fdiv b).natAbs ≤ a.natAbs := by
  rcases Int.lt_or_gt_of_ne hb with l | l
  · rw [← Int.neg_fdiv_neg, Int.fdiv_eq_ediv_of_nonneg _ (by omega)]
    refine Nat.le_trans (Int.natAbs_ediv_le_natAbs _ _) ?_
    rw [Int.natAbs_neg]
    exact Nat.le_refl _
  · rw [Int.fdiv_eq_ediv_of_nonneg _ (by omega)]
    exact Int.natAbs_ediv_le_natAbs _ _
end Mt

namespace Mt
/-- at least 1 -/
def m1 (b : Int) : Nat := if b.natAbs = 0 then 1 else b.natAbs
theorem m1_pos (b : Int) : 1 ≤ m1 b := by unfold m1; split <;> omega
theorem m1_le (b : Int) : b.natAbs ≤ m1 b := by unfold m1; split <;> omega
theorem powB {b : Int} {r n M : Nat} (h : m1 b ^ n < 2 ^ M) (l : r ≤ n) : (b ^ r).natAbs < 2 ^ M := by
  rw [Int.natAbs_pow]
  exact Nat.lt_of_le_of_lt (Nat.le_trans (Nat.pow_le_pow_left (m1_le b) r) (Nat.pow_le_pow_right (m1_pos b) l)) h
theorem powm {m k n M : Nat} (h : m < 2 ^ k) (l : k * n ≤ M) (hn : 0 < n) : m ^ n < 2 ^ M := by
  refine Nat.lt_of_lt_of_le (Nat.pow_lt_pow_left h (by omega)) ?_
  rw [← Nat.pow_mul]
  exact Nat.pow_le_pow_right (by decide) l
/-- q to the n -/
def qpow (q : Rat) (n : Nat) : Rat := Rat.divInt (q.num ^ n) ((q.den : Int) ^ n)
theorem pow_ne {b : Int} (h : b ≠ 0) (n : Nat) : b ^ n ≠ 0 := Int.pow_ne_zero h
theorem qpow_div {a b : Int} (hb : b ≠ 0) (n : Nat) : qpow (Rat.divInt a b) n = Rat.divInt (a ^ n) (b ^ n) := by
  unfold qpow
  rw [Rat.divInt_eq_divInt_iff (pow_ne (den_ne _) n) (pow_ne hb n), ← Int.mul_pow, ← Int.mul_pow, cross hb]
theorem qpow_add (q : Rat) (m n : Nat) : qpow q (m + n) = qpow q m * qpow q n := by
  unfold qpow
  rw [Rat.divInt_mul_divInt, ← Int.pow_add, ← Int.pow_add]
theorem cop_pow (q : Rat) (n : Nat) : Int.gcd (q.num ^ n) ((q.den : Int) ^ n) = 1 := by
  show Nat.gcd (q.num ^ n).natAbs ((q.den : Int) ^ n).natAbs = 1
  rw [Int.natAbs_pow, Int.natAbs_pow, Int.natAbs_natCast]
  exact Nat.Coprime.pow n n q.reduced
theorem g1_pow (q : Rat) (n : Nat) : g1 (q.num ^ n) ((q.den : Int) ^ n) = 1 := by
  unfold g1
  rw [cop_pow]
  rfl
theorem qpow_num (q : Rat) (n : Nat) : (qpow q n).num = q.num ^ n := by
  have hd : (q.den : Int) ^ n > 0 := Int.pow_pos (den_pos q)
  unfold qpow
  rw [Rat.num_divInt, Int.gcd_comm, cop_pow, Int.sign_eq_one_of_pos hd, Int.one_mul]
  exact Int.ediv_one _
theorem qpow_den (q : Rat) (n : Nat) : ((qpow q n).den : Int) = (q.den : Int) ^ n := by
  have hd : (q.den : Int) ^ n > 0 := Int.pow_pos (den_pos q)
  unfold qpow
  rw [Rat.den_divInt, if_neg (by omega), Int.gcd_comm, cop_pow, Nat.div_one, Int.natAbs_of_nonneg (by omega)]
theorem step_odd {r e c n : Nat} (h : r + e * c = n) (o : c % 2 = 1) : (r + e) + (e + e) * (c / 2) = n := by
  have hc : c = 2 * (c / 2) + 1 := by omega
  generalize c / 2 = h2 at hc
  subst hc
  rw [← h, Nat.add_mul, Nat.mul_add, Nat.mul_one, Nat.two_mul, Nat.mul_add]
  omega
theorem step_even {r e c n : Nat} (h : r + e * c = n) (o : c % 2 = 0) : r + (e + e) * (c / 2) = n := by
  have hc : c = 2 * (c / 2) := by omega
  generalize c / 2 = h2 at hc
  subst hc
  rw [← h, Nat.add_mul, Nat.two_mul, Nat.mul_add]
theorem le_n {r e c n : Nat} (h : r + e * c = n) (hc : 0 < c) : e ≤ n ∧ r ≤ n ∧ r + e ≤ n := by
  have : e * 1 ≤ e * c := Nat.mul_le_mul_left e hc
  omega
end Mt

namespace Mt
def ov (q r : Rat) : Rat := Rat.divInt (q.num * r.den) (q.den * r.num)
def fl (q r : Rat) : Int := (q.num * r.den).fdiv (q.den * r.num)
theorem scale {a b : Int} (hb : b ≠ 0) : ∃ g : Int, g ≠ 0 ∧ a = (Rat.divInt a b).num * g ∧ b = (Rat.divInt a b).den * g := Rat.divInt_num_den (n' := (Rat.divInt a b).num) (d' := (Rat.divInt a b).den) (z' := (Rat.divInt a b).den_nz) (c := (Rat.divInt a b).reduced) hb rfl
theorem fdiv_scale {x y k : Int} (hk : k ≠ 0) : (x * k).fdiv (y * k) = x.fdiv y := by
  have pos : ∀ {x y k : Int}, 0 < k → (x * k).fdiv (y * k) = x.fdiv y := fun {x y k} h => by
    rw [Int.mul_comm x, Int.mul_comm y]
    exact Int.mul_fdiv_mul_of_pos x y h
  rcases Int.lt_or_gt_of_ne hk with l | l
  · rw [← Int.neg_fdiv_neg, Int.neg_mul_eq_mul_neg, Int.neg_mul_eq_mul_neg]
    exact pos (by omega)
  · exact pos l
theorem four (n g G h : Int) : n * g * (G * h) = n * G * (g * h) := by grind
theorem fl_div {a b c d : Int} (hb : b ≠ 0) (hd : d ≠ 0) : fl (Rat.divInt a b) (Rat.divInt c d) = (a * d).fdiv (b * c) := by
  obtain ⟨g, g0, e1, e2⟩ := scale (a := a) hb
  obtain ⟨h, h0, e3, e4⟩ := scale (a := c) hd
  generalize hq : Rat.divInt a b = q at *
  generalize hr : Rat.divInt c d = r at *
  unfold fl
  rw [e1, e2, e3, e4, four q.num g r.den h, four q.den g r.num h, fdiv_scale (Int.mul_ne_zero g0 h0)]
theorem ov_div {a b c d : Int} (hb : b ≠ 0) (hd : d ≠ 0) : ov (Rat.divInt a b) (Rat.divInt c d) = Rat.divInt (a * d) (b * c) := by
  obtain ⟨g, g0, e1, e2⟩ := scale (a := a) hb
  obtain ⟨h, h0, e3, e4⟩ := scale (a := c) hd
  generalize hq : Rat.divInt a b = q at *
  generalize hr : Rat.divInt c d = r at *
  unfold ov
  rw [e1, e2, e3, e4, four q.num g r.den h, four q.den g r.num h, Rat.divInt_mul_right (Int.mul_ne_zero g0 h0)]
theorem num_zero {c d : Int} (hd : d ≠ 0) : (Rat.divInt c d).num = 0 ↔ c = 0 := by
  obtain ⟨h, h0, e3, e4⟩ := scale (a := c) hd
  constructor
  · intro z
    rw [e3, z, Int.zero_mul]
  · intro z
    rw [z] at e3 ⊢
    rcases Int.mul_eq_zero.mp e3.symm with y | y
    · exact y
    · exact absurd y h0
theorem fl_le {q r : Rat} (h : r.num ≠ 0) : (fl q r).natAbs ≤ (q.num * r.den).natAbs := fdiv_le (Int.mul_ne_zero (den_ne q) h)
end Mt

namespace Mt
theorem Sz.mul {q r : Rat} {n m : Nat} (h : Sz q n) (h' : Sz r m) : Sz (q * r) (n + m) := by
  rw [← mul_eq]
  refine Sz.div (Int.mul_ne_zero (den_ne q) (den_ne r)) (mulB h.num h'.num) ?_
  rw [Int.natAbs_mul, Int.natAbs_natCast, Int.natAbs_natCast]
  exact pow_add' h.den h'.den
theorem Sz.sub {q r : Rat} {n m : Nat} (h : Sz q n) (h' : Sz r m) : Sz (q - r) (n + m + 1) := by
  rw [← sub_eq]
  refine Sz.div (Int.mul_ne_zero (den_ne q) (den_ne r)) (subB (mulB h.num (by rw [Int.natAbs_natCast]; exact h'.den)) ?_) ?_
  · rw [Nat.add_comm]
    exact mulB h'.num (by rw [Int.natAbs_natCast]; exact h.den)
  · rw [Int.natAbs_mul, Int.natAbs_natCast, Int.natAbs_natCast]
    exact Nat.lt_of_lt_of_le (pow_add' h.den h'.den) (Nat.pow_le_pow_right (by decide) (by omega))
theorem Sz.add {q r : Rat} {n m : Nat} (h : Sz q n) (h' : Sz r m) : Sz (q + r) (n + m + 1) := by
  rw [← add_eq]
  refine Sz.div (Int.mul_ne_zero (den_ne q) (den_ne r)) (addB (mulB h.num (by rw [Int.natAbs_natCast]; exact h'.den)) ?_) ?_
  · rw [Nat.add_comm]
    exact mulB h'.num (by rw [Int.natAbs_natCast]; exact h.den)
  · rw [Int.natAbs_mul, Int.natAbs_natCast, Int.natAbs_natCast]
    exact Nat.lt_of_lt_of_le (pow_add' h.den h'.den) (Nat.pow_le_pow_right (by decide) (by omega))
theorem back_again (q r : Rat) : q - r + r = q := Rat.sub_add_cancel
theorem part_times {a b c d : Int} (hb : b ≠ 0) (hc : c ≠ 0) (hd : d ≠ 0) : ov (Rat.divInt a b) (Rat.divInt c d) * Rat.divInt c d = Rat.divInt a b := by
  rw [ov_div hb hd, Rat.divInt_mul_divInt, Rat.divInt_eq_divInt_iff (Int.mul_ne_zero (Int.mul_ne_zero hb hc) hd) hb]
  grind
end Mt

namespace Mt
/-! a round, sending by sending, over any numbers -/
section
variable {α : Type} [Add α] [LT α] [DecidableRel (LT.lt (α := α))]
/-- the wait of sending k, its time -/
def wtk (w : α) (d : Bool) : Nat → α
  | 0 => w
  | k + 1 => if d = true then wtk w d k + wtk w d k else wtk w d k
def stk (z w : α) (d : Bool) : Nat → α
  | 0 => z
  | k + 1 => stk z w d k + wtk w d k
/-- the delay of sending k -/
def dlk (ds : List (Option α)) (k : Nat) : Option α := if k < ds.length then (ds[k]?).getD none else (ds[ds.length - 1]?).getD none
structure RS (α : Type) where
  nd : Nat
  an : Nat
  ans : Option α
  dly : Option α
def rstep (r : RS α) (k : Nat) (s : α) (o : Option α) : RS α :=
  let n := match r.ans with
    | none => r.nd
    | some _ => r.nd + 1
  match o with
  | none => ⟨n, r.an, r.ans, r.dly⟩
  | some x => match r.ans with
    | none => ⟨n, k, some (s + x), some x⟩
    | some a => if s + x < a then ⟨n, k, some (s + x), some x⟩ else ⟨n, r.an, r.ans, r.dly⟩
def rsk (z w : α) (d : Bool) (ds : List (Option α)) : Nat → RS α
  | 0 => ⟨0, 0, none, none⟩
  | k + 1 => rstep (rsk z w d ds k) k (stk z w d k) (dlk ds k)
/-- an answer is awaited at sending k -/
def Gng (z w : α) (d : Bool) (ds : List (Option α)) (k : Nat) : Prop := match (rsk z w d ds k).ans with
  | none => True
  | some a => stk z w d k < a
/-- the wait of the last one of k sendings -/
def lwk (w : α) (d : Bool) : Nat → α
  | 0 => w
  | k + 1 => wtk w d k
end
section
variable {α β : Type} [Add α] [LT α] [DecidableRel (LT.lt (α := α))] [Add β] [LT β] [DecidableRel (LT.lt (α := β))]
def RS.map (f : α → β) (r : RS α) : RS β := ⟨r.nd, r.an, r.ans.map f, r.dly.map f⟩
variable {f : α → β} (ha : ∀ a b, f (a + b) = f a + f b) (hl : ∀ a b, f a < f b ↔ a < b) {z w : α} {d : Bool} {ds : List (Option α)}
include ha in
theorem wtk_map (k : Nat) : wtk (f w) d k = f (wtk w d k) := by
  induction k with
  | zero => rfl
  | succ k ih =>
    unfold wtk
    rw [ih]
    split
    · rw [ha]
    · rfl
include ha in
theorem stk_map (k : Nat) : stk (f z) (f w) d k = f (stk z w d k) := by
  induction k with
  | zero => rfl
  | succ k ih =>
    unfold stk
    rw [ih, wtk_map ha, ha]
include ha in
theorem lwk_map (k : Nat) : lwk (f w) d k = f (lwk w d k) := by
  cases k with
  | zero => rfl
  | succ k => exact wtk_map ha k
theorem dlk_map (k : Nat) : dlk (ds.map (Option.map f)) k = (dlk ds k).map f := by
  unfold dlk
  rw [List.length_map, List.getElem?_map, List.getElem?_map]
  split
  · cases ds[k]? with
    | none => rfl
    | some o => rfl
  · cases ds[ds.length - 1]? with
    | none => rfl
    | some o => rfl
include ha hl in
theorem rstep_map (r : RS α) (k : Nat) (s : α) (o : Option α) : rstep (r.map f) k (f s) (o.map f) = (rstep r k s o).map f := by
  obtain ⟨nd, an, ans, dly⟩ := r
  cases o with
  | none => cases ans <;> rfl
  | some x =>
    cases ans with
    | none =>
      show (⟨nd, k, some (f s + f x), some (f x)⟩ : RS β) = ⟨nd, k, some (f (s + x)), some (f x)⟩
      rw [ha]
    | some a =>
      show (if f s + f x < f a then (⟨nd + 1, k, some (f s + f x), some (f x)⟩ : RS β) else ⟨nd + 1, an, some (f a), dly.map f⟩) = RS.map f (if s + x < a then ⟨nd + 1, k, some (s + x), some x⟩ else ⟨nd + 1, an, some a, dly⟩)
      rw [← ha]
      by_cases h : s + x < a
      · rw [if_pos h, if_pos ((hl _ _).mpr h)]
        rfl
      · rw [if_neg h, if_neg (fun q => h ((hl _ _).mp q))]
        rfl
include ha hl in
theorem rsk_map (k : Nat) : rsk (f z) (f w) d (ds.map (Option.map f)) k = (rsk z w d ds k).map f := by
  induction k with
  | zero => rfl
  | succ k ih =>
    unfold rsk
    rw [ih, stk_map ha, dlk_map, rstep_map ha hl]
include ha hl in
theorem gng_map (k : Nat) : Gng (f z) (f w) d (ds.map (Option.map f)) k ↔ Gng z w d ds k := by
  unfold Gng
  rw [rsk_map ha hl, stk_map ha]
  cases h : (rsk z w d ds k).ans with
  | none =>
    have : ((rsk z w d ds k).map f).ans = none := by unfold RS.map; rw [h]; rfl
    rw [this]
  | some a =>
    have : ((rsk z w d ds k).map f).ans = some (f a) := by unfold RS.map; rw [h]; rfl
    rw [this]
    exact hl _ _
end
/-! whole numbers over a bottom -/
def sc (L : Nat) (i : Int) : Rat := Rat.divInt i L
theorem sc_add {L : Nat} (h : L ≠ 0) (a b : Int) : sc L (a + b) = sc L a + sc L b := by
  unfold sc
  rw [Rat.divInt_add_divInt _ _ (by omega) (by omega), ← Int.add_mul, Rat.divInt_mul_right (by omega)]
theorem sc_lt {L : Nat} (h : L ≠ 0) (a b : Int) : sc L a < sc L b ↔ a < b := by
  unfold sc
  have hp : (0 : Int) < L := by omega
  rw [← sgn_lt (by omega) (by omega), Int.mul_lt_mul_right hp, Int.mul_lt_mul_right hp, Int.mul_lt_mul_right hp]
theorem sc_zero (L : Nat) : sc L 0 = 0 := by
  unfold sc
  exact Rat.zero_divInt _
theorem sc_pos {L : Nat} (h : L ≠ 0) {a : Int} : 0 < sc L a ↔ 0 < a := by rw [← sc_zero L, sc_lt h]
end Mt

namespace Mt
theorem least {P : Nat → Prop} : ∀ n, P n → ∃ N, N ≤ n ∧ P N ∧ ∀ j, j < N → ¬ P j := by
  intro n
  induction n using Nat.strongRecOn with
  | ind n ih =>
    intro h
    by_cases q : ∃ j, j < n ∧ P j
    · obtain ⟨j, hj, pj⟩ := q
      obtain ⟨N, h1, h2, h3⟩ := ih j hj pj
      exact ⟨N, by omega, h2, h3⟩
    · exact ⟨n, Nat.le_refl n, h, fun j hj pj => q ⟨j, hj, pj⟩⟩
section
variable {W : Int} {d : Bool} {ds : List (Option Int)}
theorem wtk_ge (h : 0 ≤ W) (k : Nat) : W ≤ wtk W d k := by
  induction k with
  | zero => exact Int.le_refl _
  | succ k ih =>
    unfold wtk
    split <;> omega
theorem wtk_le (h : 0 ≤ W) (k : Nat) : wtk W d k ≤ W * 2 ^ k := by
  induction k with
  | zero => show W ≤ W * 2 ^ 0; omega
  | succ k ih =>
    have e : W * 2 ^ (k + 1) = W * 2 ^ k + W * 2 ^ k := by rw [Int.pow_succ]; grind
    have g := wtk_ge (d := d) h k
    rw [e]
    unfold wtk
    split <;> omega
theorem stk_le (h : 0 ≤ W) (k : Nat) : stk 0 W d k ≤ W * 2 ^ k := by
  induction k with
  | zero => show 0 ≤ W * 2 ^ 0; omega
  | succ k ih =>
    have e : W * 2 ^ (k + 1) = W * 2 ^ k + W * 2 ^ k := by rw [Int.pow_succ]; grind
    have g := wtk_le (d := d) h k
    rw [e]
    unfold stk
    omega
theorem stk_nn (h : 0 ≤ W) (k : Nat) : 0 ≤ stk 0 W d k := by
  induction k with
  | zero => exact Int.le_refl _
  | succ k ih =>
    have g := wtk_ge (d := d) h k
    unfold stk
    omega
theorem stk_far (h : 0 ≤ W) (k j : Nat) : stk 0 W d k + j * W ≤ stk 0 W d (k + j) := by
  induction j with
  | zero => simp
  | succ j ih =>
    have g := wtk_ge (d := d) h (k + j)
    have e : ((j + 1 : Nat) : Int) * W = j * W + W := by
      rw [show ((j + 1 : Nat) : Int) = (j : Int) + 1 by omega, Int.add_mul, Int.one_mul]
    show _ ≤ stk 0 W d (k + j) + wtk W d (k + j)
    omega
/-- the answer that stands is at most B -/
def Below (r : RS Int) (B : Int) : Prop := ∃ a, r.ans = some a ∧ a ≤ B
theorem below_step {r : RS Int} {B s : Int} {k : Nat} {o : Option Int} (h : Below r B) : Below (rstep r k s o) B := by
  obtain ⟨nd, an, ans, dly⟩ := r
  obtain ⟨a, e, l⟩ := h
  cases e
  cases o with
  | none => exact ⟨a, rfl, l⟩
  | some x =>
    show Below (if s + x < a then (⟨nd + 1, k, some (s + x), some x⟩ : RS Int) else ⟨nd + 1, an, some a, dly⟩) B
    split
    · exact ⟨s + x, rfl, by omega⟩
    · exact ⟨a, rfl, l⟩
theorem below_new {r : RS Int} {s x : Int} {k : Nat} : Below (rstep r k s (some x)) (s + x) := by
  obtain ⟨nd, an, ans, dly⟩ := r
  cases ans with
  | none => exact ⟨s + x, rfl, Int.le_refl _⟩
  | some a =>
    show Below (if s + x < a then (⟨nd + 1, k, some (s + x), some x⟩ : RS Int) else ⟨nd + 1, an, some a, dly⟩) (s + x)
    split
    · exact ⟨s + x, rfl, Int.le_refl _⟩
    · exact ⟨a, rfl, by omega⟩
/-- the delays of a law's round -/
structure DOk (W : Int) (ds : List (Option Int)) : Prop where
  n0 : 0 < ds.length
  n6 : ds.length ≤ 6
  all : ∀ (j : Nat) (x : Int), (ds[j]?).getD none = some x → 1 ≤ x ∧ x ≤ 9 * W
  last : ∃ x, (ds[ds.length - 1]?).getD none = some x
theorem DOk.dl (h : DOk W ds) {k : Nat} {x : Int} (e : dlk ds k = some x) : 1 ≤ x ∧ x ≤ 9 * W := by
  unfold dlk at e
  split at e <;> exact h.all _ _ e
theorem stops (hW : 1 ≤ W) (h : DOk W ds) : ∃ N, 0 < N ∧ N ≤ 14 ∧ ¬ Gng 0 W d ds N ∧ ∀ j, j < N → Gng 0 W d ds j := by
  obtain ⟨x, ex⟩ := h.last
  obtain ⟨n, en⟩ : ∃ n, ds.length = n + 1 := ⟨ds.length - 1, by have := h.n0; omega⟩
  have n6 := h.n6
  have ed : dlk ds n = some x := by
    unfold dlk
    rw [if_pos (by omega)]
    rw [en] at ex
    exact ex
  have hx := h.dl ed
  have b0 : Below (rsk 0 W d ds (n + 1)) (stk 0 W d n + x) := by
    show Below (rstep _ n _ (dlk ds n)) _
    rw [ed]
    exact below_new
  have bk : ∀ j, Below (rsk 0 W d ds (n + 1 + j)) (stk 0 W d n + x) := fun j => by
    induction j with
    | zero => exact b0
    | succ j ih => exact below_step ih
  have far := stk_far (W := W) (d := d) (by omega) n 9
  have st : ¬ Gng 0 W d ds (n + 9) := by
    obtain ⟨a, ea, la⟩ := bk 8
    rw [show n + 1 + 8 = n + 9 by omega] at ea
    unfold Gng
    rw [ea]
    show ¬ stk 0 W d (n + 9) < a
    omega
  obtain ⟨N, h1, h2, h3⟩ := least (P := fun k => ¬ Gng 0 W d ds k) (n + 9) st
  refine ⟨N, ?_, by omega, h2, fun j hj => Classical.byContradiction (h3 j hj)⟩
  rcases Nat.eq_zero_or_pos N with e | e
  · subst e
    exact absurd trivial h2
  · exact e
end
theorem sc_sz {L : Nat} {i : Int} {m : Nat} (h : L ≠ 0) (hi : i.natAbs < 2 ^ m) (hL : L < 2 ^ m) : Sz (sc L i) m := Sz.div (by omega) hi (by omega)
end Mt

namespace Mt
section
variable {u : Rat} {d : Bool} {ds : List (Option Rat)}
/-- what stands behind k sendings -/
def Rin (u : Rat) (d : Bool) (ds : List (Option Rat)) (k : Nat) (r : RS Rat) : Prop := match r.ans with
  | none => (∀ j, j < k → dlk ds j = none) ∧ r.nd = 0
  | some a => r.an < k ∧ (∃ y, dlk ds r.an = some y ∧ r.dly = some y ∧ stk 0 u d r.an + y = a) ∧
    (∀ j, j < k → ∀ x, dlk ds j = some x → a ≤ stk 0 u d j + x ∧ (stk 0 u d j + x = a → r.an ≤ j)) ∧ ∃ h, h < k ∧ dlk ds h ≠ none ∧ (∀ j, j < h → dlk ds j = none) ∧ r.nd + h + 1 = k
theorem rin (k : Nat) : Rin u d ds k (rsk 0 u d ds k) := by
  induction k with
  | zero => exact ⟨fun j hj => absurd hj (Nat.not_lt_zero j), rfl⟩
  | succ k ih =>
    show Rin u d ds (k + 1) (rstep (rsk 0 u d ds k) k (stk 0 u d k) (dlk ds k))
    generalize rsk 0 u d ds k = r at ih
    obtain ⟨nd, an, ans, dly⟩ := r
    cases eo : dlk ds k with
    | none =>
      cases ans with
      | none =>
        obtain ⟨h1, h2⟩ := ih
        refine ⟨fun j hj => ?_, h2⟩
        rcases Nat.lt_or_eq_of_le (Nat.le_of_lt_succ hj) with l | l
        · exact h1 j l
        · rw [l]; exact eo
      | some a =>
        obtain ⟨h1, h2, h3, h, h4, h5, h6, h7⟩ := ih
        refine ⟨Nat.lt_succ_of_lt h1, h2, fun j hj x hx => ?_, h, Nat.lt_succ_of_lt h4, h5, h6, by show nd + 1 + h + 1 = k + 1; have h7 : nd + h + 1 = k := h7; omega⟩
        rcases Nat.lt_or_eq_of_le (Nat.le_of_lt_succ hj) with l | l
        · exact h3 j l x hx
        · rw [l, eo] at hx; cases hx
    | some x =>
      cases ans with
      | none =>
        obtain ⟨h1, h2⟩ := ih
        have h2 : nd = 0 := h2
        refine ⟨Nat.lt_succ_self k, ⟨x, eo, rfl, rfl⟩, fun j hj y hy => ?_, k, Nat.lt_succ_self k, (by rw [eo]; exact fun z => nomatch z), h1, by show nd + k + 1 = k + 1; omega⟩
        rcases Nat.lt_or_eq_of_le (Nat.le_of_lt_succ hj) with l | l
        · rw [h1 j l] at hy; cases hy
        · subst l
          rw [eo] at hy
          cases hy
          exact ⟨Rat.le_refl, fun _ => Nat.le_refl _⟩
      | some a =>
        obtain ⟨h1, h2, h3, h, h4, h5, h6, h7⟩ := ih
        have h7 : nd + h + 1 = k := h7
        show Rin u d ds (k + 1) (if stk 0 u d k + x < a then (⟨nd + 1, k, some (stk 0 u d k + x), some x⟩ : RS Rat) else ⟨nd + 1, an, some a, dly⟩)
        by_cases f : stk 0 u d k + x < a
        · rw [if_pos f]
          refine ⟨Nat.lt_succ_self k, ⟨x, eo, rfl, rfl⟩, fun j hj y hy => ?_, h, Nat.lt_succ_of_lt h4, h5, h6, by show nd + 1 + h + 1 = k + 1; omega⟩
          rcases Nat.lt_or_eq_of_le (Nat.le_of_lt_succ hj) with l | l
          · have q := (h3 j l y hy).1
            exact ⟨by grind, fun e => by grind⟩
          · subst l
            rw [eo] at hy
            cases hy
            exact ⟨Rat.le_refl, fun _ => Nat.le_refl _⟩
        · rw [if_neg f]
          refine ⟨Nat.lt_succ_of_lt h1, h2, fun j hj y hy => ?_, h, Nat.lt_succ_of_lt h4, h5, h6, by show nd + 1 + h + 1 = k + 1; omega⟩
          rcases Nat.lt_or_eq_of_le (Nat.le_of_lt_succ hj) with l | l
          · exact h3 j l y hy
          · subst l
            rw [eo] at hy
            cases hy
            exact ⟨Rat.not_lt.mp f, fun _ => Nat.le_of_lt h1⟩
theorem wtk_pos (h : 0 < u) (k : Nat) : 0 < wtk u d k := by
  induction k with
  | zero => exact h
  | succ k ih =>
    unfold wtk
    split
    · grind
    · exact ih
theorem stk_mono (h : 0 < u) {j k : Nat} (l : j ≤ k) : stk 0 u d j ≤ stk 0 u d k := by
  induction k with
  | zero => rw [Nat.le_zero.mp l]; exact Rat.le_refl
  | succ k ih =>
    rcases Nat.lt_or_eq_of_le l with q | q
    · have i := ih (Nat.le_of_lt_succ q)
      have p := wtk_pos (d := d) h k
      show _ ≤ stk 0 u d k + wtk u d k
      grind
    · rw [q]; exact Rat.le_refl
/-- a round that stops behind N sendings -/
theorem rstop {N : Nat} (h : 0 < u) (n0 : 0 < N) (go : ∀ k, k < N → Gng 0 u d ds k) (st : ¬ Gng 0 u d ds N) (dp : ∀ k x, dlk ds k = some x → 0 < x) :
    ∃ a, (rsk 0 u d ds N).ans = some a ∧ (∀ j, j < N → stk 0 u d j < a) ∧ a ≤ stk 0 u d N := by
  obtain ⟨n, rfl⟩ : ∃ n, N = n + 1 := ⟨N - 1, by omega⟩
  have gn := go n (Nat.lt_succ_self n)
  have key : ∀ a, (rsk 0 u d ds (n + 1)).ans = some a → stk 0 u d n < a := by
    intro a e
    have e : (rstep (rsk 0 u d ds n) n (stk 0 u d n) (dlk ds n)).ans = some a := e
    unfold Gng at gn
    generalize rsk 0 u d ds n = r at e gn
    obtain ⟨nd, an, ans, dly⟩ := r
    cases eo : dlk ds n with
    | none =>
      rw [eo] at e
      cases ans with
      | none => cases e
      | some b => cases e; exact gn
    | some x =>
      rw [eo] at e
      have px := dp n x eo
      cases ans with
      | none => cases e; grind
      | some b =>
        have e : (if stk 0 u d n + x < b then (⟨nd + 1, n, some (stk 0 u d n + x), some x⟩ : RS Rat) else ⟨nd + 1, an, some b, dly⟩).ans = some a := e
        have gn : stk 0 u d n < b := gn
        by_cases f : stk 0 u d n + x < b
        · rw [if_pos f] at e; cases e; grind
        · rw [if_neg f] at e; cases e; exact gn
  cases e : (rsk 0 u d ds (n + 1)).ans with
  | none => exact absurd (by unfold Gng; rw [e]; trivial) st
  | some a =>
    refine ⟨a, rfl, fun j hj => ?_, ?_⟩
    · have m := stk_mono (d := d) h (Nat.le_of_lt_succ hj)
      have k := key a e
      grind
    · unfold Gng at st
      rw [e] at st
      exact Rat.not_lt.mp st
end
end Mt

namespace Mt
/-! rounds of one delay, and of a lost first sending, over the whole numbers -/
section
variable {W Y : Int} {d : Bool}
theorem stk_plain (W : Int) (k : Nat) : stk 0 W false k = (k : Int) * W ∧ wtk W false k = W := by
  induction k with
  | zero => exact ⟨by show (0 : Int) = ((0 : Nat) : Int) * W; simp, rfl⟩
  | succ k ih =>
    have e : ((k + 1 : Nat) : Int) * W = (k : Int) * W + W := by
      rw [show ((k + 1 : Nat) : Int) = (k : Int) + 1 by omega, Int.add_mul, Int.one_mul]
    refine ⟨?_, ?_⟩
    · show stk 0 W false k + wtk W false k = _
      rw [ih.1, ih.2, e]
    · show (if false = true then _ else wtk W false k) = _
      rw [if_neg (by decide), ih.2]
theorem stk_twice (W : Int) (k : Nat) : stk 0 W true k = (2 ^ k - 1) * W ∧ wtk W true k = 2 ^ k * W := by
  induction k with
  | zero => exact ⟨by show (0 : Int) = (2 ^ 0 - 1) * W; simp, by show W = 2 ^ 0 * W; simp⟩
  | succ k ih =>
    refine ⟨?_, ?_⟩
    · show stk 0 W true k + wtk W true k = _
      rw [ih.1, ih.2, Int.pow_succ]
      grind
    · show (if true = true then wtk W true k + wtk W true k else _) = _
      rw [if_pos rfl, ih.2, Int.pow_succ]
      grind
theorem dlk_one (Y : Int) (k : Nat) : dlk [some Y] k = some Y := by
  unfold dlk
  split
  · rename_i h
    have : k = 0 := by have e : [some Y].length = 1 := rfl; omega
    subst this
    rfl
  · rfl
theorem dlk_lost (Y : Int) (k : Nat) : dlk [none, some Y] k = if k = 0 then none else some Y := by
  unfold dlk
  have e : [none, some Y].length = 2 := rfl
  split
  · rename_i h
    match k, h with
    | 0, _ => rfl
    | 1, _ => rfl
    | k + 2, h => omega
  · rename_i h
    rw [if_neg (by omega)]
    rfl
/-- one delay: the first sending is answered -/
theorem rsk_one (hW : 0 ≤ W) (k : Nat) : rsk 0 W d [some Y] (k + 1) = ⟨k, 0, some Y, some Y⟩ := by
  induction k with
  | zero =>
    show rstep ⟨0, 0, none, none⟩ 0 (0 : Int) (dlk [some Y] 0) = _
    rw [dlk_one]
    show (⟨0, 0, some (0 + Y), some Y⟩ : RS Int) = _
    rw [Int.zero_add]
  | succ k ih =>
    show rstep (rsk 0 W d [some Y] (k + 1)) (k + 1) (stk 0 W d (k + 1)) (dlk [some Y] (k + 1)) = _
    rw [ih, dlk_one]
    have g := stk_nn (d := d) hW (k + 1)
    show (if stk 0 W d (k + 1) + Y < Y then (⟨k + 1, k + 1, some (stk 0 W d (k + 1) + Y), some Y⟩ : RS Int) else ⟨k + 1, 0, some Y, some Y⟩) = _
    rw [if_neg (by omega)]
theorem gng_one (hW : 0 ≤ W) (k : Nat) : Gng 0 W d [some Y] (k + 1) ↔ stk 0 W d (k + 1) < Y := by
  unfold Gng
  rw [rsk_one hW]
theorem gng_0 {ds : List (Option Int)} : Gng 0 W d ds 0 := trivial
/-- the first sending lost -/
theorem rsk_lost (hW : 0 ≤ W) (k : Nat) : rsk 0 W d [none, some Y] (k + 2) = ⟨k, 1, some (W + Y), some Y⟩ := by
  induction k with
  | zero =>
    show rstep (rstep ⟨0, 0, none, none⟩ 0 (0 : Int) (dlk [none, some Y] 0)) 1 (0 + W) (dlk [none, some Y] 1) = _
    rw [dlk_lost, dlk_lost]
    show (⟨0, 1, some (0 + W + Y), some Y⟩ : RS Int) = _
    rw [Int.zero_add]
  | succ k ih =>
    show rstep (rsk 0 W d [none, some Y] (k + 2)) (k + 2) (stk 0 W d (k + 2)) (dlk [none, some Y] (k + 2)) = _
    rw [ih, dlk_lost, if_neg (by omega)]
    have g : W ≤ stk 0 W d (k + 2) := by
      have g0 := stk_nn (d := d) hW (k + 1)
      have g1 := wtk_ge (d := d) hW (k + 1)
      show W ≤ stk 0 W d (k + 1) + wtk W d (k + 1)
      omega
    show (if stk 0 W d (k + 2) + Y < W + Y then (⟨k + 1, k + 2, some (stk 0 W d (k + 2) + Y), some Y⟩ : RS Int) else ⟨k + 1, 1, some (W + Y), some Y⟩) = _
    rw [if_neg (by omega)]
theorem gng_lost (hW : 0 ≤ W) (k : Nat) : Gng 0 W d [none, some Y] (k + 2) ↔ stk 0 W d (k + 2) < W + Y := by
  unfold Gng
  rw [rsk_lost hW]
theorem gng_lost1 : Gng 0 W d [none, some Y] 1 := by
  have : (rsk 0 W d [none, some Y] 1).ans = none := by
    show (rstep ⟨0, 0, none, none⟩ 0 (0 : Int) (dlk [none, some Y] 0)).ans = _
    rw [dlk_lost]
    rfl
  unfold Gng
  rw [this]
  trivial
/-- the whole numbers of a round and of those that wait long -/
structure Big (W : Int) (d : Bool) (ds : List (Option Int)) (N : Nat) : Prop where
  w : ∀ k, k ≤ N → (wtk W d k).natAbs < 2 ^ 200
  s : ∀ k, k ≤ N → (stk 0 W d k).natAbs < 2 ^ 200
  y : ∀ k q, dlk ds k = some q → q.natAbs < 2 ^ 200
end
end Mt

namespace Rs
open PySem PySem.Spec PyProof.Rows L2 He
open TL (tl len_tl ext_tl tl_append)
/-! ### texts: loops, methods, slices -/
section
variable {X : Cx} {σ : L2.St} {H : Hp} {D : Ends} {Q Q' : VK} {k : Nat} {E : L2.St → XK} {x y z : Str} {p px pos pos' apos p2 : Pos} {a b c e o : Expr} {i : Nat} {body : List Stmt}
theorem for_str {g : TG} {tb : TS} (P : Nat → L2.St → Hp → Prop) (h0 : P 0 σ H) (hs : ∀ i c σ H, (tl z)[i]? = some c → P i σ H → g (.str ⟨#[c]⟩) σ H fun σ2 H2 => tb { D with nx := P (i + 1), ct := P (i + 1), bk := D.nx } σ2 H2) (hd : ∀ σ H, P (tl z).length σ H → D.nx σ H) :
    ∃ W : Nat → Nat → L2.St → Hp → Prop, (∃ m, W 0 m σ H) ∧ ∀ i m σ H, W i m σ H →
      ((Its z).stop i H ∧ D.nx σ H) ∨ ((Its z).go i H ∧ ∃ N : L2.St → Hp → Prop, (∀ σ' H', N σ' H' → ∃ m', m' < m ∧ W (i + 1) m' σ' H') ∧ ∀ x H', (Its z).yld i H x H' → g x σ H' fun σ2 H2 => tb { D with nx := N, ct := N, bk := D.nx } σ2 H2) := by
  have hz : (tl z).length = z.cps.size := by simp [tl]
  refine ⟨fun i m σ H => m = z.cps.size - i ∧ i ≤ z.cps.size ∧ P i σ H, ⟨z.cps.size, by simp, Nat.zero_le _, h0⟩, ?_⟩
  rintro i m σ H ⟨rfl, hi, q⟩
  by_cases hlt : i < z.cps.size
  · refine .inr ⟨hlt, P (i + 1), fun σ' H' p' => ⟨z.cps.size - (i + 1), by omega, rfl, hlt, p'⟩, fun x H' y => ?_⟩
    obtain ⟨rfl, c, hc, rfl⟩ := y
    exact hs i c σ _ (by rw [← hc]; simp [tl]) q
  · have e : i = z.cps.size := by omega
    subst e
    exact .inl ⟨Nat.le_refl _, hd σ H (by rw [hz]; exact q)⟩
/-- for x in a text: all is chosen once the text is there -/
def ForS (X : Cx) (z : Str) (i : Nat) (body : List Stmt) (D : Ends) (σ : L2.St) (H : Hp) : Prop :=
  ∃ P : Nat → L2.St → Hp → Prop, P 0 σ H ∧ (∀ j c σ H, (tl z)[j]? = some c → P j σ H → WB X body { D with nx := P (j + 1), ct := P (j + 1), bk := D.nx } (σ.set i (some (.str ⟨#[c]⟩))) H) ∧ ∀ σ H, P (tl z).length σ H → D.nx σ H
theorem ws_for_strE (B : Body X k E) (s : Sl X i x) (h : WE X a σ H fun v H1 => ∃ z, v = .str z ∧ ForS X z i body D σ H1) (hs : ∀ v, foldedSetIterable a X.env v = pure v := by intro _; rfl) : WS X (.For (.Name x px) a body [] pos) D σ H := by
  refine wsP (ps_for B.po B.calm (pi_str peS) (pg_name s.nd s.at_ s.loc s.fn) pbS hs) ?_
  refine we_mono h fun v H1 q => ?_
  obtain ⟨z, rfl, P, q0, ht, hd⟩ := q
  exact ⟨z, rfl, for_str P q0 ht hd⟩
theorem we_split (h : WE X o σ H fun v H1 => ∃ z, v = .str z ∧ WE X e σ H1 fun w H2 => ∃ y, w = .str y ∧ (y.length == 0) = false ∧ z.length + 2 ≤ sizeLine ∧ ∀ l H3, H2 l = none → Ex H2 H3 → H3 l = some (.lst ((Txt.split z y).map V.str)) → Q (.ref l) H3)
    (hs : starEach [e] X.env = [(false, eval e X.env)] := by rfl) (hbase : attributeBase o "split" X.env (eval o X.env) = eval o X.env := by rfl) (hline : (apos.endLine == pos.line) = true := by rfl) : WE X (.Call (.Attribute o "split" apos) [e] [] pos) σ H Q :=
  weP (pe_split peS peS hs hbase hline) (we_mono h fun v H1 q => by
    obtain ⟨z, rfl, q⟩ := q
    refine ⟨⟨z, rfl⟩, we_mono q fun w H2 q => ?_⟩
    obtain ⟨y, rfl, h1, h2, q⟩ := q
    exact ⟨z, y, rfl, rfl, h1, h2, fun p hp => q p _ hp (Ex.new hp) upd_same⟩)
theorem we_starts (h : WE X o σ H fun v H1 => ∃ z, v = .str z ∧ WE X e σ H1 fun w H2 => ∃ y, w = .str y ∧ Q (.bl (Txt.startswith z y)) H2)
    (hs : starEach [e] X.env = [(false, eval e X.env)] := by rfl) (hbase : attributeBase o "startswith" X.env (eval o X.env) = eval o X.env := by rfl) (hline : (apos.endLine == pos.line) = true := by rfl) : WE X (.Call (.Attribute o "startswith" apos) [e] [] pos) σ H Q :=
  weP (pe_m1 F.slot_str_startswith F.type_str_startswith mt_startswith peS peS hs hbase hline) (we_mono h fun v H1 q => by
    obtain ⟨z, rfl, q⟩ := q
    refine ⟨⟨z, rfl⟩, we_mono q fun w H2 q => ?_⟩
    obtain ⟨y, rfl, q⟩ := q
    exact ⟨z, y, rfl, rfl, q⟩)
theorem we_joinS (h : WE X o σ H fun v H1 => ∃ z, v = .str z ∧ WE X e σ H1 fun w H2 => ∃ l, ∃ ys : List Str, w = .ref l ∧ (SqL X.K H2 l (ys.map V.str) ∨ SqT X.K H2 l (ys.map V.str)) ∧ (ys.map (·.length)).sum + ys.length * z.length ≤ 16777216 ∧ Q (.str (Txt.join z ys)) H2)
    (hs : starEach [e] X.env = [(false, eval e X.env)] := by rfl) (hbase : attributeBase o "join" X.env (eval o X.env) = eval o X.env := by rfl) (hline : (apos.endLine == pos.line) = true := by rfl) : WE X (.Call (.Attribute o "join" apos) [e] [] pos) σ H Q :=
  weP (pe_join peS peS hs hbase hline) (we_mono h fun v H1 q => by
    obtain ⟨z, rfl, q⟩ := q
    refine ⟨⟨z, rfl⟩, we_mono q fun w H2 q => ?_⟩
    obtain ⟨l, ys, rfl, h1, h2, q⟩ := q
    exact ⟨z, l, ys, rfl, rfl, h1, h2, q⟩)
/-- a[b:] -/
theorem we_cutSA (h : WE X a σ H fun v H1 => WE X b σ H1 fun w H2 => ∃ z i, v = .str z ∧ w = .int i ∧ z.length ≤ sizeLine ∧ Q (.str (cutS z (some i) none)) H2) : WE X (.Subscript a (.Slice (some b) none none p2) pos) σ H Q :=
  weP (pe_slice sl_str peS (po_some peS) po_none) (we_mono h fun v H1 q => we_mono q fun w H2 q => by
    obtain ⟨z, i, rfl, rfl, h1, q⟩ := q
    exact ⟨i, rfl, z, rfl, h1, q⟩)
/-- a[:b] -/
theorem we_cutSL (h : WE X a σ H fun v H1 => WE X b σ H1 fun w H2 => ∃ z i, v = .str z ∧ w = .int i ∧ z.length ≤ sizeLine ∧ Q (.str (cutS z none (some i))) H2) : WE X (.Subscript a (.Slice none (some b) none p2) pos) σ H Q :=
  weP (pe_slice sl_str peS po_none (po_some peS)) (we_mono h fun v H1 q => we_mono q fun w H2 q => by
    obtain ⟨z, i, rfl, rfl, h1, q⟩ := q
    exact ⟨i, rfl, z, rfl, h1, q⟩)
theorem we_intS (bn : Bn X "int") (h : WE X a σ H fun v H1 => ∃ z n, v = .str z ∧ PySem.intText? z = some n ∧ z.length ≤ 640 ∧ Q (.int n) H1) (hs : starEach [a] X.env = [(false, eval a X.env)] := by rfl) (hl : (backTo pos (starEach [] X.env)).any (·.1) = false := by rfl) :
    WE X (.Call (.Name "int" p) [a] [] pos) σ H Q := we_callT call_int_str bn boot_int (wa_one (we_mono h fun v H1 q => by
    obtain ⟨z, n, rfl, h1, h2, q⟩ := q
    exact ⟨z, n, rfl, h1, h2, q⟩) hs) (by decide) (by decide) hs hl
theorem o_inC {c : Nat} (q : Q (.bl (decide (c ∈ tl z))) H) : Op2 X (compareOp .In) (.str ⟨#[c]⟩) (.str z) H Q := op2_of op_in_sign ⟨c, z, rfl, rfl, q⟩
theorem o_notInC {c : Nat} (q : Q (.bl (!decide (c ∈ tl z))) H) : Op2 X (compareOp .NotIn) (.str ⟨#[c]⟩) (.str z) H Q := op2_of op_notIn_sign ⟨c, z, rfl, rfl, q⟩
theorem at_s {K : PySem.W.Frag} {i : Int} {c : Nat} (hz : z.length ≤ sizeLine) (he : atI (tl z) i = some c) (q : Q (.str ⟨#[c]⟩) H) : rIx K (.str z) (.int i) H Q := .inr (.inr ⟨z, i, c, rfl, rfl, hz, he, q⟩)
theorem len_s {K : PySem.W.Frag} {P : Nat → Prop} (hz : z.length ≤ sizeLine) (q : P z.length) : ∃ n, LenV K (.str z) H n ∧ P n := ⟨_, ⟨hz, rfl⟩, q⟩
end
/-! ### slices as lists of signs -/
theorem tl_cut (z : Str) (lo hi : Option Int) : tl (cutS z lo hi) = ((tl z).drop (HT.sIx z.length 0 lo)).take (HT.sIx z.length z.length hi - HT.sIx z.length 0 lo) := rfl
theorem tl_cutA (z : Str) (i : Nat) : tl (cutS z (some (i : Int)) none) = (tl z).drop i := by
  rw [tl_cut, HT.sIx_nat, HT.sIx_none, len_tl]
  by_cases h : i ≤ (tl z).length
  · rw [Nat.min_eq_left h, List.take_of_length_le (by rw [List.length_drop]; omega)]
  · rw [Nat.min_eq_right (by omega), List.drop_eq_nil_of_le (Nat.le_refl _), List.drop_eq_nil_of_le (by omega)]
    exact List.take_nil
theorem tl_cutL (z : Str) (i : Nat) : tl (cutS z none (some (i : Int))) = (tl z).take i := by
  rw [tl_cut, HT.sIx_nat, HT.sIx_none, len_tl, List.drop_zero, Nat.sub_zero]
  by_cases h : i ≤ (tl z).length
  · rw [Nat.min_eq_left h]
  · rw [Nat.min_eq_right (by omega), List.take_of_length_le (Nat.le_refl _), List.take_of_length_le (by omega)]
theorem tl_pre1 {z : Str} {c : Nat} : Txt.startswith z ⟨#[c]⟩ = decide ((tl z).head? = some c) := by
  refine Bool.eq_iff_iff.mpr ?_
  rw [List.head?_eq_getElem?, decide_eq_true_iff]
  unfold Txt.startswith
  rw [Bool.and_eq_true, decide_eq_true_iff]
  exact PySem.StrLaws.subAt_one z c 0
end Rs

namespace Rs
open PySem PySem.Spec PyProof.Rows L2 He
open TL (tl len_tl ext_tl tl_append tl_num numL numL_lt numL_step numL_digits numL_ne numL_free numL_val numL_inj numL_len int_num joinL spl pre spl_hit spl_miss spl_nil split_spl)
/-! ### numbers as figures -/
def figs : List Nat := tl ("0123456789" : Str)
theorem figs_eq : figs = [48, 49, 50, 51, 52, 53, 54, 55, 56, 57] := by decide +kernel
theorem mem_figs {c : Nat} : c ∈ figs ↔ 48 ≤ c ∧ c ≤ 57 := by
  rw [figs_eq]
  simp only [List.mem_cons, List.not_mem_nil, or_false]
  omega
/-- what some figures write -/
def readC (l : List Nat) : Option Nat := if 1 ≤ l.length ∧ l.length ≤ 60 ∧ (∀ c ∈ l, c ∈ figs) ∧ ¬ (l.head? = some 48 ∧ 1 < l.length) then some (NumText.digitsVal l) else none
theorem val_snoc (l : List Nat) (c : Nat) : NumText.digitsVal (l ++ [c]) = NumText.digitsVal l * 10 + (c - 48) := by
  unfold NumText.digitsVal
  rw [List.foldl_append]
  rfl
theorem canon : ∀ (n : Nat) (l : List Nat), l.length = n → l ≠ [] → (∀ c ∈ l, c ∈ figs) → ¬ (l.head? = some 48 ∧ 1 < l.length) → numL (NumText.digitsVal l) = l := by
  intro n
  induction n with
  | zero => exact fun l h hn _ _ => absurd (List.length_eq_zero_iff.mp h) hn
  | succ n ih =>
    intro l hl hn hd hh
    obtain ⟨i, c, rfl⟩ : ∃ i c, l = i ++ [c] := ⟨l.dropLast, l.getLast hn, (List.dropLast_concat_getLast hn).symm⟩
    have hc := mem_figs.mp (hd c (by simp))
    rw [val_snoc]
    cases i with
    | nil =>
      rw [numL_lt (by show 0 * 10 + (c - 48) < 10; omega)]
      show [48 + (0 * 10 + (c - 48))] = [c]
      congr 1
      omega
    | cons a r =>
      have hi : (a :: r).length = n := by simpa using hl
      have h48 : ¬ (a = 48) := fun e => hh ⟨by rw [e]; rfl, by simp⟩
      have e := ih (a :: r) hi (List.cons_ne_nil _ _) (fun d h => hd d (List.mem_append_left _ h)) (fun h => h48 (Option.some.inj h.1))
      have v1 : 1 ≤ NumText.digitsVal (a :: r) := by
        refine Nat.pos_of_ne_zero fun z => ?_
        rw [z, numL_lt (by decide)] at e
        injection e with e1 _
        exact h48 e1.symm
      rw [numL_step (by omega), show (NumText.digitsVal (a :: r) * 10 + (c - 48)) / 10 = NumText.digitsVal (a :: r) from by omega, e,
        show 48 + (NumText.digitsVal (a :: r) * 10 + (c - 48)) % 10 = c from by omega]
theorem readC_num {l : List Nat} {u : Nat} (h : readC l = some u) : l = numL u := by
  unfold readC at h
  by_cases g : 1 ≤ l.length ∧ l.length ≤ 60 ∧ (∀ c ∈ l, c ∈ figs) ∧ ¬ (l.head? = some 48 ∧ 1 < l.length)
  · rw [if_pos g] at h
    cases h
    exact (canon _ l rfl (fun e => by rw [e] at g; exact absurd g.1 (by decide)) g.2.2.1 g.2.2.2).symm
  · rw [if_neg g] at h
    cases h
theorem readC_len {l : List Nat} {u : Nat} (h : readC l = some u) : l.length ≤ 60 := by
  unfold readC at h
  by_cases g : 1 ≤ l.length ∧ l.length ≤ 60 ∧ (∀ c ∈ l, c ∈ figs) ∧ ¬ (l.head? = some 48 ∧ 1 < l.length)
  · exact g.2.1
  · rw [if_neg g] at h
    cases h
theorem val_lt {l : List Nat} : ∀ (n : Nat) (l : List Nat), l.length = n → (∀ c ∈ l, c ∈ figs) → NumText.digitsVal l < 10 ^ n := by
  intro n
  induction n with
  | zero =>
    intro l h _
    rw [List.length_eq_zero_iff.mp h]
    decide
  | succ n ih =>
    intro l hl hd
    have hn : l ≠ [] := fun e => by rw [e] at hl; cases hl
    obtain ⟨i, c, rfl⟩ : ∃ i c, l = i ++ [c] := ⟨l.dropLast, l.getLast hn, (List.dropLast_concat_getLast hn).symm⟩
    have hc := mem_figs.mp (hd c (by simp))
    have e := ih i (by simpa using hl) (fun d h => hd d (List.mem_append_left _ h))
    rw [val_snoc, Nat.pow_succ]
    omega
theorem readC_lt {l : List Nat} {u : Nat} (h : readC l = some u) : u < 10 ^ 60 := by
  have hl := readC_len h
  have e := h
  unfold readC at e
  by_cases g : 1 ≤ l.length ∧ l.length ≤ 60 ∧ (∀ c ∈ l, c ∈ figs) ∧ ¬ (l.head? = some 48 ∧ 1 < l.length)
  · rw [if_pos g] at e
    cases e
    exact Nat.lt_of_lt_of_le (val_lt (l := l) _ l rfl g.2.2.1) (Nat.pow_le_pow_right (by decide) hl)
  · rw [if_neg g] at e
    cases e
theorem numL_zero_head {u : Nat} : ¬ ((numL u).head? = some 48 ∧ 1 < (numL u).length) := by
  induction u using Nat.strongRecOn with
  | ind u ih =>
    by_cases h : u < 10
    · rw [numL_lt h]
      exact fun g => absurd g.2 (by show ¬ 1 < 1; decide)
    · rw [numL_step (by omega)]
      rintro ⟨g, _⟩
      have hne := numL_ne (u / 10)
      have g : (numL (u / 10)).head? = some 48 := by
        cases e : numL (u / 10) with
        | nil => exact absurd e hne
        | cons a r =>
          rw [e] at g
          exact g
      by_cases hl : 1 < (numL (u / 10)).length
      · exact ih (u / 10) (by omega) ⟨g, hl⟩
      · by_cases h2 : u / 10 < 10
        · rw [numL_lt h2] at g
          have := Option.some.inj g
          omega
        · rw [numL_step (by omega), List.length_append] at hl
          have := List.length_pos_iff.mpr (numL_ne (u / 10 / 10))
          simp only [List.length_cons, List.length_nil] at hl
          omega
theorem readC_of {u : Nat} (h : u < 10 ^ 60) : readC (numL u) = some u := by
  unfold readC
  rw [if_pos ⟨List.length_pos_iff.mpr (numL_ne u), numL_len (by decide) h, fun c hc => mem_figs.mpr (numL_digits u c hc), numL_zero_head⟩, numL_val]
theorem int_of_readC {z : Str} {u : Nat} (h : readC (tl z) = some u) : PySem.intText? z = some (u : Int) := by
  have e : z = Str.ofString (toString ((u : Nat) : Int)) := ext_tl (by rw [tl_num]; exact readC_num h)
  have hl : (numL u).length ≤ 60 := by
    rw [← readC_num h]
    exact readC_len h
  rw [e]
  exact int_num (by omega)
/-! ### the text of an int -/
theorem tl_itx_nat (u : Nat) : tl (itx (u : Int)) = numL u := tl_num u
theorem tl_itx_neg {u : Nat} (h : u ≠ 0) : tl (itx (-(u : Int))) = 45 :: numL u := by
  cases u with
  | zero => exact absurd rfl h
  | succ n =>
    unfold itx
    rw [TL.tl_ofString]
    have e : toString (-(((n + 1 : Nat)) : Int)) = "-" ++ toString (n + 1) := rfl
    rw [e]
    have e2 : numL (n + 1) = (toString (n + 1)).toList.map Char.toNat := by
      rw [← tl_num, TL.tl_ofString]
      rfl
    rw [e2, String.toList_append, List.map_append]
    rfl
/-! ### cut at a sign -/
theorem pre1 {s c : Nat} {r : List Nat} : pre [s] (c :: r) = decide (c = s) := by
  unfold pre
  show ([c] == [s]) = _
  by_cases h : c = s
  · subst h
    simp
  · rw [decide_eq_false h]
    simp [h]
theorem spl1 (s : Nat) : ∀ l acc : List Nat, ∃ h t, spl [s] 0 [] l = h :: t ∧ spl [s] 0 acc l = (acc ++ h) :: t ∧ s ∉ h ∧ joinL [s] (h :: t) = l ∧ ∀ p ∈ t, s ∉ p
  | [], acc => ⟨[], [], by rw [spl_nil], by rw [spl_nil, List.append_nil], by simp, rfl, by simp⟩
  | c :: r, acc => by
    by_cases hc : c = s
    · subst hc
      obtain ⟨h, t, e1, _, hs, hj, hp⟩ := spl1 c r []
      refine ⟨[], h :: t, ?_, ?_, by simp, ?_, ?_⟩
      · rw [spl_hit (by rw [pre1, decide_eq_true rfl])]
        show [] :: spl [c] 0 [] r = _
        rw [e1]
      · rw [spl_hit (by rw [pre1, decide_eq_true rfl])]
        show acc :: spl [c] 0 [] r = _
        rw [e1, List.append_nil]
      · show [] ++ ([c] ++ joinL [c] (h :: t)) = _
        rw [hj]
        rfl
      · intro p hm
        rcases List.mem_cons.mp hm with rfl | hm
        · exact hs
        · exact hp p hm
    · obtain ⟨h, t, e1, e2, hs, hj, hp⟩ := spl1 s r (acc ++ [c])
      obtain ⟨h', t', e1', e2', _, _, _⟩ := spl1 s r [c]
      rw [e1] at e1'
      injection e1' with a1 a2
      subst a1
      subst a2
      refine ⟨c :: h, t, ?_, ?_, ?_, ?_, hp⟩
      · rw [spl_miss (by rw [pre1, decide_eq_false hc]), List.nil_append, e2']
        rfl
      · rw [spl_miss (by rw [pre1, decide_eq_false hc]), e2, List.append_assoc]
        rfl
      · exact fun hm => (List.mem_cons.mp hm).elim (fun e => hc e.symm) hs
      · cases t with
        | nil =>
          show c :: h = c :: r
          rw [show h = r from hj]
        | cons q t =>
          show c :: (h ++ ([s] ++ joinL [s] (q :: t))) = c :: r
          rw [show h ++ ([s] ++ joinL [s] (q :: t)) = r from hj]
end Rs

namespace Rs
open PySem PySem.Spec PyProof.Rows L2 He
open TL (tl len_tl ext_tl tl_append tl_num numL numL_lt numL_step numL_digits numL_ne numL_free numL_val numL_inj numL_len int_num joinL spl pre spl_hit spl_miss spl_nil split_spl)
/-! ### the text of a time, read -/
def sgT (l : List Nat) (u : Nat) : Int := if l.head? = some 45 then -(u : Int) else u
def bodyT (l : List Nat) : List Nat := if l.head? = some 45 then l.drop 1 else l
def rdP (l : List Nat) : List (List Nat) → Option (Int × Nat)
  | [a] => (readC a).bind fun u => if u = 0 ∧ l.head? = some 45 then none else some (sgT l u, 1)
  | [a, b] => (readC a).bind fun u => (readC b).bind fun v => if 2 ≤ v ∧ ¬ (u = 0 ∧ l.head? = some 45) ∧ Nat.gcd u v = 1 then some (sgT l u, v) else none
  | _ => none
def rd (l : List Nat) : Option (Int × Nat) := rdP l (spl [47] 0 [] (bodyT l))
theorem parts_of (l : List Nat) : ∃ h t, spl [47] 0 [] (bodyT l) = h :: t ∧ spl [47] 0 [] l = (if l.head? = some 45 then 45 :: h else h) :: t ∧ (l.head? ≠ some 45 → h.head? ≠ some 45) ∧
    l = (if l.head? = some 45 then [45] else []) ++ joinL [47] (h :: t) ∧ 47 ∉ h ∧ ∀ p ∈ t, 47 ∉ p := by
  by_cases hd : l.head? = some 45
  · obtain ⟨r, rfl⟩ : ∃ r, l = 45 :: r := by
      cases l with
      | nil => cases hd
      | cons a r => cases hd; exact ⟨r, rfl⟩
    obtain ⟨h, t, e1, e2, hs, hj, hp⟩ := spl1 47 r [45]
    refine ⟨h, t, ?_, ?_, fun n => absurd hd n, ?_, hs, hp⟩
    · unfold bodyT
      rw [if_pos hd]
      exact e1
    · rw [if_pos hd, spl_miss (by rw [pre1]; decide), List.nil_append, e2]
      rfl
    · rw [if_pos hd, hj]
      rfl
  · obtain ⟨h, t, e1, _, hs, hj, hp⟩ := spl1 47 l []
    refine ⟨h, t, ?_, ?_, fun _ => ?_, ?_, hs, hp⟩
    · unfold bodyT
      rw [if_neg hd]
      exact e1
    · rw [if_neg hd, e1]
    · intro z
      cases h with
      | nil => cases z
      | cons a r =>
        cases z
        refine hd ?_
        rw [← hj]
        cases t <;> rfl
    · rw [if_neg hd, hj]
      rfl
theorem coprime_div {n : Int} {v : Nat} (hv : v ≠ 0) : (Rat.divInt n v).den = v ↔ Nat.gcd n.natAbs v = 1 := by
  constructor
  · intro h
    have c := Mt.cross (a := n) (b := (v : Int)) (by omega)
    have r := (Rat.divInt n v).reduced
    rw [h] at c r
    have e : (Rat.divInt n v).num = n := Int.eq_of_mul_eq_mul_right (by omega) c
    rw [e] at r
    exact r
  · intro h
    have e := Rat.num_divInt_den (⟨n, v, hv, h⟩ : Rat)
    rw [show Rat.divInt n v = (⟨n, v, hv, h⟩ : Rat) from e]
theorem coprime_num {n : Int} {v : Nat} (hv : v ≠ 0) (h : Nat.gcd n.natAbs v = 1) : (Rat.divInt n v).num = n := by
  have e := Rat.num_divInt_den (⟨n, v, hv, h⟩ : Rat)
  rw [show Rat.divInt n v = (⟨n, v, hv, h⟩ : Rat) from e]
theorem sgT_abs (l : List Nat) (u : Nat) : (sgT l u).natAbs = u := by
  unfold sgT
  by_cases h : l.head? = some 45
  · rw [if_pos h]
    omega
  · rw [if_neg h]
    omega
theorem itx_free (i : Int) : 47 ∉ tl (itx i) := by
  rcases Int.eq_nat_or_neg i with ⟨n, rfl | rfl⟩
  · rw [tl_itx_nat]
    exact numL_free (by decide)
  · by_cases h : n = 0
    · subst h
      exact (tl_itx_nat 0 ▸ numL_free (by decide) : 47 ∉ tl (itx ((0 : Nat) : Int)))
    · rw [tl_itx_neg h]
      exact fun m => (List.mem_cons.mp m).elim (fun e => absurd e (by decide)) (numL_free (by decide))
theorem tl_sgT {l : List Nat} {u : Nat} (h : ¬ (u = 0 ∧ l.head? = some 45)) : tl (itx (sgT l u)) = (if l.head? = some 45 then [45] else []) ++ numL u := by
  unfold sgT
  by_cases hd : l.head? = some 45
  · rw [if_pos hd, if_pos hd, tl_itx_neg (fun e => h ⟨e, hd⟩)]
    rfl
  · rw [if_neg hd, if_neg hd, tl_itx_nat]
    rfl
theorem tl_slash : tl ("/" : Str) = [47] := by decide +kernel
/-- one part: the text is the word's -/
theorem read_one {l h : List Nat} {u : Nat} (hl : l = (if l.head? = some 45 then [45] else []) ++ h) (hu : readC h = some u) : tl (itx (sgT l u)) = l ↔ ¬ (u = 0 ∧ l.head? = some 45) := by
  constructor
  · rintro e ⟨rfl, hd⟩
    have : sgT l 0 = ((0 : Nat) : Int) := by
      unfold sgT
      rw [if_pos hd]
      rfl
    rw [this, tl_itx_nat, numL_lt (by decide)] at e
    rw [← e] at hd
    exact absurd hd (by decide)
  · intro g
    rw [tl_sgT g, ← readC_num hu]
    exact hl.symm
theorem app_cut {s : Nat} : ∀ {a b c d : List Nat}, s ∉ a → s ∉ c → a ++ s :: b = c ++ s :: d → a = c ∧ b = d
  | [], b, [], d, _, _, e => ⟨rfl, by injection e⟩
  | [], b, x :: c, d, _, hc, e => by
    injection e with e1 _
    exact absurd (e1 ▸ List.mem_cons_self) hc
  | x :: a, b, [], d, ha, _, e => by
    injection e with e1 _
    exact absurd (e1 ▸ List.mem_cons_self) ha
  | x :: a, b, y :: c, d, ha, hc, e => by
    injection e with e1 e2
    obtain ⟨g1, g2⟩ := app_cut (fun m => ha (List.mem_cons_of_mem _ m)) (fun m => hc (List.mem_cons_of_mem _ m)) e2
    exact ⟨by rw [e1, g1], g2⟩
/-- two parts -/
theorem read_two {l h b : List Nat} {u v : Nat} (hl : l = (if l.head? = some 45 then [45] else []) ++ (h ++ 47 :: b)) (hf : 47 ∉ h) (hu : readC h = some u) (hb : readC b = some v) (hv : v ≠ 0) :
    tl (ftx (Rat.divInt (sgT l u) v).num (Rat.divInt (sgT l u) v).den) = l ↔ (2 ≤ v ∧ ¬ (u = 0 ∧ l.head? = some 45) ∧ Nat.gcd u v = 1) := by
  have hb' := readC_num hb
  have hu' := readC_num hu
  constructor
  · intro e
    unfold ftx at e
    by_cases d1 : ((Rat.divInt (sgT l u) v).den : Int) = 1
    · rw [if_pos d1] at e
      have f := itx_free (Rat.divInt (sgT l u) v).num
      rw [e, hl] at f
      exact absurd (List.mem_append_right _ (List.mem_append_right _ List.mem_cons_self)) f
    · rw [if_neg d1, tl_append, tl_append, tl_slash, tl_itx_nat, List.append_assoc] at e
      have e2 : tl (itx (Rat.divInt (sgT l u) v).num) ++ 47 :: numL (Rat.divInt (sgT l u) v).den = ((if l.head? = some 45 then [45] else []) ++ h) ++ 47 :: b := by
        rw [List.append_assoc, ← hl]
        exact e
      have f2 : 47 ∉ (if l.head? = some 45 then [45] else []) ++ h := by
        intro m
        rcases List.mem_append.mp m with m | m
        · by_cases hd : l.head? = some 45
          · rw [if_pos hd] at m
            exact absurd (List.mem_singleton.mp m) (by decide)
          · rw [if_neg hd] at m
            cases m
        · exact hf m
      obtain ⟨g1, g2⟩ := app_cut (itx_free _) f2 e2
      rw [hb'] at g2
      have dv := numL_inj g2
      have cp := (coprime_div hv).mp dv
      rw [sgT_abs] at cp
      refine ⟨by rw [dv] at d1; omega, ?_, cp⟩
      rintro ⟨rfl, _⟩
      rw [Nat.gcd_zero_left] at cp
      rw [dv] at d1
      omega
  · rintro ⟨v2, g, cp⟩
    have cp' : Nat.gcd (sgT l u).natAbs v = 1 := by rw [sgT_abs]; exact cp
    rw [coprime_num hv cp', (coprime_div hv).mpr cp']
    unfold ftx
    rw [if_neg (by omega), tl_append, tl_append, tl_slash, tl_itx_nat, tl_sgT g, ← hb', ← hu', List.append_assoc, List.append_assoc]
    exact hl.symm
/-! ### a time's own text -/
theorem rd_own {q : Rat} (hn : q.num.natAbs < 10 ^ 60) (hd : q.den < 10 ^ 60) : rd (tl (ftx q.num q.den)) = some (q.num, q.den) := by
  have body : ∀ (r : List Nat), bodyT (45 :: r) = r := fun r => by unfold bodyT; exact if_pos rfl
  have bodn : ∀ (u : Nat) (r : List Nat), (numL u ++ r).head? ≠ some 45 := fun u r => by
    have := numL_digits u
    cases e : numL u with
    | nil => exact absurd e (numL_ne u)
    | cons a s =>
      rw [e] at this
      intro z
      have := (this a List.mem_cons_self).1
      have : a = 45 := Option.some.inj z
      omega
  have nh : ∀ u : Nat, 47 ∉ numL u := fun u => numL_free (by decide)
  have s1 : ∀ u : Nat, spl [47] 0 [] (numL u) = [numL u] := fun u => by
    rw [TL.spl_last1 (nh u)]
    rfl
  have s2 : ∀ u v : Nat, spl [47] 0 [] (numL u ++ 47 :: numL v) = [numL u, numL v] := fun u v => by
    rw [show numL u ++ 47 :: numL v = numL u ++ ([47] ++ numL v) from rfl, TL.spl_part1 (nh u), s1]
    rfl
  have red := q.reduced
  have dp := q.den_pos
  obtain ⟨u, hu⟩ : ∃ u : Nat, q.num.natAbs = u := ⟨_, rfl⟩
  unfold ftx
  by_cases d1 : (q.den : Int) = 1
  · have d1' : q.den = 1 := by omega
    rw [if_pos d1, d1']
    rcases Int.eq_nat_or_neg q.num with ⟨n, e | e⟩
    · rw [e, tl_itx_nat]
      unfold rd bodyT
      have hh : (numL n).head? ≠ some 45 := by have := bodn n []; rw [List.append_nil] at this; exact this
      rw [if_neg hh, s1]
      show (readC (numL n)).bind _ = _
      rw [readC_of (by omega)]
      show (if n = 0 ∧ (numL n).head? = some 45 then none else some (sgT (numL n) n, 1)) = _
      rw [if_neg (fun g => hh g.2)]
      unfold sgT
      rw [if_neg hh]
    · by_cases n0 : n = 0
      · subst n0
        rw [e]
        decide +kernel
      · rw [e, tl_itx_neg n0]
        unfold rd
        rw [body, s1]
        show (readC (numL n)).bind _ = _
        rw [readC_of (by omega)]
        show (if n = 0 ∧ (45 :: numL n).head? = some 45 then none else some (sgT (45 :: numL n) n, 1)) = _
        rw [if_neg (fun g => n0 g.1)]
        unfold sgT
        rw [if_pos (show (45 :: numL n).head? = some 45 from rfl)]
  · rw [if_neg d1, tl_append, tl_append, tl_slash, tl_itx_nat]
    have v2 : 2 ≤ q.den := by omega
    rcases Int.eq_nat_or_neg q.num with ⟨n, e | e⟩
    · rw [e, tl_itx_nat, List.append_assoc, show [47] ++ numL q.den = 47 :: numL q.den from rfl]
      unfold rd bodyT
      have hh := bodn n (47 :: numL q.den)
      rw [if_neg hh, s2]
      show (readC (numL n)).bind _ = _
      rw [readC_of (by omega)]
      show (readC (numL q.den)).bind _ = _
      rw [readC_of hd]
      show (if 2 ≤ q.den ∧ ¬ (n = 0 ∧ (numL n ++ 47 :: numL q.den).head? = some 45) ∧ Nat.gcd n q.den = 1 then some (sgT (numL n ++ 47 :: numL q.den) n, q.den) else none) = _
      rw [if_pos ⟨v2, fun g => hh g.2, by have := red; rw [e] at this; exact this⟩]
      unfold sgT
      rw [if_neg hh]
    · have n0 : n ≠ 0 := by
        rintro rfl
        rw [e] at red
        have : Nat.gcd 0 q.den = 1 := red
        rw [Nat.gcd_zero_left] at this
        omega
      rw [e, tl_itx_neg n0]
      unfold rd
      rw [show (45 :: numL n) ++ [47] ++ numL q.den = 45 :: (numL n ++ 47 :: numL q.den) from by simp, body, s2]
      show (readC (numL n)).bind _ = _
      rw [readC_of (by omega)]
      show (readC (numL q.den)).bind _ = _
      rw [readC_of hd]
      show (if 2 ≤ q.den ∧ ¬ (n = 0 ∧ (45 :: (numL n ++ 47 :: numL q.den)).head? = some 45) ∧ Nat.gcd n q.den = 1 then some (sgT (45 :: (numL n ++ 47 :: numL q.den)) n, q.den) else none) = _
      rw [if_pos ⟨v2, fun g => n0 g.1, by have := red; rw [e, Int.natAbs_neg] at this; exact this⟩]
      unfold sgT
      rw [if_pos (show (45 :: (numL n ++ 47 :: numL q.den)).head? = some 45 from rfl)]
/-! ### the reading, by its parts -/
def botU : List (List Nat) → Option Nat
  | [] => some 1
  | b :: _ => readC b
theorem rdP_none1 {l h : List Nat} {t : List (List Nat)} (e : readC h = none) : rdP l (h :: t) = none := by
  match t with
  | [] =>
    show (readC h).bind _ = none
    rw [e]
    rfl
  | [b] =>
    show (readC h).bind _ = none
    rw [e]
    rfl
  | b :: b2 :: r => rfl
theorem rdP_none2 {l h : List Nat} {t : List (List Nat)} (e : botU t = none) : rdP l (h :: t) = none := by
  match t, e with
  | [b], e =>
    have e : readC b = none := e
    show ((readC h).bind fun u => (readC b).bind _) = none
    rw [e]
    cases readC h <;> rfl
  | b :: b2 :: r, _ => rfl
theorem rdP_zero {l h : List Nat} {t : List (List Nat)} (e : botU t = some 0) : rdP l (h :: t) = none := by
  match t, e with
  | [b], e =>
    have e : readC b = some 0 := e
    show ((readC h).bind fun u => (readC b).bind _) = none
    rw [e]
    cases readC h with
    | none => rfl
    | some u =>
      show (if 2 ≤ 0 ∧ ¬ (u = 0 ∧ l.head? = some 45) ∧ Nat.gcd u 0 = 1 then some (sgT l u, 0) else none) = none
      rw [if_neg (fun g => absurd g.1 (by decide))]
  | b :: b2 :: r, _ => rfl
theorem rdP_long {l h : List Nat} {t : List (List Nat)} (e : 2 ≤ t.length) : rdP l (h :: t) = none := by
  match t, e with
  | b :: b2 :: r, _ => rfl
theorem botU_lt {t : List (List Nat)} {v : Nat} (e : botU t = some v) : v < 10 ^ 60 := by
  match t, e with
  | [], e => cases e; decide
  | b :: _, e => exact readC_lt e
theorem rdP_go {l h : List Nat} {t : List (List Nat)} {u v : Nat} (hl : l = (if l.head? = some 45 then [45] else []) ++ joinL [47] (h :: t)) (hf : 47 ∉ h) (eu : readC h = some u) (ev : botU t = some v) (l1 : t.length ≤ 1) (hv : v ≠ 0) :
    (tl (ftx (Rat.divInt (sgT l u) v).num (Rat.divInt (sgT l u) v).den) = l → rdP l (h :: t) = some (sgT l u, v)) ∧ (¬ tl (ftx (Rat.divInt (sgT l u) v).num (Rat.divInt (sgT l u) v).den) = l → rdP l (h :: t) = none) := by
  match t, l1, ev with
  | [], _, ev =>
    cases ev
    rw [coprime_num (v := 1) (by decide) (Nat.gcd_one_right _), (coprime_div (v := 1) (by decide)).mpr (Nat.gcd_one_right _)]
    have e1 := read_one (h := h) hl eu
    show (tl (ftx (sgT l u) 1) = l → (readC h).bind _ = _) ∧ (¬ tl (ftx (sgT l u) 1) = l → (readC h).bind _ = _)
    rw [eu]
    unfold ftx
    rw [if_pos rfl]
    refine ⟨fun e => ?_, fun e => ?_⟩
    · show (if u = 0 ∧ l.head? = some 45 then none else some (sgT l u, 1)) = _
      rw [if_neg (e1.mp e)]
    · show (if u = 0 ∧ l.head? = some 45 then none else some (sgT l u, 1)) = _
      rw [if_pos (Classical.byContradiction fun g => e (e1.mpr g))]
  | [b], _, ev =>
    have ev : readC b = some v := ev
    have e2 := read_two (h := h) (b := b) hl hf eu ev hv
    show (_ → ((readC h).bind fun u => (readC b).bind _) = _) ∧ (_ → ((readC h).bind fun u => (readC b).bind _) = _)
    rw [eu, ev]
    refine ⟨fun e => ?_, fun e => ?_⟩
    · show (if 2 ≤ v ∧ ¬ (u = 0 ∧ l.head? = some 45) ∧ Nat.gcd u v = 1 then some (sgT l u, v) else none) = _
      rw [if_pos (e2.mp e)]
    · show (if 2 ≤ v ∧ ¬ (u = 0 ∧ l.head? = some 45) ∧ Nat.gcd u v = 1 then some (sgT l u, v) else none) = _
      rw [if_neg (fun g => e (e2.mpr g))]
theorem rdP_val {l h : List Nat} {t : List (List Nat)} {u v : Nat} (eu : readC h = some u) (ev : botU t = some v) (l1 : t.length ≤ 1) (lo : t = [] ∨ 2 ≤ v) :
    rdP l (h :: t) = if ¬ (u = 0 ∧ l.head? = some 45) ∧ Nat.gcd u v = 1 then some (sgT l u, v) else none := by
  match t, l1, ev, lo with
  | [], _, ev, _ =>
    cases ev
    show (readC h).bind _ = _
    rw [eu]
    show (if u = 0 ∧ l.head? = some 45 then none else some (sgT l u, 1)) = _
    by_cases g : u = 0 ∧ l.head? = some 45
    · rw [if_pos g, if_neg (fun q => q.1 g)]
    · rw [if_neg g, if_pos ⟨g, Nat.gcd_one_right u⟩]
  | [b], _, ev, lo =>
    have ev : readC b = some v := ev
    have v2 : 2 ≤ v := lo.elim (fun e => nomatch e) id
    show ((readC h).bind fun u => (readC b).bind _) = _
    rw [eu, ev]
    show (if 2 ≤ v ∧ ¬ (u = 0 ∧ l.head? = some 45) ∧ Nat.gcd u v = 1 then some (sgT l u, v) else none) = _
    by_cases g : ¬ (u = 0 ∧ l.head? = some 45) ∧ Nat.gcd u v = 1
    · rw [if_pos g, if_pos ⟨v2, g⟩]
    · rw [if_neg g, if_neg (fun q => g q.2)]
theorem rdP_low {l h b : List Nat} {v : Nat} (ev : readC b = some v) (lo : v < 2) : rdP l [h, b] = none := by
  show ((readC h).bind fun u => (readC b).bind _) = _
  rw [ev]
  cases readC h with
  | none => rfl
  | some u =>
    show (if 2 ≤ v ∧ ¬ (u = 0 ∧ l.head? = some 45) ∧ Nat.gcd u v = 1 then some (sgT l u, v) else none) = _
    rw [if_neg (fun q => by have := q.1; omega)]
theorem rd_some {l : List Nat} {n : Int} {d : Nat} (e : rd l = some (n, d)) : (Rat.divInt n d).num = n ∧ (Rat.divInt n d).den = d ∧ tl (ftx n d) = l ∧ n.natAbs < 10 ^ 60 ∧ d < 10 ^ 60 ∧ d ≠ 0 := by
  obtain ⟨h, t, e1, _, _, hl, hf, _⟩ := parts_of l
  have er : rdP l (h :: t) = some (n, d) := by
    unfold rd at e
    rw [e1] at e
    exact e
  have no : ∀ {q : Prop}, rdP l (h :: t) = none → q := fun z => absurd (z.symm.trans er) (fun z => nomatch z)
  cases eu : readC h with
  | none => exact no (rdP_none1 eu)
  | some u =>
    cases ev : botU t with
    | none => exact no (rdP_none2 ev)
    | some v =>
      by_cases l2 : 2 ≤ t.length
      · exact no (rdP_long l2)
      · by_cases v0 : v = 0
        · subst v0
          exact no (rdP_zero ev)
        · have lo : t = [] ∨ 2 ≤ v := by
            have tc : t = [] ∨ ∃ b, t = [b] := by
              match t, l2 with
              | [], _ => exact .inl rfl
              | [b], _ => exact .inr ⟨b, rfl⟩
              | b :: c :: r, q => exact absurd (show 2 ≤ (b :: c :: r).length by simp only [List.length_cons]; omega) q
            rcases tc with rfl | ⟨b, rfl⟩
            · exact .inl rfl
            · refine .inr ?_
              by_cases v2 : 2 ≤ v
              · exact v2
              · exact no (rdP_low ev (by omega))
          have val := rdP_val (l := l) eu ev (by omega) lo
          have go := rdP_go hl hf eu ev (by omega) v0
          by_cases g : ¬ (u = 0 ∧ l.head? = some 45) ∧ Nat.gcd u v = 1
          · rw [if_pos g, er] at val
            injection val with val
            injection val with v1 v2
            subst v1
            subst v2
            have cp : Nat.gcd (sgT l u).natAbs d = 1 := by rw [sgT_abs]; exact g.2
            refine ⟨coprime_num v0 cp, (coprime_div v0).mpr cp, ?_, by rw [sgT_abs]; exact readC_lt eu, botU_lt ev, v0⟩
            by_cases tx : tl (ftx (Rat.divInt (sgT l u) d).num (Rat.divInt (sgT l u) d).den) = l
            · rw [coprime_num v0 cp, (coprime_div v0).mpr cp] at tx
              exact tx
            · exact no (go.2 tx)
          · rw [if_neg g] at val
            exact no val
end Rs

namespace Rs
open PySem PySem.Spec PyProof.Rows L2 He
/-! ### def f(a, .., *v): what is left over is a new tuple -/
section
variable {P : Program} {w : World} {K : PySem.W.Frag} {mg : Str → Option Value} {base : Heap} {N ps : List Str} {pv name qual : Str} {pa : Arguments} {body : List Stmt} {sc : Scope} {f : Addr} {fd : FuncData} {k : Nat} {sp : Sp}
theorem def_starP (F : FunD K name qual pa body sc [] [] f fd) (S : FnScope N (ps ++ [pv]) sc)
    (h : ∀ (kV doc pm : Value) (an : Option Addr) (cdv ct : Value) (us rest : List Value), us.length = ps.length →
      bindArgs (PySem.W.fnOf name qual pa body sc .none kV doc pm an cdv ct) ⟨us ++ rest, []⟩ = (newTuple rest >>= fun t => pure (ps.zip us ++ [(pv, t)])))
    (hb : ∀ (X : Cx), X.prog = P → X.w = w → X.K = K → X.mg = mg → X.base = base → X.N = N → X.env.scope = sc → (∀ x, X.fn x = true) → N.Nodup → ∀ (H : Hp) (vs : List V) (Q : VK) (E : XK), Body X k (fun _ => E) → sp vs H Q E → WB X body { nx := fun _ H' => Q .non H', rt := Q } (start N vs) H) :
    FnR P w K mg base (RX P w) (k + 1) f (fun vs H Q E => ∃ ws rest, vs = ws ++ rest ∧ ws.length = ps.length ∧ rest.length ≤ sizeLine ∧ ∀ p, H p = Option.none → sp (ws ++ [V.ref p]) (upd H p (.tup rest)) Q E) := by
  obtain ⟨oc, od, dV, kV, doc, pm, an, cdv, ct, osl, rfl, lk, hcd, hD, hK⟩ := F.ex
  rcases hD with ⟨_, rfl⟩ | ⟨e, _⟩
  case inr => exact absurd rfl e
  exact StX.fn_star lk hcd S cxUpN (fun us rest l => h kV doc pm an cdv ct us rest l) fun A outer s H vs Q E hr z =>
    ⟨_, pbS, hb (bx P w K mg base N qual sc f cdv A outer s H E) rfl rfl rfl rfl rfl rfl rfl (fun _ => rfl) S.nd _ _ Q E (body_of hr) z⟩
end
/-! ### bits -/
section
variable {X : Cx} {σ : L2.St} {H : Hp} {Q : VK} {o : Expr} {apos pos : Pos}
theorem we_bits (h : WE X o σ H fun v H1 => ∃ i, v = .int i ∧ Q (.int (Builtin.Int.intBits i : Nat)) H1) (hbase : attributeBase o "bit_length" X.env (eval o X.env) = eval o X.env := by rfl) (hline : (apos.endLine == pos.line) = true := by rfl) :
    WE X (.Call (.Attribute o "bit_length" apos) [] [] pos) σ H Q := weP (pe_bits peS hbase hline) h
theorem o_oneShl {k : Nat} (hk : k ≤ 134217727) (q : Q (.int (2 ^ k)) H) : Op2 X (binaryOp .LShift) (.int 1) (.int (k : Int)) H Q := op2_of op_oneShl ⟨k, rfl, rfl, hk, q⟩
end
end Rs
/-! ### != of lists whose items are equal by an own == -/
namespace Rs
open PySem PySem.SeqAt
open AutoSeq1 (wpAny_loadPart')
open MeetsSeq MeetsSeq2 MeetsSeq3 SeqRoads2
section
variable {prog : Program} {w : World} {A : Around} {R : Result → Shared → Prop}
theorem ne_loopG (l b : Addr) (N : Nat) (I : Nat → Shared → Prop) (hl : GQ.ListI prog w A (fun e s' => R (.error e) s') l b N I)
    (fin : ∀ s, I N s → R (.ok (.ret (.bool false))) s) (k : Nat) :
    ∀ i : Nat, N - i = k → i ≤ N → ∀ s, I i s →
      wpAny (model prog w) A.in1 (Builtin.«list.__eq__.loop» ⟨[.ref l, .ref b, rawInt i, rawInt 3], []⟩) (GQ.FinOf prog w A R) (fun e s' => R (.error e) s') s := by
  induction k with
  | zero =>
    intro i hk hi s h
    obtain ⟨items, items2, n, n2, hl1, hb1, hs1, hs2, _⟩ := hl _ _ h
    have hi' : i = N := by omega
    have hR : R (.ok (.ret (.bool false))) s := fin s (hi' ▸ h)
    obtain ⟨hp, g, d, tk, os⟩ := s
    wp_walk using wpAny_loadPart' hl1, wpAny_loadPart' hb1
    have hi1 : items[((i : Nat) : Int).toNat]? = none := by simp; omega
    have hi2 : items2[((i : Nat) : Int).toNat]? = none := by simp; omega
    rw [hi1, hi2]
    wp_walk using wpAny_loadPart' hl1, wpAny_loadPart' hb1
    show R (.ok (.ret (.bool (items.size != items2.size)))) _
    rw [hs1, hs2]
    simpa using hR
  | succ k ih =>
    intro i hk hi s h
    obtain ⟨items, items2, n, n2, hl1, hb1, hs1, hs2, turn⟩ := hl _ _ h
    have hlt : i < items.size := by omega
    have hlt2 : i < items2.size := by omega
    have ht := turn hlt hlt2
    obtain ⟨hp, g, d, tk, os⟩ := s
    wp_walk using wpAny_loadPart' hl1, wpAny_loadPart' hb1
    have hi1 : items[((i : Nat) : Int).toNat]? = some items[i] := by simp [hlt]
    have hi2 : items2[((i : Nat) : Int).toNat]? = some items2[i] := by simp [hlt2]
    have hc : ((i : Int) + 1) = ((i + 1 : Nat) : Int) := by omega
    rw [hi1, hi2]
    refine wpAny_bind (wpAny_mono ht (fun r s2 h2 => ?_) fun _ _ x => x)
    obtain ⟨hr, h2⟩ := h2
    subst hr
    have hrec := ih (i + 1) (by omega) (by omega) s2 h2
    obtain ⟨hp2, g2, d2, tk2, os2⟩ := s2
    wp_walk
    rw [hc]
    exact ⟨plainId_quiet plain_eq_loop _, codeAny_builtin entry_eq_loop (by
      rw [Around.under_plainId plain_eq_loop _]
      exact hrec)⟩
theorem list_neG (l b : Addr) (N : Nat) (I : Nat → Shared → Prop) (hl : GQ.ListI prog w A (fun e s' => R (.error e) s') l b N I)
    (fin : ∀ s, I N s → R (.ok (.ret (.bool false))) s) {s : Shared} (h : I 0 s) :
    wpAny (model prog w) A.in1 (Builtin.«list.__ne__» ⟨[.ref l, .ref b], []⟩) (GQ.FinOf prog w A R) (fun e s' => R (.error e) s') s := by
  obtain ⟨items, items2, n, n2, hl1, hb1, hs1, hs2, _⟩ := hl _ _ h
  have hrec := ne_loopG (A := A) (R := R) l b N I hl fin _ 0 rfl (Nat.zero_le _) s h
  obtain ⟨hp, g, d, tk, os⟩ := s
  have f3 := AutoSeq1.sub_list_list
  have hne : ¬ (items.size != items2.size) = true := by simp [hs1, hs2]
  wp_walk using wpAny_loadPart' hl1, wpAny_loadPart' hb1
  exact ⟨plainId_quiet plain_eq_loop _, codeAny_builtin entry_eq_loop (by
    rw [Around.under_plainId plain_eq_loop _]
    exact hrec)⟩
end
section
variable {prog : Program} {w : World} {A : Around} {E : Value → Shared → Prop} {s : Shared}
theorem rc_listNe {l b : Addr} {N : Nat} {Q : Value → Shared → Prop} (hu : A.units < cLine) (I : Nat → Shared → Prop) (hl : GQ.ListI prog w A E l b N I)
    (fin : ∀ s, I N s → Q (.bool false) s) (h : I 0 s) : wpAny (model prog w) A (richCompare .NotEq (.ref l) (.ref b)) Q E s := by
  obtain ⟨items, items2, n, n2, hl1, hb1, _, _, _⟩ := hl _ _ h
  refine wpAny_richCompare_same_room (op := .NotEq) ⟨_, hl1, rfl⟩ ⟨_, hb1, rfl⟩ F.slot_list_ne (GQ.call_here F.slot_list_ne ⟨_, hl1, rfl⟩ F.entry_list_ne (F.args_list_ne_2 _ _) ?_) hu
  exact list_neG (R := wants (fun v s' => v ≠ .notImplemented ∧ Q v s') E) l b N I hl (fun s' q => ⟨(fun x => nomatch x), fin s' q⟩) h
end
end Rs
namespace Rs
open PySem PySem.Spec PyProof.Rows L2 He
section
variable {X : Cx} {n k : Nat} {D : Eqv} {E : L2.St → XK} {H : Hp} {Q : VK}
theorem op_neList (hD : Mon D) (h : EqG X n D) (hr : Room (n + 1) X.A) : OpR X (compareOp .NotEq) (fun x y H Q => DList D x y H ∧ ∀ H', Ext H H' → Q (.bl false) H') := by
  intro pins s σ H x y v u Q I rx ry hq
  obtain ⟨⟨a, b, xs, ys, rfl, rfl, ha, hb, p⟩, q⟩ := hq
  cases rx
  cases ry
  show wpAny (model X.prog X.w) X.A (richCompare .NotEq (.ref a) (.ref b)) (EP X pins σ Q) X.xe s
  refine rc_listNe (N := xs.length) hr.units0 (fun _ s' => LoopI X pins σ H s') (fun i s' q => ?_) (fun s' z => ?_) ⟨H, I, Ext.rfl'⟩
  · obtain ⟨H1, I1, e1⟩ := id q
    obtain ⟨z, its, k, r, e⟩ := I1.hok a _ (e1 _ _ ha)
    obtain ⟨z2, its2, k2, r2, e2⟩ := I1.hok b _ (e1 _ _ hb)
    refine ⟨its.toArray, its2.toArray, k, k2, e, e2, by rw [List.size_toArray, ← r.length], by rw [List.size_toArray, ← r2.length, ← p.1], fun h1 h2 => ?_⟩
    exact turnG hD h ⟨hr, rfl⟩ p r r2 i h1 h2 s' q
  · obtain ⟨H1, I1, e1⟩ := z
    exact ⟨.bl false, H1, I1, rfl, q H1 e1⟩
theorem o_neList (B : Body X k E) (hD : Mon D) (h : EqG X n D) (hk : n + 1 ≤ k) {a b : Addr} {xs ys : List V} (ha : H a = some (.lst xs)) (hb : H b = some (.lst ys)) (p : L2.Prs D xs ys H) (q : ∀ H', Ext H H' → Q (.bl false) H') : Op2 X (compareOp .NotEq) (.ref a) (.ref b) H Q :=
  op2_of (op_neList hD h (B.room.mono hk)) ⟨⟨a, b, xs, ys, rfl, rfl, ha, hb, p⟩, q⟩
theorem Ext.toEx {H H' : Hp} (e : Ext H H') : Ex H H' := ⟨fun a o h _ => e a o h, fun a l o h s => ⟨o, e a o h, s⟩⟩
end
end Rs

namespace Rs
open PySem PySem.Spec PyProof.Rows L2 He
/-! ### [e for x in range(n)] -/
/-- what the items come to -/
def LcR (X : Cx) (scope : Scope) (elt : Expr) (i : Nat) (σ : L2.St) (n : Nat) (Q : VK) (H1 : Hp) : Prop :=
  ∀ D, H1 D = none → ∃ P : Nat → Hp → Prop, P 0 (upd H1 D (.lst [])) ∧
    (∀ j H, j < n → P j H → ∀ s H0 C cl fp, WE (Bk X s H0 scope C cl fp) elt (σ.set i (some (.int (j : Nat)))) H fun y H4 => ∃ acc, H4 D = some (.lst acc) ∧ acc.length < sizeLine ∧ P (j + 1) (upd H4 D (.lst (acc ++ [y])))) ∧ ∀ H, P n H → Q (.ref D) H
section
variable {X : Cx} {σ : L2.St} {H : Hp} {Q : VK} {D : Ends} {k i n : Nat} {E : L2.St → XK} {x y : Str} {scope : Scope} {elt a : Expr} {px py pos spos pr pc : Pos}
theorem lc_byR (h : WE X a σ H fun v H1 => ∃ n : Nat, v = .int n ∧ n ≤ 1000000000 ∧ LcR X scope elt i σ n Q H1) (hs : starEach [a] X.env = [(false, eval a X.env)] := by rfl) : tLc (iRng1 (WA X [a])) (gName i) tYes (teB X scope elt) [i] σ H Q := by
  refine wa_one (we_mono h fun v H1 q => ?_) hs
  obtain ⟨n, rfl, hn, q⟩ := q
  refine ⟨n, rfl, by omega, by omega, fun D hD => ?_⟩
  obtain ⟨P, h0, hs, hd⟩ := q D hD
  refine lc_range (lo := 0) P h0 (fun j H hj p => ?_) hd
  have hj : j < n := by rw [Int.toNat_natCast] at hj; exact hj
  rw [Int.zero_add]
  refine ⟨(show ((σ.set i none).set i (some (.int (j : Nat)))).set i none = σ.set i none by rw [set2, set2]), (iteT (B := P (j + 1) H) ?_ : if true = true then teB X scope elt ((σ.set i none).set i (some (.int (j : Nat)))) H fun y H4 => ∃ acc, H4 D = some (.lst acc) ∧ acc.length < sizeLine ∧ P (j + 1) (upd H4 D (.lst (acc ++ [y]))) else P (j + 1) H)⟩
  intro s H0 C cl fp
  have e : (σ.set i none).set i (some (.int (j : Nat))) = σ.set i (some (.int (j : Nat))) := set2
  have z := hs j H hj p s H0 C cl fp
  rw [← e] at z
  exact z
theorem ws_setLcR (B : Body X k E) (m : Sl X n y) (bn : Bn X "range") (hy : X.env.scope.names.lookup y = some .local) (hk : X.env.scope.kind = .function) (hi : X.N[i]? = some x) (hx : scope.names.lookup x = some .local) (ok : BlkOk X.N X.env.scope scope [(x, i)])
    (h : WE X a σ H fun v H1 => ∃ n' : Nat, v = .int n' ∧ n' ≤ 1000000000 ∧ LcR X scope elt i σ n' (fun v H' => D.nx (σ.set n (some v)) H') H1) (hl : (py.line == spos.line) = true := by rfl)
    (ha : (scope.names.any fun (n, k) => n == y && (k == .local || k == .cell)) = false := by decide +kernel) (he : pos.line = spos.line := by rfl) (hst : starEach [a] X.env = [(false, eval a X.env)] := by rfl) (hs : ∀ v, foldedSetIterable (.Call (.Name "range" pr) [a] [] pc) X.env v = pure v := by intro _; rfl) :
    WS X (.Assign [.Name y py] (.ListComp elt [⟨.Name x px, .Call (.Name "range" pr) [a] [] pc, [], 0⟩] scope pos) spos) D σ H :=
  wsP (ps_setLc (own := [(x, i)]) (g := gName i) (tt := tYes) B.calm m.nd m.at_ hy (sw_true hk hy (by rw [he]; exact hl) ha) (pi_range1 bn.gl bn.no paS hst) ok (fun _ _ _ _ _ => pg_name m.nd hi (.inl (lookup_relS_keep (by decide) hx)) (.inr (lookup_relS_keep (by decide) hx))) (fun _ _ _ _ _ => pts_nil) peB hs) (lc_byR h hst)
end
end Rs

namespace Mt
open PySem
/-! ### rounds of a steady world -/
/-- first waits ahead of sending k, and in the wait of sending k -/
def mk (b : Bool) (k : Nat) : Int := if b = true then 2 ^ k - 1 else k
def wk (b : Bool) (k : Nat) : Int := if b = true then 2 ^ k else 1
theorem wtk_one (b : Bool) (k : Nat) : wtk (1 : Int) b k = wk b k := by
  induction k with
  | zero => unfold wtk wk; cases b <;> rfl
  | succ k ih =>
    unfold wtk
    rw [ih]
    unfold wk
    cases b with
    | false => rfl
    | true =>
      show (2 : Int) ^ k + 2 ^ k = 2 ^ (k + 1)
      rw [Int.pow_succ]
      omega
theorem stk_one (b : Bool) (k : Nat) : stk (0 : Int) 1 b k = mk b k := by
  induction k with
  | zero => unfold stk mk; cases b <;> rfl
  | succ k ih =>
    unfold stk
    rw [ih, wtk_one]
    unfold mk wk
    cases b with
    | false => show (k : Int) + 1 = ((k + 1 : Nat) : Int); omega
    | true =>
      show (2 : Int) ^ k - 1 + 2 ^ k = 2 ^ (k + 1) - 1
      rw [Int.pow_succ]
      omega
theorem pow_pos2 (k : Nat) : (0 : Int) < 2 ^ k := Int.pow_pos (by decide)
theorem mk_nn (b : Bool) (k : Nat) : 0 ≤ mk b k := by
  unfold mk
  have := pow_pos2 k
  cases b with
  | false => show 0 ≤ (k : Int); omega
  | true => show 0 ≤ (2 : Int) ^ k - 1; omega
section
variable {u d : Rat} {b : Bool}
theorem stk_rat (u : Rat) (b : Bool) (k : Nat) : stk 0 u b k = (mk b k : Rat) * u := by
  have h := stk_map (f := fun i : Int => (i : Rat) * u) (z := 0) (w := 1) (d := b) (fun a c => by rw [Rat.intCast_add, Rat.add_mul]) k
  have e0 : ((0 : Int) : Rat) * u = 0 := by rw [Rat.intCast_zero, Rat.zero_mul]
  have e1 : ((1 : Int) : Rat) * u = u := by rw [Rat.intCast_one, Rat.one_mul]
  rw [← stk_one, ← h]
  show stk 0 u b k = stk (((0 : Int) : Rat) * u) (((1 : Int) : Rat) * u) b k
  rw [e0, e1]
theorem wtk_rat (u : Rat) (b : Bool) (k : Nat) : wtk u b k = (wk b k : Rat) * u := by
  have h := wtk_map (f := fun i : Int => (i : Rat) * u) (w := 1) (d := b) (fun a c => by rw [Rat.intCast_add, Rat.add_mul]) k
  have e1 : ((1 : Int) : Rat) * u = u := by rw [Rat.intCast_one, Rat.one_mul]
  rw [← wtk_one, ← h]
  show wtk u b k = wtk (((1 : Int) : Rat) * u) b k
  rw [e1]
/-- the least number of waits that reach a delay -/
def cei (d u : Rat) : Int := -(fl (0 - d) u)
theorem zero_sub_num (d : Rat) : (0 - d).num = -d.num ∧ (0 - d).den = d.den := by
  have e : 0 - d = -d := by grind
  rw [e]
  exact ⟨rfl, rfl⟩
/-- so many waits are below the delay -/
theorem times_lt {i : Int} : (i : Rat) * u < d ↔ i * (u.num * d.den) < d.num * u.den := by
  have hL : u.den * d.den ≠ 0 := Nat.mul_ne_zero u.den_nz d.den_nz
  have eu : u = sc (u.den * d.den) (u.num * d.den) := by
    unfold sc
    rw [Int.natCast_mul, Rat.divInt_mul_right (by have := d.den_nz; omega), Rat.num_divInt_den]
  have ed : d = sc (u.den * d.den) (d.num * u.den) := by
    unfold sc
    rw [Int.natCast_mul, Int.mul_comm (u.den : Int), Rat.divInt_mul_right (by have := u.den_nz; omega), Rat.num_divInt_den]
  have ei : (i : Rat) * u = sc (u.den * d.den) (i * (u.num * d.den)) := by
    conv => lhs; rw [eu]
    unfold sc
    rw [← int_eq, Rat.divInt_mul_divInt, Int.one_mul]
  have h := sc_lt hL (i * (u.num * d.den)) (d.num * u.den)
  rw [← ei, ← ed] at h
  exact h
theorem num_pos0 (u0 : 0 < u) : 0 < u.num := by
  have h := (Rat.lt_iff 0 u).mp u0
  rw [show (0 : Rat).num = 0 from rfl, show ((0 : Rat).den : Int) = 1 from rfl] at h
  omega
theorem cei_spec (u0 : 0 < u) : ∀ i : Int, (i : Rat) * u < d ↔ i < cei d u := by
  intro i
  rw [times_lt]
  have W0 : 0 < u.num * (d.den : Int) := Int.mul_pos (num_pos0 u0) (by have := d.den_pos; omega)
  have ef : fl (0 - d) u = (-(d.num * u.den)).fdiv (u.num * d.den) := by
    unfold fl
    rw [(zero_sub_num d).1, (zero_sub_num d).2, Int.neg_mul, Int.mul_comm (d.den : Int)]
  unfold cei
  rw [ef, Int.fdiv_eq_ediv_of_nonneg _ (Int.le_of_lt W0)]
  generalize u.num * (d.den : Int) = W at W0
  generalize d.num * (u.den : Int) = M
  have h1 := Int.ediv_mul_le (-M) (Int.ne_of_gt W0)
  have h2 := Int.lt_ediv_add_one_mul_self (-M) W0
  generalize -M / W = f at h1 h2
  have e : (f + 1) * W = f * W + W := by rw [Int.add_mul, Int.one_mul]
  constructor
  · intro h
    refine Int.lt_of_not_ge fun g => ?_
    have : -f * W ≤ i * W := Int.mul_le_mul_of_nonneg_right g (Int.le_of_lt W0)
    rw [Int.neg_mul] at this
    omega
  · intro h
    have : (i + 1) * W ≤ -f * W := Int.mul_le_mul_of_nonneg_right (by omega) (Int.le_of_lt W0)
    rw [Int.neg_mul, Int.add_mul, Int.one_mul] at this
    omega
theorem cei_pos (u0 : 0 < u) (d0 : 0 < d) : 1 ≤ cei d u := by
  have := (cei_spec (d := d) u0 0).mp (by rw [Rat.intCast_zero, Rat.zero_mul]; exact d0)
  omega
/-- how many sendings -/
def snd (b : Bool) (c : Int) : Nat := if b = true then Builtin.Int.intBits c else c.toNat
theorem bits_pos {c : Int} (h : 1 ≤ c) : Builtin.Int.intBits c = c.toNat.log2 + 1 := by
  unfold Builtin.Int.intBits
  have e : (c == 0) = false := by
    rw [beq_eq_false_iff_ne]
    omega
  rw [e]
  show c.natAbs.log2 + 1 = _
  congr 2
  omega
theorem snd_spec {c : Int} (h : 1 ≤ c) (b : Bool) : 1 ≤ snd b c ∧ ∀ k, mk b k < c ↔ k < snd b c := by
  unfold snd mk
  cases b with
  | false =>
    refine ⟨by show 1 ≤ c.toNat; omega, fun k => ?_⟩
    show (k : Int) < c ↔ k < c.toNat
    omega
  | true =>
    show 1 ≤ Builtin.Int.intBits c ∧ ∀ k, (2 : Int) ^ k - 1 < c ↔ k < Builtin.Int.intBits c
    rw [bits_pos h]
    refine ⟨by omega, fun k => ?_⟩
    obtain ⟨n, rfl⟩ := Int.eq_ofNat_of_zero_le (show 0 ≤ c by omega)
    rw [Int.toNat_natCast]
    have n0 : n ≠ 0 := by omega
    have e : (2 : Int) ^ k = ((2 ^ k : Nat) : Int) := by rw [Int.natCast_pow]; rfl
    rw [e]
    constructor
    · intro g
      have g : 2 ^ k ≤ n := by omega
      have := (Nat.le_log2 n0).mpr g
      omega
    · intro g
      have := (Nat.le_log2 n0).mp (show k ≤ n.log2 by omega)
      omega
theorem rsk_steady (u0 : 0 < u) (d0 : 0 < d) : ∀ k, rsk 0 u b [some d] (k + 1) = ⟨k, 0, some d, some d⟩ := by
  intro k
  have dl : ∀ k, dlk [some d] k = some d := fun k => by
    cases k with
    | zero => rfl
    | succ k =>
      unfold dlk
      rw [if_neg (by show ¬ k + 1 < 1; omega)]
      rfl
  induction k with
  | zero =>
    show rstep (rsk 0 u b [some d] 0) 0 (stk 0 u b 0) (dlk [some d] 0) = _
    rw [dl]
    show (⟨0, 0, some (0 + d), some d⟩ : RS Rat) = _
    rw [Rat.zero_add]
  | succ k ih =>
    show rstep (rsk 0 u b [some d] (k + 1)) (k + 1) (stk 0 u b (k + 1)) (dlk [some d] (k + 1)) = _
    rw [dl, ih]
    show (if stk 0 u b (k + 1) + d < d then (⟨k + 1, k + 1, some (stk 0 u b (k + 1) + d), some d⟩ : RS Rat) else ⟨k + 1, 0, some d, some d⟩) = _
    have h := stk_mono (d := b) u0 (Nat.zero_le (k + 1))
    have h : 0 ≤ stk 0 u b (k + 1) := h
    rw [if_neg (by grind)]
theorem gng_steady (u0 : 0 < u) (d0 : 0 < d) (k : Nat) : Gng 0 u b [some d] k ↔ k = 0 ∨ k < snd b (cei d u) := by
  cases k with
  | zero => exact ⟨fun _ => .inl rfl, fun _ => trivial⟩
  | succ k =>
    unfold Gng
    rw [rsk_steady u0 d0]
    show stk 0 u b (k + 1) < d ↔ _
    rw [stk_rat, cei_spec u0, (snd_spec (cei_pos u0 d0) b).2]
    exact ⟨.inr, fun h => h.resolve_left (by omega)⟩
theorem wk_le (b : Bool) (k : Nat) : (wk b k).natAbs ≤ 2 ^ k := by
  unfold wk
  cases b with
  | false => show 1 ≤ 2 ^ k; exact Nat.one_le_two_pow
  | true =>
    show ((2 : Int) ^ k).natAbs ≤ 2 ^ k
    rw [Int.natAbs_pow]
    exact Nat.le_refl _
theorem mk_le (b : Bool) (k : Nat) : (mk b k).natAbs ≤ 2 ^ k := by
  have p := pow_pos2 k
  have e : ((2 : Int) ^ k).natAbs = 2 ^ k := by rw [Int.natAbs_pow]; rfl
  unfold mk
  cases b with
  | false => show (k : Int).natAbs ≤ 2 ^ k; have := @Nat.lt_two_pow_self k; omega
  | true => show ((2 : Int) ^ k - 1).natAbs ≤ 2 ^ k; omega
theorem stk_sz {m k N : Nat} (hk : k ≤ N) (h : Sz u m) (b : Bool) : Sz (stk 0 u b k) (N + 1 + m) := by
  rw [stk_rat]
  refine Sz.mul (Sz.int ?_ (by omega)) h
  exact Nat.lt_of_le_of_lt (mk_le b k) (Nat.pow_lt_pow_right (by decide) (by omega))
theorem wtk_sz {m k N : Nat} (hk : k ≤ N) (h : Sz u m) (b : Bool) : Sz (wtk u b k) (N + 1 + m) := by
  rw [wtk_rat]
  refine Sz.mul (Sz.int ?_ (by omega)) h
  exact Nat.lt_of_le_of_lt (wk_le b k) (Nat.pow_lt_pow_right (by decide) (by omega))
theorem snd_le {c : Int} {n : Nat} (h : 1 ≤ c) (hc : c ≤ n) (b : Bool) : snd b c ≤ n := by
  have s := (snd_spec h b).2
  refine Nat.le_of_not_lt fun g => ?_
  have := (s n).mpr g
  have : (n : Int) ≤ mk b n := by
    unfold mk
    cases b with
    | false => exact Int.le_refl _
    | true =>
      show (n : Int) ≤ 2 ^ n - 1
      have e : (2 : Int) ^ n = ((2 ^ n : Nat) : Int) := by rw [Int.natCast_pow]; rfl
      have := @Nat.lt_two_pow_self n
      omega
  omega
theorem cei_le (u0 : 0 < u) {n : Nat} (h : d ≤ (n : Rat) * u) : cei d u ≤ n := by
  refine Int.le_of_not_gt fun g => ?_
  have := (cei_spec (d := d) u0 n).mpr g
  rw [Rat.intCast_natCast] at this
  exact absurd h (Rat.not_le.mpr this)
end
end Mt

namespace Rs
open PySem PySem.Spec
/-! ### a dict merged into another one: {**d, ..}, f(**d) -/
section
variable {prog : Program} {w : World} {K : Type} [DecidableEq K] {knd : KeyKind prog w K} {A : Around} {E : Value → Shared → Prop} {s : Shared}
theorem wpAny_dictPut_pairs {d : Addr} {kvs : List (K × Value)} {k : K} {key v : Value} {Q : Unit → Shared → Prop} (hkey : knd.is k key = true) (hm : s.heap.DictOf knd d kvs)
    (hQ : ∀ h', h'.DictOf knd d (stored kvs k v) → Heap.SameBut d s.heap h' → Q () { s with heap := h' })
    (hsz : kvs.length ≤ sizeLine := by size_fits) :
    wpAny (model prog w) A (dictPut d (knd.hash k) key v) Q E s := by
  obtain ⟨o, es, ep, ho, hc, hd, hk, hp, hn⟩ := hm
  have hes : es.size ≤ sizeLine := by have e1 := hp.length; have e2 : es.toList.length = es.size := by simp
                                      omega
  unfold dictPut
  refine wpAny_bind (wpAny_dictFind_of hkey ho hd hk ?_)
  have hidx : (es.findIdx? fun e => knd.is k e.key) = kvs.findIdx? fun kv => decide (kv.1 = k) := by
    rw [← hp.findIdx k]; obtain ⟨l⟩ := es; simp
  cases hi : es.findIdx? fun e => knd.is k e.key with
  | some i =>
    refine (wpAny_updateDict ho hd ((hQ _ ⟨_, _, ep, Heap.get?_update_self _ ho (Obj.isFreed_of_dict (Obj.data_mapDict hd _)),
      hc.mapDict _, Obj.data_mapDict hd _, hk.modify _ _, ?_, ?_⟩ (Heap.SameBut.update ..))))
    · rw [stored, if_pos (any_of_findIdx_some (hidx ▸ hi))]
      have hl : (es.toList.findIdx? fun e => knd.is k e.key) = some i := by rw [← hi]; obtain ⟨l⟩ := es; simp
      have := hp.modify hn hl v
      obtain ⟨l⟩ := es
      simpa using this
    · rw [stored, if_pos (any_of_findIdx_some (hidx ▸ hi)), keys_map_store]; exact hn
  | none =>
    have hnot : k ∉ kvs.map (·.1) := not_mem_of_findIdx_none (hidx ▸ hi)
    have hany : ¬ (kvs.any fun kv => decide (kv.1 = k)) = true := by
      rw [List.any_eq_true]; rintro ⟨kv, hkv, he⟩
      exact hnot (List.mem_map.mpr ⟨kv, hkv, of_decide_eq_true he⟩)
    refine (wpAny_updateDictKeys (hz := hes) ho hd (hQ _ ⟨_, _, ep + 1, Heap.get?_update_self _ ho (Obj.isFreed_of_dict (Obj.data_mapDictKeys hd _)),
      hc.mapDictKeys _, Obj.data_mapDictKeys hd _, hk.push hkey _, ?_, ?_⟩ (Heap.SameBut.update ..)))
    · rw [stored, if_neg hany]
      have := hp.append hkey (knd.hash k) v
      obtain ⟨l⟩ := es
      simpa using this
    · rw [stored, if_neg hany, List.map_append, List.nodup_append]
      refine ⟨hn, by simp, ?_⟩
      intro a ha b hb
      simp only [List.map_cons, List.map_nil, List.mem_singleton] at hb
      subst hb
      exact fun e => hnot (e ▸ ha)
theorem wpAny_mergeLoop {d o : Addr} {kvs more : List (K × Value)} {u : Bool} {Q : Unit → Shared → Prop} (hdo : d ≠ o)
    (hd : s.heap.DictOf knd d kvs) (ho : s.heap.DictOf knd o more) (hu : u = true → ((kvs ++ more).map (·.1)).Nodup)
    (hQ : ∀ h', h'.DictOf knd d (merged kvs more) → h'.DictOf knd o more → Heap.SameBut d s.heap h' → Q () { s with heap := h' })
    (hsz : kvs.length + more.length ≤ sizeLine) :
    wpAny (model prog w) A (do
      let __do_lift ← dictEntries o
      let epoch ← dictEpoch o
      forIn (List.range __do_lift.size) PUnit.unit fun i (_ : PUnit) => (do
          let __do_lift ← dictEntries o
          match __do_lift[i]? with
            | some e => do
              holding [e.key, e.val] (if u = true then do
                  let __do_lift ← dictFind d e.key e.hash
                  if __do_lift.isSome = true then do
                      rule "dict.merge.duplicate-key"
                      let __do_lift ← newExc (Value.type "KeyError") [e.key]
                      let _ ← (raiseNew __do_lift : Sem Unit)
                      dictPut d e.hash e.key e.val
                    else dictPut d e.hash e.key e.val
                else dictPut d e.hash e.key e.val)
              let __do_lift ← dictEpoch o
              if (__do_lift != epoch) = true then do
                  let _ ← (unsupported "dict.changed-during-merge" : Sem Unit)
                  pure (ForInStep.yield PUnit.unit)
                else pure (ForInStep.yield PUnit.unit)
            | _ => do
              let _ ← (unsupported "dict.changed-during-merge" : Sem Unit)
              pure (ForInStep.yield PUnit.unit) : Sem (ForInStep PUnit))
      pure ()) Q E s := by
  obtain ⟨od, esd, epd, hod, hcd, hdd, hkd, hpd, hnd⟩ := id hd
  obtain ⟨oo, eso, epo, hoo, hco, hdo', hko, hpo, hno⟩ := id ho
  have hlen : more.length = eso.size := by rw [← hpo.length]; simp
  refine wpAny_bind (wpAny_dictEntries hoo hdo' ?_)
  refine wpAny_bind (wpAny_dictEpoch hoo hdo' ?_)
  refine wpAny_bind ?_
  rw [List.range_eq_range']
  refine wpAny_forIn_list _
    (fun rest _ s' => ∃ h' i, s' = { s with heap := h' } ∧ rest = List.range' i (eso.size - i) ∧ i ≤ eso.size ∧ h'.DictOf knd d (merged kvs (more.take i)) ∧ h'.get? o = some oo ∧ Heap.SameBut d s.heap h')
    _ ?_ ?_ _ _ ⟨s.heap, 0, rfl, by simp, Nat.zero_le _, by simpa [merged] using hd, hoo, Heap.SameBut.refl _ _⟩
  · rintro x rest b s' ⟨h', i, rfl, hr, hi, hd', hoo', hs'⟩
    have hlt : i < eso.size := by
      rcases Nat.lt_or_ge i eso.size with h | h
      · exact h
      · rw [Nat.sub_eq_zero_of_le h] at hr; simp at hr
    obtain ⟨rfl, hrest⟩ : x = i ∧ rest = List.range' (i + 1) (eso.size - (i + 1)) := by
      have e : eso.size - i = (eso.size - (i + 1)) + 1 := by omega
      rw [e, List.range'_succ] at hr
      injection hr with h1 h2
      exact ⟨h1, h2⟩
    refine wpAny_bind (wpAny_dictEntries hoo' hdo' ?_)
    rw [Array.getElem?_eq_getElem hlt]
    obtain ⟨kv, hkv⟩ : ∃ kv, more[x]? = some kv := ⟨more[x]'(by rw [hlen]; exact hlt), List.getElem?_eq_getElem _⟩
    obtain ⟨k, v⟩ := kv
    obtain ⟨hkey, hval⟩ := hpo.get? (e := eso[x]) (by simp [hlt]) hkv
    obtain ⟨k', hkey', hhash⟩ := hko eso[x] (Array.getElem_mem hlt)
    obtain rfl : k' = k := knd.inj _ _ _ hkey' hkey
    have hmx : (merged kvs (more.take x)).length ≤ sizeLine := by
      have e1 := merged_length_le kvs (more.take x)
      have e2 : (more.take x).length ≤ more.length := by rw [List.length_take]; omega
      omega
    have fin : ∀ Q' : Unit → Shared → Prop, (∀ h'', h''.DictOf knd d (merged kvs (more.take (x + 1))) → h''.get? o = some oo → Heap.SameBut d s.heap h'' → Q' () { s with heap := h'' }) →
        wpAny (model prog w) A (dictPut d eso[x].hash eso[x].key eso[x].val) Q' E { s with heap := h' } := fun Q' hq => by
      rw [hhash, hval]
      refine wpAny_dictPut_pairs (hsz := hmx) hkey hd' fun h'' hd'' hs'' => ?_
      exact hq h'' (by rw [merged_take_succ kvs more x (k', v) hkv]; exact hd'') ((hs''.2 o (Ne.symm hdo)).trans hoo') (hs'.trans hs'')
    refine wpAny_bind (wpAny_holding ?_)
    cases u with
    | false =>
      rw [if_neg Bool.false_ne_true]
      refine fin _ fun h'' a b c => ?_
      refine wpAny_bind (wpAny_dictEpoch b hdo' ?_)
      rw [if_neg (by simp)]
      exact wpAny_pure ⟨h'', x + 1, rfl, hrest, hlt, a, b, c⟩
    | true =>
      rw [if_pos rfl]
      obtain ⟨o2, es2, ep2, ho2, hc2, hd2, hk2, hp2, hn2⟩ := id hd'
      rw [hhash]
      refine wpAny_bind (wpAny_dictFind_of hkey ho2 hd2 hk2 ?_)
      have nk : k' ∉ (merged kvs (more.take x)).map (·.1) := by
        have hn := hu rfl
        have e : merged kvs (more.take x) = kvs ++ more.take x := by
          refine merged_append_of_fresh _ _ ?_
          rw [List.map_append, List.nodup_append] at hn ⊢
          refine ⟨hn.1, ?_, fun a ha b hb => hn.2.2 a ha b ?_⟩
          · rw [List.map_take]
            exact hn.2.1.sublist (List.take_sublist _ _)
          · rw [List.map_take] at hb
            exact List.mem_of_mem_take hb
        rw [e]
        have hx : x < more.length := by omega
        have sp : more = more.take x ++ (k', v) :: more.drop (x + 1) := by
          have h1 : more.drop x = more[x] :: more.drop (x + 1) := List.drop_eq_getElem_cons hx
          have h2 : more[x] = (k', v) := by
            rw [List.getElem?_eq_getElem hx] at hkv
            exact Option.some.inj hkv
          rw [← h2, ← h1, List.take_append_drop]
        rw [sp, ← List.append_assoc, List.map_append, List.nodup_append] at hn
        exact fun hm => hn.2.2 k' hm k' (by simp) rfl
      have hnone : (es2.findIdx? fun e => knd.is k' e.key) = none := by
        have hidx : (es2.findIdx? fun e => knd.is k' e.key) = (merged kvs (more.take x)).findIdx? fun kv => decide (kv.1 = k') := by
          rw [← hp2.findIdx k']; obtain ⟨l⟩ := es2; simp
        rw [hidx, List.findIdx?_eq_none_iff]
        intro kv hkv'
        exact decide_eq_false fun e => nk (List.mem_map.mpr ⟨kv, hkv', e⟩)
      rw [hnone]
      rw [if_neg (by simp)]
      rw [← hhash]
      refine fin _ fun h'' a b c => ?_
      refine wpAny_bind (wpAny_dictEpoch b hdo' ?_)
      rw [if_neg (by simp)]
      exact wpAny_pure ⟨h'', x + 1, rfl, hrest, hlt, a, b, c⟩
  · rintro b s' ⟨h', i, rfl, hr, hi, hd', hoo', hs'⟩
    have hin : i = eso.size := by
      rcases Nat.lt_or_ge i eso.size with h | h
      · have e : eso.size - i = (eso.size - (i + 1)) + 1 := by omega
        rw [e, List.range'_succ] at hr; exact nomatch hr
      · exact Nat.le_antisymm hi h
    refine wpAny_pure (hQ h' ?_ ⟨oo, eso, epo, hoo', hco, hdo', hko, hpo, hno⟩ hs')
    rw [hin, ← hlen, List.take_length] at hd'; exact hd'
theorem wpAny_mergeMapping {d o : Addr} {kvs more : List (K × Value)} {u : Bool} {Q : Unit → Shared → Prop} (hdo : d ≠ o) (hoS : (o == sysModules) = false)
    (hkr : ∀ k a, knd.is k (.ref a) = false) (hd : s.heap.DictOf knd d kvs) (ho : s.heap.DictOf knd o more) (hu : u = true → ((kvs ++ more).map (·.1)).Nodup)
    (hQ : ∀ h', h'.DictOf knd d (merged kvs more) → h'.DictOf knd o more → Heap.SameBut d s.heap h' → Q () { s with heap := h' })
    (hsz : kvs.length + more.length ≤ sizeLine := by size_fits) :
    wpAny (model prog w) A (mergeMapping d (.ref o) u) Q E s := by
  obtain ⟨od, esd, epd, hod, hcd, hdd, hkd, hpd, hnd⟩ := id hd
  obtain ⟨oo, eso, epo, hoo, hco, hdo', hko, hpo, hno⟩ := id ho
  have hlen : more.length = eso.size := by rw [← hpo.length]; simp
  unfold mergeMapping
  refine wpAny_bind (wpAny_isInstance ho.typeIs isSubtype_dict_dict ?_)
  dsimp only
  rw [if_pos rfl]
  refine wpAny_bind (wpAny_specialOf ho.typeIs F.slot_dict_iter.lookup ?_)
  simp only [beq_self_eq_true]
  refine wpAny_bind (wpAny_pure ?_)
  dsimp only
  rw [if_neg (by rw [hoS]; exact Bool.false_ne_true)]
  refine wpAny_bind (wpAny_dictEntries hod hdd ?_)
  split
  case isTrue =>
    refine wpAny_bind (wpAny_dictEntries hoo hdo' ?_)
    refine wpAny_bind (wpAny_forIn_array' _ (fun rest _ s' => s' = s ∧ ∀ e ∈ rest, e ∈ eso) _ ?_ ?_ _ _ ⟨rfl, fun e he => by simpa using he⟩)
    · rintro e rest b s' ⟨rfl, hr⟩
      obtain ⟨k', hkey', _⟩ := hko e (hr e List.mem_cons_self)
      split
      · rename_i a' heq
        rw [heq, hkr] at hkey'
        cases hkey'
      · exact wpAny_pure ⟨rfl, fun x hx => hr x (List.mem_cons_of_mem _ hx)⟩
    · rintro b s' ⟨rfl, _⟩
      exact wpAny_mergeLoop hdo hd ho hu hQ hsz
  case isFalse =>
    exact wpAny_mergeLoop hdo hd ho hu hQ hsz
end
end Rs

namespace Rs
open PySem PySem.Spec PyProof.Rows L2 He
/-! ### dicts that are merged, in the heap of V -/
section
variable {X : Cx} {pins : List (Addr × Obj)} {σ : L2.St} {H : Hp} {s : Shared} {A : Around} {E : Value → Shared → Prop}
theorem mix_noref (P : Program) (w : World) (k : Key) (a : Addr) : (mixKind P w).is k (.ref a) = false := by
  cases k with
  | inl i => rfl
  | inr x => rfl
theorem kv_keys : ∀ {kvs : List (Key × V)} {vs : List (Key × Value)}, KV kvs vs → kvs.map (·.1) = vs.map (·.1)
  | [], _, r => by cases r; rfl
  | p :: kvs, _, r => by
    cases r with
    | @cons a b as bs h t =>
      rw [List.map_cons, List.map_cons, kv_keys t, h.1]
theorem d_merge {d o : Addr} {kvs more : List (Key × V)} {u : Bool} {Q : Unit → Shared → Prop} (I : Inv X pins σ H s) (ed : H d = some (.dK kvs)) (eo : H o = some (.dK more)) (ne : d ≠ o) (hu : u = true → ((kvs ++ more).map (·.1)).Nodup)
    (hz : kvs.length + more.length ≤ sizeLine) (h : ∀ s', Inv X pins σ (upd H d (.dK (mergeK kvs more))) s' → Q () s') : wpAny (model X.prog X.w) A (mergeMapping d (.ref o) u) Q E s := by
  obtain ⟨z1, hd1, vs1, r1, dd1⟩ := dk_of I.hok ed
  obtain ⟨z2, hd2, vs2, r2, dd2⟩ := dk_of I.hok eo
  refine wpAny_mergeMapping ne hd2 (mix_noref _ _) dd1 dd2 (fun e => ?_) (fun h' q1 q2 hs => h _ ?_) ?_
  · have := hu e
    rw [List.map_append, kv_keys r1, kv_keys r2, ← List.map_append] at this
    exact this
  · refine d_write (t' := s.toks) I (by rw [ed]; exact True.intro) hs (let ⟨q, _, _, hq, _⟩ := q1; ⟨q, hq⟩) (dk_new ?_ hd1 (r2.merge r1) q1)
    have := length_mergeK more kvs
    omega
  · rw [← r1.length, ← r2.length]; exact hz
end
/-! ### f(**d) -/
section
variable {prog : Program} {w : World} {A : Around} {s : Shared} {E : Value → Shared → Prop}
theorem wpAny_keywordsIn {f : Value} {d : Addr} {ps : List (Str × Value)} {Q : List (Str × Value) → Shared → Prop} (hd : s.heap.DictOf (mixKind prog w) d (ps.map fun p => (.inr p.1, p.2))) (h : Q ps s) : wpAny (model prog w) A (keywordsIn f d) Q E s := by
  obtain ⟨o, es, ep, ho, hc, hdd, hk, hp, hn⟩ := hd
  unfold keywordsIn
  refine wpAny_bind (wpAny_dictEntries ho hdd ?_)
  refine wpAny_bind (wpAny_forIn_array' _ (fun rest kw s' => s' = s ∧ ∃ pre post, ps = pre ++ post ∧ kw = pre ∧ Pairs (mixKind prog w) rest (post.map fun p => (.inr p.1, p.2))) _ ?_ ?_ _ _ ⟨rfl, [], ps, rfl, rfl, hp⟩)
  · rintro e rest kw s' ⟨rfl, pre, post, rfl, rfl, hp'⟩
    cases post with
    | nil => cases hp'
    | cons p post =>
      cases hp' with
      | cons h1 h2 h3 =>
        obtain ⟨t, ht⟩ : ∃ t, e.key = .str p.1 t := by
          rcases keyIs_shape (k := .inr p.1) (v := e.key) h1 with ⟨i, t, q, _⟩ | ⟨x, t, q, ht⟩
          · exact nomatch q
          · injection q with q
            exact ⟨t, by rw [q]; exact ht⟩
        rw [ht]
        refine wpAny_pure ⟨rfl, kw ++ [p], post, by simp, ?_, h3⟩
        rw [h2]
  · rintro kw s' ⟨rfl, pre, post, rfl, rfl, hp'⟩
    cases post with
    | nil => refine wpAny_pure (by rw [List.append_nil] at h; exact h)
    | cons p post => cases hp'
theorem wpAny_merged1 {f : Value} {t : Sem Value} {Q : Addr → Shared → Prop}
    (h : wpAny (model prog w) A t (fun v s1 => ∃ o, v = .ref o ∧ (∀ E' : Value → Shared → Prop, ∀ Q' : Unit → Shared → Prop, (∀ s2, Q s.heap.objs.size s2 → Q' () s2) → wpAny (model prog w) A (mergeMapping s.heap.objs.size (.ref o) true) Q' E' s1)) E { s with heap := s.heap.push { cls := .type "dict", data := .dict #[] } }) :
    wpAny (model prog w) A (mergedKeywords f [(none, t)]) Q E s := by
  unfold mergedKeywords
  refine wpAny_bind (wpAny_alloc ?_)
  refine wpAny_bind (wpAny_holding ?_)
  dsimp only
  rw [List.forIn_cons]
  refine wpAny_bind (wpAny_bind ?_)
  dsimp only
  rw [if_pos (show ([] : List (Str × Sem Value)).isEmpty = true from rfl)]
  refine wpAny_bind (wpAny_pure ?_)
  refine wpAny_bind (wpAny_mono h (fun v s1 z => ?_) fun _ _ e => e)
  obtain ⟨o, rfl, z⟩ := z
  refine wpAny_bind (wpAny_onRaise (wpAny_holding (wpAny_tryCatch (wpAny_onRaise (z _ _ fun s2 q => ?_)))))
  refine wpAny_pure ?_
  dsimp only
  rw [List.forIn_nil]
  refine wpAny_pure ?_
  rw [if_pos (show ([] : List (Str × Sem Value)).isEmpty = true from rfl)]
  exact wpAny_pure (wpAny_pure q)
theorem wpAny_evalArgsD {f : Value} {t : Sem Value} {Q : Args → Shared → Prop}
    (h : wpAny (model prog w) A t (fun v s1 => ∃ o, v = .ref o ∧ ∃ R : Shared → Prop, (∀ s2, R s2 → ∃ ps : List (Str × Value), s2.heap.DictOf (mixKind prog w) s.heap.objs.size (ps.map fun p => (.inr p.1, p.2)) ∧ Q ⟨[], ps⟩ s2) ∧
      (∀ E' : Value → Shared → Prop, ∀ Q' : Unit → Shared → Prop, (∀ s2, R s2 → Q' () s2) → wpAny (model prog w) A (mergeMapping s.heap.objs.size (.ref o) true) Q' E' s1)) E { s with heap := s.heap.push { cls := .type "dict", data := .dict #[] } }) :
    wpAny (model prog w) A (evalArgs f true [] [(none, t)]) Q E s := by
  unfold evalArgs
  refine wpAny_bind (wpAny_bind (wpAny_pure (wpAny_pure ?_)))
  dsimp only
  refine wpAny_bind (wpAny_pure ?_)
  refine wpAny_holding ?_
  rw [if_neg (by simp)]
  refine wpAny_bind (wpAny_merged1 (Q := fun a s2 => a = s.heap.objs.size ∧ ∃ ps : List (Str × Value), s2.heap.DictOf (mixKind prog w) s.heap.objs.size (ps.map fun p => (.inr p.1, p.2)) ∧ Q ⟨[], ps⟩ s2) (wpAny_mono h (fun v s1 z => ?_) fun _ _ e => e) |> fun q => wpAny_mono q (fun a s2 z => ?_) fun _ _ e => e)
  · obtain ⟨rfl, ps, hd, q⟩ := z
    refine wpAny_bind (wpAny_pure (wpAny_bind (wpAny_holding (wpAny_keywordsIn hd (wpAny_pure q)))))
  · obtain ⟨o, rfl, R, r1, r2⟩ := z
    exact ⟨o, rfl, fun E' Q' q => r2 E' Q' fun s2 r => q s2 ⟨rfl, r1 s2 r⟩⟩
end
section
variable {M : Model} {A : Around} {E : Value → Shared → Prop} {s : Shared} {f : Value} {first : List Value} {pos : Pos} {Q : Value → Shared → Prop} {P : Heap → Prop} {args : List (Bool × Sem Value)} {kws : List (Option Str × Sem Value)}
theorem callWith_starred (hst : (args.any (·.1) || kws.any (·.1.isNone)) = true)
    (hk : ∀ h, P h → ∃ k, (k = Keeper.frame ∨ k = Keeper.machine ∨ k = Keeper.boundFrame) ∧ PySem.W.Looks M h (keeperOf f) k)
    (h : wpAny M A (evalArgs f true args kws) (fun a s₁ => P s₁.heap ∧ wpAny M A (call f (first ++ a.pos) a.kw) Q E s₁) E s) : wpAny M A (callWith pos f first args kws) Q E s := by
  unfold callWith
  refine wpAny_bind (wpAny_holding (wpAny_mono h (fun a s₁ h₁ => wpAny_bind (wpAny_standAt ?_)) fun _ _ x => x))
  obtain ⟨k, hk', L⟩ := hk _ h₁.1
  simp only [hst]
  refine wpAny_bind (L.here ?_)
  have tail : ∀ {t : Sem Value}, wpAny M A t Q E s₁ → wpAny M A (t >>= fun r => holding [r] point >>= fun _ => pure r) Q E s₁ :=
    fun ht => wpAny_bind (wpAny_mono ht (fun r s₂ hr => wpAny_bind (wpAny_holding (wpAny_point (wpAny_pure hr)))) fun _ _ x => x)
  have marked (mk : Value) : wpAny M A (callMarked mk f (first ++ a.pos) a.kw) Q E s₁ := by unfold callMarked; exact Calls.wpAny_keep h₁.2
  rcases hk' with rfl | rfl | rfl <;> dsimp only <;> first | exact tail (marked _) | exact tail (wpAny_operating h₁.2)
end
theorem kv_strs : ∀ {ks : List Str} {vs : List V} {ws : List (Key × Value)}, vs.length = ks.length → KV ((ks.map (Sum.inr : Str → Key)).zip vs) ws → ∃ us, ws = (ks.zip us).map (fun p => ((Sum.inr p.1 : Key), p.2)) ∧ Vals vs us
  | [], [], _, _, r => by cases r; exact ⟨[], rfl, .nil⟩
  | [], _ :: _, _, l, _ => nomatch l
  | _ :: _, [], _, l, _ => nomatch l
  | k :: ks, v :: vs, _, l, r => by
    cases r with
    | @cons a b as bs h t =>
      obtain ⟨us, rfl, q⟩ := kv_strs (Nat.succ.inj l) t
      obtain ⟨b1, b2⟩ := b
      obtain ⟨h1, h2⟩ := h
      cases h1
      exact ⟨b2 :: us, rfl, .cons h2 q⟩
section
variable {X : Cx} {σ : L2.St} {H : Hp} {Q : VK} {k j : Nat} {E : L2.St → XK} {x : Str} {sp : Sp} {p pos kpos : Pos} {e : Expr} {C : Addr} {ks : List Str} {gV : List V → List V → List V}
/-- C(**d), d a dict with the keys ks -/
theorem we_makeD (B : Body X k E) (gn : Gn X x) (f : GKk X.prog X.w X.K X.mg X.base j x C sp 0 ks gV) (hj : j + 1 ≤ k) (nd : ks.Nodup)
    (h : ∀ q, H q = none → WE X e σ (upd H q (.dK [])) fun v H1 => ∃ o zs, v = .ref o ∧ H1 q = some (.dK []) ∧ H1 o = some (.dK ((ks.map (Sum.inr : Str → Key)).zip zs)) ∧ q ≠ o ∧ zs.length = ks.length ∧ ks.length ≤ 1000 ∧
      ∀ a dx, upd H1 q (.dK ((ks.map (Sum.inr : Str → Key)).zip zs)) a = none → upd H1 q (.dK ((ks.map (Sum.inr : Str → Key)).zip zs)) dx = none → dx ≠ a → sp (gV [.ref a] zs) (upd (upd (upd H1 q (.dK ((ks.map (Sum.inr : Str → Key)).zip zs))) dx (.own a)) a (.ins C dx [])) (fun v H3 => v = .non ∧ Q (.ref a) H3) (E σ)) :
    WE X (.Call (.Name x p) [] [⟨none, e, kpos⟩] pos) σ H Q := by
  obtain ⟨f, fd, ps, g, hm, M, F, hb⟩ := f
  intro pins s I
  refine wpAny_Call_Name_kw (ld_glob I gn.gl hm ?_ gn.d1)
  refine callWith_starred (P := fun h => X.K.In h) rfl (PySem.W.keeps_K M.kp) ?_
  have hn := I.hok.fresh (Nat.le_refl s.heap.objs.size)
  have I1 := I.laid (a := s.heap.objs.size) (o := .dK []) (h' := s.heap.push { cls := .type "dict", data := .dict #[] }) (t' := s.toks) (fun _ _ q => Heap.get?_push_of_some _ q) (Nat.le_refl _) (dk_empty s.heap I.big)
  refine wpAny_evalArgsD (wpAny_bind (wpAny_mono (h _ hn _ _ I1) (fun v s2 z => ?_) fun _ _ e => e))
  obtain ⟨v', H1, I2, rv, o, zs, rfl, hq, ho, ne, lz, l0, q⟩ := z
  cases rv
  refine wpAny_bind (wpAny_standAt ?_)
  refine wpAny_pure ?_
  refine Exists.intro o (And.intro rfl (Exists.intro (fun s3 => Inv X pins σ (upd H1 s.heap.objs.size (.dK ((ks.map (Sum.inr : Str → Key)).zip zs))) s3) (And.intro (fun s3 I3 => ?_) (fun E' Q' q' => ?_))))
  · obtain ⟨_, _, vs, r, dd⟩ := dk_of I3.hok upd_same
    obtain ⟨us, rfl, ru⟩ := kv_strs lz r
    refine ⟨_, dd, I3.kIn, ?_⟩
    exact kmake_at (us := []) (vs := []) M F (B.room.mono hj) hb (B.at σ) I3 .nil ru rfl lz q
  · have nk : ((ks.map (Sum.inr : Str → Key)).zip zs).map (·.1) = ks.map (Sum.inr : Str → Key) := List.map_fst_zip (by rw [List.length_map, lz]; exact Nat.le_refl _)
    have n1 : (ks.map (Sum.inr : Str → Key)).Nodup := List.Pairwise.map _ (fun a b h e => h (Sum.inr.inj e)) nd
    refine d_merge I2 hq ho ne (fun _ => ?_) ?_ fun s' I3 => q' s' ?_
    · rw [List.nil_append, nk]; exact n1
    · rw [List.length_zip, List.length_map, lz, sizeLine_eq, List.length_nil]; omega
    · rw [mergeK_zip n1 (by rw [List.length_map, lz])] at I3
      exact I3
end
end Rs

namespace Rs
open PySem PySem.Spec PyProof.Rows L2 He
/-! ### {**a, **b} and {**a, k: v} -/
section
variable {prog : Program} {w : World} {A : Around} {s : Shared} {E : Value → Shared → Prop}
/-- m is merged into d, whatever follows -/
def Merges (prog : Program) (w : World) (A : Around) (d : Addr) (v : Value) (R : Shared → Prop) (s : Shared) : Prop :=
  ∀ (E' : Value → Shared → Prop) (Q' : Unit → Shared → Prop), (∀ s2, R s2 → Q' () s2) → wpAny (model prog w) A (mergeMapping d v false) Q' E' s
theorem wpAny_dispMM {va vb : Sem Value} {Q : Value → Shared → Prop}
    (h : wpAny (model prog w) A va (fun v s1 => Merges prog w A s.heap.objs.size v (fun s2 => wpAny (model prog w) A vb (fun v2 s3 => Merges prog w A s.heap.objs.size v2 (fun s4 => Q (.ref s.heap.objs.size) s4) s3) E s2) s1) E { s with heap := s.heap.push { cls := .type "dict", data := .dict #[] } }) :
    wpAny (model prog w) A (dictDisplay [(none, va), (none, vb)]) Q E s := by
  unfold dictDisplay
  try dsimp only
  rw [List.forIn_cons]
  refine wpAny_bind (wpAny_bind ?_)
  try dsimp only
  rw [if_pos (show ([] : List (Sem Value × Sem Value)).isEmpty = true from rfl)]
  refine wpAny_bind (wpAny_pure ?_)
  try dsimp only
  refine wpAny_bind (wpAny_alloc ?_)
  refine wpAny_bind (wpAny_holding (wpAny_mono h (fun v s1 z => ?_) fun _ _ e => e))
  refine wpAny_bind (wpAny_onRaise (wpAny_tryCatch (wpAny_onRaise (wpAny_holding (z _ _ fun s2 z => ?_)))))
  refine wpAny_pure ?_
  try dsimp only
  rw [List.forIn_cons]
  refine wpAny_bind ?_
  try dsimp only
  rw [if_pos (show ([] : List (Sem Value × Sem Value)).isEmpty = true from rfl)]
  refine wpAny_bind (wpAny_pure ?_)
  try dsimp only
  refine wpAny_bind (wpAny_pure ?_)
  refine wpAny_bind (wpAny_holding (wpAny_mono z (fun v s3 z => ?_) fun _ _ e => e))
  refine wpAny_bind (wpAny_onRaise (wpAny_tryCatch (wpAny_onRaise (wpAny_holding (z _ _ fun s4 z => ?_)))))
  refine wpAny_pure ?_
  try dsimp only
  rw [List.forIn_nil]
  refine wpAny_pure ?_
  rw [if_pos (show ([] : List (Sem Value × Sem Value)).isEmpty = true from rfl)]
  exact wpAny_bind (wpAny_pure (wpAny_pure z))
theorem wpAny_dispMK {va k vb : Sem Value} {Q : Value → Shared → Prop}
    (h : wpAny (model prog w) A va (fun v s1 => Merges prog w A s.heap.objs.size v (fun s2 => wpAny (model prog w) A (subDict [(k, vb)]) (fun d2 s3 => Merges prog w A s.heap.objs.size (.ref d2) (fun s4 => Q (.ref s.heap.objs.size) s4) s3) E s2) s1) E { s with heap := s.heap.push { cls := .type "dict", data := .dict #[] } }) :
    wpAny (model prog w) A (dictDisplay [(none, va), (some k, vb)]) Q E s := by
  unfold dictDisplay
  try dsimp only
  rw [List.forIn_cons]
  refine wpAny_bind (wpAny_bind ?_)
  try dsimp only
  rw [if_pos (show ([] : List (Sem Value × Sem Value)).isEmpty = true from rfl)]
  refine wpAny_bind (wpAny_pure ?_)
  try dsimp only
  refine wpAny_bind (wpAny_alloc ?_)
  refine wpAny_bind (wpAny_holding (wpAny_mono h (fun v s1 z => ?_) fun _ _ e => e))
  refine wpAny_bind (wpAny_onRaise (wpAny_tryCatch (wpAny_onRaise (wpAny_holding (z _ _ fun s2 z => ?_)))))
  refine wpAny_pure ?_
  try dsimp only
  rw [List.forIn_cons]
  refine wpAny_bind ?_
  try dsimp only
  rw [if_neg (by simp)]
  refine wpAny_pure ?_
  try dsimp only
  rw [List.forIn_nil]
  refine wpAny_pure ?_
  rw [if_neg (by simp)]
  try dsimp only
  refine wpAny_bind (wpAny_bind (wpAny_holding (wpAny_mono z (fun d s3 z => ?_) fun _ _ e => e)))
  refine wpAny_bind (wpAny_onRaise (wpAny_holding (z _ _ fun s4 z => ?_)))
  exact wpAny_pure (wpAny_pure z)
end
section
variable {X : Cx} {σ : L2.St} {H : Hp} {Q : VK} {e1 e2 ek : Expr} {pos : Pos}
theorem merges_inv {pins : List (Addr × Obj)} {s : Shared} {d o : Addr} {kvs more : List (Key × V)} (I : Inv X pins σ H s) (ed : H d = some (.dK kvs)) (eo : H o = some (.dK more)) (ne : d ≠ o) (hz : kvs.length + more.length ≤ sizeLine) {R : Shared → Prop}
    (h : ∀ s2, Inv X pins σ (upd H d (.dK (mergeK kvs more))) s2 → R s2) : Merges X.prog X.w X.A d (.ref o) R s :=
  fun E' Q' q => d_merge I ed eo ne (fun e => nomatch e) hz fun s' I' => q s' (h s' I')
/-- {**e1, **e2} -/
theorem we_dictMM (h : ∀ q, H q = none → WE X e1 σ (upd H q (.dK [])) fun v H1 => ∃ o m1, v = .ref o ∧ H1 q = some (.dK []) ∧ H1 o = some (.dK m1) ∧ q ≠ o ∧ m1.length ≤ 1000 ∧
      WE X e2 σ (upd H1 q (.dK (mergeK [] m1))) fun v2 H2 => ∃ o2 m2, v2 = .ref o2 ∧ H2 q = some (.dK (mergeK [] m1)) ∧ H2 o2 = some (.dK m2) ∧ q ≠ o2 ∧ m2.length ≤ 1000 ∧ Q (.ref q) (upd H2 q (.dK (mergeK (mergeK [] m1) m2)))) :
    WE X (.Dict [none, none] [e1, e2] pos) σ H Q := by
  intro pins s I
  have hn := I.hok.fresh (Nat.le_refl s.heap.objs.size)
  have I1 := I.laid (a := s.heap.objs.size) (o := .dK []) (h' := s.heap.push { cls := .type "dict", data := .dict #[] }) (t' := s.toks) (fun _ _ q => Heap.get?_push_of_some _ q) (Nat.le_refl _) (dk_empty s.heap I.big)
  rw [arm_eval_Dict]
  refine wpAny_bind (wpAny_standAt ?_)
  refine wpAny_dispMM (wpAny_bind (wpAny_mono (h _ hn _ _ I1) (fun v s2 z => ?_) fun _ _ e => e))
  obtain ⟨v', H1, I2, rv, o, m1, rfl, hq, ho, ne, l1, q⟩ := z
  cases rv
  refine wpAny_bind (wpAny_standAt (wpAny_pure (merges_inv I2 hq ho ne (by rw [sizeLine_eq, List.length_nil]; omega) fun s3 I3 => ?_)))
  refine wpAny_bind (wpAny_mono (q _ _ I3) (fun v s2 z => ?_) fun _ _ e => e)
  obtain ⟨v', H2, I4, rv, o2, m2, rfl, hq2, ho2, ne2, l2, q⟩ := z
  cases rv
  have hm := length_mergeK m1 []
  rw [List.length_nil] at hm
  exact wpAny_bind (wpAny_standAt (wpAny_pure (merges_inv I4 hq2 ho2 ne2 (by rw [sizeLine_eq]; omega) fun s5 I5 => ⟨.ref _, _, I5, rfl, q⟩)))
/-- {**e1, ek: e2} -/
theorem we_dictMK (h : ∀ q, H q = none → WE X e1 σ (upd H q (.dK [])) fun v H1 => ∃ o m1, v = .ref o ∧ H1 q = some (.dK []) ∧ H1 o = some (.dK m1) ∧ q ≠ o ∧ m1.length ≤ 1000 ∧
      ∀ p, p ≠ q → upd H1 q (.dK (mergeK [] m1)) p = none → WE X ek σ (upd (upd H1 q (.dK (mergeK [] m1))) p (.dK [])) fun y H2 => WE X e2 σ H2 fun v H3 => ∃ x, y = .str x ∧ H3 p = some (.dK []) ∧ H3 q = some (.dK (mergeK [] m1)) ∧
        Q (.ref q) (upd (upd H3 p (.dK [(.inr x, v)])) q (.dK (putK (mergeK [] m1) (.inr x) v)))) :
    WE X (.Dict [none, some ek] [e1, e2] pos) σ H Q := by
  intro pins s I
  have hn := I.hok.fresh (Nat.le_refl s.heap.objs.size)
  have I1 := I.laid (a := s.heap.objs.size) (o := .dK []) (h' := s.heap.push { cls := .type "dict", data := .dict #[] }) (t' := s.toks) (fun _ _ q => Heap.get?_push_of_some _ q) (Nat.le_refl _) (dk_empty s.heap I.big)
  rw [arm_eval_Dict]
  refine wpAny_bind (wpAny_standAt ?_)
  refine wpAny_dispMK (wpAny_bind (wpAny_mono (h _ hn _ _ I1) (fun v s2 z => ?_) fun _ _ e => e))
  obtain ⟨v', H1, I2, rv, o, m1, rfl, hq, ho, ne, l1, q⟩ := z
  cases rv
  refine wpAny_bind (wpAny_standAt (wpAny_pure (merges_inv I2 hq ho ne (by rw [sizeLine_eq, List.length_nil]; omega) fun s3 I3 => ?_)))
  have hn3 := I3.hok.fresh (Nat.le_refl s3.heap.objs.size)
  have np : s3.heap.objs.size ≠ s.heap.objs.size := fun e => by rw [e, upd_same] at hn3; cases hn3
  have I4 := I3.laid (a := s3.heap.objs.size) (o := .dK []) (h' := s3.heap.push { cls := .type "dict", data := .dict #[] }) (t' := s3.toks) (fun _ _ q => Heap.get?_push_of_some _ q) (Nat.le_refl _) (dk_empty s3.heap I3.big)
  obtain ⟨trs, pp, pq⟩ := pps_wp (X := X) (σ := σ) pos [some ek] [e2] rfl rfl
  have hw : WP X [some ek] [e2] σ (upd (upd H1 s.heap.objs.size (.dK (mergeK [] m1))) s3.heap.objs.size (.dK [])) (fun ps H3 => ∃ x v, ps = [(V.str x, v)] ∧ H3 s3.heap.objs.size = some (.dK []) ∧ H3 s.heap.objs.size = some (.dK (mergeK [] m1)) ∧
        Q (.ref s.heap.objs.size) (upd (upd H3 s3.heap.objs.size (.dK [(.inr x, v)])) s.heap.objs.size (.dK (putK (mergeK [] m1) (.inr x) v)))) :=
    wp_cons (we_mono (q _ np hn3) fun y H2 z => we_mono z fun v H3 z2 => wp_nil (by
      obtain ⟨x, e, z3⟩ := z2
      exact ⟨x, v, by rw [e], z3⟩))
  refine wpAny_subDict (knd := mixKind X.prog X.w) (show 1 ≤ 15 by decide) (wpAny_mono (pp.run _ _ _ _ _ I4 (pq _ _ hw)) (fun vs s5 z => ?_) fun _ _ e => e)
  obtain ⟨ps, H3, I5, rel, x, v, rfl, hp, hq3, qq⟩ := z
  obtain ⟨rs, c, rk⟩ := carries_of (P := X.prog) (w := X.w) (kvs := [((.inr x : Key), v)]) rel
  obtain ⟨z, hd, vs0, r0, dd⟩ := dk_of I5.hok hp
  cases r0
  refine ⟨rs, c, dd, fun h' dd' hs => ?_⟩
  have he : ∃ q, h'.get? s3.heap.objs.size = some q := let ⟨q, _, _, hq, _⟩ := dd'; ⟨q, hq⟩
  have I6 := d_write (t' := s5.toks + vs.length) I5 (by rw [hp]; exact True.intro) hs he (dk_new (kvs := [((.inr x : Key), v)]) (by rw [sizeLine_eq]; show 1 ≤ _; omega) hd (rk.merge .nil) dd')
  have hm := length_mergeK m1 []
  rw [List.length_nil] at hm
  exact merges_inv I6 ((upd_ne np.symm).trans hq3) upd_same np.symm (by rw [sizeLine_eq, List.length_singleton]; omega) fun s7 I7 => ⟨.ref _, _, I7, rfl, qq⟩
end
end Rs

namespace Rs
open PySem PySem.Spec PyProof.Rows L2 He
/-! ### a def with **kw, called with keywords -/
theorem upd_two {H : Hp} {a : Addr} {o o' : HO} : upd (upd H a o) a o' = upd H a o' := by
  funext b
  by_cases e : b = a
  · subst e; rw [upd_same, upd_same]
  · rw [upd_ne e, upd_ne e, upd_ne e]

section
variable {prog : Program} {w : World} {A : Around} {s : Shared} {E : Value → Shared → Prop}
theorem wpAny_nsSet_pairs {d : Addr} {kvs : List (Key × Value)} {n : Str} {v : Value} {Q : Unit → Shared → Prop} (hm : s.heap.DictOf (mixKind prog w) d kvs)
    (h : ∀ h', h'.DictOf (mixKind prog w) d (stored kvs (.inr n) v) → Heap.SameBut d s.heap h' → Q () { s with heap := h', toks := s.toks + 1 }) :
    wpAny (model prog w) A (nsSet d n v) Q E s := by
  obtain ⟨o, es, ep, ho, hc, hd, hk, hp, hn⟩ := hm
  have hidx : (es.findIdx? (·.key.isStr n)) = kvs.findIdx? fun kv => decide (kv.1 = .inr n) := by
    rw [← hp.findIdx (.inr n)]
    obtain ⟨l⟩ := es
    simp only [List.findIdx?_toArray]
    congr 1
    funext e
    cases q : e.key <;> simp [Value.isStr, mixKind, keyIs, Value.isStrOf]
  have e2 : es.any (·.refKey) = false := by
    rw [Array.any_eq_false']
    intro e he
    obtain ⟨k, hkey, _⟩ := hk e he
    rcases keyIs_shape (k := k) (v := e.key) hkey with ⟨i, t, _, q⟩ | ⟨x, t, _, q⟩ <;> simp [DictEntry.refKey, q]
  have c : aRefKeyMayBeTheName n es = false := by
    rw [aRefKeyMayBeTheName_at, e2, Bool.and_false]
  unfold nsSet
  refine wpAny_bind (wpAny_bind (wpAny_askSetting (wpAny_pure (wpAny_bind (wpAny_mkText (wpAny_bind (wpAny_loadPart ho ?_)))))))
  rw [hd]
  dsimp only
  rw [c]
  refine wpAny_updatePart ho (h _ ?_ (Heap.SameBut.update ..))
  obtain ⟨oc, od, odt, osl⟩ := o
  subst hd
  have hkey : (mixKind prog w).is (.inr n) (.str n s.toks) = true := keyIs_str n s.toks
  cases hi : es.findIdx? (·.key.isStr n) with
  | some i =>
    have e : ∀ hh, Obj.putName n hh (.str n s.toks) v ⟨oc, od, .dict es ep, osl⟩ = (⟨oc, od, .dict es ep, osl⟩ : Obj).mapDict (·.modify i fun e => { e with val := v }) := by
      intro hh; simp only [Obj.putName_eq, Obj.putNameByArray, hi]; rfl
    refine ⟨_, _, ep, Heap.get?_update_self _ ho (by first | (rw [e]; exact Obj.isFreed_of_dict (Obj.data_mapDict rfl _))), ?_, ?_, hk.modify i v, ?_, ?_⟩
    · rw [e]; exact hc.mapDict _
    · rw [e]; exact Obj.data_mapDict rfl _
    · rw [stored, if_pos (any_of_findIdx_some (hidx ▸ hi))]
      have hl : (es.toList.findIdx? fun e => (mixKind prog w).is (.inr n) e.key) = some i := by
        rw [hp.findIdx (.inr n), ← hidx]; exact hi
      have := hp.modify hn hl v
      obtain ⟨l⟩ := es
      simpa using this
    · rw [stored, if_pos (any_of_findIdx_some (hidx ▸ hi)), keys_map_store]; exact hn
  | none =>
    have hnot : (Sum.inr n : Key) ∉ kvs.map (·.1) := not_mem_of_findIdx_none (hidx ▸ hi)
    have hany : ¬ (kvs.any fun kv => decide (kv.1 = .inr n)) = true := by
      rw [List.any_eq_true]; rintro ⟨kv, hkv, he⟩
      exact hnot (List.mem_map.mpr ⟨kv, hkv, of_decide_eq_true he⟩)
    have e : ∀ hh, Obj.putName n hh (.str n s.toks) v ⟨oc, od, .dict es ep, osl⟩ = (⟨oc, od, .dict es ep, osl⟩ : Obj).mapDictKeys (·.push ⟨hh, .str n s.toks, v⟩) := by
      intro hh; simp only [Obj.putName_eq, Obj.putNameByArray, hi]; rfl
    refine ⟨_, _, ep + 1, Heap.get?_update_self _ ho (by first | (rw [e]; exact Obj.isFreed_of_dict (Obj.data_mapDictKeys rfl _))), ?_, ?_, hk.push hkey v, ?_, ?_⟩
    · rw [e]; exact hc.mapDictKeys _
    · rw [e]; exact Obj.data_mapDictKeys rfl _
    · rw [stored, if_neg hany]
      have := hp.append hkey ((mixKind prog w).hash (.inr n)) v
      obtain ⟨l⟩ := es
      simpa using this
    · rw [stored, if_neg hany, List.map_append, List.nodup_append]
      refine ⟨hn, by simp, ?_⟩
      intro a ha b hb
      simp only [List.map_cons, List.map_nil, List.mem_singleton] at hb
      subst hb
      exact fun e => hnot (e ▸ ha)
end
section
variable {X : Cx} {σ : L2.St}
theorem ns_fill {pins : List (Addr × Obj)} {A' : Around} {Ex : Value → Shared → Prop} {Q : PUnit → Shared → Prop} {p : Addr} : ∀ (ks : List Str) (zs : List V) (ws : List Value) (kvs : List (Key × V)) (s : Shared) (H : Hp), Inv X pins σ H s → H p = some (.dK kvs) → Vals zs ws → zs.length = ks.length → kvs.length + ks.length ≤ 1000 →
    (∀ s', Inv X pins σ (upd H p (.dK (mergeK kvs ((ks.map (Sum.inr : Str → Key)).zip zs)))) s' → Heap.SameBut p s.heap s'.heap → s'.os = s.os → (∃ q, s'.heap.get? p = some q) → Q ⟨⟩ s') →
    wpAny (model X.prog X.w) A' (forIn (ks.zip ws) PUnit.unit fun x _ => (nsSet p x.1 x.2 >>= fun _ => pure (ForInStep.yield PUnit.unit))) Q Ex s
  | [], [], _, kvs, s, H, I, hp, r, _, _, h => by
    cases r
    show wpAny _ _ (forIn [] _ _) _ _ _
    rw [List.forIn_nil]
    obtain ⟨_, _, vs, _, dd⟩ := dk_of I.hok hp
    refine wpAny_pure (h s ?_ (Heap.SameBut.refl _ _) rfl (let ⟨o, _, _, q, _⟩ := dd; ⟨o, q⟩))
    show Inv X pins σ (upd H p (.dK kvs)) s
    rw [upd_self hp]
    exact I
  | [], _ :: _, _, _, _, _, _, _, _, l, _, _ => nomatch l
  | _ :: _, [], _, _, _, _, _, _, _, l, _, _ => nomatch l
  | k :: ks, z :: zs, _, kvs, s, H, I, hp, r, l, hz, h => by
    cases r with
    | @cons _ u _ us r0 r1 =>
      show wpAny _ _ (forIn ((k, u) :: ks.zip us) _ _) _ _ _
      rw [List.forIn_cons]
      obtain ⟨_, hd, vs, rv, dd⟩ := dk_of I.hok hp
      refine wpAny_bind (wpAny_bind (wpAny_nsSet_pairs dd fun h' dd' hs => wpAny_pure ?_))
      have hl : (putK kvs (.inr k) z).length ≤ kvs.length + 1 := length_putK kvs _ z
      have I2 : Inv X pins σ (upd H p (.dK (putK kvs (.inr k) z))) { s with heap := h', toks := s.toks + 1 } :=
        d_write I (by rw [hp]; exact True.intro) hs (let ⟨q, _, _, hq, _⟩ := dd'; ⟨q, hq⟩) (dk_new (by rw [sizeLine_eq]; rw [List.length_cons] at hz; omega) hd (rv.put (.inr k) r0) dd')
      refine ns_fill ks zs us _ _ _ I2 upd_same r1 (Nat.succ.inj l) (by rw [List.length_cons] at hz; omega) fun s' I3 hs3 ho hq => h s' ?_ (hs.trans hs3) ho hq
      rw [upd_two] at I3
      exact I3
end
/-- a def called with the keywords ks, which go into its last parameter -/
def FnW (P : Program) (w : World) (K : PySem.W.Frag) (mg : Str → Option Value) (base : Heap) (k n : Nat) (f : Addr) (ks : List Str) (sp : Sp) : Prop :=
  ∀ (X : Cx) (pins : List (Addr × Obj)) (σ : L2.St) (H : Hp) (s : Shared) (us : List Value) (vs : List V) (ws : List Value) (zs : List V) (Q : VK) (E : XK), X.prog = P → X.w = w → X.K = K → X.mg = mg → X.base = base → Room k X.A → PassesAt (RX X.prog X.w) X σ E →
    Inv X pins σ H s → Vals vs us → vs.length = n → Vals zs ws → zs.length = ks.length → (∀ p, H p = none → sp (vs ++ [.ref p]) (upd H p (.dK ((ks.map (Sum.inr : Str → Key)).zip zs))) Q E) →
    wpAny (model X.prog X.w) X.A (call (.ref f) us (ks.zip ws)) (EP X pins σ Q) X.xe s
section
variable {P : Program} {w : World} {K : PySem.W.Frag} {mg : Str → Option Value} {base : Heap} {N ps : List Str} {pd name qual : Str} {pa : Arguments} {body : List Stmt} {sc : Scope} {f : Addr} {fd : FuncData} {k : Nat} {sp : Sp} {ks : List Str}
theorem def_kwP (F : FunD K name qual pa body sc [] [] f fd) (S : FnScope N (ps ++ [pd]) sc) (nd : ks.Nodup) (hz : ks.length ≤ 1000)
    (h : ∀ (kV doc pm : Value) (an : Option Addr) (cdv ct : Value) (us ws : List Value), us.length = ps.length → ws.length = ks.length →
      bindArgs (PySem.W.fnOf name qual pa body sc .none kV doc pm an cdv ct) ⟨us, ks.zip ws⟩ = ((alloc ({ cls := .type "dict", data := .dict #[] } : Obj) : Sem Addr) >>= fun d =>
        forIn (ks.zip ws) PUnit.unit (fun x _ => (nsSet d x.1 x.2 >>= fun _ => pure (ForInStep.yield PUnit.unit))) >>= fun _ => pure (ps.zip us ++ [(pd, Value.ref d)])))
    (hb : ∀ (X : Cx), X.prog = P → X.w = w → X.K = K → X.mg = mg → X.base = base → X.N = N → X.env.scope = sc → (∀ x, X.fn x = true) → N.Nodup → ∀ (H : Hp) (vs : List V) (Q : VK) (E : XK), Body X k (fun _ => E) → sp vs H Q E → WB X body { nx := fun _ H' => Q .non H', rt := Q } (start N vs) H) :
    FnW P w K mg base (k + 1) ps.length f ks sp := by
  intro X pins σ H s us vs ws zs Q E eP ew eK em eb hr hx I r ln rz lz hq
  subst eP ew eK em eb
  obtain ⟨oc, od, dV, kV, doc, pm, an, cdv, ct, osl, rfl, lk, hcd, hD, hK⟩ := F.ex
  rcases hD with ⟨_, rfl⟩ | ⟨e, _⟩
  case inr => exact absurd rfl e
  have hn : H s.heap.objs.size = Option.none := I.hok.fresh (Nat.le_refl _)
  have n1 : (ks.map (Sum.inr : Str → Key)).Nodup := List.Pairwise.map _ (fun a b h e => h (Sum.inr.inj e)) nd
  refine wpAny_call (codeAny_mono (StX.run_bnd (N := N) (ps := ps ++ [pd]) (k := k) (CX := RX X.prog X.w) (args := ⟨us, ks.zip ws⟩) (Q := Q) (E := E) (G := fun xs H2 => ∃ p, H p = Option.none ∧ xs = vs ++ [V.ref p] ∧ H2 = upd H p (.dK ((ks.map (Sum.inr : Str → Key)).zip zs))) lk hcd S hr I.env0 (fun A' Ex Q' hk => ?_) fun s2 H2 xs g hr' => ?_) (out_at hx I))
  · rw [h _ _ _ _ _ _ us ws (r.length.symm.trans ln) (rz.length.symm.trans lz)]
    refine wpAny_bind (wpAny_alloc ?_)
    have I1 := I.laid (a := s.heap.objs.size) (o := .dK []) (h' := s.heap.push { cls := .type "dict", data := .dict #[] }) (t' := s.toks) (fun _ _ q => Heap.get?_push_of_some _ q) (Nat.le_refl _) (dk_empty s.heap I.big)
    refine wpAny_bind (ns_fill ks zs ws [] _ _ I1 upd_same rz lz (by rw [List.length_nil]; omega) fun s2 I2 hs ho he => wpAny_pure ?_)
    rw [upd_two, mergeK_zip n1 (by rw [List.length_map, lz])] at I2
    have kp : ∀ b o, s.heap.get? b = some o → s2.heap.get? b = some o := fun b o q => (hs.2 b (Nat.ne_of_lt (Heap.lt_size q))).trans (Heap.get?_push_of_some _ q)
    have un : Un (frs X.stack) [] H (upd H s.heap.objs.size (.dK ((ks.map (Sum.inr : Str → Key)).zip zs))) s.heap s2.heap := Un.laid kp (Nat.le_refl _) hn
    have z := hk s2 _ (vs ++ [V.ref s.heap.objs.size]) (us ++ [Value.ref s.heap.objs.size]) I2.env0 un ho (fun e s' => cxUpN X.stack s H s2 _ E e s' un kp ho) (r.append (.cons rfl .nil)) (by rw [List.length_append, List.length_append, ln]; rfl) ⟨_, hn, rfl, rfl⟩
    rw [List.zip_append (ln.symm.trans r.length)] at z
    exact z
  · obtain ⟨p, hp, rfl, rfl⟩ := g
    exact ⟨_, pbS, hb (bx X.prog X.w X.K X.mg X.base N qual sc f cdv X.A X.stack s2 _ E) rfl rfl rfl rfl rfl rfl rfl (fun _ => rfl) S.nd _ _ Q E (body_of hr') (hq p hp)⟩
end
/-- a method called with keywords alone -/
def GMw (P : Program) (w : World) (K : PySem.W.Frag) (mg : Str → Option Value) (base : Heap) (k : Nat) (C : Addr) (m : Str) (ks : List Str) (sp : Sp) : Prop :=
  ∃ f, Meth K C m f ∧ FnW P w K mg base k 1 f ks sp
section
variable {X : Cx} {σ : L2.St} {H : Hp} {Q : VK} {k j : Nat} {E : L2.St → XK} {m : Str} {sp : Sp} {pos apos : Pos} {o : Expr} {C : Addr} {ks : List Str} {kws : List Keyword}
theorem we_methKW {pl : Sem Bool} (B : Body X k E) (c : Cls X.K C) (f : GMw X.prog X.w X.K X.mg X.base j C m ks sp) (hj : j ≤ k)
    (h : WE X o σ H fun y H1 => ∃ a dx fs, y = .ref a ∧ H1 a = some (.ins C dx fs) ∧ fs.lookup m = none ∧ WK X kws σ H1 fun zs H2 => zs.length = ks.length ∧ ∀ p, H2 p = none → sp [.ref a, .ref p] (upd H2 p (.dK ((ks.map (Sum.inr : Str → Key)).zip zs))) Q (E σ))
    (hall : (backToKw pos (keywordEach kws X.env)).all (·.1.isSome) = true := by rfl) (hks : (backToKw pos (keywordEach kws X.env)).filterMap (·.1) = ks := by rfl)
    (hpl : ((backTo pos (starEach [] X.env)).any (·.1) || (backToKw pos (keywordEach kws X.env)).any (·.1.isNone)) = false := by rfl)
    (ht : eval (.Call (.Attribute o m apos) [] kws pos) X.env = (do
      let it ← eval o X.env
      standAt apos.atName
      let (g, first) ← holding [it] (getMethod it m pl)
      callWith pos g first (backTo pos (starEach [] X.env)) (backToKw pos (keywordEach kws X.env))) := by rfl) : WE X (.Call (.Attribute o m apos) [] kws pos) σ H Q := by
  obtain ⟨g, hm, F⟩ := f
  intro pins s I
  refine PySem.W.methodCall_KW (pl := pl) (thn (h pins s I) fun u s1 z => ?_) ht
  obtain ⟨y, H1, I1, ry, a, dx, fs, rfl, e1, l, q⟩ := z
  cases ry
  refine getmeth_ok I1 e1 c hm l ?_
  refine PySem.W.callWith_KW0 (first := [.ref a]) (h₀ := X.base) I1.ok.mod.kin hm.kp hall ?_ hpl
  refine thn (q pos pins s1 I1) fun ws s2 z => ?_
  obtain ⟨zs, H2, I2, rz, lz, q2⟩ := z
  refine ⟨I2.kIn, ?_⟩
  rw [hks]
  exact F X pins σ H2 s2 [.ref a] [.ref a] ws zs Q (E σ) rfl rfl rfl rfl rfl (B.room.mono hj) (B.at σ) I2 (.cons rfl .nil) rfl rz lz q2
end
end Rs

namespace Rs
open PySem PySem.Spec PyProof.Rows L2 He
/-! ### o.f = v by a property's setter -/
structure PropSet (K : PySem.W.Frag) (C : Addr) (f : Str) (p g : Addr) : Prop where
  tk : PySem.W.takerIn K C f = some (some (.ref p))
  ty : PySem.W.typeIn K (.ref p) = some (.type "property")
  rc : ∃ a rest, PySem.W.recIn K p "property" = some (a :: .ref g :: rest)
def psA (K : PySem.W.Frag) (C : Addr) (m : Str) : Addr := match PySem.W.recIn K (ma K C m) "property" with
  | some (_ :: .ref g :: _) => g
  | _ => 0
def propSetB (K : PySem.W.Frag) (C : Addr) (m : Str) : Bool := decide (PySem.W.takerIn K C m = some (some (.ref (ma K C m)))) && (decide (PySem.W.typeIn K (.ref (ma K C m)) = some (.type "property")) &&
  (match PySem.W.recIn K (ma K C m) "property" with
    | some (_ :: .ref g :: _) => decide (g = psA K C m)
    | _ => false))
theorem propSet_ok {K : PySem.W.Frag} {C : Addr} {m : Str} (h : propSetB K C m = true) : PropSet K C m (ma K C m) (psA K C m) := by
  obtain ⟨h1, h⟩ := ba h
  obtain ⟨h2, h⟩ := ba h
  refine ⟨of_decide_eq_true h1, of_decide_eq_true h2, ?_⟩
  split at h
  · rename_i a g r q
    rw [← of_decide_eq_true h]
    exact ⟨a, r, q⟩
  · cases h
section
variable {X : Cx} {σ : L2.St} {H : Hp} {D : Ends} {k j : Nat} {E : L2.St → XK} {f : Str} {C p g : Addr} {sp : Sp} {value o : Expr} {pos pos' : Pos}
theorem ws_setp (B : Body X k E) (c : Cls X.K C) (hp : PropSet X.K C f p g) (F : FnR X.prog X.w X.K X.mg X.base (RX X.prog X.w) j g sp) (hj : j + 2 ≤ k)
    (h : WE X value σ H fun y H1 => WE X o σ H1 fun z H2 => ∃ a dx fs, z = .ref a ∧ H2 a = some (.ins C dx fs) ∧ sp [.ref a, y] H2 (fun _ H3 => D.nx σ H3) (E σ))
    (hs : swapsWith value (some (.Attribute o f pos')) pos.line X.env = pure false := by rfl) : WS X (.Assign [.Attribute o f pos'] value pos) D σ H := by
  intro pins s I
  refine plainObj_wpAny_Assign_Attribute (thn (h pins s I) fun u s1 z => ?_) hs
  obtain ⟨y, H1, I1, ry, z⟩ := z
  refine thn (z pins s1 I1) fun ov s2 z => ?_
  obtain ⟨x, H2, I2, rx, a, dx, fs, rfl, ea, q⟩ := z
  cases rx
  obtain ⟨mA, O, _, _, _, _⟩ := ins_get I2.hok ea
  obtain ⟨od, J, _⟩ := O.look
  obtain ⟨a1, rest, hrec⟩ := hp.rc
  have I3 := I2.tok (s2.toks + 1)
  refine PySem.W.set_plain I2.kIn J c.sa (PySem.W.osa_descr (s := { s2 with toks := s2.toks + 1 }) PySem.W.KF.slot_pset I3.kIn J c.po hp.tk hp.ty (PySem.W.prop_set (s := { s2 with toks := s2.toks + 1 }) I3.kIn hrec ?_))
  have hr := B.room.mono hj
  refine codeAny_mono (F X.A.in1.in1 X.stack { s2 with toks := s2.toks + 1 } H2 [.ref a, u] [.ref a, y] (fun _ H3 => D.nx σ H3) (E σ) ?hr ?he (.cons rfl (.cons ry .nil)) q) fun r s' hq => ?_
  case hr => exact hr.in1.in1
  case he => exact I3.env0.in1.in1
  have z := out_at (B.at σ) I3 r s' hq
  cases r with
  | error e => exact z
  | ok fl =>
    cases fl with
    | ret v =>
      obtain ⟨v', H3, I4, rv, q3⟩ := z
      exact ⟨σ, H3, I4, q3⟩
    | next => exact z.elim
    | brk => exact z.elim
    | cont => exact z.elim
end
/-! ### for x in d, d a dict that is not touched; all([..]) -/
section
variable {X : Cx} {σ : L2.St} {H : Hp} {D : Ends} {k : Nat} {E : L2.St → XK} {x : Str} {px pos p : Pos} {a : Expr} {i : Nat} {body : List Stmt} {Q : VK}
theorem for_keys {d : Addr} {o : Obj} {kvs : List (Key × V)} {g : TG} {tb : TS} (Pv : Nat → L2.St → Hp → Prop) (h0 : Pv 0 σ H) (hl : ∀ i σ H, i ≤ kvs.length → Pv i σ H → H d = some (.frz o (.dK kvs)))
    (hs : ∀ i k v σ H, kvs[i]? = some (k, v) → Pv i σ H → g (kV k) σ H fun σ2 H2 => tb { D with nx := Pv (i + 1), ct := Pv (i + 1), bk := D.nx } σ2 H2) (hd : ∀ σ H, Pv kvs.length σ H → D.nx σ H) :
    ∃ W : Nat → Nat → L2.St → Hp → Prop, (∃ m, W 0 m σ H) ∧ ∀ i m σ H, W i m σ H →
      ((Itk d o kvs).stop i H ∧ D.nx σ H) ∨ ((Itk d o kvs).go i H ∧ ∃ N : L2.St → Hp → Prop, (∀ σ' H', N σ' H' → ∃ m', m' < m ∧ W (i + 1) m' σ' H') ∧ ∀ x H', (Itk d o kvs).yld i H x H' → g x σ H' fun σ2 H2 => tb { D with nx := N, ct := N, bk := D.nx } σ2 H2) := by
  refine ⟨fun i m σ H => m = kvs.length - i ∧ i ≤ kvs.length ∧ Pv i σ H, ⟨kvs.length, by simp, Nat.zero_le _, h0⟩, ?_⟩
  rintro i m σ H ⟨rfl, hi, q⟩
  have hd0 := hl i σ H hi q
  by_cases hlt : i < kvs.length
  · refine .inr ⟨⟨hd0, hlt⟩, Pv (i + 1), fun σ' H' p' => ⟨kvs.length - (i + 1), by omega, rfl, hlt, p'⟩, fun x H' y => ?_⟩
    obtain ⟨rfl, k, v, hk, rfl⟩ := y
    exact hs i k v σ _ hk q
  · have e : i = kvs.length := by omega
    subst e
    exact .inl ⟨⟨hd0, Nat.le_refl _⟩, hd σ H q⟩
theorem ws_for_dict (B : Body X k E) (s : Sl X i x) (h : ∃ d kvs, H d = some (.dK kvs) ∧ ∀ od, WE X a σ (upd H d (.frz od (.dK kvs))) fun v H1 => v = .ref d ∧ ∃ P : Nat → L2.St → Hp → Prop, P 0 σ H1 ∧ (∀ j σ H, j ≤ kvs.length → P j σ H → H d = some (.frz od (.dK kvs))) ∧
      (∀ j k v σ H, kvs[j]? = some (k, v) → P j σ H → WB X body { nx := P (j + 1), ct := P (j + 1), bk := fun σ' H' => H' d = some (.frz od (.dK kvs)) ∧ D.nx σ' (upd H' d (.dK kvs)), rt := fun v H' => H' d = some (.frz od (.dK kvs)) ∧ D.rt v (upd H' d (.dK kvs)) } (σ.set i (some (kV k))) H) ∧
      ∀ σ H, P kvs.length σ H → D.nx σ (upd H d (.dK kvs))) (hs : ∀ v, foldedSetIterable a X.env v = pure v := by intro _; rfl) : WS X (.For (.Name x px) a body [] pos) D σ H := by
  refine wsP (ps_lock (ps_for B.po B.calm (pi_keys peS) (pg_name s.nd s.at_ s.loc s.fn) pbS hs)) ?_
  obtain ⟨d, kvs, hd, h⟩ := h
  refine ⟨d, .dK kvs, hd, True.intro, fun od => we_mono (h od) fun v H1 q => ?_⟩
  obtain ⟨rfl, P, q0, hl, ht, hn⟩ := q
  exact ⟨d, od, rfl, .inl ⟨kvs, hl 0 σ H1 (Nat.zero_le _) q0, for_keys P q0 hl (fun j k v σ H hk q => ht j k v σ H hk q) fun σ H q => ⟨hl _ σ H (Nat.le_refl _) q, hn σ H q⟩⟩⟩
theorem we_all (B : Body X k E) (bn : Bn X "all") (h : WE X a σ H fun v H1 => ∃ l, ∃ bs : List Bool, v = .ref l ∧ SqL X.K H1 l (bs.map V.bl) ∧ Q (.bl (bs.all id)) H1) (hs : starEach [a] X.env = [(false, eval a X.env)] := by rfl) (hl : (backTo pos (starEach [] X.env)).any (·.1) = false := by rfl) :
    WE X (.Call (.Name "all" p) [a] [] pos) σ H Q := we_callB (cr_all B.calm) bn PyProof.Rows.boot_all (wa_one (we_mono h fun v H1 q => by
    obtain ⟨l, bs, rfl, h1, q⟩ := q
    exact ⟨l, bs, rfl, h1, q⟩) hs) (by decide) (by decide) hs hl
end
end Rs

namespace Rs
open PySem PySem.Spec PyProof.Rows L2 He
/-! ### None == x, x == v of another kind, x an instance with an own == -/
section
variable {X : Cx} {k j : Nat} {E : XK} {C f a dx : Addr} {fs : List (Str × V)} {H : Hp} {Q : VK} {v : V}
theorem no_sub {K : PySem.W.Frag} {C : Addr} {T : String} (h : ∃ cd, PySem.W.clsIn K C = some cd ∧ cd.mro = [.ref C, .type "object"]) (ht : (Value.type T == .type "object") = false) : PySem.W.subIn K (.ref C) (.type T) = some false := by
  obtain ⟨cd, h1, h2⟩ := h
  show (PySem.W.clsIn K C).bind (fun cd => if cd.mro.isEmpty then none else some (cd.mro.contains (.type T))) = some false
  rw [h1]
  show (if cd.mro.isEmpty then none else some (cd.mro.contains (.type T))) = some false
  rw [h2]
  show some (([.ref C, .type "object"] : List Value).contains (.type T)) = some false
  simp only [List.contains_cons, List.contains_nil, Bool.or_false]
  rw [ht]
  simp
theorem looks_of_ty {M : Model} {s : Shared} {u : Value} {T : String} (h : s.TypeIs u T) : PySem.W.Looks M s.heap (typeOf u) (.type T) := by
  intro A Q E s' kp q
  refine wpAny_typeOf (s := s') ?_ q
  cases u with
  | ref a =>
    obtain ⟨o, ho, hc⟩ := h
    exact ⟨o, kp _ _ ho, hc⟩
  | _ => exact h
/-- None == x, where x's own == declines -/
theorem eq_non {sp : SpN} (B : Body X k fun _ => E) (c : NeOwn X.K C f) (hs : PySem.W.subIn X.K (.ref C) (.type "NoneType") = some false) (F : FnN X.prog X.w X.K X.mg X.base (RX X.prog X.w) j f sp) (hj : j ≤ k) (ea : H a = some (.ins C dx fs)) (h : sp [.ref a, .non] H (fun H' => Q (.bl false) H') E) :
    Op2 X (compareOp .Eq) .non (.ref a) H Q := by
  intro pins s σ u u' I ru rv
  cases ru
  cases rv
  obtain ⟨od, J⟩ := inst_of I ea
  have G := Fgn.non.at (v := .non) I rfl ea c
  have r1 := run_ni (us := [.ref a, .none]) (vs := [.ref a, .non]) F (B.room.mono hj) I.env0 B.pass I (.cons rfl (.cons rfl .nil)) h
  show wpAny _ _ (richCompare .Eq .none (.ref a)) _ _ s
  simp only [richCompare, cmpInfo_Eq]
  refine wpAny_holding (wpAny_bind (wpAny_cRoomFor B.room.units0 ?_))
  have e1 : oneThing? .Eq .none (.ref a) = none := rfl
  rw [e1]
  refine wpAny_bind (looks_ty (show s.TypeIs .none "NoneType" from rfl) (wpAny_bind (J.type.here ?_)))
  have ne : (Value.type "NoneType" != Value.ref C) = true := by simp
  simp only [ne, if_true]
  refine wpAny_bind ((PySem.W.looks_subIn I.kIn hs).here ?_)
  simp only [Bool.false_eq_true, if_false, Bool.not_false, if_true]
  refine wpAny_bind (m := tryCompare .none _ (.ref a)) (wpAny_mono (G.eq _ _ _ _) (fun r s2 z => ?_) fun _ _ z => z)
  obtain ⟨rfl, rfl⟩ := z
  refine wpAny_bind (m := tryCompare (.ref a) _ .none) ?_
  unfold tryCompare
  refine wpAny_bind (PySem.W.ifBound_K I.kIn J c.eq c.fn (wpAny_mono r1 (fun v s1 z => ?_) fun _ _ z => z))
  obtain ⟨rfl, H1, I1, q⟩ := z
  refine wpAny_pure ?_
  refine wpAny_bind (wpAny_rule (wpAny_bind (wpAny_of_eq (rfl : isSame .none (.ref a) = pure false) (wpAny_pure ⟨.bl false, H1, I1, rfl, q⟩))))
/-- x == v, v of another kind, where x's own == answers -/
theorem cmp_tf {sp : Sp} (B : Body X k fun _ => E) (c : CmpOwn X.K C f .Eq) (cn : NeOwn X.K C f) (F : FnR X.prog X.w X.K X.mg X.base (RX X.prog X.w) j f sp) (hj : j ≤ k) (ea : H a = some (.ins C dx fs)) (g : Fgn H v) (h : sp [.ref a, v] H Q E) : Op2 X (compareOp .Eq) (.ref a) v H Q := by
  intro pins s σ u u' I ru rv
  cases ru
  obtain ⟨od, J⟩ := inst_of I ea
  obtain ⟨m, hF⟩ := I.fr
  obtain ⟨T, hT, hs⟩ := (g.at I rv ea cn).ty
  rw [rich_eq]
  exact PySem.W.cmp_K (op := .Eq) (tb := .type T) B.room.units0 hF I.ok.mod.kin J (looks_of_ty hT) (by unfold PySem.W.notFirst; rw [hs]; simp) c.at_ c.fn (back (run_own (us := [.ref a, u']) (vs := [.ref a, v]) B F hj I (.cons rfl (.cons rv .nil)) h))
end
end Rs

namespace Rs
open PySem PySem.Spec PyProof.Rows L2 He
/-! ### an instance called -/
structure CallC (K : PySem.W.Frag) (C g : Addr) : Prop where
  at_ : PySem.W.findIn K (.ref C) "__call__" = some (some (.ref g))
  fn : PySem.W.isFn K (.ref g) = true
  fi : PySem.W.fnIn K g = true
theorem callC_ok {K : PySem.W.Frag} {C g : Addr} (h : callCB K C g = true) : CallC K C g := by
  obtain ⟨h1, h⟩ := ba h
  obtain ⟨h2, h3⟩ := ba h
  exact ⟨of_decide_eq_true h1, h2, h3⟩
section
variable {X : Cx} {σ : L2.St} {H : Hp} {Q : VK} {QA : List V → Hp → Prop} {k j i : Nat} {E : L2.St → XK} {sp : Sp} {p pos px pr pc : Pos} {fe e : Expr} {es : List Expr} {C g : Addr} {x : Str} {scope : Scope} {elt a : Expr}
theorem we_callO (B : Body X k E) (c : CallC X.K C g) (F : FnR X.prog X.w X.K X.mg X.base (RX X.prog X.w) j g sp) (hj : j ≤ k)
    (h : WE X fe σ H fun y H1 => ∃ a, y = .ref a ∧ WA X (e :: es) σ H1 fun vs H2 => (∃ dx fs, H2 a = some (.ins C dx fs)) ∧ sp (.ref a :: vs) H2 Q (E σ))
    (ht : eval (.Call fe (e :: es) [] pos) X.env = (do callWith pos (← eval fe X.env) [] (backTo pos (starEach (e :: es) X.env)) (backToKw pos (keywordEach [] X.env))) := by rfl)
    (he : starEach (e :: es) X.env = (false, eval e X.env) :: starEach es X.env := by rfl) (hpl : (backTo pos (starEach es X.env)).any (·.1) = false := by rfl) : WE X (.Call fe (e :: es) [] pos) σ H Q := by
  intro pins s I
  refine Call_ (thn (h pins s I) fun u s1 z => ?_) ht
  obtain ⟨y, H1, I1, ry, a, rfl, q⟩ := z
  obtain rfl : u = Value.ref a := ry
  refine StX.callO_with (thn (q pos pins s1 I1) fun us s2 z => ?_) he hpl
  obtain ⟨vs, H2, I2, r, ⟨dx, fs, hi⟩, q2⟩ := z
  obtain ⟨od, J⟩ := inst_of I2 hi
  refine ⟨⟨C, _, _, J, rfl⟩, ?_⟩
  exact wpAny_call (PySem.W.kco_code I2.kIn J rfl c.at_ c.fn c.fi (codeAny_mono (F _ X.stack s2 H2 (.ref a :: us) (.ref a :: vs) Q (E σ) (B.room.mono hj) I2.env0 (.cons rfl r) q2) (out_at (B.at σ) I2)))
/-! ### *e in a display -/
theorem wa_star (h : WE X e σ H fun x H1 => ∃ p xs, x = .ref p ∧ (SqT X.K H1 p xs ∨ SqL X.K H1 p xs) ∧ WA X es σ H1 fun ys H2 => QA (xs ++ ys) H2)
    (hs : starEach (.Starred e p :: es) X.env = (true, eval e X.env) :: starEach es X.env := by rfl) : WA X (.Starred e p :: es) σ H QA := waP (StX.pa_star peS paS hs) h
/-! ### [e for x in range(n)] -/
theorem we_lcR (B : Body X k E) (nd : X.N.Nodup) (bn : Bn X "range") (hi : X.N[i]? = some x) (hx : scope.names.lookup x = some .local) (ok : BlkOk X.N X.env.scope scope [(x, i)])
    (h : WE X a σ H fun v H1 => ∃ n' : Nat, v = .int n' ∧ n' ≤ 1000000000 ∧ LcR X scope elt i σ n' Q H1) (hst : starEach [a] X.env = [(false, eval a X.env)] := by rfl)
    (hs : ∀ v, foldedSetIterable (.Call (.Name "range" pr) [a] [] pc) X.env v = pure v := by intro _; rfl) : WE X (.ListComp elt [⟨.Name x px, .Call (.Name "range" pr) [a] [] pc, [], 0⟩] scope pos) σ H Q :=
  weP (pe_lc (own := [(x, i)]) (g := gName i) (tt := tYes) B.calm nd (pi_range1 bn.gl bn.no paS hst) ok (fun _ _ _ _ _ => pg_name nd hi (.inl (lookup_relS_keep (by decide) hx)) (.inr (lookup_relS_keep (by decide) hx))) (fun _ _ _ _ _ => pts_nil) peB hs) (lc_byR h hst)
end
end Rs

namespace Rs
open PySem PySem.Spec PyProof.Rows L2 He
/-! ### C(e, *xs, k=v) -/
section
variable {X : Cx} {σ : L2.St} {H : Hp} {Q : VK} {k j : Nat} {E : L2.St → XK} {x : Str} {sp : List V → Sp} {p pos : Pos} {e : Expr} {es : List Expr} {C : Addr} {ks : List Str} {kws : List Keyword}
theorem we_makeST (B : Body X k E) (gn : Gn X x) (f : GSK X.prog X.w X.K X.mg X.base j x C ks sp) (hj : j + 1 ≤ k) (h : WA X (e :: es) σ H fun vs H1 => WK X kws σ H1 fun zs H2 => zs.length = ks.length ∧ ∀ a dx, H2 a = none → H2 dx = none → dx ≠ a → sp (.ref a :: vs) zs (upd (upd H2 dx (.own a)) a (.ins C dx [])) (fun v H3 => v = .non ∧ Q (.ref a) H3) (E σ))
    (hall : (backToKw pos (keywordEach kws X.env)).all (·.1.isSome) = true := by rfl) (hks : (backToKw pos (keywordEach kws X.env)).filterMap (·.1) = ks := by rfl)
    (he : starEach (e :: es) X.env = (false, eval e X.env) :: starEach es X.env := by rfl) (hst : ((backTo pos (starEach (e :: es) X.env)).any (·.1) || (backToKw pos (keywordEach kws X.env)).any (·.1.isNone)) = true := by rfl) :
    WE X (.Call (.Name x p) (e :: es) kws pos) σ H Q := by
  obtain ⟨f, hm, M, F⟩ := f
  intro pins s I
  refine wpAny_Call_Name_kw (ld_glob I gn.gl hm ?_ gn.d1)
  refine callWith_starred (P := fun h => X.K.In h) hst (PySem.W.keeps_K M.kp) (evalArgs_kw2 hall (thn (h pos pins s I) fun us s1 z => ?_) he)
  obtain ⟨vs, H1, I1, r, q⟩ := z
  refine thn (q pos pins s1 I1) fun ws s2 z => ?_
  obtain ⟨zs, H2, I2, rz, l2, q⟩ := z
  refine ⟨I2.kIn, ?_⟩
  rw [hks]
  exact smake_at M F (B.room.mono hj) (B.at σ) I2 r rz l2 q
end
end Rs

/-! fractions of drawn numbers -/
namespace Mt
theorem dv_le {a b c d : Int} (hb : 0 < b) (hd : 0 < d) : Rat.divInt a b ≤ Rat.divInt c d ↔ a * d ≤ c * b := by
  obtain ⟨m, rfl⟩ := Int.eq_ofNat_of_zero_le (Int.le_of_lt hb)
  obtain ⟨n, rfl⟩ := Int.eq_ofNat_of_zero_le (Int.le_of_lt hd)
  have e1 : Rat.divInt a m = sc (m * n) (a * n) := by
    unfold sc
    rw [Int.natCast_mul, Rat.divInt_mul_right (by omega)]
  have e2 : Rat.divInt c n = sc (m * n) (c * m) := by
    unfold sc
    rw [Int.natCast_mul, Int.mul_comm (m : Int) (n : Int), Rat.divInt_mul_right (by omega)]
  have hn : m * n ≠ 0 := by
    have h1 : 0 < m := by omega
    have h2 : 0 < n := by omega
    exact Nat.ne_of_gt (Nat.mul_pos h1 h2)
  rw [e1, e2, ← Rat.not_lt, sc_lt hn, Int.not_lt]
theorem dv_lt {a b c d : Int} (hb : 0 < b) (hd : 0 < d) : Rat.divInt a b < Rat.divInt c d ↔ a * d < c * b := by
  rw [← Rat.not_le, dv_le hd hb, Int.not_le]
theorem dv_one {d : Int} (h : d ≠ 0) : Rat.divInt d d = 1 := Rat.divInt_self' h
theorem dv_pos {a b : Int} (hb : 0 < b) : 0 < Rat.divInt a b ↔ 0 < a := by
  have h := dv_lt (a := 0) (b := 1) (c := a) (d := b) (by decide) hb
  rw [Rat.zero_divInt, Int.zero_mul, Int.mul_one] at h
  exact h
theorem dv_nn {a b : Int} (hb : 0 < b) : 0 ≤ Rat.divInt a b ↔ 0 ≤ a := by
  have h := dv_le (a := 0) (b := 1) (c := a) (d := b) (by decide) hb
  rw [Rat.zero_divInt, Int.zero_mul, Int.mul_one] at h
  exact h
theorem dv_le1 {a b : Int} (hb : 0 < b) : Rat.divInt a b ≤ 1 ↔ a ≤ b := by
  have h := dv_le (a := a) (b := b) (c := 1) (d := 1) hb (by decide)
  rw [dv_one (by decide), Int.mul_one, Int.one_mul] at h
  exact h
theorem dv_ge1 {a b : Int} (hb : 0 < b) : 1 ≤ Rat.divInt a b ↔ b ≤ a := by
  have h := dv_le (a := 1) (b := 1) (c := a) (d := b) (by decide) hb
  rw [dv_one (by decide), Int.mul_one, Int.one_mul] at h
  exact h
end Mt

/-! rounds of small delays: where they stop, what they tell; over a bottom -/
namespace Mt
section
variable {W U : Int} {d : Bool} {ds : List (Option Int)}
/-- at most four delays, none above 32 units, the last one not lost -/
structure DSm (U : Int) (ds : List (Option Int)) : Prop where
  n0 : 0 < ds.length
  n4 : ds.length ≤ 4
  all : ∀ (j : Nat) (x : Int), (ds[j]?).getD none = some x → 1 ≤ x ∧ x ≤ 32 * U
  last : ∃ x, (ds[ds.length - 1]?).getD none = some x
theorem DSm.dl (h : DSm U ds) {k : Nat} {x : Int} (e : dlk ds k = some x) : 1 ≤ x ∧ x ≤ 32 * U := by
  unfold dlk at e
  split at e <;> exact h.all _ _ e
/-- an answer is one of a sending -/
theorem ans_of : ∀ (k : Nat) (a : Int), (rsk 0 W d ds k).ans = some a → ∃ j y, j < k ∧ dlk ds j = some y ∧ a = stk 0 W d j + y ∧ (rsk 0 W d ds k).dly = some y
  | 0, a, h => nomatch h
  | k + 1, a, h => by
    have ih := ans_of k
    unfold rsk at h ⊢
    generalize rsk 0 W d ds k = r at h ih ⊢
    obtain ⟨nd, an, ans, dly⟩ := r
    cases eo : dlk ds k with
    | none =>
      rw [eo] at h
      obtain ⟨j, y, hj, h1, h2, h3⟩ := ih a h
      exact ⟨j, y, by omega, h1, h2, h3⟩
    | some x =>
      rw [eo] at h
      cases ans with
      | none =>
        cases h
        exact ⟨k, x, by omega, eo, rfl, rfl⟩
      | some b =>
        have h' : (if stk 0 W d k + x < b then (⟨nd + 1, k, some (stk 0 W d k + x), some x⟩ : RS Int) else ⟨nd + 1, an, some b, dly⟩).ans = some a := h
        show ∃ j y, j < k + 1 ∧ dlk ds j = some y ∧ a = stk 0 W d j + y ∧ (if stk 0 W d k + x < b then (⟨nd + 1, k, some (stk 0 W d k + x), some x⟩ : RS Int) else ⟨nd + 1, an, some b, dly⟩).dly = some y
        by_cases c : stk 0 W d k + x < b
        · rw [if_pos c] at h' ⊢
          cases h'
          exact ⟨k, x, by omega, eo, rfl, rfl⟩
        · rw [if_neg c] at h' ⊢
          obtain ⟨j, y, hj, h1, h2, h3⟩ := ih a h'
          exact ⟨j, y, by omega, h1, h2, h3⟩
/-- an answer is behind the last sending -/
theorem ans_gt (h : DSm U ds) {k : Nat} {a : Int} (g : Gng 0 W d ds k) (e : (rsk 0 W d ds (k + 1)).ans = some a) : stk 0 W d k < a := by
  unfold Gng at g
  unfold rsk at e
  generalize rsk 0 W d ds k = r at g e
  obtain ⟨nd, an, ans, dly⟩ := r
  cases eo : dlk ds k with
  | none =>
    rw [eo] at e
    cases ans with
    | none => cases e
    | some b => cases e; exact g
  | some x =>
    have hx := h.dl eo
    rw [eo] at e
    cases ans with
    | none => cases e; omega
    | some b =>
      have e' : (if stk 0 W d k + x < b then (⟨nd + 1, k, some (stk 0 W d k + x), some x⟩ : RS Int) else ⟨nd + 1, an, some b, dly⟩).ans = some a := e
      have g' : stk 0 W d k < b := g
      by_cases c : stk 0 W d k + x < b
      · rw [if_pos c] at e'
        cases e'
        omega
      · rw [if_neg c] at e'
        cases e'
        exact g'
/-- a round that is over -/
structure Over (W U : Int) (d : Bool) (ds : List (Option Int)) (N : Nat) (a y : Int) : Prop where
  n0 : 0 < N
  nm : N ≤ 36
  st : ¬ Gng 0 W d ds N
  go : ∀ j, j < N → Gng 0 W d ds j
  ans : (rsk 0 W d ds N).ans = some a
  dly : (rsk 0 W d ds N).dly = some y
  a0 : stk 0 W d (N - 1) < a
  a1 : a ≤ 8 * W + 32 * U
  y0 : 1 ≤ y
  y1 : y ≤ 32 * U
theorem over_of (d : Bool) (hU : 1 ≤ U) (hW : U ≤ W) (h : DSm U ds) : ∃ N a y, Over W U d ds N a y := by
  obtain ⟨x, ex⟩ := h.last
  obtain ⟨n, en⟩ : ∃ n, ds.length = n + 1 := ⟨ds.length - 1, by have := h.n0; omega⟩
  have n4 := h.n4
  have ed : dlk ds n = some x := by
    unfold dlk
    rw [if_pos (by omega)]
    rw [en] at ex
    exact ex
  have hx := h.dl ed
  have b0 : Below (rsk 0 W d ds (n + 1)) (stk 0 W d n + x) := by
    show Below (rstep _ n _ (dlk ds n)) _
    rw [ed]
    exact below_new
  have bk : ∀ j, Below (rsk 0 W d ds (n + 1 + j)) (stk 0 W d n + x) := fun j => by
    induction j with
    | zero => exact b0
    | succ j ih => exact below_step ih
  have far := stk_far (W := W) (d := d) (by omega) n 32
  have st : ¬ Gng 0 W d ds (n + 32) := by
    obtain ⟨a, ea, la⟩ := bk 31
    rw [show n + 1 + 31 = n + 32 by omega] at ea
    unfold Gng
    rw [ea]
    show ¬ stk 0 W d (n + 32) < a
    omega
  obtain ⟨N, h1, h2, h3⟩ := least (P := fun k => ¬ Gng 0 W d ds k) (n + 32) st
  have go : ∀ j, j < N → Gng 0 W d ds j := fun j hj => Classical.byContradiction (h3 j hj)
  have n0 : 0 < N := by
    rcases Nat.eq_zero_or_pos N with e | e
    · subst e
      exact absurd trivial h2
    · exact e
  obtain ⟨a, ea⟩ : ∃ a, (rsk 0 W d ds N).ans = some a := by
    unfold Gng at h2
    cases q : (rsk 0 W d ds N).ans with
    | none => rw [q] at h2; exact absurd trivial h2
    | some a => exact ⟨a, rfl⟩
  obtain ⟨j, y, hj, e1, e2, e3⟩ := ans_of N a ea
  have hy := h.dl e1
  have s3 : ∀ k, k ≤ 3 → stk 0 W d k ≤ 8 * W := fun k hk => by
    have g := stk_le (W := W) (d := d) (by omega) k
    have p : (2 : Int) ^ k ≤ 8 := by
      have h := Int.ofNat_le.mpr (Nat.pow_le_pow_right (n := 2) (by decide) hk)
      rw [Int.natCast_pow] at h
      exact h
    have := Int.mul_le_mul_of_nonneg_left p (show 0 ≤ W by omega)
    omega
  have a1 : a ≤ 8 * W + 32 * U := by
    by_cases c : N ≤ n + 1
    · have := s3 j (by omega)
      omega
    · obtain ⟨b, eb, lb⟩ := bk (N - (n + 1))
      rw [show n + 1 + (N - (n + 1)) = N by omega, ea] at eb
      cases eb
      have := s3 n (by omega)
      omega
  obtain ⟨m, rfl⟩ : ∃ m, N = m + 1 := ⟨N - 1, by omega⟩
  exact ⟨m + 1, a, y, n0, by omega, h2, go, ea, e3, ans_gt h (go m (by omega)) ea, a1, hy.1, hy.2⟩
end
theorem sc_sub {L : Nat} (h : L ≠ 0) (a b : Int) : sc L (a - b) = sc L a - sc L b := by
  have e := sc_add h (a - b) b
  rw [show a - b + b = a by omega] at e
  rw [e]
  grind
theorem sc_up {L k : Nat} (hk : k ≠ 0) (i : Int) : sc (L * k) (i * k) = sc L i := by
  unfold sc
  rw [Int.natCast_mul, Rat.divInt_mul_right (by omega)]
theorem sc_le {L : Nat} (h : L ≠ 0) (a b : Int) : sc L a ≤ sc L b ↔ a ≤ b := by
  rw [← Rat.not_lt, sc_lt h, Int.not_lt]
theorem sc_mul {L m : Nat} (i j : Int) : sc L i * sc m j = sc (L * m) (i * j) := by
  unfold sc
  rw [Rat.divInt_mul_divInt, Int.natCast_mul]
theorem sc_inj {L : Nat} (h : L ≠ 0) {a b : Int} (e : sc L a = sc L b) : a = b := by
  have h1 : ¬ a < b := fun q => by
    have := (sc_lt h a b).mpr q
    rw [e] at this
    exact Rat.lt_irrefl this
  have h2 : ¬ b < a := fun q => by
    have := (sc_lt h b a).mpr q
    rw [e] at this
    exact Rat.lt_irrefl this
  omega
end Mt

namespace Rs
open PySem PySem.Spec PyProof.Rows L2 He
/-! ### a, b, c, d = e; t[:n]; (.., *t, ..) -/
section
variable {X : Cx} {k : Nat} {E : L2.St → XK} {σ : L2.St} {H : Hp} {D : Ends} {Q : VK} {a b e : Expr} {es : List Expr} {pos p2 : Pos}
theorem ws_unp4 {i0 i1 i2 i3 : Nat} {x0 x1 x2 x3 : Str} {q0 q1 q2 q3 pt : Pos} {kt : Nat} (B : Body X k E) (n0 : Sl X i0 x0) (n1 : Sl X i1 x1) (n2 : Sl X i2 x2) (n3 : Sl X i3 x3)
    (h : WE X e σ H fun v H1 => ∃ p v0 v1 v2 v3, v = .ref p ∧ SqT X.K H1 p [v0, v1, v2, v3] ∧ D.nx ((((σ.set i0 (some v0)).set i1 (some v1)).set i2 (some v2)).set i3 (some v3)) H1)
    (hs : swapsWithSole [.Tuple [.Name x0 q0, .Name x1 q1, .Name x2 q2, .Name x3 q3] kt pt] e pos.line X.env = pure false := by rfl) (hw : swappedStores [.Tuple [.Name x0 q0, .Name x1 q1, .Name x2 q2, .Name x3 q3] kt pt] e X.env = pure none := by rfl)
    (hn : (assignEach [Expr.Name x0 q0, .Name x1 q1, .Name x2 q2, .Name x3 q3] X.env).length = 4 := by rfl) (hst : (assignEach [Expr.Name x0 q0, .Name x1 q1, .Name x2 q2, .Name x3 q3] X.env).findIdx? (·.1) = none := by rfl)
    (h3 : (assignEach [Expr.Tuple [.Name x0 q0, .Name x1 q1, .Name x2 q2, .Name x3 q3] kt pt] X.env).map (·.2) = [assign (.Tuple [.Name x0 q0, .Name x1 q1, .Name x2 q2, .Name x3 q3] kt pt) X.env] := by rfl) :
    WS X (.Assign [.Tuple [.Name x0 q0, .Name x1 q1, .Name x2 q2, .Name x3 q3] kt pt] e pos) D σ H := by
  refine wsP (ps_asg peS (pg_tup B.calm (pgs_cons (pg_name n0.nd n0.at_ n0.loc n0.fn) (pgs_cons (pg_name n1.nd n1.at_ n1.loc n1.fn) (pgs_cons (pg_name n2.nd n2.at_ n2.loc n2.fn) (pgs_cons (pg_name n3.nd n3.at_ n3.loc n3.fn) pgs_nil)))) hn hst) hs hw h3) ?_
  refine we_mono h fun v H1 q => ?_
  obtain ⟨p, v0, v1, v2, v3, rfl, hq, z⟩ := q
  exact ⟨p, _, rfl, hq, rfl, v0, _, rfl, v1, _, rfl, v2, _, rfl, v3, _, rfl, rfl, z⟩
/-- a[:b] of a tuple -/
theorem we_cutT (h : WE X a σ H fun v H1 => WE X b σ H1 fun w H2 => ∃ p xs i, v = .ref p ∧ w = .int i ∧ H2 p = some (.tup xs) ∧ ∀ l H3, Ex H2 H3 → H3 l = some (.tup (cutV xs none (some i))) → Q (.ref l) H3) : WE X (.Subscript a (.Slice none (some b) none p2) pos) σ H Q :=
  weP (pe_slice sl_tupA peS po_none (po_some peS)) (we_mono h fun v H1 z => we_mono z fun w H2 z => by
    obtain ⟨p, xs, i, rfl, rfl, h1, z⟩ := z
    refine ⟨i, rfl, p, xs, rfl, .of h1, fun hw => z p H2 (.refl _) ?_, fun _ l nl => z l _ (Ex.new nl) upd_same⟩
    have e : cutV xs none (some i) = xs := by
      unfold cutV
      rw [hw.1, hw.2, Nat.sub_zero, List.drop_zero, List.take_length]
    rw [e]
    exact h1)
theorem cut_m1 (xs : List V) : cutV xs none (some (-1)) = xs.take (xs.length - 1) := by
  unfold cutV
  rw [HT.sIx_none, Nat.sub_zero, List.drop_zero]
  congr 1
  show (if (-1 : Int) < 0 then ((-1 : Int) + (xs.length : Int)).toNat else min (-1 : Int).toNat xs.length) = _
  rw [if_pos (by decide)]
  omega
/-- {} -/
theorem we_dict0 (h : ∀ p, H p = none → Q (.ref p) (upd H p (.dK []))) : WE X (.Dict [] [] pos) σ H Q := weP pe_dnewK h
/-- y = [e for x in t], t a tuple -/
theorem ws_setLcT {i n : Nat} {x y : Str} {scope : Scope} {elt iter : Expr} {px py spos : Pos} (B : Body X k E) (m : Sl X n y) (hy : X.env.scope.names.lookup y = some .local) (hk : X.env.scope.kind = .function) (hi : X.N[i]? = some x) (hx : scope.names.lookup x = some .local) (ok : BlkOk X.N X.env.scope scope [(x, i)])
    (h : WE X iter σ H fun v H1 => ∃ a xs, v = .ref a ∧ SqT X.K H1 a xs ∧ LcG X scope elt i (SqT X.K) σ a xs (fun v H' => D.nx (σ.set n (some v)) H') H1) (hl : (py.line == spos.line) = true := by rfl)
    (ha : (scope.names.any fun (n, k) => n == y && (k == .local || k == .cell)) = false := by decide +kernel) (he : pos.line = spos.line := by rfl) (hs : ∀ v, foldedSetIterable iter X.env v = pure v := by intro _; rfl) :
    WS X (.Assign [.Name y py] (.ListComp elt [⟨.Name x px, iter, [], 0⟩] scope pos) spos) D σ H :=
  wsP (ps_setLc (own := [(x, i)]) (g := gName i) (tt := tYes) B.calm m.nd m.at_ hy (sw_true hk hy (by rw [he]; exact hl) ha) (pi_tup peS) ok (fun _ _ _ _ _ => pg_name m.nd hi (.inl (lookup_relS_keep (by decide) hx)) (.inr (lookup_relS_keep (by decide) hx))) (fun _ _ _ _ _ => pts_nil) peB hs) (lc_byT h)
end
/-! ### len(x) of an own class -/
structure LenOwn (K : PySem.W.Frag) (C f : Addr) : Prop where
  at_ : PySem.W.findIn K (.ref C) "__len__" = some (some (.ref f))
  fn : PySem.W.isFn K (.ref f) = true
def lenOwnB (K : PySem.W.Frag) (C f : Addr) : Bool := decide (PySem.W.findIn K (.ref C) "__len__" = some (some (.ref f))) && PySem.W.isFn K (.ref f)
theorem lenOwn_ok {K : PySem.W.Frag} {C f : Addr} (h : lenOwnB K C f = true) : LenOwn K C f := by
  obtain ⟨h1, h2⟩ := ba h
  exact ⟨of_decide_eq_true h1, h2⟩
theorem we_lenO {X : Cx} {σ : L2.St} {H : Hp} {Q : VK} {k j : Nat} {E : XK} {C f : Addr} {sp : Sp} {a : Expr} {p pos : Pos} (bn : Bn X "len") (B : Body X k fun _ => E) (c : LenOwn X.K C f) (F : FnR X.prog X.w X.K X.mg X.base (RX X.prog X.w) j f sp) (hj : j + 1 ≤ k)
    (h : WE X a σ H fun v H1 => ∃ x dx fs, v = .ref x ∧ H1 x = some (.ins C dx fs) ∧ sp [.ref x] H1 (fun v H' => ∃ n : Nat, v = .int n ∧ n < 2 ^ 62 ∧ Q (.int n) H') E) (hs : starEach [a] X.env = [(false, eval a X.env)] := by rfl) (hl : (backTo pos (starEach [] X.env)).any (·.1) = false := by rfl) :
    WE X (.Call (.Name "len" p) [a] [] pos) σ H Q := by
  have hc : CallR X (.builtin "len") fun xs H Q => ∃ x dx fs, xs = [.ref x] ∧ H x = some (.ins C dx fs) ∧ sp [.ref x] H (fun v H' => ∃ n : Nat, v = .int n ∧ n < 2 ^ 62 ∧ Q (.int n) H') E := by
    intro pins s σ H xs us Q I r q
    obtain ⟨x, dx, fs, rfl, ea, q⟩ := q
    obtain ⟨u, rfl, ru⟩ := vals1 r
    cases ru
    obtain ⟨od, J⟩ := inst_of I ea
    obtain ⟨m, hF⟩ := I.fr
    refine PySem.W.len_K hF I.ok.mod.kin J c.at_ c.fn (wpAny_mono (wpAny_call (SlX.run_at (us := [.ref x]) (ws := [.ref x]) F (B.room.mono hj).in1 I.env0.in1 B.pass I (.cons rfl .nil) q)) (fun u s' z => ?_) fun _ _ z => z)
    obtain ⟨v, H', I', r', n, rfl, hn, q'⟩ := z
    obtain ⟨t, rfl⟩ := r'
    refine ⟨⟨by omega, by omega⟩, ?_⟩
    exact ⟨.int n, H', I'.tok _, ⟨_, rfl⟩, q'⟩
  exact we_callB hc bn boot_len (wa_one (we_mono h fun v H1 q => by
    obtain ⟨x, dx, fs, rfl, q⟩ := q
    exact ⟨x, dx, fs, rfl, q⟩) hs) (by decide) (by decide) hs hl
end Rs

/-! for loops within a generator; its text as its own reading; list(g) of a generator def. -/
namespace Gq
open PySem PySem.Spec PyProof.Rows L2 GenW
section
variable {prog : Program} {w : World} {A : Around} {R : GenEnd} {Y : Protocol} {n : Nat} {s₀ : Shared} {c : Code} {fs : List Frame} {s : Shared} {env : Env}
  {K : Flow → Sem PySem.Fin} {H : Value → Sem PySem.Fin} {gd : Bool → Bool} {lv : List Value → List Value}
/-- what follows an own activation's end -/
abbrev backK (K : Flow → Sem PySem.Fin) (H : Value → Sem PySem.Fin) (gd : Bool → Bool) (lv : List Value → List Value) (env : Env) : Result → Sem PySem.Fin := fun r =>
  ((match r with | .ok f => (.pure f : Sem Flow) | .error e => .raise e).onRaise (cameBack env)).wrap K H gd lv
theorem seg_For {tg iter : Expr} {body : List Stmt} {pos : Pos}
    (h : wpAny (model prog w) (A.over c fs) (eval iter env) (fun x s1 => wpAny (model prog w) (A.over c fs) (pyIter x) (fun it s2 =>
        ∀ p, Seg (model prog w) A R Y n s₀ (.forLoop tg it body [] env) ((model prog w).den (.forLoop tg it body [] env)) (.ret (backK K H gd lv env) none (gd false) (lv []) c p [] :: fs) s2)
      (fun x s' => Seg (model prog w) A R Y n s₀ c (H x) fs s') s1) (fun x s' => Seg (model prog w) A R Y n s₀ c (H x) fs s') s)
    (hs : ∀ x, foldedSetIterable iter env x = pure x) :
    Seg (model prog w) A R Y n s₀ c ((exec (.For tg iter body [] pos) env).wrap K H gd lv) fs s := by
  rw [exec_For]
  refine seg_bind_wrap (wpAny_standAt ?_)
  refine seg_bind_wrap (wpAny_mono h (fun x s1 h1 => ?_) fun _ _ z => z)
  refine seg_bind_wrap (wpAny_of_eq (hs x) ?_)
  refine seg_bind_wrap (wpAny_standAt ?_)
  refine seg_bind_wrap (wpAny_holding (wpAny_mono h1 (fun it s2 h2 => ?_) fun _ _ z => z))
  exact seg_call h2
/-- what is done with an exception that leaves a loop's turn -/
abbrev noteK (env : Env) : Value → Sem PySem.Fin := fun e => (do noteFrame e env; theTreesLotGoes e : Sem Unit).wrap (fun _ => .raise e) .raise id id
theorem seg_wrapK {α : Type} {m : Sem α} {K K' : α → Sem PySem.Fin} {H : Value → Sem PySem.Fin} {gd : Bool → Bool} {lv : List Value → List Value} (h : Seg (model prog w) A R Y n s₀ c (m.wrap K' H gd lv) fs s) (e : ∀ f, K f = K' f) : Seg (model prog w) A R Y n s₀ c (m.wrap K H gd lv) fs s := by
  rw [funext e]
  exact h
theorem seg_forLoop {tg : Expr} {it : Value} {body : List Stmt}
    (h : wpAny (model prog w) (A.over (.forLoop tg it body [] env) fs) (pyNext it) (fun r s1 => match r with
        | none => Seg (model prog w) A R Y n s₀ (.block [] env) ((model prog w).den (.block [] env)) fs s1
        | some v => wpAny (model prog w) (A.over (.forLoop tg it body [] env) fs) (letOwnedTupleGo tg it v) (fun _ s2 => wpAny (model prog w) (A.over (.forLoop tg it body [] env) fs) (assign tg env v) (fun _ s3 =>
            Seg (model prog w) A R Y n s₀ (.forLoop tg it body [] env) ((execs body env).wrap (fun f => match f with
              | .next | .cont => .pure (.again (.forLoop tg it body [] env))
              | .brk => .pure (.done .next)
              | .ret v => .pure (.done (.ret v))) (noteK env) id id) fs s3)
            (fun x s' => Seg (model prog w) A R Y n s₀ (.forLoop tg it body [] env) (noteK env x) fs s') s2)
            (fun x s' => Seg (model prog w) A R Y n s₀ (.forLoop tg it body [] env) (noteK env x) fs s') s1)
      (fun x s' => Seg (model prog w) A R Y n s₀ (.forLoop tg it body [] env) (noteK env x) fs s') s) :
    Seg (model prog w) A R Y n s₀ (.forLoop tg it body [] env) ((model prog w).den (.forLoop tg it body [] env)) fs s := by
  show Seg _ A R Y n s₀ _ ((forTurn tg it body [] env).onRaise (fun x => do noteFrame x env; theTreesLotGoes x)) fs s
  unfold forTurn
  rw [Sem.onRaise_eq_wrap]
  rw [Sem.wrap_congr _ _ _ (K' := (fun f => .pure f : PySem.Fin → Sem PySem.Fin)) (H' := noteK env) (fun f => rfl)
    (fun e => by first | exact Sem.bind_eq_wrap _ _ | (show (do noteFrame e env; theTreesLotGoes e : Sem Unit).bind (fun _ => .raise e) = _; rw [Sem.bind_eq_wrap]))]
  refine seg_bind_wrap (wpAny_standAt ?_)
  refine seg_bind_wrap (wpAny_onRaise (wpAny_mono h (fun r s1 h1 => ?_) fun x s' hx => wpAny_standAt hx))
  cases r with
  | none => exact seg_again rfl h1
  | some v =>
    refine seg_bind_wrap (wpAny_mono h1 (fun _ s2 h2 => ?_) fun _ _ z => z)
    refine seg_bind_wrap (wpAny_mono h2 (fun _ s3 h3 => ?_) fun _ _ z => z)
    show Seg _ A R Y n s₀ _ (Sem.wrap _ _ _ _ (execs body env >>= _)) fs s3
    rw [Sem.bind_eq_wrap', Sem.wrap_wrap]
    exact seg_wrapK h3 fun f => by cases f <;> rfl
end
/-! ### for over an iterator of the generator's own -/
section
variable {X : Cx} {tg iter : Expr} {body : List Stmt} {wi : TI} {g : TG} {tb : TGn} {pos : Pos}
def tGFor (wi : TI) (g : TG) (tb : TGn) : TGn := fun D ys σ H => wi σ H fun J H1 => ∃ W : Nat → Nat → List V → L2.St → Hp → Prop, (∃ m, W 0 m ys σ H1) ∧ ∀ i m ys σ H, W i m ys σ H →
  (J.stop i H ∧ D.nx ys σ H) ∨ (J.go i H ∧ ∃ N : List V → L2.St → Hp → Prop, (∀ ys' σ' H', N ys' σ' H' → ∃ m', m' < m ∧ W (i + 1) m' ys' σ' H') ∧ ∀ x H', J.yld i H x H' → g x σ H' fun σ2 H2 => tb { D with nx := N, ct := N, bk := D.nx } ys σ2 H2)
theorem gs_for (hp : PassesOwn (model X.prog X.w) X.A X.env X.xe) (hc : X.calm = true) (hi : PI X tg iter wi) (hg : PG X tg g) (hb : GSs X body tb)
    (hs : ∀ x, foldedSetIterable iter X.env x = pure x := by intro _; rfl) : GS X (.For tg iter body [] pos) (tGFor wi g tb) := by
  refine ⟨fun A S ip R n ys s₀ c fs K J gd lv s σ H D gc hn k hI ht => ?_⟩
  obtain ⟨acc, cc, r, I⟩ := hI
  refine seg_For ?_ hs
  rw [gc.over]
  refine wpAny_mono (hi.run _ s σ H _ I ht) (fun v s1 h1 => ?_) fun x s' hx => k.exc n s₀ x s' hx
  refine wpAny_mono h1 (fun itv s2 h2 => ?_) fun x s' hx => k.exc n s₀ x s' hx
  obtain ⟨it, fp, tn, Jt, H2, e, I2, T, st2, f2, W, ⟨m0, w0⟩, turn⟩ := h2
  subst e
  intro p
  have gl := gc_loop (k := backK K J gd lv X.env) (c' := .forLoop tg (.ref it) body [] X.env) (l := lv []) (kp := []) (p := p) gc rfl rfl
  have fS : ∀ b ∈ fp, b ≠ S := fun b hb z => (f2 b hb).2.2.2.2.2 (S, lstObj acc cc) (List.mem_append_right _ List.mem_cons_self) z.symm
  have stat : ∀ {H' : Hp} {acc' : Array Value} {c' : Nat}, (∀ b ∈ fp, H' b = none) → ∀ b ∈ fp, FpOk X ((S, lstObj acc' c') :: ip) H' b := fun {H' acc' c'} hn b hb => by
    obtain ⟨g0, g1, g2, g3, g4, g5⟩ := f2 b hb
    refine ⟨hn b hb, g1, g2, g3, g4, fun q hq => ?_⟩
    rcases List.mem_append.mp hq with hq | hq
    · exact g5 q (List.mem_append_left _ hq)
    · rcases List.mem_cons.mp hq with hq | hq
      · rw [hq]; exact fun z => fS b hb z.symm
      · exact g5 q (List.mem_append_right _ (List.mem_cons_of_mem _ hq))
  have loop : ∀ (m i n : Nat) (ys : List V) (s₀ s : Shared) (σ : L2.St) (H : Hp), n + ys.length = sizeLine → W i m ys σ H → GI X S ip ys σ H s → tn i s.heap → (∀ b ∈ fp, H b = none) →
      Seg (model X.prog X.w) A R (GY X S) n s₀ (.forLoop tg (.ref it) body [] X.env) ((model X.prog X.w).den (.forLoop tg (.ref it) body [] X.env))
        (.ret (backK K J gd lv X.env) none (gd false) (lv []) c p [] :: fs) s := by
    intro m
    induction m using Nat.strongRecOn with
    | ind m ih =>
      intro i n ys s₀ s σ H hn w hI st fr
      have ee : ∀ (n : Nat) (s₀ : Shared) (x : Value) (s' : Shared), X.xe x s' → Seg (model X.prog X.w) A R (GY X S) n s₀ (.forLoop tg (.ref it) body [] X.env) (noteK X.env x)
          (.ret (backK K J gd lv X.env) none (gd false) (lv []) c p [] :: fs) s' := fun n s₀ x s' hx => by
        refine seg_wrap ?_
        rw [gl.over]
        refine wpAny_bind (wpAny_mono (hp x s' hx) (fun _ s'' hcb => wpAny_theTreesLotGoes ?_) fun y s'' hcb => ?_)
        · exact seg_leaf (.error x) (seg_cameBack gc k hcb)
        · exact seg_leaf (.error y) (seg_cameBack gc k hcb)
      refine seg_forLoop ?_
      rw [gl.over]
      obtain ⟨acc, cc, r, I⟩ := hI
      rcases turn i m ys σ H w with ⟨stop, qn⟩ | ⟨go, N, hN, step⟩
      · refine thn (T.done X rfl rfl rfl hc i _ s σ H _ I (stat fr) st stop) fun r' s4 ⟨hr, I4⟩ => ?_
        subst hr
        show Seg _ _ _ _ n s₀ _ (leafOf (.ok .next)) _ s4
        exact seg_leaf (.ok .next) (k.ok n ys s₀ s4 .next hn ⟨σ, H, ⟨acc, cc, r, I4⟩, qn⟩)
      · refine wpAny_mono (T.item X rfl rfl rfl hc i _ s σ H X.xe I (stat fr) st go) (fun r' s4 ⟨u, hr, h4⟩ => ?_) fun x s' hx => ee n s₀ x s' hx
        subst hr
        refine wpAny_mono h4 (fun _ s5 ⟨x, H5, I5, r5, y5, st5, fr5⟩ => ?_) fun x s' hx => ee n s₀ x s' hx
        have I5' : Inv X ((S, lstObj acc cc) :: (ip ++ pinsAt fp s5.heap)) σ H5 s5 := I5.pinned (stat fr5) (T.obj _ _ st5)
        refine wpAny_mono (hg.run _ s5 σ H5 x u _ I5' r5 (step x H5 y5)) (fun _ s6 ⟨σ6, H6, I6, q6⟩ => ?_) fun x s' hx => ee n s₀ x s' hx
        have gl' : GC X S (ip ++ pinsAt fp s5.heap) A (.forLoop tg (.ref it) body [] X.env) (.ret (backK K J gd lv X.env) none (gd false) (lv []) c p [] :: fs) id :=
          { gl with ip := fun q hq => (List.mem_append.mp hq).elim (fun z => gl.ip q z) fun z => fS q.1 (of_pinsAt z).1 }
        have unp : ∀ {ys' : List V} {σ' : L2.St} {H' : Hp} {s' : Shared}, GI X S (ip ++ pinsAt fp s5.heap) ys' σ' H' s' → GI X S ip ys' σ' H' s' ∧ tn (i + 1) s'.heap ∧ ∀ b ∈ fp, H' b = none := fun {ys' σ' H' s'} hG => by
          obtain ⟨acc', cc', r', I'⟩ := hG
          have pin' : ∀ b ∈ fp, ∀ o, s5.heap.get? b = some o → s'.heap.get? b = some o ∧ H' b = none := fun b hb o e => by
            have z := I'.pin (b, o) (List.mem_append_right _ (List.mem_cons_of_mem _ (List.mem_append_right _ (mem_pinsAt hb e))))
            exact ⟨z.1, z.2.1⟩
          refine ⟨⟨acc', cc', r', I'.pins_of fun q hq => I'.pin q ?_⟩, T.keep _ _ _ st5 fun b hb o e => (pin' b hb o e).1, fun b hb => ?_⟩
          · rcases List.mem_cons.mp hq with z | z
            · rw [z]; exact List.mem_append_right _ List.mem_cons_self
            · exact List.mem_append_right _ (List.mem_cons_of_mem _ (List.mem_append_left _ z))
          · obtain ⟨o, e, _⟩ := T.obj _ _ st5 b hb
            exact (pin' b hb o e).2
        refine hb.run A S _ R n ys s₀ _ _ _ _ id id s6 σ6 H6 _ gl' hn ⟨fun n' ys' s₀' s3 f hn' hs' => ?_, fun n' s₀' x s3 hx => ee n' s₀' x s3 hx⟩ ⟨acc, cc, r, I6⟩ q6
        have nxt : ∀ {σ3 : L2.St} {H3 : Hp}, GI X S (ip ++ pinsAt fp s5.heap) ys' σ3 H3 s3 → N ys' σ3 H3 →
            Seg (model X.prog X.w) A R (GY X S) n' s₀' (.forLoop tg (.ref it) body [] X.env) (.pure (.again (.forLoop tg (.ref it) body [] X.env))) (.ret (backK K J gd lv X.env) none (gd false) (lv []) c p [] :: fs) s3 := fun {σ3 H3} I3 n3 => by
          obtain ⟨m', hm, w3⟩ := hN ys' σ3 H3 n3
          obtain ⟨J1, J2, J3⟩ := unp I3
          exact seg_again rfl (ih m' hm (i + 1) n' ys' s₀' s3 σ3 H3 hn' w3 J1 J2 J3)
        cases f with
        | next => obtain ⟨σ3, H3, I3, n3⟩ := hs'; exact nxt I3 n3
        | cont => obtain ⟨σ3, H3, I3, n3⟩ := hs'; exact nxt I3 n3
        | brk => obtain ⟨σ3, H3, I3, n3⟩ := hs'; exact seg_leaf (.ok .next) (k.ok n' ys' s₀' s3 .next hn' ⟨σ3, H3, (unp I3).1, n3⟩)
        | ret v => obtain ⟨x3, σ3, H3, I3, r3, n3⟩ := hs'; exact seg_leaf (.ok (.ret v)) (k.ok n' ys' s₀' s3 (.ret v) hn' ⟨x3, σ3, H3, (unp I3).1, r3, n3⟩)
  exact loop m0 0 n ys s₀ s2 σ H2 hn w0 ⟨acc, cc, r, I2⟩ st2 fun b hb => (f2 b hb).1
end
end Gq

namespace Rs
open PySem PySem.Spec PyProof.Rows L2 He
/-! ### a generator's text as its own reading; ys: what is out so far -/
section
variable {X : Cx}
def WG (X : Cx) (st : Stmt) : TGn := fun D ys σ H => ∀ (A : Around) (S : Addr) (ip : List (Addr × Obj)) (R : GenEnd) (n : Nat) (s₀ : Shared) (c : Code) (fs : List Frame) (K : Flow → Sem PySem.Fin) (J : Value → Sem PySem.Fin) (gd : Bool → Bool) (lv : List Value → List Value) (s : Shared),
  GC X S ip A c fs gd → n + ys.length = sizeLine → GK X S ip A R c fs K J D → GI X S ip ys σ H s → Seg (model X.prog X.w) A R (GY X S) n s₀ c ((exec st X.env).wrap K J gd lv) fs s
def WGs (X : Cx) (st : List Stmt) : TGn := fun D ys σ H => ∀ (A : Around) (S : Addr) (ip : List (Addr × Obj)) (R : GenEnd) (n : Nat) (s₀ : Shared) (c : Code) (fs : List Frame) (K : Flow → Sem PySem.Fin) (J : Value → Sem PySem.Fin) (gd : Bool → Bool) (lv : List Value → List Value) (s : Shared),
  GC X S ip A c fs gd → n + ys.length = sizeLine → GK X S ip A R c fs K J D → GI X S ip ys σ H s → Seg (model X.prog X.w) A R (GY X S) n s₀ c ((execs st X.env).wrap K J gd lv) fs s
theorem wgS {st : Stmt} : GS X st (WG X st) := ⟨fun A S ip R n _ s₀ c fs K J gd lv s _ _ _ g hn k I h => h A S ip R n s₀ c fs K J gd lv s g hn k I⟩
theorem wgsS {st : List Stmt} : GSs X st (WGs X st) := ⟨fun A S ip R n _ s₀ c fs K J gd lv s _ _ _ g hn k I h => h A S ip R n s₀ c fs K J gd lv s g hn k I⟩
variable {σ : L2.St} {H : Hp} {D : GEnds} {ys : List V} {k j : Nat} {E : L2.St → XK} {x : Str} {p pos yp : Pos} {e a : Expr} {st : Stmt} {rest body : List Stmt} {i : Nat}
theorem wgP {t : TGn} (q : GS X st t) (h : t D ys σ H) : WG X st D ys σ H := fun A S ip R n s₀ c fs K J gd lv s g hn k I => q.run A S ip R n ys s₀ c fs K J gd lv s σ H D g hn k I h
theorem wgsP {t : TGn} (q : GSs X rest t) (h : t D ys σ H) : WGs X rest D ys σ H := fun A S ip R n s₀ c fs K J gd lv s g hn k I => q.run A S ip R n ys s₀ c fs K J gd lv s σ H D g hn k I h
theorem wg_plain (h : WS X st (D.at ys) σ H) : WG X st D ys σ H := wgP (gs_ps psS) h
theorem wgs_nil (h : D.nx ys σ H) : WGs X [] D ys σ H := wgsP gss_nil h
theorem wgs_cons (h : WG X st { D with nx := fun ys' σ' H' => WGs X rest D ys' σ' H' } ys σ H) : WGs X (st :: rest) D ys σ H := wgsP (gss_cons wgS wgsS) h
/-- a statement that hands out nothing, by what it leaves -/
theorem wgs_to (P : L2.St → Hp → Prop) (h : WS X st { nx := P, rt := D.rt ys, bk := D.bk ys, ct := D.ct ys } σ H) (n : ∀ σ' H', P σ' H' → WGs X rest D ys σ' H') : WGs X (st :: rest) D ys σ H :=
  wgs_cons (wg_plain (ws_mono h n (fun _ _ z => z) (fun _ _ z => z) (fun _ _ z => z)))
theorem wg_yield (hl : ys.length < sizeLine) (h : WE X e σ H fun v H1 => D.nx (ys ++ [v]) σ H1) (hco : X.env.scope.isCoroutine = false) (hi : interactive X.env = false := by rfl) : WG X (.Expr (.Yield (some e) yp) pos) D ys σ H :=
  wgP (gs_yield peS hco hi) ⟨hl, h⟩
theorem wgs_one (h : WG X st D ys σ H) : WGs X [st] D ys σ H := wgs_cons (fun A S ip R n s₀ c fs K J gd lv s g hn k I => h A S ip R n s₀ c fs K J gd lv s g hn
  ⟨fun n' ys' s₀' s' f hn' hs => by
    cases f with
    | next =>
      obtain ⟨σ', H', I', q⟩ := hs
      exact k.ok n' ys' s₀' s' .next hn' ⟨σ', H', I', fun A S ip R n s₀ c fs K J gd lv s g hn k2 I2 => seg_execs_nil (k2.ok n ys' s₀ s .next hn ⟨σ', H', I2, q⟩)⟩
    | brk => exact k.ok n' ys' s₀' s' .brk hn' hs
    | cont => exact k.ok n' ys' s₀' s' .cont hn' hs
    | ret u => exact k.ok n' ys' s₀' s' (.ret u) hn' hs, k.exc⟩ I)
theorem wg_for_range {pr pc px : Pos} {n : Int} (B : Body X k E) (s : Sl X i x) (bn : Bn X "range") (P : Nat → List V → L2.St → Hp → Prop)
    (h : WE X a σ H fun v H1 => v = .int n ∧ P 0 ys σ H1)
    (ht : ∀ j ys σ H, j < n.toNat → P j ys σ H → WGs X body { D with nx := P (j + 1), ct := P (j + 1), bk := D.nx } ys (σ.set i (some (.int j))) H) (hd : ∀ ys σ H, P n.toNat ys σ H → D.nx ys σ H) (lo : -1000000000 ≤ n := by decide) (hi : n ≤ 1000000000 := by decide)
    (hs : starEach [a] X.env = [(false, eval a X.env)] := by rfl) : WG X (.For (.Name x px) (.Call (.Name "range" pr) [a] [] pc) body [] pos) D ys σ H := by
  refine wgP (Gq.gs_for B.po B.calm (pi_range1 bn.gl bn.no paS hs) (pg_name s.nd s.at_ s.loc s.fn) wgsS) ?_
  refine wa_one (we_mono h fun v H1 q => ?_) hs
  obtain ⟨rfl, q⟩ := q
  refine ⟨n, rfl, by omega, by omega, fun i m ys σ H => m = n.toNat - i ∧ i ≤ n.toNat ∧ P i ys σ H, ⟨n.toNat, by simp, Nat.zero_le _, q⟩, ?_⟩
  rintro j m ys σ H ⟨rfl, hi', p⟩
  by_cases hlt : j < n.toNat
  · refine .inr ⟨hlt, P (j + 1), fun ys' σ' H' p' => ⟨n.toNat - (j + 1), by omega, rfl, hlt, p'⟩, fun x H' y => ?_⟩
    obtain ⟨e, y⟩ := y
    subst e y
    have z := ht j ys σ _ hlt p
    show WGs X body _ ys (σ.set i (some (.int (0 + (j : Int))))) _
    rw [Int.zero_add]
    exact z
  · have e : j = n.toNat := by omega
    subst e
    exact .inl ⟨Nat.le_refl _, hd ys σ H p⟩
/-- for x in a list that stands still -/
theorem wg_for_list {px : Pos} {xs : List V} (B : Body X k E) (s : Sl X i x) (P : Nat → List V → L2.St → Hp → Prop)
    (h : WE X a σ H fun v H1 => ∃ l, v = .ref l ∧ P 0 ys σ H1 ∧ (∀ j ys σ H, j ≤ xs.length → P j ys σ H → SqL X.K H l xs))
    (ht : ∀ j v ys σ H, xs[j]? = some v → P j ys σ H → WGs X body { D with nx := P (j + 1), ct := P (j + 1), bk := D.nx } ys (σ.set i (some v)) H) (hd : ∀ ys σ H, P xs.length ys σ H → D.nx ys σ H) (hs : ∀ v, foldedSetIterable a X.env v = pure v := by intro _; rfl) : WG X (.For (.Name x px) a body [] pos) D ys σ H := by
  refine wgP (Gq.gs_for B.po B.calm (pi_list peS) (pg_name s.nd s.at_ s.loc s.fn) wgsS hs) ?_
  refine we_mono h fun v H1 q => ?_
  obtain ⟨l, rfl, q0, hl⟩ := q
  refine ⟨l, rfl, ⟨xs, hl 0 ys σ H1 (Nat.zero_le _) q0⟩, fun i m ys σ H => m = xs.length - i ∧ i ≤ xs.length ∧ P i ys σ H, ⟨xs.length, by simp, Nat.zero_le _, q0⟩, ?_⟩
  rintro j m ys σ H ⟨rfl, hi, p⟩
  have q := hl j ys σ H hi p
  by_cases hlt : j < xs.length
  · refine .inr ⟨⟨xs, xs[j], q, by simp [hlt]⟩, P (j + 1), fun ys' σ' H' p' => ⟨xs.length - (j + 1), by omega, rfl, hlt, p'⟩, fun x H' y => ?_⟩
    obtain ⟨e, y⟩ := y
    subst e
    exact ht j x ys σ _ (y xs q) p
  · have e : j = xs.length := by omega
    subst e
    exact .inl ⟨⟨xs, q, Nat.le_refl _⟩, hd ys σ H p⟩
end
/-! ### a generator def by its body -/
theorem traced_mono {h base : Heap} {e : Addr} {Z Z' : Obj → Prop} {fl : Value} (z : ∀ o, Z o → Z' o) (x : HandSPX.TracedZ h base e Z fl) : HandSPX.TracedZ h base e Z' fl := by
  obtain ⟨oe, vs, T, oT, ts, h1, h2, r⟩ := x
  exact ⟨oe, vs, T, oT, ts, h1, z oe h2, r⟩
theorem sky_mono {B : Heap} {l : List Env} {a : Addr} {Z Z' : Obj → Prop} {L : Addr} {h : Heap} (z : ∀ o, Z o → Z' o) (x : L2.Sky B l a Z L h) : L2.Sky B l a Z' L h := by
  rcases x with ⟨h1, h2, h3, oe, vs, h4, h5, r⟩ | ⟨h1, h2, h3, t⟩ | ⟨h1, h2, h3, t⟩
  · exact .inl ⟨h1, h2, h3, oe, vs, h4, z oe h5, r⟩
  · exact .inr (.inl ⟨h1, h2, h3, traced_mono z t⟩)
  · exact .inr (.inr ⟨h1, h2, h3, traced_mono z t⟩)
theorem takes_down {X : Cx} {W : WX} (t : L2.Takes X W) : L2N.Takes X W := fun u s' x => by
  obtain ⟨a, B, sI, pins, σ, H, cls, d, e, I, nb, up, sky, r⟩ := x
  exact t u s' ⟨a, B, sI, pins, σ, H, cls, d, e, I, nb, up, sky_mono (fun o z => L2N.Zn.zc z) sky, r⟩
section
variable {P : Program} {w : World} {K : PySem.W.Frag} {mg : Str → Option Value} {base : Heap} {N ps : List Str} {name qual : Str} {pa : Arguments} {body : List Stmt} {sc : Scope} {dvs : List V} {kws : List (Str × V)} {f : Addr} {fd : FuncData} {k : Nat} {sp : SpG}
theorem body_gen {A : Around} {outer : List Env} {s : Shared} {H : Hp} {E : XK} {cdv : Value} {pn : List (Addr × Obj)} (hr : Room k (A.deeper (envOfC qual sc s.heap.objs.size f cdv))) : Body (gcxOf P w K mg base N qual sc f cdv A outer s H E pn) k fun _ => E :=
  ⟨rfl, hr, takes_down takes_gcx, owns_gcx, fun _ => rfl, fun _ => rfl⟩
theorem gen_ok (F : FunD K name qual pa body sc dvs kws f fd) (S : GScope N ps sc) (len : ∀ vs H Q E, sp vs H Q E → vs.length = ps.length)
    (hb : ∀ (X : Cx), X.prog = P → X.w = w → X.K = K → X.mg = mg → X.base = base → X.N = N → X.env.scope = sc → (∀ x, X.fn x = true) → N.Nodup → ∀ (H : Hp) (vs : List V) (Q : List V → Hp → Prop) (E : XK), Body X k (fun _ => E) → sp vs H Q E →
      WGs X body { nx := fun ys _ H' => Q ys H', rt := fun ys v H' => v = .non ∧ Q ys H' } [] (start N vs) H) : L2.GFn P w K mg base (k + 1) f fd ps sp := by
  obtain ⟨oc, od, dV, kV, doc, pm, an, cdv, ct, osl, rfl, lk, hcd, _, _⟩ := F.ex
  exact gfn_of lk hcd S len fun A outer s H vs Q E pn hr h => ⟨_, wgsS, hb (gcxOf P w K mg base N qual sc f cdv A outer s H E pn) rfl rfl rfl rfl rfl rfl rfl (fun _ => rfl) S.nd H vs Q E (body_gen hr) h⟩
/-- a generator def of the module -/
def GGen (P : Program) (w : World) (K : PySem.W.Frag) (mg : Str → Option Value) (base : Heap) (k : Nat) (x : Str) (sp : SpG) : Prop :=
  ∃ f fd ps, mg x = some (.ref f) ∧ PySem.W.keepIn K (.ref f) = true ∧ L2.GFn P w K mg base k f fd ps sp ∧ Binds K fd ps []
theorem GGen.mk {x : Str} (F : FunD K name qual pa body sc [] kws f fd) (hm : mg x = some (.ref f)) (ok : L2.GFn P w K mg base k f fd ps sp) (hb : Binds K fd ps []) : GGen P w K mg base k x sp := ⟨f, fd, ps, hm, F.kp, ok, hb⟩
end
section
variable {X : Cx} {σ : L2.St} {H : Hp} {Q : VK} {k j : Nat} {E : L2.St → XK} {x : Str} {sp : SpG} {p pos p' pos' : Pos} {e : Expr} {es : List Expr}
/-- list(g(e, ..)) of a generator def that raises nothing -/
theorem we_listG (B : Body X k E) (bn : Bn X "list") (gn : Gn X x) (G : GGen X.prog X.w X.K X.mg X.base j x sp) (hj : j + 3 ≤ k)
    (h : WA X (e :: es) σ H fun vs H1 => sp vs H1 (fun out H2 => ∀ l, H2 l = none → Q (.ref l) (upd H2 l (.lst out))) E0)
    (hst : starEach (e :: es) X.env = (false, eval e X.env) :: starEach es X.env := by rfl) (hpl : (backTo pos' (starEach es X.env)).any (·.1) = false := by rfl)
    (he : starEach [.Call (.Name x p') (e :: es) [] pos'] X.env = (false, eval (.Call (.Name x p') (e :: es) [] pos') X.env) :: starEach [] X.env := by rfl) :
    WE X (.Call (.Name "list" p) [.Call (.Name x p') (e :: es) [] pos'] [] pos) σ H Q := by
  obtain ⟨f, fd, ps, hm, hk, F, hb⟩ := G
  have hg := pgen_call (E := E0) (pos' := pos') (p := p') F (B.room.mono (by omega)) gn.gl hm hk hb .nil paS gn.d1 hst hpl
  refine weP (pe_listG hg (fun pins σ H s e s' I c => ?_) (fun cls d H z => z.elim) (B.room.mono hj) bn.gl bn.no PyProof.Rows.boot_list (by decide) (by decide) he) ?_
  · obtain ⟨_, _, _, _, _, _, _, _, _, _, _, _, z⟩ := c
    exact z.elim
  · refine wa_mono h fun vs H1 q => ?_
    show sp (vs ++ []) H1 _ E0
    rw [List.append_nil]
    exact q
end
end Rs


namespace Rt
open PySem PySem.Spec PyProof.Rows L2 He Rs Mt
/-- what the top has written -/
structure Tm (K : PySem.W.Frag) (mg : Str → Option Value) : Prop where
  xc_ResendError : ExcC K (ga K "ResendError")
  xc_NoTime : ExcC K (ga K "NoTime")
  x_NoTime : ExcPlain K (ga K "NoTime")
  xc_NoText : ExcC K (ga K "NoText")
  xc_BadBook : ExcC K (ga K "BadBook")
  xc_NoDelay : ExcC K (ga K "NoDelay")
  xc_NoCount : ExcC K (ga K "NoCount")
  x_NoCount : ExcPlain K (ga K "NoCount")
  xc_TooMany : ExcC K (ga K "TooMany")
  c_Time : IsC K (ga K "Time")
  k_Time : KitC K (ga K "Time")
  m_Time : Mk K (ga K "Time") (ma K (ga K "Time") "__init__")
  n_Time_over_line : NoAttr K (ga K "Time") "over_line"
  n_Time_under_line : NoAttr K (ga K "Time") "under_line"
  sn_Time : PySem.W.subIn K (.ref (ga K "Time")) (.type "NoneType") = some false
  w_Time : NeOwn K (ga K "Time") (ma K (ga K "Time") "__eq__")
  u_Time_abs : AbsOwn K (ga K "Time") (ma K (ga K "Time") "__abs__")
  b_Time___add__ : BinOwn K (ga K "Time") (ma K (ga K "Time") "__add__") .Add
  ni_Time___add__ : NoInpl K (ga K "Time") .Add
  o_Time___eq__ : CmpOwn K (ga K "Time") (ma K (ga K "Time") "__eq__") .Eq
  q_Time___eq__ : CmpRef K (ga K "Time") (ma K (ga K "Time") "__eq__") .Eq
  b_Time___floordiv__ : BinOwn K (ga K "Time") (ma K (ga K "Time") "__floordiv__") .FloorDiv
  o_Time___ge__ : CmpOwn K (ga K "Time") (ma K (ga K "Time") "__ge__") .GtE
  q_Time___ge__ : CmpRef K (ga K "Time") (ma K (ga K "Time") "__ge__") .LtE
  o_Time___gt__ : CmpOwn K (ga K "Time") (ma K (ga K "Time") "__gt__") .Gt
  q_Time___gt__ : CmpRef K (ga K "Time") (ma K (ga K "Time") "__gt__") .Lt
  o_Time___le__ : CmpOwn K (ga K "Time") (ma K (ga K "Time") "__le__") .LtE
  q_Time___le__ : CmpRef K (ga K "Time") (ma K (ga K "Time") "__le__") .GtE
  o_Time___lt__ : CmpOwn K (ga K "Time") (ma K (ga K "Time") "__lt__") .Lt
  q_Time___lt__ : CmpRef K (ga K "Time") (ma K (ga K "Time") "__lt__") .Gt
  b_Time___mul__ : BinOwn K (ga K "Time") (ma K (ga K "Time") "__mul__") .Mult
  ni_Time___mul__ : NoInpl K (ga K "Time") .Mult
  u_Time_neg : NegOwn K (ga K "Time") (ma K (ga K "Time") "__neg__")
  b_Time___pow__ : BinOwn K (ga K "Time") (ma K (ga K "Time") "__pow__") .Pow
  r_Time___radd__ : BinRef K (ga K "Time") (ma K (ga K "Time") "__radd__") .Add
  r_Time___rfloordiv__ : BinRef K (ga K "Time") (ma K (ga K "Time") "__rfloordiv__") .FloorDiv
  r_Time___rmul__ : BinRef K (ga K "Time") (ma K (ga K "Time") "__rmul__") .Mult
  r_Time___rsub__ : BinRef K (ga K "Time") (ma K (ga K "Time") "__rsub__") .Sub
  b_Time___sub__ : BinOwn K (ga K "Time") (ma K (ga K "Time") "__sub__") .Sub
  ni_Time___sub__ : NoInpl K (ga K "Time") .Sub
  p_Time_bottom : PropOf K (ga K "Time") "bottom" (ma K (ga K "Time") "bottom") (pgA K (ga K "Time") "bottom")
  e_Time_over : Meth K (ga K "Time") "over" (ma K (ga K "Time") "over")
  e_Time_power : Meth K (ga K "Time") "power" (ma K (ga K "Time") "power")
  p_Time_top : PropOf K (ga K "Time") "top" (ma K (ga K "Time") "top") (pgA K (ga K "Time") "top")
  c_Book : IsC K (ga K "Book")
  k_Book : KitC K (ga K "Book")
  m_Book : Mk K (ga K "Book") (ma K (ga K "Book") "__init__")
  n_Book_rules : NoAttr K (ga K "Book") "rules"
  sn_Book : PySem.W.subIn K (.ref (ga K "Book")) (.type "NoneType") = some false
  w_Book : NeOwn K (ga K "Book") (ma K (ga K "Book") "__eq__")
  p_Book_doubled : PropOf K (ga K "Book") "doubled" (ma K (ga K "Book") "doubled") (pgA K (ga K "Book") "doubled")
  p_Book_factor : PropOf K (ga K "Book") "factor" (ma K (ga K "Book") "factor") (pgA K (ga K "Book") "factor")
  p_Book_floor : PropOf K (ga K "Book") "floor" (ma K (ga K "Book") "floor") (pgA K (ga K "Book") "floor")
  p_Book_kept : PropOf K (ga K "Book") "kept" (ma K (ga K "Book") "kept") (pgA K (ga K "Book") "kept")
  p_Book_latest : PropOf K (ga K "Book") "latest" (ma K (ga K "Book") "latest") (pgA K (ga K "Book") "latest")
  p_Book_margin : PropOf K (ga K "Book") "margin" (ma K (ga K "Book") "margin") (pgA K (ga K "Book") "margin")
  e_Book_put_part : Meth K (ga K "Book") "put_part" (ma K (ga K "Book") "put_part")
  p_Book_roof : PropOf K (ga K "Book") "roof" (ma K (ga K "Book") "roof") (pgA K (ga K "Book") "roof")
  p_Book_sample : PropOf K (ga K "Book") "sample" (ma K (ga K "Book") "sample") (pgA K (ga K "Book") "sample")
  p_Book_share : PropOf K (ga K "Book") "share" (ma K (ga K "Book") "share") (pgA K (ga K "Book") "share")
  e_Book_wait_for : Meth K (ga K "Book") "wait_for" (ma K (ga K "Book") "wait_for")
  c_Round : IsC K (ga K "Round")
  k_Round : KitC K (ga K "Round")
  m_Round : Mk K (ga K "Round") (ma K (ga K "Round") "__init__")
  n_Round_kept_starts : NoAttr K (ga K "Round") "kept_starts"
  n_Round_kept_needless : NoAttr K (ga K "Round") "kept_needless"
  n_Round_kept_answered : NoAttr K (ga K "Round") "kept_answered"
  n_Round_kept_answer : NoAttr K (ga K "Round") "kept_answer"
  n_Round_kept_delay : NoAttr K (ga K "Round") "kept_delay"
  n_Round_kept_last : NoAttr K (ga K "Round") "kept_last"
  p_Round_answer : PropOf K (ga K "Round") "answer" (ma K (ga K "Round") "answer") (pgA K (ga K "Round") "answer")
  e_Round_await_answer : Meth K (ga K "Round") "await_answer" (ma K (ga K "Round") "await_answer")
  p_Round_last_wait : PropOf K (ga K "Round") "last_wait" (ma K (ga K "Round") "last_wait") (pgA K (ga K "Round") "last_wait")
  e_Round_learned : Meth K (ga K "Round") "learned" (ma K (ga K "Round") "learned")
  p_Round_needless : PropOf K (ga K "Round") "needless" (ma K (ga K "Round") "needless") (pgA K (ga K "Round") "needless")
  e_Round_play : Meth K (ga K "Round") "play" (ma K (ga K "Round") "play")
  p_Round_sendings : PropOf K (ga K "Round") "sendings" (ma K (ga K "Round") "sendings") (pgA K (ga K "Round") "sendings")
  e_Round_times : Meth K (ga K "Round") "times" (ma K (ga K "Round") "times")
  c_Sender : IsC K (ga K "Sender")
  k_Sender : KitC K (ga K "Sender")
  m_Sender : Mk K (ga K "Sender") (ma K (ga K "Sender") "__init__")
  n_Sender_held_wait : NoAttr K (ga K "Sender") "held_wait"
  n_Sender_held_book : NoAttr K (ga K "Sender") "held_book"
  n_Sender_held_estimate : NoAttr K (ga K "Sender") "held_estimate"
  n_Sender_held_samples : NoAttr K (ga K "Sender") "held_samples"
  n_Sender_held_rounds : NoAttr K (ga K "Sender") "held_rounds"
  n_Sender_held_needless : NoAttr K (ga K "Sender") "held_needless"
  k_Sender_call : CallC K (ga K "Sender") (ma K (ga K "Sender") "__call__")
  p_Sender_estimate : PropOf K (ga K "Sender") "estimate" (ma K (ga K "Sender") "estimate") (pgA K (ga K "Sender") "estimate")
  e_Sender_learn : Meth K (ga K "Sender") "learn" (ma K (ga K "Sender") "learn")
  p_Sender_needless : PropOf K (ga K "Sender") "needless" (ma K (ga K "Sender") "needless") (pgA K (ga K "Sender") "needless")
  p_Sender_rounds : PropOf K (ga K "Sender") "rounds" (ma K (ga K "Sender") "rounds") (pgA K (ga K "Sender") "rounds")
  e_Sender_samples : Meth K (ga K "Sender") "samples" (ma K (ga K "Sender") "samples")
  e_Sender_twin : Meth K (ga K "Sender") "twin" (ma K (ga K "Sender") "twin")
  p_Sender_wait : PropOf K (ga K "Sender") "wait" (ma K (ga K "Sender") "wait") (pgA K (ga K "Sender") "wait")
  i_MOST_FIGURES : ∃ t, mg "MOST_FIGURES" = some (.int 60 t)
  i_FIGURES : ∃ t, mg "FIGURES" = some (.str "0123456789" t)
  g_is_integer : mg "is_integer" = some (.ref (ga K "is_integer"))
  g_NoTime : mg "NoTime" = some (.ref (ga K "NoTime"))
  g_common : mg "common" = some (.ref (ga K "common"))
  g_is_time : mg "is_time" = some (.ref (ga K "is_time"))
  g_time_of : mg "time_of" = some (.ref (ga K "time_of"))
  g_Time : mg "Time" = some (.ref (ga K "Time"))
  i_MOST_POWER : ∃ t, mg "MOST_POWER" = some (.int 10000 t)
  g_raised : mg "raised" = some (.ref (ga K "raised"))
  g_NoText : mg "NoText" = some (.ref (ga K "NoText"))
  g_read_count : mg "read_count" = some (.ref (ga K "read_count"))
  i_MOST_LATEST : ∃ t, mg "MOST_LATEST" = some (.int 20 t)
  g_is_positive : mg "is_positive" = some (.ref (ga K "is_positive"))
  g_SAMPLES : mg "SAMPLES" = some (.ref (ga K "SAMPLES"))
  kt_SAMPLES : KTup K (ga K "SAMPLES") ["first", "last", "marked", "clean"]
  g_is_latest : mg "is_latest" = some (.ref (ga K "is_latest"))
  g_is_roof : mg "is_roof" = some (.ref (ga K "is_roof"))
  g_PARTS : mg "PARTS" = some (.ref (ga K "PARTS"))
  kt_PARTS : KTup K (ga K "PARTS") ["sample", "share", "latest", "factor", "margin", "floor", "roof", "doubled", "kept"]
  g_is_allowed : mg "is_allowed" = some (.ref (ga K "is_allowed"))
  g_BadBook : mg "BadBook" = some (.ref (ga K "BadBook"))
  g_greater : mg "greater" = some (.ref (ga K "greater"))
  g_lesser : mg "lesser" = some (.ref (ga K "lesser"))
  g_checked : mg "checked" = some (.ref (ga K "checked"))
  g_word_of : mg "word_of" = some (.ref (ga K "word_of"))
  g_made_of : mg "made_of" = some (.ref (ga K "made_of"))
  g_Book : mg "Book" = some (.ref (ga K "Book"))
  g_bends : mg "bends" = some (.ref (ga K "bends"))
  g_last_rise : mg "last_rise" = some (.ref (ga K "last_rise"))
  g_part_of : mg "part_of" = some (.ref (ga K "part_of"))
  g_NoDelay : mg "NoDelay" = some (.ref (ga K "NoDelay"))
  g_is_delay : mg "is_delay" = some (.ref (ga K "is_delay"))
  g_checked_delays : mg "checked_delays" = some (.ref (ga K "checked_delays"))
  i_MOST_SENDINGS : ∃ t, mg "MOST_SENDINGS" = some (.int 1000 t)
  g_TooMany : mg "TooMany" = some (.ref (ga K "TooMany"))
  g_copied : mg "copied" = some (.ref (ga K "copied"))
  g_Round : mg "Round" = some (.ref (ga K "Round"))
  g_Sender : mg "Sender" = some (.ref (ga K "Sender"))
  i_MOST_ROUNDS : ∃ t, mg "MOST_ROUNDS" = some (.int 2000 t)
  g_NoCount : mg "NoCount" = some (.ref (ga K "NoCount"))
  g_stepped : mg "stepped" = some (.ref (ga K "stepped"))
  g__law_draw : mg "_law_draw" = some (.ref (ga K "_law_draw"))
  g__law_share : mg "_law_share" = some (.ref (ga K "_law_share"))
  g__law_factor : mg "_law_factor" = some (.ref (ga K "_law_factor"))
  g__law_roof : mg "_law_roof" = some (.ref (ga K "_law_roof"))
  g__law_pair : mg "_law_pair" = some (.ref (ga K "_law_pair"))
  g__law_towards : mg "_law_towards" = some (.ref (ga K "_law_towards"))
  g__law_begin : mg "_law_begin" = some (.ref (ga K "_law_begin"))
  g__law_rules : mg "_law_rules" = some (.ref (ga K "_law_rules"))
  g__law_book : mg "_law_book" = some (.ref (ga K "_law_book"))
  g_in_steady : mg "in_steady" = some (.ref (ga K "in_steady"))
  g__law_one : mg "_law_one" = some (.ref (ga K "_law_one"))
  g_law : mg "law" = some (.ref (ga K "law"))
  z_isinstance : mg "isinstance" = none
  z_int : mg "int" = none
  z_bool : mg "bool" = none
  z_abs : mg "abs" = none
  z_len : mg "len" = none
  z_str : mg "str" = none
  z_NotImplemented : mg "NotImplemented" = none
  z_dict : mg "dict" = none
  z_range : mg "range" = none
  z_all : mg "all" = none
  z_zip : mg "zip" = none
  z_enumerate : mg "enumerate" = none
  z_list : mg "list" = none
  d_is_integer : ∃ fd, FunD K "is_integer" "is_integer" (defArgs s_is_integer) (defBody s_is_integer) (defScope s_is_integer) [] [] (ga K "is_integer") fd
  d_common : ∃ fd, FunD K "common" "common" (defArgs s_common) (defBody s_common) (defScope s_common) [] [] (ga K "common") fd
  d_Time___init__ : ∃ fd, FunD K "__init__" "Time.__init__" (defArgs s_Time___init__) (defBody s_Time___init__) (defScope s_Time___init__) [.int 1] [] (ma K (ga K "Time") "__init__") fd
  d_Time_top : ∃ fd, FunD K "top" "Time.top" (defArgs s_Time_top) (defBody s_Time_top) (defScope s_Time_top) [] [] (pgA K (ga K "Time") "top") fd
  d_Time_bottom : ∃ fd, FunD K "bottom" "Time.bottom" (defArgs s_Time_bottom) (defBody s_Time_bottom) (defScope s_Time_bottom) [] [] (pgA K (ga K "Time") "bottom") fd
  d_Time___add__ : ∃ fd, FunD K "__add__" "Time.__add__" (defArgs s_Time___add__) (defBody s_Time___add__) (defScope s_Time___add__) [] [] (ma K (ga K "Time") "__add__") fd
  d_Time___radd__ : ∃ fd, FunD K "__radd__" "Time.__radd__" (defArgs s_Time___radd__) (defBody s_Time___radd__) (defScope s_Time___radd__) [] [] (ma K (ga K "Time") "__radd__") fd
  d_Time___sub__ : ∃ fd, FunD K "__sub__" "Time.__sub__" (defArgs s_Time___sub__) (defBody s_Time___sub__) (defScope s_Time___sub__) [] [] (ma K (ga K "Time") "__sub__") fd
  d_Time___rsub__ : ∃ fd, FunD K "__rsub__" "Time.__rsub__" (defArgs s_Time___rsub__) (defBody s_Time___rsub__) (defScope s_Time___rsub__) [] [] (ma K (ga K "Time") "__rsub__") fd
  d_Time___mul__ : ∃ fd, FunD K "__mul__" "Time.__mul__" (defArgs s_Time___mul__) (defBody s_Time___mul__) (defScope s_Time___mul__) [] [] (ma K (ga K "Time") "__mul__") fd
  d_Time___rmul__ : ∃ fd, FunD K "__rmul__" "Time.__rmul__" (defArgs s_Time___rmul__) (defBody s_Time___rmul__) (defScope s_Time___rmul__) [] [] (ma K (ga K "Time") "__rmul__") fd
  d_Time___neg__ : ∃ fd, FunD K "__neg__" "Time.__neg__" (defArgs s_Time___neg__) (defBody s_Time___neg__) (defScope s_Time___neg__) [] [] (ma K (ga K "Time") "__neg__") fd
  d_Time___abs__ : ∃ fd, FunD K "__abs__" "Time.__abs__" (defArgs s_Time___abs__) (defBody s_Time___abs__) (defScope s_Time___abs__) [] [] (ma K (ga K "Time") "__abs__") fd
  d_Time___eq__ : ∃ fd, FunD K "__eq__" "Time.__eq__" (defArgs s_Time___eq__) (defBody s_Time___eq__) (defScope s_Time___eq__) [] [] (ma K (ga K "Time") "__eq__") fd
  d_Time___lt__ : ∃ fd, FunD K "__lt__" "Time.__lt__" (defArgs s_Time___lt__) (defBody s_Time___lt__) (defScope s_Time___lt__) [] [] (ma K (ga K "Time") "__lt__") fd
  d_Time___le__ : ∃ fd, FunD K "__le__" "Time.__le__" (defArgs s_Time___le__) (defBody s_Time___le__) (defScope s_Time___le__) [] [] (ma K (ga K "Time") "__le__") fd
  d_Time___gt__ : ∃ fd, FunD K "__gt__" "Time.__gt__" (defArgs s_Time___gt__) (defBody s_Time___gt__) (defScope s_Time___gt__) [] [] (ma K (ga K "Time") "__gt__") fd
  d_Time___ge__ : ∃ fd, FunD K "__ge__" "Time.__ge__" (defArgs s_Time___ge__) (defBody s_Time___ge__) (defScope s_Time___ge__) [] [] (ma K (ga K "Time") "__ge__") fd
  d_is_time : ∃ fd, FunD K "is_time" "is_time" (defArgs s_is_time) (defBody s_is_time) (defScope s_is_time) [] [] (ga K "is_time") fd
  d_time_of : ∃ fd, FunD K "time_of" "time_of" (defArgs s_time_of) (defBody s_time_of) (defScope s_time_of) [] [] (ga K "time_of") fd
  d_lesser : ∃ fd, FunD K "lesser" "lesser" (defArgs s_lesser) (defBody s_lesser) (defScope s_lesser) [] [] (ga K "lesser") fd
  d_greater : ∃ fd, FunD K "greater" "greater" (defArgs s_greater) (defBody s_greater) (defScope s_greater) [] [] (ga K "greater") fd
  d_is_positive : ∃ fd, FunD K "is_positive" "is_positive" (defArgs s_is_positive) (defBody s_is_positive) (defScope s_is_positive) [] [] (ga K "is_positive") fd
  d_is_latest : ∃ fd, FunD K "is_latest" "is_latest" (defArgs s_is_latest) (defBody s_is_latest) (defScope s_is_latest) [] [] (ga K "is_latest") fd
  d_is_roof : ∃ fd, FunD K "is_roof" "is_roof" (defArgs s_is_roof) (defBody s_is_roof) (defScope s_is_roof) [] [] (ga K "is_roof") fd
  d_is_allowed : ∃ fd, FunD K "is_allowed" "is_allowed" (defArgs s_is_allowed) (defBody s_is_allowed) (defScope s_is_allowed) [] [] (ga K "is_allowed") fd
  d_checked : ∃ fd, FunD K "checked" "checked" (defArgs s_checked) (defBody s_checked) (defScope s_checked) [] [] (ga K "checked") fd
  d_made_of : ∃ fd, FunD K "made_of" "made_of" (defArgs s_made_of) (defBody s_made_of) (defScope s_made_of) [] [] (ga K "made_of") fd
  d_Book___init__ : ∃ fd, FunD K "__init__" "Book.__init__" (defArgs s_Book___init__) (defBody s_Book___init__) (defScope s_Book___init__) [] [("sample", .str "first"), ("share", .int 1), ("latest", .non), ("factor", .int 1), ("margin", .int 0), ("floor", .non), ("roof", .non), ("doubled", .bl false), ("kept", .bl false)] (ma K (ga K "Book") "__init__") fd
  d_Book_sample : ∃ fd, FunD K "sample" "Book.sample" (defArgs s_Book_sample) (defBody s_Book_sample) (defScope s_Book_sample) [] [] (pgA K (ga K "Book") "sample") fd
  d_Book_share : ∃ fd, FunD K "share" "Book.share" (defArgs s_Book_share) (defBody s_Book_share) (defScope s_Book_share) [] [] (pgA K (ga K "Book") "share") fd
  d_Book_latest : ∃ fd, FunD K "latest" "Book.latest" (defArgs s_Book_latest) (defBody s_Book_latest) (defScope s_Book_latest) [] [] (pgA K (ga K "Book") "latest") fd
  d_Book_factor : ∃ fd, FunD K "factor" "Book.factor" (defArgs s_Book_factor) (defBody s_Book_factor) (defScope s_Book_factor) [] [] (pgA K (ga K "Book") "factor") fd
  d_Book_margin : ∃ fd, FunD K "margin" "Book.margin" (defArgs s_Book_margin) (defBody s_Book_margin) (defScope s_Book_margin) [] [] (pgA K (ga K "Book") "margin") fd
  d_Book_floor : ∃ fd, FunD K "floor" "Book.floor" (defArgs s_Book_floor) (defBody s_Book_floor) (defScope s_Book_floor) [] [] (pgA K (ga K "Book") "floor") fd
  d_Book_roof : ∃ fd, FunD K "roof" "Book.roof" (defArgs s_Book_roof) (defBody s_Book_roof) (defScope s_Book_roof) [] [] (pgA K (ga K "Book") "roof") fd
  d_Book_doubled : ∃ fd, FunD K "doubled" "Book.doubled" (defArgs s_Book_doubled) (defBody s_Book_doubled) (defScope s_Book_doubled) [] [] (pgA K (ga K "Book") "doubled") fd
  d_Book_kept : ∃ fd, FunD K "kept" "Book.kept" (defArgs s_Book_kept) (defBody s_Book_kept) (defScope s_Book_kept) [] [] (pgA K (ga K "Book") "kept") fd
  d_Book_wait_for : ∃ fd, FunD K "wait_for" "Book.wait_for" (defArgs s_Book_wait_for) (defBody s_Book_wait_for) (defScope s_Book_wait_for) [] [] (ma K (ga K "Book") "wait_for") fd
  d_is_delay : ∃ fd, FunD K "is_delay" "is_delay" (defArgs s_is_delay) (defBody s_is_delay) (defScope s_is_delay) [] [] (ga K "is_delay") fd
  d_checked_delays : ∃ fd, FunD K "checked_delays" "checked_delays" (defArgs s_checked_delays) (defBody s_checked_delays) (defScope s_checked_delays) [] [] (ga K "checked_delays") fd
  d_Round___init__ : ∃ fd, FunD K "__init__" "Round.__init__" (defArgs s_Round___init__) (defBody s_Round___init__) (defScope s_Round___init__) [] [("doubled", .bl false)] (ma K (ga K "Round") "__init__") fd
  d_Round_play : ∃ fd, FunD K "play" "Round.play" (defArgs s_Round_play) (defBody s_Round_play) (defScope s_Round_play) [] [] (ma K (ga K "Round") "play") fd
  d_Round_await_answer : ∃ fd, FunD K "await_answer" "Round.await_answer" (defArgs s_Round_await_answer) (defBody s_Round_await_answer) (defScope s_Round_await_answer) [] [] (ma K (ga K "Round") "await_answer") fd
  d_Round_sendings : ∃ fd, FunD K "sendings" "Round.sendings" (defArgs s_Round_sendings) (defBody s_Round_sendings) (defScope s_Round_sendings) [] [] (pgA K (ga K "Round") "sendings") fd
  d_Round_answer : ∃ fd, FunD K "answer" "Round.answer" (defArgs s_Round_answer) (defBody s_Round_answer) (defScope s_Round_answer) [] [] (pgA K (ga K "Round") "answer") fd
  d_Round_needless : ∃ fd, FunD K "needless" "Round.needless" (defArgs s_Round_needless) (defBody s_Round_needless) (defScope s_Round_needless) [] [] (pgA K (ga K "Round") "needless") fd
  d_Round_last_wait : ∃ fd, FunD K "last_wait" "Round.last_wait" (defArgs s_Round_last_wait) (defBody s_Round_last_wait) (defScope s_Round_last_wait) [] [] (pgA K (ga K "Round") "last_wait") fd
  d_Round_times : ∃ fd, FunD K "times" "Round.times" (defArgs s_Round_times) (defBody s_Round_times) (defScope s_Round_times) [] [] (ma K (ga K "Round") "times") fd
  d_Round_learned : ∃ fd, FunD K "learned" "Round.learned" (defArgs s_Round_learned) (defBody s_Round_learned) (defScope s_Round_learned) [] [] (ma K (ga K "Round") "learned") fd
  d_copied : ∃ fd, FunD K "copied" "copied" (defArgs s_copied) (defBody s_copied) (defScope s_copied) [] [] (ga K "copied") fd
  d_Sender___init__ : ∃ fd, FunD K "__init__" "Sender.__init__" (defArgs s_Sender___init__) (defBody s_Sender___init__) (defScope s_Sender___init__) [] [] (ma K (ga K "Sender") "__init__") fd
  d_Sender___call__ : ∃ fd, FunD K "__call__" "Sender.__call__" (defArgs s_Sender___call__) (defBody s_Sender___call__) (defScope s_Sender___call__) [] [] (ma K (ga K "Sender") "__call__") fd
  d_Sender_learn : ∃ fd, FunD K "learn" "Sender.learn" (defArgs s_Sender_learn) (defBody s_Sender_learn) (defScope s_Sender_learn) [] [] (ma K (ga K "Sender") "learn") fd
  d_Sender_estimate : ∃ fd, FunD K "estimate" "Sender.estimate" (defArgs s_Sender_estimate) (defBody s_Sender_estimate) (defScope s_Sender_estimate) [] [] (pgA K (ga K "Sender") "estimate") fd
  d_Sender_wait : ∃ fd, FunD K "wait" "Sender.wait" (defArgs s_Sender_wait) (defBody s_Sender_wait) (defScope s_Sender_wait) [] [] (pgA K (ga K "Sender") "wait") fd
  d_Sender_twin : ∃ fd, FunD K "twin" "Sender.twin" (defArgs s_Sender_twin) (defBody s_Sender_twin) (defScope s_Sender_twin) [] [] (ma K (ga K "Sender") "twin") fd
  d_stepped : ∃ fd, FunD K "stepped" "stepped" (defArgs s_stepped) (defBody s_stepped) (defScope s_stepped) [] [] (ga K "stepped") fd
  d_in_steady : ∃ fd, FunD K "in_steady" "in_steady" (defArgs s_in_steady) (defBody s_in_steady) (defScope s_in_steady) [] [] (ga K "in_steady") fd
  d__law_begin : ∃ fd, FunD K "_law_begin" "_law_begin" (defArgs s__law_begin) (defBody s__law_begin) (defScope s__law_begin) [] [] (ga K "_law_begin") fd
  d__law_draw : ∃ fd, FunD K "_law_draw" "_law_draw" (defArgs s__law_draw) (defBody s__law_draw) (defScope s__law_draw) [] [] (ga K "_law_draw") fd
  d__law_share : ∃ fd, FunD K "_law_share" "_law_share" (defArgs s__law_share) (defBody s__law_share) (defScope s__law_share) [] [] (ga K "_law_share") fd
  d__law_factor : ∃ fd, FunD K "_law_factor" "_law_factor" (defArgs s__law_factor) (defBody s__law_factor) (defScope s__law_factor) [] [] (ga K "_law_factor") fd
  d__law_roof : ∃ fd, FunD K "_law_roof" "_law_roof" (defArgs s__law_roof) (defBody s__law_roof) (defScope s__law_roof) [] [] (ga K "_law_roof") fd
  d__law_rules : ∃ fd, FunD K "_law_rules" "_law_rules" (defArgs s__law_rules) (defBody s__law_rules) (defScope s__law_rules) [] [] (ga K "_law_rules") fd
  d__law_pair : ∃ fd, FunD K "_law_pair" "_law_pair" (defArgs s__law_pair) (defBody s__law_pair) (defScope s__law_pair) [] [] (ga K "_law_pair") fd
  d__law_book : ∃ fd, FunD K "_law_book" "_law_book" (defArgs s__law_book) (defBody s__law_book) (defScope s__law_book) [] [] (ga K "_law_book") fd
  d__law_towards : ∃ fd, FunD K "_law_towards" "_law_towards" (defArgs s__law_towards) (defBody s__law_towards) (defScope s__law_towards) [] [] (ga K "_law_towards") fd
  d__law_one : ∃ fd, FunD K "_law_one" "_law_one" (defArgs s__law_one) (defBody s__law_one) (defScope s__law_one) [] [] (ga K "_law_one") fd
  d_law : ∃ fd, FunD K "law" "law" (defArgs s_law) (defBody s_law) (defScope s_law) [] [] (ga K "law") fd
theorem sc_is_integer : FnScope ["thing"] ["thing"] (defScope s_is_integer) := ⟨rfl, rfl, rfl, by decide +kernel, rfl, by decide +kernel, by decide +kernel⟩
theorem sc_common : FnScope ["one", "other"] ["one", "other"] (defScope s_common) := ⟨rfl, rfl, rfl, by decide +kernel, rfl, by decide +kernel, by decide +kernel⟩
theorem sc_Time___init__ : FnScope ["self", "top", "bottom", "part"] ["self", "top", "bottom"] (defScope s_Time___init__) := ⟨rfl, rfl, rfl, by decide +kernel, rfl, by decide +kernel, by decide +kernel⟩
theorem sc_Time_top : FnScope ["self"] ["self"] (defScope s_Time_top) := ⟨rfl, rfl, rfl, by decide +kernel, rfl, by decide +kernel, by decide +kernel⟩
theorem sc_Time_bottom : FnScope ["self"] ["self"] (defScope s_Time_bottom) := ⟨rfl, rfl, rfl, by decide +kernel, rfl, by decide +kernel, by decide +kernel⟩
theorem sc_Time___add__ : FnScope ["self", "other", "more", "top"] ["self", "other"] (defScope s_Time___add__) := ⟨rfl, rfl, rfl, by decide +kernel, rfl, by decide +kernel, by decide +kernel⟩
theorem sc_Time___radd__ : FnScope ["self", "other"] ["self", "other"] (defScope s_Time___radd__) := ⟨rfl, rfl, rfl, by decide +kernel, rfl, by decide +kernel, by decide +kernel⟩
theorem sc_Time___sub__ : FnScope ["self", "other", "less", "top"] ["self", "other"] (defScope s_Time___sub__) := ⟨rfl, rfl, rfl, by decide +kernel, rfl, by decide +kernel, by decide +kernel⟩
theorem sc_Time___rsub__ : FnScope ["self", "other"] ["self", "other"] (defScope s_Time___rsub__) := ⟨rfl, rfl, rfl, by decide +kernel, rfl, by decide +kernel, by decide +kernel⟩
theorem sc_Time___mul__ : FnScope ["self", "other", "by"] ["self", "other"] (defScope s_Time___mul__) := ⟨rfl, rfl, rfl, by decide +kernel, rfl, by decide +kernel, by decide +kernel⟩
theorem sc_Time___rmul__ : FnScope ["self", "other"] ["self", "other"] (defScope s_Time___rmul__) := ⟨rfl, rfl, rfl, by decide +kernel, rfl, by decide +kernel, by decide +kernel⟩
theorem sc_Time___neg__ : FnScope ["self"] ["self"] (defScope s_Time___neg__) := ⟨rfl, rfl, rfl, by decide +kernel, rfl, by decide +kernel, by decide +kernel⟩
theorem sc_Time___abs__ : FnScope ["self"] ["self"] (defScope s_Time___abs__) := ⟨rfl, rfl, rfl, by decide +kernel, rfl, by decide +kernel, by decide +kernel⟩
theorem sc_Time___eq__ : FnScope ["self", "other", "same"] ["self", "other"] (defScope s_Time___eq__) := ⟨rfl, rfl, rfl, by decide +kernel, rfl, by decide +kernel, by decide +kernel⟩
theorem sc_Time___lt__ : FnScope ["self", "other", "later"] ["self", "other"] (defScope s_Time___lt__) := ⟨rfl, rfl, rfl, by decide +kernel, rfl, by decide +kernel, by decide +kernel⟩
theorem sc_Time___le__ : FnScope ["self", "other", "later"] ["self", "other"] (defScope s_Time___le__) := ⟨rfl, rfl, rfl, by decide +kernel, rfl, by decide +kernel, by decide +kernel⟩
theorem sc_Time___gt__ : FnScope ["self", "other", "sooner"] ["self", "other"] (defScope s_Time___gt__) := ⟨rfl, rfl, rfl, by decide +kernel, rfl, by decide +kernel, by decide +kernel⟩
theorem sc_Time___ge__ : FnScope ["self", "other", "sooner"] ["self", "other"] (defScope s_Time___ge__) := ⟨rfl, rfl, rfl, by decide +kernel, rfl, by decide +kernel, by decide +kernel⟩
theorem sc_is_time : FnScope ["thing"] ["thing"] (defScope s_is_time) := ⟨rfl, rfl, rfl, by decide +kernel, rfl, by decide +kernel, by decide +kernel⟩
theorem sc_time_of : FnScope ["thing"] ["thing"] (defScope s_time_of) := ⟨rfl, rfl, rfl, by decide +kernel, rfl, by decide +kernel, by decide +kernel⟩
theorem sc_lesser : FnScope ["one", "other", "first", "second"] ["one", "other"] (defScope s_lesser) := ⟨rfl, rfl, rfl, by decide +kernel, rfl, by decide +kernel, by decide +kernel⟩
theorem sc_greater : FnScope ["one", "other", "first", "second"] ["one", "other"] (defScope s_greater) := ⟨rfl, rfl, rfl, by decide +kernel, rfl, by decide +kernel, by decide +kernel⟩
theorem sc_is_positive : FnScope ["thing"] ["thing"] (defScope s_is_positive) := ⟨rfl, rfl, rfl, by decide +kernel, rfl, by decide +kernel, by decide +kernel⟩
theorem sc_is_latest : FnScope ["thing", "share"] ["thing", "share"] (defScope s_is_latest) := ⟨rfl, rfl, rfl, by decide +kernel, rfl, by decide +kernel, by decide +kernel⟩
theorem sc_is_roof : FnScope ["thing", "floor"] ["thing", "floor"] (defScope s_is_roof) := ⟨rfl, rfl, rfl, by decide +kernel, rfl, by decide +kernel, by decide +kernel⟩
theorem sc_is_allowed : FnScope ["part", "rules", "thing"] ["part", "rules"] (defScope s_is_allowed) := ⟨rfl, rfl, rfl, by decide +kernel, rfl, by decide +kernel, by decide +kernel⟩
theorem sc_checked : FnScope ["rules", "part", "found"] ["rules"] (defScope s_checked) := ⟨rfl, rfl, rfl, by decide +kernel, rfl, by decide +kernel, by decide +kernel⟩
theorem sc_made_of : FnScope ["book", "estimate", "wait"] ["book", "estimate"] (defScope s_made_of) := ⟨rfl, rfl, rfl, by decide +kernel, rfl, by decide +kernel, by decide +kernel⟩
theorem sc_Book___init__ : FnScope ["self", "sample", "share", "latest", "factor", "margin", "floor", "roof", "doubled", "kept"] ["self", "sample", "share", "latest", "factor", "margin", "floor", "roof", "doubled", "kept"] (defScope s_Book___init__) := ⟨rfl, rfl, rfl, by decide +kernel, rfl, by decide +kernel, by decide +kernel⟩
theorem sc_Book_sample : FnScope ["self"] ["self"] (defScope s_Book_sample) := ⟨rfl, rfl, rfl, by decide +kernel, rfl, by decide +kernel, by decide +kernel⟩
theorem sc_Book_share : FnScope ["self"] ["self"] (defScope s_Book_share) := ⟨rfl, rfl, rfl, by decide +kernel, rfl, by decide +kernel, by decide +kernel⟩
theorem sc_Book_latest : FnScope ["self"] ["self"] (defScope s_Book_latest) := ⟨rfl, rfl, rfl, by decide +kernel, rfl, by decide +kernel, by decide +kernel⟩
theorem sc_Book_factor : FnScope ["self"] ["self"] (defScope s_Book_factor) := ⟨rfl, rfl, rfl, by decide +kernel, rfl, by decide +kernel, by decide +kernel⟩
theorem sc_Book_margin : FnScope ["self"] ["self"] (defScope s_Book_margin) := ⟨rfl, rfl, rfl, by decide +kernel, rfl, by decide +kernel, by decide +kernel⟩
theorem sc_Book_floor : FnScope ["self"] ["self"] (defScope s_Book_floor) := ⟨rfl, rfl, rfl, by decide +kernel, rfl, by decide +kernel, by decide +kernel⟩
theorem sc_Book_roof : FnScope ["self"] ["self"] (defScope s_Book_roof) := ⟨rfl, rfl, rfl, by decide +kernel, rfl, by decide +kernel, by decide +kernel⟩
theorem sc_Book_doubled : FnScope ["self"] ["self"] (defScope s_Book_doubled) := ⟨rfl, rfl, rfl, by decide +kernel, rfl, by decide +kernel, by decide +kernel⟩
theorem sc_Book_kept : FnScope ["self"] ["self"] (defScope s_Book_kept) := ⟨rfl, rfl, rfl, by decide +kernel, rfl, by decide +kernel, by decide +kernel⟩
theorem sc_Book_wait_for : FnScope ["self", "estimate"] ["self", "estimate"] (defScope s_Book_wait_for) := ⟨rfl, rfl, rfl, by decide +kernel, rfl, by decide +kernel, by decide +kernel⟩
theorem sc_is_delay : FnScope ["thing"] ["thing"] (defScope s_is_delay) := ⟨rfl, rfl, rfl, by decide +kernel, rfl, by decide +kernel, by decide +kernel⟩
theorem sc_checked_delays : FnScope ["delays", "at", "delay"] ["delays"] (defScope s_checked_delays) := ⟨rfl, rfl, rfl, by decide +kernel, rfl, by decide +kernel, by decide +kernel⟩
theorem sc_Round___init__ : FnScope ["self", "wait", "doubled", "delays"] ["self", "wait", "doubled", "delays"] (defScope s_Round___init__) := ⟨rfl, rfl, rfl, by decide +kernel, rfl, by decide +kernel, by decide +kernel⟩
theorem sc_Round_play : FnScope ["self", "delays", "wait", "doubled", "start", "at"] ["self", "delays", "wait", "doubled"] (defScope s_Round_play) := ⟨rfl, rfl, rfl, by decide +kernel, rfl, by decide +kernel, by decide +kernel⟩
theorem sc_Round_await_answer : FnScope ["self", "at", "start", "delay", "answer"] ["self", "at", "start", "delay"] (defScope s_Round_await_answer) := ⟨rfl, rfl, rfl, by decide +kernel, rfl, by decide +kernel, by decide +kernel⟩
theorem sc_Round_sendings : FnScope ["self"] ["self"] (defScope s_Round_sendings) := ⟨rfl, rfl, rfl, by decide +kernel, rfl, by decide +kernel, by decide +kernel⟩
theorem sc_Round_answer : FnScope ["self"] ["self"] (defScope s_Round_answer) := ⟨rfl, rfl, rfl, by decide +kernel, rfl, by decide +kernel, by decide +kernel⟩
theorem sc_Round_needless : FnScope ["self"] ["self"] (defScope s_Round_needless) := ⟨rfl, rfl, rfl, by decide +kernel, rfl, by decide +kernel, by decide +kernel⟩
theorem sc_Round_last_wait : FnScope ["self"] ["self"] (defScope s_Round_last_wait) := ⟨rfl, rfl, rfl, by decide +kernel, rfl, by decide +kernel, by decide +kernel⟩
theorem sc_Round_times : FnScope ["self"] ["self"] (defScope s_Round_times) := ⟨rfl, rfl, rfl, by decide +kernel, rfl, by decide +kernel, by decide +kernel⟩
theorem sc_Round_learned : FnScope ["self", "word"] ["self", "word"] (defScope s_Round_learned) := ⟨rfl, rfl, rfl, by decide +kernel, rfl, by decide +kernel, by decide +kernel⟩
theorem sc_copied : FnScope ["book"] ["book"] (defScope s_copied) := ⟨rfl, rfl, rfl, by decide +kernel, rfl, by decide +kernel, by decide +kernel⟩
theorem sc_Sender___init__ : FnScope ["self", "book", "estimate", "turn"] ["self", "book", "estimate"] (defScope s_Sender___init__) := ⟨rfl, rfl, rfl, by decide +kernel, rfl, by decide +kernel, by decide +kernel⟩
theorem sc_Sender___call__ : FnScope ["self", "delays", "book", "doubled", "made", "sample"] ["self", "delays"] (defScope s_Sender___call__) := ⟨rfl, rfl, rfl, by decide +kernel, rfl, by decide +kernel, by decide +kernel⟩
theorem sc_Sender_learn : FnScope ["self", "sample", "book", "most", "elder"] ["self", "sample"] (defScope s_Sender_learn) := ⟨rfl, rfl, rfl, by decide +kernel, rfl, by decide +kernel, by decide +kernel⟩
theorem sc_Sender_estimate : FnScope ["self"] ["self"] (defScope s_Sender_estimate) := ⟨rfl, rfl, rfl, by decide +kernel, rfl, by decide +kernel, by decide +kernel⟩
theorem sc_Sender_wait : FnScope ["self"] ["self"] (defScope s_Sender_wait) := ⟨rfl, rfl, rfl, by decide +kernel, rfl, by decide +kernel, by decide +kernel⟩
theorem sc_Sender_twin : FnScope ["self", "other"] ["self"] (defScope s_Sender_twin) := ⟨rfl, rfl, rfl, by decide +kernel, rfl, by decide +kernel, by decide +kernel⟩
theorem sc_stepped : FnScope ["sender", "delays", "wait", "made"] ["sender", "delays"] (defScope s_stepped) := ⟨rfl, rfl, rfl, by decide +kernel, rfl, by decide +kernel, by decide +kernel⟩
theorem sc_in_steady : L2.GScope ["sender", "delay", "many", "twin", "turn"] ["sender", "delay", "many"] (defScope s_in_steady) := ⟨rfl, rfl, rfl, by decide +kernel, rfl, by decide +kernel, by decide +kernel⟩
theorem sc__law_begin : FnScope ["_law_script"] ["_law_script"] (defScope s__law_begin) := ⟨rfl, rfl, rfl, by decide +kernel, rfl, by decide +kernel, by decide +kernel⟩
theorem sc__law_draw : FnScope ["_law_source", "_law_limit", "_law_cell", "_law_digit"] ["_law_source", "_law_limit"] (defScope s__law_draw) := ⟨rfl, rfl, rfl, by decide +kernel, rfl, by decide +kernel, by decide +kernel⟩
theorem sc__law_share : FnScope ["_law_source", "_law_kind", "_law_upper"] ["_law_source"] (defScope s__law_share) := ⟨rfl, rfl, rfl, by decide +kernel, rfl, by decide +kernel, by decide +kernel⟩
theorem sc__law_factor : FnScope ["_law_source", "_law_kind", "_law_lower"] ["_law_source"] (defScope s__law_factor) := ⟨rfl, rfl, rfl, by decide +kernel, rfl, by decide +kernel, by decide +kernel⟩
theorem sc__law_roof : FnScope ["_law_source", "_law_least", "_law_lower"] ["_law_source", "_law_least"] (defScope s__law_roof) := ⟨rfl, rfl, rfl, by decide +kernel, rfl, by decide +kernel, by decide +kernel⟩
theorem sc__law_rules : FnScope ["_law_source", "_law_word", "_law_portion", "_law_number", "_law_times", "_law_more", "_law_least", "_law_twofold", "_law_held"] ["_law_source"] (defScope s__law_rules) := ⟨rfl, rfl, rfl, by decide +kernel, rfl, by decide +kernel, by decide +kernel⟩
theorem sc__law_pair : FnScope ["_law_pair_here"] ["_law_pair_here"] (defScope s__law_pair) := ⟨rfl, rfl, rfl, by decide +kernel, rfl, by decide +kernel, by decide +kernel⟩
theorem sc__law_book : FnScope ["_law_rules_here", "_law_portion", "_law_times", "_law_more", "_law_least", "_law_most"] ["_law_rules_here"] (defScope s__law_book) := ⟨rfl, rfl, rfl, by decide +kernel, rfl, by decide +kernel, by decide +kernel⟩
theorem sc__law_towards : FnScope ["_law_before", "_law_after", "_law_delay"] ["_law_before", "_law_after", "_law_delay"] (defScope s__law_towards) := ⟨rfl, rfl, rfl, by decide +kernel, rfl, by decide +kernel, by decide +kernel⟩
theorem sc__law_one : FnScope ["_law_rows", "_law_estimate", "_law_delay", "_law_before", "_law_row"] ["_law_rows", "_law_estimate", "_law_delay"] (defScope s__law_one) := ⟨rfl, rfl, rfl, by decide +kernel, rfl, by decide +kernel, by decide +kernel⟩
theorem sc_law : FnScope ["_law_script", "_law_source", "_law_rules_here", "_law_book_here", "_law_lower", "_law_upper", "_law_delay", "_law_low", "_law_high", "_law_one_here", "_law_other", "_law_many", "_law_few", "_law_more", "_law_at"] ["_law_script"] (defScope s_law) := ⟨rfl, rfl, rfl, by decide +kernel, rfl, by decide +kernel, by decide +kernel⟩
theorem tm_of {K : PySem.W.Frag} {mg : Str → Option Value} {h : Heap} (X : K.In h) (G : h.Ns mainGlobals mg) (c : SaysX ψ fn K) : Tm K mg :=
  ⟨excC_ok (c.fact 0),
   excC_ok (c.fact 1),
   excPlain_ok (c.fact 2),
   excC_ok (c.fact 3),
   excC_ok (c.fact 4),
   excC_ok (c.fact 5),
   excC_ok (c.fact 6),
   excPlain_ok (c.fact 7),
   excC_ok (c.fact 8),
   isC_ok (c.fact 9),
   kitC_ok (c.fact 10),
   mkr_ok (c.fact 11),
   noat_ok (c.fact 12),
   noat_ok (c.fact 13),
   of_decide_eq_true (c.fact 14),
   neOwn_ok (c.fact 15),
   absOwn_ok (c.fact 16),
   binOwn_ok (c.fact 17),
   noInpl_ok (c.fact 18),
   cmpOwn_ok (c.fact 19),
   cmpRef_ok (c.fact 20),
   binOwn_ok (c.fact 21),
   cmpOwn_ok (c.fact 22),
   cmpRef_ok (c.fact 23),
   cmpOwn_ok (c.fact 24),
   cmpRef_ok (c.fact 25),
   cmpOwn_ok (c.fact 26),
   cmpRef_ok (c.fact 27),
   cmpOwn_ok (c.fact 28),
   cmpRef_ok (c.fact 29),
   binOwn_ok (c.fact 30),
   noInpl_ok (c.fact 31),
   negOwn_ok (c.fact 32),
   binOwn_ok (c.fact 33),
   binRef_ok (c.fact 34),
   binRef_ok (c.fact 35),
   binRef_ok (c.fact 36),
   binRef_ok (c.fact 37),
   binOwn_ok (c.fact 38),
   noInpl_ok (c.fact 39),
   prop_ok (c.fact 40),
   meth_ok (c.fact 41),
   meth_ok (c.fact 42),
   prop_ok (c.fact 43),
   isC_ok (c.fact 44),
   kitC_ok (c.fact 45),
   mkr_ok (c.fact 46),
   noat_ok (c.fact 47),
   of_decide_eq_true (c.fact 48),
   neOwn_ok (c.fact 49),
   prop_ok (c.fact 50),
   prop_ok (c.fact 51),
   prop_ok (c.fact 52),
   prop_ok (c.fact 53),
   prop_ok (c.fact 54),
   prop_ok (c.fact 55),
   meth_ok (c.fact 56),
   prop_ok (c.fact 57),
   prop_ok (c.fact 58),
   prop_ok (c.fact 59),
   meth_ok (c.fact 60),
   isC_ok (c.fact 61),
   kitC_ok (c.fact 62),
   mkr_ok (c.fact 63),
   noat_ok (c.fact 64),
   noat_ok (c.fact 65),
   noat_ok (c.fact 66),
   noat_ok (c.fact 67),
   noat_ok (c.fact 68),
   noat_ok (c.fact 69),
   prop_ok (c.fact 70),
   meth_ok (c.fact 71),
   prop_ok (c.fact 72),
   meth_ok (c.fact 73),
   prop_ok (c.fact 74),
   meth_ok (c.fact 75),
   prop_ok (c.fact 76),
   meth_ok (c.fact 77),
   isC_ok (c.fact 78),
   kitC_ok (c.fact 79),
   mkr_ok (c.fact 80),
   noat_ok (c.fact 81),
   noat_ok (c.fact 82),
   noat_ok (c.fact 83),
   noat_ok (c.fact 84),
   noat_ok (c.fact 85),
   noat_ok (c.fact 86),
   callC_ok (c.fact 87),
   prop_ok (c.fact 88),
   meth_ok (c.fact 89),
   prop_ok (c.fact 90),
   prop_ok (c.fact 91),
   meth_ok (c.fact 92),
   meth_ok (c.fact 93),
   prop_ok (c.fact 94),
   int_ok X G (c.fact 95),
   str_ok X G (c.fact 96),
   glo_ok X G (c.fact 97),
   glo_ok X G (c.fact 98),
   glo_ok X G (c.fact 99),
   glo_ok X G (c.fact 100),
   glo_ok X G (c.fact 101),
   glo_ok X G (c.fact 102),
   int_ok X G (c.fact 103),
   glo_ok X G (c.fact 104),
   glo_ok X G (c.fact 105),
   glo_ok X G (c.fact 106),
   int_ok X G (c.fact 107),
   glo_ok X G (c.fact 108),
   glo_ok X G (c.fact 109),
   kTup_ok (c.fact 110),
   glo_ok X G (c.fact 111),
   glo_ok X G (c.fact 112),
   glo_ok X G (c.fact 113),
   kTup_ok (c.fact 114),
   glo_ok X G (c.fact 115),
   glo_ok X G (c.fact 116),
   glo_ok X G (c.fact 117),
   glo_ok X G (c.fact 118),
   glo_ok X G (c.fact 119),
   glo_ok X G (c.fact 120),
   glo_ok X G (c.fact 121),
   glo_ok X G (c.fact 122),
   glo_ok X G (c.fact 123),
   glo_ok X G (c.fact 124),
   glo_ok X G (c.fact 125),
   glo_ok X G (c.fact 126),
   glo_ok X G (c.fact 127),
   glo_ok X G (c.fact 128),
   int_ok X G (c.fact 129),
   glo_ok X G (c.fact 130),
   glo_ok X G (c.fact 131),
   glo_ok X G (c.fact 132),
   glo_ok X G (c.fact 133),
   int_ok X G (c.fact 134),
   glo_ok X G (c.fact 135),
   glo_ok X G (c.fact 136),
   glo_ok X G (c.fact 137),
   glo_ok X G (c.fact 138),
   glo_ok X G (c.fact 139),
   glo_ok X G (c.fact 140),
   glo_ok X G (c.fact 141),
   glo_ok X G (c.fact 142),
   glo_ok X G (c.fact 143),
   glo_ok X G (c.fact 144),
   glo_ok X G (c.fact 145),
   glo_ok X G (c.fact 146),
   glo_ok X G (c.fact 147),
   glo_ok X G (c.fact 148),
   free_ok X G (c.fact 149),
   free_ok X G (c.fact 150),
   free_ok X G (c.fact 151),
   free_ok X G (c.fact 152),
   free_ok X G (c.fact 153),
   free_ok X G (c.fact 154),
   free_ok X G (c.fact 155),
   free_ok X G (c.fact 156),
   free_ok X G (c.fact 157),
   free_ok X G (c.fact 158),
   free_ok X G (c.fact 159),
   free_ok X G (c.fact 160),
   free_ok X G (c.fact 161),
   c.dfn 0,
   c.dfn 1,
   c.dfn 2,
   c.dfn 3,
   c.dfn 4,
   c.dfn 5,
   c.dfn 6,
   c.dfn 7,
   c.dfn 8,
   c.dfn 9,
   c.dfn 10,
   c.dfn 11,
   c.dfn 12,
   c.dfn 13,
   c.dfn 14,
   c.dfn 15,
   c.dfn 16,
   c.dfn 17,
   c.dfn 18,
   c.dfn 19,
   c.dfn 20,
   c.dfn 21,
   c.dfn 22,
   c.dfn 23,
   c.dfn 24,
   c.dfn 25,
   c.dfn 26,
   c.dfn 27,
   c.dfn 28,
   c.dfn 29,
   c.dfn 30,
   c.dfn 31,
   c.dfn 32,
   c.dfn 33,
   c.dfn 34,
   c.dfn 35,
   c.dfn 36,
   c.dfn 37,
   c.dfn 38,
   c.dfn 39,
   c.dfn 40,
   c.dfn 41,
   c.dfn 42,
   c.dfn 43,
   c.dfn 44,
   c.dfn 45,
   c.dfn 46,
   c.dfn 47,
   c.dfn 48,
   c.dfn 49,
   c.dfn 50,
   c.dfn 51,
   c.dfn 52,
   c.dfn 53,
   c.dfn 54,
   c.dfn 55,
   c.dfn 56,
   c.dfn 57,
   c.dfn 58,
   c.dfn 59,
   c.dfn 60,
   c.dfn 61,
   c.dfn 62,
   c.dfn 63,
   c.dfn 64,
   c.dfn 65,
   c.dfn 66,
   c.dfn 67,
   c.dfn 68,
   c.dfn 69⟩
local macro_rules | `(tactic| walk_at "w") => `(tactic| first | ((with_reducible show Rs.WE _ _ _ _ _); walk_at "wE") | ((with_reducible show Rs.Op2 _ _ _ _ _ _); walk_at "wO") | ((with_reducible show Rs.WB _ _ _ _ _); walk_at "wB") | ((with_reducible show Rs.WS _ _ _ _ _); walk_at "wS") | ((with_reducible show Rs.WA _ _ _ _ _); walk_at "wA") | ((with_reducible show Rs.WT _ _ _ _ _); walk_at "wT") | ((with_reducible show L2.rIx _ _ _ _ _); walk_at "wR") | ((with_reducible show ite _ _ _); walk_at "wI") | walk_at "wX" | fail)
/-! steps over the text -/
local macro_rules | `(tactic| walk_at "wE") => `(tactic| first | ((with_reducible refine' we_name ?n ?h ?_); (case n => with_reducible assumption); (case h => exact rfl)) | with_reducible refine' we_int ?_ | with_reducible refine' we_str ?_ | with_reducible refine' we_bool ?_ | with_reducible refine' we_none ?_ | ((with_reducible refine' we_ref ?g ?m ?_); (case g => with_reducible assumption); (case m => with_reducible assumption)) | ((with_reducible refine' we_cint ?g ?m ?_); (case g => with_reducible assumption); (case m => with_reducible assumption)) | ((with_reducible refine' we_cstr ?g ?m ?_); (case g => with_reducible assumption); (case m => with_reducible assumption)) | with_reducible refine' we_bin ?_ | (with_reducible refine' we_cmp ?_ ?hm; (case hm => first | exact nomark _ | rfl)) | ((with_reducible refine' we_chain ?_ ?h1); (case h1 => rfl)) | with_reducible refine' we_and2 ?_ | with_reducible refine' we_and3 ?_ | with_reducible refine' we_or2 ?_ | with_reducible refine' we_not ?_ | with_reducible refine' we_un ?_ | with_reducible refine' we_if ?_ | ((with_reducible refine' we_isi ?b ?_ ?h1 ?h2 ?h3); (case b => with_reducible assumption); (case h1 => rfl); (case h2 => rfl); (case h3 => rfl)) | ((with_reducible refine' we_ty ?b ?hv ?_ ?hn ?hd); (case b => with_reducible assumption); (case hv => first | exact PyProof.Rows.boot_int | exact PyProof.Rows.boot_bool | exact PyProof.Rows.boot_str); (case hn => decide); (case hd => decide)) | ((with_reducible refine' we_call ?B ?g ?f ?hj ?_ ?hs ?hl); (case B => assumption); (case g => with_reducible assumption); (case f => with_reducible assumption); (case hj => decide); (case hs => rfl); (case hl => rfl)) | with_reducible refine' we_tup ?_ | with_reducible refine' we_lst ?_ | fail)
local macro_rules | `(tactic| walk_at "wO") => `(tactic| first | with_reducible refine' o_add ?_ | with_reducible refine' o_sub ?_ | with_reducible refine' o_lt ?_ | with_reducible refine' o_le ?_ | with_reducible refine' o_gt ?_ | with_reducible refine' o_ge ?_ | with_reducible refine' o_eq ?_ | with_reducible refine' o_ne ?_ | with_reducible refine' o_isN ?_ | with_reducible refine' o_notN ?_ | fail)
local macro_rules | `(tactic| walk_at "wB") => `(tactic| first | with_reducible refine' wb_one ?_ | with_reducible refine' wb_cons ?_ | with_reducible refine' wb_nil ?_ | fail)
local macro_rules | `(tactic| walk_at "wS") => `(tactic| first | ((with_reducible refine' ws_set ?n ?_ ?hs); (case n => with_reducible assumption); (case hs => rfl)) | with_reducible refine' ws_ret ?_ | with_reducible refine' ws_if ?_ | ((with_reducible refine' ws_par ?B ?n1 ?n2 ?hk ?hx ?hy ?_ ?h1 ?h2 ?h3 ?h4 ?h5 ?h6 ?h7 ?h8); (case B => assumption); (case n1 => with_reducible assumption); (case n2 => with_reducible assumption); (case hk => assumption); (case hx => assumption); (case hy => assumption); (case h1 => decide); (case h2 => decide); (case h3 => rfl); (case h4 => rfl); (case h5 => rfl); (case h6 => rfl); (case h7 => rfl); (case h8 => rfl)) | fail)
local macro_rules | `(tactic| walk_at "wA") => `(tactic| first | ((with_reducible refine' wa_two ?_ ?h1 ?h2); (case h1 => rfl); (case h2 => rfl)) | ((with_reducible refine' wa_one ?_ ?h1); (case h1 => rfl)) | ((with_reducible refine' wa_three ?_ ?h1 ?h2 ?h3); (case h1 => rfl); (case h2 => rfl); (case h3 => rfl)) | ((with_reducible refine' wa_cons ?_ ?h1); (case h1 => rfl)) | with_reducible refine' wa_nil ?_ | fail)
local macro_rules | `(tactic| walk_at "wT") => `(tactic| first | (with_reducible refine' wt_cmp ?_ ?hm; (case hm => first | exact nomark _ | rfl)) | ((with_reducible refine' wt_chain ?_ ?h1); (case h1 => rfl)) | with_reducible refine' wt_and2 ?_ | with_reducible refine' wt_and3 ?_ | with_reducible refine' wt_or2 ?_ | with_reducible refine' wt_or3 ?_ | with_reducible refine' wt_or4 ?_ | with_reducible refine' wt_not ?_ | ((with_reducible refine' wt_val ?_ ?he); (case he => intro _; rfl)) | fail)
local macro_rules | `(tactic| walk_at "wI") => `(tactic| first | with_reducible refine' iteT ?_ | with_reducible refine' iteNT ?_ | with_reducible refine' iteNF ?_ | with_reducible refine' iteF ?_ | fail)
local macro_rules | `(tactic| walk_at "wX") => `(tactic| first | with_reducible refine' o_neg ?_ | with_reducible refine' bl_ok ?_ | with_reducible refine' int_ok ?_ | fail)

/-! ### is_integer, common, is_time, time_of, Time(..) -/
section
variable {P : Program} {w : World} {K : PySem.W.Frag} {mg : Str → Option Value} {base : Heap}
def spIsInteger (K : PySem.W.Frag) : Sp := fun vs H Q _ => ∃ v t r1 r2, vs = [v] ∧ TyX K H v t ∧ PySem.W.kitOne K t (.type "int") = some r1 ∧ PySem.W.kitOne K t (.type "bool") = some r2 ∧ Q (.bl (r1 && !r2)) H
theorem f_is_integer (T : Tm K mg) : GFn P w K mg base 1 "is_integer" (spIsInteger K) := by
  obtain ⟨fd, F⟩ := T.d_is_integer
  refine GFn.mk F T.g_is_integer (def_ok F sc_is_integer (fun vs H Q E h => by obtain ⟨v, t, r1, r2, rfl, _⟩ := h; rfl) ?_) (F.bindsN fun _ _ _ _ _ _ us hl => match us, hl with | [_], _ => rfl)
  intro X eP ew eK em eb eN es hf nd H vs Q E B h
  subst eP ew eK em eb
  have n0 : Sl X 0 "thing" := slot_of eN es hf nd rfl (by first | exact Or.inl rfl | exact Or.inr rfl) (by decide) (by decide)
  have z_isinstance : Bn X "isinstance" := bn_of es rfl T.z_isinstance
  have z_int : Bn X "int" := bn_of es rfl T.z_int
  have z_bool : Bn X "bool" := bn_of es rfl T.z_bool
  obtain ⟨v, t, r1, r2, rfl, ht, h1, h2, q⟩ := h
  show WB X [_] _ [some v] H
  repeat walk_at "w"
  refine ⟨r1, ⟨t, _, .ty _, ht, h1⟩, ?_⟩
  repeat walk_at "w"
  refine ite_b (fun e => ?_) (fun e => ?_)
  · subst e
    repeat walk_at "w"
    refine ⟨r2, ⟨t, _, .ty _, ht, h2⟩, ?_⟩
    repeat walk_at "w"
    exact q
  · subst e
    exact q
def spCommon : Sp := fun vs H Q _ => ∃ a b, vs = [.int a, .int b] ∧ Q (.int (g1 a b)) H
theorem f_common (T : Tm K mg) : GFn P w K mg base 1 "common" spCommon := by
  obtain ⟨fd, F⟩ := T.d_common
  refine GFn.mk F T.g_common (def_ok F sc_common (fun vs H Q E h => by obtain ⟨a, b, rfl, _⟩ := h; rfl) ?_) (F.bindsN fun _ _ _ _ _ _ us hl => match us, hl with | [_, _], _ => rfl)
  intro X eP ew eK em eb eN es hf nd H vs Q E B h
  subst eP ew eK em eb
  have n0 : Sl X 0 "one" := slot_of eN es hf nd rfl (by first | exact Or.inl rfl | exact Or.inr rfl) (by decide) (by decide)
  have n1 : Sl X 1 "other" := slot_of eN es hf nd rfl (by first | exact Or.inl rfl | exact Or.inr rfl) (by decide) (by decide)
  have z_abs : Bn X "abs" := bn_of es rfl T.z_abs
  have kb : X.env.blockKind = .function := blk_of es rfl
  have k_one : X.env.kindOf "one" = some .local := kd_of es rfl
  have k_other : X.env.kindOf "other" = some .local := kd_of es rfl
  obtain ⟨a, b, rfl, q⟩ := h
  show WB X [_, _, _, _] _ [some (.int a), some (.int b)] H
  repeat walk_at "w"
  refine we_abs z_abs ?_
  repeat walk_at "w"
  refine we_abs z_abs ?_
  repeat walk_at "w"
  refine ws_while_by (fun σ H' => ∃ x y : Int, σ = [some (.int x), some (.int y)] ∧ 0 ≤ x ∧ 0 ≤ y ∧ Int.gcd x y = Int.gcd a b ∧ H' = H) (fun σ _ => match σ with | [_, some (.int y)] => y.toNat | _ => 0) B
    ⟨_, _, rfl, abs_nn a, abs_nn b, gcd_abs a b, rfl⟩ ?_
  rintro σ H' ⟨x, y, rfl, hx, hy, hg, rfl⟩
  repeat walk_at "w"
  refine ite_ndec (fun hc => ?_) (fun hc => ?_)
  · repeat walk_at "w"
    refine o_mod (by omega) ?_
    exact ⟨⟨y, x % y, rfl, hy, Int.emod_nonneg _ hc, by rw [gcd_turn, hg], rfl⟩, by have := Int.emod_lt_of_pos x (show 0 < y by omega); have := Int.emod_nonneg x hc; show (x % y).toNat < y.toNat; omega⟩
  · repeat walk_at "w"
    have e : g1 a b = if x > 0 then x else 1 := by
      unfold g1
      rw [← hg, hc, Int.gcd_zero_right, Int.natAbs_of_nonneg hx]
    refine ite_dec (fun hp => ?_) (fun hp => ?_)
    · repeat walk_at "w"
      rw [e, if_pos hp] at q
      exact q
    · repeat walk_at "w"
      rw [e, if_neg hp] at q
      exact q
def spIsTime (K : PySem.W.Frag) : Sp := fun vs H Q _ => ∃ v t r0 r1 r2, vs = [v] ∧ TyX K H v t ∧ PySem.W.kitOne K t (.ref (ga K "Time")) = some r0 ∧ PySem.W.kitOne K t (.type "int") = some r1 ∧ PySem.W.kitOne K t (.type "bool") = some r2 ∧ Q (.bl (r0 || (r1 && !r2))) H
theorem f_is_time (T : Tm K mg) : GFn P w K mg base 2 "is_time" (spIsTime K) := by
  obtain ⟨fd, F⟩ := T.d_is_time
  refine GFn.mk F T.g_is_time (def_ok F sc_is_time (fun vs H Q E h => by obtain ⟨v, t, r0, r1, r2, rfl, _⟩ := h; rfl) ?_) (F.bindsN fun _ _ _ _ _ _ us hl => match us, hl with | [_], _ => rfl)
  intro X eP ew eK em eb eN es hf nd H vs Q E B h
  subst eP ew eK em eb
  have n0 : Sl X 0 "thing" := slot_of eN es hf nd rfl (by first | exact Or.inl rfl | exact Or.inr rfl) (by decide) (by decide)
  have z_isinstance : Bn X "isinstance" := bn_of es rfl T.z_isinstance
  have g_Time : Gn X "Time" := gn_of es rfl (by decide)
  have m_Time := T.g_Time
  have g_is_integer : Gn X "is_integer" := gn_of es rfl (by decide)
  have F_is_integer := f_is_integer (P := X.prog) (w := X.w) (base := X.base) T
  obtain ⟨v, t, r0, r1, r2, rfl, ht, h0, h1, h2, q⟩ := h
  show WB X [_] _ [some v] H
  repeat walk_at "w"
  refine ⟨r0, ⟨t, _, .own _, ht, h0⟩, ?_⟩
  repeat walk_at "w"
  refine ite_b (fun e => ?_) (fun e => ?_)
  · subst e
    exact q
  · subst e
    repeat walk_at "w"
    exact ⟨v, t, r1, r2, rfl, ht, h1, h2, q⟩
end

/-! ### kinds of values -/
theorem g1_sz {t d : Int} (h : d ≠ 0) (hz : d.natAbs < 2 ^ 9000) : (g1 t d).natAbs < 2 ^ 9000 := Nat.lt_of_le_of_lt (g1_le h) hz
section
variable {K : PySem.W.Frag} {mg : Str → Option Value} {H : Hp} {Q : VK} {E : XK} {v : V} {q : Rat} {i : Int}
abbrev CT (K : PySem.W.Frag) : Addr := ga K "Time"
theorem k_ii : PySem.W.kitOne K (.type "int") (.type "int") = some true := kit_ty (by decide +kernel)
theorem k_ib : PySem.W.kitOne K (.type "int") (.type "bool") = some false := kit_ty (by decide +kernel)
theorem k_is_ : PySem.W.kitOne K (.type "int") (.type "str") = some false := kit_ty (by decide +kernel)
theorem k_bi : PySem.W.kitOne K (.type "bool") (.type "int") = some true := kit_ty (by decide +kernel)
theorem k_bb : PySem.W.kitOne K (.type "bool") (.type "bool") = some true := kit_ty (by decide +kernel)
theorem k_si : PySem.W.kitOne K (.type "str") (.type "int") = some false := kit_ty (by decide +kernel)
theorem k_sb : PySem.W.kitOne K (.type "str") (.type "bool") = some false := kit_ty (by decide +kernel)
theorem k_ss : PySem.W.kitOne K (.type "str") (.type "str") = some true := kit_ty (by decide +kernel)
theorem k_ni : PySem.W.kitOne K (.type "NoneType") (.type "int") = some false := kit_ty (by decide +kernel)
theorem k_nb : PySem.W.kitOne K (.type "NoneType") (.type "bool") = some false := kit_ty (by decide +kernel)
theorem k_ti : PySem.W.kitOne K (.type "tuple") (.type "int") = some false := kit_ty (by decide +kernel)
theorem k_tb : PySem.W.kitOne K (.type "tuple") (.type "bool") = some false := kit_ty (by decide +kernel)
theorem k_li : PySem.W.kitOne K (.type "list") (.type "int") = some false := kit_ty (by decide +kernel)
theorem k_lb : PySem.W.kitOne K (.type "list") (.type "bool") = some false := kit_ty (by decide +kernel)
theorem tyT (T : Tm K mg) (h : TimeV (CT K) q v H) : TyX K H v (.ref (CT K)) := by
  obtain ⟨p, dx, rfl, h⟩ := h
  exact T.c_Time.ty h
/-- is_integer's, is_time's answers -/
theorem ii_int (z : Q (.bl true) H) : spIsInteger K [.int i] H Q E := ⟨_, _, true, false, rfl, .base (.int i), k_ii, k_ib, z⟩
theorem it_int (T : Tm K mg) (z : Q (.bl true) H) : spIsTime K [.int i] H Q E := ⟨_, _, false, true, false, rfl, .base (.int i), T.k_Time.ofInt, k_ii, k_ib, z⟩
theorem it_T (T : Tm K mg) (h : TimeV (CT K) q v H) (z : Q (.bl true) H) : spIsTime K [v] H Q E := ⟨_, _, true, false, false, rfl, tyT T h, T.k_Time.self, T.k_Time.int, T.k_Time.bool, z⟩
/-- a time or an int: what time_of and the operators take -/
def Tim (K : PySem.W.Frag) (q : Rat) (v : V) (H : Hp) : Prop := TimeV (CT K) q v H ∨ ∃ i : Int, v = .int i ∧ q = (i : Rat)
theorem Tim.mono {H' : Hp} (x : Ex H H') (h : Tim K q v H) : Tim K q v H' := h.elim (fun h => .inl (h.mono x)) .inr
theorem it_tim (T : Tm K mg) (h : Tim K q v H) (z : Q (.bl true) H) : spIsTime K [v] H Q E := by
  rcases h with h | ⟨i, rfl, _⟩
  · exact it_T T h z
  · exact it_int T z
end
local macro_rules | `(tactic| walk_at "wX") => `(tactic| first | with_reducible refine' ii_int ?_ | (with_reducible refine' it_int ?T ?_; (case T => assumption)) | fail)
section
variable {P : Program} {w : World} {K : PySem.W.Frag} {mg : Str → Option Value} {base : Heap}
/-! ### fields -/
section
variable {X : Cx} {σ : L2.St} {H : Hp} {Q : VK} {e : Expr} {pos : Pos}
theorem we_over (T : Tm X.K X.mg) (h : WE X e σ H fun y H1 => ∃ q, TimeV (CT X.K) q y H1 ∧ Q (.int q.num) H1) (hb : attributeBase e "over_line" X.env (eval e X.env) = eval e X.env := by rfl) : WE X (.Attribute e "over_line" pos) σ H Q :=
  we_fld T.c_Time.cl T.n_Time_over_line (we_mono h fun y H1 z => by
    obtain ⟨q, ⟨p, dx, rfl, ht⟩, z⟩ := z
    exact ⟨p, dx, _, _, rfl, ht, tfs_over q, z⟩) hb
theorem we_under (T : Tm X.K X.mg) (h : WE X e σ H fun y H1 => ∃ q, TimeV (CT X.K) q y H1 ∧ Q (.int q.den) H1) (hb : attributeBase e "under_line" X.env (eval e X.env) = eval e X.env := by rfl) : WE X (.Attribute e "under_line" pos) σ H Q :=
  we_fld T.c_Time.cl T.n_Time_under_line (we_mono h fun y H1 z => by
    obtain ⟨q, ⟨p, dx, rfl, ht⟩, z⟩ := z
    exact ⟨p, dx, _, _, rfl, ht, tfs_under q, z⟩) hb
end
/-! ### Time.__init__ -/
def spInit (K : PySem.W.Frag) : Sp := fun vs H Q _ => ∃ p dx t d, vs = [.ref p, .int t, .int d] ∧ H p = some (.ins (CT K) dx []) ∧ d ≠ 0 ∧ (g1 t d).natAbs < 2 ^ 9000 ∧ Q .non (upd H p (.ins (CT K) dx (tfs (Rat.divInt t d))))
theorem ok_init {fd : FuncData} (T : Tm K mg) (F : FunD K "__init__" "Time.__init__" (defArgs s_Time___init__) (defBody s_Time___init__) (defScope s_Time___init__) [.int 1] [] (ma K (CT K) "__init__") fd) :
    FnOk P w K mg base (RX P w) 2 (ma K (CT K) "__init__") fd ["self", "top", "bottom"] (spInit K) := by
  refine def_ok F sc_Time___init__ (fun vs H Q E h => by obtain ⟨p, dx, t, d, rfl, _⟩ := h; rfl) ?_
  intro X eP ew eK em eb eN es hf nd H vs Q E B h
  subst eP ew eK em eb
  have n0 : Sl X 0 "self" := slot_of eN es hf nd rfl (by first | exact Or.inl rfl | exact Or.inr rfl) (by decide) (by decide)
  have n1 : Sl X 1 "top" := slot_of eN es hf nd rfl (by first | exact Or.inl rfl | exact Or.inr rfl) (by decide) (by decide)
  have n2 : Sl X 2 "bottom" := slot_of eN es hf nd rfl (by first | exact Or.inl rfl | exact Or.inr rfl) (by decide) (by decide)
  have n3 : Sl X 3 "part" := slot_of eN es hf nd rfl (by first | exact Or.inl rfl | exact Or.inr rfl) (by decide) (by decide)
  have g_is_integer : Gn X "is_integer" := gn_of es rfl (by decide)
  have F_is_integer := f_is_integer (P := X.prog) (w := X.w) (base := X.base) T
  have g_NoTime : Gn X "NoTime" := gn_of es rfl (by decide)
  have m_NoTime := T.g_NoTime
  have g_common : Gn X "common" := gn_of es rfl (by decide)
  have F_common := f_common (P := X.prog) (w := X.w) (base := X.base) T
  obtain ⟨p, dx, t, d, rfl, hp, d0, dz, q⟩ := h
  show WB X [_, _, _, _, _, _] _ [some (.ref p), some (.int t), some (.int d), none] H
  repeat walk_at "w"
  refine ite_dec (fun h => absurd h d0) fun _ => ?_
  repeat walk_at "w"
  refine ⟨t, d, rfl, ?_⟩
  repeat walk_at "w"
  have g0 := g1_pos t d
  have gz := dz
  have hn := made_num (t := t) d0
  have hd := made_den (t := t) d0
  have fin : ∀ {D : Ends} {σ : L2.St} {g : Int}, D.nx σ (upd H p (.ins (CT X.K) dx (tfs (Rat.divInt t d)))) → g = (if d < 0 then 0 - g1 t d else g1 t d) →
      D.nx σ (upd (upd H p (.ins (CT X.K) dx (putF "over_line" (.int (t.fdiv g)) []))) p (.ins (CT X.K) dx (putF "under_line" (.int (d.fdiv g)) (putF "over_line" (.int (t.fdiv g)) [])))) := by
    intro D σ g z e
    subst e
    rw [hn, hd, tfs_put, upd_upd]
    exact z
  refine ite_dec (fun hneg => ?_) fun hneg => ?_
  · repeat walk_at "w"
    refine ws_fld T.c_Time.cl T.n_Time_over_line ?_
    repeat walk_at "w"
    refine o_fdiv (by omega) (log2_small (m := 9000) (by rw [Int.zero_sub, Int.natAbs_neg]; exact gz) (by decide) (by decide)) ?_
    repeat walk_at "w"
    refine ⟨p, dx, _, rfl, hp, by decide, ?_⟩
    repeat walk_at "w"
    refine ws_fld T.c_Time.cl T.n_Time_under_line ?_
    repeat walk_at "w"
    refine o_fdiv (by omega) (log2_small (m := 9000) (by rw [Int.zero_sub, Int.natAbs_neg]; exact gz) (by decide) (by decide)) ?_
    repeat walk_at "w"
    refine ⟨p, dx, _, rfl, upd_same, (by show 1 < 1000; decide), ?_⟩
    exact fin (D := { nx := fun _ H' => Q .non H', rt := Q }) (σ := []) q (by rw [if_pos hneg])
  · repeat walk_at "w"
    refine ws_fld T.c_Time.cl T.n_Time_over_line ?_
    repeat walk_at "w"
    refine o_fdiv (by omega) (log2_small (m := 9000) gz (by decide) (by decide)) ?_
    repeat walk_at "w"
    refine ⟨p, dx, _, rfl, hp, by decide, ?_⟩
    repeat walk_at "w"
    refine ws_fld T.c_Time.cl T.n_Time_under_line ?_
    repeat walk_at "w"
    refine o_fdiv (by omega) (log2_small (m := 9000) gz (by decide) (by decide)) ?_
    repeat walk_at "w"
    refine ⟨p, dx, _, rfl, upd_same, (by show 1 < 1000; decide), ?_⟩
    exact fin (D := { nx := fun _ H' => Q .non H', rt := Q }) (σ := []) q (by rw [if_neg hneg])
end

/-! ### Time(..) made; time_of -/
section
variable {P : Program} {w : World} {K : PySem.W.Frag} {mg : Str → Option Value} {base : Heap}
theorem k_Time2 (T : Tm K mg) : GMk P w K mg base 2 "Time" (CT K) (spInit K) [] := by
  obtain ⟨fd, F⟩ := T.d_Time___init__
  obtain ⟨ds, hd, hb⟩ := F.binds1 (ps := ["self", "top", "bottom"]) 3 1 (List.cons_ne_nil _ _) rfl (fun _ _ _ _ _ _ _ us its h1 h2 => match us, its, h1, h2 with
    | [_, _, _], [_], _, _ => ⟨_, rfl, rfl⟩)
  exact ⟨_, fd, _, ds, T.g_Time, T.m_Time, ok_init T F, hb, hd⟩
theorem k_Time1 (T : Tm K mg) : GMk P w K mg base 2 "Time" (CT K) (spInit K) [.int 1] := by
  obtain ⟨fd, F⟩ := T.d_Time___init__
  obtain ⟨ds, hd, hb⟩ := F.binds1 (ps := ["self", "top", "bottom"]) 2 0 (List.cons_ne_nil _ _) rfl (fun _ _ _ _ _ _ _ us its h1 h2 => match us, its, h1, h2 with
    | [_, _], [_], _, _ => ⟨_, rfl, rfl⟩)
  exact ⟨_, fd, _, ds, T.g_Time, T.m_Time, ok_init T F, hb, hd⟩
section
variable {X : Cx} {σ : L2.St} {H : Hp} {Q : VK} {a b : Expr} {p pos : Pos} {k : Nat} {E : L2.St → XK}
/-- what a new time wants -/
def NewT (K : PySem.W.Frag) (t d : Int) (H : Hp) (Q : VK) : Prop := d ≠ 0 ∧ (g1 t d).natAbs < 2 ^ 9000 ∧ Ret H (TimeV (CT K) (Rat.divInt t d)) Q
theorem made_t {E : XK} {x dx : Addr} {t d : Int} {H : Hp} {Q : VK} (nx : H x = none) (nd : H dx = none) (ne : dx ≠ x) (h : NewT K t d H Q) : spInit K [.ref x, .int t, .int d] (upd (upd H dx (.own x)) x (.ins (CT K) dx [])) (fun v H2 => v = .non ∧ Q (.ref x) H2) E :=
  ⟨x, dx, t, d, rfl, upd_same, h.1, h.2.1, rfl, h.2.2 _ _ (Ex.made nx nd) ⟨x, dx, rfl, upd_same⟩⟩
theorem we_Time2 (B : Body X k E) (g : Gn X "Time") (T : Tm X.K X.mg) (hk : 3 ≤ k) (h : WE X a σ H fun x H1 => WE X b σ H1 fun y H2 => ∃ t d, x = .int t ∧ y = .int d ∧ NewT X.K t d H2 Q)
    (hs : starEach [a, b] X.env = (false, eval a X.env) :: starEach [b] X.env := by rfl) (ht : starEach [b] X.env = [(false, eval b X.env)] := by rfl) (hl : (backTo pos (starEach [b] X.env)).any (·.1) = false := by rfl) : WE X (.Call (.Name "Time" p) [a, b] [] pos) σ H Q :=
  we_make B g (k_Time2 (P := X.prog) (w := X.w) (base := X.base) T) hk (wa_two (we_mono h fun x H1 z => we_mono z fun y H2 z => by
    obtain ⟨t, d, rfl, rfl, z⟩ := z
    exact fun x dx nx nd ne => made_t nx nd ne z) hs ht) hs hl
theorem one_lt : (1 : Int).natAbs < 2 ^ 9000 := Nat.lt_of_lt_of_le (show 1 < 2 ^ 1 by decide) (Nat.pow_le_pow_right (by decide) (show 1 ≤ 9000 by decide))
theorem we_Time1 (B : Body X k E) (g : Gn X "Time") (T : Tm X.K X.mg) (hk : 3 ≤ k) (h : WE X a σ H fun x H1 => ∃ t, x = .int t ∧ Ret H1 (TimeV (CT X.K) (t : Rat)) Q)
    (hs : starEach [a] X.env = [(false, eval a X.env)] := by rfl) (hl : (backTo pos (starEach [] X.env)).any (·.1) = false := by rfl) : WE X (.Call (.Name "Time" p) [a] [] pos) σ H Q :=
  we_make B g (k_Time1 (P := X.prog) (w := X.w) (base := X.base) T) hk (wa_one (we_mono h fun x H1 z => by
    obtain ⟨t, rfl, z⟩ := z
    refine fun x dx nx nd ne => made_t nx nd ne ⟨by decide, ?_, by rw [int_eq]; exact z⟩
    exact g1_sz (by decide) one_lt) hs) hs hl
end
end
local macro_rules | `(tactic| walk_at "wE") => `(tactic| first | ((with_reducible refine' we_Time2 ?B ?g ?T ?hk ?_ ?h1 ?h2 ?h3); (case B => assumption); (case g => assumption); (case T => assumption); (case hk => decide); (case h1 => rfl); (case h2 => rfl); (case h3 => rfl)) | ((with_reducible refine' we_Time1 ?B ?g ?T ?hk ?_ ?h1 ?h2); (case B => assumption); (case g => assumption); (case T => assumption); (case hk => decide); (case h1 => rfl); (case h2 => rfl)) | fail)
section
variable {P : Program} {w : World} {K : PySem.W.Frag} {mg : Str → Option Value} {base : Heap}
def spTimeOf (K : PySem.W.Frag) : Sp := fun vs H Q E => ∃ v, vs = [v] ∧ ((∃ q, TimeV (CT K) q v H ∧ Q v H) ∨ (∃ i : Int, v = .int i ∧ Ret H (TimeV (CT K) (i : Rat)) Q) ∨
  ∃ t r1 r2, TyX K H v t ∧ PySem.W.kitOne K t (.ref (CT K)) = some false ∧ PySem.W.kitOne K t (.type "int") = some r1 ∧ PySem.W.kitOne K t (.type "bool") = some r2 ∧ (r1 && !r2) = false ∧ E (.ref (ga K "NoTime")) none H)
theorem f_time_of (T : Tm K mg) : GFn P w K mg base 4 "time_of" (spTimeOf K) := by
  obtain ⟨fd, F⟩ := T.d_time_of
  refine GFn.mk F T.g_time_of (def_ok F sc_time_of (fun vs H Q E h => by obtain ⟨v, rfl, _⟩ := h; rfl) ?_) (F.bindsN fun _ _ _ _ _ _ us hl => match us, hl with | [_], _ => rfl)
  intro X eP ew eK em eb eN es hf nd H vs Q E B h
  subst eP ew eK em eb
  have n0 : Sl X 0 "thing" := slot_of eN es hf nd rfl (by first | exact Or.inl rfl | exact Or.inr rfl) (by decide) (by decide)
  have z_isinstance : Bn X "isinstance" := bn_of es rfl T.z_isinstance
  have g_Time : Gn X "Time" := gn_of es rfl (by decide)
  have m_Time := T.g_Time
  have g_is_integer : Gn X "is_integer" := gn_of es rfl (by decide)
  have F_is_integer := f_is_integer (P := X.prog) (w := X.w) (base := X.base) T
  have g_NoTime : Gn X "NoTime" := gn_of es rfl (by decide)
  have m_NoTime := T.g_NoTime
  obtain ⟨v, rfl, h⟩ := h
  show WB X [_, _, _] _ [some v] H
  rcases h with ⟨q, hv, z⟩ | ⟨i, rfl, z⟩ | ⟨t, r1, r2, ht, h0, h1, h2, e, z⟩
  · repeat walk_at "w"
    refine ⟨true, ⟨_, _, .own _, tyT T hv, T.k_Time.self⟩, ?_⟩
    repeat walk_at "w"
    exact z
  · repeat walk_at "w"
    refine ⟨false, ⟨_, _, .own _, .base (.int i), T.k_Time.ofInt⟩, ?_⟩
    repeat walk_at "w"
    exact z
  · repeat walk_at "w"
    refine ⟨false, ⟨_, _, .own _, ht, h0⟩, ?_⟩
    repeat walk_at "w"
    refine ⟨v, t, r1, r2, rfl, ht, h1, h2, ?_⟩
    rw [e]
    repeat walk_at "w"
    exact ws_raise B g_NoTime m_NoTime T.x_NoTime z
theorem to_T {H : Hp} {Q : VK} {E : XK} {v : V} {q : Rat} (h : TimeV (CT K) q v H) (z : Q v H) : spTimeOf K [v] H Q E := ⟨v, rfl, .inl ⟨q, h, z⟩⟩
theorem to_int {H : Hp} {Q : VK} {E : XK} {i : Int} (z : Ret H (TimeV (CT K) (i : Rat)) Q) : spTimeOf K [.int i] H Q E := ⟨_, rfl, .inr (.inl ⟨i, rfl, z⟩)⟩
theorem to_tim {H : Hp} {Q : VK} {E : XK} {v : V} {q : Rat} (h : Tim K q v H) (z : Ret H (TimeV (CT K) q) Q) : spTimeOf K [v] H Q E := by
  rcases h with h | ⟨i, rfl, rfl⟩
  · exact to_T h (z.now h)
  · exact to_int z
end

/-! ### + - * of times -/
theorem tv_ok {C : Addr} {v : V} {H : Hp} {q : Rat} {R : Rat → Prop} (h : TimeV C q v H) (z : R q) : ∃ q, TimeV C q v H ∧ R q := ⟨q, h, z⟩
theorem cm_nn {q r : Rat} (h : Sz q 4000) (h' : Sz r 4000) : CMulW q.num r.num := wide_mul h.num h'.num (by decide) (by decide) (by decide)
theorem cm_nd {q r : Rat} (h : Sz q 4000) (h' : Sz r 4000) : CMulW q.num r.den := wide_mul h.num (by rw [Int.natAbs_natCast]; exact h'.den) (by decide) (by decide) (by decide)
theorem cm_dn {q r : Rat} (h : Sz q 4000) (h' : Sz r 4000) : CMulW q.den r.num := wide_mul (by rw [Int.natAbs_natCast]; exact h.den) h'.num (by decide) (by decide) (by decide)
theorem cm_dd {q r : Rat} (h : Sz q 4000) (h' : Sz r 4000) : CMulW q.den r.den := wide_mul (by rw [Int.natAbs_natCast]; exact h.den) (by rw [Int.natAbs_natCast]; exact h'.den) (by decide) (by decide) (by decide)
local macro_rules | `(tactic| walk_at "x") => `(tactic| first | assumption | exact Ex.refl _ | (refine Ex.trans ?_ (by assumption); walk_at "x"))
local macro_rules | `(tactic| walk_at "tv") => `(tactic| first | assumption | ((with_reducible refine' TimeV.mono ?x ?h); (case h => assumption); (case x => walk_at "x")))
local macro_rules | `(tactic| walk_at "sz") => `(tactic| first | exact cm_nd (by assumption) (by assumption) | exact cm_nn (by assumption) (by assumption) | exact cm_dd (by assumption) (by assumption) | exact cm_dn (by assumption) (by assumption))
local macro_rules | `(tactic| walk_at "wE") => `(tactic| first | ((with_reducible refine' we_over ?T ?_ ?hb); (case T => assumption); (case hb => rfl)) | ((with_reducible refine' we_under ?T ?_ ?hb); (case T => assumption); (case hb => rfl)) | fail)
local macro_rules | `(tactic| walk_at "wO") => `(tactic| first | ((with_reducible refine' o_mul ?hc ?_); (case hc => walk_at "sz")) | fail)
local macro_rules | `(tactic| walk_at "wX") => `(tactic| first | ((with_reducible refine' tv_ok ?h ?_); (case h => walk_at "tv")) | fail)
theorem dd_ne (q r : Rat) : (q.den : Int) * (r.den : Int) ≠ 0 := Int.mul_ne_zero (den_ne q) (den_ne r)
theorem dd_sz {q r : Rat} (h : Sz q 4000) (h' : Sz r 4000) : ((q.den : Int) * (r.den : Int)).natAbs < 2 ^ 9000 := by
  rw [Int.natAbs_mul, Int.natAbs_natCast, Int.natAbs_natCast]
  exact Nat.lt_of_lt_of_le (pow_add' h.den h'.den) (Nat.pow_le_pow_right (by decide) (by decide))
abbrev MT (K : PySem.W.Frag) (m : Str) : Addr := ma K (CT K) m

/-! ### + - * -/
section
variable {P : Program} {w : World} {K : PySem.W.Frag} {mg : Str → Option Value} {base : Heap}
/-- an operator of two times, or of a time and an int -/
def spOp (K : PySem.W.Frag) (f : Rat → Rat → Rat) : Sp := fun vs H Q _ => ∃ q r v u, vs = [v, u] ∧ TimeV (CT K) q v H ∧ Tim K r u H ∧ Sz q 4000 ∧ Sz r 4000 ∧ Ret H (TimeV (CT K) (f q r)) Q
theorem f_add (T : Tm K mg) : FnR P w K mg base (RX P w) 5 (MT K "__add__") (spOp K (· + ·)) := by
  obtain ⟨fd, F⟩ := T.d_Time___add__
  refine raw_of F (def_ok F sc_Time___add__ (fun vs H Q E h => by obtain ⟨q, r, v, u, rfl, _⟩ := h; rfl) ?_) (F.bindsN fun _ _ _ _ _ _ us hl => match us, hl with | [_, _], _ => rfl)
  intro X eP ew eK em eb eN es hf nd H vs Q E B h
  subst eP ew eK em eb
  have n0 : Sl X 0 "self" := slot_of eN es hf nd rfl (by first | exact Or.inl rfl | exact Or.inr rfl) (by decide) (by decide)
  have n1 : Sl X 1 "other" := slot_of eN es hf nd rfl (by first | exact Or.inl rfl | exact Or.inr rfl) (by decide) (by decide)
  have n2 : Sl X 2 "more" := slot_of eN es hf nd rfl (by first | exact Or.inl rfl | exact Or.inr rfl) (by decide) (by decide)
  have n3 : Sl X 3 "top" := slot_of eN es hf nd rfl (by first | exact Or.inl rfl | exact Or.inr rfl) (by decide) (by decide)
  have g_is_time : Gn X "is_time" := gn_of es rfl (by decide)
  have F_is_time := f_is_time (P := X.prog) (w := X.w) (base := X.base) T
  have g_time_of : Gn X "time_of" := gn_of es rfl (by decide)
  have F_time_of := f_time_of (P := X.prog) (w := X.w) (base := X.base) T
  have g_Time : Gn X "Time" := gn_of es rfl (by decide)
  have m_Time := T.g_Time
  obtain ⟨q, r, v, u, rfl, hv, hu, hq, hr, z⟩ := h
  show WB X [_, _, _, _] _ [some v, some u, none, none] H
  repeat walk_at "w"
  refine it_tim T hu ?_
  repeat walk_at "w"
  refine to_tim hu fun y H1 x1 hy => ?_
  repeat walk_at "w"
  exact ⟨_, _, rfl, rfl, dd_ne q r, g1_sz (dd_ne q r) (dd_sz hq hr), by rw [add_eq]; exact z.mono x1⟩
theorem f_sub (T : Tm K mg) : FnR P w K mg base (RX P w) 5 (MT K "__sub__") (spOp K (· - ·)) := by
  obtain ⟨fd, F⟩ := T.d_Time___sub__
  refine raw_of F (def_ok F sc_Time___sub__ (fun vs H Q E h => by obtain ⟨q, r, v, u, rfl, _⟩ := h; rfl) ?_) (F.bindsN fun _ _ _ _ _ _ us hl => match us, hl with | [_, _], _ => rfl)
  intro X eP ew eK em eb eN es hf nd H vs Q E B h
  subst eP ew eK em eb
  have n0 : Sl X 0 "self" := slot_of eN es hf nd rfl (by first | exact Or.inl rfl | exact Or.inr rfl) (by decide) (by decide)
  have n1 : Sl X 1 "other" := slot_of eN es hf nd rfl (by first | exact Or.inl rfl | exact Or.inr rfl) (by decide) (by decide)
  have n2 : Sl X 2 "less" := slot_of eN es hf nd rfl (by first | exact Or.inl rfl | exact Or.inr rfl) (by decide) (by decide)
  have n3 : Sl X 3 "top" := slot_of eN es hf nd rfl (by first | exact Or.inl rfl | exact Or.inr rfl) (by decide) (by decide)
  have g_is_time : Gn X "is_time" := gn_of es rfl (by decide)
  have F_is_time := f_is_time (P := X.prog) (w := X.w) (base := X.base) T
  have g_time_of : Gn X "time_of" := gn_of es rfl (by decide)
  have F_time_of := f_time_of (P := X.prog) (w := X.w) (base := X.base) T
  have g_Time : Gn X "Time" := gn_of es rfl (by decide)
  have m_Time := T.g_Time
  obtain ⟨q, r, v, u, rfl, hv, hu, hq, hr, z⟩ := h
  show WB X [_, _, _, _] _ [some v, some u, none, none] H
  repeat walk_at "w"
  refine it_tim T hu ?_
  repeat walk_at "w"
  refine to_tim hu fun y H1 x1 hy => ?_
  repeat walk_at "w"
  exact ⟨_, _, rfl, rfl, dd_ne q r, g1_sz (dd_ne q r) (dd_sz hq hr), by rw [sub_eq]; exact z.mono x1⟩
theorem f_mul (T : Tm K mg) : FnR P w K mg base (RX P w) 5 (MT K "__mul__") (spOp K (· * ·)) := by
  obtain ⟨fd, F⟩ := T.d_Time___mul__
  refine raw_of F (def_ok F sc_Time___mul__ (fun vs H Q E h => by obtain ⟨q, r, v, u, rfl, _⟩ := h; rfl) ?_) (F.bindsN fun _ _ _ _ _ _ us hl => match us, hl with | [_, _], _ => rfl)
  intro X eP ew eK em eb eN es hf nd H vs Q E B h
  subst eP ew eK em eb
  have n0 : Sl X 0 "self" := slot_of eN es hf nd rfl (by first | exact Or.inl rfl | exact Or.inr rfl) (by decide) (by decide)
  have n1 : Sl X 1 "other" := slot_of eN es hf nd rfl (by first | exact Or.inl rfl | exact Or.inr rfl) (by decide) (by decide)
  have n2 : Sl X 2 "by" := slot_of eN es hf nd rfl (by first | exact Or.inl rfl | exact Or.inr rfl) (by decide) (by decide)
  have g_is_time : Gn X "is_time" := gn_of es rfl (by decide)
  have F_is_time := f_is_time (P := X.prog) (w := X.w) (base := X.base) T
  have g_time_of : Gn X "time_of" := gn_of es rfl (by decide)
  have F_time_of := f_time_of (P := X.prog) (w := X.w) (base := X.base) T
  have g_Time : Gn X "Time" := gn_of es rfl (by decide)
  have m_Time := T.g_Time
  obtain ⟨q, r, v, u, rfl, hv, hu, hq, hr, z⟩ := h
  show WB X [_, _, _] _ [some v, some u, none] H
  repeat walk_at "w"
  refine it_tim T hu ?_
  repeat walk_at "w"
  refine to_tim hu fun y H1 x1 hy => ?_
  repeat walk_at "w"
  exact ⟨_, _, rfl, rfl, dd_ne q r, g1_sz (dd_ne q r) (dd_sz hq hr), by rw [mul_eq]; exact z.mono x1⟩
/-! the operators, by the kinds of their sides -/
section
variable {X : Cx} {k : Nat} {E : XK} {H : Hp} {Q : VK} {v u : V} {q r : Rat}
theorem o_addT (B : Body X k fun _ => E) (T : Tm X.K X.mg) (hk : 5 ≤ k) (hv : TimeV (CT X.K) q v H) (hu : Tim X.K r u H) (hq : Sz q 4000) (hr : Sz r 4000) (z : Ret H (TimeV (CT X.K) (q + r)) Q) : Op2 X (binaryOp .Add) v u H Q := by
  have s : spOp X.K (· + ·) [v, u] H Q E := ⟨q, r, v, u, rfl, hv, hu, hq, hr, z⟩
  obtain ⟨p, dx, rfl, hp⟩ := hv
  rcases hu with ⟨p', dx', rfl, hp'⟩ | ⟨i, rfl, _⟩
  · exact bin_tt B T.b_Time___add__ (f_add T) hk hp hp' s
  · exact bin_ti B T.b_Time___add__ (f_add T) hk hp s
theorem o_subT (B : Body X k fun _ => E) (T : Tm X.K X.mg) (hk : 5 ≤ k) (hv : TimeV (CT X.K) q v H) (hu : Tim X.K r u H) (hq : Sz q 4000) (hr : Sz r 4000) (z : Ret H (TimeV (CT X.K) (q - r)) Q) : Op2 X (binaryOp .Sub) v u H Q := by
  have s : spOp X.K (· - ·) [v, u] H Q E := ⟨q, r, v, u, rfl, hv, hu, hq, hr, z⟩
  obtain ⟨p, dx, rfl, hp⟩ := hv
  rcases hu with ⟨p', dx', rfl, hp'⟩ | ⟨i, rfl, _⟩
  · exact bin_tt B T.b_Time___sub__ (f_sub T) hk hp hp' s
  · exact bin_ti B T.b_Time___sub__ (f_sub T) hk hp s
theorem o_mulT (B : Body X k fun _ => E) (T : Tm X.K X.mg) (hk : 5 ≤ k) (hv : TimeV (CT X.K) q v H) (hu : Tim X.K r u H) (hq : Sz q 4000) (hr : Sz r 4000) (z : Ret H (TimeV (CT X.K) (q * r)) Q) : Op2 X (binaryOp .Mult) v u H Q := by
  have s : spOp X.K (· * ·) [v, u] H Q E := ⟨q, r, v, u, rfl, hv, hu, hq, hr, z⟩
  obtain ⟨p, dx, rfl, hp⟩ := hv
  rcases hu with ⟨p', dx', rfl, hp'⟩ | ⟨i, rfl, _⟩
  · exact bin_tt B T.b_Time___mul__ (f_mul T) hk hp hp' s
  · exact bin_ti B T.b_Time___mul__ (f_mul T) hk hp s
end
/-! ### int + time .. -/
def spROp (K : PySem.W.Frag) (f : Rat → Rat → Rat) : Sp := fun vs H Q _ => ∃ (q : Rat) (i : Int) (v : V), vs = [v, .int i] ∧ TimeV (CT K) q v H ∧ Sz q 4000 ∧ Sz (i : Rat) 4000 ∧ Ret H (TimeV (CT K) (f i q)) Q
theorem f_radd (T : Tm K mg) : FnR P w K mg base (RX P w) 6 (MT K "__radd__") (spROp K (· + ·)) := by
  obtain ⟨fd, F⟩ := T.d_Time___radd__
  refine raw_of F (def_ok F sc_Time___radd__ (fun vs H Q E h => by obtain ⟨q, i, v, rfl, _⟩ := h; rfl) ?_) (F.bindsN fun _ _ _ _ _ _ us hl => match us, hl with | [_, _], _ => rfl)
  intro X eP ew eK em eb eN es hf nd H vs Q E B h
  subst eP ew eK em eb
  have n0 : Sl X 0 "self" := slot_of eN es hf nd rfl (by first | exact Or.inl rfl | exact Or.inr rfl) (by decide) (by decide)
  have n1 : Sl X 1 "other" := slot_of eN es hf nd rfl (by first | exact Or.inl rfl | exact Or.inr rfl) (by decide) (by decide)
  have g_is_time : Gn X "is_time" := gn_of es rfl (by decide)
  have F_is_time := f_is_time (P := X.prog) (w := X.w) (base := X.base) T
  obtain ⟨q, i, v, rfl, hv, hq, hr, z⟩ := h
  show WB X [_, _] _ [some v, some (.int i)] H
  repeat walk_at "w"
  refine o_addT B T (by decide) hv (.inr ⟨i, rfl, rfl⟩) hq hr ?_
  rw [Rat.add_comm]
  exact z
theorem f_rmul (T : Tm K mg) : FnR P w K mg base (RX P w) 6 (MT K "__rmul__") (spROp K (· * ·)) := by
  obtain ⟨fd, F⟩ := T.d_Time___rmul__
  refine raw_of F (def_ok F sc_Time___rmul__ (fun vs H Q E h => by obtain ⟨q, i, v, rfl, _⟩ := h; rfl) ?_) (F.bindsN fun _ _ _ _ _ _ us hl => match us, hl with | [_, _], _ => rfl)
  intro X eP ew eK em eb eN es hf nd H vs Q E B h
  subst eP ew eK em eb
  have n0 : Sl X 0 "self" := slot_of eN es hf nd rfl (by first | exact Or.inl rfl | exact Or.inr rfl) (by decide) (by decide)
  have n1 : Sl X 1 "other" := slot_of eN es hf nd rfl (by first | exact Or.inl rfl | exact Or.inr rfl) (by decide) (by decide)
  have g_is_time : Gn X "is_time" := gn_of es rfl (by decide)
  have F_is_time := f_is_time (P := X.prog) (w := X.w) (base := X.base) T
  obtain ⟨q, i, v, rfl, hv, hq, hr, z⟩ := h
  show WB X [_, _] _ [some v, some (.int i)] H
  repeat walk_at "w"
  refine o_mulT B T (by decide) hv (.inr ⟨i, rfl, rfl⟩) hq hr ?_
  rw [Rat.mul_comm]
  exact z
theorem f_rsub (T : Tm K mg) : FnR P w K mg base (RX P w) 6 (MT K "__rsub__") (spROp K (· - ·)) := by
  obtain ⟨fd, F⟩ := T.d_Time___rsub__
  refine raw_of F (def_ok F sc_Time___rsub__ (fun vs H Q E h => by obtain ⟨q, i, v, rfl, _⟩ := h; rfl) ?_) (F.bindsN fun _ _ _ _ _ _ us hl => match us, hl with | [_, _], _ => rfl)
  intro X eP ew eK em eb eN es hf nd H vs Q E B h
  subst eP ew eK em eb
  have n0 : Sl X 0 "self" := slot_of eN es hf nd rfl (by first | exact Or.inl rfl | exact Or.inr rfl) (by decide) (by decide)
  have n1 : Sl X 1 "other" := slot_of eN es hf nd rfl (by first | exact Or.inl rfl | exact Or.inr rfl) (by decide) (by decide)
  have g_is_time : Gn X "is_time" := gn_of es rfl (by decide)
  have F_is_time := f_is_time (P := X.prog) (w := X.w) (base := X.base) T
  have g_time_of : Gn X "time_of" := gn_of es rfl (by decide)
  have F_time_of := f_time_of (P := X.prog) (w := X.w) (base := X.base) T
  obtain ⟨q, i, v, rfl, hv, hq, hr, z⟩ := h
  show WB X [_, _] _ [some v, some (.int i)] H
  repeat walk_at "w"
  refine to_int fun y H1 x1 hy => ?_
  repeat walk_at "w"
  exact o_subT B T (by decide) hy (.inl (hv.mono x1)) hr hq (z.mono x1)
section
variable {X : Cx} {k : Nat} {E : XK} {H : Hp} {Q : VK} {v : V} {q : Rat} {i : Int}
theorem o_addI (B : Body X k fun _ => E) (T : Tm X.K X.mg) (hk : 6 ≤ k) (hv : TimeV (CT X.K) q v H) (hq : Sz q 4000) (hr : Sz (i : Rat) 4000) (z : Ret H (TimeV (CT X.K) (i + q)) Q) : Op2 X (binaryOp .Add) (.int i) v H Q := by
  have s : spROp X.K (· + ·) [v, .int i] H Q E := ⟨q, i, v, rfl, hv, hq, hr, z⟩
  obtain ⟨p, dx, rfl, hp⟩ := hv
  exact bin_it B T.r_Time___radd__ PySem.F.fills_int_add idecl_add (f_radd T) hk hp s
theorem o_subI (B : Body X k fun _ => E) (T : Tm X.K X.mg) (hk : 6 ≤ k) (hv : TimeV (CT X.K) q v H) (hq : Sz q 4000) (hr : Sz (i : Rat) 4000) (z : Ret H (TimeV (CT X.K) (i - q)) Q) : Op2 X (binaryOp .Sub) (.int i) v H Q := by
  have s : spROp X.K (· - ·) [v, .int i] H Q E := ⟨q, i, v, rfl, hv, hq, hr, z⟩
  obtain ⟨p, dx, rfl, hp⟩ := hv
  exact bin_it B T.r_Time___rsub__ PySem.F.fills_int_sub idecl_sub (f_rsub T) hk hp s
theorem o_mulI (B : Body X k fun _ => E) (T : Tm X.K X.mg) (hk : 6 ≤ k) (hv : TimeV (CT X.K) q v H) (hq : Sz q 4000) (hr : Sz (i : Rat) 4000) (z : Ret H (TimeV (CT X.K) (i * q)) Q) : Op2 X (binaryOp .Mult) (.int i) v H Q := by
  have s : spROp X.K (· * ·) [v, .int i] H Q E := ⟨q, i, v, rfl, hv, hq, hr, z⟩
  obtain ⟨p, dx, rfl, hp⟩ := hv
  exact bin_it B T.r_Time___rmul__ PySem.F.fills_int_mul idecl_mul (f_rmul T) hk hp s
end
end

/-! ### -time, abs(time), top, bottom, += -= *= -/
section
variable {P : Program} {w : World} {K : PySem.W.Frag} {mg : Str → Option Value} {base : Heap}
abbrev rabs := Mt.rabs
def spUn (K : PySem.W.Frag) (f : Rat → Rat) : Sp := fun vs H Q _ => ∃ q v, vs = [v] ∧ TimeV (CT K) q v H ∧ Sz q 8000 ∧ Ret H (TimeV (CT K) (f q)) Q
theorem den_sz {q : Rat} (h : Sz q 8000) : (q.den : Int).natAbs < 2 ^ 9000 := by
  rw [Int.natAbs_natCast]
  exact (h.mono (show 8000 ≤ 9000 by decide)).den
theorem f_neg (T : Tm K mg) : FnR P w K mg base (RX P w) 4 (MT K "__neg__") (spUn K (- ·)) := by
  obtain ⟨fd, F⟩ := T.d_Time___neg__
  refine raw_of F (def_ok F sc_Time___neg__ (fun vs H Q E h => by obtain ⟨q, v, rfl, _⟩ := h; rfl) ?_) (F.bindsN fun _ _ _ _ _ _ us hl => match us, hl with | [_], _ => rfl)
  intro X eP ew eK em eb eN es hf nd H vs Q E B h
  subst eP ew eK em eb
  have n0 : Sl X 0 "self" := slot_of eN es hf nd rfl (by first | exact Or.inl rfl | exact Or.inr rfl) (by decide) (by decide)
  have g_Time : Gn X "Time" := gn_of es rfl (by decide)
  have m_Time := T.g_Time
  obtain ⟨q, v, rfl, hv, hq, z⟩ := h
  show WB X [_] _ [some v] H
  repeat walk_at "w"
  exact ⟨_, _, rfl, rfl, den_ne q, g1_sz (den_ne q) (den_sz hq), by rw [neg_eq]; exact z⟩
theorem f_abs (T : Tm K mg) : FnR P w K mg base (RX P w) 4 (MT K "__abs__") (spUn K rabs) := by
  obtain ⟨fd, F⟩ := T.d_Time___abs__
  refine raw_of F (def_ok F sc_Time___abs__ (fun vs H Q E h => by obtain ⟨q, v, rfl, _⟩ := h; rfl) ?_) (F.bindsN fun _ _ _ _ _ _ us hl => match us, hl with | [_], _ => rfl)
  intro X eP ew eK em eb eN es hf nd H vs Q E B h
  subst eP ew eK em eb
  have n0 : Sl X 0 "self" := slot_of eN es hf nd rfl (by first | exact Or.inl rfl | exact Or.inr rfl) (by decide) (by decide)
  have g_Time : Gn X "Time" := gn_of es rfl (by decide)
  have m_Time := T.g_Time
  have z_abs : Bn X "abs" := bn_of es rfl T.z_abs
  obtain ⟨q, v, rfl, hv, hq, z⟩ := h
  show WB X [_] _ [some v] H
  repeat walk_at "w"
  refine we_abs z_abs ?_
  repeat walk_at "w"
  exact ⟨_, _, rfl, rfl, den_ne q, g1_sz (den_ne q) (den_sz hq), z⟩
section
variable {X : Cx} {k : Nat} {E : XK} {σ : L2.St} {H : Hp} {Q : VK} {v u : V} {q r : Rat} {a e : Expr} {p pos : Pos}
theorem o_negT (B : Body X k fun _ => E) (T : Tm X.K X.mg) (hk : 4 ≤ k) (hv : TimeV (CT X.K) q v H) (hq : Sz q 8000) (z : Ret H (TimeV (CT X.K) (-q)) Q) : Op1 X (unaryOp .USub) v H Q := by
  have s : spUn X.K (- ·) [v] H Q E := ⟨q, v, rfl, hv, hq, z⟩
  obtain ⟨p, dx, rfl, hp⟩ := hv
  exact neg_t B T.u_Time_neg (f_neg T) hk hp s
theorem we_absTim (bn : Bn X "abs") (B : Body X k fun _ => E) (T : Tm X.K X.mg) (hk : 5 ≤ k) (h : WE X a σ H fun v H1 => ∃ q, TimeV (CT X.K) q v H1 ∧ Sz q 8000 ∧ Ret H1 (TimeV (CT X.K) (rabs q)) Q) (hs : starEach [a] X.env = [(false, eval a X.env)] := by rfl) (hl : (backTo pos (starEach [] X.env)).any (·.1) = false := by rfl) :
    WE X (.Call (.Name "abs" p) [a] [] pos) σ H Q := we_absT bn B T.u_Time_abs (f_abs T) hk (we_mono h fun v H1 z => by
  obtain ⟨q, ⟨x, dx, rfl, hp⟩, hq, z⟩ := z
  exact ⟨x, dx, _, rfl, hp, q, _, rfl, ⟨x, dx, rfl, hp⟩, hq, z⟩) hs hl
theorem i_addT (B : Body X k fun _ => E) (T : Tm X.K X.mg) (hk : 5 ≤ k) (hv : TimeV (CT X.K) q v H) (hu : TimeV (CT X.K) r u H) (hq : Sz q 4000) (hr : Sz r 4000) (z : Ret H (TimeV (CT X.K) (q + r)) Q) : Op2 X (inplaceOp .Add) v u H Q := by
  have s : spOp X.K (· + ·) [v, u] H Q E := ⟨q, r, v, u, rfl, hv, .inl hu, hq, hr, z⟩
  obtain ⟨p, dx, rfl, hp⟩ := hv
  obtain ⟨p', dx', rfl, hp'⟩ := hu
  exact inp_tt B T.ni_Time___add__ T.b_Time___add__ (f_add T) hk hp hp' s
theorem i_subT (B : Body X k fun _ => E) (T : Tm X.K X.mg) (hk : 5 ≤ k) (hv : TimeV (CT X.K) q v H) (hu : TimeV (CT X.K) r u H) (hq : Sz q 4000) (hr : Sz r 4000) (z : Ret H (TimeV (CT X.K) (q - r)) Q) : Op2 X (inplaceOp .Sub) v u H Q := by
  have s : spOp X.K (· - ·) [v, u] H Q E := ⟨q, r, v, u, rfl, hv, .inl hu, hq, hr, z⟩
  obtain ⟨p, dx, rfl, hp⟩ := hv
  obtain ⟨p', dx', rfl, hp'⟩ := hu
  exact inp_tt B T.ni_Time___sub__ T.b_Time___sub__ (f_sub T) hk hp hp' s
theorem i_mulT (B : Body X k fun _ => E) (T : Tm X.K X.mg) (hk : 5 ≤ k) (hv : TimeV (CT X.K) q v H) (hu : TimeV (CT X.K) r u H) (hq : Sz q 4000) (hr : Sz r 4000) (z : Ret H (TimeV (CT X.K) (q * r)) Q) : Op2 X (inplaceOp .Mult) v u H Q := by
  have s : spOp X.K (· * ·) [v, u] H Q E := ⟨q, r, v, u, rfl, hv, .inl hu, hq, hr, z⟩
  obtain ⟨p, dx, rfl, hp⟩ := hv
  obtain ⟨p', dx', rfl, hp'⟩ := hu
  exact inp_tt B T.ni_Time___mul__ T.b_Time___mul__ (f_mul T) hk hp hp' s
end
def spPart (K : PySem.W.Frag) (f : Rat → Int) : Sp := fun vs H Q _ => ∃ q v, vs = [v] ∧ TimeV (CT K) q v H ∧ Q (.int (f q)) H
theorem ok_top (T : Tm K mg) : ∃ fd, FnOk P w K mg base (RX P w) 1 (pgA K (CT K) "top") fd ["self"] (spPart K (·.num)) ∧ Binds K fd ["self"] [] := by
  obtain ⟨fd, F⟩ := T.d_Time_top
  refine ⟨fd, def_ok F sc_Time_top (fun vs H Q E h => by obtain ⟨q, v, rfl, _⟩ := h; rfl) ?_, (F.bindsN fun _ _ _ _ _ _ us hl => match us, hl with | [_], _ => rfl)⟩
  intro X eP ew eK em eb eN es hf nd H vs Q E B h
  subst eP ew eK em eb
  have n0 : Sl X 0 "self" := slot_of eN es hf nd rfl (by first | exact Or.inl rfl | exact Or.inr rfl) (by decide) (by decide)
  obtain ⟨q, v, rfl, hv, z⟩ := h
  show WB X [_] _ [some v] H
  repeat walk_at "w"
  exact z
theorem ok_bottom (T : Tm K mg) : ∃ fd, FnOk P w K mg base (RX P w) 1 (pgA K (CT K) "bottom") fd ["self"] (spPart K (·.den)) ∧ Binds K fd ["self"] [] := by
  obtain ⟨fd, F⟩ := T.d_Time_bottom
  refine ⟨fd, def_ok F sc_Time_bottom (fun vs H Q E h => by obtain ⟨q, v, rfl, _⟩ := h; rfl) ?_, (F.bindsN fun _ _ _ _ _ _ us hl => match us, hl with | [_], _ => rfl)⟩
  intro X eP ew eK em eb eN es hf nd H vs Q E B h
  subst eP ew eK em eb
  have n0 : Sl X 0 "self" := slot_of eN es hf nd rfl (by first | exact Or.inl rfl | exact Or.inr rfl) (by decide) (by decide)
  obtain ⟨q, v, rfl, hv, z⟩ := h
  show WB X [_] _ [some v] H
  repeat walk_at "w"
  exact z
end
section
variable {X : Cx} {k : Nat} {E : L2.St → XK} {σ : L2.St} {H : Hp} {Q : VK} {e : Expr} {pos : Pos}
theorem we_top (B : Body X k E) (T : Tm X.K X.mg) (hk : 2 ≤ k) (h : WE X e σ H fun y H1 => ∃ q, TimeV (CT X.K) q y H1 ∧ Q (.int q.num) H1) (he : attributeBase e "top" X.env (eval e X.env) = eval e X.env := by rfl) : WE X (.Attribute e "top" pos) σ H Q := by
  obtain ⟨fd, F, hb⟩ := ok_top (P := X.prog) (w := X.w) (base := X.base) T
  refine we_prop B T.c_Time.cl T.p_Time_top F hk hb .nil (we_mono h fun y H1 z => ?_) he
  obtain ⟨q, ⟨x, dx, rfl, hp⟩, z⟩ := z
  exact ⟨x, dx, _, rfl, hp, q, _, rfl, ⟨x, dx, rfl, hp⟩, z⟩
theorem we_bottom (B : Body X k E) (T : Tm X.K X.mg) (hk : 2 ≤ k) (h : WE X e σ H fun y H1 => ∃ q, TimeV (CT X.K) q y H1 ∧ Q (.int q.den) H1) (he : attributeBase e "bottom" X.env (eval e X.env) = eval e X.env := by rfl) : WE X (.Attribute e "bottom" pos) σ H Q := by
  obtain ⟨fd, F, hb⟩ := ok_bottom (P := X.prog) (w := X.w) (base := X.base) T
  refine we_prop B T.c_Time.cl T.p_Time_bottom F hk hb .nil (we_mono h fun y H1 z => ?_) he
  obtain ⟨q, ⟨x, dx, rfl, hp⟩, z⟩ := z
  exact ⟨x, dx, _, rfl, hp, q, _, rfl, ⟨x, dx, rfl, hp⟩, z⟩
end
local macro_rules | `(tactic| walk_at "wE") => `(tactic| first | ((with_reducible refine' we_top ?B ?T ?hk ?_ ?hb); (case B => assumption); (case T => assumption); (case hk => decide); (case hb => rfl)) | ((with_reducible refine' we_bottom ?B ?T ?hk ?_ ?hb); (case B => assumption); (case T => assumption); (case hk => decide); (case hb => rfl)) | fail)

/-! ### comparisons of times -/
def Bl (H : Hp) (r : Bool) (Q : VK) : Prop := ∀ H', Ex H H' → Q (.bl r) H'
theorem bl_i {H : Hp} {r : Bool} {Q : VK} (h : ∀ H', Ex H H' → Q (.bl r) H') : Bl H r Q := h
theorem Bl.mono {H H' : Hp} {r : Bool} {Q : VK} (k : Bl H r Q) (x : Ex H H') : Bl H' r Q := fun H2 y => k H2 (x.trans y)
theorem rat_ext {q r : Rat} : (q.num = r.num ∧ (q.den : Int) = r.den) ↔ q = r := by
  constructor
  · rintro ⟨h1, h2⟩
    exact Rat.ext h1 (by omega)
  · rintro rfl
    exact ⟨rfl, rfl⟩
local macro_rules | `(tactic| walk_at "wX") => `(tactic| first | with_reducible refine' bl_i fun _ _ => ?_ | with_reducible refine' ret_i fun _ _ _ _ => ?_ | fail)
section
variable {P : Program} {w : World} {K : PySem.W.Frag} {mg : Str → Option Value} {base : Heap}
def spCmp (K : PySem.W.Frag) (f : Rat → Rat → Bool) : Sp := fun vs H Q _ => ∃ q r v u, vs = [v, u] ∧ TimeV (CT K) q v H ∧ Tim K r u H ∧ Sz q 4000 ∧ Sz r 4000 ∧ Bl H (f q r) Q
theorem f_eq (T : Tm K mg) : FnR P w K mg base (RX P w) 5 (MT K "__eq__") (spCmp K fun q r => decide (q = r)) := by
  obtain ⟨fd, F⟩ := T.d_Time___eq__
  refine raw_of F (def_ok F sc_Time___eq__ (fun vs H Q E h => by obtain ⟨q, r, v, u, rfl, _⟩ := h; rfl) ?_) (F.bindsN fun _ _ _ _ _ _ us hl => match us, hl with | [_, _], _ => rfl)
  intro X eP ew eK em eb eN es hf nd H vs Q E B h
  subst eP ew eK em eb
  have n0 : Sl X 0 "self" := slot_of eN es hf nd rfl (by first | exact Or.inl rfl | exact Or.inr rfl) (by decide) (by decide)
  have n1 : Sl X 1 "other" := slot_of eN es hf nd rfl (by first | exact Or.inl rfl | exact Or.inr rfl) (by decide) (by decide)
  have n2 : Sl X 2 "same" := slot_of eN es hf nd rfl (by first | exact Or.inl rfl | exact Or.inr rfl) (by decide) (by decide)
  have g_is_time : Gn X "is_time" := gn_of es rfl (by decide)
  have F_is_time := f_is_time (P := X.prog) (w := X.w) (base := X.base) T
  have g_time_of : Gn X "time_of" := gn_of es rfl (by decide)
  have F_time_of := f_time_of (P := X.prog) (w := X.w) (base := X.base) T
  obtain ⟨q, r, v, u, rfl, hv, hu, hq, hr, z⟩ := h
  show WB X [_, _, _] _ [some (v), some (u), none] H
  repeat walk_at "w"
  refine it_tim T hu ?_
  repeat walk_at "w"
  refine to_tim hu fun y H1 x1 hy => ?_
  repeat walk_at "w"
  have e := rat_ext (q := q) (r := r)
  refine ite_dec (fun h1 => ?_) (fun h1 => ?_)
  · repeat walk_at "w"
    have e2 : decide ((q.den : Int) = r.den) = decide (q = r) := by
      congr 1
      exact propext ⟨fun h => e.mp ⟨h1, h⟩, fun h => (e.mpr h).2⟩
    rw [e2]
    exact z _ x1
  · have e2 : decide (q = r) = false := decide_eq_false fun h => h1 (e.mpr h).1
    have z : Bl H (decide (q = r)) Q := z
    rw [e2] at z
    exact z _ x1
theorem f_lt (T : Tm K mg) : FnR P w K mg base (RX P w) 5 (MT K "__lt__") (spCmp K fun q r => decide (q < r)) := by
  obtain ⟨fd, F⟩ := T.d_Time___lt__
  refine raw_of F (def_ok F sc_Time___lt__ (fun vs H Q E h => by obtain ⟨q, r, v, u, rfl, _⟩ := h; rfl) ?_) (F.bindsN fun _ _ _ _ _ _ us hl => match us, hl with | [_, _], _ => rfl)
  intro X eP ew eK em eb eN es hf nd H vs Q E B h
  subst eP ew eK em eb
  have n0 : Sl X 0 "self" := slot_of eN es hf nd rfl (by first | exact Or.inl rfl | exact Or.inr rfl) (by decide) (by decide)
  have n1 : Sl X 1 "other" := slot_of eN es hf nd rfl (by first | exact Or.inl rfl | exact Or.inr rfl) (by decide) (by decide)
  have n2 : Sl X 2 "later" := slot_of eN es hf nd rfl (by first | exact Or.inl rfl | exact Or.inr rfl) (by decide) (by decide)
  have g_is_time : Gn X "is_time" := gn_of es rfl (by decide)
  have F_is_time := f_is_time (P := X.prog) (w := X.w) (base := X.base) T
  have g_time_of : Gn X "time_of" := gn_of es rfl (by decide)
  have F_time_of := f_time_of (P := X.prog) (w := X.w) (base := X.base) T
  obtain ⟨q, r, v, u, rfl, hv, hu, hq, hr, z⟩ := h
  show WB X [_, _, _] _ [some (v), some (u), none] H
  repeat walk_at "w"
  refine it_tim T hu ?_
  repeat walk_at "w"
  refine to_tim hu fun y H1 x1 hy => ?_
  repeat walk_at "w"
  rw [show decide (q.num * (r.den : Int) < r.num * (q.den : Int)) = decide (q < r) from by congr 1; exact propext (Rat.lt_iff q r).symm]
  exact z _ x1
theorem f_le (T : Tm K mg) : FnR P w K mg base (RX P w) 5 (MT K "__le__") (spCmp K fun q r => decide (q ≤ r)) := by
  obtain ⟨fd, F⟩ := T.d_Time___le__
  refine raw_of F (def_ok F sc_Time___le__ (fun vs H Q E h => by obtain ⟨q, r, v, u, rfl, _⟩ := h; rfl) ?_) (F.bindsN fun _ _ _ _ _ _ us hl => match us, hl with | [_, _], _ => rfl)
  intro X eP ew eK em eb eN es hf nd H vs Q E B h
  subst eP ew eK em eb
  have n0 : Sl X 0 "self" := slot_of eN es hf nd rfl (by first | exact Or.inl rfl | exact Or.inr rfl) (by decide) (by decide)
  have n1 : Sl X 1 "other" := slot_of eN es hf nd rfl (by first | exact Or.inl rfl | exact Or.inr rfl) (by decide) (by decide)
  have n2 : Sl X 2 "later" := slot_of eN es hf nd rfl (by first | exact Or.inl rfl | exact Or.inr rfl) (by decide) (by decide)
  have g_is_time : Gn X "is_time" := gn_of es rfl (by decide)
  have F_is_time := f_is_time (P := X.prog) (w := X.w) (base := X.base) T
  have g_time_of : Gn X "time_of" := gn_of es rfl (by decide)
  have F_time_of := f_time_of (P := X.prog) (w := X.w) (base := X.base) T
  obtain ⟨q, r, v, u, rfl, hv, hu, hq, hr, z⟩ := h
  show WB X [_, _, _] _ [some (v), some (u), none] H
  repeat walk_at "w"
  refine it_tim T hu ?_
  repeat walk_at "w"
  refine to_tim hu fun y H1 x1 hy => ?_
  repeat walk_at "w"
  rw [show decide (q.num * (r.den : Int) ≤ r.num * (q.den : Int)) = decide (q ≤ r) from by congr 1; exact propext (Rat.le_iff q r).symm]
  exact z _ x1
theorem f_gt (T : Tm K mg) : FnR P w K mg base (RX P w) 5 (MT K "__gt__") (spCmp K fun q r => decide (r < q)) := by
  obtain ⟨fd, F⟩ := T.d_Time___gt__
  refine raw_of F (def_ok F sc_Time___gt__ (fun vs H Q E h => by obtain ⟨q, r, v, u, rfl, _⟩ := h; rfl) ?_) (F.bindsN fun _ _ _ _ _ _ us hl => match us, hl with | [_, _], _ => rfl)
  intro X eP ew eK em eb eN es hf nd H vs Q E B h
  subst eP ew eK em eb
  have n0 : Sl X 0 "self" := slot_of eN es hf nd rfl (by first | exact Or.inl rfl | exact Or.inr rfl) (by decide) (by decide)
  have n1 : Sl X 1 "other" := slot_of eN es hf nd rfl (by first | exact Or.inl rfl | exact Or.inr rfl) (by decide) (by decide)
  have n2 : Sl X 2 "sooner" := slot_of eN es hf nd rfl (by first | exact Or.inl rfl | exact Or.inr rfl) (by decide) (by decide)
  have g_is_time : Gn X "is_time" := gn_of es rfl (by decide)
  have F_is_time := f_is_time (P := X.prog) (w := X.w) (base := X.base) T
  have g_time_of : Gn X "time_of" := gn_of es rfl (by decide)
  have F_time_of := f_time_of (P := X.prog) (w := X.w) (base := X.base) T
  obtain ⟨q, r, v, u, rfl, hv, hu, hq, hr, z⟩ := h
  show WB X [_, _, _] _ [some (v), some (u), none] H
  repeat walk_at "w"
  refine it_tim T hu ?_
  repeat walk_at "w"
  refine to_tim hu fun y H1 x1 hy => ?_
  repeat walk_at "w"
  rw [show decide (r.num * (q.den : Int) < q.num * (r.den : Int)) = decide (r < q) from by congr 1; exact propext (Rat.lt_iff r q).symm]
  exact z _ x1
theorem f_ge (T : Tm K mg) : FnR P w K mg base (RX P w) 5 (MT K "__ge__") (spCmp K fun q r => decide (r ≤ q)) := by
  obtain ⟨fd, F⟩ := T.d_Time___ge__
  refine raw_of F (def_ok F sc_Time___ge__ (fun vs H Q E h => by obtain ⟨q, r, v, u, rfl, _⟩ := h; rfl) ?_) (F.bindsN fun _ _ _ _ _ _ us hl => match us, hl with | [_, _], _ => rfl)
  intro X eP ew eK em eb eN es hf nd H vs Q E B h
  subst eP ew eK em eb
  have n0 : Sl X 0 "self" := slot_of eN es hf nd rfl (by first | exact Or.inl rfl | exact Or.inr rfl) (by decide) (by decide)
  have n1 : Sl X 1 "other" := slot_of eN es hf nd rfl (by first | exact Or.inl rfl | exact Or.inr rfl) (by decide) (by decide)
  have n2 : Sl X 2 "sooner" := slot_of eN es hf nd rfl (by first | exact Or.inl rfl | exact Or.inr rfl) (by decide) (by decide)
  have g_is_time : Gn X "is_time" := gn_of es rfl (by decide)
  have F_is_time := f_is_time (P := X.prog) (w := X.w) (base := X.base) T
  have g_time_of : Gn X "time_of" := gn_of es rfl (by decide)
  have F_time_of := f_time_of (P := X.prog) (w := X.w) (base := X.base) T
  obtain ⟨q, r, v, u, rfl, hv, hu, hq, hr, z⟩ := h
  show WB X [_, _, _] _ [some (v), some (u), none] H
  repeat walk_at "w"
  refine it_tim T hu ?_
  repeat walk_at "w"
  refine to_tim hu fun y H1 x1 hy => ?_
  repeat walk_at "w"
  rw [show decide (r.num * (q.den : Int) ≤ q.num * (r.den : Int)) = decide (r ≤ q) from by congr 1; exact propext (Rat.le_iff r q).symm]
  exact z _ x1
/-- == of a value of another kind -/
def spEqN (K : PySem.W.Frag) : SpN := fun vs H D _ => ∃ v u t r1 r2, vs = [v, u] ∧ TyX K H u t ∧ PySem.W.kitOne K t (.ref (CT K)) = some false ∧ PySem.W.kitOne K t (.type "int") = some r1 ∧ PySem.W.kitOne K t (.type "bool") = some r2 ∧ (r1 && !r2) = false ∧ D H
theorem f_eqN (T : Tm K mg) : FnN P w K mg base (RX P w) 4 (MT K "__eq__") (spEqN K) := by
  obtain ⟨fd, F⟩ := T.d_Time___eq__
  refine def_ni F (F.bindsN fun _ _ _ _ _ _ us hl => match us, hl with | [_, _], _ => rfl) sc_Time___eq__ (fun vs H Q E h => by obtain ⟨v, u, t, r1, r2, rfl, _⟩ := h; rfl) ?_
  intro X eP ew eK em eb eN es hf nd H vs D E B h
  subst eP ew eK em eb
  have n0 : Sl X 0 "self" := slot_of eN es hf nd rfl (by first | exact Or.inl rfl | exact Or.inr rfl) (by decide) (by decide)
  have n1 : Sl X 1 "other" := slot_of eN es hf nd rfl (by first | exact Or.inl rfl | exact Or.inr rfl) (by decide) (by decide)
  have n2 : Sl X 2 "same" := slot_of eN es hf nd rfl (by first | exact Or.inl rfl | exact Or.inr rfl) (by decide) (by decide)
  have g_is_time : Gn X "is_time" := gn_of es rfl (by decide)
  have F_is_time := f_is_time (P := X.prog) (w := X.w) (base := X.base) T
  have g_time_of : Gn X "time_of" := gn_of es rfl (by decide)
  have F_time_of := f_time_of (P := X.prog) (w := X.w) (base := X.base) T
  have z_NI : Bn X "NotImplemented" := bn_of es rfl T.z_NotImplemented
  obtain ⟨v, u, t, r1, r2, rfl, ht, h0, h1, h2, e, z⟩ := h
  show WBN X (_ :: [_, _]) _ [some v, some u, none] H
  refine wbn_if z_NI ?_
  repeat walk_at "w"
  refine ⟨u, t, false, r1, r2, rfl, ht, h0, h1, h2, ?_⟩
  rw [e]
  repeat walk_at "w"
  exact ⟨rfl, z⟩
end
section
variable {X : Cx} {k : Nat} {E : XK} {H : Hp} {Q : VK} {v u : V} {q r : Rat} {i : Int}
theorem o_eqT (B : Body X k fun _ => E) (T : Tm X.K X.mg) (hk : 5 ≤ k) (hv : TimeV (CT X.K) q v H) (hu : Tim X.K r u H) (hq : Sz q 4000) (hr : Sz r 4000) (z : Bl H (decide (q = r)) Q) : Op2 X (compareOp .Eq) v u H Q := by
  have s : spCmp X.K (fun q r => decide (q = r)) [v, u] H Q E := ⟨q, r, v, u, rfl, hv, hu, hq, hr, z⟩
  obtain ⟨p, dx, rfl, hp⟩ := hv
  rcases hu with ⟨p', dx', rfl, hp'⟩ | ⟨i, rfl, _⟩
  · exact cmp_tt B rich_eq T.o_Time___eq__ (f_eq T) hk hp hp' s
  · exact cmp_ti B rich_eq T.o_Time___eq__ (f_eq T) hk hp s
theorem o_ltT (B : Body X k fun _ => E) (T : Tm X.K X.mg) (hk : 5 ≤ k) (hv : TimeV (CT X.K) q v H) (hu : Tim X.K r u H) (hq : Sz q 4000) (hr : Sz r 4000) (z : Bl H (decide (q < r)) Q) : Op2 X (compareOp .Lt) v u H Q := by
  have s : spCmp X.K (fun q r => decide (q < r)) [v, u] H Q E := ⟨q, r, v, u, rfl, hv, hu, hq, hr, z⟩
  obtain ⟨p, dx, rfl, hp⟩ := hv
  rcases hu with ⟨p', dx', rfl, hp'⟩ | ⟨i, rfl, _⟩
  · exact cmp_tt B rich_lt T.o_Time___lt__ (f_lt T) hk hp hp' s
  · exact cmp_ti B rich_lt T.o_Time___lt__ (f_lt T) hk hp s
theorem o_leT (B : Body X k fun _ => E) (T : Tm X.K X.mg) (hk : 5 ≤ k) (hv : TimeV (CT X.K) q v H) (hu : Tim X.K r u H) (hq : Sz q 4000) (hr : Sz r 4000) (z : Bl H (decide (q ≤ r)) Q) : Op2 X (compareOp .LtE) v u H Q := by
  have s : spCmp X.K (fun q r => decide (q ≤ r)) [v, u] H Q E := ⟨q, r, v, u, rfl, hv, hu, hq, hr, z⟩
  obtain ⟨p, dx, rfl, hp⟩ := hv
  rcases hu with ⟨p', dx', rfl, hp'⟩ | ⟨i, rfl, _⟩
  · exact cmp_tt B rich_le T.o_Time___le__ (f_le T) hk hp hp' s
  · exact cmp_ti B rich_le T.o_Time___le__ (f_le T) hk hp s
theorem o_gtT (B : Body X k fun _ => E) (T : Tm X.K X.mg) (hk : 5 ≤ k) (hv : TimeV (CT X.K) q v H) (hu : Tim X.K r u H) (hq : Sz q 4000) (hr : Sz r 4000) (z : Bl H (decide (r < q)) Q) : Op2 X (compareOp .Gt) v u H Q := by
  have s : spCmp X.K (fun q r => decide (r < q)) [v, u] H Q E := ⟨q, r, v, u, rfl, hv, hu, hq, hr, z⟩
  obtain ⟨p, dx, rfl, hp⟩ := hv
  rcases hu with ⟨p', dx', rfl, hp'⟩ | ⟨i, rfl, _⟩
  · exact cmp_tt B rich_gt T.o_Time___gt__ (f_gt T) hk hp hp' s
  · exact cmp_ti B rich_gt T.o_Time___gt__ (f_gt T) hk hp s
theorem o_geT (B : Body X k fun _ => E) (T : Tm X.K X.mg) (hk : 5 ≤ k) (hv : TimeV (CT X.K) q v H) (hu : Tim X.K r u H) (hq : Sz q 4000) (hr : Sz r 4000) (z : Bl H (decide (r ≤ q)) Q) : Op2 X (compareOp .GtE) v u H Q := by
  have s : spCmp X.K (fun q r => decide (r ≤ q)) [v, u] H Q E := ⟨q, r, v, u, rfl, hv, hu, hq, hr, z⟩
  obtain ⟨p, dx, rfl, hp⟩ := hv
  rcases hu with ⟨p', dx', rfl, hp'⟩ | ⟨i, rfl, _⟩
  · exact cmp_tt B rich_ge T.o_Time___ge__ (f_ge T) hk hp hp' s
  · exact cmp_ti B rich_ge T.o_Time___ge__ (f_ge T) hk hp s
theorem o_eqI (B : Body X k fun _ => E) (T : Tm X.K X.mg) (hk : 5 ≤ k) (hv : TimeV (CT X.K) q v H) (hq : Sz q 4000) (hr : Sz (i : Rat) 4000) (z : Bl H (decide (q = i)) Q) : Op2 X (compareOp .Eq) (.int i) v H Q := by
  have s : spCmp X.K (fun q r => decide (q = r)) [v, .int i] H Q E := ⟨q, _, v, _, rfl, hv, .inr ⟨i, rfl, rfl⟩, hq, hr, z⟩
  obtain ⟨p, dx, rfl, hp⟩ := hv
  exact cmp_it B rich_eq T.q_Time___eq__ idecl_eq (f_eq T) hk hp s
theorem o_ltI (B : Body X k fun _ => E) (T : Tm X.K X.mg) (hk : 5 ≤ k) (hv : TimeV (CT X.K) q v H) (hq : Sz q 4000) (hr : Sz (i : Rat) 4000) (z : Bl H (decide ((i : Rat) < q)) Q) : Op2 X (compareOp .Lt) (.int i) v H Q := by
  have s : spCmp X.K (fun q r => decide (r < q)) [v, .int i] H Q E := ⟨q, _, v, _, rfl, hv, .inr ⟨i, rfl, rfl⟩, hq, hr, z⟩
  obtain ⟨p, dx, rfl, hp⟩ := hv
  exact cmp_it B rich_lt T.q_Time___gt__ idecl_lt (f_gt T) hk hp s
theorem o_leI (B : Body X k fun _ => E) (T : Tm X.K X.mg) (hk : 5 ≤ k) (hv : TimeV (CT X.K) q v H) (hq : Sz q 4000) (hr : Sz (i : Rat) 4000) (z : Bl H (decide ((i : Rat) ≤ q)) Q) : Op2 X (compareOp .LtE) (.int i) v H Q := by
  have s : spCmp X.K (fun q r => decide (r ≤ q)) [v, .int i] H Q E := ⟨q, _, v, _, rfl, hv, .inr ⟨i, rfl, rfl⟩, hq, hr, z⟩
  obtain ⟨p, dx, rfl, hp⟩ := hv
  exact cmp_it B rich_le T.q_Time___ge__ idecl_le (f_ge T) hk hp s
theorem o_gtI (B : Body X k fun _ => E) (T : Tm X.K X.mg) (hk : 5 ≤ k) (hv : TimeV (CT X.K) q v H) (hq : Sz q 4000) (hr : Sz (i : Rat) 4000) (z : Bl H (decide (q < (i : Rat))) Q) : Op2 X (compareOp .Gt) (.int i) v H Q := by
  have s : spCmp X.K (fun q r => decide (q < r)) [v, .int i] H Q E := ⟨q, _, v, _, rfl, hv, .inr ⟨i, rfl, rfl⟩, hq, hr, z⟩
  obtain ⟨p, dx, rfl, hp⟩ := hv
  exact cmp_it B rich_gt T.q_Time___lt__ idecl_gt (f_lt T) hk hp s
theorem o_geI (B : Body X k fun _ => E) (T : Tm X.K X.mg) (hk : 5 ≤ k) (hv : TimeV (CT X.K) q v H) (hq : Sz q 4000) (hr : Sz (i : Rat) 4000) (z : Bl H (decide (q ≤ (i : Rat))) Q) : Op2 X (compareOp .GtE) (.int i) v H Q := by
  have s : spCmp X.K (fun q r => decide (q ≤ r)) [v, .int i] H Q E := ⟨q, _, v, _, rfl, hv, .inr ⟨i, rfl, rfl⟩, hq, hr, z⟩
  obtain ⟨p, dx, rfl, hp⟩ := hv
  exact cmp_it B rich_ge T.q_Time___le__ idecl_ge (f_le T) hk hp s
theorem o_neT (B : Body X k fun _ => E) (T : Tm X.K X.mg) (hk : 6 ≤ k) (hv : TimeV (CT X.K) q v H) (hu : Tim X.K r u H) (hq : Sz q 4000) (hr : Sz r 4000) (z : Bl H (!decide (q = r)) Q) : Op2 X (compareOp .NotEq) v u H Q := by
  have s : spCmp X.K (fun q r => decide (q = r)) [v, u] H (NotQ Q) E := ⟨q, r, v, u, rfl, hv, hu, hq, hr, fun H' x => ⟨_, rfl, z H' x⟩⟩
  obtain ⟨p, dx, rfl, hp⟩ := hv
  rcases hu with ⟨p', dx', rfl, hp'⟩ | ⟨i, rfl, _⟩
  · exact ne_tt B T.w_Time (f_eq T) hk hp hp' s
  · exact ne_ti B T.w_Time (f_eq T) hk hp s
theorem o_neI (B : Body X k fun _ => E) (T : Tm X.K X.mg) (hk : 6 ≤ k) (hv : TimeV (CT X.K) q v H) (hq : Sz q 4000) (hr : Sz (i : Rat) 4000) (z : Bl H (!decide (q = i)) Q) : Op2 X (compareOp .NotEq) (.int i) v H Q := by
  have s : spCmp X.K (fun q r => decide (q = r)) [v, .int i] H (NotQ Q) E := ⟨q, _, v, _, rfl, hv, .inr ⟨i, rfl, rfl⟩, hq, hr, fun H' x => ⟨_, rfl, z H' x⟩⟩
  obtain ⟨p, dx, rfl, hp⟩ := hv
  exact ne_it B T.w_Time (f_eq T) hk hp s
/-- the kinds that are no times -/
theorem fgn_ty {K : PySem.W.Frag} (T : Tm K X.mg) (g : Fgn H u) : ∃ t r1 r2, TyX K H u t ∧ PySem.W.kitOne K t (.ref (CT K)) = some false ∧ PySem.W.kitOne K t (.type "int") = some r1 ∧ PySem.W.kitOne K t (.type "bool") = some r2 ∧ (r1 && !r2) = false := by
  cases g with
  | non => exact ⟨_, _, _, .base .non, T.k_Time.ofNone, k_ni, k_nb, rfl⟩
  | bl b => exact ⟨_, _, _, .base (.bl b), T.k_Time.ofBool, k_bi, k_bb, rfl⟩
  | str z => exact ⟨_, _, _, .base (.str z), T.k_Time.ofStr, k_si, k_sb, rfl⟩
  | tup h => exact ⟨_, _, _, .base (.tup h), T.k_Time.ofTup, k_ti, k_tb, rfl⟩
  | lst h => exact ⟨_, _, _, .base (.lst h), T.k_Time.ofLst, k_li, k_lb, rfl⟩
theorem o_eqF (B : Body X k fun _ => E) (T : Tm X.K X.mg) (hk : 4 ≤ k) (hv : TimeV (CT X.K) q v H) (g : Fgn H u) (z : Q (.bl false) H) : Op2 X (compareOp .Eq) v u H Q := by
  obtain ⟨p, dx, rfl, hp⟩ := hv
  obtain ⟨t, r1, r2, h1, h2, h3, h4, h5⟩ := fgn_ty T g
  exact eq_fgn B T.w_Time (f_eqN T) hk hp g ⟨_, u, t, r1, r2, rfl, h1, h2, h3, h4, h5, hp, g, z⟩
theorem o_neF (B : Body X k fun _ => E) (T : Tm X.K X.mg) (hk : 5 ≤ k) (hv : TimeV (CT X.K) q v H) (g : Fgn H u) (z : Q (.bl true) H) : Op2 X (compareOp .NotEq) v u H Q := by
  obtain ⟨p, dx, rfl, hp⟩ := hv
  obtain ⟨t, r1, r2, h1, h2, h3, h4, h5⟩ := fgn_ty T g
  exact ne_fgn B T.w_Time (f_eqN T) hk hp g ⟨_, u, t, r1, r2, rfl, h1, h2, h3, h4, h5, hp, g, z⟩
end

/-! ### steps for the operators of times (sizes: facts at hand) -/
theorem Sz.big {q : Rat} (h : Sz q 4000) : Sz q 8000 := h.mono (by decide)
local macro_rules | `(tactic| walk_at "sq") => `(tactic| assumption)
local macro_rules | `(tactic| walk_at "tim") => `(tactic| first | (refine Or.inl ?_; walk_at "tv") | exact Or.inr ⟨_, rfl, rfl⟩ | ((with_reducible refine' Tim.mono ?x ?h); (case h => assumption); (case x => walk_at "x")))
local macro_rules | `(tactic| walk_at "wO") => `(tactic| first | ((with_reducible refine' o_addT ?B ?T ?hk ?hv ?hu ?hq ?hr ?_); (case B => assumption); (case T => assumption); (case hk => decide); (case hv => walk_at "tv"); (case hu => walk_at "tim"); (case hq => walk_at "sq"); (case hr => walk_at "sq")) | ((with_reducible refine' o_subT ?B ?T ?hk ?hv ?hu ?hq ?hr ?_); (case B => assumption); (case T => assumption); (case hk => decide); (case hv => walk_at "tv"); (case hu => walk_at "tim"); (case hq => walk_at "sq"); (case hr => walk_at "sq")) | ((with_reducible refine' o_mulT ?B ?T ?hk ?hv ?hu ?hq ?hr ?_); (case B => assumption); (case T => assumption); (case hk => decide); (case hv => walk_at "tv"); (case hu => walk_at "tim"); (case hq => walk_at "sq"); (case hr => walk_at "sq")) | ((with_reducible refine' i_addT ?B ?T ?hk ?hv ?hu ?hq ?hr ?_); (case B => assumption); (case T => assumption); (case hk => decide); (case hv => walk_at "tv"); (case hu => walk_at "tv"); (case hq => walk_at "sq"); (case hr => walk_at "sq")) | ((with_reducible refine' i_subT ?B ?T ?hk ?hv ?hu ?hq ?hr ?_); (case B => assumption); (case T => assumption); (case hk => decide); (case hv => walk_at "tv"); (case hu => walk_at "tv"); (case hq => walk_at "sq"); (case hr => walk_at "sq")) | ((with_reducible refine' i_mulT ?B ?T ?hk ?hv ?hu ?hq ?hr ?_); (case B => assumption); (case T => assumption); (case hk => decide); (case hv => walk_at "tv"); (case hu => walk_at "tv"); (case hq => walk_at "sq"); (case hr => walk_at "sq")) | ((with_reducible refine' o_addI ?B ?T ?hk ?hv ?hq ?hr ?_); (case B => assumption); (case T => assumption); (case hk => decide); (case hv => walk_at "tv"); (case hq => walk_at "sq"); (case hr => walk_at "sq")) | ((with_reducible refine' o_subI ?B ?T ?hk ?hv ?hq ?hr ?_); (case B => assumption); (case T => assumption); (case hk => decide); (case hv => walk_at "tv"); (case hq => walk_at "sq"); (case hr => walk_at "sq")) | ((with_reducible refine' o_mulI ?B ?T ?hk ?hv ?hq ?hr ?_); (case B => assumption); (case T => assumption); (case hk => decide); (case hv => walk_at "tv"); (case hq => walk_at "sq"); (case hr => walk_at "sq")) | ((with_reducible refine' o_ltT ?B ?T ?hk ?hv ?hu ?hq ?hr ?_); (case B => assumption); (case T => assumption); (case hk => decide); (case hv => walk_at "tv"); (case hu => walk_at "tim"); (case hq => walk_at "sq"); (case hr => walk_at "sq")) | ((with_reducible refine' o_leT ?B ?T ?hk ?hv ?hu ?hq ?hr ?_); (case B => assumption); (case T => assumption); (case hk => decide); (case hv => walk_at "tv"); (case hu => walk_at "tim"); (case hq => walk_at "sq"); (case hr => walk_at "sq")) | ((with_reducible refine' o_gtT ?B ?T ?hk ?hv ?hu ?hq ?hr ?_); (case B => assumption); (case T => assumption); (case hk => decide); (case hv => walk_at "tv"); (case hu => walk_at "tim"); (case hq => walk_at "sq"); (case hr => walk_at "sq")) | ((with_reducible refine' o_geT ?B ?T ?hk ?hv ?hu ?hq ?hr ?_); (case B => assumption); (case T => assumption); (case hk => decide); (case hv => walk_at "tv"); (case hu => walk_at "tim"); (case hq => walk_at "sq"); (case hr => walk_at "sq")) | ((with_reducible refine' o_eqT ?B ?T ?hk ?hv ?hu ?hq ?hr ?_); (case B => assumption); (case T => assumption); (case hk => decide); (case hv => walk_at "tv"); (case hu => walk_at "tim"); (case hq => walk_at "sq"); (case hr => walk_at "sq")) | ((with_reducible refine' o_neT ?B ?T ?hk ?hv ?hu ?hq ?hr ?_); (case B => assumption); (case T => assumption); (case hk => decide); (case hv => walk_at "tv"); (case hu => walk_at "tim"); (case hq => walk_at "sq"); (case hr => walk_at "sq")) | ((with_reducible refine' o_ltI ?B ?T ?hk ?hv ?hq ?hr ?_); (case B => assumption); (case T => assumption); (case hk => decide); (case hv => walk_at "tv"); (case hq => walk_at "sq"); (case hr => walk_at "sq")) | ((with_reducible refine' o_leI ?B ?T ?hk ?hv ?hq ?hr ?_); (case B => assumption); (case T => assumption); (case hk => decide); (case hv => walk_at "tv"); (case hq => walk_at "sq"); (case hr => walk_at "sq")) | ((with_reducible refine' o_gtI ?B ?T ?hk ?hv ?hq ?hr ?_); (case B => assumption); (case T => assumption); (case hk => decide); (case hv => walk_at "tv"); (case hq => walk_at "sq"); (case hr => walk_at "sq")) | ((with_reducible refine' o_geI ?B ?T ?hk ?hv ?hq ?hr ?_); (case B => assumption); (case T => assumption); (case hk => decide); (case hv => walk_at "tv"); (case hq => walk_at "sq"); (case hr => walk_at "sq")) | ((with_reducible refine' o_eqI ?B ?T ?hk ?hv ?hq ?hr ?_); (case B => assumption); (case T => assumption); (case hk => decide); (case hv => walk_at "tv"); (case hq => walk_at "sq"); (case hr => walk_at "sq")) | ((with_reducible refine' o_neI ?B ?T ?hk ?hv ?hq ?hr ?_); (case B => assumption); (case T => assumption); (case hk => decide); (case hv => walk_at "tv"); (case hq => walk_at "sq"); (case hr => walk_at "sq")) | fail)
local macro_rules | `(tactic| walk_at "wX") => `(tactic| first | ((with_reducible refine' o_negT ?B ?T ?hk ?hv ?hq ?_); (case B => assumption); (case T => assumption); (case hk => decide); (case hv => walk_at "tv"); (case hq => refine Sz.big ?_; walk_at "sq")) | fail)

/-! ### times that may be missing -/
def OptT (K : PySem.W.Frag) (o : Option Rat) (v : V) (H : Hp) : Prop := match o with
  | none => v = .non
  | some q => TimeV (CT K) q v H
theorem OptT.mono {K : PySem.W.Frag} {o : Option Rat} {v : V} {H H' : Hp} (x : Ex H H') (h : OptT K o v H) : OptT K o v H' := by
  cases o with
  | none => exact h
  | some q => exact TimeV.mono x h
theorem upd2 {H : Hp} {p : Addr} {o u : HO} : upd (upd H p o) p u = upd H p u := upd_upd
theorem TimeV.up {C p : Addr} {q : Rat} {v : V} {H : Hp} {o u : HO} (hp : H p = some o) (ho : ∀ dx, o ≠ .ins C dx (tfs q)) (h : TimeV C q v H) : TimeV C q v (upd H p u) := by
  obtain ⟨t, dx, rfl, ht⟩ := h
  refine ⟨t, dx, rfl, (upd_ne fun e => ?_).trans ht⟩
  subst e
  rw [hp] at ht
  cases ht
  exact ho dx rfl

/-! ### values that are no times above 0 -/
/-- a value that is no time above 0, and not None -/
def BadV (K : PySem.W.Frag) (v : V) (H : Hp) : Prop := (∃ b, v = .bl b) ∨ (∃ z, v = .str z) ∨ (∃ p i, v = .ref p ∧ H p = some (.lst [.int i])) ∨ ∃ q, Tim K q v H ∧ q ≤ 0 ∧ Sz q 4000
theorem one_ns' {i : Int} : ¬ Src (.lst [.int i]) := not_src_ints (ns := [i])
section
variable {K : PySem.W.Frag} {v : V} {H H' : Hp} {p C dx : Addr}
theorem BadV.mono (x : Ex H H') (h : BadV K v H) : BadV K v H' := by
  rcases h with h | h | ⟨p, i, e, h⟩ | ⟨q, h, r⟩
  · exact .inl h
  · exact .inr (.inl h)
  · exact .inr (.inr (.inl ⟨p, i, e, x.keep _ _ h one_ns'⟩))
  · exact .inr (.inr (.inr ⟨q, h.mono x, r⟩))
theorem BadV.nn (h : BadV K v H) : v ≠ .non := by
  rintro rfl
  rcases h with ⟨b, e⟩ | ⟨z, e⟩ | ⟨p, i, e, h⟩ | ⟨q, h | ⟨i, e, _⟩, r⟩
  · cases e
  · cases e
  · cases e
  · obtain ⟨t, dx, e, _⟩ := h
    cases e
  · cases e
theorem BadV.kind (h : BadV K v H) : Fgn H v ∨ ∃ q, Tim K q v H ∧ q ≤ 0 ∧ Sz q 4000 := by
  rcases h with ⟨b, rfl⟩ | ⟨z, rfl⟩ | ⟨p, i, rfl, h⟩ | h
  · exact .inl (.bl b)
  · exact .inl (.str z)
  · exact .inl (.lst h)
  · exact .inr h
/-- .. or None -/
def WBad (K : PySem.W.Frag) (v : V) (H : Hp) : Prop := v = .non ∨ BadV K v H
theorem WBad.mono (x : Ex H H') (h : WBad K v H) : WBad K v H' := h.elim .inl fun h => .inr (h.mono x)
theorem WBad.kind (h : WBad K v H) : Fgn H v ∨ ∃ q, Tim K q v H ∧ q ≤ 0 ∧ Sz q 4000 := by
  rcases h with rfl | h
  · exact .inl .non
  · exact h.kind
end
section
variable {K : PySem.W.Frag} {mg : Str → Option Value} {H : Hp} {Q : VK} {E : XK} {v : V}
theorem fgn_tyK (T : Tm K mg) (g : Fgn H v) : ∃ t r1 r2, TyX K H v t ∧ PySem.W.kitOne K t (.ref (CT K)) = some false ∧ PySem.W.kitOne K t (.type "int") = some r1 ∧ PySem.W.kitOne K t (.type "bool") = some r2 ∧ (r1 && !r2) = false := by
  cases g with
  | non => exact ⟨_, _, _, .base .non, T.k_Time.ofNone, k_ni, k_nb, rfl⟩
  | bl b => exact ⟨_, _, _, .base (.bl b), T.k_Time.ofBool, k_bi, k_bb, rfl⟩
  | str z => exact ⟨_, _, _, .base (.str z), T.k_Time.ofStr, k_si, k_sb, rfl⟩
  | tup h => exact ⟨_, _, _, .base (.tup h), T.k_Time.ofTup, k_ti, k_tb, rfl⟩
  | lst h => exact ⟨_, _, _, .base (.lst h), T.k_Time.ofLst, k_li, k_lb, rfl⟩
theorem it_no (T : Tm K mg) (h : Fgn H v) (z : Q (.bl false) H) : spIsTime K [v] H Q E := by
  obtain ⟨t, r1, r2, h1, h2, h3, h4, h5⟩ := fgn_tyK T h
  exact ⟨v, t, false, r1, r2, rfl, h1, h2, h3, h4, by rw [h5]; exact z⟩
end

/-! ### into a comprehension's block -/
section
variable {X : Cx} {s : Shared} {H0 : Hp} {scope : Scope} {C : Addr} {cl : List (Str × Addr)} {fp : List Addr} {elt : Expr} {σ : L2.St} {H : Hp} {Q : VK} {k i : Nat} {E : L2.St → XK} {x : Str} {N : List Str} {sco : Scope}
theorem in_blk (B : Body X k E) (h0 : scope.names.lookup ("0" : Str) = none) (h : Body (Bk X s H0 scope C cl fp) k (fun _ => E0) → WE (Bk X s H0 scope C cl fp) elt σ H Q) : WE (Bk X s H0 scope C cl fp) elt σ H Q := h (B.blk h0)
theorem in_own (eN : X.N = N) (nd : N.Nodup) (hi : N[i]? = some x) (hx : scope.names.lookup x = some .local) (d1 : (x == ("__debug__" : Str)) = false) (d2 : (x == ("__classdict__" : Str)) = false) (h : Sl (Bk X s H0 scope C cl fp) i x → WE (Bk X s H0 scope C cl fp) elt σ H Q) : WE (Bk X s H0 scope C cl fp) elt σ H Q := h (own_of eN nd hi hx d1 d2)
theorem in_gn (x : Str) (hx : scope.names.lookup x = some .globalImplicit) (d1 : (x == ("__debug__" : Str)) = false) (h : Gn (Bk X s H0 scope C cl fp) x → WE (Bk X s H0 scope C cl fp) elt σ H Q) : WE (Bk X s H0 scope C cl fp) elt σ H Q := h (gn_blk hx d1)
theorem in_bn (x : Str) (hx : scope.names.lookup x = some .globalImplicit) (no : X.mg x = none) (h : Bn (Bk X s H0 scope C cl fp) x → WE (Bk X s H0 scope C cl fp) elt σ H Q) : WE (Bk X s H0 scope C cl fp) elt σ H Q := h (bn_blk hx no)
theorem in_free (eN : X.N = N) (es : X.env.scope = sco) (hi : N[i]? = some x) (hx : (relS scope sco).names.lookup x = some .cell) (d1 : (x == ("__debug__" : Str)) = false) (d2 : (x == ("__classdict__" : Str)) = false) (h : SlF (Bk X s H0 scope C cl fp) i x → WE (Bk X s H0 scope C cl fp) elt σ H Q) : WE (Bk X s H0 scope C cl fp) elt σ H Q := h (free_of eN es hi hx d1 d2)
end
local macro_rules | `(tactic| walk_at "wE") => `(tactic| first | ((with_reducible refine' we_nameF ?n ?h ?_); (case n => with_reducible assumption); (case h => exact rfl)) | fail)

/-! ### books of rules: what a book holds -/
/-- a book's nine parts -/
structure Bk where
  word : Str
  share : Rat
  latest : Option Nat
  factor : Rat
  margin : Rat
  floor : Option Rat
  roof : Option Rat
  doubled : Bool
  kept : Bool
structure BkOk (z : Bk) : Prop where
  word : z.word ∈ (["first", "last", "marked", "clean"] : List Str)
  sh0 : 0 < z.share
  sh1 : z.share ≤ 1
  lat : ∀ n, z.latest = some n → 1 ≤ n ∧ n ≤ 20 ∧ z.share = 1
  fa : 1 ≤ z.factor
  ma : 0 ≤ z.margin
  fl : ∀ f, z.floor = some f → 0 < f
  ro : ∀ r, z.roof = some r → 0 < r ∧ ∀ f, z.floor = some f → f ≤ r
  ke : z.kept = true → z.doubled = true
  z1 : Sz z.share 1000
  z2 : Sz z.factor 1000
  z3 : Sz z.margin 1000
  z4 : ∀ f, z.floor = some f → Sz f 1000
  z5 : ∀ f, z.roof = some f → Sz f 1000
def latV : Option Nat → V
  | none => .non
  | some n => .int n
def pn : List Str := ["sample", "share", "latest", "factor", "margin", "floor", "roof", "doubled", "kept"]
def pk : List Key := pn.map Sum.inr
theorem pk_nd : pk.Nodup := by decide +kernel
theorem pk_at {i : Nat} {x : Str} (h : pn[i]? = some x) : pk[i]? = some (.inr x) := by
  unfold pk
  rw [List.getElem?_map, h]
  rfl
/-- a time, an int or None -/
def OTim (K : PySem.W.Frag) (o : Option Rat) (v : V) (H : Hp) : Prop := match o with
  | none => v = .non
  | some q => Tim K q v H
theorem OTim.mono {K : PySem.W.Frag} {o : Option Rat} {v : V} {H H' : Hp} (x : Ex H H') (h : OTim K o v H) : OTim K o v H' := by
  cases o with
  | none => exact h
  | some q => exact Tim.mono x h
theorem Tim.nn {K : PySem.W.Frag} {q : Rat} {v : V} {H : Hp} (h : Tim K q v H) : v ≠ .non := by
  rintro rfl
  rcases h with ⟨t, dx, e, _⟩ | ⟨i, e, _⟩ <;> cases e
theorem OptT.oTim {K : PySem.W.Frag} {o : Option Rat} {v : V} {H : Hp} (h : OptT K o v H) : OTim K o v H := by
  cases o with
  | none => exact h
  | some q => exact .inl h
/-- the nine values: times or ints -/
structure Raw (K : PySem.W.Frag) (z : Bk) (sh fa ma fl ro : V) (H : Hp) : Prop where
  sh : Tim K z.share sh H
  fa : Tim K z.factor fa H
  ma : Tim K z.margin ma H
  fl : OTim K z.floor fl H
  ro : OTim K z.roof ro H
theorem Raw.mono {K : PySem.W.Frag} {z : Bk} {sh fa ma fl ro : V} {H H' : Hp} (x : Ex H H') (h : Raw K z sh fa ma fl ro H) : Raw K z sh fa ma fl ro H' := ⟨h.sh.mono x, h.fa.mono x, h.ma.mono x, h.fl.mono x, h.ro.mono x⟩
abbrev row9 (z : Bk) (sh fa ma fl ro : V) : List V := [.str z.word, sh, latV z.latest, fa, ma, fl, ro, .bl z.doubled, .bl z.kept]
abbrev dk9 (z : Bk) (sh fa ma fl ro : V) : HO := .dK (pk.zip (row9 z sh fa ma fl ro))
theorem val9 {z : Bk} {sh fa ma fl ro v : V} {x : Str} (i : Nat) (hx : pn[i]? = some x) (hv : (row9 z sh fa ma fl ro)[i]? = some v) : valV (pk.zip (row9 z sh fa ma fl ro)) (.inr x) = some v := valV_zip pk_nd (pk_at hx) hv
theorem o_eqSt {X : Cx} {H : Hp} {Q : VK} {x y : Str} (h : decide (x = y) = true) (q : Q (.bl true) H) : Op2 X (compareOp .Eq) (.str x) (.str y) H Q := o_eqS (by rw [h]; exact q)
theorem o_eqSf {X : Cx} {H : Hp} {Q : VK} {x y : Str} (h : decide (x = y) = false) (q : Q (.bl false) H) : Op2 X (compareOp .Eq) (.str x) (.str y) H Q := o_eqS (by rw [h]; exact q)
theorem gr_ok {H : Hp} {Q : V → Prop} {z : Bk} {d : Addr} {sh fa ma fl ro v : V} {x : Str} (hd : H d = some (dk9 z sh fa ma fl ro)) (i : Nat) (hx : pn[i]? = some x) (hv : (row9 z sh fa ma fl ro)[i]? = some v) (q : Q v) :
    ∃ a kvs x' v', V.ref d = .ref a ∧ V.str x = .str x' ∧ H a = some (.dK kvs) ∧ valV kvs (.inr x') = some v' ∧ Q v' := ⟨d, _, x, v, rfl, rfl, hd, val9 i hx hv, q⟩
theorem gs_ok {H : Hp} {Q : V → Prop} {z : Bk} {d : Addr} {sh fa ma fl ro v : V} {x : Str} (hd : H d = some (dk9 z sh fa ma fl ro)) (i : Nat) (hx : pn[i]? = some x) (hv : (row9 z sh fa ma fl ro)[i]? = some v) (q : Q v) :
    ∃ a kvs v', V.ref d = .ref a ∧ H a = some (.dK kvs) ∧ valV kvs (.inr x) = some v' ∧ Q v' := ⟨d, _, v, rfl, hd, val9 i hx hv, q⟩
local macro_rules | `(tactic| walk_at "wE") => `(tactic| first | ((with_reducible refine' we_dgetS ?B ?_ ?hs); (case B => assumption); (case hs => intro _ _; rfl)) | ((with_reducible refine' we_cmp ?_ ?hm); (case hm => rfl)) | fail)
local macro_rules | `(tactic| walk_at "wO") => `(tactic| first | ((with_reducible refine' o_eqSt ?h ?_); (case h => decide +kernel)) | ((with_reducible refine' o_eqSf ?h ?_); (case h => decide +kernel)) | with_reducible refine' o_isB ?_ | fail)
section
variable {P : Program} {w : World} {K : PySem.W.Frag} {mg : Str → Option Value} {base : Heap}
theorem z0s : Sz ((0 : Int) : Rat) 4000 := (Sz.int (n := 2) (by decide) (by decide)).mono (by decide)
theorem z1s : Sz ((1 : Int) : Rat) 4000 := (Sz.int (n := 2) (by decide) (by decide)).mono (by decide)
def spIsPos (K : PySem.W.Frag) : Sp := fun vs H Q _ => ∃ q v, vs = [v] ∧ Tim K q v H ∧ Sz q 4000 ∧ Bl H (decide (0 < q)) Q
theorem f_is_positive (T : Tm K mg) : GFn P w K mg base 6 "is_positive" (spIsPos K) := by
  obtain ⟨fd, F⟩ := T.d_is_positive
  refine GFn.mk F T.g_is_positive (def_ok F sc_is_positive (fun vs H Q E h => by obtain ⟨q, v, rfl, _⟩ := h; rfl) ?_) (F.bindsN fun _ _ _ _ _ _ us hl => match us, hl with | [_], _ => rfl)
  intro X eP ew eK em eb eN es hf nd H vs Q E B h
  subst eP ew eK em eb
  have n0 : Sl X 0 "thing" := slot_of eN es hf nd rfl (by first | exact Or.inl rfl | exact Or.inr rfl) (by decide) (by decide)
  have g_is_time : Gn X "is_time" := gn_of es rfl (by decide)
  have F_is_time := f_is_time (P := X.prog) (w := X.w) (base := X.base) T
  have g_time_of : Gn X "time_of" := gn_of es rfl (by decide)
  have F_time_of := f_time_of (P := X.prog) (w := X.w) (base := X.base) T
  obtain ⟨q, v, rfl, hv, hq, z⟩ := h
  show WB X [_] _ [some (v)] H
  have z0 := z0s
  repeat walk_at "w"
  refine it_tim T hv ?_
  repeat walk_at "w"
  refine to_tim hv fun y H1 x1 hy => ?_
  repeat walk_at "w"
  exact z _ (by walk_at "x")
def spIsLatest (K : PySem.W.Frag) : Sp := fun vs H Q _ => ∃ o q v, vs = [latV o, v] ∧ Tim K q v H ∧ Sz q 4000 ∧ (∀ n, o = some n → 1 ≤ n ∧ n ≤ 20 ∧ q = 1) ∧ Yes H Q
theorem f_is_latest (T : Tm K mg) : GFn P w K mg base 6 "is_latest" (spIsLatest K) := by
  obtain ⟨fd, F⟩ := T.d_is_latest
  refine GFn.mk F T.g_is_latest (def_ok F sc_is_latest (fun vs H Q E h => by obtain ⟨o, q, v, rfl, _⟩ := h; rfl) ?_) (F.bindsN fun _ _ _ _ _ _ us hl => match us, hl with | [_, _], _ => rfl)
  intro X eP ew eK em eb eN es hf nd H vs Q E B h
  subst eP ew eK em eb
  have n0 : Sl X 0 "thing" := slot_of eN es hf nd rfl (by first | exact Or.inl rfl | exact Or.inr rfl) (by decide) (by decide)
  have n1 : Sl X 1 "share" := slot_of eN es hf nd rfl (by first | exact Or.inl rfl | exact Or.inr rfl) (by decide) (by decide)
  have z_isinstance : Bn X "isinstance" := bn_of es rfl T.z_isinstance
  have z_int : Bn X "int" := bn_of es rfl T.z_int
  have z_bool : Bn X "bool" := bn_of es rfl T.z_bool
  have g_MOST_LATEST : Gn X "MOST_LATEST" := gn_of es rfl (by decide)
  obtain ⟨t_MOST_LATEST, m_MOST_LATEST⟩ := T.i_MOST_LATEST
  have g_time_of : Gn X "time_of" := gn_of es rfl (by decide)
  have F_time_of := f_time_of (P := X.prog) (w := X.w) (base := X.base) T
  obtain ⟨o, q, v, rfl, hv, hq, hn, z⟩ := h
  show WB X [_, _, _] _ [some (latV o), some (v)] H
  have z1 := z1s
  cases o with
  | none =>
    repeat walk_at "w"
    rw [decide_eq_true (show latV none = V.non from rfl)]
    repeat walk_at "w"
    exact z _ (.refl _)
  | some n =>
    obtain ⟨n1, n2, rfl⟩ := hn n rfl
    repeat walk_at "w"
    rw [decide_eq_false (show ¬ latV (some n) = V.non from fun e => nomatch e)]
    repeat walk_at "w"
    refine ⟨true, ⟨_, _, .ty _, .base (.int n), k_ii⟩, ?_⟩
    repeat walk_at "w"
    refine ⟨false, ⟨_, _, .ty _, .base (.int n), k_ib⟩, ?_⟩
    repeat walk_at "w"
    refine o_le (l := (n : Int)) ?_
    repeat walk_at "w"
    rw [decide_eq_true (show (1 : Int) ≤ (n : Int) by omega)]
    repeat walk_at "w"
    refine o_le (i := (n : Int)) ?_
    repeat walk_at "w"
    rw [decide_eq_true (show (n : Int) ≤ 20 by omega)]
    repeat walk_at "w"
    refine to_tim hv fun y H1 x1 hy => ?_
    repeat walk_at "w"
    rw [decide_eq_true (show (1 : Rat) = ((1 : Int) : Rat) from rfl)]
    exact z _ (by walk_at "x")
def spIsRoof (K : PySem.W.Frag) : Sp := fun vs H Q _ => ∃ r f v u, vs = [v, u] ∧ OTim K r v H ∧ OTim K f u H ∧ (∀ q, r = some q → Sz q 4000 ∧ 0 < q ∧ ∀ g, f = some g → Sz g 4000 ∧ g ≤ q) ∧ Yes H Q
theorem f_is_roof (T : Tm K mg) : GFn P w K mg base 7 "is_roof" (spIsRoof K) := by
  obtain ⟨fd, F⟩ := T.d_is_roof
  refine GFn.mk F T.g_is_roof (def_ok F sc_is_roof (fun vs H Q E h => by obtain ⟨r, f, v, u, rfl, _⟩ := h; rfl) ?_) (F.bindsN fun _ _ _ _ _ _ us hl => match us, hl with | [_, _], _ => rfl)
  intro X eP ew eK em eb eN es hf nd H vs Q E B h
  subst eP ew eK em eb
  have n0 : Sl X 0 "thing" := slot_of eN es hf nd rfl (by first | exact Or.inl rfl | exact Or.inr rfl) (by decide) (by decide)
  have n1 : Sl X 1 "floor" := slot_of eN es hf nd rfl (by first | exact Or.inl rfl | exact Or.inr rfl) (by decide) (by decide)
  have g_is_positive : Gn X "is_positive" := gn_of es rfl (by decide)
  have F_is_positive := f_is_positive (P := X.prog) (w := X.w) (base := X.base) T
  have g_time_of : Gn X "time_of" := gn_of es rfl (by decide)
  have F_time_of := f_time_of (P := X.prog) (w := X.w) (base := X.base) T
  obtain ⟨r, f, v, u, rfl, hv, hu, hr, z⟩ := h
  show WB X [_, _] _ [some (v), some (u)] H
  cases r with
  | none =>
    cases hv
    repeat walk_at "w"
    rw [decide_eq_true (rfl : V.non = V.non)]
    repeat walk_at "w"
    exact z _ (.refl _)
  | some q =>
    obtain ⟨zq, q0, hg⟩ := hr q rfl
    have hv : Tim X.K q v H := hv
    repeat walk_at "w"
    rw [decide_eq_false hv.nn]
    repeat walk_at "w"
    refine ⟨q, v, rfl, hv, zq, ?_⟩
    rw [decide_eq_true q0]
    repeat walk_at "w"
    rename_i H1 x1
    cases f with
    | none =>
      cases hu
      rw [decide_eq_true (rfl : V.non = V.non)]
      repeat walk_at "w"
      exact z _ x1
    | some g =>
      obtain ⟨zg, gq⟩ := hg g rfl
      have hu : Tim X.K g u H := hu
      rw [decide_eq_false hu.nn]
      repeat walk_at "w"
      refine to_tim (hv.mono x1) fun y H2 x2 hy => ?_
      repeat walk_at "w"
      have hu2 : Tim X.K g u H2 := hu.mono (x1.trans x2)
      rw [decide_eq_true gq]
      exact z _ (by walk_at "x")
end
section
variable {P : Program} {w : World} {K : PySem.W.Frag} {mg : Str → Option Value} {base : Heap}
def spAllowed (K : PySem.W.Frag) : Sp := fun vs H Q _ => ∃ z d sh fa ma fl ro x, ∃ i : Nat, vs = [.str x, .ref d] ∧ H d = some (dk9 z sh fa ma fl ro) ∧ Raw K z sh fa ma fl ro H ∧ BkOk z ∧ pn[i]? = some x ∧ Yes H Q
theorem f_is_allowed (T : Tm K mg) : GFn P w K mg base 8 "is_allowed" (spAllowed K) := by
  obtain ⟨fd, F⟩ := T.d_is_allowed
  refine GFn.mk F T.g_is_allowed (def_ok F sc_is_allowed (fun vs H Q E h => by obtain ⟨z, d, sh, fa, ma, fl, ro, x, i, rfl, _⟩ := h; rfl) ?_) (F.bindsN fun _ _ _ _ _ _ us hl => match us, hl with | [_, _], _ => rfl)
  intro X eP ew eK em eb eN es hf nd H vs Q E B h
  subst eP ew eK em eb
  have n0 : Sl X 0 "part" := slot_of eN es hf nd rfl (by first | exact Or.inl rfl | exact Or.inr rfl) (by decide) (by decide)
  have n1 : Sl X 1 "rules" := slot_of eN es hf nd rfl (by first | exact Or.inl rfl | exact Or.inr rfl) (by decide) (by decide)
  have n2 : Sl X 2 "thing" := slot_of eN es hf nd rfl (by first | exact Or.inl rfl | exact Or.inr rfl) (by decide) (by decide)
  have z_isinstance : Bn X "isinstance" := bn_of es rfl T.z_isinstance
  have z_str : Bn X "str" := bn_of es rfl T.z_str
  have g_SAMPLES : Gn X "SAMPLES" := gn_of es rfl (by decide)
  have m_SAMPLES := T.g_SAMPLES
  have g_is_positive : Gn X "is_positive" := gn_of es rfl (by decide)
  have F_is_positive := f_is_positive (P := X.prog) (w := X.w) (base := X.base) T
  have g_time_of : Gn X "time_of" := gn_of es rfl (by decide)
  have F_time_of := f_time_of (P := X.prog) (w := X.w) (base := X.base) T
  have g_is_latest : Gn X "is_latest" := gn_of es rfl (by decide)
  have F_is_latest := f_is_latest (P := X.prog) (w := X.w) (base := X.base) T
  have g_is_time : Gn X "is_time" := gn_of es rfl (by decide)
  have F_is_time := f_is_time (P := X.prog) (w := X.w) (base := X.base) T
  have g_is_roof : Gn X "is_roof" := gn_of es rfl (by decide)
  have F_is_roof := f_is_roof (P := X.prog) (w := X.w) (base := X.base) T
  obtain ⟨z, d, sh, fa, ma, fl, ro, x, i, rfl, hd, hr, ok, hx, k⟩ := h
  show WB X [_, _, _, _, _, _, _, _, _, _] _ [some (.str x), some (.ref d), none] H
  have z0 := z0s
  have z1 := z1s
  have up : ∀ {q : Rat}, Sz q 1000 → Sz q 4000 := fun h => h.mono (by decide)
  have zsh := up ok.z1
  have zfa := up ok.z2
  have zma := up ok.z3
  match i, hx with
  | 0, hx =>
    cases hx
    refine wb_cons (ws_set n2 (we_dget B ?_))
    repeat walk_at "w"
    refine gr_ok hd 0 rfl rfl ?_
    repeat walk_at "w"
    refine ⟨true, ⟨_, _, .ty _, .base (.str _), k_ss⟩, ?_⟩
    repeat walk_at "w"
    refine o_inT (v := .str z.word) (T.kt_SAMPLES.sq _) rfl (by decide +kernel) ?_
    rw [show inV (.str z.word) _ = true from ?h]
    exact k _ (.refl _)
    have := ok.word
    simp only [List.mem_cons, List.not_mem_nil, or_false] at this
    rcases this with e | e | e | e <;> rw [e] <;> decide +kernel
  | 1, hx =>
    cases hx
    refine wb_cons (ws_set n2 (we_dget B ?_))
    repeat walk_at "w"
    refine gr_ok hd 1 rfl rfl ?_
    repeat walk_at "w"
    refine ⟨_, _, rfl, hr.sh, zsh, ?_⟩
    rw [decide_eq_true ok.sh0]
    repeat walk_at "w"
    rename_i H1 x1
    refine to_tim (hr.sh.mono x1) fun y H2 x2 hy => ?_
    repeat walk_at "w"
    rw [decide_eq_true (show z.share ≤ ((1 : Int) : Rat) from ok.sh1)]
    exact k _ (by walk_at "x")
  | 2, hx =>
    cases hx
    refine wb_cons (ws_set n2 (we_dget B ?_))
    repeat walk_at "w"
    refine gr_ok hd 2 rfl rfl ?_
    repeat walk_at "w"
    refine gs_ok hd 1 rfl rfl ?_
    repeat walk_at "w"
    refine ⟨z.latest, z.share, sh, rfl, hr.sh, zsh, ok.lat, ?_⟩
    exact k
  | 3, hx =>
    cases hx
    refine wb_cons (ws_set n2 (we_dget B ?_))
    repeat walk_at "w"
    refine gr_ok hd 3 rfl rfl ?_
    repeat walk_at "w"
    refine it_tim T hr.fa ?_
    repeat walk_at "w"
    refine to_tim hr.fa fun y H2 x2 hy => ?_
    repeat walk_at "w"
    rw [decide_eq_true (show ((1 : Int) : Rat) ≤ z.factor from ok.fa)]
    exact k _ (by walk_at "x")
  | 4, hx =>
    cases hx
    refine wb_cons (ws_set n2 (we_dget B ?_))
    repeat walk_at "w"
    refine gr_ok hd 4 rfl rfl ?_
    repeat walk_at "w"
    refine it_tim T hr.ma ?_
    repeat walk_at "w"
    refine to_tim hr.ma fun y H2 x2 hy => ?_
    repeat walk_at "w"
    rw [decide_eq_true (show ((0 : Int) : Rat) ≤ z.margin from ok.ma)]
    exact k _ (by walk_at "x")
  | 5, hx =>
    cases hx
    refine wb_cons (ws_set n2 (we_dget B ?_))
    repeat walk_at "w"
    refine gr_ok hd 5 rfl rfl ?_
    repeat walk_at "w"
    have hfl := hr.fl
    have h0 := ok.fl
    have hz := ok.z4
    generalize z.floor = o at hfl h0 hz
    cases o with
    | none =>
      cases hfl
      rw [decide_eq_true (rfl : V.non = V.non)]
      repeat walk_at "w"
      exact k _ (.refl _)
    | some q =>
      have hfl : Tim X.K q fl H := hfl
      rw [decide_eq_false hfl.nn]
      repeat walk_at "w"
      refine ⟨q, fl, rfl, hfl, up (hz q rfl), ?_⟩
      rw [decide_eq_true (h0 q rfl)]
      exact k
  | 6, hx =>
    cases hx
    refine wb_cons (ws_set n2 (we_dget B ?_))
    repeat walk_at "w"
    refine gr_ok hd 6 rfl rfl ?_
    repeat walk_at "w"
    refine gs_ok hd 5 rfl rfl ?_
    repeat walk_at "w"
    exact ⟨z.roof, z.floor, ro, fl, rfl, hr.ro, hr.fl, fun q e => ⟨up (ok.z5 q e), (ok.ro q e).1, fun g eg => ⟨up (ok.z4 g eg), (ok.ro q e).2 g eg⟩⟩, k⟩
  | 7, hx =>
    cases hx
    refine wb_cons (ws_set n2 (we_dget B ?_))
    repeat walk_at "w"
    refine gr_ok hd 7 rfl rfl ?_
    repeat walk_at "w"
    cases z.doubled with
    | true => exact k _ (.refl _)
    | false =>
      rw [decide_eq_false (show ¬ false = true by decide)]
      repeat walk_at "w"
      exact k _ (.refl _)
  | 8, hx =>
    cases hx
    refine wb_cons (ws_set n2 (we_dget B ?_))
    repeat walk_at "w"
    refine gr_ok hd 8 rfl rfl ?_
    repeat walk_at "w"
    have hk := ok.ke
    cases q : z.kept with
    | false => exact k _ (.refl _)
    | true =>
      rw [decide_eq_false (show ¬ true = false by decide)]
      repeat walk_at "w"
      rw [decide_eq_true (rfl : true = true)]
      repeat walk_at "w"
      refine gs_ok hd 7 rfl rfl ?_
      rw [hk q]
      exact k _ (.refl _)
  | i + 9, hx => cases hx
end
/-! ### checked, Book(..) -/
section
variable {K : PySem.W.Frag} {C p : Addr} {q : Rat} {v : V} {H : Hp} {kvs : List (Key × V)} {u : HO}
theorem TimeV.upD (hp : H p = some (.dK kvs)) (h : TimeV C q v H) : TimeV C q v (upd H p u) := TimeV.up hp (fun _ e => nomatch e) h
theorem Tim.upD (hp : H p = some (.dK kvs)) (h : Tim K q v H) : Tim K q v (upd H p u) := h.elim (fun h => .inl (TimeV.upD hp h)) .inr
theorem OTim.upD {o : Option Rat} (hp : H p = some (.dK kvs)) (h : OTim K o v H) : OTim K o v (upd H p u) := by
  cases o with
  | none => exact h
  | some q => exact Tim.upD hp h
theorem OptT.upD {o : Option Rat} (hp : H p = some (.dK kvs)) (h : OptT K o v H) : OptT K o v (upd H p u) := by
  cases o with
  | none => exact h
  | some q => exact TimeV.upD hp h
theorem Raw.upD {z : Bk} {sh fa ma fl ro : V} (hp : H p = some (.dK kvs)) (h : Raw K z sh fa ma fl ro H) : Raw K z sh fa ma fl ro (upd H p u) := ⟨h.sh.upD hp, h.fa.upD hp, h.ma.upD hp, h.fl.upD hp, h.ro.upD hp⟩
end
/-- the nine values as a book keeps them -/
structure Kept (K : PySem.W.Frag) (z : Bk) (sh fa ma fl ro : V) (H : Hp) : Prop where
  sh : TimeV (CT K) z.share sh H
  fa : TimeV (CT K) z.factor fa H
  ma : TimeV (CT K) z.margin ma H
  fl : OptT K z.floor fl H
  ro : OptT K z.roof ro H
theorem Kept.mono {K : PySem.W.Frag} {z : Bk} {sh fa ma fl ro : V} {H H' : Hp} (x : Ex H H') (h : Kept K z sh fa ma fl ro H) : Kept K z sh fa ma fl ro H' := ⟨TimeV.mono x h.sh, TimeV.mono x h.fa, TimeV.mono x h.ma, h.fl.mono x, h.ro.mono x⟩
theorem Kept.raw {K : PySem.W.Frag} {z : Bk} {sh fa ma fl ro : V} {H : Hp} (h : Kept K z sh fa ma fl ro H) : Raw K z sh fa ma fl ro H := ⟨.inl h.sh, .inl h.fa, .inl h.ma, h.fl.oTim, h.ro.oTim⟩
/-- found[name i] = v -/
theorem put9 {z : Bk} {sh fa ma fl ro v : V} {x : Str} (i : Nat) (hx : pn[i]? = some x) : putK (pk.zip (row9 z sh fa ma fl ro)) (.inr x) v = pk.zip ((row9 z sh fa ma fl ro).set i v) := putK_zip pk_nd rfl (pk_at hx)
section
variable {P : Program} {w : World} {K : PySem.W.Frag} {mg : Str → Option Value} {base : Heap}
def spCheckedB (K : PySem.W.Frag) : Sp := fun vs H Q _ => ∃ z d sh fa ma fl ro, vs = [.ref d] ∧ H d = some (dk9 z sh fa ma fl ro) ∧ Raw K z sh fa ma fl ro H ∧ BkOk z ∧
  ∀ d' H' sh fa ma fl ro, Ex H H' → H d' = none → H' d' = some (dk9 z sh fa ma fl ro) → Kept K z sh fa ma fl ro H' → Q (.ref d') H'
theorem f_checked (T : Tm K mg) : GFn P w K mg base 9 "checked" (spCheckedB K) := by
  obtain ⟨fd, F⟩ := T.d_checked
  refine GFn.mk F T.g_checked (def_ok F sc_checked (fun vs H Q E h => by obtain ⟨z, d, sh, fa, ma, fl, ro, rfl, _⟩ := h; rfl) ?_) (F.bindsN fun _ _ _ _ _ _ us hl => match us, hl with | [_], _ => rfl)
  intro X eP ew eK em eb eN es hf nd H vs Q E B h
  subst eP ew eK em eb
  have n0 : Sl X 0 "rules" := slot_of eN es hf nd rfl (by first | exact Or.inl rfl | exact Or.inr rfl) (by decide) (by decide)
  have n1 : Sl X 1 "part" := slot_of eN es hf nd rfl (by first | exact Or.inl rfl | exact Or.inr rfl) (by decide) (by decide)
  have n2 : Sl X 2 "found" := slot_of eN es hf nd rfl (by first | exact Or.inl rfl | exact Or.inr rfl) (by decide) (by decide)
  have g_PARTS : Gn X "PARTS" := gn_of es rfl (by decide)
  have m_PARTS := T.g_PARTS
  have g_is_allowed : Gn X "is_allowed" := gn_of es rfl (by decide)
  have F_is_allowed := f_is_allowed (P := X.prog) (w := X.w) (base := X.base) T
  have g_BadBook : Gn X "BadBook" := gn_of es rfl (by decide)
  have m_BadBook := T.g_BadBook
  have z_dict : Bn X "dict" := bn_of es rfl T.z_dict
  have g_time_of : Gn X "time_of" := gn_of es rfl (by decide)
  have F_time_of := f_time_of (P := X.prog) (w := X.w) (base := X.base) T
  obtain ⟨z, d, sh, fa, ma, fl, ro, rfl, hd, hr, ok, k⟩ := h
  show WB X [_, _, _, _, _] _ [some (.ref d), none, none] H
  refine wb_cons (ws_to (fun σ' H' => (∃ a, σ' = [some (.ref d), a, none]) ∧ Ex H H') ?_ ?_)
  · refine ws_for_tupE B n1 ?_
    repeat walk_at "w"
    refine ⟨_, _, rfl, fun _ σ' H' => (∃ a, σ' = [some (.ref d), a, none]) ∧ Ex H H', ⟨⟨_, rfl⟩, .refl _⟩, fun j σ' H' _ _ => T.kt_PARTS.sq H', ?_, fun _ _ h => h⟩
    rintro j y σ' H' hy ⟨⟨a, rfl⟩, x1⟩
    obtain ⟨x, hx, rfl⟩ : ∃ x, pn[j]? = some x ∧ y = .str x := by
      have e : (pn.map V.str)[j]? = some y := hy
      rw [List.getElem?_map] at e
      cases q : pn[j]? with
      | none => rw [q] at e; cases e
      | some x => rw [q] at e; cases e; exact ⟨x, rfl, rfl⟩
    repeat walk_at "w"
    refine ⟨z, d, sh, fa, ma, fl, ro, x, j, rfl, x1.keep _ _ hd not_src_dk, hr.mono x1, ok, hx, fun H2 x2 => ?_⟩
    repeat walk_at "w"
    exact ⟨⟨_, rfl⟩, x1.trans x2⟩
  rintro σ' H1 ⟨⟨a, rfl⟩, x1⟩
  refine wb_cons (ws_set n2 (we_dictC z_dict ?_))
  repeat walk_at "w"
  refine ⟨d, _, rfl, x1.keep _ _ hd not_src_dk, fun d' nd' => ?_⟩
  have hd1 := x1.keep _ _ hd not_src_dk
  have hr1 := hr.mono x1
  have x2 : Ex H (upd H1 d' (dk9 z sh fa ma fl ro)) := x1.trans (Ex.new nd')
  have nd0 := x1.back nd'
  have ne : d ≠ d' := fun e => by subst e; rw [nd'] at hd1; cases hd1
  have p2 : upd H1 d' (dk9 z sh fa ma fl ro) d' = some (dk9 z sh fa ma fl ro) := upd_same
  have hr2 : Raw X.K z sh fa ma fl ro (upd H1 d' (dk9 z sh fa ma fl ro)) := hr1.mono (Ex.new nd')
  show WB X _ _ [some (.ref d), a, some (.ref d')] (upd H1 d' (dk9 z sh fa ma fl ro))
  generalize upd H1 d' (dk9 z sh fa ma fl ro) = H2 at x2 p2 hr2 ⊢
  clear hd1 hr1 nd' x1
  have hd0 : ∀ {G : Hp}, Ex H G → G d = some (dk9 z sh fa ma fl ro) := fun x => x.keep _ _ hd not_src_dk
  -- share, factor, margin
  refine wb_cons (ws_to (fun σ' H' => ∃ b sh2 fa2 ma2, σ' = [some (.ref d), b, some (.ref d')] ∧ Ex H H' ∧ H' d' = some (dk9 z sh2 fa2 ma2 fl ro) ∧ TimeV (CT X.K) z.share sh2 H' ∧ TimeV (CT X.K) z.factor fa2 H' ∧ TimeV (CT X.K) z.margin ma2 H') ?_ ?_)
  · refine ws_for_tupE B n1 ?_
    refine we_tup ?_
    repeat walk_at "w"
    refine tup_i len3 fun t H3 x3 ht => ?_
    have p3 := x3.keep _ _ p2 not_src_dk
    refine ⟨t, [.str "share", .str "factor", .str "margin"], rfl, fun j σ' H' => ∃ b sh2 fa2 ma2, σ' = [some (.ref d), b, some (.ref d')] ∧ Ex H H' ∧ H' t = some (.tup [.str "share", .str "factor", .str "margin"]) ∧ H' d' = some (dk9 z sh2 fa2 ma2 fl ro) ∧ (1 ≤ j → TimeV (CT X.K) z.share sh2 H') ∧ (2 ≤ j → TimeV (CT X.K) z.factor fa2 H') ∧ (3 ≤ j → TimeV (CT X.K) z.margin ma2 H'),
      ⟨_, _, _, _, rfl, x2.trans x3, ht, p3, fun h => absurd h (by decide), fun h => absurd h (by decide), fun h => absurd h (by decide)⟩, fun j σ' H' _ h => ?_, ?_, ?_⟩
    · obtain ⟨b, sh2, fa2, ma2, _, _, ht, _⟩ := h
      exact .of ht
    · rintro j y σ' H4 hy ⟨b, sh2, fa2, ma2, rfl, x4, ht4, p4, c1, c2, c3⟩
      have hr4 := hr.mono x4
      have nt : ∀ {u : HO} {H5 : Hp}, Ex H4 H5 → upd H5 d' u t = some (.tup [.str "share", .str "factor", .str "margin"]) := fun {u H5} x => (upd_ne (fun e => by subst e; rw [ht4] at p4; cases p4)).trans (x.tup ht4)
      match j, hy with
      | 0, hy =>
        cases hy
        refine wb_one (ws_dput B ?_)
        repeat walk_at "w"
        refine we_dget B ?_
        repeat walk_at "w"
        refine gr_ok (hd0 x4) 1 rfl rfl ?_
        refine to_tim hr4.sh fun v H5 x5 hv => ?_
        repeat walk_at "w"
        have p5 := x5.keep _ _ p4 not_src_dk
        refine ⟨d', _, "share", rfl, rfl, p5, (show 9 < sizeLine by decide), ?_⟩
        rw [put9 1 rfl]
        exact ⟨_, v, fa2, ma2, rfl, (x4.trans x5).put nd0, nt x5, upd_same, fun _ => TimeV.upD p5 hv, fun h => absurd h (by decide), fun h => absurd h (by decide)⟩
      | 1, hy =>
        cases hy
        refine wb_one (ws_dput B ?_)
        repeat walk_at "w"
        refine we_dget B ?_
        repeat walk_at "w"
        refine gr_ok (hd0 x4) 3 rfl rfl ?_
        refine to_tim hr4.fa fun v H5 x5 hv => ?_
        repeat walk_at "w"
        have p5 := x5.keep _ _ p4 not_src_dk
        refine ⟨d', _, "factor", rfl, rfl, p5, (show 9 < sizeLine by decide), ?_⟩
        rw [put9 3 rfl]
        exact ⟨_, sh2, v, ma2, rfl, (x4.trans x5).put nd0, nt x5, upd_same, fun _ => TimeV.upD p5 (TimeV.mono x5 (c1 (by decide))), fun _ => TimeV.upD p5 hv, fun h => absurd h (by decide)⟩
      | 2, hy =>
        cases hy
        refine wb_one (ws_dput B ?_)
        repeat walk_at "w"
        refine we_dget B ?_
        repeat walk_at "w"
        refine gr_ok (hd0 x4) 4 rfl rfl ?_
        refine to_tim hr4.ma fun v H5 x5 hv => ?_
        repeat walk_at "w"
        have p5 := x5.keep _ _ p4 not_src_dk
        refine ⟨d', _, "margin", rfl, rfl, p5, (show 9 < sizeLine by decide), ?_⟩
        rw [put9 4 rfl]
        exact ⟨_, sh2, fa2, v, rfl, (x4.trans x5).put nd0, nt x5, upd_same, fun _ => TimeV.upD p5 (TimeV.mono x5 (c1 (by decide))), fun _ => TimeV.upD p5 (TimeV.mono x5 (c2 (by decide))), fun _ => TimeV.upD p5 hv⟩
      | j + 3, hy => cases hy
    · rintro σ' H4 ⟨b, sh2, fa2, ma2, rfl, x4, _, p4, c1, c2, c3⟩
      exact ⟨b, sh2, fa2, ma2, rfl, x4, p4, c1 (by decide), c2 (by decide), c3 (by decide)⟩
  rintro σ' H3 ⟨b, sh2, fa2, ma2, rfl, x3, p3, h1, h2, h3⟩
  clear p2 hr2 x2
  -- floor, roof
  refine wb_cons (ws_to (fun σ' H' => ∃ b fl2 ro2, σ' = [some (.ref d), b, some (.ref d')] ∧ Ex H H' ∧ H' d' = some (dk9 z sh2 fa2 ma2 fl2 ro2) ∧ Kept X.K z sh2 fa2 ma2 fl2 ro2 H') ?_ ?_)
  · refine ws_for_tupE B n1 ?_
    refine we_tup ?_
    repeat walk_at "w"
    refine tup_i len2 fun t H4 x4 ht => ?_
    have p4 := x4.keep _ _ p3 not_src_dk
    have hr4 := hr.mono (x3.trans x4)
    refine ⟨t, [.str "floor", .str "roof"], rfl, fun j σ' H' => ∃ b fl2 ro2, σ' = [some (.ref d), b, some (.ref d')] ∧ Ex H H' ∧ H' t = some (.tup [.str "floor", .str "roof"]) ∧ H' d' = some (dk9 z sh2 fa2 ma2 fl2 ro2) ∧ TimeV (CT X.K) z.share sh2 H' ∧ TimeV (CT X.K) z.factor fa2 H' ∧ TimeV (CT X.K) z.margin ma2 H' ∧ (if 1 ≤ j then OptT X.K z.floor fl2 H' else fl2 = fl) ∧ (if 2 ≤ j then OptT X.K z.roof ro2 H' else ro2 = ro),
      ⟨_, fl, ro, rfl, x3.trans x4, ht, p4, TimeV.mono x4 h1, TimeV.mono x4 h2, TimeV.mono x4 h3, rfl, rfl⟩, fun j σ' H' _ h => ?_, ?_, ?_⟩
    · obtain ⟨b, fl2, ro2, _, _, ht, _⟩ := h
      exact .of ht
    · rintro j y σ' H5 hy ⟨b, fl2, ro2, rfl, x5, ht5, p5, g1, g2, g3, c1, c2⟩
      have hr5 := hr.mono x5
      have nt : ∀ {u : HO} {H6 : Hp}, Ex H5 H6 → upd H6 d' u t = some (.tup [.str "floor", .str "roof"]) := fun {u H6} x => (upd_ne (fun e => by subst e; rw [ht5] at p5; cases p5)).trans (x.tup ht5)
      match j, hy with
      | 0, hy =>
        cases hy
        have c1 : fl2 = fl := c1
        subst c1
        have hf := hr5.fl
        repeat walk_at "w"
        refine we_dget B ?_
        repeat walk_at "w"
        refine gr_ok (hd0 x5) 5 rfl rfl ?_
        repeat walk_at "w"
        cases eo : z.floor with
        | none =>
          rw [eo] at hf
          cases hf
          rw [decide_eq_true (rfl : V.non = V.non)]
          repeat walk_at "w"
          exact ⟨_, _, _, rfl, x5, ht5, p5, g1, g2, g3, rfl, c2⟩
        | some q =>
          rw [eo] at hf
          have hf : Tim X.K q fl2 H5 := hf
          rw [decide_eq_false hf.nn]
          repeat walk_at "w"
          refine ws_dput B ?_
          repeat walk_at "w"
          refine we_dget B ?_
          repeat walk_at "w"
          refine gr_ok (hd0 x5) 5 rfl rfl ?_
          refine to_tim hf fun v H6 x6 hv => ?_
          repeat walk_at "w"
          have p6 := x6.keep _ _ p5 not_src_dk
          refine ⟨d', _, "floor", rfl, rfl, p6, (show 9 < sizeLine by decide), ?_⟩
          rw [put9 5 rfl]
          exact ⟨_, v, _, rfl, (x5.trans x6).put nd0, nt x6, upd_same, TimeV.upD p6 (TimeV.mono x6 g1), TimeV.upD p6 (TimeV.mono x6 g2), TimeV.upD p6 (TimeV.mono x6 g3), TimeV.upD p6 hv, c2⟩
      | 1, hy =>
        cases hy
        have c2 : ro2 = ro := c2
        subst c2
        have c1 : OptT X.K z.floor fl2 H5 := c1
        have hf := hr5.ro
        repeat walk_at "w"
        refine we_dget B ?_
        repeat walk_at "w"
        refine gr_ok (hd0 x5) 6 rfl rfl ?_
        repeat walk_at "w"
        cases eo : z.roof with
        | none =>
          rw [eo] at hf
          cases hf
          rw [decide_eq_true (rfl : V.non = V.non)]
          repeat walk_at "w"
          exact ⟨_, _, _, rfl, x5, ht5, p5, g1, g2, g3, c1, rfl⟩
        | some q =>
          rw [eo] at hf
          have hf : Tim X.K q ro2 H5 := hf
          rw [decide_eq_false hf.nn]
          repeat walk_at "w"
          refine ws_dput B ?_
          repeat walk_at "w"
          refine we_dget B ?_
          repeat walk_at "w"
          refine gr_ok (hd0 x5) 6 rfl rfl ?_
          refine to_tim hf fun v H6 x6 hv => ?_
          repeat walk_at "w"
          have p6 := x6.keep _ _ p5 not_src_dk
          refine ⟨d', _, "roof", rfl, rfl, p6, (show 9 < sizeLine by decide), ?_⟩
          rw [put9 6 rfl]
          exact ⟨_, _, v, rfl, (x5.trans x6).put nd0, nt x6, upd_same, TimeV.upD p6 (TimeV.mono x6 g1), TimeV.upD p6 (TimeV.mono x6 g2), TimeV.upD p6 (TimeV.mono x6 g3), OptT.upD p6 (c1.mono x6), TimeV.upD p6 hv⟩
      | j + 2, hy => cases hy
    · rintro σ' H5 ⟨b, fl2, ro2, rfl, x5, _, p5, g1, g2, g3, c1, c2⟩
      exact ⟨b, fl2, ro2, rfl, x5, p5, g1, g2, g3, c1, c2⟩
  rintro σ' H4 ⟨b, fl2, ro2, rfl, x4, p4, hk⟩
  repeat walk_at "w"
  exact k _ _ _ _ _ _ _ x4 nd0 p4 hk
end

/-! ### Book(..) made -/
abbrev CB (K : PySem.W.Frag) : Addr := ga K "Book"
def BookV (K : PySem.W.Frag) (z : Bk) (v : V) (H : Hp) : Prop := ∃ p dx d sh fa ma fl ro, v = .ref p ∧ H p = some (.ins (CB K) dx [("rules", .ref d)]) ∧ H d = some (dk9 z sh fa ma fl ro) ∧ Kept K z sh fa ma fl ro H
theorem BookV.mono {K : PySem.W.Frag} {z : Bk} {v : V} {H H' : Hp} (x : Ex H H') (h : BookV K z v H) : BookV K z v H' := by
  obtain ⟨p, dx, d, sh, fa, ma, fl, ro, rfl, hp, hd, hk⟩ := h
  exact ⟨p, dx, d, sh, fa, ma, fl, ro, rfl, x.ins hp, x.keep _ _ hd not_src_dk, hk.mono x⟩
theorem bk_fld {H : Hp} {p C dx d : Addr} {P : V → Prop} (hp : H p = some (.ins C dx [("rules", .ref d)])) (q : P (.ref d)) : ∃ a dx fs v, V.ref p = .ref a ∧ H a = some (.ins C dx fs) ∧ fs.lookup ("rules" : Str) = some v ∧ P v := ⟨p, dx, _, _, rfl, hp, rfl, q⟩
section
variable {X : Cx} {σ : L2.St} {H : Hp} {D : Ends} {Q : VK} {e o value : Expr} {pos pos' : Pos}
theorem we_rules (T : Tm X.K X.mg) (h : WE X e σ H fun y H1 => ∃ a dx fs v, y = .ref a ∧ H1 a = some (.ins (CB X.K) dx fs) ∧ fs.lookup ("rules" : Str) = some v ∧ Q v H1) (hb : attributeBase e "rules" X.env (eval e X.env) = eval e X.env := by rfl) : WE X (.Attribute e "rules" pos) σ H Q := we_fld T.c_Book.cl T.n_Book_rules h hb
theorem ws_rules (T : Tm X.K X.mg) (h : WE X value σ H fun y H1 => WE X o σ H1 fun z H2 => ∃ a dx fs, z = .ref a ∧ H2 a = some (.ins (CB X.K) dx fs) ∧ fs.length < 1000 ∧ D.nx σ (upd H2 a (.ins (CB X.K) dx (putF ("rules" : Str) y fs)))) (hs : swapsWith value (some (.Attribute o "rules" pos')) pos.line X.env = pure false := by rfl) : WS X (.Assign [.Attribute o "rules" pos'] value pos) D σ H := ws_fld T.c_Book.cl T.n_Book_rules h hs
end
local macro_rules | `(tactic| walk_at "wE") => `(tactic| first | ((with_reducible refine' we_rules ?T ?_ ?hb); (case T => assumption); (case hb => rfl)) | fail)
local macro_rules | `(tactic| walk_at "wS") => `(tactic| first | ((with_reducible refine' ws_rules ?T ?_ ?hs); (case T => assumption); (case hs => rfl)) | fail)
section
variable {P : Program} {w : World} {K : PySem.W.Frag} {mg : Str → Option Value} {base : Heap}
def spBInit (K : PySem.W.Frag) : Sp := fun vs H Q _ => ∃ z p dx sh fa ma fl ro, vs = .ref p :: row9 z sh fa ma fl ro ∧ H p = some (.ins (CB K) dx []) ∧ Raw K z sh fa ma fl ro H ∧ BkOk z ∧
  ∀ H', ExX (fun a => a = p) H H' → BookV K z (.ref p) H' → Q .non H'
theorem ok_binit (T : Tm K mg) {fd : FuncData} {kws : List (Str × V)} (F : FunD K "__init__" "Book.__init__" (defArgs s_Book___init__) (defBody s_Book___init__) (defScope s_Book___init__) [] kws (ma K (CB K) "__init__") fd) :
    FnOk P w K mg base (RX P w) 10 (ma K (CB K) "__init__") fd ["self", "sample", "share", "latest", "factor", "margin", "floor", "roof", "doubled", "kept"] (spBInit K) := by
  refine def_ok F sc_Book___init__ (fun vs H Q E h => by obtain ⟨z, p, dx, sh, fa, ma, fl, ro, rfl, _⟩ := h; rfl) ?_
  intro X eP ew eK em eb eN es hf nd H vs Q E B h
  subst eP ew eK em eb
  have n0 : Sl X 0 "self" := slot_of eN es hf nd rfl (by first | exact Or.inl rfl | exact Or.inr rfl) (by decide) (by decide)
  have n1 : Sl X 1 "sample" := slot_of eN es hf nd rfl (by first | exact Or.inl rfl | exact Or.inr rfl) (by decide) (by decide)
  have n2 : Sl X 2 "share" := slot_of eN es hf nd rfl (by first | exact Or.inl rfl | exact Or.inr rfl) (by decide) (by decide)
  have n3 : Sl X 3 "latest" := slot_of eN es hf nd rfl (by first | exact Or.inl rfl | exact Or.inr rfl) (by decide) (by decide)
  have n4 : Sl X 4 "factor" := slot_of eN es hf nd rfl (by first | exact Or.inl rfl | exact Or.inr rfl) (by decide) (by decide)
  have n5 : Sl X 5 "margin" := slot_of eN es hf nd rfl (by first | exact Or.inl rfl | exact Or.inr rfl) (by decide) (by decide)
  have n6 : Sl X 6 "floor" := slot_of eN es hf nd rfl (by first | exact Or.inl rfl | exact Or.inr rfl) (by decide) (by decide)
  have n7 : Sl X 7 "roof" := slot_of eN es hf nd rfl (by first | exact Or.inl rfl | exact Or.inr rfl) (by decide) (by decide)
  have n8 : Sl X 8 "doubled" := slot_of eN es hf nd rfl (by first | exact Or.inl rfl | exact Or.inr rfl) (by decide) (by decide)
  have n9 : Sl X 9 "kept" := slot_of eN es hf nd rfl (by first | exact Or.inl rfl | exact Or.inr rfl) (by decide) (by decide)
  have g_checked : Gn X "checked" := gn_of es rfl (by decide)
  have F_checked := f_checked (P := X.prog) (w := X.w) (base := X.base) T
  obtain ⟨z, p, dx, sh, fa, ma, fl, ro, rfl, hp, hr, ok, k⟩ := h
  show WB X [_] _ [some (.ref p), some (.str z.word), some (sh), some (latV z.latest), some (fa), some (ma), some (fl), some (ro), some (.bl z.doubled), some (.bl z.kept)] H
  repeat walk_at "w"
  refine we_disp (fun e => nomatch e) fun d nd' => ?_
  iterate 9
    refine wp_cons ?_
    repeat walk_at "w"
  refine wp_nil ⟨upd_same, pk.zip (row9 z sh fa ma fl ro), rfl, (show 9 ≤ 15 by decide), ?_⟩
  rw [mergeK_zip pk_nd rfl, upd2]
  have x1 : Ex H (upd H d (dk9 z sh fa ma fl ro)) := Ex.new nd'
  have hd1 : upd H d (dk9 z sh fa ma fl ro) d = some (dk9 z sh fa ma fl ro) := upd_same
  show spCheckedB _ _ (upd H d (dk9 z sh fa ma fl ro)) _ _
  generalize upd H d (dk9 z sh fa ma fl ro) = H1 at x1 hd1 ⊢
  refine ⟨z, d, sh, fa, ma, fl, ro, rfl, hd1, hr.mono x1, ok, fun d' H2 sh' fa' ma' fl' ro' x2 nd2 hd2 hk => ?_⟩
  repeat walk_at "w"
  have hp2 := (x1.trans x2).ins hp
  refine ⟨p, dx, [], rfl, hp2, (show 0 < 1000 by decide), ?_⟩
  have ne : d' ≠ p := fun e => by subst e; rw [hp2] at hd2; cases hd2
  have tp : ∀ {q : Rat} {v : V}, TimeV (CT X.K) q v H2 → TimeV (CT X.K) q v (upd H2 p (.ins (CB X.K) dx [("rules", .ref d')])) := fun h => TimeV.up hp2 (fun dx e => by injection e with _ _ e; cases e) h
  have op : ∀ {o : Option Rat} {v : V}, OptT X.K o v H2 → OptT X.K o v (upd H2 p (.ins (CB X.K) dx [("rules", .ref d')])) := fun {o v} h => by
    cases o with
    | none => exact h
    | some q => exact tp h
  exact k _ ((x1.trans x2).x.put rfl) ⟨p, dx, d', sh', fa', ma', fl', ro', rfl, upd_same, (upd_ne ne).trans hd2, tp hk.sh, tp hk.fa, tp hk.ma, op hk.fl, op hk.ro⟩
/-- Book with all nine words, in order -/
theorem k_Book9 (T : Tm K mg) : GKk P w K mg base 10 "Book" (CB K) (spBInit K) 0 ["sample", "share", "latest", "factor", "margin", "floor", "roof", "doubled", "kept"] (fun vs zs => vs ++ zs) := by
  obtain ⟨fd, F⟩ := T.d_Book___init__
  obtain ⟨mv, hb⟩ := F.kbinds0 (ps := ["self", "sample", "share", "latest", "factor", "margin", "floor", "roof", "doubled", "kept"]) 1 ["sample", "share", "latest", "factor", "margin", "floor", "roof", "doubled", "kept"] [] (fun us _ ws => us ++ ws) (List.cons_ne_nil _ _) (fun q h => nomatch h) (fun r1 _ r3 => r1.append r3) (by
    intro D doc pm an cdv ct us mv ws l1 l2 l3
    match us, ws, l1, l3 with
    | [a], [b1, b2, b3, b4, b5, b6, b7, b8, b9], _, _ => rfl)
  exact ⟨_, fd, _, _, T.g_Book, T.m_Book, ok_binit T F, hb⟩
def ord4 {α : Type} (us mv ws : List α) : List α := match us, mv, ws with
  | [s], [a, b, c, d, e], [w0, w1, w2, w3] => [s, w1, w0, a, w3, w2, b, c, d, e]
  | _, _, _ => []
/-- Book(share=, sample=, margin=, factor=) -/
theorem k_Book4 (T : Tm K mg) : GKk P w K mg base 10 "Book" (CB K) (spBInit K) 0 ["share", "sample", "margin", "factor"] (fun vs zs => ord4 vs [.non, .non, .non, .bl false, .bl false] zs) := by
  obtain ⟨fd, F⟩ := T.d_Book___init__
  obtain ⟨mv, hb⟩ := F.kbinds0 (ps := ["self", "sample", "share", "latest", "factor", "margin", "floor", "roof", "doubled", "kept"]) 1 ["share", "sample", "margin", "factor"] [("latest", .non), ("floor", .non), ("roof", .non), ("doubled", .bl false), ("kept", .bl false)] ord4 (List.cons_ne_nil _ _) (fun q h => by
    simp only [List.mem_cons, List.not_mem_nil, or_false] at h
    rcases h with rfl | rfl | rfl | rfl | rfl <;> simp [Dv.v]) (by
    intro vs mz zs us mv ws r1 r2 r3
    cases r1 with
    | nil => exact .nil
    | cons h0 t0 =>
      cases t0 with
      | cons _ _ => exact .nil
      | nil =>
        cases r2 with
        | nil => exact .nil
        | cons h1 r2 =>
          cases r2 with
          | nil => exact .nil
          | cons h2 r2 =>
            cases r2 with
            | nil => exact .nil
            | cons h3 r2 =>
              cases r2 with
              | nil => exact .nil
              | cons h4 r2 =>
                cases r2 with
                | nil => exact .nil
                | cons h5 r2 =>
                  cases r2 with
                  | cons _ _ => exact .nil
                  | nil =>
                    cases r3 with
                    | nil => exact .nil
                    | cons g0 r3 =>
                      cases r3 with
                      | nil => exact .nil
                      | cons g1 r3 =>
                        cases r3 with
                        | nil => exact .nil
                        | cons g2 r3 =>
                          cases r3 with
                          | nil => exact .nil
                          | cons g3 r3 =>
                            cases r3 with
                            | cons _ _ => exact .nil
                            | nil => exact .cons h0 (.cons g1 (.cons g0 (.cons h1 (.cons g3 (.cons g2 (.cons h2 (.cons h3 (.cons h4 (.cons h5 .nil)))))))))) (by
    intro D doc pm an cdv ct us mv ws l1 l2 l3
    match us, mv, ws, l1, l2, l3 with
    | [a], [m1, m2, m3, m4, m5], [b1, b2, b3, b4], _, _, _ => exact ⟨_, _, _, _, _, _, rfl, rfl, _, _, _, _, _, _, rfl, rfl, _, _, _, _, _, _, rfl, rfl, _, _, _, _, _, _, rfl, rfl, _, _, _, _, _, _, rfl, rfl, rfl⟩)
  exact ⟨_, fd, _, _, T.g_Book, T.m_Book, ok_binit T F, hb⟩
theorem made_b {H : Hp} {E : XK} {Q : Addr → Hp → Prop} {z : Bk} {sh fa ma fl ro : V} (hr : Raw K z sh fa ma fl ro H) (ok : BkOk z) (k : ∀ a H', Ex H H' → BookV K z (.ref a) H' → Q a H') :
    ∀ a dx, H a = none → H dx = none → dx ≠ a → spBInit K (.ref a :: row9 z sh fa ma fl ro) (upd (upd H dx (.own a)) a (.ins (CB K) dx [])) (fun v H2 => v = .non ∧ Q a H2) E := by
  intro a dx na nd ne
  have x1 : Ex H (upd (upd H dx (.own a)) a (.ins (CB K) dx [])) := Ex.new2 na nd
  exact ⟨z, a, dx, sh, fa, ma, fl, ro, rfl, upd_same, hr.mono x1, ok, fun H' x3 hb => ⟨rfl, k _ _ (ExX.fresh x1 x3 fun c e => by subst e; exact na) hb⟩⟩
end
/-! ### its properties -/
section
variable {P : Program} {w : World} {K : PySem.W.Frag} {mg : Str → Option Value} {base : Heap}
def spBk (K : PySem.W.Frag) (i : Nat) : Sp := fun vs H Q _ => ∃ z p dx d sh fa ma fl ro v', vs = [.ref p] ∧ H p = some (.ins (CB K) dx [("rules", .ref d)]) ∧ H d = some (dk9 z sh fa ma fl ro) ∧ (row9 z sh fa ma fl ro)[i]? = some v' ∧ Q v' H
theorem ok_B_sample (T : Tm K mg) : ∃ fd, FnOk P w K mg base (RX P w) 1 (pgA K (CB K) "sample") fd ["self"] (spBk K 0) ∧ Binds K fd ["self"] [] := by
  obtain ⟨fd, F⟩ := T.d_Book_sample
  refine ⟨fd, def_ok F sc_Book_sample (fun vs H Q E h => by obtain ⟨z, p, dx, d, sh, fa, ma, fl, ro, v', rfl, _⟩ := h; rfl) ?_, (F.bindsN fun _ _ _ _ _ _ us hl => match us, hl with | [_], _ => rfl)⟩
  intro X eP ew eK em eb eN es hf nd H vs Q E B h
  subst eP ew eK em eb
  have n0 : Sl X 0 "self" := slot_of eN es hf nd rfl (by first | exact Or.inl rfl | exact Or.inr rfl) (by decide) (by decide)
  obtain ⟨z, p, dx, d, sh, fa, ma, fl, ro, v', rfl, hp, hd, hv, k⟩ := h
  show WB X [_] _ [some (.ref p)] H
  repeat walk_at "w"
  refine bk_fld hp ?_
  exact gs_ok hd 0 rfl hv k
theorem ok_B_share (T : Tm K mg) : ∃ fd, FnOk P w K mg base (RX P w) 1 (pgA K (CB K) "share") fd ["self"] (spBk K 1) ∧ Binds K fd ["self"] [] := by
  obtain ⟨fd, F⟩ := T.d_Book_share
  refine ⟨fd, def_ok F sc_Book_share (fun vs H Q E h => by obtain ⟨z, p, dx, d, sh, fa, ma, fl, ro, v', rfl, _⟩ := h; rfl) ?_, (F.bindsN fun _ _ _ _ _ _ us hl => match us, hl with | [_], _ => rfl)⟩
  intro X eP ew eK em eb eN es hf nd H vs Q E B h
  subst eP ew eK em eb
  have n0 : Sl X 0 "self" := slot_of eN es hf nd rfl (by first | exact Or.inl rfl | exact Or.inr rfl) (by decide) (by decide)
  obtain ⟨z, p, dx, d, sh, fa, ma, fl, ro, v', rfl, hp, hd, hv, k⟩ := h
  show WB X [_] _ [some (.ref p)] H
  repeat walk_at "w"
  refine bk_fld hp ?_
  exact gs_ok hd 1 rfl hv k
theorem ok_B_latest (T : Tm K mg) : ∃ fd, FnOk P w K mg base (RX P w) 1 (pgA K (CB K) "latest") fd ["self"] (spBk K 2) ∧ Binds K fd ["self"] [] := by
  obtain ⟨fd, F⟩ := T.d_Book_latest
  refine ⟨fd, def_ok F sc_Book_latest (fun vs H Q E h => by obtain ⟨z, p, dx, d, sh, fa, ma, fl, ro, v', rfl, _⟩ := h; rfl) ?_, (F.bindsN fun _ _ _ _ _ _ us hl => match us, hl with | [_], _ => rfl)⟩
  intro X eP ew eK em eb eN es hf nd H vs Q E B h
  subst eP ew eK em eb
  have n0 : Sl X 0 "self" := slot_of eN es hf nd rfl (by first | exact Or.inl rfl | exact Or.inr rfl) (by decide) (by decide)
  obtain ⟨z, p, dx, d, sh, fa, ma, fl, ro, v', rfl, hp, hd, hv, k⟩ := h
  show WB X [_] _ [some (.ref p)] H
  repeat walk_at "w"
  refine bk_fld hp ?_
  exact gs_ok hd 2 rfl hv k
theorem ok_B_factor (T : Tm K mg) : ∃ fd, FnOk P w K mg base (RX P w) 1 (pgA K (CB K) "factor") fd ["self"] (spBk K 3) ∧ Binds K fd ["self"] [] := by
  obtain ⟨fd, F⟩ := T.d_Book_factor
  refine ⟨fd, def_ok F sc_Book_factor (fun vs H Q E h => by obtain ⟨z, p, dx, d, sh, fa, ma, fl, ro, v', rfl, _⟩ := h; rfl) ?_, (F.bindsN fun _ _ _ _ _ _ us hl => match us, hl with | [_], _ => rfl)⟩
  intro X eP ew eK em eb eN es hf nd H vs Q E B h
  subst eP ew eK em eb
  have n0 : Sl X 0 "self" := slot_of eN es hf nd rfl (by first | exact Or.inl rfl | exact Or.inr rfl) (by decide) (by decide)
  obtain ⟨z, p, dx, d, sh, fa, ma, fl, ro, v', rfl, hp, hd, hv, k⟩ := h
  show WB X [_] _ [some (.ref p)] H
  repeat walk_at "w"
  refine bk_fld hp ?_
  exact gs_ok hd 3 rfl hv k
theorem ok_B_margin (T : Tm K mg) : ∃ fd, FnOk P w K mg base (RX P w) 1 (pgA K (CB K) "margin") fd ["self"] (spBk K 4) ∧ Binds K fd ["self"] [] := by
  obtain ⟨fd, F⟩ := T.d_Book_margin
  refine ⟨fd, def_ok F sc_Book_margin (fun vs H Q E h => by obtain ⟨z, p, dx, d, sh, fa, ma, fl, ro, v', rfl, _⟩ := h; rfl) ?_, (F.bindsN fun _ _ _ _ _ _ us hl => match us, hl with | [_], _ => rfl)⟩
  intro X eP ew eK em eb eN es hf nd H vs Q E B h
  subst eP ew eK em eb
  have n0 : Sl X 0 "self" := slot_of eN es hf nd rfl (by first | exact Or.inl rfl | exact Or.inr rfl) (by decide) (by decide)
  obtain ⟨z, p, dx, d, sh, fa, ma, fl, ro, v', rfl, hp, hd, hv, k⟩ := h
  show WB X [_] _ [some (.ref p)] H
  repeat walk_at "w"
  refine bk_fld hp ?_
  exact gs_ok hd 4 rfl hv k
theorem ok_B_floor (T : Tm K mg) : ∃ fd, FnOk P w K mg base (RX P w) 1 (pgA K (CB K) "floor") fd ["self"] (spBk K 5) ∧ Binds K fd ["self"] [] := by
  obtain ⟨fd, F⟩ := T.d_Book_floor
  refine ⟨fd, def_ok F sc_Book_floor (fun vs H Q E h => by obtain ⟨z, p, dx, d, sh, fa, ma, fl, ro, v', rfl, _⟩ := h; rfl) ?_, (F.bindsN fun _ _ _ _ _ _ us hl => match us, hl with | [_], _ => rfl)⟩
  intro X eP ew eK em eb eN es hf nd H vs Q E B h
  subst eP ew eK em eb
  have n0 : Sl X 0 "self" := slot_of eN es hf nd rfl (by first | exact Or.inl rfl | exact Or.inr rfl) (by decide) (by decide)
  obtain ⟨z, p, dx, d, sh, fa, ma, fl, ro, v', rfl, hp, hd, hv, k⟩ := h
  show WB X [_] _ [some (.ref p)] H
  repeat walk_at "w"
  refine bk_fld hp ?_
  exact gs_ok hd 5 rfl hv k
theorem ok_B_roof (T : Tm K mg) : ∃ fd, FnOk P w K mg base (RX P w) 1 (pgA K (CB K) "roof") fd ["self"] (spBk K 6) ∧ Binds K fd ["self"] [] := by
  obtain ⟨fd, F⟩ := T.d_Book_roof
  refine ⟨fd, def_ok F sc_Book_roof (fun vs H Q E h => by obtain ⟨z, p, dx, d, sh, fa, ma, fl, ro, v', rfl, _⟩ := h; rfl) ?_, (F.bindsN fun _ _ _ _ _ _ us hl => match us, hl with | [_], _ => rfl)⟩
  intro X eP ew eK em eb eN es hf nd H vs Q E B h
  subst eP ew eK em eb
  have n0 : Sl X 0 "self" := slot_of eN es hf nd rfl (by first | exact Or.inl rfl | exact Or.inr rfl) (by decide) (by decide)
  obtain ⟨z, p, dx, d, sh, fa, ma, fl, ro, v', rfl, hp, hd, hv, k⟩ := h
  show WB X [_] _ [some (.ref p)] H
  repeat walk_at "w"
  refine bk_fld hp ?_
  exact gs_ok hd 6 rfl hv k
theorem ok_B_doubled (T : Tm K mg) : ∃ fd, FnOk P w K mg base (RX P w) 1 (pgA K (CB K) "doubled") fd ["self"] (spBk K 7) ∧ Binds K fd ["self"] [] := by
  obtain ⟨fd, F⟩ := T.d_Book_doubled
  refine ⟨fd, def_ok F sc_Book_doubled (fun vs H Q E h => by obtain ⟨z, p, dx, d, sh, fa, ma, fl, ro, v', rfl, _⟩ := h; rfl) ?_, (F.bindsN fun _ _ _ _ _ _ us hl => match us, hl with | [_], _ => rfl)⟩
  intro X eP ew eK em eb eN es hf nd H vs Q E B h
  subst eP ew eK em eb
  have n0 : Sl X 0 "self" := slot_of eN es hf nd rfl (by first | exact Or.inl rfl | exact Or.inr rfl) (by decide) (by decide)
  obtain ⟨z, p, dx, d, sh, fa, ma, fl, ro, v', rfl, hp, hd, hv, k⟩ := h
  show WB X [_] _ [some (.ref p)] H
  repeat walk_at "w"
  refine bk_fld hp ?_
  exact gs_ok hd 7 rfl hv k
theorem ok_B_kept (T : Tm K mg) : ∃ fd, FnOk P w K mg base (RX P w) 1 (pgA K (CB K) "kept") fd ["self"] (spBk K 8) ∧ Binds K fd ["self"] [] := by
  obtain ⟨fd, F⟩ := T.d_Book_kept
  refine ⟨fd, def_ok F sc_Book_kept (fun vs H Q E h => by obtain ⟨z, p, dx, d, sh, fa, ma, fl, ro, v', rfl, _⟩ := h; rfl) ?_, (F.bindsN fun _ _ _ _ _ _ us hl => match us, hl with | [_], _ => rfl)⟩
  intro X eP ew eK em eb eN es hf nd H vs Q E B h
  subst eP ew eK em eb
  have n0 : Sl X 0 "self" := slot_of eN es hf nd rfl (by first | exact Or.inl rfl | exact Or.inr rfl) (by decide) (by decide)
  obtain ⟨z, p, dx, d, sh, fa, ma, fl, ro, v', rfl, hp, hd, hv, k⟩ := h
  show WB X [_] _ [some (.ref p)] H
  repeat walk_at "w"
  refine bk_fld hp ?_
  exact gs_ok hd 8 rfl hv k
end
section
variable {X : Cx} {k : Nat} {E : L2.St → XK} {σ : L2.St} {H : Hp} {Q : VK} {e : Expr} {pos apos : Pos}
theorem bv_ok {K : PySem.W.Frag} {z : Bk} {v : V} {H : Hp} {R : Bk → Prop} (h : BookV K z v H) (r : R z) : ∃ z, BookV K z v H ∧ R z := ⟨z, h, r⟩
theorem tq_i {C : Addr} {q : Rat} {H : Hp} {Q : VK} (h : ∀ v, TimeV C q v H → Q v H) : ∀ v, TimeV C q v H → Q v H := h
theorem oq_i {K : PySem.W.Frag} {q : Option Rat} {H : Hp} {Q : VK} (h : ∀ v, OptT K q v H → Q v H) : ∀ v, OptT K q v H → Q v H := h
theorem we_B_sample (B : Body X k E) (T : Tm X.K X.mg) (hk : 2 ≤ k) (h : WE X e σ H fun y H1 => ∃ z, BookV X.K z y H1 ∧ Q (.str z.word) H1) (he : attributeBase e "sample" X.env (eval e X.env) = eval e X.env := by rfl) : WE X (.Attribute e "sample" pos) σ H Q := by
  obtain ⟨fd, F, hb⟩ := ok_B_sample (P := X.prog) (w := X.w) (base := X.base) T
  refine we_prop B T.c_Book.cl T.p_Book_sample F hk hb .nil (we_mono h fun y H1 r => ?_) he
  obtain ⟨z, ⟨p, dx, d, sh, fa, ma, fl, ro, rfl, hp, hd, hk⟩, q⟩ := r
  exact ⟨p, dx, _, rfl, hp, z, p, dx, d, sh, fa, ma, fl, ro, _, rfl, hp, hd, rfl, q⟩
theorem we_B_share (B : Body X k E) (T : Tm X.K X.mg) (hk : 2 ≤ k) (h : WE X e σ H fun y H1 => ∃ z, BookV X.K z y H1 ∧ ∀ v', TimeV (CT X.K) z.share v' H1 → Q v' H1) (he : attributeBase e "share" X.env (eval e X.env) = eval e X.env := by rfl) : WE X (.Attribute e "share" pos) σ H Q := by
  obtain ⟨fd, F, hb⟩ := ok_B_share (P := X.prog) (w := X.w) (base := X.base) T
  refine we_prop B T.c_Book.cl T.p_Book_share F hk hb .nil (we_mono h fun y H1 r => ?_) he
  obtain ⟨z, ⟨p, dx, d, sh, fa, ma, fl, ro, rfl, hp, hd, hk⟩, q⟩ := r
  exact ⟨p, dx, _, rfl, hp, z, p, dx, d, sh, fa, ma, fl, ro, _, rfl, hp, hd, rfl, q _ hk.sh⟩
theorem we_B_latest (B : Body X k E) (T : Tm X.K X.mg) (hk : 2 ≤ k) (h : WE X e σ H fun y H1 => ∃ z, BookV X.K z y H1 ∧ Q (latV z.latest) H1) (he : attributeBase e "latest" X.env (eval e X.env) = eval e X.env := by rfl) : WE X (.Attribute e "latest" pos) σ H Q := by
  obtain ⟨fd, F, hb⟩ := ok_B_latest (P := X.prog) (w := X.w) (base := X.base) T
  refine we_prop B T.c_Book.cl T.p_Book_latest F hk hb .nil (we_mono h fun y H1 r => ?_) he
  obtain ⟨z, ⟨p, dx, d, sh, fa, ma, fl, ro, rfl, hp, hd, hk⟩, q⟩ := r
  exact ⟨p, dx, _, rfl, hp, z, p, dx, d, sh, fa, ma, fl, ro, _, rfl, hp, hd, rfl, q⟩
theorem we_B_factor (B : Body X k E) (T : Tm X.K X.mg) (hk : 2 ≤ k) (h : WE X e σ H fun y H1 => ∃ z, BookV X.K z y H1 ∧ ∀ v', TimeV (CT X.K) z.factor v' H1 → Q v' H1) (he : attributeBase e "factor" X.env (eval e X.env) = eval e X.env := by rfl) : WE X (.Attribute e "factor" pos) σ H Q := by
  obtain ⟨fd, F, hb⟩ := ok_B_factor (P := X.prog) (w := X.w) (base := X.base) T
  refine we_prop B T.c_Book.cl T.p_Book_factor F hk hb .nil (we_mono h fun y H1 r => ?_) he
  obtain ⟨z, ⟨p, dx, d, sh, fa, ma, fl, ro, rfl, hp, hd, hk⟩, q⟩ := r
  exact ⟨p, dx, _, rfl, hp, z, p, dx, d, sh, fa, ma, fl, ro, _, rfl, hp, hd, rfl, q _ hk.fa⟩
theorem we_B_margin (B : Body X k E) (T : Tm X.K X.mg) (hk : 2 ≤ k) (h : WE X e σ H fun y H1 => ∃ z, BookV X.K z y H1 ∧ ∀ v', TimeV (CT X.K) z.margin v' H1 → Q v' H1) (he : attributeBase e "margin" X.env (eval e X.env) = eval e X.env := by rfl) : WE X (.Attribute e "margin" pos) σ H Q := by
  obtain ⟨fd, F, hb⟩ := ok_B_margin (P := X.prog) (w := X.w) (base := X.base) T
  refine we_prop B T.c_Book.cl T.p_Book_margin F hk hb .nil (we_mono h fun y H1 r => ?_) he
  obtain ⟨z, ⟨p, dx, d, sh, fa, ma, fl, ro, rfl, hp, hd, hk⟩, q⟩ := r
  exact ⟨p, dx, _, rfl, hp, z, p, dx, d, sh, fa, ma, fl, ro, _, rfl, hp, hd, rfl, q _ hk.ma⟩
theorem we_B_floor (B : Body X k E) (T : Tm X.K X.mg) (hk : 2 ≤ k) (h : WE X e σ H fun y H1 => ∃ z, BookV X.K z y H1 ∧ ∀ v', OptT X.K z.floor v' H1 → Q v' H1) (he : attributeBase e "floor" X.env (eval e X.env) = eval e X.env := by rfl) : WE X (.Attribute e "floor" pos) σ H Q := by
  obtain ⟨fd, F, hb⟩ := ok_B_floor (P := X.prog) (w := X.w) (base := X.base) T
  refine we_prop B T.c_Book.cl T.p_Book_floor F hk hb .nil (we_mono h fun y H1 r => ?_) he
  obtain ⟨z, ⟨p, dx, d, sh, fa, ma, fl, ro, rfl, hp, hd, hk⟩, q⟩ := r
  exact ⟨p, dx, _, rfl, hp, z, p, dx, d, sh, fa, ma, fl, ro, _, rfl, hp, hd, rfl, q _ hk.fl⟩
theorem we_B_roof (B : Body X k E) (T : Tm X.K X.mg) (hk : 2 ≤ k) (h : WE X e σ H fun y H1 => ∃ z, BookV X.K z y H1 ∧ ∀ v', OptT X.K z.roof v' H1 → Q v' H1) (he : attributeBase e "roof" X.env (eval e X.env) = eval e X.env := by rfl) : WE X (.Attribute e "roof" pos) σ H Q := by
  obtain ⟨fd, F, hb⟩ := ok_B_roof (P := X.prog) (w := X.w) (base := X.base) T
  refine we_prop B T.c_Book.cl T.p_Book_roof F hk hb .nil (we_mono h fun y H1 r => ?_) he
  obtain ⟨z, ⟨p, dx, d, sh, fa, ma, fl, ro, rfl, hp, hd, hk⟩, q⟩ := r
  exact ⟨p, dx, _, rfl, hp, z, p, dx, d, sh, fa, ma, fl, ro, _, rfl, hp, hd, rfl, q _ hk.ro⟩
theorem we_B_doubled (B : Body X k E) (T : Tm X.K X.mg) (hk : 2 ≤ k) (h : WE X e σ H fun y H1 => ∃ z, BookV X.K z y H1 ∧ Q (.bl z.doubled) H1) (he : attributeBase e "doubled" X.env (eval e X.env) = eval e X.env := by rfl) : WE X (.Attribute e "doubled" pos) σ H Q := by
  obtain ⟨fd, F, hb⟩ := ok_B_doubled (P := X.prog) (w := X.w) (base := X.base) T
  refine we_prop B T.c_Book.cl T.p_Book_doubled F hk hb .nil (we_mono h fun y H1 r => ?_) he
  obtain ⟨z, ⟨p, dx, d, sh, fa, ma, fl, ro, rfl, hp, hd, hk⟩, q⟩ := r
  exact ⟨p, dx, _, rfl, hp, z, p, dx, d, sh, fa, ma, fl, ro, _, rfl, hp, hd, rfl, q⟩
theorem we_B_kept (B : Body X k E) (T : Tm X.K X.mg) (hk : 2 ≤ k) (h : WE X e σ H fun y H1 => ∃ z, BookV X.K z y H1 ∧ Q (.bl z.kept) H1) (he : attributeBase e "kept" X.env (eval e X.env) = eval e X.env := by rfl) : WE X (.Attribute e "kept" pos) σ H Q := by
  obtain ⟨fd, F, hb⟩ := ok_B_kept (P := X.prog) (w := X.w) (base := X.base) T
  refine we_prop B T.c_Book.cl T.p_Book_kept F hk hb .nil (we_mono h fun y H1 r => ?_) he
  obtain ⟨z, ⟨p, dx, d, sh, fa, ma, fl, ro, rfl, hp, hd, hk⟩, q⟩ := r
  exact ⟨p, dx, _, rfl, hp, z, p, dx, d, sh, fa, ma, fl, ro, _, rfl, hp, hd, rfl, q⟩
end
local macro_rules | `(tactic| walk_at "bv") => `(tactic| first | assumption | ((with_reducible refine' BookV.mono ?x ?h); (case h => assumption); (case x => walk_at "x")) | fail)
local macro_rules | `(tactic| walk_at "wE") => `(tactic| first | ((with_reducible refine' we_B_sample ?B ?T ?hk ?_ ?he); (case B => assumption); (case T => assumption); (case hk => decide); (case he => rfl)) | ((with_reducible refine' we_B_share ?B ?T ?hk ?_ ?he); (case B => assumption); (case T => assumption); (case hk => decide); (case he => rfl)) | ((with_reducible refine' we_B_latest ?B ?T ?hk ?_ ?he); (case B => assumption); (case T => assumption); (case hk => decide); (case he => rfl)) | ((with_reducible refine' we_B_factor ?B ?T ?hk ?_ ?he); (case B => assumption); (case T => assumption); (case hk => decide); (case he => rfl)) | ((with_reducible refine' we_B_margin ?B ?T ?hk ?_ ?he); (case B => assumption); (case T => assumption); (case hk => decide); (case he => rfl)) | ((with_reducible refine' we_B_floor ?B ?T ?hk ?_ ?he); (case B => assumption); (case T => assumption); (case hk => decide); (case he => rfl)) | ((with_reducible refine' we_B_roof ?B ?T ?hk ?_ ?he); (case B => assumption); (case T => assumption); (case hk => decide); (case he => rfl)) | ((with_reducible refine' we_B_doubled ?B ?T ?hk ?_ ?he); (case B => assumption); (case T => assumption); (case hk => decide); (case he => rfl)) | ((with_reducible refine' we_B_kept ?B ?T ?hk ?_ ?he); (case B => assumption); (case T => assumption); (case hk => decide); (case he => rfl)) | fail)
local macro_rules | `(tactic| walk_at "wX") => `(tactic| first | ((with_reducible refine' bv_ok ?h ?_); (case h => walk_at "bv")) | fail)
/-! ### lesser, greater, made_of, wait_for -/
def rmin (q r : Rat) : Rat := if r < q then r else q
def rmax (q r : Rat) : Rat := if q < r then r else q
def lowW (f : Option Rat) (u : Rat) : Rat := match f with
  | none => u
  | some f => rmax u f
def highW (f : Option Rat) (u : Rat) : Rat := match f with
  | none => u
  | some f => rmin u f
/-- the wait that a book makes of an estimate -/
def madeW (z : Bk) (q : Rat) : Rat := highW z.roof (lowW z.floor (z.factor * q + z.margin))
theorem sz_rmin {q r : Rat} {n : Nat} (h : Sz q n) (h' : Sz r n) : Sz (rmin q r) n := by
  unfold rmin
  split
  · exact h'
  · exact h
theorem sz_rmax {q r : Rat} {n : Nat} (h : Sz q n) (h' : Sz r n) : Sz (rmax q r) n := by
  unfold rmax
  split
  · exact h'
  · exact h
section
variable {P : Program} {w : World} {K : PySem.W.Frag} {mg : Str → Option Value} {base : Heap}
def spTwo (K : PySem.W.Frag) (f : Rat → Rat → Rat) : Sp := fun vs H Q _ => ∃ q r v u, vs = [v, u] ∧ Tim K q v H ∧ Tim K r u H ∧ Sz q 4000 ∧ Sz r 4000 ∧ Ret H (TimeV (CT K) (f q r)) Q
theorem f_lesser (T : Tm K mg) : GFn P w K mg base 6 "lesser" (spTwo K rmin) := by
  obtain ⟨fd, F⟩ := T.d_lesser
  refine GFn.mk F T.g_lesser (def_ok F sc_lesser (fun vs H Q E h => by obtain ⟨q, r, v, u, rfl, _⟩ := h; rfl) ?_) (F.bindsN fun _ _ _ _ _ _ us hl => match us, hl with | [_, _], _ => rfl)
  intro X eP ew eK em eb eN es hf nd H vs Q E B h
  subst eP ew eK em eb
  have n0 : Sl X 0 "one" := slot_of eN es hf nd rfl (by first | exact Or.inl rfl | exact Or.inr rfl) (by decide) (by decide)
  have n1 : Sl X 1 "other" := slot_of eN es hf nd rfl (by first | exact Or.inl rfl | exact Or.inr rfl) (by decide) (by decide)
  have n2 : Sl X 2 "first" := slot_of eN es hf nd rfl (by first | exact Or.inl rfl | exact Or.inr rfl) (by decide) (by decide)
  have n3 : Sl X 3 "second" := slot_of eN es hf nd rfl (by first | exact Or.inl rfl | exact Or.inr rfl) (by decide) (by decide)
  have g_time_of : Gn X "time_of" := gn_of es rfl (by decide)
  have F_time_of := f_time_of (P := X.prog) (w := X.w) (base := X.base) T
  obtain ⟨q, r, v, u, rfl, hv, hu, hq, hr, z⟩ := h
  show WB X [_, _, _] _ [some (v), some (u), none, none] H
  repeat walk_at "w"
  refine to_tim hv fun y H1 x1 hy => ?_
  repeat walk_at "w"
  refine to_tim (hu.mono x1) fun y2 H2 x2 hy2 => ?_
  repeat walk_at "w"
  refine ite_dec (fun hc => ?_) (fun hc => ?_)
  · repeat walk_at "w"
    refine z _ _ (by walk_at "x") ?_
    rw [show rmin q r = r from if_pos hc]
    walk_at "tv"
  · repeat walk_at "w"
    refine z _ _ (by walk_at "x") ?_
    rw [show rmin q r = q from if_neg hc]
    walk_at "tv"
theorem f_greater (T : Tm K mg) : GFn P w K mg base 6 "greater" (spTwo K rmax) := by
  obtain ⟨fd, F⟩ := T.d_greater
  refine GFn.mk F T.g_greater (def_ok F sc_greater (fun vs H Q E h => by obtain ⟨q, r, v, u, rfl, _⟩ := h; rfl) ?_) (F.bindsN fun _ _ _ _ _ _ us hl => match us, hl with | [_, _], _ => rfl)
  intro X eP ew eK em eb eN es hf nd H vs Q E B h
  subst eP ew eK em eb
  have n0 : Sl X 0 "one" := slot_of eN es hf nd rfl (by first | exact Or.inl rfl | exact Or.inr rfl) (by decide) (by decide)
  have n1 : Sl X 1 "other" := slot_of eN es hf nd rfl (by first | exact Or.inl rfl | exact Or.inr rfl) (by decide) (by decide)
  have n2 : Sl X 2 "first" := slot_of eN es hf nd rfl (by first | exact Or.inl rfl | exact Or.inr rfl) (by decide) (by decide)
  have n3 : Sl X 3 "second" := slot_of eN es hf nd rfl (by first | exact Or.inl rfl | exact Or.inr rfl) (by decide) (by decide)
  have g_time_of : Gn X "time_of" := gn_of es rfl (by decide)
  have F_time_of := f_time_of (P := X.prog) (w := X.w) (base := X.base) T
  obtain ⟨q, r, v, u, rfl, hv, hu, hq, hr, z⟩ := h
  show WB X [_, _, _] _ [some (v), some (u), none, none] H
  repeat walk_at "w"
  refine to_tim hv fun y H1 x1 hy => ?_
  repeat walk_at "w"
  refine to_tim (hu.mono x1) fun y2 H2 x2 hy2 => ?_
  repeat walk_at "w"
  refine ite_dec (fun hc => ?_) (fun hc => ?_)
  · repeat walk_at "w"
    refine z _ _ (by walk_at "x") ?_
    rw [show rmax q r = r from if_pos hc]
    walk_at "tv"
  · repeat walk_at "w"
    refine z _ _ (by walk_at "x") ?_
    rw [show rmax q r = q from if_neg hc]
    walk_at "tv"
def spMadeOfG (K : PySem.W.Frag) : Sp := fun vs H Q _ => ∃ z q v u, vs = [v, u] ∧ BookV K z v H ∧ BkOk z ∧ TimeV (CT K) q u H ∧ Sz q 4000 ∧ Sz (z.factor * q) 4000 ∧ Sz (z.factor * q + z.margin) 4000 ∧ Ret H (TimeV (CT K) (madeW z q)) Q
theorem f_made_ofG (T : Tm K mg) : GFn P w K mg base 7 "made_of" (spMadeOfG K) := by
  obtain ⟨fd, F⟩ := T.d_made_of
  refine GFn.mk F T.g_made_of (def_ok F sc_made_of (fun vs H Q E h => by obtain ⟨z, q, v, u, rfl, _⟩ := h; rfl) ?_) (F.bindsN fun _ _ _ _ _ _ us hl => match us, hl with | [_, _], _ => rfl)
  intro X eP ew eK em eb eN es hf nd H vs Q E B h
  subst eP ew eK em eb
  have n0 : Sl X 0 "book" := slot_of eN es hf nd rfl (by first | exact Or.inl rfl | exact Or.inr rfl) (by decide) (by decide)
  have n1 : Sl X 1 "estimate" := slot_of eN es hf nd rfl (by first | exact Or.inl rfl | exact Or.inr rfl) (by decide) (by decide)
  have n2 : Sl X 2 "wait" := slot_of eN es hf nd rfl (by first | exact Or.inl rfl | exact Or.inr rfl) (by decide) (by decide)
  have g_greater : Gn X "greater" := gn_of es rfl (by decide)
  have F_greater := f_greater (P := X.prog) (w := X.w) (base := X.base) T
  have g_lesser : Gn X "lesser" := gn_of es rfl (by decide)
  have F_lesser := f_lesser (P := X.prog) (w := X.w) (base := X.base) T
  obtain ⟨z, q, v, u, rfl, hv, ok, hu, zq, zp4, zw, k⟩ := h
  show WB X [_, _, _, _] _ [some (v), some (u), none] H
  have zf : Sz z.factor 4000 := ok.z2.mono (by decide)
  have zm : Sz z.margin 4000 := ok.z3.mono (by decide)
  refine wb_cons (ws_to (fun σ' H' => ∃ y, σ' = [some v, some u, some y] ∧ Ex H H' ∧ TimeV (CT X.K) (z.factor * q + z.margin) y H') ?_ ?_)
  · repeat walk_at "w"
    intro v1 hv1
    repeat walk_at "w"
    intro v2 hv2
    repeat walk_at "w"
    exact ⟨_, rfl, by walk_at "x", by assumption⟩
  rintro σ' H1 ⟨y, rfl, x1, hy⟩
  have zl : Sz (lowW z.floor (z.factor * q + z.margin)) 4000 := by
    unfold lowW
    have h4 := ok.z4
    generalize z.floor = o at h4 ⊢
    cases o with
    | none => exact zw
    | some f => exact sz_rmax zw ((h4 f rfl).mono (by decide))
  refine wb_cons (ws_to (fun σ' H' => ∃ y, σ' = [some v, some u, some y] ∧ Ex H H' ∧ TimeV (CT X.K) (lowW z.floor (z.factor * q + z.margin)) y H') ?_ ?_)
  · have h4 := ok.z4
    repeat walk_at "w"
    intro v3 hv3
    cases eo : z.floor with
    | none =>
      rw [eo] at hv3
      cases hv3
      repeat walk_at "w"
      rw [decide_eq_true (rfl : V.non = V.non)]
      repeat walk_at "w"
      exact ⟨_, rfl, x1, hy⟩
    | some f =>
      rw [eo] at hv3
      have zf4 : Sz f 4000 := (h4 f eo).mono (by decide)
      have h3 : Tim X.K f v3 H1 := .inl hv3
      repeat walk_at "w"
      rw [decide_eq_false h3.nn]
      repeat walk_at "w"
      intro v4 hv4
      rw [eo] at hv4
      refine ⟨_, f, y, v4, rfl, .inl hy, .inl hv4, zw, zf4, fun v5 H2 x2 hv5 => ?_⟩
      repeat walk_at "w"
      exact ⟨_, rfl, x1.trans x2, hv5⟩
  rintro σ' H2 ⟨y2, rfl, x2, hy2⟩
  refine wb_cons (ws_to (fun σ' H' => ∃ y, σ' = [some v, some u, some y] ∧ Ex H H' ∧ TimeV (CT X.K) (madeW z q) y H') ?_ ?_)
  · have h5 := ok.z5
    unfold madeW
    repeat walk_at "w"
    intro v3 hv3
    cases eo : z.roof with
    | none =>
      rw [eo] at hv3
      cases hv3
      repeat walk_at "w"
      rw [decide_eq_true (rfl : V.non = V.non)]
      repeat walk_at "w"
      exact ⟨_, rfl, x2, hy2⟩
    | some f =>
      rw [eo] at hv3
      have zf4 : Sz f 4000 := (h5 f eo).mono (by decide)
      have h3 : Tim X.K f v3 H2 := .inl hv3
      repeat walk_at "w"
      rw [decide_eq_false h3.nn]
      repeat walk_at "w"
      intro v4 hv4
      rw [eo] at hv4
      refine ⟨_, f, y2, v4, rfl, .inl hy2, .inl hv4, zl, zf4, fun v5 H3 x3 hv5 => ?_⟩
      repeat walk_at "w"
      exact ⟨_, rfl, x2.trans x3, hv5⟩
  rintro σ' H3 ⟨y3, rfl, x3, hy3⟩
  repeat walk_at "w"
  exact k _ _ x3 hy3
def spMadeOf (K : PySem.W.Frag) : Sp := fun vs H Q _ => ∃ z q v u, vs = [v, u] ∧ BookV K z v H ∧ BkOk z ∧ TimeV (CT K) q u H ∧ Sz q 1500 ∧ Ret H (TimeV (CT K) (madeW z q)) Q
theorem f_made_of (T : Tm K mg) : GFn P w K mg base 7 "made_of" (spMadeOf K) := by
  obtain ⟨f, h1, h2, h3⟩ := f_made_ofG (P := P) (w := w) (base := base) T
  refine ⟨f, h1, h2, h3.imp fun vs H Q E h => ?_⟩
  obtain ⟨z, q, v, u, rfl, hv, ok, hu, hq, k⟩ := h
  have zp := ok.z2.mul hq
  exact ⟨z, q, v, u, rfl, hv, ok, hu, hq.mono (by decide), zp.mono (by decide), (zp.add ok.z3).mono (by decide), k⟩
def spWaitForG (K : PySem.W.Frag) : Sp := fun vs H Q _ => ∃ z q v u, vs = [v, u] ∧ BookV K z v H ∧ BkOk z ∧ Tim K q u H ∧ 0 < q ∧ Sz q 4000 ∧ Sz (z.factor * q) 4000 ∧ Sz (z.factor * q + z.margin) 4000 ∧ Ret H (TimeV (CT K) (madeW z q)) Q
theorem f_wait_forG (T : Tm K mg) : FnR P w K mg base (RX P w) 8 (ma K (CB K) "wait_for") (spWaitForG K) := by
  obtain ⟨fd, F⟩ := T.d_Book_wait_for
  refine raw_of F (def_ok F sc_Book_wait_for (fun vs H Q E h => by obtain ⟨z, q, v, u, rfl, _⟩ := h; rfl) ?_) (F.bindsN fun _ _ _ _ _ _ us hl => match us, hl with | [_, _], _ => rfl)
  intro X eP ew eK em eb eN es hf nd H vs Q E B h
  subst eP ew eK em eb
  have n0 : Sl X 0 "self" := slot_of eN es hf nd rfl (by first | exact Or.inl rfl | exact Or.inr rfl) (by decide) (by decide)
  have n1 : Sl X 1 "estimate" := slot_of eN es hf nd rfl (by first | exact Or.inl rfl | exact Or.inr rfl) (by decide) (by decide)
  have g_is_positive : Gn X "is_positive" := gn_of es rfl (by decide)
  have F_is_positive := f_is_positive (P := X.prog) (w := X.w) (base := X.base) T
  have g_NoTime : Gn X "NoTime" := gn_of es rfl (by decide)
  have m_NoTime := T.g_NoTime
  have g_made_of : Gn X "made_of" := gn_of es rfl (by decide)
  have F_made_of := f_made_of (P := X.prog) (w := X.w) (base := X.base) T
  have g_time_of : Gn X "time_of" := gn_of es rfl (by decide)
  have F_time_of := f_time_of (P := X.prog) (w := X.w) (base := X.base) T
  have F_made_of := f_made_ofG (P := X.prog) (w := X.w) (base := X.base) T
  obtain ⟨z, q, v, u, rfl, hv, ok, hu, q0, hq, zp4, zw, k⟩ := h
  show WB X [_, _] _ [some (v), some (u)] H
  repeat walk_at "w"
  refine ⟨q, u, rfl, hu, hq, ?_⟩
  rw [decide_eq_true q0]
  repeat walk_at "w"
  rename_i H1 x1
  refine to_tim (hu.mono x1) fun y H2 x2 hy => ?_
  repeat walk_at "w"
  have x12 := x1.trans x2
  exact ⟨z, q, v, y, rfl, hv.mono x12, ok, hy, hq, zp4, zw, fun y2 H3 x3 hy2 => k _ _ (x12.trans x3) hy2⟩
def spWaitFor (K : PySem.W.Frag) : Sp := fun vs H Q _ => ∃ z q v u, vs = [v, u] ∧ BookV K z v H ∧ BkOk z ∧ Tim K q u H ∧ 0 < q ∧ Sz q 1500 ∧ Ret H (TimeV (CT K) (madeW z q)) Q
theorem f_wait_for (T : Tm K mg) : FnR P w K mg base (RX P w) 8 (ma K (CB K) "wait_for") (spWaitFor K) := (f_wait_forG T).imp fun vs H Q E h => by
  obtain ⟨z, q, v, u, rfl, hv, ok, hu, q0, hq, k⟩ := h
  have zp := ok.z2.mul hq
  exact ⟨z, q, v, u, rfl, hv, ok, hu, q0, hq.mono (by decide), zp.mono (by decide), (zp.add ok.z3).mono (by decide), k⟩
def spIsPosN (K : PySem.W.Frag) : Sp := fun vs H Q _ => ∃ v, vs = [v] ∧ WBad K v H ∧ Bl H false Q
theorem f_is_positiveN (T : Tm K mg) : GFn P w K mg base 6 "is_positive" (spIsPosN K) := by
  obtain ⟨fd, F⟩ := T.d_is_positive
  refine GFn.mk F T.g_is_positive (def_ok F sc_is_positive (fun vs H Q E h => by obtain ⟨v, rfl, _⟩ := h; rfl) ?_) (F.bindsN fun _ _ _ _ _ _ us hl => match us, hl with | [_], _ => rfl)
  intro X eP ew eK em eb eN es hf nd H vs Q E B h
  subst eP ew eK em eb
  have n0 : Sl X 0 "thing" := slot_of eN es hf nd rfl (by first | exact Or.inl rfl | exact Or.inr rfl) (by decide) (by decide)
  have g_is_time : Gn X "is_time" := gn_of es rfl (by decide)
  have F_is_time := f_is_time (P := X.prog) (w := X.w) (base := X.base) T
  have g_time_of : Gn X "time_of" := gn_of es rfl (by decide)
  have F_time_of := f_time_of (P := X.prog) (w := X.w) (base := X.base) T
  obtain ⟨v, rfl, hv, z⟩ := h
  show WB X [_] _ [some (v)] H
  have z0 := z0s
  rcases hv.kind with hg | ⟨q, hq, q0, zq⟩
  · repeat walk_at "w"
    refine it_no T hg ?_
    repeat walk_at "w"
    exact z _ (.refl _)
  · repeat walk_at "w"
    refine it_tim T hq ?_
    repeat walk_at "w"
    refine to_tim hq fun y H1 x1 hy => ?_
    repeat walk_at "w"
    rw [decide_eq_false (show ¬ ((0 : Int) : Rat) < q from Rat.not_lt.mpr q0)]
    exact z _ (by walk_at "x")
def spWaitForX (K : PySem.W.Frag) : Sp := fun vs H _ E => ∃ v u, vs = [v, u] ∧ WBad K u H ∧ ∀ H', Ex H H' → E (.ref (ga K "NoTime")) none H'
theorem f_wait_forX (T : Tm K mg) : FnR P w K mg base (RX P w) 8 (ma K (CB K) "wait_for") (spWaitForX K) := by
  obtain ⟨fd, F⟩ := T.d_Book_wait_for
  refine raw_of F (def_ok F sc_Book_wait_for (fun vs H Q E h => by obtain ⟨v, u, rfl, _⟩ := h; rfl) ?_) (F.bindsN fun _ _ _ _ _ _ us hl => match us, hl with | [_, _], _ => rfl)
  intro X eP ew eK em eb eN es hf nd H vs Q E B h
  subst eP ew eK em eb
  have n0 : Sl X 0 "self" := slot_of eN es hf nd rfl (by first | exact Or.inl rfl | exact Or.inr rfl) (by decide) (by decide)
  have n1 : Sl X 1 "estimate" := slot_of eN es hf nd rfl (by first | exact Or.inl rfl | exact Or.inr rfl) (by decide) (by decide)
  have g_is_positive : Gn X "is_positive" := gn_of es rfl (by decide)
  have F_is_positive := f_is_positive (P := X.prog) (w := X.w) (base := X.base) T
  have g_NoTime : Gn X "NoTime" := gn_of es rfl (by decide)
  have m_NoTime := T.g_NoTime
  have g_made_of : Gn X "made_of" := gn_of es rfl (by decide)
  have F_made_of := f_made_of (P := X.prog) (w := X.w) (base := X.base) T
  have g_time_of : Gn X "time_of" := gn_of es rfl (by decide)
  have F_time_of := f_time_of (P := X.prog) (w := X.w) (base := X.base) T
  obtain ⟨v, u, rfl, hu, k⟩ := h
  show WB X [_, _] _ [some (v), some (u)] H
  clear F_is_positive
  have FX := f_is_positiveN (P := X.prog) (w := X.w) (base := X.base) T
  repeat walk_at "w"
  refine ⟨u, rfl, hu, ?_⟩
  repeat walk_at "w"
  exact ws_raise B g_NoTime m_NoTime T.x_NoTime (k _ (by assumption))
end

/-! ### == of books -/
def pnx (n : Nat) : Str := (pn[n]?).getD ""
theorem pnx_at {n : Nat} (h : n < 9) : pn[n]? = some (pnx n) := by
  have : n < pn.length := h
  rw [pnx, List.getElem?_eq_getElem this]
  rfl
theorem rowAt {z : Bk} {sh fa ma fl ro : V} {i : Nat} (hi : i < 9) : (row9 z sh fa ma fl ro)[i]? = some ((row9 z sh fa ma fl ro).getD i .non) := by
  rw [List.getD_eq_getElem?_getD, List.getElem?_eq_getElem (show i < (row9 z sh fa ma fl ro).length from hi)]
  rfl
theorem bls_ns {bs : List Bool} : ¬ Src (.lst (bs.map V.bl)) := by
  rintro ⟨l, i, b, r, e, _⟩
  cases bs with
  | nil => cases e
  | cons c cs =>
    injection e with e
    injection e with e1 _
    cases e1
def pEq (z z' : Bk) : List Bool := [decide (z.word = z'.word), decide (z.share = z'.share), decide (z.latest = z'.latest), decide (z.factor = z'.factor), decide (z.margin = z'.margin), decide (z.floor = z'.floor), decide (z.roof = z'.roof), z.doubled == z'.doubled, z.kept == z'.kept]
section
variable {P : Program} {w : World} {K : PySem.W.Frag} {mg : Str → Option Value} {base : Heap}
theorem made_bn {H : Hp} {E : XK} {Q : Addr → Hp → Prop} {z : Bk} {sh fa ma fl ro : V} (hr : Raw K z sh fa ma fl ro H) (ok : BkOk z) (k : ∀ a H', H a = none → Ex H H' → BookV K z (.ref a) H' → Q a H') :
    ∀ a dx, H a = none → H dx = none → dx ≠ a → spBInit K (.ref a :: row9 z sh fa ma fl ro) (upd (upd H dx (.own a)) a (.ins (CB K) dx [])) (fun v H2 => v = .non ∧ Q a H2) E := by
  intro a dx na nd ne
  have x1 : Ex H (upd (upd H dx (.own a)) a (.ins (CB K) dx [])) := Ex.new2 na nd
  exact ⟨z, a, dx, sh, fa, ma, fl, ro, rfl, upd_same, hr.mono x1, ok, fun H' x3 hb => ⟨rfl, k _ _ na (ExX.fresh x1 x3 fun c e => by subst e; exact na) hb⟩⟩
end
section
variable {X : Cx} {k : Nat} {E : XK} {H : Hp} {Q : VK} {v u : V}
theorem o_nonT (B : Body X k fun _ => E) (T : Tm X.K X.mg) (hk : 4 ≤ k) {q : Rat} (hv : TimeV (CT X.K) q v H) (z : Q (.bl false) H) : Op2 X (compareOp .Eq) .non v H Q := by
  obtain ⟨p, dx, rfl, hp⟩ := hv
  obtain ⟨t, r1, r2, h1, h2, h3, h4, h5⟩ := fgn_ty (X := X) (H := H) (u := .non) T .non
  exact eq_non B T.w_Time T.sn_Time (f_eqN T) hk hp ⟨_, .non, t, r1, r2, rfl, h1, h2, h3, h4, h5, z⟩
theorem o_eqOpt (B : Body X k fun _ => E) (T : Tm X.K X.mg) (hk : 5 ≤ k) {o o' : Option Rat} (h : OptT X.K o v H) (h' : OptT X.K o' u H) (s : ∀ q, o = some q → Sz q 4000) (s' : ∀ q, o' = some q → Sz q 4000) (z : Bl H (decide (o = o')) Q) : Op2 X (compareOp .Eq) v u H Q := by
  cases o with
  | none =>
    cases h
    cases o' with
    | none =>
      cases h'
      refine o_eqDp B .non .non rfl rfl ?_
      exact z _ (.refl _)
    | some q =>
      refine o_nonT B T (by omega) h' ?_
      exact z _ (.refl _)
  | some q =>
    cases o' with
    | none =>
      cases h'
      refine o_eqF B T (by omega) h .non ?_
      exact z _ (.refl _)
    | some r =>
      refine o_eqT B T hk h (.inl h') (s q rfl) (s' r rfl) ?_
      rw [show decide (some q = some r) = decide (q = r) from by congr 1; exact propext ⟨fun e => Option.some.inj e, fun e => by rw [e]⟩] at z
      exact z
theorem o_eqPart (B : Body X k fun _ => E) (T : Tm X.K X.mg) (hk : 5 ≤ k) {z z' : Bk} {sh fa ma fl ro sh' fa' ma' fl' ro' : V} (kz : Kept X.K z sh fa ma fl ro H) (kz' : Kept X.K z' sh' fa' ma' fl' ro' H) (ok : BkOk z) (ok' : BkOk z') :
    ∀ i, i < 9 → Bl H ((pEq z z').getD i false) Q → Op2 X (compareOp .Eq) ((row9 z sh fa ma fl ro).getD i .non) ((row9 z' sh' fa' ma' fl' ro').getD i .non) H Q := by
  have up : ∀ {q : Rat}, Sz q 1000 → Sz q 4000 := fun h => h.mono (by decide)
  intro i hi q
  match i, hi with
  | 0, _ => exact o_eqS (q _ (.refl _))
  | 1, _ => exact o_eqT B T hk kz.sh (.inl kz'.sh) (up ok.z1) (up ok'.z1) q
  | 2, _ =>
    have q : Q (.bl (decide (z.latest = z'.latest))) H := q _ (.refl _)
    show Op2 X _ (latV z.latest) (latV z'.latest) H Q
    cases e : z.latest with
    | none =>
      rw [e] at q
      cases e' : z'.latest with
      | none => rw [e'] at q; exact o_eqDp B .non .non rfl rfl q
      | some n => rw [e'] at q; exact o_eqDp B .non (.int n) rfl rfl q
    | some m =>
      rw [e] at q
      cases e' : z'.latest with
      | none => rw [e'] at q; exact o_eqDp B (.int m) .non rfl rfl q
      | some n =>
        rw [e'] at q
        refine o_eq ?_
        rw [show decide (some m = some n) = decide ((m : Int) = (n : Int)) from by congr 1; exact propext ⟨fun e => by cases e; rfl, fun e => by congr 1; omega⟩] at q
        exact q
  | 3, _ => exact o_eqT B T hk kz.fa (.inl kz'.fa) (up ok.z2) (up ok'.z2) q
  | 4, _ => exact o_eqT B T hk kz.ma (.inl kz'.ma) (up ok.z3) (up ok'.z3) q
  | 5, _ => exact o_eqOpt B T hk kz.fl kz'.fl (fun f e => up (ok.z4 f e)) (fun f e => up (ok'.z4 f e)) q
  | 6, _ => exact o_eqOpt B T hk kz.ro kz'.ro (fun f e => up (ok.z5 f e)) (fun f e => up (ok'.z5 f e)) q
  | 7, _ => exact o_eqB (q _ (.refl _))
  | 8, _ => exact o_eqB (q _ (.refl _))
end
theorem pEq_self (z : Bk) : (pEq z z).all id = true := by
  unfold pEq
  simp

/-! ### the heap grown, then changed -/
theorem ex_xx {S : Addr → Prop} {H H1 H2 : Hp} (x : Ex H H1) (y : ExX S H1 H2) : ExX S H H2 := ⟨fun a o n h g => y.kp a o n (x.kp a o h g) (g.mono x), fun a l o n h s => by
  obtain ⟨o1, h1, s1⟩ := x.src a l o h s
  exact y.src a l o1 n h1 s1, fun a h => y.th a (x.there a h)⟩

/-! ### the source of draws -/
local macro_rules | `(tactic| walk_at "hp") => `(tactic| first | assumption | exact upd_same)
local macro_rules | `(tactic| walk_at "wE") => `(tactic| first | ((with_reducible refine' we_at ?_ ?hb); (case hb => intro _ _; rfl)) | ((with_reducible refine' we_len ?b ?_ ?h1 ?h2); (case b => with_reducible assumption); (case h1 => rfl); (case h2 => rfl)) | ((with_reducible refine' we_int1 ?b ?_ ?h1 ?h2); (case b => with_reducible assumption); (case h1 => rfl); (case h2 => rfl)) | fail)
local macro_rules | `(tactic| walk_at "wO") => `(tactic| first | ((with_reducible refine' o_pow ?hc ?_); (case hc => exact cpow_of (by decide))) | fail)
local macro_rules | `(tactic| walk_at "wS") => `(tactic| first | ((with_reducible refine' ws_put ?_ ?hs ?hw ?ha); (case hs => rfl); (case hw => rfl); (case ha => intro _; rfl)) | fail)
local macro_rules | `(tactic| walk_at "wR") => `(tactic| first | ((with_reducible refine' at_l ?hp ?he ?_); (case hp => walk_at "hp"); (case he => rfl)) | ((with_reducible refine' at_t ?hp ?he ?_); (case hp => walk_at "hp"); (case he => rfl)) | fail)
local macro_rules | `(tactic| walk_at "wX") => `(tactic| first | ((with_reducible refine' len_l ?hp ?_); (case hp => walk_at "hp")) | ((with_reducible refine' len_t ?hp ?_); (case hp => walk_at "hp")) | fail)
section
variable {P : Program} {w : World} {K : PySem.W.Frag} {mg : Str → Option Value} {base : Heap}
theorem f__law_draw (T : Tm K mg) : GFn P w K mg base 1 "_law_draw" spDraw := by
  obtain ⟨fd, F⟩ := T.d__law_draw
  refine GFn.mk F T.g__law_draw (def_ok F sc__law_draw (fun vs H Q E h => by obtain ⟨p, n, rfl, _⟩ := h; rfl) ?_) (F.bindsN fun _ _ _ _ _ _ us hl => match us, hl with | [_, _], _ => rfl)
  intro X eP ew eK em eb eN es hf nd H vs Q E B h
  subst eP ew eK em eb
  have n0 : Sl X 0 "_law_source" := slot_of eN es hf nd rfl (by first | exact Or.inl rfl | exact Or.inr rfl) (by decide) (by decide)
  have n1 : Sl X 1 "_law_limit" := slot_of eN es hf nd rfl (by first | exact Or.inl rfl | exact Or.inr rfl) (by decide) (by decide)
  have n2 : Sl X 2 "_law_cell" := slot_of eN es hf nd rfl (by first | exact Or.inl rfl | exact Or.inr rfl) (by decide) (by decide)
  have n3 : Sl X 3 "_law_digit" := slot_of eN es hf nd rfl (by first | exact Or.inl rfl | exact Or.inr rfl) (by decide) (by decide)
  have z_len : Bn X "len" := bn_of es rfl T.z_len
  have z_int : Bn X "int" := bn_of es rfl T.z_int
  obtain ⟨p, n, rfl, so, h0, hn, k⟩ := h
  obtain ⟨l, o, ns, hp, s, hl⟩ := so.ex
  obtain ⟨i, b, r, rfl, hi, hr, hr2⟩ := s
  have s : SrcL l (.lst [.ref l, .int i, .int b, .int r]) := ⟨i, b, r, rfl, hi, hr, hr2⟩
  show WB X [_, _, _, _] _ [some (.ref p), some (.int n), none, none] H
  have fin : ∀ {b r : Int} {i : Int} {H1 : Hp} {D : Ends} {c d : Option V}, D.rt = Q → Ex H H1 → H1 l = some (.lst (List.map V.int ns)) → H1 p = some (.lst [.ref l, .int i, .int b, .int r]) → SrcL l (.lst [.ref l, .int i, .int b, .int r]) → WB X (List.drop 1 (defBody s__law_draw)) D [some (.ref p), some (.int n), c, d] H1 := by
    intro b r i H1 D c d eD x1 hl hp s
    have hr : 0 ≤ r ∧ r < 2147483647 := by
      obtain ⟨i2, b2, r2, e, h1, h2, h3⟩ := s
      injection e with e; injection e with _ e; injection e with e1 e; injection e with e2 e; injection e with e3 e
      cases e3
      exact ⟨h2, h3⟩
    show WB X [_, _, _] _ _ _
    repeat walk_at "w"
    refine ite_dec (fun hb => ?_) (fun hb => ?_)
    · repeat walk_at "w"
      refine o_mod h0 ?_
      repeat walk_at "w"
      refine o_fdiv (by omega) (log2_small hn (by decide) (by decide)) ?_
      repeat walk_at "w"
      refine putS2 hl hp s fun H2 x2 hl hp s => ?_
      repeat walk_at "w"
      rw [eD]
      exact k _ _ (x1.trans x2) (Int.emod_nonneg _ (by omega)) (Int.emod_lt_of_pos _ h0)
    · repeat walk_at "w"
      refine o_mul (cmul31 hr.1 hr.2 (by decide)) ?_
      repeat walk_at "w"
      refine o_mod (by decide) ?_
      repeat walk_at "w"
      refine putS3 hl hp s (Int.emod_nonneg _ (by decide)) (Int.emod_lt_of_pos _ (by decide)) fun H2 x2 hl hp s => ?_
      repeat walk_at "w"
      refine o_fdiv (by decide) (by decide) ?_
      repeat walk_at "w"
      refine o_mod h0 ?_
      repeat walk_at "w"
      rw [eD]
      exact k _ _ (x1.trans x2) (Int.emod_nonneg _ (by omega)) (Int.emod_lt_of_pos _ h0)
  refine wb_cons (ws_if (wt_and2 ?_))
  repeat walk_at "w"
  refine ite_dec (fun hb => ?_) (fun hb => by refine iteF (wb_nil ?_); exact fin rfl (.refl H) hl hp s)
  repeat walk_at "w"
  refine ite_dec (fun hi2 => ?_) (fun hb => by refine wb_nil ?_; exact fin rfl (.refl H) hl hp s)
  repeat walk_at "w"
  have hlt : i.toNat < ns.length := by rw [List.length_map] at hi2; omega
  have hat : atI (ns.map V.int) i = some (.int ns[i.toNat]) := by
    unfold atI ixN
    rw [if_pos hi, if_pos (by rw [List.length_map]; omega)]
    show (ns.map V.int)[i.toNat]? = _
    rw [List.getElem?_map, List.getElem?_eq_getElem hlt]
    rfl
  refine at_l hl hat ?_
  repeat walk_at "w"
  refine putS1 hl hp s (by omega) fun H1 x1 hl hp s => ?_
  repeat walk_at "w"
  refine putS2 hl hp s fun H2 x2 hl hp s => ?_
  repeat walk_at "w"
  refine ite_dec (fun hb => ?_) (fun hb => ?_)
  · repeat walk_at "w"
    refine putS2 hl hp s fun H3 x3 hl hp s => ?_
    repeat walk_at "w"
    refine o_mul (cmul31 hr hr2 (by decide)) ?_
    repeat walk_at "w"
    refine o_mod (by decide) ?_
    repeat walk_at "w"
    refine o_mod (by decide) ?_
    repeat walk_at "w"
    refine putS3 hl hp s (Int.emod_nonneg _ (by decide)) (Int.emod_lt_of_pos _ (by decide)) fun H4 x4 hl hp s => ?_
    exact fin rfl (((x1.trans x2).trans x3).trans x4) hl hp s
  · repeat walk_at "w"
    refine o_mul (cmul31 hr hr2 (by decide)) ?_
    repeat walk_at "w"
    refine o_mod (by decide) ?_
    repeat walk_at "w"
    refine o_mod (by decide) ?_
    repeat walk_at "w"
    refine putS3 hl hp s (Int.emod_nonneg _ (by decide)) (Int.emod_lt_of_pos _ (by decide)) fun H4 x4 hl hp s => ?_
    exact fin rfl ((x1.trans x2).trans x4) hl hp s
end

/-! ### the fields of a round -/
abbrev CR (K : PySem.W.Frag) : Addr := ga K "Round"
def rfs (l : Addr) (nd an : Int) (av dv lv : V) : List (Str × V) := [(("kept_starts" : Str), .ref l), (("kept_needless" : Str), .int nd), (("kept_answered" : Str), .int an), (("kept_answer" : Str), av), (("kept_delay" : Str), dv), (("kept_last" : Str), lv)]
theorem putF_hd {x : Str} {v u : V} {r : List (Str × V)} : putF x v ((x, u) :: r) = (x, v) :: r := by
  show (if x = x then _ else _) = _
  rw [if_pos rfl]
theorem putF_tl {x y : Str} {v u : V} {r : List (Str × V)} (h : ¬ y = x) : putF x v ((y, u) :: r) = (y, u) :: putF x v r := by
  show (if y = x then _ else _) = _
  rw [if_neg h]
theorem putF_nil {x : Str} {v : V} : putF x v [] = [(x, v)] := rfl
section
variable {l : Addr} {nd an : Int} {av dv lv z : V}
theorem rfs_needless (z : Int) : putF "kept_needless" (.int z) (rfs l nd an av dv lv) = rfs l z an av dv lv := by
  unfold rfs
  rw [putF_tl (by decide +kernel), putF_hd]
theorem rfs_answered (z : Int) : putF "kept_answered" (.int z) (rfs l nd an av dv lv) = rfs l nd z av dv lv := by
  unfold rfs
  rw [putF_tl (by decide +kernel), putF_tl (by decide +kernel), putF_hd]
theorem rfs_answer (z : V) : putF "kept_answer" (z) (rfs l nd an av dv lv) = rfs l nd an z dv lv := by
  unfold rfs
  rw [putF_tl (by decide +kernel), putF_tl (by decide +kernel), putF_tl (by decide +kernel), putF_hd]
theorem rfs_delay (z : V) : putF "kept_delay" (z) (rfs l nd an av dv lv) = rfs l nd an av z lv := by
  unfold rfs
  rw [putF_tl (by decide +kernel), putF_tl (by decide +kernel), putF_tl (by decide +kernel), putF_tl (by decide +kernel), putF_hd]
theorem rfs_last (z : V) : putF "kept_last" (z) (rfs l nd an av dv lv) = rfs l nd an av dv z := by
  unfold rfs
  rw [putF_tl (by decide +kernel), putF_tl (by decide +kernel), putF_tl (by decide +kernel), putF_tl (by decide +kernel), putF_tl (by decide +kernel), putF_hd]
theorem rfs_new : putF "kept_last" lv (putF "kept_delay" dv (putF "kept_answer" av (putF "kept_answered" (.int an) (putF "kept_needless" (.int nd) (putF "kept_starts" (.ref l) []))))) = rfs l nd an av dv lv := by
  repeat (first | rw [putF_nil] | rw [putF_tl (by decide +kernel)])
  rfl
end
section
variable {X : Cx} {σ : L2.St} {H : Hp} {D : Ends} {Q : VK} {e o value : Expr} {pos pos' : Pos}
theorem lt0 : 0 < 1000 := by decide
theorem lt1 : 1 < 1000 := by decide
theorem lt2 : 2 < 1000 := by decide
theorem lt3 : 3 < 1000 := by decide
theorem lt4 : 4 < 1000 := by decide
theorem lt5 : 5 < 1000 := by decide
theorem lt6 : 6 < 1000 := by decide
theorem rf_ok {p C dx : Addr} {fs : List (Str × V)} {f : Str} {v : V} {P : V → Prop} (hp : H p = some (.ins C dx fs)) (hl : fs.lookup f = some v) (q : P v) : ∃ a dx fs v, V.ref p = .ref a ∧ H a = some (.ins C dx fs) ∧ fs.lookup f = some v ∧ P v := ⟨p, dx, fs, v, rfl, hp, hl, q⟩
theorem rs_ok {p C dx : Addr} {fs : List (Str × V)} {P : Addr → Addr → List (Str × V) → Prop} (hp : H p = some (.ins C dx fs)) (hl : fs.length < 1000) (q : P p dx fs) : ∃ a dx fs, V.ref p = .ref a ∧ H a = some (.ins C dx fs) ∧ fs.length < 1000 ∧ P a dx fs := ⟨p, dx, fs, rfl, hp, hl, q⟩
theorem we_k_starts (T : Tm X.K X.mg) (h : WE X e σ H fun y H1 => ∃ a dx fs v, y = .ref a ∧ H1 a = some (.ins (CR X.K) dx fs) ∧ fs.lookup ("kept_starts" : Str) = some v ∧ Q v H1) (hb : attributeBase e "kept_starts" X.env (eval e X.env) = eval e X.env := by rfl) : WE X (.Attribute e "kept_starts" pos) σ H Q := we_fld T.c_Round.cl T.n_Round_kept_starts h hb
theorem ws_k_starts (T : Tm X.K X.mg) (h : WE X value σ H fun y H1 => WE X o σ H1 fun z H2 => ∃ a dx fs, z = .ref a ∧ H2 a = some (.ins (CR X.K) dx fs) ∧ fs.length < 1000 ∧ D.nx σ (upd H2 a (.ins (CR X.K) dx (putF ("kept_starts" : Str) y fs)))) (hs : swapsWith value (some (.Attribute o "kept_starts" pos')) pos.line X.env = pure false := by rfl) : WS X (.Assign [.Attribute o "kept_starts" pos'] value pos) D σ H := ws_fld T.c_Round.cl T.n_Round_kept_starts h hs
theorem we_k_needless (T : Tm X.K X.mg) (h : WE X e σ H fun y H1 => ∃ a dx fs v, y = .ref a ∧ H1 a = some (.ins (CR X.K) dx fs) ∧ fs.lookup ("kept_needless" : Str) = some v ∧ Q v H1) (hb : attributeBase e "kept_needless" X.env (eval e X.env) = eval e X.env := by rfl) : WE X (.Attribute e "kept_needless" pos) σ H Q := we_fld T.c_Round.cl T.n_Round_kept_needless h hb
theorem ws_k_needless (T : Tm X.K X.mg) (h : WE X value σ H fun y H1 => WE X o σ H1 fun z H2 => ∃ a dx fs, z = .ref a ∧ H2 a = some (.ins (CR X.K) dx fs) ∧ fs.length < 1000 ∧ D.nx σ (upd H2 a (.ins (CR X.K) dx (putF ("kept_needless" : Str) y fs)))) (hs : swapsWith value (some (.Attribute o "kept_needless" pos')) pos.line X.env = pure false := by rfl) : WS X (.Assign [.Attribute o "kept_needless" pos'] value pos) D σ H := ws_fld T.c_Round.cl T.n_Round_kept_needless h hs
theorem we_k_answered (T : Tm X.K X.mg) (h : WE X e σ H fun y H1 => ∃ a dx fs v, y = .ref a ∧ H1 a = some (.ins (CR X.K) dx fs) ∧ fs.lookup ("kept_answered" : Str) = some v ∧ Q v H1) (hb : attributeBase e "kept_answered" X.env (eval e X.env) = eval e X.env := by rfl) : WE X (.Attribute e "kept_answered" pos) σ H Q := we_fld T.c_Round.cl T.n_Round_kept_answered h hb
theorem ws_k_answered (T : Tm X.K X.mg) (h : WE X value σ H fun y H1 => WE X o σ H1 fun z H2 => ∃ a dx fs, z = .ref a ∧ H2 a = some (.ins (CR X.K) dx fs) ∧ fs.length < 1000 ∧ D.nx σ (upd H2 a (.ins (CR X.K) dx (putF ("kept_answered" : Str) y fs)))) (hs : swapsWith value (some (.Attribute o "kept_answered" pos')) pos.line X.env = pure false := by rfl) : WS X (.Assign [.Attribute o "kept_answered" pos'] value pos) D σ H := ws_fld T.c_Round.cl T.n_Round_kept_answered h hs
theorem we_k_answer (T : Tm X.K X.mg) (h : WE X e σ H fun y H1 => ∃ a dx fs v, y = .ref a ∧ H1 a = some (.ins (CR X.K) dx fs) ∧ fs.lookup ("kept_answer" : Str) = some v ∧ Q v H1) (hb : attributeBase e "kept_answer" X.env (eval e X.env) = eval e X.env := by rfl) : WE X (.Attribute e "kept_answer" pos) σ H Q := we_fld T.c_Round.cl T.n_Round_kept_answer h hb
theorem ws_k_answer (T : Tm X.K X.mg) (h : WE X value σ H fun y H1 => WE X o σ H1 fun z H2 => ∃ a dx fs, z = .ref a ∧ H2 a = some (.ins (CR X.K) dx fs) ∧ fs.length < 1000 ∧ D.nx σ (upd H2 a (.ins (CR X.K) dx (putF ("kept_answer" : Str) y fs)))) (hs : swapsWith value (some (.Attribute o "kept_answer" pos')) pos.line X.env = pure false := by rfl) : WS X (.Assign [.Attribute o "kept_answer" pos'] value pos) D σ H := ws_fld T.c_Round.cl T.n_Round_kept_answer h hs
theorem we_k_delay (T : Tm X.K X.mg) (h : WE X e σ H fun y H1 => ∃ a dx fs v, y = .ref a ∧ H1 a = some (.ins (CR X.K) dx fs) ∧ fs.lookup ("kept_delay" : Str) = some v ∧ Q v H1) (hb : attributeBase e "kept_delay" X.env (eval e X.env) = eval e X.env := by rfl) : WE X (.Attribute e "kept_delay" pos) σ H Q := we_fld T.c_Round.cl T.n_Round_kept_delay h hb
theorem ws_k_delay (T : Tm X.K X.mg) (h : WE X value σ H fun y H1 => WE X o σ H1 fun z H2 => ∃ a dx fs, z = .ref a ∧ H2 a = some (.ins (CR X.K) dx fs) ∧ fs.length < 1000 ∧ D.nx σ (upd H2 a (.ins (CR X.K) dx (putF ("kept_delay" : Str) y fs)))) (hs : swapsWith value (some (.Attribute o "kept_delay" pos')) pos.line X.env = pure false := by rfl) : WS X (.Assign [.Attribute o "kept_delay" pos'] value pos) D σ H := ws_fld T.c_Round.cl T.n_Round_kept_delay h hs
theorem we_k_last (T : Tm X.K X.mg) (h : WE X e σ H fun y H1 => ∃ a dx fs v, y = .ref a ∧ H1 a = some (.ins (CR X.K) dx fs) ∧ fs.lookup ("kept_last" : Str) = some v ∧ Q v H1) (hb : attributeBase e "kept_last" X.env (eval e X.env) = eval e X.env := by rfl) : WE X (.Attribute e "kept_last" pos) σ H Q := we_fld T.c_Round.cl T.n_Round_kept_last h hb
theorem ws_k_last (T : Tm X.K X.mg) (h : WE X value σ H fun y H1 => WE X o σ H1 fun z H2 => ∃ a dx fs, z = .ref a ∧ H2 a = some (.ins (CR X.K) dx fs) ∧ fs.length < 1000 ∧ D.nx σ (upd H2 a (.ins (CR X.K) dx (putF ("kept_last" : Str) y fs)))) (hs : swapsWith value (some (.Attribute o "kept_last" pos')) pos.line X.env = pure false := by rfl) : WS X (.Assign [.Attribute o "kept_last" pos'] value pos) D σ H := ws_fld T.c_Round.cl T.n_Round_kept_last h hs
end
local macro_rules | `(tactic| walk_at "hp") => `(tactic| first | assumption | exact upd_same | ((with_reducible refine' Ex.ins ?x ?h); (case h => assumption); (case x => walk_at "x")) | ((with_reducible refine' Ex.tup ?x ?h); (case h => assumption); (case x => walk_at "x")))
local macro_rules | `(tactic| walk_at "wE") => `(tactic| first | ((with_reducible refine' we_k_starts ?T ?_ ?hb); (case T => assumption); (case hb => rfl)) | ((with_reducible refine' we_k_needless ?T ?_ ?hb); (case T => assumption); (case hb => rfl)) | ((with_reducible refine' we_k_answered ?T ?_ ?hb); (case T => assumption); (case hb => rfl)) | ((with_reducible refine' we_k_answer ?T ?_ ?hb); (case T => assumption); (case hb => rfl)) | ((with_reducible refine' we_k_delay ?T ?_ ?hb); (case T => assumption); (case hb => rfl)) | ((with_reducible refine' we_k_last ?T ?_ ?hb); (case T => assumption); (case hb => rfl)) | fail)
local macro_rules | `(tactic| walk_at "wS") => `(tactic| first | ((with_reducible refine' ws_k_starts ?T ?_ ?hs); (case T => assumption); (case hs => rfl)) | ((with_reducible refine' ws_k_needless ?T ?_ ?hs); (case T => assumption); (case hs => rfl)) | ((with_reducible refine' ws_k_answered ?T ?_ ?hs); (case T => assumption); (case hs => rfl)) | ((with_reducible refine' ws_k_answer ?T ?_ ?hs); (case T => assumption); (case hs => rfl)) | ((with_reducible refine' ws_k_delay ?T ?_ ?hs); (case T => assumption); (case hs => rfl)) | ((with_reducible refine' ws_k_last ?T ?_ ?hs); (case T => assumption); (case hs => rfl)) | fail)
local macro_rules | `(tactic| walk_at "wX") => `(tactic| first | ((with_reducible refine' rf_ok ?hp ?hl ?_); (case hp => walk_at "hp"); (case hl => rfl)) | ((with_reducible refine' rs_ok ?hp ?hl ?_); (case hp => walk_at "hp"); (case hl => first | decide | exact lt6 | exact lt0 | exact lt1 | exact lt2 | exact lt3 | exact lt4 | exact lt5)) | fail)

/-! ### stores beside times -/
theorem no_rfs {C D dx dy l : Addr} {nd an : Int} {av dv lv : V} {q : Rat} : HO.ins D dy (rfs l nd an av dv lv) ≠ .ins C dx (tfs q) := fun e => by
  injection e with _ _ e
  have := congrArg List.length e
  cases this
theorem TimeV.upR {C D p dy l : Addr} {nd an : Int} {av dv lv : V} {q : Rat} {v : V} {H : Hp} {u : HO} (hp : H p = some (.ins D dy (rfs l nd an av dv lv))) (h : TimeV C q v H) : TimeV C q v (upd H p u) := TimeV.up hp (fun _ => no_rfs) h
theorem TimeV.upL {C p : Addr} {q : Rat} {v : V} {H : Hp} {vs : List V} {u : HO} (hp : H p = some (.lst vs)) (h : TimeV C q v H) : TimeV C q v (upd H p u) := TimeV.up hp (fun _ e => nomatch e) h
theorem OptT.upR {K : PySem.W.Frag} {D p dy l : Addr} {nd an : Int} {av dv lv : V} {q : Option Rat} {v : V} {H : Hp} {u : HO} (hp : H p = some (.ins D dy (rfs l nd an av dv lv))) (h : OptT K q v H) : OptT K q v (upd H p u) := by
  cases q with
  | none => exact h
  | some q => exact TimeV.upR hp h
theorem OptT.upL {K : PySem.W.Frag} {p : Addr} {q : Option Rat} {v : V} {H : Hp} {vs : List V} {u : HO} (hp : H p = some (.lst vs)) (h : OptT K q v H) : OptT K q v (upd H p u) := by
  cases q with
  | none => exact h
  | some q => exact TimeV.upL hp h
/-! ### await_answer -/
section
variable {P : Program} {w : World} {K : PySem.W.Frag} {mg : Str → Option Value} {base : Heap}
/-- is the answer of this sending the first one? -/
def First (a : Option Rat) (b : Rat) : Prop := match a with
  | none => True
  | some q => b < q
instance (a : Option Rat) (b : Rat) : Decidable (First a b) := by unfold First; cases a <;> infer_instance
def spAwait (K : PySem.W.Frag) : Sp := fun vs H Q _ => ∃ p dx l k sv yv av dv lv s, ∃ (nd an : Int) (o a : Option Rat), vs = [.ref p, .int k, sv, yv] ∧ H p = some (.ins (CR K) dx (rfs l nd an av dv lv)) ∧ TimeV (CT K) s sv H ∧ OptT K o yv H ∧ OptT K a av H ∧ Sz s 4000 ∧
  (∀ q, a = some q → Sz q 4000) ∧ match o with
  | none => Q .non H
  | some q => Sz q 4000 ∧ Sz (s + q) 4000 ∧ if First a (s + q) then ∀ H' t, Ex H H' → TimeV (CT K) (s + q) t H' → Q .non (upd H' p (.ins (CR K) dx (rfs l nd k t yv lv))) else ∀ H', Ex H H' → Q .non H'
theorem f_await (T : Tm K mg) : FnR P w K mg base (RX P w) 6 (ma K (CR K) "await_answer") (spAwait K) := by
  obtain ⟨fd, F⟩ := T.d_Round_await_answer
  refine raw_of F (def_ok F sc_Round_await_answer (fun vs H Q E h => by obtain ⟨p, dx, l, k, sv, yv, av, dv, lv, s, nd, an, o, a, rfl, _⟩ := h; rfl) ?_) (F.bindsN fun _ _ _ _ _ _ us hl => match us, hl with | [_, _, _, _], _ => rfl)
  intro X eP ew eK em eb eN es hf nd H vs Q E B h
  subst eP ew eK em eb
  have n0 : Sl X 0 "self" := slot_of eN es hf nd rfl (by first | exact Or.inl rfl | exact Or.inr rfl) (by decide) (by decide)
  have n1 : Sl X 1 "at" := slot_of eN es hf nd rfl (by first | exact Or.inl rfl | exact Or.inr rfl) (by decide) (by decide)
  have n2 : Sl X 2 "start" := slot_of eN es hf nd rfl (by first | exact Or.inl rfl | exact Or.inr rfl) (by decide) (by decide)
  have n3 : Sl X 3 "delay" := slot_of eN es hf nd rfl (by first | exact Or.inl rfl | exact Or.inr rfl) (by decide) (by decide)
  have n4 : Sl X 4 "answer" := slot_of eN es hf nd rfl (by first | exact Or.inl rfl | exact Or.inr rfl) (by decide) (by decide)
  obtain ⟨p, dx, l, k, sv, yv, av, dv, lv, s, nd, an, o, a, rfl, hp, hs, ho, ha, zs, za, z⟩ := h
  show WB X [_, _, _] _ [some (.ref p), some (.int k), some (sv), some (yv), none] H
  cases o with
  | none =>
    cases ho
    repeat walk_at "w"
    rw [decide_eq_true (rfl : V.non = V.non)]
    repeat walk_at "w"
    exact ws_retN z
  | some q =>
    obtain ⟨zq, zsq, z⟩ := z
    obtain ⟨y, dy, rfl, hy⟩ := ho
    have hy' : TimeV (CT X.K) q (.ref y) H := ⟨y, dy, rfl, hy⟩
    have fin : ∀ {H1 : Hp} {t : V}, Ex H H1 → TimeV (CT X.K) (s + q) t H1 → First a (s + q) →
        Q .non (upd (upd (upd H1 p (.ins (CR X.K) dx (putF ("kept_answer" : Str) t (rfs l nd an av dv lv)))) p (.ins (CR X.K) dx (putF ("kept_answered" : Str) (.int k) (putF ("kept_answer" : Str) t (rfs l nd an av dv lv)))))
          p (.ins (CR X.K) dx (putF ("kept_delay" : Str) (.ref y) (putF ("kept_answered" : Str) (.int k) (putF ("kept_answer" : Str) t (rfs l nd an av dv lv)))))) := by
      intro H1 t x1 ht f
      rw [if_pos f] at z
      rw [rfs_answer, rfs_answered, rfs_delay, upd2, upd2]
      exact z _ _ x1 ht
    repeat walk_at "w"
    rw [decide_eq_false (show ¬ V.ref y = V.non from fun e => nomatch e)]
    repeat walk_at "w"
    cases a with
    | none =>
      cases ha
      rw [decide_eq_true (rfl : V.non = V.non)]
      repeat walk_at "w"
      exact fin (by assumption) (by assumption) trivial
    | some q' =>
      have zq' := za q' rfl
      obtain ⟨y', dy', rfl, hy''⟩ := ha
      have ha : TimeV (CT X.K) q' (.ref y') H := ⟨y', dy', rfl, hy''⟩
      rw [decide_eq_false (show ¬ V.ref y' = V.non from fun e => nomatch e)]
      repeat walk_at "w"
      refine ite_dec (fun hc => ?_) (fun hc => ?_)
      · repeat walk_at "w"
        refine fin ?_ ?_ hc
        · walk_at "x"
        · walk_at "tv"
      · repeat walk_at "w"
        rw [if_neg (show ¬ First (some q') (s + q) from hc)] at z
        refine z _ ?_
        walk_at "x"
end

/-! ### rows of times -/
def Starts (C : Addr) (st : Nat → Rat) (k : Nat) (vs : List V) (H : Hp) : Prop := vs.length = k ∧ ∀ (j : Nat) (v : V), vs[j]? = some v → TimeV C (st j) v H
def Dls (K : PySem.W.Frag) (ds : List (Option Rat)) (vs : List V) (H : Hp) : Prop := vs.length = ds.length ∧ ∀ (j : Nat) (v : V), vs[j]? = some v → OptT K ((ds[j]?).getD none) v H
section
variable {K : PySem.W.Frag} {C p : Addr} {st : Nat → Rat} {k : Nat} {vs ys : List V} {H H' : Hp} {v : V} {u : HO} {ds : List (Option Rat)}
theorem Starts.mono (x : Ex H H') (h : Starts C st k vs H) : Starts C st k vs H' := ⟨h.1, fun j v e => TimeV.mono x (h.2 j v e)⟩
theorem Starts.upR {D dy l : Addr} {nd an : Int} {av dv lv : V} (hp : H p = some (.ins D dy (rfs l nd an av dv lv))) (h : Starts C st k vs H) : Starts C st k vs (upd H p u) := ⟨h.1, fun j v e => TimeV.upR hp (h.2 j v e)⟩
theorem Starts.upL (hp : H p = some (.lst ys)) (h : Starts C st k vs H) : Starts C st k vs (upd H p u) := ⟨h.1, fun j v e => TimeV.upL hp (h.2 j v e)⟩
theorem Starts.app (h : Starts C st k vs H) (hv : TimeV C (st k) v H) : Starts C st (k + 1) (vs ++ [v]) H := by
  refine ⟨by rw [List.length_append, h.1]; rfl, fun j y e => ?_⟩
  rw [List.getElem?_append] at e
  split at e
  · exact h.2 j y e
  · rename_i lt
    have hj : j - vs.length = 0 := by
      have := (List.getElem?_eq_some_iff.mp e).1
      have e1 : [v].length = 1 := rfl
      omega
    have hk : j = k := by have := h.1; omega
    rw [hj] at e
    cases e
    rw [hk]
    exact hv
theorem refs_not_src (h : ∀ (j : Nat) (v : V), vs[j]? = some v → (∃ a, v = .ref a) ∨ v = .non) : ¬ Src (.lst vs) := by
  rintro ⟨l, i, b, r, e, _⟩
  cases e
  rcases h 1 (.int i) rfl with ⟨a, z⟩ | z <;> cases z
theorem Starts.ns (h : Starts C st k vs H) : ¬ Src (.lst vs) := refs_not_src fun j v e => by
  obtain ⟨t, dx, rfl, _⟩ := h.2 j v e
  exact .inl ⟨t, rfl⟩
theorem OptT.rn {o : Option Rat} (h : OptT K o v H) : (∃ a, v = .ref a) ∨ v = .non := by
  cases o with
  | none => exact .inr h
  | some q => obtain ⟨t, dx, rfl, _⟩ := h; exact .inl ⟨t, rfl⟩
theorem Dls.ns (h : Dls K ds vs H) : ¬ Src (.lst vs) := refs_not_src fun j v e => (h.2 j v e).rn
theorem Dls.mono (x : Ex H H') (h : Dls K ds vs H) : Dls K ds vs H' := ⟨h.1, fun j v e => (h.2 j v e).mono x⟩
theorem Starts.lst (x : Ex H H') (h : Starts C st k vs H) (hl : H p = some (.lst vs)) : H' p = some (.lst vs) := x.keep _ _ hl h.ns
theorem dlk_in {k : Nat} (h : k < ds.length) : dlk ds k = (ds[k]?).getD none := by unfold dlk; rw [if_pos h]
theorem dlk_out {k : Nat} (h : ¬ k < ds.length) : dlk ds k = (ds[ds.length - 1]?).getD none := by unfold dlk; rw [if_neg h]
theorem ix_last {n : Nat} (h : 0 < n) : ixN n (-1) = some (n - 1) := by
  unfold ixN
  rw [if_neg (by decide), if_pos (by omega)]
  congr 1
  omega
end
/-! ### the objects of a round being played -/
abbrev S2 (p l : Addr) : Addr → Prop := fun a => a = p ∨ a = l
structure Pl (K : PySem.W.Frag) (H0 H : Hp) (p dx l : Addr) (nd an : Nat) (a d : Option Rat) (q : Rat) (st : Nat → Rat) (k : Nat) : Prop where
  x : ExX (S2 p l) H0 H
  f : ∃ av dv lv vs, H p = some (.ins (CR K) dx (rfs l nd an av dv lv)) ∧ OptT K a av H ∧ OptT K d dv H ∧ TimeV (CT K) q lv H ∧ H l = some (.lst vs) ∧ Starts (CT K) st k vs H
section
variable {K : PySem.W.Frag} {H0 H H' : Hp} {p dx l t : Addr} {nd an k : Nat} {a d : Option Rat} {q r : Rat} {st : Nat → Rat} {v : V}
theorem Pl.mono (h0 : ∀ C dx fs, H0 l ≠ some (.ins C dx fs)) (h : Pl K H0 H p dx l nd an a d q st k) (y : Ex H H') : Pl K H0 H' p dx l nd an a d q st k := by
  obtain ⟨x, av, dv, lv, vs, hp, ha, hd, hq, hl, hs⟩ := h
  refine ⟨x.ex y (fun b o s hb => ?_) (fun b C dx fs s hb => ?_), av, dv, lv, vs, y.ins hp, ha.mono y, hd.mono y, TimeV.mono y hq, hs.lst y hl, hs.mono y⟩
  · rcases s with rfl | rfl
    · rw [hp] at hb
      cases hb
      exact ⟨_, _, _, .inl rfl⟩
    · rw [hl] at hb
      cases hb
      exact ⟨0, 0, [], .inr ⟨_, rfl⟩⟩
  · rcases s with rfl | rfl
    · exact ⟨_, _, _, hp⟩
    · exact absurd hb (h0 _ _ _)
/-- a time that was there stands -/
theorem Pl.tv {C dy : Addr} {nd' an' : Int} {av dv lv : V} {ys : List V} (h : Pl K H0 H p dx l nd an a d q st k) (hp : H0 p = some (.ins C dy (rfs l nd' an' av dv lv))) (hl : H0 l = some (.lst ys)) (hv : TimeV (CT K) r v H0) : TimeV (CT K) r v H := by
  obtain ⟨t, dz, rfl, ht⟩ := hv
  refine ⟨t, dz, rfl, h.x.ins (fun s => ?_) ht⟩
  rcases s with rfl | rfl
  · rw [hp] at ht
    injection ht with ht
    exact no_rfs ht
  · rw [hl] at ht
    cases ht
theorem Pl.ot {C dy : Addr} {nd' an' : Int} {av dv lv : V} {ys : List V} {o : Option Rat} (h : Pl K H0 H p dx l nd an a d q st k) (hp : H0 p = some (.ins C dy (rfs l nd' an' av dv lv))) (hl : H0 l = some (.lst ys)) (hv : OptT K o v H0) : OptT K o v H := by
  cases o with
  | none => exact hv
  | some r => exact Pl.tv h hp hl hv
end
/-- the sizes of a round's numbers -/
structure RSz (w : Rat) (d : Bool) (ds : List (Option Rat)) (N : Nat) : Prop where
  zw : ∀ k, k ≤ N → Sz (wtk w d k) 4000
  zs : ∀ k, k ≤ N → Sz (stk 0 w d k) 4000
  zd : ∀ k q, k ≤ N → dlk ds k = some q → Sz q 4000 ∧ Sz (stk 0 w d k + q) 4000
theorem RSz.a {w : Rat} {d : Bool} {ds : List (Option Rat)} {N : Nat} (z : RSz w d ds N) : ∀ {k : Nat}, k ≤ N → ∀ q, (rsk 0 w d ds k).ans = some q → Sz q 4000
  | 0, _, _, e => by cases e
  | k + 1, hk, q, e => by
    have ih := z.a (k := k) (by omega)
    unfold rsk at e
    generalize hr : rsk 0 w d ds k = r at e ih
    obtain ⟨nd, an, ans, dly⟩ := r
    generalize ho : dlk ds k = o at e
    cases o with
    | none => exact ih q e
    | some y =>
      have zy := (z.zd k y (by omega) ho).2
      cases ans with
      | none =>
        cases e
        exact zy
      | some b =>
        have e' : (if stk 0 w d k + y < b then (⟨nd + 1, k, some (stk 0 w d k + y), some y⟩ : RS Rat) else ⟨nd + 1, an, some b, dly⟩).ans = some q := e
        by_cases hc : stk 0 w d k + y < b
        · rw [if_pos hc] at e'
          cases e'
          exact zy
        · rw [if_neg hc] at e'
          exact ih q e'
/-- one answered, or not -/
def nxt (r : RS Rat) : Nat := match r.ans with
  | none => r.nd
  | some _ => r.nd + 1
theorem rstep_none (r : RS Rat) (k : Nat) (s : Rat) : rstep r k s none = ⟨nxt r, r.an, r.ans, r.dly⟩ := by
  obtain ⟨nd, an, ans, dly⟩ := r
  cases ans <;> rfl
theorem rstep_first {r : RS Rat} {k : Nat} {s y : Rat} (h : First r.ans (s + y)) : rstep r k s (some y) = ⟨nxt r, k, some (s + y), some y⟩ := by
  obtain ⟨nd, an, ans, dly⟩ := r
  cases ans with
  | none => rfl
  | some b => exact if_pos h
theorem rstep_late {r : RS Rat} {k : Nat} {s y : Rat} (h : ¬ First r.ans (s + y)) : rstep r k s (some y) = ⟨nxt r, r.an, r.ans, r.dly⟩ := by
  obtain ⟨nd, an, ans, dly⟩ := r
  cases ans with
  | none => exact absurd trivial h
  | some b => exact if_neg h

/-! ### play -/
section
variable {P : Program} {w : World} {K : PySem.W.Frag} {mg : Str → Option Value} {base : Heap}
/-- a round of N sendings -/
structure Game (u : Rat) (b : Bool) (ds : List (Option Rat)) (N : Nat) : Prop where
  ne : ds ≠ []
  n1 : 0 < N
  nm : N ≤ 1000
  go : ∀ k, k < N → Gng 0 u b ds k
  st : ¬ Gng 0 u b ds N
  sz : RSz u b ds N
abbrev PlK (K : PySem.W.Frag) (H0 H : Hp) (p dx l : Addr) (u : Rat) (b : Bool) (ds : List (Option Rat)) (k : Nat) : Prop :=
  Pl K H0 H p dx l (rsk 0 u b ds k).nd (rsk 0 u b ds k).an (rsk 0 u b ds k).ans (rsk 0 u b ds k).dly (lwk u b k) (stk 0 u b) k
def spPlay (K : PySem.W.Frag) : Sp := fun vs H Q _ => ∃ p dx l d wv lv ys u b ds N, vs = [.ref p, .ref d, wv, .bl b] ∧ H p = some (.ins (CR K) dx (rfs l 0 0 .non .non lv)) ∧ TimeV (CT K) u lv H ∧ H l = some (.lst []) ∧ d ≠ l ∧ H d = some (.lst ys) ∧ Dls K ds ys H ∧ TimeV (CT K) u wv H ∧ Game u b ds N ∧
  ∀ H', PlK K H H' p dx l u b ds N → Q .non H'
theorem f_play (T : Tm K mg) : FnR P w K mg base (RX P w) 7 (ma K (CR K) "play") (spPlay K) := by
  obtain ⟨fd, F⟩ := T.d_Round_play
  refine raw_of F (def_ok F sc_Round_play (fun vs H Q E h => by obtain ⟨p, dx, l, d, wv, lv, ys, u, b, ds, N, rfl, _⟩ := h; rfl) ?_) (F.bindsN fun _ _ _ _ _ _ us hl => match us, hl with | [_, _, _, _], _ => rfl)
  intro X eP ew eK em eb eN es hf nd H vs Q E B h
  subst eP ew eK em eb
  have n0 : Sl X 0 "self" := slot_of eN es hf nd rfl (by first | exact Or.inl rfl | exact Or.inr rfl) (by decide) (by decide)
  have n1 : Sl X 1 "delays" := slot_of eN es hf nd rfl (by first | exact Or.inl rfl | exact Or.inr rfl) (by decide) (by decide)
  have n2 : Sl X 2 "wait" := slot_of eN es hf nd rfl (by first | exact Or.inl rfl | exact Or.inr rfl) (by decide) (by decide)
  have n3 : Sl X 3 "doubled" := slot_of eN es hf nd rfl (by first | exact Or.inl rfl | exact Or.inr rfl) (by decide) (by decide)
  have n4 : Sl X 4 "start" := slot_of eN es hf nd rfl (by first | exact Or.inl rfl | exact Or.inr rfl) (by decide) (by decide)
  have n5 : Sl X 5 "at" := slot_of eN es hf nd rfl (by first | exact Or.inl rfl | exact Or.inr rfl) (by decide) (by decide)
  have g_Time : Gn X "Time" := gn_of es rfl (by decide)
  have m_Time := T.g_Time
  have g_MOST_SENDINGS : Gn X "MOST_SENDINGS" := gn_of es rfl (by decide)
  obtain ⟨t_MOST_SENDINGS, m_MOST_SENDINGS⟩ := T.i_MOST_SENDINGS
  have g_TooMany : Gn X "TooMany" := gn_of es rfl (by decide)
  have m_TooMany := T.g_TooMany
  have z_len : Bn X "len" := bn_of es rfl T.z_len
  obtain ⟨p, dx, l, d, wv, lv, ys, u, b, ds, N, rfl, hp, hlv, hl, hdl, hd, hds, hw, g, z⟩ := h
  show WB X [_, _, _] _ [some (.ref p), some (.ref d), some (wv), some (.bl b), none, none] H
  have h0l : ∀ C dx fs, H l ≠ some (.ins C dx fs) := fun C dx fs e => by rw [hl] at e; cases e
  have dlen : 0 < ds.length := List.length_pos_iff.mpr g.ne
  repeat walk_at "w"
  rename_i v1 H1 x1 hv1
  have p0 : PlK X.K H H p dx l u b ds 0 := ⟨.refl H, .non, .non, lv, [], hp, rfl, rfl, hlv, hl, rfl, fun j v e => nomatch e⟩
  refine ws_while_by (fun σ H' => ∃ sv wv, ∃ k : Nat, σ = [some (.ref p), some (.ref d), some wv, some (.bl b), some sv, some (.int k)] ∧ k ≤ N ∧ TimeV (CT X.K) (stk 0 u b k) sv H' ∧ TimeV (CT X.K) (wtk u b k) wv H' ∧ PlK X.K H H' p dx l u b ds k)
    (fun σ _ => match σ with | [_, _, _, _, _, some (.int y)] => N - y.toNat | _ => 0) B ⟨v1, wv, 0, rfl, by omega, hv1, hw.mono x1, p0.mono h0l x1⟩ ?_
  clear p0
  rintro σ H2 ⟨sv, wv, k, rfl, hk, hs, hw, pl⟩
  have za := fun q e => g.sz.a hk q e
  have zs := g.sz.zs k hk
  have zw := g.sz.zw k hk
  refine wt_to (fun r H3 => Ex H2 H3 ∧ (r = true ↔ Gng 0 u b ds k)) ?_ ?_
  · obtain ⟨x2, av, dv, lv2, vs, hp2, ha, hdv, hlq, hl2, hst⟩ := pl
    cases e : (rsk 0 u b ds k).ans with
    | none =>
      rw [e] at ha
      cases ha
      repeat walk_at "w"
      rw [decide_eq_true (rfl : V.non = V.non)]
      repeat walk_at "w"
      exact ⟨.refl _, fun _ => by unfold Gng; rw [e]; trivial, fun _ => rfl⟩
    | some q =>
      rw [e] at ha
      obtain ⟨y, dy, rfl, hy⟩ := ha
      have hay : TimeV (CT X.K) q (.ref y) H2 := ⟨y, dy, rfl, hy⟩
      have zq := za q e
      repeat walk_at "w"
      rw [decide_eq_false (show ¬ V.ref y = V.non from fun e => nomatch e)]
      repeat walk_at "w"
      refine ⟨by walk_at "x", decide_eq_true_iff.trans ?_⟩
      unfold Gng
      rw [e]
  · rintro r H3 ⟨x3, hr⟩
    have p3 := pl.mono h0l x3
    have hs3 := hs.mono x3
    have hw3 := hw.mono x3
    cases r with
    | false =>
      have ng : ¬ Gng 0 u b ds k := fun q => nomatch hr.mpr q
      have ek : k = N := by
        rcases Nat.lt_or_ge k N with lt | ge
        · exact absurd (g.go k lt) ng
        · omega
      subst ek
      exact iteF (z H3 p3)
    | true =>
      have gk := hr.mp rfl
      have kN : k < N := by
        rcases Nat.lt_or_ge k N with lt | ge
        · exact lt
        · exact absurd (show Gng 0 u b ds N from (show k = N by omega) ▸ gk) g.st
      refine iteT ?_
      have nm := g.nm
      repeat walk_at "w"
      rw [decide_eq_false (show ¬ (k : Int) = 1000 by omega)]
      refine iteF (wb_nil ?_)
      refine wb_cons (ws_to (fun σ' H4 => σ' = [some (.ref p), some (.ref d), some wv, some (.bl b), some sv, some (.int k)] ∧ TimeV (CT X.K) (stk 0 u b k) sv H4 ∧ TimeV (CT X.K) (wtk u b k) wv H4 ∧
        Pl X.K H H4 p dx l (nxt (rsk 0 u b ds k)) (rsk 0 u b ds k).an (rsk 0 u b ds k).ans (rsk 0 u b ds k).dly (lwk u b k) (stk 0 u b) k) ?_ ?_)
      · obtain ⟨x3, av, dv, lv2, vs, hp3, ha, hdv, hlq, hl3, hst⟩ := p3
        cases e : (rsk 0 u b ds k).ans with
        | none =>
          rw [e] at ha
          cases ha
          repeat walk_at "w"
          rw [decide_eq_true (rfl : V.non = V.non)]
          repeat walk_at "w"
          have en : nxt (rsk 0 u b ds k) = (rsk 0 u b ds k).nd := by unfold nxt; rw [e]
          rw [en]
          exact ⟨rfl, hs3, hw3, x3, .non, dv, lv2, vs, hp3, rfl, hdv, hlq, hl3, hst⟩
        | some q =>
          rw [e] at ha
          obtain ⟨y, dy, rfl, hy⟩ := ha
          have hay : TimeV (CT X.K) q (.ref y) H3 := ⟨y, dy, rfl, hy⟩
          repeat walk_at "w"
          rw [decide_eq_false (show ¬ V.ref y = V.non from fun e => nomatch e)]
          repeat walk_at "w"
          have en : nxt (rsk 0 u b ds k) = (rsk 0 u b ds k).nd + 1 := by unfold nxt; rw [e]
          rw [en, rfs_needless]
          exact ⟨rfl, TimeV.upR hp3 hs3, TimeV.upR hp3 hw3, x3.put (.inl rfl), .ref y, dv, lv2, vs, upd_same, TimeV.upR hp3 hay, hdv.upR hp3, TimeV.upR hp3 hlq, (upd_ne (fun z => by subst z; rw [hp3] at hl3; cases hl3)).trans hl3, hst.upR hp3⟩
      rintro σ' H4 ⟨rfl, hs4, hw4, x4, av, dv, lv4, vs, hp4, ha4, hdv4, hlq4, hl4, hst4⟩
      have nz : vs.length < sizeLine := by
        rw [hst4.1]
        exact Nat.lt_of_lt_of_le kN (Nat.le_trans nm (by decide))
      refine wb_cons (ws_expr (we_append ?_))
      repeat walk_at "w"
      refine ⟨l, vs, rfl, hl4, ?_⟩
      repeat walk_at "w"
      refine ⟨vs, hl4, nz, ?_⟩
      have hp5 : upd H4 l (.lst (vs ++ [sv])) p = some (.ins (CR X.K) dx (rfs l (nxt (rsk 0 u b ds k)) (rsk 0 u b ds k).an av dv lv4)) := (upd_ne (fun z => by subst z; rw [hp4] at hl4; cases hl4)).trans hp4
      have hl5 : upd H4 l (.lst (vs ++ [sv])) l = some (.lst (vs ++ [sv])) := upd_same
      have st5 := (hst4.app hs4).upL (u := .lst (vs ++ [sv])) hl4
      have hs5 := TimeV.upL (u := .lst (vs ++ [sv])) hl4 hs4
      have hw5 := TimeV.upL (u := .lst (vs ++ [sv])) hl4 hw4
      have ha5 := OptT.upL (u := .lst (vs ++ [sv])) hl4 ha4
      have hd5 := OptT.upL (u := .lst (vs ++ [sv])) hl4 hdv4
      have x5 := x4.put (o := .lst (vs ++ [sv])) (.inr rfl)
      generalize upd H4 l (.lst (vs ++ [sv])) = H5 at hp5 hl5 st5 hs5 hw5 ha5 hd5 x5 ⊢
      clear hst4 hs4 hw4 ha4 hdv4 hlq4 hp4 hl4 x4 hs3 hw3 p3 x3
      repeat walk_at "w"
      rw [rfs_last]
      have hp6 : upd H5 p (.ins (CR X.K) dx (rfs l (nxt (rsk 0 u b ds k)) (rsk 0 u b ds k).an av dv wv)) p = some (.ins (CR X.K) dx (rfs l (nxt (rsk 0 u b ds k)) (rsk 0 u b ds k).an av dv wv)) := upd_same
      have hl6 : upd H5 p (.ins (CR X.K) dx (rfs l (nxt (rsk 0 u b ds k)) (rsk 0 u b ds k).an av dv wv)) l = some (.lst (vs ++ [sv])) := (upd_ne (fun z => by subst z; rw [hp5] at hl5; cases hl5)).trans hl5
      have st6 := st5.upR (u := .ins (CR X.K) dx (rfs l (nxt (rsk 0 u b ds k)) (rsk 0 u b ds k).an av dv wv)) hp5
      have hs6 := TimeV.upR (u := .ins (CR X.K) dx (rfs l (nxt (rsk 0 u b ds k)) (rsk 0 u b ds k).an av dv wv)) hp5 hs5
      have hw6 := TimeV.upR (u := .ins (CR X.K) dx (rfs l (nxt (rsk 0 u b ds k)) (rsk 0 u b ds k).an av dv wv)) hp5 hw5
      have ha6 := OptT.upR (u := .ins (CR X.K) dx (rfs l (nxt (rsk 0 u b ds k)) (rsk 0 u b ds k).an av dv wv)) hp5 ha5
      have hd6 := OptT.upR (u := .ins (CR X.K) dx (rfs l (nxt (rsk 0 u b ds k)) (rsk 0 u b ds k).an av dv wv)) hp5 hd5
      have x6 := x5.put (o := .ins (CR X.K) dx (rfs l (nxt (rsk 0 u b ds k)) (rsk 0 u b ds k).an av dv wv)) (.inl rfl)
      generalize upd H5 p (.ins (CR X.K) dx (rfs l (nxt (rsk 0 u b ds k)) (rsk 0 u b ds k).an av dv wv)) = H6 at hp6 hl6 st6 hs6 hw6 ha6 hd6 x6 ⊢
      clear hp5 hl5 st5 hs5 hw5 ha5 hd5 x5
      have p6 : Pl X.K H H6 p dx l (nxt (rsk 0 u b ds k)) (rsk 0 u b ds k).an (rsk 0 u b ds k).ans (rsk 0 u b ds k).dly (wtk u b k) (stk 0 u b) (k + 1) := ⟨x6, av, dv, wv, _, hp6, ha6, hd6, hw6, hl6, st6⟩
      have hdd : H6 d = some (.lst ys) := x6.kp _ _ (fun s => s.elim (fun e => by subst e; rw [hp] at hd; cases hd) hdl) hd (.inl hds.ns)
      refine ws_to (fun σ' H7 => σ' = [some (.ref p), some (.ref d), some wv, some (.bl b), some sv, some (.int k)] ∧ TimeV (CT X.K) (stk 0 u b k) sv H7 ∧ TimeV (CT X.K) (wtk u b k) wv H7 ∧ PlK X.K H H7 p dx l u b ds (k + 1)) ?_ ?_
      · refine ws_expr (we_meth (pl := _) B T.c_Round.cl ⟨_, T.e_Round_await_answer, f_await T⟩ (by decide) ?_)
        walk_at "w"
        refine ⟨p, dx, _, rfl, hp6, rfl, wa_three ?_⟩
        walk_at "w"
        walk_at "w"
        refine we_to (fun v H7 => H7 = H6 ∧ OptT X.K (dlk ds k) v H6) ?_ ?_
        · have len : ys.length = ds.length := hds.1
          repeat walk_at "w"
          refine ite_dec (fun hc => ?_) (fun hc => ?_)
          · have hk2 : k < ys.length := by omega
            repeat walk_at "w"
            refine at_l hdd (atI_nat (List.getElem?_eq_getElem hk2)) ⟨rfl, ?_⟩
            rw [dlk_in (by omega)]
            exact Pl.ot p6 hp hl (hds.2 k _ (List.getElem?_eq_getElem hk2))
          · have hk2 : ys.length - 1 < ys.length := by omega
            repeat walk_at "w"
            have ia : atI ys (-1) = some ys[ys.length - 1] := by
              unfold atI
              rw [ix_last (by omega)]
              exact List.getElem?_eq_getElem hk2
            refine at_l hdd ia ⟨rfl, ?_⟩
            rw [dlk_out (by omega), ← len]
            exact Pl.ot p6 hp hl (hds.2 _ _ (List.getElem?_eq_getElem hk2))
        rintro v H7 ⟨rfl, hv⟩
        refine ⟨p, dx, l, k, sv, v, av, dv, wv, stk 0 u b k, _, _, dlk ds k, (rsk 0 u b ds k).ans, rfl, hp6, hs6, hv, ha6, zs, za, ?_⟩
        have er : rsk 0 u b ds (k + 1) = rstep (rsk 0 u b ds k) k (stk 0 u b k) (dlk ds k) := rfl
        cases eo : dlk ds k with
        | none =>
          rw [eo, rstep_none] at er
          refine ⟨rfl, hs6, hw6, ?_⟩
          unfold PlK
          rw [er]
          exact p6
        | some q =>
          have zd := g.sz.zd k q hk eo
          refine ⟨zd.1, zd.2, ?_⟩
          by_cases f : First (rsk 0 u b ds k).ans (stk 0 u b k + q)
          · rw [eo, rstep_first f] at er
            rw [if_pos f]
            intro H8 t x8 ht
            have hp8 := x8.ins hp6
            rw [eo] at hv
            refine ⟨rfl, TimeV.upR hp8 (hs6.mono x8), TimeV.upR hp8 (hw6.mono x8), ?_⟩
            unfold PlK
            rw [er]
            have p8 := p6.mono h0l x8
            exact ⟨p8.x.put (.inl rfl), t, v, wv, _, upd_same, TimeV.upR hp8 ht, OptT.upR (q := some q) hp8 (hv.mono x8), TimeV.upR hp8 (hw6.mono x8), (upd_ne (fun z => by subst z; rw [hp6] at hl6; cases hl6)).trans (st6.lst x8 hl6), (st6.mono x8).upR hp8⟩
          · rw [eo, rstep_late f] at er
            rw [if_neg f]
            intro H8 x8
            refine ⟨rfl, hs6.mono x8, hw6.mono x8, ?_⟩
            unfold PlK
            rw [er]
            exact p6.mono h0l x8
      rintro σ' H7 ⟨rfl, hs7, hw7, p7⟩
      clear hp6 hl6 st6 hs6 hw6 ha6 hd6 x6 p6 hdd
      have zs1 := g.sz.zs (k + 1) (by omega)
      have two : Sz ((2 : Int) : Rat) 4000 := Sz.int (n := 2) (by decide) (by decide) |>.mono (by decide)
      repeat walk_at "w"
      rename_i v8 H8 x8 hv8
      have fin : ∀ {H9 : Hp} {wv9 : V}, Ex H7 H9 → TimeV (CT X.K) (stk 0 u b (k + 1)) v8 H9 → TimeV (CT X.K) (wtk u b (k + 1)) wv9 H9 → (∃ sv wv, ∃ k' : Nat, [some (.ref p), some (.ref d), some wv9, some (.bl b), some v8, some (.int ((k : Int) + 1))] = [some (.ref p), some (.ref d), some wv, some (.bl b), some sv, some (.int k')] ∧ k' ≤ N ∧ TimeV (CT X.K) (stk 0 u b k') sv H9 ∧ TimeV (CT X.K) (wtk u b k') wv H9 ∧ PlK X.K H H9 p dx l u b ds k') ∧
          N - ((k : Int) + 1).toNat < N - (k : Int).toNat := fun {H9 wv9} x9 h1 h2 => ⟨⟨v8, wv9, k + 1, rfl, by omega, h1, h2, p7.mono h0l x9⟩, by omega⟩
      refine ite_b (fun e => ?_) (fun e => ?_)
      · have ew : wtk u b (k + 1) = wtk u b k * ((2 : Int) : Rat) := by
          show (if b = true then _ else _) = _
          rw [if_pos e]
          grind
        repeat walk_at "w"
        refine fin ?_ ?_ ?_
        · walk_at "x"
        · walk_at "tv"
        · rw [ew]
          walk_at "tv"
      · have ew : wtk u b (k + 1) = wtk u b k := by
          show (if b = true then _ else _) = _
          rw [if_neg (by rw [e]; decide)]
        repeat walk_at "w"
        refine fin ?_ ?_ ?_
        · walk_at "x"
        · walk_at "tv"
        · rw [ew]
          walk_at "tv"
end

/-! ### is_delay, checked_delays -/
section
variable {P : Program} {w : World} {K : PySem.W.Frag} {mg : Str → Option Value} {base : Heap}
def spIsDelay (K : PySem.W.Frag) : Sp := fun vs H Q _ => ∃ q v, vs = [v] ∧ Tim K q v H ∧ Sz q 4000 ∧ Bl H (decide (0 < q)) Q
theorem f_is_delay (T : Tm K mg) : GFn P w K mg base 6 "is_delay" (spIsDelay K) := by
  obtain ⟨fd, F⟩ := T.d_is_delay
  refine GFn.mk F T.g_is_delay (def_ok F sc_is_delay (fun vs H Q E h => by obtain ⟨q, v, rfl, _⟩ := h; rfl) ?_) (F.bindsN fun _ _ _ _ _ _ us hl => match us, hl with | [_], _ => rfl)
  intro X eP ew eK em eb eN es hf nd H vs Q E B h
  subst eP ew eK em eb
  have n0 : Sl X 0 "thing" := slot_of eN es hf nd rfl (by first | exact Or.inl rfl | exact Or.inr rfl) (by decide) (by decide)
  have g_is_time : Gn X "is_time" := gn_of es rfl (by decide)
  have F_is_time := f_is_time (P := X.prog) (w := X.w) (base := X.base) T
  have g_time_of : Gn X "time_of" := gn_of es rfl (by decide)
  have F_time_of := f_time_of (P := X.prog) (w := X.w) (base := X.base) T
  obtain ⟨q, v, rfl, hv, hq, z⟩ := h
  show WB X [_] _ [some (v)] H
  have z0 : Sz ((0 : Int) : Rat) 4000 := (Sz.int (n := 2) (by decide) (by decide)).mono (by decide)
  repeat walk_at "w"
  refine it_tim T hv ?_
  repeat walk_at "w"
  refine to_tim hv fun y H1 x1 hy => ?_
  repeat walk_at "w"
  exact z _ (by walk_at "x")
/-- delays as they are handed: times, ints, None -/
def DTim (K : PySem.W.Frag) (o : Option Rat) (v : V) (H : Hp) : Prop := match o with
  | none => v = .non
  | some q => Tim K q v H ∧ 0 < q ∧ Sz q 4000
theorem DTim.mono {K : PySem.W.Frag} {o : Option Rat} {v : V} {H H' : Hp} (x : Ex H H') (h : DTim K o v H) : DTim K o v H' := by
  cases o with
  | none => exact h
  | some q => exact ⟨Tim.mono x h.1, h.2⟩
theorem DTim.nn {K : PySem.W.Frag} {o : Option Rat} {v : V} {H : Hp} (h : DTim K o v H) : (v = .non) ↔ o = none := by
  cases o with
  | none => exact ⟨fun _ => rfl, fun _ => h⟩
  | some q =>
    refine ⟨fun e => ?_, fun e => nomatch e⟩
    subst e
    rcases h.1 with ⟨t, dx, e, _⟩ | ⟨i, e, _⟩ <;> cases e
def DTims (K : PySem.W.Frag) (ds : List (Option Rat)) (vs : List V) (H : Hp) : Prop := vs.length = ds.length ∧ ∀ (j : Nat) (v : V), vs[j]? = some v → DTim K ((ds[j]?).getD none) v H
theorem DTims.mono {K : PySem.W.Frag} {ds : List (Option Rat)} {vs : List V} {H H' : Hp} (x : Ex H H') (h : DTims K ds vs H) : DTims K ds vs H' := ⟨h.1, fun j v e => (h.2 j v e).mono x⟩
/-- the last one is not lost -/
def LastOk (ds : List (Option Rat)) : Prop := 0 < ds.length ∧ (ds[ds.length - 1]?).getD none ≠ none
def spChecked (K : PySem.W.Frag) : Sp := fun vs H Q _ => ∃ t ys ds, vs = [.ref t] ∧ H t = some (.tup ys) ∧ DTims K ds ys H ∧ LastOk ds ∧ ds.length < 1000 ∧ ∀ r zs H', Ex H H' → H r = none → H' r = some (.lst zs) → Dls K ds zs H' → Q (.ref r) H'
theorem f_checked_delays (T : Tm K mg) : GFn P w K mg base 7 "checked_delays" (spChecked K) := by
  obtain ⟨fd, F⟩ := T.d_checked_delays
  refine GFn.mk F T.g_checked_delays (def_ok F sc_checked_delays (fun vs H Q E h => by obtain ⟨t, ys, ds, rfl, _⟩ := h; rfl) ?_) (F.bindsN fun _ _ _ _ _ _ us hl => match us, hl with | [_], _ => rfl)
  intro X eP ew eK em eb eN es hf nd H vs Q E B h
  subst eP ew eK em eb
  have n0 : Sl X 0 "delays" := slot_of eN es hf nd rfl (by first | exact Or.inl rfl | exact Or.inr rfl) (by decide) (by decide)
  have n1 : Sl X 1 "at" := slot_of eN es hf nd rfl (by first | exact Or.inl rfl | exact Or.inr rfl) (by decide) (by decide)
  have n2 : Sl X 2 "delay" := slot_of eN es hf nd rfl (by first | exact Or.inl rfl | exact Or.inr rfl) (by decide) (by decide)
  have z_len : Bn X "len" := bn_of es rfl T.z_len
  have g_NoDelay : Gn X "NoDelay" := gn_of es rfl (by decide)
  have m_NoDelay := T.g_NoDelay
  have z_enumerate : Bn X "enumerate" := bn_of es rfl T.z_enumerate
  have g_is_delay : Gn X "is_delay" := gn_of es rfl (by decide)
  have F_is_delay := f_is_delay (P := X.prog) (w := X.w) (base := X.base) T
  have F_time_of := f_time_of (P := X.prog) (w := X.w) (base := X.base) T
  obtain ⟨t, ys, ds, rfl, ht, hds, lo, lt, z⟩ := h
  show WB X [_, _, _, _] _ [some (.ref t), none, none] H
  have len := hds.1
  repeat walk_at "w"
  rw [decide_eq_false (show ¬ ((ys.length : Nat) : Int) = 0 by have := lo.1; omega)]
  refine iteF (wb_nil ?_)
  refine wb_cons (ws_to (fun σ' H1 => (∃ a b, σ' = [some (.ref t), a, b]) ∧ Ex H H1) ?_ ?_)
  · refine ws_for_enumT B n1 n2 z_enumerate ?_
    repeat walk_at "w"
    refine ⟨t, ys, rfl, .of ht, fun n σ' H1 => (∃ a b, σ' = [some (.ref t), a, b]) ∧ Ex H H1, ⟨⟨none, none, rfl⟩, .refl _⟩, fun n σ' H1 hn q => .of (q.2.tup ht), ?_, fun σ' H1 q => q⟩
    rintro n v σ' H1 H2 hv ⟨⟨a, b, rfl⟩, x1⟩ x2
    have dv := (hds.2 n v hv).mono (x1.trans x2)
    generalize hd : (ds[n]?).getD none = o at dv
    have fin : ∀ {H3 : Hp}, Ex H2 H3 → (∃ a b, [some (.ref t), some (.int n), some v] = [some (.ref t), a, b]) ∧ Ex H H3 := fun x3 => ⟨⟨_, _, rfl⟩, (x1.trans x2).trans x3⟩
    cases o with
    | none =>
      cases dv
      repeat walk_at "w"
      rw [decide_eq_true (rfl : V.non = V.non)]
      repeat walk_at "w"
      exact fin (.refl _)
    | some q =>
      obtain ⟨tv, q0, zq⟩ := dv
      repeat walk_at "w"
      rw [decide_eq_false (show ¬ v = V.non from fun e => nomatch (DTim.nn (o := some q) ⟨tv, q0, zq⟩).mp e)]
      repeat walk_at "w"
      refine ⟨q, v, rfl, tv, zq, ?_⟩
      rw [decide_eq_true q0]
      repeat walk_at "w"
      exact fin (by assumption)
  rintro σ' H1 ⟨⟨a, b, rfl⟩, x1⟩
  have ht1 := x1.tup ht
  have hk : ys.length - 1 < ys.length := by have := lo.1; omega
  have ia : atI ys (-1) = some ys[ys.length - 1] := by
    unfold atI
    rw [ix_last (by have := lo.1; omega)]
    exact List.getElem?_eq_getElem hk
  repeat walk_at "w"
  refine at_t ht1 ia ?_
  repeat walk_at "w"
  rw [decide_eq_false (show ¬ ys[ys.length - 1] = V.non from fun e => by
    have := ((hds.2 _ _ (List.getElem?_eq_getElem hk)).nn).mp e
    rw [len] at this
    exact lo.2 this)]
  repeat walk_at "w"
  refine we_lcT (x := "delay") (i := 2) B (by rw [eN]; exact nd) (by rw [eN]; rfl) rfl (by rw [eN, es]; exact blkOk_by (by decide +kernel)) ?_
  repeat walk_at "w"
  refine ⟨t, ys, rfl, .of ht1, fun D hD => ⟨fun j H2 => ∃ zs, Ex H1 H2 ∧ H2 D = some (.lst zs) ∧ zs.length = j ∧ ∀ (i : Nat) (v : V), zs[i]? = some v → OptT X.K ((ds[i]?).getD none) v H2, ⟨[], Ex.new hD, upd_same, rfl, fun i v e => nomatch e⟩, fun j H2 hj q => .of (q.choose_spec.1.tup ht1), ?_, ?_⟩⟩
  · rintro j v H2 hv ⟨zs, x2, hD2, lz, hz⟩ s H0 C cl fp
    have dv := (hds.2 j v hv).mono (x1.trans x2)
    refine in_blk B rfl fun B => ?_
    refine in_own (i := 2) (x := "delay") eN nd rfl rfl (by decide) (by decide) fun n2 => ?_
    refine in_gn "time_of" rfl (by decide) fun g_time_of => ?_
    have fin : ∀ {H3 : Hp} {y : V}, Ex H2 H3 → OptT X.K ((ds[j]?).getD none) y H3 → ∃ acc, H3 D = some (.lst acc) ∧ acc.length < sizeLine ∧ ∃ zs, Ex H1 (upd H3 D (.lst (acc ++ [y]))) ∧ upd H3 D (.lst (acc ++ [y])) D = some (.lst zs) ∧ zs.length = j + 1 ∧ ∀ (i : Nat) (v : V), zs[i]? = some v → OptT X.K ((ds[i]?).getD none) v (upd H3 D (.lst (acc ++ [y]))) := by
      intro H3 y x3 hy
      have ns : ¬ Src (.lst zs) := refs_not_src fun i v e => (hz i v e).rn
      have hD3 := x3.keep _ _ hD2 ns
      have hj : j < ys.length := (List.getElem?_eq_some_iff.mp hv).1
      refine ⟨zs, hD3, by rw [lz]; exact Nat.lt_of_lt_of_le (show j < 1000 by omega) (by decide), zs ++ [y], (x2.trans x3).put hD, upd_same, by rw [List.length_append, lz]; rfl, fun i v e => ?_⟩
      rw [List.getElem?_append] at e
      split at e
      · exact OptT.upL hD3 ((hz i v e).mono x3)
      · have hi : i - zs.length = 0 := by
          have := (List.getElem?_eq_some_iff.mp e).1
          have e1 : [y].length = 1 := rfl
          omega
        rw [hi] at e
        cases e
        rw [show i = j by omega]
        exact OptT.upL hD3 hy
    generalize hd : (ds[j]?).getD none = o at dv fin
    cases o with
    | none =>
      cases dv
      repeat walk_at "w"
      rw [decide_eq_true (rfl : V.non = V.non)]
      repeat walk_at "w"
      exact fin (.refl _) rfl
    | some q =>
      obtain ⟨tv, q0, zq⟩ := dv
      repeat walk_at "w"
      rw [decide_eq_false (show ¬ v = V.non from fun e => nomatch (DTim.nn (o := some q) ⟨tv, q0, zq⟩).mp e)]
      repeat walk_at "w"
      exact to_tim tv fun y H3 x3 hy => fin x3 hy
  · rintro H2 ⟨zs, x2, hD2, lz, hz⟩
    exact z D zs H2 (x1.trans x2) (x1.back hD) hD2 ⟨by rw [lz, len], hz⟩
end

/-! ### a round made -/
def RndV (K : PySem.W.Frag) (u : Rat) (b : Bool) (ds : List (Option Rat)) (N : Nat) (v : V) (H : Hp) : Prop := ∃ p dx l av dv lv vs, v = .ref p ∧ H p = some (.ins (CR K) dx (rfs l (rsk 0 u b ds N).nd (rsk 0 u b ds N).an av dv lv)) ∧ OptT K (rsk 0 u b ds N).ans av H ∧ OptT K (rsk 0 u b ds N).dly dv H ∧
  TimeV (CT K) (lwk u b N) lv H ∧ H l = some (.lst vs) ∧ Starts (CT K) (stk 0 u b) N vs H
section
variable {K : PySem.W.Frag} {u : Rat} {b : Bool} {ds : List (Option Rat)} {N : Nat} {v : V} {H H' H1 H2 : Hp} {p C dx : Addr}
theorem RndV.mono (x : Ex H H') (h : RndV K u b ds N v H) : RndV K u b ds N v H' := by
  obtain ⟨p, dx, l, av, dv, lv, vs, rfl, hp, ha, hd, hl, hs, hst⟩ := h
  exact ⟨p, dx, l, av, dv, lv, vs, rfl, x.ins hp, ha.mono x, hd.mono x, TimeV.mono x hl, hst.lst x hs, hst.mono x⟩
theorem ExX.then {S S' : Addr → Prop} (x : ExX S H H1) (y : ExX S' H1 H2) (hS : ∀ a, S' a → S a ∨ H a = none) (hG : ∀ l C dx fs, S l → H l = some (.ins C dx fs) → ∃ C dx fs, H1 l = some (.ins C dx fs)) : ExX S H H2 :=
  ⟨fun a o n h g => y.kp a o (fun s => (hS a s).elim n fun z => by rw [z] at h; cases h) (x.kp a o n h g) (by
    rcases g with g | ⟨l, C, dx, fs, rest, e, h2⟩
    · exact .inl g
    · by_cases sl : S l
      · obtain ⟨C', dx', fs', h3⟩ := hG l C dx fs sl h2
        exact .inr ⟨l, C', dx', fs', rest, e, h3⟩
      · exact .inr ⟨l, C, dx, fs, rest, e, x.kp _ _ sl h2 (.inl not_src_ins)⟩), fun a l o n h s => by
    obtain ⟨o1, h1, s1⟩ := x.src a l o n h s
    exact y.src a l o1 (fun s => (hS a s).elim n fun z => by rw [z] at h; cases h) h1 s1, fun a h => y.th a (x.th a h)⟩
theorem tfs_ne {q : Rat} : tfs q ≠ [] := fun e => nomatch e
theorem TimeV.x1 {q : Rat} (hp : H p = some (.ins C dx [])) (x : ExX (fun a => a = p) H H') (h : TimeV (CT K) q v H) : TimeV (CT K) q v H' := by
  obtain ⟨t, dy, rfl, ht⟩ := h
  refine ⟨t, dy, rfl, x.ins (fun e => ?_) ht⟩
  subst e
  rw [hp] at ht
  cases ht
theorem Tim.x1 {q : Rat} (hp : H p = some (.ins C dx [])) (x : ExX (fun a => a = p) H H') (h : Tim K q v H) : Tim K q v H' := h.elim (fun h => .inl (TimeV.x1 hp x h)) .inr
theorem DTims.x1 {ys : List V} (hp : H p = some (.ins C dx [])) (x : ExX (fun a => a = p) H H') (h : DTims K ds ys H) : DTims K ds ys H' := ⟨h.1, fun j v e => by
  have z := h.2 j v e
  generalize (ds[j]?).getD none = o at z ⊢
  cases o with
  | none => exact z
  | some q => exact ⟨Tim.x1 hp x z.1, z.2⟩⟩
end
section
variable {P : Program} {w : World} {K : PySem.W.Frag} {mg : Str → Option Value} {base : Heap}
def spRInit (K : PySem.W.Frag) : Sp := fun vs H Q _ => ∃ p dx wv b t ys u ds N, vs = [.ref p, wv, .bl b, .ref t] ∧ H p = some (.ins (CR K) dx []) ∧ Tim K u wv H ∧ 0 < u ∧ H t = some (.tup ys) ∧ DTims K ds ys H ∧ LastOk ds ∧ ds.length < 1000 ∧ Game u b ds N ∧
  ∀ H', ExX (fun a => a = p) H H' → RndV K u b ds N (.ref p) H' → Q .non H'
theorem body_rinit (T : Tm K mg) : ∀ (X : Cx), X.prog = P → X.w = w → X.K = K → X.mg = mg → X.base = base → X.N = (["self", "wait", "doubled", "delays"] : List Str) → X.env.scope = defScope s_Round___init__ → (∀ x, X.fn x = true) → (["self", "wait", "doubled", "delays"] : List Str).Nodup → ∀ (H : Hp) (vs : List V) (Q : VK) (E : XK), Body X 7 (fun _ => E) → spRInit K vs H Q E →
    WB X (defBody s_Round___init__) { nx := fun _ H' => Q .non H', rt := Q } (start (["self", "wait", "doubled", "delays"] : List Str) vs) H := by
  intro X eP ew eK em eb eN es hf nd H vs Q E B h
  subst eP ew eK em eb
  have n0 : Sl X 0 "self" := slot_of eN es hf nd rfl (by first | exact Or.inl rfl | exact Or.inr rfl) (by decide) (by decide)
  have n1 : Sl X 1 "wait" := slot_of eN es hf nd rfl (by first | exact Or.inl rfl | exact Or.inr rfl) (by decide) (by decide)
  have n2 : Sl X 2 "doubled" := slot_of eN es hf nd rfl (by first | exact Or.inl rfl | exact Or.inr rfl) (by decide) (by decide)
  have n3 : Sl X 3 "delays" := slot_of eN es hf nd rfl (by first | exact Or.inl rfl | exact Or.inr rfl) (by decide) (by decide)
  have g_is_time : Gn X "is_time" := gn_of es rfl (by decide)
  have F_is_time := f_is_time (P := X.prog) (w := X.w) (base := X.base) T
  have g_time_of : Gn X "time_of" := gn_of es rfl (by decide)
  have F_time_of := f_time_of (P := X.prog) (w := X.w) (base := X.base) T
  have g_NoTime : Gn X "NoTime" := gn_of es rfl (by decide)
  have m_NoTime := T.g_NoTime
  have g_checked_delays : Gn X "checked_delays" := gn_of es rfl (by decide)
  have F_checked_delays := f_checked_delays (P := X.prog) (w := X.w) (base := X.base) T
  obtain ⟨p, dx, wv, b, t, ys, u, ds, N, rfl, hp, hw, u0, ht, hds, lo, lt, g, z⟩ := h
  show WB X [_, _, _, _, _, _, _, _] _ [some (.ref p), some (wv), some (.bl b), some (.ref t)] H
  have z0 : Sz ((0 : Int) : Rat) 4000 := (Sz.int (n := 2) (by decide) (by decide)).mono (by decide)
  have zu : Sz u 4000 := g.sz.zw 0 (Nat.zero_le _)
  repeat walk_at "w"
  refine it_tim T hw ?_
  repeat walk_at "w"
  refine to_tim hw fun y H1 x1 hy => ?_
  repeat walk_at "w"
  rename_i H2 x2
  rw [decide_eq_false (show ¬ u ≤ ((0 : Int) : Rat) from Rat.not_le.mpr (show ((0 : Int) : Rat) < u from u0))]
  repeat walk_at "w"
  have x12 := x1.trans x2
  refine lst_i (Nat.zero_le _) fun l H3 nl x3 hl => ?_
  have hp3 := (x12.trans x3).ins hp
  repeat walk_at "w"
  rw [upd2, upd2, upd2, upd2]
  have xp : ExX (fun a => a = p) H (upd H3 p (.ins (CR X.K) dx (putF ("kept_delay" : Str) .non (putF ("kept_answer" : Str) .non (putF ("kept_answered" : Str) (.int 0) (putF ("kept_needless" : Str) (.int 0) (putF ("kept_starts" : Str) (.ref l) []))))))) := ((x12.trans x3).x).put rfl
  have hp5 : upd H3 p (.ins (CR X.K) dx (putF ("kept_delay" : Str) .non (putF ("kept_answer" : Str) .non (putF ("kept_answered" : Str) (.int 0) (putF ("kept_needless" : Str) (.int 0) (putF ("kept_starts" : Str) (.ref l) [])))))) p = _ := upd_same
  have hl5 : upd H3 p (.ins (CR X.K) dx (putF ("kept_delay" : Str) .non (putF ("kept_answer" : Str) .non (putF ("kept_answered" : Str) (.int 0) (putF ("kept_needless" : Str) (.int 0) (putF ("kept_starts" : Str) (.ref l) [])))))) l = some (.lst []) := (upd_ne (fun z => by subst z; rw [hp3] at hl; cases hl)).trans hl
  generalize upd H3 p (.ins (CR X.K) dx (putF ("kept_delay" : Str) .non (putF ("kept_answer" : Str) .non (putF ("kept_answered" : Str) (.int 0) (putF ("kept_needless" : Str) (.int 0) (putF ("kept_starts" : Str) (.ref l) [])))))) = H5 at xp hp5 hl5 ⊢
  have nl0 : H l = none := x12.back nl
  clear x1 x2 x3 hl hp3 hy
  have hw5 := Tim.x1 hp xp hw
  have nse : ¬ Src (.lst []) := fun ⟨_, _, _, _, e, _⟩ => nomatch e
  refine to_tim hw5 fun y2 H6 x6 hy2 => ?_
  have hp6 := x6.ins hp5
  have hl6 := x6.keep _ _ hl5 nse
  have xp6 : ExX (fun a => a = p) H H6 := xp.ex x6 (fun a o s h => by subst s; rw [hp5] at h; cases h; exact ⟨_, _, _, .inl rfl⟩) (fun l C dx' fs s h => by subst s; exact ⟨_, _, _, hp5⟩)
  repeat walk_at "w"
  rw [rfs_new]
  have hp7 : upd H6 p (.ins (CR X.K) dx (rfs l 0 0 .non .non y2)) p = _ := upd_same
  have hl7 : upd H6 p (.ins (CR X.K) dx (rfs l 0 0 .non .non y2)) l = some (.lst []) := (upd_ne (fun z => by subst z; rw [hp6] at hl6; cases hl6)).trans hl6
  have xp7 : ExX (fun a => a = p) H (upd H6 p (.ins (CR X.K) dx (rfs l 0 0 .non .non y2))) := xp6.put rfl
  have hy7 : TimeV (CT X.K) u y2 (upd H6 p (.ins (CR X.K) dx (rfs l 0 0 .non .non y2))) := by
    refine TimeV.up hp6 (fun dy e => ?_) hy2
    injection e with _ _ e
    have := congrArg List.length e
    rw [show (putF ("kept_delay" : Str) V.non (putF ("kept_answer" : Str) V.non (putF ("kept_answered" : Str) (.int 0) (putF ("kept_needless" : Str) (.int 0) (putF ("kept_starts" : Str) (.ref l) []))))).length = 5 from rfl] at this
    cases this
  generalize upd H6 p (.ins (CR X.K) dx (rfs l 0 0 .non .non y2)) = H7 at hp7 hl7 xp7 hy7 ⊢
  clear hp5 hl5 hp6 hl6 xp xp6 hy2 hw5 x6
  have ht7 : H7 t = some (.tup ys) := xp7.tup (fun e => by subst e; rw [hp] at ht; cases ht) ht
  have hds7 := DTims.x1 hp xp7 hds
  have hw7 := Tim.x1 hp xp7 hw
  refine ws_expr (we_meth (pl := _) B T.c_Round.cl ⟨_, T.e_Round_play, f_play T⟩ (by decide) ?_)
  (first | walk_at "w" | fail)
  refine ⟨p, dx, _, rfl, hp7, rfl, wa_three ?_⟩
  repeat walk_at "w"
  refine ⟨t, ys, ds, rfl, ht7, hds7, lo, lt, fun r zs H8 x8 nr hr hz => ?_⟩
  repeat walk_at "w"
  refine to_tim (hw7.mono x8) fun y3 H9 x9 hy3 => ?_
  repeat walk_at "w"
  have x79 := x8.trans x9
  refine ⟨p, dx, l, r, y3, y2, zs, u, b, ds, N, rfl, x79.ins hp7, hy7.mono x79, x79.keep _ _ hl7 nse, (fun e => by subst e; rw [hl7] at nr; cases nr), x9.keep _ _ hr hz.ns, hz.mono x9, hy3, g, fun H10 pl => ?_⟩
  have xf : ExX (fun a => a = p) H H9 := xp7.ex x79 (fun a o s h => by subst s; rw [hp7] at h; cases h; exact ⟨_, _, _, .inl rfl⟩) (fun l C dx' fs s h => by subst s; exact ⟨_, _, _, hp7⟩)
  obtain ⟨x10, av, dv, lv, vs, q1, q2, q3, q4, q5, q6⟩ := pl
  exact z H10 (ExX.then xf x10 (fun a s => Or.elim s .inl fun e => .inr (by rw [e]; exact nl0)) (fun l C dx' fs s h => by subst s; exact ⟨_, _, _, x79.ins hp7⟩)) ⟨p, dx, l, av, dv, lv, vs, rfl, q1, q2, q3, q4, q5, q6⟩
/-- Round(wait, *delays), with doubled= or without -/
theorem k_Round1 (T : Tm K mg) : GSK P w K mg base 8 "Round" (CR K) ["doubled"] (spStar 2 (fun vs zs => vs ++ zs) (spRInit K)) := by
  obtain ⟨fd, F⟩ := T.d_Round___init__
  refine ⟨_, T.g_Round, T.m_Round, def_star (ps := ["self", "wait", "doubled"]) (pv := "delays") F sc_Round___init__ 2 ["doubled"] [] (fun us _ ws => us ++ ws) (List.cons_ne_nil _ _) (fun q h => nomatch h) (fun r1 _ r3 => r1.append r3) (fun l1 _ l3 => by rw [List.length_append, l1, l3]; rfl) ?_ (body_rinit T)⟩
  intro D doc pm an cdv ct us rest mv ws l1 l2 l3
  match us, ws, l1, l3 with
  | [a, b], [c], _, _ =>
    cases rest with
    | nil => rfl
    | cons r rs => rfl
theorem k_Round0 (T : Tm K mg) : GSK P w K mg base 8 "Round" (CR K) [] (spStar 2 (fun vs zs => vs ++ [.bl false]) (spRInit K)) := by
  obtain ⟨fd, F⟩ := T.d_Round___init__
  refine ⟨_, T.g_Round, T.m_Round, def_star (ps := ["self", "wait", "doubled"]) (pv := "delays") F sc_Round___init__ 2 [] [("doubled", .bl false)] (fun us mv _ => us ++ mv) (List.cons_ne_nil _ _) (fun q h => h) (fun r1 r2 _ => r1.append r2) (fun l1 l2 _ => by rw [List.length_append, l1, l2]; rfl) ?_ (body_rinit T)⟩
  intro D doc pm an cdv ct us rest mv ws l1 l2 l3
  match us, mv, ws, l1, l2, l3 with
  | [a, b], [c], [], _, _, _ =>
    cases rest with
    | nil => exact ⟨_, _, _, _, _, _, rfl, rfl, rfl⟩
    | cons r rs => exact ⟨_, _, _, _, _, _, rfl, rfl, rfl⟩
end

/-! ### what a round tells -/
section
variable {P : Program} {w : World} {K : PySem.W.Frag} {mg : Str → Option Value} {base : Heap}
def spR_sendings (K : PySem.W.Frag) : Sp := fun vs H Q _ => ∃ u b ds N v, vs = [v] ∧ RndV K u b ds N v H ∧ Q (.int N) H
theorem ok_R_sendings (T : Tm K mg) : ∃ fd, FnOk P w K mg base (RX P w) 1 (pgA K (CR K) "sendings") fd ["self"] (spR_sendings K) ∧ Binds K fd ["self"] [] := by
  obtain ⟨fd, F⟩ := T.d_Round_sendings
  refine ⟨fd, def_ok F sc_Round_sendings (fun vs H Q E h => by obtain ⟨u, b, ds, N, v, rfl, _⟩ := h; rfl) ?_, (F.bindsN fun _ _ _ _ _ _ us hl => match us, hl with | [_], _ => rfl)⟩
  intro X eP ew eK em eb eN es hf nd H vs Q E B h
  subst eP ew eK em eb
  have n0 : Sl X 0 "self" := slot_of eN es hf nd rfl (by first | exact Or.inl rfl | exact Or.inr rfl) (by decide) (by decide)
  have z_len : Bn X "len" := bn_of es rfl T.z_len
  obtain ⟨u, b, ds, N, v, rfl, ⟨p, dx, l, av, dv, lv, ws, rfl, hp, ha, hd, hlq, hl, hst⟩, z⟩ := h
  show WB X [_] _ [some (.ref p)] H
  repeat walk_at "w"
  rw [hst.1]
  exact z
def spR_answer (K : PySem.W.Frag) : Sp := fun vs H Q _ => ∃ u b ds N v, vs = [v] ∧ RndV K u b ds N v H ∧ ∀ v', OptT K (rsk 0 u b ds N).ans v' H → Q v' H
theorem ok_R_answer (T : Tm K mg) : ∃ fd, FnOk P w K mg base (RX P w) 1 (pgA K (CR K) "answer") fd ["self"] (spR_answer K) ∧ Binds K fd ["self"] [] := by
  obtain ⟨fd, F⟩ := T.d_Round_answer
  refine ⟨fd, def_ok F sc_Round_answer (fun vs H Q E h => by obtain ⟨u, b, ds, N, v, rfl, _⟩ := h; rfl) ?_, (F.bindsN fun _ _ _ _ _ _ us hl => match us, hl with | [_], _ => rfl)⟩
  intro X eP ew eK em eb eN es hf nd H vs Q E B h
  subst eP ew eK em eb
  have n0 : Sl X 0 "self" := slot_of eN es hf nd rfl (by first | exact Or.inl rfl | exact Or.inr rfl) (by decide) (by decide)
  obtain ⟨u, b, ds, N, v, rfl, ⟨p, dx, l, av, dv, lv, ws, rfl, hp, ha, hd, hlq, hl, hst⟩, z⟩ := h
  show WB X [_] _ [some (.ref p)] H
  repeat walk_at "w"
  exact z _ ha
def spR_needless (K : PySem.W.Frag) : Sp := fun vs H Q _ => ∃ u b ds N v, vs = [v] ∧ RndV K u b ds N v H ∧ Q (.int (rsk 0 u b ds N).nd) H
theorem ok_R_needless (T : Tm K mg) : ∃ fd, FnOk P w K mg base (RX P w) 1 (pgA K (CR K) "needless") fd ["self"] (spR_needless K) ∧ Binds K fd ["self"] [] := by
  obtain ⟨fd, F⟩ := T.d_Round_needless
  refine ⟨fd, def_ok F sc_Round_needless (fun vs H Q E h => by obtain ⟨u, b, ds, N, v, rfl, _⟩ := h; rfl) ?_, (F.bindsN fun _ _ _ _ _ _ us hl => match us, hl with | [_], _ => rfl)⟩
  intro X eP ew eK em eb eN es hf nd H vs Q E B h
  subst eP ew eK em eb
  have n0 : Sl X 0 "self" := slot_of eN es hf nd rfl (by first | exact Or.inl rfl | exact Or.inr rfl) (by decide) (by decide)
  obtain ⟨u, b, ds, N, v, rfl, ⟨p, dx, l, av, dv, lv, ws, rfl, hp, ha, hd, hlq, hl, hst⟩, z⟩ := h
  show WB X [_] _ [some (.ref p)] H
  repeat walk_at "w"
  exact z
def spR_last_wait (K : PySem.W.Frag) : Sp := fun vs H Q _ => ∃ u b ds N v, vs = [v] ∧ RndV K u b ds N v H ∧ ∀ v', TimeV (CT K) (lwk u b N) v' H → Q v' H
theorem ok_R_last_wait (T : Tm K mg) : ∃ fd, FnOk P w K mg base (RX P w) 1 (pgA K (CR K) "last_wait") fd ["self"] (spR_last_wait K) ∧ Binds K fd ["self"] [] := by
  obtain ⟨fd, F⟩ := T.d_Round_last_wait
  refine ⟨fd, def_ok F sc_Round_last_wait (fun vs H Q E h => by obtain ⟨u, b, ds, N, v, rfl, _⟩ := h; rfl) ?_, (F.bindsN fun _ _ _ _ _ _ us hl => match us, hl with | [_], _ => rfl)⟩
  intro X eP ew eK em eb eN es hf nd H vs Q E B h
  subst eP ew eK em eb
  have n0 : Sl X 0 "self" := slot_of eN es hf nd rfl (by first | exact Or.inl rfl | exact Or.inr rfl) (by decide) (by decide)
  obtain ⟨u, b, ds, N, v, rfl, ⟨p, dx, l, av, dv, lv, ws, rfl, hp, ha, hd, hlq, hl, hst⟩, z⟩ := h
  show WB X [_] _ [some (.ref p)] H
  repeat walk_at "w"
  exact z _ hlq
def spR_times (K : PySem.W.Frag) : Sp := fun vs H Q _ => ∃ u b ds N v, vs = [v] ∧ RndV K u b ds N v H ∧ ∀ l ws H', Ex H H' → H l = none → H' l = some (.lst ws) → Starts (CT K) (stk 0 u b) N ws H' → Q (.ref l) H'
theorem f_R_times (T : Tm K mg) : FnR P w K mg base (RX P w) 1 (ma K (CR K) "times") (spR_times K) := by
  obtain ⟨fd, F⟩ := T.d_Round_times
  refine raw_of F (def_ok F sc_Round_times (fun vs H Q E h => by obtain ⟨u, b, ds, N, v, rfl, _⟩ := h; rfl) ?_) (F.bindsN fun _ _ _ _ _ _ us hl => match us, hl with | [_], _ => rfl)
  intro X eP ew eK em eb eN es hf nd H vs Q E B h
  subst eP ew eK em eb
  have n0 : Sl X 0 "self" := slot_of eN es hf nd rfl (by first | exact Or.inl rfl | exact Or.inr rfl) (by decide) (by decide)
  have z_list : Bn X "list" := bn_of es rfl T.z_list
  obtain ⟨u, b, ds, N, v, rfl, ⟨p, dx, l, av, dv, lv, ws, rfl, hp, ha, hd, hlq, hl, hst⟩, z⟩ := h
  show WB X [_] _ [some (.ref p)] H
  refine wb_one (ws_ret (we_listof z_list ?_))
  repeat walk_at "w"
  exact ⟨l, ws, rfl, .inl (.of hl), fun m hm => z m ws _ (Ex.new hm) hm upd_same (hst.mono (Ex.new hm))⟩
end
section
variable {X : Cx} {k : Nat} {E : L2.St → XK} {σ : L2.St} {H : Hp} {Q : VK} {e : Expr} {pos apos : Pos}
theorem we_R_sendings (B : Body X k E) (T : Tm X.K X.mg) (hk : 2 ≤ k) (h : WE X e σ H fun y H1 => ∃ u b ds N, RndV X.K u b ds N y H1 ∧ Q (.int N) H1) (he : attributeBase e "sendings" X.env (eval e X.env) = eval e X.env := by rfl) : WE X (.Attribute e "sendings" pos) σ H Q := by
  obtain ⟨fd, F, hb⟩ := ok_R_sendings (P := X.prog) (w := X.w) (base := X.base) T
  refine we_prop B T.c_Round.cl T.p_Round_sendings F hk hb .nil (we_mono h fun y H1 z => ?_) he
  obtain ⟨u, b, ds, N, hr, z⟩ := z
  have hr' := hr
  obtain ⟨p, dx, l, av, dv, lv, ws, rfl, hp, _⟩ := hr'
  exact ⟨p, dx, _, rfl, hp, u, b, ds, N, _, rfl, hr, z⟩
theorem we_R_answer (B : Body X k E) (T : Tm X.K X.mg) (hk : 2 ≤ k) (h : WE X e σ H fun y H1 => ∃ u b ds N, RndV X.K u b ds N y H1 ∧ ∀ v', OptT X.K (rsk 0 u b ds N).ans v' H1 → Q v' H1) (he : attributeBase e "answer" X.env (eval e X.env) = eval e X.env := by rfl) : WE X (.Attribute e "answer" pos) σ H Q := by
  obtain ⟨fd, F, hb⟩ := ok_R_answer (P := X.prog) (w := X.w) (base := X.base) T
  refine we_prop B T.c_Round.cl T.p_Round_answer F hk hb .nil (we_mono h fun y H1 z => ?_) he
  obtain ⟨u, b, ds, N, hr, z⟩ := z
  have hr' := hr
  obtain ⟨p, dx, l, av, dv, lv, ws, rfl, hp, _⟩ := hr'
  exact ⟨p, dx, _, rfl, hp, u, b, ds, N, _, rfl, hr, z⟩
theorem we_R_needless (B : Body X k E) (T : Tm X.K X.mg) (hk : 2 ≤ k) (h : WE X e σ H fun y H1 => ∃ u b ds N, RndV X.K u b ds N y H1 ∧ Q (.int (rsk 0 u b ds N).nd) H1) (he : attributeBase e "needless" X.env (eval e X.env) = eval e X.env := by rfl) : WE X (.Attribute e "needless" pos) σ H Q := by
  obtain ⟨fd, F, hb⟩ := ok_R_needless (P := X.prog) (w := X.w) (base := X.base) T
  refine we_prop B T.c_Round.cl T.p_Round_needless F hk hb .nil (we_mono h fun y H1 z => ?_) he
  obtain ⟨u, b, ds, N, hr, z⟩ := z
  have hr' := hr
  obtain ⟨p, dx, l, av, dv, lv, ws, rfl, hp, _⟩ := hr'
  exact ⟨p, dx, _, rfl, hp, u, b, ds, N, _, rfl, hr, z⟩
theorem we_R_last_wait (B : Body X k E) (T : Tm X.K X.mg) (hk : 2 ≤ k) (h : WE X e σ H fun y H1 => ∃ u b ds N, RndV X.K u b ds N y H1 ∧ ∀ v', TimeV (CT X.K) (lwk u b N) v' H1 → Q v' H1) (he : attributeBase e "last_wait" X.env (eval e X.env) = eval e X.env := by rfl) : WE X (.Attribute e "last_wait" pos) σ H Q := by
  obtain ⟨fd, F, hb⟩ := ok_R_last_wait (P := X.prog) (w := X.w) (base := X.base) T
  refine we_prop B T.c_Round.cl T.p_Round_last_wait F hk hb .nil (we_mono h fun y H1 z => ?_) he
  obtain ⟨u, b, ds, N, hr, z⟩ := z
  have hr' := hr
  obtain ⟨p, dx, l, av, dv, lv, ws, rfl, hp, _⟩ := hr'
  exact ⟨p, dx, _, rfl, hp, u, b, ds, N, _, rfl, hr, z⟩
theorem rv_ok {K : PySem.W.Frag} {u : Rat} {b : Bool} {ds : List (Option Rat)} {N : Nat} {v : V} {H : Hp} {R : Rat → Bool → List (Option Rat) → Nat → Prop} (h : RndV K u b ds N v H) (z : R u b ds N) : ∃ u b ds N, RndV K u b ds N v H ∧ R u b ds N := ⟨u, b, ds, N, h, z⟩
theorem we_R_times {pl : Sem Bool} (B : Body X k E) (T : Tm X.K X.mg) (hk : 1 ≤ k) (h : WE X e σ H fun y H1 => ∃ u b ds N, RndV X.K u b ds N y H1 ∧ ∀ l ws H', Ex H1 H' → H1 l = none → H' l = some (.lst ws) → Starts (CT X.K) (stk 0 u b) N ws H' → Q (.ref l) H')
    (ht : eval (.Call (.Attribute e "times" apos) [] [] pos) X.env = (do
      let it ← eval e X.env
      standAt apos.atName
      let (g, first) ← holding [it] (getMethod it "times" pl)
      callWith pos g first (backTo pos (starEach [] X.env)) (backToKw pos (keywordEach [] X.env))) := by rfl) : WE X (.Call (.Attribute e "times" apos) [] [] pos) σ H Q :=
  we_meth0 (pl := pl) B T.c_Round.cl ⟨_, T.e_Round_times, f_R_times T⟩ hk (we_mono h fun y H1 z => by
    obtain ⟨u, b, ds, N, hr, z⟩ := z
    have hr' := hr
    obtain ⟨p, dx, l, av, dv, lv, ws, rfl, hp, _⟩ := hr'
    exact ⟨p, dx, _, rfl, hp, rfl, u, b, ds, N, _, rfl, hr, z⟩) ht
end
local macro_rules | `(tactic| walk_at "rv") => `(tactic| first | assumption | ((with_reducible refine' RndV.mono ?x ?h); (case h => assumption); (case x => walk_at "x")) | fail)
local macro_rules | `(tactic| walk_at "wE") => `(tactic| first | ((with_reducible refine' we_R_sendings ?B ?T ?hk ?_ ?he); (case B => assumption); (case T => assumption); (case hk => decide); (case he => rfl)) | ((with_reducible refine' we_R_answer ?B ?T ?hk ?_ ?he); (case B => assumption); (case T => assumption); (case hk => decide); (case he => rfl)) | ((with_reducible refine' we_R_needless ?B ?T ?hk ?_ ?he); (case B => assumption); (case T => assumption); (case hk => decide); (case he => rfl)) | ((with_reducible refine' we_R_last_wait ?B ?T ?hk ?_ ?he); (case B => assumption); (case T => assumption); (case hk => decide); (case he => rfl)) | fail)
local macro_rules | `(tactic| walk_at "wX") => `(tactic| first | ((with_reducible refine' rv_ok ?h ?_); (case h => walk_at "rv")) | fail)

/-! ### Round.learned -/
section
variable {P : Program} {w : World} {K : PySem.W.Frag} {mg : Str → Option Value} {base : Heap}
def spFirst (K : PySem.W.Frag) : Sp := fun vs H Q _ => ∃ u b ds N v, vs = [v, .str "first"] ∧ RndV K u b ds N v H ∧ ∀ v', OptT K (rsk 0 u b ds N).ans v' H → Q v' H
theorem f_first (T : Tm K mg) : FnR P w K mg base (RX P w) 1 (ma K (CR K) "learned") (spFirst K) := by
  obtain ⟨fd, F⟩ := T.d_Round_learned
  refine raw_of F (def_ok F sc_Round_learned (fun vs H Q E h => by obtain ⟨u, b, ds, N, v, rfl, _⟩ := h; rfl) ?_) (F.bindsN fun _ _ _ _ _ _ us hl => match us, hl with | [_, _], _ => rfl)
  intro X eP ew eK em eb eN es hf nd H vs Q E B h
  subst eP ew eK em eb
  have n0 : Sl X 0 "self" := slot_of eN es hf nd rfl (by first | exact Or.inl rfl | exact Or.inr rfl) (by decide) (by decide)
  have n1 : Sl X 1 "word" := slot_of eN es hf nd rfl (by first | exact Or.inl rfl | exact Or.inr rfl) (by decide) (by decide)
  have g_BadBook : Gn X "BadBook" := gn_of es rfl (by decide)
  have m_BadBook := T.g_BadBook
  have z_len : Bn X "len" := bn_of es rfl T.z_len
  obtain ⟨u, b, ds, N, v, rfl, ⟨p, dx, l, av, dv, lv, ws, rfl, hp, ha, hd, hlq, hl, hst⟩, z⟩ := h
  show WB X [_, _, _, _, _] _ [some (.ref p), some (.str "first")] H
  repeat walk_at "w"
  repeat walk_at "w"
  exact z _ ha
def spMarked (K : PySem.W.Frag) : Sp := fun vs H Q _ => ∃ u b ds N v, vs = [v, .str "marked"] ∧ RndV K u b ds N v H ∧ ∀ v', OptT K (rsk 0 u b ds N).dly v' H → Q v' H
theorem f_marked (T : Tm K mg) : FnR P w K mg base (RX P w) 1 (ma K (CR K) "learned") (spMarked K) := by
  obtain ⟨fd, F⟩ := T.d_Round_learned
  refine raw_of F (def_ok F sc_Round_learned (fun vs H Q E h => by obtain ⟨u, b, ds, N, v, rfl, _⟩ := h; rfl) ?_) (F.bindsN fun _ _ _ _ _ _ us hl => match us, hl with | [_, _], _ => rfl)
  intro X eP ew eK em eb eN es hf nd H vs Q E B h
  subst eP ew eK em eb
  have n0 : Sl X 0 "self" := slot_of eN es hf nd rfl (by first | exact Or.inl rfl | exact Or.inr rfl) (by decide) (by decide)
  have n1 : Sl X 1 "word" := slot_of eN es hf nd rfl (by first | exact Or.inl rfl | exact Or.inr rfl) (by decide) (by decide)
  have g_BadBook : Gn X "BadBook" := gn_of es rfl (by decide)
  have m_BadBook := T.g_BadBook
  have z_len : Bn X "len" := bn_of es rfl T.z_len
  obtain ⟨u, b, ds, N, v, rfl, ⟨p, dx, l, av, dv, lv, ws, rfl, hp, ha, hd, hlq, hl, hst⟩, z⟩ := h
  show WB X [_, _, _, _, _] _ [some (.ref p), some (.str "marked")] H
  repeat walk_at "w"
  repeat walk_at "w"
  repeat walk_at "w"
  repeat walk_at "w"
  exact z _ hd
def spLast (K : PySem.W.Frag) : Sp := fun vs H Q _ => ∃ u b ds N v a, vs = [v, .str "last"] ∧ RndV K u b ds N v H ∧ (rsk 0 u b ds N).ans = some a ∧ 0 < N ∧ Sz a 4000 ∧ Sz (stk 0 u b (N - 1)) 4000 ∧ ∀ v' H', Ex H H' → TimeV (CT K) (a - stk 0 u b (N - 1)) v' H' → Q v' H'
theorem f_last (T : Tm K mg) : FnR P w K mg base (RX P w) 6 (ma K (CR K) "learned") (spLast K) := by
  obtain ⟨fd, F⟩ := T.d_Round_learned
  refine raw_of F (def_ok F sc_Round_learned (fun vs H Q E h => by obtain ⟨u, b, ds, N, v, a, rfl, _⟩ := h; rfl) ?_) (F.bindsN fun _ _ _ _ _ _ us hl => match us, hl with | [_, _], _ => rfl)
  intro X eP ew eK em eb eN es hf nd H vs Q E B h
  subst eP ew eK em eb
  have n0 : Sl X 0 "self" := slot_of eN es hf nd rfl (by first | exact Or.inl rfl | exact Or.inr rfl) (by decide) (by decide)
  have n1 : Sl X 1 "word" := slot_of eN es hf nd rfl (by first | exact Or.inl rfl | exact Or.inr rfl) (by decide) (by decide)
  have g_BadBook : Gn X "BadBook" := gn_of es rfl (by decide)
  have m_BadBook := T.g_BadBook
  have z_len : Bn X "len" := bn_of es rfl T.z_len
  obtain ⟨u, b, ds, N, v, a, rfl, ⟨p, dx, l, av, dv, lv, ws, rfl, hp, ha, hd, hlq, hl, hst⟩, ea, n0', s1, s2, z⟩ := h
  show WB X [_, _, _, _, _] _ [some (.ref p), some (.str "last")] H
  rw [ea] at ha
  have ha : TimeV (CT X.K) a av H := ha
  have wl : ws.length - 1 < ws.length := by rw [hst.1]; omega
  have hvl := hst.2 _ _ (List.getElem?_eq_getElem wl)
  have ia : atI ws (-1) = some ws[ws.length - 1] := by
    unfold atI
    rw [ix_last (by omega)]
    exact List.getElem?_eq_getElem wl
  have eN1 : stk 0 u b (ws.length - 1) = stk 0 u b (N - 1) := by rw [hst.1]
  rw [eN1] at hvl
  repeat walk_at "w"
  repeat walk_at "w"
  repeat walk_at "w"
  refine at_l hl ia ?_
  repeat walk_at "w"
  exact z _ _ (by walk_at "x") (by assumption)
def spClean (K : PySem.W.Frag) : Sp := fun vs H Q _ => ∃ u b ds N v, vs = [v, .str "clean"] ∧ RndV K u b ds N v H ∧ ∀ v', OptT K (if N = 1 then (rsk 0 u b ds N).ans else none) v' H → Q v' H
theorem f_clean (T : Tm K mg) : FnR P w K mg base (RX P w) 1 (ma K (CR K) "learned") (spClean K) := by
  obtain ⟨fd, F⟩ := T.d_Round_learned
  refine raw_of F (def_ok F sc_Round_learned (fun vs H Q E h => by obtain ⟨u, b, ds, N, v, rfl, _⟩ := h; rfl) ?_) (F.bindsN fun _ _ _ _ _ _ us hl => match us, hl with | [_, _], _ => rfl)
  intro X eP ew eK em eb eN es hf nd H vs Q E B h
  subst eP ew eK em eb
  have n0 : Sl X 0 "self" := slot_of eN es hf nd rfl (by first | exact Or.inl rfl | exact Or.inr rfl) (by decide) (by decide)
  have n1 : Sl X 1 "word" := slot_of eN es hf nd rfl (by first | exact Or.inl rfl | exact Or.inr rfl) (by decide) (by decide)
  have g_BadBook : Gn X "BadBook" := gn_of es rfl (by decide)
  have m_BadBook := T.g_BadBook
  have z_len : Bn X "len" := bn_of es rfl T.z_len
  obtain ⟨u, b, ds, N, v, rfl, ⟨p, dx, l, av, dv, lv, ws, rfl, hp, ha, hd, hlq, hl, hst⟩, z⟩ := h
  show WB X [_, _, _, _, _] _ [some (.ref p), some (.str "clean")] H
  repeat walk_at "w"
  repeat walk_at "w"
  repeat walk_at "w"
  repeat walk_at "w"
  refine o_neS ?_
  rw [decide_eq_true (rfl : ("clean" : Str) = "clean")]
  repeat walk_at "w"
  rw [hst.1]
  refine ite_dec (fun h => ?_) (fun h => ?_)
  · repeat walk_at "w"
    exact z _ (by rw [if_pos (by omega)]; exact ha)
  · repeat walk_at "w"
    exact z _ (by rw [if_neg (by omega)]; exact rfl)
end

/-! ### a round made -/
section
variable {P : Program} {w : World} {K : PySem.W.Frag} {mg : Str → Option Value} {base : Heap}
theorem made_r {H : Hp} {Q : VK} {E : XK} {wv : V} {u : Rat} {b : Bool} {ds : List (Option Rat)} {ys : List V} {N : Nat} (hw : Tim K u wv H) (u0 : 0 < u) (hd : DTims K ds ys H) (lo : LastOk ds) (lt : ds.length < 1000) (g : Game u b ds N) (k : ∀ v H', Ex H H' → RndV K u b ds N v H' → Q v H') :
    ∀ a dx, H a = none → H dx = none → dx ≠ a → spStar 2 (fun vs zs => vs ++ zs) (spRInit K) (.ref a :: wv :: ys) [.bl b] (upd (upd H dx (.own a)) a (.ins (CR K) dx [])) (fun v H2 => v = .non ∧ Q (.ref a) H2) E := by
  intro a dx na nd ne
  have x1 : Ex H (upd (upd H dx (.own a)) a (.ins (CR K) dx [])) := Ex.new2 na nd
  refine ⟨[.ref a, wv], ys, rfl, rfl, by rw [hd.1]; exact Nat.le_of_lt (Nat.lt_of_lt_of_le lt (by decide)), fun t ht => ?_⟩
  have x2 := x1.trans (Ex.new (o := .tup ys) ht)
  refine ⟨a, dx, wv, b, t, ys, u, ds, N, rfl, (upd_ne (fun e => by subst e; rw [upd_same] at ht; cases ht)).trans upd_same, hw.mono x2, u0, upd_same, hd.mono x2, lo, lt, g, fun H' x3 hr => ⟨rfl, k _ _ (ExX.fresh x2 x3 fun c e => by subst e; exact na) hr⟩⟩
theorem made_r0 {H : Hp} {Q : VK} {E : XK} {wv : V} {u : Rat} {ds : List (Option Rat)} {ys : List V} {N : Nat} (hw : Tim K u wv H) (u0 : 0 < u) (hd : DTims K ds ys H) (lo : LastOk ds) (lt : ds.length < 1000) (g : Game u false ds N) (k : ∀ v H', Ex H H' → RndV K u false ds N v H' → Q v H') :
    ∀ a dx, H a = none → H dx = none → dx ≠ a → spStar 2 (fun vs zs => vs ++ [.bl false]) (spRInit K) (.ref a :: wv :: ys) [] (upd (upd H dx (.own a)) a (.ins (CR K) dx [])) (fun v H2 => v = .non ∧ Q (.ref a) H2) E := by
  intro a dx na nd ne
  obtain ⟨ws, rest, e1, e2, e3, e4⟩ := made_r (E := E) hw u0 hd lo lt g k a dx na nd ne
  exact ⟨ws, rest, e1, e2, e3, e4⟩
end

--IMPORT Fw36
/-! ### copied, and what a sender is -/
section
variable {P : Program} {w : World} {K : PySem.W.Frag} {mg : Str → Option Value} {base : Heap}
def spCopied (K : PySem.W.Frag) : Sp := fun vs H Q _ => ∃ z v, vs = [v] ∧ BookV K z v H ∧ BkOk z ∧ ∀ a H', H a = none → Ex H H' → BookV K z (.ref a) H' → Q (.ref a) H'
theorem f_copied (T : Tm K mg) : GFn P w K mg base 12 "copied" (spCopied K) := by
  obtain ⟨fd, F⟩ := T.d_copied
  refine GFn.mk F T.g_copied (def_ok F sc_copied (fun vs H Q E h => by obtain ⟨z, v, rfl, _⟩ := h; rfl) ?_) (F.bindsN fun _ _ _ _ _ _ us hl => match us, hl with | [_], _ => rfl)
  intro X eP ew eK em eb eN es hf nd H vs Q E B h
  subst eP ew eK em eb
  have n0 : Sl X 0 "book" := slot_of eN es hf nd rfl (by first | exact Or.inl rfl | exact Or.inr rfl) (by decide) (by decide)
  have g_Book : Gn X "Book" := gn_of es rfl (by decide)
  have m_Book := T.g_Book
  obtain ⟨z, v, rfl, hb, ok, k⟩ := h
  show WB X [_] _ [some (v)] H
  refine wb_one (ws_ret ?_)
  refine we_makeK0 B g_Book (k_Book9 T) (by decide) ?_
  refine wk_cons ?_
  repeat walk_at "w"
  refine wk_cons ?_
  repeat walk_at "w"
  intro v1 h1
  refine wk_cons ?_
  repeat walk_at "w"
  refine wk_cons ?_
  repeat walk_at "w"
  intro v3 h3
  refine wk_cons ?_
  repeat walk_at "w"
  intro v4 h4
  refine wk_cons ?_
  repeat walk_at "w"
  intro v5 h5
  refine wk_cons ?_
  repeat walk_at "w"
  intro v6 h6
  refine wk_cons ?_
  repeat walk_at "w"
  refine wk_cons ?_
  repeat walk_at "w"
  refine wk_nil ⟨rfl, ?_⟩
  exact made_bn (K := X.K) ⟨.inl h1, .inl h3, .inl h4, OptT.oTim h5, OptT.oTim h6⟩ ok k
end
/-! ### senders -/
structure SS where
  bk : Bk
  est : Rat
  wt : Rat
  sm : List Rat
  rn : Int
  nd : Int
def CS (K : PySem.W.Frag) : Addr := ga K "Sender"
abbrev sfs (w b e s : V) (r n : Int) : List (Str × V) := [("held_wait", w), ("held_book", b), ("held_estimate", e), ("held_samples", s), ("held_rounds", .int r), ("held_needless", .int n)]
def TmL (C : Addr) (qs : List Rat) (vs : List V) (H : Hp) : Prop := vs.length = qs.length ∧ ∀ (j : Nat) (v : V), vs[j]? = some v → TimeV C (qs.getD j 0) v H
theorem TmL.mono {C : Addr} {qs : List Rat} {vs : List V} {H H' : Hp} (x : Ex H H') (h : TmL C qs vs H) : TmL C qs vs H' := ⟨h.1, fun j v e => TimeV.mono x (h.2 j v e)⟩
theorem TmL.ns {C : Addr} {qs : List Rat} {vs : List V} {H : Hp} (h : TmL C qs vs H) : ¬ Src (.lst vs) := refs_not_src fun j v e => by
  obtain ⟨p, dx, rfl, _⟩ := h.2 j v e
  exact .inl ⟨p, rfl⟩
structure SndP (K : PySem.W.Frag) (st : SS) (p dx : Addr) (wv bv ev : V) (l : Addr) (ss : List V) (H : Hp) : Prop where
  hp : H p = some (.ins (CS K) dx (sfs wv bv ev (.ref l) st.rn st.nd))
  wv : TimeV (CT K) st.wt wv H
  bv : BookV K st.bk bv H
  ev : TimeV (CT K) st.est ev H
  hl : H l = some (.lst ss)
  ss : TmL (CT K) st.sm ss H
def SndV (K : PySem.W.Frag) (st : SS) (v : V) (H : Hp) : Prop := ∃ p dx wv bv ev l ss, v = .ref p ∧ SndP K st p dx wv bv ev l ss H
/-- .. whose book is at b -/
def SndW (K : PySem.W.Frag) (st : SS) (v : V) (b : Addr) (H : Hp) : Prop := ∃ p dx wv ev l ss, v = .ref p ∧ SndP K st p dx wv (.ref b) ev l ss H
theorem SndW.v {K : PySem.W.Frag} {st : SS} {v : V} {b : Addr} {H : Hp} (h : SndW K st v b H) : SndV K st v H := by
  obtain ⟨p, dx, wv, ev, l, ss, e, h⟩ := h
  exact ⟨p, dx, wv, .ref b, ev, l, ss, e, h⟩
theorem SndV.w {K : PySem.W.Frag} {st : SS} {v : V} {H : Hp} (h : SndV K st v H) : ∃ b, SndW K st v b H := by
  obtain ⟨p, dx, wv, bv, ev, l, ss, e, h⟩ := h
  obtain ⟨b, _, _, _, _, _, _, _, rfl, _⟩ := id h.bv
  exact ⟨b, p, dx, wv, ev, l, ss, e, h⟩
theorem SndP.mono {K : PySem.W.Frag} {st : SS} {p dx l : Addr} {wv bv ev : V} {ss : List V} {H H' : Hp} (x : Ex H H') (h : SndP K st p dx wv bv ev l ss H) : SndP K st p dx wv bv ev l ss H' := ⟨x.ins h.hp, h.wv.mono x, h.bv.mono x, h.ev.mono x, x.keep _ _ h.hl h.ss.ns, h.ss.mono x⟩
theorem SndV.mono {K : PySem.W.Frag} {st : SS} {v : V} {H H' : Hp} (x : Ex H H') (h : SndV K st v H) : SndV K st v H' := by
  obtain ⟨p, dx, wv, bv, ev, l, ss, e, h⟩ := h
  exact ⟨p, dx, wv, bv, ev, l, ss, e, h.mono x⟩
theorem SndW.mono {K : PySem.W.Frag} {st : SS} {v : V} {b : Addr} {H H' : Hp} (x : Ex H H') (h : SndW K st v b H) : SndW K st v b H' := by
  obtain ⟨p, dx, wv, ev, l, ss, e, h⟩ := h
  exact ⟨p, dx, wv, ev, l, ss, e, h.mono x⟩
/-- an instance of the class of senders -/
def IsS (K : PySem.W.Frag) (o : HO) : Prop := ∃ dx f v fs, o = .ins (CS K) dx ((f, v) :: fs) ∧ f = ("held_wait" : Str)
/-- what stands when senders are changed -/
structure Sx (K : PySem.W.Frag) (H H' : Hp) : Prop where
  kp : ∀ a o, H a = some o → ¬ Src o → ¬ IsS K o → H' a = some o
  src : ∀ a l o, H a = some o → SrcL l o → ∃ o', H' a = some o' ∧ SrcL l o'
section
variable {K : PySem.W.Frag} {H H' H2 : Hp}
theorem Ex.sx (x : Ex H H') : Sx K H H' := ⟨fun a o h n _ => x.keep a o h n, x.src⟩
theorem ExX.sx {p : Addr} {o : HO} (x : ExX (fun a => a = p) H H') (hp : H p = some o) (b : IsS K o) : Sx K H H' :=
  ⟨fun a u h n nb => x.kp a u (fun e => by subst e; rw [hp] at h; cases h; exact nb b) h (.inl n), fun a l u h s => x.src a l u (fun e => by subst e; rw [hp] at h; cases h; obtain ⟨_, _, _, _, rfl, _⟩ := b; exact not_src_ins ⟨_, s⟩) h s⟩
theorem Sx.trans (x : Sx K H H') (y : Sx K H' H2) : Sx K H H2 := ⟨fun a o h n b => y.kp a o (x.kp a o h n b) n b, fun a l o h s => by
  obtain ⟨o1, h1, s1⟩ := x.src a l o h s
  exact y.src a l o1 h1 s1⟩
theorem lst_nS {xs : List V} : ¬ IsS K (.lst xs) := fun ⟨_, _, _, _, e, _⟩ => nomatch e
theorem tup_nS {xs : List V} : ¬ IsS K (.tup xs) := fun ⟨_, _, _, _, e, _⟩ => nomatch e
theorem Sou.sx {p : Addr} (s : Sou H p) (x : Sx K H H') : Sou H' p := by
  obtain ⟨l, o, ns, h1, h2, h3⟩ := s.ex
  obtain ⟨o', h4, h5⟩ := x.src p l o h1 h2
  exact ⟨l, o', ns, h4, h5, x.kp l _ h3 not_src_ints lst_nS⟩
theorem ins_nS {C dx : Addr} {f : Str} {v : V} {fs : List (Str × V)} (h : f ≠ "held_wait") : ¬ IsS K (.ins C dx ((f, v) :: fs)) := fun ⟨_, _, _, _, e, e2⟩ => by
  injection e with _ _ e
  injection e with e _
  injection e with e _
  exact h (e.trans e2)
theorem TimeV.sx {C : Addr} {q : Rat} {v : V} (x : Sx K H H') (h : TimeV C q v H) : TimeV C q v H' := by
  obtain ⟨p, dx, e, h⟩ := h
  exact ⟨p, dx, e, x.kp _ _ h not_src_ins (ins_nS (by decide))⟩
theorem OptT.sx {o : Option Rat} {v : V} (x : Sx K H H') (h : OptT K o v H) : OptT K o v H' := by
  cases o with
  | none => exact h
  | some q => exact TimeV.sx x h
theorem TmL.sx {C : Addr} {qs : List Rat} {vs : List V} (x : Sx K H H') (h : TmL C qs vs H) : TmL C qs vs H' := ⟨h.1, fun j v e => TimeV.sx x (h.2 j v e)⟩
theorem BookV.sx {z : Bk} {v : V} (x : Sx K H H') (h : BookV K z v H) : BookV K z v H' := by
  obtain ⟨p, dx, d, sh, fa, ma, fl, ro, rfl, hp, hd, hk⟩ := h
  exact ⟨p, dx, d, sh, fa, ma, fl, ro, rfl, x.kp _ _ hp not_src_ins (ins_nS (by decide)), x.kp _ _ hd not_src_dk (fun ⟨_, _, _, _, e, _⟩ => nomatch e), TimeV.sx x hk.sh, TimeV.sx x hk.fa, TimeV.sx x hk.ma, hk.fl.sx x, hk.ro.sx x⟩
theorem SndP.isS {st : SS} {p dx l : Addr} {wv bv ev : V} {ss : List V} (h : SndP K st p dx wv bv ev l ss H) : ∃ o, H p = some o ∧ IsS K o := ⟨_, h.hp, _, _, _, _, rfl, rfl⟩
/-- another sender stands -/
theorem SndV.xx {st : SS} {v : V} {p : Addr} {o : HO} (x : ExX (fun b => b = p) H H') (hp : H p = some o) (b : IsS K o) (h : SndV K st v H) (ne : v ≠ .ref p) : SndV K st v H' := by
  obtain ⟨a, dx, wv, bv, ev, l, ss, rfl, h⟩ := h
  have y := ExX.sx x hp b
  exact ⟨a, dx, wv, bv, ev, l, ss, rfl, x.ins (fun e => ne (by rw [e])) h.hp, TimeV.sx y h.wv, h.bv.sx y, TimeV.sx y h.ev, y.kp _ _ h.hl h.ss.ns lst_nS, h.ss.sx y⟩
end
/-! ### what a sender learns -/
def smp (word : Str) (u : Rat) (b : Bool) (ds : List (Option Rat)) (N : Nat) : Option Rat :=
  if word = "first" then (rsk 0 u b ds N).ans else if word = "last" then (rsk 0 u b ds N).ans.map (fun a => a - stk 0 u b (N - 1)) else if word = "marked" then (rsk 0 u b ds N).dly else if N = 1 then (rsk 0 u b ds N).ans else none
def lrnE (st : SS) (s : Rat) : Rat := match st.bk.latest with
  | none => st.est + st.bk.share * (s - st.est)
  | some _ => (st.sm.tail ++ [s]).foldl rmax s
def lrnS (st : SS) (s : Rat) : List Rat := match st.bk.latest with
  | none => [lrnE st s]
  | some _ => st.sm.tail ++ [s]
def lrn (st : SS) (s : Rat) : SS := { st with est := lrnE st s, sm := lrnS st s, wt := madeW st.bk (lrnE st s) }
def stp (st : SS) (ds : List (Option Rat)) (N : Nat) : SS :=
  let m : SS := match smp st.bk.word st.wt st.bk.doubled ds N with
    | some s => lrn st s
    | none => if st.bk.kept = true then { st with wt := lwk st.wt st.bk.doubled N } else st
  { m with rn := st.rn + 1, nd := st.nd + (rsk 0 st.wt st.bk.doubled ds N).nd }
def begun (z : Bk) (e : Rat) : SS := ⟨z, e, madeW z e, match z.latest with
  | none => [e]
  | some n => List.replicate n e, 0, 0⟩

/-! ### a sender made -/
theorem foldl_rmax_rep {e : Rat} : ∀ n, (List.replicate n e).foldl rmax e = e := fun n => by
  induction n with
  | zero => rfl
  | succ n ih =>
    rw [List.replicate_succ, List.foldl_cons, show rmax e e = e from by unfold rmax; split <;> rfl]
    exact ih
section
variable {X : Cx} {σ : L2.St} {H : Hp} {D : Ends} {Q : VK} {e o value : Expr} {pos pos' : Pos} {f : Str}
def sflds : List Str := ["held_wait", "held_book", "held_estimate", "held_samples", "held_rounds", "held_needless"]
theorem no_held_wait (T : Tm X.K X.mg) : NoAttr X.K (CS X.K) "held_wait" := T.n_Sender_held_wait
theorem noAttrS {K : PySem.W.Frag} {mg : Str → Option Value} (T : Tm K mg) (h : f ∈ sflds) : NoAttr K (CS K) f := by
  simp only [sflds, List.mem_cons, List.not_mem_nil, or_false] at h
  rcases h with rfl | rfl | rfl | rfl | rfl | rfl
  · exact T.n_Sender_held_wait
  · exact T.n_Sender_held_book
  · exact T.n_Sender_held_estimate
  · exact T.n_Sender_held_samples
  · exact T.n_Sender_held_rounds
  · exact T.n_Sender_held_needless
theorem we_sf (T : Tm X.K X.mg) (hf : f ∈ sflds) (h : WE X e σ H fun y H1 => ∃ a dx fs v, y = .ref a ∧ H1 a = some (.ins (CS X.K) dx fs) ∧ fs.lookup f = some v ∧ Q v H1) (hb : attributeBase e f X.env (eval e X.env) = eval e X.env := by rfl) : WE X (.Attribute e f pos) σ H Q := we_fld T.c_Sender.cl (noAttrS T hf) h hb
theorem ws_sf (T : Tm X.K X.mg) (hf : f ∈ sflds) (h : WE X value σ H fun y H1 => WE X o σ H1 fun z H2 => ∃ a dx fs, z = .ref a ∧ H2 a = some (.ins (CS X.K) dx fs) ∧ fs.length < 1000 ∧ D.nx σ (upd H2 a (.ins (CS X.K) dx (putF f y fs)))) (hs : swapsWith value (some (.Attribute o f pos')) pos.line X.env = pure false := by rfl) : WS X (.Assign [.Attribute o f pos'] value pos) D σ H := ws_fld T.c_Sender.cl (noAttrS T hf) h hs
theorem sf_i {p C dx : Addr} {fs : List (Str × V)} {v : V} {P : V → Prop} (hp : H p = some (.ins C dx fs)) (hv : fs.lookup f = some v) (q : P v) : ∃ a dx' fs' v', V.ref p = .ref a ∧ H a = some (.ins C dx' fs') ∧ fs'.lookup f = some v' ∧ P v' := ⟨p, dx, fs, v, rfl, hp, hv, q⟩
theorem sp_i {p C dx : Addr} {fs : List (Str × V)} {P : Addr → List (Str × V) → Addr → Prop} (hp : H p = some (.ins C dx fs)) (hl : fs.length < 1000) (q : P dx fs p) : ∃ a dx' fs', V.ref p = .ref a ∧ H a = some (.ins C dx' fs') ∧ fs'.length < 1000 ∧ P dx' fs' a := ⟨p, dx, fs, rfl, hp, hl, q⟩
end
local macro_rules | `(tactic| walk_at "wE") => `(tactic| first | ((with_reducible refine' we_sf ?T ?hf ?_ ?hb); (case T => assumption); (case hf => decide +kernel); (case hb => rfl)) | fail)
local macro_rules | `(tactic| walk_at "wS") => `(tactic| first | ((with_reducible refine' ws_sf ?T ?hf ?_ ?hs); (case T => assumption); (case hf => decide +kernel); (case hs => rfl)) | fail)
section
variable {K : PySem.W.Frag} {H H' H2 : Hp} {p dx : Addr} {fs fs' : List (Str × V)}
/-- the object at p, an instance of a sender being made or made, is stored to -/
structure Pz (K : PySem.W.Frag) (p : Addr) (H H' : Hp) : Prop where
  x : ExX (fun a => a = p) H H'
  st : ∃ dx fs, H p = some (.ins (CS K) dx fs) ∧ ∃ fs', H' p = some (.ins (CS K) dx fs')
/-- fields of a sender: none is a time's or a book's -/
def SF (fs : List (Str × V)) : Prop := fs = [] ∨ ∃ v gs, fs = (("held_wait" : Str), v) :: gs
theorem SF.time {q : Rat} (h : SF fs) : fs ≠ tfs q := by
  rintro rfl
  rcases h with h | ⟨v, gs, h⟩
  · cases h
  · injection h with h _
    injection h with h _
    exact absurd h (by decide)
theorem SF.book {d : Addr} (h : SF fs) : fs ≠ [(("rules" : Str), V.ref d)] := by
  rintro rfl
  rcases h with h | ⟨v, gs, h⟩
  · cases h
  · injection h with h _
    injection h with h _
    exact absurd h (by decide)
theorem TimeV.zx {C : Addr} {q : Rat} {v : V} (x : ExX (fun a => a = p) H H') (hp : H p = some (.ins (CS K) dx fs)) (s : SF fs) (h : TimeV C q v H) : TimeV C q v H' := by
  obtain ⟨a, da, e, h⟩ := h
  refine ⟨a, da, e, x.ins (fun e2 => ?_) h⟩
  subst e2
  rw [hp] at h
  injection h with h
  injection h with _ _ h
  exact SF.time s h
theorem OptT.zx {o : Option Rat} {v : V} (x : ExX (fun a => a = p) H H') (hp : H p = some (.ins (CS K) dx fs)) (s : SF fs) (h : OptT K o v H) : OptT K o v H' := by
  cases o with
  | none => exact h
  | some q => exact TimeV.zx x hp s h
theorem BookV.zx {z : Bk} {v : V} (x : ExX (fun a => a = p) H H') (hp : H p = some (.ins (CS K) dx fs)) (s : SF fs) (h : BookV K z v H) : BookV K z v H' := by
  obtain ⟨a, da, d, sh, fa, ma, fl, ro, rfl, ha, hd, hk⟩ := h
  have t : ∀ {q : Rat} {v : V}, TimeV (CT K) q v H → TimeV (CT K) q v H' := fun h => TimeV.zx x hp s h
  have o : ∀ {q : Option Rat} {v : V}, OptT K q v H → OptT K q v H' := fun h => OptT.zx x hp s h
  refine ⟨a, da, d, sh, fa, ma, fl, ro, rfl, x.ins (fun e2 => ?_) ha, x.kp _ _ (fun e2 => ?_) hd (.inl not_src_dk), t hk.sh, t hk.fa, t hk.ma, o hk.fl, o hk.ro⟩
  · subst e2
    rw [hp] at ha
    injection ha with ha
    injection ha with _ _ ha
    exact SF.book s ha
  · subst e2
    rw [hp] at hd
    cases hd
theorem TmL.zx {qs : List Rat} {vs : List V} (x : ExX (fun a => a = p) H H') (hp : H p = some (.ins (CS K) dx fs)) (s : SF fs) (h : TmL (CT K) qs vs H) : TmL (CT K) qs vs H' := ⟨h.1, fun j v e => TimeV.zx x hp s (h.2 j v e)⟩
theorem lst_zx {l : Addr} {vs : List V} (x : ExX (fun a => a = p) H H') (hp : H p = some (.ins (CS K) dx fs)) (n : ¬ Src (.lst vs)) (h : H l = some (.lst vs)) : H' l = some (.lst vs) := x.kp _ _ (fun e2 => by subst e2; rw [hp] at h; cases h) h (.inl n)
theorem Starts.zx {C : Addr} {f : Nat → Rat} {k : Nat} {vs : List V} (x : ExX (fun a => a = p) H H') (hp : H p = some (.ins (CS K) dx fs)) (s : SF fs) (h : Starts C f k vs H) : Starts C f k vs H' := ⟨h.1, fun j v e => TimeV.zx x hp s (h.2 j v e)⟩
theorem SF.round {l : Addr} {nd an : Int} {av dv lv : V} (h : SF fs) : fs ≠ rfs l nd an av dv lv := by
  rintro rfl
  rcases h with h | ⟨v, gs, h⟩
  · cases h
  · injection h with h _
    injection h with h _
    exact absurd h (by decide)
theorem RndV.zx {u : Rat} {b : Bool} {ds : List (Option Rat)} {N : Nat} {v : V} (x : ExX (fun a => a = p) H H') (hp : H p = some (.ins (CS K) dx fs)) (s : SF fs) (h : RndV K u b ds N v H) : RndV K u b ds N v H' := by
  obtain ⟨q, dq, l, av, dv, lv, vs, rfl, hq, ha, hd, hl, hs, hst⟩ := h
  refine ⟨q, dq, l, av, dv, lv, vs, rfl, x.ins (fun e2 => ?_) hq, OptT.zx x hp s ha, OptT.zx x hp s hd, TimeV.zx x hp s hl, lst_zx x hp (refs_not_src fun j v e => ?_) hs, Starts.zx x hp s hst⟩
  · subst e2
    rw [hp] at hq
    injection hq with hq
    injection hq with _ _ hq
    exact SF.round s hq
  · obtain ⟨a, da, rfl, _⟩ := hst.2 j v e
    exact .inl ⟨a, rfl⟩
/-- p is stored to -/
theorem put_x {u : HO} : ExX (fun a => a = p) H (upd H p u) := (ExX.refl H).put rfl
/-- then the heap grows -/
theorem zx_ex {fs' : List (Str × V)} (x : ExX (fun a => a = p) H H') (hp : H p = some (.ins (CS K) dx fs)) (hp' : H' p = some (.ins (CS K) dx fs')) (y : Ex H' H2) : ExX (fun a => a = p) H H2 :=
  x.ex y (fun a o e h => by subst e; rw [hp'] at h; cases h; exact ⟨_, _, _, .inl rfl⟩) (fun l C d2 f2 e h => by subst e; exact ⟨_, _, _, hp'⟩)
theorem xx_put {u : HO} (x : ExX (fun a => a = p) H H') : ExX (fun a => a = p) H (upd H' p u) := x.put rfl
end
section
variable {P : Program} {w : World} {K : PySem.W.Frag} {mg : Str → Option Value} {base : Heap}
def spSInit (K : PySem.W.Frag) : Sp := fun vs H Q _ => ∃ z q p dx bv ev, vs = [.ref p, bv, ev] ∧ H p = some (.ins (CS K) dx []) ∧ BookV K z bv H ∧ BkOk z ∧ Tim K q ev H ∧ 0 < q ∧ Sz q 1500 ∧
  ∀ b H', H b = none → ExX (fun a => a = p) H H' → SndW K (begun z q) (.ref p) b H' → Q .non H'
theorem ok_sinit (T : Tm K mg) {fd : FuncData} (F : FunD K "__init__" "Sender.__init__" (defArgs s_Sender___init__) (defBody s_Sender___init__) (defScope s_Sender___init__) [] [] (ma K (CS K) "__init__") fd) : FnOk P w K mg base (RX P w) 13 (ma K (CS K) "__init__") fd ["self", "book", "estimate"] (spSInit K) := by
  refine def_ok F sc_Sender___init__ (fun vs H Q E h => by obtain ⟨z, q, p, dx, bv, ev, rfl, _⟩ := h; rfl) ?_
  intro X eP ew eK em eb eN es hf nd H vs Q E B h
  subst eP ew eK em eb
  have n0 : Sl X 0 "self" := slot_of eN es hf nd rfl (by first | exact Or.inl rfl | exact Or.inr rfl) (by decide) (by decide)
  have n1 : Sl X 1 "book" := slot_of eN es hf nd rfl (by first | exact Or.inl rfl | exact Or.inr rfl) (by decide) (by decide)
  have n2 : Sl X 2 "estimate" := slot_of eN es hf nd rfl (by first | exact Or.inl rfl | exact Or.inr rfl) (by decide) (by decide)
  have g_copied : Gn X "copied" := gn_of es rfl (by decide)
  have F_copied := f_copied (P := X.prog) (w := X.w) (base := X.base) T
  have g_time_of : Gn X "time_of" := gn_of es rfl (by decide)
  have F_time_of := f_time_of (P := X.prog) (w := X.w) (base := X.base) T
  have z_range : Bn X "range" := bn_of es rfl T.z_range
  obtain ⟨z, q, p, dx, bv, ev, rfl, hp, hb, ok, he, q0, zq, k⟩ := h
  show WB X [_, _, _, _, _, _, _] _ [some (.ref p), some (bv), some (ev), none] H
  -- the wait
  with_reducible refine' wb_cons ?_
  with_reducible refine' ws_to (fun σ' H' => ∃ wv, σ' = [some (.ref p), some bv, some ev, none] ∧ ExX (fun a => a = p) H H' ∧ H' p = some (.ins (CS X.K) dx [("held_wait", wv)]) ∧ TimeV (CT X.K) (madeW z q) wv H' ∧ BookV X.K z bv H' ∧ Tim X.K q ev H') ?_ ?_
  · repeat walk_at "w"
    refine we_meth B T.c_Book.cl ⟨_, T.e_Book_wait_for, f_wait_for T⟩ (by decide) ?_
    repeat walk_at "w"
    have hb0 := hb
    obtain ⟨b, db, d, sh, fa, ma, fl, ro, rfl, hbp, hd, hk⟩ := hb
    refine ⟨b, db, _, rfl, hbp, rfl, ?_⟩
    repeat walk_at "w"
    refine ⟨z, q, _, _, rfl, hb0, ok, he, q0, zq, fun wv H1 x1 hw => ?_⟩
    repeat walk_at "w"
    have hp1 := x1.ins hp
    have xx := (x1.x (S := fun a => a = p)).put (o := .ins (CS X.K) dx (putF "held_wait" wv [])) rfl
    refine ⟨wv, rfl, xx, upd_same, TimeV.zx put_x hp1 (.inl rfl) hw, BookV.zx xx hp (.inl rfl) hb0, ?_⟩
    rcases he with he | he
    · exact .inl (TimeV.zx xx hp (.inl rfl) he)
    · exact .inr he
  rintro σ' H1 ⟨wv, rfl, x1, hp1, hw1, hb1, he1⟩
  show WB X _ _ _ _
  have sf1 : SF [(("held_wait" : Str), wv)] := .inr ⟨_, _, rfl⟩
  -- the book
  with_reducible refine' wb_cons ?_
  with_reducible refine' ws_to (fun σ' H' => ∃ cb, H cb = none ∧ ∃ cv, cv = .ref cb ∧ σ' = [some (.ref p), some bv, some ev, none] ∧ ExX (fun a => a = p) H1 H' ∧ H' p = some (.ins (CS X.K) dx [("held_wait", wv), ("held_book", cv)]) ∧ BookV X.K z cv H') ?_ ?_
  · repeat walk_at "w"
    refine ⟨z, bv, rfl, hb1, ok, fun a H2 na x2 ha => ?_⟩
    repeat walk_at "w"
    have hp2 := x2.ins hp1
    have xx := (x2.x (S := fun a => a = p)).put (o := .ins (CS X.K) dx (putF "held_book" (.ref a) [("held_wait", wv)])) rfl
    exact ⟨a, Classical.byContradiction fun c => x1.th a c na, _, rfl, rfl, xx, upd_same, BookV.zx put_x hp2 sf1 ha⟩
  rintro σ' H2 ⟨cb, ncb, cv, ecv, rfl, x2, hp2, hc2⟩
  show WB X _ _ _ _
  have x12 : ExX (fun a => a = p) H H2 := ExX.then x1 x2 (fun a s => .inl s) (fun l C d2 f2 e h => by subst e; exact ⟨_, _, _, hp1⟩)
  have hw2 := TimeV.zx x2 hp1 sf1 hw1
  have hb2 := BookV.zx x2 hp1 sf1 hb1
  have he2 : Tim X.K q ev H2 := he1.imp (fun h => TimeV.zx x2 hp1 sf1 h) id
  have sf2 : SF [(("held_wait" : Str), wv), ("held_book", cv)] := .inr ⟨_, _, rfl⟩
  -- the estimate
  with_reducible refine' wb_cons ?_
  with_reducible refine' ws_to (fun σ' H' => ∃ tv, σ' = [some (.ref p), some bv, some ev, none] ∧ ExX (fun a => a = p) H2 H' ∧ H' p = some (.ins (CS X.K) dx [("held_wait", wv), ("held_book", cv), ("held_estimate", tv)]) ∧ TimeV (CT X.K) q tv H') ?_ ?_
  · repeat walk_at "w"
    refine to_tim he2 fun y H3 x3 hy => ?_
    repeat walk_at "w"
    have hp3 := x3.ins hp2
    exact ⟨_, rfl, (x3.x (S := fun a => a = p)).put rfl, upd_same, TimeV.zx put_x hp3 sf2 hy⟩
  rintro σ' H3 ⟨tv, rfl, x3, hp3, ht3⟩
  show WB X _ _ _ _
  have x13 : ExX (fun a => a = p) H H3 := ExX.then x12 x3 (fun a s => .inl s) (fun l C d2 f2 e h => by subst e; exact ⟨_, _, _, hp2⟩)
  have hw3 := TimeV.zx x3 hp2 sf2 hw2
  have hb3 := BookV.zx x3 hp2 sf2 hb2
  have hc3 := BookV.zx x3 hp2 sf2 hc2
  have sf3 : SF [(("held_wait" : Str), wv), ("held_book", cv), ("held_estimate", tv)] := .inr ⟨_, _, rfl⟩
  -- the samples
  with_reducible refine' wb_cons ?_
  with_reducible refine' ws_to (fun σ' H' => ∃ l, σ' = [some (.ref p), some bv, some ev, none] ∧ ExX (fun a => a = p) H3 H' ∧ H' p = some (.ins (CS X.K) dx [("held_wait", wv), ("held_book", cv), ("held_estimate", tv), ("held_samples", .ref l)]) ∧ H' l = some (.lst [tv])) ?_ ?_
  · repeat walk_at "w"
    try refine lst_i (Nat.le_trans (show 1 ≤ 1000 by decide) (by decide)) fun _ _ _ _ _ => ?_
    repeat walk_at "w"
    rename_i l H4 nl x4 hl
    have hp4 := x4.ins hp3
    exact ⟨l, rfl, (x4.x (S := fun a => a = p)).put rfl, upd_same, (upd_ne (fun e => by subst e; rw [hp4] at hl; cases hl)).trans hl⟩
  rintro σ' H4 ⟨l0, rfl, x4, hp4, hl4⟩
  show WB X _ _ _ _
  have x14 : ExX (fun a => a = p) H H4 := ExX.then x13 x4 (fun a s => .inl s) (fun l C d2 f2 e h => by subst e; exact ⟨_, _, _, hp3⟩)
  have hw4 := TimeV.zx x4 hp3 sf3 hw3
  have hb4 := BookV.zx x4 hp3 sf3 hb3
  have hc4 := BookV.zx x4 hp3 sf3 hc3
  have ht4 := TimeV.zx x4 hp3 sf3 ht3
  have sf4 : SF [(("held_wait" : Str), wv), ("held_book", cv), ("held_estimate", tv), ("held_samples", .ref l0)] := .inr ⟨_, _, rfl⟩
  with_reducible refine' wb_cons ?_
  with_reducible refine' ws_to (fun σ' H' => ∃ l ss, σ' = [some (.ref p), some bv, some ev, none] ∧ ExX (fun a => a = p) H4 H' ∧ H' p = some (.ins (CS X.K) dx [("held_wait", wv), ("held_book", cv), ("held_estimate", tv), ("held_samples", .ref l)]) ∧ H' l = some (.lst ss) ∧ TmL (CT X.K) (begun z q).sm ss H') ?_ ?_
  · refine ws_if (wt_cmp ?_ ?hm)
    case hm => rfl
    repeat walk_at "w"
    cases ez : z.latest with
    | none =>
      rw [decide_eq_true (show latV none = V.non from rfl)]
      repeat walk_at "w"
      have e1 : (begun z q).sm = [q] := by unfold begun; rw [ez]
      refine ⟨l0, [tv], rfl, ExX.refl _, hp4, hl4, by rw [e1]; rfl, fun j v e => ?_⟩
      rw [e1]
      match j, e with
      | 0, e => cases e; exact ht4
    | some n =>
      rw [decide_eq_false (fun e => nomatch e : ¬ latV (some n) = V.non)]
      repeat walk_at "w"
      have e1 : (begun z q).sm = List.replicate n q := by unfold begun; rw [ez]
      refine we_lcR (x := "turn") (i := 3) B (by rw [eN]; exact nd) z_range (by rw [eN]; rfl) rfl (by rw [eN, es]; exact blkOk_by (by decide +kernel)) ?_
      repeat walk_at "w"
      rw [ez]
      have n20 := (ok.lat n ez).2.1
      refine ⟨n, rfl, by omega, fun D hD => ⟨fun j G => Ex H4 G ∧ G D = some (.lst (List.replicate j tv)), ⟨Ex.new hD, upd_same⟩, ?_, ?_⟩⟩
      · rintro j G hj ⟨xg, hg⟩ s H0 C cl fp
        refine in_blk B rfl fun B => ?_
        refine in_free (i := 0) (x := "self") eN es rfl rfl (by decide) (by decide) fun n0 => ?_
        refine we_sf (X := Rs.Bk X s H0 _ C cl fp) T (by decide +kernel) ?_
        repeat walk_at "w"
        have nst : ∀ {j : Nat}, ¬ Src (.lst (List.replicate j tv)) := fun {j} => refs_not_src fun i v e => by
          obtain ⟨a, da, rfl, _⟩ := ht4
          have := List.mem_of_getElem? e
          rw [List.mem_replicate] at this
          exact .inl ⟨a, this.2⟩
        refine ⟨_, hg, ?_, xg.put hD, ?_⟩
        · rw [List.length_replicate]
          exact Nat.lt_of_lt_of_le (show _ < 1000 by omega) (by decide)
        · rw [upd_same, List.replicate_succ']
      · rintro G ⟨xg, hg⟩
        repeat walk_at "w"
        have hpg := xg.ins hp4
        have xx := (xg.x (S := fun a => a = p)).put (o := .ins (CS X.K) dx (putF "held_samples" (.ref D) [("held_wait", wv), ("held_book", cv), ("held_estimate", tv), ("held_samples", .ref l0)])) rfl
        refine ⟨D, _, rfl, xx, upd_same, (upd_ne (fun e => by subst e; rw [hpg] at hg; cases hg)).trans hg, by rw [e1, List.length_replicate, List.length_replicate], fun j v e => ?_⟩
        have hj : j < n := by
          have := (List.getElem?_eq_some_iff.mp e).1
          rw [List.length_replicate] at this
          exact this
        have ev := (List.mem_replicate.mp (List.mem_of_getElem? e)).2
        subst ev
        rw [e1, List.getD_eq_getElem?_getD, List.getElem?_replicate, if_pos hj]
        exact TimeV.zx xx hp4 sf4 ht4
  rintro σ' H5 ⟨l, ss, rfl, x5, hp5, hl5, hs5⟩
  show WB X _ _ _ _
  have x15 : ExX (fun a => a = p) H H5 := ExX.then x14 x5 (fun a s => .inl s) (fun l C d2 f2 e h => by subst e; exact ⟨_, _, _, hp4⟩)
  have hw5 := TimeV.zx x5 hp4 sf4 hw4
  have hc5 := BookV.zx x5 hp4 sf4 hc4
  have ht5 := TimeV.zx x5 hp4 sf4 ht4
  have sf5 : SF [(("held_wait" : Str), wv), ("held_book", cv), ("held_estimate", tv), ("held_samples", .ref l)] := .inr ⟨_, _, rfl⟩
  repeat walk_at "w"
  rw [upd_two]
  have xf : ExX (fun a => a = p) H5 (upd H5 p (.ins (CS X.K) dx (sfs wv cv tv (.ref l) 0 0))) := put_x
  subst ecv
  refine k cb _ ncb (x15.put rfl) ⟨p, dx, wv, tv, l, ss, rfl, upd_same, TimeV.zx xf hp5 sf5 hw5, BookV.zx xf hp5 sf5 hc5, TimeV.zx xf hp5 sf5 ht5, lst_zx xf hp5 hs5.ns hl5, TmL.zx xf hp5 sf5 hs5⟩
end

/-! ### a sender learns -/
section
variable {K : PySem.W.Frag} {H H' : Hp} {p dx l : Addr} {st : SS} {wv bv ev : V} {ss : List V}
theorem sfs_sf {w b e s : V} {r n : Int} : SF (sfs w b e s r n) := .inr ⟨_, _, rfl⟩
/-- p's own fields stand, the heap of the others grows -/
theorem SndP.zx {fs' : List (Str × V)} (x : ExX (fun a => a = p) H H') (h : SndP K st p dx wv bv ev l ss H) (hp : H' p = some (.ins (CS K) dx (sfs wv bv ev (.ref l) st.rn st.nd))) : SndP K st p dx wv bv ev l ss H' :=
  ⟨hp, TimeV.zx x h.hp sfs_sf h.wv, BookV.zx x h.hp sfs_sf h.bv, TimeV.zx x h.hp sfs_sf h.ev, lst_zx x h.hp h.ss.ns h.hl, TmL.zx x h.hp sfs_sf h.ss⟩
theorem tm1 {C : Addr} {q : Rat} {v : V} {H : Hp} (h : TimeV C q v H) : TmL C [q] [v] H := ⟨rfl, fun j u e => by
  match j, e with
  | 0, e => cases e; exact h⟩
theorem TmL.app {C : Addr} {qs rs : List Rat} {vs us : List V} {H : Hp} (h : TmL C qs vs H) (h' : TmL C rs us H) : TmL C (qs ++ rs) (vs ++ us) H := by
  refine ⟨by rw [List.length_append, List.length_append, h.1, h'.1], fun j v e => ?_⟩
  rw [List.getElem?_append] at e
  rw [List.getD_eq_getElem?_getD, List.getElem?_append]
  split at e
  · rename_i hj
    rw [if_pos (by rw [← h.1]; exact hj), ← List.getD_eq_getElem?_getD]
    exact h.2 j v e
  · rename_i hj
    rw [if_neg (by rw [← h.1]; exact hj), ← List.getD_eq_getElem?_getD, ← h.1]
    exact h'.2 _ v e
theorem TmL.tail {C : Addr} {qs : List Rat} {vs : List V} {H : Hp} (h : TmL C qs vs H) : TmL C qs.tail vs.tail H := by
  refine ⟨by rw [List.length_tail, List.length_tail, h.1], fun j v e => ?_⟩
  rw [List.getElem?_tail] at e
  rw [List.getD_eq_getElem?_getD, List.getElem?_tail, ← List.getD_eq_getElem?_getD]
  exact h.2 _ v e
theorem TmL.drop {C : Addr} {q : Rat} {qs : List Rat} {v : V} {vs : List V} {H : Hp} (h : TmL C (q :: qs) (v :: vs) H) : TimeV C q v H ∧ TmL C qs vs H := ⟨h.2 0 v rfl, Nat.succ.inj h.1, fun j u e => h.2 (j + 1) u e⟩
theorem sz_foldl {n : Nat} : ∀ (qs : List Rat) (s : Rat), Sz s n → (∀ q ∈ qs, Sz q n) → Sz (qs.foldl rmax s) n
  | [], _, h, _ => h
  | q :: qs, s, h, h' => sz_foldl qs (rmax s q) (sz_rmax h (h' q (List.mem_cons_self ..))) fun r hr => h' r (List.mem_cons_of_mem _ hr)
theorem cut1 {xs : List V} : cutV xs (some 1) none = xs.tail := by
  unfold cutV
  rw [show HT.sIx xs.length 0 (some 1) = min 1 xs.length from HT.sIx_nat xs.length 0 1, HT.sIx_none]
  cases xs with
  | nil => rfl
  | cons x xs =>
    rw [show min 1 (x :: xs).length = 1 from by rw [List.length_cons]; omega, List.drop_one, List.tail_cons, List.length_cons, Nat.add_sub_cancel, List.take_length]
end
section
variable {P : Program} {w : World} {K : PySem.W.Frag} {mg : Str → Option Value} {base : Heap}
/-- sizes that a sender can learn a sample with -/
structure LOk (st : SS) (s : Rat) : Prop where
  ok : BkOk st.bk
  ze : Sz st.est 1450
  zs : Sz s 1450
  zm : ∀ q ∈ st.sm, Sz q 1450
  pos : 0 < lrnE st s
  zl : Sz (lrnE st s) 1500
  len : st.sm.length ≤ 20
/-- a sender with its own book at b, its samples at l -/
def SndL (K : PySem.W.Frag) (st : SS) (p b l : Addr) (H : Hp) : Prop := ∃ dx wv ev ss, SndP K st p dx wv (.ref b) ev l ss H
theorem SndL.sw {K : PySem.W.Frag} {st : SS} {p b l : Addr} {H : Hp} (h : SndL K st p b l H) : SndW K st (.ref p) b H := by
  obtain ⟨dx, wv, ev, ss, h⟩ := h
  exact ⟨p, dx, wv, ev, l, ss, rfl, h⟩
theorem SndW.at_l {K : PySem.W.Frag} {st : SS} {p b : Addr} {H : Hp} (h : SndW K st (.ref p) b H) : ∃ l, SndL K st p b l H := by
  obtain ⟨p', dx, wv, ev, l, ss, e, h⟩ := h
  cases e
  exact ⟨l, dx, wv, ev, ss, h⟩
def spLearn (K : PySem.W.Frag) : Sp := fun vs H Q _ => ∃ st p b0 l sv s, vs = [.ref p, sv] ∧ SndL K st p b0 l H ∧ TimeV (CT K) s sv H ∧ LOk st s ∧ ∀ H' l', ExX (fun a => a = p) H H' → (l' = l ∨ H l' = none) → SndL K (lrn st s) p b0 l' H' → Q .non H'
theorem f_learn (T : Tm K mg) : FnR P w K mg base (RX P w) 9 (ma K (CS K) "learn") (spLearn K) := by
  obtain ⟨fd, F⟩ := T.d_Sender_learn
  refine raw_of F (def_ok F sc_Sender_learn (fun vs H Q E h => by obtain ⟨st, p, b0, l, sv, s, rfl, _⟩ := h; rfl) ?_) (F.bindsN fun _ _ _ _ _ _ us hl => match us, hl with | [_, _], _ => rfl)
  intro X eP ew eK em eb eN es hf nd H vs Q E B h
  subst eP ew eK em eb
  have n0 : Sl X 0 "self" := slot_of eN es hf nd rfl (by first | exact Or.inl rfl | exact Or.inr rfl) (by decide) (by decide)
  have n1 : Sl X 1 "sample" := slot_of eN es hf nd rfl (by first | exact Or.inl rfl | exact Or.inr rfl) (by decide) (by decide)
  have n2 : Sl X 2 "book" := slot_of eN es hf nd rfl (by first | exact Or.inl rfl | exact Or.inr rfl) (by decide) (by decide)
  have n3 : Sl X 3 "most" := slot_of eN es hf nd rfl (by first | exact Or.inl rfl | exact Or.inr rfl) (by decide) (by decide)
  have n4 : Sl X 4 "elder" := slot_of eN es hf nd rfl (by first | exact Or.inl rfl | exact Or.inr rfl) (by decide) (by decide)
  have g_greater : Gn X "greater" := gn_of es rfl (by decide)
  have F_greater := f_greater (P := X.prog) (w := X.w) (base := X.base) T
  obtain ⟨st, p, b0, l, sv, s, rfl, hs, hv, lo, k⟩ := h
  show WB X [_, _, _] _ [some (.ref p), some (sv), none, none, none] H
  obtain ⟨dx, wv, ev, ss, sp⟩ := hs
  obtain ⟨bv, ebv⟩ : ∃ bv, bv = V.ref b0 := ⟨_, rfl⟩
  rw [← ebv] at sp
  have ze4 : Sz st.est 4000 := lo.ze.mono (by decide)
  have zs4 : Sz s 4000 := lo.zs.mono (by decide)
  have zh4 : Sz st.bk.share 4000 := lo.ok.z1.mono (by decide)
  have zd := lo.zs.sub lo.ze
  have zd4 : Sz (s - st.est) 4000 := zd.mono (by decide)
  have zp4 : Sz (st.bk.share * (s - st.est)) 4000 := (lo.ok.z1.mul zd).mono (by decide)
  have sx := sp.ev
  have sfl : ∀ f, f ∈ sflds → True := fun _ _ => trivial
  with_reducible refine' wb_cons ?_
  with_reducible refine' ws_to (fun σ' H' => σ' = [some (.ref p), some sv, some bv, none, none] ∧ H = H') ?_ ?_
  · repeat walk_at "w"
    refine ⟨p, dx, _, _, rfl, sp.hp, rfl, ?_⟩
    exact ⟨rfl, rfl⟩
  rintro σ' H' ⟨rfl, rfl⟩
  show WB X _ _ _ _
  have bvl := sp.bv
  with_reducible refine' wb_cons ?_
  with_reducible refine' ws_to (fun σ' H' => ∃ ev' l' ss' c3 c4, σ' = [some (.ref p), some sv, some bv, c3, c4] ∧ (l' = l ∨ H l' = none) ∧ ExX (fun a => a = p) H H' ∧ H' p = some (.ins (CS X.K) dx (sfs wv bv ev' (.ref l') st.rn st.nd)) ∧ TimeV (CT X.K) (lrnE st s) ev' H' ∧ H' l' = some (.lst ss') ∧ TmL (CT X.K) (lrnS st s) ss' H') ?_ ?_
  · refine ws_if (wt_cmp ?_ ?hm)
    case hm => rfl
    repeat walk_at "w"
    cases el : st.bk.latest with
    | none =>
      rw [decide_eq_true (show latV none = V.non from rfl)]
      repeat walk_at "w"
      refine ⟨p, dx, _, _, rfl, sp.hp, rfl, ?_⟩
      repeat walk_at "w"
      intro hv1 hh1
      repeat walk_at "w"
      refine ⟨p, dx, _, _, rfl, sp.hp, rfl, ?_⟩
      repeat walk_at "w"
      rename_i d1 H1 x1 hd1 d2 H2 x2 hd2 d3 H3 x3 hd3
      have x13 := (x1.trans x2).trans x3
      have hp3 := x13.ins sp.hp
      have e1 : lrnE st s = st.est + st.bk.share * (s - st.est) := by unfold lrnE; rw [el]
      have e2 : lrnS st s = [lrnE st s] := by unfold lrnS; rw [el]
      refine ⟨p, dx, _, rfl, hp3, (show 6 < 1000 by decide), ?_⟩
      have xx := (x13.x (S := fun a => a = p)).put (o := .ins (CS X.K) dx (sfs wv bv d3 (.ref l) st.rn st.nd)) rfl
      have hp4 : upd H3 p (.ins (CS X.K) dx (sfs wv bv d3 (.ref l) st.rn st.nd)) p = _ := upd_same
      have hd4 := TimeV.zx (put_x (p := p) (u := .ins (CS X.K) dx (sfs wv bv d3 (.ref l) st.rn st.nd))) hp3 sfs_sf hd3
      show WB X _ _ _ (upd H3 p (.ins (CS X.K) dx (sfs wv bv d3 (.ref l) st.rn st.nd)))
      generalize upd H3 p (.ins (CS X.K) dx (sfs wv bv d3 (.ref l) st.rn st.nd)) = H4 at xx hp4 hd4 ⊢
      repeat walk_at "w"
      try refine lst_i (Nat.le_trans (show 1 ≤ 1000 by decide) (by decide)) fun _ _ _ _ _ => ?_
      repeat walk_at "w"
      rename_i l' H5 nl x5 hl
      have hp5 := x5.ins hp4
      have hd5 := hd4.mono x5
      have hd6 := TimeV.zx (put_x (p := p) (u := .ins (CS X.K) dx (sfs wv bv d3 (.ref l') st.rn st.nd))) hp5 sfs_sf hd5
      refine ⟨d3, l', [d3], none, none, rfl, .inr (Classical.byContradiction fun c => xx.th _ c nl), (zx_ex xx sp.hp hp4 x5).put rfl, upd_same, by rw [e1]; exact hd6, (upd_ne (fun e => by subst e; rw [hp5] at hl; cases hl)).trans hl, ?_⟩
      rw [e2, e1]
      exact tm1 hd6
    | some n =>
      rw [decide_eq_false (fun e => nomatch e : ¬ latV (some n) = V.non)]
      have e1 : lrnE st s = (st.sm.tail ++ [s]).foldl rmax s := by unfold lrnE; rw [el]
      have e2 : lrnS st s = st.sm.tail ++ [s] := by unfold lrnS; rw [el]
      refine iteF ?_
      show WB X _ _ _ _
      with_reducible refine' wb_cons ?_
      with_reducible refine' ws_to (fun σ' H' => ∃ l', σ' = [some (.ref p), some sv, some bv, none, none] ∧ H l' = none ∧ ExX (fun a => a = p) H H' ∧ H' p = some (.ins (CS X.K) dx (sfs wv bv ev (.ref l') st.rn st.nd)) ∧ H' l' = some (.lst (ss.tail ++ [sv])) ∧ TmL (CT X.K) (st.sm.tail ++ [s]) (ss.tail ++ [sv]) H' ∧ TimeV (CT X.K) s sv H') ?_ ?_
      · repeat walk_at "w"
        refine wa_star ?_ (by rfl)
        refine we_cutL ?_
        repeat walk_at "w"
        refine ⟨p, dx, _, _, rfl, sp.hp, rfl, ?_⟩
        repeat walk_at "w"
        refine ⟨l, ss, 1, rfl, rfl, .of sp.hl, fun l1 n1 => ?_⟩
        have x1 := Ex.new (o := .lst (cutV ss (some 1) none)) n1
        refine ⟨l1, ss.tail, rfl, .inr (.of (by rw [upd_same, cut1])), ?_⟩
        repeat walk_at "w"
        refine lst_i ?_ fun l2 H2 n2 x2 h2 => ?_
        · have := lo.len
          have := sp.ss.1
          rw [List.length_append, List.length_tail]
          exact Nat.le_trans (show _ ≤ 1000 by simp only [List.length_cons, List.length_nil]; omega) (by decide)
        repeat walk_at "w"
        have x12 := x1.trans x2
        have hp2 := x12.ins sp.hp
        refine ⟨p, dx, _, rfl, hp2, (show 6 < 1000 by decide), ?_⟩
        have xx := (x12.x (S := fun a => a = p)).put (o := .ins (CS X.K) dx (sfs wv bv ev (.ref l2) st.rn st.nd)) rfl
        have hv2 := TimeV.zx xx sp.hp sfs_sf hv
        exact ⟨l2, rfl, x1.back n2, xx, upd_same, (upd_ne (fun e => by subst e; rw [hp2] at h2; cases h2)).trans h2, (TmL.zx xx sp.hp sfs_sf sp.ss).tail.app (tm1 hv2), hv2⟩
      rintro σ' H2 ⟨l', rfl, nl', xx, hp2, hl2, hs2, hv2⟩
      show WB X _ _ _ _
      refine wb_cons (ws_set n3 (we_name n1 rfl ?_) (by rfl))
      show WB X _ _ _ _
      have zm : ∀ q ∈ st.sm.tail ++ [s], Sz q 4000 := fun q hq => by
        rcases List.mem_append.mp hq with h | h
        · exact (lo.zm q (List.mem_of_mem_tail h)).mono (by decide)
        · rw [List.mem_singleton.mp h]; exact zs4
      with_reducible refine' wb_cons ?_
      with_reducible refine' ws_to (fun σ' H' => ∃ y c4, σ' = [some (.ref p), some sv, some bv, some y, c4] ∧ Ex H2 H' ∧ TimeV (CT X.K) (lrnE st s) y H') ?_ ?_
      · generalize hqs : st.sm.tail ++ [s] = qs at e1 hs2 zm
        generalize hvs : ss.tail ++ [sv] = vs at hl2 hs2
        refine ws_for_list (xs := vs) B n4 (fun j σ H' => ∃ y c4, σ = [some (.ref p), some sv, some bv, some y, c4] ∧ Ex H2 H' ∧ TimeV (CT X.K) ((qs.take j).foldl rmax s) y H') ?_ ?_ ?_
        · repeat walk_at "w"
          exact ⟨l', rfl, ⟨sv, none, rfl, .refl _, hv2⟩, fun j σ H' _ h => by obtain ⟨y, c4, _, x, _⟩ := h; exact .of (x.keep _ _ hl2 hs2.ns)⟩
        · rintro j v σ' H3 hvj ⟨y, c4, rfl, x3, hy⟩
          have hj : j < qs.length := by rw [← hs2.1]; exact (List.getElem?_eq_some_iff.mp hvj).1
          have hvt := (hs2.2 j v hvj).mono x3
          repeat walk_at "w"
          refine ⟨_, _, y, v, rfl, .inl hy, .inl hvt, sz_foldl _ _ zs4 fun q hq => zm q (List.mem_of_mem_take hq), zm _ (by rw [List.getD_eq_getElem?_getD, List.getElem?_eq_getElem hj]; exact List.getElem_mem _), fun z H4 x4 hz => ?_⟩
          refine ⟨z, _, rfl, x3.trans x4, ?_⟩
          rw [List.take_add_one, List.getElem?_eq_getElem hj, List.foldl_append]
          rw [List.getD_eq_getElem?_getD, List.getElem?_eq_getElem hj] at hz
          exact hz
        · rintro σ' H3 ⟨y, c4, rfl, x3, hy⟩
          rw [hs2.1, List.take_length] at hy
          exact ⟨y, c4, rfl, x3, by rw [e1]; exact hy⟩
      rintro σ' H3 ⟨y, c4, rfl, x3, hy⟩
      show WB X _ _ _ _
      repeat walk_at "w"
      have hp3 := x3.ins hp2
      have xf : ExX (fun a => a = p) H3 (upd H3 p (.ins (CS X.K) dx (sfs wv bv y (.ref l') st.rn st.nd))) := put_x
      refine ⟨y, l', _, some y, c4, rfl, .inr nl', (zx_ex xx sp.hp hp2 x3).put rfl, upd_same, TimeV.zx xf hp3 sfs_sf hy, lst_zx xf hp3 hs2.ns (x3.keep _ _ hl2 hs2.ns), ?_⟩
      rw [e2]
      exact TmL.zx xf hp3 sfs_sf (hs2.mono x3)
  rintro σ' H5 ⟨ev', l', ss', c3, c4, rfl, fr', x5, hp5, he5, hl5, hs5⟩
  show WB X _ _ _ _
  have hb5 := BookV.zx x5 sp.hp sfs_sf sp.bv
  repeat walk_at "w"
  refine we_meth B T.c_Book.cl ⟨_, T.e_Book_wait_for, f_wait_for T⟩ (by decide) ?_
  repeat walk_at "w"
  have hb0 := hb5
  obtain ⟨b, db, d, sh, fa, ma, fl, ro, rfl, hbp, hd, hk⟩ := hb5
  refine ⟨b, db, _, rfl, hbp, rfl, ?_⟩
  repeat walk_at "w"
  refine ⟨st.bk, lrnE st s, _, _, rfl, hb0, lo.ok, .inl he5, lo.pos, lo.zl, fun wv' H6 x6 hw => ?_⟩
  repeat walk_at "w"
  have hp6 := x6.ins hp5
  have xf : ExX (fun a => a = p) H6 (upd H6 p (.ins (CS X.K) dx (sfs wv' (.ref b) ev' (.ref l') st.rn st.nd))) := put_x
  cases ebv
  refine k _ l' ((zx_ex x5 sp.hp hp5 x6).put rfl) fr' ⟨dx, wv', ev', ss', upd_same, TimeV.zx xf hp6 sfs_sf hw, BookV.zx xf hp6 sfs_sf (hb0.mono x6), TimeV.zx xf hp6 sfs_sf (he5.mono x6), lst_zx xf hp6 hs5.ns (x6.keep _ _ hl5 hs5.ns), TmL.zx xf hp6 sfs_sf (hs5.mono x6)⟩
end

/-! ### a sender is called -/
section
variable {P : Program} {w : World} {K : PySem.W.Frag} {mg : Str → Option Value} {base : Heap}
/-- Round.learned(word): what is learned -/
structure POk (st : SS) (ds : List (Option Rat)) (N : Nat) : Prop where
  w0 : 0 < st.wt
  lo : LastOk ds
  lt : ds.length < 1000
  g : Game st.wt st.bk.doubled ds N
  ok : BkOk st.bk
  wd : st.bk.word ∈ (["first", "last", "marked", "clean"] : List Str)
  l : ∀ s, smp st.bk.word st.wt st.bk.doubled ds N = some s → LOk st s
def spLearnd (K : PySem.W.Frag) : Sp := fun vs H Q _ => ∃ u b ds N v y a, vs = [v, .str y] ∧ RndV K u b ds N v H ∧ y ∈ (["first", "last", "marked", "clean"] : List Str) ∧ (rsk 0 u b ds N).ans = some a ∧ 0 < N ∧ Sz a 4000 ∧ Sz (stk 0 u b (N - 1)) 4000 ∧ ∀ v' H', Ex H H' → OptT K (smp y u b ds N) v' H' → Q v' H'
theorem f_learnd (T : Tm K mg) : FnR P w K mg base (RX P w) 6 (ma K (CR K) "learned") (spLearnd K) := by
  intro A outer s H us vs Q E hr e0 r h
  obtain ⟨u, b, ds, N, v, y, a, rfl, hv, hy, ha, n0, za, zs, k⟩ := h
  simp only [List.mem_cons, List.not_mem_nil, or_false] at hy
  rcases hy with rfl | rfl | rfl | rfl
  · exact f_first (P := P) (w := w) (base := base) T A outer s H us _ Q E (hr.mono (by decide)) e0 r ⟨u, b, ds, N, v, rfl, hv, fun v' h => k v' H (.refl _) (by rw [show smp "first" u b ds N = (rsk 0 u b ds N).ans from if_pos rfl]; exact h)⟩
  · refine f_last (P := P) (w := w) (base := base) T A outer s H us _ Q E hr e0 r ⟨u, b, ds, N, v, a, rfl, hv, ha, n0, za, zs, fun v' H' x h => k v' H' x ?_⟩
    rw [show smp "last" u b ds N = (rsk 0 u b ds N).ans.map (fun a => a - stk 0 u b (N - 1)) from (if_neg (by decide +kernel)).trans (if_pos rfl), ha]
    exact h
  · exact f_marked (P := P) (w := w) (base := base) T A outer s H us _ Q E (hr.mono (by decide)) e0 r ⟨u, b, ds, N, v, rfl, hv, fun v' h => k v' H (.refl _) (by rw [show smp "marked" u b ds N = (rsk 0 u b ds N).dly from (if_neg (by decide +kernel)).trans ((if_neg (by decide +kernel)).trans (if_pos rfl))]; exact h)⟩
  · exact f_clean (P := P) (w := w) (base := base) T A outer s H us _ Q E (hr.mono (by decide)) e0 r ⟨u, b, ds, N, v, rfl, hv, fun v' h => k v' H (.refl _) (by rw [show smp "clean" u b ds N = (if N = 1 then (rsk 0 u b ds N).ans else none) from (if_neg (by decide +kernel)).trans ((if_neg (by decide +kernel)).trans (if_neg (by decide +kernel)))]; exact h)⟩
def spCallL (K : PySem.W.Frag) : Sp := fun vs H Q _ => ∃ st p b0 l r ys ds N, vs = [.ref p, .ref r] ∧ SndL K st p b0 l H ∧ H r = some (.lst ys) ∧ DTims K ds ys H ∧ POk st ds N ∧
  ∀ v H' l', ExX (fun a => a = p) H H' → (l' = l ∨ H l' = none) → SndL K (stp st ds N) p b0 l' H' → RndV K st.wt st.bk.doubled ds N v H' → Q v H'
theorem f_scallL (T : Tm K mg) : FnR P w K mg base (RX P w) 11 (ma K (CS K) "__call__") (spCallL K) := by
  obtain ⟨fd, F⟩ := T.d_Sender___call__
  refine raw_of F (def_ok F sc_Sender___call__ (fun vs H Q E h => by obtain ⟨st, p, b0, l, r, ys, ds, N, rfl, _⟩ := h; rfl) ?_) (F.bindsN fun _ _ _ _ _ _ us hl => match us, hl with | [_, _], _ => rfl)
  intro X eP ew eK em eb eN es hf nd H vs Q E B h
  subst eP ew eK em eb
  have n0 : Sl X 0 "self" := slot_of eN es hf nd rfl (by first | exact Or.inl rfl | exact Or.inr rfl) (by decide) (by decide)
  have n1 : Sl X 1 "delays" := slot_of eN es hf nd rfl (by first | exact Or.inl rfl | exact Or.inr rfl) (by decide) (by decide)
  have n2 : Sl X 2 "book" := slot_of eN es hf nd rfl (by first | exact Or.inl rfl | exact Or.inr rfl) (by decide) (by decide)
  have n3 : Sl X 3 "doubled" := slot_of eN es hf nd rfl (by first | exact Or.inl rfl | exact Or.inr rfl) (by decide) (by decide)
  have n4 : Sl X 4 "made" := slot_of eN es hf nd rfl (by first | exact Or.inl rfl | exact Or.inr rfl) (by decide) (by decide)
  have n5 : Sl X 5 "sample" := slot_of eN es hf nd rfl (by first | exact Or.inl rfl | exact Or.inr rfl) (by decide) (by decide)
  have g_Round : Gn X "Round" := gn_of es rfl (by decide)
  have m_Round := T.g_Round
  obtain ⟨st, p, b0, l, r, ys, ds, N, rfl, hs, hr, hds, po, k⟩ := h
  show WB X [_, _, _, _, _, _, _, _] _ [some (.ref p), some (.ref r), none, none, none, none] H
  obtain ⟨dx, wv, ev, ss, sp⟩ := hs
  obtain ⟨bv, ebv⟩ : ∃ bv, bv = V.ref b0 := ⟨_, rfl⟩
  rw [← ebv] at sp
  have hbv := sp.bv
  have hwv := sp.wv
  have hpp := sp.hp
  -- the round
  with_reducible refine' wb_cons ?_
  with_reducible refine' ws_to (fun σ' H' => σ' = [some (.ref p), some (.ref r), some bv, none, none, none] ∧ H = H') ?_ ?_
  · repeat walk_at "w"
    exact ⟨rfl, rfl⟩
  rintro σ' H' ⟨rfl, rfl⟩
  show WB X _ _ _ _
  with_reducible refine' wb_cons ?_
  with_reducible refine' ws_to (fun σ' H' => σ' = [some (.ref p), some (.ref r), some bv, some (.bl st.bk.doubled), none, none] ∧ H = H') ?_ ?_
  · repeat walk_at "w"
    exact ⟨rfl, rfl⟩
  rintro σ' H' ⟨rfl, rfl⟩
  show WB X _ _ _ _
  with_reducible refine' wb_cons ?_
  with_reducible refine' ws_to (fun σ' H' => ∃ m, σ' = [some (.ref p), some (.ref r), some bv, some (.bl st.bk.doubled), some m, none] ∧ Ex H H' ∧ RndV X.K st.wt st.bk.doubled ds N m H') ?_ ?_
  · refine ws_set n4 ?_ (by rfl)
    refine we_makeST B g_Round (k_Round1 T) (by decide) ?_
    refine wa_cons ?_ (by rfl)
    repeat walk_at "w"
    refine wa_star ?_ (by rfl)
    repeat walk_at "w"
    refine ⟨r, ys, rfl, .inr (.of hr), ?_⟩
    repeat walk_at "w"
    refine wk_cons ?_
    repeat walk_at "w"
    refine wk_nil ⟨rfl, ?_⟩
    rw [List.append_nil]
    refine made_r (K := X.K) (Q := fun v H' => ∃ m, ([some (.ref p), some (.ref r), some bv, some (.bl st.bk.doubled), some v, none] : L2.St) = [some (.ref p), some (.ref r), some bv, some (.bl st.bk.doubled), some m, none] ∧ Ex H H' ∧ RndV X.K st.wt st.bk.doubled ds N m H') (.inl sp.wv) po.w0 hds po.lo po.lt po.g fun m H1 x1 hm => ⟨m, rfl, x1, hm⟩
  rintro σ' H1 ⟨m, rfl, x1, hm⟩
  have sp1 := sp.mono x1
  have hb1 := sp1.bv
  show WB X _ _ _ _
  -- the sample
  obtain ⟨a, ha⟩ : ∃ a, (rsk 0 st.wt st.bk.doubled ds N).ans = some a := by
    have := po.g.st
    unfold Gng at this
    cases q : (rsk 0 st.wt st.bk.doubled ds N).ans with
    | none => rw [q] at this; exact absurd trivial this
    | some a => exact ⟨a, rfl⟩
  with_reducible refine' wb_cons ?_
  with_reducible refine' ws_to (fun σ' H' => ∃ sv, σ' = [some (.ref p), some (.ref r), some bv, some (.bl st.bk.doubled), some m, some sv] ∧ Ex H1 H' ∧ OptT X.K (smp st.bk.word st.wt st.bk.doubled ds N) sv H') ?_ ?_
  · refine ws_set n5 ?_ (by rfl)
    refine we_meth B T.c_Round.cl ⟨_, T.e_Round_learned, f_learnd T⟩ (by decide) ?_
    repeat walk_at "w"
    have hm0 := hm
    obtain ⟨q, dq, lq, av, dv, lv, ws, rfl, hq, _⟩ := hm
    refine ⟨q, dq, _, rfl, hq, rfl, ?_⟩
    repeat walk_at "w"
    refine ⟨_, _, ds, N, _, _, a, rfl, hm0, po.wd, ha, po.g.n1, po.g.sz.a (Nat.le_refl _) a ha, po.g.sz.zs _ (Nat.sub_le _ _), fun sv H2 x2 hv => ⟨sv, rfl, x2, hv⟩⟩
  rintro σ' H2 ⟨sv, rfl, x2, hsv⟩
  have sp2 := sp1.mono x2
  have hm2 := hm.mono x2
  show WB X _ _ _ _
  -- learned, or kept, or not
  with_reducible refine' wb_cons ?_
  with_reducible refine' ws_to (fun σ' H' => ∃ l', σ' = [some (.ref p), some (.ref r), some bv, some (.bl st.bk.doubled), some m, some sv] ∧ (l' = l ∨ H2 l' = none) ∧ ExX (fun a => a = p) H2 H' ∧ SndL X.K { stp st ds N with rn := st.rn, nd := st.nd } p b0 l' H') ?_ ?_
  · refine ws_if (wt_cmp ?_ ?hm)
    case hm => rfl
    repeat walk_at "w"
    cases es' : smp st.bk.word st.wt st.bk.doubled ds N with
    | some s =>
      rw [es'] at hsv
      rw [decide_eq_false (show ¬ sv = .non from fun e => by obtain ⟨_, _, e2, _⟩ := hsv; rw [e2] at e; cases e)]
      repeat walk_at "w"
      with_reducible refine' ws_expr ?_ ?hs
      case hs => rfl
      refine we_meth B T.c_Sender.cl ⟨_, T.e_Sender_learn, f_learn T⟩ (by decide) ?_
      repeat walk_at "w"
      refine ⟨p, dx, _, rfl, sp2.hp, rfl, ?_⟩
      repeat walk_at "w"
      refine ⟨st, p, b0, l, sv, s, rfl, ⟨dx, wv, ev, ss, by rw [← ebv]; exact sp2⟩, hsv, po.l s es', fun H3 l' x3 f3 h3 => ?_⟩
      refine ⟨l', rfl, f3, x3, ?_⟩
      have e : ({ stp st ds N with rn := st.rn, nd := st.nd } : SS) = lrn st s := by unfold stp; rw [es']; rfl
      rw [e]
      exact h3
    | none =>
      rw [es'] at hsv
      cases hsv
      rw [decide_eq_true (show V.non = V.non from rfl)]
      have hb2 := sp2.bv
      have hp2 := sp2.hp
      repeat walk_at "w"
      cases ek : st.bk.kept with
      | true =>
        repeat walk_at "w"
        intro lv hlv
        repeat walk_at "w"
        have xf : ExX (fun a => a = p) H2 (upd H2 p (.ins (CS X.K) dx (sfs lv bv ev (.ref l) st.rn st.nd))) := put_x
        have e : ({ stp st ds N with rn := st.rn, nd := st.nd } : SS) = { st with wt := lwk st.wt st.bk.doubled N } := by unfold stp; rw [es', ek]; rfl
        rw [e]
        subst ebv
        exact ⟨l, rfl, .inl rfl, xf, dx, lv, ev, ss, upd_same, TimeV.zx xf sp2.hp sfs_sf hlv, BookV.zx xf sp2.hp sfs_sf sp2.bv, TimeV.zx xf sp2.hp sfs_sf sp2.ev, lst_zx xf sp2.hp sp2.ss.ns sp2.hl, TmL.zx xf sp2.hp sfs_sf sp2.ss⟩
      | false =>
        repeat walk_at "w"
        have e : ({ stp st ds N with rn := st.rn, nd := st.nd } : SS) = st := by unfold stp; rw [es', ek]; rfl
        rw [e]
        subst ebv
        exact ⟨l, rfl, .inl rfl, ExX.refl _, dx, wv, ev, ss, sp2⟩
  rintro σ' H3 ⟨l3, rfl, f3, x3, d3, wv3, ev3, ss3, sp3⟩
  obtain ⟨bv3, ebv3⟩ : ∃ bv3, bv3 = V.ref b0 := ⟨_, rfl⟩
  rw [← ebv3] at sp3
  have hm3 : RndV X.K st.wt st.bk.doubled ds N m H3 := RndV.zx x3 sp2.hp sfs_sf hm2
  have hp3 := sp3.hp
  show WB X _ _ _ _
  repeat walk_at "w"
  refine ⟨_, _, ds, N, RndV.zx put_x hp3 sfs_sf hm3, ?_⟩
  repeat walk_at "w"
  rw [upd_two]
  have xf : ExX (fun a => a = p) H3 (upd H3 p (.ins (CS X.K) d3 (sfs wv3 bv3 ev3 (.ref l3) (st.rn + 1) (st.nd + (rsk 0 st.wt st.bk.doubled ds N).nd)))) := put_x
  have x03 : ExX (fun a => a = p) H H3 := ExX.then ((x1.trans x2).x) x3 (fun a s => .inl s) (fun l C d2 f2 e h => by subst e; exact ⟨_, _, _, sp2.hp⟩)
  subst ebv3
  refine k m _ l3 (x03.put rfl) (f3.imp id fun h => (x1.trans x2).back h) ⟨d3, wv3, ev3, ss3, upd_same, TimeV.zx xf hp3 sfs_sf sp3.wv, BookV.zx xf hp3 sfs_sf sp3.bv, TimeV.zx xf hp3 sfs_sf sp3.ev, lst_zx xf hp3 sp3.ss.ns sp3.hl, TmL.zx xf hp3 sfs_sf sp3.ss⟩ (RndV.zx xf hp3 sfs_sf hm3)
def spCallW (K : PySem.W.Frag) : Sp := fun vs H Q _ => ∃ st p b0 r ys ds N, vs = [.ref p, .ref r] ∧ SndW K st (.ref p) b0 H ∧ H r = some (.lst ys) ∧ DTims K ds ys H ∧ POk st ds N ∧
  ∀ v H', ExX (fun a => a = p) H H' → SndW K (stp st ds N) (.ref p) b0 H' → RndV K st.wt st.bk.doubled ds N v H' → Q v H'
theorem f_scallW (T : Tm K mg) : FnR P w K mg base (RX P w) 11 (ma K (CS K) "__call__") (spCallW K) := (f_scallL T).imp fun vs H Q E h => by
  obtain ⟨st, p, b0, r, ys, ds, N, rfl, hs, hr, hds, po, k⟩ := h
  obtain ⟨l, hs⟩ := hs.at_l
  exact ⟨st, p, b0, l, r, ys, ds, N, rfl, hs, hr, hds, po, fun v H' l' x _ h hm => k v H' x h.sw hm⟩
def spCall (K : PySem.W.Frag) : Sp := fun vs H Q _ => ∃ st p r ys ds N, vs = [.ref p, .ref r] ∧ SndV K st (.ref p) H ∧ H r = some (.lst ys) ∧ DTims K ds ys H ∧ POk st ds N ∧
  ∀ v H', ExX (fun a => a = p) H H' → SndV K (stp st ds N) (.ref p) H' → RndV K st.wt st.bk.doubled ds N v H' → Q v H'
theorem f_scall (T : Tm K mg) : FnR P w K mg base (RX P w) 11 (ma K (CS K) "__call__") (spCall K) := (f_scallW T).imp fun vs H Q E h => by
  obtain ⟨st, p, r, ys, ds, N, rfl, hs, hr, hds, po, k⟩ := h
  obtain ⟨b, hs⟩ := hs.w
  exact ⟨st, p, b, r, ys, ds, N, rfl, hs, hr, hds, po, fun v H' x h hm => k v H' x h.v hm⟩
end

/-! ### what a sender tells -/
section
variable {P : Program} {w : World} {K : PySem.W.Frag} {mg : Str → Option Value} {base : Heap}
def spS_estimate (K : PySem.W.Frag) : Sp := fun vs H Q _ => ∃ st v, vs = [v] ∧ SndV K st v H ∧ (∀ v', TimeV (CT K) st.est v' H → Q v' H)
theorem ok_S_estimate (T : Tm K mg) : ∃ fd, FnOk P w K mg base (RX P w) 1 (pgA K (CS K) "estimate") fd ["self"] (spS_estimate K) ∧ Binds K fd ["self"] [] := by
  obtain ⟨fd, F⟩ := T.d_Sender_estimate
  refine ⟨fd, def_ok F sc_Sender_estimate (fun vs H Q E h => by obtain ⟨st, v, rfl, _⟩ := h; rfl) ?_, (F.bindsN fun _ _ _ _ _ _ us hl => match us, hl with | [_], _ => rfl)⟩
  intro X eP ew eK em eb eN es hf nd H vs Q E B h
  subst eP ew eK em eb
  have n0 : Sl X 0 "self" := slot_of eN es hf nd rfl (by first | exact Or.inl rfl | exact Or.inr rfl) (by decide) (by decide)
  obtain ⟨st, v, rfl, ⟨p, dx, wv, bv, ev, l, ss, rfl, sp⟩, z⟩ := h
  show WB X [_] _ [some (.ref p)] H
  have hp := sp.hp
  repeat walk_at "w"
  exact z _ sp.ev
def spS_wait (K : PySem.W.Frag) : Sp := fun vs H Q _ => ∃ st v, vs = [v] ∧ SndV K st v H ∧ (∀ v', TimeV (CT K) st.wt v' H → Q v' H)
theorem ok_S_wait (T : Tm K mg) : ∃ fd, FnOk P w K mg base (RX P w) 1 (pgA K (CS K) "wait") fd ["self"] (spS_wait K) ∧ Binds K fd ["self"] [] := by
  obtain ⟨fd, F⟩ := T.d_Sender_wait
  refine ⟨fd, def_ok F sc_Sender_wait (fun vs H Q E h => by obtain ⟨st, v, rfl, _⟩ := h; rfl) ?_, (F.bindsN fun _ _ _ _ _ _ us hl => match us, hl with | [_], _ => rfl)⟩
  intro X eP ew eK em eb eN es hf nd H vs Q E B h
  subst eP ew eK em eb
  have n0 : Sl X 0 "self" := slot_of eN es hf nd rfl (by first | exact Or.inl rfl | exact Or.inr rfl) (by decide) (by decide)
  obtain ⟨st, v, rfl, ⟨p, dx, wv, bv, ev, l, ss, rfl, sp⟩, z⟩ := h
  show WB X [_] _ [some (.ref p)] H
  have hp := sp.hp
  repeat walk_at "w"
  exact z _ sp.wv
theorem k_Sender (T : Tm K mg) : GMk P w K mg base 13 "Sender" (CS K) (spSInit K) [] := by
  obtain ⟨fd, F⟩ := T.d_Sender___init__
  exact ⟨_, fd, _, [], T.g_Sender, T.m_Sender, ok_sinit T F, (F.bindsN fun _ _ _ _ _ _ us hl => match us, hl with | [_, _, _], _ => rfl), .nil⟩
end
section
variable {X : Cx} {k : Nat} {E : L2.St → XK} {σ : L2.St} {H : Hp} {Q : VK} {e : Expr} {pos apos : Pos}
theorem we_S_estimate (B : Body X k E) (T : Tm X.K X.mg) (hk : 2 ≤ k) (h : WE X e σ H fun y H1 => ∃ st, SndV X.K st y H1 ∧ (∀ v', TimeV (CT X.K) st.est v' H1 → Q v' H1)) (he : attributeBase e "estimate" X.env (eval e X.env) = eval e X.env := by rfl) : WE X (.Attribute e "estimate" pos) σ H Q := by
  obtain ⟨fd, F, hb⟩ := ok_S_estimate (P := X.prog) (w := X.w) (base := X.base) T
  refine we_prop B T.c_Sender.cl T.p_Sender_estimate F hk hb .nil (we_mono h fun y H1 z => ?_) he
  obtain ⟨st, hs, z⟩ := z
  have hs' := hs
  obtain ⟨p, dx, wv, bv, ev, l, ss, rfl, sp⟩ := hs'
  exact ⟨p, dx, _, rfl, sp.hp, st, _, rfl, hs, z⟩
theorem we_S_wait (B : Body X k E) (T : Tm X.K X.mg) (hk : 2 ≤ k) (h : WE X e σ H fun y H1 => ∃ st, SndV X.K st y H1 ∧ (∀ v', TimeV (CT X.K) st.wt v' H1 → Q v' H1)) (he : attributeBase e "wait" X.env (eval e X.env) = eval e X.env := by rfl) : WE X (.Attribute e "wait" pos) σ H Q := by
  obtain ⟨fd, F, hb⟩ := ok_S_wait (P := X.prog) (w := X.w) (base := X.base) T
  refine we_prop B T.c_Sender.cl T.p_Sender_wait F hk hb .nil (we_mono h fun y H1 z => ?_) he
  obtain ⟨st, hs, z⟩ := z
  have hs' := hs
  obtain ⟨p, dx, wv, bv, ev, l, ss, rfl, sp⟩ := hs'
  exact ⟨p, dx, _, rfl, sp.hp, st, _, rfl, hs, z⟩
theorem sv_ok {K : PySem.W.Frag} {st : SS} {v : V} {H : Hp} {R : SS → Prop} (h : SndV K st v H) (z : R st) : ∃ st, SndV K st v H ∧ R st := ⟨st, h, z⟩
end
section
variable {P : Program} {w : World} {K : PySem.W.Frag} {mg : Str → Option Value} {base : Heap}
/-- a sender made -/
theorem made_s {H : Hp} {E : XK} {Q : VK} {z : Bk} {q : Rat} {bv ev : V} (hb : BookV K z bv H) (ok : BkOk z) (he : Tim K q ev H) (q0 : 0 < q) (zq : Sz q 1500) (k : ∀ a H', H a = none → Ex H H' → SndV K (begun z q) (.ref a) H' → Q (.ref a) H') :
    ∀ a dx, H a = none → H dx = none → dx ≠ a → spSInit K ([.ref a, bv, ev] ++ []) (upd (upd H dx (.own a)) a (.ins (CS K) dx [])) (fun v H2 => v = .non ∧ Q (.ref a) H2) E := by
  intro a dx na nd ne
  have x1 : Ex H (upd (upd H dx (.own a)) a (.ins (CS K) dx [])) := Ex.new2 na nd
  exact ⟨z, q, a, dx, bv, ev, rfl, upd_same, hb.mono x1, ok, he.mono x1, q0, zq, fun b H' _ x3 hs => ⟨rfl, k a _ na (ExX.fresh x1 x3 fun c e => by subst e; exact na) hs.v⟩⟩
end

/-! ### _law_divisor, _law_lowest, _law_integer -/
local macro_rules | `(tactic| walk_at "sou") => `(tactic| first | assumption | ((with_reducible refine' Sou.mono ?s ?x); (case s => assumption); (case x => walk_at "x")))
local macro_rules | `(tactic| walk_at "wO") => `(tactic| first | ((with_reducible refine' o_fdiv ?h0 ?h1 ?_); (case h0 => decide); (case h1 => decide)) | ((with_reducible refine' o_mod ?h0 ?_); (case h0 => decide)) | fail)
local macro_rules | `(tactic| walk_at "wX") => `(tactic| first | ((with_reducible refine' dr_ok ?s ?h0 ?h1 ?_); (case s => walk_at "sou"); (case h0 => decide); (case h1 => exact small_n (by decide))) | fail)

/-! ### _law_number, _law_under -/
local macro_rules | `(tactic| walk_at "hp") => `(tactic| ((with_reducible refine' Ex.tup ?x ?h); (case h => assumption); (case x => walk_at "x")))
local macro_rules | `(tactic| walk_at "wS") => `(tactic| first | ((with_reducible refine' ws_aug ?n ?h0 ?_); (case n => with_reducible assumption); (case h0 => rfl)) | fail)
local macro_rules | `(tactic| walk_at "wX") => `(tactic| first | with_reducible refine' ret_i fun _ _ _ _ => ?_ | with_reducible refine' draw_i fun _ _ _ _ _ => ?_ | with_reducible refine' num_i fun _ _ _ _ => ?_ | with_reducible refine' und_i fun _ _ _ _ _ => ?_ | with_reducible refine' prs_i fun _ _ _ _ => ?_ | with_reducible refine' yes_i fun _ _ => ?_ | fail)

/-! ### _law_begin -/
local macro_rules | `(tactic| walk_at "wX") => `(tactic| first | ((with_reducible refine' tup_i ?hl fun _ _ _ _ => ?_); (case hl => first | exact len2 | exact len3 | exact len4 | exact len1 | exact len5)) | ((with_reducible refine' lst_i ?hl fun _ _ _ _ _ => ?_); (case hl => first | exact len2 | exact len3 | exact len4 | exact len1 | exact len5)) | fail)
section
variable {P : Program} {w : World} {K : PySem.W.Frag} {mg : Str → Option Value} {base : Heap}
theorem f__law_begin (T : Tm K mg) : GFn P w K mg base 1 "_law_begin" (spBegin K) := by
  obtain ⟨fd, F⟩ := T.d__law_begin
  refine GFn.mk F T.g__law_begin (def_ok F sc__law_begin (fun vs H Q E h => by obtain ⟨a, ns, rfl, _⟩ := h; rfl) ?_) (F.bindsN fun _ _ _ _ _ _ us hl => match us, hl with | [_], _ => rfl)
  intro X eP ew eK em eb eN es hf nd H vs Q E B h
  subst eP ew eK em eb
  have n0 : Sl X 0 "_law_script" := slot_of eN es hf nd rfl (by first | exact Or.inl rfl | exact Or.inr rfl) (by decide) (by decide)
  have z_list : Bn X "list" := bn_of es rfl T.z_list
  obtain ⟨a, ns, rfl, hs, k⟩ := h
  show WB X [_] _ [some (.ref a)] H
  refine wb_one (ws_ret (we_lst (wa_cons (we_listof z_list (we_cutU ?_)) ?_)))
  case refine_2 => rfl
  repeat walk_at "w"
  obtain ⟨ms, em⟩ := cut_ints ns 63
  refine ⟨a, _, 63, rfl, rfl, hs, ?_⟩
  rw [em]
  intro l0 h0
  refine ⟨l0, _, rfl, .inl (.of upd_same), fun l h1 => ?_⟩
  refine wa_three ?_
  repeat walk_at "w"
  rename_i p H2 hp x e
  refine k p H2 (((Ex.new h0).trans (Ex.new h1)).trans x) ⟨l, _, ms, e, src0 (by decide) (by decide) (by decide), ?_⟩
  exact x.keep _ _ upd_same not_src_ints
end

/-! ### for x in range(n), the end not known before -/
section
variable {X : Cx} {k : Nat} {E : L2.St → XK} {x : Str} {D : Ends} {σ : L2.St} {H : Hp} {a : Expr} {i : Nat} {body : List Stmt} {px pr pc pos : Pos}
/-- for x in range(a), the end not known before -/
theorem ws_for_rangeE (B : Body X k E) (s : Sl X i x) (bn : Bn X "range")
    (h : WE X a σ H fun v H1 => ∃ n : Nat, v = .int n ∧ n ≤ 1000000000 ∧ ∃ P : Nat → L2.St → Hp → Prop, P 0 σ H1 ∧ (∀ j σ H, j < n → P j σ H → WB X body { D with nx := P (j + 1), ct := P (j + 1), bk := D.nx } (σ.set i (some (.int j))) H) ∧ ∀ σ H, P n σ H → D.nx σ H)
    (hs : starEach [a] X.env = [(false, eval a X.env)] := by rfl) : WS X (.For (.Name x px) (.Call (.Name "range" pr) [a] [] pc) body [] pos) D σ H := by
  refine wsP (ps_for B.po B.calm (pi_range1 bn.gl bn.no paS hs) (pg_name s.nd s.at_ s.loc s.fn) pbS) ?_
  refine wa_one (we_mono h fun v H1 q => ?_) hs
  obtain ⟨n, rfl, hn, P, p0, ht, hd⟩ := q
  refine ⟨n, rfl, by omega, by omega, for_range (lo := 0) P p0 (fun j σ H hj p => ?_) hd⟩
  have z := ht j σ H (by rw [Int.toNat_natCast] at hj; exact hj) p
  show WB X body _ (σ.set i (some (.int (0 + (j : Int))))) H
  rw [Int.zero_add]
  exact z
end

/-! ### items of drawn lists -/
theorem at_all {K : PySem.W.Frag} {H : Hp} {p : Addr} {xs : List V} {d : Int} {Q : VK} (hp : H p = some (.lst xs)) (d0 : 0 ≤ d) (d1 : d < xs.length) (q : ∀ x ∈ xs, Q x H) : rIx K (.ref p) (.int d) H Q := by
  obtain ⟨n, rfl⟩ := Int.eq_ofNat_of_zero_le d0
  have hn : n < xs.length := by omega
  exact at_l hp (atI_nat (List.getElem?_eq_getElem hn)) (q _ (List.getElem_mem hn))
theorem ns_len {vs : List V} (h : vs.length ≠ 4) : ¬ Src (.lst vs) := fun ⟨_, _, _, _, e, _⟩ => by
  injection e with e
  subst e
  exact h rfl
theorem ns_snd {a : V} {b : Addr} {r : List V} : ¬ Src (.lst (a :: .ref b :: r)) := fun ⟨_, _, _, _, e, _⟩ => by
  injection e with e
  injection e with _ e
  injection e with e _
  cases e
theorem ns_non {r : List V} : ¬ Src (.lst (.non :: r)) := fun ⟨_, _, _, _, e, _⟩ => by
  injection e with e
  injection e with e _
  cases e
theorem ns_str {x : Str} {r : List V} : ¬ Src (.lst (.str x :: r)) := fun ⟨_, _, _, _, e, _⟩ => by
  injection e with e
  injection e with e _
  cases e
theorem lenk {vs : List V} (n : Nat) (h : vs.length = n) (l : n ≤ 1000 := by decide) : vs.length ≤ sizeLine := by
  rw [h]
  exact Nat.le_trans l (by decide)
theorem o_catL {X : Cx} {H : Hp} {Q : VK} {l b : Addr} {xs zs : List V} (h1 : H l = some (.lst xs)) (h2 : H b = some (.lst zs)) (h3 : xs.length + zs.length ≤ sizeLine) (q : ∀ p, H p = none → Q (.ref p) (upd H p (.lst (xs ++ zs)))) : Op2 X (binaryOp .Add) (.ref l) (.ref b) H Q :=
  op2_of op_cat ⟨l, b, xs, zs, rfl, rfl, h1, h2, h3, q⟩

--IMPORT Mt14
/-! ### pairs as drawn -/
abbrev IP : Type := Int × Int
def pq (c : IP) : Rat := Rat.divInt c.1 c.2
def PrU (c : IP) (v : V) (H : Hp) : Prop := ∃ p, v = .ref p ∧ H p = some (.tup [.int c.1, .int c.2])
theorem PrU.mono {c : IP} {v : V} {H H' : Hp} (x : Ex H H') (h : PrU c v H) : PrU c v H' := by
  obtain ⟨p, e, h⟩ := h
  exact ⟨p, e, x.tup h⟩
def OPu (o : Option IP) (v : V) (H : Hp) : Prop := match o with
  | none => v = .non
  | some c => PrU c v H
theorem OPu.mono {o : Option IP} {v : V} {H H' : Hp} (x : Ex H H') (h : OPu o v H) : OPu o v H' := by
  cases o with
  | none => exact h
  | some c => exact PrU.mono x h
theorem PrU.nn {c : IP} {v : V} {H : Hp} (h : PrU c v H) : v ≠ .non := by
  obtain ⟨p, rfl, _⟩ := h
  exact fun e => nomatch e
theorem OPu.nn {o : Option IP} {v : V} {H : Hp} (h : OPu o v H) : decide (v = .non) = o.isNone := by
  cases o with
  | none => cases h; rfl
  | some c => rw [decide_eq_false (PrU.nn h)]; rfl
theorem pu_at0 {K : PySem.W.Frag} {c : IP} {v : V} {H : Hp} {Q : VK} (h : PrU c v H) (q : Q (.int c.1) H) : rIx K v (.int 0) H Q := by
  obtain ⟨p, rfl, h⟩ := h
  exact at_t h rfl q
theorem pu_at1 {K : PySem.W.Frag} {c : IP} {v : V} {H : Hp} {Q : VK} (h : PrU c v H) (q : Q (.int c.2) H) : rIx K v (.int 1) H Q := by
  obtain ⟨p, rfl, h⟩ := h
  exact at_t h rfl q
local macro_rules | `(tactic| walk_at "pu") => `(tactic| first | assumption | ((with_reducible refine' PrU.mono ?x ?h); (case h => assumption); (case x => walk_at "x")) | fail)
local macro_rules | `(tactic| walk_at "wR") => `(tactic| first | ((with_reducible refine' pu_at0 ?h ?_); (case h => walk_at "pu")) | ((with_reducible refine' pu_at1 ?h ?_); (case h => walk_at "pu")) | fail)
/-! ### drawn rules -/
structure RB where
  word : Str
  sh : IP
  lat : Option Nat
  fa : IP
  ma : IP
  fl : Option IP
  ro : Option IP
  db : Bool
  kp : Bool
def RB.bk (r : RB) : Bk := ⟨r.word, pq r.sh, r.lat, pq r.fa, pq r.ma, r.fl.map pq, r.ro.map pq, r.db, r.kp⟩
structure RuU (r : RB) (v1 v3 v4 v5 v6 : V) (H : Hp) : Prop where
  sh : PrU r.sh v1 H
  fa : PrU r.fa v3 H
  ma : PrU r.ma v4 H
  fl : OPu r.fl v5 H
  ro : OPu r.ro v6 H
theorem RuU.mono {r : RB} {v1 v3 v4 v5 v6 : V} {H H' : Hp} (x : Ex H H') (h : RuU r v1 v3 v4 v5 v6 H) : RuU r v1 v3 v4 v5 v6 H' := ⟨h.sh.mono x, h.fa.mono x, h.ma.mono x, h.fl.mono x, h.ro.mono x⟩
def ShP (c : IP) : Prop := 1 ≤ c.1 ∧ c.1 ≤ c.2 ∧ c.2 ≤ 119
def FaP (c : IP) : Prop := 1 ≤ c.2 ∧ c.2 ≤ c.1 ∧ c.2 ≤ 12 ∧ c.1 ≤ 41
def FlP (c : IP) : Prop := 1 ≤ c.1 ∧ c.1 ≤ 40 ∧ 1 ≤ c.2 ∧ c.2 ≤ 4
def RoP (c : IP) (fl : Option IP) : Prop := 1 ≤ c.1 ∧ c.1 ≤ 320 ∧ 1 ≤ c.2 ∧ c.2 ≤ 16 ∧ ∀ f, fl = some f → f.1 * c.2 ≤ c.1 * f.2
structure RbOk (r : RB) : Prop where
  word : r.word ∈ (["first", "last", "marked", "clean"] : List Str)
  sh : ShP r.sh
  lat : ∀ n, r.lat = some n → 1 ≤ n ∧ n ≤ 20 ∧ r.sh.1 = r.sh.2
  fa : FaP r.fa
  ma : 0 ≤ r.ma.1 ∧ r.ma.1 ≤ 8 ∧ 1 ≤ r.ma.2 ∧ r.ma.2 ≤ 4
  fl : ∀ c, r.fl = some c → FlP c
  ro : ∀ c, r.ro = some c → RoP c r.fl
  kp : r.kp = true → r.db = true
theorem sz_pq {c : IP} (h0 : c.2 ≠ 0) (h1 : c.1.natAbs < 512) (h2 : c.2.natAbs < 512) : Sz (pq c) 9 := Sz.div h0 h1 h2
theorem RbOk.bk {r : RB} (h : RbOk r) : BkOk r.bk := by
  obtain ⟨a1, a2, a3⟩ := h.sh
  obtain ⟨b1, b2, b3, b4⟩ := h.fa
  obtain ⟨c1, c2, c3, c4⟩ := h.ma
  have up : ∀ {q : Rat}, Sz q 9 → Sz q 1000 := fun h => h.mono (by decide)
  refine ⟨h.word, (dv_pos (by omega)).mpr (by omega), (dv_le1 (by omega)).mpr a2, fun n e => ?_, (dv_ge1 (by omega)).mpr b2, (dv_nn (by omega)).mpr c1, fun f e => ?_, fun q e => ?_, h.kp, up (sz_pq (by omega) (by omega) (by omega)), up (sz_pq (by omega) (by omega) (by omega)), up (sz_pq (by omega) (by omega) (by omega)), fun f e => ?_, fun f e => ?_⟩
  · obtain ⟨l1, l2, l3⟩ := h.lat n e
    refine ⟨l1, l2, ?_⟩
    show Rat.divInt r.sh.1 r.sh.2 = 1
    rw [l3]
    exact dv_one (by omega)
  · obtain ⟨c, ec, rfl⟩ := Option.map_eq_some_iff.mp (show r.fl.map pq = some f from e)
    obtain ⟨d1, _, d3, _⟩ := h.fl c ec
    exact (dv_pos (by omega)).mpr (by omega)
  · obtain ⟨c, ec, rfl⟩ := Option.map_eq_some_iff.mp (show r.ro.map pq = some q from e)
    obtain ⟨d1, d2, d3, d4, d5⟩ := h.ro c ec
    refine ⟨(dv_pos (by omega)).mpr (by omega), fun f ef => ?_⟩
    obtain ⟨g, eg, rfl⟩ := Option.map_eq_some_iff.mp (show r.fl.map pq = some f from ef)
    obtain ⟨g1, _, g3, _⟩ := h.fl g eg
    exact (dv_le (by omega) (by omega)).mpr (d5 g eg)
  · obtain ⟨c, ec, rfl⟩ := Option.map_eq_some_iff.mp (show r.fl.map pq = some f from e)
    obtain ⟨d1, d2, d3, d4⟩ := h.fl c ec
    exact up (sz_pq (by omega) (by omega) (by omega))
  · obtain ⟨c, ec, rfl⟩ := Option.map_eq_some_iff.mp (show r.ro.map pq = some f from e)
    obtain ⟨d1, d2, d3, d4, _⟩ := h.ro c ec
    exact up (sz_pq (by omega) (by omega) (by omega))
section
variable {P : Program} {w : World} {K : PySem.W.Frag} {mg : Str → Option Value} {base : Heap}
def spShareB : Sp := fun vs H Q _ => ∃ p, vs = [.ref p] ∧ Sou H p ∧ ∀ c v H', Ex H H' → PrU c v H' → ShP c → Q v H'
theorem f__law_share (T : Tm K mg) : GFn P w K mg base 3 "_law_share" spShareB := by
  obtain ⟨fd, F⟩ := T.d__law_share
  refine GFn.mk F T.g__law_share (def_ok F sc__law_share (fun vs H Q E h => by obtain ⟨p, rfl, _⟩ := h; rfl) ?_) (F.bindsN fun _ _ _ _ _ _ us hl => match us, hl with | [_], _ => rfl)
  intro X eP ew eK em eb eN es hf nd H vs Q E B h
  subst eP ew eK em eb
  have n0 : Sl X 0 "_law_source" := slot_of eN es hf nd rfl (by first | exact Or.inl rfl | exact Or.inr rfl) (by decide) (by decide)
  have n1 : Sl X 1 "_law_kind" := slot_of eN es hf nd rfl (by first | exact Or.inl rfl | exact Or.inr rfl) (by decide) (by decide)
  have n2 : Sl X 2 "_law_upper" := slot_of eN es hf nd rfl (by first | exact Or.inl rfl | exact Or.inr rfl) (by decide) (by decide)
  have g__law_draw : Gn X "_law_draw" := gn_of es rfl (by decide)
  have F__law_draw := f__law_draw (P := X.prog) (w := X.w) (base := X.base) T
  obtain ⟨p, rfl, so, k⟩ := h
  show WB X [_, _, _, _] _ [some (.ref p), none, none] H
  with_reducible refine' wb_cons ?_
  with_reducible refine' ws_to (fun σ' H' => ∃ d, σ' = [some (.ref p), some (.int d), none] ∧ Ex H H' ∧ 0 ≤ d ∧ d < 5) ?_ ?_
  · repeat walk_at "w"
    rename_i d H1 x1 d0 d1
    exact ⟨d, rfl, x1, d0, d1⟩
  rintro σ' H1 ⟨d, rfl, x1, d0, d5⟩
  have so1 := so.mono x1
  show WB X _ _ _ _
  repeat walk_at "w"
  refine ite_dec (fun h4 => ?_) (fun h4 => ?_)
  · repeat walk_at "w"
    rename_i t1 H2 x2 e1 t2 H3 x3 e2 t3 H4 x4 e3 t4 H5 x5 e4 l H6 nl x6 hl
    refine at_all hl d0 (by exact h4) fun y hy => ?_
    have b3 := x5.trans x6
    have b2 := x4.trans b3
    have b1 := x3.trans b2
    have b0 := x2.trans b1
    simp only [List.mem_cons, List.not_mem_nil, or_false] at hy
    rcases hy with rfl | rfl | rfl | rfl
    · exact k (1, 1) _ _ (x1.trans b0) ⟨_, rfl, b1.tup e1⟩ ⟨by decide, by decide, by decide⟩
    · exact k (1, 1) _ _ (x1.trans b0) ⟨_, rfl, b2.tup e2⟩ ⟨by decide, by decide, by decide⟩
    · exact k (1, 2) _ _ (x1.trans b0) ⟨_, rfl, b3.tup e3⟩ ⟨by decide, by decide, by decide⟩
    · exact k (1, 8) _ _ (x1.trans b0) ⟨_, rfl, x6.tup e4⟩ ⟨by decide, by decide, by decide⟩
  · repeat walk_at "w"
    rename_i a H2 x2 a0 a1 b H3 x3 b0 b1 t H4 x4 e4
    exact k (1 + a, 1 + a + b) _ _ ((x1.trans x2).trans (x3.trans x4)) ⟨_, rfl, e4⟩ ⟨by show 1 ≤ 1 + a; omega, by show 1 + a ≤ 1 + a + b; omega, by show 1 + a + b ≤ 119; omega⟩
def spFactorB : Sp := fun vs H Q _ => ∃ p, vs = [.ref p] ∧ Sou H p ∧ ∀ c v H', Ex H H' → PrU c v H' → FaP c → Q v H'
theorem f__law_factor (T : Tm K mg) : GFn P w K mg base 3 "_law_factor" spFactorB := by
  obtain ⟨fd, F⟩ := T.d__law_factor
  refine GFn.mk F T.g__law_factor (def_ok F sc__law_factor (fun vs H Q E h => by obtain ⟨p, rfl, _⟩ := h; rfl) ?_) (F.bindsN fun _ _ _ _ _ _ us hl => match us, hl with | [_], _ => rfl)
  intro X eP ew eK em eb eN es hf nd H vs Q E B h
  subst eP ew eK em eb
  have n0 : Sl X 0 "_law_source" := slot_of eN es hf nd rfl (by first | exact Or.inl rfl | exact Or.inr rfl) (by decide) (by decide)
  have n1 : Sl X 1 "_law_kind" := slot_of eN es hf nd rfl (by first | exact Or.inl rfl | exact Or.inr rfl) (by decide) (by decide)
  have n2 : Sl X 2 "_law_lower" := slot_of eN es hf nd rfl (by first | exact Or.inl rfl | exact Or.inr rfl) (by decide) (by decide)
  have g__law_draw : Gn X "_law_draw" := gn_of es rfl (by decide)
  have F__law_draw := f__law_draw (P := X.prog) (w := X.w) (base := X.base) T
  obtain ⟨p, rfl, so, k⟩ := h
  show WB X [_, _, _, _] _ [some (.ref p), none, none] H
  with_reducible refine' wb_cons ?_
  with_reducible refine' ws_to (fun σ' H' => ∃ d, σ' = [some (.ref p), some (.int d), none] ∧ Ex H H' ∧ 0 ≤ d ∧ d < 4) ?_ ?_
  · repeat walk_at "w"
    rename_i d H1 x1 d0 d1
    exact ⟨d, rfl, x1, d0, d1⟩
  rintro σ' H1 ⟨d, rfl, x1, d0, d5⟩
  have so1 := so.mono x1
  show WB X _ _ _ _
  repeat walk_at "w"
  refine ite_dec (fun h4 => ?_) (fun h4 => ?_)
  · repeat walk_at "w"
    rename_i t1 H2 x2 e1 t2 H3 x3 e2 t3 H4 x4 e3 l H6 nl x6 hl
    refine at_all hl d0 (by exact h4) fun y hy => ?_
    have b2 := x4.trans x6
    have b1 := x3.trans b2
    have b0 := x2.trans b1
    simp only [List.mem_cons, List.not_mem_nil, or_false] at hy
    rcases hy with rfl | rfl | rfl
    · exact k (1, 1) _ _ (x1.trans b0) ⟨_, rfl, b1.tup e1⟩ ⟨by decide, by decide, by decide, by decide⟩
    · exact k (2, 1) _ _ (x1.trans b0) ⟨_, rfl, b2.tup e2⟩ ⟨by decide, by decide, by decide, by decide⟩
    · exact k (3, 2) _ _ (x1.trans b0) ⟨_, rfl, x6.tup e3⟩ ⟨by decide, by decide, by decide, by decide⟩
  · repeat walk_at "w"
    rename_i a H2 x2 a0 a1 b H3 x3 b0 b1 t H4 x4 e4
    exact k (1 + a + b, 1 + a) _ _ ((x1.trans x2).trans (x3.trans x4)) ⟨_, rfl, e4⟩ ⟨by show 1 ≤ 1 + a; omega, by show 1 + a ≤ 1 + a + b; omega, by show 1 + a ≤ 12; omega, by show 1 + a + b ≤ 41; omega⟩
def spRoofB : Sp := fun vs H Q _ => ∃ p v fl, vs = [.ref p, v] ∧ Sou H p ∧ OPu fl v H ∧ (∀ c, fl = some c → FlP c) ∧ ∀ ro u H', Ex H H' → OPu ro u H' → (∀ c, ro = some c → RoP c fl ∧ (fl = none → c.1 ≤ 90 ∧ c.2 ≤ 4)) → Q u H'
theorem f__law_roof (T : Tm K mg) : GFn P w K mg base 3 "_law_roof" spRoofB := by
  obtain ⟨fd, F⟩ := T.d__law_roof
  refine GFn.mk F T.g__law_roof (def_ok F sc__law_roof (fun vs H Q E h => by obtain ⟨p, v, fl, rfl, _⟩ := h; rfl) ?_) (F.bindsN fun _ _ _ _ _ _ us hl => match us, hl with | [_, _], _ => rfl)
  intro X eP ew eK em eb eN es hf nd H vs Q E B h
  subst eP ew eK em eb
  have n0 : Sl X 0 "_law_source" := slot_of eN es hf nd rfl (by first | exact Or.inl rfl | exact Or.inr rfl) (by decide) (by decide)
  have n1 : Sl X 1 "_law_least" := slot_of eN es hf nd rfl (by first | exact Or.inl rfl | exact Or.inr rfl) (by decide) (by decide)
  have n2 : Sl X 2 "_law_lower" := slot_of eN es hf nd rfl (by first | exact Or.inl rfl | exact Or.inr rfl) (by decide) (by decide)
  have g__law_draw : Gn X "_law_draw" := gn_of es rfl (by decide)
  have F__law_draw := f__law_draw (P := X.prog) (w := X.w) (base := X.base) T
  obtain ⟨p, v, fl, rfl, so, hv, hfl, k⟩ := h
  show WB X [_, _, _, _] _ [some (.ref p), some (v), none] H
  repeat walk_at "w"
  rename_i d H1 x1 d0 d1
  have so1 := so.mono x1
  have hv1 := hv.mono x1
  refine ite_dec (fun h4 => ?_) (fun h4 => ?_)
  · repeat walk_at "w"
    exact k none _ _ x1 rfl fun c e => nomatch e
  · repeat walk_at "w"
    cases fl with
    | none =>
      cases hv1
      rw [decide_eq_true (rfl : V.non = V.non)]
      repeat walk_at "w"
      rename_i a H2 x2 a0 a1 b H3 x3 b0 b1 t H4 x4 e4
      exact k (some (1 + a, 1 + b)) _ _ ((x1.trans x2).trans (x3.trans x4)) ⟨_, rfl, e4⟩ fun c e => by cases e; exact ⟨⟨by show 1 ≤ 1 + a; omega, by show 1 + a ≤ 320; omega, by show 1 ≤ 1 + b; omega, by show 1 + b ≤ 16; omega, (fun f e => nomatch e)⟩, fun _ => ⟨by show 1 + a ≤ 90; omega, by show 1 + b ≤ 4; omega⟩⟩
    | some f =>
      have hf0 : PrU f v H1 := hv1
      obtain ⟨g1, g2, g3, g4⟩ := hfl f rfl
      rw [decide_eq_false (PrU.nn hf0)]
      repeat walk_at "w"
      rename_i a H2 x2 a0 a1
      have so2 := so1.mono x2
      have hf2 := hf0.mono x2
      have sm : ∀ {i j : Int}, i.natAbs < 2 ^ 10 → j.natAbs < 2 ^ 10 → CMulW i j := fun h h' => wide_mul h h' (by decide) (by decide) (by decide)
      refine o_mul (sm (by omega) (by omega)) ?_
      repeat walk_at "w"
      rename_i b H3 x3 b0 b1
      refine o_mul (sm (by omega) (by omega)) ?_
      repeat walk_at "w"
      refine o_mul (sm (by omega) (by omega)) ?_
      repeat walk_at "w"
      rename_i t H4 x4 e4
      have p1 : 1 ≤ f.1 * (1 + a) := by
        have := Int.mul_le_mul g1 (show 1 ≤ 1 + a by omega) (by decide) (by omega)
        omega
      have p2 : 1 ≤ f.2 * (1 + a) := by
        have := Int.mul_le_mul g3 (show 1 ≤ 1 + a by omega) (by decide) (by omega)
        omega
      have p3 : f.1 * (1 + a) ≤ 40 * 4 := Int.mul_le_mul g2 (by omega) (by omega) (by decide)
      have p4 : f.2 * (1 + a) ≤ 4 * 4 := Int.mul_le_mul g4 (by omega) (by omega) (by decide)
      have p5 : b * f.2 ≤ 39 * 4 := Int.mul_le_mul (by omega) g4 (by omega) (by decide)
      have p6 : 0 ≤ b * f.2 := Int.mul_nonneg b0 (by omega)
      refine k (some (f.1 * (1 + a) + b * f.2, f.2 * (1 + a))) _ _ ((x1.trans x2).trans (x3.trans x4)) ⟨_, rfl, e4⟩ fun c e => ?_
      cases e
      refine ⟨⟨by show 1 ≤ f.1 * (1 + a) + b * f.2; omega, by show f.1 * (1 + a) + b * f.2 ≤ 320; omega, p2, by show f.2 * (1 + a) ≤ 16; omega, fun g e => ?_⟩, fun e => nomatch e⟩
      cases e
      show f.1 * (f.2 * (1 + a)) ≤ (f.1 * (1 + a) + b * f.2) * f.2
      have e1 : (f.1 * (1 + a) + b * f.2) * f.2 = f.1 * (f.2 * (1 + a)) + b * f.2 * f.2 := by
        rw [Int.add_mul, Int.mul_assoc f.1 (1 + a) f.2, Int.mul_comm (1 + a) f.2]
      rw [e1]
      have := Int.mul_nonneg p6 (show 0 ≤ f.2 by omega)
      omega
/-- what the law's rules are -/
def spRulesB : Sp := fun vs H Q _ => ∃ p, vs = [.ref p] ∧ Sou H p ∧ ∀ r l v1 v3 v4 v5 v6 H', Ex H H' → H l = none → H' l = some (.lst (row9 r.bk v1 v3 v4 v5 v6)) → RuU r v1 v3 v4 v5 v6 H' → RbOk r → (∀ c, r.ro = some c → r.fl = none → c.1 ≤ 90 ∧ c.2 ≤ 4) → Q (.ref l) H'
theorem f__law_rules (T : Tm K mg) : GFn P w K mg base 4 "_law_rules" spRulesB := by
  obtain ⟨fd, F⟩ := T.d__law_rules
  refine GFn.mk F T.g__law_rules (def_ok F sc__law_rules (fun vs H Q E h => by obtain ⟨p, rfl, _⟩ := h; rfl) ?_) (F.bindsN fun _ _ _ _ _ _ us hl => match us, hl with | [_], _ => rfl)
  intro X eP ew eK em eb eN es hf nd H vs Q E B h
  subst eP ew eK em eb
  have n0 : Sl X 0 "_law_source" := slot_of eN es hf nd rfl (by first | exact Or.inl rfl | exact Or.inr rfl) (by decide) (by decide)
  have n1 : Sl X 1 "_law_word" := slot_of eN es hf nd rfl (by first | exact Or.inl rfl | exact Or.inr rfl) (by decide) (by decide)
  have n2 : Sl X 2 "_law_portion" := slot_of eN es hf nd rfl (by first | exact Or.inl rfl | exact Or.inr rfl) (by decide) (by decide)
  have n3 : Sl X 3 "_law_number" := slot_of eN es hf nd rfl (by first | exact Or.inl rfl | exact Or.inr rfl) (by decide) (by decide)
  have n4 : Sl X 4 "_law_times" := slot_of eN es hf nd rfl (by first | exact Or.inl rfl | exact Or.inr rfl) (by decide) (by decide)
  have n5 : Sl X 5 "_law_more" := slot_of eN es hf nd rfl (by first | exact Or.inl rfl | exact Or.inr rfl) (by decide) (by decide)
  have n6 : Sl X 6 "_law_least" := slot_of eN es hf nd rfl (by first | exact Or.inl rfl | exact Or.inr rfl) (by decide) (by decide)
  have n7 : Sl X 7 "_law_twofold" := slot_of eN es hf nd rfl (by first | exact Or.inl rfl | exact Or.inr rfl) (by decide) (by decide)
  have n8 : Sl X 8 "_law_held" := slot_of eN es hf nd rfl (by first | exact Or.inl rfl | exact Or.inr rfl) (by decide) (by decide)
  have g__law_draw : Gn X "_law_draw" := gn_of es rfl (by decide)
  have F__law_draw := f__law_draw (P := X.prog) (w := X.w) (base := X.base) T
  have g__law_share : Gn X "_law_share" := gn_of es rfl (by decide)
  have F__law_share := f__law_share (P := X.prog) (w := X.w) (base := X.base) T
  have g__law_factor : Gn X "_law_factor" := gn_of es rfl (by decide)
  have F__law_factor := f__law_factor (P := X.prog) (w := X.w) (base := X.base) T
  have g__law_roof : Gn X "_law_roof" := gn_of es rfl (by decide)
  have F__law_roof := f__law_roof (P := X.prog) (w := X.w) (base := X.base) T
  obtain ⟨p, rfl, so, k⟩ := h
  show WB X [_, _, _, _, _, _, _, _, _, _, _, _] _ [some (.ref p), none, none, none, none, none, none, none, none] H
  with_reducible refine' wb_cons ?_
  with_reducible refine' ws_to (fun σ' H' => ∃ x, σ' = [some (.ref p), some (.str x), none, none, none, none, none, none, none] ∧ Ex H H' ∧ x ∈ (["first", "last", "marked", "clean"] : List Str)) ?_ ?_
  · repeat walk_at "w"
    rename_i l H1 nl x1 hl d H2 x2 d0 d1
    refine at_all (x2.keep _ _ hl ns_str) d0 d1 fun y hy => ?_
    simp only [List.mem_cons, List.not_mem_nil, or_false] at hy
    rcases hy with rfl | rfl | rfl | rfl
    · exact ⟨_, rfl, x1.trans x2, by decide +kernel⟩
    · exact ⟨_, rfl, x1.trans x2, by decide +kernel⟩
    · exact ⟨_, rfl, x1.trans x2, by decide +kernel⟩
    · exact ⟨_, rfl, x1.trans x2, by decide +kernel⟩
  rintro σ' H1 ⟨x, rfl, x1, hx⟩
  have so1 := so.mono x1
  show WB X _ _ _ _
  with_reducible refine' wb_cons ?_
  with_reducible refine' ws_to (fun σ' H' => ∃ c v, σ' = [some (.ref p), some (.str x), some v, none, none, none, none, none, none] ∧ Ex H1 H' ∧ PrU c v H' ∧ ShP c) ?_ ?_
  · repeat walk_at "w"
    refine ⟨p, rfl, so1, fun c v H2 x2 hv hc => ?_⟩
    exact ⟨c, v, rfl, x2, hv, hc⟩
  rintro σ' H2 ⟨c1, v1, rfl, x2, hv1, hc1⟩
  have so2 := so1.mono x2
  show WB X _ _ _ _
  refine wb_cons (ws_set n3 (we_none ?_) (by rfl))
  show WB X _ _ _ _
  with_reducible refine' wb_cons ?_
  with_reducible refine' ws_to (fun σ' H' => ∃ o : Option Nat, σ' = [some (.ref p), some (.str x), some v1, some (latV o), none, none, none, none, none] ∧ Ex H2 H' ∧ ∀ n, o = some n → 1 ≤ n ∧ n ≤ 20 ∧ c1.1 = c1.2) ?_ ?_
  · refine ws_if (wt_and2 ?_)
    repeat walk_at "w"
    refine ite_dec (fun he => ?_) (fun he => ?_)
    · repeat walk_at "w"
      rename_i d Ha xa d0 d1
      refine ite_dec (fun h1 => ?_) (fun h1 => ?_)
      · repeat walk_at "w"
        rename_i l Hb nl xb hl g Hc xc g0 g1
        refine at_all (xc.keep _ _ hl (ns_len (show 5 ≠ 4 by decide))) g0 g1 fun y hy => ?_
        have xx := (xa.trans xb).trans xc
        simp only [List.mem_cons, List.not_mem_nil, or_false] at hy
        rcases hy with rfl | rfl | rfl | rfl | rfl
        · exact ⟨some 1, rfl, xx, fun n e => by cases e; exact ⟨by decide, by decide, he⟩⟩
        · exact ⟨some 2, rfl, xx, fun n e => by cases e; exact ⟨by decide, by decide, he⟩⟩
        · exact ⟨some 3, rfl, xx, fun n e => by cases e; exact ⟨by decide, by decide, he⟩⟩
        · exact ⟨some 4, rfl, xx, fun n e => by cases e; exact ⟨by decide, by decide, he⟩⟩
        · exact ⟨some 20, rfl, xx, fun n e => by cases e; exact ⟨by decide, by decide, he⟩⟩
      · repeat walk_at "w"
        exact ⟨none, rfl, xa, fun n e => nomatch e⟩
    · repeat walk_at "w"
      exact ⟨none, rfl, .refl _, fun n e => nomatch e⟩
  rintro σ' H3 ⟨o, rfl, x3, ho⟩
  have so3 := so2.mono x3
  show WB X _ _ _ _
  with_reducible refine' wb_cons ?_
  with_reducible refine' ws_to (fun σ' H' => ∃ c v, σ' = [some (.ref p), some (.str x), some v1, some (latV o), some v, none, none, none, none] ∧ Ex H3 H' ∧ PrU c v H' ∧ FaP c) ?_ ?_
  · repeat walk_at "w"
    refine ⟨p, rfl, so3, fun c v H4 x4 hv hc => ?_⟩
    exact ⟨c, v, rfl, x4, hv, hc⟩
  rintro σ' H4 ⟨c3, v3, rfl, x4, hv3, hc3⟩
  have so4 := so3.mono x4
  show WB X _ _ _ _
  with_reducible refine' wb_cons ?_
  with_reducible refine' ws_to (fun σ' H' => ∃ v, σ' = [some (.ref p), some (.str x), some v1, some (latV o), some v3, some v, none, none, none] ∧ Ex H4 H' ∧ PrU (0, 1) v H') ?_ ?_
  · repeat walk_at "w"
    rename_i t Ha xa ha
    exact ⟨_, rfl, xa, t, rfl, ha⟩
  rintro σ' H5 ⟨v4', rfl, x5, hv4'⟩
  have so5 := so4.mono x5
  show WB X _ _ _ _
  with_reducible refine' wb_cons ?_
  with_reducible refine' ws_to (fun σ' H' => ∃ c v, σ' = [some (.ref p), some (.str x), some v1, some (latV o), some v3, some v, none, none, none] ∧ Ex H5 H' ∧ PrU c v H' ∧ 0 ≤ c.1 ∧ c.1 ≤ 8 ∧ 1 ≤ c.2 ∧ c.2 ≤ 4) ?_ ?_
  · refine ws_if ?_
    repeat walk_at "w"
    rename_i d Ha xa d0 d1
    refine ite_dec (fun h1 => ?_) (fun h1 => ?_)
    · repeat walk_at "w"
      rename_i a Hb xb a0 a1 b Hc xc b0 b1 t Hd xd ht
      exact ⟨(a, 1 + b), _, rfl, (xa.trans xb).trans (xc.trans xd), ⟨t, rfl, ht⟩, a0, by show a ≤ 8; omega, by show 1 ≤ 1 + b; omega, by show 1 + b ≤ 4; omega⟩
    · repeat walk_at "w"
      exact ⟨(0, 1), _, rfl, xa, hv4'.mono xa, by decide, by decide, by decide, by decide⟩
  rintro σ' H6 ⟨c4, v4, rfl, x6, hv4, hc4⟩
  have so6 := so5.mono x6
  show WB X _ _ _ _
  refine wb_cons (ws_set n6 (we_none ?_) (by rfl))
  show WB X _ _ _ _
  with_reducible refine' wb_cons ?_
  with_reducible refine' ws_to (fun σ' H' => ∃ fl v, σ' = [some (.ref p), some (.str x), some v1, some (latV o), some v3, some v4, some v, none, none] ∧ Ex H6 H' ∧ OPu fl v H' ∧ ∀ c, fl = some c → FlP c) ?_ ?_
  · refine ws_if ?_
    repeat walk_at "w"
    rename_i d Ha xa d0 d1
    refine ite_dec (fun h1 => ?_) (fun h1 => ?_)
    · repeat walk_at "w"
      rename_i a Hb xb a0 a1 b Hc xc b0 b1 t Hd xd ht
      exact ⟨some (1 + a, 1 + b), _, rfl, (xa.trans xb).trans (xc.trans xd), ⟨t, rfl, ht⟩, fun c e => by cases e; exact ⟨by show 1 ≤ 1 + a; omega, by show 1 + a ≤ 40; omega, by show 1 ≤ 1 + b; omega, by show 1 + b ≤ 4; omega⟩⟩
    · repeat walk_at "w"
      exact ⟨none, _, rfl, xa, rfl, fun c e => nomatch e⟩
  rintro σ' H7 ⟨fl, v5, rfl, x7, hv5, hfl⟩
  have so7 := so6.mono x7
  show WB X _ _ _ _
  with_reducible refine' wb_cons ?_
  with_reducible refine' ws_to (fun σ' H' => ∃ b, σ' = [some (.ref p), some (.str x), some v1, some (latV o), some v3, some v4, some v5, some (.bl b), none] ∧ Ex H7 H') ?_ ?_
  · repeat walk_at "w"
    rename_i d Ha xa d0 d1
    exact ⟨_, rfl, xa⟩
  rintro σ' H8 ⟨db, rfl, x8⟩
  have so8 := so7.mono x8
  show WB X _ _ _ _
  with_reducible refine' wb_cons ?_
  with_reducible refine' ws_to (fun σ' H' => ∃ b, σ' = [some (.ref p), some (.str x), some v1, some (latV o), some v3, some v4, some v5, some (.bl db), some (.bl b)] ∧ Ex H8 H' ∧ (b = true → db = true)) ?_ ?_
  · repeat walk_at "w"
    cases db with
    | true =>
      repeat walk_at "w"
      rename_i d Ha xa d0 d1
      exact ⟨_, rfl, xa, fun _ => rfl⟩
    | false =>
      repeat walk_at "w"
      exact ⟨_, rfl, .refl _, fun e => e⟩
  rintro σ' H9 ⟨kp, rfl, x9, hkp⟩
  have so9 := so8.mono x9
  have x79 := x8.trans x9
  show WB X _ _ _ _
  repeat walk_at "w"
  refine ⟨p, v5, fl, rfl, so9, hv5.mono x79, hfl, fun ro u Ha xa hro hrp => ?_⟩
  repeat walk_at "w"
  refine lst_i (lenk 9 rfl) fun l Hb nl xb hl => ?_
  have b9 := xa.trans xb
  have b7 := x79.trans b9
  have b6 := x7.trans b7
  have b5 := x6.trans b6
  have b4 := x5.trans b5
  have b3 := x4.trans b4
  have b2 := x3.trans b3
  have b1 := x2.trans b2
  have b0 := x1.trans b1
  refine k ⟨x, c1, o, c3, c4, fl, ro, db, kp⟩ l v1 v3 v4 v5 u Hb b0 ?_ hl ⟨hv1.mono b2, hv3.mono b4, hv4.mono b6, hv5.mono b7, hro.mono xb⟩ ⟨hx, hc1, ho, hc3, hc4, hfl, fun c e => (hrp c e).1, hkp⟩ (fun c e ef => (hrp c e).2 ef)
  exact (((((((((x1.trans x2).trans x3).trans x4).trans x5).trans x6).trans x7).trans x8).trans x9).trans xa).back nl
/-! ### the law's book -/
def DnP (c : IP) : Prop := c.2 ≠ 0 ∧ c.2.natAbs < 2 ^ 200
theorem DnP.g {c : IP} (h : DnP c) : (g1 c.1 c.2).natAbs < 2 ^ 9000 := g1_sz h.1 (Nat.lt_of_lt_of_le h.2 (Nat.pow_le_pow_right (by decide) (by decide)))
def spPairB (K : PySem.W.Frag) : Sp := fun vs H Q _ => ∃ o v, vs = [v] ∧ OPu o v H ∧ (∀ c, o = some c → DnP c) ∧ ∀ v' H', Ex H H' → OptT K (o.map pq) v' H' → Q v' H'
theorem f__law_pair (T : Tm K mg) : GFn P w K mg base 4 "_law_pair" (spPairB K) := by
  obtain ⟨fd, F⟩ := T.d__law_pair
  refine GFn.mk F T.g__law_pair (def_ok F sc__law_pair (fun vs H Q E h => by obtain ⟨o, v, rfl, _⟩ := h; rfl) ?_) (F.bindsN fun _ _ _ _ _ _ us hl => match us, hl with | [_], _ => rfl)
  intro X eP ew eK em eb eN es hf nd H vs Q E B h
  subst eP ew eK em eb
  have n0 : Sl X 0 "_law_pair_here" := slot_of eN es hf nd rfl (by first | exact Or.inl rfl | exact Or.inr rfl) (by decide) (by decide)
  have g_Time : Gn X "Time" := gn_of es rfl (by decide)
  have m_Time := T.g_Time
  obtain ⟨o, v, rfl, hv, hd, k⟩ := h
  show WB X [_, _] _ [some (v)] H
  repeat walk_at "w"
  cases o with
  | none =>
    cases hv
    rw [decide_eq_true (rfl : V.non = V.non)]
    repeat walk_at "w"
    exact k _ _ (.refl _) rfl
  | some c =>
    have hc : PrU c v H := hv
    have hdc := hd c rfl
    rw [decide_eq_false (PrU.nn hc)]
    repeat walk_at "w"
    exact ⟨_, _, rfl, rfl, hdc.1, hdc.g, fun y H1 x1 hy => k y H1 x1 hy⟩
structure RbD (r : RB) : Prop where
  sh : DnP r.sh
  fa : DnP r.fa
  ma : DnP r.ma
  fl : ∀ c, r.fl = some c → DnP c
  ro : ∀ c, r.ro = some c → DnP c
def spBookB (K : PySem.W.Frag) : Sp := fun vs H Q _ => ∃ r l v1 v3 v4 v5 v6, vs = [.ref l] ∧ H l = some (.lst (row9 r.bk v1 v3 v4 v5 v6)) ∧ RuU r v1 v3 v4 v5 v6 H ∧ RbD r ∧ BkOk r.bk ∧ ∀ a H', H a = none → Ex H H' → BookV K r.bk (.ref a) H' → Q (.ref a) H'
theorem ns9b {z : Bk} {v1 v3 v4 v5 v6 : V} : ¬ Src (.lst (row9 z v1 v3 v4 v5 v6)) := ns_len (show 9 ≠ 4 by decide)
theorem f__law_book (T : Tm K mg) : GFn P w K mg base 12 "_law_book" (spBookB K) := by
  obtain ⟨fd, F⟩ := T.d__law_book
  refine GFn.mk F T.g__law_book (def_ok F sc__law_book (fun vs H Q E h => by obtain ⟨r, l, v1, v3, v4, v5, v6, rfl, _⟩ := h; rfl) ?_) (F.bindsN fun _ _ _ _ _ _ us hl => match us, hl with | [_], _ => rfl)
  intro X eP ew eK em eb eN es hf nd H vs Q E B h
  subst eP ew eK em eb
  have n0 : Sl X 0 "_law_rules_here" := slot_of eN es hf nd rfl (by first | exact Or.inl rfl | exact Or.inr rfl) (by decide) (by decide)
  have n1 : Sl X 1 "_law_portion" := slot_of eN es hf nd rfl (by first | exact Or.inl rfl | exact Or.inr rfl) (by decide) (by decide)
  have n2 : Sl X 2 "_law_times" := slot_of eN es hf nd rfl (by first | exact Or.inl rfl | exact Or.inr rfl) (by decide) (by decide)
  have n3 : Sl X 3 "_law_more" := slot_of eN es hf nd rfl (by first | exact Or.inl rfl | exact Or.inr rfl) (by decide) (by decide)
  have n4 : Sl X 4 "_law_least" := slot_of eN es hf nd rfl (by first | exact Or.inl rfl | exact Or.inr rfl) (by decide) (by decide)
  have n5 : Sl X 5 "_law_most" := slot_of eN es hf nd rfl (by first | exact Or.inl rfl | exact Or.inr rfl) (by decide) (by decide)
  have g_Time : Gn X "Time" := gn_of es rfl (by decide)
  have m_Time := T.g_Time
  have g__law_pair : Gn X "_law_pair" := gn_of es rfl (by decide)
  have F__law_pair := f__law_pair (P := X.prog) (w := X.w) (base := X.base) T
  have g_Book : Gn X "Book" := gn_of es rfl (by decide)
  have m_Book := T.g_Book
  obtain ⟨r, l, v1, v3, v4, v5, v6, rfl, hl, hr, hd, ok, k⟩ := h
  show WB X [_, _, _, _, _, _] _ [some (.ref l), none, none, none, none, none] H
  have kl : ∀ {G : Hp}, Ex H G → G l = some (.lst (row9 r.bk v1 v3 v4 v5 v6)) := fun x => x.keep _ _ hl ns9b
  have hsh := hr.sh
  have hfa := hr.fa
  have hma := hr.ma
  with_reducible refine' wb_cons ?_
  with_reducible refine' ws_to (fun σ' H' => ∃ y, σ' = [some (.ref l), some y, none, none, none, none] ∧ Ex H H' ∧ TimeV (CT X.K) (pq r.sh) y H') ?_ ?_
  · repeat walk_at "w"
    exact ⟨_, _, rfl, rfl, hd.sh.1, hd.sh.g, fun y H1 x1 hy => ⟨y, rfl, x1, hy⟩⟩
  rintro σ' H1 ⟨y1, rfl, x1, h1⟩
  have hl1 := kl x1
  have hfa1 := hfa.mono x1
  show WB X _ _ _ _
  with_reducible refine' wb_cons ?_
  with_reducible refine' ws_to (fun σ' H' => ∃ y, σ' = [some (.ref l), some y1, some y, none, none, none] ∧ Ex H1 H' ∧ TimeV (CT X.K) (pq r.fa) y H') ?_ ?_
  · repeat walk_at "w"
    exact ⟨_, _, rfl, rfl, hd.fa.1, hd.fa.g, fun y H1 x1 hy => ⟨y, rfl, x1, hy⟩⟩
  rintro σ' H2 ⟨y2, rfl, x2, h2⟩
  have hl2 := kl (x1.trans x2)
  have hma2 := hma.mono (x1.trans x2)
  show WB X _ _ _ _
  with_reducible refine' wb_cons ?_
  with_reducible refine' ws_to (fun σ' H' => ∃ y, σ' = [some (.ref l), some y1, some y2, some y, none, none] ∧ Ex H2 H' ∧ TimeV (CT X.K) (pq r.ma) y H') ?_ ?_
  · repeat walk_at "w"
    exact ⟨_, _, rfl, rfl, hd.ma.1, hd.ma.g, fun y H1 x1 hy => ⟨y, rfl, x1, hy⟩⟩
  rintro σ' H3 ⟨y3, rfl, x3, h3⟩
  have x13 := (x1.trans x2).trans x3
  have hl3 := kl x13
  show WB X _ _ _ _
  with_reducible refine' wb_cons ?_
  with_reducible refine' ws_to (fun σ' H' => ∃ y, σ' = [some (.ref l), some y1, some y2, some y3, some y, none] ∧ Ex H3 H' ∧ OptT X.K (r.fl.map pq) y H') ?_ ?_
  · repeat walk_at "w"
    exact ⟨r.fl, v5, rfl, hr.fl.mono x13, hd.fl, fun y H1 x1 hy => ⟨y, rfl, x1, hy⟩⟩
  rintro σ' H4 ⟨y4, rfl, x4, h4⟩
  have x14 := x13.trans x4
  have hl4 := kl x14
  show WB X _ _ _ _
  with_reducible refine' wb_cons ?_
  with_reducible refine' ws_to (fun σ' H' => ∃ y, σ' = [some (.ref l), some y1, some y2, some y3, some y4, some y] ∧ Ex H4 H' ∧ OptT X.K (r.ro.map pq) y H') ?_ ?_
  · repeat walk_at "w"
    exact ⟨r.ro, v6, rfl, hr.ro.mono x14, hd.ro, fun y H1 x1 hy => ⟨y, rfl, x1, hy⟩⟩
  rintro σ' H5 ⟨y5, rfl, x5, h5⟩
  have x15 := x14.trans x5
  have hl5 := kl x15
  show WB X _ _ _ _
  refine wb_one (ws_ret ?_)
  refine we_makeK0 B g_Book (k_Book9 T) (by decide) ?_
  iterate 9
    refine wk_cons ?_
    repeat walk_at "w"
  refine wk_nil ⟨rfl, ?_⟩
  have raw : Raw X.K r.bk y1 y2 y3 y4 y5 H5 := ⟨.inl (TimeV.mono ((((x2.trans x3).trans x4).trans x5)) h1), .inl (TimeV.mono ((x3.trans x4).trans x5) h2), .inl (TimeV.mono (x4.trans x5) h3), OptT.oTim (h4.mono x5), OptT.oTim h5⟩
  exact made_bn (K := X.K) raw ok fun a H' na xa ha => k a H' (x15.back na) (x15.trans xa) ha
end

/-! ### steps over a sender's properties -/
theorem SndV.mono' {K : PySem.W.Frag} {st : SS} {v : V} {H H' : Hp} (x : Ex H H') (h : SndV K st v H) : SndV K st v H' := h.mono x
section
variable {P : Program} {w : World} {K : PySem.W.Frag} {mg : Str → Option Value} {base : Heap}
theorem made_sp {H : Hp} {E : XK} {P : Addr → Hp → Prop} {z : Bk} {q : Rat} {bv ev : V} (hb : BookV K z bv H) (ok : BkOk z) (he : Tim K q ev H) (q0 : 0 < q) (zq : Sz q 1500) (k : ∀ a H', H a = none → Ex H H' → SndV K (begun z q) (.ref a) H' → P a H') :
    ∀ a dx, H a = none → H dx = none → dx ≠ a → spSInit K ([.ref a, bv, ev] ++ []) (upd (upd H dx (.own a)) a (.ins (CS K) dx [])) (fun v H2 => v = .non ∧ P a H2) E := by
  intro a dx na nd ne
  have x1 : Ex H (upd (upd H dx (.own a)) a (.ins (CS K) dx [])) := Ex.new2 na nd
  exact ⟨z, q, a, dx, bv, ev, rfl, upd_same, hb.mono x1, ok, he.mono x1, q0, zq, fun b H' _ x3 hs => ⟨rfl, k a _ na (ExX.fresh x1 x3 fun c e => by subst e; exact na) hs.v⟩⟩
end
section
variable {P : Program} {w : World} {K : PySem.W.Frag} {mg : Str → Option Value} {base : Heap}
/-- .. with its own book -/
theorem made_sw {H : Hp} {E : XK} {P : Addr → Hp → Prop} {z : Bk} {q : Rat} {bv ev : V} (hb : BookV K z bv H) (ok : BkOk z) (he : Tim K q ev H) (q0 : 0 < q) (zq : Sz q 1500) (k : ∀ a b H', H a = none → H b = none → Ex H H' → SndW K (begun z q) (.ref a) b H' → P a H') :
    ∀ a dx, H a = none → H dx = none → dx ≠ a → spSInit K ([.ref a, bv, ev] ++ []) (upd (upd H dx (.own a)) a (.ins (CS K) dx [])) (fun v H2 => v = .non ∧ P a H2) E := by
  intro a dx na nd ne
  have x1 : Ex H (upd (upd H dx (.own a)) a (.ins (CS K) dx [])) := Ex.new2 na nd
  exact ⟨z, q, a, dx, bv, ev, rfl, upd_same, hb.mono x1, ok, he.mono x1, q0, zq, fun b H' nb x3 hs => ⟨rfl, k a b _ na (x1.back nb) (ExX.fresh x1 x3 fun c e => by subst e; exact na) hs⟩⟩
end
local macro_rules | `(tactic| walk_at "sv") => `(tactic| first | assumption | ((with_reducible refine' SndV.mono' ?x ?h); (case h => assumption); (case x => walk_at "x")) | fail)
local macro_rules | `(tactic| walk_at "wE") => `(tactic| first | ((with_reducible refine' we_S_estimate ?B ?T ?hk ?_ ?he); (case B => assumption); (case T => assumption); (case hk => decide); (case he => rfl)) | ((with_reducible refine' we_S_wait ?B ?T ?hk ?_ ?he); (case B => assumption); (case T => assumption); (case hk => decide); (case he => rfl)) | fail)
local macro_rules | `(tactic| walk_at "wX") => `(tactic| first | ((with_reducible refine' sv_ok ?h ?_); (case h => walk_at "sv")) | fail)

--IMPORT Fw37
/-! ### what stands when senders, books and sessions at S are changed -/
def CN (K : PySem.W.Frag) : Addr := ga K "Session"
def mobs (f : Str) : Prop := f = ("held_wait" : Str) ∨ f = ("rules" : Str) ∨ f = ("now" : Str)
def Mob (_ : PySem.W.Frag) (o : HO) : Prop := ∃ C dx fs, o = .ins C dx fs ∧ ∀ f v r, fs = (f, v) :: r → mobs f
theorem mob_i {K : PySem.W.Frag} {C dx : Addr} {f : Str} {v : V} {r : List (Str × V)} (h : mobs f) : Mob K (.ins C dx ((f, v) :: r)) := ⟨_, _, _, rfl, fun _ _ _ e => by cases e; exact h⟩
theorem mob_0 {K : PySem.W.Frag} {C dx : Addr} : Mob K (.ins C dx []) := ⟨_, _, _, rfl, fun _ _ _ e => nomatch e⟩
structure Mq (K : PySem.W.Frag) (S : Addr → Prop) (H H' : Hp) : Prop where
  kp : ∀ a o, H a = some o → ¬ Src o → (¬ S a ∨ ¬ Mob K o) → H' a = some o
  src : ∀ a l o, H a = some o → SrcL l o → ∃ o', H' a = some o' ∧ SrcL l o'
  th : ∀ a, H a ≠ none → H' a ≠ none
section
variable {K : PySem.W.Frag} {S S' : Addr → Prop} {H H' H2 : Hp}
theorem Ex.mq (x : Ex H H') : Mq K S H H' := ⟨fun a o h n _ => x.keep a o h n, x.src, x.there⟩
theorem ExX.mq {p : Addr} {o : HO} (x : ExX (fun a => a = p) H H') (hp : H p = some o) (b : Mob K o) (hS : S p) : Mq K S H H' :=
  ⟨fun a u h n nb => x.kp a u (fun e => by subst e; rw [hp] at h; cases h; exact nb.elim (fun z => z hS) fun z => z b) h (.inl n), fun a l u h s => x.src a l u (fun e => by subst e; rw [hp] at h; cases h; obtain ⟨_, _, _, rfl, _⟩ := b; exact not_src_ins ⟨_, s⟩) h s, x.th⟩
theorem Mq.trans (x : Mq K S H H') (y : Mq K S H' H2) : Mq K S H H2 := ⟨fun a o h n b => y.kp a o (x.kp a o h n b) n b, fun a l o h s => by
  obtain ⟨o1, h1, s1⟩ := x.src a l o h s
  exact y.src a l o1 h1 s1, fun a h => y.th a (x.th a h)⟩
theorem Mq.mono (x : Mq K S H H') (h : ∀ a, S a → S' a) : Mq K S' H H' := ⟨fun a o e n b => x.kp a o e n (b.imp (fun z s => z (h a s)) id), x.src, x.th⟩
/-- objects that were not there may be changed, too -/
theorem Mq.fresh (x : Mq K S H H') (h : ∀ a, S a → S' a ∨ H a = none) : Mq K S' H H' := ⟨fun a o e n b => x.kp a o e n (b.elim (fun z => .inl fun s => (h a s).elim z fun q => by rw [q] at e; cases e) .inr), x.src, x.th⟩
theorem lst_nM {xs : List V} : ¬ Mob K (.lst xs) := fun ⟨_, _, _, e, _⟩ => nomatch e
theorem tup_nM {xs : List V} : ¬ Mob K (.tup xs) := fun ⟨_, _, _, e, _⟩ => nomatch e
theorem dk_nM {xs : List (Key × V)} : ¬ Mob K (.dK xs) := fun ⟨_, _, _, e, _⟩ => nomatch e
theorem ins_nM {C dx : Addr} {f : Str} {v : V} {fs : List (Str × V)} (h : f ≠ "held_wait") (h2 : f ≠ "rules") (h3 : f ≠ "now") : ¬ Mob K (.ins C dx ((f, v) :: fs)) := fun ⟨_, _, _, e, q⟩ => by
  injection e with _ _ e
  exact (q _ _ _ e.symm).elim h fun e => e.elim h2 h3
theorem Sou.mq {p : Addr} (s : Sou H p) (x : Mq K S H H') : Sou H' p := by
  obtain ⟨l, o, ns, h1, h2, h3⟩ := s.ex
  obtain ⟨o', h4, h5⟩ := x.src p l o h1 h2
  exact ⟨l, o', ns, h4, h5, x.kp l _ h3 not_src_ints (.inr lst_nM)⟩
theorem TimeV.mq {C : Addr} {q : Rat} {v : V} (x : Mq K S H H') (h : TimeV C q v H) : TimeV C q v H' := by
  obtain ⟨p, dx, e, h⟩ := h
  exact ⟨p, dx, e, x.kp _ _ h not_src_ins (.inr (ins_nM (by decide) (by decide) (by decide)))⟩
theorem OptT.mq {o : Option Rat} {v : V} (x : Mq K S H H') (h : OptT K o v H) : OptT K o v H' := by
  cases o with
  | none => exact h
  | some q => exact TimeV.mq x h
theorem Starts.mq {C : Addr} {f : Nat → Rat} {k : Nat} {vs : List V} (x : Mq K S H H') (h : Starts C f k vs H) : Starts C f k vs H' := ⟨h.1, fun j v e => TimeV.mq x (h.2 j v e)⟩
theorem TmL.mq {C : Addr} {qs : List Rat} {vs : List V} (x : Mq K S H H') (h : TmL C qs vs H) : TmL C qs vs H' := ⟨h.1, fun j v e => TimeV.mq x (h.2 j v e)⟩
theorem Tim.mq {q : Rat} {v : V} (x : Mq K S H H') (h : Tim K q v H) : Tim K q v H' := h.imp (fun h => TimeV.mq x h) id
theorem DTims.mq {ds : List (Option Rat)} {vs : List V} (x : Mq K S H H') (h : DTims K ds vs H) : DTims K ds vs H' := ⟨h.1, fun j v e => by
  have z := h.2 j v e
  cases q : (ds[j]?).getD none with
  | none => rw [q] at z; exact z
  | some r => rw [q] at z; exact ⟨Tim.mq x z.1, z.2⟩⟩
theorem BookV.mq {z : Bk} {b : Addr} (x : Mq K S H H') (n : ¬ S b) (h : BookV K z (.ref b) H) : BookV K z (.ref b) H' := by
  obtain ⟨p, dx, d, sh, fa, ma, fl, ro, e, hp, hd, hk⟩ := h
  cases e
  exact ⟨b, dx, d, sh, fa, ma, fl, ro, rfl, x.kp _ _ hp not_src_ins (.inl n), x.kp _ _ hd not_src_dk (.inr dk_nM), TimeV.mq x hk.sh, TimeV.mq x hk.fa, TimeV.mq x hk.ma, hk.fl.mq x, hk.ro.mq x⟩
theorem SndW.mq {st : SS} {a b : Addr} (x : Mq K S H H') (n : ¬ S a) (m : ¬ S b) (h : SndW K st (.ref a) b H) : SndW K st (.ref a) b H' := by
  obtain ⟨p, dx, wv, ev, l, ss, e, h⟩ := h
  cases e
  exact ⟨a, dx, wv, ev, l, ss, rfl, x.kp _ _ h.hp not_src_ins (.inl n), TimeV.mq x h.wv, h.bv.mq x m, TimeV.mq x h.ev, x.kp _ _ h.hl h.ss.ns (.inr lst_nM), h.ss.mq x⟩
theorem RndV.mq {u : Rat} {b : Bool} {ds : List (Option Rat)} {N : Nat} {v : V} (x : Mq K S H H') (h : RndV K u b ds N v H) : RndV K u b ds N v H' := by
  obtain ⟨q, dq, l, av, dv, lv, vs, rfl, hq, ha, hd, hl, hs, hst⟩ := h
  exact ⟨q, dq, l, av, dv, lv, vs, rfl, x.kp _ _ hq not_src_ins (.inr (ins_nM (by decide) (by decide) (by decide))), ha.mq x, hd.mq x, TimeV.mq x hl, x.kp _ _ hs hst.ns (.inr lst_nM), hst.mq x⟩
theorem PrU.mq {c : IP} {v : V} (x : Mq K S H H') (h : PrU c v H) : PrU c v H' := by
  obtain ⟨p, e, h⟩ := h
  exact ⟨p, e, x.kp _ _ h not_src_tup (.inr tup_nM)⟩
theorem OPu.mq {o : Option IP} {v : V} (x : Mq K S H H') (h : OPu o v H) : OPu o v H' := by
  cases o with
  | none => exact h
  | some c => exact PrU.mq x h
theorem RuU.mq {r : RB} {v1 v3 v4 v5 v6 : V} (x : Mq K S H H') (h : RuU r v1 v3 v4 v5 v6 H) : RuU r v1 v3 v4 v5 v6 H' := ⟨h.sh.mq x, h.fa.mq x, h.ma.mq x, h.fl.mq x, h.ro.mq x⟩
theorem SndW.mob {st : SS} {a b : Addr} (h : SndW K st (.ref a) b H) : ∃ o, H a = some o ∧ Mob K o := by
  obtain ⟨p, dx, wv, ev, l, ss, e, h⟩ := h
  cases e
  exact ⟨_, h.hp, mob_i (.inl rfl)⟩
theorem BookV.mob {z : Bk} {b : Addr} (h : BookV K z (.ref b) H) : ∃ o, H b = some o ∧ Mob K o := by
  obtain ⟨p, dx, d, sh, fa, ma, fl, ro, e, hp, _⟩ := h
  cases e
  exact ⟨_, hp, mob_i (.inr (.inl rfl))⟩
end
/-! ### senders that are none of O's; sessions -/
def SndO (K : PySem.W.Frag) (O : Addr → Prop) (st : SS) (v : V) (H : Hp) : Prop := ∃ a b, v = .ref a ∧ SndW K st (.ref a) b H ∧ ¬ O a ∧ ¬ O b
def Snds (K : PySem.W.Frag) (O : Addr → Prop) (ss : List SS) (vs : List V) (H : Hp) : Prop := vs.length = ss.length ∧ ∀ (j : Nat) (v : V) (st : SS), vs[j]? = some v → ss[j]? = some st → SndO K O st v H
def NmV (K : PySem.W.Frag) (nms : List (Str × Option Rat)) (kvs : List (Key × V)) (H : Hp) : Prop := kvs.length = nms.length ∧ ∀ (j : Nat) (n : Str) (o : Option Rat), nms[j]? = some (n, o) → ∃ v, kvs[j]? = some (.inr n, v) ∧ OptT K o v H
/-- a session: the sender, those behind deeds done, undone; names -/
structure SeS where
  cur : SS
  dn : List SS
  un : List SS
  nms : List (Str × Option Rat)
structure SesP (K : PySem.W.Frag) (O : Addr → Prop) (s : SeS) (p dx t c dt ut nd : Addr) (dvs uvs : List V) (kvs : List (Key × V)) (H : Hp) : Prop where
  hp : H p = some (.ins (CN K) dx [("now", .ref t)])
  ht : H t = some (.tup [.ref c, .ref dt, .ref ut, .ref nd])
  cur : SndO K O s.cur (.ref c) H
  hd : H dt = some (.tup dvs)
  dn : Snds K O s.dn dvs H
  hu : H ut = some (.tup uvs)
  un : Snds K O s.un uvs H
  hn : H nd = some (.dK kvs)
  nm : NmV K s.nms kvs H
def SesV (K : PySem.W.Frag) (O : Addr → Prop) (s : SeS) (p : Addr) (H : Hp) : Prop := ∃ dx t c dt ut nd dvs uvs kvs, SesP K O s p dx t c dt ut nd dvs uvs kvs H
section
variable {K : PySem.W.Frag} {S O O' : Addr → Prop} {H H' H2 : Hp} {st : SS} {ss : List SS} {v : V} {vs : List V}
theorem SndO.mq (x : Mq K O H H') (h : SndO K O st v H) : SndO K O st v H' := by
  obtain ⟨a, b, rfl, h, n, m⟩ := h
  exact ⟨a, b, rfl, h.mq x n m, n, m⟩
theorem SndO.mono (x : Ex H H') (h : SndO K O st v H) : SndO K O st v H' := h.mq (Ex.mq x)
/-- more that it is none of: what was not there -/
theorem SndO.ext (h : SndO K O st v H) (hO : ∀ a, O' a → O a ∨ H a = none) : SndO K O' st v H := by
  obtain ⟨a, b, rfl, h, n, m⟩ := h
  refine ⟨a, b, rfl, h, fun z => (hO a z).elim n fun e => ?_, fun z => (hO b z).elim m fun e => ?_⟩
  · obtain ⟨o, q, _⟩ := h.mob
    rw [e] at q
    cases q
  · obtain ⟨p, dx, wv, ev, l, ss, _, h⟩ := h
    obtain ⟨o, q, _⟩ := h.bv.mob
    rw [e] at q
    cases q
theorem Snds.mq (x : Mq K O H H') (h : Snds K O ss vs H) : Snds K O ss vs H' := ⟨h.1, fun j v st e e2 => (h.2 j v st e e2).mq x⟩
theorem Snds.ext (h : Snds K O ss vs H) (hO : ∀ a, O' a → O a ∨ H a = none) : Snds K O' ss vs H := ⟨h.1, fun j v st e e2 => (h.2 j v st e e2).ext hO⟩
theorem Snds.nil : Snds K O [] [] H := ⟨rfl, fun _ _ _ e => nomatch e⟩
theorem Snds.app (h : Snds K O ss vs H) (hv : SndO K O st v H) : Snds K O (ss ++ [st]) (vs ++ [v]) H := by
  refine ⟨by rw [List.length_append, List.length_append, h.1]; rfl, fun j y s e e2 => ?_⟩
  by_cases c : j < vs.length
  · rw [List.getElem?_append_left c] at e
    rw [List.getElem?_append_left (by rw [← h.1]; exact c)] at e2
    exact h.2 j y s e e2
  · rw [List.getElem?_append_right (by omega)] at e
    rw [List.getElem?_append_right (by rw [← h.1]; omega), ← h.1] at e2
    cases q : j - vs.length with
    | zero => rw [q] at e e2; cases e; cases e2; exact hv
    | succ m => rw [q] at e; cases e
theorem Snds.take (h : Snds K O ss vs H) (n : Nat) : Snds K O (ss.take n) (vs.take n) H := by
  refine ⟨by rw [List.length_take, List.length_take, h.1], fun j y s e e2 => ?_⟩
  rw [List.getElem?_take] at e e2
  split at e
  · rename_i c
    rw [if_pos c] at e2
    exact h.2 j y s e e2
  · cases e
theorem NmV.mq {nms : List (Str × Option Rat)} {kvs : List (Key × V)} (x : Mq K S H H') (h : NmV K nms kvs H) : NmV K nms kvs H' := ⟨h.1, fun j n o e => by
  obtain ⟨v, e2, hv⟩ := h.2 j n o e
  exact ⟨v, e2, hv.mq x⟩⟩
theorem NmV.nil : NmV K [] [] H := ⟨rfl, fun _ _ _ e => nomatch e⟩
variable {s : SeS} {p dx t c dt ut nd : Addr} {dvs uvs : List V} {kvs : List (Key × V)}
theorem SesP.mq (x : Mq K O H H') (n : ¬ O p) (h : SesP K O s p dx t c dt ut nd dvs uvs kvs H) : SesP K O s p dx t c dt ut nd dvs uvs kvs H' :=
  ⟨x.kp _ _ h.hp not_src_ins (.inl n), x.kp _ _ h.ht not_src_tup (.inr tup_nM), h.cur.mq x, x.kp _ _ h.hd not_src_tup (.inr tup_nM), h.dn.mq x, x.kp _ _ h.hu not_src_tup (.inr tup_nM), h.un.mq x, x.kp _ _ h.hn not_src_dk (.inr dk_nM), h.nm.mq x⟩
theorem SesP.mono (x : Ex H H') (h : SesP K O s p dx t c dt ut nd dvs uvs kvs H) : SesP K O s p dx t c dt ut nd dvs uvs kvs H' :=
  ⟨x.ins h.hp, x.tup h.ht, h.cur.mono x, x.tup h.hd, h.dn.mq (Ex.mq x), x.tup h.hu, h.un.mq (Ex.mq x), x.keep _ _ h.hn not_src_dk, h.nm.mq (S := O) (Ex.mq x)⟩
theorem SesV.mq (x : Mq K O H H') (n : ¬ O p) (h : SesV K O s p H) : SesV K O s p H' := by
  obtain ⟨dx, t, c, dt, ut, nd, dvs, uvs, kvs, h⟩ := h
  exact ⟨dx, t, c, dt, ut, nd, dvs, uvs, kvs, h.mq x n⟩
theorem SesV.mono (x : Ex H H') (h : SesV K O s p H) : SesV K O s p H' := by
  obtain ⟨dx, t, c, dt, ut, nd, dvs, uvs, kvs, h⟩ := h
  exact ⟨dx, t, c, dt, ut, nd, dvs, uvs, kvs, h.mono x⟩
theorem SesV.ext (h : SesV K O s p H) (hO : ∀ a, O' a → O a ∨ H a = none) : SesV K O' s p H := by
  obtain ⟨dx, t, c, dt, ut, nd, dvs, uvs, kvs, h⟩ := h
  exact ⟨dx, t, c, dt, ut, nd, dvs, uvs, kvs, h.hp, h.ht, h.cur.ext hO, h.hd, h.dn.ext hO, h.hu, h.un.ext hO, h.hn, h.nm⟩
theorem SesV.mob (h : SesV K O s p H) : ∃ o, H p = some o ∧ Mob K o := by
  obtain ⟨dx, t, c, dt, ut, nd, dvs, uvs, kvs, h⟩ := h
  exact ⟨_, h.hp, mob_i (.inr (.inr rfl))⟩
end
/-- back, again, once -/
def bk1 (s : SeS) : SeS := ⟨(s.dn[s.dn.length - 1]?).getD s.cur, s.dn.take (s.dn.length - 1), s.un ++ [s.cur], s.nms⟩
def ag1 (s : SeS) : SeS := ⟨(s.un[s.un.length - 1]?).getD s.cur, s.dn ++ [s.cur], s.un.take (s.un.length - 1), s.nms⟩
def bkN : Nat → SeS → SeS
  | 0, s => s
  | n + 1, s => bk1 (bkN n s)
def agN : Nat → SeS → SeS
  | 0, s => s
  | n + 1, s => ag1 (agN n s)
def plc (s : SeS) (st : SS) : SeS := ⟨st, s.dn ++ [s.cur], [], s.nms⟩
theorem bk_plc (s : SeS) (st : SS) : bk1 (plc s st) = ⟨s.cur, s.dn, [st], s.nms⟩ := by
  unfold bk1 plc
  simp only [List.length_append, List.length_cons, List.length_nil, Nat.zero_add, Nat.add_sub_cancel, List.nil_append]
  rw [List.getElem?_append_right (Nat.le_refl _), Nat.sub_self, List.take_left']
  · rfl
  · rfl
theorem ag_bk (s : SeS) (st : SS) : ag1 (bk1 (plc s st)) = plc s st := by
  rw [bk_plc]
  rfl

/-! ### Sender.twin -/
section
variable {P : Program} {w : World} {K : PySem.W.Frag} {mg : Str → Option Value} {base : Heap}
def spTwinS (K : PySem.W.Frag) : Sp := fun vs H Q _ => ∃ st p, vs = [.ref p] ∧ SndV K st (.ref p) H ∧ BkOk st.bk ∧ 0 < st.est ∧ Sz st.est 1500 ∧ ∀ a b H', H a = none → H b = none → Ex H H' → SndW K st (.ref a) b H' → Q (.ref a) H'
theorem f_twinS (T : Tm K mg) : FnR P w K mg base (RX P w) 15 (ma K (CS K) "twin") (spTwinS K) := by
  obtain ⟨fd, F⟩ := T.d_Sender_twin
  refine raw_of F (def_ok F sc_Sender_twin (fun vs H Q E h => by obtain ⟨st, p, rfl, _⟩ := h; rfl) ?_) (F.bindsN fun _ _ _ _ _ _ us hl => match us, hl with | [_], _ => rfl)
  intro X eP ew eK em eb eN es hf nd H vs Q E B h
  subst eP ew eK em eb
  have n0 : Sl X 0 "self" := slot_of eN es hf nd rfl (by first | exact Or.inl rfl | exact Or.inr rfl) (by decide) (by decide)
  have n1 : Sl X 1 "other" := slot_of eN es hf nd rfl (by first | exact Or.inl rfl | exact Or.inr rfl) (by decide) (by decide)
  have g_Sender : Gn X "Sender" := gn_of es rfl (by decide)
  have m_Sender := T.g_Sender
  have z_list : Bn X "list" := bn_of es rfl T.z_list
  obtain ⟨st, p, rfl, hs, ok, e0, ze, k⟩ := h
  show WB X [_, _, _, _, _, _] _ [some (.ref p), none] H
  obtain ⟨p', dx, wv, bv, ev, l, ss, e, sp⟩ := hs
  cases e
  have hp := sp.hp
  with_reducible refine' wb_cons ?_
  with_reducible refine' ws_to (fun σ' H' => ∃ a b, σ' = [some (.ref p), some (.ref a)] ∧ H a = none ∧ H b = none ∧ Ex H H' ∧ SndW X.K (begun st.bk st.est) (.ref a) b H') ?_ ?_
  · refine ws_set n1 (we_make B g_Sender (k_Sender T) (by decide) ?_) (by rfl)
    repeat walk_at "w"
    exact made_sw sp.bv ok (.inl sp.ev) e0 ze fun a b H' na nb x hs => ⟨a, b, rfl, na, nb, x, hs⟩
  rintro σ' H1 ⟨a, b, rfl, na, nb, x1, p2, d2, wv2, ev2, l2, ss2, e, sp2⟩
  cases e
  have sp1 := sp.mono x1
  have hp1 := sp1.hp
  have ha1 := sp2.hp
  have nap : p ≠ a := fun e => by subst e; rw [hp] at na; cases na
  show WB X _ _ _ _
  -- the four fields
  with_reducible refine' wb_cons ?_
  with_reducible refine' ws_to (fun σ' H' => σ' = [some (.ref p), some (.ref a)] ∧ H' = upd H1 a (.ins (CS X.K) d2 (sfs wv (.ref b) ev2 (.ref l2) 0 0))) ?_ ?_
  · repeat walk_at "w"
    exact ⟨rfl, rfl⟩
  rintro σ' H2 ⟨rfl, e2⟩
  have ha2 : H2 a = some (.ins (CS X.K) d2 (sfs wv (.ref b) ev2 (.ref l2) 0 0)) := by rw [e2]; exact upd_same
  have hp2 : H2 p = some (.ins (CS X.K) dx (sfs wv bv ev (.ref l) st.rn st.nd)) := by rw [e2, upd_ne nap]; exact hp1
  have hl2 : H2 l = some (.lst ss) := by rw [e2, upd_ne (fun e => by have h := sp1.hl; rw [e, ha1] at h; cases h)]; exact sp1.hl
  show WB X _ _ _ _
  with_reducible refine' wb_cons ?_
  with_reducible refine' ws_to (fun σ' H' => ∃ m, H2 m = none ∧ σ' = [some (.ref p), some (.ref a)] ∧ H' = upd (upd H2 m (.lst ss)) a (.ins (CS X.K) d2 (sfs wv (.ref b) ev2 (.ref m) 0 0))) ?_ ?_
  · refine ws_sf T (by decide +kernel) (we_listof z_list ?_) (by rfl)
    repeat walk_at "w"
    refine ⟨l, ss, rfl, .inl (.of hl2), fun m nm => ?_⟩
    have ha3 : (upd H2 m (.lst ss)) a = _ := (upd_ne (fun e => by subst e; rw [ha2] at nm; cases nm)).trans ha2
    repeat walk_at "w"
    exact ⟨m, nm, rfl, rfl⟩
  rintro σ' H3 ⟨m, nm, rfl, e3⟩
  have ma' : m ≠ a := fun e => by subst e; rw [ha2] at nm; cases nm
  have mp : m ≠ p := fun e => by subst e; rw [hp2] at nm; cases nm
  have ha3 : H3 a = some (.ins (CS X.K) d2 (sfs wv (.ref b) ev2 (.ref m) 0 0)) := by rw [e3]; exact upd_same
  have hp3 : H3 p = some (.ins (CS X.K) dx (sfs wv bv ev (.ref l) st.rn st.nd)) := by rw [e3, upd_ne nap, upd_ne (Ne.symm mp)]; exact hp2
  show WB X _ _ _ _
  with_reducible refine' wb_cons ?_
  with_reducible refine' ws_to (fun σ' H' => σ' = [some (.ref p), some (.ref a)] ∧ H' = upd H3 a (.ins (CS X.K) d2 (sfs wv (.ref b) ev2 (.ref m) st.rn 0))) ?_ ?_
  · repeat walk_at "w"
    exact ⟨rfl, rfl⟩
  rintro σ' H4 ⟨rfl, e4⟩
  have ha4 : H4 a = some (.ins (CS X.K) d2 (sfs wv (.ref b) ev2 (.ref m) st.rn 0)) := by rw [e4]; exact upd_same
  have hp4 : H4 p = some (.ins (CS X.K) dx (sfs wv bv ev (.ref l) st.rn st.nd)) := by rw [e4, upd_ne nap]; exact hp3
  show WB X _ _ _ _
  with_reducible refine' wb_cons ?_
  with_reducible refine' ws_to (fun σ' H' => σ' = [some (.ref p), some (.ref a)] ∧ H' = upd H4 a (.ins (CS X.K) d2 (sfs wv (.ref b) ev2 (.ref m) st.rn st.nd))) ?_ ?_
  · repeat walk_at "w"
    exact ⟨rfl, rfl⟩
  rintro σ' H5 ⟨rfl, e5⟩
  show WB X _ _ _ _
  repeat walk_at "w"
  -- what stands there
  have eH : H5 = upd (upd H1 m (.lst ss)) a (.ins (CS X.K) d2 (sfs wv (.ref b) ev2 (.ref m) st.rn st.nd)) := by
    rw [e5, e4, e3, e2]
    rw [upd_two, upd_two]
    funext y
    by_cases c1 : y = a
    · subst c1
      rw [upd_same, upd_same]
    · rw [upd_ne c1, upd_ne c1]
      by_cases c2 : y = m
      · subst c2
        rw [upd_same, upd_same]
      · rw [upd_ne c2, upd_ne c2, upd_ne c1]
  have nm1 : H1 m = none := by rw [e2, upd_ne ma'] at nm; exact nm
  have xm : Ex H1 (upd H1 m (.lst ss)) := Ex.new nm1
  have x05 : Ex H H5 := by rw [eH]; exact (x1.trans xm).put na
  have ham : (upd H1 m (.lst ss)) a = some (.ins (CS X.K) d2 (sfs wv2 (.ref b) ev2 (.ref l2) 0 0)) := xm.ins ha1
  have xa : ExX (fun y => y = a) (upd H1 m (.lst ss)) H5 := by rw [eH]; exact put_x
  have sp5 := sp.mono x05
  refine k a b H5 na nb x05 ⟨a, d2, wv, ev2, m, ss, rfl, by rw [eH]; exact upd_same, sp5.wv, BookV.zx xa ham sfs_sf (sp2.bv.mono xm), TimeV.zx xa ham sfs_sf (sp2.ev.mono xm), ?_, sp5.ss⟩
  rw [eH, upd_ne ma', upd_same]
end

/-! ### stepped, in_steady -/
/-- the row that a round tells: its wait, the sendings, the needless ones, the estimate behind it -/
def RowS (K : PySem.W.Frag) (st : SS) (ds : List (Option Rat)) (N : Nat) (v : V) (H : Hp) : Prop :=
  ∃ t wv ev, v = .ref t ∧ H t = some (.tup [wv, .int (N : Nat), .int ((rsk 0 st.wt st.bk.doubled ds N).nd : Nat), ev]) ∧ TimeV (CT K) st.wt wv H ∧ TimeV (CT K) (stp st ds N).est ev H
section
variable {K : PySem.W.Frag} {st : SS} {ds : List (Option Rat)} {N : Nat} {v : V} {H H' : Hp}
theorem RowS.mono (x : Ex H H') (h : RowS K st ds N v H) : RowS K st ds N v H' := by
  obtain ⟨t, wv, ev, rfl, ht, hw, he⟩ := h
  exact ⟨t, wv, ev, rfl, x.tup ht, hw.mono x, he.mono x⟩
theorem RowS.sx (x : Sx K H H') (h : RowS K st ds N v H) : RowS K st ds N v H' := by
  obtain ⟨t, wv, ev, rfl, ht, hw, he⟩ := h
  exact ⟨t, wv, ev, rfl, x.kp _ _ ht not_src_tup tup_nS, TimeV.sx x hw, TimeV.sx x he⟩
/-- the state behind so many rounds of one delay -/
def stnS (st : SS) (d : Rat) (Ns : Nat → Nat) : Nat → SS
  | 0 => st
  | n + 1 => stp (stnS st d Ns n) [some d] (Ns n)
/-- what m rounds of one delay tell -/
def RowsS (K : PySem.W.Frag) (st : SS) (d : Rat) (Ns : Nat → Nat) (m : Nat) (out : List V) (H : Hp) : Prop := out.length = m ∧ ∀ (j : Nat) (v : V), out[j]? = some v → RowS K (stnS st d Ns j) [some d] (Ns j) v H
theorem RowsS.mono {d : Rat} {Ns : Nat → Nat} {m : Nat} {out : List V} (x : Ex H H') (h : RowsS K st d Ns m out H) : RowsS K st d Ns m out H' := ⟨h.1, fun j v e => (h.2 j v e).mono x⟩
theorem RowsS.sx {d : Rat} {Ns : Nat → Nat} {m : Nat} {out : List V} (x : Sx K H H') (h : RowsS K st d Ns m out H) : RowsS K st d Ns m out H' := ⟨h.1, fun j v e => (h.2 j v e).sx x⟩
theorem RowsS.snoc {d : Rat} {Ns : Nat → Nat} {m : Nat} {out : List V} (h : RowsS K st d Ns m out H) (r : RowS K (stnS st d Ns m) [some d] (Ns m) v H) : RowsS K st d Ns (m + 1) (out ++ [v]) H := by
  refine ⟨by rw [List.length_append, h.1]; rfl, fun j u e => ?_⟩
  have hj := (List.getElem?_eq_some_iff.mp e).1
  rw [List.length_append, h.1] at hj
  have hj : j < m + 1 := hj
  by_cases c : j < m
  · rw [List.getElem?_append_left (by rw [h.1]; exact c)] at e
    exact h.2 j u e
  · obtain rfl : j = m := by omega
    rw [List.getElem?_append_right (by rw [h.1]; exact Nat.le_refl _), h.1, Nat.sub_self] at e
    cases e
    exact r
/-- rounds of one delay that can be played -/
structure StdP (st : SS) (d : Rat) (Ns : Nat → Nat) (m : Nat) : Prop where
  ok : BkOk st.bk
  e0 : 0 < st.est
  ze : Sz st.est 1500
  d0 : 0 < d
  zd : Sz d 1500
  po : ∀ j, j < m → POk (stnS st d Ns j) [some d] (Ns j)
  m2 : m ≤ 2000
end
section
variable {P : Program} {w : World} {K : PySem.W.Frag} {mg : Str → Option Value} {base : Heap}
def spStepped (K : PySem.W.Frag) : Sp := fun vs H Q _ => ∃ st p b0 r ys ds N, vs = [.ref p, .ref r] ∧ SndW K st (.ref p) b0 H ∧ H r = some (.lst ys) ∧ DTims K ds ys H ∧ POk st ds N ∧
  ∀ v H', ExX (fun a => a = p) H H' → SndW K (stp st ds N) (.ref p) b0 H' → RowS K st ds N v H' → Q v H'
theorem f_stepped (T : Tm K mg) : GFn P w K mg base 12 "stepped" (spStepped K) := by
  obtain ⟨fd, F⟩ := T.d_stepped
  refine GFn.mk F T.g_stepped (def_ok F sc_stepped (fun vs H Q E h => by obtain ⟨st, p, b0, r, ys, ds, N, rfl, _⟩ := h; rfl) ?_) (F.bindsN fun _ _ _ _ _ _ us hl => match us, hl with | [_, _], _ => rfl)
  intro X eP ew eK em eb eN es hf nd H vs Q E B h
  subst eP ew eK em eb
  have n0 : Sl X 0 "sender" := slot_of eN es hf nd rfl (by first | exact Or.inl rfl | exact Or.inr rfl) (by decide) (by decide)
  have n1 : Sl X 1 "delays" := slot_of eN es hf nd rfl (by first | exact Or.inl rfl | exact Or.inr rfl) (by decide) (by decide)
  have n2 : Sl X 2 "wait" := slot_of eN es hf nd rfl (by first | exact Or.inl rfl | exact Or.inr rfl) (by decide) (by decide)
  have n3 : Sl X 3 "made" := slot_of eN es hf nd rfl (by first | exact Or.inl rfl | exact Or.inr rfl) (by decide) (by decide)
  obtain ⟨st, p, b0, r, ys, ds, N, rfl, hs, hr, hds, po, k⟩ := h
  show WB X [_, _, _] _ [some (.ref p), some (.ref r), none, none] H
  have hsv := hs.v
  obtain ⟨p', dx, wv, ev, l, ss, e, sp⟩ := id hs
  cases e
  have hp := sp.hp
  with_reducible refine' wb_cons ?_
  with_reducible refine' ws_to (fun σ' H' => ∃ wv, σ' = [some (.ref p), some (.ref r), some wv, none] ∧ H = H' ∧ TimeV (CT X.K) st.wt wv H) ?_ ?_
  · repeat walk_at "w"
    intro wv hw
    repeat walk_at "w"
    exact ⟨wv, rfl, rfl, hw⟩
  rintro σ' H' ⟨wv, rfl, rfl, hwv⟩
  show WB X _ _ _ _
  with_reducible refine' wb_cons ?_
  with_reducible refine' ws_to (fun σ' H' => ∃ m, σ' = [some (.ref p), some (.ref r), some wv, some m] ∧ ExX (fun a => a = p) H H' ∧ SndW X.K (stp st ds N) (.ref p) b0 H' ∧ RndV X.K st.wt st.bk.doubled ds N m H') ?_ ?_
  · refine ws_set n3 (we_callO B T.k_Sender_call (f_scallW T) (by decide) ?_) (by rfl)
    repeat walk_at "w"
    refine ⟨p, rfl, ?_⟩
    repeat walk_at "w"
    exact ⟨⟨_, _, hp⟩, st, p, b0, r, ys, ds, N, rfl, hs, hr, hds, po, fun m G x h hm => ⟨m, rfl, x, h, hm⟩⟩
  rintro σ' H1 ⟨m, rfl, x1, hs1, hm1⟩
  have hs1v := hs1.v
  have hw1 := TimeV.sx (ExX.sx x1 hp ⟨_, _, _, _, rfl, rfl⟩) hwv
  show WB X _ _ _ _
  repeat walk_at "w"
  intro ev2 he2
  refine tup_i (by show 4 ≤ 16777216; decide) fun t H2 x2 ht => ?_
  obtain ⟨p2, dx2, wv2, ev3, l2, ss2, e2, sp2⟩ := id hs1
  cases e2
  have hp1 := sp2.hp
  exact k (.ref t) H2 (x1.ex x2 (fun c o hc ho => by subst hc; rw [hp1] at ho; cases ho; exact ⟨_, _, _, .inl rfl⟩) (fun c C dx fs hc _ => by subst hc; exact ⟨_, _, _, hp1⟩)) (hs1.mono x2) ⟨t, wv, ev2, rfl, ht, hw1.mono x2, he2.mono x2⟩
/-- in_steady: rounds of one delay, by a twin -/
def spSteady (K : PySem.W.Frag) : SpG := fun vs H Q _ => ∃ st p d dv m Ns, vs = [.ref p, dv, .int ((m : Nat) : Int)] ∧ SndV K st (.ref p) H ∧ Tim K d dv H ∧ StdP st d Ns m ∧ ∀ out H', Ex H H' → RowsS K st d Ns m out H' → Q out H'
theorem f_in_steady (T : Tm K mg) : GGen P w K mg base 17 "in_steady" (spSteady K) := by
  obtain ⟨fd, F⟩ := T.d_in_steady
  refine GGen.mk F T.g_in_steady (gen_ok F sc_in_steady (fun vs H Q E h => by obtain ⟨st, p, d, dv, m, Ns, rfl, _⟩ := h; rfl) ?_) (F.bindsN fun _ _ _ _ _ _ us hl => match us, hl with | [_, _, _], _ => rfl)
  intro X eP ew eK em eb eN es hf nd H vs Q E B h
  subst eP ew eK em eb
  have n0 : Sl X 0 "sender" := slot_of eN es hf nd rfl (by first | exact Or.inl rfl | exact Or.inr rfl) (by decide) (by decide)
  have n1 : Sl X 1 "delay" := slot_of eN es hf nd rfl (by first | exact Or.inl rfl | exact Or.inr rfl) (by decide) (by decide)
  have n2 : Sl X 2 "many" := slot_of eN es hf nd rfl (by first | exact Or.inl rfl | exact Or.inr rfl) (by decide) (by decide)
  have n3 : Sl X 3 "twin" := slot_of eN es hf nd rfl (by first | exact Or.inl rfl | exact Or.inr rfl) (by decide) (by decide)
  have n4 : Sl X 4 "turn" := slot_of eN es hf nd rfl (by first | exact Or.inl rfl | exact Or.inr rfl) (by decide) (by decide)
  have g_is_delay : Gn X "is_delay" := gn_of es rfl (by decide)
  have F_is_delay := f_is_delay (P := X.prog) (w := X.w) (base := X.base) T
  have g_NoDelay : Gn X "NoDelay" := gn_of es rfl (by decide)
  have m_NoDelay := T.g_NoDelay
  have g_is_integer : Gn X "is_integer" := gn_of es rfl (by decide)
  have F_is_integer := f_is_integer (P := X.prog) (w := X.w) (base := X.base) T
  have g_MOST_ROUNDS : Gn X "MOST_ROUNDS" := gn_of es rfl (by decide)
  obtain ⟨t_MOST_ROUNDS, m_MOST_ROUNDS⟩ := T.i_MOST_ROUNDS
  have g_NoCount : Gn X "NoCount" := gn_of es rfl (by decide)
  have m_NoCount := T.g_NoCount
  have z_range : Bn X "range" := bn_of es rfl T.z_range
  have g_stepped : Gn X "stepped" := gn_of es rfl (by decide)
  have F_stepped := f_stepped (P := X.prog) (w := X.w) (base := X.base) T
  obtain ⟨st, p, d, dv, m, Ns, rfl, hs, hd, sd, k⟩ := h
  show WGs X [_, _, _, _] _ [] [some (.ref p), some (dv), some (.int ((m : Nat) : Int)), none, none] H
  have m2 := sd.m2
  with_reducible refine' wgs_to (fun σ' H' => σ' = [some (.ref p), some dv, some (.int ((m : Nat) : Int)), none, none] ∧ Ex H H') ?_ ?_
  · repeat walk_at "w"
    refine ⟨d, dv, rfl, hd, sd.zd.mono (by decide), fun H1 x1 => ?_⟩
    repeat walk_at "w"
    rw [decide_eq_true sd.d0]
    repeat walk_at "w"
    exact ⟨rfl, x1⟩
  rintro σ' H1 ⟨rfl, x1⟩
  have hs1 := hs.mono x1
  have hd1 := hd.mono x1
  with_reducible refine' wgs_to (fun σ' H' => σ' = [some (.ref p), some dv, some (.int ((m : Nat) : Int)), none, none] ∧ Ex H1 H') ?_ ?_
  · refine (ws_if (wt_or2 (wt_not (wt_val (we_call B g_is_integer (f_is_integer (P := X.prog) (w := X.w) (base := X.base) T) (by decide) ?_) (by intro _; rfl)))))
    repeat walk_at "w"
    rw [decide_eq_true (show 0 ≤ ((m : Nat) : Int) by omega)]
    repeat walk_at "w"
    rw [decide_eq_true (show ((m : Nat) : Int) ≤ 2000 by omega)]
    repeat walk_at "w"
    exact ⟨rfl, .refl _⟩
  rintro σ' H2 ⟨rfl, x2⟩
  have hs2 := hs1.mono x2
  have hd2 := hd1.mono x2
  with_reducible refine' wgs_to (fun σ' H' => ∃ a b, σ' = [some (.ref p), some dv, some (.int ((m : Nat) : Int)), some (.ref a), none] ∧ H2 a = none ∧ Ex H2 H' ∧ SndW X.K st (.ref a) b H') ?_ ?_
  · obtain ⟨p', dx, wv, bv, ev, l, ss, e, sp⟩ := id hs2
    cases e
    have hp := sp.hp
    refine ws_set n3 (we_meth0 (pl := _) B T.c_Sender.cl ⟨_, T.e_Sender_twin, f_twinS T⟩ (by decide) ?_) (by rfl)
    repeat walk_at "w"
    exact ⟨p, dx, _, rfl, hp, rfl, st, p, rfl, hs2, sd.ok, sd.e0, sd.ze, fun a b H' na nb x h => ⟨a, b, rfl, na, x, h⟩⟩
  rintro σ' H3 ⟨a, b, rfl, na, x3, hs3⟩
  have hd3 := hd2.mono x3
  refine wgs_one ?_
  have ha : H a = none := x1.back (x2.back na)
  refine wg_for_range (n := ((m : Nat) : Int)) B n4 z_range (fun j ys σ G => ∃ u, σ = [some (.ref p), some dv, some (.int ((m : Nat) : Int)), some (.ref a), u] ∧ Ex H G ∧ Tim X.K d dv G ∧ SndW X.K (stnS st d Ns j) (.ref a) b G ∧ RowsS X.K st d Ns j ys G) ?_ ?_ ?_ (by omega) (by omega)
  · repeat walk_at "w"
    exact ⟨rfl, none, rfl, (x1.trans x2).trans x3, hd3, hs3, rfl, fun j v e => by cases e⟩
  · rintro j ys σ G hj ⟨u, rfl, x, hd, hs, hr⟩
    have hj : j < m := by omega
    have po := sd.po j hj
    refine wgs_one (wg_yield (by rw [hr.1]; show j < 16777216; omega) ?_ (by rw [es]; rfl) (by unfold interactive; rw [es]; rfl))
    show Rs.WE X _ [some (.ref p), some dv, some (.int ((m : Nat) : Int)), some (.ref a), some (.int (j : Int))] G _
    refine we_call B g_stepped (f_stepped T) (by decide) ?_
    repeat walk_at "w"
    rename_i lr G1 nr x1' hlr
    have hs1 := hs.mono x1'
    obtain ⟨p2, dx2, wv2, ev2, l2, ss2, e2, sp2⟩ := id hs1
    cases e2
    refine ⟨stnS st d Ns j, a, b, lr, [dv], [some d], Ns j, rfl, hs1, hlr, ⟨rfl, fun i v e => ?_⟩, po, fun v G2 x2 hs' hrow => ?_⟩
    · cases i with
      | zero => cases e; exact ⟨hd.mono x1', sd.d0, sd.zd.mono (by decide)⟩
      | succ i => cases e
    · have sx : Sx X.K G1 G2 := ExX.sx x2 sp2.hp ⟨_, _, _, _, rfl, rfl⟩
      exact ⟨_, rfl, ExX.fresh (x.trans x1') x2 (fun c e => by subst e; exact ha), (hd.mono x1').imp (TimeV.sx sx) id, hs', ((hr.mono x1').sx sx).snoc hrow⟩
  · rintro ys σ G ⟨u, rfl, x, hd, hs, hr⟩
    have e : ((m : Nat) : Int).toNat = m := Int.toNat_natCast m
    rw [e] at hr
    exact k ys G x hr
end

/-! ### the estimate behind so many samples of one size -/
abbrev FM : List Str := ["first", "marked"]
/-- the estimate behind n rounds of one delay -/
def estA (z : Bk) (e d : Rat) (n : Nat) : Rat := if n = 0 then e else match z.latest with
  | some k => if n < k then rmax e d else d
  | none => d + qpow (((1 : Int) : Rat) - z.share) n * (e - d)
theorem m1_sz {b : Int} {k : Nat} (h : b.natAbs < 2 ^ k) (hk : 0 < k) : m1 b < 2 ^ k := by
  have := Nat.one_lt_two_pow (n := k) (by omega)
  unfold m1
  split <;> omega
theorem qpow_sz {q : Rat} {a n N : Nat} (h : Sz q a) (hn : n ≤ N) : Sz (qpow q n) (a * N + 1) := by
  have up : ∀ {x : Nat}, x < 2 ^ a → x ^ n < 2 ^ (a * N + 1) := fun {x} hx => by
    have h1 : x ^ n ≤ (2 ^ a) ^ n := Nat.pow_le_pow_left (Nat.le_of_lt hx) n
    rw [← Nat.pow_mul] at h1
    have h2 : 2 ^ (a * n) ≤ 2 ^ (a * N) := Nat.pow_le_pow_right (by decide) (Nat.mul_le_mul_left a hn)
    rw [Nat.pow_succ]
    have := Nat.two_pow_pos (a * N)
    omega
  constructor
  · rw [qpow_num, Int.natAbs_pow]
    exact up h.num
  · have := qpow_den q n
    have e : (qpow q n).den = q.den ^ n := by
      have h3 : ((q.den ^ n : Nat) : Int) = (q.den : Int) ^ n := Int.natCast_pow _ _
      omega
    rw [e]
    exact up h.den
theorem one_sub_sz {s : Rat} (h : Sz s 8) : Sz (((1 : Int) : Rat) - s) 11 := ((Sz.int (n := 2) (by decide) (by decide)).sub h).mono (by decide)
theorem num_one_sub (s : Rat) : (((1 : Int) : Rat) - s).num = (s.den : Int) - s.num ∧ ((((1 : Int) : Rat) - s).den : Int) = s.den := by
  have hd : (s.den : Int) > 0 := den_pos s
  have cop : Int.gcd ((s.den : Int) - s.num) (s.den : Int) = 1 := by
    show Nat.gcd _ _ = 1
    have h1 : Int.gcd ((s.den : Int) - s.num) (s.den : Int) = Int.gcd s.num (s.den : Int) := by
      exact Int.gcd_self_sub_left _ _
    exact h1.trans s.reduced
  have e : ((1 : Int) : Rat) - s = Rat.divInt ((s.den : Int) - s.num) (s.den : Int) := by
    have := sub_eq ((1 : Int) : Rat) s
    rw [← this, Rat.num_intCast, Rat.den_intCast]
    congr 1 <;> simp
  constructor
  · rw [e, Rat.num_divInt, Int.gcd_comm, cop, Int.sign_eq_one_of_pos hd, Int.one_mul]
    exact Int.ediv_one _
  · rw [e, Rat.den_divInt, if_neg (by omega), Int.gcd_comm, cop, Nat.div_one, Int.natAbs_of_nonneg (by omega)]
/-- a share less than 1: what is left is no greater -/
theorem one_sub_sz8 {s : Rat} {n : Nat} (h : Sz s n) (s0 : 0 < s) (s1 : s ≤ 1) : Sz (((1 : Int) : Rat) - s) n := by
  have h1 := num_one_sub s
  have h2 := h.den
  have h3 := num_pos0 s0
  have h4 : s.num ≤ s.den := by
    have h := s1
    rw [← Rat.num_divInt_den s, dv_le1 (den_pos _)] at h
    exact h
  exact ⟨by omega, by omega⟩

/-! ### rows of samples of one size -/
theorem rmax_self (q : Rat) : rmax q q = q := by unfold rmax; split <;> rfl
theorem foldl_rep {e x : Rat} (h : rmax x e = x) : ∀ n, (List.replicate n e).foldl rmax x = x := fun n => by
  induction n with
  | zero => rfl
  | succ n ih =>
    rw [List.replicate_succ, List.foldl_cons, h]
    exact ih
theorem rmax_rmax (e d : Rat) : rmax (rmax e d) d = rmax e d := by
  unfold rmax
  by_cases h : e < d
  · rw [if_pos h, if_neg (Rat.lt_irrefl)]
  · rw [if_neg h, if_neg h]
/-- the row of samples behind j rounds, of k -/
def rowK (e d : Rat) (k j : Nat) : List Rat := (List.replicate k e ++ List.replicate j d).drop j
theorem rowK_0 (e d : Rat) (k : Nat) : rowK e d k 0 = List.replicate k e := by
  unfold rowK
  rw [List.replicate_zero, List.append_nil, List.drop_zero]
theorem rowK_len (e d : Rat) (k j : Nat) : (rowK e d k j).length = k := by
  unfold rowK
  rw [List.length_drop, List.length_append, List.length_replicate, List.length_replicate]
  omega
theorem rowK_succ {e d : Rat} {k j : Nat} (hk : 1 ≤ k) : rowK e d k (j + 1) = (rowK e d k j).tail ++ [d] := by
  unfold rowK
  rw [List.tail_drop, List.replicate_succ', ← List.append_assoc, List.drop_append_of_le_length]
  rw [List.length_append, List.length_replicate, List.length_replicate]
  omega
theorem rowK_max {e d : Rat} {k j : Nat} (hk : 1 ≤ k) : ∃ q qs, rowK e d k j = q :: qs ∧ qs.foldl rmax q = if j = 0 then e else if j < k then rmax e d else d := by
  unfold rowK
  rw [List.drop_append, List.drop_replicate, List.drop_replicate, List.length_replicate]
  by_cases h : j < k
  · obtain ⟨m, hm⟩ : ∃ m, k - j = m + 1 := ⟨k - j - 1, by omega⟩
    rw [hm, show j - (j - k) = j by omega, List.replicate_succ, List.cons_append]
    refine ⟨_, _, rfl, ?_⟩
    rw [List.foldl_append, foldl_rep (rmax_self e)]
    by_cases j0 : j = 0
    · rw [if_pos j0, j0]
      rfl
    · obtain ⟨i, rfl⟩ : ∃ i, j = i + 1 := ⟨j - 1, by omega⟩
      rw [if_neg j0, if_pos h, List.replicate_succ, List.foldl_cons]
      exact foldl_rep (rmax_rmax e d) i
  · obtain ⟨m, hm⟩ : ∃ m, j - (j - k) = m + 1 := ⟨j - (j - k) - 1, by omega⟩
    rw [hm, show k - j = 0 by omega, List.replicate_zero, List.nil_append, List.replicate_succ, if_neg (show ¬ j = 0 by omega), if_neg h]
    exact ⟨_, _, rfl, foldl_rep (rmax_self d) m⟩
theorem qpow_0 (q : Rat) : qpow q 0 = 1 := by
  unfold qpow
  rw [Int.pow_zero, Int.pow_zero]
  rfl
theorem qpow_1 (q : Rat) : qpow q 1 = q := by
  unfold qpow
  rw [Int.pow_one, Int.pow_one]
  exact Rat.num_divInt_den q
/-- the smoothed estimate behind j rounds -/
def smo (s e d : Rat) (j : Nat) : Rat := d + qpow (((1 : Int) : Rat) - s) j * (e - d)
theorem smo_0 {s e d : Rat} : smo s e d 0 = e := by
  unfold smo
  rw [qpow_0]
  grind
theorem smo_succ {s e d : Rat} {j : Nat} : smo s e d (j + 1) = smo s e d j + s * (d - smo s e d j) := by
  unfold smo
  rw [qpow_add, qpow_1]
  have : ((1 : Int) : Rat) = 1 := rfl
  rw [this]
  grind
theorem smo_sz {s e d : Rat} {j : Nat} (zs : Sz s 8) (ze : Sz e 20) (zd : Sz d 20) (hj : j ≤ 20) : Sz (smo s e d j) 300 := (zd.add ((qpow_sz (N := 20) (one_sub_sz zs) hj).mul (ze.sub zd))).mono (by decide)
def rowE (z : Bk) (e d : Rat) (j : Nat) : List Rat := match z.latest with
  | none => [smo z.share e d j]
  | some k => rowK e d k j
theorem rowE_max {z : Bk} {e d : Rat} {j : Nat} (ok : BkOk z) : ∃ q qs, rowE z e d j = q :: qs ∧ qs.foldl rmax q = estA z e d j := by
  have lat := ok.lat
  unfold rowE estA
  cases el : z.latest with
  | none =>
    refine ⟨_, [], rfl, ?_⟩
    by_cases j0 : j = 0
    · rw [if_pos j0, j0]
      exact smo_0
    · rw [if_neg j0]
      rfl
  | some k => exact rowK_max (lat k el).1
theorem rowE_sz {z : Bk} {e d : Rat} {j : Nat} (zs : Sz z.share 8) (ze : Sz e 20) (zd : Sz d 20) (hj : j ≤ 300) : ∀ q ∈ rowE z e d j, Sz q 4000 := by
  unfold rowE
  cases el : z.latest with
  | none =>
    intro q hq
    obtain rfl := List.mem_singleton.mp hq
    exact (zd.add ((qpow_sz (N := 300) (one_sub_sz zs) hj).mul (ze.sub zd))).mono (by decide)
  | some k =>
    intro q hq
    have hq : q ∈ rowK e d k j := hq
    unfold rowK at hq
    have := List.mem_of_mem_drop hq
    rw [List.mem_append, List.mem_replicate, List.mem_replicate] at this
    rcases this with ⟨_, rfl⟩ | ⟨_, rfl⟩
    · exact ze.mono (by decide)
    · exact zd.mono (by decide)

theorem qpow_zn {q : Rat} (h : 0 ≤ q) : ∀ n, 0 ≤ qpow q n
  | 0 => by rw [qpow_0]; decide
  | n + 1 => by rw [qpow_add, qpow_1]; exact Rat.mul_nonneg (qpow_zn h n) h
theorem qpow_z1 {q : Rat} (h : 0 ≤ q) (h1 : q ≤ 1) : ∀ n, qpow q n ≤ 1
  | 0 => by rw [qpow_0]; exact Rat.le_refl
  | n + 1 => by
    rw [qpow_add, qpow_1]
    have a := qpow_z1 h h1 n
    have b := Rat.mul_le_mul_of_nonneg_left h1 (qpow_zn h n)
    rw [Rat.mul_one] at b
    exact Rat.le_trans b a
theorem lowW_sz {o : Option Rat} {u : Rat} {n : Nat} (h : Sz u n) (h4 : ∀ f, o = some f → Sz f n) : Sz (lowW o u) n := by
  cases o with
  | none => exact h
  | some f => exact sz_rmax h (h4 f rfl)
theorem highW_sz {o : Option Rat} {u : Rat} {n : Nat} (h : Sz u n) (h4 : ∀ f, o = some f → Sz f n) : Sz (highW o u) n := by
  cases o with
  | none => exact h
  | some f => exact sz_rmin h (h4 f rfl)
theorem rmax_le {a b : Rat} : a ≤ rmax a b ∧ b ≤ rmax a b := by unfold rmax; split <;> grind
theorem estA_z {z : Bk} {e d : Rat} : estA z e d 0 = e := if_pos rfl
theorem estA_smo {z : Bk} {e d : Rat} (hl : z.latest = none) (n : Nat) : estA z e d n = d + qpow (((1 : Int) : Rat) - z.share) n * (e - d) := by
  unfold estA
  split
  · next h => rw [h, qpow_0]; grind
  · rw [hl]

/-! ### a round whose first answer is there within the wait -/
section
variable {u d0 : Rat} {b : Bool} {ds : List (Option Rat)}
theorem quick_1 (h0 : dlk ds 0 = some d0) : rsk 0 u b ds 1 = ⟨0, 0, some d0, some d0⟩ := by
  show rstep (rsk 0 u b ds 0) 0 (stk 0 u b 0) (dlk ds 0) = _
  rw [h0]
  show (⟨0, 0, some (0 + d0), some d0⟩ : RS Rat) = _
  rw [Rat.zero_add]
theorem quick_stop (h0 : dlk ds 0 = some d0) (le : d0 ≤ u) : ¬ Gng 0 u b ds 1 := by
  unfold Gng
  rw [quick_1 h0]
  show ¬ stk 0 u b 1 < d0
  have : stk 0 u b 1 = 0 + u := rfl
  rw [this]
  grind
theorem quick_go (h0 : dlk ds 0 = some d0) : ∀ k, k < 1 → Gng 0 u b ds k := fun k hk => by
  obtain rfl : k = 0 := by omega
  unfold Gng
  trivial
theorem quick_smp (w : Str) (hw : w ∈ (["first", "last", "marked", "clean"] : List Str)) (h0 : dlk ds 0 = some d0) : smp w u b ds 1 = some d0 := by
  have e : (0 : Rat) = stk 0 u b 0 := rfl
  unfold smp
  rw [quick_1 h0]
  simp only [List.mem_cons, List.not_mem_nil, or_false] at hw
  rcases hw with rfl | rfl | rfl | rfl
  · rw [if_pos rfl]
  · rw [if_neg (by decide), if_pos rfl]
    show some (d0 - stk 0 u b 0) = some d0
    rw [← e]
    congr 1
    grind
  · rw [if_neg (by decide), if_neg (by decide), if_pos rfl]
  · rw [if_neg (by decide), if_neg (by decide), if_neg (by decide), if_pos rfl]
end
/-! ### the greatest one of some -/
theorem fmx_ge (xs : List Rat) : ∀ a, a ≤ xs.foldl rmax a ∧ ∀ q ∈ xs, q ≤ xs.foldl rmax a := by
  induction xs with
  | nil => exact fun a => ⟨Rat.le_refl, fun q h => nomatch h⟩
  | cons x xs ih =>
    intro a
    obtain ⟨h1, h2⟩ := ih (rmax a x)
    have m := rmax_le (a := a) (b := x)
    rw [List.foldl_cons]
    refine ⟨Rat.le_trans m.1 h1, fun q hq => ?_⟩
    rcases List.mem_cons.mp hq with rfl | hq
    · exact Rat.le_trans m.2 h1
    · exact h2 q hq
theorem rmax_or (a b : Rat) : rmax a b = a ∨ rmax a b = b := by
  unfold rmax
  split
  · exact .inr rfl
  · exact .inl rfl
theorem fmx_mem (xs : List Rat) : ∀ a, xs.foldl rmax a = a ∨ xs.foldl rmax a ∈ xs := by
  induction xs with
  | nil => exact fun a => .inl rfl
  | cons x xs ih =>
    intro a
    rw [List.foldl_cons]
    rcases ih (rmax a x) with h | h
    · rw [h]
      rcases rmax_or a x with e | e
      · exact .inl e
      · rw [e]
        exact .inr List.mem_cons_self
    · exact .inr (List.mem_cons_of_mem _ h)
theorem fmx_in {x q : Rat} {qs : List Rat} (h : x ∈ q :: qs) : (q :: qs).foldl rmax x = qs.foldl rmax q := by
  obtain ⟨g1, g2⟩ := fmx_ge (q :: qs) x
  obtain ⟨k1, k2⟩ := fmx_ge qs q
  have m1 := fmx_mem (q :: qs) x
  have m2 := fmx_mem qs q
  refine Rat.le_antisymm ?_ ?_
  · have : (q :: qs).foldl rmax x ∈ q :: qs := by
      rcases m1 with e | e
      · rw [e]; exact h
      · exact e
    rcases List.mem_cons.mp this with e | e
    · rw [e]; exact k1
    · exact k2 _ e
  · rcases m2 with e | e
    · rw [e]; exact g2 _ List.mem_cons_self
    · exact g2 _ (List.mem_cons_of_mem _ e)
/-! ### rounds of one delay that are answered within the wait -/
def qst (z : Bk) (e d : Rat) (i : Nat) : SS := ⟨z, estA z e d i, madeW z (estA z e d i), rowE z e d i, i, 0⟩
theorem qst_0 {z : Bk} {e d : Rat} : begun z e = qst z e d 0 := by
  unfold begun qst rowE
  rw [estA_z]
  cases z.latest with
  | none =>
    show (⟨z, e, madeW z e, [e], 0, 0⟩ : SS) = ⟨z, e, madeW z e, [smo z.share e d 0], 0, 0⟩
    rw [smo_0]
  | some k =>
    show (⟨z, e, madeW z e, List.replicate k e, 0, 0⟩ : SS) = ⟨z, e, madeW z e, rowK e d k 0, 0, 0⟩
    rw [rowK_0]
theorem quick_stp {st : SS} {ds : List (Option Rat)} {d0 : Rat} (hw : st.bk.word ∈ (["first", "last", "marked", "clean"] : List Str)) (h0 : dlk ds 0 = some d0) : stp st ds 1 = { lrn st d0 with rn := st.rn + 1, nd := st.nd } := by
  unfold stp
  rw [quick_smp _ hw h0, quick_1 h0]
  show ({ lrn st d0 with rn := st.rn + 1, nd := st.nd + ((0 : Nat) : Int) } : SS) = _
  rw [show st.nd + ((0 : Nat) : Int) = st.nd from Int.add_zero _]
theorem qst_stp {z : Bk} {e d : Rat} {i : Nat} (ok : BkOk z) : stp (qst z e d i) [some d] 1 = qst z e d (i + 1) := by
  have h0 : dlk [some d] 0 = some d := rfl
  rw [quick_stp (st := qst z e d i) ok.word h0]
  have eE : lrnE (qst z e d i) d = estA z e d (i + 1) := by
    unfold lrnE
    show (match z.latest with
      | none => estA z e d i + z.share * (d - estA z e d i)
      | some _ => ((rowE z e d i).tail ++ [d]).foldl rmax d) = _
    cases el : z.latest with
    | none =>
      show estA z e d i + z.share * (d - estA z e d i) = _
      have es : ∀ j, estA z e d j = smo z.share e d j := fun j => by
        rw [estA_smo el]
        rfl
      rw [es, es, smo_succ]
    | some k =>
      have hk := (ok.lat k el).1
      have er : rowE z e d i = rowK e d k i := by unfold rowE; rw [el]
      show ((rowE z e d i).tail ++ [d]).foldl rmax d = _
      rw [er, ← rowK_succ hk]
      obtain ⟨q, qs, e1, e2⟩ := rowE_max (z := z) (e := e) (d := d) (j := i + 1) ok
      have er1 : rowE z e d (i + 1) = rowK e d k (i + 1) := by unfold rowE; rw [el]
      have hm : d ∈ q :: qs := by
        rw [← e1, er1, rowK_succ hk]
        exact List.mem_append_right _ List.mem_cons_self
      rw [er1] at e1
      rw [e1, fmx_in hm, e2]
  have eS : lrnS (qst z e d i) d = rowE z e d (i + 1) := by
    unfold lrnS
    show (match z.latest with
      | none => [lrnE (qst z e d i) d]
      | some _ => (rowE z e d i).tail ++ [d]) = _
    cases el : z.latest with
    | none =>
      show [lrnE (qst z e d i) d] = _
      rw [eE, estA_smo el]
      unfold rowE
      rw [el]
      rfl
    | some k =>
      have hk := (ok.lat k el).1
      show (rowE z e d i).tail ++ [d] = _
      unfold rowE
      rw [el]
      exact (rowK_succ hk).symm
  unfold lrn
  rw [eE, eS]
  rfl

/-! ### senders in a steady world, without a program -/
/-- how many sendings a round of the wait u has -/
def nS (b : Bool) (u d : Rat) : Nat := Mt.snd b (cei d u)
section
variable {u d : Rat} {b : Bool} {a c : Nat}
theorem nS_pos (u0 : 0 < u) (d0 : 0 < d) : 1 ≤ nS b u d := (snd_spec (cei_pos u0 d0) b).1
theorem nS_lt (u0 : 0 < u) (d0 : 0 < d) (k : Nat) : k < nS b u d ↔ (mk b k : Rat) * u < d := by
  rw [cei_spec u0, (snd_spec (cei_pos u0 d0) b).2]
  exact Iff.rfl
theorem nS_one (u0 : 0 < u) (d0 : 0 < d) : nS b u d = 1 ↔ d ≤ u := by
  have h := nS_lt (b := b) u0 d0 1
  have p := nS_pos (b := b) u0 d0
  have e : ((mk b 1 : Int) : Rat) = 1 := by cases b <;> rfl
  rw [e, Rat.one_mul] at h
  constructor
  · intro q
    exact Rat.not_lt.mp fun l => absurd (h.mpr l) (by omega)
  · intro q
    have := mt h.mp (Rat.not_lt.mpr q)
    omega
theorem nS_rsk (u0 : 0 < u) (d0 : 0 < d) : rsk 0 u b [some d] (nS b u d) = ⟨nS b u d - 1, 0, some d, some d⟩ := by
  have p := nS_pos (b := b) u0 d0
  obtain ⟨j, hj⟩ : ∃ j, nS b u d = j + 1 := ⟨nS b u d - 1, by omega⟩
  rw [hj, rsk_steady u0 d0]
  rfl
theorem one_dlk {k : Nat} {q : Rat} (h : dlk [some d] k = some q) : q = d := by
  unfold dlk at h
  split at h
  · next hk =>
    have hk : k < 1 := hk
    obtain rfl : k = 0 := by omega
    cases h
    rfl
  · cases h
    rfl
theorem nS_game (u0 : 0 < u) (d0 : 0 < d) (hN : nS b u d ≤ 1000) (zu : Sz u a) (zd : Sz d c) (h : a + c ≤ 2900) : Game u b [some d] (nS b u d) := by
  have p := nS_pos (b := b) u0 d0
  refine ⟨(fun e => nomatch e), p, hN, fun k hk => (gng_steady u0 d0 k).mpr (.inr hk), fun g => ?_, ⟨fun k hk => (wtk_sz (N := 1000) (by omega) zu b).mono (by omega), fun k hk => (stk_sz (N := 1000) (by omega) zu b).mono (by omega), fun k q hk hq => ?_⟩⟩
  · rcases (gng_steady (b := b) u0 d0 (nS b u d)).mp g with e | e
    · omega
    · exact absurd e (Nat.lt_irrefl _)
  · rw [one_dlk hq]
    exact ⟨zd.mono (by omega), ((stk_sz (N := 1000) (by omega) zu b).add zd).mono (by omega)⟩
theorem nS_smp {w : Str} (u0 : 0 < u) (d0 : 0 < d) (hw : w ∈ (["first", "last", "marked", "clean"] : List Str)) (nl : w ≠ "last") : smp w u b [some d] (nS b u d) = if w = "clean" ∧ nS b u d ≠ 1 then none else some d := by
  unfold smp
  rw [nS_rsk u0 d0]
  simp only [List.mem_cons, List.not_mem_nil, or_false] at hw
  rcases hw with rfl | rfl | rfl | rfl
  · rw [if_pos rfl, if_neg (fun h => absurd h.1 (by decide))]
  · exact absurd rfl nl
  · rw [if_neg (by decide), if_neg (by decide), if_pos rfl, if_neg (fun h => absurd h.1 (by decide))]
  · rw [if_neg (by decide), if_neg (by decide), if_neg (by decide)]
    by_cases h : nS b u d = 1
    · rw [if_pos h, if_neg (fun g => g.2 h)]
    · rw [if_neg h, if_pos ⟨rfl, h⟩]
end
/-- a sender whose estimate and samples stand as behind i samples of the delay -/
structure SI (z : Bk) (e d : Rat) (i : Nat) (st : SS) : Prop where
  bk : st.bk = z
  est : st.est = estA z e d i
  sm : st.sm = rowE z e d i
section
variable {z : Bk} {e d l : Rat} {i n a c s : Nat} {st : SS}
theorem SI.begun : SI z e d 0 (begun z e) := by
  rw [qst_0 (d := d)]
  exact ⟨rfl, rfl, rfl⟩
theorem SI.lrnd (ok : BkOk z) (h : SI z e d i st) : lrnE st d = estA z e d (i + 1) ∧ lrnS st d = rowE z e d (i + 1) := by
  have q := qst_stp (z := z) (e := e) (d := d) (i := i) ok
  have h0 : dlk [some d] 0 = some d := rfl
  rw [quick_stp (st := qst z e d i) ok.word h0] at q
  have q1 := congrArg SS.est q
  have q2 := congrArg SS.sm q
  have e1 : lrnE st d = lrnE (qst z e d i) d := by
    unfold lrnE
    rw [h.bk, h.est, h.sm]
    rfl
  have e2 : lrnS st d = lrnS (qst z e d i) d := by
    unfold lrnS
    rw [e1, h.bk, h.sm]
    rfl
  exact ⟨e1.trans q1, e2.trans q2⟩
theorem estA_lo (ok : BkOk z) (h1 : l ≤ e) (h2 : l ≤ d) (n : Nat) : l ≤ estA z e d n := by
  have s0 := ok.sh0
  have s1 := ok.sh1
  cases hl : z.latest with
  | none =>
    rw [estA_smo hl]
    have q0 := qpow_zn (q := ((1 : Int) : Rat) - z.share) (by rw [Rat.intCast_one]; grind) n
    have q1 := qpow_z1 (q := ((1 : Int) : Rat) - z.share) (by rw [Rat.intCast_one]; grind) (by rw [Rat.intCast_one]; grind) n
    generalize qpow (((1 : Int) : Rat) - z.share) n = q at *
    have a1 := Rat.mul_nonneg q0 (show 0 ≤ e - l by grind)
    have a2 := Rat.mul_nonneg (show 0 ≤ 1 - q by grind) (show 0 ≤ d - l by grind)
    grind
  | some k =>
    unfold estA
    split
    · exact h1
    · rw [hl]
      show l ≤ if n < k then rmax e d else d
      split
      · exact Rat.le_trans h1 rmax_le.1
      · exact h2
theorem estA_hi (ok : BkOk z) (h1 : e ≤ l) (h2 : d ≤ l) (n : Nat) : estA z e d n ≤ l := by
  have s0 := ok.sh0
  have s1 := ok.sh1
  cases hl : z.latest with
  | none =>
    rw [estA_smo hl]
    have q0 := qpow_zn (q := ((1 : Int) : Rat) - z.share) (by rw [Rat.intCast_one]; grind) n
    have q1 := qpow_z1 (q := ((1 : Int) : Rat) - z.share) (by rw [Rat.intCast_one]; grind) (by rw [Rat.intCast_one]; grind) n
    generalize qpow (((1 : Int) : Rat) - z.share) n = q at *
    have a1 := Rat.mul_nonneg q0 (show 0 ≤ l - e by grind)
    have a2 := Rat.mul_nonneg (show 0 ≤ 1 - q by grind) (show 0 ≤ l - d by grind)
    grind
  | some k =>
    unfold estA
    split
    · exact h1
    · rw [hl]
      show (if n < k then rmax e d else d) ≤ l
      split
      · unfold rmax
        split
        · exact h2
        · exact h1
      · exact h2
theorem estA_pos (ok : BkOk z) (e0 : 0 < e) (d0 : 0 < d) (n : Nat) : 0 < estA z e d n := by
  have m : rmin e d ≤ e ∧ rmin e d ≤ d := by unfold rmin; split <;> grind
  have h := estA_lo (l := rmin e d) ok m.1 m.2 n
  have : 0 < rmin e d := by unfold rmin; split <;> assumption
  grind
theorem smo_sz' (ok : BkOk z) (zs : Sz z.share s) (ze : Sz e a) (zd : Sz d c) (hi : i ≤ n) : Sz (smo z.share e d i) (c + (s * n + 1 + (a + c + 1)) + 1) :=
  zd.add ((qpow_sz (N := n) (one_sub_sz8 zs ok.sh0 ok.sh1) hi).mul (ze.sub zd))
theorem estA_sz (ok : BkOk z) (zs : Sz z.share s) (ze : Sz e a) (zd : Sz d c) (hi : i ≤ n) : Sz (estA z e d i) (s * n + a + 2 * c + 3) := by
  cases hl : z.latest with
  | none =>
    rw [estA_smo hl]
    exact (smo_sz' ok zs ze zd hi).mono (by omega)
  | some k =>
    unfold estA
    split
    · exact ze.mono (by omega)
    · rw [hl]
      show Sz (if i < k then rmax e d else d) _
      split
      · exact sz_rmax (ze.mono (by omega)) (zd.mono (by omega))
      · exact zd.mono (by omega)
theorem rowE_sz' (ok : BkOk z) (zs : Sz z.share s) (ze : Sz e a) (zd : Sz d c) (hi : i ≤ n) : (∀ q ∈ rowE z e d i, Sz q (s * n + a + 2 * c + 3)) ∧ (rowE z e d i).length ≤ 20 := by
  unfold rowE
  cases el : z.latest with
  | none =>
    refine ⟨fun q hq => ?_, (by decide : 1 ≤ 20)⟩
    obtain rfl := List.mem_singleton.mp hq
    exact (smo_sz' ok zs ze zd hi).mono (by omega)
  | some k =>
    refine ⟨fun q hq => ?_, ?_⟩
    · have hq : q ∈ rowK e d k i := hq
      unfold rowK at hq
      rcases List.mem_append.mp (List.mem_of_mem_drop hq) with h | h
      · rw [List.eq_of_mem_replicate h]
        exact ze.mono (by omega)
      · rw [List.eq_of_mem_replicate h]
        exact zd.mono (by omega)
    · show (rowK e d k i).length ≤ 20
      rw [rowK_len]
      exact (ok.lat k el).2.1
theorem madeW_lo (ok : BkOk z) (h : l ≤ e) (l0 : 0 < l) (hr : ∀ r, z.roof = some r → l ≤ r) : l ≤ madeW z e := by
  have f1 := ok.fa
  have m0 := ok.ma
  have e0 : 0 < e := by grind
  have w1 : l ≤ z.factor * e + z.margin := by
    have := Rat.mul_le_mul_of_nonneg_right f1 (Rat.le_of_lt e0)
    rw [Rat.one_mul] at this
    grind
  have w2 : l ≤ lowW z.floor (z.factor * e + z.margin) := by
    unfold lowW
    cases z.floor with
    | none => exact w1
    | some f => exact Rat.le_trans w1 (by show _ ≤ rmax _ f; unfold rmax; split <;> grind)
  unfold madeW highW
  cases hz : z.roof with
  | none => exact w2
  | some r =>
    have := hr r hz
    show l ≤ rmin _ r
    unfold rmin
    split <;> assumption
theorem madeW_up (ok : BkOk z) (h : l ≤ e) : madeW z l ≤ madeW z e := by
  have f1 := ok.fa
  have w1 : z.factor * l + z.margin ≤ z.factor * e + z.margin := by
    have := Rat.mul_le_mul_of_nonneg_left h (show 0 ≤ z.factor by grind)
    grind
  have w2 : lowW z.floor (z.factor * l + z.margin) ≤ lowW z.floor (z.factor * e + z.margin) := by
    unfold lowW
    cases z.floor with
    | none => exact w1
    | some f => show rmax _ f ≤ rmax _ f; unfold rmax; split <;> split <;> grind
  unfold madeW highW
  cases z.roof with
  | none => exact w2
  | some r => show rmin _ r ≤ rmin _ r; unfold rmin; split <;> split <;> grind
/-- a round of the delay can be played -/
theorem SI.pok (ok : BkOk z) (h : SI z e d i st) (e0 : 0 < e) (d0 : 0 < d) (w0 : 0 < st.wt) (nl : z.word ≠ "last") (hN : nS z.doubled st.wt d ≤ 1000) (zu : Sz st.wt a) (zd : Sz d c) (hac : a + c ≤ 2900) (c14 : c ≤ 1400)
    (zs : Sz z.share s) (ze : Sz e c) (hi : i < n) (hn : s * n + 3 * c + 3 ≤ 1450) : POk st [some d] (nS z.doubled st.wt d) := by
  have okb : BkOk st.bk := by rw [h.bk]; exact ok
  have eb : st.bk.doubled = z.doubled := by rw [h.bk]
  have ew : st.bk.word = z.word := by rw [h.bk]
  have zl := estA_sz ok zs ze zd (show i + 1 ≤ n by omega)
  have rw1 := rowE_sz' ok zs ze zd (show i ≤ n by omega)
  refine ⟨w0, ⟨(by show 0 < 1; decide), (fun e => nomatch e)⟩, (by show 1 < 1000; decide), ?_, okb, okb.word, fun q hq => ?_⟩
  · rw [eb]
    exact nS_game w0 d0 hN zu zd hac
  · have eq : q = d := by
      rw [eb, ew, nS_smp w0 d0 ok.word nl] at hq
      split at hq
      · cases hq
      · cases hq; rfl
    subst eq
    have l := h.lrnd ok
    refine ⟨okb, ?_, zd.mono (by omega), fun r hr => ?_, ?_, ?_, ?_⟩
    · rw [h.est]
      exact (estA_sz ok zs ze zd (show i ≤ n by omega)).mono (by omega)
    · rw [h.sm] at hr
      exact (rw1.1 r hr).mono (by omega)
    · rw [l.1]
      exact estA_pos ok e0 d0 _
    · rw [l.1]
      exact zl.mono (by omega)
    · rw [h.sm]
      exact rw1.2
/-- .. that is learned from -/
theorem SI.next (ok : BkOk z) (h : SI z e d i st) (d0 : 0 < d) (w0 : 0 < st.wt) (nl : z.word ≠ "last") (hc : z.word = "clean" → d ≤ st.wt) :
    SI z e d (i + 1) (stp st [some d] (nS z.doubled st.wt d)) ∧ (stp st [some d] (nS z.doubled st.wt d)).wt = madeW z (estA z e d (i + 1)) := by
  have eb : st.bk.doubled = z.doubled := by rw [h.bk]
  have ew : st.bk.word = z.word := by rw [h.bk]
  have l := h.lrnd ok
  have es : smp st.bk.word st.wt st.bk.doubled [some d] (nS z.doubled st.wt d) = some d := by
    rw [eb, ew, nS_smp w0 d0 ok.word nl, if_neg]
    rintro ⟨g1, g2⟩
    exact g2 ((nS_one w0 d0).mpr (hc g1))
  have e1 : stp st [some d] (nS z.doubled st.wt d) = { Rt.lrn st d with rn := st.rn + 1, nd := st.nd + (rsk 0 st.wt st.bk.doubled [some d] (nS z.doubled st.wt d)).nd } := by
    unfold stp
    rw [es]
  rw [e1]
  refine ⟨⟨h.bk, l.1, l.2⟩, ?_⟩
  show madeW st.bk (lrnE st d) = _
  rw [h.bk, l.1]
/-- .. that is not, where waits are kept -/
theorem SI.held (h : SI z e d i st) (d0 : 0 < d) (w0 : 0 < st.wt) (hc : z.word = "clean") (hk : z.kept = true) (hu : st.wt < d) (ok : BkOk z) :
    SI z e d i (stp st [some d] (nS z.doubled st.wt d)) ∧ (stp st [some d] (nS z.doubled st.wt d)).wt = lwk st.wt z.doubled (nS z.doubled st.wt d) := by
  have eb : st.bk.doubled = z.doubled := by rw [h.bk]
  have ew : st.bk.word = z.word := by rw [h.bk]
  have es : smp st.bk.word st.wt st.bk.doubled [some d] (nS z.doubled st.wt d) = none := by
    rw [eb, ew, nS_smp w0 d0 ok.word (by rw [hc]; decide), if_pos ⟨hc, fun g => absurd ((nS_one w0 d0).mp g) (Rat.not_le.mpr hu)⟩]
  have e1 : stp st [some d] (nS z.doubled st.wt d) = { ({ st with wt := lwk st.wt st.bk.doubled (nS z.doubled st.wt d) } : SS) with rn := st.rn + 1, nd := st.nd + (rsk 0 st.wt st.bk.doubled [some d] (nS z.doubled st.wt d)).nd } := by
    unfold stp
    rw [es, h.bk, hk]
    rfl
  rw [e1]
  refine ⟨⟨h.bk, h.est, h.sm⟩, ?_⟩
  show lwk st.wt st.bk.doubled _ = _
  rw [eb]
end
/-! ### rounds of one delay, one after another -/
def stD (st : SS) (d : Rat) : Nat → SS
  | 0 => st
  | n + 1 => stp (stD st d n) [some d] (nS (stD st d n).bk.doubled (stD st d n).wt d)
def nD (st : SS) (d : Rat) (n : Nat) : Nat := nS (stD st d n).bk.doubled (stD st d n).wt d
theorem stnS_D (st : SS) (d : Rat) : ∀ n, stnS st d (nD st d) n = stD st d n
  | 0 => rfl
  | n + 1 => by
    show stp (stnS st d (nD st d) n) [some d] (nD st d n) = _
    rw [stnS_D st d n]
    rfl
theorem sz_lo {q : Rat} {n : Nat} (h : Sz q n) (q0 : 0 < q) : Rat.divInt 1 ((2 : Int) ^ n) ≤ q := by
  have p2 : (0 : Int) < 2 ^ n := pow_pos2 n
  rw [show q = Rat.divInt q.num q.den from (Rat.num_divInt_den q).symm, dv_le p2 (den_pos q)]
  have h1 := num_pos0 q0
  have h2 := h.den
  have e : (2 : Int) ^ n = ((2 ^ n : Nat) : Int) := by rw [Int.natCast_pow]; rfl
  have h3 : ((q.den : Nat) : Int) < (2 : Int) ^ n := by rw [e]; omega
  have := Int.mul_le_mul_of_nonneg_right (show 1 ≤ q.num by omega) (Int.le_of_lt p2)
  omega
theorem sz_hi {q : Rat} {n : Nat} (h : Sz q n) : q ≤ (((2 : Int) ^ n : Int) : Rat) := by
  rw [show q = Rat.divInt q.num q.den from (Rat.num_divInt_den q).symm, ← int_eq, dv_le (den_pos q) (by decide)]
  have h1 := h.num
  have h2 := den_pos q
  have e : (2 : Int) ^ n = ((2 ^ n : Nat) : Int) := by rw [Int.natCast_pow]; rfl
  have p2 : (0 : Int) < 2 ^ n := pow_pos2 n
  have h3 : q.num < (2 : Int) ^ n := by rw [e]; omega
  have := Int.mul_le_mul_of_nonneg_left (show 1 ≤ ((q.den : Nat) : Int) by omega) (Int.le_of_lt p2)
  omega

/-! ### steady worlds of the samples first and marked -/
structure MP (z : Bk) (e d : Rat) : Prop where
  ok : BkOk z
  w1 : z.word ≠ "last"
  w2 : z.word ≠ "clean"
  e0 : 0 < e
  d0 : 0 < d
  ze : Sz e 20
  zd : Sz d 20
  z1 : Sz z.share 9
  z2 : Sz z.factor 9
  z3 : Sz z.margin 9
  z4 : ∀ f, z.floor = some f → Sz f 9
  z5 : ∀ r, z.roof = some r → Sz r 9
  ed : d ≤ 400 * e
  rd : ∀ r, z.roof = some r → d ≤ 400 * r
section
variable {z : Bk} {e e' d u u' : Rat} {n : Nat} {st : SS} {b : Bool}
structure MI (z : Bk) (e d : Rat) (n : Nat) (st : SS) : Prop where
  si : SI z e d n st
  wt : st.wt = madeW z (estA z e d n)
theorem MI.beg0 : MI z e d 0 (Rt.begun z e) := ⟨SI.begun, by rw [estA_z]; rfl⟩
theorem MI.sizes (mp : MP z e d) (h : MI z e d n st) (hn : n ≤ 12) : 0 < st.wt ∧ d ≤ 400 * st.wt ∧ Sz st.wt 250 ∧ Sz st.est 220 ∧ 0 < st.est := by
  have l0 : 0 < d / 400 := by
    have := mp.d0
    rw [Rat.div_def]
    exact Rat.mul_pos this (by decide +kernel)
  have e4 : d / 400 * 400 = d := Rat.div_mul_cancel (by decide)
  have l1 : d / 400 ≤ e ∧ d / 400 ≤ d := by
    have := mp.ed
    have := mp.d0
    generalize d / 400 = q at *
    constructor <;> grind
  have la := estA_lo (l := d / 400) mp.ok l1.1 l1.2 n
  have lm := madeW_lo mp.ok la l0 fun r hr => by
    have := mp.rd r hr
    generalize d / 400 = q at *
    grind
  have zE := estA_sz mp.ok mp.z1 mp.ze mp.zd hn
  have zM : Sz (madeW z (estA z e d n)) 250 := highW_sz (lowW_sz (((mp.z2.mul zE).add mp.z3).mono (by omega)) fun f hf => (mp.z4 f hf).mono (by decide)) fun f hf => (mp.z5 f hf).mono (by decide)
  have ep := estA_pos mp.ok mp.e0 mp.d0 n
  rw [h.wt, h.si.est]
  generalize d / 400 = q at *
  exact ⟨by grind, by grind, zM, zE.mono (by omega), ep⟩
theorem MI.count (mp : MP z e d) (h : MI z e d n st) (hn : n ≤ 12) : nS z.doubled st.wt d ≤ 400 := by
  obtain ⟨w0, wd, _⟩ := h.sizes mp hn
  have c1 := cei_pos (d := d) w0 mp.d0
  exact snd_le c1 (cei_le (n := 400) w0 (by rw [show ((400 : Nat) : Rat) = 400 from rfl]; exact wd)) _
theorem MI.pok (mp : MP z e d) (h : MI z e d n st) (hn : n < 12) : POk st [some d] (nS z.doubled st.wt d) := by
  obtain ⟨w0, wd, zw, _⟩ := h.sizes mp (by omega)
  have hN := h.count mp (by omega)
  exact h.si.pok (n := 12) (a := 250) (c := 20) (s := 9) mp.ok mp.e0 mp.d0 w0 mp.w1 (by omega) zw mp.zd (by decide) (by decide) mp.z1 mp.ze hn (by decide)
theorem MI.step (mp : MP z e d) (h : MI z e d n st) (hn : n ≤ 12) : MI z e d (n + 1) (stp st [some d] (nS z.doubled st.wt d)) := by
  obtain ⟨w0, wd, zw, _⟩ := h.sizes mp hn
  obtain ⟨s1, s2⟩ := h.si.next mp.ok mp.d0 w0 mp.w1 fun g => absurd g mp.w2
  exact ⟨s1, s2⟩
theorem MI.all (mp : MP z e d) : ∀ n, n ≤ 12 → MI z e d n (stD (Rt.begun z e) d n)
  | 0, _ => MI.beg0
  | n + 1, hn => by
    have h := MI.all mp n (by omega)
    have eb : (stD (Rt.begun z e) d n).bk.doubled = z.doubled := by rw [h.si.bk]
    show MI z e d (n + 1) (stp (stD (Rt.begun z e) d n) [some d] (nS (stD (Rt.begun z e) d n).bk.doubled (stD (Rt.begun z e) d n).wt d))
    rw [eb]
    exact h.step mp (by omega)
theorem MI.nD (mp : MP z e d) (h : MI z e d n (stD (Rt.begun z e) d n)) : Rt.nD (Rt.begun z e) d n = nS z.doubled (stD (Rt.begun z e) d n).wt d := by
  unfold Rt.nD
  rw [h.si.bk]
theorem MI.std {m : Nat} (mp : MP z e d) (hm : m ≤ 12) : StdP (Rt.begun z e) d (Rt.nD (Rt.begun z e) d) m := by
  refine ⟨mp.ok, mp.e0, mp.ze.mono (by decide), mp.d0, mp.zd.mono (by decide), fun j hj => ?_, by omega⟩
  have h := MI.all mp j (by omega)
  rw [stnS_D, h.nD mp]
  exact h.pok mp (by omega)
/-- towards the delay -/
theorem estA_tow (ok : BkOk z) (n : Nat) : (estA z e d n ≤ d → estA z e d n ≤ estA z e d (n + 1) ∧ estA z e d (n + 1) ≤ d) ∧ (d ≤ estA z e d n → d ≤ estA z e d (n + 1) ∧ estA z e d (n + 1) ≤ estA z e d n) := by
  have s0 := ok.sh0
  have s1 := ok.sh1
  cases hl : z.latest with
  | none =>
    have es : ∀ j, estA z e d j = smo z.share e d j := fun j => by rw [estA_smo hl]; rfl
    rw [es, es, smo_succ]
    generalize smo z.share e d n = x
    constructor
    · intro h
      have a1 := Rat.mul_nonneg (Rat.le_of_lt s0) (show 0 ≤ d - x by grind)
      have a2 := Rat.mul_le_mul_of_nonneg_right s1 (show 0 ≤ d - x by grind)
      rw [Rat.one_mul] at a2
      grind
    · intro h
      have a1 := Rat.mul_nonneg (Rat.le_of_lt s0) (show 0 ≤ x - d by grind)
      have a2 := Rat.mul_le_mul_of_nonneg_right s1 (show 0 ≤ x - d by grind)
      rw [Rat.one_mul] at a2
      grind
  | some k =>
    have ev : ∀ j, estA z e d j = if j = 0 then e else if j < k then rmax e d else d := fun j => by
      unfold estA
      rw [hl]
    rw [ev, ev]
    by_cases n0 : n = 0
    · subst n0
      rw [if_pos rfl, if_neg (show ¬ 0 + 1 = 0 by omega)]
      unfold rmax
      split
      · split <;> grind
      · grind
    · rw [if_neg n0, if_neg (show ¬ n + 1 = 0 by omega)]
      by_cases c : n + 1 < k
      · rw [if_pos (show n < k by omega), if_pos c]
        unfold rmax
        split <;> grind
      · rw [if_neg c]
        by_cases c2 : n < k
        · rw [if_pos c2]
          unfold rmax
          split <;> grind
        · rw [if_neg c2]
          grind
theorem estA_mono (ok : BkOk z) (h : e ≤ e') (n : Nat) : estA z e d n ≤ estA z e' d n := by
  have s0 := ok.sh0
  have s1 := ok.sh1
  cases hl : z.latest with
  | none =>
    rw [estA_smo hl, estA_smo hl]
    have q0 := qpow_zn (q := ((1 : Int) : Rat) - z.share) (by rw [Rat.intCast_one]; grind) n
    have := Rat.mul_le_mul_of_nonneg_left (show e - d ≤ e' - d by grind) q0
    grind
  | some k =>
    have ev : ∀ x j, estA z x d j = if j = 0 then x else if j < k then rmax x d else d := fun x j => by
      unfold estA
      rw [hl]
    rw [ev, ev]
    unfold rmax
    split
    · exact h
    · split
      · split <;> split <;> grind
      · exact Rat.le_refl
theorem nS_anti (u0 : 0 < u) (d0 : 0 < d) (h : u ≤ u') : nS b u' d ≤ nS b u d := by
  have u1 : 0 < u' := by grind
  refine Nat.le_of_not_lt fun g => ?_
  have q1 := (nS_lt (b := b) u1 d0 (nS b u d)).mp g
  have q2 : ¬ ((Mt.mk b (nS b u d) : Int) : Rat) * u < d := fun q => absurd ((nS_lt (b := b) u0 d0 (nS b u d)).mpr q) (Nat.lt_irrefl _)
  have q3 : (0 : Rat) ≤ ((Mt.mk b (nS b u d) : Int) : Rat) := Rat.intCast_nonneg.mpr (mk_nn b _)
  have := Rat.mul_le_mul_of_nonneg_left h q3
  grind
theorem MI.nd (mp : MP z e d) (h : MI z e d n st) (hn : n ≤ 12) : (rsk 0 st.wt st.bk.doubled [some d] (nS z.doubled st.wt d)).nd = nS z.doubled st.wt d - 1 := by
  have w0 := (h.sizes mp hn).1
  rw [h.si.bk, nS_rsk w0 mp.d0]
end

/-! ### _law_towards, _law_one -/
section
variable {P : Program} {w : World} {K : PySem.W.Frag} {mg : Str → Option Value} {base : Heap}
def spTow (K : PySem.W.Frag) : Sp := fun vs H Q _ => ∃ x y d xv yv dv, vs = [xv, yv, dv] ∧ TimeV (CT K) x xv H ∧ TimeV (CT K) y yv H ∧ TimeV (CT K) d dv H ∧ Sz x 400 ∧ Sz y 400 ∧ Sz d 400 ∧ (x ≤ d → x ≤ y ∧ y ≤ d) ∧ (d ≤ x → d ≤ y ∧ y ≤ x) ∧ ∀ H', Ex H H' → Q (.bl true) H'
theorem f__law_towards (T : Tm K mg) : GFn P w K mg base 8 "_law_towards" (spTow K) := by
  obtain ⟨fd, F⟩ := T.d__law_towards
  refine GFn.mk F T.g__law_towards (def_ok F sc__law_towards (fun vs H Q E h => by obtain ⟨x, y, d, xv, yv, dv, rfl, _⟩ := h; rfl) ?_) (F.bindsN fun _ _ _ _ _ _ us hl => match us, hl with | [_, _, _], _ => rfl)
  intro X eP ew eK em eb eN es hf nd H vs Q E B h
  subst eP ew eK em eb
  have n0 : Sl X 0 "_law_before" := slot_of eN es hf nd rfl (by first | exact Or.inl rfl | exact Or.inr rfl) (by decide) (by decide)
  have n1 : Sl X 1 "_law_after" := slot_of eN es hf nd rfl (by first | exact Or.inl rfl | exact Or.inr rfl) (by decide) (by decide)
  have n2 : Sl X 2 "_law_delay" := slot_of eN es hf nd rfl (by first | exact Or.inl rfl | exact Or.inr rfl) (by decide) (by decide)
  obtain ⟨x, y, d, xv, yv, dv, rfl, hx, hy, hd, zx, zy, zd, h1, h2, k⟩ := h
  show WB X [_, _] _ [some (xv), some (yv), some (dv)] H
  have zx4 : Sz x 4000 := zx.mono (by decide)
  have zy4 : Sz y 4000 := zy.mono (by decide)
  have zd4 : Sz d 4000 := zd.mono (by decide)
  with_reducible refine' wb_cons ?_
  with_reducible refine' ws_to (fun σ' H' => σ' = [some xv, some yv, some dv] ∧ Ex H H' ∧ d ≤ x) ?_ ?_
  · repeat walk_at "w"
    rename_i Ha xa
    refine ite_dec (fun hc => ?_) (fun hc => ?_)
    · obtain ⟨g1, g2⟩ := h1 hc
      have hxa := TimeV.mono xa hx
      have hya := TimeV.mono xa hy
      have hda := TimeV.mono xa hd
      repeat walk_at "w"
      rename_i Hb xb
      rw [decide_eq_true g1]
      repeat walk_at "w"
      rename_i Hc xc
      rw [decide_eq_true g2]
      exact k _ ((xa.trans xb).trans xc)
    · repeat walk_at "w"
      exact ⟨rfl, xa, by grind⟩
  rintro σ' H1 ⟨rfl, xa, dx⟩
  obtain ⟨g1, g2⟩ := h2 dx
  have hxa := TimeV.mono xa hx
  have hya := TimeV.mono xa hy
  have hda := TimeV.mono xa hd
  show WB X _ _ _ _
  repeat walk_at "w"
  rename_i Hb xb
  rw [decide_eq_true g1]
  repeat walk_at "w"
  rename_i Hc xc
  rw [decide_eq_true g2]
  exact k _ ((xa.trans xb).trans xc)
def spOne (K : PySem.W.Frag) : Sp := fun vs H Q _ => ∃ z e d m rl out ev dv, vs = [.ref rl, ev, dv] ∧ MP z e d ∧ m ≤ 12 ∧ H rl = some (.lst out) ∧ RowsS K (begun z e) d (nD (begun z e) d) m out H ∧ TimeV (CT K) e ev H ∧ TimeV (CT K) d dv H ∧ ∀ H', Ex H H' → Q (.bl true) H'
theorem rows_ns {K : PySem.W.Frag} {st : SS} {d : Rat} {Ns : Nat → Nat} {m : Nat} {out : List V} {H : Hp} (h : RowsS K st d Ns m out H) : ¬ Src (.lst out) := refs_not_src fun j v ev => by
  obtain ⟨t, wv, ev', rfl, _⟩ := h.2 j v ev
  exact .inl ⟨t, rfl⟩
theorem row_at {K : PySem.W.Frag} {z : Bk} {e d : Rat} {m : Nat} {out : List V} {H : Hp} (mp : MP z e d) (hm : m ≤ 12) (h : RowsS K (begun z e) d (nD (begun z e) d) m out H) {j : Nat} {v : V} (ev : out[j]? = some v) :
    MI z e d j (stD (begun z e) d j) ∧ ∃ t wv xv, v = .ref t ∧ H t = some (.tup [wv, .int (nS z.doubled (stD (begun z e) d j).wt d : Nat), .int ((nS z.doubled (stD (begun z e) d j).wt d - 1 : Nat) : Nat), xv]) ∧ TimeV (CT K) (stD (begun z e) d j).wt wv H ∧ TimeV (CT K) (stD (begun z e) d (j + 1)).est xv H := by
  have hj := (List.getElem?_eq_some_iff.mp ev).1
  rw [h.1] at hj
  have mi := MI.all mp j (by omega)
  obtain ⟨t, wv, xv, rfl, ht, hw, hx⟩ := h.2 j v ev
  rw [stnS_D, mi.nD mp] at ht hx
  rw [stnS_D] at hw
  rw [mi.nd mp (by omega)] at ht
  refine ⟨mi, t, wv, xv, rfl, ht, hw, ?_⟩
  have eb : (stD (begun z e) d j).bk.doubled = z.doubled := by rw [mi.si.bk]
  have : stD (begun z e) d (j + 1) = stp (stD (begun z e) d j) [some d] (nS z.doubled (stD (begun z e) d j).wt d) := by
    show stp (stD (begun z e) d j) [some d] (nS (stD (begun z e) d j).bk.doubled (stD (begun z e) d j).wt d) = _
    rw [eb]
  rw [this]
  exact hx
theorem f__law_one (T : Tm K mg) : GFn P w K mg base 10 "_law_one" (spOne K) := by
  obtain ⟨fd, F⟩ := T.d__law_one
  refine GFn.mk F T.g__law_one (def_ok F sc__law_one (fun vs H Q E h => by obtain ⟨z, e, d, m, rl, out, ev, dv, rfl, _⟩ := h; rfl) ?_) (F.bindsN fun _ _ _ _ _ _ us hl => match us, hl with | [_, _, _], _ => rfl)
  intro X eP ew eK em eb eN es hf nd H vs Q E B h
  subst eP ew eK em eb
  have n0 : Sl X 0 "_law_rows" := slot_of eN es hf nd rfl (by first | exact Or.inl rfl | exact Or.inr rfl) (by decide) (by decide)
  have n1 : Sl X 1 "_law_estimate" := slot_of eN es hf nd rfl (by first | exact Or.inl rfl | exact Or.inr rfl) (by decide) (by decide)
  have n2 : Sl X 2 "_law_delay" := slot_of eN es hf nd rfl (by first | exact Or.inl rfl | exact Or.inr rfl) (by decide) (by decide)
  have n3 : Sl X 3 "_law_before" := slot_of eN es hf nd rfl (by first | exact Or.inl rfl | exact Or.inr rfl) (by decide) (by decide)
  have n4 : Sl X 4 "_law_row" := slot_of eN es hf nd rfl (by first | exact Or.inl rfl | exact Or.inr rfl) (by decide) (by decide)
  have g__law_towards : Gn X "_law_towards" := gn_of es rfl (by decide)
  have F__law_towards := f__law_towards (P := X.prog) (w := X.w) (base := X.base) T
  obtain ⟨z, e, d, m, rl, out, ev, dv, rfl, mp, hm, hrl, hrows, he, hd, k⟩ := h
  show WB X [_, _, _] _ [some (.ref rl), some (ev), some (dv), none, none] H
  have lo : out.length = m := hrows.1
  have nss := rows_ns hrows
  have zd4 : Sz d 4000 := mp.zd.mono (by decide)
  with_reducible refine' wb_cons ?_
  with_reducible refine' ws_to (fun σ' H' => σ' = [some (.ref rl), some ev, some dv, some ev, none] ∧ H = H') ?_ ?_
  · repeat walk_at "w"
    exact ⟨rfl, rfl⟩
  rintro σ' H' ⟨rfl, rfl⟩
  show WB X _ _ _ _
  with_reducible refine' wb_cons ?_
  with_reducible refine' ws_to (fun σ' H' => ∃ c3 c4, σ' = [some (.ref rl), some ev, some dv, c3, c4] ∧ Ex H H') ?_ ?_
  · refine ws_for_listE B n4 ?_
    repeat walk_at "w"
    refine ⟨rl, out, rfl, fun i σ' H' => ∃ bv c4, σ' = [some (.ref rl), some ev, some dv, some bv, c4] ∧ Ex H H' ∧ TimeV (CT X.K) (stD (begun z e) d i).est bv H', ⟨ev, _, rfl, .refl _, he⟩, fun _ _ H' _ h => .of (by obtain ⟨bv, c4, _, x, _⟩ := h; exact x.keep _ _ hrl nss), ?_, ?_⟩
    · rintro i v σ' G hv ⟨bv, c4, rfl, xg, hbv⟩
      have hi := (List.getElem?_eq_some_iff.mp hv).1
      obtain ⟨mi, t, wv, xv, rfl, ht, hw, hx⟩ := row_at mp hm (hrows.mono xg) hv
      have mi2 := MI.all mp (i + 1) (by omega)
      obtain ⟨w0, _, zw, ze, _⟩ := mi.sizes mp (by omega)
      obtain ⟨_, _, _, ze2, _⟩ := mi2.sizes mp (by omega)
      have zw4 : Sz (stD (begun z e) d i).wt 4000 := zw.mono (by decide)
      have n1' := nS_pos (b := z.doubled) w0 mp.d0
      have none' := nS_one (b := z.doubled) w0 mp.d0
      have hdg := TimeV.mono xg hd
      show WB X _ _ _ _
      with_reducible refine' wb_cons ?_
      with_reducible refine' ws_to (fun σ' H' => σ' = [some (.ref rl), some ev, some dv, some bv, some (.ref t)] ∧ Ex G H') ?_ ?_
      · refine ws_if (wt_or2 (wt_cmp ?_ ?hm))
        case hm => rfl
        repeat walk_at "w"
        rename_i Ha xa
        refine o_neB ?_
        have hd1 : decide ((((nS z.doubled (stD (begun z e) d i).wt d - 1 : Nat) : Nat) : Int) > 0) = decide ((stD (begun z e) d i).wt < d) := by
          refine decide_eq_decide.mpr ⟨fun h => ?_, fun h => ?_⟩
          · refine Classical.byContradiction fun hn => ?_
            have := none'.mpr (Rat.not_lt.mp hn)
            omega
          · refine Classical.byContradiction fun hn => ?_
            have := none'.mp (by omega)
            exact absurd h (Rat.not_lt.mpr this)
        rw [hd1, bne_self_eq_false]
        repeat walk_at "w"
        rw [decide_eq_true (show ((nS z.doubled (stD (begun z e) d i).wt d : Nat) : Int) = ((nS z.doubled (stD (begun z e) d i).wt d - 1 : Nat) : Nat) + 1 by omega)]
        repeat walk_at "w"
        exact ⟨rfl, xa⟩
      rintro σ' G1 ⟨rfl, x1⟩
      have ht1 := x1.tup ht
      show WB X _ _ _ _
      with_reducible refine' wb_cons ?_
      with_reducible refine' ws_to (fun σ' H' => σ' = [some (.ref rl), some ev, some dv, some bv, some (.ref t)] ∧ Ex G1 H') ?_ ?_
      · refine ws_if (wt_not ?_)
        repeat walk_at "w"
        have tw := estA_tow (z := z) (e := e) (d := d) mp.ok i
        rw [← mi.si.est, ← mi2.si.est] at tw
        refine ⟨_, _, d, bv, xv, dv, rfl, TimeV.mono x1 hbv, TimeV.mono x1 hx, TimeV.mono x1 hdg, ze.mono (by decide), ze2.mono (by decide), mp.zd.mono (by decide), tw.1, tw.2, fun H' x => ?_⟩
        repeat walk_at "w"
        exact ⟨rfl, x⟩
      rintro σ' G2 ⟨rfl, x2⟩
      have ht2 := x2.tup ht1
      show WB X _ _ _ _
      repeat walk_at "w"
      exact ⟨xv, _, rfl, (xg.trans x1).trans x2, TimeV.mono (x1.trans x2) hx⟩
    · rintro σ' H' ⟨bv, c4, rfl, x, _⟩
      exact ⟨_, _, rfl, x⟩
  rintro σ' H1 ⟨c3, c4, rfl, x1⟩
  show WB X _ _ _ _
  repeat walk_at "w"
  exact k _ x1
end

/-! ### the law -/
def RowU (r : RB) (l : Addr) (H : Hp) : Prop := ∃ v1 v3 v4 v5 v6, H l = some (.lst (row9 r.bk v1 v3 v4 v5 v6)) ∧ RuU r v1 v3 v4 v5 v6 H
theorem RowU.mono {r : RB} {l : Addr} {H H' : Hp} (x : Ex H H') (h : RowU r l H) : RowU r l H' := by
  obtain ⟨v1, v3, v4, v5, v6, hl, hr⟩ := h
  exact ⟨v1, v3, v4, v5, v6, x.keep _ _ hl ns9b, hr.mono x⟩
theorem RuU.wd {r : RB} {v1 v3 v4 v5 v6 : V} {H : Hp} (h : RuU r v1 v3 v4 v5 v6 H) (w : Str) : RuU { r with word := w } v1 v3 v4 v5 v6 H := ⟨h.sh, h.fa, h.ma, h.fl, h.ro⟩
theorem RbOk.dnK {r : RB} (h : RbOk r) : RbD r := by
  obtain ⟨a1, a2, a3⟩ := h.sh
  obtain ⟨b1, b2, b3, b4⟩ := h.fa
  obtain ⟨c1, c2, c3, c4⟩ := h.ma
  have up : ∀ {i : Int}, i.natAbs < 1000 → i.natAbs < 2 ^ 200 := fun h => Nat.lt_of_lt_of_le (Nat.lt_of_lt_of_le h (show 1000 ≤ 2 ^ 10 by decide)) (Nat.pow_le_pow_right (by decide) (by decide))
  refine ⟨⟨by omega, up (by omega)⟩, ⟨by omega, up (by omega)⟩, ⟨by omega, up (by omega)⟩, fun c e => ?_, fun c e => ?_⟩
  · obtain ⟨d1, d2, d3, d4⟩ := h.fl c e
    exact ⟨by omega, up (by omega)⟩
  · obtain ⟨d1, d2, d3, d4, _⟩ := h.ro c e
    exact ⟨by omega, up (by omega)⟩
/-- what is drawn: the delay up / lw, the estimate lo / 400 of it -/
theorem mp_of {r : RB} {lw up lo : Int} (h : RbOk r) (h90 : ∀ c, r.ro = some c → r.fl = none → c.1 ≤ 90 ∧ c.2 ≤ 4) (w1 : r.word ≠ "last") (w2 : r.word ≠ "clean") (a0 : 1 ≤ lw) (a1 : lw ≤ 4) (b0 : 1 ≤ up) (b1 : up ≤ 60 * lw) (c0 : 1 ≤ lo) (c1 : lo ≤ 1201) : MP r.bk (Rat.divInt (up * lo) (lw * 400)) (Rat.divInt up lw) := by
  obtain ⟨s1, s2, s3⟩ := h.sh
  obtain ⟨f1, f2, f3, f4⟩ := h.fa
  obtain ⟨m0, m8, m1, m4⟩ := h.ma
  have p1 : 1 * 1 ≤ up * lo := Int.mul_le_mul b0 c0 (by decide) (by omega)
  have p2 : up * lo ≤ 240 * 1201 := Int.mul_le_mul (by omega) c1 (by omega) (by decide)
  refine ⟨h.bk, w1, w2, (dv_pos (by omega)).mpr (by omega), (dv_pos (by omega)).mpr (by omega), Sz.div (by omega) (by omega) (by omega), Sz.div (by omega) (by omega) (by omega), (show Sz (pq r.sh) 9 from sz_pq (by omega) (by omega) (by omega)), (show Sz (pq r.fa) 9 from sz_pq (by omega) (by omega) (by omega)), (show Sz (pq r.ma) 9 from sz_pq (by omega) (by omega) (by omega)), fun f e => ?_, fun f e => ?_, ?_, fun q e => ?_⟩
  · obtain ⟨c, ec, rfl⟩ := Option.map_eq_some_iff.mp (show r.fl.map pq = some f from e)
    obtain ⟨l1, l40, k1, k4⟩ := h.fl c ec
    exact sz_pq (by omega) (by omega) (by omega)
  · obtain ⟨c, ec, rfl⟩ := Option.map_eq_some_iff.mp (show r.ro.map pq = some f from e)
    obtain ⟨l1, l40, k1, k4, _⟩ := h.ro c ec
    exact sz_pq (by omega) (by omega) (by omega)
  · have e4 : (400 : Rat) * Rat.divInt (up * lo) (lw * 400) = Rat.divInt (up * lo) lw := by
      rw [show (400 : Rat) = Rat.divInt 400 1 from rfl, Rat.divInt_mul_divInt, Int.one_mul, Int.mul_comm 400 (up * lo)]
      exact Rat.divInt_mul_right (by decide)
    rw [e4, dv_le (by omega) (by omega)]
    have q1 := Int.mul_le_mul_of_nonneg_left c0 (show 0 ≤ up by omega)
    have q2 := Int.mul_le_mul_of_nonneg_right q1 (show 0 ≤ lw by omega)
    rw [Int.mul_one] at q2
    exact q2
  · obtain ⟨c, ec, rfl⟩ := Option.map_eq_some_iff.mp (show r.ro.map pq = some q from e)
    obtain ⟨l1, l40, k1, k16, kf⟩ := h.ro c ec
    have hc : c.2 ≤ 4 * c.1 := by
      cases ef : r.fl with
      | none =>
        have := h90 c ec ef
        omega
      | some g =>
        obtain ⟨g1, g40, g2, g4⟩ := h.fl g ef
        have q := kf g ef
        have q1 : 1 * c.2 ≤ g.1 * c.2 := Int.mul_le_mul_of_nonneg_right g1 (by omega)
        have q2 : c.1 * g.2 ≤ c.1 * 4 := Int.mul_le_mul_of_nonneg_left g4 (by omega)
        omega
    have e4 : (400 : Rat) * pq c = Rat.divInt (400 * c.1) c.2 := by
      unfold pq
      rw [show (400 : Rat) = Rat.divInt 400 1 from rfl, Rat.divInt_mul_divInt, Int.one_mul]
    rw [e4, dv_le (by omega) (by omega)]
    have q1 : up * c.2 ≤ (60 * lw) * c.2 := Int.mul_le_mul_of_nonneg_right b1 (by omega)
    have q2 : lw * c.2 ≤ lw * (4 * c.1) := Int.mul_le_mul_of_nonneg_left hc (by omega)
    have e1 : (60 * lw) * c.2 = 60 * (lw * c.2) := Int.mul_assoc ..
    have e2 : lw * (4 * c.1) = 4 * (lw * c.1) := by grind
    have e3 : 400 * c.1 * lw = 400 * (lw * c.1) := by grind
    have q3 : 0 ≤ lw * c.1 := Int.mul_nonneg (by omega) (by omega)
    omega
section
variable {P : Program} {w : World} {K : PySem.W.Frag} {mg : Str → Option Value} {base : Heap}
def spLaw (K : PySem.W.Frag) : Sp := fun vs H Q _ => ∃ a ns, vs = [.ref a] ∧ SqL K H a (List.map V.int ns) ∧ ∀ H', Q (.bl true) H'
theorem ok_law (hP : P = PySem.Challenge.pw_resendtimers_k24_whole_greater_estimates) (T : Tm K mg) {fd : FuncData} (F : FunD K "law" "law" (defArgs s_law) (defBody s_law) (defScope s_law) [] [] (ga K "law") fd) : FnOk P w K mg base CX0 22 (ga K "law") fd ["_law_script"] (spLaw K) := by
  refine def_okN F sc_law (fun vs H Q E h => by obtain ⟨a, ns, rfl, _⟩ := h; rfl) ?_
  intro X eP ew eK em eb eN es hf nd H vs Q E B h
  have hP' : X.prog = PySem.Challenge.pw_resendtimers_k24_whole_greater_estimates := eP.trans hP
  subst eP ew eK em eb
  have n0 : Sl X 0 "_law_script" := slot_of eN es hf nd rfl (by first | exact Or.inl rfl | exact Or.inr rfl) (by decide) (by decide)
  have n1 : Sl X 1 "_law_source" := slot_of eN es hf nd rfl (by first | exact Or.inl rfl | exact Or.inr rfl) (by decide) (by decide)
  have n2 : Sl X 2 "_law_rules_here" := slot_of eN es hf nd rfl (by first | exact Or.inl rfl | exact Or.inr rfl) (by decide) (by decide)
  have n3 : Sl X 3 "_law_book_here" := slot_of eN es hf nd rfl (by first | exact Or.inl rfl | exact Or.inr rfl) (by decide) (by decide)
  have n4 : Sl X 4 "_law_lower" := slot_of eN es hf nd rfl (by first | exact Or.inl rfl | exact Or.inr rfl) (by decide) (by decide)
  have n5 : Sl X 5 "_law_upper" := slot_of eN es hf nd rfl (by first | exact Or.inl rfl | exact Or.inr rfl) (by decide) (by decide)
  have n6 : Sl X 6 "_law_delay" := slot_of eN es hf nd rfl (by first | exact Or.inl rfl | exact Or.inr rfl) (by decide) (by decide)
  have n7 : Sl X 7 "_law_low" := slot_of eN es hf nd rfl (by first | exact Or.inl rfl | exact Or.inr rfl) (by decide) (by decide)
  have n8 : Sl X 8 "_law_high" := slot_of eN es hf nd rfl (by first | exact Or.inl rfl | exact Or.inr rfl) (by decide) (by decide)
  have n9 : Sl X 9 "_law_one_here" := slot_of eN es hf nd rfl (by first | exact Or.inl rfl | exact Or.inr rfl) (by decide) (by decide)
  have n10 : Sl X 10 "_law_other" := slot_of eN es hf nd rfl (by first | exact Or.inl rfl | exact Or.inr rfl) (by decide) (by decide)
  have n11 : Sl X 11 "_law_many" := slot_of eN es hf nd rfl (by first | exact Or.inl rfl | exact Or.inr rfl) (by decide) (by decide)
  have n12 : Sl X 12 "_law_few" := slot_of eN es hf nd rfl (by first | exact Or.inl rfl | exact Or.inr rfl) (by decide) (by decide)
  have n13 : Sl X 13 "_law_more" := slot_of eN es hf nd rfl (by first | exact Or.inl rfl | exact Or.inr rfl) (by decide) (by decide)
  have n14 : Sl X 14 "_law_at" := slot_of eN es hf nd rfl (by first | exact Or.inl rfl | exact Or.inr rfl) (by decide) (by decide)
  have g__law_begin : Gn X "_law_begin" := gn_of es rfl (by decide)
  have F__law_begin := f__law_begin (P := X.prog) (w := X.w) (base := X.base) T
  have g__law_rules : Gn X "_law_rules" := gn_of es rfl (by decide)
  have F__law_rules := f__law_rules (P := X.prog) (w := X.w) (base := X.base) T
  have g__law_draw : Gn X "_law_draw" := gn_of es rfl (by decide)
  have F__law_draw := f__law_draw (P := X.prog) (w := X.w) (base := X.base) T
  have g__law_book : Gn X "_law_book" := gn_of es rfl (by decide)
  have F__law_book := f__law_book (P := X.prog) (w := X.w) (base := X.base) T
  have g_Time : Gn X "Time" := gn_of es rfl (by decide)
  have m_Time := T.g_Time
  have z_list : Bn X "list" := bn_of es rfl T.z_list
  have g_in_steady : Gn X "in_steady" := gn_of es rfl (by decide)
  have F_in_steady := f_in_steady (P := X.prog) (w := X.w) (base := X.base) T
  have g_Sender : Gn X "Sender" := gn_of es rfl (by decide)
  have m_Sender := T.g_Sender
  have z_len : Bn X "len" := bn_of es rfl T.z_len
  have g__law_one : Gn X "_law_one" := gn_of es rfl (by decide)
  have F__law_one := f__law_one (P := X.prog) (w := X.w) (base := X.base) T
  have z_range : Bn X "range" := bn_of es rfl T.z_range
  obtain ⟨a, ns, rfl, hs, k⟩ := h
  show WB X [_, _, _, _, _, _, _, _, _, _, _, _, _, _, _, _, _] _ [some (.ref a), none, none, none, none, none, none, none, none, none, none, none, none, none, none] H
  with_reducible refine' wb_cons ?_
  with_reducible refine' ws_to (fun σ' H' => ∃ p, σ' = [some (.ref a), some (.ref p), none, none, none, none, none, none, none, none, none, none, none, none, none] ∧ Ex H H' ∧ Sou H' p) ?_ ?_
  · repeat walk_at "w"
    exact ⟨a, ns, rfl, hs, fun p H1 x1 so => ⟨p, rfl, x1, so⟩⟩
  rintro σ' H1 ⟨p, rfl, x1, so1⟩
  show WB X _ _ _ _
  with_reducible refine' wb_cons ?_
  with_reducible refine' ws_to (fun σ' H' => ∃ r l, σ' = [some (.ref a), some (.ref p), some (.ref l), none, none, none, none, none, none, none, none, none, none, none, none] ∧ Ex H1 H' ∧ RowU r l H' ∧ RbOk r ∧ ∀ c, r.ro = some c → r.fl = none → c.1 ≤ 90 ∧ c.2 ≤ 4) ?_ ?_
  · repeat walk_at "w"
    exact ⟨p, rfl, so1, fun r l v1 v3 v4 v5 v6 H3 x3 nl hl hr ok h90 => ⟨r, l, rfl, x3, ⟨v1, v3, v4, v5, v6, hl, hr⟩, ok, h90⟩⟩
  rintro σ' H2 ⟨r0, l0, rfl, x2, row0, ok0, h900⟩
  have so2 := so1.mono x2
  show WB X _ _ _ _
  with_reducible refine' wb_cons ?_
  with_reducible refine' ws_to (fun σ' H' => ∃ r l, σ' = [some (.ref a), some (.ref p), some (.ref l), none, none, none, none, none, none, none, none, none, none, none, none] ∧ Ex H2 H' ∧ RowU r l H' ∧ RbOk r ∧ r.word ≠ "last" ∧ r.word ≠ "clean" ∧ ∀ c, r.ro = some c → r.fl = none → c.1 ≤ 90 ∧ c.2 ≤ 4) ?_ ?_
  · repeat walk_at "w"
    rename_i lw Ha na xa hlw d Hb xb d0 d1
    have wd : ∀ w : Str, w ∈ (["first", "last", "marked", "clean"] : List Str) → RbOk { r0 with word := w } := fun w hw => ⟨hw, ok0.sh, ok0.lat, ok0.fa, ok0.ma, ok0.fl, ok0.ro, ok0.kp⟩
    refine at_all (xb.keep _ _ hlw ns_str) d0 d1 fun y hy => ?_
    have ey : ∃ w : Str, y = .str w ∧ w ∈ (["first", "last", "marked", "clean"] : List Str) ∧ w ≠ "last" ∧ w ≠ "clean" := by
      simp only [List.mem_cons, List.not_mem_nil, or_false] at hy
      rcases hy with rfl | rfl <;> exact ⟨_, rfl, by decide +kernel, by decide +kernel, by decide +kernel⟩
    obtain ⟨w, rfl, hw, nw, nw2⟩ := ey
    refine lst_i (show ([V.str w] : List V).length ≤ sizeLine from lenk 1 rfl) fun l1 Hc n1 xc hl1 => ?_
    repeat walk_at "w"
    refine we_cutL ?_
    repeat walk_at "w"
    obtain ⟨v1, v3, v4, v5, v6, hl0, hr0⟩ := row0.mono ((xa.trans xb).trans xc)
    refine ⟨l0, _, 1, rfl, rfl, .of hl0, fun l2 n2 => ?_⟩
    have xd := Ex.new (o := .lst (cutV (row9 r0.bk v1 v3 v4 v5 v6) (some 1) none)) n2
    refine o_catL (xd.keep _ _ hl1 ns_str) upd_same (by rw [cut1]; exact Nat.le_trans (show 1 + 8 ≤ 1000 by decide) (by decide)) fun q nq => ?_
    have xe := Ex.new (o := .lst ([V.str w] ++ cutV (row9 r0.bk v1 v3 v4 v5 v6) (some 1) none)) nq
    refine ⟨{ r0 with word := w }, q, rfl, (((xa.trans xb).trans xc).trans xd).trans xe, ⟨v1, v3, v4, v5, v6, ?_, (hr0.mono (xd.trans xe)).wd w⟩, wd w hw, nw, nw2, h900⟩
    rw [upd_same, cut1]
    rfl
  rintro σ' H3 ⟨r, l, rfl, x3, row, ok, w1, w2, h90⟩
  have so3 := so2.mono x3
  show WB X _ _ _ _
  with_reducible refine' wb_cons ?_
  with_reducible refine' ws_to (fun σ' H' => ∃ bv, σ' = [some (.ref a), some (.ref p), some (.ref l), some bv, none, none, none, none, none, none, none, none, none, none, none] ∧ Ex H3 H' ∧ BookV X.K r.bk bv H') ?_ ?_
  · repeat walk_at "w"
    obtain ⟨v1, v3, v4, v5, v6, hl, hr⟩ := row
    exact ⟨r, l, v1, v3, v4, v5, v6, rfl, hl, hr, ok.dnK, ok.bk, fun b H7 nb x7 hb => ⟨_, rfl, x7, hb⟩⟩
  rintro σ' H4 ⟨bv, rfl, x4, hb⟩
  have so4 := so3.mono x4
  show WB X _ _ _ _
  with_reducible refine' wb_cons ?_
  with_reducible refine' ws_to (fun σ' H' => ∃ lw : Int, σ' = [some (.ref a), some (.ref p), some (.ref l), some bv, some (.int lw), none, none, none, none, none, none, none, none, none, none] ∧ Ex H4 H' ∧ 1 ≤ lw ∧ lw ≤ 4) ?_ ?_
  · repeat walk_at "w"
    rename_i d Ha xa d0 d1
    exact ⟨1 + d, rfl, xa, by omega, by omega⟩
  rintro σ' H5 ⟨lw, rfl, x5, a0, a1⟩
  have so5 := so4.mono x5
  show WB X _ _ _ _
  with_reducible refine' wb_cons ?_
  with_reducible refine' ws_to (fun σ' H' => ∃ up : Int, σ' = [some (.ref a), some (.ref p), some (.ref l), some bv, some (.int lw), some (.int up), none, none, none, none, none, none, none, none, none] ∧ Ex H5 H' ∧ 1 ≤ up ∧ up ≤ 60 * lw) ?_ ?_
  · repeat walk_at "w"
    refine o_mul (wide_mul (a := 10) (b := 10) (by decide) (by omega) (by decide) (by decide) (by decide)) ?_
    refine ⟨p, 60 * lw, rfl, so5, by omega, Nat.lt_of_lt_of_le (show (60 * lw).natAbs < 2 ^ 10 by omega) (Nat.pow_le_pow_right (by decide) (by decide)), fun d Ha xa d0 d1 => ?_⟩
    repeat walk_at "w"
    exact ⟨1 + d, rfl, xa, by omega, by omega⟩
  rintro σ' H6 ⟨up, rfl, x6, b0, b1⟩
  have so6 := so5.mono x6
  show WB X _ _ _ _
  with_reducible refine' wb_cons ?_
  with_reducible refine' ws_to (fun σ' H' => ∃ dv, σ' = [some (.ref a), some (.ref p), some (.ref l), some bv, some (.int lw), some (.int up), some dv, none, none, none, none, none, none, none, none] ∧ Ex H6 H' ∧ TimeV (CT X.K) (Rat.divInt up lw) dv H') ?_ ?_
  · repeat walk_at "w"
    refine ⟨up, lw, rfl, rfl, by omega, g1_sz (by omega) (Nat.lt_of_lt_of_le (show lw.natAbs < 2 ^ 3 by omega) (Nat.pow_le_pow_right (by decide) (by decide))), fun tv Hc xc ht => ?_⟩
    exact ⟨tv, rfl, xc, ht⟩
  rintro σ' H7 ⟨dv, rfl, x7, hdv⟩
  have so7 := so6.mono x7
  show WB X _ _ _ _
  with_reducible refine' wb_cons ?_
  with_reducible refine' ws_to (fun σ' H' => ∃ lo : Int, σ' = [some (.ref a), some (.ref p), some (.ref l), some bv, some (.int lw), some (.int up), some dv, some (.int lo), none, none, none, none, none, none, none] ∧ Ex H7 H' ∧ 1 ≤ lo ∧ lo ≤ 1200) ?_ ?_
  · repeat walk_at "w"
    rename_i d Ha xa d0 d1
    exact ⟨1 + d, rfl, xa, by omega, by omega⟩
  rintro σ' H8 ⟨lo, rfl, x8, c0, c1⟩
  have so8 := so7.mono x8
  show WB X _ _ _ _
  with_reducible refine' wb_cons ?_
  with_reducible refine' ws_to (fun σ' H' => ∃ hi : Int, σ' = [some (.ref a), some (.ref p), some (.ref l), some bv, some (.int lw), some (.int up), some dv, some (.int lo), some (.int hi), none, none, none, none, none, none] ∧ Ex H8 H' ∧ lo ≤ hi ∧ hi ≤ 1201) ?_ ?_
  · repeat walk_at "w"
    refine ⟨p, 1201 - lo, rfl, so8, by omega, Nat.lt_of_lt_of_le (show (1201 - lo).natAbs < 2 ^ 11 by omega) (Nat.pow_le_pow_right (by decide) (by decide)), fun d Ha xa d0 d1 => ?_⟩
    repeat walk_at "w"
    exact ⟨lo + d, rfl, xa, by omega, by omega⟩
  rintro σ' H9 ⟨hi, rfl, x9, c2, c3⟩
  have so9 := so8.mono x9
  have mp : MP r.bk (Rat.divInt (up * lo) (lw * 400)) (Rat.divInt up lw) := mp_of ok h90 w1 w2 a0 a1 b0 b1 c0 (by omega)
  have mp2 : MP r.bk (Rat.divInt (up * hi) (lw * 400)) (Rat.divInt up lw) := mp_of ok h90 w1 w2 a0 a1 b0 b1 (by omega) c3
  have ee : Rat.divInt (up * lo) (lw * 400) ≤ Rat.divInt (up * hi) (lw * 400) := by
    rw [dv_le (by omega) (by omega)]
    exact Int.mul_le_mul_of_nonneg_right (Int.mul_le_mul_of_nonneg_left c2 (by omega)) (by omega)
  have p2 : up * lo ≤ 240 * 1201 := Int.mul_le_mul (by omega) (by omega) (by omega) (by decide)
  have p3 : up * hi ≤ 240 * 1201 := Int.mul_le_mul (by omega) (by omega) (by omega) (by decide)
  show WB X _ _ _ _
  with_reducible refine' wb_cons ?_
  with_reducible refine' ws_to (fun σ' H' => ∃ ev, σ' = [some (.ref a), some (.ref p), some (.ref l), some bv, some (.int lw), some (.int up), some dv, some (.int lo), some (.int hi), some ev, none, none, none, none, none] ∧ Ex H9 H' ∧ TimeV (CT X.K) (Rat.divInt (up * lo) (lw * 400)) ev H') ?_ ?_
  · repeat walk_at "w"
    refine o_mul (wide_mul (a := 12) (b := 12) (by omega) (by omega) (by decide) (by decide) (by decide)) ?_
    repeat walk_at "w"
    refine o_mul (wide_mul (a := 12) (b := 12) (by omega) (by decide) (by decide) (by decide) (by decide)) ?_
    refine ⟨up * lo, lw * 400, rfl, rfl, by omega, g1_sz (by omega) (Nat.lt_of_lt_of_le (show (lw * 400).natAbs < 2 ^ 12 by omega) (Nat.pow_le_pow_right (by decide) (by decide))), fun tv Hc xc ht => ?_⟩
    exact ⟨tv, rfl, xc, ht⟩
  rintro σ' Ha ⟨ev, rfl, xa, hev⟩
  have soa := so9.mono xa
  show WB X _ _ _ _
  with_reducible refine' wb_cons ?_
  with_reducible refine' ws_to (fun σ' H' => ∃ ov, σ' = [some (.ref a), some (.ref p), some (.ref l), some bv, some (.int lw), some (.int up), some dv, some (.int lo), some (.int hi), some ev, some ov, none, none, none, none] ∧ Ex Ha H' ∧ TimeV (CT X.K) (Rat.divInt (up * hi) (lw * 400)) ov H') ?_ ?_
  · repeat walk_at "w"
    refine o_mul (wide_mul (a := 12) (b := 12) (by omega) (by omega) (by decide) (by decide) (by decide)) ?_
    repeat walk_at "w"
    refine o_mul (wide_mul (a := 12) (b := 12) (by omega) (by decide) (by decide) (by decide) (by decide)) ?_
    refine ⟨up * hi, lw * 400, rfl, rfl, by omega, g1_sz (by omega) (Nat.lt_of_lt_of_le (show (lw * 400).natAbs < 2 ^ 12 by omega) (Nat.pow_le_pow_right (by decide) (by decide))), fun tv Hc xc ht => ?_⟩
    exact ⟨tv, rfl, xc, ht⟩
  rintro σ' Hb ⟨ov, rfl, xb, hov⟩
  have sob := soa.mono xb
  show WB X _ _ _ _
  with_reducible refine' wb_cons ?_
  with_reducible refine' ws_to (fun σ' H' => ∃ m : Nat, σ' = [some (.ref a), some (.ref p), some (.ref l), some bv, some (.int lw), some (.int up), some dv, some (.int lo), some (.int hi), some ev, some ov, some (.int (m : Nat)), none, none, none] ∧ Ex Hb H' ∧ 1 ≤ m ∧ m ≤ 12) ?_ ?_
  · repeat walk_at "w"
    rename_i d Ha xa d0 d1
    exact ⟨(1 + d).toNat, by rw [Int.toNat_of_nonneg (by omega)]; rfl, xa, by omega, by omega⟩
  rintro σ' Hc ⟨m, rfl, xc, m1, m12⟩
  obtain ⟨z, ez⟩ : ∃ z, r.bk = z := ⟨_, rfl⟩
  obtain ⟨e, ee1⟩ : ∃ e, Rat.divInt (up * lo) (lw * 400) = e := ⟨_, rfl⟩
  obtain ⟨e2, ee2⟩ : ∃ e, Rat.divInt (up * hi) (lw * 400) = e := ⟨_, rfl⟩
  obtain ⟨d, ed⟩ : ∃ d, Rat.divInt up lw = d := ⟨_, rfl⟩
  rw [ez, ee1, ed] at mp
  rw [ez, ee2, ed] at mp2
  rw [ez] at hb
  rw [ee1] at hev
  rw [ee2] at hov
  rw [ed] at hdv
  rw [ee1, ee2] at ee
  clear row h90 w1 w2 ok ok0 row0 h900
  have hbc := hb.mono (((((((x5.trans x6).trans x7).trans x8).trans x9).trans xa).trans xb).trans xc)
  have hdvc := TimeV.mono ((((x8.trans x9).trans xa).trans xb).trans xc) hdv
  have hevc := TimeV.mono (xb.trans xc) hev
  have hovc := TimeV.mono xc hov
  show WB X _ _ _ _
  with_reducible refine' wb_cons ?_
  with_reducible refine' ws_to (fun σ' H' => ∃ rl out, σ' = [some (.ref a), some (.ref p), some (.ref l), some bv, some (.int lw), some (.int up), some dv, some (.int lo), some (.int hi), some ev, some ov, some (.int (m : Nat)), some (.ref rl), none, none] ∧ Ex Hc H' ∧ H' rl = some (.lst out) ∧ RowsS X.K (begun z e) d (nD (begun z e) d) m out H') ?_ ?_
  · refine ws_set n12 (we_listG B z_list g_in_steady (f_in_steady T) (by decide) ?_) (by rfl)
    refine wa_cons ?_ (by rfl)
    refine we_make B g_Sender (k_Sender T) (by decide) ?_
    repeat walk_at "w"
    refine made_sp hbc mp.ok (.inl hevc) mp.e0 (mp.ze.mono (by decide)) fun sd Gb nsd x hsd => ?_
    repeat walk_at "w"
    exact ⟨begun z e, sd, d, dv, m, Rt.nD (begun z e) d, rfl, hsd, .inl (TimeV.mono x hdvc), MI.std mp m12, fun out H' x' hr rl nl => ⟨rl, out, rfl, (x.trans x').trans (Ex.new nl), upd_same, hr.mono (Ex.new nl)⟩⟩
  rintro σ' Hd ⟨rl, out, rfl, xd, hrl, hrows⟩
  have hbd := hbc.mono xd
  have hdvd := TimeV.mono xd hdvc
  have hevd := TimeV.mono xd hevc
  have hovd := TimeV.mono xd hovc
  show WB X _ _ _ _
  with_reducible refine' wb_cons ?_
  with_reducible refine' ws_to (fun σ' H' => ∃ ml out2, σ' = [some (.ref a), some (.ref p), some (.ref l), some bv, some (.int lw), some (.int up), some dv, some (.int lo), some (.int hi), some ev, some ov, some (.int (m : Nat)), some (.ref rl), some (.ref ml), none] ∧ Ex Hd H' ∧ H' ml = some (.lst out2) ∧ RowsS X.K (begun z e2) d (nD (begun z e2) d) m out2 H') ?_ ?_
  · refine ws_set n13 (we_listG B z_list g_in_steady (f_in_steady T) (by decide) ?_) (by rfl)
    refine wa_cons ?_ (by rfl)
    refine we_make B g_Sender (k_Sender T) (by decide) ?_
    repeat walk_at "w"
    refine made_sp hbd mp2.ok (.inl hovd) mp2.e0 (mp2.ze.mono (by decide)) fun sd Gb nsd x hsd => ?_
    repeat walk_at "w"
    exact ⟨begun z e2, sd, d, dv, m, Rt.nD (begun z e2) d, rfl, hsd, .inl (TimeV.mono x hdvd), MI.std mp2 m12, fun out H' x' hr rl nl => ⟨rl, out, rfl, (x.trans x').trans (Ex.new nl), upd_same, hr.mono (Ex.new nl)⟩⟩
  rintro σ' He ⟨ml, out2, rfl, xe, hml, hrows2⟩
  have hrle := xe.keep _ _ hrl (rows_ns hrows)
  have hrowse := hrows.mono xe
  have hdve := TimeV.mono xe hdvd
  have heve := TimeV.mono xe hevd
  have hove := TimeV.mono xe hovd
  have lo1 : out.length = m := hrows.1
  have lo2 : out2.length = m := hrows2.1
  have ns1 := rows_ns hrowse
  have ns2 := rows_ns hrows2
  show WB X _ _ _ _
  with_reducible refine' wb_cons ?_
  with_reducible refine' ws_to (fun σ' H' => σ' = [some (.ref a), some (.ref p), some (.ref l), some bv, some (.int lw), some (.int up), some dv, some (.int lo), some (.int hi), some ev, some ov, some (.int (m : Nat)), some (.ref rl), some (.ref ml), none] ∧ Ex He H') ?_ ?_
  · refine ws_if (wt_or4 (wt_cmp ?_ ?hm))
    case hm => rfl
    repeat walk_at "w"
    rw [decide_eq_true (show ((out.length : Nat) : Int) = (m : Nat) by rw [lo1])]
    repeat walk_at "w"
    rw [decide_eq_true (show ((out2.length : Nat) : Int) = (m : Nat) by rw [lo2])]
    repeat walk_at "w"
    refine ⟨z, e, d, m, rl, out, ev, dv, rfl, mp, m12, hrle, hrowse, heve, hdve, fun H' x => ?_⟩
    repeat walk_at "w"
    refine ⟨z, e2, d, m, ml, out2, ov, dv, rfl, mp2, m12, x.keep _ _ hml ns2, hrows2.mono x, TimeV.mono x hove, TimeV.mono x hdve, fun H2 x2 => ?_⟩
    repeat walk_at "w"
    exact ⟨rfl, x.trans x2⟩
  rintro σ' Hf ⟨rfl, xf⟩
  show WB X _ _ _ _
  with_reducible refine' wb_cons ?_
  with_reducible refine' ws_to (fun _ _ => True) ?_ ?_
  · refine ws_for_rangeE B n14 z_range ?_
    repeat walk_at "w"
    refine ⟨m, rfl, by omega, fun i σ' H' => ∃ c14, σ' = [some (.ref a), some (.ref p), some (.ref l), some bv, some (.int lw), some (.int up), some dv, some (.int lo), some (.int hi), some ev, some ov, some (.int (m : Nat)), some (.ref rl), some (.ref ml), c14] ∧ Ex He H', ⟨_, rfl, xf⟩, ?_, ?_⟩
    · rintro i σ' G hi ⟨c14, rfl, xg⟩
      obtain ⟨v, hv⟩ : ∃ v, out[i]? = some v := ⟨out[i]'(by omega), List.getElem?_eq_getElem (by omega)⟩
      obtain ⟨v2, hv2⟩ : ∃ v, out2[i]? = some v := ⟨out2[i]'(by omega), List.getElem?_eq_getElem (by omega)⟩
      obtain ⟨mi, t, wv, xv, rfl, ht, hw, hx⟩ := row_at mp m12 (hrowse.mono xg) hv
      obtain ⟨mi2, t2, wv2, xv2, rfl, ht2, hw2, hx2⟩ := row_at mp2 m12 (hrows2.mono xg) hv2
      have mj := MI.all mp (i + 1) (by omega)
      have mj2 := MI.all mp2 (i + 1) (by omega)
      obtain ⟨w0, _, zw, _, _⟩ := mi.sizes mp (by omega)
      obtain ⟨_, _, zw2, _, _⟩ := mi2.sizes mp2 (by omega)
      have ze : Sz (stD (begun z e) d (i + 1)).est 4000 := (mj.sizes mp (by omega)).2.2.2.1.mono (by decide)
      have ze2 : Sz (stD (begun z e2) d (i + 1)).est 4000 := (mj2.sizes mp2 (by omega)).2.2.2.1.mono (by decide)
      have zw4 : Sz (stD (begun z e) d i).wt 4000 := zw.mono (by decide)
      have zw24 : Sz (stD (begun z e2) d i).wt 4000 := zw2.mono (by decide)
      have gw : (stD (begun z e) d i).wt ≤ (stD (begun z e2) d i).wt := by rw [mi.wt, mi2.wt]; exact madeW_up mp.ok (estA_mono mp.ok ee i)
      have ge : (stD (begun z e) d (i + 1)).est ≤ (stD (begun z e2) d (i + 1)).est := by rw [mj.si.est, mj2.si.est]; exact estA_mono mp.ok ee (i + 1)
      have gn := nS_anti (b := z.doubled) w0 mp.d0 gw
      have hrlg := xg.keep _ _ hrle ns1
      have hmlg := xg.keep _ _ hml ns2
      show WB X _ _ _ _
      refine wb_one (ws_if (wt_or3 (wt_cmp ?_ ?hm)))
      case hm => rfl
      repeat walk_at "w"
      refine at_l hrlg (atI_nat hv) ?_
      repeat walk_at "w"
      refine at_l hmlg (atI_nat hv2) ?_
      repeat walk_at "w"
      rename_i Gc xc1
      rw [decide_eq_false (Rat.not_lt.mpr gw)]
      have hrl2 := xc1.keep _ _ hrlg ns1
      have hml2 := xc1.keep _ _ hmlg ns2
      have ht' := xc1.tup ht
      have ht2' := xc1.tup ht2
      have hx' := TimeV.mono xc1 hx
      have hx2' := TimeV.mono xc1 hx2
      repeat walk_at "w"
      refine at_l hrl2 (atI_nat hv) ?_
      repeat walk_at "w"
      refine at_l hml2 (atI_nat hv2) ?_
      repeat walk_at "w"
      rename_i Gd xd1
      rw [decide_eq_false (Rat.not_lt.mpr ge)]
      have hrl3 := xd1.keep _ _ hrl2 ns1
      have hml3 := xd1.keep _ _ hml2 ns2
      have ht3 := xd1.tup ht'
      have ht23 := xd1.tup ht2'
      repeat walk_at "w"
      refine at_l hrl3 (atI_nat hv) ?_
      repeat walk_at "w"
      refine at_l hml3 (atI_nat hv2) ?_
      repeat walk_at "w"
      rw [decide_eq_false (show ¬ (((nS z.doubled (stD (begun z e) d i).wt d - 1 : Nat) : Nat) : Int) < ((nS z.doubled (stD (begun z e2) d i).wt d - 1 : Nat) : Nat) by omega)]
      repeat walk_at "w"
      exact ⟨_, rfl, (xg.trans xc1).trans xd1⟩
    · exact fun _ _ _ => trivial
  intro σ' H' _
  show WB X _ _ _ _
  repeat walk_at "w"
  exact k _
end

end Rt
open PySem PySem.W PySem.Calls PyProof.Rows
theorem PySem.Challenge.cw_resendtimers_k24_whole_greater_estimates_holds : PySem.Challenge.rw_resendtimers_k24_whole_greater_estimates.Holds := by
  w_on; o_law
  refine HandSHeadRun.head_any (r := OpenLaw.row PySem.Challenge.rw_resendtimers_k24_whole_greater_estimates) (q := view (OpenLaw.row PySem.Challenge.rw_resendtimers_k24_whole_greater_estimates).prog [59]) (H := Rs.hookX 6 Rt.ψ Rt.fn) (ob := Rs.obX 6 Rt.ψ Rt.fn) (M := 20000) (loose := Rt.loose)
    (d := HandSHeadRun.topDef (OpenLaw.row PySem.Challenge.rw_resendtimers_k24_whole_greater_estimates).prog 59) (kwd := []) (Rs.obX_eq 6 Rt.ψ Rt.fn)
    (by kernel_rfl) (fun s => by kernel_rfl) Rt.run (by kernel_rfl) (by kernel_rfl) (by kernel_rfl) (by rfl) (by first | assumption | decide +kernel) (by decide +kernel) ⟨rfl, rfl, rfl, rfl, rfl, by decide +kernel⟩ ?hw ?hc
  case hw => w_witness2
  case hc =>
    refine L2.walk_ofE (l := PySem.Challenge.rw_resendtimers_k24_whole_greater_estimates) (n := 63) (k := 22) (x := "_law_script") (CX := L2.CX0) rfl (by decide) (by kernel_rfl) ⟨rfl, by decide, by decide⟩ ?F (fun _ _ _ _ z => z)
    intro w mg fa h Y G hmg0
    obtain ⟨K, KX, c⟩ := Y
    have hmg : mg ("law" : PySem.Str) = some (.ref fa) := by
      have e : (HandSHeadRun.topDef (OpenLaw.row PySem.Challenge.rw_resendtimers_k24_whole_greater_estimates).prog 59).name = ("law" : PySem.Str) := by kernel_rfl
      rw [← e]
      exact hmg0
    have T := Rt.tm_of KX G c
    obtain ⟨fd, F⟩ := T.d_law
    have e := hmg.symm.trans T.g_law
    cases e
    have b := L2.FunD.bindsA (ps := ["_law_script"]) F fun _ _ _ _ _ _ us hl => match us, hl with | [_], _ => rfl
    exact ⟨K, fd, Rt.spLaw K, KX, fun s v => b s [v] rfl, fun H a ns hl _ hS => ⟨a, ns, rfl, hS, fun _ => rfl⟩, fun base _ _ => Rt.ok_law rfl T F⟩
